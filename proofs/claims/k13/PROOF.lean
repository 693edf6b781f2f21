import PyProof.Rows.All
import Wide.All
import OpenK.AllK
import Wide.FinOn
import HandS.ForMost
import HandS.IsInst
import HandS.Flow
import HandS.Style
import HandS.Wide
import HandS.Walk
import HandS.ClsMeth
import HandS.Property
import HandS.MakeKwOnly
import HandS.StrMore
import HandS.DictComp
import HandS.SetKeys
import HandS.TupAny
import HandS.Steps
import HandS.Defaults
import KE.GoesNew
import KE.GoesEnum
import KE.GoesMore
import HandS.RaiseMore
import KE.KRevSl
import PyProof.ReprRoads
import PyProof.ReprText
import HandS.HeadEnd
import KE.KxField
import HandS.FStr
import HandS.IntHex
import HandS.SetBool
import HandS.HeadHook1
import HandS.HeadHook2
import PyProof.Cells
import PyProof.ToksMono
import HandS.Replace
import HandS.ReplaceLit
import PyProof.StrOps2
import KE.KExcSuper
import HandS.Exc
import HandS.ExcInit
import HandS.ExcField
import HandS.ExcOwn
import HandS.WordsExc
import HandS.TryOnly
import HandS.Iter
import PyProof.EnumMake
import PyProof.InstEq
import HandS.HeadNt
import KE.KExcInit
import KE.KExcIs
import PyProof.ExcBaseAll.LookupError
import PyProof.ExcBaseAll.IndexError
import PyProof.ExcBaseAll.RuntimeError
import PyProof.ExcBaseAll.OverflowError
import PyProof.ExcBaseAll.TypeError
import PyProof.ExcBaseAll.ValueError
import KE.KCallOwn
import HandS.Star
import HandS.NoneIn
import HandS.Conv
import HandS.Deep
import PyProof.EqAt
import PyProof.EqKinds
import PyProof.TupleCall
import HandS.Base
import HandS.Call
import PyProof.InstSpecial
import PyProof.CodeObj
import KE.KLam
import HandS.List
import HandS.Codes
import HandS.Lambda
import HandS.Nested
import HandS.Comp
import HandS.Words
import HandS.HeadWalk
import PyProof.ListStr
import KE.GoesComp
import KE.GoesRaise
import HandS.Head0
import HandS.Head1
import HandS.Head2
import PySem.Challenge.RW_piecetexts_k13_writing_states
set_option Elab.async false
set_option linter.all false
set_option maxRecDepth 100000
set_option maxHeartbeats 1000000
namespace Px
open PySem PySem.Spec PyProof.Rows L2
abbrev S := L2.St

/-! ### heaps that grow -/
def SameB (b : Addr) (H H' : Hp) : Prop := ∀ a o, a ≠ b → H a = some o → H' a = some o
theorem same_new {H : Hp} {p : Addr} {o : HO} (h : H p = none) : Same H (upd H p o) := fun a u e => (upd_ne (ne_of_none e h)).trans e
theorem same_mut {H H' : Hp} {p : Addr} {o : HO} (e : Same H H') (h : H p = none) : Same H (upd H' p o) := fun a u ha => (upd_ne (ne_of_none ha h)).trans (e a u ha)
theorem same_mutB {H H' : Hp} {p : Addr} (h : H p = none) {H1 : Hp} (e : Same H H1) (e2 : SameB p H1 H') : Same H H' := fun a u ha => e2 a u (ne_of_none ha h) (e a u ha)
theorem sameB_upd {H : Hp} {b : Addr} {o : HO} : SameB b H (upd H b o) := fun a u n e => (upd_ne n).trans e
theorem SameB.refl (b : Addr) (H : Hp) : SameB b H H := fun _ _ _ h => h
theorem SameB.trans {b : Addr} {H H1 H2 : Hp} (x : SameB b H H1) (y : SameB b H1 H2) : SameB b H H2 := fun a o n h => y a o n (x a o n h)
theorem toB {b : Addr} {H H' : Hp} (e : Same H H') : SameB b H H' := fun a o _ h => e a o h
theorem SameB.free {b : Addr} {H H' : Hp} (e : SameB b H H') {l : Addr} (n : l ≠ b) (h : H' l = none) : H l = none := by
  cases q : H l with
  | none => rfl
  | some o => rw [e l o n q] at h; cases h
theorem gs {H H' : Hp} {a : Addr} {o : HO} (e : Same H H') (h : H a = some o) : H' a = some o := e a o h
theorem gb {b : Addr} {H H' : Hp} {a : Addr} {o : HO} (e : SameB b H H') (n : a ≠ b) (h : H a = some o) : H' a = some o := e a o n h
theorem gu {b : Addr} {H : Hp} {a : Addr} {o u : HO} (n : a ≠ b) (h : H a = some o) : upd H b u a = some o := (upd_ne n).trans h
section
variable {K : PySem.W.Frag} {H H' : Hp} {a b : Addr} {xs : List V}
theorem ql (h : H a = some (.lst xs)) : SqL K H a xs := .inl (.inl h)
theorem qt (h : H a = some (.tup xs)) : SqT K H a xs := .inl (.inl h)
theorem gsl (e : Same H H') (h : SqL K H a xs) : SqL K H' a xs := e.seq h
theorem gst (e : Same H H') (h : SqT K H a xs) : SqT K H' a xs := by
  rcases h with (h | ⟨o, h⟩) | h
  · exact .inl (.inl (e _ _ h))
  · exact .inl (.inr ⟨o, e _ _ h⟩)
  · exact .inr h
theorem gbl (e : SameB b H H') (n : a ≠ b) (h : SqL K H a xs) : SqL K H' a xs := by
  rcases h with (h | ⟨o, h⟩) | h
  · exact .inl (.inl (e _ _ n h))
  · exact .inl (.inr ⟨o, e _ _ n h⟩)
  · exact .inr h
theorem gbt (e : SameB b H H') (n : a ≠ b) (h : SqT K H a xs) : SqT K H' a xs := by
  rcases h with (h | ⟨o, h⟩) | h
  · exact .inl (.inl (e _ _ n h))
  · exact .inl (.inr ⟨o, e _ _ n h⟩)
  · exact .inr h
mutual
theorem dps (e : Same H H') : ∀ (d : PyData) (v : V), Dp K H v d → Dp K H' v d
  | .none, _, h => by cases h; exact .non
  | .bool _, _, h => by cases h; exact .bl _
  | .int _, _, h => by cases h; exact .int _
  | .str _, _, h => by cases h; exact .str _
  | .list ds, _, h => by
    cases h with
    | lst hs ha => exact .lst (gsl e hs) (dpsAll e ds _ ha)
  | .tuple ds, _, h => by
    cases h with
    | tup hs ha => exact .tup (gst e hs) (dpsAll e ds _ ha)
  | .dict _, _, h => by cases h
theorem dpsAll (e : Same H H') : ∀ (ds : List PyData) (vs : List V), DpAll K H vs ds → DpAll K H' vs ds
  | [], _, h => by cases h; exact .nil
  | d :: ds, _, h => by
    cases h with
    | cons h1 h2 => exact .cons (dps e d _ h1) (dpsAll e ds _ h2)
end
end

/-! ### one step of a reading -/
section
variable {K : PySem.W.Frag} {σ : S} {H : Hp} {Q : VK} {D : Ends} {t u : TS} {ta tb te tc : TE} {x y v : V} {tr : TA} {i : Nat} {g : TG} {c c2 : TT}
theorem r_seq (h : t { D with nx := u D } σ H) : tSeq t u D σ H := h
theorem r_next (h : D.nx σ H) : tNext D σ H := h
theorem r_ret (h : te σ H D.rt) : tRet te D σ H := h
theorem r_retN (h : D.rt .non H) : tRetN D σ H := h
theorem r_asg (h : te σ H fun x H1 => g x σ H1 D.nx) : tAsg te g D σ H := h
theorem r_drop (h : te σ H fun _ H1 => D.nx σ H1) : tDrop te D σ H := h
theorem r_ifs (h : c σ H fun b H1 => if b = true then t D σ H1 else u D σ H1) : tIfS c t u D σ H := h
theorem r_brk (h : D.bk σ H) : tBreak D σ H := h
theorem r_cont (h : D.ct σ H) : tCont D σ H := h
theorem r_gname {P : S → Hp → Prop} (h : P (σ.set i (some v)) H) : gName i v σ H P := h
theorem r_gtup {n : Nat} {gs : TGs} {a : Addr} {xs : List V} {P : S → Hp → Prop} (h1 : SqT K H a xs) (h2 : xs.length = n) (h : gs xs σ H P) : gTup K n gs (.ref a) σ H P := ⟨a, xs, rfl, h1, h2, h⟩
theorem r_gcons {gs : TGs} {xs : List V} {P : S → Hp → Prop} (h : g x σ H fun σ' H' => gs xs σ' H' P) : gCons g gs (x :: xs) σ H P := ⟨x, xs, rfl, h⟩
theorem r_gnil {P : S → Hp → Prop} (h : P σ H) : gNil [] σ H P := ⟨rfl, h⟩
theorem r_gsub {ts : TSet} {P : S → Hp → Prop} (h : ta σ H fun o H1 => tb σ H1 fun i H2 => ts o i v H2 fun H3 => P σ H3) : gSub ta tb ts v σ H P := h
theorem r_setL {p : Addr} {xs : List V} {k : Int} {j : Nat} {P : Hp → Prop} (h1 : H p = some (.lst xs)) (h2 : ixN xs.length k = some j) (h : P (upd H p (.lst (xs.set j v)))) : rSetL (.ref p) (.int k) v H P := ⟨p, xs, k, j, rfl, rfl, h1, h2, h⟩
theorem r_aug {ti : TIp} (hx : σ[i]? = some (some x)) (h : te σ H fun y H1 => ti x y H1 fun z H2 => D.nx (σ.set i (some z)) H2) : tAug i te ti D σ H := ⟨x, hx, h⟩
theorem r_par {j : Nat} (h : tr σ H fun vs H1 => ∃ v w, vs = [v, w] ∧ D.nx ((σ.set i (some v)).set j (some w)) H1) : tPar i j tr D σ H := h
theorem r_two {P : V → V → Prop} (h : P x y) : ∃ v w, [x, y] = [v, w] ∧ P v w := ⟨x, y, rfl, h⟩
theorem r_var (h1 : σ[i]? = some (some v)) (h : Q v H) : tVar i σ H Q := ⟨v, h1, h⟩
theorem r_c (h : Q v H) : tC v σ H Q := h
theorem r_op {r : R2} (h : ta σ H fun x H1 => tb σ H1 fun y H2 => r x y H2 Q) : tOp r ta tb σ H Q := h
theorem r_un {r : V → Hp → VK → Prop} (h : ta σ H fun x H1 => r x H1 Q) : tUn r ta σ H Q := h
theorem r_if (h : c σ H fun b H1 => if b = true then ta σ H1 Q else tb σ H1 Q) : tIf c ta tb σ H Q := h
theorem r_test {P : Bool → Hp → Prop} (h : te σ H fun x H' => ∃ k, x = .bl k ∧ P k H') : tTest te σ H P := h
theorem r_b {P : Bool → Hp → Prop} (h : te σ H fun x H' => ∃ k, x = .bl k ∧ P k H') : tB te σ H P := h
theorem r_bl {b : Bool} {P : Bool → Prop} (h : P b) : ∃ k, V.bl b = V.bl k ∧ P k := ⟨b, rfl, h⟩
theorem r_and {P : Bool → Hp → Prop} (h : c σ H fun b H1 => if b = true then c2 σ H1 P else P false H1) : tAnd c c2 σ H P := h
theorem r_or {P : Bool → Hp → Prop} (h : c σ H fun b H1 => if b = true then P true H1 else c2 σ H1 P) : tOr c c2 σ H P := h
theorem r_not {P : Bool → Hp → Prop} (h : c σ H fun b H1 => P (!b) H1) : tNot c σ H P := h
theorem r_andV (h : ta σ H fun x H1 => ∃ c, x = .bl c ∧ if c = true then tb σ H1 Q else Q (.bl false) H1) : tAndV ta tb σ H Q := h
theorem r_orV (h : ta σ H fun x H1 => ∃ c, x = .bl c ∧ if c = true then Q (.bl true) H1 else tb σ H1 Q) : tOrV ta tb σ H Q := h
theorem r_notV (h : ta σ H fun x H1 => ∃ c, x = .bl c ∧ Q (.bl (!c)) H1) : tNotV ta σ H Q := h
theorem r_chain {r r' : R2} (h : ta σ H fun x H1 => tb σ H1 fun y H2 => r x y H2 fun z H3 => ∃ k, z = .bl k ∧ (if k = true then tc σ H3 fun w' H4 => r' y w' H4 Q else Q (.bl false) H3)) : tChain r r' ta tb tc σ H Q := h
theorem r_nil {P : List V → Hp → Prop} (h : P [] H) : tNil σ H P := h
theorem r_cons {P : List V → Hp → Prop} (h : ta σ H fun x H1 => tr σ H1 fun xs H2 => P (x :: xs) H2) : tCons ta tr σ H P := h

theorem same_of {H H2 : Hp} {p : Addr} {o : HO} (h : upd H p o = H2) (n : H p = none) : Same H H2 := h ▸ same_new n
theorem at_of {H H2 : Hp} {p : Addr} {o : HO} (h : upd H p o = H2) : H2 p = some o := h ▸ upd_same
theorem sameB_of {H H2 : Hp} {p : Addr} {o : HO} (h : upd H p o = H2) : SameB p H H2 := h ▸ sameB_upd
theorem r_tup (h : tr σ H fun xs H1 => xs.length ≤ sizeLine ∧ ∀ p, H1 p = none → Q (.ref p) (upd H1 p (.tup xs))) : tTup tr σ H Q := h
theorem r_lst (h : tr σ H fun xs H1 => xs.length ≤ sizeLine ∧ ∀ p, H1 p = none → Q (.ref p) (upd H1 p (.lst xs))) : tLst tr σ H Q := h
theorem r_call {sp : Sp} {dvs : List V} {E : XK} (h : tr σ H fun vs H1 => sp (vs ++ dvs) H1 Q E) : tCall sp dvs E tr σ H Q := h
theorem r_cb {r : List V → Hp → VK → Prop} (h : tr σ H fun vs H1 => r vs H1 Q) : tCB r tr σ H Q := h
theorem r_I0 {g : Int → Int → V} {i j : Int} (h : Q (g i j) H) : rI0 g (.int i) (.int j) H Q := ⟨i, j, rfl, rfl, h⟩
theorem r_I {C : Int → Int → Prop} {g : Int → Int → V} {i j : Int} (hc : C i j) (h : Q (g i j) H) : rI C g (.int i) (.int j) H Q := ⟨i, j, rfl, rfl, hc, h⟩
theorem r_eqI {i j : Int} (h : Q (.bl (decide (i = j))) H) : rEq (.int i) (.int j) H Q := ⟨rfl, by
  have e : decide (V.int i = V.int j) = decide (i = j) := by simp
  rw [e]; exact h⟩
theorem r_neI {i j : Int} (h : Q (.bl (!decide (i = j))) H) : rNe (.int i) (.int j) H Q := ⟨rfl, by
  have e : decide (V.int i = V.int j) = decide (i = j) := by simp
  rw [e]; exact h⟩
theorem r_eqS {i j : Str} (h : Q (.bl (decide (i = j))) H) : rEq (.str i) (.str j) H Q := ⟨rfl, by
  have e : decide (V.str i = V.str j) = decide (i = j) := by simp
  rw [e]; exact h⟩
theorem r_neS {i j : Str} (h : Q (.bl (!decide (i = j))) H) : rNe (.str i) (.str j) H Q := ⟨rfl, by
  have e : decide (V.str i = V.str j) = decide (i = j) := by simp
  rw [e]; exact h⟩
theorem r_eqB {i j : Bool} (h : Q (.bl (decide (i = j))) H) : rEq (.bl i) (.bl j) H Q := ⟨rfl, by
  have e : decide (V.bl i = V.bl j) = decide (i = j) := by simp
  rw [e]; exact h⟩
theorem r_ixL {p : Addr} {xs : List V} {i : Int} (h1 : SqL K H p xs) (h2 : atI xs i = some v) (h : Q v H) : rIx K (.ref p) (.int i) H Q := .inl ⟨p, xs, i, v, rfl, rfl, h1, h2, h⟩
theorem r_ixT {p : Addr} {xs : List V} {i : Int} (h1 : SqT K H p xs) (h2 : atI xs i = some v) (h : Q v H) : rIx K (.ref p) (.int i) H Q := .inr (.inl ⟨p, xs, i, v, rfl, rfl, h1, h2, h⟩)
theorem r_ixS {z : Str} {i : Int} {c : Nat} (h1 : z.length ≤ sizeLine) (h2 : atI z.cps.toList i = some c) (h : Q (.str ⟨#[c]⟩) H) : rIx K (.str z) (.int i) H Q := .inr (.inr ⟨z, i, c, rfl, rfl, h1, h2, h⟩)
theorem r_iteD {p A B : Prop} [Decidable p] (h1 : p → A) (h2 : ¬p → B) : if decide p = true then A else B := by
  by_cases q : p
  · rw [if_pos (decide_eq_true q)]; exact h1 q
  · rw [if_neg (by simpa using q)]; exact h2 q
theorem r_iteND {p A B : Prop} [Decidable p] (h1 : ¬p → A) (h2 : p → B) : if (!decide p) = true then A else B := by
  by_cases q : p
  · rw [if_neg (by simpa using q)]; exact h2 q
  · rw [if_pos (by simpa using q)]; exact h1 q
theorem r_iteB {b : Bool} {A B : Prop} (h1 : b = true → A) (h2 : b = false → B) : if b = true then A else B := by
  cases b
  · rw [if_neg Bool.false_ne_true]; exact h2 rfl
  · rw [if_pos rfl]; exact h1 rfl
theorem r_iteT {A B : Prop} (h : A) : if true = true then A else B := by rw [if_pos rfl]; exact h
theorem r_iteF {A B : Prop} (h : B) : if false = true then A else B := by rw [if_neg Bool.false_ne_true]; exact h
end
end Px

namespace Px
open PySem PySem.Spec PyProof.Rows L2

/-! ### operators by any kind of value -/
abbrev rAddI : R2 := rI0 fun i j => .int (i + j)
abbrev rSubI : R2 := rI0 fun i j => .int (i - j)
abbrev rLtI : R2 := rI0 fun i j => .bl (decide (i < j))
abbrev rLeI : R2 := rI0 fun i j => .bl (decide (i ≤ j))
abbrev rGtI : R2 := rI0 fun i j => .bl (decide (j < i))
abbrev rGeI : R2 := rI0 fun i j => .bl (decide (j ≤ i))
abbrev rFdivI : R2 := rI CDivN fun i j => .int (i.fdiv j)
abbrev rModI : R2 := rI (fun _ j => j ≠ 0) fun i j => .int (i.fmod j)
abbrev rPowI : R2 := rI CPow fun i j => .int (i ^ j.toNat)
abbrev rMulI : R2 := rI CMul fun i j => .int (i * j)
abbrev rNegI : V → Hp → VK → Prop := rU fun i => .int (-i)
def rAddS : R2 := fun x y H Q => ∃ i j, x = .str i ∧ y = .str j ∧ i.length + j.length ≤ sizeLine ∧ Q (.str (i ++ j)) H
def rAddU (K : PySem.W.Frag) : R2 := fun x y H Q => rAddI x y H Q ∨ rAddS x y H Q ∨ rCat x y H Q ∨ rCatA K x y H Q
def rMulU (K : PySem.W.Frag) : R2 := fun x y H Q => rMulI x y H Q ∨ rRep x y H Q
def rEqU (K : PySem.W.Frag) : R2 := fun x y H Q => rEq x y H Q ∨ rEqD K x y H Q
def rNeU (K : PySem.W.Frag) : R2 := fun x y H Q => rNe x y H Q ∨ rNeD K x y H Q
def rIsNN : R2 := fun x y H Q => y = .non ∧ Q (.bl (decide (x = .non))) H
def rNotNN : R2 := fun x y H Q => y = .non ∧ Q (.bl (!decide (x = .non))) H
def rInU (K : PySem.W.Frag) : R2 := fun x y H Q => rInS x y H Q ∨ rIn K false x y H Q
def rNinU (K : PySem.W.Frag) : R2 := fun x y H Q => rNotInS x y H Q ∨ rIn K true x y H Q
def rSlU (K : PySem.W.Frag) : V → Option Int → Option Int → Hp → VK → Prop := fun x lo hi H Q => rSlL K x lo hi H Q ∨ rSlS x lo hi H Q ∨ rSlA K x lo hi H Q
section
variable {X : Cx}
theorem op_addU : OpR X (binaryOp .Add) (rAddU X.K) := OpR.or op_add (OpR.or op_add_str (OpR.or op_cat op_catA))
theorem op_mulU : OpR X (binaryOp .Mult) (rMulU X.K) := OpR.or op_mul op_rep
theorem op_eqU (hu : X.A.units + 64 < cLine) : OpR X (compareOp .Eq) (rEqU X.K) := OpR.or op_eq (op_eqD hu)
theorem op_neU (hu : X.A.units + 64 < cLine) : OpR X (compareOp .NotEq) (rNeU X.K) := OpR.or op_ne (op_neD hu)
theorem op_inU : OpR X (compareOp .In) (rInU X.K) := OpR.or op_inS op_in_seq
theorem op_ninU : OpR X (compareOp .NotIn) (rNinU X.K) := OpR.or op_notInS op_notIn_seq
theorem sl_U : SlR X (rSlU X.K) := SlR.or sl_list (SlR.or sl_str sl_tupA)
theorem hu64 {k : Nat} {A : Around} (hr : Room k A) : A.units + 64 < cLine := hr.units

/-! ### three comparisons in a chain -/
def tChain3 (r r' r'' : R2) (ta tb tc td : TE) : TE := fun σ H Q => ta σ H fun x H1 => tb σ H1 fun y H2 => r x y H2 fun z H3 => ∃ k, z = .bl k ∧
  (if k = true then tc σ H3 fun y' H4 => r' y y' H4 fun z' H5 => ∃ k', z' = .bl k' ∧ (if k' = true then td σ H5 fun w' H6 => r'' y' w' H6 Q else Q (.bl false) H5) else Q (.bl false) H3)
theorem pt_chain3 {op op' op'' : CmpOp} {r r' r'' : R2} {a b c d : Expr} {ta tb tc td : TE} {pos : Pos} (ho : OpR X (compareOp op) r) (ho' : OpR X (compareOp op') r') (ho'' : OpR X (compareOp op'') r'')
    (ha : PE X a ta) (hb : PE X b tb) (hc : PE X c tc) (hd : PE X d td)
    (hm : lastMarks [op, op', op''] [b, c, d] = false := by with_unfolding_all rfl) : PT X (.Compare a [op, op', op''] [b, c, d] pos) (tTest (tChain3 r r' r'' ta tb tc td)) := by
  refine ⟨fun pins s σ H Q I h => ?_⟩
  refine isTrue_chain (thn (ha.run pins s σ H _ I h) fun v s1 ⟨x, H1, I1, r1, q1⟩ => test_link (thn (hb.run pins s1 σ H1 _ I1 q1) fun u s2 ⟨y, H2, I2, r2, q2⟩ =>
    thn (ho pins s2 σ H2 x y v u _ I2 r1 r2 q2) fun d1 s3 ⟨z, H3, I3, r3, k, e, q3⟩ => ?_)) hm
  subst e
  cases r3
  refine wpAny_truthy_bool ?_
  cases k with
  | false =>
    obtain ⟨k', e', q'⟩ := q3
    cases e'
    exact ite_ff ⟨H3, I3, q'⟩
  | true =>
    refine ite_tt (test_link (thn (hc.run pins s3 σ H3 _ I3 q3) fun u4 s4 ⟨y4, H4, I4, r4, q4⟩ =>
      thn (ho' pins s4 σ H4 y y4 u u4 _ I4 r2 r4 q4) fun d2 s5 ⟨z5, H5, I5, r5, k5, e5, q5⟩ => ?_))
    subst e5
    cases r5
    refine wpAny_truthy_bool ?_
    cases k5 with
    | false =>
      obtain ⟨k', e', q'⟩ := q5
      cases e'
      exact ite_ff ⟨H5, I5, q'⟩
    | true =>
      refine ite_tt (test_last (thn (hd.run pins s5 σ H5 _ I5 q5) fun w6 s6 ⟨z6, H6, I6, r6, q6⟩ => thn (ho'' pins s6 σ H6 y4 z6 u4 w6 _ I6 r4 r6 q6) fun d' s7 ⟨z7, H7, I7, r7, k7, e7, q7⟩ => ?_))
      subst e7
      cases r7
      exact wpAny_truthy_bool ⟨H7, I7, q7⟩

/-! ### walks over a list, a tuple, a text -/
theorem PI.or {tg e : Expr} {w1 w2 : TI} (h1 : PI X tg e w1) (h2 : PI X tg e w2) : PI X tg e (fun σ H R => w1 σ H R ∨ w2 σ H R) := by
  refine ⟨fun pins s σ H R I h => ?_⟩
  rcases h with h | h
  · exact h1.run pins s σ H R I h
  · exact h2.run pins s σ H R I h
def iSeqU (K : PySem.W.Frag) (te : TE) : TI := fun σ H R => iList K te σ H R ∨ iTup K te σ H R ∨ iStr te σ H R
theorem pi_seqU {tg e : Expr} {te : TE} (he : PE X e te) : PI X tg e (iSeqU X.K te) := PI.or (pi_list he) (PI.or (pi_tup he) (pi_str he))
end

/-- an iterator that gives new pairs, by the library's Goes -/
def ItP (n : Nat) (f g : Nat → Option V) : It :=
  ⟨fun i _ => i < n, fun i H v H' => ∃ T x y, v = .ref T ∧ H T = none ∧ H' = upd H T (.tup [x, y]) ∧ f i = some x ∧ g i = some y, fun i _ => i = n⟩
theorem turn_pairs {P : Program} {w : World} {K : PySem.W.Frag} {tg : Expr} {it : Addr} {fp wr : List Addr} {n : Nat} {Y : Nat → Heap → Value → Heap → Prop} {St : Nat → Heap → Prop} {f g : Nat → Option V}
    (W : ∀ A : Around, A.handled = none → GoesN P w A tg it fp wr n Y St)
    (hY : ∀ i h v h', Y i h v h' → ∃ T a b x y, v = .ref T ∧ h.objs.size ≤ T ∧ h'.IsTuple T #[a, b] ∧ f i = some x ∧ g i = some y ∧ RelV x a ∧ RelV y b)
    (hself : ∀ (A : Around) (i : Nat) (s : Shared) (Q : Value → Shared → Prop) (E : Value → Shared → Prop), St i s.heap → Q (.ref it) s → wpAny (model P w) A (pyIter (.ref it)) Q E s)
    (mem : it ∈ fp) (obj : ∀ i h, St i h → ∀ b ∈ fp, ∃ o, h.get? b = some o ∧ ∀ v, o.data ≠ .cell v) : Turn P w K tg (ItP n f g) fp it St where
  mem := mem
  obj := obj
  keep := (W { handled := none } rfl).frame
  item := by
    intro X hP hw hK hc i pins s σ H E I hf st hi
    subst hP hw hK
    have G := W X.A (I.ok.hd hc)
    refine G.goes i s _ E hi st fun v h' tk hy st' hk _ => ?_
    obtain ⟨T, a, b, x, y, rfl, hT, ht, e1, e2, ra, rb⟩ := hY _ _ _ _ hy
    have hn : H T = none := I.hok.fresh hT
    have new : ObjOk X.prog X.w (upd H T (.tup [x, y])) h' T (.tup [x, y]) := ⟨by show 2 ≤ sizeLine; decide, [a, b], .cons ra (.cons rb .nil), ht⟩
    refine ⟨.ref T, _, I.turnedNew (ch := fp) (fun b o hb q => hk b o (fun z => hb (G.sub b z)) q) hf hT new, rfl, ⟨T, x, y, rfl, hn, rfl, e1, e2⟩, st', fun c hcm => ?_⟩
    have hlt : c < s.heap.objs.size := by
      obtain ⟨o, ho, _⟩ := obj i s.heap st c hcm
      exact Heap.lt_size ho
    rw [upd_ne (Nat.ne_of_lt (Nat.lt_of_lt_of_le hlt hT))]
    exact (hf c hcm).1
  done := by
    intro X hP hw hK hc i pins s σ H E I hf st hi
    subst hP hw hK
    have hi' : i = n := hi
    subst hi'
    have G := W X.A (I.ok.hd hc)
    exact G.stops s _ E st fun h' tk hk _ => I.turnedL (ch := fp) (fun b o hb q => hk b o (fun z => hb (G.sub b z)) q) hf
  self := hself
theorem walk_pairs {n : Nat} {f g : Nat → Option V} : Walk (ItP n f g) n (fun _ => True) (YPair f g) :=
  ⟨fun _ _ hi _ => hi, fun _ _ => rfl, fun _ _ _ _ _ _ y => y⟩

/-! ### zip and enumerate over texts -/
def sgn (z : Str) (i : Nat) : Option V := (z.cps[i]?).map fun c => .str ⟨#[c]⟩
theorem sgn_of {z : Str} {i c : Nat} {u : Tok} {v : Value} (h : z.cps[i]? = some c) (e : v = .str ⟨#[c]⟩ u) : sgn z i = some (.str ⟨#[c]⟩) ∧ RelV (.str ⟨#[c]⟩) v := by
  unfold sgn
  rw [h]
  exact ⟨rfl, u, e⟩
theorem striter_obj {h : Heap} {b : Addr} {ty : String} {z : Str} {t : Tok} {i : Nat} (st : h.IsStrIter b ty z t i) : ∃ o, h.get? b = some o ∧ ∀ v, o.data ≠ .cell v := by
  obtain ⟨o, e, _, d⟩ := st
  exact ⟨o, e, fun v q => by rw [d] at q; cases q⟩
def iZipS (ta : TA) : TI := fun σ H R => ta σ H fun vs H1 => ∃ y z : Str, vs = [.str y, .str z] ∧ R (ItP (min y.cps.size z.cps.size) (sgn y) (sgn z)) H1
def iEnumS (ta : TA) : TI := fun σ H R => ta σ H fun vs H1 => ∃ z : Str, vs = [.str z] ∧ R (ItP z.cps.size (fun i => some (.int (i : Nat))) (sgn z)) H1
section
variable {X : Cx}
theorem pi_zipS {e e2 : Expr} {ta : TA} {p pos tpos : Pos} {elts : List Expr} {kk : Nat} (hg : Gl X "zip") (hm : X.mg "zip" = none) (ha : PA X [e, e2] ta)
    (hs : starEach [e, e2] X.env = (false, eval e X.env) :: starEach [e2] X.env := by rfl) (hpl : (backTo pos (starEach [e2] X.env)).any (·.1) = false := by rfl) :
    PI X (.Tuple elts kk tpos) (.Call (.Name "zip" p) [e, e2] [] pos) (iZipS ta) := by
  refine ⟨fun pins s σ H R I h => ?_⟩
  refine Call_ (ld_blt I hg hm PyProof.Rows.boot_zip (PyProof.Rows.callWith_type1 (thn (ha.run pos pins s σ H _ I h) fun us s1 ⟨vs, H1, I1, r1, q1⟩ => ?_) hs hpl))
  obtain ⟨y, z, rfl, q⟩ := q1
  cases r1 with
  | cons r rr =>
    cases rr with
    | cons r' rr =>
      cases rr
      obtain ⟨t, rfl⟩ := r
      obtain ⟨t', rfl⟩ := r'
      refine zip_begins2 (begins_text y t) (begins_text z t') trivial trivial fun h' hz hTI hTO h1 h2 hsz hk => wpAny_pyIter_zip hz ?_
      have I2 : Inv X pins σ H1 { s1 with heap := h' } := I1.kept (t' := s1.toks) hk
      have St0 : ∀ {j : Addr} {x : Str} {u : Tok}, h'.get? j = some { cls := .type (strIterType x), data := .fields #[.str x u, .int 0 0] } → h'.IsStrIter j (strIterType x) x u 0 := fun e => ⟨_, e, rfl, rfl⟩
      refine ⟨s1.heap.objs.size + 4, (s1.heap.objs.size + 4) :: (s1.heap.objs.size + 2) :: (s1.heap.objs.size + 3) :: ([s1.heap.objs.size] ++ [s1.heap.objs.size + 1]),
        fun i h => IsZip h (s1.heap.objs.size + 4) (s1.heap.objs.size + 2) (s1.heap.objs.size + 3) .none ∧ IsTupOf2 h (s1.heap.objs.size + 2) (.ref s1.heap.objs.size) (.ref (s1.heap.objs.size + 1)) ∧ (∃ a1 a2, IsTupOf2 h (s1.heap.objs.size + 3) a1 a2) ∧
          h.IsStrIter s1.heap.objs.size (strIterType y) y t i ∧ h.IsStrIter (s1.heap.objs.size + 1) (strIterType z) z t' i, _, H1, rfl, I2,
        turn_pairs (n := min y.cps.size z.cps.size) (fun A hA => GoesN.zip2 (zip_sep2 (fp1 := []) (fp2 := []) (fun _ hb => absurd hb List.not_mem_nil) fun _ hb => absurd hb List.not_mem_nil) (Draws.text (A := A.in1) hA _ y t) (Draws.text (A := A.in1) hA _ z t')) ?hY (fun A i s Q E st h => wpAny_pyIter_zip st.1 h) (by simp) ?obj,
        ⟨hz, hTI, ⟨_, _, hTO⟩, St0 h1, St0 h2⟩, fun b hb => ?_, q⟩
      case hY =>
        rintro i h v h' ⟨T, a, b, rfl, hT, ⟨c, u, hc, ea⟩, ⟨c', u', hc', eb⟩, ht⟩
        obtain ⟨e1, r1⟩ := sgn_of hc ea
        obtain ⟨e2, r2⟩ := sgn_of hc' eb
        exact ⟨T, a, b, _, _, rfl, hT, ht, e1, e2, r1, r2⟩
      case obj =>
        rintro i h ⟨hz, hTI, ⟨a1, a2, hTO⟩, s1', s2'⟩ b hb
        have e' : b = s1.heap.objs.size + 4 ∨ b = s1.heap.objs.size + 2 ∨ b = s1.heap.objs.size + 3 ∨ b = s1.heap.objs.size ∨ b = s1.heap.objs.size + 1 := by simpa using hb
        rcases e' with q | q | q | q | q
        · rw [q]; exact ⟨_, hz, fun v z => nomatch z⟩
        · rw [q]; exact ⟨_, hTI, fun v z => nomatch z⟩
        · rw [q]; exact ⟨_, hTO, fun v z => nomatch z⟩
        · rw [q]; exact striter_obj s1'
        · rw [q]; exact striter_obj s2'
      · have e' : b = s1.heap.objs.size + 4 ∨ b = s1.heap.objs.size + 2 ∨ b = s1.heap.objs.size + 3 ∨ b = s1.heap.objs.size ∨ b = s1.heap.objs.size + 1 := by simpa using hb
        have hle : s1.heap.objs.size ≤ b := by
          rcases e' with z | z | z | z | z
          · rw [z]; exact Nat.le_add_right _ _
          · rw [z]; exact Nat.le_add_right _ _
          · rw [z]; exact Nat.le_add_right _ _
          · rw [z]; exact Nat.le_refl _
          · rw [z]; exact Nat.le_add_right _ _
        exact I1.fpOk hle (I1.hok.fresh hle)
theorem pi_enumS {e : Expr} {ta : TA} {p pos tpos : Pos} {elts : List Expr} {kk : Nat} (hg : Gl X "enumerate") (hm : X.mg "enumerate" = none) (ha : PA X [e] ta) (hs : starEach [e] X.env = [(false, eval e X.env)] := by rfl) :
    PI X (.Tuple elts kk tpos) (.Call (.Name "enumerate" p) [e] [] pos) (iEnumS ta) := by
  refine ⟨fun pins s σ H R I h => ?_⟩
  refine Call_ (ld_blt I hg hm boot_enumerate (PyProof.Rows.callWith_type1 (thn (ha.run pos pins s σ H _ I h) fun us s1 ⟨vs, H1, I1, r1, q1⟩ => ?_) hs rfl))
  obtain ⟨z, rfl, q⟩ := q1
  cases r1 with
  | cons r rr =>
    cases rr
    obtain ⟨t, rfl⟩ := r
    refine call_enumerate_str fun h' he hit hsz hk => wpAny_pyIter_enum he ?_
    have I2 : Inv X pins σ H1 { s1 with heap := h' } := I1.kept (t' := s1.toks) hk
    have hne : s1.heap.objs.size + 1 ∉ [s1.heap.objs.size] := by
      intro hm
      have := List.mem_singleton.mp hm
      exact absurd this (Nat.succ_ne_self _)
    refine ⟨s1.heap.objs.size + 1, (s1.heap.objs.size + 1) :: [s1.heap.objs.size],
      fun i h => (∃ old, IsEnum h (s1.heap.objs.size + 1) s1.heap.objs.size (0 + (i : Int)) old) ∧ h.IsStrIter s1.heap.objs.size (strIterType z) z t i, _, H1, rfl, I2,
      turn_pairs (n := z.cps.size) (fun A hA => GoesN.enumFrom 0 (Draws.text (A := A.in1) hA s1.heap.objs.size z t) (s1.heap.objs.size + 1) (Nat.succ_ne_self _) hne (by simp)) ?hY (fun A i s Q E st h => wpAny_pyIter_enum st.1.choose_spec h) (by simp) ?obj,
      ⟨⟨.none, he⟩, hit⟩, fun b hb => ?_, q⟩
    case hY =>
      rintro i h v h' ⟨T, u, x, rfl, hT, ⟨c, u', hc, ea⟩, ht⟩
      obtain ⟨e1, r1⟩ := sgn_of hc ea
      exact ⟨T, _, x, .int (i : Nat), _, rfl, hT, ht, rfl, e1, ⟨u, by simp⟩, r1⟩
    case obj =>
      rintro i h ⟨⟨old, he⟩, s1'⟩ b hb
      have e' : b = s1.heap.objs.size + 1 ∨ b = s1.heap.objs.size := by simpa using hb
      rcases e' with q | q
      · rw [q]; exact ⟨_, he, fun v z => nomatch z⟩
      · rw [q]; exact striter_obj s1'
    · have e' : b = s1.heap.objs.size + 1 ∨ b = s1.heap.objs.size := by simpa using hb
      have hle : s1.heap.objs.size ≤ b := by
        rcases e' with z | z
        · rw [z]; exact Nat.le_add_right _ _
        · rw [z]; exact Nat.le_refl _
      exact I1.fpOk hle (I1.hok.fresh hle)
def iZipU (K : PySem.W.Frag) (ta : TA) : TI := fun σ H R => iZip K ta σ H R ∨ iZipS ta σ H R
def iEnumU (K : PySem.W.Frag) (ta : TA) : TI := fun σ H R => iEnum K ta σ H R ∨ iEnumS ta σ H R
theorem pi_zipU {e e2 : Expr} {ta : TA} {p pos tpos : Pos} {elts : List Expr} {kk : Nat} (hg : Gl X "zip") (hm : X.mg "zip" = none) (ha : PA X [e, e2] ta)
    (hs : starEach [e, e2] X.env = (false, eval e X.env) :: starEach [e2] X.env := by rfl) (hpl : (backTo pos (starEach [e2] X.env)).any (·.1) = false := by rfl) :
    PI X (.Tuple elts kk tpos) (.Call (.Name "zip" p) [e, e2] [] pos) (iZipU X.K ta) := PI.or (pi_zip hg hm ha hs hpl) (pi_zipS hg hm ha hs hpl)
theorem pi_enumU {e : Expr} {ta : TA} {p pos tpos : Pos} {elts : List Expr} {kk : Nat} (hg : Gl X "enumerate") (hm : X.mg "enumerate" = none) (ha : PA X [e] ta) (hs : starEach [e] X.env = [(false, eval e X.env)] := by rfl) :
    PI X (.Tuple elts kk tpos) (.Call (.Name "enumerate" p) [e] [] pos) (iEnumU X.K ta) := PI.or (pi_enum hg hm ha hs) (pi_enumS hg hm ha hs)
end
end Px

namespace Px
open PySem PySem.Spec PyProof.Rows L2
/-! ### a written dict of ints by ints -/
def intOf : Value → Option Int
  | .int i _ => some i
  | _ => none
def ents (l : List DictEntry) : List (Option Int × Int × Option Int) := l.map fun e => (intOf e.key, e.hash, intOf e.val)
def idB (K : PySem.W.Frag) (a : Addr) (kvs : List (Int × Int)) : Bool := match K.lookup a with
  | some ⟨.type c, none, .dict es _, sl⟩ => decide (c = "dict") && (sl.isEmpty && (!(a == sysModules) && decide (ents es.toList = kvs.map fun p => (some p.1, hashInt p.1, some p.2))))
  | _ => false
structure IDict (K : PySem.W.Frag) (a : Addr) (kvs : List (Int × Int)) : Prop where
  at_ : ∃ es n, K.lookup a = some ⟨.type "dict", none, .dict es n, #[]⟩ ∧ ents es.toList = kvs.map fun p => (some p.1, hashInt p.1, some p.2)
  low : (a == sysModules) = false
theorem idB_ok {K : PySem.W.Frag} {a : Addr} {kvs : List (Int × Int)} (h : idB K a kvs = true) : IDict K a kvs := by
  unfold idB at h
  split at h
  · rename_i c es n sl e
    simp only [Bool.and_eq_true, decide_eq_true_eq, Bool.not_eq_true'] at h
    obtain ⟨h1, h2, h3, h4⟩ := h
    subst h1
    rw [Array.isEmpty_iff.mp h2] at e
    exact ⟨⟨es, n, e, h4⟩, h3⟩
  · cases h
theorem intOf_some {v : Value} {i : Int} (h : intOf v = some i) : ∃ t, v = .int i t := by
  cases v with
  | int j t =>
    cases (show some j = some i from h)
    exact ⟨t, rfl⟩
  | _ => cases h
/-- the int at k -/
def atK (kvs : List (Int × Int)) (k : Int) : Option Int := (kvs.find? fun p => decide (p.1 = k)).map (·.2)
theorem ents_find (k : Int) : ∀ (l : List DictEntry) (kvs : List (Int × Int)), ents l = kvs.map (fun p => (some p.1, hashInt p.1, some p.2)) →
    (∀ e ∈ l, ∃ j t, e.key = .int j t ∧ e.hash = hashInt j) ∧ RelO ((atK kvs k).map V.int) ((l.find? fun e => Value.isInt k e.key).map (·.val))
  | [], [], _ => ⟨fun e he => (nomatch he), trivial⟩
  | [], _ :: _, h => by cases h
  | _ :: _, [], h => by cases h
  | e :: l, p :: kvs, h => by
    have h1 : (intOf e.key, e.hash, intOf e.val) :: ents l = (some p.1, hashInt p.1, some p.2) :: kvs.map (fun p => (some p.1, hashInt p.1, some p.2)) := h
    injection h1 with h2 h3
    simp only [Prod.mk.injEq] at h2
    obtain ⟨ek, eh, ev⟩ := h2
    obtain ⟨t, et⟩ := intOf_some ek
    obtain ⟨u, eu⟩ := intOf_some ev
    obtain ⟨i1, i2⟩ := ents_find k l kvs h3
    refine ⟨fun e' he' => ?_, ?_⟩
    · rcases List.mem_cons.mp he' with rfl | m
      · exact ⟨p.1, t, et, eh⟩
      · exact i1 e' m
    · unfold atK
      by_cases q : p.1 = k
      · rw [List.find?_cons_of_pos (by simpa using q), List.find?_cons_of_pos (by rw [et]; simp [Value.isInt, q])]
        show RelV (V.int p.2) e.val
        rw [eu]
        exact ⟨u, rfl⟩
      · rw [List.find?_cons_of_neg (by simpa using q), List.find?_cons_of_neg (by rw [et]; simp [Value.isInt, q])]
        exact i2
section
variable {X : Cx} {a : Addr} {kvs : List (Int × Int)}
theorem IDict.map (D : IDict X.K a kvs) {h : Heap} (I : X.K.In h) (k : Int) : ∃ f, h.MapOf (intKind X.prog X.w) a f ∧ RelO ((atK kvs k).map V.int) (f k) := by
  obtain ⟨es, n, e, q⟩ := D.at_
  obtain ⟨h1, h2⟩ := ents_find k es.toList kvs q
  refine ⟨fun k => findBy Value.isInt es k, ⟨_, es, n, I _ _ e, ⟨rfl, rfl, rfl⟩, rfl, fun e he => ?_, fun _ => rfl⟩, ?_⟩
  · obtain ⟨j, t, e1, e2⟩ := h1 e (Array.mem_toList_iff.mpr he)
    exact ⟨j, by rw [e1]; exact intKind_is _ _ _ _, e2⟩
  · show RelO _ ((es.find? fun e => Value.isInt k e.key).map (·.val))
    rw [← Array.find?_toList]
    exact h2
/-- k in D, D[k] -/
def rInID (kvs : List (Int × Int)) (a : Addr) (f : Bool → Bool) : R2 := fun x y H Q => ∃ k : Int, x = .int k ∧ y = .ref a ∧ Q (.bl (f (atK kvs k).isSome)) H
def rIxID (kvs : List (Int × Int)) (a : Addr) : R2 := fun x y H Q => ∃ k v : Int, x = .ref a ∧ y = .int k ∧ atK kvs k = some v ∧ Q (.int v) H
theorem relO_some {o : Option Int} {r : Option Value} (h : RelO (o.map V.int) r) : r.isSome = o.isSome := by
  cases o <;> cases r <;> first | rfl | exact h.elim
theorem op_inID (D : IDict X.K a kvs) : OpR X (compareOp .In) (rInID kvs a fun b => b) := by
  intro pins s σ H x y v u Q I rx ry h
  obtain ⟨k, rfl, rfl, q⟩ := h
  obtain ⟨t, rfl⟩ := rx
  cases ry
  obtain ⟨f, hm, r⟩ := D.map I.kIn k
  refine wpAny_in_of (knd := intKind X.prog X.w) (intKind_is _ _ k t) D.low hm ?_
  rw [relO_some r]
  exact ⟨.bl (atK kvs k).isSome, H, I.tok _, rfl, q⟩
theorem op_notInID (D : IDict X.K a kvs) : OpR X (compareOp .NotIn) (rInID kvs a fun b => !b) := by
  intro pins s σ H x y v u Q I rx ry h
  obtain ⟨k, rfl, rfl, q⟩ := h
  obtain ⟨t, rfl⟩ := rx
  cases ry
  obtain ⟨f, hm, r⟩ := D.map I.kIn k
  refine wpAny_notIn_of (knd := intKind X.prog X.w) (intKind_is _ _ k t) D.low hm ?_
  rw [relO_some r]
  exact ⟨.bl (!(atK kvs k).isSome), H, I.tok _, rfl, q⟩
theorem op_ixID (D : IDict X.K a kvs) : OpR X getItem (rIxID kvs a) := by
  intro pins s σ H x y v u Q I rx ry h
  obtain ⟨k, z, rfl, rfl, e, q⟩ := h
  obtain ⟨t, rfl⟩ := ry
  cases rx
  obtain ⟨f, hm, r⟩ := D.map I.kIn k
  rw [e] at r
  cases hf : f k with
  | none => rw [hf] at r; exact r.elim
  | some w' =>
    rw [hf] at r
    exact wpAny_getItem_of (knd := intKind X.prog X.w) (intKind_is _ _ k t) hm hf ⟨.int z, H, I.tok _, r, q⟩
theorem idict_type (D : IDict X.K a kvs) {pins : List (Addr × Obj)} {σ : L2.St} {H : Hp} {s : Shared} (I : Inv X pins σ H s) : s.TypeIs (.ref a) "dict" := by
  obtain ⟨es, n, e, _⟩ := D.at_
  exact ⟨_, I.kIn _ _ e, rfl⟩
theorem pe_ixID {o i : Expr} {td ty : TE} {pos : Pos} (D : IDict X.K a kvs) (ho : PE X o td) (hi : PE X i ty) (hs : NoSl i) : PE X (.Subscript o i pos) (tOp (rIxID kvs a) td ty) := by
  refine ⟨fun pins s σ H Q I h => ?_⟩
  refine subD_of PySem.F.slot_dict_getitem.lookup hs (thn (ho.run pins s σ H _ I h) fun u s1 ⟨x, H1, I1, rx, q1⟩ => thn (hi.run pins s1 σ H1 _ I1 q1) fun iv s2 ⟨y, H2, I2, ry, q2⟩ => ?_)
  have q3 := q2
  obtain ⟨k, z, rfl, _⟩ := q3
  obtain rfl : u = Value.ref a := rx
  exact ⟨idict_type D I2, op_ixID D pins s2 σ H2 (.ref a) y (.ref a) iv Q I2 rfl ry q2⟩
/-! ### sizes of what is written -/
end
end Px

namespace Px
open PySem PySem.Spec PyProof.Rows L2 He
/-! ### the head's facts: defs at any path, facts as Bools -/
/-- a def: the way to it, name, qualified name, parameters, body, scope, defaults, keyword-only defaults -/
structure DefA where
  way : PySem.W.Frag → Addr
  nme : Str
  qul : Str
  par : Arguments
  bdy : List Stmt
  scp : Scope
  dfs : List Dv := []
  kws : List (Str × Dv) := []
def DefA.sees (K : PySem.W.Frag) (d : DefA) : FnW := match K.lookup (d.way K) with
  | some ⟨_, _, .func fd, _⟩ => some (fd.name, fd.qualname, fd.params, fd.body, fd.scope, fd.globals, fd.closure, fd.builtins)
  | _ => none
def DefA.due (d : DefA) : FnW := some (d.nme, d.qul, d.par, .stmts d.bdy, d.scp, mainGlobals, [], builtinsNs)
def DefA.dV (K : PySem.W.Frag) (d : DefA) : List V := d.dfs.map (Dv.v K)
def DefA.kV (K : PySem.W.Frag) (d : DefA) : List (Str × V) := d.kws.map fun q => (q.1, q.2.v K)
def DefA.good (K : PySem.W.Frag) (d : DefA) : Bool := PySem.W.keepIn K (.ref (d.way K)) && (match K.lookup (d.way K) with
  | some ⟨_, _, .func fd, _⟩ => PySem.W.codeIn K fd.code d.qul && dflB K fd.defaults (d.dV K) && kwdB K fd.kwdefaults (d.kV K)
  | _ => false)
theorem DefA.fun_ {K : PySem.W.Frag} {d : DefA} (e : d.sees K = d.due) (c : d.good K = true) : ∃ fd, FunD K d.nme d.qul d.par d.bdy d.scp (d.dV K) (d.kV K) (d.way K) fd := by
  unfold DefA.good at c
  unfold DefA.sees DefA.due at e
  obtain ⟨kp, c⟩ := ba c
  split at e
  · rename_i oc od fd osl q
    rw [q] at c
    obtain ⟨c, k3⟩ := ba c
    obtain ⟨k1, k2⟩ := ba c
    obtain ⟨n1, n2, n3, n4, n5, n6, n7, n8, n9, n10, n11, n12, n13, n14, n15⟩ := fd
    simp only [Option.some.injEq, Prod.mk.injEq] at e
    obtain ⟨h1, h2, h3, h4, h5, h6, h7, h8⟩ := e
    subst h1 h2 h3 h4 h5 h6 h7 h8
    exact ⟨_, ⟨oc, od, n8, n9, n10, n11, n12, n13, n14, osl, rfl, q, k1, dflB_ok k2, kwdB_ok k3⟩, kp⟩
  · cases e
abbrev Fact : Type := PySem.W.Frag → Bool
abbrev AlA : Type := Bool × List FnW
def obsA (fs : List Fact) (ds : List DefA) (K : PySem.W.Frag) : AlA := ((fs.all fun f => f K) && ds.all fun d => d.good K, ds.map fun d => d.sees K)
def valA (ds : List DefA) : AlA := (true, ds.map DefA.due)
def SaysA (fs : List Fact) (ds : List DefA) (K : PySem.W.Frag) : Prop := obsA fs ds K = valA ds
/-- what is looked at: what the module's names reach, and the statics -/
def obsAG (n : Nat) (fs : List Fact) (ds : List DefA) (g : Addr → Option Obj) : AlA := obsA fs ds (frG g (cStatics :: asD g n))
def hookA (n : Nat) (fs : List Fact) (ds : List DefA) : PySem.W.Hook where
  α := AlA
  obs := fun s => obsAG n fs ds s.heap.get?
  val := fun _ => valA ds
  says := fun _ h => ∃ K : PySem.W.Frag, K.In h ∧ SaysA fs ds K
  of := fun _ _ e => ⟨_, frG_in, e⟩
  keeps := fun _ _ _ ⟨K, hK, c⟩ k => ⟨K, PySem.W.Frag.In.keeps hK k, c⟩
theorem obsAG_eq {n : Nat} {fs : List Fact} {ds : List DefA} {g : Addr → Option Obj} {s : Shared} (h : ∀ a, g a = s.heap.get? a) : obsAG n fs ds g = (hookA n fs ds).obs s := by
  have e : g = s.heap.get? := funext h
  subst e
  rfl
section
variable {fs : List Fact} {ds : List DefA} {K : PySem.W.Frag}
theorem SaysA.fact (c : SaysA fs ds K) (i : Nat) {f : Fact} (h : fs[i]? = some f := by rfl) : f K = true := by
  have z : ((fs.all fun f => f K) && ds.all fun d => d.good K) = true := congrArg (fun z : AlA => z.1) c
  exact List.all_eq_true.mp (ba z).1 f (List.mem_of_getElem? h)
theorem SaysA.def_ (c : SaysA fs ds K) (i : Nat) {d : DefA} (h : ds[i]? = some d := by rfl) : ∃ fd, FunD K d.nme d.qul d.par d.bdy d.scp (d.dV K) (d.kV K) (d.way K) fd := by
  have z : ((fs.all fun f => f K) && ds.all fun d => d.good K) = true := congrArg (fun z : AlA => z.1) c
  have e : ds.map (fun d => d.sees K) = ds.map DefA.due := congrArg (fun z : AlA => z.2) c
  have e2 : (ds.map fun d => d.sees K)[i]? = (ds.map DefA.due)[i]? := by rw [e]
  rw [List.getElem?_map, List.getElem?_map, h] at e2
  exact DefA.fun_ (Option.some.inj e2) (List.all_eq_true.mp (ba z).2 d (List.mem_of_getElem? h))
end
/-! ### ways -/
def wGlo (x : Str) (K : PySem.W.Frag) : Addr := ga K x
def wMeth (C m : Str) (K : PySem.W.Frag) : Addr := ma K (ga K C) m
/-- a property's getter -/
def wGet (C f : Str) (K : PySem.W.Frag) : Addr := match PySem.W.recIn K (ma K (ga K C) f) "property" with
  | some (.ref g :: _) => g
  | _ => 0
/-! ### facts -/
def fFa (f : Fa) : Fact := fun K => f.ok K
def fProp (C f : Str) : Fact := fun K => eqO (PySem.W.findIn K (.ref (ga K C)) f) (some (some (.ref (ma K (ga K C) f)))) &&
  (eqO (PySem.W.specialIn K (.ref (ma K (ga K C) f)) "__get__") (some (some (.builtin "property.__get__"))) &&
    (decide (PySem.W.takesIn K (.ref (ma K (ga K C) f)) = some true) && (match PySem.W.recIn K (ma K (ga K C) f) "property" with
      | some (.ref _ :: _) => true
      | _ => false)))
theorem fProp_ok {C f : Str} {K : PySem.W.Frag} (h : fProp C f K = true) : PropOf K (ga K C) f (ma K (ga K C) f) (wGet C f K) := by
  obtain ⟨h1, h⟩ := ba h
  obtain ⟨h2, h⟩ := ba h
  obtain ⟨h3, h4⟩ := ba h
  refine ⟨eqO_ok h1, eqO_ok h2, of_decide_eq_true h3, ?_⟩
  unfold wGet
  split at h4
  · rename_i g l e
    exact ⟨l, by rw [e]⟩
  · cases h4
end Px
namespace Px
open PySem PySem.Spec PyProof.Rows L2 He
/-- attributes of the class C are read plainly; C.f is v -/
def fCRead (C : Str) : Fact := fun K => PySem.W.readsIn K (ga K C) (.type "type") && eqO (PySem.W.specialIn K (.ref (ga K C)) "__getattribute__") (some (some (.builtin "type.__getattribute__")))
theorem fCRead_ok {C : Str} {K : PySem.W.Frag} (h : fCRead C K = true) : ClX.CRead K (ga K C) (.type "type") := by
  obtain ⟨h1, h2⟩ := ba h
  exact ⟨h1, eqO_ok h2⟩
def fCVal (C f : Str) (v : Dv) : Fact := fun K => match PySem.W.findCls K (.ref (ga K C)) (.type "type") f with
  | some (.val u) => relB (v.v K) u
  | _ => false
theorem fCVal_ok {C f : Str} {v : Dv} {K : PySem.W.Frag} (h : fCVal C f v K = true) : ∃ u, ClX.CVal K (ga K C) (.type "type") f (v.v K) u := by
  unfold fCVal at h
  split at h
  · rename_i u e
    exact ⟨u, e, relB_ok h⟩
  · cases h
def fTup (x : Str) (vs : List Dv) : Fact := fun K => tupB K x vs
end Px

/-! own errors over ValueError whose __init__ says super().__init__("..") and keeps one argument -/
namespace PySem
namespace PxE
open PySem.W PySem.Calls PyProof.Rows PySem.HandSPX
/-- super().__init__("txt"); self.fld = prm -/
abbrev s1 (txt : Str) (p0 p1 p2 p3 p4 p5 : Pos) (k : Nat) : Stmt := .Expr (.Call (.Attribute (.Call (.Name "super" p0) [] [] p1) "__init__" p2) [.Constant (.str txt) k p3] [] p4) p5
abbrev s2 (fld prm : Str) (p6 p7 p8 p9 : Pos) : Stmt := .Assign [.Attribute (.Name "self" p6) fld p7] (.Name prm p8) p9
section
abbrev c1 (txt : Str) (p0 p1 p2 p3 p4 : Pos) (k : Nat) : Expr := .Call (.Attribute (.Call (.Name "super" p0) [] [] p1) "__init__" p2) [.Constant (.str txt) k p3] [] p4
variable {prog : Program} {w : World} {A : Around} {R : Result → Shared → Prop} {hp : Heap} {g : Array GenState} {d : Drawn} {t : Nat} {os : OsState} {K : Frag}
variable {C f cc cda e t0 : Addr} {v : Value} {mg mb : Str → Option Value} {name qual txt fld prm : Str} {params : Arguments} {scope : Scope} {dV kV doc pm ct oc ccl cl : Value} {an od cdd cld : Option Addr} {osl ccs csl : Array (Option Value)} {vs : Array Value} {file : Str} {tf : Tok} {ar : Arg}
  {p0 p1 p2 p3 p4 p5 p6 p7 p8 p9 : Pos} {k : Nat} {nm q : Str} {N : Addr} {bs bm : List Value} {sn : List Str} {sub : List Value} {ab : Bool} {col : Option Bool} {dd : Option Addr} {k0 k1 k2 k3 k5 : Option Value}
theorem init_super (X : K.In hp) (hg : hp.Ns mainGlobals mg) (hb : hp.Ns builtinsNs mb) (hmb : mb "super" = some (.type "super")) (hsuper : mg "super" = none) (lim : hp.NoLimit) (hroom : A.depth < recursionLimit)
    (lk : K.lookup f = some ⟨oc, od, .func (ksFn name qual params [s1 txt p0 p1 p2 p3 p4 p5 k, s2 fld prm p6 p7 p8 p9] scope dV kV doc pm an (.ref cda) ct cc), osl⟩) (hcd : codeIn K (.ref cda) qual = true)
    (hpar : (params.posonlyargs ++ params.args).head? = some ar) (har : ar.arg = "self")
    (hcode : K.lookup cda = some ⟨ccl, cdd, .fields vs, ccs⟩) (hvs : vs[2]? = some (.str file tf)) (hfile : ((prog.main.file : Str) == file) = true) (htop : (prog.main.scope.names.lookup ("super" : Str)).isSome = false)
    (hcell : K.lookup cc = some ⟨cl, cld, .cell (some (.ref C)), csl⟩)
    (hsc : ∀ x ∈ scope.names, x.2 ≠ .cell) (hs1 : scope.names.lookup ("super" : Str) = some .globalImplicit) (hs2 : scope.names.lookup ("__class__" : Str) = some .free) (hs3 : scope.names.lookup ("self" : Str) = some .local) (hs4 : scope.names.lookup prm = some .local)
    (hsk : scope.kind = .function) (hco : scope.isCoroutine = false) (hgen : scope.isGenerator = false) (hps : prm ≠ "self") (hpd : (prm == ("__debug__" : Str)) = false)
    (hC : K.lookup C = some (excClassObj nm q C N bs bm true sn sub ab col dd k0 k1 k2 k3 k5 "ValueError.__new__")) (hbm : refsVE bm = true) (sa : findIn K (.ref C) "__setattr__" = some (some (.builtin "object.__setattr__"))) (hno : findIn K (.ref C) fld = some none)
    (hop : nsIn K cStatics "thirdparty.any" = some none) (hsup : ks_superIn K C C "__init__" = some (some (.builtin "ValueError.__init__"))) (hB : subIn K (.ref C) (.type "ValueError") = some true) (hself : mroIn K C (.ref C) = some true)
    (he : hp.get? e = some ({ cls := .ref C, dict := none, data := .fields #[.ref t0, .none, .none, .none, .bool false, .none] } : Obj))
    (hKe : ∀ a o, K.lookup a = some o → a ≠ e)
    (hbind : BindsTo ⟨hp, g, d, t, os⟩ (ksFn name qual params [s1 txt p0 p1 p2 p3 p4 p5 k, s2 fld prm p6 p7 p8 p9] scope dV kV doc pm an (.ref cda) ct cc) ⟨[.ref e, v], []⟩ [("self", .ref e), (prm, v)])
    (pl : Addr → Sem Bool) (env : Addr → Env) (henv : env = fun L => callEnv (ksFn name qual params [s1 txt p0 p1 p2 p3 p4 p5 k, s2 fld prm p6 p7 p8 p9] scope dV kV doc pm an (.ref cda) ct cc) L f)
    (hi : ∀ L, interactive (env L) = false) (hw1 : ∀ L, swapsWith (c1 txt p0 p1 p2 p3 p4 k) none p5.line (env L) = pure false) (hw2 : ∀ L, swapsWith (.Name prm p8) (some (.Attribute (.Name "self" p6) fld p7)) p9.line (env L) = pure false)
    (hev : ∀ L, eval (c1 txt p0 p1 p2 p3 p4 k) (env L) = (do
      let ov ← attributeBase (.Call (.Name "super" p0) [] [] p1) "__init__" (env L) (eval (.Call (.Name "super" p0) [] [] p1) (env L))
      standAt p2.atName
      let (f, first) ← holding [ov] (getMethod ov "__init__" (pl L))
      callWith p4 f first (backTo p4 (starEach [.Constant (.str txt) k p3] (env L))) []))
    (hst : ∀ L, starEach [.Constant (.str txt) k p3] (env L) = [(false, eval (.Constant (.str txt) k p3) (env L))])
    (hq : ∀ h' t' dx t1, (∀ b o, b ≠ e → hp.get? b = some o → h'.get? b = some o) → hp.objs.size ≤ dx → dx ≠ e → h'.get? e = some ({ cls := .ref C, dict := some dx, data := .fields #[.ref t1, .none, .none, .none, .bool false, .none] } : Obj) →
      h'.Ns1 dx (fun y => if y = fld then some v else none) → R (.ok (.ret .none)) ⟨h', g, d, t', os⟩) :
    codeAny (model prog w) A (.call (.ref f) ⟨[.ref e, v], []⟩) R ⟨hp, g, d, t, os⟩ := by
  have hcl : clsIn K C = some { name := nm, bases := bs, mro := .ref C :: bm, ns := N, qualname := q, hasDict := true, slotNames := sn, subclasses := sub, abstract := ab, collection := col, hasDel := false } := by unfold clsIn; rw [hC] <;> rfl
  refine ks_codeAny_call_defAt (fd := ksFn name qual params [s1 txt p0 p1 p2 p3 p4 p5 k, s2 fld prm p6 p7 p8 p9] scope dV kV doc pm an (.ref cda) ct cc) (body := [s1 txt p0 p1 p2 p3 p4 p5 k, s2 fld prm p6 p7 p8 p9]) (binds := [("self", .ref e), (prm, v)])
    hroom (X _ _ lk) rfl lim (codeRec_of X hcd) rfl hbind hsc (fun y hy => ?_) (fun h1 hns hk1 => ?_) hco hgen hsk
  · rcases List.mem_cons.mp hy with rfl | hy
    · exact hs3
    · rw [List.mem_singleton.mp hy]; exact hs4
  have X1 : K.In h1 := X.keeps hk1
  have he1 := hk1 _ _ he
  have lself : ([(("self" : Str), Value.ref e), (prm, v)] : List (Str × Value)).reverse.lookup ("self" : Str) = some (Value.ref e) := by
    show List.lookup _ [(prm, v), (("self" : Str), Value.ref e)] = _
    have : (("self" : Str) == prm) = false := by simpa using (Ne.symm hps)
    simp [List.lookup, this]
  have lprm : ([(("self" : Str), Value.ref e), (prm, v)] : List (Str × Value)).reverse.lookup prm = some v := by
    show List.lookup _ [(prm, v), (("self" : Str), Value.ref e)] = _
    simp [List.lookup]
  have ee : ∀ L, callEnv (ksFn name qual params [s1 txt p0 p1 p2 p3 p4 p5 k, s2 fld prm p6 p7 p8 p9] scope dV kV doc pm an (.ref cda) ct cc) L f = env L := fun L => by rw [henv]
  show wpAt _ (A.deeper (callEnv _ hp.objs.size f)) (.func _ (callEnv _ hp.objs.size f)) (execs _ (callEnv _ hp.objs.size f)) _ _ _
  rw [ee hp.objs.size]
  have hk : (env hp.objs.size).scope = scope := by rw [henv]; rfl
  refine ks_wpAt_execs_cons (ks_wpAt_Expr_any (ks_wpAt_MethodCall (pl := pl hp.objs.size) ?_ (hev _)) (hi _) (hw1 _))
  rw [← ee hp.objs.size]
  refine ks_wpAt_super_base hs1 hs2 (by decide) rfl (X1 _ _ lk) rfl hpar rfl (X1 _ _ hcode) rfl hvs hfile htop ?_
  refine ks_loadName_global hsk hs1 (loadGlobal_builtin (hg.keeps hk1) hsuper (hb.keeps hk1) hmb ⟨rfl, ?_⟩)
  refine wpAny_loadName_free hsk hs2 rfl ⟨_, X1 _ _ hcell, rfl⟩ ?_
  rw [har]
  refine wpAny_loadName_local hsk hs3 hns lself ?_
  refine ks_wpAny_isType_cls (X1 _ _ hC) rfl ⟨rfl, ?_⟩
  refine ks_wpAny_call_super (X1 _ _ hC) rfl he1 rfl (fun c z => nomatch z) (looks_mroIn X1 hself) (fun h2 hso k2' => ?_)
  have X2 : K.In h2 := X1.keeps k2'
  have he2 := k2' _ _ he1
  have hns2 := hns.keeps k2'
  have I2 : InstAt h2 e ({ cls := .ref C, dict := none, data := .fields #[.ref t0, .none, .none, .none, .bool false, .none] } : Obj) C none := ⟨he2, rfl, rfl, trivial⟩
  have hsup' : alongIn K "__init__" (((Value.ref C :: bm).dropWhile (· != .ref C)).drop 1) = some (some (.builtin "ValueError.__init__")) := by
    unfold ks_superIn at hsup
    rw [hcl] at hsup
    exact hsup
  refine kxs_getMethod kxs_ValueError hso (looks_opaque X2 hop) (l₀ := Value.ref C :: bm) (fun A Q E s k q => wpAny_bind ((looks_clsIn X2 hcl) A _ E s k (wpAny_pure q))) rfl X2 hsup' (I2.type.andThen (looks_subIn X2 hB)) (ks_ne X2 I2 hcl) (by decide) ?_
  have k3' : ∀ b o, h2.get? b = some o → (h2.push (kxs_mw "ValueError.__init__" e)).get? b = some o := fun b o z => Heap.get?_push_of_some _ z
  have hu : (h2.push (kxs_mw "ValueError.__init__" e)).get? h2.objs.size = some (kxs_mw "ValueError.__init__" e) := Heap.get?_push_at rfl rfl
  generalize hh3 : h2.push (kxs_mw "ValueError.__init__" e) = h3 at k3' hu
  have X3 : K.In h3 := X2.keeps k3'
  have he3 := k3' _ _ he2
  have hns3 := hns2.keeps k3'
  have kk3 : ∀ b o, hp.get? b = some o → h3.get? b = some o := fun b o z => k3' b o (k2' b o (hk1 b o z))
  show wpAny _ _ (callWith p4 (.ref h2.objs.size) [] (backTo p4 (starEach [.Constant (.str txt) k p3] _)) []) _ _ _
  rw [ee hp.objs.size, hst]
  refine kxs_callWith (i := "ValueError.__init__") (x := e) rfl (evalArgs_plain (spliced_cons (Constant_str (pos := p3) (k := k) (spliced_nil ⟨hu, ?_⟩))))
  have FB := PySem.F.excBase_ValueError
  refine wpAny_call (codeAny_of_tree ?_)
  show wpAny _ (A.deeper (env hp.objs.size)).in1 (callAny (.ref h2.objs.size) ⟨[.str txt _], []⟩) _ _ _
  simp only [callAny]
  refine wpAny_bind (wpAny_load hu ?_)
  simp only [kxs_mw, show (Value.type "method-wrapper" == Value.type "method" || Value.type "method-wrapper" == Value.type "builtin_function_or_method" || Value.type "method-wrapper" == Value.type "method-wrapper") = true by decide, if_true]
  refine KFB.if_so (by decide) ?_
  refine wpAny_bind (check_bound_init FB.toExcCallFacts (X3 _ _ hC) he3 rfl ?_)
  refine wpAny_bind (wpAny_pure (wpAny_pure ?_))
  refine ⟨plainId_quiet FB.init.plain _, codeAny_builtin FB.initEntry ?_⟩
  refine exc_init_tree (cls := .ref C) (t0 := t0) (dv := none) (c2 := .none) (c3 := .none) (b4 := .bool false) he3 (by show 1 ≤ sizeLine; decide) (fun h4 k4' he4 _ => ?_)
  -- the second statement
  have eL : hp.objs.size ≠ e := Nat.ne_of_gt (Heap.lt_size he)
  have kk4 : ∀ b o, b ≠ e → hp.get? b = some o → h4.get? b = some o := fun b o hb z => k4' b o hb (kk3 b o z)
  have X4 : K.In h4 := fun a o z => kk4 a o (hKe a o z) (X a o z)
  have hns4 : h4.Ns hp.objs.size (fun x => ([(("self" : Str), Value.ref e), (prm, v)] : List (Str × Value)).reverse.lookup x) := hns3.at fun o z => k4' _ o eL z
  show wpAt _ _ _ (execs [s2 fld prm p6 p7 p8 p9] (env hp.objs.size)) _ _ _
  refine wpAt_of_wpAny (wpAny_execs_cons (plainObj_wpAny_Assign_Attribute ?_ (hw2 _)))
  rw [← ee hp.objs.size]
  refine wpAny_Name (wpAny_loadName_local hsk hs4 hns4 lprm ?_) hpd
  refine wpAny_Name (wpAny_loadName_local hsk hs3 hns4 lself ?_) (by decide)
  have he4' : h4.get? e = some ({ cls := .ref C, dict := none, data := .fields #[.ref h3.objs.size, .none, .none, .none, .bool false, .none] } : Obj) := he4
  refine set_plain X4 (ox := { cls := .ref C, dict := none, data := .fields #[.ref h3.objs.size, .none, .none, .none, .bool false, .none] }) (od := none) ⟨he4', rfl, rfl, trivial⟩ sa ?_
  have szle : hp.objs.size ≤ h4.objs.size := Nat.le_of_lt hns4.lt
  refine exc_osa X4 he4' hcl (show refsVE (.ref C :: bm) = true from hbm) rfl hno (fun h5 tk5 dx k5' dn dne hx5 hn5 => ?_)
  refine wpAny_execs_nil ?_
  exact hq h5 tk5 dx h3.objs.size (fun b o hb z => k5' b o hb (kk4 b o hb z)) (Nat.le_trans szle dn) dne hx5 hn5
end
/-- what a call of the class's __init__ does: the object gets its dict with one field -/
def InitOk (prog : Program) (w : World) (K : Frag) (mg : Str → Option Value) (C f : Addr) (fld : Str) : Prop :=
  ∀ (A : Around) (R : Result → Shared → Prop) (hp : Heap) (g : Array GenState) (d : Drawn) (t : Nat) (os : OsState) (e t0 : Addr) (v : Value) (mb : Str → Option Value), K.In hp → hp.Ns mainGlobals mg → hp.Ns builtinsNs mb → mb "super" = some (.type "super") → hp.NoLimit →
    A.depth < recursionLimit → (∀ a o, K.lookup a = some o → a ≠ e) → hp.get? e = some ({ cls := .ref C, dict := none, data := .fields #[.ref t0, .none, .none, .none, .bool false, .none] } : Obj) →
    (∀ h' t' dx t1, (∀ b o, b ≠ e → hp.get? b = some o → h'.get? b = some o) → hp.objs.size ≤ dx → dx ≠ e → h'.get? e = some ({ cls := .ref C, dict := some dx, data := .fields #[.ref t1, .none, .none, .none, .bool false, .none] } : Obj) →
      h'.Ns1 dx (fun y => if y = fld then some v else none) → R (.ok (.ret .none)) ⟨h', g, d, t', os⟩) →
    codeAny (model prog w) A (.call (.ref f) ⟨[.ref e, v], []⟩) R ⟨hp, g, d, t, os⟩
end PxE
end PySem
namespace L2
open PySem PySem.Spec PyProof.Rows
/-- C(e), C's own __init__ keeping its one argument as the field fld -/
def tMkE (C : Addr) (fld : Str) (ta : TA) : St → Hp → XK → Prop := fun σ H Q => ta σ H fun vs H1 => ∃ v, vs = [v] ∧ ∀ d, H1 d = none → Q (.ref C) (some d) (upd H1 d (.xd [(fld, v)]))
theorem pmk_err {X : Cx} {x fld : Str} {C fI : Addr} {k : Nat} {e : Expr} {ta : TA} {p pos : Pos} (T : OexC X.K C) (iC : PySem.W.findIn X.K (.ref C) "__init__" = some (some (.ref fI))) (tI : PySem.W.typeIn X.K (.ref fI) = some (.type "function"))
    (IO : PySem.PxE.InitOk X.prog X.w X.K X.mg C fI fld) (hr : Room (k + 1) X.A) (hg : Gl X x) (hm : X.mg x = some (.ref C)) (ha : PA X [e] ta)
    (hdb : (x == ("__debug__" : Str)) = false := by decide) (he : starEach [e] X.env = (false, eval e X.env) :: starEach [] X.env := by rfl) (hpl : (backTo pos (starEach [] X.env)).any (·.1) = false := by rfl) :
    PMk X (.Call (.Name x p) [e] [] pos) (tMkE C fld ta) := by
  intro pins s σ H Q I h
  obtain ⟨nm, q, N, bs, bm, sn, sub, ab, col, dd, k0, k1, k2, k3, k5, hC, hbm⟩ := T.cls
  refine wpAny_Call_Name_kw (ld_glob I hg hm ?_ hdb)
  refine PySem.W.callWith_K (h₀ := X.base) I.ok.mod.kin T.kC (thn (ha.run pos pins s σ H _ I h) fun us s1 ⟨vs, H1, I1, r1, v, ev, q1⟩ => ⟨I1.kIn, ?_⟩) he hpl
  subst ev
  obtain ⟨u, rfl, ru⟩ := vals1 r1
  show wpAny _ _ (call (.ref C) [u]) _ _ _
  obtain ⟨hp, g, dr, tk, os⟩ := s1
  have hsz : hp.objs.size ≤ hp.objs.size + 1 := Nat.le_succ _
  have hn : H1 (hp.objs.size + 1) = none := I1.hok.fresh hsz
  have kk : ∀ b o, hp.get? b = some o → ((hp.push (PySem.W.kdv_tup [u])).push (PySem.HandSPX.excO C hp.objs.size)).get? b = some o := fun b o e => Heap.get?_push_of_some _ (Heap.get?_push_of_some _ e)
  have hget : ((hp.push (PySem.W.kdv_tup [u])).push (PySem.HandSPX.excO C hp.objs.size)).get? (hp.objs.size + 1) = some (PySem.HandSPX.excO C hp.objs.size) := by heap_get
  have I2 : Inv X pins σ (upd H1 (hp.objs.size + 1) (exo (hp.objs.size + 1) C none)) ⟨(hp.push (PySem.W.kdv_tup [u])).push (PySem.HandSPX.excO C hp.objs.size), g, dr, tk, os⟩ :=
    I1.laid (t' := tk) (a := hp.objs.size + 1) (o := exo (hp.objs.size + 1) C none) (h' := (hp.push (PySem.W.kdv_tup [u])).push (PySem.HandSPX.excO C hp.objs.size)) kk hsz (exo_ok hget)
  have e0 := I2.env0
  obtain ⟨mb, hmb, hmv⟩ := e0.mod.blt
  have hus : ([u] : List Value).length ≤ sizeLine := by show 1 ≤ sizeLine; decide
  have hea : upd H1 (hp.objs.size + 1) (exo (hp.objs.size + 1) C none) (hp.objs.size + 1) = some (exo (hp.objs.size + 1) C none) := upd_same
  refine wpAny_call (PySem.HandSPX.call_own F.excBase_ValueError (fun Y => PySem.HandSPX.refsVE_contains Y bm hbm) (I1.kIn _ _ hC) (PySem.W.looks_findIn I1.kIn iC) (fun self => PySem.W.bind_fn I1.kIn self tI) hus ?_)
  generalize hpp : (hp.push (PySem.W.kdv_tup [u])).push (PySem.HandSPX.excO C hp.objs.size) = hp2 at *
  generalize hea2 : hp.objs.size + 1 = a at *
  have kb : ∀ b o, X.base.get? b = some o → hp2.get? b = some o := fun b o z => (e0.bs b o z).1
  have bs2 : mb "super" = some (.type "super") := (hmv _ (by decide +kernel)).trans (by first | boot_by_name | rfl | kernel_rfl)
  refine IO _ _ hp2 g dr _ os a hp.objs.size u mb I2.kIn (e0.mod.glob.keeps kb) (hmb.keeps kb) bs2 (e0.mod.nolimit.keeps kb) (hr.make C [u] []).depth (fun b o z w => ?_) hget (fun h' t' dx t1 k' dn dne hx hn5 => ?_)
  · have y := (e0.bs b o (e0.mod.kin b o z)).2
    rw [w, hea] at y
    cases y
  generalize hH : upd H1 a (exo a C none) = H at *
  have hnd : H dx = none := I2.hok.fresh dn
  have hd1 : H1 dx = none := by
    rw [← hH, upd_ne dne] at hnd
    exact hnd
  have nd : ∀ {b : Addr} {o : Obj}, hp2.get? b = some o → b ≠ dx := fun {b o} q => Nat.ne_of_lt (Nat.lt_of_lt_of_le (Heap.lt_size q) dn)
  have na : ∀ {b : Addr}, H b = none → b ≠ a := fun {b} n z => by
    rw [z, hea] at n
    cases n
  have Un1 : Un (frs X.stack) [] H (upd (upd H dx (exd dx [(fld, v)])) a (exo a C (some dx))) hp2 h' := {
    keep := fun b o q n _ _ => k' b o (na n) q
    slot := fun b o q n _ _ => ⟨o.slots, k' b o (na n) q⟩
    free := fun b o q n _ => by rw [upd_ne (na n), upd_ne (nd q)]; exact n
    there := fun b o q _ => by
      by_cases hb : b = a
      · exact ⟨_, by rw [hb]; exact hx⟩
      · exact ⟨o, k' b o hb q⟩
    tups := fun b xs q => by rw [upd_ne (at_ne hea q exo_tup), upd_ne (ne_of_none q hnd)]; exact q
    frzs := fun b o v q => by rw [upd_ne (at_ne hea q exo_frz), upd_ne (ne_of_none q hnd)]; exact q
    tbls := fun b ps q => ⟨#[], by rw [upd_ne (at_ne hea q exo_tbl), upd_ne (ne_of_none q hnd), q]; simp⟩ }
  have hok2 : HOk X.prog X.w (upd (upd H dx (exd dx [(fld, v)])) a (exo a C (some dx))) h' := fun b o q => by
    by_cases hb : b = a
    · subst hb
      rw [upd_same] at q
      cases q
      exact exo_ok hx
    · rw [upd_ne hb] at q
      by_cases hd : b = dx
      · subst hd
        rw [upd_same] at q
        cases q
        exact exd_ok hn5 (relO_put (fs := []) ru fun g => True.intro)
      · rw [upd_ne hd] at q
        exact (I2.hok b o q).stay (fun c v hc z => k' c v (by
            rcases hc with hc | hc
            · rw [hc]
              exact hb
            · exact at_ne hea hc exo_own) z)
          (fun c hc => by rw [upd_ne (at_ne hea hc exo_own), upd_ne (ne_of_none hc hnd)]; exact hc) (fun c xs hc => by rw [upd_ne (at_ne hea hc exo_tup), upd_ne (ne_of_none hc hnd)]; exact hc)
  have eq : upd (del (upd (upd H dx (exd dx [(fld, v)])) a (exo a C (some dx))) a) dx (.xd [(fld, v)]) = upd H1 dx (.xd [(fld, v)]) := by
    funext b
    by_cases hd : b = dx
    · rw [hd, upd_same, upd_same]
    · rw [upd_ne hd, upd_ne hd]
      by_cases hb : b = a
      · rw [hb, del_same, hn]
      · rw [del_ne hb, upd_ne hb, upd_ne hd, ← hH, upd_ne hb]
  refine ⟨rfl, mk_end (H2 := upd (upd H dx (exd dx [(fld, v)])) a (exo a C (some dx))) (fs := [(fld, v)]) (d := dx) (raises_own T.exC T.tyC) I1 hsz kk (by rw [hH]; exact Un1) hok2 rfl I2.bare upd_same (by rw [upd_ne dne, upd_same]) hd1 (by rw [eq]; exact q1 dx hd1)⟩
end L2

namespace Px
open PySem PySem.Spec PyProof.Rows L2 He
/-! ### the head's facts of own error classes whose __init__ says super() -/
structure ErrD where
  cls : Str
  fld : Str
  qul : Str
  par : Arguments
  bdy : List Stmt
  scp : Scope
  fil : Str
def ErrD.C (d : ErrD) (K : PySem.W.Frag) : Addr := ga K d.cls
def ErrD.f (d : ErrD) (K : PySem.W.Frag) : Addr := ma K (ga K d.cls) "__init__"
def ErrD.sees (K : PySem.W.Frag) (d : ErrD) : FnW := match K.lookup (d.f K) with
  | some ⟨_, _, .func fd, _⟩ => some (fd.name, fd.qualname, fd.params, fd.body, fd.scope, fd.globals, fd.closure.map (fun q => (q.1, 0)), fd.builtins)
  | _ => none
def ErrD.due (d : ErrD) : FnW := some ("__init__", d.qul, d.par, .stmts d.bdy, d.scp, mainGlobals, [("__class__", 0)], builtinsNs)
def ecB (K : PySem.W.Frag) (C : Addr) : Bool := match K.lookup C with
  | some ⟨.type "type", _, .cls cd, sl⟩ => (match cd.mro, sl.toList with
    | .ref C' :: bm, [_, _, _, _, some (.builtin n), _] => C' == C && (n == "ValueError.__new__" && (!cd.hasDel && (cd.hasDict && PySem.HandSPX.refsVE bm)))
    | _, _ => false)
  | _ => false
theorem ecB_ok {K : PySem.W.Frag} {C : Addr} (q : ecB K C = true) : ∃ nm q N bs bm sn sub ab col dd k0 k1 k2 k3 k5, K.lookup C = some (excClassObj nm q C N bs bm true sn sub ab col dd k0 k1 k2 k3 k5 "ValueError.__new__") ∧ PySem.HandSPX.refsVE bm = true := by
  unfold ecB at q
  split at q
  · rename_i dd cd sl ho
    split at q
    · rename_i C' bm k0 k1 k2 k3 n k5 hm hs
      simp only [Bool.and_eq_true, beq_iff_eq, Bool.not_eq_true'] at q
      obtain ⟨rfl, rfl, hdel, hdict, hb⟩ := q
      obtain ⟨nm, bs, mro, ns, qn, hd, sn, sub, ab, col, del⟩ := cd
      dsimp only at hm hdel hdict
      subst hm hdel hdict
      have hsl : sl = #[k0, k1, k2, k3, some (.builtin "ValueError.__new__"), k5] := by
        obtain ⟨l⟩ := sl
        simp only at hs
        rw [hs]
      subst hsl
      exact ⟨nm, qn, ns, bs, bm, sn, sub, ab, col, dd, k0, k1, k2, k3, k5, ho, hb⟩
    · cases q
  · cases q
def codeB (K : PySem.W.Frag) (fil : Str) (v : Value) : Bool := match v with
  | .ref cda => (match K.lookup cda with
    | some ⟨_, _, .fields vs, _⟩ => (match (vs[2]? : Option Value) with
      | some (.str f _) => decide (f = fil)
      | _ => false)
    | _ => false)
  | _ => false
theorem codeB_ok {K : PySem.W.Frag} {fil : Str} {v : Value} (h : codeB K fil v = true) : ∃ cda ccl cdd vs ccs tf, v = .ref cda ∧ K.lookup cda = some ⟨ccl, cdd, .fields vs, ccs⟩ ∧ vs[2]? = some (.str fil tf) := by
  unfold codeB at h
  split at h
  · rename_i cda
    split at h
    · rename_i ccl cdd vs ccs q
      split at h
      · rename_i f tf r
        have e := of_decide_eq_true h
        subst e
        exact ⟨cda, ccl, cdd, vs, ccs, tf, rfl, q, r⟩
      · cases h
    · cases h
  · cases h
def cellB (K : PySem.W.Frag) (C : Addr) (l : List (Str × Addr)) : Bool := match l with
  | [q] => (match K.lookup q.2 with
    | some ⟨_, _, .cell (some (.ref c)), _⟩ => c == C
    | _ => false)
  | _ => false
theorem cellB_ok {K : PySem.W.Frag} {C : Addr} {l : List (Str × Addr)} {x : Str} (h : cellB K C l = true) (e : l.map (fun q => (q.1, 0)) = [(x, (0 : Addr))]) : ∃ cc cl cld csl, l = [(x, cc)] ∧ K.lookup cc = some ⟨cl, cld, .cell (some (.ref C)), csl⟩ := by
  unfold cellB at h
  split at h
  · rename_i q
    obtain ⟨y, cc⟩ := q
    have ey : y = x := by simpa using e
    subst ey
    split at h
    · rename_i cl cld c csl r
      have ec := beq_iff_eq.mp h
      subst ec
      exact ⟨cc, cl, cld, csl, rfl, r⟩
    · cases h
  · cases h
def ErrD.good (K : PySem.W.Frag) (d : ErrD) : Bool := (Fa.glo d.cls).ok K && (ecB K (d.C K) && (eqO (PySem.W.findIn K (.ref (d.C K)) "__setattr__") (some (some (.builtin "object.__setattr__"))) &&
  (decide (PySem.W.subIn K (.ref (d.C K)) (.type "BaseException") = some true) && (decide (PySem.W.typeIn K (.ref (d.C K)) = some (.type "type")) && (PySem.W.keepIn K (.ref (d.C K)) && (xfB K (d.C K) &&
  (eqO (PySem.W.findIn K (.ref (d.C K)) d.fld) (some none) && (eqO (PySem.W.findIn K (.ref (d.C K)) "__init__") (some (some (.ref (d.f K)))) && (decide (PySem.W.typeIn K (.ref (d.f K)) = some (.type "function")) &&
  (decide (PySem.W.exmOne K (.ref (d.C K)) (.ref (d.C K)) = some true) && (eqO (PySem.W.nsIn K cStatics "thirdparty.any") (some none) && (decide (PySem.W.ks_superIn K (d.C K) (d.C K) "__init__" = some (some (.builtin "ValueError.__init__"))) &&
  (decide (PySem.W.subIn K (.ref (d.C K)) (.type "ValueError") = some true) && (decide (PySem.W.mroIn K (d.C K) (.ref (d.C K)) = some true) && (match K.lookup (d.f K) with
    | some ⟨_, _, .func fd, _⟩ => PySem.W.codeIn K fd.code d.qul && (codeB K d.fil fd.code && (cellB K (d.C K) fd.closure && (decide (fd.defaults = .none) && decide (fd.kwdefaults = .none))))
    | _ => false)))))))))))))))
/-- what is known of such a class -/
structure ErrF (K : PySem.W.Frag) (d : ErrD) (C f : Addr) : Prop where
  glo : (Fa.glo d.cls).ok K = true
  Ce : C = ga K d.cls
  oex : OexC K C
  xf : XfC K C
  noF : PySem.W.findIn K (.ref C) d.fld = some none
  iC : PySem.W.findIn K (.ref C) "__init__" = some (some (.ref f))
  tI : PySem.W.typeIn K (.ref f) = some (.type "function")
  te : PySem.W.exmOne K (.ref C) (.ref C) = some true
  hop : PySem.W.nsIn K cStatics "thirdparty.any" = some none
  hsup : PySem.W.ks_superIn K C C "__init__" = some (some (.builtin "ValueError.__init__"))
  hB : PySem.W.subIn K (.ref C) (.type "ValueError") = some true
  hself : PySem.W.mroIn K C (.ref C) = some true
  fn : ∃ oc od doc pm an cda ct cc osl ccl cdd ccs vs tf cl cld csl, K.lookup f = some ⟨oc, od, .func (PySem.W.ksFn "__init__" d.qul d.par d.bdy d.scp .none .none doc pm an (.ref cda) ct cc), osl⟩ ∧ PySem.W.codeIn K (.ref cda) d.qul = true ∧
    K.lookup cda = some ⟨ccl, cdd, .fields vs, ccs⟩ ∧ vs[2]? = some (.str d.fil tf) ∧ K.lookup cc = some ⟨cl, cld, .cell (some (.ref C)), csl⟩
theorem ErrD.ok {K : PySem.W.Frag} {d : ErrD} (e : d.sees K = d.due) (c : d.good K = true) : ErrF K d (d.C K) (d.f K) := by
  unfold ErrD.good at c
  obtain ⟨c0, c⟩ := ba c
  obtain ⟨c1, c⟩ := ba c
  obtain ⟨c2, c⟩ := ba c
  obtain ⟨c3, c⟩ := ba c
  obtain ⟨c4, c⟩ := ba c
  obtain ⟨c5, c⟩ := ba c
  obtain ⟨c6, c⟩ := ba c
  obtain ⟨c7, c⟩ := ba c
  obtain ⟨c8, c⟩ := ba c
  obtain ⟨c9, c⟩ := ba c
  obtain ⟨c10, c⟩ := ba c
  obtain ⟨c11, c⟩ := ba c
  obtain ⟨c12, c⟩ := ba c
  obtain ⟨c13, c⟩ := ba c
  obtain ⟨c14, c15⟩ := ba c
  refine ⟨c0, rfl, ⟨ecB_ok c1, eqO_ok c2, of_decide_eq_true c3, of_decide_eq_true c4, c5⟩, xfB_ok c6, eqO_ok c7, eqO_ok c8, of_decide_eq_true c9, of_decide_eq_true c10, eqO_ok c11, of_decide_eq_true c12, of_decide_eq_true c13, of_decide_eq_true c14, ?_⟩
  unfold ErrD.sees ErrD.due at e
  split at e
  · rename_i oc od fd osl q
    rw [q] at c15
    obtain ⟨k1, k⟩ := ba c15
    obtain ⟨k2, k⟩ := ba k
    obtain ⟨k3, k⟩ := ba k
    obtain ⟨k4, k5⟩ := ba k
    replace k4 := of_decide_eq_true k4
    replace k5 := of_decide_eq_true k5
    obtain ⟨n1, n2, n3, n4, n5, n6, n7, n8, n9, n10, n11, n12, n13, n14, n15⟩ := fd
    simp only [Option.some.injEq, Prod.mk.injEq] at e
    obtain ⟨h1, h2, h3, h4, h5, h6, h7, h8⟩ := e
    obtain ⟨cda, ccl, cdd, vs, ccs, tf, rfl, a1, a2⟩ := codeB_ok k2
    obtain ⟨cc, cl, cld, csl, b1, b2⟩ := cellB_ok k3 h7
    dsimp only at b1 k4 k5
    subst h1 h2 h3 h4 h5 h6 h8 b1 k4 k5
    exact ⟨oc, od, n10, n11, n12, cda, n14, cc, osl, ccl, cdd, ccs, vs, tf, cl, cld, csl, q, k1, a1, a2, b2⟩
  · cases e
/-! ### the hook -/
/-- the closures' cells too -/
def asX (g : Addr → Option Obj) (n : Nat) : List Addr := asD g n ++ (asD g n).flatMap fun a => match g a with
  | some ⟨_, _, .func fd, _⟩ => fd.closure.map (·.2)
  | _ => []
def obsX (fs : List Fact) (ds : List DefA) (es : List ErrD) (K : PySem.W.Frag) : AlA := ((fs.all fun f => f K) && ((ds.all fun d => d.good K) && es.all fun d => d.good K), ds.map (fun d => d.sees K) ++ es.map fun d => d.sees K)
def valX (ds : List DefA) (es : List ErrD) : AlA := (true, ds.map DefA.due ++ es.map ErrD.due)
def SaysX (fs : List Fact) (ds : List DefA) (es : List ErrD) (K : PySem.W.Frag) : Prop := obsX fs ds es K = valX ds es
def obsXG (n : Nat) (fs : List Fact) (ds : List DefA) (es : List ErrD) (g : Addr → Option Obj) : AlA := obsX fs ds es (frG g (cStatics :: asX g n))
def hookX (n : Nat) (fs : List Fact) (ds : List DefA) (es : List ErrD) : PySem.W.Hook where
  α := AlA
  obs := fun s => obsXG n fs ds es s.heap.get?
  val := fun _ => valX ds es
  says := fun _ h => ∃ K : PySem.W.Frag, K.In h ∧ SaysX fs ds es K
  of := fun _ _ e => ⟨_, frG_in, e⟩
  keeps := fun _ _ _ ⟨K, hK, c⟩ k => ⟨K, PySem.W.Frag.In.keeps hK k, c⟩
theorem obsXG_eq {n : Nat} {fs : List Fact} {ds : List DefA} {es : List ErrD} {g : Addr → Option Obj} {s : Shared} (h : ∀ a, g a = s.heap.get? a) : obsXG n fs ds es g = (hookX n fs ds es).obs s := by
  have e : g = s.heap.get? := funext h
  subst e
  rfl
section
variable {fs : List Fact} {ds : List DefA} {es : List ErrD} {K : PySem.W.Frag}
theorem SaysX.fact (c : SaysX fs ds es K) (i : Nat) {f : Fact} (h : fs[i]? = some f := by rfl) : f K = true := by
  have z : ((fs.all fun f => f K) && ((ds.all fun d => d.good K) && es.all fun d => d.good K)) = true := congrArg (fun z : AlA => z.1) c
  exact List.all_eq_true.mp (ba z).1 f (List.mem_of_getElem? h)
theorem SaysX.two (c : SaysX fs ds es K) : ds.map (fun d => d.sees K) = ds.map DefA.due ∧ es.map (fun d => d.sees K) = es.map ErrD.due := by
  have e : ds.map (fun d => d.sees K) ++ es.map (fun d => d.sees K) = ds.map DefA.due ++ es.map ErrD.due := congrArg (fun z : AlA => z.2) c
  exact List.append_inj e (by rw [List.length_map, List.length_map])
theorem SaysX.def_ (c : SaysX fs ds es K) (i : Nat) {d : DefA} (h : ds[i]? = some d := by rfl) : ∃ fd, FunD K d.nme d.qul d.par d.bdy d.scp (d.dV K) (d.kV K) (d.way K) fd := by
  have z : ((fs.all fun f => f K) && ((ds.all fun d => d.good K) && es.all fun d => d.good K)) = true := congrArg (fun z : AlA => z.1) c
  have e := c.two.1
  have e2 : (ds.map fun d => d.sees K)[i]? = (ds.map DefA.due)[i]? := by rw [e]
  rw [List.getElem?_map, List.getElem?_map, h] at e2
  exact DefA.fun_ (Option.some.inj e2) (List.all_eq_true.mp (ba (ba z).2).1 d (List.mem_of_getElem? h))
theorem SaysX.err (c : SaysX fs ds es K) (i : Nat) {d : ErrD} (h : es[i]? = some d := by rfl) : ErrF K d (d.C K) (d.f K) := by
  have z : ((fs.all fun f => f K) && ((ds.all fun d => d.good K) && es.all fun d => d.good K)) = true := congrArg (fun z : AlA => z.1) c
  have e := c.two.2
  have e2 : (es.map fun d => d.sees K)[i]? = (es.map ErrD.due)[i]? := by rw [e]
  rw [List.getElem?_map, List.getElem?_map, h] at e2
  exact ErrD.ok (Option.some.inj e2) (List.all_eq_true.mp (ba (ba z).2).2 d (List.mem_of_getElem? h))
end
end Px

/-! own errors over any of some bases whose __init__ says super().__init__("..") and keeps its arguments, none, one or more -/
namespace PySem
namespace PxE
open PySem.W PySem.Calls PyProof.Rows PySem.HandSPX Builtin Builtin.ObjectAttr
structure Bas (B newId initId : String) (bmB : List Value) : Prop where
  fb : ExcBaseFacts B newId initId bmB
  kx : KxsFacts B initId
  pass : ∀ self, refuseLoop self "__setattr__" bmB = pure ()
  obj : bmB.contains (.type "object") = true
theorem bas_ValueError : Bas "ValueError" "ValueError.__new__" "ValueError.__init__" [.type "ValueError", .type "Exception", .type "BaseException", .type "object"] := ⟨F.excBase_ValueError, kxs_ValueError, F.store_ValueError.passes, by decide +kernel⟩
theorem bas_LookupError : Bas "LookupError" "LookupError.__new__" "LookupError.__init__" [.type "LookupError", .type "Exception", .type "BaseException", .type "object"] := ⟨F.excBase_LookupError, kxs_LookupError, F.store_LookupError.passes, by decide +kernel⟩
theorem bas_IndexError : Bas "IndexError" "IndexError.__new__" "IndexError.__init__" [.type "IndexError", .type "LookupError", .type "Exception", .type "BaseException", .type "object"] := ⟨F.excBase_IndexError, kxs_IndexError, F.store_IndexError.passes, by decide +kernel⟩
theorem bas_RuntimeError : Bas "RuntimeError" "RuntimeError.__new__" "RuntimeError.__init__" [.type "RuntimeError", .type "Exception", .type "BaseException", .type "object"] := ⟨F.excBase_RuntimeError, kxs_RuntimeError, F.store_RuntimeError.passes, by decide +kernel⟩
theorem bas_OverflowError : Bas "OverflowError" "OverflowError.__new__" "OverflowError.__init__" [.type "OverflowError", .type "ArithmeticError", .type "Exception", .type "BaseException", .type "object"] := ⟨F.excBase_OverflowError, kxs_OverflowError, F.store_OverflowError.passes, by decide +kernel⟩
theorem bas_TypeError : Bas "TypeError" "TypeError.__new__" "TypeError.__init__" [.type "TypeError", .type "Exception", .type "BaseException", .type "object"] := ⟨F.excBase_TypeError, kxs_TypeError, F.store_TypeError.passes, by decide +kernel⟩
section
variable {prog : Program} {w : World} {A : Around} {E : Value → Shared → Prop} {R : Result → Shared → Prop} {hp : Heap} {g : Array GenState} {d : Drawn} {t : Nat} {os : OsState} {B newId initId : String} {bmB : List Value}
theorem osa_first (BS : Bas B newId initId bmB) {K : W.Frag} {name : Str} {tk : Tok} {v : Value} {x C : Addr} {fv : Array Value} {cd : ClassData}
    (X : K.In hp) (hx : hp.get? x = some { cls := .ref C, data := .fields fv }) (hcd : W.clsIn K C = some cd) (hm : cd.mro = .ref C :: bmB) (hh : cd.hasDict = true) (ha : W.findIn K (.ref C) name = some none)
    (hq : ∀ h' tk' dx, (∀ b o, b ≠ x → hp.get? b = some o → h'.get? b = some o) → hp.objs.size ≤ dx → dx ≠ x → h'.get? x = some { cls := .ref C, dict := some dx, data := .fields fv } →
      h'.Ns1 dx (fun y => if y = name then some v else none) → R (.ok (.ret .none)) ⟨h', g, d, tk', os⟩) :
    codeAny (model prog w) A (.call (.builtin "object.__setattr__") ⟨[.ref x, .str name tk, v], []⟩) R ⟨hp, g, d, t, os⟩ := by
  have I : W.InstAt hp x { cls := .ref C, data := .fields fv } C none := ⟨hx, rfl, rfl, trivial⟩
  have SF := F.store_object
  have ne : cd.mro.isEmpty = false := by rw [hm]; rfl
  have hob : cd.mro.contains (.type "object") = true := by rw [hm, List.contains_cons, BS.obj, Bool.or_true]
  have hxs : x ≠ hp.objs.size := Nat.ne_of_lt (Heap.lt_size hx)
  have sub : W.Looks (model prog w) hp (isInstance (.ref x) (.type "object")) true := I.type.andThen (W.looks_mroIn X (by unfold W.mroIn; rw [hcd, Option.bind_some, if_neg (by rw [ne]; decide), hob]))
  refine codeAny_call_builtin SF.slot.plain SF.entry (@W.check_slot (model prog w) _ _ ⟨hp, g, d, t, os⟩ "object.__setattr__" "object" "__setattr__" (.ref x) [.str name tk, v] [] _ SF.kind SF.split sub (SF.args (.ref x) (.str name tk) v) ?_)
  have hmr : W.Looks (model prog w) hp (mroOf (.ref C)) cd.mro := (W.looks_clsIn X hcd).andThen .now
  have L3 : W.Looks (model prog w) hp (storeTaker? none) none := .now
  have hcls : W.Looks (model prog w) hp (classData C) cd := W.looks_clsIn X hcd
  have hps : refuseLoop (.ref x) "__setattr__" cd.mro = pure () := by rw [hm, refuseLoop_ref]; exact BS.pass _
  rw [W.osa_eq, refuse_eq]
  refine wpAny_bind (wpAny_bind (I.type.at (wpAny_bind (hmr.at ?_))))
  rw [hps]
  refine wpAny_pure (wpAny_bind (I.type.at (wpAny_bind ((W.looks_findIn X ha).at (wpAny_bind (L3.at ?_))))))
  show wpAny _ _ (storeInOwnDict (.ref x) (.ref C) (.str name tk) name v false) _ _ _
  obtain ⟨nm, bs, mro, ns, qn, hd, sn, sb, ab, col, del⟩ := cd
  dsimp only at hh
  subst hh
  unfold storeInOwnDict ownDictForStores
  repeat (first | with_reducible refine HandSPX.store_in_new ?_ ?_ | with_reducible refine wpAny_loadPart_at hx ?_ | with_reducible refine hcls.at ?_ | wp_step)
  · exact ⟨_, #[], _, (Heap.get?_update_ne _ _ _ _ hxs.symm).trans (Heap.get?_push_at rfl rfl), rfl, fun e he => absurd he (by simp), fun _ => rfl⟩
  · intro h' tk' hn' hs
    have hx₁ : (hp.push { cls := .type "dict", data := .dict #[] }).get? x = some { cls := .ref C, data := .fields fv } := Heap.get?_push_of_some _ hx
    refine hq h' tk' hp.objs.size (fun b o hb ho => ?_) (Nat.le_refl _) hxs.symm ?_ hn'
    · exact (hs.2 b (Nat.ne_of_lt (Heap.lt_size ho))).trans ((Heap.get?_update_ne _ _ _ _ hb).trans (Heap.get?_push_of_some _ ho))
    · exact (hs.2 x hxs).trans (Heap.get?_update_self _ hx₁ rfl)
theorem osa_more (BS : Bas B newId initId bmB) {K : W.Frag} {name : Str} {tk : Tok} {v : Value} {x C dx : Addr} {fv : Array Value} {cd : ClassData} {m0 : Str → Option Value} {nl : List Str}
    (X : K.In hp) (hx : hp.get? x = some { cls := .ref C, dict := some dx, data := .fields fv }) (hns : hp.Ns1 dx m0) (hw : Within m0 nl) (hz : nl.length ≤ 1000) (hcd : W.clsIn K C = some cd) (hm : cd.mro = .ref C :: bmB) (hh : cd.hasDict = true)
    (ha : W.findIn K (.ref C) name = some none)
    (hq : ∀ h' tk', (∀ b o, b ≠ dx → hp.get? b = some o → h'.get? b = some o) → h'.Ns1 dx (fun y => if y = name then some v else m0 y) → R (.ok (.ret .none)) ⟨h', g, d, tk', os⟩) :
    codeAny (model prog w) A (.call (.builtin "object.__setattr__") ⟨[.ref x, .str name tk, v], []⟩) R ⟨hp, g, d, t, os⟩ := by
  obtain ⟨oD, esD, epD, hoD, hdD, _⟩ := hns.count hw
  have I : W.InstAt hp x { cls := .ref C, dict := some dx, data := .fields fv } C (some oD) := ⟨hx, rfl, rfl, hoD⟩
  have SF := F.store_object
  have ne : cd.mro.isEmpty = false := by rw [hm]; rfl
  have hob : cd.mro.contains (.type "object") = true := by rw [hm, List.contains_cons, BS.obj, Bool.or_true]
  have sub : W.Looks (model prog w) hp (isInstance (.ref x) (.type "object")) true := I.type.andThen (W.looks_mroIn X (by unfold W.mroIn; rw [hcd, Option.bind_some, if_neg (by rw [ne]; decide), hob]))
  refine codeAny_call_builtin SF.slot.plain SF.entry (@W.check_slot (model prog w) _ _ ⟨hp, g, d, t, os⟩ "object.__setattr__" "object" "__setattr__" (.ref x) [.str name tk, v] [] _ SF.kind SF.split sub (SF.args (.ref x) (.str name tk) v) ?_)
  have hmr : W.Looks (model prog w) hp (mroOf (.ref C)) cd.mro := (W.looks_clsIn X hcd).andThen .now
  have L3 : W.Looks (model prog w) hp (storeTaker? none) none := .now
  have hcls : W.Looks (model prog w) hp (classData C) cd := W.looks_clsIn X hcd
  have hps : refuseLoop (.ref x) "__setattr__" cd.mro = pure () := by rw [hm, refuseLoop_ref]; exact BS.pass _
  rw [W.osa_eq, refuse_eq]
  refine wpAny_bind (wpAny_bind (I.type.at (wpAny_bind (hmr.at ?_))))
  rw [hps]
  refine wpAny_pure (wpAny_bind (I.type.at (wpAny_bind ((W.looks_findIn X ha).at (wpAny_bind (L3.at ?_))))))
  show wpAny _ _ (storeInOwnDict (.ref x) (.ref C) (.str name tk) name v false) _ _ _
  obtain ⟨nm, bs, mro, ns, qn, hd, sn, sb, ab, col, del⟩ := cd
  dsimp only at hh
  subst hh
  unfold storeInOwnDict ownDictForStores
  repeat (first | with_reducible refine OEX.store_in_old hns hw hz ?_ | with_reducible refine wpAny_loadPart_at hx ?_ | with_reducible refine hcls.at ?_ | wp_step)
  intro h' tk' hn' hs
  exact hq h' tk' (fun b o hb ho => (hs.2 b hb).trans ho) hn'
end
/-- a field that __init__ keeps: its name, the parameter, the value, the four places -/
structure FE where
  fld : Str
  prm : Str
  v : Value
  p6 : Pos
  p7 : Pos
  p8 : Pos
  p9 : Pos
abbrev FE.st (q : FE) : Stmt := s2 q.fld q.prm q.p6 q.p7 q.p8 q.p9
def putM (m : Str → Option Value) : List FE → (Str → Option Value)
  | [] => m
  | q :: r => putM (fun y => if y = q.fld then some q.v else m y) r
/-- what a made exception has of its fields: no dict, or a dict with them -/
def Made (h h' : Heap) (e : Addr) (od : Option Addr) (m : Str → Option Value) : Prop := (od = none ∧ m = fun _ => none) ∨ ∃ dx nl, od = some dx ∧ h.objs.size ≤ dx ∧ dx ≠ e ∧ h'.Ns1 dx m ∧ Within m nl ∧ nl.length ≤ 1000
section
variable {prog : Program} {w : World} {A A' : Around} {E' : Value → Shared → Prop} {R : Result → Shared → Prop} {hp : Heap} {g : Array GenState} {d : Drawn} {t : Nat} {os : OsState} {K : Frag} {B newId initId : String} {bmB : List Value}
variable {C f cc cda e t0 L : Addr} {v : Value} {mg mb : Str → Option Value} {name qual txt fld prm : Str} {params : Arguments} {scope : Scope} {dV kV doc pm ct oc ccl cl : Value} {an od cdd cld : Option Addr} {osl ccs csl : Array (Option Value)} {vs : Array Value} {file : Str} {tf : Tok} {ar : Arg}
  {p0 p1 p2 p3 p4 p5 : Pos} {k : Nat} {cd : ClassData} {binds : List (Str × Value)} {env : Env}
theorem within_put {m : Str → Option Value} {nl : List Str} {x : Str} {v : Value} (h : Within m nl) : Within (fun y => if y = x then some v else m y) (x :: nl) := Within.cons x v h
/-- the statements that keep the fields -/
theorem flds_run (BS : Bas B newId initId bmB) (hcd : clsIn K C = some cd) (hm : cd.mro = .ref C :: bmB) (hh : cd.hasDict = true) (hsk : env.scope.kind = .function) (hself : env.scope.names.lookup ("self" : Str) = some .local) (hloc : env.locals = L) (sa : findIn K (.ref C) "__setattr__" = some (some (.builtin "object.__setattr__")))
    (lself : binds.reverse.lookup ("self" : Str) = some (Value.ref e)) (hKe : ∀ a o, K.lookup a = some o → a ≠ e) (hL : hp.objs.size ≤ L) (hLe : L ≠ e) {Q : Flow → Shared → Prop} :
    ∀ (fl : List FE) (h4 : Heap) (t4 : Nat) (od : Option Addr) (m0 : Str → Option Value) (n : Nat), K.In hp → (∀ b o, b ≠ e → hp.get? b = some o → h4.get? b = some o) → h4.Ns L (fun x => binds.reverse.lookup x) → (∃ t1, h4.get? e = some ({ cls := .ref C, dict := od, data := .fields #[.ref t1, .none, .none, .none, .bool false, .none] } : Obj)) →
      ((od = none ∧ m0 = fun _ => none) ∨ ∃ dx nl, od = some dx ∧ hp.objs.size ≤ dx ∧ dx ≠ e ∧ dx ≠ L ∧ h4.Ns1 dx m0 ∧ Within m0 nl ∧ nl.length ≤ n) → n + fl.length ≤ 1000 →
      (∀ q ∈ fl, env.scope.names.lookup q.prm = some .local ∧ binds.reverse.lookup q.prm = some q.v ∧ (q.prm == ("__debug__" : Str)) = false ∧ findIn K (.ref C) q.fld = some none ∧ swapsWith (.Name q.prm q.p8) (some (.Attribute (.Name "self" q.p6) q.fld q.p7)) q.p9.line env = pure false) →
      (∀ h' t' od' t1, (∀ b o, b ≠ e → hp.get? b = some o → h'.get? b = some o) → h'.get? e = some ({ cls := .ref C, dict := od', data := .fields #[.ref t1, .none, .none, .none, .bool false, .none] } : Obj) → Made hp h' e od' (putM m0 fl) → (od' = none ↔ od = none ∧ fl = []) → Q .next ⟨h', g, d, t', os⟩) →
      wpAny (model prog w) A' (execs (fl.map FE.st) env) Q E' ⟨h4, g, d, t4, os⟩ := by
  intro fl
  induction fl with
  | nil =>
    intro h4 t4 od m0 n X kk hns he hst hn hf hq
    obtain ⟨t1, he⟩ := he
    refine wpAny_execs_nil ?_
    refine hq h4 t4 od t1 kk he ?_ (by simp)
    rcases hst with ⟨a, b⟩ | ⟨dx, nl, a, b, c, _, c1, c2, c3⟩
    · exact .inl ⟨a, b⟩
    · exact .inr ⟨dx, nl, a, b, c, c1, c2, Nat.le_trans c3 (Nat.le_trans (Nat.le_add_right _ _) hn)⟩
  | cons q fl ih =>
    intro h4 t4 od m0 n X kk hns he hst hn hf hq
    obtain ⟨t1, he⟩ := he
    obtain ⟨f1, f2, f3, f4, f5⟩ := hf q (List.mem_cons_self ..)
    have X4 : K.In h4 := fun a o z => kk a o (hKe a o z) (X a o z)
    subst hloc
    show wpAny _ _ (execs (q.st :: fl.map FE.st) env) _ _ _
    refine wpAny_execs_cons (plainObj_wpAny_Assign_Attribute ?_ f5)
    refine wpAny_Name (wpAny_loadName_local hsk f1 hns f2 ?_) f3
    refine wpAny_Name (wpAny_loadName_local hsk hself hns lself ?_) (by decide)
    have rest : ∀ (h5 : Heap) (t5 : Nat) (dx : Addr) (nl : List Str), (∀ b o, b ≠ e → hp.get? b = some o → h5.get? b = some o) → h5.Ns env.locals (fun x => binds.reverse.lookup x) → (∃ t1, h5.get? e = some ({ cls := .ref C, dict := some dx, data := .fields #[.ref t1, .none, .none, .none, .bool false, .none] } : Obj)) → hp.objs.size ≤ dx → dx ≠ e → dx ≠ env.locals →
        h5.Ns1 dx (fun y => if y = q.fld then some q.v else m0 y) → Within (fun y => if y = q.fld then some q.v else m0 y) nl → nl.length ≤ n + 1 → wpAny (model prog w) A' (execs (fl.map FE.st) env) Q E' ⟨h5, g, d, t5, os⟩ := fun h5 t5 dx nl k5 n5 e5 d1 d2 d3 d4 d5 d6 =>
      ih h5 t5 (some dx) _ (n + 1) X k5 n5 e5 (.inr ⟨dx, nl, rfl, d1, d2, d3, d4, d5, d6⟩) (by rw [List.length_cons] at hn; omega) (fun q' hq' => hf q' (List.mem_cons_of_mem _ hq')) fun h' t' od' t1 a1 a2 a3 a4 => hq h' t' od' t1 a1 a2 a3 (by simp at a4 ⊢; exact a4)
    rcases hst with ⟨rfl, rfl⟩ | ⟨dx, nl, rfl, b1, b2, b3, c1, c2, c3⟩
    · refine set_plain X4 (ox := { cls := .ref C, dict := none, data := .fields #[.ref t1, .none, .none, .none, .bool false, .none] }) (od := none) ⟨he, rfl, rfl, trivial⟩ sa ?_
      refine osa_first BS X4 he hcd hm hh f4 (fun h5 tk5 dx k5 dn dne hx5 hn5 => ?_)
      have zl : env.locals < h4.objs.size := hns.lt
      refine rest h5 tk5 dx [q.fld] (fun b o hb z => k5 b o hb (kk b o hb z)) (hns.at fun o z => k5 _ o hLe z) ⟨t1, hx5⟩ (Nat.le_trans hL (Nat.le_trans (Nat.le_of_lt zl) dn)) dne (Nat.ne_of_gt (Nat.lt_of_lt_of_le zl dn)) hn5 (within_put (m := fun _ => none) Within.nil) (by simp)
    · obtain ⟨oD, esD, epD, hoD, _⟩ := c1.count c2
      refine set_plain X4 (ox := { cls := .ref C, dict := some dx, data := .fields #[.ref t1, .none, .none, .none, .bool false, .none] }) (od := some oD) ⟨he, rfl, rfl, hoD⟩ sa ?_
      refine osa_more BS X4 he c1 c2 (by omega) hcd hm hh f4 (fun h5 tk5 k5 hn5 => ?_)
      refine rest h5 tk5 dx (q.fld :: nl) (fun b o hb z => k5 b o (fun y => ?_) (kk b o hb z)) (hns.at fun o z => k5 _ o (Ne.symm b3) z) ⟨t1, k5 _ _ (Ne.symm b2) he⟩ b1 b2 b3 hn5 (within_put c2) (by simp only [List.length_cons]; omega)
      rw [y] at z
      exact absurd (Heap.lt_size z) (Nat.not_lt.mpr b1)
/-- super().__init__("txt"), then the fields -/
theorem init_gen (BS : Bas B newId initId bmB) {fl : List FE} (X : K.In hp) (hg : hp.Ns mainGlobals mg) (hb : hp.Ns builtinsNs mb) (hmb : mb "super" = some (.type "super")) (hsuper : mg "super" = none) (lim : hp.NoLimit) (hroom : A.depth < recursionLimit)
    (lk : K.lookup f = some ⟨oc, od, .func (ksFn name qual params (s1 txt p0 p1 p2 p3 p4 p5 k :: fl.map FE.st) scope dV kV doc pm an (.ref cda) ct cc), osl⟩) (hcd : codeIn K (.ref cda) qual = true)
    (hpar : (params.posonlyargs ++ params.args).head? = some ar) (har : ar.arg = "self")
    (hcode : K.lookup cda = some ⟨ccl, cdd, .fields vs, ccs⟩) (hvs : vs[2]? = some (.str file tf)) (hfile : ((prog.main.file : Str) == file) = true) (htop : (prog.main.scope.names.lookup ("super" : Str)).isSome = false)
    (hcell : K.lookup cc = some ⟨cl, cld, .cell (some (.ref C)), csl⟩)
    (hsc : ∀ x ∈ scope.names, x.2 ≠ .cell) (hs1 : scope.names.lookup ("super" : Str) = some .globalImplicit) (hs2 : scope.names.lookup ("__class__" : Str) = some .free) (hs3 : scope.names.lookup ("self" : Str) = some .local) (hbl : ∀ y ∈ binds, scope.names.lookup y.1 = some .local)
    (hsk : scope.kind = .function) (hco : scope.isCoroutine = false) (hgen : scope.isGenerator = false)
    {nm q : Str} {N : Addr} {bs : List Value} {sn : List Str} {sub : List Value} {ab : Bool} {col : Option Bool} {dd : Option Addr} {k0 k1 k2 k3 k5 : Option Value}
    (hC : K.lookup C = some (excClassObj nm q C N bs bmB true sn sub ab col dd k0 k1 k2 k3 k5 newId)) (sa : findIn K (.ref C) "__setattr__" = some (some (.builtin "object.__setattr__")))
    (hop : nsIn K cStatics "thirdparty.any" = some none) (hsup : ks_superIn K C C "__init__" = some (some (.builtin initId))) (hB : subIn K (.ref C) (.type B) = some true) (hself : mroIn K C (.ref C) = some true)
    (he : hp.get? e = some ({ cls := .ref C, dict := none, data := .fields #[.ref t0, .none, .none, .none, .bool false, .none] } : Obj))
    (hKe : ∀ a o, K.lookup a = some o → a ≠ e) {us : List Value}
    (hbind : BindsTo ⟨hp, g, d, t, os⟩ (ksFn name qual params (s1 txt p0 p1 p2 p3 p4 p5 k :: fl.map FE.st) scope dV kV doc pm an (.ref cda) ct cc) ⟨.ref e :: us, []⟩ binds) (lself : binds.reverse.lookup ("self" : Str) = some (Value.ref e))
    (pl : Addr → Sem Bool) (env : Addr → Env) (henv : env = fun L => callEnv (ksFn name qual params (s1 txt p0 p1 p2 p3 p4 p5 k :: fl.map FE.st) scope dV kV doc pm an (.ref cda) ct cc) L f)
    (hi : ∀ L, interactive (env L) = false) (hw1 : ∀ L, swapsWith (c1 txt p0 p1 p2 p3 p4 k) none p5.line (env L) = pure false)
    (hfl : ∀ q ∈ fl, scope.names.lookup q.prm = some .local ∧ binds.reverse.lookup q.prm = some q.v ∧ (q.prm == ("__debug__" : Str)) = false ∧ findIn K (.ref C) q.fld = some none ∧ ∀ L, swapsWith (.Name q.prm q.p8) (some (.Attribute (.Name "self" q.p6) q.fld q.p7)) q.p9.line (env L) = pure false) (hfn : fl.length ≤ 100)
    (hev : ∀ L, eval (c1 txt p0 p1 p2 p3 p4 k) (env L) = (do
      let ov ← attributeBase (.Call (.Name "super" p0) [] [] p1) "__init__" (env L) (eval (.Call (.Name "super" p0) [] [] p1) (env L))
      standAt p2.atName
      let (f, first) ← holding [ov] (getMethod ov "__init__" (pl L))
      callWith p4 f first (backTo p4 (starEach [.Constant (.str txt) k p3] (env L))) []))
    (hst : ∀ L, starEach [.Constant (.str txt) k p3] (env L) = [(false, eval (.Constant (.str txt) k p3) (env L))])
    (hq : ∀ h' t' od' t1, (∀ b o, b ≠ e → hp.get? b = some o → h'.get? b = some o) → h'.get? e = some ({ cls := .ref C, dict := od', data := .fields #[.ref t1, .none, .none, .none, .bool false, .none] } : Obj) → Made hp h' e od' (putM (fun _ => none) fl) → (od' = none ↔ fl = []) → R (.ok (.ret .none)) ⟨h', g, d, t', os⟩) :
    codeAny (model prog w) A (.call (.ref f) ⟨.ref e :: us, []⟩) R ⟨hp, g, d, t, os⟩ := by
  have hcl : clsIn K C = some { name := nm, bases := bs, mro := .ref C :: bmB, ns := N, qualname := q, hasDict := true, slotNames := sn, subclasses := sub, abstract := ab, collection := col, hasDel := false } := by unfold clsIn; rw [hC] <;> rfl
  refine ks_codeAny_call_defAt (fd := ksFn name qual params (s1 txt p0 p1 p2 p3 p4 p5 k :: fl.map FE.st) scope dV kV doc pm an (.ref cda) ct cc) (body := s1 txt p0 p1 p2 p3 p4 p5 k :: fl.map FE.st) (binds := binds)
    hroom (X _ _ lk) rfl lim (codeRec_of X hcd) rfl hbind hsc hbl (fun h1 hns hk1 => ?_) hco hgen hsk
  have X1 : K.In h1 := X.keeps hk1
  have he1 := hk1 _ _ he
  have ee : ∀ L, callEnv (ksFn name qual params (s1 txt p0 p1 p2 p3 p4 p5 k :: fl.map FE.st) scope dV kV doc pm an (.ref cda) ct cc) L f = env L := fun L => by rw [henv]
  show wpAt _ (A.deeper (callEnv _ hp.objs.size f)) (.func _ (callEnv _ hp.objs.size f)) (execs _ (callEnv _ hp.objs.size f)) _ _ _
  rw [ee hp.objs.size]
  have hk : (env hp.objs.size).scope = scope := by rw [henv]; rfl
  refine ks_wpAt_execs_cons (ks_wpAt_Expr_any (ks_wpAt_MethodCall (pl := pl hp.objs.size) ?_ (hev _)) (hi _) (hw1 _))
  rw [← ee hp.objs.size]
  refine ks_wpAt_super_base hs1 hs2 (by decide) rfl (X1 _ _ lk) rfl hpar rfl (X1 _ _ hcode) rfl hvs hfile htop ?_
  refine ks_loadName_global hsk hs1 (loadGlobal_builtin (hg.keeps hk1) hsuper (hb.keeps hk1) hmb ⟨rfl, ?_⟩)
  refine wpAny_loadName_free hsk hs2 rfl ⟨_, X1 _ _ hcell, rfl⟩ ?_
  rw [har]
  refine wpAny_loadName_local hsk hs3 hns lself ?_
  refine ks_wpAny_isType_cls (X1 _ _ hC) rfl ⟨rfl, ?_⟩
  refine ks_wpAny_call_super (X1 _ _ hC) rfl he1 rfl (fun c z => nomatch z) (looks_mroIn X1 hself) (fun h2 hso k2' => ?_)
  have X2 : K.In h2 := X1.keeps k2'
  have he2 := k2' _ _ he1
  have hns2 := hns.keeps k2'
  have I2 : InstAt h2 e ({ cls := .ref C, dict := none, data := .fields #[.ref t0, .none, .none, .none, .bool false, .none] } : Obj) C none := ⟨he2, rfl, rfl, trivial⟩
  have hsup' : alongIn K "__init__" (((Value.ref C :: bmB).dropWhile (· != .ref C)).drop 1) = some (some (.builtin initId)) := by
    unfold ks_superIn at hsup
    rw [hcl] at hsup
    exact hsup
  refine kxs_getMethod BS.kx hso (looks_opaque X2 hop) (l₀ := Value.ref C :: bmB) (fun A Q E s k q => wpAny_bind ((looks_clsIn X2 hcl) A _ E s k (wpAny_pure q))) rfl X2 hsup' (I2.type.andThen (looks_subIn X2 hB)) (ks_ne X2 I2 hcl) (by decide) ?_
  have k3' : ∀ b o, h2.get? b = some o → (h2.push (kxs_mw initId e)).get? b = some o := fun b o z => Heap.get?_push_of_some _ z
  have hu : (h2.push (kxs_mw initId e)).get? h2.objs.size = some (kxs_mw initId e) := Heap.get?_push_at rfl rfl
  generalize hh3 : h2.push (kxs_mw initId e) = h3 at k3' hu
  have X3 : K.In h3 := X2.keeps k3'
  have he3 := k3' _ _ he2
  have hns3 := hns2.keeps k3'
  have kk3 : ∀ b o, hp.get? b = some o → h3.get? b = some o := fun b o z => k3' b o (k2' b o (hk1 b o z))
  show wpAny _ _ (callWith p4 (.ref h2.objs.size) [] (backTo p4 (starEach [.Constant (.str txt) k p3] _)) []) _ _ _
  rw [ee hp.objs.size, hst]
  refine kxs_callWith (i := initId) (x := e) rfl (evalArgs_plain (spliced_cons (Constant_str (pos := p3) (k := k) (spliced_nil ⟨hu, ?_⟩))))
  have FB := BS.fb
  refine wpAny_call (codeAny_of_tree ?_)
  show wpAny _ (A.deeper (env hp.objs.size)).in1 (callAny (.ref h2.objs.size) ⟨[.str txt _], []⟩) _ _ _
  simp only [callAny]
  refine wpAny_bind (wpAny_load hu ?_)
  simp only [kxs_mw, show (Value.type "method-wrapper" == Value.type "method" || Value.type "method-wrapper" == Value.type "builtin_function_or_method" || Value.type "method-wrapper" == Value.type "method-wrapper") = true by decide, if_true]
  refine KFB.if_so (by decide) ?_
  refine wpAny_bind (check_bound_init FB.toExcCallFacts (X3 _ _ hC) he3 rfl ?_)
  refine wpAny_bind (wpAny_pure (wpAny_pure ?_))
  refine ⟨plainId_quiet FB.init.plain _, codeAny_builtin FB.initEntry ?_⟩
  refine exc_init_tree (cls := .ref C) (t0 := t0) (dv := none) (c2 := .none) (c3 := .none) (b4 := .bool false) he3 (by show 1 ≤ sizeLine; decide) (fun h4 k4' he4 _ => ?_)
  -- the fields
  have eL : hp.objs.size ≠ e := Nat.ne_of_gt (Heap.lt_size he)
  have kk4 : ∀ b o, b ≠ e → hp.get? b = some o → h4.get? b = some o := fun b o hb z => k4' b o hb (kk3 b o z)
  have hns4 : h4.Ns hp.objs.size (fun x => binds.reverse.lookup x) := hns3.at fun o z => k4' _ o eL z
  have he4' : h4.get? e = some ({ cls := .ref C, dict := none, data := .fields #[.ref h3.objs.size, .none, .none, .none, .bool false, .none] } : Obj) := he4
  show wpAt _ _ _ (execs (fl.map FE.st) (env hp.objs.size)) _ _ _
  refine wpAt_of_wpAny (flds_run BS hcl rfl rfl (by rw [hk]; exact hsk) (by rw [hk]; exact hs3) (L := hp.objs.size) (by rw [henv]; rfl) sa lself hKe (Nat.le_refl _) eL fl h4 _ none (fun _ => none) 0 X kk4 hns4 ⟨_, he4'⟩ (.inl ⟨rfl, rfl⟩) (by omega) (fun q hq' => ?_) fun h' t' od' t1 k' e' m' z' => ?_)
  · obtain ⟨f1, f2, f3, f4, f5⟩ := hfl q hq'
    exact ⟨by rw [hk]; exact f1, f2, f3, f4, f5 _⟩
  · exact hq h' t' od' t1 k' e' m' (by simpa using z')
end
def putZ (m : Str → Option Value) : List Str → List Value → (Str → Option Value)
  | f :: fs, v :: vs => putZ (fun y => if y = f then some v else m y) fs vs
  | _, _ => m
/-- what a call of the class's __init__ does: the object gets its fields -/
def InitOkN (prog : Program) (w : World) (K : Frag) (mg : Str → Option Value) (C f : Addr) (fls : List Str) : Prop :=
  ∀ (A : Around) (R : Result → Shared → Prop) (hp : Heap) (g : Array GenState) (d : Drawn) (t : Nat) (os : OsState) (e t0 : Addr) (us : List Value) (mb : Str → Option Value), us.length = fls.length → K.In hp → hp.Ns mainGlobals mg → hp.Ns builtinsNs mb → mb "super" = some (.type "super") → hp.NoLimit →
    A.depth < recursionLimit → (∀ a o, K.lookup a = some o → a ≠ e) → hp.get? e = some ({ cls := .ref C, dict := none, data := .fields #[.ref t0, .none, .none, .none, .bool false, .none] } : Obj) →
    (∀ h' t' od t1, (∀ b o, b ≠ e → hp.get? b = some o → h'.get? b = some o) → h'.get? e = some ({ cls := .ref C, dict := od, data := .fields #[.ref t1, .none, .none, .none, .bool false, .none] } : Obj) → Made hp h' e od (putZ (fun _ => none) fls us) → (od = none ↔ fls = []) → R (.ok (.ret .none)) ⟨h', g, d, t', os⟩) →
    codeAny (model prog w) A (.call (.ref f) ⟨.ref e :: us, []⟩) R ⟨hp, g, d, t, os⟩
end PxE
end PySem
namespace L2
open PySem PySem.Spec PyProof.Rows
/-- what the written part says of such a class -/
structure OexN (K : PySem.W.Frag) (C : Addr) (newId : String) (bmB : List Value) : Prop where
  cls : ∃ nm q N bs sn sub ab col dd k0 k1 k2 k3 k5, K.lookup C = some (excClassObj nm q C N bs bmB true sn sub ab col dd k0 k1 k2 k3 k5 newId)
  sa : PySem.W.findIn K (.ref C) "__setattr__" = some (some (.builtin "object.__setattr__"))
  exC : PySem.W.subIn K (.ref C) (.type "BaseException") = some true
  tyC : PySem.W.typeIn K (.ref C) = some (.type "type")
  kC : PySem.W.keepIn K (.ref C) = true
def zipX (acc : List (Str × V)) : List Str → List V → List (Str × V)
  | f :: fs, v :: vs => zipX ((f, v) :: acc) fs vs
  | _, _ => acc
theorem relO_zip : ∀ {fls : List Str} {vs : List V} {us : List Value} {acc : List (Str × V)} {m : Str → Option Value}, Vals vs us → (∀ g, RelO (acc.lookup g) (m g)) → ∀ g, RelO ((zipX acc fls vs).lookup g) (PySem.PxE.putZ m fls us g)
  | [], _, _, _, _, _, h => by
    intro g
    simp only [zipX, PySem.PxE.putZ]
    exact h g
  | f :: fs, [], [], _, _, _, h => h
  | f :: fs, v :: vs, u :: us, acc, m, .cons rv rr, h => relO_zip (fls := fs) rr (relO_put rv h)
/-- C(e, ..), C's own __init__ keeping its arguments as the fields fls -/
def tMkN (C : Addr) (fls : List Str) (ta : TA) : St → Hp → XK → Prop := fun σ H Q => ta σ H fun vs H1 => vs.length = fls.length ∧ (fls = [] → Q (.ref C) none H1) ∧ (fls ≠ [] → ∀ d, H1 d = none → Q (.ref C) (some d) (upd H1 d (.xd (zipX [] fls vs))))
section
variable {X : Cx} {x : Str} {C fI : Addr} {k : Nat} {fls : List Str} {B newId initId : String} {bmB : List Value} {pos p : Pos}
theorem mk_run {pins : List (Addr × Obj)} {σ : St} {H1 : Hp} {Q : XK} {s1 : Shared} {us : List Value} {vs : List V} (BS : PySem.PxE.Bas B newId initId bmB) (T : OexN X.K C newId bmB) (iC : PySem.W.findIn X.K (.ref C) "__init__" = some (some (.ref fI))) (tI : PySem.W.typeIn X.K (.ref fI) = some (.type "function"))
    (IO : PySem.PxE.InitOkN X.prog X.w X.K X.mg C fI fls) (hr : Room (k + 1) X.A) (I1 : Inv X pins σ H1 s1) (r1 : Vals vs us) (hl : vs.length = fls.length) (hfl : fls.length ≤ 100)
    (q0 : fls = [] → Q (.ref C) none H1) (q1 : fls ≠ [] → ∀ d, H1 d = none → Q (.ref C) (some d) (upd H1 d (.xd (zipX [] fls vs)))) :
    wpAny (model X.prog X.w) X.A (call (.ref C) us) (MkP X pins σ Q) X.xe s1 := by
  obtain ⟨nm, q, N, bs, sn, sub, ab, col, dd, k0, k1, k2, k3, k5, hC⟩ := T.cls
  have ul : us.length = fls.length := r1.length.symm.trans hl
  obtain ⟨hp, g, dr, tk, os⟩ := s1
  have kk : ∀ b o, hp.get? b = some o → ((hp.push (PySem.W.kdv_tup us)).push (PySem.HandSPX.excO C hp.objs.size)).get? b = some o := fun b o e => Heap.get?_push_of_some _ (Heap.get?_push_of_some _ e)
  have hget : ((hp.push (PySem.W.kdv_tup us)).push (PySem.HandSPX.excO C hp.objs.size)).get? (hp.objs.size + 1) = some (PySem.HandSPX.excO C hp.objs.size) := by heap_get
  have e0 := I1.env0
  obtain ⟨mb, hmb, hmv⟩ := e0.mod.blt
  have hus : us.length ≤ sizeLine := by rw [ul, sizeLine_eq]; omega
  have old : ∀ b o, hp.get? b = some o → b ≠ hp.objs.size + 1 := fun b o z => Nat.ne_of_lt (Nat.lt_succ_of_lt (Heap.lt_size z))
  refine wpAny_call (PySem.HandSPX.call_own BS.fb (fun Y => rfl) (I1.kIn _ _ hC) (PySem.W.looks_findIn I1.kIn iC) (fun self => PySem.W.bind_fn I1.kIn self tI) hus ?_)
  have szp : ((hp.push (PySem.W.kdv_tup us)).push (PySem.HandSPX.excO C hp.objs.size)).objs.size = hp.objs.size + 2 := by rw [Heap.size_push, Heap.size_push]
  generalize hpp : (hp.push (PySem.W.kdv_tup us)).push (PySem.HandSPX.excO C hp.objs.size) = hp2 at *
  have kb : ∀ b o, X.base.get? b = some o → hp2.get? b = some o := fun b o z => kk b o (e0.bs b o z).1
  have bs2 : mb "super" = some (.type "super") := (hmv _ (by decide +kernel)).trans (by first | boot_by_name | rfl | kernel_rfl)
  refine IO _ _ hp2 g dr _ os (hp.objs.size + 1) hp.objs.size us mb ul (I1.kIn.keeps kk) (e0.mod.glob.keeps kb) (hmb.keeps kb) bs2 (e0.mod.nolimit.keeps kb) (hr.make C us []).depth (fun b o z => old b o (I1.kIn b o z)) hget (fun h' t' od t1 k' hx hm hz => ?_)
  have all : ∀ b o, hp.get? b = some o → h'.get? b = some o := fun b o z => k' b o (old b o z) (kk b o z)
  obtain ⟨G', g1, g2⟩ := restrict h' fun b => decide (b ≠ hp.objs.size + 1)
  have gk : ∀ b, b ≠ hp.objs.size + 1 → G'.get? b = h'.get? b := fun b hb => g1 b (decide_eq_true hb)
  have ge : G'.get? (hp.objs.size + 1) = none := g2 _ (by simp)
  have oldG : ∀ b o, hp.get? b = some o → G'.get? b = some o := fun b o z => (gk b (old b o z)).trans (all b o z)
  have back : ∀ b o, G'.get? b = some o → h'.get? b = some o := fun b o z => by
    by_cases hb : b = hp.objs.size + 1
    · rw [hb, ge] at z; cases z
    · exact (gk b hb).symm.trans z
  have na : H1 (hp.objs.size + 1) = none := I1.hok.fresh (Nat.le_succ _)
  have ra := raises_own T.exC T.tyC
  by_cases hf : fls = []
  · subst hf
    have us0 : us = [] := List.length_eq_zero_iff.mp ul
    subst us0
    rcases hm with ⟨rfl, _⟩ | ⟨dx, nl, rfl, d1, d2, d3, d4, d5⟩
    · have J : Inv X pins σ H1 ⟨G', g, dr, t', os⟩ := I1.kept (t' := t') oldG
      exact ⟨rfl, hp.objs.size + 1, _, _, ⟨G', g, dr, t', os⟩, H1, .ref C, none, rfl, J, back, ge, hx, ⟨rfl, rfl⟩, rfl, rfl, na, rfl, I1.bare, ra, q0 rfl⟩
    · cases hz.mpr rfl
  · rcases hm with ⟨rfl, hm⟩ | ⟨dx, nl, rfl, d1, d2, d3, d4, d5⟩
    · exact absurd (hz.mp rfl) hf
    · have dbig : hp.objs.size ≤ dx := by rw [szp] at d1; omega
      have ob : ObjOk X.prog X.w (upd H1 dx (.xd (zipX [] fls vs))) G' dx (.xd (zipX [] fls vs)) := ⟨_, d3.at (fun o q => (gk dx d2).trans q), relO_zip (acc := []) r1 fun g => True.intro⟩
      have J : Inv X pins σ (upd H1 dx (.xd (zipX [] fls vs))) ⟨G', g, dr, t', os⟩ := I1.laid (t' := t') oldG dbig ob
      exact ⟨rfl, hp.objs.size + 1, _, _, ⟨G', g, dr, t', os⟩, _, .ref C, some dx, rfl, J, back, ge, hx, ⟨rfl, rfl⟩, rfl, rfl, by rw [upd_ne (Ne.symm d2)]; exact na, rfl, I1.bare, ra, q1 hf dx (I1.hok.fresh dbig)⟩
theorem pmk_errN {e : Expr} {es : List Expr} {ta : TA} (BS : PySem.PxE.Bas B newId initId bmB) (T : OexN X.K C newId bmB) (iC : PySem.W.findIn X.K (.ref C) "__init__" = some (some (.ref fI))) (tI : PySem.W.typeIn X.K (.ref fI) = some (.type "function"))
    (IO : PySem.PxE.InitOkN X.prog X.w X.K X.mg C fI fls) (hr : Room (k + 1) X.A) (hg : Gl X x) (hm : X.mg x = some (.ref C)) (ha : PA X (e :: es) ta) (hfl : fls.length ≤ 100)
    (hdb : (x == ("__debug__" : Str)) = false := by decide) (he : starEach (e :: es) X.env = (false, eval e X.env) :: starEach es X.env := by rfl) (hpl : (backTo pos (starEach es X.env)).any (·.1) = false := by rfl) :
    PMk X (.Call (.Name x p) (e :: es) [] pos) (tMkN C fls ta) := by
  intro pins s σ H Q I h
  refine wpAny_Call_Name_kw (ld_glob I hg hm ?_ hdb)
  refine PySem.W.callWith_K (h₀ := X.base) I.ok.mod.kin T.kC (thn (ha.run pos pins s σ H _ I h) fun us s1 ⟨vs, H1, I1, r1, l1, q0, q1⟩ => ⟨I1.kIn, ?_⟩) he hpl
  exact mk_run BS T iC tI IO hr I1 r1 l1 hfl q0 q1
theorem pmk_errN0 (BS : PySem.PxE.Bas B newId initId bmB) (T : OexN X.K C newId bmB) (iC : PySem.W.findIn X.K (.ref C) "__init__" = some (some (.ref fI))) (tI : PySem.W.typeIn X.K (.ref fI) = some (.type "function"))
    (IO : PySem.PxE.InitOkN X.prog X.w X.K X.mg C fI []) (hr : Room (k + 1) X.A) (hg : Gl X x) (hm : X.mg x = some (.ref C)) (hdb : (x == ("__debug__" : Str)) = false := by decide) : PMk X (.Call (.Name x p) [] [] pos) (tMkN C [] tNil) := by
  intro pins s σ H Q I h
  obtain ⟨l1, q0, q1⟩ := h
  refine wpAny_Call_Name_kw (ld_glob I hg hm ?_ hdb)
  exact PySem.W.callWith_K0 I.kIn T.kC (mk_run (us := []) (vs := []) BS T iC tI IO hr I .nil l1 (by decide) q0 q1)
end
end L2

namespace Px
open PySem PySem.Spec PyProof.Rows L2 He
/-! ### the head's facts of own errors over any base, any fields -/
structure ErrN where
  cls : Str
  flds : List Str
  qul : Str
  par : Arguments
  bdy : List Stmt
  scp : Scope
  fil : Str
  base : String
  newId : String
  initId : String
  bmB : List Value
def ErrN.C (d : ErrN) (K : PySem.W.Frag) : Addr := ga K d.cls
def ErrN.f (d : ErrN) (K : PySem.W.Frag) : Addr := ma K (ga K d.cls) "__init__"
def ErrN.sees (K : PySem.W.Frag) (d : ErrN) : FnW := match K.lookup (d.f K) with
  | some ⟨_, _, .func fd, _⟩ => some (fd.name, fd.qualname, fd.params, fd.body, fd.scope, fd.globals, fd.closure.map (fun q => (q.1, 0)), fd.builtins)
  | _ => none
def ErrN.due (d : ErrN) : FnW := some ("__init__", d.qul, d.par, .stmts d.bdy, d.scp, mainGlobals, [("__class__", 0)], builtinsNs)
def ecN (K : PySem.W.Frag) (C : Addr) (newId : String) (bmB : List Value) : Bool := match K.lookup C with
  | some ⟨.type "type", _, .cls cd, sl⟩ => (match sl.toList with
    | [_, _, _, _, some (.builtin n), _] => decide (cd.mro = .ref C :: bmB) && (n == newId && (!cd.hasDel && cd.hasDict))
    | _ => false)
  | _ => false
theorem ecN_ok {K : PySem.W.Frag} {C : Addr} {newId : String} {bmB : List Value} (q : ecN K C newId bmB = true) : ∃ nm q N bs sn sub ab col dd k0 k1 k2 k3 k5, K.lookup C = some (excClassObj nm q C N bs bmB true sn sub ab col dd k0 k1 k2 k3 k5 newId) := by
  unfold ecN at q
  split at q
  · rename_i dd cd sl ho
    split at q
    · rename_i k0 k1 k2 k3 n k5 hs
      simp only [Bool.and_eq_true, beq_iff_eq, Bool.not_eq_true', decide_eq_true_eq] at q
      obtain ⟨hm, rfl, hdel, hdict⟩ := q
      obtain ⟨nm, bs, mro, ns, qn, hd, sn, sub, ab, col, del⟩ := cd
      dsimp only at hm hdel hdict
      subst hm hdel hdict
      have hsl : sl = #[k0, k1, k2, k3, some (.builtin n), k5] := by
        obtain ⟨l⟩ := sl
        simp only at hs
        rw [hs]
      subst hsl
      exact ⟨nm, qn, ns, bs, sn, sub, ab, col, dd, k0, k1, k2, k3, k5, ho⟩
    · cases q
  · cases q
def ErrN.good (K : PySem.W.Frag) (d : ErrN) : Bool := (Fa.glo d.cls).ok K && (ecN K (d.C K) d.newId d.bmB && (eqO (PySem.W.findIn K (.ref (d.C K)) "__setattr__") (some (some (.builtin "object.__setattr__"))) &&
  (decide (PySem.W.subIn K (.ref (d.C K)) (.type "BaseException") = some true) && (decide (PySem.W.typeIn K (.ref (d.C K)) = some (.type "type")) && (PySem.W.keepIn K (.ref (d.C K)) && (xfB K (d.C K) &&
  ((d.flds.all fun x => eqO (PySem.W.findIn K (.ref (d.C K)) x) (some none)) && (eqO (PySem.W.findIn K (.ref (d.C K)) "__init__") (some (some (.ref (d.f K)))) && (decide (PySem.W.typeIn K (.ref (d.f K)) = some (.type "function")) &&
  (decide (PySem.W.exmOne K (.ref (d.C K)) (.ref (d.C K)) = some true) && (eqO (PySem.W.nsIn K cStatics "thirdparty.any") (some none) && (decide (PySem.W.ks_superIn K (d.C K) (d.C K) "__init__" = some (some (.builtin d.initId))) &&
  (decide (PySem.W.subIn K (.ref (d.C K)) (.type d.base) = some true) && (decide (PySem.W.mroIn K (d.C K) (.ref (d.C K)) = some true) && ((eqO (PySem.W.findIn K (.ref (d.C K)) "__class__") (some (some (.builtin "object.__class__"))) &&
  (eqO (PySem.W.specialIn K (.builtin "object.__class__") "__get__") (some (some (.builtin "getset_descriptor.__get__"))) && (decide (PySem.W.takesIn K (.builtin "object.__class__") = some true) && decide (PySem.W.mroIn K (d.C K) (.type "object") = some true)))) && (match K.lookup (d.f K) with
    | some ⟨_, _, .func fd, _⟩ => PySem.W.codeIn K fd.code d.qul && (codeB K d.fil fd.code && (cellB K (d.C K) fd.closure && (decide (fd.defaults = .none) && decide (fd.kwdefaults = .none))))
    | _ => false))))))))))))))))
/-- what isinstance asks -/
structure ExcA (K : PySem.W.Frag) (C : Addr) : Prop where
  xf : XfC K C
  ha : PySem.W.findIn K (.ref C) "__class__" = some (some (.builtin "object.__class__"))
  hn : PySem.W.specialIn K (.builtin "object.__class__") "__get__" = some (some (.builtin "getset_descriptor.__get__"))
  ht : PySem.W.takesIn K (.builtin "object.__class__") = some true
  hm : PySem.W.mroIn K C (.type "object") = some true
structure ErrG (K : PySem.W.Frag) (d : ErrN) (C f : Addr) : Prop where
  glo : (Fa.glo d.cls).ok K = true
  Ce : C = ga K d.cls
  oex : OexN K C d.newId d.bmB
  ea : ExcA K C
  noF : ∀ x ∈ d.flds, PySem.W.findIn K (.ref C) x = some none
  iC : PySem.W.findIn K (.ref C) "__init__" = some (some (.ref f))
  tI : PySem.W.typeIn K (.ref f) = some (.type "function")
  te : PySem.W.exmOne K (.ref C) (.ref C) = some true
  hop : PySem.W.nsIn K cStatics "thirdparty.any" = some none
  hsup : PySem.W.ks_superIn K C C "__init__" = some (some (.builtin d.initId))
  hB : PySem.W.subIn K (.ref C) (.type d.base) = some true
  hself : PySem.W.mroIn K C (.ref C) = some true
  fn : ∃ oc od doc pm an cda ct cc osl ccl cdd ccs vs tf cl cld csl, K.lookup f = some ⟨oc, od, .func (PySem.W.ksFn "__init__" d.qul d.par d.bdy d.scp .none .none doc pm an (.ref cda) ct cc), osl⟩ ∧ PySem.W.codeIn K (.ref cda) d.qul = true ∧
    K.lookup cda = some ⟨ccl, cdd, .fields vs, ccs⟩ ∧ vs[2]? = some (.str d.fil tf) ∧ K.lookup cc = some ⟨cl, cld, .cell (some (.ref C)), csl⟩
theorem ErrN.ok {K : PySem.W.Frag} {d : ErrN} (e : d.sees K = d.due) (c : d.good K = true) : ErrG K d (d.C K) (d.f K) := by
  unfold ErrN.good at c
  obtain ⟨c0, c⟩ := ba c
  obtain ⟨c1, c⟩ := ba c
  obtain ⟨c2, c⟩ := ba c
  obtain ⟨c3, c⟩ := ba c
  obtain ⟨c4, c⟩ := ba c
  obtain ⟨c5, c⟩ := ba c
  obtain ⟨c6, c⟩ := ba c
  obtain ⟨c7, c⟩ := ba c
  obtain ⟨c8, c⟩ := ba c
  obtain ⟨c9, c⟩ := ba c
  obtain ⟨c10, c⟩ := ba c
  obtain ⟨c11, c⟩ := ba c
  obtain ⟨c12, c⟩ := ba c
  obtain ⟨c13, c⟩ := ba c
  obtain ⟨c14, c⟩ := ba c
  obtain ⟨c16, c15⟩ := ba c
  obtain ⟨b1, b⟩ := ba c16
  obtain ⟨b2, b⟩ := ba b
  obtain ⟨b3, b4⟩ := ba b
  refine ⟨c0, rfl, ⟨ecN_ok c1, eqO_ok c2, of_decide_eq_true c3, of_decide_eq_true c4, c5⟩, ⟨xfB_ok c6, eqO_ok b1, eqO_ok b2, of_decide_eq_true b3, of_decide_eq_true b4⟩, fun x hx => eqO_ok (List.all_eq_true.mp c7 x hx), eqO_ok c8, of_decide_eq_true c9, of_decide_eq_true c10, eqO_ok c11, of_decide_eq_true c12, of_decide_eq_true c13, of_decide_eq_true c14, ?_⟩
  unfold ErrN.sees ErrN.due at e
  split at e
  · rename_i oc od fd osl q
    rw [q] at c15
    obtain ⟨k1, k⟩ := ba c15
    obtain ⟨k2, k⟩ := ba k
    obtain ⟨k3, k⟩ := ba k
    obtain ⟨k4, k5⟩ := ba k
    replace k4 := of_decide_eq_true k4
    replace k5 := of_decide_eq_true k5
    obtain ⟨n1, n2, n3, n4, n5, n6, n7, n8, n9, n10, n11, n12, n13, n14, n15⟩ := fd
    simp only [Option.some.injEq, Prod.mk.injEq] at e
    obtain ⟨h1, h2, h3, h4, h5, h6, h7, h8⟩ := e
    obtain ⟨cda, ccl, cdd, vs, ccs, tf, rfl, a1, a2⟩ := codeB_ok k2
    obtain ⟨cc, cl, cld, csl, b1, b2⟩ := cellB_ok k3 h7
    dsimp only at b1 k4 k5
    subst h1 h2 h3 h4 h5 h6 h8 b1 k4 k5
    exact ⟨oc, od, n10, n11, n12, cda, n14, cc, osl, ccl, cdd, ccs, vs, tf, cl, cld, csl, q, k1, a1, a2, b2⟩
  · cases e
/-! ### the hook -/
def obsN (fs : List Fact) (ds : List DefA) (es : List ErrN) (K : PySem.W.Frag) : AlA := ((fs.all fun f => f K) && ((ds.all fun d => d.good K) && es.all fun d => d.good K), ds.map (fun d => d.sees K) ++ es.map fun d => d.sees K)
def valN (ds : List DefA) (es : List ErrN) : AlA := (true, ds.map DefA.due ++ es.map ErrN.due)
def SaysN (fs : List Fact) (ds : List DefA) (es : List ErrN) (K : PySem.W.Frag) : Prop := obsN fs ds es K = valN ds es
def obsNG (n : Nat) (fs : List Fact) (ds : List DefA) (es : List ErrN) (g : Addr → Option Obj) : AlA := obsN fs ds es (frG g (cStatics :: asX g n))
def hookN (n : Nat) (fs : List Fact) (ds : List DefA) (es : List ErrN) : PySem.W.Hook where
  α := AlA
  obs := fun s => obsNG n fs ds es s.heap.get?
  val := fun _ => valN ds es
  says := fun _ h => ∃ K : PySem.W.Frag, K.In h ∧ SaysN fs ds es K
  of := fun _ _ e => ⟨_, frG_in, e⟩
  keeps := fun _ _ _ ⟨K, hK, c⟩ k => ⟨K, PySem.W.Frag.In.keeps hK k, c⟩
theorem obsNG_eq {n : Nat} {fs : List Fact} {ds : List DefA} {es : List ErrN} {g : Addr → Option Obj} {s : Shared} (h : ∀ a, g a = s.heap.get? a) : obsNG n fs ds es g = (hookN n fs ds es).obs s := by
  have e : g = s.heap.get? := funext h
  subst e
  rfl
section
variable {fs : List Fact} {ds : List DefA} {es : List ErrN} {K : PySem.W.Frag}
theorem SaysN.fact (c : SaysN fs ds es K) (i : Nat) {f : Fact} (h : fs[i]? = some f := by rfl) : f K = true := by
  have z : ((fs.all fun f => f K) && ((ds.all fun d => d.good K) && es.all fun d => d.good K)) = true := congrArg (fun z : AlA => z.1) c
  exact List.all_eq_true.mp (ba z).1 f (List.mem_of_getElem? h)
theorem SaysN.two (c : SaysN fs ds es K) : ds.map (fun d => d.sees K) = ds.map DefA.due ∧ es.map (fun d => d.sees K) = es.map ErrN.due := by
  have e : ds.map (fun d => d.sees K) ++ es.map (fun d => d.sees K) = ds.map DefA.due ++ es.map ErrN.due := congrArg (fun z : AlA => z.2) c
  exact List.append_inj e (by rw [List.length_map, List.length_map])
theorem SaysN.def_ (c : SaysN fs ds es K) (i : Nat) {d : DefA} (h : ds[i]? = some d := by rfl) : ∃ fd, FunD K d.nme d.qul d.par d.bdy d.scp (d.dV K) (d.kV K) (d.way K) fd := by
  have z : ((fs.all fun f => f K) && ((ds.all fun d => d.good K) && es.all fun d => d.good K)) = true := congrArg (fun z : AlA => z.1) c
  have e := c.two.1
  have e2 : (ds.map fun d => d.sees K)[i]? = (ds.map DefA.due)[i]? := by rw [e]
  rw [List.getElem?_map, List.getElem?_map, h] at e2
  exact DefA.fun_ (Option.some.inj e2) (List.all_eq_true.mp (ba (ba z).2).1 d (List.mem_of_getElem? h))
theorem SaysN.err (c : SaysN fs ds es K) (i : Nat) {d : ErrN} (h : es[i]? = some d := by rfl) : ErrG K d (d.C K) (d.f K) := by
  have z : ((fs.all fun f => f K) && ((ds.all fun d => d.good K) && es.all fun d => d.good K)) = true := congrArg (fun z : AlA => z.1) c
  have e := c.two.2
  have e2 : (es.map fun d => d.sees K)[i]? = (es.map ErrN.due)[i]? := by rw [e]
  rw [List.getElem?_map, List.getElem?_map, h] at e2
  exact ErrN.ok (Option.some.inj e2) (List.all_eq_true.mp (ba (ba z).2).2 d (List.mem_of_getElem? h))
end
/-- isinstance of errors: an answer -/
def fKit (D : Str) (c : PySem.W.Frag → Value) (b : Bool) : Fact := fun K => decide (PySem.W.kitOne K (.ref (ga K D)) (c K) = some b)
theorem fKit_ok {D : Str} {c : PySem.W.Frag → Value} {b : Bool} {K : PySem.W.Frag} (h : fKit D c b K = true) : PySem.W.kitOne K (.ref (ga K D)) (c K) = some b := of_decide_eq_true h
def fExm (D C : Str) (b : Bool) : Fact := fun K => decide (PySem.W.exmOne K (.ref (ga K D)) (.ref (ga K C)) = some b)
theorem fExm_ok {D C : Str} {b : Bool} {K : PySem.W.Frag} (h : fExm D C b K = true) : PySem.W.exmOne K (.ref (ga K D)) (.ref (ga K C)) = some b := of_decide_eq_true h
/-- isinstance(e, c), e the exception that the suite holds -/
def rIsX (K : PySem.W.Frag) (a : Addr) (cls : Value) (d : Option Addr) : List V → Hp → VK → Prop := fun xs H Q => ∃ (D : Addr) (c : V) (cv : Value) (b : Bool), xs = [.ref a, c] ∧ cls = .ref D ∧ ExcA K D ∧ (d = none ∨ ∃ dd fs, d = some dd ∧ H dd = some (.xd fs)) ∧ ClsV c cv ∧ PySem.W.kitOne K (.ref D) cv = some b ∧ Q (.bl b) H
theorem call_isX {X : Cx} {a : Addr} {cls : Value} {d : Option Addr} {oe : Obj} {pn : List (Addr × Obj)} (hz : Zc cls d oe) (hf : ∃ vs, oe.data = .fields vs) : CallR (X.suite a ((a, oe) :: pn)) (.builtin "isinstance") (rIsX X.K a cls d) := by
  intro pins s σ H xs us Q I r h
  obtain ⟨D, c, cv, b, rfl, rfl, C, hd, hcv, e, q⟩ := h
  obtain ⟨u1, u2, rfl, r1, r2⟩ := vals2 r
  obtain rfl : u1 = Value.ref a := r1
  have ec := hcv.eq r2
  subst ec
  obtain ⟨hget, _⟩ := I.pin (a, oe) (List.mem_append.mpr (.inl List.mem_cons_self))
  obtain ⟨vs, hv⟩ := hf
  have J : ∃ od, PySem.W.InstAt s.heap a oe D od := by
    rcases hd with rfl | ⟨dd, fs, rfl, hdd⟩
    · exact ⟨none, hget, hz.1, by unfold PySem.W.notCls; rw [hv] <;> rfl, by rw [hz.2]; trivial⟩
    · have hx : ObjOk X.prog X.w H s.heap dd (.xd fs) := I.hok dd _ hdd
      obtain ⟨mA, hns, hr⟩ := hx
      obtain ⟨od, ho, hl⟩ := lookIn_ns hns
      exact ⟨some od, hget, hz.1, by unfold PySem.W.notCls; rw [hv] <;> rfl, by rw [hz.2]; exact ho⟩
  obtain ⟨od, J⟩ := J
  have hcl : (PySem.W.clsIn X.K D).isSome = true := by
    have := C.xf.hdC
    unfold PySem.W.hasDictIn at this
    cases z : PySem.W.clsIn X.K D with
    | none => rw [z] at this; cases this
    | some _ => rfl
  exact PySem.W.kia_one (PySem.W.kitx_exc hcl C.xf.ga C.xf.gg C.xf.exC C.ha C.hn C.ht C.hm) I.kIn J e (fun z => nomatch z) fun tk => ⟨.bl b, H, I.kept (t' := tk) fun _ _ z => z, rfl, q⟩
end Px

namespace Px
open PySem PySem.Spec PyProof.Rows L2 He
/-! ### what is looked at, chosen: no duplicates are sought, classes are not walked along their mro -/
def dictRefs (g : Addr → Option Obj) (a : Addr) : List Addr := match g a with
  | some ⟨_, _, .dict es _, _⟩ => es.toList.flatMap fun e => refV e.val
  | _ => []
def funRefs (g : Addr → Option Obj) (a : Addr) : List Addr := match g a with
  | some ⟨_, _, .func fd, _⟩ => refV fd.code ++ refV fd.kwdefaults ++ refV fd.defaults ++ fd.closure.map (·.2)
  | _ => []
def topRefs (g : Addr → Option Obj) (a : Addr) : List Addr := match g a with
  | some ⟨_, _, .func fd, _⟩ => refV fd.code ++ refV fd.kwdefaults ++ refV fd.defaults ++ fd.closure.map (·.2)
  | some ⟨_, _, .cls cd, _⟩ => [cd.ns]
  | _ => []
def memRefs (g : Addr → Option Obj) (a : Addr) : List Addr := match g a with
  | some ⟨_, _, .func fd, _⟩ => refV fd.code ++ refV fd.kwdefaults ++ refV fd.defaults ++ fd.closure.map (·.2)
  | some ⟨_, _, .fields vs, _⟩ => vs.toList.flatMap refV
  | _ => []
def as1 (g : Addr → Option Obj) : List Addr := dictRefs g mainGlobals
def as2 (g : Addr → Option Obj) : List Addr := (as1 g).flatMap (topRefs g)
def as3 (g : Addr → Option Obj) : List Addr := (as2 g).flatMap (dictRefs g)
def as4 (g : Addr → Option Obj) : List Addr := (as3 g).flatMap (memRefs g)
def as5 (g : Addr → Option Obj) : List Addr := (as4 g).flatMap (funRefs g)
def asT (g : Addr → Option Obj) : List Addr := cStatics :: mainGlobals :: (as1 g ++ (as2 g ++ (as3 g ++ (as4 g ++ as5 g))))
def obsATG (fs : List Fact) (ds : List DefA) (g : Addr → Option Obj) : AlA := obsA fs ds (frG g (asT g))
def hookAT (fs : List Fact) (ds : List DefA) : PySem.W.Hook where
  α := AlA
  obs := fun s => obsATG fs ds s.heap.get?
  val := fun _ => valA ds
  says := fun _ h => ∃ K : PySem.W.Frag, K.In h ∧ SaysA fs ds K
  of := fun _ _ e => ⟨_, frG_in, e⟩
  keeps := fun _ _ _ ⟨K, hK, c⟩ k => ⟨K, PySem.W.Frag.In.keeps hK k, c⟩
theorem obsATG_eq {fs : List Fact} {ds : List DefA} {g : Addr → Option Obj} {s : Shared} (h : ∀ a, g a = s.heap.get? a) : obsATG fs ds g = (hookAT fs ds).obs s := by
  have e : g = s.heap.get? := funext h
  subst e
  rfl
def obsNTG (fs : List Fact) (ds : List DefA) (es : List ErrN) (g : Addr → Option Obj) : AlA := obsN fs ds es (frG g (asT g))
def hookNT (fs : List Fact) (ds : List DefA) (es : List ErrN) : PySem.W.Hook where
  α := AlA
  obs := fun s => obsNTG fs ds es s.heap.get?
  val := fun _ => valN ds es
  says := fun _ h => ∃ K : PySem.W.Frag, K.In h ∧ SaysN fs ds es K
  of := fun _ _ e => ⟨_, frG_in, e⟩
  keeps := fun _ _ _ ⟨K, hK, c⟩ k => ⟨K, PySem.W.Frag.In.keeps hK k, c⟩
theorem obsNTG_eq {fs : List Fact} {ds : List DefA} {es : List ErrN} {g : Addr → Option Obj} {s : Shared} (h : ∀ a, g a = s.heap.get? a) : obsNTG fs ds es g = (hookNT fs ds es).obs s := by
  have e : g = s.heap.get? := funext h
  subst e
  rfl
end Px

namespace Px
open PySem PySem.Spec PyProof.Rows L2
def topS (i : Nat) : Stmt := PySem.Challenge.pw_piecetexts_k13_writing_states.main.body.getD i (.Pass ⟨0, 0, 0, 0⟩)
abbrev s_is_integer : Stmt := topS 11
theorem sc_is_integer : FnScope ["value"] ["value"] (defScope s_is_integer) := ⟨rfl, rfl, rfl, by decide +kernel, rfl, by decide +kernel, by decide +kernel⟩
abbrev s_is_within : Stmt := topS 12
theorem sc_is_within : FnScope ["value", "low", "high"] ["value", "low", "high"] (defScope s_is_within) := ⟨rfl, rfl, rfl, by decide +kernel, rfl, by decide +kernel, by decide +kernel⟩
abbrev s_is_byte : Stmt := topS 13
theorem sc_is_byte : FnScope ["value"] ["value"] (defScope s_is_byte) := ⟨rfl, rfl, rfl, by decide +kernel, rfl, by decide +kernel, by decide +kernel⟩
abbrev s_is_sign : Stmt := topS 14
theorem sc_is_sign : FnScope ["value"] ["value"] (defScope s_is_sign) := ⟨rfl, rfl, rfl, by decide +kernel, rfl, by decide +kernel, by decide +kernel⟩
abbrev s_are_signs : Stmt := topS 15
theorem sc_are_signs : FnScope ["value", "character"] ["value"] (defScope s_are_signs) := ⟨rfl, rfl, rfl, by decide +kernel, rfl, by decide +kernel, by decide +kernel⟩
abbrev s_data_of : Stmt := topS 16
theorem sc_data_of : FnScope ["value", "index", "byte"] ["value"] (defScope s_data_of) := ⟨rfl, rfl, rfl, by decide +kernel, rfl, by decide +kernel, by decide +kernel⟩
abbrev s_Code_signs : Stmt := inClass (topS 28) 9
theorem sc_Code_signs : FnScope ["self"] ["self"] (defScope s_Code_signs) := ⟨rfl, rfl, rfl, by decide +kernel, rfl, by decide +kernel, by decide +kernel⟩
abbrev s_Code_width : Stmt := inClass (topS 28) 11
theorem sc_Code_width : FnScope ["self"] ["self"] (defScope s_Code_width) := ⟨rfl, rfl, rfl, by decide +kernel, rfl, by decide +kernel, by decide +kernel⟩
abbrev s_Code_bits : Stmt := inClass (topS 28) 12
theorem sc_Code_bits : FnScope ["self"] ["self"] (defScope s_Code_bits) := ⟨rfl, rfl, rfl, by decide +kernel, rfl, by decide +kernel, by decide +kernel⟩
abbrev s_Code_group : Stmt := inClass (topS 28) 13
theorem sc_Code_group : FnScope ["self"] ["self"] (defScope s_Code_group) := ⟨rfl, rfl, rfl, by decide +kernel, rfl, by decide +kernel, by decide +kernel⟩
abbrev s_Code_begin : Stmt := inClass (topS 28) 15
theorem sc_Code_begin : FnScope ["self"] ["self"] (defScope s_Code_begin) := ⟨rfl, rfl, rfl, by decide +kernel, rfl, by decide +kernel, by decide +kernel⟩
abbrev s_Code_is_full : Stmt := inClass (topS 28) 16
theorem sc_Code_is_full : FnScope ["self", "column"] ["self", "column"] (defScope s_Code_is_full) := ⟨rfl, rfl, rfl, by decide +kernel, rfl, by decide +kernel, by decide +kernel⟩
abbrev s_Code_next_column : Stmt := inClass (topS 28) 17
theorem sc_Code_next_column : FnScope ["self", "column"] ["self", "column"] (defScope s_Code_next_column) := ⟨rfl, rfl, rfl, by decide +kernel, rfl, by decide +kernel, by decide +kernel⟩
abbrev s_Code_placed : Stmt := inClass (topS 28) 18
theorem sc_Code_placed : FnScope ["self", "column", "sign"] ["self", "column", "sign"] (defScope s_Code_placed) := ⟨rfl, rfl, rfl, by decide +kernel, rfl, by decide +kernel, by decide +kernel⟩
abbrev s_Code_write : Stmt := inClass (topS 28) 19
theorem sc_Code_write : FnScope ["self", "state", "byte", "bits", "signs", "column", "part", "more"] ["self", "state", "byte"] (defScope s_Code_write) := ⟨rfl, rfl, rfl, by decide +kernel, rfl, by decide +kernel, by decide +kernel⟩
abbrev s_Code___init__ : Stmt := inClass (topS 28) 1
theorem sc_Code___init__ : FnScope ["self", "signs", "pad", "width", "digit", "sign"] ["self", "signs", "pad", "width"] (defScope s_Code___init__) := ⟨rfl, rfl, rfl, by decide +kernel, rfl, by decide +kernel, by decide +kernel⟩
abbrev s_passed : Stmt := topS 19
theorem sc_passed : FnScope ["code", "state", "data", "parts", "byte", "part"] ["code", "state", "data"] (defScope s_passed) := ⟨rfl, rfl, rfl, by decide +kernel, rfl, by decide +kernel, by decide +kernel⟩
abbrev s_Writer_need_open : Stmt := inClass (topS 20) 5
theorem sc_Writer_need_open : FnScope ["self"] ["self"] (defScope s_Writer_need_open) := ⟨rfl, rfl, rfl, by decide +kernel, rfl, by decide +kernel, by decide +kernel⟩
abbrev s_Writer___init__ : Stmt := inClass (topS 20) 0
theorem sc_Writer___init__ : FnScope ["self", "code"] ["self", "code"] (defScope s_Writer___init__) := ⟨rfl, rfl, rfl, by decide +kernel, rfl, by decide +kernel, by decide +kernel⟩
abbrev s_Writer_state : Stmt := inClass (topS 20) 3
theorem sc_Writer_state : FnScope ["self"] ["self"] (defScope s_Writer_state) := ⟨rfl, rfl, rfl, by decide +kernel, rfl, by decide +kernel, by decide +kernel⟩
abbrev s_Writer___call__ : Stmt := inClass (topS 20) 2
theorem sc_Writer___call__ : FnScope ["self", "piece", "data", "part"] ["self", "piece"] (defScope s_Writer___call__) := ⟨rfl, rfl, rfl, by decide +kernel, rfl, by decide +kernel, by decide +kernel⟩
abbrev s_l_bag : Stmt := topS 30
theorem sc_l_bag : FnScope ["_law_script", "_law_at", "_law_cell", "_law_digits"] ["_law_script", "_law_at"] (defScope s_l_bag) := ⟨rfl, rfl, rfl, by decide +kernel, rfl, by decide +kernel, by decide +kernel⟩
abbrev s_l_take : Stmt := topS 31
theorem sc_l_take : FnScope ["_law_bag_here", "_law_many", "_law_digit", "_law_mixed"] ["_law_bag_here", "_law_many"] (defScope s_l_take) := ⟨rfl, rfl, rfl, by decide +kernel, rfl, by decide +kernel, by decide +kernel⟩
abbrev s_l_of : Stmt := topS 32
theorem sc_l_of : FnScope ["_law_bag_here", "_law_some"] ["_law_bag_here", "_law_some"] (defScope s_l_of) := ⟨rfl, rfl, rfl, by decide +kernel, rfl, by decide +kernel, by decide +kernel⟩
abbrev s_l_all_signs : Stmt := topS 33
theorem sc_l_all_signs : FnScope ["_law_capitals"] [] (defScope s_l_all_signs) := ⟨rfl, rfl, rfl, by decide +kernel, rfl, by decide +kernel, by decide +kernel⟩
abbrev s_l_code : Stmt := topS 34
theorem sc_l_code : FnScope ["_law_bag_here", "_law_some", "_law_many", "_law_first", "_law_pace", "_law_row", "_law_room", "_law_k"] ["_law_bag_here"] (defScope s_l_code) := ⟨rfl, rfl, rfl, by decide +kernel, rfl, by decide +kernel, by decide +kernel⟩
abbrev s_l_made : Stmt := topS 35
theorem sc_l_made : FnScope ["_law_code_here"] ["_law_code_here"] (defScope s_l_made) := ⟨rfl, rfl, rfl, by decide +kernel, rfl, by decide +kernel, by decide +kernel⟩
abbrev s_l_size : Stmt := topS 36
theorem sc_l_size : FnScope ["_law_code_here"] ["_law_code_here"] (defScope s_l_size) := ⟨rfl, rfl, rfl, by decide +kernel, rfl, by decide +kernel, by decide +kernel⟩
abbrev s_l_group : Stmt := topS 37
theorem sc_l_group : FnScope ["_law_code_here"] ["_law_code_here"] (defScope s_l_group) := ⟨rfl, rfl, rfl, by decide +kernel, rfl, by decide +kernel, by decide +kernel⟩
abbrev s_l_data : Stmt := topS 38
theorem sc_l_data : FnScope ["_law_bag_here", "_law_most", "_law_few", "_law_many", "_law_k"] ["_law_bag_here", "_law_most"] (defScope s_l_data) := ⟨rfl, rfl, rfl, by decide +kernel, rfl, by decide +kernel, by decide +kernel⟩
abbrev s_l_bits : Stmt := topS 39
theorem sc_l_bits : FnScope ["_law_data_here", "_law_found", "_law_byte", "_law_worth"] ["_law_data_here"] (defScope s_l_bits) := ⟨rfl, rfl, rfl, by decide +kernel, rfl, by decide +kernel, by decide +kernel⟩
abbrev s_l_pieces : Stmt := topS 40
theorem sc_l_pieces : FnScope ["_law_bag_here", "_law_some", "_law_found", "_law_at", "_law_k", "_law_behind"] ["_law_bag_here", "_law_some"] (defScope s_l_pieces) := ⟨rfl, rfl, rfl, by decide +kernel, rfl, by decide +kernel, by decide +kernel⟩
abbrev s_l_given : Stmt := topS 41
theorem sc_l_given : FnScope ["_law_real", "_law_some", "_law_writer"] ["_law_real", "_law_some"] (defScope s_l_given) := ⟨rfl, rfl, rfl, by decide +kernel, rfl, by decide +kernel, by decide +kernel⟩
abbrev s_l_state : Stmt := topS 42
theorem sc_l_state : FnScope ["_law_code_here", "_law_some", "_law_bits_here", "_law_size_here", "_law_room", "_law_many", "_law_left", "_law_column", "_law_bit"] ["_law_code_here", "_law_some"] (defScope s_l_state) := ⟨rfl, rfl, rfl, by decide +kernel, rfl, by decide +kernel, by decide +kernel⟩
abbrev s_l_right : Stmt := topS 43
theorem sc_l_right : FnScope ["_law_bag_here", "_law_code_here", "_law_real", "_law_some", "_law_writer", "_law_before", "_law_piece"] ["_law_bag_here", "_law_code_here", "_law_real", "_law_some"] (defScope s_l_right) := ⟨rfl, rfl, rfl, by decide +kernel, rfl, by decide +kernel, by decide +kernel⟩
abbrev s_law : Stmt := topS 44
theorem sc_law : FnScope ["_law_script", "_law_at", "_law_bag_here", "_law_turn", "_law_code_here"] ["_law_script"] (defScope s_law) := ⟨rfl, rfl, rfl, by decide +kernel, rfl, by decide +kernel, by decide +kernel⟩
def P : Program := PySem.Challenge.pw_piecetexts_k13_writing_states
theorem P_eq : P = PySem.Challenge.rw_piecetexts_k13_writing_states.prog := by kernel_rfl
theorem P_file : ((P.main.file : Str) == ("/claim/cut.py" : Str)) = true := by decide +kernel
theorem P_top : (P.main.scope.names.lookup ("super" : Str)).isSome = false := by decide +kernel
abbrev se_Closed : Stmt := inClass (topS 5) 0
def eN_Closed : ErrN := ⟨"Closed", [], "Closed.__init__", defArgs se_Closed, defBody se_Closed, defScope se_Closed, "/claim/cut.py", "RuntimeError", "RuntimeError.__new__", "RuntimeError.__init__", [.type "RuntimeError", .type "Exception", .type "BaseException", .type "object"]⟩
def d_is_integer : DefA := ⟨wGlo "is_integer", "is_integer", "is_integer", defArgs s_is_integer, defBody s_is_integer, defScope s_is_integer, [], []⟩
def d_is_within : DefA := ⟨wGlo "is_within", "is_within", "is_within", defArgs s_is_within, defBody s_is_within, defScope s_is_within, [], []⟩
def d_is_byte : DefA := ⟨wGlo "is_byte", "is_byte", "is_byte", defArgs s_is_byte, defBody s_is_byte, defScope s_is_byte, [], []⟩
def d_is_sign : DefA := ⟨wGlo "is_sign", "is_sign", "is_sign", defArgs s_is_sign, defBody s_is_sign, defScope s_is_sign, [], []⟩
def d_are_signs : DefA := ⟨wGlo "are_signs", "are_signs", "are_signs", defArgs s_are_signs, defBody s_are_signs, defScope s_are_signs, [], []⟩
def d_data_of : DefA := ⟨wGlo "data_of", "data_of", "data_of", defArgs s_data_of, defBody s_data_of, defScope s_data_of, [], []⟩
def d_Code_signs : DefA := ⟨wGet "Code" "signs", "signs", "Code.signs", defArgs s_Code_signs, defBody s_Code_signs, defScope s_Code_signs, [], []⟩
def d_Code_width : DefA := ⟨wGet "Code" "width", "width", "Code.width", defArgs s_Code_width, defBody s_Code_width, defScope s_Code_width, [], []⟩
def d_Code_bits : DefA := ⟨wGet "Code" "bits", "bits", "Code.bits", defArgs s_Code_bits, defBody s_Code_bits, defScope s_Code_bits, [], []⟩
def d_Code_group : DefA := ⟨wGet "Code" "group", "group", "Code.group", defArgs s_Code_group, defBody s_Code_group, defScope s_Code_group, [], []⟩
def d_Code_begin : DefA := ⟨wMeth "Code" "begin", "begin", "Code.begin", defArgs s_Code_begin, defBody s_Code_begin, defScope s_Code_begin, [], []⟩
def d_Code_is_full : DefA := ⟨wMeth "Code" "is_full", "is_full", "Code.is_full", defArgs s_Code_is_full, defBody s_Code_is_full, defScope s_Code_is_full, [], []⟩
def d_Code_next_column : DefA := ⟨wMeth "Code" "next_column", "next_column", "Code.next_column", defArgs s_Code_next_column, defBody s_Code_next_column, defScope s_Code_next_column, [], []⟩
def d_Code_placed : DefA := ⟨wMeth "Code" "placed", "placed", "Code.placed", defArgs s_Code_placed, defBody s_Code_placed, defScope s_Code_placed, [], []⟩
def d_Code_write : DefA := ⟨wMeth "Code" "write", "write", "Code.write", defArgs s_Code_write, defBody s_Code_write, defScope s_Code_write, [], []⟩
def d_Code___init__ : DefA := ⟨wMeth "Code" "__init__", "__init__", "Code.__init__", defArgs s_Code___init__, defBody s_Code___init__, defScope s_Code___init__, [], [("pad", .str ""), ("width", .int 0)]⟩
def d_passed : DefA := ⟨wGlo "passed", "passed", "passed", defArgs s_passed, defBody s_passed, defScope s_passed, [], []⟩
def d_Writer_need_open : DefA := ⟨wMeth "Writer" "need_open", "need_open", "Writer.need_open", defArgs s_Writer_need_open, defBody s_Writer_need_open, defScope s_Writer_need_open, [], []⟩
def d_Writer___init__ : DefA := ⟨wMeth "Writer" "__init__", "__init__", "Writer.__init__", defArgs s_Writer___init__, defBody s_Writer___init__, defScope s_Writer___init__, [], []⟩
def d_Writer_state : DefA := ⟨wGet "Writer" "state", "state", "Writer.state", defArgs s_Writer_state, defBody s_Writer_state, defScope s_Writer_state, [], []⟩
def d_Writer___call__ : DefA := ⟨wMeth "Writer" "__call__", "__call__", "Writer.__call__", defArgs s_Writer___call__, defBody s_Writer___call__, defScope s_Writer___call__, [], []⟩
def d_l_bag : DefA := ⟨wGlo "_law_bag", "_law_bag", "_law_bag", defArgs s_l_bag, defBody s_l_bag, defScope s_l_bag, [], []⟩
def d_l_take : DefA := ⟨wGlo "_law_take", "_law_take", "_law_take", defArgs s_l_take, defBody s_l_take, defScope s_l_take, [], []⟩
def d_l_of : DefA := ⟨wGlo "_law_of", "_law_of", "_law_of", defArgs s_l_of, defBody s_l_of, defScope s_l_of, [], []⟩
def d_l_all_signs : DefA := ⟨wGlo "_law_all_signs", "_law_all_signs", "_law_all_signs", defArgs s_l_all_signs, defBody s_l_all_signs, defScope s_l_all_signs, [], []⟩
def d_l_code : DefA := ⟨wGlo "_law_code", "_law_code", "_law_code", defArgs s_l_code, defBody s_l_code, defScope s_l_code, [], []⟩
def d_l_made : DefA := ⟨wGlo "_law_made", "_law_made", "_law_made", defArgs s_l_made, defBody s_l_made, defScope s_l_made, [], []⟩
def d_l_size : DefA := ⟨wGlo "_law_size", "_law_size", "_law_size", defArgs s_l_size, defBody s_l_size, defScope s_l_size, [], []⟩
def d_l_group : DefA := ⟨wGlo "_law_group", "_law_group", "_law_group", defArgs s_l_group, defBody s_l_group, defScope s_l_group, [], []⟩
def d_l_data : DefA := ⟨wGlo "_law_data", "_law_data", "_law_data", defArgs s_l_data, defBody s_l_data, defScope s_l_data, [], []⟩
def d_l_bits : DefA := ⟨wGlo "_law_bits", "_law_bits", "_law_bits", defArgs s_l_bits, defBody s_l_bits, defScope s_l_bits, [], []⟩
def d_l_pieces : DefA := ⟨wGlo "_law_pieces", "_law_pieces", "_law_pieces", defArgs s_l_pieces, defBody s_l_pieces, defScope s_l_pieces, [], []⟩
def d_l_given : DefA := ⟨wGlo "_law_given", "_law_given", "_law_given", defArgs s_l_given, defBody s_l_given, defScope s_l_given, [], []⟩
def d_l_state : DefA := ⟨wGlo "_law_state", "_law_state", "_law_state", defArgs s_l_state, defBody s_l_state, defScope s_l_state, [], []⟩
def d_l_right : DefA := ⟨wGlo "_law_right", "_law_right", "_law_right", defArgs s_l_right, defBody s_l_right, defScope s_l_right, [], []⟩
def d_law : DefA := ⟨wGlo "law", "law", "law", defArgs s_law, defBody s_law, defScope s_law, [], []⟩
def hdefs : List DefA := [d_is_integer, d_is_within, d_is_byte, d_is_sign, d_are_signs, d_data_of, d_Code_signs, d_Code_width, d_Code_bits, d_Code_group, d_Code_begin, d_Code_is_full, d_Code_next_column, d_Code_placed, d_Code_write, d_Code___init__, d_passed, d_Writer_need_open, d_Writer___init__, d_Writer_state, d_Writer___call__, d_l_bag, d_l_take, d_l_of, d_l_all_signs, d_l_code, d_l_made, d_l_size, d_l_group, d_l_data, d_l_bits, d_l_pieces, d_l_given, d_l_state, d_l_right, d_law]
def hfacts : List Fact := [fFa (.glo "Code"), fFa (.cls "Code"), fFa (.glo "Writer"), fFa (.cls "Writer"), fFa (.glo "is_integer"), fFa (.glo "is_within"), fFa (.glo "is_byte"), fFa (.glo "is_sign"), fFa (.glo "are_signs"), fFa (.glo "data_of"), fProp "Code" "signs", fProp "Code" "width", fProp "Code" "bits", fProp "Code" "group", fFa (.meth "Code" "begin"), fFa (.meth "Code" "is_full"), fFa (.meth "Code" "next_column"), fFa (.meth "Code" "placed"), fFa (.meth "Code" "write"), fFa (.mkr "Code"), fFa (.glo "passed"), fFa (.meth "Writer" "need_open"), fFa (.mkr "Writer"), fProp "Writer" "state", fFa (.meth "Writer" "__call__"), fFa (.glo "_law_bag"), fFa (.glo "_law_take"), fFa (.glo "_law_of"), fFa (.glo "_law_all_signs"), fFa (.glo "_law_code"), fFa (.glo "_law_made"), fFa (.glo "_law_size"), fFa (.glo "_law_group"), fFa (.glo "_law_data"), fFa (.glo "_law_bits"), fFa (.glo "_law_pieces"), fFa (.glo "_law_given"), fFa (.glo "_law_state"), fFa (.glo "_law_right"), fFa (.glo "law"), fFa (.noat "Code" "parts"), fFa (.noat "Code" "sign_bits"), fFa (.noat "Code" "digits"), fFa (.noat "Writer" "is_closed"), fFa (.noat "Writer" "many"), fFa (.noat "Writer" "now"), fFa (.noat "Writer" "own_code"), fCRead "Code", fCVal "Code" "WIDEST" (.int 76), fFa (.str "PRINTED" " !\"#$&'()*+,-./0123456789:;<=>?@ABCDEFGHIJKLMNOPQRSTUVWXYZ[\\]^_`abcdefghijklmnopqrstuvwxyz{|}~"), fFa (.int "MOST_BYTES" 600), fFa (.glo "GROUPS"), fTup "GROUPS" [.int 0, .int 8, .int 4, .int 8, .int 2, .int 8, .int 4], fFa (.str "NEWLINE" "\n"), fFa (.glo "BITS"), (fun K => idB K (He.ga K "BITS") [(2, 1), (4, 2), (8, 3), (16, 4), (32, 5), (64, 6)]), fFa (.free "abs"), fFa (.free "all"), fFa (.free "bool"), fFa (.free "enumerate"), fFa (.free "int"), fFa (.free "isinstance"), fFa (.free "len"), fFa (.free "list"), fFa (.free "max"), fFa (.free "min"), fFa (.free "range"), fFa (.free "repr"), fFa (.free "str"), fFa (.free "super"), fFa (.free "tuple")]
abbrev hrow : PySem.W.OpenRow := PySem.W.OpenLaw.row PySem.Challenge.rw_piecetexts_k13_writing_states
def herrs : List ErrN := [eN_Closed]
abbrev hhook : PySem.W.Hook := hookNT hfacts hdefs herrs
def hob (s : PySem.W.SharedT) : AlA := obsNTG hfacts hdefs herrs (HandSHeadRun.getT s)
theorem hob_eq (s : PySem.W.SharedT) : hob s = hhook.obs s.abs := obsNTG_eq (HandSHeadRun.getT_eq s)
abbrev hloose0 : List Str := ["_wall", "BadSigns", "BadOption", "NoByte", "Closed", "PRINTED", "CAPITALS", "SMALLS", "MOST_BYTES", "is_integer", "is_within", "is_byte", "is_sign", "are_signs", "data_of", "other_case", "passed", "Writer", "Machine", "BYTE_BITS", "BITS", "GROUPS", "NEWLINE", "Code", "_law_bag", "_law_take", "_law_of", "_law_all_signs", "_law_code", "_law_made"]
abbrev hloose1 : List Str := ["_law_size", "_law_group", "_law_data", "_law_bits", "_law_pieces", "_law_given", "_law_state", "_law_right"]
abbrev hloose : List Str := hloose0 ++ hloose1
theorem hrun_true (w : World) : HandSHeadRun.RunEq hrow (PySem.W.view hrow.prog [44]) hhook hob 9000 hloose (w.withFollow "special-get-raises" true) := by
  intro os
  kernel_rfl
theorem hrun_false (w : World) : HandSHeadRun.RunEq hrow (PySem.W.view hrow.prog [44]) hhook hob 9000 hloose (w.withFollow "special-get-raises" false) := by
  intro os
  kernel_rfl
theorem hrun (w : World) : HandSHeadRun.RunEq hrow (PySem.W.view hrow.prog [44]) hhook hob 9000 hloose w := PySem.W.byRow2 "special-get-raises" (P := fun w => HandSHeadRun.RunEq hrow (PySem.W.view hrow.prog [44]) hhook hob 9000 hloose w) hrun_false hrun_true w

end Px
namespace Px
open PySem PySem.Spec PyProof.Rows L2
section
variable {X : Cx}
theorem PE.or {e : Expr} {t1 t2 : TE} (h1 : PE X e t1) (h2 : PE X e t2) : PE X e (fun σ H Q => t1 σ H Q ∨ t2 σ H Q) := by
  refine ⟨fun pins s σ H Q I h => ?_⟩
  rcases h with h | h
  · exact h1.run pins s σ H Q I h
  · exact h2.run pins s σ H Q I h
/-! ### a text from behind -/
def revS (z : Str) : Str := ⟨z.cps.toList.reverse.toArray⟩
theorem rev_picked (z : Str) (t : Tok) (u : Tok) : sliceMade z t none none (some (-1, u)) = .str (revS z) := by
  unfold sliceMade slicePicked
  have h1 : ((((some ((-1 : Int), u)).map (·.1)).getD 1 == 1) && ((Builtin.Str.strSliceIndices (Option.map (·.1) (none : Option (Int × Tok))) (Option.map (·.1) (none : Option (Int × Tok))) (((some ((-1 : Int), u)).map (·.1)).getD 1) z.length).length == z.length)) = false := by
    rw [Bool.and_eq_false_iff]
    left
    rfl
  rw [h1, if_neg Bool.false_ne_true]
  have h2 : Builtin.Str.strSliceIndices (Option.map (·.1) (none : Option (Int × Tok))) (Option.map (·.1) (none : Option (Int × Tok))) (((some ((-1 : Int), u)).map (·.1)).getD 1) z.length = sliceRange ((z.length : Int) - 1) (-1) (-1) := rfl
  rw [h2, PySem.W.krv_sliceRange, PySem.W.krv_range, List.filterMap_reverse]
  have h3 : List.filterMap (fun x => z.cps[x]?) (List.range z.length) = z.cps.toList := PySem.W.krv_all z.cps
  rw [h3]
  rfl
def tRevS (te : TE) : TE := fun σ H Q => te σ H fun x H1 => ∃ z, x = .str z ∧ z.length ≤ sizeLine ∧ Q (.str (revS z)) H1
theorem pe_revS {e : Expr} {te : TE} {k : Nat} {p1 p2 p3 pos : Pos} (he : PE X e te) : PE X (.Subscript e (.Slice none none (some (.UnaryOp .USub (.Constant (.int 1) k p1) p2)) p3) pos) (tRevS te) := by
  refine ⟨fun pins s σ H Q I h => ?_⟩
  refine Subscript_ (thn (he.run pins s σ H _ I h) fun v s1 ⟨x, H1, I1, r1, q1⟩ => ?_)
  obtain ⟨z, rfl, hz, q⟩ := q1
  obtain ⟨t, rfl⟩ := r1
  have hst : PO X (some (.UnaryOp .USub (.Constant (.int 1) k p1) p2)) (tPart (tUn rNegI (tC (.int 1)))) := po_some (pe_un un_neg pe_int)
  refine wpAny_Slice (thn (po_none.run pins s1 σ H1 (fun o G => o = none ∧ G = H1) I1 ⟨rfl, rfl⟩) fun vl s2 ⟨l, H2, I2, pl, el, e2⟩ => ?_)
  subst el e2
  refine thn (po_none.run pins s2 σ H2 (fun o G => o = none ∧ G = H2) I2 ⟨rfl, rfl⟩) fun vu s3 ⟨u, H3, I3, pu, eu, e3⟩ => ?_
  subst eu e3
  refine thn (hst.run pins s3 σ H3 (fun o G => o = some (-1) ∧ G = H3) I3 ⟨1, rfl, -1, rfl, rfl, rfl⟩) fun vs s4 ⟨o, H4, I4, ps, eo, e4⟩ => ?_
  subst eo e4
  have I5 : Inv X pins σ H4 { s4 with heap := s4.heap.push { cls := .type "slice", data := .fields #[vl, vu, vs] } } := I4.kept (t' := s4.toks) fun b ob q => Heap.get?_push_of_some _ q
  obtain ⟨l, rfl, e1⟩ := IsPart.raw pl
  obtain ⟨u, rfl, e2⟩ := IsPart.raw pu
  obtain ⟨w3, rfl, e3⟩ := IsPart.raw ps
  cases l with
  | some p => cases e1
  | none =>
    cases u with
    | some p => cases e2
    | none =>
      cases w3 with
      | none => cases e3
      | some p =>
        obtain ⟨i, tk⟩ := p
        have hi : i = (-1 : Int) := Option.some.inj e3
        subst hi
        refine tail_any (ops := [.ref s4.heap.objs.size, .str z t]) (typeIs_str _ _ _) (F.slot_str_getitem.lookup) ?_ (by with_unfolding_all rfl)
        refine wpAny_getItem_str_slice (l := none) (u := none) (st := some (-1, tk)) ⟨_, Heap.get?_push_size _ rfl, rfl, rfl⟩ rfl ?_
        rw [rev_picked]
        refine ⟨?_, .str _, H4, I5.tok _, ⟨_, rfl⟩, q⟩
        have e : (revS z).length = z.length := by
          unfold revS
          show (List.toArray z.cps.toList.reverse).size = z.cps.size
          simp
        omega
def tRevU (K : PySem.W.Frag) (te : TE) : TE := fun σ H Q => tRevL K te σ H Q ∨ tRevS te σ H Q
theorem pe_rev {e : Expr} {te : TE} {k : Nat} {p1 p2 p3 pos : Pos} (he : PE X e te) : PE X (.Subscript e (.Slice none none (some (.UnaryOp .USub (.Constant (.int 1) k p1) p2)) p3) pos) (tRevU X.K te) := PE.or (pe_revL he) (pe_revS he)

/-! ### repr -/
def rRepr (K : PySem.W.Frag) : List V → Hp → VK → Prop := fun xs H Q => ∃ x d, xs = [x] ∧ Dp K H x d ∧ d.showable = true ∧ d.shown.length ≤ sizeLine ∧ d.depth ≤ 60 ∧ Q (.str d.shown) H
mutual
theorem dp_noDict {K : PySem.W.Frag} {H : Hp} : ∀ (d : PyData) (v : V), Dp K H v d → d.hasDict = false
  | .none, _, _ => by simp only [PyData.hasDict]
  | .bool _, _, _ => by simp only [PyData.hasDict]
  | .int _, _, _ => by simp only [PyData.hasDict]
  | .str _, _, _ => by simp only [PyData.hasDict]
  | .list ds, _, h => by
    cases h with
    | lst _ ha => simp only [PyData.hasDict]; exact dp_noDictAll ds _ ha
  | .tuple ds, _, h => by
    cases h with
    | tup _ ha => simp only [PyData.hasDict]; exact dp_noDictAll ds _ ha
  | .dict _, _, h => by cases h
theorem dp_noDictAll {K : PySem.W.Frag} {H : Hp} : ∀ (ds : List PyData) (vs : List V), DpAll K H vs ds → PyData.hasDictAll ds = false
  | [], _, _ => by simp only [PyData.hasDictAll]
  | d :: ds, _, h => by
    cases h with
    | cons h1 h2 =>
      simp only [PyData.hasDictAll]
      rw [dp_noDict d _ h1, dp_noDictAll ds _ h2]
      rfl
end
theorem c_repr (hg : X.A.guards = some []) (hu : X.A.units + 64 < cLine) : CallR X (.builtin "repr") (rRepr X.K) := by
  intro pins s σ H xs us Q I r h
  obtain ⟨x, d, rfl, hd, hs, hz, hdep, q⟩ := h
  obtain ⟨u, rfl, rx⟩ := vals1 r
  obtain ⟨as, rd⟩ := Dp.reads I d x u hd rx
  have hnd := dp_noDict d x hd
  cases x with
  | ref a =>
    obtain rfl : u = .ref a := rx
    refine repr_of_reads' rd hs (fun h => by rw [hnd] at h; cases h) hg (by omega) (fun _ _ e => e) (fun h' u tk hk => ⟨.str _, H, I.kept (t' := tk) hk, ⟨u, rfl⟩, q⟩) hz
  | non =>
    cases hd
    obtain rfl : u = .none := rx
    simp only [PyData.shown] at q
    exact PySem.P.repr_of_none ⟨.str _, H, I.tok _, ⟨_, rfl⟩, q⟩
  | bl b =>
    cases hd
    obtain rfl : u = .bool b := rx
    simp only [PyData.shown] at q
    exact PySem.P.repr_of_bool ⟨.str _, H, I.tok _, ⟨_, rfl⟩, q⟩
  | int i =>
    cases hd
    obtain ⟨t, rfl⟩ := rx
    simp only [PyData.shown] at q
    simp only [PyData.showable] at hs
    exact PySem.P.repr_of_int (of_decide_eq_true hs) ⟨.str _, H, I.tok _, ⟨_, rfl⟩, q⟩
  | str z =>
    cases hd
    obtain ⟨t, rfl⟩ := rx
    simp only [PyData.shown] at q hz
    exact PySem.P.repr_of_str ⟨.str _, H, I.tok _, ⟨_, rfl⟩, q⟩ hz
  | byt b => cases hd
  | flt b => cases hd
  | ty n => cases hd

/-! ### contracts that know that no repr is under way -/
structure FnG (P : Program) (w : World) (K : PySem.W.Frag) (mg : Str → Option Value) (base : Heap) (CX : CXT) (k : Nat) (f : Addr) (fd : FuncData) (ps : List Str) (sp : Sp) : Prop where
  len : ∀ vs H Q E, sp vs H Q E → vs.length = ps.length
  run : ∀ (A : Around) (outer : List Env) (s : Shared) (H : Hp) (args : Args) (us : List Value) (vs : List V) (Q : VK) (E : XK), A.guards = some [] → Room k A → Env0 P w K mg base A outer s H → BindsTo s fd args (ps.zip us) →
    Vals vs us → sp vs H Q E → codeAny (model P w) A (.call (.ref f) args) (CR CX outer P w H s Q E) s
theorem FnG.of {P : Program} {w : World} {K : PySem.W.Frag} {mg : Str → Option Value} {base : Heap} {CX : CXT} {k : Nat} {f : Addr} {fd : FuncData} {ps : List Str} {sp : Sp} (F : FnOk P w K mg base CX k f fd ps sp) : FnG P w K mg base CX k f fd ps sp :=
  ⟨F.len, fun A outer s H args us vs Q E _ => F.run A outer s H args us vs Q E⟩
end
section
variable {X : Cx} {CX : CXT} {k : Nat} {f : Addr} {fd : FuncData} {ps : List Str} {sp : Sp} {ds : List Value} {dvs : List V} {E : XK} {x : Str} {p pos : Pos} {e : Expr} {es : List Expr} {t : TA}
theorem run_g {pins : List (Addr × Obj)} {σ : L2.St} {H : Hp} {s : Shared} {Q : VK} {us : List Value} {vs : List V} (F : FnG X.prog X.w X.K X.mg X.base CX k f fd ps sp) (hG : X.A.guards = some []) (hr : Room k X.A) (hb : Binds X.K fd ps ds) (hd : Vals dvs ds)
    (hx : Passes CX X E) (I : Inv X pins σ H s) (r : Vals vs us) (h : sp (vs ++ dvs) H Q E) : wpAny (model X.prog X.w) X.A (call (.ref f) us) (EP X pins σ Q) X.xe s := by
  have r2 : Vals (vs ++ dvs) (us ++ ds) := r.append hd
  have hl : (us ++ ds).length = ps.length := r2.length.symm.trans (F.len _ _ _ _ h)
  have go := F.run X.A X.stack s H ⟨us, []⟩ (us ++ ds) (vs ++ dvs) Q E hG hr I.env0 (hb s us I.kIn hl) r2 h
  refine wpAny_call (codeAny_mono go fun r s' hq => ?_)
  match r, hq with
  | .error e, hq => exact hx pins σ H s e s' I hq
  | .ok (.ret u), hq => exact I.after hq
  | .ok .next, hq => exact hq.elim
  | .ok .brk, hq => exact hq.elim
  | .ok .cont, hq => exact hq.elim
theorem pe_callG (F : FnG X.prog X.w X.K X.mg X.base CX k f fd ps sp) (hG : X.A.guards = some []) (hr : Room k X.A) (hg : Gl X x) (hm : X.mg x = some (.ref f)) (hk : PySem.W.keepIn X.K (.ref f) = true) (hb : Binds X.K fd ps ds) (hd : Vals dvs ds) (hx : Passes CX X E)
    (ha : PA X (e :: es) t) (hdb : (x == ("__debug__" : Str)) = false := by decide) (he : starEach (e :: es) X.env = (false, eval e X.env) :: starEach es X.env := by rfl) (hpl : (backTo pos (starEach es X.env)).any (·.1) = false := by rfl) :
    PE X (.Call (.Name x p) (e :: es) [] pos) (tCall sp dvs E t) := by
  refine ⟨fun pins s σ H Q I h => wpAny_Call_Name_kw (ld_glob I hg hm ?_ hdb)⟩
  exact PySem.W.callWith_K (h₀ := X.base) I.ok.mod.kin hk (thn (ha.run pos pins s σ H _ I h) fun us s1 ⟨vs, H1, I1, r, q⟩ => ⟨I1.kIn, run_g F hG hr hb hd hx I1 r q⟩) he hpl
theorem pe_callG0 (F : FnG X.prog X.w X.K X.mg X.base CX k f fd ps sp) (hG : X.A.guards = some []) (hr : Room k X.A) (hg : Gl X x) (hm : X.mg x = some (.ref f)) (hk : PySem.W.keepIn X.K (.ref f) = true) (hb : Binds X.K fd ps ds) (hd : Vals dvs ds) (hx : Passes CX X E)
    (hdb : (x == ("__debug__" : Str)) = false := by decide) : PE X (.Call (.Name x p) [] [] pos) (tCall sp dvs E tNil) :=
  ⟨fun pins s σ H Q I h => wpAny_Call_Name_kw (ld_glob I hg hm (PySem.W.callWith_K0 I.kIn hk (run_g (us := []) F hG hr hb hd hx I .nil h)) hdb)⟩
end
section
variable  {P : Program} {w : World} {K : PySem.W.Frag} {mg : Str → Option Value} {base : Heap} {x qual : Str} {params : Arguments} {body : List Stmt} {scope : Scope} {dvs : List V} {kws : List (Str × V)} {f : Addr} {fd : FuncData}
theorem fnG_ok {CX : CXT} {N ps : List Str} {k : Nat} {sp : Sp} (F : FunD K x qual params body scope dvs kws f fd) (S : FnScope N ps scope) (len : ∀ vs H Q E, sp vs H Q E → vs.length = ps.length)
    (hbody : ∀ (cdv : Value) (A : Around) (outer : List Env) (s : Shared) (H : Hp) (vs : List V) (Q : VK) (E : XK), (A.deeper (envOfC qual scope s.heap.objs.size f cdv)).guards = some [] → Room k (A.deeper (envOfC qual scope s.heap.objs.size f cdv)) → sp vs H Q E →
      ∃ t, PSs (cxOf CX P w K mg base N qual scope f cdv A outer s H E) body t ∧ t { nx := fun _ H' => Q .non H', rt := Q } (start N vs) H) : FnG P w K mg base CX (k + 1) f fd ps sp := by
  obtain ⟨oc, od, dV, kV, doc, pm, an, cdv, ct, osl, rfl, lk, hcd, _, _⟩ := F.ex
  refine ⟨len, fun A outer s H args us vs Q E hG hr e0 hb r hsp => ?_⟩
  have KX : K.In s.heap := e0.mod.kin.keeps fun b o e => (e0.bs b o e).1
  have lim : s.heap.NoLimit := e0.mod.nolimit.keeps fun b o e => (e0.bs b o e).1
  have hkind : ∀ y ∈ ps.zip us, scope.names.lookup y.1 = some .local ∨ (scope.names.lookup y.1 = some .cell ∧ ((cellsFrom (s.heap.objs.size + 1) scope.names []).lookup y.1).isSome = true) := fun y hy =>
    (S.par y.1 (List.of_mem_zip (show (y.1, y.2) ∈ ps.zip us from hy)).1).imp id fun q => ⟨q, PySem.W.cellsFrom_some _ _ _ (.inl q)⟩
  refine codeAny_call_function hr.depth (KX _ _ lk) rfl S.co S.gen rfl (PySem.W.codeRec_of KX hcd) (hb _ _ _ _ (wpAny_newFunctionEnv_cells S.kind hkind fun env he s1 x => ?_))
  subst he
  refine ⟨lim.keeps x.toInCall.keep, codeAny_func ?_⟩
  obtain ⟨t, ht, hq⟩ := hbody cdv A outer s H vs Q E hG (hr.deeper _) hsp
  have I : Inv (cxOf CX P w K mg base N qual scope f cdv A outer s H E) [] (start N vs) H s1 := inv_start S hr.hd e0 (len _ _ _ _ hsp) r x
  refine wpAny_mono (ht.run [] s1 (start N vs) H _ I hq) (fun fl s' hs => ?_) fun e s' hs => hs
  match fl, hs with
  | .ret u, ⟨v, σ', H', J, rv, q⟩ => exact ⟨v, H', J.os, J.bare, J.base, J.hok, rv, q⟩
  | .next, ⟨σ', H', J, q⟩ => exact ⟨V.non, H', J.os, J.bare, J.base, J.hok, rfl, q⟩
  | .brk, ⟨_, _, _, q⟩ => exact q.elim
  | .cont, ⟨_, _, _, q⟩ => exact q.elim
end
end Px

namespace Px
open PySem PySem.Spec PyProof.Rows L2
/-! ### built-ins by any kind of value -/
def rLenU (K : PySem.W.Frag) : List V → Hp → VK → Prop := fun xs H Q => ∃ x n, xs = [x] ∧ LenV K x H n ∧ Q (.int n) H
def rAbs : List V → Hp → VK → Prop := fun xs H Q => ∃ i, xs = [.int i] ∧ Q (.int (if i < 0 then -i else i)) H
def rMax2 : List V → Hp → VK → Prop := fun xs H Q => ∃ i j, xs = [.int i, .int j] ∧ Q (.int (if j > i then j else i)) H
def rMin2 : List V → Hp → VK → Prop := fun xs H Q => ∃ i j, xs = [.int i, .int j] ∧ Q (.int (if j < i then j else i)) H
def rStrI : List V → Hp → VK → Prop := fun xs H Q => ∃ i, xs = [.int i] ∧ i.natAbs.log2 < 1920 ∧ Q (.str (toString i)) H
def rListOf (K : PySem.W.Frag) : List V → Hp → VK → Prop := fun xs H Q => ∃ p ys, xs = [.ref p] ∧ (SqL K H p ys ∨ SqT K H p ys) ∧ ∀ l, H l = none → Q (.ref l) (upd H l (.lst ys))
def rOrd : List V → Hp → VK → Prop := fun xs H Q => ∃ i : Nat, xs = [.str ⟨#[i]⟩] ∧ Q (.int i) H
def rJoin (K : PySem.W.Frag) : V → List V → Hp → VK → Prop := fun x xs H Q => ∃ a p, ∃ ys : List Str, x = .str a ∧ xs = [.ref p] ∧ (SqL K H p (ys.map V.str) ∨ SqT K H p (ys.map V.str)) ∧
  (ys.map (·.length)).sum + ys.length * a.length ≤ 16777216 ∧ Q (.str (Txt.join a ys)) H
def tJoinU (K : PySem.W.Frag) (to te : TE) : TE := tM1 (rJoin K) to te
section
variable {X : Cx}
theorem c_lenU : CallR X (.builtin "len") (rLenU X.K) := call_len
theorem c_abs : CallR X (.builtin "abs") rAbs := call_abs
theorem c_max2 (hc : X.calm = true) : CallR X (.builtin "max") rMax2 := call_max2 hc
theorem c_min2 (hc : X.calm = true) : CallR X (.builtin "min") rMin2 := call_min2 hc
/-! ### x += y -/
def rIaddS : TIp := fun x y H Q => ∃ i j, x = .str i ∧ y = .str j ∧ i.length + j.length ≤ sizeLine ∧ Q (.str (i ++ j)) H
def rIaddU (K : PySem.W.Frag) : TIp := fun x y H Q => ipI (fun i j => i + j) x y H Q ∨ rIaddS x y H Q
theorem PIp.or {op : Operator} {t1 t2 : TIp} (h1 : PIp X op t1) (h2 : PIp X op t2) : PIp X op (fun x y H Q => t1 x y H Q ∨ t2 x y H Q) := fun pins s σ H x y v u Q I rx ry h => by
  rcases h with h | h
  · exact h1 pins s σ H x y v u Q I rx ry h
  · exact h2 pins s σ H x y v u Q I rx ry h
theorem ip_addU : PIp X .Add (rIaddU X.K) := PIp.or ip_add fun pins s σ H x y v u Q I rx ry h => iop_add_str pins s σ H x y v u Q I rx ry h
end
section
variable {K : PySem.W.Frag} {σ : S} {H : Hp} {Q : VK} {D : Ends} {t u : TS} {ta tb tc td te : TE} {x y v : V} {tr : TA} {i j : Int}
theorem r_addUI (h : Q (.int (i + j)) H) : rAddU K (.int i) (.int j) H Q := .inl ⟨i, j, rfl, rfl, h⟩
theorem r_addUS {a b : Str} (h1 : a.length + b.length ≤ sizeLine) (h : Q (.str (a ++ b)) H) : rAddU K (.str a) (.str b) H Q := .inr (.inl ⟨a, b, rfl, rfl, h1, h⟩)
theorem r_addUL {l b : Addr} {xs zs : List V} (h1 : H l = some (.lst xs)) (h2 : H b = some (.lst zs)) (h3 : xs.length + zs.length ≤ sizeLine) (h : ∀ p, H p = none → Q (.ref p) (upd H p (.lst (xs ++ zs)))) : rAddU K (.ref l) (.ref b) H Q :=
  .inr (.inr (.inl ⟨l, b, xs, zs, rfl, rfl, h1, h2, h3, h⟩))
theorem r_mulUI (h1 : CMul i j) (h : Q (.int (i * j)) H) : rMulU K (.int i) (.int j) H Q := .inl ⟨i, j, rfl, rfl, h1, h⟩
theorem r_mulUL {l : Addr} {xs : List V} (h1 : H l = some (.lst xs)) (h2 : -(2 ^ 63) ≤ i ∧ i < 2 ^ 63) (h3 : xs.length * i.toNat ≤ sizeLine) (h : ∀ p, H p = none → Q (.ref p) (upd H p (.lst (List.replicate i.toNat xs).flatten))) : rMulU K (.ref l) (.int i) H Q :=
  .inr ⟨l, i, xs, rfl, rfl, h1, h2.1, h2.2, h3, h⟩
theorem r_eqUI (h : Q (.bl (decide (i = j))) H) : rEqU K (.int i) (.int j) H Q := .inl (r_eqI h)
theorem r_eqUS {a b : Str} (h : Q (.bl (decide (a = b))) H) : rEqU K (.str a) (.str b) H Q := .inl (r_eqS h)
theorem r_eqUB {a b : Bool} (h : Q (.bl (decide (a = b))) H) : rEqU K (.bl a) (.bl b) H Q := .inl (r_eqB h)
theorem r_neUI (h : Q (.bl (!decide (i = j))) H) : rNeU K (.int i) (.int j) H Q := .inl (r_neI h)
theorem r_neUS {a b : Str} (h : Q (.bl (!decide (a = b))) H) : rNeU K (.str a) (.str b) H Q := .inl (r_neS h)
theorem r_eqUD {d e : PyData} (h1 : Dp K H x d) (h2 : Dp K H y e) (h3 : SeqAt.shaped d = true) (h4 : SeqAt.shaped e = true) (h : Q (.bl (PyData.eqv d e)) H) : rEqU K x y H Q := .inr ⟨d, e, h1, h2, h3, h4, h⟩
theorem r_neUD {d e : PyData} (h1 : Dp K H x d) (h2 : Dp K H y e) (h3 : SeqAt.shaped d = true) (h4 : SeqAt.shaped e = true) (h : Q (.bl (!PyData.eqv d e)) H) : rNeU K x y H Q := .inr ⟨d, e, h1, h2, h3, h4, h⟩
theorem r_lenUL {a : Addr} {xs : List V} (h1 : SqL K H a xs) (h : Q (.int xs.length) H) : rLenU K [.ref a] H Q := ⟨_, xs.length, rfl, .inl ⟨xs, h1, rfl⟩, h⟩
theorem r_lenUT {a : Addr} {xs : List V} (h1 : SqT K H a xs) (h : Q (.int xs.length) H) : rLenU K [.ref a] H Q := ⟨_, xs.length, rfl, .inr ⟨xs, h1, rfl⟩, h⟩
theorem r_lenUS {z : Str} (h1 : z.length ≤ sizeLine) (h : Q (.int z.length) H) : rLenU K [.str z] H Q := ⟨_, z.length, rfl, ⟨h1, rfl⟩, h⟩
theorem r_abs (h : Q (.int (if i < 0 then -i else i)) H) : rAbs [.int i] H Q := ⟨i, rfl, h⟩
theorem r_max2 (h : Q (.int (if j > i then j else i)) H) : rMax2 [.int i, .int j] H Q := ⟨i, j, rfl, h⟩
theorem r_min2 (h : Q (.int (if j < i then j else i)) H) : rMin2 [.int i, .int j] H Q := ⟨i, j, rfl, h⟩
theorem r_strI (h1 : i.natAbs.log2 < 1920) (h : Q (.str (toString i)) H) : rStrI [.int i] H Q := ⟨i, rfl, h1, h⟩
theorem r_listL {a : Addr} {xs : List V} (h1 : SqL K H a xs) (h : ∀ l, H l = none → Q (.ref l) (upd H l (.lst xs))) : rListOf K [.ref a] H Q := ⟨a, xs, rfl, .inl h1, h⟩
theorem r_min {a : Addr} {ns : List Int} (h1 : SqL K H a (ns.map V.int)) (h2 : 0 < ns.length) (h : ∀ m, m ∈ ns → (∀ y, y ∈ ns → m ≤ y) → Q (.int m) H) : rMin K [.ref a] H Q := ⟨a, ns, rfl, h1, h2, h⟩
theorem r_isi {c : V} {tv cu : Value} {b : Bool} (h1 : ClsV c cu) (h2 : TyX K H x tv) (h3 : PySem.W.kitOne K tv cu = some b) (h : Q (.bl b) H) : rIsi K [x, c] H Q := ⟨x, c, tv, cu, b, rfl, h1, h2, h3, h⟩
theorem r_repr {d : PyData} (h1 : Dp K H x d) (h2 : d.showable = true) (h3 : d.shown.length ≤ sizeLine) (h4 : d.depth ≤ 60) (h : Q (.str d.shown) H) : rRepr K [x] H Q := ⟨x, d, rfl, h1, h2, h3, h4, h⟩
theorem r_sl {r : V → Option Int → Option Int → Hp → VK → Prop} {tl th : TO} (h : te σ H fun x H1 => tl σ H1 fun l H2 => th σ H2 fun u H3 => r x l u H3 Q) : tSl r te tl th σ H Q := h
theorem r_noPart {P : Option Int → Hp → Prop} (h : P none H) : tNoPart σ H P := h
theorem r_part {P : Option Int → Hp → Prop} (h : te σ H fun x H1 => ∃ i, x = .int i ∧ P (some i) H1) : tPart te σ H P := h
theorem r_int {P : Int → Prop} (h : P i) : ∃ k, V.int i = V.int k ∧ P k := ⟨i, rfl, h⟩
theorem r_slUL {lo hi : Option Int} {a : Addr} {xs : List V} (h1 : SqL K H a xs) (h : ∀ p, H p = none → Q (.ref p) (upd H p (.lst (cutV xs lo hi)))) : rSlU K (.ref a) lo hi H Q := .inl ⟨a, xs, rfl, h1, h⟩
theorem r_slUS {lo hi : Option Int} {z : Str} (h1 : z.length ≤ sizeLine) (h : Q (.str (cutS z lo hi)) H) : rSlU K (.str z) lo hi H Q := .inr (.inl ⟨z, rfl, h1, h⟩)
theorem r_bm {T : String} {r : V → List V → Hp → VK → Prop} (h : ta σ H fun x H1 => tyV K T x H1 ∧ tr σ H1 fun xs H2 => r x xs H2 Q) : tBM K T r ta tr σ H Q := h
theorem r_tyL {a : Addr} {xs : List V} (h1 : SqL K H a xs) : tyV K "list" (.ref a) H := .inl ⟨rfl, _, h1⟩
theorem r_append {p : Addr} {xs : List V} (h1 : H p = some (.lst xs)) (h2 : xs.length < sizeLine) (h : Q .non (upd H p (.lst (xs ++ [y])))) : rAppend (.ref p) [y] H Q := ⟨p, xs, y, rfl, rfl, h1, h2, h⟩
theorem r_join {z : Str} (h : te σ H fun y H2 => rJoin K (.str z) [y] H2 Q) (h0 : ta = tC (.str z)) : tJoinU K ta te σ H Q := by
  subst h0
  exact ⟨⟨z, rfl⟩, h⟩
theorem r_chain3 {r r' r'' : R2} (h : ta σ H fun x H1 => tb σ H1 fun y H2 => r x y H2 fun z H3 => ∃ k, z = .bl k ∧
  (if k = true then tc σ H3 fun y' H4 => r' y y' H4 fun z' H5 => ∃ k', z' = .bl k' ∧ (if k' = true then td σ H5 fun w' H6 => r'' y' w' H6 Q else Q (.bl false) H5) else Q (.bl false) H3)) : tChain3 r r' r'' ta tb tc td σ H Q := h
theorem r_iaddI {P : V → Hp → Prop} (h : P (.int (i + j)) H) : rIaddU K (.int i) (.int j) H P := .inl ⟨i, j, rfl, rfl, h⟩
theorem r_iaddS {a b : Str} {P : V → Hp → Prop} (h1 : a.length + b.length ≤ sizeLine) (h : P (.str (a ++ b)) H) : rIaddU K (.str a) (.str b) H P := .inr ⟨a, b, rfl, rfl, h1, h⟩
def tFors (J : It) (g : TG) (tb : TS) (D : Ends) (σ : S) (H : Hp) : Prop := ∃ W : Nat → Nat → S → Hp → Prop, (∃ m, W 0 m σ H) ∧ ∀ i m σ H, W i m σ H →
  (J.stop i H ∧ D.nx σ H) ∨ (J.go i H ∧ ∃ N : S → Hp → Prop, (∀ σ' H', N σ' H' → ∃ m', m' < m ∧ W (i + 1) m' σ' H') ∧ ∀ x H', J.yld i H x H' → g x σ H' fun σ2 H2 => tb { D with nx := N, ct := N, bk := D.nx } σ2 H2)
theorem r_for {wi : TI} {g : TG} {tb : TS} (h : wi σ H fun J H1 => tFors J g tb D σ H1) : tFor wi g tb D σ H := h
theorem f_it {J : It} {n : Nat} {G : Hp → Prop} {Y : Nat → Hp → V → Hp → Prop} {g : TG} {tb : TS} (w : Walk J n G Y) (Pv : Nat → S → Hp → Prop) (h0 : Pv 0 σ H) (hG : ∀ i σ H, i ≤ n → Pv i σ H → G H)
    (hs : ∀ i x σ H H', i < n → Pv i σ H → Y i H x H' → g x σ H' fun σ2 H2 => tb { D with nx := Pv (i + 1), ct := Pv (i + 1), bk := D.nx } σ2 H2) (hd : ∀ σ H, Pv n σ H → D.nx σ H) : tFors J g tb D σ H := for_it w Pv h0 hG hs hd
def tLcs (J : It) (g : TG) (tt : TT) (te : TE) (vs : List Nat) (σ : S) (H1 : Hp) (D : Addr) (Qd : Hp → Prop) : Prop := ∃ W : Nat → Nat → Hp → Prop, (∃ m, W 0 m (upd H1 D (.lst []))) ∧ ∀ i m H, W i m H →
  (J.stop i H ∧ Qd H) ∨ (J.go i H ∧ ∃ Nx : Hp → Prop, (∀ H', Nx H' → ∃ m', m' < m ∧ W (i + 1) m' H') ∧ ∀ x H', J.yld i H x H' → g x (wipe σ vs) H' fun σ2 H2 => wipe σ2 vs = wipe σ vs ∧ tt σ2 H2 fun b H3 =>
    if b = true then te σ2 H3 fun y H4 => ∃ acc, H4 D = some (.lst acc) ∧ acc.length < sizeLine ∧ Nx (upd H4 D (.lst (acc ++ [y]))) else Nx H3)
theorem r_lc {wi : TI} {g : TG} {tt : TT} {vs : List Nat} (h : wi σ H fun J H1 => ∀ p, H1 p = none → tLcs J g tt te vs σ H1 p fun H2 => Q (.ref p) H2) : tLc wi g tt te vs σ H Q := h
theorem c_it {J : It} {n : Nat} {G : Hp → Prop} {Y : Nat → Hp → V → Hp → Prop} {g : TG} {tt : TT} {vs : List Nat} {p : Addr} {Qd : Hp → Prop} (w : Walk J n G Y) (Pv : Nat → Hp → Prop) (h0 : Pv 0 (upd H p (.lst []))) (hG : ∀ i H, i ≤ n → Pv i H → G H)
    (hs : ∀ i x H H', i < n → Pv i H → Y i H x H' → g x (wipe σ vs) H' fun σ2 H2 => wipe σ2 vs = wipe σ vs ∧ tt σ2 H2 fun b H3 =>
      if b = true then te σ2 H3 fun y H4 => ∃ acc, H4 p = some (.lst acc) ∧ acc.length < sizeLine ∧ Pv (i + 1) (upd H4 p (.lst (acc ++ [y]))) else Pv (i + 1) H3) (hd : ∀ H, Pv n H → Qd H) : tLcs J g tt te vs σ H p Qd := lc_it w Pv h0 hG hs hd
theorem r_while {c : TT} {tb : TS} (Pv : S → Hp → Prop) (μ : S → Hp → Nat) (Pe : S → Hp → Prop) (h0 : Pv σ H) (he : ∀ σ H, Pe σ H → D.nx σ H)
    (hs : ∀ σ H, Pv σ H → (∀ σ H, Pe σ H → D.nx σ H) → c σ H fun b H1 => if b = true then ∃ N : S → Hp → Prop, (∀ σ' H', N σ' H' → ∃ m', m' < μ σ H ∧ (m' = μ σ' H' ∧ Pv σ' H')) ∧ tb { D with nx := N, ct := N, bk := D.nx } σ H1 else D.nx σ H1) : tWhile c tb D σ H := by
  refine ⟨fun m σ H => m = μ σ H ∧ Pv σ H, ⟨_, rfl, h0⟩, ?_⟩
  rintro m σ H ⟨rfl, p⟩
  exact hs σ H p he
theorem r_turn {tb : TS} {Pv : S → Hp → Prop} {μ : S → Hp → Nat} {m : Nat} {rt : VK} {bk : S → Hp → Prop} (h : tb { nx := fun σ' H' => Pv σ' H' ∧ μ σ' H' < m, rt := rt, ct := fun σ' H' => Pv σ' H' ∧ μ σ' H' < m, bk := bk } σ H) :
    ∃ N : S → Hp → Prop, (∀ σ' H', N σ' H' → ∃ m', m' < m ∧ (m' = μ σ' H' ∧ Pv σ' H')) ∧ tb { nx := N, rt := rt, ct := N, bk := bk } σ H :=
  ⟨_, fun σ' H' q => ⟨_, q.2, rfl, q.1⟩, h⟩
theorem r_iteNT {A B : Prop} (h : B) : if (!true) = true then A else B := h
theorem r_iteNF {A B : Prop} (h : A) : if (!false) = true then A else B := h
theorem r_isiT {p : Addr} {xs : List V} (h1 : H p = some (.tup xs)) (h : Q (.bl true) H) : rIsi K [.ref p, .ty "tuple"] H Q := r_isi (.ty "tuple") (.base (.tup h1)) (kit_ty (by decide +kernel)) h
theorem r_seqH (Mid : S → Hp → Prop) (h2 : ∀ σ G, Mid σ G → u D σ G) (h1 : (∀ σ G, Mid σ G → u D σ G) → t { D with nx := u D } σ H) : tSeq t u D σ H := h1 h2
theorem r_nx {f bk ct : S → Hp → Prop} {rt : VK} (h : f σ H) : Ends.nx { nx := f, rt := rt, bk := bk, ct := ct } σ H := h
theorem r_bk {f bk ct : S → Hp → Prop} {rt : VK} (h : bk σ H) : Ends.bk { nx := f, rt := rt, bk := bk, ct := ct } σ H := h
theorem r_ct {f bk ct : S → Hp → Prop} {rt : VK} (h : ct σ H) : Ends.ct { nx := f, rt := rt, bk := bk, ct := ct } σ H := h
theorem r_rt {f bk ct : S → Hp → Prop} {rt : VK} (h : rt v H) : Ends.rt { nx := f, rt := rt, bk := bk, ct := ct } v H := h
theorem r_iseqL {R : It → Hp → Prop} (h : te σ H fun x H1 => ∃ a, x = .ref a ∧ (∃ xs, SqL K H1 a xs) ∧ R (Itl K a) H1) : iSeqU K te σ H R := .inl h
theorem r_iseqT {R : It → Hp → Prop} (h : te σ H fun x H1 => ∃ a, x = .ref a ∧ (∃ xs, SqT K H1 a xs) ∧ R (Itt K a) H1) : iSeqU K te σ H R := .inr (.inl h)
theorem r_iseqS {R : It → Hp → Prop} (h : te σ H fun v H1 => ∃ x, v = .str x ∧ R (Its x) H1) : iSeqU K te σ H R := .inr (.inr h)
theorem r_yes {P : Bool → Hp → Prop} (h : P true H) : tYes σ H P := h
theorem r_rng1 {R : It → Hp → Prop} (h : tr σ H fun vs H1 => ∃ j : Int, vs = [.int j] ∧ -(2 ^ 62) ≤ j ∧ j < 2 ^ 62 ∧ R (Itr 0 j.toNat) H1) : iRng1 tr σ H R := h
theorem r_one {P : Int → Prop} (h1 : -(2 ^ 62) ≤ i ∧ i < 2 ^ 62) (h : P i) : ∃ j : Int, [V.int i] = [.int j] ∧ -(2 ^ 62) ≤ j ∧ j < 2 ^ 62 ∧ P j := ⟨i, rfl, h1.1, h1.2, h⟩
end
end Px

namespace Px
open PySem PySem.Spec PyProof.Rows L2
/-! ### how long what repr shows may be -/
structure Sm (n : Nat) (d : PyData) : Prop where
  sh : d.showable = true
  le : d.shown.length ≤ n
theorem Sm.mono {n m : Nat} {d : PyData} (h : Sm n d) (l : n ≤ m) : Sm m d := ⟨h.sh, Nat.le_trans h.le l⟩
theorem append_len (a b : Str) : (a ++ b).length = a.length + b.length := by
  show (a.cps ++ b.cps).size = a.cps.size + b.cps.size
  rw [Array.size_append]
theorem join_len (sep : Str) (n : Nat) : ∀ ts : List Str, (∀ t ∈ ts, t.length ≤ n) → (Str.join sep ts).length ≤ ts.length * (n + sep.length)
  | [], _ => by rw [join_nil]; exact Nat.zero_le _
  | [x], h => by
    rw [join_one]
    have := h x (by simp)
    simp
    omega
  | x :: y :: r, h => by
    rw [join_cons_cons, append_len, append_len]
    have h1 := h x (by simp)
    have h2 := join_len sep n (y :: r) fun t ht => h t (List.mem_cons_of_mem _ ht)
    have e : (x :: y :: r).length = (y :: r).length + 1 := rfl
    rw [e, Nat.add_mul, Nat.one_mul]
    omega
theorem lt_log {n : Nat} (h : n < 10 ^ 20) : n.log2 < 1920 := by
  by_cases z : n = 0
  · rw [z]; decide
  · exact (Nat.log2_lt z).mpr (Nat.lt_trans h (by decide))
theorem Sm.int {i : Int} (h : i.natAbs < 10 ^ 20) : Sm 21 (.int i) := by
  refine ⟨?_, ?_⟩
  · simp only [PyData.showable]; exact decide_eq_true (lt_log h)
  · simp only [PyData.shown]
    have := int_text_length_le10 (a := i) (k := 20) (by decide) h
    rw [PySem.ofString_length]
    exact this
theorem Sm.str {z : Str} (h : ∀ c ∈ z.cps.toList, c < 16 ^ 8) : Sm (10 * z.length + 2) (.str z) := by
  refine ⟨by simp only [PyData.showable], ?_⟩
  simp only [PyData.shown]
  exact PySem.StrLaws.reprText_len z h
theorem shownAll_le {n : Nat} : ∀ {ds : List PyData}, (∀ d ∈ ds, Sm n d) → PyData.showableAll ds = true ∧ (PyData.shownAll ds).length = ds.length ∧ ∀ t ∈ PyData.shownAll ds, t.length ≤ n
  | [], _ => ⟨by simp only [PyData.showableAll], by simp only [PyData.shownAll, List.length_nil], fun t h => by simp only [PyData.shownAll] at h; cases h⟩
  | d :: ds, h => by
    obtain ⟨h1, h2, h3⟩ := shownAll_le (ds := ds) fun e he => h e (List.mem_cons_of_mem _ he)
    have h0 := h d (by simp)
    refine ⟨?_, ?_, ?_⟩
    · simp only [PyData.showableAll, h0.sh, h1, Bool.and_self]
    · simp only [PyData.shownAll, List.length_cons, h2]
    · intro t ht
      simp only [PyData.shownAll] at ht
      rcases List.mem_cons.mp ht with e | e
      · rw [e]; exact h0.le
      · exact h3 t e
theorem Sm.list {n : Nat} {ds : List PyData} (h : ∀ d ∈ ds, Sm n d) : Sm (ds.length * (n + 2) + 2) (.list ds) := by
  obtain ⟨h1, h2, h3⟩ := shownAll_le h
  refine ⟨by simp only [PyData.showable]; exact h1, ?_⟩
  simp only [PyData.shown, PySem.listText_eq_join]
  have q := join_len (", " : Str) n _ h3
  rw [h2] at q
  rw [append_len, append_len]
  show 1 + _ + 1 ≤ _
  have e : (Str.ofString ", ").length = 2 := rfl
  rw [e] at q
  omega
theorem Sm.tuple {n : Nat} {ds : List PyData} (h : ∀ d ∈ ds, Sm n d) : Sm (ds.length * (n + 2) + 3) (.tuple ds) := by
  obtain ⟨h1, h2, h3⟩ := shownAll_le h
  refine ⟨by simp only [PyData.showable]; exact h1, ?_⟩
  simp only [PyData.shown, tupleText]
  have q := join_len (", " : Str) n _ h3
  rw [h2] at q
  rw [append_len, append_len]
  have e : (Str.ofString ", ").length = 2 := rfl
  rw [e] at q
  have e1 : (Str.ofString "(").length = 1 := rfl
  rw [e1]
  split
  · have e2 : (Str.ofString ",)").length = 2 := rfl
    rw [e2]; omega
  · have e2 : (Str.ofString ")").length = 1 := rfl
    rw [e2]; omega
theorem small_line {n : Nat} (h : n ≤ 16777216) : n ≤ sizeLine := by rw [sizeLine_eq]; exact h

/-! ### lists of ints and texts as one thing -/
/-- a text of these code points -/
def sOf (xs : List Int) : Str := ⟨(xs.map Int.toNat).toArray⟩
theorem sOf_len (xs : List Int) : (sOf xs).length = xs.length := by
  show (List.toArray (xs.map Int.toNat)).size = xs.length
  simp
theorem sOf_list (xs : List Int) : (sOf xs).cps.toList = xs.map Int.toNat := by simp [sOf]
theorem sOf_append (xs ys : List Int) : sOf xs ++ sOf ys = sOf (xs ++ ys) := by
  show (⟨_ ++ _⟩ : Str) = _
  unfold sOf
  simp
def Cps (xs : List Int) : Prop := ∀ x ∈ xs, 0 ≤ x ∧ x < 16 ^ 8
theorem toNat_inj : ∀ {xs ys : List Int}, Cps xs → Cps ys → xs.map Int.toNat = ys.map Int.toNat → xs = ys
  | [], [], _, _, _ => rfl
  | [], _ :: _, _, _, h => by simp at h
  | _ :: _, [], _, _, h => by simp at h
  | x :: xs, y :: ys, hx, hy, h => by
    simp only [List.map_cons, List.cons.injEq] at h
    have e := toNat_inj (fun z hz => hx z (List.mem_cons_of_mem _ hz)) (fun z hz => hy z (List.mem_cons_of_mem _ hz)) h.2
    have h1 := (hx x (by simp)).1
    have h2 := (hy y (by simp)).1
    have e2 : x = y := by omega
    rw [e, e2]
theorem sOf_inj {xs ys : List Int} (hx : Cps xs) (hy : Cps ys) : sOf xs = sOf ys ↔ xs = ys := by
  constructor
  · intro h
    have e := congrArg (fun z : Str => z.cps.toList) h
    simp only [sOf_list] at e
    exact toNat_inj hx hy e
  · intro h; rw [h]
/-- one item: an int, or a text of one sign -/
def itV (k : Bool) (x : Int) : V := if k = true then .str ⟨#[x.toNat]⟩ else .int x
/-- v is a list of these ints, or the text of these code points -/
def IsQ (H : Hp) (k : Bool) (v : V) (xs : List Int) : Prop := xs.length ≤ 100000 ∧ ((k = false ∧ ∃ a, v = .ref a ∧ H a = some (.lst (xs.map V.int))) ∨ (k = true ∧ v = .str (sOf xs) ∧ Cps xs))
/-- .. and, if it is a list, one that H does not know -/
def NewQ (H H' : Hp) (k : Bool) (v : V) (xs : List Int) : Prop := IsQ H' k v xs ∧ (∀ a, v = .ref a → H a = none)
theorem IsQ.same {H H' : Hp} {k : Bool} {v : V} {xs : List Int} (q : IsQ H k v xs) (e : Same H H') : IsQ H' k v xs := by
  obtain ⟨l, q⟩ := q
  refine ⟨l, ?_⟩
  rcases q with ⟨hk, a, hv, h⟩ | q
  · exact .inl ⟨hk, a, hv, e _ _ h⟩
  · exact .inr q
def dq (k : Bool) (xs : List Int) : PyData := if k = true then .str (sOf xs) else .list (xs.map PyData.int)
theorem dpAll_ints {K : PySem.W.Frag} {H : Hp} : ∀ xs : List Int, DpAll K H (xs.map V.int) (xs.map PyData.int)
  | [] => .nil
  | x :: xs => .cons (.int x) (dpAll_ints xs)
theorem IsQ.dp {K : PySem.W.Frag} {H : Hp} {k : Bool} {v : V} {xs : List Int} (q : IsQ H k v xs) : Dp K H v (dq k xs) := by
  obtain ⟨l, ⟨rfl, a, rfl, h⟩ | ⟨rfl, rfl, c⟩⟩ := q
  · exact .lst (ql h) (dpAll_ints xs)
  · exact .str _
theorem canLay_ints : ∀ xs : List Int, PyData.canLayAll0 (xs.map PyData.int) = true
  | [] => by simp only [List.map_nil, PyData.canLayAll0]
  | x :: xs => by simp only [List.map_cons, PyData.canLayAll0, PyData.canLay0, canLay_ints xs, Bool.and_self]
theorem depth_ints : ∀ xs : List Int, PyData.depthAll (xs.map PyData.int) = 0
  | [] => by simp only [List.map_nil, PyData.depthAll]
  | x :: xs => by simp only [List.map_cons, PyData.depthAll, PyData.depth, depth_ints xs, Nat.max_self]
theorem shaped_list_ints (xs : List Int) : SeqAt.shaped (.list (xs.map PyData.int)) = true := by
  unfold SeqAt.shaped
  simp only [PyData.canLay0, PyData.depth, canLay_ints, depth_ints]
  decide
theorem strOk_of {z : Str} (h : ∀ c ∈ z.cps.toList, c < 0x110000) : PyData.strOk z = true := by
  unfold PyData.strOk
  rw [Array.all_eq_true_iff_forall_mem]
  intro c hc
  exact decide_eq_true (h c (by simpa using hc))
theorem eqv_ints : ∀ xs ys : List Int, PyData.eqvAll (xs.map PyData.int) (ys.map PyData.int) = decide (xs = ys)
  | [], [] => by simp only [List.map_nil, PyData.eqvAll]; rfl
  | [], y :: ys => by simp only [List.map_nil, List.map_cons, PyData.eqvAll]; simp
  | x :: xs, [] => by simp only [List.map_nil, List.map_cons, PyData.eqvAll]; simp
  | x :: xs, y :: ys => by
    simp only [List.map_cons, PyData.eqvAll, PyData.eqv, eqv_ints xs ys]
    by_cases h : x = y <;> simp [h]

theorem dq_shaped {k : Bool} {xs : List Int} (h : k = true → ∀ x ∈ xs, x < 0x110000) : SeqAt.shaped (dq k xs) = true := by
  cases k with
  | false => exact shaped_list_ints xs
  | true =>
    unfold SeqAt.shaped dq
    rw [if_pos rfl]
    simp only [PyData.canLay0, PyData.depth]
    rw [strOk_of]
    · rfl
    · intro c hc
      rw [sOf_list] at hc
      obtain ⟨x, hx, rfl⟩ := List.mem_map.mp hc
      have := h rfl x hx
      omega
theorem dq_eqv {k : Bool} {xs ys : List Int} (hx : k = true → Cps xs) (hy : k = true → Cps ys) : PyData.eqv (dq k xs) (dq k ys) = decide (xs = ys) := by
  cases k with
  | false =>
    show PyData.eqv (.list _) (.list _) = _
    simp only [PyData.eqv, eqv_ints]
  | true =>
    show PyData.eqv (.str _) (.str _) = _
    simp only [PyData.eqv]
    have e := sOf_inj (hx rfl) (hy rfl)
    by_cases h : xs = ys
    · rw [h]; simp
    · rw [decide_eq_false h]
      exact beq_eq_false_iff_ne.mpr fun z => h (e.mp z)
theorem IsQ.len {H : Hp} {k : Bool} {v : V} {xs : List Int} (q : IsQ H k v xs) : xs.length ≤ 100000 := q.1
theorem IsQ.cps {H : Hp} {k : Bool} {v : V} {xs : List Int} (q : IsQ H k v xs) : k = true → Cps xs := fun e => by
  obtain ⟨_, ⟨hk, _⟩ | ⟨_, _, c⟩⟩ := q
  · rw [hk] at e; cases e
  · exact c
section
variable {K : PySem.W.Frag} {H : Hp} {Q : VK} {k : Bool} {v u : V} {xs ys : List Int} {i : Int}
theorem q_len (q : IsQ H k v xs) (h : Q (.int xs.length) H) : rLenU K [v] H Q := by
  obtain ⟨l, ⟨rfl, a, rfl, e⟩ | ⟨rfl, rfl, c⟩⟩ := q
  · have e2 : (xs.map V.int).length = xs.length := List.length_map ..
    exact r_lenUL (ql e) (by rw [e2]; exact h)
  · exact r_lenUS (by rw [sOf_len]; exact small_line (by omega)) (by rw [sOf_len]; exact h)
theorem q_ix {j : Nat} {x : Int} (q : IsQ H k v xs) (hj : i = (j : Int)) (hx : xs[j]? = some x) (h : Q (itV k x) H) : rIx K v (.int i) H Q := by
  subst hj
  obtain ⟨l, ⟨rfl, a, rfl, e⟩ | ⟨rfl, rfl, c⟩⟩ := q
  · exact r_ixL (ql e) (atI_nat (by rw [List.getElem?_map, hx]; rfl)) h
  · exact r_ixS (by rw [sOf_len]; exact small_line (by omega)) (atI_nat (by rw [sOf_list, List.getElem?_map, hx]; rfl)) h
theorem q_eqi {x y : Int} (hx : k = true → 0 ≤ x) (hy : k = true → 0 ≤ y) (h : Q (.bl (decide (x = y))) H) : rEqU K (itV k x) (itV k y) H Q := by
  cases k with
  | false => exact r_eqUI h
  | true =>
    refine r_eqUS ?_
    have e : decide ((⟨#[x.toNat]⟩ : Str) = ⟨#[y.toNat]⟩) = decide (x = y) := by
      have h1 := hx rfl
      have h2 := hy rfl
      by_cases z : x = y
      · subst z; simp
      · rw [decide_eq_false z]
        refine decide_eq_false fun w => z ?_
        simp at w
        omega
    rw [e]; exact h
theorem q_nei {x y : Int} (hx : k = true → 0 ≤ x) (hy : k = true → 0 ≤ y) (h : Q (.bl (!decide (x = y))) H) : rNeU K (itV k x) (itV k y) H Q := by
  cases k with
  | false => exact r_neUI h
  | true =>
    refine r_neUS ?_
    have e : decide ((⟨#[x.toNat]⟩ : Str) = ⟨#[y.toNat]⟩) = decide (x = y) := by
      have h1 := hx rfl
      have h2 := hy rfl
      by_cases z : x = y
      · subst z; simp
      · rw [decide_eq_false z]
        refine decide_eq_false fun w => z ?_
        simp at w
        omega
    rw [e]; exact h
theorem newq_list {H' : Hp} {p : Addr} (hp : H p = none) (l : xs.length ≤ 100000) (e : H' p = some (.lst (xs.map V.int))) : NewQ H H' false (.ref p) xs :=
  ⟨⟨l, .inl ⟨rfl, p, rfl, e⟩⟩, fun a ea => by cases ea; exact hp⟩
theorem newq_str {H' : Hp} (l : xs.length ≤ 100000) (c : Cps xs) : NewQ H H' true (.str (sOf xs)) xs := ⟨⟨l, .inr ⟨rfl, rfl, c⟩⟩, fun a ea => nomatch ea⟩
/-- a new list of ints at p, laid -/
theorem q_new {p : Addr} {vs : List V} (hp : H p = none) (l : xs.length ≤ 100000) (e : vs = xs.map V.int) : NewQ H (upd H p (.lst vs)) false (.ref p) xs := newq_list hp l (by rw [upd_same, e])
theorem Cps.sub {xs ys : List Int} (c : Cps xs) (h : ∀ x ∈ ys, x ∈ xs) : Cps ys := fun x hx => c x (h x hx)
/-- v[lo:hi] -/
theorem q_sl {lo hi : Option Int} {a b : Nat} (q : IsQ H k v xs) (ha : HT.sIx xs.length 0 lo = a) (hb : HT.sIx xs.length xs.length hi = b) (h : ∀ v' H', Same H H' → NewQ H H' k v' ((xs.drop a).take (b - a)) → Q v' H') : rSlU K v lo hi H Q := by
  have hl : ((xs.drop a).take (b - a)).length ≤ 100000 := by
    rw [List.length_take, List.length_drop]
    have := q.1
    omega
  obtain ⟨l, ⟨rfl, p, rfl, e⟩ | ⟨rfl, rfl, c⟩⟩ := q
  · refine r_slUL (ql e) fun p hp => h _ _ (same_new hp) (q_new hp hl ?_)
    unfold cutV
    rw [List.length_map, ha, hb, List.map_take, List.map_drop]
  · refine r_slUS (by rw [sOf_len]; exact small_line (by omega)) ?_
    have e : cutS (sOf xs) lo hi = sOf ((xs.drop a).take (b - a)) := by
      unfold cutS
      rw [sOf_len, ha, hb, sOf_list]
      unfold sOf
      rw [List.map_take, List.map_drop]
    rw [e]
    exact h _ _ (Same.refl H) (newq_str hl (c.sub fun x hx => List.mem_of_mem_drop (List.mem_of_mem_take hx)))
theorem q_rev {te : TE} {σ : S} (h : te σ H fun w H1 => IsQ H1 k w xs ∧ ∀ v' H', Same H1 H' → NewQ H1 H' k v' xs.reverse → Q v' H') : k = k → (∀ (P P' : VK), (∀ w H1, P w H1 → P' w H1) → te σ H P → te σ H P') → tRevU K te σ H Q := fun _ mono => by
  cases k with
  | false =>
    refine .inl (mono _ _ (fun w H1 ⟨q, h⟩ => ?_) h)
    obtain ⟨l, ⟨_, a, rfl, e⟩ | ⟨z, _⟩⟩ := q
    · exact ⟨a, _, rfl, ql e, fun p hp => h _ _ (same_new hp) (q_new hp (by rw [List.length_reverse]; exact l) (by rw [List.map_reverse]))⟩
    · cases z
  | true =>
    refine .inr (mono _ _ (fun w H1 ⟨q, h⟩ => ?_) h)
    obtain ⟨l, ⟨z, _⟩ | ⟨_, rfl, c⟩⟩ := q
    · cases z
    · refine ⟨sOf xs, rfl, by rw [sOf_len]; exact small_line (by omega), ?_⟩
      have e : revS (sOf xs) = sOf xs.reverse := by
        unfold revS
        rw [sOf_list]
        unfold sOf
        rw [List.map_reverse]
      rw [e]
      exact h _ _ (Same.refl H1) (newq_str (by rw [List.length_reverse]; exact l) (c.sub fun x hx => List.mem_reverse.mp hx))
theorem q_add (q1 : IsQ H k v xs) (q2 : IsQ H k u ys) (hl : xs.length + ys.length ≤ 100000) (h : ∀ v' H', Same H H' → NewQ H H' k v' (xs ++ ys) → Q v' H') : rAddU K v u H Q := by
  have hl' : (xs ++ ys).length ≤ 100000 := by rw [List.length_append]; exact hl
  obtain ⟨l1, ⟨rfl, a, rfl, e1⟩ | ⟨rfl, rfl, c1⟩⟩ := q1
  · obtain ⟨l2, ⟨_, b, rfl, e2⟩ | ⟨z, _⟩⟩ := q2
    · exact r_addUL e1 e2 (by rw [List.length_map, List.length_map]; exact small_line (by omega)) fun p hp => h _ _ (same_new hp) (q_new hp hl' (by rw [List.map_append]))
    · cases z
  · obtain ⟨l2, ⟨z, _⟩ | ⟨_, rfl, c2⟩⟩ := q2
    · cases z
    · refine r_addUS (by rw [sOf_len, sOf_len]; exact small_line (by omega)) ?_
      rw [sOf_append]
      exact h _ _ (Same.refl H) (newq_str hl' fun x hx => (List.mem_append.mp hx).elim (c1 x) (c2 x))
theorem q_eq (q1 : IsQ H k v xs) (q2 : IsQ H k u ys) (c1 : k = true → ∀ x ∈ xs, x < 0x110000) (c2 : k = true → ∀ x ∈ ys, x < 0x110000) (h : Q (.bl (decide (xs = ys))) H) : rEqU K v u H Q :=
  r_eqUD q1.dp q2.dp (dq_shaped c1) (dq_shaped c2) (by rw [dq_eqv q1.cps q2.cps]; exact h)
theorem q_ne (q1 : IsQ H k v xs) (q2 : IsQ H k u ys) (c1 : k = true → ∀ x ∈ xs, x < 0x110000) (c2 : k = true → ∀ x ∈ ys, x < 0x110000) (h : Q (.bl (!decide (xs = ys))) H) : rNeU K v u H Q :=
  r_neUD q1.dp q2.dp (dq_shaped c1) (dq_shaped c2) (by rw [dq_eqv q1.cps q2.cps]; exact h)
/-- for a, b in zip(v, u) -/
theorem q_zip {ta : TA} {R : It → Hp → Prop} {σ : S} (h : ta σ H fun vs H1 => ∃ v u, vs = [v, u] ∧ IsQ H1 k v xs ∧ IsQ H1 k u ys ∧ ∀ J : It, Walk J (min xs.length ys.length) (fun H => IsQ H k v xs ∧ IsQ H k u ys) (YPair (fun i => (xs[i]?).map (itV k)) fun i => (ys[i]?).map (itV k)) → R J H1)
    (mono : ∀ (P P' : List V → Hp → Prop), (∀ w H1, P w H1 → P' w H1) → ta σ H P → ta σ H P') : iZipU K ta σ H R := by
  cases k with
  | false =>
    refine .inl (mono _ _ (fun w H1 h => ?_) h)
    obtain ⟨v, u, rfl, q1, q2, g⟩ := h
    obtain ⟨l1, ⟨_, a, rfl, e1⟩ | ⟨z, _⟩⟩ := q1
    · obtain ⟨l2, ⟨_, b, rfl, e2⟩ | ⟨z, _⟩⟩ := q2
      · refine ⟨a, b, _, _, rfl, ql e1, ql e2, g _ ?_⟩
        have w := walk_zip (K := K) (a := a) (b := b) (xs := xs.map V.int) (ys := ys.map V.int) (n := min xs.length ys.length) (by rw [List.length_map, List.length_map])
        refine w.mono (fun H h => ?_) fun i H x H' _ _ y => ?_
        · obtain ⟨⟨_, ⟨_, a', ea, h1⟩ | ⟨z, _⟩⟩, ⟨_, ⟨_, b', eb, h2⟩ | ⟨z', _⟩⟩⟩ := h
          · cases ea; cases eb; exact ⟨ql h1, ql h2⟩
          · cases z'
          · cases z
          · cases z
        · obtain ⟨T, x1, x2, h1, h2, h3, h4, h5⟩ := y
          refine ⟨T, x1, x2, h1, h2, h3, ?_, ?_⟩
          · have z : (xs.map V.int)[i]? = some x1 := h4
            rw [List.getElem?_map] at z; exact z
          · have z : (ys.map V.int)[i]? = some x2 := h5
            rw [List.getElem?_map] at z; exact z
      · cases z
    · cases z
  | true =>
    refine .inr (mono _ _ (fun w H1 h => ?_) h)
    obtain ⟨v, u, rfl, q1, q2, g⟩ := h
    obtain ⟨l1, ⟨z, _⟩ | ⟨_, rfl, c1⟩⟩ := q1
    · cases z
    · obtain ⟨l2, ⟨z, _⟩ | ⟨_, rfl, c2⟩⟩ := q2
      · cases z
      · refine ⟨_, _, rfl, g _ ?_⟩
        have s1 : ∀ (zs : List Int) (i : Nat), sgn (sOf zs) i = (zs[i]?).map (itV true) := fun zs i => by
          unfold sgn
          rw [← Array.getElem?_toList, sOf_list, List.getElem?_map, Option.map_map]
          rfl
        have e1 : (sOf xs).cps.size = xs.length := sOf_len xs
        have e2 : (sOf ys).cps.size = ys.length := sOf_len ys
        rw [e1, e2]
        refine (walk_pairs (n := min xs.length ys.length) (f := sgn (sOf xs)) (g := sgn (sOf ys))).mono (fun _ _ => trivial) fun i H x H' _ _ y => ?_
        obtain ⟨T, x1, x2, h1, h2, h3, h4, h5⟩ := y
        exact ⟨T, x1, x2, h1, h2, h3, (s1 xs i).symm.trans h4, (s1 ys i).symm.trans h5⟩
end
end Px

namespace Px
open PySem PySem.Spec PyProof.Rows L2
/-! ### a law's end, by a contract that knows that no repr is under way -/
theorem hid_at {h : Heap} {H : Hp} {b : Addr} {o : Obj} (e : h.get? b = some o) (n : H b = none) : (hidT h H).get? b = some o := hidT_get e n
theorem law_core {P : Program} {w : World} {K : PySem.W.Frag} {mg mb : Str → Option Value} {k : Nat} {fa a : Addr} {fd : FuncData} {x : Str} {sp : Sp} {s₁ : Shared} {vs : List Value}
    (KX : K.In s₁.heap) (hns : s₁.heap.Ns mainGlobals mg) (hb : s₁.heap.Ns builtinsNs mb) (hbb : ∀ x : Str, x ≠ "__name__" → mb x = bootBuiltins x) (hlim : s₁.heap.NoLimit) (hg : s₁.gens = #[])
    (ha : s₁.heap.get? a = some { cls := .type "list", data := .seq vs.toArray }) (hr : Room k callerA)
    (F : ∀ base : Heap, K.In base → base.Ns mainGlobals mg → FnG P w K mg base CX0 k fa fd [x] sp) (hbind : ∀ (s : Shared) (u : Value), BindsTo s fd ⟨[u], []⟩ [(x, u)])
    (H : Hp) (hO : Only H) (hsp : sp [.ref a] H (fun v _ => v = .bl true) fun _ _ _ => False) (hok : HOk P w H s₁.heap) (hA : ∀ b, H b ≠ none → b = a) (hK : H a ≠ none → K.lookup a = none) :
    codeAny (model P w) callerA (.call (.ref fa) ⟨[.ref a], []⟩) (fun r s' => r = .ok (.ret (.bool true)) ∧ OldK s₁.heap s'.heap ∧ s'.os = s₁.os ∧ AllBare s'.gens) s₁ := by
  have only : ∀ {b : Addr} {o : Obj}, s₁.heap.get? b = some o → (b = a → False) → H b = none := fun {b o} e n => by
    cases q : H b with
    | none => rfl
    | some u => exact (n (hA b (by rw [q]; simp))).elim
  have noA : ∀ {b : Addr} {o : Obj} {es : Array DictEntry} {ep : Nat}, s₁.heap.get? b = some o → o.data = .dict es ep → H b = none := fun e d => only e fun z => by
    subst z
    rw [ha] at e
    cases e
    exact nomatch (show Data.seq vs.toArray _ = Data.dict _ _ from d)
  have nsK : ∀ {b : Addr} {m : Str → Option Value}, s₁.heap.Ns b m → (hidT s₁.heap H).Ns b m := fun ⟨o, es, ep, e, d, r⟩ => ⟨o, es, ep, hid_at e (noA e d), d, r⟩
  have hKb : K.In (hidT s₁.heap H) := fun b o e => hid_at (KX b o e) (by
    cases q : H b with
    | none => rfl
    | some u =>
      have e' : b = a := hA b (by rw [q]; simp)
      subst e'
      have z := hK (by rw [q]; simp)
      rw [z] at e
      cases e)
  have hM : Mod K mg (hidT s₁.heap H) := ⟨hKb, nsK hns, ⟨mb, nsK hb, hbb⟩, let ⟨mc, h1, h2⟩ := hlim; ⟨mc, nsK h1, h2⟩⟩
  have e0 : Env0 P w K mg (hidT s₁.heap H) callerA [] s₁ H := ⟨rfl, hM, fun b o e => of_hidT e, Nat.le_of_eq (hidT_size _ _), trivial, fun b hb => absurd (show b ∈ ([] : List Addr) from hb) (by simp), hok, .of_eq hg⟩
  have go := (F _ hKb (nsK hns)).run callerA [] s₁ H ⟨[.ref a], []⟩ [.ref a] [.ref a] _ _ rfl hr e0 (hbind s₁ (.ref a)) (.cons rfl .nil) hsp
  refine codeAny_mono go fun r s' h => ?_
  match r, h with
  | .error _, h => exact h.elim
  | .ok .next, h => exact h.elim
  | .ok .brk, h => exact h.elim
  | .ok .cont, h => exact h.elim
  | .ok (.ret u), ⟨v, H', os, bare, un, hok', r', q⟩ =>
    have q' : v = .bl true := q
    subst q'
    obtain rfl : u = Value.bool true := r'
    refine ⟨rfl, OldK.of_keep fun b o e => ?_, os, bare⟩
    rcases hO b with z | ⟨ob, xs, z⟩
    · exact un.keep b o e z (fun m => absurd (show b ∈ ([] : List Addr) from m) List.not_mem_nil) List.not_mem_nil
    · have h1 := (hok b _ z).1
      have h2 := (hok' b _ (un.frzs b ob _ z)).1
      rw [e] at h1
      cases h1
      exact h2
theorem law_go {P : Program} {w : World} {K : PySem.W.Frag} {mg mb : Str → Option Value} {k : Nat} {fa a : Addr} {fd : FuncData} {x : Str} {sp : Sp} {s₁ : Shared} {vs : List Value} {ns : List Int}
    (KX : K.In s₁.heap) (hns : s₁.heap.Ns mainGlobals mg) (hb : s₁.heap.Ns builtinsNs mb) (hbb : ∀ x : Str, x ≠ "__name__" → mb x = bootBuiltins x) (hlim : s₁.heap.NoLimit) (hg : s₁.gens = #[])
    (ha : s₁.heap.get? a = some { cls := .type "list", data := .seq vs.toArray }) (hi : IntsAre vs ns) (hl : ns.length ≤ sizeLine) (hr : Room k callerA)
    (F : ∀ base : Heap, K.In base → base.Ns mainGlobals mg → FnG P w K mg base CX0 k fa fd [x] sp) (hbind : ∀ (s : Shared) (u : Value), BindsTo s fd ⟨[u], []⟩ [(x, u)])
    (hsp : ∀ H : Hp, Only H → SqL K H a (ns.map V.int) → sp [.ref a] H (fun v _ => v = .bl true) fun _ _ _ => False) :
    codeAny (model P w) callerA (.call (.ref fa) ⟨[.ref a], []⟩) (fun r s' => r = .ok (.ret (.bool true)) ∧ OldK s₁.heap s'.heap ∧ s'.os = s₁.os ∧ AllBare s'.gens) s₁ := by
  have rv := vals_ints hi
  have core := law_core (mb := mb) KX hns hb hbb hlim hg ha hr F hbind
  cases hk : K.lookup a with
  | some o =>
    have e := KX a o hk
    rw [ha] at e
    cases e
    have hO : Only fun _ => none := fun _ => .inl rfl
    exact core _ hO (hsp _ hO (.inr ⟨_, vs.toArray, _, hk, rfl, rfl, rfl, by rw [List.size_toArray, hi.length]; exact hl, by simpa using rv⟩)) (fun b u z => nomatch (show (none : Option HO) = some u from z)) (fun b z => absurd rfl z) fun z => absurd rfl z
  | none =>
    let H0 : Hp := upd (fun _ => none) a (.frz { cls := .type "list", data := .seq vs.toArray } (.lst (ns.map V.int)))
    have at0 : ∀ b, b ≠ a → H0 b = none := fun b n => upd_ne n
    have hO : Only H0 := fun b => by
      by_cases q : b = a
      · subst q; exact .inr ⟨_, _, upd_same⟩
      · exact .inl (at0 b q)
    refine core H0 hO (hsp _ hO (.inl (.inr ⟨_, upd_same⟩))) (fun b u z => ?_) (fun b z => ?_) fun _ => hk
    · by_cases q : b = a
      · subst q
        have z' : HO.frz _ _ = u := Option.some.inj (upd_same.symm.trans z)
        subst z'
        exact ⟨ha, by rw [List.length_map]; exact hl, vs, _, rv, ha⟩
      · exact nomatch ((at0 b q).symm.trans z)
    · by_cases q : b = a
      · exact q
      · exact absurd (at0 b q) z
theorem walk_G {l : PySem.W.OpenLaw} {n k : Nat} {q : Program} {loose : List Str} {XP : (Str → Option Value) → Heap → Prop} {YP : World → Heap → Prop} {d : DefRec} {x : Str}
    (hn : l.most = some n) (hn2 : n ≤ sizeLine) (hdf : d.params.defaults = []) (hr : Room k callerA)
    (F : ∀ (w : World) (mg : Str → Option Value) (fa : Addr) (h : Heap), YP w h → h.Ns mainGlobals mg → mg d.name = some (.ref fa) →
      ∃ (K : PySem.W.Frag) (fd : FuncData) (sp : Sp), K.In h ∧ (∀ (s : Shared) (u : Value), BindsTo s fd ⟨[u], []⟩ [(x, u)]) ∧
        (∀ (H : Hp) (a : Addr) (ns : List Int), ns.length ≤ n → Only H → SqL K H a (ns.map V.int) → sp [.ref a] H (fun v _ => v = .bl true) fun _ _ _ => False) ∧
        ∀ base : Heap, K.In base → base.Ns mainGlobals mg → FnG l.prog w K mg base CX0 k fa fd [x] sp) :
    PySem.W.WalkO q loose XP YP l.row.toRowW d [] (fun f vs => PySem.call f vs) := by
  refine Att.attach_call hn hdf fun w s₀ s₁ mg mb fa o pm cd doc a vs ns G Y ho hd hcd hmg hobj hints hlen hg => ?_
  obtain ⟨K, fd, sp, KX, hb, hsp, hF⟩ := F w mg fa _ Y G.T.g hmg
  exact law_go KX G.T.g G.T.b G.T.builtins G.T.nolimit hg hobj hints (Nat.le_trans hlen hn2) hr hF hb fun H hO hS => hsp H a ns hlen hO hS
end Px

namespace Px
open PySem PySem.Spec PyProof.Rows L2 PySem.W
/-- n's last eight binary digits, as signs -/
def bin8 (n : Nat) : Str := ⟨#[48 + n / 128 % 2, 48 + n / 64 % 2, 48 + n / 32 % 2, 48 + n / 16 % 2, 48 + n / 8 % 2, 48 + n / 4 % 2, 48 + n / 2 % 2, 48 + n % 2]⟩
theorem fmt08b {n : Nat} (hn : n < 256) (t u : Tok) : Meets (Builtin.«int.__format__» ⟨[.int (n : Int) t, .str (PySem.Str.ofString "08b") u], []⟩) (fun _ R s => ∀ t' k, R (.ok (.ret (.str (bin8 n) t'))) { s with toks := k }) := by
  apply KPc.meets_of
  intro _ _ _ _ _ _ hq
  unfold Builtin.«int.__format__»
  refine wpAny_bind (wpAny_of_eq (a := (_, _)) rfl ?_)
  refine wpAny_bind (wpAny_of_eq (a := _) rfl ?_)
  kxf_if
  refine wpAny_bind (wpAny_typeNameOf (T := "str") (typeIs_str _ _ _) (by decide) fun _ => ?_)
  refine wpAny_bind (wpAny_of_eq (a := some _) rfl ?_)
  kxf_if
  kxf_if
  refine wpAny_bind (wpAny_typeNameOfCut_int ?_)
  (repeat kxf_if)
  refine KXf.ret_text ?he ?hl hq
  · clear hq
    revert n
    decide +kernel
  · clear hq
    revert n
    decide +kernel
def hexSign (d : Nat) : Nat := if d < 10 then 48 + d else 55 + d
/-- two hexadecimal digits, as signs -/
def hex2 (n : Nat) : Str := ⟨#[hexSign (n / 16), hexSign (n % 16)]⟩
theorem fmt02X {n : Nat} (hn : n < 256) (t u : Tok) : Meets (Builtin.«int.__format__» ⟨[.int (n : Int) t, .str (PySem.Str.ofString "02X") u], []⟩) (fun _ R s => ∀ t' k, R (.ok (.ret (.str (hex2 n) t'))) { s with toks := k }) := by
  apply KPc.meets_of
  intro _ _ _ _ _ _ hq
  unfold Builtin.«int.__format__»
  refine wpAny_bind (wpAny_of_eq (a := (_, _)) rfl ?_)
  refine wpAny_bind (wpAny_of_eq (a := _) rfl ?_)
  kxf_if
  refine wpAny_bind (wpAny_typeNameOf (T := "str") (typeIs_str _ _ _) (by decide) fun _ => ?_)
  refine wpAny_bind (wpAny_of_eq (a := some _) rfl ?_)
  kxf_if
  kxf_if
  refine wpAny_bind (wpAny_typeNameOfCut_int ?_)
  (repeat kxf_if)
  refine KXf.ret_text ?he ?hl hq
  · clear hq
    revert n
    decide +kernel
  · clear hq
    revert n
    decide +kernel
/-- {e:spec}, e a number below 256 -/
def tFmtB (g : Nat → Str) (te : TE) : TE := fun σ H Q => te σ H fun x H1 => ∃ n : Nat, x = .int n ∧ n < 256 ∧ Q (.str (g n)) H1
section
variable {X : Cx}
theorem pe_fmtB {e : Expr} {te : TE} {pos p1 p2 : Pos} {k : Nat} {spec : Str} {g : Nat → Str} (he : PE X e te) (hne : (spec.length == 0) = false) (hsz : spec.length ≤ sizeLine)
    (hg : ∀ n : Nat, n < 256 → ∀ t u, Meets (Builtin.«int.__format__» ⟨[.int (n : Int) t, .str spec u], []⟩) (fun _ R s => ∀ t' k, R (.ok (.ret (.str (g n) t'))) { s with toks := k })) :
    PE X (.FormattedValue e (-1) (some (.JoinedStr [.Constant (.str spec) k p1] p2)) pos) (tFmtB g te) := by
  refine ⟨fun pins s σ H Q I h => ?_⟩
  refine wpAny_FormattedValue_spec (thn (he.run pins s σ H _ I h) fun v s1 hv => ?_)
  obtain ⟨x, H1, I1, r1, n, rfl, hn, q⟩ := hv
  obtain ⟨t, rfl⟩ := r1
  refine wpAny_JoinedStr_one ?_
  refine thn ((pe_str (X := X) (x := spec)).run pins s1 σ H1 _ I1 (show tC (.str spec) σ H1 fun y H2 => y = .str spec ∧ H2 = H1 from ⟨rfl, rfl⟩)) fun r s2 h2 => ?_
  obtain ⟨y, H2, I2, r2, rfl, rfl⟩ := h2
  obtain ⟨tk, rfl⟩ := r2
  refine ⟨spec, tk, rfl, ?_⟩
  exact KXf.field_int rfl hne hsz (hg n hn t) fun t' k => ⟨.str (g n), H2, I2.tok k, ⟨_, rfl⟩, q⟩
end
end Px

namespace Px
open PySem PySem.Spec PyProof.Rows L2
/-! ### int(t, 2) -/
namespace Bn
open PySem.NumText PySem.Calls
def IsBit (c : Nat) : Prop := c = 48 ∨ c = 49
def binNum (l : List Nat) : Nat := l.foldl (fun a c => a * 2 + (c - 48)) 0
theorem toHex {c : Nat} (h : IsBit c) : L2.Hx.IsHex c := .inl (by rcases h with rfl | rfl <;> exact ⟨by decide, by decide⟩)
theorem dig {c : Nat} (h : IsBit c) : digit? c = some (c - 48) := by rcases h with rfl | rfl <;> rfl
theorem step2 {ds : Array Nat} {b : Bool} {c : Nat} (h : IsBit c) : PySem.NumText.step 2 (ds, b) c = some (ds.push (c - 48), true) := by rcases h with rfl | rfl <;> rfl
theorem fold2 : ∀ (cs : List Nat) (ds : Array Nat), (∀ c ∈ cs, IsBit c) → cs.foldlM (PySem.NumText.step 2) (ds, true) = some (cs.foldl (fun acc c => acc.push (c - 48)) ds, true)
  | [], _, _ => rfl
  | c :: cs, ds, h => by
    rw [List.foldlM_cons, step2 (h c (List.mem_cons_self ..))]
    exact fold2 cs (ds.push (c - 48)) fun d hd => h d (List.mem_cons_of_mem _ hd)
theorem digits2 {cs : List Nat} (h : ∀ c ∈ cs, IsBit c) (hne : cs ≠ []) : digits? 2 cs = some (cs.foldl (fun acc c => acc.push (c - 48)) #[]) := by
  match cs, hne with
  | c :: cs, _ =>
    unfold digits?
    rw [List.foldlM_cons, step2 (h c (List.mem_cons_self ..))]
    show (List.foldlM (PySem.NumText.step 2) ((#[] : Array Nat).push (c - 48), true) cs).bind _ = _
    rw [fold2 cs _ fun d hd => h d (List.mem_cons_of_mem _ hd)]
    rfl
theorem push2 : ∀ (cs : List Nat) (ds : Array Nat), (cs.foldl (fun acc c => acc.push (c - 48)) ds).foldl (fun acc d => acc * 2 + d) 0 = cs.foldl (fun a c => a * 2 + (c - 48)) (ds.foldl (fun acc d => acc * 2 + d) 0)
  | [], _ => rfl
  | c :: cs, ds => by
    rw [List.foldl_cons, push2 cs (ds.push (c - 48)), List.foldl_cons]
    simp
theorem based2 {cs : List Nat} (h : ∀ c ∈ cs, IsBit c) : based 2 cs = (2, false, cs) := by
  match cs, h with
  | [], _ => rfl
  | [a], h => rcases h a (by simp) with rfl | rfl <;> rfl
  | a :: c :: r, h =>
    rcases h a (by simp) with rfl | rfl <;> rcases h c (by simp) with rfl | rfl <;> rfl
theorem read2 {cs : List Nat} (h : ∀ c ∈ cs, IsBit c) (hne : cs ≠ []) : (int_private% "readNumeral") 0 2 cs = (int_private% "Numeral.value") ((binNum cs : Nat) : Int) := by
  have hx : ∀ c ∈ cs, L2.Hx.IsHex c := fun c hc => toHex (h c hc)
  refine (readNumeral_eq 0 2 cs).trans ?_
  rw [L2.Hx.dropB hx, L2.Hx.signH hx]
  show judge 0 false (based 2 cs).1 (based 2 cs).2.1 (digits? (based 2 cs).1 (((based 2 cs).2.2.reverse.dropWhile blank).reverse)) = _
  rw [based2 h]
  show judge 0 false 2 false (digits? 2 ((cs.reverse.dropWhile blank).reverse)) = _
  rw [L2.Hx.dropB (cs := cs.reverse) fun c hc => hx c (List.mem_reverse.mp hc), List.reverse_reverse, digits2 h hne]
  show (int_private% "Numeral.value") (((cs.foldl (fun acc c => acc.push (c - 48)) (#[] : Array Nat)).foldl (fun acc d => acc * 2 + d) 0 : Nat) : Int) = _
  rw [push2]
  rfl
set_option maxHeartbeats 4000000 in
theorem gives2 {x : PySem.Str} {u t : Tok} (hl : x.length ≤ 640) (h : ∀ c ∈ x.cps.toList, IsBit c) (hne : x.cps.toList ≠ []) :
    Gives (Builtin.«int.__new__» ⟨[.type "int", .str x u, .int 2 t], []⟩) (.int ((binNum x.cps.toList : Nat) : Int)) :=
  .of_wp fun M A E s Q hQ => by
    obtain ⟨hp, g, d, tk, os⟩ := s
    have c1 := F.conv_sub_int
    have c2 := F.madeHere_int
    have c3 : typeOf (.str x u) = pure (.type "str") := rfl
    obtain ⟨e1, e2⟩ := L2.Hx.seen_hex fun c hc => toHex (h c hc)
    have key : L2.Hx.Hid ((numSeenOf x).length ≤ 640 ∧ (int_private% "readNumeral") 0 2 (numSeenOf x) = (int_private% "Numeral.value") ((binNum x.cps.toList : Nat) : Int) ∧ ((numSeenOf x).length == (numTextOf x).length) = true) := by
      refine ⟨?_, ?_, ?_⟩
      · rw [e2, Array.length_toList]; exact hl
      · rw [e2]; exact read2 h hne
      · rw [e1, e2]; exact beq_self_eq_true _
    clear e1 e2 hl hne h
    repeat (any_goals (first
      | assumption
      | ((with_reducible show wpAny _ _ ((int_private% "intFromText") _ _ _) _ _ _);
          refine L2.Hx.wp_textB key.out.1 key.out.2.1 key.out.2.2 ?_)
      | wp_step))
    all_goals first | exact ⟨_, rfl, hQ⟩ | skip
end Bn
/-- int(t, 2) -/
def rIntBin : List V → Hp → VK → Prop := fun xs H Q => ∃ x : Str, xs = [.str x, .int 2] ∧ x.cps.toList ≠ [] ∧ x.length ≤ 640 ∧ (∀ c ∈ x.cps.toList, Bn.IsBit c) ∧ Q (.int ((Bn.binNum x.cps.toList : Nat) : Int)) H
theorem call_int_bin {X : Cx} : CallR X (.type "int") rIntBin := by
  intro pins s σ H xs us Q I r h
  obtain ⟨x, rfl, hne, hl, hx, q⟩ := h
  obtain ⟨u, w', rfl, r1, r2⟩ := vals2 r
  obtain ⟨t1, rfl⟩ := r1
  obtain ⟨t2, rfl⟩ := r2
  exact callType_new F.called_int F.newNe_int (L2.Hx.typeCall_int_2 _ _) (L2.Hx.newCall_int_2 _ _) (fun obj => F.initArgs_range_2 obj _ _) F.entry_int_new (Bn.gives2 hl hx hne).meets
    (show (Made.int ((Bn.binNum x.cps.toList : Nat) : Int)).post _ s from ⟨rfl, ⟨.int ((Bn.binNum x.cps.toList : Nat) : Int), H, I.tok _, ⟨_, rfl⟩, q⟩⟩)
end Px

namespace Px
open PySem PySem.Spec PyProof.Rows L2 PpSet
/-! ### sets of texts; len({x for x in text}) -/
/-- the members so far, and one more -/
def putT (l : List Str) (k : Str) : List Str := if k ∈ l then l else k :: l
def SetT (P : Program) (w : World) (h : Heap) (a : Addr) (l : List Str) : Prop := h.SetOf (strKind P w) a (fun k => decide (k ∈ l)) l.length
theorem setOf_at {P : Program} {w : World} {h h' : Heap} {a : Addr} {S : Str → Bool} {n : Nat} (R : h.SetOf (strKind P w) a S n) (k : ∀ o, h.get? a = some o → h'.get? a = some o) : h'.SetOf (strKind P w) a S n := by
  obtain ⟨o, es, ep, t, ho, r⟩ := R
  exact ⟨o, es, ep, t, k o ho, r⟩
theorem setOf_congr {P : Program} {w : World} {h : Heap} {a : Addr} {S S' : Str → Bool} {n n' : Nat} (R : h.SetOf (strKind P w) a S n) (e : ∀ k, S' k = S k) (en : n' = n) : h.SetOf (strKind P w) a S' n' := by
  have z : S' = S := funext e
  rw [z, en]
  exact R
def SetTO (P : Program) (w : World) (a : Addr) (l : List Str) : HO := .ext fun h => SetT P w h a l
theorem setTO_new {P : Program} {w : World} {H : Hp} {h : Heap} {a : Addr} {l : List Str} (R : SetT P w h a l) : ObjOk P w H h a (SetTO P w a l) := by
  have R' := R
  obtain ⟨o, _, _, _, ho, _⟩ := R'
  exact ⟨R, ⟨o, ho⟩, fun h1 h2 p k => setOf_at p k⟩
theorem setT_fresh {h : Heap} (P : Program) (w : World) (led : Bool) : SetT P w (h.push { cls := .type "set", dict := none, data := .set #[] 0 (.fresh 0 0 led) }) h.objs.size [] :=
  setOf_congr ((setObjOf_fresh (knd := strKind P w) led).setOf (Heap.get?_push_size _ rfl) (by decide)) (fun k => by simp) rfl
section
variable {X : Cx} {pins : List (Addr × Obj)} {σ : L2.St} {H : Hp} {s : Shared}
theorem setTO_get {a : Addr} {l : List Str} (I : Inv X pins σ H s) (ha : H a = some (SetTO X.prog X.w a l)) : SetT X.prog X.w s.heap a l := (I.hok a _ ha).1
theorem addT_ok {E : Value → Shared → Prop} {D : Addr} {l : List Str} {y : Str} {t : Tok} {Q : Value → Shared → Prop} (I : Inv X pins σ H s) (hD : H D = some (SetTO X.prog X.w D l)) (room : l.length + 1 < scanBound)
    (k : ∀ s', Inv X pins σ (upd H D (SetTO X.prog X.w D (putT l y))) s' → Q .none s') : wpAny (model X.prog X.w) X.A (call (.builtin "set.add") [.ref D, .str y t]) Q E s := by
  refine call_set_add (knd := strKind X.prog X.w) (k := y) (strKind_is _ _ _ _) rfl (setTO_get I hD) room fun h' sb new => ?_
  have new' : SetT X.prog X.w h' D (putT l y) := by
    refine setOf_congr new (fun j => ?_) ?_
    · unfold putT
      split
      · rename_i m
        by_cases e : j = y
        · subst e; simp [m]
        · simp [e]
      · by_cases e : j = y <;> simp [e]
    · unfold putT
      by_cases m : y ∈ l
      · rw [if_pos m, if_pos (decide_eq_true m)]
      · rw [if_neg m, if_neg (by simpa using m)]
        rfl
  have there : ∃ u, h'.get? D = some u := by
    obtain ⟨o, _, _, _, ho, _⟩ := new'
    exact ⟨o, ho⟩
  exact k _ (I.write (e := D) (t' := s.toks + 1) (by rw [hD]; trivial) (.inl rfl) (fun b u nb hu => (sb.2 b nb).trans hu) there (setTO_new new'))
end
section
variable {X : Cx}
/-- {elt for target in iter if ..}, elt a text: D the new set -/
def tScT (P : Program) (w : World) (wi : TI) (g : TG) (tt : TT) (te : TE) (vs : List Nat) : TE := fun σ H Q => wi σ H fun J H1 => ∀ D, H1 D = none →
  ∃ W : Nat → Nat → Hp → Prop, (∃ m, W 0 m (upd H1 D (SetTO P w D []))) ∧ ∀ i m H, W i m H → (J.stop i H ∧ Q (.ref D) H) ∨
    (J.go i H ∧ ∃ Nx : Hp → Prop, (∀ H', Nx H' → ∃ m', m' < m ∧ W (i + 1) m' H') ∧ ∀ x H', J.yld i H x H' →
      g x (wipe σ vs) H' fun σ2 H2 => wipe σ2 vs = wipe σ vs ∧ tt σ2 H2 fun b H3 =>
        if b = true then te σ2 H3 fun y H4 => ∃ (z : Str) (l : List Str), y = .str z ∧ H4 D = some (SetTO P w D l) ∧ l.length + 1 < scanBound ∧ Nx (upd H4 D (SetTO P w D (putT l z))) else Nx H3)
abbrev BlkAll (X : Cx) (scope : Scope) (p : Cx → Prop) : Prop := ∀ (s : Shared) (H : Hp) (C : Addr) (cl : List (PySem.Str × Addr)) (fp : List Addr), p (X.blk s H scope (compEnvC scope cl C X.env) fp)
theorem pe_scT {elt tg iter : Expr} {ifs : List Expr} {scope : Scope} {own : List (PySem.Str × Nat)} {pos : Pos} {wi : TI} {g : TG} {tt : TT} {te : TE} (hc : X.calm = true) (hN : X.N.Nodup) (hi : PI X tg iter wi)
    (ok : BlkOk X.N X.env.scope scope own) (hg : BlkAll X scope fun Y => PG Y tg g) (ht : BlkAll X scope fun Y => PTs Y ifs tt) (he : BlkAll X scope fun Y => PE Y elt te) (hs : ∀ x, foldedSetIterable iter X.env x = pure x := by intro _; rfl) :
    PE X (.SetComp elt [⟨tg, iter, ifs, 0⟩] scope pos) (tScT X.prog X.w wi g tt te (own.map (·.2))) := by
  refine ⟨fun pins s σ H Q I h => ?_⟩
  rw [eval_SetComp]
  have closed : ∀ y ∈ scope.names, y.2 = .free → ∃ c, X.env.cells.lookup y.1 = some c := by
    intro y hy e
    exact (ok.free y hy e).elim (fun k => I.ok.has _ (.inl k)) fun k => I.ok.has _ (.inr k)
  refine wpAny_comprehension_free (use := none) rfl hs (closure_ok closed) ok.kind (fun y hy e => by rw [ok.uniq y hy, e]) ?_
  refine thn (hi.run pins s σ H _ I h) fun _ s1 hx => thn hx ?_
  rintro _ s2 ⟨it, fp, tn, J, H2, rfl, I2, T, st2, f2, q⟩
  refine newSet_ok (newEnv_comp ?_)
  generalize hO : ({ cls := .type "set", dict := none, data := .set #[] 0 (.fresh 0 0 (!X.w.params.followText "set-order")) } : Obj) = O
  generalize hD : s2.heap.objs.size = D
  obtain ⟨W, ⟨m0, w0⟩, turn⟩ := q D (I2.hok.fresh (Nat.le_of_eq hD))
  have hO0 : ∀ {b : Addr} {o : Obj}, s2.heap.get? b = some o → (s2.heap.push O).get? b = some o := fun e => Heap.get?_push_of_some _ e
  generalize hH3 : upd H2 D (SetTO X.prog X.w D []) = H3 at w0
  generalize hs3 : ({ s2 with heap := s2.heap.push O } : Shared) = s3
  have hp3 : s3.heap = s2.heap.push O := by rw [← hs3]
  have I3 : Inv X pins σ H3 s3 := by
    subst hs3 hH3 hD hO
    exact I2.laid (t' := s2.toks) (fun b o e => Heap.get?_push_of_some _ e) (Nat.le_refl _) (setTO_new (setT_fresh X.prog X.w _))
  have low : ∀ b ∈ fp, b < D := fun b hb => by
    obtain ⟨o, e, _⟩ := T.obj _ _ st2 b hb
    rw [← hD]
    exact Heap.lt_size e
  have f3 : ∀ b ∈ fp, FpOk X pins H3 b ∧ b < s3.heap.objs.size := fun b hb => by
    have hlt := low b hb
    refine ⟨⟨?_, (f2 b hb).2⟩, ?_⟩
    · rw [← hH3, upd_ne (Nat.ne_of_lt hlt)]
      exact (f2 b hb).1
    · rw [hp3, Heap.size_push, hD]
      exact Nat.lt_succ_of_lt hlt
  have st3 : tn 0 s3.heap := T.keep _ _ _ st2 fun b _ o e => by rw [hp3]; exact hO0 e
  have I4 := block_start I3 ok hN f3
  have pg := hg s3 H3 s3.heap.objs.size (cellsFrom (s3.heap.objs.size + 1) scope.names (cloFrom X.env.cells scope.names [])) fp
  have pt := ht s3 H3 s3.heap.objs.size (cellsFrom (s3.heap.objs.size + 1) scope.names (cloFrom X.env.cells scope.names [])) fp
  have pe := he s3 H3 s3.heap.objs.size (cellsFrom (s3.heap.objs.size + 1) scope.names (cloFrom X.env.cells scope.names [])) fp
  show codeAny _ _ (.compStart (.SetComp elt [⟨tg, iter, ifs, 0⟩] scope pos) 0 (.ref it) (.ref D) (compEnvC scope (cellsFrom (s3.heap.objs.size + 1) scope.names (cloFrom X.env.cells scope.names [])) s3.heap.objs.size X.env))
    (compPost (model X.prog X.w) X.A X.xe none _ (.ref D) s3.heap.objs.size) { s3 with heap := pushCells (s3.heap.push { cls := .type "dict", data := .dict #[] }) scope.names }
  have cL : (compEnvC scope (cellsFrom (s3.heap.objs.size + 1) scope.names (cloFrom X.env.cells scope.names [])) s3.heap.objs.size X.env).locals = s3.heap.objs.size := rfl
  generalize compEnvC scope (cellsFrom (s3.heap.objs.size + 1) scope.names (cloFrom X.env.cells scope.names [])) s3.heap.objs.size X.env = ce at I4 pg pt pe cL ⊢
  have st4 : tn 0 (pushCells (s3.heap.push { cls := .type "dict", data := .dict #[] }) scope.names) := T.keep _ _ _ st3 fun b _ o e => pushCells_keeps _ _ _ _ (Heap.get?_push_of_some _ e)
  generalize hs4 : ({ s3 with heap := pushCells (s3.heap.push { cls := .type "dict", data := .dict #[] }) scope.names } : Shared) = s4 at I4 ⊢
  replace st4 : tn 0 s4.heap := by rw [← hs4]; exact st4
  have still : ∀ {σ' : L2.St} {H' : Hp} {s' : Shared}, Inv (X.blk s3 H3 scope ce fp) [] σ' H' s' → (∀ b ∈ fp, H' b = none) → ∀ b ∈ fp, FpOk (X.blk s3 H3 scope ce fp) [] H' b := by
    intro σ' H' s' I' hn b hb
    exact ⟨hn b hb, (I'.ok.exf b hb).1, I'.ok.exfs b hb, .inl hb, fun x c e => (I'.ok.exf b hb).2 x c e, fun p hp => absurd (show p ∈ ([] : List (Addr × Obj)) ++ [] from hp) (by simp)⟩
  refine codeAny_compStart_set ?_ (T.self X.A 0 _ _ _ st4 ?_)
  all_goals
    refine compLoopS_any (fun n s' => ∃ i H', Inv (X.blk s3 H3 scope ce fp) [] (wipe σ (own.map (·.2))) H' s' ∧ tn i s'.heap ∧ (∀ b ∈ fp, H' b = none) ∧ W i n H') ?_ m0 ⟨0, H3, I4, st4, fun b hb => (f3 b hb).1.1, w0⟩
    rintro n s5 ⟨i, H5, I5, st5, n5, w5⟩
    rcases turn i n H5 w5 with ⟨stop, qq⟩ | ⟨go, Nx, hNx, step⟩
    · refine thnF (T.done (X.blk s3 H3 scope ce fp) rfl rfl rfl hc i [] s5 _ H5 (fun _ _ => False) I5 (still I5 n5) st5 stop) ?_
      rintro r s6 ⟨rfl, I6⟩
      have I7 : Inv X pins σ H5 s6 := I3.call' (ch := fp) I6.os I6.base I6.hok I6.bare fun b hb =>
        let z := (f3 b hb).1
        ⟨z.2.2.2.1, z.2.1, z.2.2.2.2.1, z.2.2.2.2.2⟩
      have nC : H5 s3.heap.objs.size = none := by
        rw [← cL]
        exact I6.free
      obtain ⟨m, hn, _⟩ := I6.loc
      replace hn : s6.heap.Ns s3.heap.objs.size m := by rw [← cL]; exact hn
      obtain ⟨f0, f1, f2', f3', f4, f5⟩ := I3.fpOk (Nat.le_refl _) nC
      exact ⟨m, hn, fun h'' sb => ⟨.ref D, H5, I7.turned (t' := s6.toks) (fun b o hb e => (sb.2 b hb).trans e) f0 f1 f3' f4 f5, rfl, qq⟩⟩
    · refine thnF (T.item (X.blk s3 H3 scope ce fp) rfl rfl rfl hc i [] s5 _ H5 (fun _ _ => False) I5 (still I5 n5) st5 go) ?_
      rintro r s6 ⟨u, rfl, h6⟩
      refine thnF h6 ?_
      rintro _ s7 ⟨x, H7, I7, r7, y7, st7, n7⟩
      refine thnF (pg.run _ s7 _ H7 x u _ (I7.pinned (still I7 n7) (T.obj _ _ st7)) r7 (step x H7 y7)) ?_
      rintro _ s8 ⟨σ8, H8, I8, hw8, q8⟩
      refine thnF (pt.run _ s8 σ8 H8 _ I8 q8) ?_
      rintro b s9 ⟨H9, I9, q9⟩
      have fin : ∀ {s' : Shared} {H' : Hp}, Inv (X.blk s3 H3 scope ce fp) ([] ++ pinsAt fp s7.heap) σ8 H' s' → Nx H' →
          ∃ m, m < n ∧ ∃ i H', Inv (X.blk s3 H3 scope ce fp) [] (wipe σ (own.map (·.2))) H' s' ∧ tn i s'.heap ∧ (∀ b ∈ fp, H' b = none) ∧ W i m H' := by
        intro s' H' I' nx
        obtain ⟨m', hm, w'⟩ := hNx H' nx
        have kept : ∀ b ∈ fp, ∀ o, s7.heap.get? b = some o → s'.heap.get? b = some o ∧ H' b = none := by
          intro b hb o e
          have z := I'.pin (b, o) (List.mem_append_right _ (List.mem_append_right _ (mem_pinsAt hb e)))
          exact ⟨z.1, z.2.1⟩
        refine ⟨m', hm, i + 1, H', (I'.unpinned (pins := [])).weak (by rw [← hw8, wipe_length]) (fun j v e => ?_), T.keep _ _ _ st7 fun b hb o e => (kept b hb o e).1, ?_, w'⟩
        · rw [← hw8] at e
          exact (wipe_some e).1
        · intro b hb
          obtain ⟨o, e, _⟩ := T.obj _ _ st7 b hb
          exact (kept b hb o e).2
      cases b with
      | false => exact fin I9 q9
      | true =>
        refine thnF (pe.run _ s9 σ8 H9 _ I9 q9) ?_
        rintro z s10 ⟨yv, H10, I10, r10, zz, l0, rfl, hD10, room, nx⟩
        obtain ⟨tz, rfl⟩ := r10
        exact addT_ok (X := X.blk s3 H3 scope ce fp) I10 hD10 room fun s11 I11 => fin I11 nx
def rLenT (P : Program) (w : World) : List V → Hp → VK → Prop := fun xs H Q => ∃ a l, xs = [.ref a] ∧ H a = some (SetTO P w a l) ∧ Q (.int (l.length : Nat)) H
theorem call_lenT : CallR X (.builtin "len") (rLenT X.prog X.w) := by
  intro pins s σ H xs us Q I r h
  obtain ⟨a, l, rfl, ha, q⟩ := h
  cases r with
  | cons r0 r1 =>
    cases r1
    cases r0
    obtain ⟨o, es, ep, t, ho, hex, hd, _, _, hb, hf, hn⟩ := setTO_get I ha
    have big : scanBound < 2 ^ 62 := by decide
    refine call_len_set ho hex hd hf (by omega) ⟨.int (l.length : Nat), H, I.tok _, ⟨_, by rw [hn]⟩, q⟩
end
def uniq (l : List Nat) : List Str := l.foldl (fun a c => putT a ⟨#[c]⟩) []
theorem putT_len (l : List Str) (k : Str) : (putT l k).length ≤ l.length + 1 := by
  unfold putT
  split
  · omega
  · exact Nat.le_refl _
theorem uniq_take {l : List Nat} {i c : Nat} (h : l[i]? = some c) : uniq (l.take (i + 1)) = putT (uniq (l.take i)) ⟨#[c]⟩ := by
  unfold uniq
  rw [List.take_add_one, h, List.foldl_append]
  rfl
theorem uniq_len : ∀ (l : List Nat), (uniq l).length ≤ l.length := by
  intro l
  have h : ∀ (l : List Nat) (a : List Str), (l.foldl (fun a c => putT a ⟨#[c]⟩) a).length ≤ a.length + l.length := by
    intro l
    induction l with
    | nil => intro a; exact Nat.le_refl _
    | cons c r ih =>
      intro a
      have h1 := ih (putT a ⟨#[c]⟩)
      have h2 := putT_len a ⟨#[c]⟩
      simp only [List.foldl_cons, List.length_cons]
      omega
  have z := h l []
  rw [List.length_nil, Nat.zero_add] at z
  exact z
theorem uniq_mem : ∀ (l : List Nat) (c : Nat), (⟨#[c]⟩ : Str) ∈ uniq l ↔ c ∈ l := by
  have h : ∀ (l : List Nat) (a : List Str) (c : Nat), (⟨#[c]⟩ : Str) ∈ l.foldl (fun a c => putT a ⟨#[c]⟩) a ↔ ((⟨#[c]⟩ : Str) ∈ a ∨ c ∈ l) := by
    intro l
    induction l with
    | nil => intro a c; simp
    | cons d r ih =>
      intro a c
      simp only [List.foldl_cons, List.mem_cons]
      rw [ih]
      unfold putT
      split
      · rename_i m
        constructor
        · rintro (h | h)
          · exact .inl h
          · exact .inr (.inr h)
        · rintro (h | rfl | h)
          · exact .inl h
          · exact .inl m
          · exact .inr h
      · simp only [List.mem_cons, Str.mk.injEq, Array.mk.injEq, List.cons.injEq, and_true]
        constructor
        · rintro ((h | h) | h)
          · exact .inr (.inl h)
          · exact .inl h
          · exact .inr (.inr h)
        · rintro (h | h | h)
          · exact .inl (.inr h)
          · exact .inl (.inl h)
          · exact .inr h
  intro l c
  rw [show uniq l = l.foldl (fun a c => putT a ⟨#[c]⟩) [] from rfl, h]
  simp
/-- every sign once: as many members as signs -/
theorem uniq_nodup : ∀ {l : List Nat}, l.Nodup → (uniq l).length = l.length := by
  intro l
  have h : ∀ (r l : List Nat), (l ++ r).Nodup → (r.foldl (fun a c => putT a ⟨#[c]⟩) (uniq l)).length = (uniq l).length + r.length := by
    intro r
    induction r with
    | nil => intro l _; rfl
    | cons c r ih =>
      intro l n
      have n' : ((l ++ [c]) ++ r).Nodup := by simpa using n
      have hc : c ∉ l := fun m => by
        have := (List.nodup_append.mp n).2.2 c m c (by simp)
        exact this rfl
      have e : uniq (l ++ [c]) = putT (uniq l) ⟨#[c]⟩ := by
        unfold uniq
        rw [List.foldl_append]
        rfl
      have z := ih (l ++ [c]) n'
      rw [e] at z
      rw [List.foldl_cons, z]
      unfold putT
      rw [if_neg (fun m => hc ((uniq_mem l c).mp m))]
      simp only [List.length_cons]
      omega
  intro n
  have z := h l [] n
  simpa [uniq] using z
/-- len({x for x in e}), e a text; i: x's place -/
def tDist (i : Nat) (te : TE) : TE := fun σ H Q => i < σ.length ∧ te σ H fun v H1 => ∃ z : Str, v = .str z ∧ z.length ≤ 1000 ∧ ∀ H2, Same H1 H2 → Q (.int ((uniq z.cps.toList).length : Nat)) H2
theorem pe_distinct {X : Cx} {e : Expr} {i : Nat} {te : TE} (hm : ∀ (σ : L2.St) (H : Hp) (P P' : VK), (∀ w H1, P w H1 → P' w H1) → te σ H P → te σ H P')
    (h : PE X e (tCB (rLenT X.prog X.w) (tCons (tScT X.prog X.w (iSeqU X.K te) (gName i) tYes (tVar i) [i]) tNil))) : PE X e (tDist i te) := by
  refine ⟨fun pins s σ H Q I hq => h.run pins s σ H Q I ?_⟩
  obtain ⟨hi, hq⟩ := hq
  show iSeqU X.K te σ H _
  refine .inr (.inr (hm σ H _ _ ?_ hq))
  rintro v H1 ⟨z, rfl, hz, q⟩
  refine ⟨z, rfl, fun D hD => ?_⟩
  have hzl : z.cps.toList.length ≤ 1000 := by rw [Array.length_toList]; exact hz
  refine ⟨fun j m H => m = z.cps.size - j ∧ j ≤ z.cps.size ∧ H D = some (SetTO X.prog X.w D (uniq (z.cps.toList.take j))) ∧ Same H1 H, ⟨_, rfl, Nat.zero_le _, upd_same, same_new hD⟩, ?_⟩
  rintro j m H2 ⟨rfl, hj, hD2, s2⟩
  by_cases hlt : j < z.cps.size
  · refine .inr ⟨hlt, fun H' => j + 1 ≤ z.cps.size ∧ H' D = some (SetTO X.prog X.w D (uniq (z.cps.toList.take (j + 1)))) ∧ Same H1 H', fun H' p => ⟨_, by omega, rfl, p⟩, ?_⟩
    rintro x H' ⟨rfl, c, hc, rfl⟩
    have hw : i < (wipe σ [i]).length := by rw [wipe_length]; exact hi
    refine ⟨?_, _, by rw [List.getElem?_set_self hw], ?_⟩
    · simp [wipe, List.set_set]
    · have hc' : z.cps.toList[j]? = some c := by rw [Array.getElem?_toList]; exact hc
      refine ⟨⟨#[c]⟩, _, rfl, hD2, ?_, hlt, ?_, same_mut s2 hD⟩
      · have := uniq_len (z.cps.toList.take j)
        rw [List.length_take] at this
        have big : 2000 < scanBound := by decide
        omega
      · rw [upd_same, uniq_take hc']
  · have e : j = z.cps.size := by omega
    subst e
    refine .inl ⟨Nat.le_refl _, _, _, rfl, hD2, ?_⟩
    rw [List.take_of_length_le (by rw [Array.length_toList]; exact Nat.le_refl _)]
    exact q H2 s2
end Px

namespace Px
open PySem PySem.Spec PyProof.Rows L2
open PySem.Builtin PySem.Builtin.Str in
/-- x filled up on the right by c -/
def fillR (x : Str) (i : Int) (c : Nat) : Str := if i ≤ x.length then x else padded x 0 (i.toNat - x.length) c
section
open PySem.Builtin PySem.Builtin.Str
theorem gives_ljust3 (x : Str) (i : Int) (t u v : Tok) (c : Nat) (hr : (decide (i < -(2 ^ 63 : Int)) || decide (i ≥ 2 ^ 63)) = false) (hl : tooLong i.toNat = false) :
    Gives («str.ljust» ⟨[.str x t, .int i u, .str ⟨#[c]⟩ v], []⟩) (if i ≤ x.length then .val (.str x t) else .str (padded x 0 (i.toNat - x.length) c)) := by
  show Gives (do
    let w ← asSsize "str.ljust" (.int i u)
    if w ≤ x.length then (do rule "str.ljust.long-enough"; ret (.str x t)) else if tooLong w.toNat = true then unsupported "str.ljust:memory" else retStr (padded x 0 (w.toNat - x.length) c)) _
  rw [asSsize_int _ _ _ hr]
  show Gives (if i ≤ x.length then (do rule "str.ljust.long-enough"; ret (.str x t)) else if tooLong i.toNat = true then unsupported "str.ljust:memory" else retStr (padded x 0 (i.toNat - x.length) c)) _
  rw [hl]
  by_cases h : i ≤ (x.length : Int)
  · rw [if_pos h, if_pos h]
    exact .rule (.of_eq rfl)
  · rw [if_neg h, if_neg h]
    exact .of_eq rfl
end
def rLjust : V → List V → Hp → VK → Prop := fun x xs H Q => ∃ (a : Str) (i : Int) (c : Nat), x = .str a ∧ xs = [.int i, .str ⟨#[c]⟩] ∧ PadOk i = true ∧ Q (.str (fillR a i c)) H
theorem mt_ljustC {X : Cx} : MtR X "str.ljust" rLjust := by
  intro pins s σ H x xs v us Q I rx rs h
  obtain ⟨a, i, c, rfl, rfl, hp, h⟩ := h
  obtain ⟨t, rfl⟩ := rx
  obtain ⟨u1, u2, rfl, r1, r2⟩ := vals2 rs
  obtain ⟨t1, rfl⟩ := r1
  obtain ⟨t2, rfl⟩ := r2
  exact call_gives F.slot_str_ljust (typeIs_str _ _ _) F.entry_str_ljust (F.args_str_ljust_3 _ _ _) (gives_ljust3 a i t t1 t2 c (PadOk.parts hp).1 (PadOk.parts hp).2)
    (post_val_or_made (fits_padR c (PadOk.parts hp).2) fun t' k => ⟨.str (fillR a i c), H, I.tok k, ⟨t', rfl⟩, h⟩)
abbrev rLower : V → List V → Hp → VK → Prop := fun x xs H Q => ∃ a, x = .str a ∧ xs = [] ∧ a.length ≤ 5592405 ∧ Q (.str (Txt.lower a)) H
abbrev rSplit : V → List V → Hp → VK → Prop := fun x xs H Q => ∃ a b, x = .str a ∧ xs = [.str b] ∧ (b.length == 0) = false ∧ a.length + 2 ≤ sizeLine ∧ rNewStrs (Txt.split a b) H Q
end Px

namespace Px
open PySem PySem.Spec PyProof.Rows L2
/-! ### steps for the readings of classes, kinds, formats -/
/-- int(x) of an int or a bool -/
abbrev rInt1 : List V → Hp → VK → Prop := fun xs H Q => (∃ i, xs = [.int i] ∧ Q (.int i) H) ∨ ∃ k : Bool, xs = [.bl k] ∧ Q (.int (if k then 1 else 0)) H
section
variable {K : PySem.W.Frag} {σ : S} {H : Hp} {Q : VK} {D : Ends} {ta tb te : TE} {tr tk : TA} {E : XK} {i j : Int} {f : Str} {C : Addr} {sp : Sp}
theorem r_fld (h : ta σ H fun x H1 => ∃ a C dx fs v, x = .ref a ∧ H1 a = some (.ins C dx fs) ∧ Cls K C ∧ NoAttr K C f ∧ fs.lookup f = some v ∧ Q v H1) : tFld K ta f σ H Q := h
theorem r_sfld {tv : TE} (h : tv σ H fun y H1 => ta σ H1 fun x H2 => ∃ a C dx fs, x = .ref a ∧ H2 a = some (.ins C dx fs) ∧ Cls K C ∧ NoAttr K C f ∧ fs.length < 1000 ∧ D.nx σ (upd H2 a (.ins C dx (putF f y fs)))) : sFld K ta tv f D σ H := h
theorem r_cval (h : ta σ H fun x H1 => ∃ C mc v u, x = .ref C ∧ ClX.CRead K C mc ∧ ClX.CVal K C mc f v u ∧ Q v H1) : ClX.tCVal K ta f σ H Q := h
theorem r_meth {m : Str} {dvs : List V} (h : ta σ H fun x H1 => ∃ a dx fs, x = .ref a ∧ H1 a = some (.ins C dx fs) ∧ fs.lookup m = none ∧ tr σ H1 fun vs H2 => sp (x :: (vs ++ dvs)) H2 Q E) : tMeth C m sp dvs E ta tr σ H Q := h
theorem r_makeK {n m : Nat} {gV : List V → List V → List V} (h : tr σ H fun vs H1 => tk σ H1 fun zs H2 => vs.length = n ∧ zs.length = m ∧ ∀ x dx, H2 x = none → H2 dx = none → dx ≠ x →
    sp (gV (.ref x :: vs) zs) (upd (upd H2 dx (.own x)) x (.ins C dx [])) (fun v H3 => v = .non ∧ Q (.ref x) H3) E) : tMakeK C n m sp gV E tr tk σ H Q := h
theorem r_fmtB {g : Nat → Str} (h : te σ H fun x H1 => ∃ n : Nat, x = .int n ∧ n < 256 ∧ Q (.str (g n)) H1) : tFmtB g te σ H Q := h
theorem r_dist {k : Nat} (h0 : k < σ.length) (h : te σ H fun v H1 => ∃ z : Str, v = .str z ∧ z.length ≤ 1000 ∧ ∀ H2, Same H1 H2 → Q (.int ((uniq z.cps.toList).length : Nat)) H2) : tDist k te σ H Q := ⟨h0, h⟩
theorem r_m0 {r : V → List V → Hp → VK → Prop} (h : ta σ H fun x H1 => (∃ a, x = .str a) ∧ r x [] H1 Q) : tM0 r ta σ H Q := h
theorem r_dget (h : ta σ H fun x H1 => tb σ H1 fun y H2 => ∃ a v, x = .ref a ∧ DGet H2 a y (some v) ∧ Q v H2) : tDGet ta tb σ H Q := h
theorem r_isiB {x : V} {t c : String} {b : Bool} (h1 : TyOf K H x (.type t)) (h2 : kitB t c = some b) (h : Q (.bl b) H) : rIsi K [x, .ty c] H Q := r_isi (.ty c) (.base h1) (kit_ty h2) h
theorem r_isiI (h : Q (.bl true) H) : rIsi K [.int i, .ty "int"] H Q := r_isiB (.int i) (by decide +kernel) h
theorem r_isiIB (h : Q (.bl false) H) : rIsi K [.int i, .ty "bool"] H Q := r_isiB (.int i) (by decide +kernel) h
theorem r_isiS {z : Str} (h : Q (.bl true) H) : rIsi K [.str z, .ty "str"] H Q := r_isiB (.str z) (by decide +kernel) h
theorem r_isiBB {b : Bool} (h : Q (.bl true) H) : rIsi K [.bl b, .ty "bool"] H Q := r_isiB (.bl b) (by decide +kernel) h
theorem r_isiTL {p t : Addr} {xs : List V} (h1 : H p = some (.lst xs)) (h2 : H t = some (.tup [.ty "list", .ty "tuple"])) (h : Q (.bl true) H) : rIsiT K [.ref p, .ref t] H Q :=
  ⟨.ref p, t, _, .type "list", _, true, rfl, h2, .cons (.ty "list") (.cons (.ty "tuple") .nil), .base (.lst h1), kitAny_cons (b := true) (kit_ty (by decide +kernel)) (fun z => by cases z) (fun _ => rfl), h⟩
theorem r_isiTT {p t : Addr} {xs : List V} (h1 : H p = some (.tup xs)) (h2 : H t = some (.tup [.ty "list", .ty "tuple"])) (h : Q (.bl true) H) : rIsiT K [.ref p, .ref t] H Q :=
  ⟨.ref p, t, _, .type "tuple", _, true, rfl, h2, .cons (.ty "list") (.cons (.ty "tuple") .nil), .base (.tup h1), kitAny_cons (b := false) (kit_ty (by decide +kernel))
    (fun _ => kitAny_cons (b := true) (kit_ty (by decide +kernel)) (fun z => by cases z) (fun _ => rfl)) (fun z => by cases z), h⟩
theorem r_inID {kvs : List (Int × Int)} {a : Addr} {g : Bool → Bool} (h : Q (.bl (g (atK kvs i).isSome)) H) : rInID kvs a g (.int i) (.ref a) H Q := ⟨i, rfl, rfl, h⟩
theorem r_ixID {kvs : List (Int × Int)} {a : Addr} (h1 : atK kvs i = some j) (h : Q (.int j) H) : rIxID kvs a (.ref a) (.int i) H Q := ⟨i, j, rfl, rfl, h1, h⟩
theorem r_intBin {x : Str} (h1 : x.cps.toList ≠ []) (h2 : x.length ≤ 640) (h3 : ∀ c ∈ x.cps.toList, Bn.IsBit c) (h : Q (.int ((Bn.binNum x.cps.toList : Nat) : Int)) H) : rIntBin [.str x, .int 2] H Q := ⟨x, rfl, h1, h2, h3, h⟩
theorem r_all {a : Addr} {bs : List Bool} (h1 : SqL K H a (bs.map V.bl)) (h : Q (.bl (bs.all id)) H) : rAll K [.ref a] H Q := ⟨a, bs, rfl, h1, h⟩
theorem r_int1I (h : Q (.int i) H) : rInt1 [.int i] H Q := .inl ⟨i, rfl, h⟩
theorem r_int1B {k : Bool} (h : Q (.int (if k then 1 else 0)) H) : rInt1 [.bl k] H Q := .inr ⟨k, rfl, h⟩
theorem r_inS {a b : Str} (h : rInS (.str a) (.str b) H Q) : rInU K (.str a) (.str b) H Q := .inl h
theorem r_enumL {R : It → Hp → Prop} (h : tr σ H fun vs H1 => ∃ a xs, vs = [.ref a] ∧ SqL K H1 a xs ∧ R (Ite K a) H1) : iEnumU K tr σ H R := .inl h
theorem r_enumS {R : It → Hp → Prop} (h : tr σ H fun vs H1 => ∃ z : Str, vs = [.str z] ∧ R (ItP z.cps.size (fun i => some (.int (i : Nat))) (sgn z)) H1) : iEnumU K tr σ H R := .inr h
theorem r_seqC {t u : TS} (Mid : S → Hp → Prop) (h2 : ∀ σ G, Mid σ G → u D σ G) (h1 : ∀ N : S → Hp → Prop, (∀ σ G, Mid σ G → N σ G) → t { D with nx := N } σ H) : tSeq t u D σ H := h1 (u D) h2
theorem r_gtI (h : Q (.bl (decide (j < i))) H) : rGtI (.int i) (.int j) H Q := r_I0 h
end
end Px

namespace Px
open PySem PySem.Spec PyProof.Rows L2
/-! ### lists of texts compared -/
def StrsLo (l : List Str) : Prop := ∀ z ∈ l, ∀ c ∈ z.cps.toList, c < 0x110000
def dS (l : List Str) : PyData := .list (l.map PyData.str)
theorem dpAll_strs {K : PySem.W.Frag} {H : Hp} : ∀ xs : List Str, DpAll K H (xs.map V.str) (xs.map PyData.str)
  | [] => .nil
  | x :: xs => .cons (.str _) (dpAll_strs xs)
theorem dp_strs {K : PySem.W.Frag} {H : Hp} {a : Addr} {l : List Str} (h : SqL K H a (l.map V.str)) : Dp K H (.ref a) (dS l) := .lst h (dpAll_strs l)
theorem canLay_strs : ∀ {xs : List Str}, StrsLo xs → PyData.canLayAll0 (xs.map PyData.str) = true
  | [], _ => by simp only [List.map_nil, PyData.canLayAll0]
  | x :: xs, h => by
    simp only [List.map_cons, PyData.canLayAll0, PyData.canLay0, canLay_strs fun z hz => h z (List.mem_cons_of_mem _ hz), Bool.and_true]
    exact strOk_of (h x (List.mem_cons_self ..))
theorem depth_strs : ∀ xs : List Str, PyData.depthAll (xs.map PyData.str) = 0
  | [] => by simp only [List.map_nil, PyData.depthAll]
  | x :: xs => by simp only [List.map_cons, PyData.depthAll, PyData.depth, depth_strs xs, Nat.max_self]
theorem dS_shaped {xs : List Str} (h : StrsLo xs) : SeqAt.shaped (dS xs) = true := by
  unfold SeqAt.shaped dS
  simp only [PyData.canLay0, PyData.depth, canLay_strs h, depth_strs]
  decide
theorem eqv_strs : ∀ xs ys : List Str, PyData.eqvAll (xs.map PyData.str) (ys.map PyData.str) = decide (xs = ys)
  | [], [] => by simp only [List.map_nil, PyData.eqvAll]; rfl
  | [], y :: ys => by simp only [List.map_nil, List.map_cons, PyData.eqvAll]; simp
  | x :: xs, [] => by simp only [List.map_nil, List.map_cons, PyData.eqvAll]; simp
  | x :: xs, y :: ys => by
    simp only [List.map_cons, PyData.eqvAll, PyData.eqv, eqv_strs xs ys]
    by_cases h : x = y <;> simp [h]
theorem dS_eqv (xs ys : List Str) : PyData.eqv (dS xs) (dS ys) = decide (xs = ys) := by
  unfold dS
  simp only [PyData.eqv, eqv_strs]
section
variable {K : PySem.W.Frag} {H : Hp} {Q : VK} {a b : Addr} {xs ys : List Str}
theorem r_eqUT (h1 : SqL K H a (xs.map V.str)) (h2 : SqL K H b (ys.map V.str)) (l1 : StrsLo xs) (l2 : StrsLo ys) (h : Q (.bl (decide (xs = ys))) H) : rEqU K (.ref a) (.ref b) H Q :=
  r_eqUD (dp_strs h1) (dp_strs h2) (dS_shaped l1) (dS_shaped l2) (by rw [dS_eqv]; exact h)
theorem r_neUT (h1 : SqL K H a (xs.map V.str)) (h2 : SqL K H b (ys.map V.str)) (l1 : StrsLo xs) (l2 : StrsLo ys) (h : Q (.bl (!decide (xs = ys))) H) : rNeU K (.ref a) (.ref b) H Q :=
  r_neUD (dp_strs h1) (dp_strs h2) (dS_shaped l1) (dS_shaped l2) (by rw [dS_eqv]; exact h)
end
end Px

namespace Px
open PySem PySem.Spec PyProof.Rows L2
/-! ### len(o), x in o by the class's own defs -/
section
variable {prog : Program} {w : World} {A : Around} {E : Value → Shared → Prop} {s : Shared} {K : PySem.W.Frag} {x C f : Addr} {ox : Obj} {od : Option Obj}
theorem contains_own {b : Value} {Q : Bool → Shared → Prop} (X : K.In s.heap) (I : PySem.W.InstAt s.heap x ox C od) (hs : PySem.W.findIn K (.ref C) "__contains__" = some (some (.ref f))) (hf : PySem.W.isFn K (.ref f) = true)
    (h : wpAny (model prog w) A (call (.ref f) [.ref x, b]) (fun v s' => ∃ r, v = .bool r ∧ Q r s') E s) : wpAny (model prog w) A (contains (.ref x) b) Q E s := by
  unfold contains
  refine wpAny_holding ?_
  dsimp only [stdlibNamesSay?]
  refine wpAny_bind (wpAny_bind (I.type.here ((PySem.W.looks_findIn X hs).here ?_)))
  show wpAny _ _ (if (some (Value.ref f) == some Value.none) = true then _ else _) _ _ _
  rw [if_neg (by intro z; cases z)]
  unfold callSpecialUnlessNone?
  refine wpAny_bind (wpAny_bind (wpAny_bind (I.type.here ((PySem.W.looks_findIn X hs).here ?_))))
  refine wpAny_holding (wpAny_bind ((PySem.W.bind_fn X _ (beq_iff_eq.mp hf)).here ?_))
  show wpAny _ _ (if (Value.ref f == Value.none) = true then _ else _) _ _ _
  rw [if_neg (by intro z; cases z)]
  refine wpAny_bind (wpAny_mono h (fun v s' hv => ?_) fun _ _ e => e)
  obtain ⟨r, rfl, q⟩ := hv
  exact wpAny_pure (wpAny_truthy_bool q)
end
/-- len(o) -/
def rLenOwn (C : Addr) (sp : Sp) (E : XK) : List V → Hp → VK → Prop := fun xs H Q => ∃ a dx fs, xs = [.ref a] ∧ H a = some (.ins C dx fs) ∧ sp [.ref a] H (fun v H' => ∃ n : Nat, v = .int n ∧ n < 1000000 ∧ Q (.int n) H') E
/-- x in o -/
def rInOwn (C : Addr) (sp : Sp) (E : XK) (g : Bool → Bool) : R2 := fun x y H Q => ∃ a dx fs, y = .ref a ∧ H a = some (.ins C dx fs) ∧ sp [.ref a, x] H (fun v H' => ∃ r, v = .bl r ∧ Q (.bl (g r)) H') E
section
variable {X : Cx} {CX : CXT} {k : Nat} {C f : Addr} {fd : FuncData} {ps : List Str} {sp : Sp} {E : XK}
theorem call_lenOwn (F : FnOk X.prog X.w X.K X.mg X.base CX k f fd ps sp) (hr : Room (k + 1) X.A) (D : Meth X.K C "__len__" f) (hb : Binds X.K fd ps []) (hx : Passes CX X E) : CallR X (.builtin "len") (rLenOwn C sp E) := by
  intro pins s σ H xs us Q I r h
  obtain ⟨a, dx, fs, rfl, ha, q⟩ := h
  obtain ⟨u, rfl, ru⟩ := vals1 r
  obtain rfl : u = Value.ref a := ru
  obtain ⟨mA, J, _⟩ := ins_get I.hok ha
  obtain ⟨od, J, _⟩ := J.look
  obtain ⟨m, hF⟩ := I.fr
  refine PySem.W.len_K hF I.ok.mod.kin J D.at_ D.fn ?_
  have hl := F.len _ _ _ _ q
  have r2 : Vals [V.ref a] [Value.ref a] := .cons rfl .nil
  refine wpAny_call (codeAny_mono (F.run X.A.in1 X.stack s H ⟨[.ref a], []⟩ [.ref a] [.ref a] _ E hr.in1 I.env0.in1 (by
    have := hb s [.ref a] I.kIn (by simpa using hl)
    simpa using this) r2 q) fun r s' hq => ?_)
  cases r with
  | error e => exact hx pins σ H s e s' I hq
  | ok fl =>
    cases fl with
    | ret w =>
      obtain ⟨z, H', I', rz, n, ez, hn, q'⟩ := I.after hq
      subst ez
      obtain ⟨t, rfl⟩ := rz
      exact ⟨⟨by omega, by omega⟩, .int n, H', I'.tok _, ⟨_, rfl⟩, q'⟩
    | next => exact False.elim hq
    | brk => exact False.elim hq
    | cont => exact False.elim hq
theorem contains_ok {pins : List (Addr × Obj)} {s : Shared} {σ : S} {H : Hp} {x : V} {v : Value} {a dx : Addr} {fs : List (Str × V)} {Q : Bool → Hp → Prop} (F : FnOk X.prog X.w X.K X.mg X.base CX k f fd ps sp) (hr : Room k X.A) (D : Meth X.K C "__contains__" f) (hb : Binds X.K fd ps []) (hx : Passes CX X E)
    (I : Inv X pins σ H s) (rx : RelV x v) (ha : H a = some (.ins C dx fs)) (q : sp [.ref a, x] H (fun v H' => ∃ r, v = .bl r ∧ Q r H') E) :
    wpAny (model X.prog X.w) X.A (contains (.ref a) v) (fun r s' => ∃ H', Inv X pins σ H' s' ∧ Q r H') X.xe s := by
  obtain ⟨mA, J, _⟩ := ins_get I.hok ha
  obtain ⟨od, J, _⟩ := J.look
  refine contains_own I.kIn J D.at_ D.fn ?_
  have hl := F.len _ _ _ _ q
  have r2 : Vals [V.ref a, x] [Value.ref a, v] := .cons rfl (.cons rx .nil)
  refine wpAny_call (codeAny_mono (F.run X.A X.stack s H ⟨[.ref a, v], []⟩ [.ref a, v] [.ref a, x] _ E hr I.env0 (by
    have := hb s [.ref a, v] I.kIn (by simpa using hl)
    simpa using this) r2 q) fun r s' hq => ?_)
  cases r with
  | error e => exact hx pins σ H s e s' I hq
  | ok fl =>
    cases fl with
    | ret w =>
      obtain ⟨z, H', I', rz, b, ez, q'⟩ := I.after hq
      subst ez
      cases rz
      exact ⟨b, rfl, H', I', q'⟩
    | next => exact False.elim hq
    | brk => exact False.elim hq
    | cont => exact False.elim hq
theorem op_inOwn (F : FnOk X.prog X.w X.K X.mg X.base CX k f fd ps sp) (hr : Room k X.A) (D : Meth X.K C "__contains__" f) (hb : Binds X.K fd ps []) (hx : Passes CX X E) : OpR X (compareOp .In) (rInOwn C sp E fun b => b) := by
  intro pins s σ H x y v u Q I rx ry h
  obtain ⟨a, dx, fs, rfl, ha, q⟩ := h
  cases (show u = Value.ref a from ry)
  show wpAny _ _ (contains (.ref a) v >>= fun b => pure (Value.bool b)) _ _ _
  refine wpAny_bind (wpAny_mono (contains_ok F hr D hb hx I rx ha (Q := fun r H' => Q (.bl r) H') q) (fun r s' z => ?_) fun _ _ e => e)
  obtain ⟨H', I', q'⟩ := z
  exact wpAny_pure ⟨.bl r, H', I', rfl, q'⟩
end
section
variable {H : Hp} {Q : VK} {x : V} {C a dx : Addr} {fs : List (Str × V)} {sp : Sp} {E : XK} {g : Bool → Bool}
theorem r_lenOwn (ha : H a = some (.ins C dx fs)) (h : sp [.ref a] H (fun v H' => ∃ n : Nat, v = .int n ∧ n < 1000000 ∧ Q (.int n) H') E) : rLenOwn C sp E [.ref a] H Q := ⟨a, dx, fs, rfl, ha, h⟩
theorem r_inOwn (ha : H a = some (.ins C dx fs)) (h : sp [.ref a, x] H (fun v H' => ∃ r, v = .bl r ∧ Q (.bl (g r)) H') E) : rInOwn C sp E g x (.ref a) H Q := ⟨a, dx, fs, rfl, ha, h⟩
end
end Px

/-! a def's body begins with a token given out (its first parameter's name); str.replace of written texts in such a body -/
namespace Px
open PySem PySem.Spec PyProof.Rows L2
section
variable {M : Model} {A : Around} {E : Value → Shared → Prop} {s s₀ : Shared} {env : Env} {m cm : Str → Option Value}
theorem stLC_t {n : Str} {v : Value} {Q : Unit → Shared → Prop} (x : InCallC s₀ env.locals m env.cells cm s) (hk : env.scope.kind = .function) (hl : env.kindOf n = some .local)
    (h : ∀ s', InCallC s₀ env.locals (fun y => if y = n then some v else m y) env.cells cm s' → 1 ≤ s'.toks → Q () s') : wpAny M A (storeName env n v) Q E s := by
  refine wpAny_storeName_local hl x.toInCall.ns (fun h' hn' hs' => h _ ⟨⟨?_, hn', fun b o e => ?_, x.toInCall.fresh⟩, fun k c hc => ?_, x.apart, x.above⟩ (Nat.succ_le_succ (Nat.zero_le _))) (by rw [hk]; rfl)
  · obtain ⟨h₁, tk, rfl⟩ := x.toInCall.same
    exact ⟨h', _, rfl⟩
  · exact hs'.extBut b o (Nat.ne_of_lt (Nat.lt_of_lt_of_le (Heap.lt_size e) x.toInCall.fresh)) (x.toInCall.keep b o e)
  · exact (x.cell k c hc).sameBut hs' (Nat.ne_of_gt (x.above k c (mem_of_lookup hc)))
theorem bindParams_t (f : Str × Value → PUnit → Sem (ForInStep PUnit)) (hf : ∀ n v u, f (n, v) u = (do storeName env n v; pure (.yield ⟨⟩))) (hk : env.scope.kind = .function)
    (n : Str) (v : Value) (r : List (Str × Value)) {Q : PUnit → Shared → Prop} (x : InCallC s₀ env.locals m env.cells cm s) (hl : env.kindOf n = some .local)
    (hkind : ∀ x ∈ r, env.kindOf x.1 = some .local ∨ (env.kindOf x.1 = some .cell ∧ (env.cells.lookup x.1).isSome = true))
    (h : ∀ s', InCallC s₀ env.locals (bindL env.kindOf ((n, v) :: r) m) env.cells (bindC env.kindOf ((n, v) :: r) cm) s' → 1 ≤ s'.toks → Q ⟨⟩ s') : wpAny M A (forIn ((n, v) :: r) ⟨⟩ f) Q E s := by
  rw [List.forIn_cons, hf]
  refine wpAny_bind (wpAny_bind (stLC_t x hk hl fun s' x' h1 => wpAny_pure ?_))
  refine wpAny_mono (wpAny_toks_of h1 (wpAny_bindParams f hf hk r _ _ s' (fun _ s'' => InCallC s₀ env.locals (bindL env.kindOf ((n, v) :: r) m) env.cells (bindC env.kindOf ((n, v) :: r) cm) s'') x' hkind fun s'' x'' => ?_)) (fun _ s'' z => h s'' z.2 z.1) fun _ _ z => z.2
  unfold bindL bindC; rw [if_pos hl, if_pos hl]; exact x''
theorem newEnv_t {scope : Scope} {globals : Addr} {n : Str} {v : Value} {r : List (Str × Value)} {qual : Str} {func : Option Addr} {code : Value} {builtins : Addr} {Q : Env → Shared → Prop}
    (hk : scope.kind = .function) (hl : scope.names.lookup n = some .local)
    (hkind : ∀ x ∈ r, scope.names.lookup x.1 = some .local ∨ (scope.names.lookup x.1 = some .cell ∧ ((cellsFrom (s.heap.objs.size + 1) scope.names []).lookup x.1).isSome = true))
    (hQ : ∀ env, env = newEnv scope s.heap.objs.size globals (cellsFrom (s.heap.objs.size + 1) scope.names []) qual func code none builtins →
      ∀ s', InCallC s env.locals (bindL env.kindOf ((n, v) :: r) fun _ => none) env.cells (bindC env.kindOf ((n, v) :: r) fun _ => none) s' → 1 ≤ s'.toks → Q env s') :
    wpAny M A (newFunctionEnv scope globals [] ((n, v) :: r) qual func code none builtins) Q E s := by
  simp only [newFunctionEnv, Option.isSome_none, Bool.false_eq_true, if_false]
  refine wpAny_bind (wpAny_alloc ?_)
  refine wpAny_bind (wpAny_layCells _ (fun name kind cells => by cases hkc : kind == NameKind.cell <;> simp [hkc]) _ _ _ _ ?_)
  have ok := cellsFrom_ok scope.names (s.heap.push { cls := .type "frame", data := .dict #[] }) (s.heap.objs.size + 1) [] ⟨fun _ _ hm => (nomatch hm), List.Pairwise.nil⟩ (by rw [Heap.size_push]; exact Nat.le_refl _)
  rw [Heap.size_push] at ok
  rw [show ({ s with heap := s.heap.push { cls := .type "frame", data := .dict #[] } } : Shared).heap.objs.size = s.heap.objs.size + 1 from Heap.size_push ..]
  refine wpAny_bind (bindParams_t (s₀ := s) (env := newEnv scope s.heap.objs.size globals (cellsFrom (s.heap.objs.size + 1) scope.names []) qual func code none builtins)
    _ (fun _ _ _ => rfl) hk n v r
    ⟨⟨⟨_, _, rfl⟩, (Heap.Ns.new s.heap (.type "frame")).keeps (pushCells_keeps _ _), fun b o e => pushCells_keeps _ _ b o (Heap.get?_push_of_some _ e), Nat.le_refl _⟩,
      fun n c hc => (ok.empty n c (mem_of_lookup hc)).1, ok.apart, fun n c hm => (ok.empty n c hm).2⟩
    hl hkind fun s' x h1 => wpAny_pure (hQ _ rfl s' x h1))
end
theorem fn_ofG {CX : CXT} {P : Program} {w : World} {K : PySem.W.Frag} {mg : Str → Option Value} {base : Heap} {k : Nat} {f : Addr} {name qual : Str} {params : Arguments} {body : List Stmt} {scope : Scope} {dV kV doc pm cdv ct oc : Value} {an od : Option Addr}
    {osl : Array (Option Value)} {N ps : List Str} {p0 : Str} {sp : Sp} (lk : K.lookup f = some ⟨oc, od, .func (PySem.W.fnOf name qual params body scope dV kV doc pm an cdv ct), osl⟩) (hcd : PySem.W.codeIn K cdv qual = true) (Sc : FnScope N (p0 :: ps) scope)
    (h0 : scope.names.lookup p0 = some .local) (len : ∀ vs H Q E, sp vs H Q E → vs.length = (p0 :: ps).length)
    (hbody : ∀ (A : Around) (outer : List Env) (s : Shared) (H : Hp) (vs : List V) (Q : VK) (E : XK), Room k (A.deeper (envOfC qual scope s.heap.objs.size f cdv)) → sp vs H Q E →
      ∃ t, PSsT (cxOf CX P w K mg base N qual scope f cdv A outer s H E) body t ∧ t { nx := fun _ H' => Q .non H', rt := Q } (start N vs) H) :
    FnOk P w K mg base CX (k + 1) f (PySem.W.fnOf name qual params body scope dV kV doc pm an cdv ct) (p0 :: ps) sp := by
  refine ⟨len, fun A outer s H args us vs Q E hr e0 hb r hsp => ?_⟩
  have hl := len _ _ _ _ hsp
  have hul : us.length = (p0 :: ps).length := by rw [← r.length, hl]
  obtain ⟨u0, us', rfl⟩ := List.exists_cons_of_length_eq_add_one (n := ps.length) (by simpa using hul)
  have KX : K.In s.heap := e0.mod.kin.keeps fun b o e => (e0.bs b o e).1
  have lim : s.heap.NoLimit := e0.mod.nolimit.keeps fun b o e => (e0.bs b o e).1
  have hkind : ∀ y ∈ ps.zip us', scope.names.lookup y.1 = some .local ∨ (scope.names.lookup y.1 = some .cell ∧ ((cellsFrom (s.heap.objs.size + 1) scope.names []).lookup y.1).isSome = true) := fun ⟨n, v⟩ hy => by
    rcases Sc.par n (List.mem_cons_of_mem _ (List.of_mem_zip hy).1) with q | q
    · exact .inl q
    · exact .inr ⟨q, PySem.W.cellsFrom_some _ _ _ (.inl q)⟩
  refine codeAny_call_function hr.depth (KX _ _ lk) rfl Sc.co Sc.gen rfl (PySem.W.codeRec_of KX hcd) (hb _ _ _ _ ?_)
  rw [List.zip_cons_cons]
  refine newEnv_t Sc.kind h0 hkind fun env he s1 x hto => ?_
  subst he
  refine ⟨lim.keeps x.toInCall.keep, codeAny_func ?_⟩
  obtain ⟨t, ht, hq⟩ := hbody A outer s H vs Q E (hr.deeper _) hsp
  have I : Inv (cxOf CX P w K mg base N qual scope f cdv A outer s H E) [] (start N vs) H s1 := inv_start Sc hr.hd e0 hl r x
  refine wpAny_mono (ht [] s1 (start N vs) H _ hto I hq) (fun fl s' hs => ?_) fun e s' hs => hs
  have fin : ∀ {σ' : S} {H' : Hp} {v : V} {u : Value}, Inv (cxOf CX P w K mg base N qual scope f cdv A outer s H E) [] σ' H' s' → RelV v u → Q v H' → CE outer P w H s Q u s' :=
    fun {σ' H' v u} J rv q => ⟨v, H', J.os, J.bare, J.base, J.hok, rv, q⟩
  cases fl with
  | ret u =>
    obtain ⟨v, σ', H', J, rv, q⟩ := hs
    exact fin J rv q
  | next =>
    obtain ⟨σ', H', J, q⟩ := hs
    exact fin (v := V.non) (u := Value.none) J rfl q
  | brk =>
    obtain ⟨_, _, _, q⟩ := hs
    exact False.elim q
  | cont =>
    obtain ⟨_, _, _, q⟩ := hs
    exact False.elim q
theorem okT {CX : CXT} {P : Program} {w : World} {K : PySem.W.Frag} {mg : Str → Option Value} {base : Heap} {k : Nat} {x qual : Str} {params : Arguments} {body : List Stmt} {scope : Scope} {dvs : List V} {kws : List (Str × V)} {f : Addr} {fd : FuncData} {N ps : List Str} {p0 : Str} {sp : Sp}
    (F : FunD K x qual params body scope dvs kws f fd) (Sc : FnScope N (p0 :: ps) scope) (h0 : scope.names.lookup p0 = some .local) (len : ∀ vs H Q E, sp vs H Q E → vs.length = (p0 :: ps).length)
    (hbody : ∀ (cdv : Value) (A : Around) (outer : List Env) (s : Shared) (H : Hp) (vs : List V) (Q : VK) (E : XK), Room k (A.deeper (envOfC qual scope s.heap.objs.size f cdv)) → sp vs H Q E →
      ∃ t, PSsT (cxOf CX P w K mg base N qual scope f cdv A outer s H E) body t ∧ t { nx := fun _ H' => Q .non H', rt := Q } (start N vs) H) : FnOk P w K mg base CX (k + 1) f fd (p0 :: ps) sp := by
  obtain ⟨oc, od, dV, kV, doc, pm, an, cdv, ct, osl, rfl, lk, hcd, _, _⟩ := F.ex
  exact fn_ofG lk hcd Sc h0 len fun A outer s H vs Q E hr hsp => hbody cdv A outer s H vs Q E hr hsp
theorem psst_nox {X : Cx} {st : List Stmt} {t : TS} (h : PSsT X.nox st t) : PSsT X st t := fun pins s σ H D h0 I hw =>
  wpAny_mono (h pins s σ H D h0 (I.wish _) hw) (fun _ _ q => q.unwish) fun _ _ z => False.elim z
/-- x = e, e wants a token -/
theorem pst_set {X : Cx} {i : Nat} {x : Str} {e : Expr} {te : TE} {pos' pos : Pos} (hN : X.N.Nodup) (hi : X.N[i]? = some x) (hx : Loc X.env.scope x) (he : PET X e te) (hs : swapsWith e (some (.Name x pos')) pos.line X.env = pure false := by rfl) (hf : X.fn x = true ∨ X.env.scope.names.lookup x = some .local := by first | exact .inl rfl | exact .inr rfl) :
    PST X (.Assign [.Name x pos'] e pos) (tAsg te (gName i)) := by
  intro pins s σ H D h0 I h
  refine wpAny_Assign_Name (thn (he pins s σ H _ h0 I h) fun v s1 ⟨y, H1, I1, r1, q1⟩ => ?_) hs
  exact store_ok I1 hN hi hx r1 (fun s2 I2 => ⟨_, H1, I2, q1⟩) hf
/-- the tokens' own way: e.replace(y, z) as what PET asks -/
theorem r_repl {to : TE} {y z : Str} {σ : S} {H : Hp} {Q : VK} (h : to σ H fun v H1 => ∃ x, v = .str x ∧ x.length + (x.length + 1) * z.length ≤ 16777216 ∧ Q (.str (Txt.replace x y z)) H1) : CwR.tReplC to y z σ H Q := h
end Px

namespace Px
open PySem PySem.Spec PyProof.Rows L2
/-! ### text * number (a sign or none, a small number), text.index -/
def strRep (a : Str) (n : Nat) : Str := ⟨(List.replicate n a.cps.toList).flatten.toArray⟩
theorem rep_fold (x : Array Nat) : ∀ (n : Nat) (acc : Array Nat), (List.replicate n x).foldl (· ++ ·) acc = acc ++ (List.replicate n x.toList).flatten.toArray
  | 0, acc => by simp
  | n + 1, acc => by
    rw [List.replicate_succ, List.foldl_cons, rep_fold x n, List.replicate_succ, List.flatten_cons]
    apply Array.ext'
    simp
def rMulS : R2 := fun x y H Q => ∃ (a : Str) (n : Nat), x = .str a ∧ y = .int n ∧ a.length ≤ 1 ∧ n ≤ 1000 ∧ Q (.str (strRep a n)) H
theorem op_mulS {X : Cx} : OpR X (binaryOp .Mult) rMulS := by
  intro pins s σ H x y v u Q I rx ry h
  obtain ⟨a, n, rfl, rfl, ha, hn, q⟩ := h
  obtain ⟨t, rfl⟩ := rx
  obtain ⟨t2, rfl⟩ := ry
  have dv : 1000 ≤ (2 ^ 63 - 1 : Int) / (1000 : Int) := by decide
  refine PySem.P.mul_str (by
    rw [decide_eq_false (by omega), decide_eq_false (by omega)]; rfl) (fun h1 _ z => ?_) (fun h1 _ => ?_) ?_
  · have h3 : (1 : Int) ≤ (2 ^ 63 - 1) / (n : Int) := (Int.le_ediv_iff_mul_le (by omega)).mpr (by omega)
    omega
  · unfold Builtin.Str.tooLong
    rw [Int.toNat_natCast]
    refine decide_eq_false ?_
    have : a.length * n ≤ 1 * 1000 := Nat.mul_le_mul ha hn
    have := sizeLine_eq
    omega
  by_cases h1 : (n : Int) < 1
  · rw [if_pos h1]
    have e : n = 0 := by omega
    subst e
    exact ⟨by decide, ⟨.str (strRep a 0), H, I.tok _, ⟨_, rfl⟩, q⟩⟩
  · rw [if_neg h1]
    by_cases h2 : ((n : Int) == 1 || a.length == 0) = true
    · rw [if_pos h2]
      have e : strRep a n = a := by
        unfold strRep
        rcases Bool.or_eq_true_iff.mp h2 with z | z
        · have z := beq_iff_eq.mp z
          have : n = 1 := by omega
          subst this
          simp
        · have z : a.cps.size = 0 := beq_iff_eq.mp z
          have : a.cps = #[] := Array.eq_empty_of_size_eq_zero z
          have e2 : a = ⟨#[]⟩ := by
            show a = _
            rw [← this]
          rw [e2]
          simp
      rw [e] at q
      exact ⟨.str a, H, I, ⟨_, rfl⟩, q⟩
    · rw [if_neg h2]
      have e : (⟨(List.replicate (Int.toNat n) a.cps).foldl (· ++ ·) #[]⟩ : Str) = strRep a n := by
        rw [rep_fold, Int.toNat_natCast]
        unfold strRep
        simp
      rw [e]
      refine ⟨?_, ⟨.str (strRep a n), H, I.tok _, ⟨_, rfl⟩, q⟩⟩
      unfold strRep
      show (List.replicate n a.cps.toList).flatten.toArray.size ≤ sizeLine
      have : a.cps.toList.length ≤ 1 := by rw [Array.length_toList]; exact ha
      simp only [List.size_toArray, List.length_flatten, List.map_replicate, List.sum_replicate_nat]
      have h5 : n * a.cps.toList.length ≤ 1000 * 1 := Nat.mul_le_mul hn this
      rw [sizeLine_eq]
      omega
abbrev rSIdx : V → List V → Hp → VK → Prop := fun x xs H Q => ∃ a b i rest, x = .str a ∧ xs = [.str b] ∧ Builtin.Str.occurrences a b 0 a.length 1 = i :: rest ∧ Q (.int (i : Nat)) H
end Px

namespace Px
open PySem PySem.Spec PyProof.Rows L2
/-! ### readings of raise, try; values of any kind -/
def tRaiseE (E : XK) (t : L2.St → Hp → XK → Prop) : TS := fun _ σ H => t σ H fun cls d H' => E cls d H'
def tTryAs (K : PySem.W.Frag) (c : Value) (i : Nat) (ts : Addr → Value → Option Addr → TS) (Wout : WX) (tb : WX → TS) : TS := fun D σ H => tb (wAs K c i ts Wout D) D σ H
def tTryOnly (K : PySem.W.Frag) (c : Value) (ts : Addr → Value → Option Addr → TS) (Wout : WX) (tb : WX → TS) : TS := fun D σ H => tb (wOnly K c ts Wout D) D σ H
def rTupOf (K : PySem.W.Frag) : List V → Hp → VK → Prop := fun xs H Q => ∃ p ys, xs = [.ref p] ∧ ((SqL K H p ys ∧ ∀ l, H l = none → Q (.ref l) (upd H l (.tup ys))) ∨ (SqT K H p ys ∧ Q (.ref p) H))
section
variable {K : PySem.W.Frag} {H : Hp} {σ : S} {D : Ends} {Q : VK} {E : XK}
theorem r_raise {t : L2.St → Hp → XK → Prop} (h : t σ H fun cls d H' => E cls d H') : tRaiseE E t D σ H := h
theorem r_mkE {C : Addr} {fld : Str} {ta : TA} {E : XK} (h : ta σ H fun vs H1 => ∃ v, vs = [v] ∧ ∀ d, H1 d = none → E (.ref C) (some d) (upd H1 d (.xd [(fld, v)]))) : tMkE C fld ta σ H E := h
theorem r_callS {sp : Sp} {W : L2.St → XK} {ta : TA} (h : ta σ H fun vs H1 => sp vs H1 Q (W σ)) : tCallS sp W ta σ H Q := h
theorem r_tryAs {c : Value} {i : Nat} {ts : Addr → Value → Option Addr → TS} {Wout : WX} {tb : WX → TS} (h : tb (wAs K c i ts Wout D) D σ H) : tTryAs K c i ts Wout tb D σ H := h
theorem r_tryOnly {c : Value} {ts : Addr → Value → Option Addr → TS} {Wout : WX} {tb : WX → TS} (h : tb (wOnly K c ts Wout D) D σ H) : tTryOnly K c ts Wout tb D σ H := h
theorem r_wAs {C : Addr} {d : Option Addr} {i : Nat} {ts : Addr → Value → Option Addr → TS} {Wout : WX} (te : PySem.W.exmOne K (.ref C) (.ref C) = some true)
    (h : ∀ a, H a = none → ts a (.ref C) d { nx := fun σ' H' => D.nx (σ'.set i none) H', rt := D.rt, bk := fun σ' H' => D.bk (σ'.set i none) H', ct := fun σ' H' => D.ct (σ'.set i none) H' } (σ.set i (some (.ref a))) H) :
    wAs K (.ref C) i ts Wout D (.ref C) d σ H := ⟨true, te, fun _ => h, fun z => nomatch z⟩
theorem r_wOnly {C : Addr} {d : Option Addr} {ts : Addr → Value → Option Addr → TS} {Wout : WX} (te : PySem.W.exmOne K (.ref C) (.ref C) = some true) (h : ∀ a, H a = none → ts a (.ref C) d D σ H) :
    wOnly K (.ref C) ts Wout D (.ref C) d σ H := ⟨true, te, fun _ => h, fun z => nomatch z⟩
theorem r_xf {a C : Addr} {dd : Addr} {f : Str} {i : Nat} {v : V} {fs : List (Str × V)} (h0 : σ[i]? = some (some (.ref a))) (h1 : H dd = some (.xd fs)) (h2 : fs.lookup f = some v) (h : Q v H) : tXf a (.ref C) (some dd) C f (tVar i) σ H Q := by
  refine ⟨_, h0, ?_⟩
  exact ⟨rfl, rfl, dd, fs, v, rfl, h1, h2, h⟩
theorem r_tupOfL {p : Addr} {ys : List V} (h1 : SqL K H p ys) (h : ∀ l, H l = none → Q (.ref l) (upd H l (.tup ys))) : rTupOf K [.ref p] H Q := ⟨p, ys, rfl, .inl ⟨h1, h⟩⟩
theorem r_tupOfT {p : Addr} {ys : List V} (h1 : SqT K H p ys) (h : Q (.ref p) H) : rTupOf K [.ref p] H Q := ⟨p, ys, rfl, .inr ⟨h1, h⟩⟩
end
/-- values whose kind is known -/
inductive Kd (H : Hp) : V → String → Prop
  | int (i : Int) : Kd H (.int i) "int"
  | bl (b : Bool) : Kd H (.bl b) "bool"
  | non : Kd H .non "NoneType"
  | str (z : Str) : Kd H (.str z) "str"
  | lst {p : Addr} {xs : List V} : H p = some (.lst xs) → Kd H (.ref p) "list"
  | tup {p : Addr} {xs : List V} : H p = some (.tup xs) → Kd H (.ref p) "tuple"
theorem Kd.same {H H' : Hp} (s : Same H H') {v : V} {t : String} (h : Kd H v t) : Kd H' v t := by
  cases h with
  | int i => exact .int i
  | bl b => exact .bl b
  | non => exact .non
  | str z => exact .str z
  | lst h => exact .lst (s _ _ h)
  | tup h => exact .tup (s _ _ h)
theorem Kd.ty {K : PySem.W.Frag} {H : Hp} {v : V} {t : String} (h : Kd H v t) : TyOf K H v (.type t) := by
  cases h with
  | int i => exact .int i
  | bl b => exact .bl b
  | non => exact .non
  | str z => exact .str z
  | lst h => exact .lst h
  | tup h => exact .tup h
section
variable {K : PySem.W.Frag} {H : Hp} {Q : VK} {v : V} {t : String}
theorem r_isiK {c : String} {b : Bool} (k : Kd H v t) (h2 : kitB t c = some b) (h : Q (.bl b) H) : rIsi K [v, .ty c] H Q := r_isiB k.ty h2 h
theorem Kd.kinds (k : Kd H v t) : t = "int" ∨ t = "bool" ∨ t = "NoneType" ∨ t = "str" ∨ t = "list" ∨ t = "tuple" := by
  cases k <;> simp
/-- isinstance(v, int) and so on, for any known kind -/
theorem r_isiInt (k : Kd H v t) (h : Q (.bl (decide (t = "int") || decide (t = "bool"))) H) : rIsi K [v, .ty "int"] H Q := by
  cases k with
  | int i => exact r_isiK (.int i) (by decide +kernel) h
  | bl b => exact r_isiK (.bl b) (by decide +kernel) h
  | non => exact r_isiK .non (by decide +kernel) h
  | str z => exact r_isiK (.str z) (by decide +kernel) h
  | lst q => exact r_isiK (.lst q) (by decide +kernel) h
  | tup q => exact r_isiK (.tup q) (by decide +kernel) h
theorem r_isiBool (k : Kd H v t) (h : Q (.bl (decide (t = "bool"))) H) : rIsi K [v, .ty "bool"] H Q := by
  cases k with
  | int i => exact r_isiK (.int i) (by decide +kernel) h
  | bl b => exact r_isiK (.bl b) (by decide +kernel) h
  | non => exact r_isiK .non (by decide +kernel) h
  | str z => exact r_isiK (.str z) (by decide +kernel) h
  | lst q => exact r_isiK (.lst q) (by decide +kernel) h
  | tup q => exact r_isiK (.tup q) (by decide +kernel) h
theorem r_isiStr (k : Kd H v t) (h : Q (.bl (decide (t = "str"))) H) : rIsi K [v, .ty "str"] H Q := by
  cases k with
  | int i => exact r_isiK (.int i) (by decide +kernel) h
  | bl b => exact r_isiK (.bl b) (by decide +kernel) h
  | non => exact r_isiK .non (by decide +kernel) h
  | str z => exact r_isiK (.str z) (by decide +kernel) h
  | lst q => exact r_isiK (.lst q) (by decide +kernel) h
  | tup q => exact r_isiK (.tup q) (by decide +kernel) h
/-- isinstance(v, (list, tuple)) -/
theorem r_isiSeq {tp : Addr} (k : Kd H v t) (h2 : H tp = some (.tup [.ty "list", .ty "tuple"])) (h : Q (.bl (decide (t = "list") || decide (t = "tuple"))) H) : rIsiT K [v, .ref tp] H Q := by
  have go : ∀ (b : Bool), PySem.W.kitAny K (.type t) [.type "list", .type "tuple"] = some b → Q (.bl b) H → rIsiT K [v, .ref tp] H Q := fun b e q =>
    ⟨v, tp, [.ty "list", .ty "tuple"], .type t, [.type "list", .type "tuple"], b, rfl, h2, .cons (.ty "list") (.cons (.ty "tuple") .nil), .base k.ty, e, q⟩
  have no : ∀ {t : String}, kitB t "list" = some false → kitB t "tuple" = some false → PySem.W.kitAny K (.type t) [.type "list", .type "tuple"] = some false := fun a b =>
    kitAny_cons (b := false) (kit_ty a) (fun _ => kitAny_cons (b := false) (kit_ty b) (fun _ => rfl) (fun z => nomatch z)) (fun z => nomatch z)
  cases k with
  | int i => exact go false (no (by decide +kernel) (by decide +kernel)) h
  | bl b => exact go false (no (by decide +kernel) (by decide +kernel)) h
  | non => exact go false (no (by decide +kernel) (by decide +kernel)) h
  | str z => exact go false (no (by decide +kernel) (by decide +kernel)) h
  | lst q => exact r_isiTL q h2 h
  | tup q => exact r_isiTT q h2 h
end
end Px

/-! for i, x in enumerate(tuple) -/
namespace PySem
open Sem (wp)
open AutoSeq1 (wpAny_loadPart')
theorem meets_enumerate_newT (l : Addr) (items : Array Value) (n : Nat) (dct : Option Addr) (sl : Array (Option Value)) :
    Meets (Builtin.«enumerate.__new__» ⟨[.type "enumerate", .ref l], []⟩) (fun _ R s => s.heap.get? l = some { cls := .type "tuple", dict := dct, data := .seq items n, slots := sl } ∧
      R (.ok (.ret (.ref (s.heap.push { cls := .type "tuple_iterator", data := .fields #[.ref l, .int 0 0] }).objs.size)))
        { s with heap := (s.heap.push { cls := .type "tuple_iterator", data := .fields #[.ref l, .int 0 0] }).push { cls := .type "enumerate", data := .fields #[.none, .bool false, .ref s.heap.objs.size, rawInt 0, .none, .none] } }) :=
  .of_wp fun prog w A R s h => by
    obtain ⟨hp, g, d, tk, os⟩ := s; obtain ⟨hl, h⟩ := h
    have hsub := sub_enumerate
    have hL : Heap.IsTuple (Shared.heap ⟨hp, g, d, tk, os⟩) l items := ⟨_, hl, rfl, n, rfl⟩
    wp_walk using wpAny_loadPart' hl
    refine wpAny_stack_any fun st => wpAny_pure ?_
    split
    · rename_i c _ _ _ _ _
      cases (c == Value.type "enumerate")
      · wp_walk using wpAny_loadPart' hl, wpAny_pyIter_tuple hL
        exact ⟨_, rfl, h⟩
      · wp_walk using wpAny_loadPart' hl, wpAny_pyIter_tuple hL
        exact ⟨_, rfl, h⟩
    · wp_walk using wpAny_loadPart' hl, wpAny_pyIter_tuple hL
      exact ⟨_, rfl, h⟩
section
variable {prog : Program} {w : World} {A : Around} {E : Value → Shared → Prop} {s : Shared}
theorem call_enumerate_tup {l : Addr} {items : Array Value} {Q : Value → Shared → Prop} (hL : s.heap.IsTuple l items)
    (h : ∀ h', IsEnum h' (s.heap.objs.size + 1) s.heap.objs.size 0 .none → h'.IsTupleIter s.heap.objs.size l 0 → h'.objs.size = s.heap.objs.size + 2 →
      (∀ b o, s.heap.get? b = some o → h'.get? b = some o) → Q (.ref (s.heap.objs.size + 1)) { s with heap := h' }) :
    wpAny (model prog w) A (call (.type "enumerate") [.ref l]) Q E s := by
  obtain ⟨⟨c, dct, dt, sl⟩, hl, hc, n, hd⟩ := hL
  replace hc : c = .type "tuple" := hc
  replace hd : dt = .seq items n := hd
  subst hc hd
  refine callType_new F.called_enumerate (by decide) (F.typeCall_enumerate_1 _) (F.newCall_enumerate_1 _) (fun obj => F.args_object_init_2 obj _) F.entry_enumerate_new
    (meets_enumerate_newT l items n dct sl) ⟨hl, ?_⟩
  have hz : (s.heap.push { cls := .type "tuple_iterator", data := .fields #[.ref l, .int 0 0] }).objs.size = s.heap.objs.size + 1 := Heap.size_push ..
  show _ ∧ _
  rw [hz]
  have he : IsEnum ((s.heap.push { cls := .type "tuple_iterator", data := .fields #[.ref l, .int 0 0] }).push
      { cls := .type "enumerate", data := .fields #[.none, .bool false, .ref s.heap.objs.size, rawInt 0, .none, .none] }) (s.heap.objs.size + 1) s.heap.objs.size 0 .none := by
    have := Heap.get?_push_size (s.heap.push { cls := .type "tuple_iterator", data := .fields #[.ref l, .int 0 0] })
      (o := { cls := .type "enumerate", data := .fields #[.none, .bool false, .ref s.heap.objs.size, rawInt 0, .none, .none] }) rfl
    rw [hz] at this; exact this
  refine ⟨⟨_, he, rfl⟩, h _ he ⟨_, Heap.get?_push_of_some _ (Heap.get?_push_size _ rfl), rfl, rfl⟩ (by rw [Heap.size_push, hz]) fun b o x => Heap.get?_push_of_some _ (Heap.get?_push_of_some _ x)⟩
end
end PySem
namespace Px
open PySem PySem.Spec PyProof.Rows L2
/-- the tuple at a, each item in a new pair -/
def IteT (K : PySem.W.Frag) (a : Addr) : It :=
  ⟨fun i H => ∃ (xs : List V) (x : V), SqT K H a xs ∧ xs[i]? = some x, fun i H v H' => ∃ T x, v = .ref T ∧ H T = none ∧ H' = upd H T (.tup [.int (i : Nat), x]) ∧ ∀ xs, SqT K H a xs → xs[i]? = some x, fun i H => ∃ xs : List V, SqT K H a xs ∧ xs.length = i⟩
theorem turn_enumT {P : Program} {w : World} {K : PySem.W.Frag} {elts : List Expr} {kk : Nat} {tpos : Pos} (a e it : Addr) :
    Turn P w K (.Tuple elts kk tpos) (IteT K a) [e, it] e (fun i h => (∃ old, IsEnum h e it (0 + ((i : Nat) : Int)) old) ∧ h.IsTupleIter it a i ∧ e ≠ it) where
  mem := by simp
  obj := fun i h st b hb => by
    obtain ⟨⟨old, he⟩, ⟨o, ho, hc, hd⟩, _⟩ := st
    have e' : b = e ∨ b = it := by simpa using hb
    rcases e' with z | z
    · rw [z]; exact ⟨_, he, fun v q => nomatch q⟩
    · rw [z]; exact ⟨o, ho, fun v q => by rw [hd] at q; cases q⟩
  keep := fun i h h' st k => let ⟨⟨old, he⟩, hi, hne⟩ := st; ⟨⟨old, k e (by simp) _ he⟩, hi.at fun o q => k it (by simp) o q, hne⟩
  item := by
    intro X hP hw hK hc i pins s σ H E I hf st hg
    subst hP hw hK
    obtain ⟨he, hit, hne⟩ := st
    obtain ⟨xs, x, hq, hx⟩ := hg
    obtain ⟨its, rv, p, hz⟩ := I.tuple hq
    obtain ⟨u, hu, ru⟩ := rv.get hx
    have hit2 : a ≠ it := by
      intro z
      subst z
      obtain ⟨o, ho, hc2, hd2⟩ := hit
      obtain ⟨o2, ho2, _, n2, hd3⟩ := p
      rw [ho] at ho2; cases ho2
      rw [hd2] at hd3; cases hd3
    have hea : e ≠ a := by
      intro z
      subst z
      obtain ⟨old, he⟩ := he
      obtain ⟨o2, ho2, _, n2, hd3⟩ := p
      have he' : s.heap.get? e = _ := he
      rw [he'] at ho2; cases ho2
      cases hd3
    have G := GoesN.enumFrom (elts := elts) (x1 := kk) (pos := tpos) 0 (Draws.tuple (prog := X.prog) (w := X.w) (A := X.A.in1) (I.ok.hd hc) it a hit2 its.toArray) e hne (by simp [hne, hea]) (by simp)
    have lt : i < its.toArray.size := by
      have := rv.length
      have h2 : i < xs.length := (List.getElem?_eq_some_iff.mp hx).1
      simp only [List.size_toArray]
      omega
    have nw : ∀ b, b ∈ [e, it] → b < s.heap.objs.size := by
      intro b hb
      obtain ⟨old, he⟩ := he
      obtain ⟨o, ho, _⟩ := hit
      have e' : b = e ∨ b = it := by simpa using hb
      rcases e' with z | z
      · rw [z]; exact Heap.lt_size he
      · rw [z]; exact Heap.lt_size ho
    refine G.goes i s _ E lt ⟨he, hit, p⟩ fun v h' tk hy st' hk _ => ?_
    obtain ⟨T, t, y, rfl, hT, hy', ht⟩ := hy
    have ey : y = u := by
      have : its[i]? = some y := by simpa using hy'
      rw [hu] at this
      exact (Option.some.inj this).symm
    subst ey
    have hn : H T = none := I.hok.fresh hT
    have new : ObjOk X.prog X.w (upd H T (.tup [.int (i : Nat), x])) h' T (.tup [.int (i : Nat), x]) := ⟨by show 2 ≤ sizeLine; decide, [_, y], .cons ⟨t, by simp⟩ (.cons ru .nil), ht⟩
    refine ⟨.ref T, _, I.turnedNew (ch := [e, it]) (fun b o hb q => hk b o hb q) hf hT new, rfl, ⟨T, x, rfl, hn, rfl, fun ys hy => by rw [I.tuple_inj hy hq]; exact hx⟩, ⟨st'.1, st'.2.1, hne⟩, fun c hcm => ?_⟩
    rw [upd_ne (Nat.ne_of_lt (Nat.lt_of_lt_of_le (nw c hcm) hT))]
    exact (hf c hcm).1
  done := by
    intro X hP hw hK hc i pins s σ H E I hf st hg
    subst hP hw hK
    obtain ⟨he, hit, hne⟩ := st
    obtain ⟨xs, hq, hx⟩ := hg
    obtain ⟨its, rv, p, hz⟩ := I.tuple hq
    have hit2 : a ≠ it := by
      intro z
      subst z
      obtain ⟨o, ho, hc2, hd2⟩ := hit
      obtain ⟨o2, ho2, _, n2, hd3⟩ := p
      rw [ho] at ho2; cases ho2
      rw [hd2] at hd3; cases hd3
    have hea : e ≠ a := by
      intro z
      subst z
      obtain ⟨old, he⟩ := he
      obtain ⟨o2, ho2, _, n2, hd3⟩ := p
      have he' : s.heap.get? e = _ := he
      rw [he'] at ho2; cases ho2
      cases hd3
    have G := GoesN.enumFrom (elts := elts) (x1 := kk) (pos := tpos) 0 (Draws.tuple (prog := X.prog) (w := X.w) (A := X.A.in1) (I.ok.hd hc) it a hit2 its.toArray) e hne (by simp [hne, hea]) (by simp)
    have en : its.toArray.size = i := by
      have := rv.length
      simp only [List.size_toArray]
      omega
    rw [en] at G
    exact G.stops s _ E ⟨he, hit, p⟩ fun h' tk hk _ => I.turnedL (ch := [e, it]) (fun b o hb q => hk b o hb q) hf
  self := fun A i s Q E st h => let ⟨⟨_, he⟩, _⟩ := st; wpAny_pyIter_enum he h
def iEnumT (K : PySem.W.Frag) (ta : TA) : TI := fun σ H R => ta σ H fun vs H1 => ∃ a xs, vs = [.ref a] ∧ SqT K H1 a xs ∧ R (IteT K a) H1
theorem pi_enumT {X : Cx} {e : Expr} {ta : TA} {p pos tpos : Pos} {elts : List Expr} {kk : Nat} (hg : Gl X "enumerate") (hm : X.mg "enumerate" = none) (ha : PA X [e] ta) (hs : starEach [e] X.env = [(false, eval e X.env)] := by rfl) :
    PI X (.Tuple elts kk tpos) (.Call (.Name "enumerate" p) [e] [] pos) (iEnumT X.K ta) := by
  refine ⟨fun pins s σ H R I h => ?_⟩
  refine Call_ (ld_blt I hg hm boot_enumerate (PyProof.Rows.callWith_type1 (thn (ha.run pos pins s σ H _ I h) fun us s1 ⟨vs, H1, I1, r1, q1⟩ => ?_) hs rfl))
  obtain ⟨a, xs, ex, hq, q⟩ := q1
  subst ex
  cases r1 with
  | cons r rr =>
    cases rr
    cases r
    obtain ⟨its, rv, p', hz⟩ := I1.tuple hq
    refine PySem.call_enumerate_tup p' fun h' he hit hsz hk => wpAny_pyIter_enum he ?_
    have I2 : Inv X pins σ H1 { s1 with heap := h' } := I1.kept (t' := s1.toks) hk
    refine ⟨s1.heap.objs.size + 1, [s1.heap.objs.size + 1, s1.heap.objs.size], _, _, H1, rfl, I2, turn_enumT a (s1.heap.objs.size + 1) s1.heap.objs.size, ⟨⟨.none, he⟩, hit, Nat.succ_ne_self _⟩, fun b hb => ?_, q⟩
    have e' : b = s1.heap.objs.size + 1 ∨ b = s1.heap.objs.size := by simpa using hb
    have hle : s1.heap.objs.size ≤ b := by
      rcases e' with z | z
      · rw [z]; exact Nat.le_add_right _ _
      · rw [z]; exact Nat.le_refl _
    exact I1.fpOk hle (I1.hok.fresh hle)
theorem walk_enumT {K : PySem.W.Frag} {a : Addr} {xs : List V} : Walk (IteT K a) xs.length (fun H => SqT K H a xs) (YPair (fun i => some (.int (i : Nat))) (fun i => xs[i]?)) := by
  refine ⟨fun i _ hi q => ⟨xs, xs[i], q, by simp [hi]⟩, fun _ q => ⟨xs, q, rfl⟩, fun i H v H' _ q y => ?_⟩
  obtain ⟨T, x, h1, h2, h3, h4⟩ := y
  exact ⟨T, .int (i : Nat), x, h1, h2, h3, rfl, h4 xs q⟩
/-- over a list, a text or a tuple -/
def iEnumA (K : PySem.W.Frag) (ta : TA) : TI := fun σ H R => iEnumU K ta σ H R ∨ iEnumT K ta σ H R
theorem pi_enumA {X : Cx} {e : Expr} {ta : TA} {p pos tpos : Pos} {elts : List Expr} {kk : Nat} (hg : Gl X "enumerate") (hm : X.mg "enumerate" = none) (ha : PA X [e] ta) (hs : starEach [e] X.env = [(false, eval e X.env)] := by rfl) :
    PI X (.Tuple elts kk tpos) (.Call (.Name "enumerate" p) [e] [] pos) (iEnumA X.K ta) := PI.or (pi_enumU hg hm ha hs) (pi_enumT hg hm ha hs)
section
variable {K : PySem.W.Frag} {σ : S} {H : Hp} {tr : TA}
theorem r_enumAL {R : It → Hp → Prop} (h : tr σ H fun vs H1 => ∃ a xs, vs = [.ref a] ∧ SqL K H1 a xs ∧ R (Ite K a) H1) : iEnumA K tr σ H R := .inl (.inl h)
theorem r_enumAS {R : It → Hp → Prop} (h : tr σ H fun vs H1 => ∃ z : Str, vs = [.str z] ∧ R (ItP z.cps.size (fun i => some (.int (i : Nat))) (sgn z)) H1) : iEnumA K tr σ H R := .inl (.inr h)
theorem r_enumAT {R : It → Hp → Prop} (h : tr σ H fun vs H1 => ∃ a xs, vs = [.ref a] ∧ SqT K H1 a xs ∧ R (IteT K a) H1) : iEnumA K tr σ H R := .inr h
end
end Px

/-! o != p by an own __eq__; C.m(k = v) of a classmethod; cls(.., k = v) -/
namespace Px
open PySem PySem.Spec PyProof.Rows L2 ClX
section
variable {prog : Program} {w : World} {A A₀ : Around} {E : Value → Shared → Prop} {s : Shared} {K : PySem.W.Frag} {x C L f : Addr} {h₀ : Heap} {m : Str → Option Value} {ox : Obj} {od : Option Obj} {b tb : Value}
theorem ifBound_B {M : Model} {name : Str} {id T : String} {args : List Value} {Q : Option Value → Shared → Prop} (X : K.In s.heap) (I : PySem.W.InstAt s.heap x ox C od) (hs : PySem.W.findIn K (.ref C) name = some (some (.builtin id))) (S : Slot T name id)
    (h : wpAny M A (call (.builtin id) (.ref x :: args)) (fun v => Q (some v)) E s) : wpAny M A (callSpecialIfBound? (.ref x) name args) Q E s := by
  simp only [callSpecialIfBound?, bindSpecialIfBound?]
  refine wpAny_holding (wpAny_bind (wpAny_bind (wpAny_bind (I.type.here ((PySem.W.looks_findIn X hs).here ?_)))))
  simp only [S.bind]
  refine wpAny_bind (wpAny_askSetting (wpAny_ite ?_))
  have fin : wpAny M A (call (.builtin id) ([.ref x] ++ args) >>= fun v => pure (some v)) Q E s := wpAny_bind (wpAny_mono h (fun v s' h' => wpAny_pure h') fun _ _ h' => h')
  split
  · exact wpAny_bind (wpAny_pure (wpAny_pure (by exact fin)))
  · exact wpAny_tryCatch (wpAny_bind (wpAny_pure (wpAny_pure (by exact fin))))
theorem objNe_own {Q : Fin → Shared → Prop} (X : K.In s.heap) (I : PySem.W.InstAt s.heap x ox C od) (hs : PySem.W.findIn K (.ref C) "__eq__" = some (some (.ref f))) (hf : PySem.W.isFn K (.ref f) = true) (hu : A.units < cLine)
    (h : wpAny (model prog w) A (call (.ref f) [.ref x, b]) (fun v s' => ∃ r, v = .bool r ∧ Q (.done (.ret (.bool (!r)))) s') E s) : wpAny (model prog w) A (Builtin.«object.__ne__» ⟨[.ref x, b], []⟩) Q E s := by
  unfold Builtin.«object.__ne__»
  repeat (first
    | with_reducible refine wpAny_cRoomFor hu ?_
    | (refine wpAny_bind (m := callSpecialIfBound? (.ref x) (Str.ofString "__eq__") [b])
        (PySem.W.ifBound_K X I hs hf (wpAny_mono h (fun r s' hr => by
          obtain ⟨b, rfl, hq⟩ := hr
          repeat (first | exact hq | exact wpAny_pure hq | exact wpAny_truthy_bool hq | (refine wpAny_bind (m := truthy (.bool _)) (wpAny_truthy_bool ?_)) | wp_step)) fun _ _ e => e)))
    | wp_step)
theorem rc_neOwn {Q : Value → Shared → Prop} (hu : A.units + 1 < cLine) (Fm : Fr h₀ L s.heap m) (X₀ : K.In h₀) (I : PySem.W.InstAt s.heap x ox C od) (hb : PySem.W.Looks (model prog w) s.heap (typeOf b) (.ref C))
    (hne : PySem.W.findIn K (.ref C) "__ne__" = some (some (.builtin "object.__ne__"))) (hm : PySem.W.mroIn K C (.type "object") = some true)
    (hs : PySem.W.findIn K (.ref C) "__eq__" = some (some (.ref f))) (hf : PySem.W.isFn K (.ref f) = true)
    (h : wpAny (model prog w) A.in1 (call (.ref f) [.ref x, b]) (fun v s' => ∃ r, v = .bool r ∧ Q (.bool (!r)) s') E s) : wpAny (model prog w) A (richCompare .NotEq (.ref x) b) Q E s := by
  have X := X₀.keeps Fm.keep
  have sub : PySem.W.Looks (model prog w) s.heap (isInstance (.ref x) (.type "object")) true := I.type.andThen (PySem.W.looks_mroIn X hm)
  have one : wpAny (model prog w) A (tryCompare (.ref x) "__ne__" b) (fun r s' => ∃ v, r = some v ∧ Q v s') E s := by
    unfold tryCompare
    refine wpAny_bind (ifBound_B X I hne PySem.F.cmp_object.ne (wpAny_call (codeAny_call_builtin PySem.F.cmp_object.ne.plain PySem.F.cmpEntry_ne
      (PySem.W.check_slot PySem.F.cmpKind_ne PySem.F.cmpSplit_ne sub (PySem.F.cmpArgs_ne _ _) (objNe_own (A := A.in1) X I hs hf hu (wpAny_mono h (fun v s' hv => ?_) fun _ _ e => e))))))
    obtain ⟨r, rfl, hq⟩ := hv
    exact ⟨r, rfl, wpAny_pure ⟨_, rfl, hq⟩⟩
  unfold richCompare
  simp only [oneThing_ref]
  refine wpAny_holding (wpAny_bind (wpAny_cRoomFor (Nat.lt_of_succ_lt hu) ?_))
  refine wpAny_bind (I.type.here (wpAny_bind (hb.here ?_)))
  rw [show (Value.ref C != Value.ref C) = false from by simp]
  rw [cmpInfo_NotEq]
  simp only [Bool.false_eq_true, if_false]
  refine wpAny_bind (wpAny_pure ?_)
  simp only [Bool.false_eq_true, if_false]
  refine wpAny_bind (wpAny_mono one (fun r s' z => ?_) fun _ _ e => e)
  obtain ⟨v, rfl, hq⟩ := z
  exact wpAny_pure hq
end
/-- o != p, both of the class at C, by C's own __eq__ -/
def rNeOwn (C : Addr) (sp : Sp) (E : XK) : R2 := fun x y H Q => ∃ a b dx dy fs gs, x = .ref a ∧ y = .ref b ∧ H a = some (.ins C dx fs) ∧ H b = some (.ins C dy gs) ∧ sp [.ref a, .ref b] H (fun v H' => ∃ k, v = .bl k ∧ Q (.bl (!k)) H') E
/-- what the class says of != -/
structure NeC (K : PySem.W.Frag) (C : Addr) : Prop where
  ne : PySem.W.findIn K (.ref C) "__ne__" = some (some (.builtin "object.__ne__"))
  ob : PySem.W.mroIn K C (.type "object") = some true
def fNe (C : Str) : Fact := fun K => He.eqO (PySem.W.findIn K (.ref (He.ga K C)) "__ne__") (some (some (.builtin "object.__ne__"))) && decide (PySem.W.mroIn K (He.ga K C) (.type "object") = some true)
theorem fNe_ok {C : Str} {K : PySem.W.Frag} (h : fNe C K = true) : NeC K (He.ga K C) := by
  obtain ⟨h1, h2⟩ := He.ba h
  exact ⟨He.eqO_ok h1, of_decide_eq_true h2⟩
section
variable {X : Cx} {CX : CXT} {k : Nat} {C f : Addr} {fd : FuncData} {ps : List Str} {sp : Sp} {E : XK}
theorem op_neOwn (F : FnOk X.prog X.w X.K X.mg X.base CX k f fd ps sp) (hr : Room (k + 1) X.A) (N : NeC X.K C) (D : Meth X.K C "__eq__" f) (hb : Binds X.K fd ps []) (hx : Passes CX X E) : OpR X (compareOp .NotEq) (rNeOwn C sp E) := by
  intro pins s σ H x y v u Q I rx ry hq
  obtain ⟨a, b, dx, dy, fs, gs, rfl, rfl, ha, hb', q⟩ := hq
  cases rx
  cases ry
  obtain ⟨mA, J, _⟩ := ins_get I.hok ha
  obtain ⟨mB, J', _⟩ := ins_get I.hok hb'
  obtain ⟨od, J, _⟩ := J.look
  obtain ⟨od', J', _⟩ := J'.look
  obtain ⟨m, hF⟩ := I.fr
  show wpAny (model X.prog X.w) X.A (richCompare .NotEq (.ref a) (.ref b)) _ _ _
  refine rc_neOwn (hr.in1).units0 hF I.ok.mod.kin J J'.type N.ne N.ob D.at_ D.fn ?_
  have hl := F.len _ _ _ _ q
  have r2 : Vals [V.ref a, V.ref b] [Value.ref a, Value.ref b] := .cons rfl (.cons rfl .nil)
  refine wpAny_call (codeAny_mono (F.run X.A.in1 X.stack s H ⟨[.ref a, .ref b], []⟩ [.ref a, .ref b] [.ref a, .ref b] _ E hr.in1 I.env0.in1 (by
    have := hb s [.ref a, .ref b] I.kIn (by simpa using hl)
    simpa using this) r2 q) fun r s' hq => ?_)
  cases r with
  | error e => exact hx pins σ H s e s' I hq
  | ok fl =>
    cases fl with
    | ret w =>
      obtain ⟨z, H', I', rz, n, ez, q'⟩ := I.after hq
      subst ez
      cases rz
      exact ⟨n, rfl, .bl (!n), H', I', rfl, q'⟩
    | next => exact False.elim hq
    | brk => exact False.elim hq
    | cont => exact False.elim hq
end
/-- C.m(k = v, ..), C.m(): m a classmethod -/
def tCMethK (C : Addr) (m : Nat) (sp : Sp) (gV : List V → List V → List V) (E : L2.St → XK) (ta : TE) (tk : TA) : TE := fun σ H Q => ta σ H fun x H1 => x = .ref C ∧ tk σ H1 fun zs H2 => zs.length = m ∧ sp (gV [.ref C] zs) H2 Q (E σ)
/-- cls(e, .., k = v, ..), the class in slot i -/
def tMakeLK (i : Nat) (C : Addr) (n m : Nat) (sp : Sp) (gV : List V → List V → List V) (E : XK) (t tk : TA) : TE := fun σ H Q => σ[i]? = some (some (.ref C)) ∧ tMakeK C n m sp gV E t tk σ H Q
section
variable {X : Cx} {CX : CXT} {k n i : Nat} {C p f g : Addr} {mc : Value} {fd : FuncData} {ps ks : List Str} {sp : Sp} {x m : Str} {o e : Expr} {es : List Expr} {kws : List Keyword} {ta : TE} {t tk : TA} {gg : List Value → List Value → List Value} {gV : List V → List V → List V} {pos apos np : Pos} {pl : Sem Bool}
theorem pe_cmethK {E : L2.St → XK} (he : PE X o ta) (r : CRead X.K C mc) (c : CMet X.K C mc m p g) (F : FnOk X.prog X.w X.K X.mg X.base CX k g fd ps sp) (hr : Room k X.A) (hb : KBn X.K fd ps 1 ks gg gV) (hx : ∀ σ, PassesAt CX X σ (E σ)) (hkw : PK X kws tk)
    (hall : (backToKw pos (keywordEach kws X.env)).all (·.1.isSome) = true := by rfl) (hks : (backToKw pos (keywordEach kws X.env)).filterMap (·.1) = ks := by rfl)
    (hpl : ((backTo pos (starEach [] X.env)).any (·.1) || (backToKw pos (keywordEach kws X.env)).any (·.1.isNone)) = false := by rfl)
    (ht : eval (.Call (.Attribute o m apos) [] kws pos) X.env = (do
      let ov ← eval o X.env
      standAt apos.atName
      let (f, first) ← holding [ov] (getMethod ov m pl)
      callWith pos f first (backTo pos (starEach [] X.env)) (backToKw pos (keywordEach kws X.env))) := by rfl) :
    PE X (.Call (.Attribute o m apos) [] kws pos) (tCMethK C ks.length sp gV E ta tk) := by
  refine ⟨fun pins s σ H Q I h => ?_⟩
  refine PySem.W.methodCall_KW (pl := pl) (thn (he.run pins s σ H _ I h) fun u s1 ⟨x, H1, I1, rx, ex, q⟩ => ?_) ht
  subst ex
  obtain rfl : u = Value.ref C := rx
  refine getmethcm_ok I1 r c fun s2 I2 => ?_
  refine PySem.W.callWith_of hpl (PySem.W.keeps_M (K := X.K) (self := .ref C) c.fi) (evalArgs_kw2_nil hall ?_)
  refine thn (hkw.run pos _ s2 σ H1 _ I2 q) fun ws s3 ⟨zs, H2, I3, rz, l2, q2⟩ => ⟨⟨pin_at I3, I3.kIn⟩, ?_⟩
  rw [hks]
  have z : wpAny (model X.prog X.w) X.A (call (.ref s1.heap.objs.size) [] (ks.zip ws)) (EP X ((s1.heap.objs.size, PySem.W.methodObj (.ref g) (.ref C)) :: pins) σ Q) X.xe s3 :=
    wpAny_call (PySem.W.method_call (pin_at I3) (codeAny_mono (F.run X.A X.stack s3 H2 ⟨[.ref C], ks.zip ws⟩ (gg [.ref C] ws) (gV [.ref C] zs) Q (E σ) hr I3.env0 (hb.to _ [.ref C] ws I3.kIn rfl (rz.length.symm.trans l2)) (hb.rel (.cons rfl .nil) rz) q2) fun r s' hq => by
      cases r with
      | error e => exact hx σ _ H2 s3 e s' I3 hq
      | ok fl =>
        cases fl with
        | ret u => exact I3.after hq
        | next => exact False.elim hq
        | brk => exact False.elim hq
        | cont => exact False.elim hq))
  exact thn z fun _ _ y => unpinE y
theorem pe_makeLK {E : XK} (M : Mk X.K C f) (F : FnOk X.prog X.w X.K X.mg X.base CX k f fd ps sp) (hr : Room (k + 1) X.A) (hN : X.N[i]? = some x) (hv : Vis X.env.scope x) (hb : KBn X.K fd ps (n + 1) ks gg gV) (hx : Passes CX X E) (ha : PA X (e :: es) t) (hkw : PK X kws tk)
    (hall : (backToKw pos (keywordEach kws X.env)).all (·.1.isSome) = true := by rfl) (hks : (backToKw pos (keywordEach kws X.env)).filterMap (·.1) = ks := by rfl) (hdb : (x == ("__debug__" : Str)) = false := by decide) (hcd : (x == ("__classdict__" : Str)) = false := by decide)
    (he : starEach (e :: es) X.env = (false, eval e X.env) :: starEach es X.env := by rfl) (hpl : ((backTo pos (starEach (e :: es) X.env)).any (·.1) || (backToKw pos (keywordEach kws X.env)).any (·.1.isNone)) = false := by rfl) :
    PE X (.Call (.Name x np) (e :: es) kws pos) (tMakeLK i C n ks.length sp gV E t tk) := by
  refine ⟨fun pins s σ H Q I h => ?_⟩
  obtain ⟨hs, ht⟩ := h
  refine wpAny_Call_Name_kw (thn ((pe_var (pos := np) hN hv hdb hcd).run pins s σ H (fun v H1 => v = .ref C ∧ H1 = H) I ⟨.ref C, hs, rfl, rfl⟩) fun u s0 ⟨v, H0, I0, r1, q1⟩ => ?_)
  obtain ⟨rfl, rfl⟩ := q1
  cases r1
  refine PySem.W.callWith_KW (h₀ := X.base) I.ok.mod.kin M.kp hall (thn (ha.run pos pins s0 σ _ _ I0 ht) fun us s1 ⟨vs, H1, I1, r, q⟩ => ?_) hpl he
  refine thn (hkw.run pos pins s1 σ H1 _ I1 q) fun ws s2 ⟨zs, H2, I2, rz, l1, l2, q2⟩ => ⟨I2.kIn, ?_⟩
  rw [hks]
  exact run_makeK M F hr hb hx I2 r rz l1 l2 q2
end
/-! ### the head: classmethods -/
def wCls (C m : Str) (K : PySem.W.Frag) : Addr := He5.wf K (He.ga K C) "classmethod" m
def fCMet (C m : Str) : Fact := fun K => He5.wrapB K (He.ga K C) "classmethod" "classmethod.__get__" m && PySem.W.fnIn K (He5.wf K (He.ga K C) "classmethod" m)
theorem fCMet_ok {C m : Str} {K : PySem.W.Frag} (h : fCMet C m K = true) : CMet K (He.ga K C) (.type "type") m (He.ma K (He.ga K C) m) (wCls C m K) := by
  obtain ⟨h1, h2⟩ := He.ba h
  exact He5.cmet_of h1 h2
theorem passLS {X : Cx} : ∀ σ : L2.St, PassesAt (L2.CX X.prog X.w) X σ E0 := fun σ pins H s e s' I c => passL pins σ H s e s' I c
/-! ### isinstance of instances of an own class -/
structure InsC (K : PySem.W.Frag) (C : Addr) : Prop where
  cl : Cls K C
  ha : PySem.W.findIn K (.ref C) "__class__" = some (some (.builtin "object.__class__"))
  hn : PySem.W.specialIn K (.builtin "object.__class__") "__get__" = some (some (.builtin "getset_descriptor.__get__"))
  htk : PySem.W.takesIn K (.builtin "object.__class__") = some true
  hm : PySem.W.mroIn K C (.type "object") = some true
  me : PySem.W.kitOne K (.ref C) (.ref C) = some true
def fIns (C : Str) : Fact := fun K => (He.Fa.cls C).ok K && (He.eqO (PySem.W.findIn K (.ref (He.ga K C)) "__class__") (some (some (.builtin "object.__class__"))) && (He.eqO (PySem.W.specialIn K (.builtin "object.__class__") "__get__") (some (some (.builtin "getset_descriptor.__get__"))) &&
  (decide (PySem.W.takesIn K (.builtin "object.__class__") = some true) && (decide (PySem.W.mroIn K (He.ga K C) (.type "object") = some true) && decide (PySem.W.kitOne K (.ref (He.ga K C)) (.ref (He.ga K C)) = some true)))))
theorem fIns_ok {C : Str} {K : PySem.W.Frag} (h : fIns C K = true) : InsC K (He.ga K C) := by
  obtain ⟨h0, h⟩ := He.ba h
  obtain ⟨h1, h⟩ := He.ba h
  obtain ⟨h2, h⟩ := He.ba h
  obtain ⟨h3, h⟩ := He.ba h
  obtain ⟨h4, h5⟩ := He.ba h
  exact ⟨He.cls_ok h0, He.eqO_ok h1, He.eqO_ok h2, of_decide_eq_true h3, of_decide_eq_true h4, of_decide_eq_true h5⟩
theorem r_isC {K : PySem.W.Frag} {C a dx : Addr} {fs : List (Str × V)} {H : Hp} {Q : VK} (c : InsC K C) (ha : H a = some (.ins C dx fs)) (h : Q (.bl true) H) : rIsi K [.ref a, .ref C] H Q :=
  ⟨.ref a, .ref C, .ref C, .ref C, true, rfl, .own C, .base (TyOf.ins ha c.cl c.ha c.hn c.htk c.hm), c.me, h⟩
section
variable {K : PySem.W.Frag} {H : Hp} {Q : VK} {σ : S}
theorem r_cmethK {C : Addr} {m : Nat} {sp : Sp} {gV : List V → List V → List V} {E : L2.St → XK} {tk : TA} (h : tk σ H fun zs H2 => zs.length = m ∧ sp (gV [.ref C] zs) H2 Q (E σ)) : tCMethK C m sp gV E (tC (.ref C)) tk σ H Q := ⟨rfl, h⟩
end
end Px

namespace Px
open PySem PySem.Spec PyProof.Rows L2
theorem hu65 {k : Nat} {A : Around} (hr : Room k A) : A.units + 65 < cLine := by have := hr.un; omega
/-! ### either of two readings -/
def tOrE (t1 t2 : TE) : TE := fun σ H Q => t1 σ H Q ∨ t2 σ H Q
theorem pe_or2 {X : Cx} {e : Expr} {t1 t2 : TE} (h1 : PE X e t1) (h2 : PE X e t2) : PE X e (tOrE t1 t2) := PE.or h1 h2
theorem r_orL {t1 t2 : TE} {σ : S} {H : Hp} {Q : VK} (h : t1 σ H Q) : tOrE t1 t2 σ H Q := .inl h
theorem r_orR {t1 t2 : TE} {σ : S} {H : Hp} {Q : VK} (h : t2 σ H Q) : tOrE t1 t2 σ H Q := .inr h
/-! ### instances called -/
theorem callO_of {K : PySem.W.Frag} {C f : Addr} {x qual : Str} {params : Arguments} {body : List Stmt} {scope : Scope} {dvs : List V} {kws : List (Str × V)} {fd : FuncData} (M : Meth K C "__call__" f) (F : FunD K x qual params body scope dvs kws f fd) : StX.CallO K C f := by
  refine ⟨M.at_, M.fn, ?_⟩
  obtain ⟨oc, od, dV, kV, doc, pm, an, cdv, ct, osl, e, lk, _⟩ := F.ex
  unfold PySem.W.fnIn
  rw [lk]
def tCallOS (C : Addr) (sp : Sp) (W : L2.St → XK) (tf : TE) (t : TA) : TE := fun σ H Q => tf σ H fun y H1 => ∃ a, y = V.ref a ∧ t σ H1 fun vs H2 => (∃ dx fs, H2 a = some (.ins C dx fs)) ∧ sp (V.ref a :: vs) H2 Q (W σ)
section
variable {X : Cx} {CX : CXT} {k i : Nat} {f g C : Addr} {fd : FuncData} {ps : List Str} {sp : Sp} {W : L2.St → XK} {x m : Str} {e o fe : Expr} {es : List Expr} {te tf ta : TE} {t : TA} {p pos apos : Pos}
theorem run_fnSc {pins : List (Addr × Obj)} {σ : L2.St} {H : Hp} {s : Shared} {Q : VK} {us : List Value} {vs : List V} (F : FnOk X.prog X.w X.K X.mg X.base CX k f fd ps sp) (hr : Room k X.A) (hb : Binds X.K fd ps []) (hx : PassesAt CX X σ (W σ))
    (I : Inv X pins σ H s) (r : Vals vs us) (h : sp vs H Q (W σ)) : codeAny (model X.prog X.w) X.A (.call (.ref f) ⟨us, []⟩) (fun r s' => match r with | .ok (.ret v) => EP X pins σ Q v s' | .ok _ => False | .error e => X.xe e s') s := by
  have hl : us.length = ps.length := by rw [← r.length]; exact F.len _ _ _ _ h
  have b := hb s us I.kIn (by rw [List.append_nil]; exact hl)
  rw [List.append_nil] at b
  refine codeAny_mono (F.run X.A X.stack s H ⟨us, []⟩ us vs Q (W σ) hr I.env0 b r h) fun r s' hq => ?_
  cases r with
  | error e => exact hx pins H s e s' I hq
  | ok fl =>
    cases fl with
    | ret u => exact I.after hq
    | next => exact False.elim hq
    | brk => exact False.elim hq
    | cont => exact False.elim hq
theorem pe_callOS (hf : PE X fe tf) (c : StX.CallO X.K C g) (F : FnOk X.prog X.w X.K X.mg X.base CX k g fd ps sp) (hr : Room k X.A) (hb : Binds X.K fd ps []) (hx : ∀ σ, PassesAt CX X σ (W σ)) (ha : PA X (e :: es) t)
    (ht : eval (.Call fe (e :: es) [] pos) X.env = (do callWith pos (← eval fe X.env) [] (backTo pos (starEach (e :: es) X.env)) (backToKw pos (keywordEach [] X.env))) := by rfl)
    (he : starEach (e :: es) X.env = (false, eval e X.env) :: starEach es X.env := by rfl) (hpl : (backTo pos (starEach es X.env)).any (·.1) = false := by rfl) : PE X (.Call fe (e :: es) [] pos) (tCallOS C sp W tf t) := by
  refine ⟨fun pins s σ H Q I h => ?_⟩
  refine Call_ (thn (hf.run pins s σ H _ I h) fun u s1 ⟨y, H1, I1, ry, a, ey, q⟩ => ?_) ht
  subst ey
  obtain rfl : u = Value.ref a := ry
  refine StX.callO_with (thn (ha.run pos pins s1 σ H1 _ I1 q) fun us s2 ⟨vs, H2, I2, r, ⟨dx, fs, hi⟩, q2⟩ => ?_) he hpl
  obtain ⟨ox, od, J, hd⟩ := StX.insC_at I2 (.inr ⟨dx, fs, hi⟩)
  exact ⟨⟨C, ox, od, J, hd⟩, wpAny_call (PySem.W.kco_code I2.kIn J hd c.at_ c.fn c.fi (run_fnSc (us := .ref a :: us) (vs := .ref a :: vs) F hr hb (hx σ) I2 (.cons rfl r) q2))⟩
/-! ### methods that let something out -/
def tMethS (C : Addr) (m : Str) (sp : Sp) (W : L2.St → XK) (ta : TE) (t : TA) : TE := fun σ H Q => ta σ H fun x H1 => ∃ a dx fs, x = .ref a ∧ H1 a = some (.ins C dx fs) ∧ fs.lookup m = none ∧ t σ H1 fun vs H2 => sp (.ref a :: vs) H2 Q (W σ)
theorem pe_methS {pl : Sem Bool} (he : PE X o ta) (c : Cls X.K C) (hm : Meth X.K C m f) (F : FnOk X.prog X.w X.K X.mg X.base CX k f fd ps sp) (hr : Room k X.A) (hb : Binds X.K fd ps []) (hx : ∀ σ, PassesAt CX X σ (W σ)) (ha : PA X (e :: es) t)
    (hst : starEach (e :: es) X.env = (false, eval e X.env) :: starEach es X.env := by rfl) (hpl : (backTo pos (starEach es X.env)).any (·.1) = false := by rfl)
    (ht : eval (.Call (.Attribute o m apos) (e :: es) [] pos) X.env = (do
      let ov ← eval o X.env
      standAt apos.atName
      let (f, first) ← holding [ov] (getMethod ov m pl)
      callWith pos f first (backTo pos (starEach (e :: es) X.env)) (backToKw pos (keywordEach [] X.env))) := by rfl) :
    PE X (.Call (.Attribute o m apos) (e :: es) [] pos) (tMethS C m sp W ta t) := by
  refine ⟨fun pins s σ H Q I h => ?_⟩
  refine PySem.W.methodCall_KW (pl := pl) (thn (he.run pins s σ H _ I h) fun u s1 ⟨x, H1, I1, rx, a, dx, fs, ex, ea, l, q⟩ => ?_) ht
  subst ex
  obtain rfl : u = Value.ref a := rx
  refine getmeth_ok I1 ea c hm l ?_
  refine PySem.W.callWith_K (first := [.ref a]) (h₀ := X.base) I.ok.mod.kin hm.kp (thn (ha.run pos pins s1 σ H1 _ I1 q) fun us s2 ⟨vs, H2, I2, r, q2⟩ => ⟨I2.kIn, ?_⟩) hst hpl
  exact run_fnS (us := .ref a :: us) (vs := .ref a :: vs) F hr hb (hx σ) I2 (.cons rfl r) q2
theorem pe_methS0 {pl : Sem Bool} (he : PE X o ta) (c : Cls X.K C) (hm : Meth X.K C m f) (F : FnOk X.prog X.w X.K X.mg X.base CX k f fd ps sp) (hr : Room k X.A) (hb : Binds X.K fd ps []) (hx : ∀ σ, PassesAt CX X σ (W σ))
    (ht : eval (.Call (.Attribute o m apos) [] [] pos) X.env = (do
      let ov ← eval o X.env
      standAt apos.atName
      let (f, first) ← holding [ov] (getMethod ov m pl)
      callWith pos f first (backTo pos (starEach [] X.env)) (backToKw pos (keywordEach [] X.env))) := by rfl) :
    PE X (.Call (.Attribute o m apos) [] [] pos) (tMethS C m sp W ta tNil) := by
  refine ⟨fun pins s σ H Q I h => ?_⟩
  refine PySem.W.methodCall_KW (pl := pl) (thn (he.run pins s σ H _ I h) fun u s1 ⟨x, H1, I1, rx, a, dx, fs, ex, ea, l, q⟩ => ?_) ht
  subst ex
  obtain rfl : u = Value.ref a := rx
  refine getmeth_ok I1 ea c hm l ?_
  exact PySem.W.callWith_K0 (first := [.ref a]) I1.kIn hm.kp (run_fnS (us := [.ref a]) (vs := [.ref a]) F hr hb (hx σ) I1 (.cons rfl .nil) q)
/-! ### a field as one of several targets -/
def gFld (K : PySem.W.Frag) (to : TE) (f : Str) : TG := fun v σ H P => to σ H fun x H1 => ∃ a C dx fs, x = .ref a ∧ H1 a = some (.ins C dx fs) ∧ Cls K C ∧ NoAttr K C f ∧ fs.length < 1000 ∧ P σ (upd H1 a (.ins C dx (putF f v fs)))
theorem pg_fld {f : Str} (ho : PE X o ta) : PG X (.Attribute o f pos) (gFld X.K ta f) := by
  refine ⟨fun pins s σ H v u Q I r h => ?_⟩
  rw [assign_Attribute]
  refine wpAny_bind (wpAny_holding (thn (ho.run pins s σ H _ I h) fun ov s1 ⟨x, H1, I1, rx, a, C, dx, fs, ex, ea, c, n, l, q⟩ => ?_))
  subst ex
  obtain rfl : ov = Value.ref a := rx
  refine wpAny_bind (wpAny_standAt (wpAny_bind (wpAny_holding (setattr_ok I1 ea c n l r fun s2 I2 => ?_))))
  exact wpAny_release ⟨σ, _, I2, q⟩
end
/-! ### star arguments -/
def spStar (n : Nat) (sp : Sp) : Sp := fun vs H Q E => ∃ ws rest, vs = ws ++ rest ∧ ws.length = n ∧ rest.length ≤ sizeLine ∧ ∀ p, H p = none → sp (ws ++ [V.ref p]) (upd H p (.tup rest)) Q E
section
variable  {P : Program} {w : World} {K : PySem.W.Frag} {mg : Str → Option Value} {base : Heap} {CX : CXT} {k : Nat} {f : Addr} {name qual pv : Str} {params : Arguments} {body : List Stmt} {scope : Scope} {dvs : List V} {kws : List (Str × V)} {fd : FuncData} {N ps : List Str} {sp : Sp}
theorem fnr_star (F : FunD K name qual params body scope dvs kws f fd) (S : FnScope N (ps ++ [pv]) scope) (hCX : StX.CXUp CX)
    (hb : ∀ (dV kV doc pm : Value) (an : Option Addr) (cdv ct : Value) (us rest : List Value), us.length = ps.length → bindArgs (PySem.W.fnOf name qual params body scope dV kV doc pm an cdv ct) ⟨us ++ rest, []⟩ = (newTuple rest >>= fun t => pure (ps.zip us ++ [(pv, t)])))
    (hbody : ∀ (cdv : Value) (A : Around) (outer : List Env) (s : Shared) (H : Hp) (vs : List V) (Q : VK) (E : XK), Room k (A.deeper (envOfC qual scope s.heap.objs.size f cdv)) → sp vs H Q E →
      ∃ t, PSs (cxOf CX P w K mg base N qual scope f cdv A outer s H E) body t ∧ t { nx := fun _ H' => Q .non H', rt := Q } (start N vs) H) :
    FnR P w K mg base CX (k + 1) f (spStar ps.length sp) := by
  obtain ⟨oc, od, dV, kV, doc, pm, an, cdv, ct, osl, rfl, lk, hcd, _, _⟩ := F.ex
  exact StX.fn_star lk hcd S hCX (hb dV kV doc pm an cdv ct) (hbody cdv)
end
section
variable {X : Cx} {CX : CXT} {k : Nat} {f : Addr} {sp : Sp} {W : L2.St → XK} {x : Str} {e : Expr} {es : List Expr} {t : TA} {p pos : Pos}
theorem run_fnRS {pins : List (Addr × Obj)} {σ : L2.St} {H : Hp} {s : Shared} {Q : VK} {us : List Value} {vs : List V} (F : FnR X.prog X.w X.K X.mg X.base CX k f sp) (hr : Room k X.A) (hx : PassesAt CX X σ (W σ)) (I : Inv X pins σ H s) (r : Vals vs us) (h : sp vs H Q (W σ)) :
    codeAny (model X.prog X.w) X.A (.call (.ref f) ⟨us, []⟩) (fun r s' => match r with | .ok (.ret v) => EP X pins σ Q v s' | .ok _ => False | .error e => X.xe e s') s := by
  refine codeAny_mono (F X.A X.stack s H us vs Q (W σ) hr I.env0 r h) fun r s' hq => ?_
  cases r with
  | error e => exact hx pins H s e s' I hq
  | ok fl =>
    cases fl with
    | ret u => exact I.after hq
    | next => exact False.elim hq
    | brk => exact False.elim hq
    | cont => exact False.elim hq
theorem pe_callR (F : FnR X.prog X.w X.K X.mg X.base CX k f sp) (hr : Room k X.A) (hg : Gl X x) (hm : X.mg x = some (.ref f)) (hk : PySem.W.keepIn X.K (.ref f) = true) (hx : ∀ σ, PassesAt CX X σ (W σ))
    (ha : PA X (e :: es) t) (hdb : (x == ("__debug__" : Str)) = false := by decide) (he : starEach (e :: es) X.env = (false, eval e X.env) :: starEach es X.env := by rfl) (hpl : (backTo pos (starEach es X.env)).any (·.1) = false := by rfl) :
    PE X (.Call (.Name x p) (e :: es) [] pos) (tCallS sp W t) := by
  refine ⟨fun pins s σ H Q I h => ?_⟩
  refine wpAny_Call_Name_kw (ld_glob I hg hm ?_ hdb)
  refine PySem.W.callWith_K (h₀ := X.base) I.ok.mod.kin hk (thn (ha.run pos pins s σ H _ I h) fun us s1 ⟨vs, H1, I1, r, q⟩ => ⟨I1.kIn, ?_⟩) he hpl
  exact wpAny_call (run_fnRS F hr (hx σ) I1 r q)
end
/-! ### steps -/
section
variable {K : PySem.W.Frag} {σ : S} {H : Hp} {Q : VK} {D : Ends} {x y v : V}
theorem r_callOS {C : Addr} {sp : Sp} {W : L2.St → XK} {t : TA} {i : Nat} {a : Addr} (h0 : σ[i]? = some (some (.ref a))) (h : t σ H fun vs H2 => (∃ dx fs, H2 a = some (.ins C dx fs)) ∧ sp (V.ref a :: vs) H2 Q (W σ)) : tCallOS C sp W (tVar i) t σ H Q := ⟨_, h0, a, rfl, h⟩
theorem r_methS {C : Addr} {m : Str} {sp : Sp} {W : L2.St → XK} {t : TA} {i : Nat} {a dx : Addr} {fs : List (Str × V)} (h0 : σ[i]? = some (some (.ref a))) (h1 : H a = some (.ins C dx fs)) (h2 : fs.lookup m = none) (h : t σ H fun vs H2 => sp (V.ref a :: vs) H2 Q (W σ)) : tMethS C m sp W (tVar i) t σ H Q := ⟨_, h0, a, dx, fs, rfl, h1, h2, h⟩
theorem r_methI {C : Addr} {m : Str} {sp : Sp} {E : XK} {t : TA} {i : Nat} {a dx : Addr} {fs : List (Str × V)} (h0 : σ[i]? = some (some (.ref a))) (h1 : H a = some (.ins C dx fs)) (h2 : fs.lookup m = none) (h : t σ H fun vs H2 => sp (V.ref a :: (vs ++ [])) H2 Q E) : tMeth C m sp [] E (tVar i) t σ H Q := ⟨_, h0, a, dx, fs, rfl, h1, h2, h⟩
theorem r_propI {C : Addr} {sp : Sp} {E : XK} {i : Nat} {a dx : Addr} {fs : List (Str × V)} (h0 : σ[i]? = some (some (.ref a))) (h1 : H a = some (.ins C dx fs)) (h : sp [V.ref a] H Q E) : tProp C sp [] E (tVar i) σ H Q := ⟨_, h0, a, dx, fs, rfl, h1, h⟩
theorem r_fldI {f : Str} {i : Nat} {a C dx : Addr} {fs : List (Str × V)} (h0 : σ[i]? = some (some (.ref a))) (h1 : H a = some (.ins C dx fs)) (c : Cls K C) (n : NoAttr K C f) (h2 : fs.lookup f = some v) (h : Q v H) : tFld K (tVar i) f σ H Q := ⟨_, h0, a, C, dx, fs, v, rfl, h1, c, n, h2, h⟩
theorem r_gFld {f : Str} {i : Nat} {a C dx : Addr} {fs : List (Str × V)} {P : S → Hp → Prop} (h0 : σ[i]? = some (some (.ref a))) (h1 : H a = some (.ins C dx fs)) (c : Cls K C) (n : NoAttr K C f) (hl : fs.length < 1000) (h : P σ (upd H a (.ins C dx (putF f v fs)))) : gFld K (tVar i) f v σ H P := ⟨_, h0, a, C, dx, fs, rfl, h1, c, n, hl, h⟩
theorem r_gUnl {n : Nat} {gs : TGs} {a : Addr} {xs : List V} {P : S → Hp → Prop} (h1 : SqL K H a xs) (h2 : xs.length = n) (h : gs xs σ H P) : gUnl K n gs (.ref a) σ H P := ⟨a, xs, rfl, h1, h2, h⟩
theorem r_lstRg {te : L2.St → Hp → (Int → Int → Hp → Prop) → Prop} (h : te σ H fun a b H1 => RgOk a b ∧ ∀ q, H1 q = none → Q (.ref q) (upd H1 q (.lst (rgV a b)))) : tLstRg te σ H Q := h
end
end Px

namespace Px
open PySem PySem.Spec PyProof.Rows L2
/-! ### star arguments: what is bound -/
def StarB (ps : List Str) (pv : Str) (B : List Value → Sem (List (Str × Value))) : Prop := ∀ us rest : List Value, us.length = ps.length → B (us ++ rest) = (newTuple rest >>= fun t => pure (ps.zip us ++ [(pv, t)]))
theorem starB1 {B : List Value → Sem (List (Str × Value))} {p1 pv : Str} (h0 : ∀ a, B [a] = (newTuple [] >>= fun t => pure [(p1, a), (pv, t)])) (h1 : ∀ a r rs, B (a :: r :: rs) = (newTuple (r :: rs) >>= fun t => pure [(p1, a), (pv, t)])) : StarB [p1] pv B := StX.bind_star1 h0 h1
theorem starB2 {B : List Value → Sem (List (Str × Value))} {p1 p2 pv : Str} (h0 : ∀ a b, B [a, b] = (newTuple [] >>= fun t => pure [(p1, a), (p2, b), (pv, t)])) (h1 : ∀ a b r rs, B (a :: b :: r :: rs) = (newTuple (r :: rs) >>= fun t => pure [(p1, a), (p2, b), (pv, t)])) : StarB [p1, p2] pv B := StX.bind_star2 h0 h1
section
variable  {P : Program} {w : World} {K : PySem.W.Frag} {mg : Str → Option Value} {base : Heap} {CX : CXT} {k : Nat} {f : Addr} {name qual pv : Str} {params : Arguments} {body : List Stmt} {scope : Scope} {dvs : List V} {kws : List (Str × V)} {fd : FuncData} {N ps : List Str} {sp : Sp}
theorem fnr_starB (F : FunD K name qual params body scope [] kws f fd) (S : FnScope N (ps ++ [pv]) scope) (hCX : StX.CXUp CX)
    (hb : ∀ (kV doc pm : Value) (an : Option Addr) (cdv ct : Value), StarB ps pv fun l => bindArgs (PySem.W.fnOf name qual params body scope .none kV doc pm an cdv ct) ⟨l, []⟩)
    (hbody : ∀ (cdv : Value) (A : Around) (outer : List Env) (s : Shared) (H : Hp) (vs : List V) (Q : VK) (E : XK), Room k (A.deeper (envOfC qual scope s.heap.objs.size f cdv)) → sp vs H Q E →
      ∃ t, PSs (cxOf CX P w K mg base N qual scope f cdv A outer s H E) body t ∧ t { nx := fun _ H' => Q .non H', rt := Q } (start N vs) H) :
    FnR P w K mg base CX (k + 1) f (spStar ps.length sp) := by
  obtain ⟨oc, od, dV, kV, doc, pm, an, cdv, ct, osl, rfl, lk, hcd, hD, _⟩ := F.ex
  rcases hD with ⟨_, rfl⟩ | ⟨e, _⟩
  · exact StX.fn_star lk hcd S hCX (hb kV doc pm an cdv ct) (hbody cdv)
  · exact absurd rfl e
end
end Px

/-! PxTryMany: several except clauses, each with a name. -/
namespace L2
open PySem PySem.Spec PyProof.Rows
/-- what the clauses wish of an exception of the body, one after the other -/
def wAsL (K : PySem.W.Frag) (Wout : WX) (D : Ends) : List (Value × Nat × (Addr → Value → Option Addr → TS)) → WX
  | [] => Wout
  | (c, i, ts) :: r => wAs K c i ts (wAsL K Wout D r) D
inductive HdA (X : Cx) : List ExceptHandler → List (Value × Nat × (Addr → Value → Option Addr → TS)) → Prop
  | nil : HdA X [] []
  | cons {x n : Str} {c : Value} {i : Nat} {ts : Addr → Value → Option Addr → TS} {b₀ : Stmt} {suite : List Stmt} {np pos' : Pos} {hds : List ExceptHandler} {l : List (Value × Nat × (Addr → Value → Option Addr → TS))}
      (hi : X.N[i]? = some n) (hln : X.env.kindOf n = some .local) (hc : Names X x c)
      (hsu : ∀ (a : Addr) (oe : Obj) (cls : Value) (d : Option Addr) (pn : List (Addr × Obj)), Zc cls d oe → (∃ vs, oe.data = .fields vs) → PSs (X.suite a ((a, oe) :: pn)) (b₀ :: suite) (ts a cls d)) (r : HdA X hds l) :
      HdA X (.ExceptHandler (some (.Name x np)) (some n) (b₀ :: suite) pos' :: hds) ((c, i, ts) :: l)
section
variable {X : Cx} {body : List Stmt} {h₀ : ExceptHandler} {hds : List ExceptHandler} {l : List (Value × Nat × (Addr → Value → Option Addr → TS))} {pos : Pos} {tb : WX → TS} {Wout : WX}
theorem ps_try_asL (hs : X.stack = X.env :: X.outer) (hf : X.env.frame = some X.env.locals) (hN : X.N.Nodup) (tk : Takes X Wout)
    (hb : ∀ (W : WX) (pn : List (Addr × Obj)) (xe : Value → Shared → Prop), Takes (X.tr pn xe) W → PassesOwn (model X.prog X.w) X.A X.env xe → PSs (X.tr pn xe) body (tb W))
    (hh : HdA X (h₀ :: hds) l) : PS X (.Try body (h₀ :: hds) [] [] pos) (fun D σ H => tb (wAsL X.K Wout D l) D σ H) := by
  refine ⟨fun pins s σ H D I h => ?_⟩
  have ok := I.ok
  have hfr : X.A.frames = some (X.env :: X.outer) := by rw [ok.frames, hs]
  refine wpAny_Try_except (wpAny_mono ((hb (wAsL X.K Wout D l) (X.pn ++ pins) (fun e s₁ => wpAny (model X.prog X.w) X.A (noteFrame e X.env) (fun _ s₂ => wpAny (model X.prog X.w) X.A (setFlight e none) (fun _ s₃ =>
    wpAny (model X.prog X.w) X.A (handleBy e X.env (h₀ :: hds)) (SP X pins D) X.xe s₃) X.xe s₂) X.xe s₁) (fun u s' xx => ?_) PassesOwn.looking).run [] s σ H D (I.toTry _) h) (fun f s1 hsp => ?_) (fun e s1 he => he))
  · obtain ⟨a, B, sI, pins', σ', H', cls, d, rfl, J', nb, up, sky, na, os, ag, w⟩ := xx
    have J : Inv X pins σ' H' sI := J'.ofTry ok
    have sky' : Sky B (X.env :: X.outer) a (Zc cls d) X.env.locals s'.heap := by rw [← hs]; exact sky
    show wpAny (model X.prog X.w) X.A (noteFrame (.ref a) X.env) _ _ _
    refine Sky.land Zc.steady hfr hf sky' fun h3 fl3 up3 => ?_
    have J3 : Inv X pins σ' H' { s' with heap := h3 } := J.landed nb fl3.1 (up.trans up3) os ag
    obtain ⟨oe3, vs3, he3, hz3, hd3⟩ := fl3.there
    have nfr : a ∉ frs (X.env :: X.outer) := fun hm => by
      obtain ⟨_, o', e', hnf⟩ := fl3.2.2.1.mem hm
      rw [he3] at e'
      cases e'
      exact hnf _ hd3
    have nL : a ≠ X.env.locals := fun z => nfr (List.mem_filterMap.mpr ⟨X.env, List.mem_cons_self, by rw [hf, z]⟩)
    have nF : a ∉ X.fs := fun hm => by
      obtain ⟨e, he, q⟩ := List.mem_filterMap.mp hm
      exact nfr (List.mem_filterMap.mpr ⟨e, List.mem_cons_of_mem _ he, q⟩)
    have S3 := J3.suite he3 hd3 na nL nF
    suffices go : ∀ {hds' : List ExceptHandler} {l' : List (Value × Nat × (Addr → Value → Option Addr → TS))}, HdA X hds' l' → wAsL X.K Wout D l' cls d σ' H' →
        wpAny (model X.prog X.w) X.A (handleBy (.ref a) X.env hds') (SP X pins D) X.xe { s' with heap := h3 } from go hh w
    intro hds' l' hk
    induction hk with
    | nil =>
      intro w
      refine wpAny_handleBy_nil ?_
      obtain ⟨k1, k2, k3, oe, vs, T, oT, ts', he, hz, hd, h1, hr⟩ := id fl3
      unfold PySem.passOn
      refine wpAny_bind (wpAny_field he hd h1 ?_)
      rw [if_neg (show ¬ ((Value.ref T == Value.none) = true) from by simp)]
      have fin : wpAny (model X.prog X.w) X.A (setFlight (.ref a) X.env.frame) (fun _ s4 => wpAny (model X.prog X.w) X.A (throw (.ref a) : Sem Flow) (SP X pins D) X.xe s4) X.xe { s' with heap := h3 } := by
        rw [hf]
        refine HandSPX.setFlight_upZ fl3 fun h4 hh4 up4 => wpAny_throw (tk _ _ ?_)
        exact ⟨a, B, sI, pins, σ', H', cls, d, rfl, J, nb, (up.trans up3).trans up4, .inr (.inr (by rw [hs]; exact hh4)), na, os, ag, w⟩
      first
        | exact wpAny_bind (wpAny_pure (wpAny_bind fin))
        | exact wpAny_bind fin
    | @cons x n c i ts b₀ suite np pos' hds2 l2 hi hln hc hsu r ih =>
      rintro ⟨b, hb1, hyes, hno⟩
      refine wpAny_handleBy_cons (codeAny_handlers_test ?_) (by intro q; cases q)
      have LT : PySem.W.Looks (model X.prog X.w) h3 (typeOf (.ref a)) cls := fun A Q E s k q => wpAny_typeOf_ref (k _ _ he3) (by rw [hz3.1]; exact q)
      have LM := PySem.W.exm_one (M := model X.prog X.w) (J3.kIn) LT hb1
      have test : ∀ {Q : Value → Shared → Prop} {E : Value → Shared → Prop}, Q c { s' with heap := h3 } → wpAny (model X.prog X.w) (X.A.mark (some (.ref a))) (eval (.Name x np) X.env) Q E { s' with heap := h3 } := fun {Q E} q => by
        obtain ⟨hg, hdbg, hm | ⟨hm, hv, hnn⟩⟩ := hc
        · exact ld_glob (X := X.suite a ((a, oe3) :: (X.pn ++ pins))) S3 hg hm q hdbg
        · exact ld_blt (X := X.suite a ((a, oe3) :: (X.pn ++ pins))) S3 hg hm hv q hnn hdbg
      refine test (LM.here ?_)
      cases b with
      | false =>
        show wpAny _ X.A (handleBy (.ref a) X.env hds2) _ _ _
        exact ih (hno rfl)
      | true =>
        refine codeAny_handlers_suite_as (HandSPX.lands_againZ fl3 fun h4 fl4 up4 => ?_)
        have J4 : Inv X pins σ' H' { s' with heap := h4 } := J.landed nb fl4.1 ((up.trans up3).trans up4) os ag
        obtain ⟨oe4, vs4, he4, hz4, hd4⟩ := fl4.there
        have S4 := J4.suite he4 hd4 na nL nF
        refine store_ok (X := X.suite a ((a, oe4) :: (X.pn ++ pins))) (v := .ref a) S4 hN hi (.inl hln) rfl (fun s5 S5 => ?_) (.inr hln)
        refine wpAny_mono ((hsu a oe4 cls d (X.pn ++ pins) hz4 ⟨_, hd4⟩).run [] s5 _ H' _ S5 (hyes rfl a na)) (fun f s6 hsp => ?_) (fun _ _ z => False.elim z)
        have end_ : ∀ {σ6 : St} {H6 : Hp} {Q : Shared → Prop}, Inv (X.suite a ((a, oe4) :: (X.pn ++ pins))) [] σ6 H6 s6 → (∀ s7, Inv X pins (σ6.set i none) H6 s7 → Q s7) →
            wpAny (model X.prog X.w) X.A (do bindName X.env n .none; unbindBehindTheSuite X.env n pos') (fun _ s7 => Q s7) X.xe s6 := fun {σ6 H6 Q} S6 hq => gone_ok (S6.unsuite ok) hN hi hln hq
        cases f with
        | next =>
          obtain ⟨σ6, H6, S6, q6⟩ := hsp
          exact end_ S6 fun s7 J7 => ⟨_, _, J7, q6⟩
        | brk =>
          obtain ⟨σ6, H6, S6, q6⟩ := hsp
          exact end_ S6 fun s7 J7 => ⟨_, _, J7, q6⟩
        | cont =>
          obtain ⟨σ6, H6, S6, q6⟩ := hsp
          exact end_ S6 fun s7 J7 => ⟨_, _, J7, q6⟩
        | ret u =>
          obtain ⟨v6, σ6, H6, S6, r6, q6⟩ := hsp
          exact end_ S6 fun s7 J7 => ⟨_, _, _, J7, r6, q6⟩
  · cases f with
    | next =>
      obtain ⟨σ', H', J', q⟩ := hsp
      exact wpAny_execs_nil ⟨σ', H', J'.ofTry ok, q⟩
    | brk =>
      obtain ⟨σ', H', J', q⟩ := hsp
      exact ⟨σ', H', J'.ofTry ok, q⟩
    | cont =>
      obtain ⟨σ', H', J', q⟩ := hsp
      exact ⟨σ', H', J'.ofTry ok, q⟩
    | ret u =>
      obtain ⟨v, σ', H', J', r, q⟩ := hsp
      exact ⟨v, σ', H', J'.ofTry ok, r, q⟩
end
end L2

/-! PxMakeS: C(e, .., k = v, ..) within a try: what __init__ lets out is told of the slots -/
namespace Px
open PySem PySem.Spec PyProof.Rows L2
def tMakeKS (C : Addr) (n m : Nat) (sp : Sp) (gV : List V → List V → List V) (E : L2.St → XK) (t tk : TA) : TE := fun σ H Q => tMakeK C n m sp gV (E σ) t tk σ H Q
section
variable {X : Cx} {CX : CXT} {k n : Nat} {f C : Addr} {fd : FuncData} {ps ks : List Str} {sp : Sp} {x : Str} {p pos : Pos} {e : Expr} {es : List Expr} {kws : List Keyword} {t tk : TA} {g : List Value → List Value → List Value} {gV : List V → List V → List V}
theorem run_makeKS {pins : List (Addr × Obj)} {σ : L2.St} {H : Hp} {s : Shared} {Q : VK} {us ws : List Value} {vs zs : List V} {E : XK} (M : Mk X.K C f) (F : FnOk X.prog X.w X.K X.mg X.base CX k f fd ps sp) (hr : Room (k + 1) X.A) (hb : KBn X.K fd ps (n + 1) ks g gV) (hx : PassesAt CX X σ E)
    (I : Inv X pins σ H s) (r : Vals vs us) (rz : Vals zs ws) (l1 : vs.length = n) (l2 : zs.length = ks.length)
    (h : ∀ x dx, H x = none → H dx = none → dx ≠ x → sp (gV (.ref x :: vs) zs) (upd (upd H dx (.own x)) x (.ins C dx [])) (fun v H2 => v = .non ∧ Q (.ref x) H2) E) :
    wpAny (model X.prog X.w) X.A (call (.ref C) us (ks.zip ws)) (EP X pins σ Q) X.xe s := by
  have hq := h (s.heap.objs.size + 1) s.heap.objs.size (I.hok.fresh (Nat.le_succ _)) (I.hok.fresh (Nat.le_refl _)) (Nat.ne_of_lt (Nat.lt_succ_self _))
  have I2 := Inv.made (C := C) I
  have r1 : Vals (V.ref (s.heap.objs.size + 1) :: vs) (Value.ref (s.heap.objs.size + 1) :: us) := .cons rfl r
  have n1 : (Value.ref (s.heap.objs.size + 1) :: us).length = n + 1 := by rw [List.length_cons, ← r.length, l1]
  refine wpAny_call (make_map (f := f) I.kIn M.makes M.init (beq_iff_eq.mp M.fn) (codeAny_mono (F.run _ X.stack _ _ ⟨Value.ref (s.heap.objs.size + 1) :: us, ks.zip ws⟩ (g (Value.ref (s.heap.objs.size + 1) :: us) ws) _ _ E (hr.make C us (ks.zip ws))
    (I2.env0.make C us (ks.zip ws)) (hb.to _ (Value.ref (s.heap.objs.size + 1) :: us) ws I2.kIn n1 (rz.length.symm.trans l2)) (hb.rel r1 rz) hq) fun r s' hq' => ?_))
  cases r with
  | error e => exact hx pins _ _ e s' I2 hq'
  | ok fl =>
    cases fl with
    | ret u =>
      obtain ⟨v, H', I3, rv, ev, q3⟩ := I2.after hq'
      subst ev
      exact ⟨rv, ⟨V.ref (s.heap.objs.size + 1), H', I3, rfl, q3⟩⟩
    | next => exact False.elim hq'
    | brk => exact False.elim hq'
    | cont => exact False.elim hq'
theorem pe_makeKS {E : L2.St → XK} (M : Mk X.K C f) (F : FnOk X.prog X.w X.K X.mg X.base CX k f fd ps sp) (hr : Room (k + 1) X.A) (hg : Gl X x) (hm : X.mg x = some (.ref C)) (hb : KBn X.K fd ps (n + 1) ks g gV) (hx : ∀ σ, PassesAt CX X σ (E σ)) (ha : PA X (e :: es) t) (hkw : PK X kws tk)
    (hall : (backToKw pos (keywordEach kws X.env)).all (·.1.isSome) = true := by rfl) (hks : (backToKw pos (keywordEach kws X.env)).filterMap (·.1) = ks := by rfl) (hdb : (x == ("__debug__" : Str)) = false := by decide)
    (he : starEach (e :: es) X.env = (false, eval e X.env) :: starEach es X.env := by rfl) (hpl : ((backTo pos (starEach (e :: es) X.env)).any (·.1) || (backToKw pos (keywordEach kws X.env)).any (·.1.isNone)) = false := by rfl) :
    PE X (.Call (.Name x p) (e :: es) kws pos) (tMakeKS C n ks.length sp gV E t tk) := by
  refine ⟨fun pins s σ H Q I h => ?_⟩
  refine wpAny_Call_Name_kw (ld_glob I hg hm ?_ hdb)
  refine PySem.W.callWith_KW (h₀ := X.base) I.ok.mod.kin M.kp hall (thn (ha.run pos pins s σ H _ I h) fun us s1 ⟨vs, H1, I1, r, q⟩ => ?_) hpl he
  refine thn (hkw.run pos pins s1 σ H1 _ I1 q) fun ws s2 ⟨zs, H2, I2, rz, l1, l2, q2⟩ => ⟨I2.kIn, ?_⟩
  rw [hks]
  exact run_makeKS M F hr hb (hx σ) I2 r rz l1 l2 q2
end
end Px

/-! PxIsXT: isinstance(e, (c1, c2, ..)), e the exception that the suite holds -/
namespace Px
open PySem PySem.Spec PyProof.Rows L2
def rIsXT (K : PySem.W.Frag) (a : Addr) (cls : Value) (d : Option Addr) : List V → Hp → VK → Prop := fun xs H Q => ∃ (D tp : Addr) (cs : List V) (us : List Value) (b : Bool), xs = [.ref a, .ref tp] ∧ H tp = some (.tup cs) ∧ Paired ClsV cs us ∧ cls = .ref D ∧ ExcA K D ∧ (d = none ∨ ∃ dd fs, d = some dd ∧ H dd = some (.xd fs)) ∧ PySem.W.kitAny K (.ref D) us = some b ∧ Q (.bl b) H
theorem call_isXT {X : Cx} {a : Addr} {cls : Value} {d : Option Addr} {oe : Obj} {pn : List (Addr × Obj)} (hz : Zc cls d oe) (hf : ∃ vs, oe.data = .fields vs) : CallR (X.suite a ((a, oe) :: pn)) (.builtin "isinstance") (rIsXT X.K a cls d) := by
  intro pins s σ H xs us Q I r h
  obtain ⟨D, tp, cs, ws, b, rfl, hT, k, rfl, C, hd, e, q⟩ := h
  obtain ⟨u1, u2, rfl, r1, r2⟩ := vals2 r
  obtain rfl : u1 = Value.ref a := r1
  cases (show u2 = Value.ref tp from r2)
  obtain ⟨hget, _⟩ := I.pin (a, oe) (List.mem_append.mpr (.inl List.mem_cons_self))
  obtain ⟨vs, hv⟩ := hf
  have J : ∃ od, PySem.W.InstAt s.heap a oe D od := by
    rcases hd with rfl | ⟨dd, fs, rfl, hdd⟩
    · exact ⟨none, hget, hz.1, by unfold PySem.W.notCls; rw [hv] <;> rfl, by rw [hz.2]; trivial⟩
    · have hx : ObjOk X.prog X.w H s.heap dd (.xd fs) := I.hok dd _ hdd
      obtain ⟨mA, hns, hr⟩ := hx
      obtain ⟨od, ho, hl⟩ := lookIn_ns hns
      exact ⟨some od, hget, hz.1, by unfold PySem.W.notCls; rw [hv] <;> rfl, by rw [hz.2]; exact ho⟩
  obtain ⟨od, J⟩ := J
  have hcl : (PySem.W.clsIn X.K D).isSome = true := by
    have := C.xf.hdC
    unfold PySem.W.hasDictIn at this
    cases z : PySem.W.clsIn X.K D with
    | none => rw [z] at this; cases this
    | some _ => rfl
  obtain ⟨_, its, rv, o, h1, h2, n, h3⟩ := (show ObjOk X.prog X.w H s.heap tp (.tup cs) from I.hok tp _ hT)
  have e3 := ClsV.all k rv
  subst e3
  obtain ⟨oc, odd, dt, sl⟩ := o
  simp only at h2 h3
  subst h2 h3
  exact PySem.W.kia_tup (PySem.W.kitx_exc hcl C.xf.ga C.xf.gg C.xf.exC C.ha C.hn C.ht C.hm) I.kIn J h1 e (fun z => nomatch z) fun tk => ⟨.bl b, H, I.kept (t' := tk) fun _ _ z => z, rfl, q⟩
end Px

/-! PxOwnEq: o == v, o != v by o's own __eq__, v of any kind; repr(o) by o's own __repr__ -/
namespace Px
open PySem PySem.Spec PyProof.Rows L2 ClX
section
variable {prog : Program} {w : World} {A : Around} {E : Value → Shared → Prop} {s : Shared} {K : PySem.W.Frag} {x C f : Addr} {ox : Obj} {od : Option Obj} {b t : Value}
/-- the right one's class is the left one's, or none under it -/
def RightLast (K : PySem.W.Frag) (C : Addr) (t : Value) : Prop := t = .ref C ∨ PySem.W.kitOne K t (.ref C) = some false
theorem RightLast.sub {h : Heap} {M : Model} (X : K.In h) (r : RightLast K C t) : t = .ref C ∨ ((Value.ref C != t) = true ∧ PySem.W.Looks M h (isSubtype t (.ref C)) false) := by
  rcases r with r | r
  · exact .inl r
  · refine .inr ?_
    unfold PySem.W.kitOne at r
    by_cases q : (t == Value.ref C) = true
    · rw [if_pos q] at r
      cases r
    · rw [if_neg q] at r
      refine ⟨?_, (PySem.W.kit_cls X r).2.2⟩
      by_cases z : Value.ref C = t
      · rw [← z] at q
        exact absurd (by simp) q
      · simpa using z
theorem rc_eqOwn {Q : Value → Shared → Prop} (hu : A.units < cLine) (X : K.In s.heap) (I : PySem.W.InstAt s.heap x ox C od) (hb : PySem.W.Looks (model prog w) s.heap (typeOf b) t) (ht : RightLast K C t)
    (hs : PySem.W.findIn K (.ref C) "__eq__" = some (some (.ref f))) (hf : PySem.W.isFn K (.ref f) = true)
    (h : wpAny (model prog w) A (call (.ref f) [.ref x, b]) (fun v s' => ∃ r, v = .bool r ∧ Q (.bool r) s') E s) : wpAny (model prog w) A (richCompare .Eq (.ref x) b) Q E s := by
  have one : wpAny (model prog w) A (tryCompare (.ref x) "__eq__" b) (fun r s' => ∃ v, r = some v ∧ Q v s') E s := by
    unfold tryCompare
    refine wpAny_bind (PySem.W.ifBound_K X I hs hf (wpAny_mono h (fun v s' hv => ?_) fun _ _ e => e))
    obtain ⟨r, rfl, hq⟩ := hv
    exact wpAny_pure ⟨_, rfl, hq⟩
  unfold richCompare
  simp only [oneThing_ref]
  refine wpAny_holding (wpAny_bind (wpAny_cRoomFor hu ?_))
  refine wpAny_bind (I.type.here (wpAny_bind (hb.here ?_)))
  rw [cmpInfo_Eq]
  rcases ht.sub (M := model prog w) X with rfl | ⟨q, hsub⟩
  · rw [show (Value.ref C != Value.ref C) = false from by simp]
    simp only [Bool.false_eq_true, if_false]
    refine wpAny_bind (wpAny_pure ?_)
    simp only [Bool.false_eq_true, if_false]
    refine wpAny_bind (wpAny_mono one (fun r s' z => ?_) fun _ _ e => e)
    obtain ⟨v, rfl, hq⟩ := z
    exact wpAny_pure hq
  · rw [q]
    simp only [if_true]
    refine wpAny_bind (hsub.here ?_)
    simp only [Bool.false_eq_true, if_false]
    refine wpAny_bind (wpAny_mono one (fun r s' z => ?_) fun _ _ e => e)
    obtain ⟨v, rfl, hq⟩ := z
    exact wpAny_pure hq
theorem rc_neOwnA {Q : Value → Shared → Prop} (hu : A.units + 1 < cLine) (X : K.In s.heap) (I : PySem.W.InstAt s.heap x ox C od) (hb : PySem.W.Looks (model prog w) s.heap (typeOf b) t) (ht : RightLast K C t) (N : NeC K C)
    (hs : PySem.W.findIn K (.ref C) "__eq__" = some (some (.ref f))) (hf : PySem.W.isFn K (.ref f) = true)
    (h : wpAny (model prog w) A.in1 (call (.ref f) [.ref x, b]) (fun v s' => ∃ r, v = .bool r ∧ Q (.bool (!r)) s') E s) : wpAny (model prog w) A (richCompare .NotEq (.ref x) b) Q E s := by
  have sub : PySem.W.Looks (model prog w) s.heap (isInstance (.ref x) (.type "object")) true := I.type.andThen (PySem.W.looks_mroIn X N.ob)
  have one : wpAny (model prog w) A (tryCompare (.ref x) "__ne__" b) (fun r s' => ∃ v, r = some v ∧ Q v s') E s := by
    unfold tryCompare
    refine wpAny_bind (ifBound_B X I N.ne PySem.F.cmp_object.ne (wpAny_call (codeAny_call_builtin PySem.F.cmp_object.ne.plain PySem.F.cmpEntry_ne
      (PySem.W.check_slot PySem.F.cmpKind_ne PySem.F.cmpSplit_ne sub (PySem.F.cmpArgs_ne _ _) (objNe_own (A := A.in1) X I hs hf hu (wpAny_mono h (fun v s' hv => ?_) fun _ _ e => e))))))
    obtain ⟨r, rfl, hq⟩ := hv
    exact ⟨r, rfl, wpAny_pure ⟨_, rfl, hq⟩⟩
  unfold richCompare
  simp only [oneThing_ref]
  refine wpAny_holding (wpAny_bind (wpAny_cRoomFor (Nat.lt_of_succ_lt hu) ?_))
  refine wpAny_bind (I.type.here (wpAny_bind (hb.here ?_)))
  rw [cmpInfo_NotEq]
  rcases ht.sub (M := model prog w) X with rfl | ⟨q, hsub⟩
  · rw [show (Value.ref C != Value.ref C) = false from by simp]
    simp only [Bool.false_eq_true, if_false]
    refine wpAny_bind (wpAny_pure ?_)
    simp only [Bool.false_eq_true, if_false]
    refine wpAny_bind (wpAny_mono one (fun r s' z => ?_) fun _ _ e => e)
    obtain ⟨v, rfl, hq⟩ := z
    exact wpAny_pure hq
  · rw [q]
    simp only [if_true]
    refine wpAny_bind (hsub.here ?_)
    simp only [Bool.false_eq_true, if_false]
    refine wpAny_bind (wpAny_mono one (fun r s' z => ?_) fun _ _ e => e)
    obtain ⟨v, rfl, hq⟩ := z
    exact wpAny_pure hq
end
/-- the right one: of the class at C, or of a class that is not under it -/
def RightV (K : PySem.W.Frag) (C : Addr) (H : Hp) (y : V) : Prop := (∃ b dy gs, y = .ref b ∧ H b = some (.ins C dy gs)) ∨ ∃ t, TyX K H y t ∧ PySem.W.kitOne K t (.ref C) = some false
theorem RightV.looks {X : Cx} {pins : List (Addr × Obj)} {σ : L2.St} {H : Hp} {s : Shared} {C : Addr} {y : V} {u : Value} (I : Inv X pins σ H s) (ry : RelV y u) (r : RightV X.K C H y) : ∃ t, RightLast X.K C t ∧ PySem.W.Looks (model X.prog X.w) s.heap (typeOf u) t := by
  rcases r with ⟨b, dy, gs, rfl, hb⟩ | ⟨t, ty, k⟩
  · cases ry
    obtain ⟨mB, J, _⟩ := ins_get I.hok hb
    obtain ⟨od, J, _⟩ := J.look
    exact ⟨_, .inl rfl, J.type⟩
  · obtain ⟨P, Z, p, _⟩ := kit_of I ry ty
    exact ⟨t, .inr k, Z.ty _ _ I.kIn p⟩
def rEqOwnA (K : PySem.W.Frag) (C : Addr) (sp : Sp) (E : XK) : R2 := fun x y H Q => ∃ a dx fs, x = .ref a ∧ H a = some (.ins C dx fs) ∧ RightV K C H y ∧ sp [.ref a, y] H (fun v H' => ∃ k, v = .bl k ∧ Q (.bl k) H') E
def rNeOwnA (K : PySem.W.Frag) (C : Addr) (sp : Sp) (E : XK) : R2 := fun x y H Q => ∃ a dx fs, x = .ref a ∧ H a = some (.ins C dx fs) ∧ RightV K C H y ∧ sp [.ref a, y] H (fun v H' => ∃ k, v = .bl k ∧ Q (.bl (!k)) H') E
section
variable {X : Cx} {CX : CXT} {k : Nat} {C f : Addr} {fd : FuncData} {ps : List Str} {sp : Sp} {E : XK}
theorem op_eqOwnA (F : FnOk X.prog X.w X.K X.mg X.base CX k f fd ps sp) (hr : Room k X.A) (D : Meth X.K C "__eq__" f) (hb : Binds X.K fd ps []) (hx : Passes CX X E) : OpR X (compareOp .Eq) (rEqOwnA X.K C sp E) := by
  intro pins s σ H x y v u Q I rx ry hq
  obtain ⟨a, dx, fs, rfl, ha, hR, q⟩ := hq
  cases rx
  obtain ⟨mA, J, _⟩ := ins_get I.hok ha
  obtain ⟨od, J, _⟩ := J.look
  obtain ⟨t, hL, hT⟩ := hR.looks I ry
  show wpAny (model X.prog X.w) X.A (richCompare .Eq (.ref a) u) _ _ _
  refine rc_eqOwn hr.units0 I.kIn J hT hL D.at_ D.fn ?_
  have hl := F.len _ _ _ _ q
  have r2 : Vals [V.ref a, y] [Value.ref a, u] := .cons rfl (.cons ry .nil)
  refine wpAny_call (codeAny_mono (F.run X.A X.stack s H ⟨[.ref a, u], []⟩ [.ref a, u] [.ref a, y] _ E hr I.env0 (by
    have := hb s [.ref a, u] I.kIn (by simpa using hl)
    simpa using this) r2 q) fun r s' hq => ?_)
  cases r with
  | error e => exact hx pins σ H s e s' I hq
  | ok fl =>
    cases fl with
    | ret w =>
      obtain ⟨z, H', I', rz, n, ez, q'⟩ := I.after hq
      subst ez
      cases rz
      exact ⟨n, rfl, .bl n, H', I', rfl, q'⟩
    | next => exact False.elim hq
    | brk => exact False.elim hq
    | cont => exact False.elim hq
theorem op_neOwnA (F : FnOk X.prog X.w X.K X.mg X.base CX k f fd ps sp) (hr : Room (k + 1) X.A) (N : NeC X.K C) (D : Meth X.K C "__eq__" f) (hb : Binds X.K fd ps []) (hx : Passes CX X E) : OpR X (compareOp .NotEq) (rNeOwnA X.K C sp E) := by
  intro pins s σ H x y v u Q I rx ry hq
  obtain ⟨a, dx, fs, rfl, ha, hR, q⟩ := hq
  cases rx
  obtain ⟨mA, J, _⟩ := ins_get I.hok ha
  obtain ⟨od, J, _⟩ := J.look
  obtain ⟨t, hL, hT⟩ := hR.looks I ry
  show wpAny (model X.prog X.w) X.A (richCompare .NotEq (.ref a) u) _ _ _
  refine rc_neOwnA (hr.in1).units0 I.kIn J hT hL N D.at_ D.fn ?_
  have hl := F.len _ _ _ _ q
  have r2 : Vals [V.ref a, y] [Value.ref a, u] := .cons rfl (.cons ry .nil)
  refine wpAny_call (codeAny_mono (F.run X.A.in1 X.stack s H ⟨[.ref a, u], []⟩ [.ref a, u] [.ref a, y] _ E hr.in1 I.env0.in1 (by
    have := hb s [.ref a, u] I.kIn (by simpa using hl)
    simpa using this) r2 q) fun r s' hq => ?_)
  cases r with
  | error e => exact hx pins σ H s e s' I hq
  | ok fl =>
    cases fl with
    | ret w =>
      obtain ⟨z, H', I', rz, n, ez, q'⟩ := I.after hq
      subst ez
      cases rz
      exact ⟨n, rfl, .bl (!n), H', I', rfl, q'⟩
    | next => exact False.elim hq
    | brk => exact False.elim hq
    | cont => exact False.elim hq
end
end Px

/-! PxOwnRepr: repr(o) by o's own __repr__ -/
namespace Px
open PySem PySem.Spec PyProof.Rows L2
section
variable {prog : Program} {w : World} {A : Around} {E : Value → Shared → Prop} {s : Shared} {K : PySem.W.Frag} {x C f : Addr} {ox : Obj} {od : Option Obj}
theorem repr_ownK {Q : Value → Shared → Prop} (X : K.In s.heap) (I : PySem.W.InstAt s.heap x ox C od) (hu : A.in1.units < cLine) (hs : PySem.W.findIn K (.ref C) "__repr__" = some (some (.ref f))) (hf : PySem.W.isFn K (.ref f) = true)
    (h : wpAny (model prog w) A.in1 (call (.ref f) [.ref x]) (fun r s' => ∃ m tk, r = .str m tk ∧ Q (.str m tk) s') E s) : wpAny (model prog w) A (call (.builtin "repr") [.ref x]) Q E s := by
  refine Calls.call_function_entry F.kind_repr F.plain_repr F.entry_repr (F.args_repr1 _) ?_
  unfold Builtin.«repr»
  refine wpAny_bind (m := oneArg "repr" _) (wpAny_pure ?_)
  refine wpAny_bind (wpAny_cRoomFor hu ?_)
  unfold specialOf
  refine wpAny_bind (wpAny_bind (I.type.here ((PySem.W.looks_findIn X hs).here ?_)))
  show wpAny _ _ (if (some (Value.ref f)).isNone = true then _ else _) _ _ _
  rw [if_neg (by simp)]
  refine wpAny_bind (m := callSpecialIfBound? (.ref x) (Str.ofString "__repr__") _) (PySem.W.ifBound_K X I hs hf (wpAny_mono h (fun r s' hr => ?_) fun _ _ y => y))
  obtain ⟨m, tk, rfl, hq⟩ := hr
  refine wpAny_bind (wpAny_isInstance (typeIs_str _ _ _) isSubtype_str_str ?_)
  first
    | exact wpAny_pure ⟨_, rfl, hq⟩
    | (rw [if_pos rfl]; exact wpAny_pure ⟨_, rfl, hq⟩)
    | (simp only [if_true]; exact wpAny_pure ⟨_, rfl, hq⟩)
end
def rReprOwn (C : Addr) (sp : Sp) (E : XK) : List V → Hp → VK → Prop := fun xs H Q => ∃ a dx fs, xs = [.ref a] ∧ H a = some (.ins C dx fs) ∧ sp [.ref a] H (fun v H' => ∃ z : Str, v = .str z ∧ Q (.str z) H') E
section
variable {X : Cx} {CX : CXT} {k : Nat} {C f : Addr} {fd : FuncData} {ps : List Str} {sp : Sp} {E : XK}
theorem call_reprOwn (F : FnOk X.prog X.w X.K X.mg X.base CX k f fd ps sp) (hr : Room (k + 1) X.A) (D : Meth X.K C "__repr__" f) (hb : Binds X.K fd ps []) (hx : Passes CX X E) : CallR X (.builtin "repr") (rReprOwn C sp E) := by
  intro pins s σ H xs us Q I r h
  obtain ⟨a, dx, fs, rfl, ha, q⟩ := h
  obtain ⟨u, rfl, ru⟩ := vals1 r
  obtain rfl : u = Value.ref a := ru
  obtain ⟨mA, J, _⟩ := ins_get I.hok ha
  obtain ⟨od, J, _⟩ := J.look
  refine repr_ownK I.kIn J hr.in1.units0 D.at_ D.fn ?_
  have hl := F.len _ _ _ _ q
  have r2 : Vals [V.ref a] [Value.ref a] := .cons rfl .nil
  refine wpAny_call (codeAny_mono (F.run X.A.in1 X.stack s H ⟨[.ref a], []⟩ [.ref a] [.ref a] _ E hr.in1 I.env0.in1 (by
    have := hb s [.ref a] I.kIn (by simpa using hl)
    simpa using this) r2 q) fun r s' hq => ?_)
  cases r with
  | error e => exact hx pins σ H s e s' I hq
  | ok fl =>
    cases fl with
    | ret w =>
      obtain ⟨z, H', I', rz, n, ez, q'⟩ := I.after hq
      subst ez
      obtain ⟨t, rfl⟩ := rz
      exact ⟨n, t, rfl, .str n, H', I', ⟨_, rfl⟩, q'⟩
    | next => exact False.elim hq
    | brk => exact False.elim hq
    | cont => exact False.elim hq
theorem op_notInOwn (F : FnOk X.prog X.w X.K X.mg X.base CX k f fd ps sp) (hr : Room k X.A) (D : Meth X.K C "__contains__" f) (hb : Binds X.K fd ps []) (hx : Passes CX X E) : OpR X (compareOp .NotIn) (rInOwn C sp E fun b => !b) := by
  intro pins s σ H x y v u Q I rx ry h
  obtain ⟨a, dx, fs, rfl, ha, q⟩ := h
  cases (show u = Value.ref a from ry)
  show wpAny _ _ (contains (.ref a) v >>= fun b => pure (Value.bool (!b))) _ _ _
  refine wpAny_bind (wpAny_mono (contains_ok F hr D hb hx I rx ha (Q := fun r H' => Q (.bl (!r)) H') q) (fun r s' z => ?_) fun _ _ e => e)
  obtain ⟨H', I', q'⟩ := z
  exact wpAny_pure ⟨.bl (!r), H', I', rfl, q'⟩
end
end Px

/-! PxInsNo: values of the kinds that a law names are no instances of an own class -/
namespace Px
open PySem PySem.Spec PyProof.Rows L2
def NoC (K : PySem.W.Frag) (C : Addr) : Prop := ∀ t ∈ ["int", "bool", "str", "NoneType", "list", "tuple"], PySem.W.kitOne K (.type t) (.ref C) = some false
def fNo (C : Str) : Fact := fun K => ["int", "bool", "str", "NoneType", "list", "tuple"].all fun t => decide (PySem.W.kitOne K (.type t) (.ref (He.ga K C)) = some false)
theorem fNo_ok {C : Str} {K : PySem.W.Frag} (h : fNo C K = true) : NoC K (He.ga K C) := fun t ht => of_decide_eq_true (List.all_eq_true.mp h t ht)
theorem Kd.mem {H : Hp} {v : V} {t : String} (k : Kd H v t) : t ∈ ["int", "bool", "str", "NoneType", "list", "tuple"] := by
  cases k <;> simp
theorem RightV.kd {K : PySem.W.Frag} {C : Addr} {H : Hp} {v : V} {t : String} (n : NoC K C) (k : Kd H v t) : RightV K C H v := .inr ⟨_, .base k.ty, n t k.mem⟩
theorem r_isNo {K : PySem.W.Frag} {C : Addr} {H : Hp} {Q : VK} {v : V} {t : String} (n : NoC K C) (k : Kd H v t) (h : Q (.bl false) H) : rIsi K [v, .ref C] H Q := r_isi (.own C) (.base k.ty) (n t k.mem) h
end Px

namespace Px
open PySem PySem.Spec PyProof.Rows L2
/-! ### text * number, longer texts -/
def rMulT : R2 := fun x y H Q => ∃ (a : Str) (n : Nat), x = .str a ∧ y = .int n ∧ a.length ≤ 1000 ∧ n ≤ 100 ∧ Q (.str (strRep a n)) H
theorem op_mulT {X : Cx} : OpR X (binaryOp .Mult) rMulT := by
  intro pins s σ H x y v u Q I rx ry h
  obtain ⟨a, n, rfl, rfl, ha, hn, q⟩ := h
  obtain ⟨t, rfl⟩ := rx
  obtain ⟨t2, rfl⟩ := ry
  have dv : 1000 ≤ (2 ^ 63 - 1 : Int) / (1000 : Int) := by decide
  refine PySem.P.mul_str (by
    rw [decide_eq_false (by omega), decide_eq_false (by omega)]; rfl) (fun h1 _ z => ?_) (fun h1 _ => ?_) ?_
  · have h3 : (1000 : Int) ≤ (2 ^ 63 - 1) / (n : Int) := (Int.le_ediv_iff_mul_le (by omega)).mpr (by omega)
    omega
  · unfold Builtin.Str.tooLong
    rw [Int.toNat_natCast]
    refine decide_eq_false ?_
    have : a.length * n ≤ 1000 * 100 := Nat.mul_le_mul ha hn
    have := sizeLine_eq
    omega
  by_cases h1 : (n : Int) < 1
  · rw [if_pos h1]
    have e : n = 0 := by omega
    subst e
    exact ⟨by decide, ⟨.str (strRep a 0), H, I.tok _, ⟨_, rfl⟩, q⟩⟩
  · rw [if_neg h1]
    by_cases h2 : ((n : Int) == 1 || a.length == 0) = true
    · rw [if_pos h2]
      have e : strRep a n = a := by
        unfold strRep
        rcases Bool.or_eq_true_iff.mp h2 with z | z
        · have z := beq_iff_eq.mp z
          have : n = 1 := by omega
          subst this
          simp
        · have z : a.cps.size = 0 := beq_iff_eq.mp z
          have : a.cps = #[] := Array.eq_empty_of_size_eq_zero z
          have e2 : a = ⟨#[]⟩ := by
            show a = _
            rw [← this]
          rw [e2]
          simp
      rw [e] at q
      exact ⟨.str a, H, I, ⟨_, rfl⟩, q⟩
    · rw [if_neg h2]
      have e : (⟨(List.replicate (Int.toNat n) a.cps).foldl (· ++ ·) #[]⟩ : Str) = strRep a n := by
        rw [rep_fold, Int.toNat_natCast]
        unfold strRep
        simp
      rw [e]
      refine ⟨?_, ⟨.str (strRep a n), H, I.tok _, ⟨_, rfl⟩, q⟩⟩
      unfold strRep
      show (List.replicate n a.cps.toList).flatten.toArray.size ≤ sizeLine
      have : a.cps.toList.length ≤ 1000 := by rw [Array.length_toList]; exact ha
      simp only [List.size_toArray, List.length_flatten, List.map_replicate, List.sum_replicate_nat]
      have h5 : n * a.cps.toList.length ≤ 100 * 1000 := Nat.mul_le_mul hn this
      rw [sizeLine_eq]
      omega
end Px

/-! PxLam: a lambda without parameters kept as a value, and handed to a def that calls it -/
namespace Px
open PySem PySem.Spec PyProof.Rows L2 LamX NdefX
/-- a made lambda: its words, the cells that it captured, its code object -/
structure LF where
  qual : Str
  params : Arguments
  body : Expr
  scope : Scope
  cl : List (Str × Addr)
  c : Addr
abbrev LF.obj (F : LF) (pm ctv : Value) : Obj := PySem.W.kla_obj "<lambda>" F.qual F.params F.body F.scope F.cl pm F.c ctv
/-- the object at f is the lambda F; G: what is known of it -/
def LamO (f : Addr) (F : LF) (G : Prop) : HO := .ext fun h => (∃ pm ctv : Value, h.get? f = some (F.obj pm ctv)) ∧ G
theorem lamO_ne {f : Addr} {F : LF} {G : Prop} (ps : Array Value) : LamO f F G ≠ .tbl ps := fun z => by
  unfold LamO at z
  cases z
theorem lamO_at {P : Program} {w : World} {H : Hp} {h : Heap} {f : Addr} {F : LF} {G : Prop} (hok : HOk P w H h) (e : H f = some (LamO f F G)) : (∃ pm ctv : Value, h.get? f = some (F.obj pm ctv)) ∧ G := by
  obtain ⟨z, _, _⟩ := hok f _ e
  exact z
section
variable {X : Cx} {pins : List (Addr × Obj)} {σ : L2.St} {H HZ : Hp} {s s1 : Shared}
/-- a lambda just made is known from now on -/
theorem inv_lam {F : LF} {G : Prop} {o : Obj} {t' : Nat} {pm ctv : Value} (g : G) (I : Inv X pins σ H s) (ho : o = F.obj pm ctv) :
    Inv X pins σ (upd H s.heap.objs.size (LamO s.heap.objs.size F G)) { s with heap := s.heap.push o, toks := t' } := by
  subst ho
  refine I.laid (a := s.heap.objs.size) (fun b u e => Heap.get?_push_of_some _ e) (Nat.le_refl _) ?_
  have e : (s.heap.push (F.obj pm ctv)).get? s.heap.objs.size = some (F.obj pm ctv) := Heap.get?_push_size _ rfl
  exact ⟨⟨⟨pm, ctv, e⟩, g⟩, ⟨_, e⟩, fun h1 h2 ⟨⟨p, t, z⟩, g⟩ st => ⟨⟨p, t, st _ z⟩, g⟩⟩
abbrev lfOf (X : Cx) (params : Arguments) (body : Expr) (scope : Scope) (c' : Addr) : LF := ⟨X.env.qual ++ "<lambda>", params, body, scope, cloFrom X.env.cells scope.names [], c'⟩
/-- the table with one code object more -/
abbrev more (H : Hp) (P c' : Addr) (q : Str) (pos : Pos) (ps : Array Value) : Hp := upd (upd H P (.tbl (ps ++ #[rawInt pos.line, rawInt pos.col, .ref c']))) c' (CodeO c' q)
theorem more_ext {P c' : Addr} {q : Str} {pos : Pos} {ps : Array Value} (hP : H P = some (.tbl ps)) (nC : H c' = none) : ExtN H (more H P c' q pos ps) := fun b o e n => by
  have n1 : b ≠ c' := ne_of_none e nC
  have n2 : b ≠ P := fun z => by
    rw [z, hP] at e
    exact n ps (Option.some.inj e).symm
  exact ((upd_ne n1).trans (upd_ne n2)).trans e
theorem more_tabs {T : List (Addr × Str)} {P c' : Addr} {q : Str} {pos : Pos} {ps : Array Value} (hT : Tabs T H) (hP : H P = some (.tbl ps)) (ok : TriplesOk ps.toList) (nC : H c' = none) (hu : ∀ p ∈ T, p.1 = P → p.2 = q) : Tabs T (more H P c' q pos ps) := by
  have ext := more_ext (q := q) (pos := pos) hP nC
  intro p hp
  obtain ⟨ps', a1, a2, a3⟩ := hT p hp
  have old : ∀ (p' : Pos) (cv : Value), codeAmong p' ps'.toList = some cv → ∃ c, cv = .ref c ∧ more H P c' q pos ps c = some (CodeO c p.2) := fun p' cv h => by
    obtain ⟨c, e, k⟩ := a3 p' cv h
    exact ⟨c, e, ext _ _ k codeO_ne⟩
  by_cases hb : p.1 = P
  · have e : ps' = ps := by
      rw [hb, hP] at a1
      cases a1
      rfl
    subst e
    refine ⟨_, by rw [hb]; exact (upd_ne (ne_of_none hP nC)).trans upd_same, ?_, fun p' cv h => ?_⟩
    · rw [Array.toList_append]
      exact PySem.TriplesOk_snoc _ _ _ _ ok
    · rw [Array.toList_append] at h
      rcases among_app _ ok h with z | z
      · exact old p' cv z
      · exact ⟨c', z, by rw [hu p hp hb]; exact upd_same⟩
  · exact ⟨ps', ((upd_ne (ne_of_none a1 nC)).trans (upd_ne hb)).trans a1, a2, old⟩
/-- a lambda is made and known from then on: its code object is new, or stands in the table -/
theorem lam_made {G : Prop} (g : G) {T : List (Addr × Str)} {c P : Addr} {params : Arguments} {body : Expr} {scope : Scope} {pos : Pos} {E : Value → Shared → Prop} {Q : Value → Shared → Prop} (I : Inv X pins σ H s) (TB : TabB X.base X.mg c P) (hcode : X.env.code = .ref c)
    (hm : (P, X.env.qual ++ "<lambda>") ∈ T) (hu : ∀ p ∈ T, p.1 = P → p.2 = X.env.qual ++ "<lambda>") (hT : Tabs T H) (hdef : defaultsOf params X.env = ([], [])) (hfree : ∀ y ∈ scope.names, y.2 = .free → ∃ c, X.env.cells.lookup y.1 = some c)
    (h : ∀ (f c' : Addr) (H1 : Hp) (s' : Shared), Inv X pins σ H1 s' → ExtN H H1 → (∀ b, H1 b = none → H b = none) → Tabs T H1 → H f = none → H1 f = some (LamO f (lfOf X params body scope c') G) → H1 c' = some (CodeO c' (X.env.qual ++ "<lambda>")) → Q (.ref f) s') :
    wpAny (model X.prog X.w) X.A (eval (.Lambda params body scope pos) X.env) Q E s := by
  obtain ⟨ps, hP, ok, known⟩ := hT _ hm
  have built : ∀ {H1 : Hp} {s1 : Shared} {c' : Addr} (tk : Nat) (ctv : Value), Inv X pins σ H1 s1 → ExtN H H1 → (∀ b, H1 b = none → H b = none) → Tabs T H1 → H1 c' = some (CodeO c' (X.env.qual ++ "<lambda>")) →
      Q (.ref s1.heap.objs.size) { s1 with heap := s1.heap.push ((lfOf X params body scope c').obj ((X.mg "__name__").getD .none) ctv), toks := tk } := fun {H1 s1 c'} tk ctv I1 ext nn T1 hc' => by
    have nF : H1 s1.heap.objs.size = none := I1.hok.fresh (Nat.le_refl _)
    have keep : ∀ b o, H1 b = some o → upd H1 s1.heap.objs.size (LamO s1.heap.objs.size (lfOf X params body scope c') G) b = some o := fun b o e => (upd_ne (ne_of_none e nF)).trans e
    exact h _ c' _ _ (inv_lam (t' := tk) g I1 rfl) (fun b o e n => keep b o (ext b o e n)) (fun b e => nn b (upd_none e)) (T1.ext keep) (nn _ nF) upd_same (keep _ _ hc')
  have bmP := TB.bm.keeps I.bk
  have atP : s.heap.get? P = some { cls := .none, data := .fields ps } := I.hok P _ hP
  refine PySem.W.kla_eval hdef ?_
  cases hc : codeAmong pos ps.toList with
  | some cv =>
    obtain ⟨c', rfl, hco⟩ := known pos cv hc
    refine PySem.W.kla_makeFunctionHit (closure_ok hfree) I.ok.glob (I.mod.glob.keeps I.bk) hcode (TB.code.keeps I.bk) atP ok hc bmP fun ctv h' tk hx _ => ?_
    exact built (s1 := { s with heap := h', toks := tk }) tk ctv (I.kept hx) (ExtN.refl H) (fun _ e => e) hT hco
  | none =>
    refine PySem.W.kla_makeFunction (closure_ok hfree) I.ok.glob (I.mod.glob.keeps I.bk) hcode (TB.code.keeps I.bk) atP ok hc TB.gP bmP fun c' ctv h' tk hx hge hlt hrec htb => ?_
    obtain ⟨c2, oc, vs, t, e2, hoc, hd, hv⟩ := hrec
    cases e2
    have nC : H c' = none := I.hok.fresh hge
    exact built (s1 := { s with heap := h', toks := tk }) tk ctv (inv_table (t' := tk) I hP (fun b o hb e => hx b o hb e) htb hge ⟨oc, vs, t, hoc, hd, hv⟩) (more_ext hP nC) (fun _ e => upd_none (upd_none e)) (more_tabs hT hP ok nC hu) upd_same
end
/-- a lambda: its words by its code object's place, its body's reading -/
abbrev LamD := (Addr → LF) × (XK → TE)
/-- the reading of lambda: .. as a value -/
def tLamV (T : List (Addr × Str)) (G : LamD → Prop) (d : LamD) : TE := fun σ H Q => Tabs T H ∧ ∀ (f c' : Addr) (H1 : Hp), ExtN H H1 → (∀ b, H1 b = none → H b = none) → Tabs T H1 → H f = none → H1 f = some (LamO f (d.1 c') (G d)) → H1 (d.1 c').c = some (CodeO (d.1 c').c (d.1 c').qual) → Q (.ref f) H1
/-- what is asked of a lambda -/
structure LamOk (X : Cx) (k : Nat) (d : LamD) : Prop where
  ex : ∃ (params : Arguments) (body : Expr) (scope : Scope), d.1 = lfOf X params body scope ∧ LamS X.env.scope scope ∧
    (∀ (pm cv ctv : Value), bindArgs (PySem.W.kla_fn "<lambda>" (X.env.qual ++ "<lambda>") params body scope (cloFrom X.env.cells scope.names []) pm cv ctv) ⟨[], []⟩ = pure []) ∧
    ∀ (A : Around) (outer : List Env) (s : Shared) (H : Hp) (E : XK) (f c' : Addr), Room k (A.deeper (lamEnv X scope s.heap.objs.size f c')) → PE (lamCx X A outer s H E scope f c') body (d.2 E)
section
variable {X : Cx} {pins : List (Addr × Obj)} {σ : L2.St} {H HZ : Hp} {s s1 : Shared}
theorem pe_lamV {k : Nat} {t : XK → TE} {T : List (Addr × Str)} {c P : Addr} {params : Arguments} {body : Expr} {scope : Scope} {pos : Pos} (TB : TabB X.base X.mg c P) (hcode : X.env.code = .ref c)
    (hm : (P, X.env.qual ++ "<lambda>") ∈ T) (hu : ∀ p ∈ T, p.1 = P → p.2 = X.env.qual ++ "<lambda>") (L : LamS X.env.scope scope) (hdef : defaultsOf params X.env = ([], []))
    (hbind : ∀ (pm cv ctv : Value), bindArgs (PySem.W.kla_fn "<lambda>" (X.env.qual ++ "<lambda>") params body scope (cloFrom X.env.cells scope.names []) pm cv ctv) ⟨[], []⟩ = pure [])
    (hbody : ∀ (A : Around) (outer : List Env) (s : Shared) (H : Hp) (E : XK) (f c' : Addr), Room k (A.deeper (lamEnv X scope s.heap.objs.size f c')) → PE (lamCx X A outer s H E scope f c') body (t E)) :
    PE X (.Lambda params body scope pos) (tLamV T (LamOk X k) (lfOf X params body scope, t)) := by
  refine ⟨fun pins s σ H Q I h => ?_⟩
  obtain ⟨hT, h⟩ := h
  exact lam_made (⟨⟨params, body, scope, rfl, L, hbind, hbody⟩⟩ : LamOk X k (lfOf X params body scope, t)) I TB hcode hm hu hT hdef (L.has I.ok) fun f c' H1 s' I1 eN nn T1 f0 f1 c1 => ⟨.ref f, H1, I1, rfl, h f c' H1 eN nn T1 f0 f1 c1⟩
/-- a(), a the parameter that holds the lambda F at f -/
def tAct (i : Nat) (f : Addr) (F : LF) (G : Prop) (W : WX) (tl : XK → Hp → VK → Prop) : TE := fun σZ HZ Q => σZ[i]? = some (some (.ref f)) ∧ HZ f = some (LamO f F G) ∧ HZ F.c = some (CodeO F.c F.qual) ∧ tl (WE W σZ) HZ Q
/-- the lambda's run, wherever it is called: its body by what its maker's names held at s, which the run began behind -/
theorem lam_runs {G : Prop} {f c' : Addr} {params : Arguments} {body : Expr} {scope : Scope} {k : Nat} {t : TE} {E : XK} {Q : VK} {A : Around} {outer : List Env} (I : Inv X pins σ H s) (L : LamS X.env.scope scope) (e0 : Env0 X.prog X.w X.K X.mg X.base A outer s1 HZ) (hr : Room (k + 1) A)
    (un : Un (frs X.stack) [] H HZ s.heap s1.heap) (lim : s1.heap.NoLimit) (hl : HZ f = some (LamO f (lfOf X params body scope c') G)) (hc : HZ c' = some (CodeO c' (X.env.qual ++ "<lambda>")))
    (hbind : ∀ (pm cv ctv : Value), bindArgs (PySem.W.kla_fn "<lambda>" (X.env.qual ++ "<lambda>") params body scope (cloFrom X.env.cells scope.names []) pm cv ctv) ⟨[], []⟩ = pure [])
    (hbody : ∀ (A : Around) (outer : List Env) (s : Shared) (H : Hp), Room k (A.deeper (lamEnv X scope s.heap.objs.size f c')) → PE (lamCx X A outer s H E scope f c') body t) (ht : t σ HZ Q) :
    codeAny (model X.prog X.w) A (.call (.ref f) ⟨[], []⟩) (CR (L2.CX X.prog X.w) outer X.prog X.w HZ s1 Q E) s1 := by
  obtain ⟨⟨pm, ctv, obj⟩, _⟩ := lamO_at e0.hok hl
  refine PySem.W.kla_callFunE hr.depth obj rfl L.co L.gen rfl (codeO_at e0.hok hc) ?_
  rw [hbind]
  refine wpAny_pure (wpAny_newFunctionEnv (fun y hy => (L.own y hy).2) (fun _ hy => nomatch hy) (fun h₁ hns hsb => ⟨lim.fresh _ hsb, ?_⟩) L.kind)
  have keep : ∀ b o, s1.heap.get? b = some o → h₁.get? b = some o := fun b o e => hsb.extBut b o (Nat.ne_of_lt (Heap.lt_size e)) (Heap.get?_push_of_some _ e)
  have J := lam_start2 (E := E) (f := f) (c' := c') (tk := s1.toks + ([] : List (Str × Value)).length) I L e0 hr.hd un hns keep
  refine PySem.W.kla_codeExpr (wpAny_mono ((hbody A outer s1 HZ (hr.deeper _)).run [] _ _ HZ Q J ht) (fun v s' ⟨x, H', K, r, q⟩ => ?_) fun _ _ z => z)
  exact ⟨x, H', K.os, K.bare, K.base, K.hok, r, q⟩
theorem pe_actV {G : Prop} {CXg : CXT} {Eg : XK} {Ng : List Str} {qg : Str} {sg : Scope} {g f c' : Addr} {cdg : Value} {params : Arguments} {body : Expr} {scope : Scope} {k i : Nat} {a : Str} {pn : List (Addr × Obj)} {xe : Value → Shared → Prop} {W : WX} {t : XK → TE} {p1 p2 : Pos}
    (I : Inv X pins σ H s) (L : LamS X.env.scope scope)
    (hbind : ∀ (pm cv ctv : Value), bindArgs (PySem.W.kla_fn "<lambda>" (X.env.qual ++ "<lambda>") params body scope (cloFrom X.env.cells scope.names []) pm cv ctv) ⟨[], []⟩ = pure [])
    (tk : Takes ((cxOf CXg X.prog X.w X.K X.mg X.base Ng qg sg g cdg X.A X.stack s H Eg).tr pn xe) W) (hr : Room (k + 1) (X.A.deeper (envOfC qg sg s.heap.objs.size g cdg)))
    (hbody : ∀ (A : Around) (outer : List Env) (s : Shared) (H : Hp) (E : XK), Room k (A.deeper (lamEnv X scope s.heap.objs.size f c')) → PE (lamCx X A outer s H E scope f c') body (t E))
    (hN : Ng[i]? = some a) (hv : Vis sg a) (hd : (a == ("__debug__" : Str)) = false := by decide) (hcd : (a == ("__classdict__" : Str)) = false := by decide) :
    PE ((cxOf CXg X.prog X.w X.K X.mg X.base Ng qg sg g cdg X.A X.stack s H Eg).tr pn xe) (.Call (.Name a p1) [] [] p2) (tAct i f (lfOf X params body scope c') G W fun E H' Q' => t E σ H' Q') := by
  refine ⟨fun pinsZ sZ σZ HZ Q IZ ⟨hs, hl, hc, ht⟩ => ?_⟩
  have look := (pe_var (pos := p1) (i := i) hN hv hd hcd).run pinsZ sZ σZ HZ (fun v H1 => v = .ref f ∧ H1 = HZ) IZ ⟨.ref f, hs, rfl, rfl⟩
  refine wpAny_Call_Name_kw (thn look fun u s1 ⟨v, H1, I1, r1, ev, eH⟩ => ?_)
  subst ev eH
  cases r1
  obtain ⟨⟨pm, ctv, obj⟩, _⟩ := lamO_at I1.hok hl
  have run : codeAny (model X.prog X.w) (X.A.deeper (envOfC qg sg s.heap.objs.size g cdg)) (.call (.ref f) ⟨[], []⟩) (CR (L2.CX X.prog X.w) (envOfC qg sg s.heap.objs.size g cdg :: X.stack) X.prog X.w H1 s1 Q (WE W σZ)) s1 :=
    lam_runs (X := X) (t := t (WE W σZ)) I L I1.env0 hr I1.base I1.nolimit hl hc hbind (fun A outer s H r => hbody A outer s H (WE W σZ) r) ht
  refine PySem.W.callWith_F0 ⟨_, _, _, _, obj⟩ (wpAny_call (codeAny_mono run fun r s' hq => ?_))
  match r, hq with
  | .error e, hq => exact passAt tk σZ pinsZ H1 s1 e s' I1 hq
  | .ok (.ret u), hq => exact I1.after hq
  | .ok .next, hq => exact hq.elim
  | .ok .brk, hq => exact hq.elim
  | .ok .cont, hq => exact hq.elim
end
end Px

/-! PxLamC: [g(x) for x in xs], xs lambdas that were kept: the element is told with what the def's own names hold -/
namespace Px
open PySem PySem.Spec PyProof.Rows L2 LamX NdefX
abbrev LS := L2.St
/-- the block's context -/
abbrev Bk (X : Cx) (s : Shared) (H : Hp) (scope : Scope) (fp : List Addr) : Cx := X.blk s H scope (compEnvC scope (cellsFrom (s.heap.objs.size + 1) scope.names (cloFrom X.env.cells scope.names [])) s.heap.objs.size X.env) fp
/-- an element within a block, the def's own state at hand -/
def PEO (X B : Cx) (us : List Nat) (e : Expr) (te : TE) : Prop := ∀ (pins : List (Addr × Obj)) (s : Shared) (σ : LS) (H : Hp) (Q : VK) (pinsO : List (Addr × Obj)) (σO : LS), Inv B pins σ H s → (∀ (pins' : List (Addr × Obj)) (σ' : LS) (H' : Hp) (s' : Shared), Inv B pins' σ' H' s' → Inv X pinsO σO H' s') → wipe σ us = wipe σO us → te σ H Q →
  wpAny (model X.prog X.w) X.A (eval e B.env) (EP B pins σ Q) B.xe s
section
variable {X : Cx} {pins : List (Addr × Obj)} {s3 : Shared} {σ : LS} {H3 : Hp} {scope : Scope} {fp : List Addr} {us : List Nat}
/-- the marks of the iterator: nobody's but the block's -/
def Marks (X : Cx) (pins : List (Addr × Obj)) (H : Hp) (s : Shared) (fp : List Addr) : Prop := ∀ b ∈ fp, FpOk X pins H b ∧ b < s.heap.objs.size
/-- what the def knew is known still, whatever the block did -/
theorem Marks.out (M : Marks X pins H3 s3 fp) (I3 : Inv X pins σ H3 s3) {pins' : List (Addr × Obj)} {σ' : LS} {H' : Hp} {s' : Shared} (J : Inv (Bk X s3 H3 scope fp) pins' σ' H' s') : Inv X pins σ H' s' :=
  I3.call' (ch := fp) J.os J.base J.hok J.bare fun b hb =>
    have f := (M b hb).1
    ⟨f.2.2.2.1, f.2.1, f.2.2.2.2.1, f.2.2.2.2.2⟩
theorem marks_in {σ' : LS} {H' : Hp} {s' : Shared} (J : Inv (Bk X s3 H3 scope fp) [] σ' H' s') (hn : ∀ b ∈ fp, H' b = none) : ∀ b ∈ fp, FpOk (Bk X s3 H3 scope fp) [] H' b := fun b hb =>
  have e := J.ok.exf b hb
  ⟨hn b hb, e.1, J.ok.exfs b hb, Or.inl hb, fun x c z => e.2 x c z, fun _ hp => nomatch (show _ ∈ ([] : List (Addr × Obj)) from hp)⟩
/-- where a turn of the block begins -/
def AtTurn (X : Cx) (s3 : Shared) (H3 : Hp) (scope : Scope) (fp : List Addr) (us : List Nat) (σ : LS) (tn : Nat → Heap → Prop) (W : Nat → Nat → Hp → Prop) (m : Nat) (s' : Shared) : Prop :=
  ∃ i H', Inv (Bk X s3 H3 scope fp) [] (wipe σ us) H' s' ∧ tn i s'.heap ∧ (∀ b ∈ fp, H' b = none) ∧ W i m H'
/-- the turn's end: the next one begins -/
theorem at_next {tg : Expr} {J : It} {it : Addr} {tn : Nat → Heap → Prop} (T : Turn X.prog X.w X.K tg J fp it tn) {W : Nat → Nat → Hp → Prop} {i n m : Nat} {s7 s' : Shared} {σ8 : LS} {H' : Hp} (st7 : tn (i + 1) s7.heap)
    (K : Inv (Bk X s3 H3 scope fp) ([] ++ pinsAt fp s7.heap) σ8 H' s') (hw : wipe σ8 us = wipe σ us) (lt : m < n) (w : W (i + 1) m H') : ∃ m', m' < n ∧ AtTurn X s3 H3 scope fp us σ tn W m' s' := by
  have held : ∀ b ∈ fp, ∀ o, s7.heap.get? b = some o → s'.heap.get? b = some o ∧ H' b = none := fun b hb o e => by
    have z := K.pin (b, o) (List.mem_append_right _ (List.mem_append_right _ (mem_pinsAt hb e)))
    exact ⟨z.1, z.2.1⟩
  have K0 := K.unpinned (pins := [])
  have K1 : Inv (Bk X s3 H3 scope fp) [] (wipe σ us) H' s' := K0.weak (by rw [← hw, wipe_length]) fun j v e => by
    rw [← hw] at e
    exact (wipe_some e).1
  refine ⟨m, lt, i + 1, H', K1, T.keep _ _ _ st7 fun b hb o e => (held b hb o e).1, fun b hb => ?_, w⟩
  obtain ⟨o, e, _⟩ := T.obj _ _ st7 b hb
  exact (held b hb o e).2
/-- a block without tests, its element told with the def's state -/
theorem lc_told {s : Shared} {H : Hp} {Q : VK} {elt tg iter : Expr} {own : List (Str × Nat)} {pos pos' : Pos} {wi : TI} {g : TG} {te : TE} {use : Option (Value → Sem Unit)} {Qf : Value → Shared → Prop} (hc : X.calm = true) (hN : X.N.Nodup) (I : Inv X pins σ H s)
    (hi : PI X tg iter wi) (ok : BlkOk X.N X.env.scope scope own) (hg : ∀ (s : Shared) (H : Hp) (fp : List Addr), PG (Bk X s H scope fp) tg g) (he : ∀ (s : Shared) (H : Hp) (fp : List Addr), PEO X (Bk X s H scope fp) (own.map (·.2)) elt te)
    (hs : ∀ x, foldedSetIterable iter X.env x = pure x) (h : tLc wi g tYes te (own.map (·.2)) σ H Q)
    (end_ : ∀ D C s' m H', Inv X pins σ H' s' → Q (.ref D) H' → s'.heap.Ns C m → FpOk X pins H' C → compPost (model X.prog X.w) X.A X.xe use Qf (.ref D) C (.ok .next) s') :
    wpAny (model X.prog X.w) X.A (comprehension (.ListComp elt [⟨tg, iter, [], 0⟩] scope pos) scope X.env pos' (newList []) false (eval iter X.env) use) Qf X.xe s := by
  have caps : ∀ y ∈ scope.names, y.2 = .free → ∃ c, X.env.cells.lookup y.1 = some c := fun y hy e => (ok.free y hy e).elim (fun k => I.ok.has _ (.inl k)) fun k => I.ok.has _ (.inr k)
  refine wpAny_comprehension_free (use := use) rfl hs (closure_ok caps) ok.kind (fun y hy e => by rw [ok.uniq y hy, e]) (thn (hi.run pins s σ H _ I h) fun xv s1 hx => thn hx fun itv s2 hit => ?_)
  obtain ⟨it, fp, tn, J, H2, rfl, I2, T, st2, f2, q⟩ := hit
  refine wpAny_newObj_type (newEnv_comp ?_) (by show 0 ≤ sizeLine; decide)
  have newD : H2 s2.heap.objs.size = none := I2.hok.fresh (Nat.le_refl _)
  obtain ⟨W, ⟨m0, w0⟩, turn⟩ := q s2.heap.objs.size newD
  generalize eH : upd H2 s2.heap.objs.size (.lst []) = H3 at w0
  generalize es : ({ s2 with heap := s2.heap.push { cls := .type "list", data := .seq ([] : List Value).toArray } } : Shared) = s3
  have hh : s3.heap = s2.heap.push { cls := .type "list", data := .seq ([] : List Value).toArray } := by rw [← es]
  have I3 : Inv X pins σ H3 s3 := by
    rw [← es, ← eH]
    exact I2.laid (t' := s2.toks) (fun b o e => Heap.get?_push_of_some _ e) (Nat.le_refl _) ⟨Nat.zero_le _, [], 0, .nil, Heap.get?_push_size _ rfl⟩
  have M : Marks X pins H3 s3 fp := fun b hb => by
    obtain ⟨o, e, _⟩ := T.obj _ _ st2 b hb
    have lt := Heap.lt_size e
    refine ⟨⟨?_, (f2 b hb).2⟩, by rw [hh, Heap.size_push]; exact Nat.lt_succ_of_lt lt⟩
    rw [← eH, upd_ne (Nat.ne_of_lt lt)]
    exact (f2 b hb).1
  have I4 := block_start I3 ok hN M
  have st3 : tn 0 s3.heap := T.keep _ _ _ st2 fun b _ o e => by rw [hh]; exact Heap.get?_push_of_some _ e
  show codeAny _ _ (.compStart (.ListComp elt [⟨tg, iter, [], 0⟩] scope pos) 0 (.ref it) (.ref s2.heap.objs.size) (Bk X s3 H3 scope fp).env) (compPost (model X.prog X.w) X.A X.xe use Qf (.ref s2.heap.objs.size) s3.heap.objs.size) { s3 with heap := pushCells (s3.heap.push { cls := .type "dict", data := .dict #[] }) scope.names }
  generalize e4 : ({ s3 with heap := pushCells (s3.heap.push { cls := .type "dict", data := .dict #[] }) scope.names } : Shared) = s4 at I4 ⊢
  have st4 : tn 0 s4.heap := T.keep _ _ _ st3 fun b _ o e => by rw [← e4]; exact pushCells_keeps _ _ _ _ (Heap.get?_push_of_some _ e)
  refine codeAny_compStart_list ?_ (T.self X.A 0 _ _ _ st4 ?_) <;>
  · refine compLoop_any (AtTurn X s3 H3 scope fp (own.map (·.2)) σ tn W) ?_ m0 ⟨0, H3, I4, st4, fun b hb => (M b hb).1.1, w0⟩
    rintro n s5 ⟨i, H5, I5, st5, n5, w5⟩
    rcases turn i n H5 w5 with ⟨stop, done⟩ | ⟨go, Nx, hNx, step⟩
    · refine thnF (T.done (Bk X s3 H3 scope fp) rfl rfl rfl hc i [] s5 _ H5 (fun _ _ => False) I5 (marks_in I5 n5) st5 stop) fun r s6 ⟨hr, I6⟩ => ?_
      subst hr
      obtain ⟨m, hn, _⟩ := I6.loc
      exact end_ _ _ s6 m H5 (M.out I3 I6) done hn (I3.fpOk (Nat.le_refl _) I6.free)
    · refine thnF (T.item (Bk X s3 H3 scope fp) rfl rfl rfl hc i [] s5 _ H5 (fun _ _ => False) I5 (marks_in I5 n5) st5 go) fun r s6 ⟨u, hr, h6⟩ => ?_
      subst hr
      refine thnF h6 fun _ s7 ⟨x, H7, I7, r7, y7, st7, n7⟩ => ?_
      refine thnF ((hg s3 H3 fp).run _ s7 _ H7 x u _ (I7.pinned (marks_in I7 n7) (T.obj _ _ st7)) r7 (step x H7 y7)) fun _ s8 ⟨σ8, H8, I8, hw, q8⟩ => ?_
      refine wpAny_tests_nil ?_
      have q8 : te σ8 H8 fun y H4 => ∃ acc, H4 s2.heap.objs.size = some (.lst acc) ∧ acc.length < sizeLine ∧ Nx (upd H4 s2.heap.objs.size (.lst (acc ++ [y]))) := q8
      rw [if_pos rfl]
      refine thnF (he s3 H3 fp _ s8 σ8 H8 _ pins σ I8 (fun _ _ _ _ K => M.out I3 K) hw q8) fun z s9 ⟨yv, H9, I9, r9, acc, hD, hz, nx⟩ => ?_
      refine app_ok (X := Bk X s3 H3 scope fp) I9 hD hz r9 fun s' K => ?_
      obtain ⟨m', hm, w'⟩ := hNx _ nx
      exact at_next T st7 K hw hm w'
theorem pe_lcO {elt tg iter : Expr} {own : List (Str × Nat)} {pos : Pos} {wi : TI} {g : TG} {te : TE} (hc : X.calm = true) (hN : X.N.Nodup) (hi : PI X tg iter wi) (ok : BlkOk X.N X.env.scope scope own)
    (hg : ∀ (s : Shared) (H : Hp) (fp : List Addr), PG (Bk X s H scope fp) tg g) (he : ∀ (s : Shared) (H : Hp) (fp : List Addr), PEO X (Bk X s H scope fp) (own.map (·.2)) elt te) (hs : ∀ x, foldedSetIterable iter X.env x = pure x := by intro _; rfl) :
    PE X (.ListComp elt [⟨tg, iter, [], 0⟩] scope pos) (tLc wi g tYes te (own.map (·.2))) := by
  refine ⟨fun pins s σ H Q I h => ?_⟩
  rw [eval_ListComp]
  exact lc_told hc hN I hi ok hg he hs h fun D C s' m H' K q hn f => ⟨m, hn, fun h'' sb => ⟨.ref D, H', K.turned (t' := s'.toks) (fun b o hb e => (sb.2 b hb).trans e) f.1 f.2.1 f.2.2.2.1 f.2.2.2.2.1 f.2.2.2.2.2, rfl, q⟩⟩
/-- g(x) in a block, x a lambda that was kept; tb: what g's body is, by the lambda -/
def tCallL (us : List Nat) (Ng : List Str) (G : LamD → Prop) (tb : Addr → LF → Prop → (XK → Hp → VK → Prop) → TS) (te : TE) : TE := fun σ H Q => te σ H fun v H1 => ∃ d f c', v = .ref f ∧ H1 f = some (LamO f (d.1 c') (G d)) ∧ H1 (d.1 c').c = some (CodeO (d.1 c').c (d.1 c').qual) ∧
  tb f (d.1 c') (G d) (fun E H' Q' => d.2 E (wipe σ us) H' Q') { nx := fun _ H' => Q .non H', rt := Q } (L2.start Ng [.ref f]) H1
theorem pe_callL {s0 : Shared} {H0 : Hp} {x a : Str} {g : Addr} {k : Nat} {pg : Arguments} {bg : List Stmt} {sg : Scope} {fd : FuncData} {Ng : List Str} {tb : Addr → LF → Prop → (XK → Hp → VK → Prop) → TS}
    {e : Expr} {te : TE} {p pos : Pos} (hg : Gl (Bk X s0 H0 scope fp) x) (hm : X.mg x = some (.ref g)) (Fg : FunD X.K x x pg bg sg [] [] g fd) (hb : L2.Binds X.K fd [a] []) (Sg : FnScope Ng [a] sg) (hNg : Ng[0]? = some a) (hva : Vis sg a)
    (he : PE (Bk X s0 H0 scope fp) e te) (hr : Room (k + 2) X.A)
    (hG : ∀ (cdg : Value) (s : Shared) (H : Hp) (f : Addr) (F : LF) (G : Prop) (tl : XK → Hp → VK → Prop),
      (∀ (W : WX) (pn : List (Addr × Obj)) (xe : Value → Shared → Prop) (p1 p2 : Pos), Takes ((cxOf L2.CX0 X.prog X.w X.K X.mg X.base Ng x sg g cdg X.A X.stack s H E0).tr pn xe) W →
        PE ((cxOf L2.CX0 X.prog X.w X.K X.mg X.base Ng x sg g cdg X.A X.stack s H E0).tr pn xe) (.Call (.Name a p1) [] [] p2) (tAct 0 f F G W tl)) →
      Room (k + 1) (X.A.deeper (envOfC x sg s.heap.objs.size g cdg)) → PSs (cxOf L2.CX0 X.prog X.w X.K X.mg X.base Ng x sg g cdg X.A X.stack s H E0) bg (tb f F G tl))
    (hdb : (x == ("__debug__" : Str)) = false := by decide) (hd : (a == ("__debug__" : Str)) = false := by decide) (hcd : (a == ("__classdict__" : Str)) = false := by decide)
    (hst : starEach [e] (Bk X s0 H0 scope fp).env = [(false, eval e (Bk X s0 H0 scope fp).env)] := by rfl) :
    PEO X (Bk X s0 H0 scope fp) us (.Call (.Name x p) [e] [] pos) (tCallL us Ng (LamOk X k) tb te) := by
  intro pins s σ H Q pinsO σO I out hw h
  obtain ⟨oc, od, dV, kV, doc, pm, an, cdv, ct, osl, rfl, lk, hcg, _, _⟩ := Fg.ex
  refine wpAny_Call_Name_kw (ld_glob (X := Bk X s0 H0 scope fp) I hg hm ?_ hdb)
  refine PySem.W.callWith_K (h₀ := X.base) I.ok.mod.kin Fg.kp ?_ hst (by rfl)
  rw [hst]
  show wpAny _ _ (spliced [(false, eval e (Bk X s0 H0 scope fp).env)]) _ _ s
  refine Calls.spliced_cons (thn (he.run pins s σ H _ I h) fun u s1 ⟨v, H1, I1, r1, d, f, c', ev, hf, hc, hq⟩ => Calls.spliced_nil ⟨I1.kIn, ?_⟩)
  subst ev
  cases r1
  obtain ⟨params, body, scope2, e1, L, hbind, hbody⟩ := (lamO_at I1.hok hf).2.ex
  rw [e1, hw] at hq
  have maker : Inv X pinsO (wipe σO us) H1 s1 := (out _ _ _ _ I1).weak (by rw [wipe_length]) fun j v e => (wipe_some e).1
  have runs : codeAny (model X.prog X.w) X.A (.call (.ref g) ⟨[.ref f], []⟩) (CR L2.CX0 X.stack X.prog X.w H1 s1 Q E0) s1 :=
    run_ofS (N := Ng) (ps := [a]) (us := [.ref f]) (vs := [.ref f]) lk hcg Sg hr I1.env0 (hb s1 [.ref f] I1.kIn rfl) (.cons rfl .nil) rfl fun hr' =>
      ⟨_, hG cdv s1 H1 f (lfOf X params body scope2 c') (LamOk X k d) (fun E H' Q' => d.2 E (wipe σO us) H' Q') (fun W pn xe p1 p2 tk => pe_actV (i := 0) maker L hbind tk hr' (fun A outer s H E r => hbody A outer s H E f c' r) hNg hva hd hcd) hr', hq⟩
  refine wpAny_call (codeAny_mono runs fun r s2 z => ?_)
  match r, z with
  | .error e, z => exact (show False from z).elim
  | .ok (.ret u), z => exact I1.after z
  | .ok .next, z => exact z.elim
  | .ok .brk, z => exact z.elim
  | .ok .cont, z => exact z.elim
end
end Px

/-! PxLamH: the head's facts with tables of code objects of defs that make lambdas -/
namespace Px
open PySem PySem.Spec PyProof.Rows L2 He
section
variable  {P : Program} {w : World} {K : PySem.W.Frag} {mg : Str → Option Value} {base : Heap} {x qual : Str} {params : Arguments} {body : List Stmt} {scope : Scope} {dvs : List V} {kws : List (Str × V)} {f : Addr} {fd : FuncData}
/-- FunD.ok that tells the code object too -/
theorem fun_okC {CX : CXT} {N ps : List Str} {k : Nat} {sp : Sp} (F : FunD K x qual params body scope dvs kws f fd) (S : FnScope N ps scope) (len : ∀ vs H Q E, sp vs H Q E → vs.length = ps.length)
    (hbody : ∀ (cdv : Value), fd.code = cdv → ∀ (A : Around) (outer : List Env) (s : Shared) (H : Hp) (vs : List V) (Q : VK) (E : XK), Room k (A.deeper (envOfC qual scope s.heap.objs.size f cdv)) → sp vs H Q E →
      ∃ t, PSs (cxOf CX P w K mg base N qual scope f cdv A outer s H E) body t ∧ t { nx := fun _ H' => Q .non H', rt := Q } (start N vs) H) : FnOk P w K mg base CX (k + 1) f fd ps sp := by
  obtain ⟨oc, od, dV, kV, doc, pm, an, cdv, ct, osl, rfl, lk, hcd, _, _⟩ := F.ex
  exact fn_of lk hcd S len fun A outer s H vs Q E hr hsp => hbody cdv rfl A outer s H vs Q E hr hsp
end
def refOf : Value → Option Addr
  | .ref c => some c
  | _ => none
theorem refOf_ok {v : Value} {c : Addr} (h : refOf v = some c) : v = .ref c := by
  cases v with
  | ref a => rw [Option.some.inj h]
  | _ => cases h
def codeOf (K : PySem.W.Frag) (nm : Str) : Option Addr := match K.lookup (ga K nm) with
  | some ⟨_, _, .func fd, _⟩ => refOf fd.code
  | _ => none
theorem code_of {K : PySem.W.Frag} {nm x qual : Str} {params : Arguments} {body : List Stmt} {scope : Scope} {dvs : List V} {kws : List (Str × V)} {fd : FuncData} {c : Addr} (F : FunD K x qual params body scope dvs kws (ga K nm) fd) (h : codeOf K nm = some c) : fd.code = .ref c := by
  obtain ⟨oc, od, dV, kV, doc, pm, an, cdv, ct, osl, rfl, lk, hcd, _, _⟩ := F.ex
  unfold codeOf at h
  rw [lk] at h
  exact refOf_ok h
def tabAt (g : Addr → Option Obj) (c : Addr) : Option Addr := match g c with
  | some ⟨_, _, .fields vs, _⟩ => (match vs.getD 11 .none with
    | .ref P => some P
    | _ => none)
  | _ => none
def emptyB : Option Obj → Bool
  | some ⟨.none, none, .fields vs, sl⟩ => vs.isEmpty && sl.isEmpty
  | _ => false
theorem emptyB_ok {o : Option Obj} (h : emptyB o = true) : o = some { cls := .none, data := .fields #[] } := by
  unfold emptyB at h
  split at h
  · rename_i vs sl
    rw [Bool.and_eq_true] at h
    rw [Array.isEmpty_iff.mp h.1, Array.isEmpty_iff.mp h.2]
  · cases h
def isRef (P : Addr) : Option Value → Bool
  | some (.ref p) => decide (p = P)
  | _ => false
def isStrV : Value → Bool
  | .str _ _ => true
  | _ => false
def isIntV : Value → Bool
  | .int _ _ => true
  | _ => false
def isBoolV : Value → Bool
  | .bool _ => true
  | _ => false
def cdHdB (c P : Addr) : Option Obj → Bool
  | some ⟨.type q, _, .fields vs, _⟩ => decide (q = "code") && (isRef P vs[11]? && (isStrV (vs.getD 18 .none) && (isIntV (vs.getD 7 .none) && (isBoolV (vs.getD 9 .none) && (isIntV (vs.getD 10 .none) && !decide (c = P))))))
  | _ => false
theorem isRef_ok {P : Addr} {o : Option Value} (h : isRef P o = true) : o = some (.ref P) := by
  unfold isRef at h
  split at h
  · rw [of_decide_eq_true h]
  · cases h
theorem isStrV_ok {v : Value} (h : isStrV v = true) : ∃ x t, v = .str x t := by
  unfold isStrV at h
  split at h
  · exact ⟨_, _, rfl⟩
  · cases h
theorem isIntV_ok {v : Value} (h : isIntV v = true) : ∃ x t, v = .int x t := by
  unfold isIntV at h
  split at h
  · exact ⟨_, _, rfl⟩
  · cases h
theorem isBoolV_ok {v : Value} (h : isBoolV v = true) : ∃ x, v = .bool x := by
  unfold isBoolV at h
  split at h
  · exact ⟨_, rfl⟩
  · cases h
theorem cdHdB_ok {h : Heap} {c P : Addr} (e : cdHdB c P (h.get? c) = true) : PySem.W.CodeHd h c P := by
  unfold cdHdB at e
  split at e
  · rename_i q d vs sl z
    obtain ⟨e1, e⟩ := ba e
    obtain ⟨e2, e⟩ := ba e
    obtain ⟨e3, e⟩ := ba e
    obtain ⟨e4, e⟩ := ba e
    obtain ⟨e5, e⟩ := ba e
    obtain ⟨e6, e7⟩ := ba e
    have e1 := of_decide_eq_true e1
    have e2 := isRef_ok e2
    obtain ⟨file, tf, e3⟩ := isStrV_ok e3
    obtain ⟨fl, tg, e4⟩ := isIntV_ok e4
    obtain ⟨inF, e5⟩ := isBoolV_ok e5
    obtain ⟨text, tt, e6⟩ := isIntV_ok e6
    refine ⟨_, vs, file, tf, fl, tg, inF, text, tt, z, by rw [e1], rfl, e2, ?_, e3, e4, e5, e6, ?_⟩
    · rw [Array.getD_eq_getD_getElem?, e2]
      rfl
    · simpa using e7
  · cases e
def tabB (g : Addr → Option Obj) (K : PySem.W.Frag) (nm : Str) : Bool := match codeOf K nm with
  | some c => (match tabAt g c with
    | some P => (K.lookup P).isNone && (emptyB (g P) && cdHdB c P (g c))
    | none => false)
  | none => false
/-- what is known of the def nm's code object and its table -/
def TabH (K : PySem.W.Frag) (h : Heap) (nm : Str) : Prop := ∃ c P, codeOf K nm = some c ∧ K.lookup P = none ∧ h.get? P = some { cls := .none, data := .fields #[] } ∧ PySem.W.CodeHd h c P
theorem tabB_ok {K : PySem.W.Frag} {h : Heap} {nm : Str} (e : tabB h.get? K nm = true) : TabH K h nm := by
  unfold tabB at e
  split at e
  · rename_i c hc
    split at e
    · rename_i P hP
      obtain ⟨e1, e⟩ := ba e
      obtain ⟨e2, e3⟩ := ba e
      exact ⟨c, P, hc, Option.isNone_iff_eq_none.mp e1, emptyB_ok e2, cdHdB_ok e3⟩
    · cases e
  · cases e
def obsLT (fs : List Fact) (ds : List DefA) (es : List ErrN) (ls : List Str) (g : Addr → Option Obj) (K : PySem.W.Frag) : AlA := ((obsN fs ds es K).1 && ls.all fun nm => tabB g K nm, (obsN fs ds es K).2)
def obsLTG (fs : List Fact) (ds : List DefA) (es : List ErrN) (ls : List Str) (g : Addr → Option Obj) : AlA := obsLT fs ds es ls g (frG g (asT g))
theorem obsLT_ok {fs : List Fact} {ds : List DefA} {es : List ErrN} {ls : List Str} {K : PySem.W.Frag} {h : Heap} (e : obsLT fs ds es ls h.get? K = valN ds es) : SaysN fs ds es K ∧ ∀ nm ∈ ls, TabH K h nm := by
  have e1 : (obsLT fs ds es ls h.get? K).1 = true := by rw [e]; rfl
  have e2 : (obsLT fs ds es ls h.get? K).2 = (valN ds es).2 := by rw [e]
  have e1 : ((obsN fs ds es K).1 && ls.all fun nm => tabB h.get? K nm) = true := e1
  have e2 : (obsN fs ds es K).2 = (valN ds es).2 := e2
  obtain ⟨a, b⟩ := ba e1
  exact ⟨Prod.ext a e2, fun nm hm => tabB_ok (List.all_eq_true.mp b nm hm)⟩
def hookLT (fs : List Fact) (ds : List DefA) (es : List ErrN) (ls : List Str) : PySem.W.Hook where
  α := AlA
  obs := fun s => obsLTG fs ds es ls s.heap.get?
  val := fun _ => valN ds es
  says := fun _ h => ∃ K : PySem.W.Frag, K.In h ∧ SaysN fs ds es K ∧ ∀ nm ∈ ls, TabH K h nm
  of := fun _ _ e => ⟨_, frG_in, obsLT_ok e⟩
  keeps := fun _ _ _ ⟨K, hK, c, t⟩ k => ⟨K, PySem.W.Frag.In.keeps hK k, c, fun nm hm => by
    obtain ⟨c, P, h1, h2, h3, h4⟩ := t nm hm
    exact ⟨c, P, h1, h2, k _ _ h3, h4.keeps k⟩⟩
theorem obsLTG_eq {fs : List Fact} {ds : List DefA} {es : List ErrN} {ls : List Str} {g : Addr → Option Obj} {s : Shared} (h : ∀ a, g a = s.heap.get? a) : obsLTG fs ds es ls g = (hookLT fs ds es ls).obs s := by
  have e : g = s.heap.get? := funext h
  subst e
  rfl
end Px

/-! PxLamG: lambdas in laws that call repr: contracts that know that no repr is under way, with one table of code objects -/
namespace Px
open PySem PySem.Spec PyProof.Rows L2
section
variable  {P : Program} {w : World} {K : PySem.W.Frag} {mg : Str → Option Value} {base : Heap} {x qual : Str} {params : Arguments} {body : List Stmt} {scope : Scope} {dvs : List V} {kws : List (Str × V)} {f : Addr} {fd : FuncData}
/-- fnG_ok that tells the code object too -/
theorem fnG_okC {CX : CXT} {N ps : List Str} {k : Nat} {sp : Sp} (F : FunD K x qual params body scope dvs kws f fd) (S : FnScope N ps scope) (len : ∀ vs H Q E, sp vs H Q E → vs.length = ps.length)
    (hbody : ∀ (cdv : Value), fd.code = cdv → ∀ (A : Around) (outer : List Env) (s : Shared) (H : Hp) (vs : List V) (Q : VK) (E : XK), (A.deeper (envOfC qual scope s.heap.objs.size f cdv)).guards = some [] → Room k (A.deeper (envOfC qual scope s.heap.objs.size f cdv)) → sp vs H Q E →
      ∃ t, PSs (cxOf CX P w K mg base N qual scope f cdv A outer s H E) body t ∧ t { nx := fun _ H' => Q .non H', rt := Q } (start N vs) H) : FnG P w K mg base CX (k + 1) f fd ps sp := by
  obtain ⟨oc, od, dV, kV, doc, pm, an, cdv, ct, osl, rfl, lk, hcd, _, _⟩ := F.ex
  refine ⟨len, fun A outer s H args us vs Q E hG hr e0 hb r hsp => ?_⟩
  have KX : K.In s.heap := e0.mod.kin.keeps fun b o e => (e0.bs b o e).1
  have lim : s.heap.NoLimit := e0.mod.nolimit.keeps fun b o e => (e0.bs b o e).1
  have hkind : ∀ y ∈ ps.zip us, scope.names.lookup y.1 = some .local ∨ (scope.names.lookup y.1 = some .cell ∧ ((cellsFrom (s.heap.objs.size + 1) scope.names []).lookup y.1).isSome = true) := fun y hy =>
    (S.par y.1 (List.of_mem_zip (show (y.1, y.2) ∈ ps.zip us from hy)).1).imp id fun q => ⟨q, PySem.W.cellsFrom_some _ _ _ (.inl q)⟩
  refine codeAny_call_function hr.depth (KX _ _ lk) rfl S.co S.gen rfl (PySem.W.codeRec_of KX hcd) (hb _ _ _ _ (wpAny_newFunctionEnv_cells S.kind hkind fun env he s1 x => ?_))
  subst he
  refine ⟨lim.keeps x.toInCall.keep, codeAny_func ?_⟩
  obtain ⟨t, ht, hq⟩ := hbody cdv rfl A outer s H vs Q E hG (hr.deeper _) hsp
  have I : Inv (cxOf CX P w K mg base N qual scope f cdv A outer s H E) [] (start N vs) H s1 := inv_start S hr.hd e0 (len _ _ _ _ hsp) r x
  refine wpAny_mono (ht.run [] s1 (start N vs) H _ I hq) (fun fl s' hs => ?_) fun e s' hs => hs
  match fl, hs with
  | .ret u, ⟨v, σ', H', J, rv, q⟩ => exact ⟨v, H', J.os, J.bare, J.base, J.hok, rv, q⟩
  | .next, ⟨σ', H', J, q⟩ => exact ⟨V.non, H', J.os, J.bare, J.base, J.hok, rfl, q⟩
  | .brk, ⟨_, _, _, q⟩ => exact q.elim
  | .cont, ⟨_, _, _, q⟩ => exact q.elim
end
/-! ### a law's end with one table of code objects -/
section
variable  {P : Program} {w : World} {K : PySem.W.Frag} {mg mb : Str → Option Value} {k : Nat} {fa a c Pt : Addr} {fd : FuncData} {x : Str} {sp : Sp} {s₁ : Shared} {vs : List Value} {H : Hp}
abbrev scriptO (vs : List Value) : Obj := { cls := .type "list", data := .seq vs.toArray }
abbrev tableO : Obj := { cls := .none, data := .fields #[] }
/-- what H may track of the heap at a law's begin: the script at a, the table at Pt -/
structure Trk (K : PySem.W.Frag) (H : Hp) (a Pt : Addr) : Prop where
  ob : ∀ b, H b = none ∨ (b = a ∧ ∃ o xs, H b = some (.frz o (.lst xs))) ∨ (b = Pt ∧ H b = some (.tbl #[]))
  ka : H a ≠ none → K.lookup a = none
theorem Trk.free (T : Trk K H a Pt) (ha : s₁.heap.get? a = some (scriptO vs)) (hP : s₁.heap.get? Pt = some tableO) {b : Addr} {o : Obj} (e : s₁.heap.get? b = some o) (n1 : o ≠ scriptO vs) (n2 : o ≠ tableO) : H b = none := by
  rcases T.ob b with z | ⟨z, _⟩ | ⟨z, _⟩
  · exact z
  · subst z
    rw [ha] at e
    exact (n1 (Option.some.inj e).symm).elim
  · subst z
    rw [hP] at e
    exact (n2 (Option.some.inj e).symm).elim
theorem neq_of {α β : Type} {f : α → β} {x y : α} (h : f x ≠ f y) : x ≠ y := fun z => h (by rw [z])
theorem law_coreT (KX : K.In s₁.heap) (hns : s₁.heap.Ns mainGlobals mg) (hb : s₁.heap.Ns builtinsNs mb) (hbb : ∀ x : Str, x ≠ "__name__" → mb x = bootBuiltins x) (hlim : s₁.heap.NoLimit) (hg : s₁.gens = #[])
    (ha : s₁.heap.get? a = some (scriptO vs)) (hP : s₁.heap.get? Pt = some tableO) (nP : K.lookup Pt = none) (C : PySem.W.CodeHd s₁.heap c Pt)
    (hbm : ∃ (bm : Addr) (ob : Obj), mg "__builtins__" = some (.ref bm) ∧ bm ≠ builtinsNs ∧ s₁.heap.get? bm = some ob ∧ ob.cls = .type "module" ∧ ob.dict = some builtinsNs ∧ ob.data = .plain) (hr : Room k callerA)
    (F : ∀ base : Heap, K.In base → base.Ns mainGlobals mg → LamX.TabB base mg c Pt → FnG P w K mg base CX0 k fa fd [x] sp) (hbind : ∀ (s : Shared) (u : Value), BindsTo s fd ⟨[u], []⟩ [(x, u)])
    (T : Trk K H a Pt) (hT : H Pt = some (.tbl #[])) (hsp : sp [.ref a] H (fun v _ => v = .bl true) fun _ _ _ => False) (hok : HOk P w H s₁.heap) :
    codeAny (model P w) callerA (.call (.ref fa) ⟨[.ref a], []⟩) (fun r s' => r = .ok (.ret (.bool true)) ∧ OldK s₁.heap s'.heap ∧ s'.os = s₁.os ∧ AllBare s'.gens) s₁ := by
  have back : ∀ {b : Addr} {o : Obj}, s₁.heap.get? b = some o → o ≠ scriptO vs → o ≠ tableO → (hidT s₁.heap H).get? b = some o := fun e n1 n2 => hid_at e (T.free ha hP e n1 n2)
  have nsK : ∀ {b : Addr} {m : Str → Option Value}, s₁.heap.Ns b m → (hidT s₁.heap H).Ns b m := fun {b m} ⟨o, es, ep, e, d, r⟩ => ⟨o, es, ep, back e (fun z => by rw [z] at d; cases d) (fun z => by rw [z] at d; cases d), d, r⟩
  have hKb : K.In (hidT s₁.heap H) := fun b o e => hid_at (KX b o e) (by
    rcases T.ob b with z | ⟨z, o', xs, q⟩ | ⟨z, _⟩
    · exact z
    · subst z
      rw [T.ka (by rw [q]; simp)] at e
      cases e
    · subst z
      rw [nP] at e
      cases e)
  have gP : mainGlobals ≠ Pt := fun z => by
    obtain ⟨o, es, ep, e, d, _⟩ := hns
    rw [z, hP] at e
    cases e
    cases d
  have hTB : LamX.TabB (hidT s₁.heap H) mg c Pt := by
    refine ⟨?_, ?_, gP⟩
    · obtain ⟨o, us, file, tf, flags, tg, inF, text, tt, e1, r1, r2, r3, r4⟩ := C
      exact ⟨o, us, file, tf, flags, tg, inF, text, tt, back e1 (fun z => by rw [z] at r2; cases r2) (fun z => by rw [z] at r2; cases r2; simp at r3), r1, r2, r3, r4⟩
    · obtain ⟨bm, ob, b1, b2, b3, b4, b5, b6⟩ := hbm
      refine ⟨bm, ob, b1, b2, fun z => ?_, fun z => ?_, back b3 (fun z => by rw [z] at b6; cases b6) (fun z => by rw [z] at b6; cases b6), b4, b5, b6⟩
      · obtain ⟨o, es, ep, e, d, _⟩ := hns
        rw [z, e] at b3
        cases b3
        rw [d] at b6
        cases b6
      · rw [z, hP] at b3
        cases b3
        cases b6
  have e0 : Env0 P w K mg (hidT s₁.heap H) callerA [] s₁ H := ⟨rfl, ⟨hKb, nsK hns, ⟨mb, nsK hb, hbb⟩, let ⟨mc, h1, h2⟩ := hlim; ⟨mc, nsK h1, h2⟩⟩, fun b o e => of_hidT e, Nat.le_of_eq (hidT_size _ _), trivial, fun b hb => absurd (show b ∈ ([] : List Addr) from hb) (by simp), hok, .of_eq hg⟩
  refine codeAny_mono ((F _ hKb (nsK hns) hTB).run callerA [] s₁ H ⟨[.ref a], []⟩ [.ref a] [.ref a] _ _ rfl hr e0 (hbind s₁ (.ref a)) (.cons rfl .nil) hsp) fun r s' h => ?_
  match r, h with
  | .error _, h => exact h.elim
  | .ok .next, h => exact h.elim
  | .ok .brk, h => exact h.elim
  | .ok .cont, h => exact h.elim
  | .ok (.ret u), ⟨v, H', os, bare, un, hok', r', q⟩ =>
    have q' : v = .bl true := q
    subst q'
    obtain rfl : u = Value.bool true := r'
    obtain ⟨more, gm⟩ := un.tbls Pt #[] hT
    have gm' := hok' Pt _ gm
    have stay : ∀ b o, b ≠ Pt → s₁.heap.get? b = some o → s'.heap.get? b = some o := fun b o nb e => by
      rcases T.ob b with z | ⟨z, ob, xs, q⟩ | ⟨z, _⟩
      · exact un.keep b o e z (fun m => absurd (show b ∈ ([] : List Addr) from m) List.not_mem_nil) List.not_mem_nil
      · have h1 := (hok b _ q).1
        have h2 := (hok' b _ (un.frzs b ob _ q)).1
        rw [e] at h1
        cases h1
        exact h2
      · exact (nb z).elim
    refine ⟨rfl, ⟨fun b o e => ?_, fun b o e => ?_⟩, os, bare⟩
    · by_cases hb : b = Pt
      · subst hb
        rw [hP] at e
        cases e
        exact .inr (.inl ⟨(C.tab hP).isCodeTable, rfl, #[], _, rfl, by rw [Array.empty_append]; exact gm'⟩)
      · exact .inl (stay b o hb e)
    · by_cases hb : b = Pt
      · rw [hb]
        exact ⟨_, gm'⟩
      · exact ⟨o, stay b o hb e⟩
/-- .. from the heap that the head leaves: the script is tracked, if no class or def holds it -/
theorem law_goT {ns : List Int} (KX : K.In s₁.heap) (hns : s₁.heap.Ns mainGlobals mg) (hb : s₁.heap.Ns builtinsNs mb) (hbb : ∀ x : Str, x ≠ "__name__" → mb x = bootBuiltins x) (hlim : s₁.heap.NoLimit) (hg : s₁.gens = #[])
    (ha : s₁.heap.get? a = some (scriptO vs)) (hP : s₁.heap.get? Pt = some tableO) (nP : K.lookup Pt = none) (C : PySem.W.CodeHd s₁.heap c Pt)
    (hbm : ∃ (bm : Addr) (ob : Obj), mg "__builtins__" = some (.ref bm) ∧ bm ≠ builtinsNs ∧ s₁.heap.get? bm = some ob ∧ ob.cls = .type "module" ∧ ob.dict = some builtinsNs ∧ ob.data = .plain) (hi : IntsAre vs ns) (hl : ns.length ≤ sizeLine) (hr : Room k callerA)
    (F : ∀ base : Heap, K.In base → base.Ns mainGlobals mg → LamX.TabB base mg c Pt → FnG P w K mg base CX0 k fa fd [x] sp) (hbind : ∀ (s : Shared) (u : Value), BindsTo s fd ⟨[u], []⟩ [(x, u)])
    (hsp : ∀ H : Hp, H Pt = some (.tbl #[]) → SqL K H a (ns.map V.int) → sp [.ref a] H (fun v _ => v = .bl true) fun _ _ _ => False) :
    codeAny (model P w) callerA (.call (.ref fa) ⟨[.ref a], []⟩) (fun r s' => r = .ok (.ret (.bool true)) ∧ OldK s₁.heap s'.heap ∧ s'.os = s₁.os ∧ AllBare s'.gens) s₁ := by
  have rv := vals_ints hi
  have naP : a ≠ Pt := fun z => by
    rw [z, hP] at ha
    cases ha
  let H0 : Hp := upd (fun _ => none) Pt (.tbl #[])
  have a0 : H0 Pt = some (.tbl #[]) := upd_same
  have n0 : ∀ b, b ≠ Pt → H0 b = none := fun b n => upd_ne n
  cases hk : K.lookup a with
  | some o =>
    have e := KX a o hk
    rw [ha] at e
    cases e
    refine law_coreT (mb := mb) (H := H0) KX hns hb hbb hlim hg ha hP nP C hbm hr F hbind ⟨fun b => ?_, fun z => absurd (n0 a naP) z⟩ a0 (hsp _ a0 (.inr ⟨_, vs.toArray, _, hk, rfl, rfl, rfl, by rw [List.size_toArray, hi.length]; exact hl, by simpa using rv⟩)) fun b u z => ?_
    · by_cases q : b = Pt
      · exact .inr (.inr ⟨q, by rw [q]; exact a0⟩)
      · exact .inl (n0 b q)
    · by_cases q : b = Pt
      · subst q
        have z' := a0.symm.trans z
        cases z'
        exact hP
      · have z' := (n0 b q).symm.trans z
        cases z'
  | none =>
    let H1 : Hp := upd H0 a (.frz (scriptO vs) (.lst (ns.map V.int)))
    have a1 : H1 a = some (.frz (scriptO vs) (.lst (ns.map V.int))) := upd_same
    have b1 : H1 Pt = some (.tbl #[]) := (upd_ne (Ne.symm naP)).trans a0
    have n1 : ∀ b, b ≠ a → b ≠ Pt → H1 b = none := fun b h1 h2 => (upd_ne h1).trans (n0 b h2)
    refine law_coreT (mb := mb) (H := H1) KX hns hb hbb hlim hg ha hP nP C hbm hr F hbind ⟨fun b => ?_, fun _ => hk⟩ b1 (hsp _ b1 (.inl (.inr ⟨_, a1⟩))) fun b u z => ?_
    · by_cases q : b = a
      · exact .inr (.inl ⟨q, _, _, by rw [q]; exact a1⟩)
      · by_cases q2 : b = Pt
        · exact .inr (.inr ⟨q2, by rw [q2]; exact b1⟩)
        · exact .inl (n1 b q q2)
    · by_cases q : b = a
      · subst q
        have z' := a1.symm.trans z
        cases z'
        exact ⟨ha, by rw [List.length_map]; exact hl, vs, _, rv, ha⟩
      · by_cases q2 : b = Pt
        · subst q2
          have z' := b1.symm.trans z
          cases z'
          exact hP
        · have z' := (n1 b q q2).symm.trans z
          cases z'
end
theorem walk_GT {l : PySem.W.OpenLaw} {n k : Nat} {q : Program} {loose : List Str} {XP : (Str → Option Value) → Heap → Prop} {YP : World → Heap → Prop} {d : DefRec} {x : Str}
    (hn : l.most = some n) (hn2 : n ≤ sizeLine) (hdf : d.params.defaults = []) (hr : Room k callerA)
    (F : ∀ (w : World) (mg : Str → Option Value) (fa : Addr) (h : Heap), YP w h → h.Ns mainGlobals mg → mg d.name = some (.ref fa) →
      ∃ (K : PySem.W.Frag) (fd : FuncData) (c Pt : Addr) (sp : Sp), K.In h ∧ h.get? Pt = some tableO ∧ K.lookup Pt = none ∧ PySem.W.CodeHd h c Pt ∧ (∀ (s : Shared) (u : Value), BindsTo s fd ⟨[u], []⟩ [(x, u)]) ∧
        (∀ (H : Hp) (a : Addr) (ns : List Int), ns.length ≤ n → H Pt = some (.tbl #[]) → SqL K H a (ns.map V.int) → sp [.ref a] H (fun v _ => v = .bl true) fun _ _ _ => False) ∧
        ∀ base : Heap, K.In base → base.Ns mainGlobals mg → LamX.TabB base mg c Pt → FnG l.prog w K mg base CX0 k fa fd [x] sp) :
    PySem.W.WalkO q loose XP YP l.row.toRowW d [] (fun f vs => PySem.call f vs) := by
  refine Att.attach_call hn hdf fun w s₀ s₁ mg mb fa o pm cd doc a vs ns G Y ho hd hcd hmg hobj hints hlen hg => ?_
  obtain ⟨K, fd, c, Pt, sp, KX, hP, nP, C, hb, hsp, hF⟩ := F w mg fa _ Y G.T.g hmg
  exact law_goT KX G.T.g G.T.b G.T.builtins G.T.nolimit hg hobj hP nP C G.T.bmain hints (Nat.le_trans hlen hn2) hr hF hb fun H hT hS => hsp H a ns hlen hT hS
end Px

/-! PxTryTup: except clauses of any kind: with a name, without one, of two classes. -/
namespace L2
open PySem PySem.Spec PyProof.Rows
/-- what the clause 'except (x, y)' wishes of an exception of the body -/
def wTwo (K : PySem.W.Frag) (c1 c2 : Value) (ts : Addr → Value → Option Addr → TS) (Wout : WX) (D : Ends) : WX := fun cls d σ H =>
  ∃ b, PySem.W.exmAny K cls [c1, c2] = some b ∧ (b = true → ∀ a, H a = none → ts a cls d D σ H) ∧ (b = false → Wout cls d σ H)
/-- a clause's suite, told -/
def SuiteOk (X : Cx) (sts : List Stmt) (ts : Addr → Value → Option Addr → TS) : Prop :=
  ∀ (a : Addr) (oe : Obj) (cls : Value) (d : Option Addr) (pn : List (Addr × Obj)), Zc cls d oe → (∃ vs, oe.data = .fields vs) → PSs (X.suite a ((a, oe) :: pn)) sts (ts a cls d)
/-- some clauses: what they wish, by what is wished where none of them matches -/
inductive HdB (X : Cx) : List ExceptHandler → (WX → Ends → WX) → Prop
  | nil : HdB X [] (fun W _ => W)
  | named {x n : Str} {c : Value} {i : Nat} {ts : Addr → Value → Option Addr → TS} {b₀ : Stmt} {suite : List Stmt} {np pos' : Pos} {hds : List ExceptHandler} {w : WX → Ends → WX}
      (hi : X.N[i]? = some n) (hln : X.env.kindOf n = some .local) (hc : Names X x c) (hsu : SuiteOk X (b₀ :: suite) ts) (r : HdB X hds w) :
      HdB X (.ExceptHandler (some (.Name x np)) (some n) (b₀ :: suite) pos' :: hds) (fun W D => wAs X.K c i ts (w W D) D)
  | bare {x : Str} {c : Value} {ts : Addr → Value → Option Addr → TS} {b₀ : Stmt} {suite : List Stmt} {np pos' : Pos} {hds : List ExceptHandler} {w : WX → Ends → WX}
      (hc : Names X x c) (hsu : SuiteOk X (b₀ :: suite) ts) (r : HdB X hds w) :
      HdB X (.ExceptHandler (some (.Name x np)) none (b₀ :: suite) pos' :: hds) (fun W D => wOnly X.K c ts (w W D) D)
  | two {x y : Str} {c1 c2 : Value} {ts : Addr → Value → Option Addr → TS} {b₀ : Stmt} {suite : List Stmt} {p1 p2 tp pos' : Pos} {k : Nat} {hds : List ExceptHandler} {w : WX → Ends → WX}
      (hc : Names X x c1) (hc2 : Names X y c2) (hsu : SuiteOk X (b₀ :: suite) ts) (r : HdB X hds w) :
      HdB X (.ExceptHandler (some (.Tuple [.Name x p1, .Name y p2] k tp)) none (b₀ :: suite) pos' :: hds) (fun W D => wTwo X.K c1 c2 ts (w W D) D)
theorem fly_push {base h : Heap} {l : List Env} {e : Addr} {Z : Obj → Prop} {o : Obj} (f : HandSPX.FlyingZ base l e Z h) : HandSPX.FlyingZ base l e Z (h.push o) := by
  obtain ⟨f1, f2, f3, oe, vs, T, oT, ts, he, hz, hd, h1, hnT, hTe, hT, hdT, h3⟩ := f
  have k : ∀ b u, h.get? b = some u → (h.push o).get? b = some u := fun b u q => Heap.get?_push_of_some _ q
  exact ⟨fun b u q => k _ _ (f1 b u q), f2, f3.of_keeps (fun b u q _ => ⟨u, k _ _ q, rfl⟩), oe, vs, T, oT, ts, k _ _ he, hz, hd, h1, hnT, hTe, k _ _ hT, hdT, h3⟩
section
variable {X : Cx} {body : List Stmt} {h₀ : ExceptHandler} {hds : List ExceptHandler} {w : WX → Ends → WX} {pos : Pos} {tb : WX → TS} {Wout : WX}
/-- a suite runs, the exception still at hand -/
theorem suite_runs {sts : List Stmt} {ts : Addr → Value → Option Addr → TS} {a : Addr} {oe : Obj} {cls : Value} {d : Option Addr} {pins : List (Addr × Obj)} {σ : St} {H : Hp} {s : Shared} {D : Ends} {E : Value → Shared → Prop}
    (ok : X.Ok) (hsu : SuiteOk X sts ts) (hz : Zc cls d oe) (hd : ∃ vs, oe.data = .fields vs) (S : Inv (X.suite a ((a, oe) :: (X.pn ++ pins))) [] σ H s) (q : ts a cls d D σ H) :
    wpAny (model X.prog X.w) (X.A.mark (some (.ref a))) (execs sts X.env) (SP X pins D) E s := by
  refine wpAny_mono ((hsu a oe cls d (X.pn ++ pins) hz hd).run [] s σ H D S q) (fun f s6 hsp => ?_) (fun _ _ z => False.elim z)
  cases f with
  | next =>
    obtain ⟨σ6, H6, S6, q6⟩ := hsp
    exact ⟨_, _, S6.unsuite ok, q6⟩
  | brk =>
    obtain ⟨σ6, H6, S6, q6⟩ := hsp
    exact ⟨_, _, S6.unsuite ok, q6⟩
  | cont =>
    obtain ⟨σ6, H6, S6, q6⟩ := hsp
    exact ⟨_, _, S6.unsuite ok, q6⟩
  | ret u =>
    obtain ⟨v6, σ6, H6, S6, r6, q6⟩ := hsp
    exact ⟨_, _, _, S6.unsuite ok, r6, q6⟩
/-- the name of a clause's class is looked up -/
theorem name_looked {x : Str} {c : Value} {np : Pos} {a : Addr} {oe : Obj} {pins : List (Addr × Obj)} {σ : St} {H : Hp} {s : Shared} {Q : Value → Shared → Prop} {E : Value → Shared → Prop} (hc : Names X x c) (S : Inv (X.suite a ((a, oe) :: (X.pn ++ pins))) [] σ H s) (q : Q c s) :
    wpAny (model X.prog X.w) (X.A.mark (some (.ref a))) (eval (.Name x np) X.env) Q E s := by
  obtain ⟨hg, hdbg, hm | ⟨hm, hv, hnn⟩⟩ := hc
  · exact ld_glob (X := X.suite a ((a, oe) :: (X.pn ++ pins))) S hg hm q hdbg
  · exact ld_blt (X := X.suite a ((a, oe) :: (X.pn ++ pins))) S hg hm hv q hnn hdbg
theorem ps_try_all (hs : X.stack = X.env :: X.outer) (hf : X.env.frame = some X.env.locals) (hN : X.N.Nodup) (tk : Takes X Wout)
    (hb : ∀ (W : WX) (pn : List (Addr × Obj)) (xe : Value → Shared → Prop), Takes (X.tr pn xe) W → PassesOwn (model X.prog X.w) X.A X.env xe → PSs (X.tr pn xe) body (tb W))
    (hh : HdB X (h₀ :: hds) w) : PS X (.Try body (h₀ :: hds) [] [] pos) (fun D σ H => tb (w Wout D) D σ H) := by
  refine ⟨fun pins s σ H D I h => ?_⟩
  have ok := I.ok
  have hfr : X.A.frames = some (X.env :: X.outer) := by rw [ok.frames, hs]
  refine wpAny_Try_except (wpAny_mono ((hb (w Wout D) (X.pn ++ pins) (fun e s₁ => wpAny (model X.prog X.w) X.A (noteFrame e X.env) (fun _ s₂ => wpAny (model X.prog X.w) X.A (setFlight e none) (fun _ s₃ =>
    wpAny (model X.prog X.w) X.A (handleBy e X.env (h₀ :: hds)) (SP X pins D) X.xe s₃) X.xe s₂) X.xe s₁) (fun u s' xx => ?_) PassesOwn.looking).run [] s σ H D (I.toTry _) h) (fun f s1 hsp => ?_) (fun e s1 he => he))
  · obtain ⟨a, B, sI, pins', σ', H', cls, d, rfl, J', nb, up, sky, na, os, ag, wish⟩ := xx
    have J : Inv X pins σ' H' sI := J'.ofTry ok
    have sky' : Sky B (X.env :: X.outer) a (Zc cls d) X.env.locals s'.heap := by rw [← hs]; exact sky
    show wpAny (model X.prog X.w) X.A (noteFrame (.ref a) X.env) _ _ _
    refine Sky.land Zc.steady hfr hf sky' fun h3 fl3 up3 => ?_
    -- in any heap in which the exception has landed
    have suited : ∀ {h : Heap} {t : Nat}, HandSPX.FlyingZ B (X.env :: X.outer) a (Zc cls d) h → s'.heap.UpToSlots h → ∃ oe vs, h.get? a = some oe ∧ Zc cls d oe ∧ oe.data = .fields vs ∧ Inv X pins σ' H' { s' with heap := h, toks := t } ∧ Inv (X.suite a ((a, oe) :: (X.pn ++ pins))) [] σ' H' { s' with heap := h, toks := t } := fun {h t} fl upx => by
      have Jx : Inv X pins σ' H' { s' with heap := h, toks := t } := Inv.landed (s' := { s' with heap := h, toks := t }) J nb fl.1 (up.trans upx) os ag
      obtain ⟨oe, vs, he, hz, hd⟩ := fl.there
      have nfr : a ∉ frs (X.env :: X.outer) := fun hm => by
        obtain ⟨_, o', e', hnf⟩ := fl.2.2.1.mem hm
        rw [he] at e'
        cases e'
        exact hnf _ hd
      have nL : a ≠ X.env.locals := fun z => nfr (List.mem_filterMap.mpr ⟨X.env, List.mem_cons_self, by rw [hf, z]⟩)
      have nF : a ∉ X.fs := fun hm => by
        obtain ⟨e, he, q⟩ := List.mem_filterMap.mp hm
        exact nfr (List.mem_filterMap.mpr ⟨e, List.mem_cons_of_mem _ he, q⟩)
      exact ⟨oe, vs, he, hz, hd, Jx, Jx.suite he hd na nL nF⟩
    suffices go : ∀ {hds' : List ExceptHandler} {w' : WX → Ends → WX}, HdB X hds' w' → ∀ (h : Heap) (t : Nat), HandSPX.FlyingZ B (X.env :: X.outer) a (Zc cls d) h → s'.heap.UpToSlots h → w' Wout D cls d σ' H' →
        wpAny (model X.prog X.w) X.A (handleBy (.ref a) X.env hds') (SP X pins D) X.xe { s' with heap := h, toks := t } from go hh h3 s'.toks fl3 up3 wish
    intro hds' w' hk
    induction hk with
    | nil =>
      intro h t fl upx wi
      refine wpAny_handleBy_nil ?_
      obtain ⟨k1, k2, k3, oe, vs, T, oT, ts', he, hz, hd, h1, hr⟩ := id fl
      unfold PySem.passOn
      refine wpAny_bind (wpAny_field he hd h1 ?_)
      rw [if_neg (show ¬ ((Value.ref T == Value.none) = true) from by simp)]
      have fin : wpAny (model X.prog X.w) X.A (setFlight (.ref a) X.env.frame) (fun _ s4 => wpAny (model X.prog X.w) X.A (throw (.ref a) : Sem Flow) (SP X pins D) X.xe s4) X.xe { s' with heap := h, toks := t } := by
        rw [hf]
        refine HandSPX.setFlight_upZ fl fun h4 hh4 up4 => wpAny_throw (tk _ _ ?_)
        exact ⟨a, B, sI, pins, σ', H', cls, d, rfl, J, nb, (up.trans upx).trans up4, .inr (.inr (by rw [hs]; exact hh4)), na, os, ag, wi⟩
      first
        | exact wpAny_bind (wpAny_pure (wpAny_bind fin))
        | exact wpAny_bind fin
    | @named x n c i ts b₀ suite np pos' hds2 w2 hi hln hc hsu r ih =>
      rintro h t fl upx ⟨b, hb1, hyes, hno⟩
      obtain ⟨oe, vs, he, hz, hd, Jx, Sx⟩ := suited (t := t) fl upx
      refine wpAny_handleBy_cons (codeAny_handlers_test ?_) (by intro q; cases q)
      have LT : PySem.W.Looks (model X.prog X.w) h (typeOf (.ref a)) cls := fun A Q E s k q => wpAny_typeOf_ref (k _ _ he) (by rw [hz.1]; exact q)
      refine name_looked hc Sx ((PySem.W.exm_one (M := model X.prog X.w) Jx.kIn LT hb1).here ?_)
      cases b with
      | false => exact ih h t fl upx (hno rfl)
      | true =>
        refine codeAny_handlers_suite_as (HandSPX.lands_againZ fl fun h4 fl4 up4 => ?_)
        obtain ⟨oe4, vs4, he4, hz4, hd4, J4, S4⟩ := suited (t := t) fl4 (upx.trans up4)
        refine store_ok (X := X.suite a ((a, oe4) :: (X.pn ++ pins))) (v := .ref a) S4 hN hi (.inl hln) rfl (fun s5 S5 => ?_) (.inr hln)
        refine wpAny_mono ((hsu a oe4 cls d (X.pn ++ pins) hz4 ⟨_, hd4⟩).run [] s5 _ H' _ S5 (hyes rfl a na)) (fun f s6 hsp => ?_) (fun _ _ z => False.elim z)
        have end_ : ∀ {σ6 : St} {H6 : Hp} {Q : Shared → Prop}, Inv (X.suite a ((a, oe4) :: (X.pn ++ pins))) [] σ6 H6 s6 → (∀ s7, Inv X pins (σ6.set i none) H6 s7 → Q s7) →
            wpAny (model X.prog X.w) X.A (do bindName X.env n .none; unbindBehindTheSuite X.env n pos') (fun _ s7 => Q s7) X.xe s6 := fun {σ6 H6 Q} S6 hq => gone_ok (S6.unsuite ok) hN hi hln hq
        cases f with
        | next =>
          obtain ⟨σ6, H6, S6, q6⟩ := hsp
          exact end_ S6 fun s7 J7 => ⟨_, _, J7, q6⟩
        | brk =>
          obtain ⟨σ6, H6, S6, q6⟩ := hsp
          exact end_ S6 fun s7 J7 => ⟨_, _, J7, q6⟩
        | cont =>
          obtain ⟨σ6, H6, S6, q6⟩ := hsp
          exact end_ S6 fun s7 J7 => ⟨_, _, J7, q6⟩
        | ret u =>
          obtain ⟨v6, σ6, H6, S6, r6, q6⟩ := hsp
          exact end_ S6 fun s7 J7 => ⟨_, _, _, J7, r6, q6⟩
    | @bare x c ts b₀ suite np pos' hds2 w2 hc hsu r ih =>
      rintro h t fl upx ⟨b, hb1, hyes, hno⟩
      obtain ⟨oe, vs, he, hz, hd, Jx, Sx⟩ := suited (t := t) fl upx
      refine wpAny_handleBy_cons (codeAny_handlers_test ?_) (by intro q; cases q)
      have LT : PySem.W.Looks (model X.prog X.w) h (typeOf (.ref a)) cls := fun A Q E s k q => wpAny_typeOf_ref (k _ _ he) (by rw [hz.1]; exact q)
      refine name_looked hc Sx ((PySem.W.exm_one (M := model X.prog X.w) Jx.kIn LT hb1).here ?_)
      cases b with
      | false => exact ih h t fl upx (hno rfl)
      | true =>
        refine codeAny_handlers_suite (HandSPX.lands_againZ fl fun h4 fl4 up4 => ?_)
        obtain ⟨oe4, vs4, he4, hz4, hd4, J4, S4⟩ := suited (t := t) fl4 (upx.trans up4)
        exact suite_runs ok hsu hz4 ⟨_, hd4⟩ S4 (hyes rfl a na)
    | @two x y c1 c2 ts b₀ suite p1 p2 tp pos' k hds2 w2 hc hc2 hsu r ih =>
      rintro h t fl upx ⟨b, hb1, hyes, hno⟩
      obtain ⟨oe, vs, he, hz, hd, Jx, Sx⟩ := suited (t := t) fl upx
      refine wpAny_handleBy_cons (codeAny_handlers_test ?_) (by intro q; cases q)
      refine Tuple_ (spliced_more (name_looked hc Sx (spliced_more (name_looked hc2 Sx (spliced_none ?_)))))
      refine wpAny_newObj_type ?_ (by show 2 ≤ sizeLine; decide)
      have fl2 : HandSPX.FlyingZ B (X.env :: X.outer) a (Zc cls d) (h.push { cls := .type "tuple", data := .seq [c1, c2].toArray }) := fly_push fl
      have up2 : s'.heap.UpToSlots (h.push { cls := .type "tuple", data := .seq [c1, c2].toArray }) := upx.trans (Heap.UpToSlots.of_keeps fun b o e => Heap.get?_push_of_some _ e)
      obtain ⟨oe2, vs2, he2, hz2, hd2, J2, S2⟩ := suited (t := t) fl2 up2
      have LT : PySem.W.Looks (model X.prog X.w) (h.push { cls := .type "tuple", data := .seq [c1, c2].toArray }) (typeOf (.ref a)) cls := fun A Q E s k q => wpAny_typeOf_ref (k _ _ he2) (by rw [hz2.1]; exact q)
      refine (PySem.W.exm_tup2 (M := model X.prog X.w) J2.kIn LT (Heap.get?_push_size _ rfl) hb1).here ?_
      cases b with
      | false => exact ih _ t fl2 up2 (hno rfl)
      | true =>
        refine codeAny_handlers_suite (HandSPX.lands_againZ fl2 fun h4 fl4 up4 => ?_)
        obtain ⟨oe4, vs4, he4, hz4, hd4, J4, S4⟩ := suited (t := t) fl4 (up2.trans up4)
        exact suite_runs ok hsu hz4 ⟨_, hd4⟩ S4 (hyes rfl a na)
  · cases f with
    | next =>
      obtain ⟨σ', H', J', q⟩ := hsp
      exact wpAny_execs_nil ⟨σ', H', J'.ofTry ok, q⟩
    | brk =>
      obtain ⟨σ', H', J', q⟩ := hsp
      exact ⟨σ', H', J'.ofTry ok, q⟩
    | cont =>
      obtain ⟨σ', H', J', q⟩ := hsp
      exact ⟨σ', H', J'.ofTry ok, q⟩
    | ret u =>
      obtain ⟨v, σ', H', J', r, q⟩ := hsp
      exact ⟨v, σ', H', J'.ofTry ok, r, q⟩
end
end L2

/-! PxRule: what rules of reading want -/
namespace Px
open PySem PySem.Spec PyProof.Rows L2
abbrev rUpper : V → List V → Hp → VK → Prop := fun x xs H Q => ∃ a, x = .str a ∧ xs = [] ∧ a.length ≤ 5592405 ∧ Q (.str (Txt.upper a)) H
/-- a text is not behind another one -/
abbrev rLeS : R2 := fun x y H Q => ∃ i j, x = .str i ∧ y = .str j ∧ Q (.bl (!decide (j.cps.toList < i.cps.toList))) H
theorem r_leS {i j : Str} {H : Hp} {Q : VK} (h : Q (.bl (!decide (j.cps.toList < i.cps.toList))) H) : rLeS (.str i) (.str j) H Q := ⟨i, j, rfl, rfl, h⟩
theorem op_leS {X : Cx} : OpR X (compareOp .LtE) rLeS := op_le_str
/-! ### list(text) -/
theorem vals_at : ∀ {xs : List V} {us : List Value}, us.length = xs.length → (∀ (j : Nat) x u, xs[j]? = some x → us[j]? = some u → RelV x u) → Vals xs us
  | [], [], _, _ => .nil
  | [], _ :: _, h, _ => by cases h
  | _ :: _, [], h, _ => by cases h
  | x :: xs, u :: us, h, k => .cons (k 0 x u rfl rfl) (vals_at (Nat.succ.inj h) fun j y w a b => k (j + 1) y w a b)
def rListTx : List V → Hp → VK → Prop := fun xs H Q => ∃ z : Str, xs = [.str z] ∧ z.length ≤ sizeLine ∧ ∀ l, H l = none → Q (.ref l) (upd H l (.lst (z.cps.toList.map fun c => V.str ⟨#[c]⟩)))
theorem call_listS {X : Cx} (hcal : X.calm = true) : CallR X (.type "list") rListTx := by
  intro pins s σ H xs us Q I r h
  obtain ⟨z, rfl, hz, q⟩ := h
  obtain ⟨u, rfl, t, rfl⟩ := vals1 r
  refine call_list_str (I.ok.hd hcal) z t (fun h' tk acc' c' kp e it => ?_) hz
  have hl : (z.cps.toList.map fun c => V.str ⟨#[c]⟩).length = z.length := by
    rw [List.length_map, Array.length_toList]
    rfl
  refine ⟨.ref s.heap.objs.size, _, I.laid (t' := tk) kp (Nat.le_refl _) (show ObjOk X.prog X.w _ h' _ (.lst _) from ⟨by rw [hl]; exact hz, acc'.toList, c', vals_at (by rw [hl, Array.length_toList]; exact it.1) fun j x u hx hu => ?_, by simpa using e⟩), rfl, q _ (I.hok.fresh (Nat.le_refl _))⟩
  rw [Array.getElem?_toList] at hu
  obtain ⟨c, tk2, hc, rfl⟩ := it.2 j u hu
  rw [List.getElem?_map, Array.getElem?_toList, hc] at hx
  cases hx
  exact ⟨tk2, rfl⟩
theorem r_listTx {z : Str} {H : Hp} {Q : VK} (hz : z.length ≤ sizeLine) (h : ∀ l, H l = none → Q (.ref l) (upd H l (.lst (z.cps.toList.map fun c => V.str ⟨#[c]⟩)))) : rListTx [.str z] H Q := ⟨z, rfl, hz, h⟩
end Px

/-! PxExm: whether an except clause names an exception's class, as a fact of the head; steps for suites of clauses of any kind -/
namespace Px
open PySem PySem.Spec PyProof.Rows L2 He
section
variable {K : PySem.W.Frag} {H : Hp} {σ : S} {D : Ends} {Q : VK}
theorem exm_any2 {cls c1 c2 : Value} {b1 b2 : Bool} (h1 : PySem.W.exmOne K cls c1 = some b1) (h2 : PySem.W.exmOne K cls c2 = some b2) : PySem.W.exmAny K cls [c1, c2] = some (b1 || b2) := by
  simp [PySem.W.exmAny, h1, h2]
theorem r_wAsNo {cls : Value} {C : Addr} {d : Option Addr} {i : Nat} {ts : Addr → Value → Option Addr → TS} {Wout : WX} (te : PySem.W.exmOne K cls (.ref C) = some false) (h : Wout cls d σ H) : wAs K (.ref C) i ts Wout D cls d σ H := ⟨false, te, (fun z => nomatch z), fun _ => h⟩
theorem r_wOnlyNo {cls : Value} {C : Addr} {d : Option Addr} {ts : Addr → Value → Option Addr → TS} {Wout : WX} (te : PySem.W.exmOne K cls (.ref C) = some false) (h : Wout cls d σ H) : wOnly K (.ref C) ts Wout D cls d σ H := ⟨false, te, (fun z => nomatch z), fun _ => h⟩
theorem r_wTwo1 {cls c1 c2 : Value} {d : Option Addr} {ts : Addr → Value → Option Addr → TS} {Wout : WX} {b2 : Bool} (h1 : PySem.W.exmOne K cls c1 = some true) (h2 : PySem.W.exmOne K cls c2 = some b2) (h : ∀ a, H a = none → ts a cls d D σ H) : wTwo K c1 c2 ts Wout D cls d σ H :=
  ⟨true, by rw [exm_any2 h1 h2]; rfl, fun _ => h, fun z => nomatch z⟩
theorem r_wTwo2 {cls c1 c2 : Value} {d : Option Addr} {ts : Addr → Value → Option Addr → TS} {Wout : WX} {b1 : Bool} (h1 : PySem.W.exmOne K cls c1 = some b1) (h2 : PySem.W.exmOne K cls c2 = some true) (h : ∀ a, H a = none → ts a cls d D σ H) : wTwo K c1 c2 ts Wout D cls d σ H :=
  ⟨true, by rw [exm_any2 h1 h2, Bool.or_true], fun _ => h, fun z => nomatch z⟩
theorem r_wTwoNo {cls c1 c2 : Value} {d : Option Addr} {ts : Addr → Value → Option Addr → TS} {Wout : WX} (h1 : PySem.W.exmOne K cls c1 = some false) (h2 : PySem.W.exmOne K cls c2 = some false) (h : Wout cls d σ H) : wTwo K c1 c2 ts Wout D cls d σ H :=
  ⟨false, by rw [exm_any2 h1 h2]; rfl, (fun z => nomatch z), fun _ => h⟩
end
/-! ### defs with defaults that are all written in the call -/
section
variable {K : PySem.W.Frag} {x qual : Str} {params : Arguments} {body : List Stmt} {scope : Scope} {dvs : List V} {kws : List (Str × V)} {f : Addr} {fd : FuncData} {ps : List Str}
theorem binds_all (F : FunD K x qual params body scope dvs kws f fd) (hd : dvs ≠ [])
    (h : ∀ (T : Addr) (kV doc pm : Value) (an : Option Addr) (cdv ct : Value) (us its : List Value), us.length = ps.length → its.length = dvs.length →
      ∃ k, bindArgs (PySem.W.fnOf x qual params body scope (.ref T) kV doc pm an cdv ct) ⟨us, []⟩ = seqItems? (.ref T) >>= k ∧ k (some its.toArray) = pure (ps.zip us)) : Binds K fd ps [] := by
  obtain ⟨ds, r, b⟩ := FunD.binds1 (ps := ps) F ps.length dvs.length hd (by omega) fun T kV doc pm an cdv ct us its h1 h2 => by
    obtain ⟨k, e1, e2⟩ := h T kV doc pm an cdv ct us its h1 h2
    refine ⟨k, e1, ?_⟩
    rw [← h2, List.drop_length, List.append_nil]
    exact e2
  rw [List.drop_length] at r
  cases r
  exact b
end
end Px

/-! PxLcX: [e for x in it], the element lets something out -/
namespace Px
open PySem PySem.Spec PyProof.Rows L2 LamX NdefX
/-- where the block's own names live -/
abbrev BkC (s : Shared) : Addr := s.heap.objs.size
/-- the block's context, what its element may let out told by E -/
abbrev BkR (X : Cx) (s : Shared) (H : Hp) (scope : Scope) (fp : List Addr) (E : XK) : Cx :=
  (Bk X s H scope fp).wish fun e s' => ∃ (pins : List (Addr × Obj)) (σ : LS) (H1 : Hp) (s1 : Shared), Inv (Bk X s H scope fp) pins σ H1 s1 ∧ L2.CX X.prog X.w X.stack H1 s1 E e s'
section
variable {X : Cx} {pins : List (Addr × Obj)} {s3 : Shared} {σ : LS} {H3 : Hp} {scope : Scope} {fp : List Addr} {us : List Nat} {E : XK}
theorem ok_wish {Y : Cx} {xe : Value → Shared → Prop} (k : Y.Ok) : (Y.wish xe).Ok := ⟨k.mod, k.kind, k.glob, k.blt, k.above, k.inj, k.has, k.cab, k.hd, k.frames, k.stk, k.exf, k.bs, k.bsz, k.noex, k.exfs, k.funs, k.frf⟩
theorem ok_unwish {Y : Cx} {xe : Value → Shared → Prop} (k : (Y.wish xe).Ok) : Y.Ok := ⟨k.mod, k.kind, k.glob, k.blt, k.above, k.inj, k.has, k.cab, k.hd, k.frames, k.stk, k.exf, k.bs, k.bsz, k.noex, k.exfs, k.funs, k.frf⟩
theorem inv_wish {Y : Cx} {xe : Value → Shared → Prop} {pins : List (Addr × Obj)} {σ : LS} {H : Hp} {s : Shared} (I : Inv Y pins σ H s) : Inv (Y.wish xe) pins σ H s := ⟨ok_wish I.ok, I.os, I.bare, I.base, I.loc, I.cell, I.free, I.freeC, I.pin, I.hok, I.len⟩
theorem inv_unwish {Y : Cx} {xe : Value → Shared → Prop} {pins : List (Addr × Obj)} {σ : LS} {H : Hp} {s : Shared} (I : Inv (Y.wish xe) pins σ H s) : Inv Y pins σ H s := ⟨ok_unwish I.ok, I.os, I.bare, I.base, I.loc, I.cell, I.free, I.freeC, I.pin, I.hok, I.len⟩
/-- a call in the element lets out what E tells of -/
theorem pass_blk (σ : LS) : PassesAt (L2.CX X.prog X.w) (BkR X s3 H3 scope fp E) σ (WE (fun cls d _ H => E cls d H) σ) := fun pins H s e s' I c => ⟨pins, σ, H, s, inv_unwish I, c⟩
theorem hid_ne {h : Heap} {C b : Addr} {o : Obj} (e : h.get? b = some o) (n : b ≠ C) : (PySem.W.hideAll h [C]).get? b = some o := PySem.W.hideAll_get _ e fun m => n (List.mem_singleton.mp m)
theorem hid_of {h : Heap} {C b : Addr} {o : Obj} (e : (PySem.W.hideAll h [C]).get? b = some o) : h.get? b = some o ∧ b ≠ C := ⟨PySem.W.of_hideAll _ e, fun z => by
  rw [z, PySem.W.hideAll_none _ (List.mem_singleton.mpr rfl)] at e
  cases e⟩
theorem hid_none {h : Heap} {C b : Addr} (e : h.get? b = none) : (PySem.W.hideAll h [C]).get? b = none := by
  cases q : (PySem.W.hideAll h [C]).get? b with
  | none => rfl
  | some o => rw [(hid_of q).1] at e; cases e
theorem hok_hid {P : Program} {w : World} {H : Hp} {h : Heap} {C : Addr} (k : HOk P w H h) (n : H C = none) : HOk P w H (PySem.W.hideAll h [C]) := fun b o q =>
  (k b o q).stay (fun c u hc r => hid_ne r fun z => by
    rcases hc with hc | hc
    · rw [← hc, z, n] at q; cases q
    · rw [z, n] at hc; cases hc) (fun _ r => r) fun _ _ r => r
/-- what the def knew is known still, the block's own names put aside -/
theorem Marks.outC (M : Marks X pins H3 s3 fp) (I3 : Inv X pins σ H3 s3) {pins' : List (Addr × Obj)} {σ' : LS} {H' : Hp} {s' : Shared} (J : Inv (Bk X s3 H3 scope fp) pins' σ' H' s') :
    Inv X pins σ H' { s' with heap := PySem.W.hideAll s'.heap [BkC s3] } := by
  have u : Un (frs X.stack) fp H3 H' s3.heap s'.heap := J.base
  have ne : ∀ {b o}, s3.heap.get? b = some o → b ≠ BkC s3 := fun e => Nat.ne_of_lt (Heap.lt_size e)
  refine I3.call' (ch := fp) J.os ⟨fun b o e n hb hx => hid_ne (u.keep b o e n hb hx) (ne e), fun b o e n hb hx => ?_, fun b o e n hx => u.free b o e n hx, fun b o e hx => ?_, u.tups, u.frzs, u.tbls⟩ (hok_hid J.hok J.free) J.bare fun b hb => ?_
  · obtain ⟨sl, q⟩ := u.slot b o e n hb hx
    exact ⟨sl, hid_ne q (ne e)⟩
  · obtain ⟨o', q⟩ := u.there b o e hx
    exact ⟨o', hid_ne q (ne e)⟩
  · have f := (M b hb).1
    exact ⟨f.2.2.2.1, f.2.1, f.2.2.2.2.1, f.2.2.2.2.2⟩
theorem traced_hid {h B : Heap} {C a : Addr} {Z : Obj → Prop} {fl : Value} (t : HandSPX.TracedZ h B a Z fl) : HandSPX.TracedZ h (PySem.W.hideAll B [C]) a Z fl := by
  obtain ⟨oe, vs, T, oT, ts, he, hz, hd, h1, hnT, r⟩ := t
  exact ⟨oe, vs, T, oT, ts, he, hz, hd, h1, hid_none hnT, r⟩
theorem flying_hid {h B : Heap} {C a : Addr} {l : List Env} {Z : Obj → Prop} (f : HandSPX.FlyingZ B l a Z h) : HandSPX.FlyingZ (PySem.W.hideAll B [C]) l a Z h :=
  ⟨fun b o e => f.1 b o (hid_of e).1, hid_none f.2.1, funFrames_none f.2.2.1 fun L hL => hid_none (f.2.2.1.mem hL).1, traced_hid f.2.2.2⟩
/-- a call's exception, the block's names neither in the ground nor in the state -/
theorem call_ground {H : Hp} {s s' : Shared} {C : Addr} {m : Str → Option Value} {u : Value} (I : Inv X pins σ H { s with heap := PySem.W.hideAll s.heap [C] }) (nC : H C = none) (nF : C ∉ frs X.stack) (hC : s.heap.Ns C m) (c : L2.CX X.prog X.w X.stack H s E u s') :
    ∃ (a : Addr) (B : Heap) (sI : Shared) (H' : Hp) (cls : Value) (d : Option Addr), u = .ref a ∧ Inv X pins σ H' sI ∧ (∀ b o, sI.heap.get? b = some o → b ∉ frs X.stack → B.get? b = some o) ∧ sI.heap.UpToSlots s'.heap ∧
      HandSPX.FlyingZ B X.stack a (Zc cls d) s'.heap ∧ H' a = none ∧ s'.os = sI.os ∧ AllBare s'.gens ∧ E cls d H' ∧ B.get? C = none ∧ sI.heap.get? C = none ∧ s'.heap.Ns C m := by
  obtain ⟨a, B0, H', cls, d, rfl, fl0, hok0, ub, na, os, ag, hE⟩ := c
  have hCs : s'.heap.Ns C m := by
    obtain ⟨o, es, ep, e, r⟩ := hC
    exact ⟨o, es, ep, fl0.1 C o (ub.keep C o e nC nF), r⟩
  have nC' : H' C = none := by
    obtain ⟨o, es, ep, e, r⟩ := hC
    exact ub.free C o e nC
  have fl := flying_hid (C := C) fl0
  have hok := hok_hid hok0 nC'
  generalize eB : PySem.W.hideAll B0 [C] = B at fl hok
  have bk : ∀ {b o}, B0.get? b = some o → b ≠ C → B.get? b = some o := fun e n => by rw [← eB]; exact hid_ne e n
  have bC : B.get? C = none := by rw [← eB]; exact PySem.W.hideAll_none _ (List.mem_singleton.mpr rfl)
  obtain ⟨G, g1, g2⟩ := restrict s'.heap fun b => (B.get? b).isSome || decide (b ∈ frs X.stack)
  have st : B.StaysIn s'.heap := fl.1
  have gB : ∀ b o, B.get? b = some o → G.get? b = some o := fun b o e => by
    rw [g1 b (by simp [e])]
    exact st b o e
  have gF : ∀ b, b ∈ frs X.stack → G.get? b = s'.heap.get? b := fun b hb => g1 b (by simp [hb])
  have og : ∀ b o, G.get? b = some o → s'.heap.get? b = some o ∧ ((B.get? b).isSome = true ∨ b ∈ frs X.stack) := fun b o e => by
    cases q : ((B.get? b).isSome || decide (b ∈ frs X.stack)) with
    | false => rw [g2 b q] at e; cases e
    | true =>
      rw [g1 b q] at e
      exact ⟨e, by simpa [Bool.or_eq_true] using q⟩
  refine ⟨a, B, { s with heap := G, gens := s'.gens, drawn := s'.drawn, toks := s'.toks }, H', cls, d, rfl, ?_, fun b o e hb => ?_, Heap.UpToSlots.of_keeps fun b o e => (og b o e).1, fl, na, os, ag, hE, bC, ?_, hCs⟩
  · refine I.call' (s' := { s with heap := G, gens := s'.gens, drawn := s'.drawn, toks := s'.toks }) (ch := []) rfl ⟨fun b o e n hb _ => ?_, fun b o e n hb _ => ?_, fun b o e n _ => ub.free b o (hid_of e).1 n, fun b o e _ => ?_, ub.tups, ub.frzs, ub.tbls⟩ (hok.kept gB) ag (fun _ z => nomatch z)
    · exact gB b o (bk (ub.keep b o (hid_of e).1 n hb) (hid_of e).2)
    · obtain ⟨sl, q⟩ := ub.slot b o (hid_of e).1 hb
      exact ⟨sl, by rw [gF b hb]; exact q⟩
    · by_cases hb : b ∈ frs X.stack
      · obtain ⟨sl, q⟩ := ub.slot b o (hid_of e).1 hb
        exact ⟨_, by rw [gF b hb]; exact q⟩
      · obtain ⟨o', q⟩ := ub.there b o (hid_of e).1 hb
        exact ⟨o', gB b o' (bk q (hid_of e).2)⟩
  · obtain ⟨e', h⟩ := og b o e
    rcases h with h | h
    · obtain ⟨o', q⟩ := Option.isSome_iff_exists.mp h
      have z := st b o' q
      rw [e'] at z; cases z
      exact q
    · exact absurd h hb
  · exact g2 C (by simp [bC, nF])
/-- it goes on from the block into the def -/
theorem blk_raises (hs : X.stack = X.env :: X.outer) (hf : X.env.frame = some X.env.locals) (tk : Takes X (fun cls d _ H => E cls d H)) (M : Marks X pins H3 s3 fp) (I3 : Inv X pins σ H3 s3) {e : Value} {s' : Shared}
    (x : ∃ (pins : List (Addr × Obj)) (σ : LS) (H1 : Hp) (s1 : Shared), Inv (Bk X s3 H3 scope fp) pins σ H1 s1 ∧ L2.CX X.prog X.w X.stack H1 s1 E e s') :
    notedBy (model X.prog X.w) X.A (Bk X s3 H3 scope fp).env (fun e s' => CompFails (model X.prog X.w) X.A X.xe (Bk X s3 H3 scope fp).env e s') e s' := by
  obtain ⟨pins', σ', H1, s1, J, c⟩ := x
  have I1 := Marks.outC M I3 J
  obtain ⟨m, hC, _⟩ := J.loc
  have nF : BkC s3 ∉ frs X.stack := fun hm => by
    obtain ⟨_, o, e, _⟩ := I3.stack.mem hm
    exact Nat.lt_irrefl _ (Heap.lt_size e)
  obtain ⟨a, B, sI, H', cls, d, rfl, I, nb, up, fl, na, os, ag, hE, bC, sC, hC'⟩ := call_ground I1 J.free nF hC c
  have hfr : X.A.frames = some (X.env :: X.outer) := by rw [I3.ok.frames, hs]
  rw [hs] at fl
  show wpAny _ _ (noteFrame (.ref a) (Bk X s3 H3 scope fp).env) _ _ s'
  rw [noteFrame_env (cenv := (Bk X s3 H3 scope fp).env) (env := X.env) _ rfl]
  refine HandSPX.looks_onZ Zc.steady hfr hf fl fun h2 hh up2 => ?_
  refine ⟨m, hC'.upToSlots up2, fun h3 m3 hn3 hs3 => ?_⟩
  have hC2 := hC'.upToSlots up2
  obtain ⟨b1, b0, f1, oe, vs, T, oT, ts, he, hz, hd, h1, hnT, hTe, hT, hdT, h3'⟩ := hh
  have neC : ∀ {b o ws}, h2.get? b = some o → o.data = .fields ws → b ≠ BkC s3 := fun e dd z => by
    obtain ⟨o', es, ep, e', d', _⟩ := hC2
    rw [z] at e
    rw [show h2.get? (BkC s3) = some o' from e'] at e
    cases e
    rw [dd] at d'
    cases d'
  have hh3 : HandSPX.HeldZ B (X.env :: X.outer) a (Zc cls d) X.env.locals h3 :=
    ⟨fun b o e => (hs3.2 b fun z => by rw [show b = BkC s3 from z, show B.get? (BkC s3) = none from bC] at e; cases e).trans (b1 b o e), b0, Heap.FunFrames.sameBut hs3 hn3 f1, oe, vs, T, oT, ts, (hs3.2 a (neC he hd)).trans he, hz, hd, h1, hnT, hTe, (hs3.2 T (neC hT hdT)).trans hT, hdT, h3'⟩
  unfold PySem.passOn
  refine wpAny_bind (wpAny_field ((hs3.2 a (neC he hd)).trans he) hd h1 ?_)
  rw [if_neg (show ¬ ((Value.ref T == Value.none) = true) from by simp)]
  have fin : wpAny (model X.prog X.w) X.A (setFlight (.ref a) X.env.frame) (fun _ s4 => wpAny (model X.prog X.w) X.A (throw (.ref a) : Sem Value) (fun _ _ => False) X.xe s4) X.xe { s' with heap := h3 } := by
    rw [hf]
    refine HandSPX.setFlight_onZ hh3 fun h4 hh4 up4 => wpAny_throw (tk _ _ ?_)
    refine ⟨a, B, sI, pins, σ, H', cls, d, rfl, I, nb, fun b o e hnf => ?_, .inr (.inr (by rw [hs]; exact hh4)), na, os, ag, hE⟩
    obtain ⟨sl1, e1⟩ := up b o e hnf
    obtain ⟨sl2, e2⟩ := up2 b _ e1 hnf
    have nb' : b ≠ BkC s3 := fun z => by rw [z, show sI.heap.get? (BkC s3) = none from sC] at e; cases e
    obtain ⟨sl3, e3⟩ := up4 b _ ((hs3.2 b nb').trans e2) hnf
    exact ⟨sl3, e3⟩
  first
    | exact wpAny_bind (wpAny_pure (wpAny_bind fin))
    | exact wpAny_bind fin
theorem lcX_told {s : Shared} {H : Hp} {Q : VK} {elt tg iter : Expr} {own : List (Str × Nat)} {pos pos' : Pos} {wi : TI} {g : TG} {te : TE} {use : Option (Value → Sem Unit)} {Qf : Value → Shared → Prop} (hc : X.calm = true) (hN : X.N.Nodup) (I : Inv X pins σ H s)
    (hsX : X.stack = X.env :: X.outer) (hfX : X.env.frame = some X.env.locals) (tk : Takes X (fun cls d _ H => E cls d H))
    (hi : PI X tg iter wi) (ok : BlkOk X.N X.env.scope scope own) (hg : ∀ (s : Shared) (H : Hp) (fp : List Addr), PG (Bk X s H scope fp) tg g) (he : ∀ (s : Shared) (H : Hp) (fp : List Addr), PE (BkR X s H scope fp E) elt te)
    (hs : ∀ x, foldedSetIterable iter X.env x = pure x) (h : tLc wi g tYes te (own.map (·.2)) σ H Q)
    (end_ : ∀ D C cenv s' m H', cenv.locals = C → Inv X pins σ H' s' → Q (.ref D) H' → s'.heap.Ns C m → FpOk X pins H' C → compEnds (model X.prog X.w) X.A X.xe use Qf (.ref D) cenv (.ok .next) s') :
    wpAny (model X.prog X.w) X.A (comprehension (.ListComp elt [⟨tg, iter, [], 0⟩] scope pos) scope X.env pos' (newList []) false (eval iter X.env) use) Qf X.xe s := by
  have caps : ∀ y ∈ scope.names, y.2 = .free → ∃ c, X.env.cells.lookup y.1 = some c := fun y hy e => (ok.free y hy e).elim (fun k => I.ok.has _ (.inl k)) fun k => I.ok.has _ (.inr k)
  refine comprehension_at (use := use) rfl hs (closure_ok caps) ok.kind (fun y hy e => by rw [ok.uniq y hy, e]) (thn (hi.run pins s σ H _ I h) fun xv s1 hx => thn hx fun itv s2 hit => ?_)
  obtain ⟨it, fp, tn, J, H2, rfl, I2, T, st2, f2, q⟩ := hit
  refine wpAny_newObj_type (newEnv_comp ?_) (by show 0 ≤ sizeLine; decide)
  have newD : H2 s2.heap.objs.size = none := I2.hok.fresh (Nat.le_refl _)
  obtain ⟨W, ⟨m0, w0⟩, turn⟩ := q s2.heap.objs.size newD
  generalize eH : upd H2 s2.heap.objs.size (.lst []) = H3 at w0
  generalize es : ({ s2 with heap := s2.heap.push { cls := .type "list", data := .seq ([] : List Value).toArray } } : Shared) = s3
  have hh : s3.heap = s2.heap.push { cls := .type "list", data := .seq ([] : List Value).toArray } := by rw [← es]
  have I3 : Inv X pins σ H3 s3 := by
    rw [← es, ← eH]
    exact I2.laid (t' := s2.toks) (fun b o e => Heap.get?_push_of_some _ e) (Nat.le_refl _) ⟨Nat.zero_le _, [], 0, .nil, Heap.get?_push_size _ rfl⟩
  have M : Marks X pins H3 s3 fp := fun b hb => by
    obtain ⟨o, e, _⟩ := T.obj _ _ st2 b hb
    have lt := Heap.lt_size e
    refine ⟨⟨?_, (f2 b hb).2⟩, by rw [hh, Heap.size_push]; exact Nat.lt_succ_of_lt lt⟩
    rw [← eH, upd_ne (Nat.ne_of_lt lt)]
    exact (f2 b hb).1
  have I4 := block_start I3 ok hN M
  have st3 : tn 0 s3.heap := T.keep _ _ _ st2 fun b _ o e => by rw [hh]; exact Heap.get?_push_of_some _ e
  show codeAny _ _ (.compStart (.ListComp elt [⟨tg, iter, [], 0⟩] scope pos) 0 (.ref it) (.ref s2.heap.objs.size) (Bk X s3 H3 scope fp).env) (compEnds (model X.prog X.w) X.A X.xe use Qf (.ref s2.heap.objs.size) (Bk X s3 H3 scope fp).env) { s3 with heap := pushCells (s3.heap.push { cls := .type "dict", data := .dict #[] }) scope.names }
  generalize e4 : ({ s3 with heap := pushCells (s3.heap.push { cls := .type "dict", data := .dict #[] }) scope.names } : Shared) = s4 at I4 ⊢
  have st4 : tn 0 s4.heap := T.keep _ _ _ st3 fun b _ o e => by rw [← e4]; exact pushCells_keeps _ _ _ _ (Heap.get?_push_of_some _ e)
  have bad : ∀ {e : Value} {s' : Shared}, (BkR X s3 H3 scope fp E).xe e s' → notedBy (model X.prog X.w) X.A (Bk X s3 H3 scope fp).env (fun e s' => compEnds (model X.prog X.w) X.A X.xe use Qf (.ref s2.heap.objs.size) (Bk X s3 H3 scope fp).env (.error e) s') e s' := fun x => by
    have z := blk_raises hsX hfX tk M I3 x
    cases use with
    | none => exact z
    | some u => exact z
  refine codeAny_compStart_list ?_ (T.self X.A 0 _ _ _ st4 ?_) <;>
  · refine compLoop_any (AtTurn X s3 H3 scope fp (own.map (·.2)) σ tn W) ?_ m0 ⟨0, H3, I4, st4, fun b hb => (M b hb).1.1, w0⟩
    rintro n s5 ⟨i, H5, I5, st5, n5, w5⟩
    rcases turn i n H5 w5 with ⟨stop, done⟩ | ⟨go, Nx, hNx, step⟩
    · refine thnF (T.done (Bk X s3 H3 scope fp) rfl rfl rfl hc i [] s5 _ H5 (fun _ _ => False) I5 (marks_in I5 n5) st5 stop) fun r s6 ⟨hr, I6⟩ => ?_
      subst hr
      obtain ⟨m, hn, _⟩ := I6.loc
      exact end_ _ _ _ s6 m H5 rfl (M.out I3 I6) done hn (I3.fpOk (Nat.le_refl _) I6.free)
    · refine thnF (T.item (Bk X s3 H3 scope fp) rfl rfl rfl hc i [] s5 _ H5 (fun _ _ => False) I5 (marks_in I5 n5) st5 go) fun r s6 ⟨u, hr, h6⟩ => ?_
      subst hr
      refine thnF h6 fun _ s7 ⟨x, H7, I7, r7, y7, st7, n7⟩ => ?_
      refine thnF ((hg s3 H3 fp).run _ s7 _ H7 x u _ (I7.pinned (marks_in I7 n7) (T.obj _ _ st7)) r7 (step x H7 y7)) fun _ s8 ⟨σ8, H8, I8, hw, q8⟩ => ?_
      refine wpAny_tests_nil ?_
      have q8 : te σ8 H8 fun y H4 => ∃ acc, H4 s2.heap.objs.size = some (.lst acc) ∧ acc.length < sizeLine ∧ Nx (upd H4 s2.heap.objs.size (.lst (acc ++ [y]))) := q8
      rw [if_pos rfl]
      refine wpAny_mono ((he s3 H3 fp).run _ s8 σ8 H8 _ (inv_wish I8) q8) (fun z s9 ⟨yv, H9, I9', r9, acc, hD, hz, nx⟩ => ?_) (fun e s9 x => bad x)
      have I9 := inv_unwish I9'
      refine app_ok (X := Bk X s3 H3 scope fp) I9 hD hz r9 fun s' K => ?_
      obtain ⟨m', hm, w'⟩ := hNx _ nx
      exact at_next T st7 K hw hm w'
theorem pe_lcX {elt tg iter : Expr} {own : List (Str × Nat)} {pos : Pos} {wi : TI} {g : TG} {te : TE} (hc : X.calm = true) (hN : X.N.Nodup) (hsX : X.stack = X.env :: X.outer) (hfX : X.env.frame = some X.env.locals) (tk : Takes X (fun cls d _ H => E cls d H)) (hi : PI X tg iter wi) (ok : BlkOk X.N X.env.scope scope own)
    (hg : ∀ (s : Shared) (H : Hp) (fp : List Addr), PG (Bk X s H scope fp) tg g) (he : ∀ (s : Shared) (H : Hp) (fp : List Addr), PE (BkR X s H scope fp E) elt te) (hs : ∀ x, foldedSetIterable iter X.env x = pure x := by intro _; rfl) :
    PE X (.ListComp elt [⟨tg, iter, [], 0⟩] scope pos) (tLc wi g tYes te (own.map (·.2))) := by
  refine ⟨fun pins s σ H Q I h => ?_⟩
  rw [eval_ListComp]
  exact lcX_told hc hN I hsX hfX tk hi ok hg he hs h fun D C cenv s' m H' ec K q hn f => ⟨m, by rw [ec]; exact hn, fun h'' sb => ⟨.ref D, H', K.turned (t' := s'.toks) (fun b o hb e => (sb.2 b (by rw [ec]; exact hb)).trans e) f.1 f.2.1 f.2.2.2.1 f.2.2.2.2.1 f.2.2.2.2.2, rfl, q⟩⟩
/-- name = [..] on one line, the name a local -/
theorem ps_setLcX {i : Nat} {y : Str} {py : Pos} {elt tg iter : Expr} {own : List (Str × Nat)} {pos spos : Pos} {wi : TI} {g : TG} {te : TE} (hc : X.calm = true) (hN : X.N.Nodup) (hy : X.N[i]? = some y) (hyl : X.env.scope.names.lookup y = some .local)
    (hsw : swapsWith (.ListComp elt [⟨tg, iter, [], 0⟩] scope pos) (some (.Name y py)) spos.line X.env = pure true) (hsX : X.stack = X.env :: X.outer) (hfX : X.env.frame = some X.env.locals) (tk : Takes X (fun cls d _ H => E cls d H)) (hi : PI X tg iter wi) (ok : BlkOk X.N X.env.scope scope own)
    (hg : ∀ (s : Shared) (H : Hp) (fp : List Addr), PG (Bk X s H scope fp) tg g) (he : ∀ (s : Shared) (H : Hp) (fp : List Addr), PE (BkR X s H scope fp E) elt te) (hs : ∀ x, foldedSetIterable iter X.env x = pure x := by intro _; rfl) :
    PS X (.Assign [.Name y py] (.ListComp elt [⟨tg, iter, [], 0⟩] scope pos) spos) (tAsg (tLc wi g tYes te (own.map (·.2))) (gName i)) := by
  refine ⟨fun pins s σ H D I h => ?_⟩
  rw [exec_Assign_Name_used _ _ _ _ hsw]
  refine wpAny_bind (wpAny_standAt (wpAny_bind ?_))
  show wpAny _ X.A (do let _ ← comprehension (.ListComp elt [⟨tg, iter, [], 0⟩] scope pos) scope X.env (firstIterPos [⟨tg, iter, [], 0⟩] pos) (newList []) false (eval iter X.env) (some (assign (.Name y py) X.env))) _ _ s
  have h : tLc wi g tYes te (own.map (·.2)) σ H (fun x H1 => gName i x σ H1 D.nx) := h
  refine wpAny_bind (thn (lcX_told (Qf := fun _ s' => SP X pins D .next s') hc hN I hsX hfX tk hi ok hg he hs h fun L C cenv s' m H' ec I' q hn f => ?_) fun _ s' hq => wpAny_pure (wpAny_pure hq))
  show wpAny _ _ (assign (.Name y py) X.env (.ref L)) _ _ _
  refine wpAny_assign_Name (store_ok2 (v := V.ref L) I' hN hy (.inl hyl) rfl (fun s2 I2 ⟨a, sb, ha⟩ => ?_) (.inr hyl))
  obtain ⟨f0, f1, f2, f3, f4, f5⟩ := f
  have haC : C ≠ a := by
    rcases ha with z | z
    · rw [z]; exact f1
    · exact fun e => f4 y a z e.symm
  refine ⟨m, by rw [ec]; exact hn.sameBut sb haC, fun h3 sb3 => ?_⟩
  exact ⟨_, H', I2.turned (t' := s2.toks) (fun b o hb e => (sb3.2 b (by rw [ec]; exact hb)).trans e) f0 f1 f3 f4 f5, q⟩
end
end Px

/-! PxRead: what reading wants: a list that is extended, int(text, 16) -/
namespace Px
open PySem PySem.Spec PyProof.Rows L2
theorem ip_ext {X : Cx} : PIp X .Add rExt2 := fun pins s σ H x y v u Q I rx ry h => iop_ext pins s σ H x y v u Q I rx ry h
theorem r_ext {l b : Addr} {xs zs : List V} {H : Hp} {P : V → Hp → Prop} (h1 : H l = some (.lst xs)) (h2 : H b = some (.lst zs)) (h3 : xs.length + zs.length ≤ sizeLine) (h : P (.ref l) (upd H l (.lst (xs ++ zs)))) : rExt2 (.ref l) (.ref b) H P := ⟨l, b, xs, zs, rfl, rfl, h1, h2, h3, h⟩
theorem r_intHex {l : List Nat} {H : Hp} {Q : VK} (h1 : l ≠ []) (h2 : l.length ≤ 640) (h3 : ∀ c ∈ l, Hx.IsHex c) (h : Q (.int ((Hx.hexNum l : Nat) : Int)) H) : rIntHex [.str (SX.S l), .int 16] H Q := ⟨l, rfl, h1, h2, h3, h⟩
end Px

/-! PxKw: keyword-only parameters that lack in the middle -/
namespace Px
open PySem PySem.Spec PyProof.Rows L2
theorem vals_take : ∀ (n : Nat) {vs : List V} {us : List Value}, Vals vs us → Vals (vs.take n) (us.take n)
  | 0, _, _, _ => .nil
  | _ + 1, [], [], _ => .nil
  | n + 1, _ :: _, _ :: _, .cons h t => .cons h (vals_take n t)
theorem vals_drop : ∀ (n : Nat) {vs : List V} {us : List Value}, Vals vs us → Vals (vs.drop n) (us.drop n)
  | 0, _, _, h => h
  | _ + 1, [], [], _ => .nil
  | n + 1, _ :: _, _ :: _, .cons _ t => vals_drop n t
end Px

namespace Px
open PySem PySem.Spec PyProof.Rows L2
/-! ### text * number, many times -/
def rMulW : R2 := fun x y H Q => ∃ (a : Str) (n : Nat), x = .str a ∧ y = .int n ∧ a.length ≤ 1000 ∧ n ≤ 1000000 ∧ a.length * n ≤ sizeLine ∧ Q (.str (strRep a n)) H
theorem op_mulW {X : Cx} : OpR X (binaryOp .Mult) rMulW := by
  intro pins s σ H x y v u Q I rx ry h
  obtain ⟨a, n, rfl, rfl, ha, hn, hz, q⟩ := h
  obtain ⟨t, rfl⟩ := rx
  obtain ⟨t2, rfl⟩ := ry
  have dv : 1000 ≤ (2 ^ 63 - 1 : Int) / (1000 : Int) := by decide
  refine PySem.P.mul_str (by
    rw [decide_eq_false (by omega), decide_eq_false (by omega)]; rfl) (fun h1 _ z => ?_) (fun h1 _ => ?_) ?_
  · have h3 : (1000 : Int) ≤ (2 ^ 63 - 1) / (n : Int) := (Int.le_ediv_iff_mul_le (by omega)).mpr (by omega)
    omega
  · unfold Builtin.Str.tooLong
    rw [Int.toNat_natCast]
    refine decide_eq_false ?_
    omega
  by_cases h1 : (n : Int) < 1
  · rw [if_pos h1]
    have e : n = 0 := by omega
    subst e
    exact ⟨by decide, ⟨.str (strRep a 0), H, I.tok _, ⟨_, rfl⟩, q⟩⟩
  · rw [if_neg h1]
    by_cases h2 : ((n : Int) == 1 || a.length == 0) = true
    · rw [if_pos h2]
      have e : strRep a n = a := by
        unfold strRep
        rcases Bool.or_eq_true_iff.mp h2 with z | z
        · have z := beq_iff_eq.mp z
          have : n = 1 := by omega
          subst this
          simp
        · have z : a.cps.size = 0 := beq_iff_eq.mp z
          have : a.cps = #[] := Array.eq_empty_of_size_eq_zero z
          have e2 : a = ⟨#[]⟩ := by
            show a = _
            rw [← this]
          rw [e2]
          simp
      rw [e] at q
      exact ⟨.str a, H, I, ⟨_, rfl⟩, q⟩
    · rw [if_neg h2]
      have e : (⟨(List.replicate (Int.toNat n) a.cps).foldl (· ++ ·) #[]⟩ : Str) = strRep a n := by
        rw [rep_fold, Int.toNat_natCast]
        unfold strRep
        simp
      rw [e]
      refine ⟨?_, ⟨.str (strRep a n), H, I.tok _, ⟨_, rfl⟩, q⟩⟩
      unfold strRep
      show (List.replicate n a.cps.toList).flatten.toArray.size ≤ sizeLine
      have : a.cps.toList.length = a.length := Array.length_toList
      simp only [List.size_toArray, List.length_flatten, List.map_replicate, List.sum_replicate_nat]
      rw [this, Nat.mul_comm]
      exact hz
end Px

namespace Px
open PySem PySem.Spec PyProof.Rows L2
/-! ### s.rfind(t): where a sign stands last -/
abbrev rRfind : V → List V → Hp → VK → Prop := fun x xs H Q => ∃ a b, x = .str a ∧ xs = [.str b] ∧ Q (.int (Txt.rfind a b)) H
theorem mt_rfindU {X : Cx} : MtR X "str.rfind" rRfind := mt_rfind
theorem rfind_spec (x : Str) (c : Nat) : (Txt.rfind x ⟨#[c]⟩ = -1 ∧ ∀ i : Nat, x.cps.toList[i]? ≠ some c) ∨ ∃ i : Nat, Txt.rfind x ⟨#[c]⟩ = (i : Int) ∧ x.cps.toList[i]? = some c ∧ ∀ k : Nat, i < k → x.cps.toList[k]? ≠ some c := by
  unfold Txt.rfind
  rcases PySem.StrLaws.last_spec x ⟨#[c]⟩ with ⟨e, h⟩ | ⟨i, e, h1, h2⟩
  · rw [e]
    exact .inl ⟨rfl, fun i z => h i ((PySem.StrLaws.subAt_one x c i).mpr z)⟩
  · rw [e]
    exact .inr ⟨i, rfl, (PySem.StrLaws.subAt_one x c i).mp h1, fun k hk z => h2 k hk ((PySem.StrLaws.subAt_one x c k).mpr z)⟩
end Px

/-! rows of signs, over lists of numbers -/
namespace KR
/-- rows with a line feed between -/
def jn : List (List Nat) → List Nat
  | [] => []
  | [x] => x
  | x :: y :: r => x ++ 10 :: jn (y :: r)
theorem jn_cons {x : List Nat} {r : List (List Nat)} (h : r ≠ []) : jn (x :: r) = x ++ 10 :: jn r := by
  match r, h with
  | y :: r, _ => rfl
def Free (l : List Nat) : Prop := ∀ c ∈ l, c ≠ 10
theorem cut_first : ∀ {a b s t : List Nat}, Free a → Free b → a ++ 10 :: s = b ++ 10 :: t → a = b ∧ s = t
  | [], [], s, t, _, _, h => ⟨rfl, (List.cons.inj h).2⟩
  | [], y :: b, s, t, _, hb, h => absurd (List.cons.inj h).1.symm (hb y (List.mem_cons_self ..))
  | x :: a, [], s, t, ha, _, h => absurd (List.cons.inj h).1 (ha x (List.mem_cons_self ..))
  | x :: a, y :: b, s, t, ha, hb, h => by
    obtain ⟨h1, h2⟩ := List.cons.inj h
    obtain ⟨h3, h4⟩ := cut_first (fun c hc => ha c (List.mem_cons_of_mem _ hc)) (fun c hc => hb c (List.mem_cons_of_mem _ hc)) h2
    exact ⟨by rw [h1, h3], h4⟩
theorem no_cut {a b t : List Nat} (ha : Free a) (h : a = b ++ 10 :: t) : False := ha 10 (by rw [h]; simp) rfl
theorem jn_inj : ∀ {p q : List (List Nat)}, p ≠ [] → q ≠ [] → (∀ x ∈ p, Free x) → (∀ x ∈ q, Free x) → jn p = jn q → p = q
  | [x], [y], _, _, _, _, h => by
    have e : x = y := h
    rw [e]
  | [x], y :: z :: r, _, _, hp, _, h => (no_cut (hp x (List.mem_cons_self ..)) (show x = y ++ 10 :: jn (z :: r) from h)).elim
  | x :: z :: r, [y], _, _, _, hq, h => (no_cut (hq y (List.mem_cons_self ..)) (show y = x ++ 10 :: jn (z :: r) from h.symm)).elim
  | x :: x2 :: r, y :: y2 :: t, _, _, hp, hq, h => by
    obtain ⟨h1, h2⟩ := cut_first (hp x (List.mem_cons_self ..)) (hq y (List.mem_cons_self ..)) (show x ++ 10 :: jn (x2 :: r) = y ++ 10 :: jn (y2 :: t) from h)
    have ih := jn_inj (p := x2 :: r) (q := y2 :: t) (by simp) (by simp) (fun z hz => hp z (List.mem_cons_of_mem _ hz)) (fun z hz => hq z (List.mem_cons_of_mem _ hz)) h2
    rw [h1, ih]
  | [], _, h, _, _, _, _ => absurd rfl h
  | _ :: _, [], _, h, _, _, _ => absurd rfl h
theorem count_jn : ∀ {p : List (List Nat)}, p ≠ [] → (jn p).count 10 + 1 = p.length + p.flatten.count 10
  | [x], _ => by simp [jn]; omega
  | x :: y :: r, _ => by
    have ih := count_jn (p := y :: r) (by simp)
    rw [jn_cons (by simp), List.count_append, List.count_cons_self, List.flatten_cons, List.count_append]
    simp only [List.length_cons] at ih ⊢
    omega
  | [], h => absurd rfl h
theorem free_of {p : List (List Nat)} (h : p ≠ []) (e : p.length = (jn p).count 10 + 1) : ∀ x ∈ p, Free x := by
  have c := count_jn h
  have z : p.flatten.count 10 = 0 := by omega
  intro x hx c hc e10
  rw [e10] at hc
  exact (List.count_eq_zero.mp z) (List.mem_flatten.mpr ⟨x, hx, hc⟩)
theorem rows_num {n w r l : Nat} (hw : 0 < w) (h : n = w * r + l) (h1 : 1 ≤ l) (h2 : l ≤ w) : r + 1 = (n + w - 1) / w := by
  subst h
  have e : w * r + l + w - 1 = (l - 1) + w * (r + 1) := by rw [Nat.mul_add, Nat.mul_one]; omega
  rw [e, Nat.add_mul_div_left _ _ hw, Nat.div_eq_of_lt (by omega), Nat.zero_add]
theorem flat_len {w : Nat} : ∀ {p : List (List Nat)}, (∀ x ∈ p, x.length = w) → p.flatten.length = w * p.length
  | [], _ => rfl
  | x :: r, h => by
    rw [List.flatten_cons, List.length_append, h x (List.mem_cons_self ..), flat_len fun y hy => h y (List.mem_cons_of_mem _ hy), List.length_cons, Nat.mul_add, Nat.mul_one, Nat.add_comm]
end KR

namespace Px
open PySem PySem.Spec PyProof.Rows L2
local macro_rules | `(tactic| walk_at "ne") => `(tactic| first
  | assumption
  | (refine Ne.symm ?_; assumption)
  | (refine ne_of_none (H := ?xH) (o := ?xo) ?xa ?xb; (case xb => assumption); (case xa => walk_at "hp"))
  | (refine Ne.symm (ne_of_none (H := ?xH) (o := ?xo) ?xa ?xb); (case xb => assumption); (case xa => walk_at "hp"))
  | ((refine ne_of (H := ?xH) (o := ?xo) (u := ?xu) ?xa ?xb ?xc); (case xa => walk_at "hp"); (case xb => walk_at "hp"); (case xc => (intro z; cases z))))
local macro_rules | `(tactic| walk_at "hp") => `(tactic| first
  | assumption
  | ((refine gs (H := ?xH) ?xa ?xb); (case xa => assumption); (case xb => walk_at "hp"))
  | ((refine gb (b := ?xB) (H := ?xH) ?xa ?xc ?xb); (case xa => assumption); (case xb => walk_at "hp"); (case xc => walk_at "ne"))
  | exact upd_same
  | ((refine gu ?xa ?xb); (case xb => walk_at "hp"); (case xa => walk_at "ne")))
local macro_rules | `(tactic| walk_at "hl") => `(tactic| first
  | assumption
  | (refine ql ?_; walk_at "hp")
  | ((refine gsl (H := ?xH) ?xa ?xb); (case xa => assumption); (case xb => walk_at "hl"))
  | ((refine gbl (b := ?xB) (H := ?xH) ?xa ?xc ?xb); (case xa => assumption); (case xb => walk_at "hl"); (case xc => walk_at "ne")))
local macro_rules | `(tactic| walk_at "ht") => `(tactic| first
  | assumption
  | (refine qt ?_; walk_at "hp")
  | ((refine gst (H := ?xH) ?xa ?xb); (case xa => assumption); (case xb => walk_at "ht"))
  | ((refine gbt (b := ?xB) (H := ?xH) ?xa ?xc ?xb); (case xa => assumption); (case xb => walk_at "ht"); (case xc => walk_at "ne")))
local macro_rules | `(tactic| walk_at "hq") => `(tactic| first
  | assumption
  | ((refine IsQ.same (H := ?xH) ?xb ?xa); (case xa => assumption); (case xb => walk_at "hq")))
local macro_rules | `(tactic| walk_at "sz") => `(tactic| first
  | (show _ ≤ sizeLine; decide)
  | (refine small_line ?_; (simp only [List.length_map, List.length_append, List.length_cons, List.length_nil] at *); omega))
local macro_rules | `(tactic| walk_at "rd0") => `(tactic| first
  | (with_reducible refine r_yes ?_)
  | ((with_reducible refine r_listL (xs := ?xs) ?x1 ?_); (case x1 => walk_at "hl"))
  | (with_reducible refine r_nx ?_)
  | (with_reducible refine r_rt ?_)
  | (with_reducible refine r_bk ?_)
  | (with_reducible refine r_ct ?_)
  | ((with_reducible refine r_isiT (xs := ?xs) ?x1 ?_); (case x1 => walk_at "hp"))
  | (with_reducible refine r_bm ?_)
  | (with_reducible refine r_for ?_)
  | (with_reducible refine r_lc ?_)
  | (with_reducible refine r_asg ?_)
  | ((with_reducible refine r_var (v := ?xv) ?x1 ?_); (case x1 => rfl))
  | (with_reducible refine r_c ?_)
  | (with_reducible refine r_op ?_)
  | (with_reducible refine r_cons ?_)
  | (with_reducible refine r_nil ?_)
  | (with_reducible refine r_gname ?_)
  | (with_reducible refine r_I0 ?_)
  | (with_reducible refine r_addUI ?_)
  | (with_reducible refine r_eqUI ?_)
  | (with_reducible refine r_neUI ?_)
  | (with_reducible refine r_eqUS ?_)
  | (with_reducible refine r_neUS ?_)
  | (with_reducible refine r_eqUB ?_)
  | (with_reducible refine r_test ?_)
  | (with_reducible refine r_bl ?_)
  | (with_reducible refine r_int ?_)
  | (with_reducible refine r_ifs ?_)
  | (with_reducible refine r_ret ?_)
  | (with_reducible refine r_next ?_)
  | (with_reducible refine r_call ?_)
  | (with_reducible refine r_cb ?_)
  | (with_reducible refine r_tup ?_)
  | (with_reducible refine r_lst ?_)
  | (with_reducible refine r_gsub ?_)
  | ((with_reducible refine r_setL (xs := ?xs) (j := ?xj) ?x1 ?x2 ?_); (case x1 => walk_at "hp"); (case x2 => rfl))
  | ((with_reducible refine r_ixL (xs := ?xs) (v := ?xv) ?x1 ?x2 ?_); (case x1 => walk_at "hl"); (case x2 => first | rfl | assumption))
  | ((with_reducible refine r_ixT (xs := ?xs) (v := ?xv) ?x1 ?x2 ?_); (case x1 => walk_at "ht"); (case x2 => first | rfl | assumption))
  | (with_reducible refine r_gcons ?_)
  | (with_reducible refine r_gnil ?_)
  | ((with_reducible refine r_gtup (xs := ?xs) ?x1 ?x2 ?_); (case x1 => walk_at "ht"); (case x2 => rfl))
  | ((with_reducible refine r_aug (x := ?xv) ?x1 ?_); (case x1 => rfl))
  | (with_reducible refine r_iaddI ?_)
  | (with_reducible refine r_par ?_)
  | (with_reducible refine r_two ?_)
  | (with_reducible refine r_un ?_)
  | (with_reducible refine r_if ?_)
  | (with_reducible refine r_b ?_)
  | (with_reducible refine r_and ?_)
  | (with_reducible refine r_or ?_)
  | (with_reducible refine r_not ?_)
  | (with_reducible refine r_andV ?_)
  | (with_reducible refine r_orV ?_)
  | (with_reducible refine r_notV ?_)
  | (with_reducible refine r_chain ?_)
  | (with_reducible refine r_chain3 ?_)
  | (with_reducible refine r_drop ?_)
  | (with_reducible refine r_retN ?_)
  | (with_reducible refine r_brk ?_)
  | (with_reducible refine r_cont ?_)
  | (with_reducible refine r_iteT ?_)
  | (with_reducible refine r_iteNT ?_)
  | (with_reducible refine r_iteNF ?_)
  | (with_reducible refine r_iteF ?_)
  | (with_reducible refine r_sl ?_)
  | (with_reducible refine r_noPart ?_)
  | (with_reducible refine r_part ?_)
  | (with_reducible refine r_abs ?_)
  | (with_reducible refine r_max2 ?_)
  | (with_reducible refine r_min2 ?_)
  | ((with_reducible refine q_len (k := ?xk) (xs := ?xs) ?x1 ?_); (case x1 => walk_at "hq"))
  | ((with_reducible refine r_lenUL (xs := ?xs) ?x1 ?_); (case x1 => walk_at "hl"))
  | ((with_reducible refine r_lenUT (xs := ?xs) ?x1 ?_); (case x1 => walk_at "ht"))
  | ((with_reducible refine r_mulUI ?x1 ?_); (case x1 => first | exact .inl ⟨by decide, by decide⟩ | exact .inr ⟨by decide, by decide⟩ | exact .inl ⟨by omega, by omega⟩ | exact .inr ⟨by omega, by omega⟩))
  | (with_reducible refine r_rng1 ?_)
  | ((with_reducible refine r_I ?x1 ?_); (case x1 => first | decide | (show _ ∧ _; exact ⟨by omega, by omega⟩) | (show _ ≠ _; omega) | (show _ ∧ _ ∧ _; exact ⟨by decide, by decide, by omega⟩))))
local macro_rules | `(tactic| walk_at "rd1") => `(tactic| first | (with_reducible refine r_seq ?_) | walk_at "rd0")
local macro_rules | `(tactic| walk_at "rx") => `(tactic| repeat walk_at "rd0")
local macro_rules | `(tactic| walk_at "rd") => `(tactic| repeat walk_at "rd1")
set_option hygiene false in
local macro_rules | `(tactic| walk_at "new") => `(tactic| (refine And.intro (by walk_at "sz") ?_; intro p np; generalize hg : upd _ p _ = Hn; have hs := same_of hg np; have hv := at_of hg; clear hg))
set_option hygiene false in
local macro_rules | `(tactic| walk_at "newp") => `(tactic| (intro p np; generalize hg : upd _ p _ = Hn; have hs := same_of hg np; have hv := at_of hg; clear hg))

structure Txt (K : PySem.W.Frag) (mg : Str → Option Value) : Type where
  C_Code : Addr
  C_Code_g : mg "Code" = some (.ref C_Code)
  C_Code_c : Cls K C_Code
  C_Writer : Addr
  C_Writer_g : mg "Writer" = some (.ref C_Writer)
  C_Writer_c : Cls K C_Writer
  X_Closed : Addr
  X_Closed_f : Addr
  X_Closed_F : ErrG K eN_Closed X_Closed X_Closed_f
  X_Closed_g : mg "Closed" = some (.ref X_Closed)
  is_integer_a : Addr
  is_integer_d : FuncData
  is_integer_f : FunD K "is_integer" "is_integer" (defArgs s_is_integer) (defBody s_is_integer) (defScope s_is_integer) [] [] is_integer_a is_integer_d
  is_integer_g : mg "is_integer" = some (.ref is_integer_a)
  is_integer_b : Binds K is_integer_d ["value"] []
  is_within_a : Addr
  is_within_d : FuncData
  is_within_f : FunD K "is_within" "is_within" (defArgs s_is_within) (defBody s_is_within) (defScope s_is_within) [] [] is_within_a is_within_d
  is_within_g : mg "is_within" = some (.ref is_within_a)
  is_within_b : Binds K is_within_d ["value", "low", "high"] []
  is_byte_a : Addr
  is_byte_d : FuncData
  is_byte_f : FunD K "is_byte" "is_byte" (defArgs s_is_byte) (defBody s_is_byte) (defScope s_is_byte) [] [] is_byte_a is_byte_d
  is_byte_g : mg "is_byte" = some (.ref is_byte_a)
  is_byte_b : Binds K is_byte_d ["value"] []
  is_sign_a : Addr
  is_sign_d : FuncData
  is_sign_f : FunD K "is_sign" "is_sign" (defArgs s_is_sign) (defBody s_is_sign) (defScope s_is_sign) [] [] is_sign_a is_sign_d
  is_sign_g : mg "is_sign" = some (.ref is_sign_a)
  is_sign_b : Binds K is_sign_d ["value"] []
  are_signs_a : Addr
  are_signs_d : FuncData
  are_signs_f : FunD K "are_signs" "are_signs" (defArgs s_are_signs) (defBody s_are_signs) (defScope s_are_signs) [] [] are_signs_a are_signs_d
  are_signs_g : mg "are_signs" = some (.ref are_signs_a)
  are_signs_b : Binds K are_signs_d ["value"] []
  data_of_a : Addr
  data_of_d : FuncData
  data_of_f : FunD K "data_of" "data_of" (defArgs s_data_of) (defBody s_data_of) (defScope s_data_of) [] [] data_of_a data_of_d
  data_of_g : mg "data_of" = some (.ref data_of_a)
  data_of_b : Binds K data_of_d ["value"] []
  Code_signs_a : Addr
  Code_signs_d : FuncData
  Code_signs_f : FunD K "signs" "Code.signs" (defArgs s_Code_signs) (defBody s_Code_signs) (defScope s_Code_signs) [] [] Code_signs_a Code_signs_d
  Code_signs_q : Addr
  Code_signs_p : PropOf K C_Code "signs" Code_signs_q Code_signs_a
  Code_signs_b : Binds K Code_signs_d ["self"] []
  Code_width_a : Addr
  Code_width_d : FuncData
  Code_width_f : FunD K "width" "Code.width" (defArgs s_Code_width) (defBody s_Code_width) (defScope s_Code_width) [] [] Code_width_a Code_width_d
  Code_width_q : Addr
  Code_width_p : PropOf K C_Code "width" Code_width_q Code_width_a
  Code_width_b : Binds K Code_width_d ["self"] []
  Code_bits_a : Addr
  Code_bits_d : FuncData
  Code_bits_f : FunD K "bits" "Code.bits" (defArgs s_Code_bits) (defBody s_Code_bits) (defScope s_Code_bits) [] [] Code_bits_a Code_bits_d
  Code_bits_q : Addr
  Code_bits_p : PropOf K C_Code "bits" Code_bits_q Code_bits_a
  Code_bits_b : Binds K Code_bits_d ["self"] []
  Code_group_a : Addr
  Code_group_d : FuncData
  Code_group_f : FunD K "group" "Code.group" (defArgs s_Code_group) (defBody s_Code_group) (defScope s_Code_group) [] [] Code_group_a Code_group_d
  Code_group_q : Addr
  Code_group_p : PropOf K C_Code "group" Code_group_q Code_group_a
  Code_group_b : Binds K Code_group_d ["self"] []
  Code_begin_a : Addr
  Code_begin_d : FuncData
  Code_begin_f : FunD K "begin" "Code.begin" (defArgs s_Code_begin) (defBody s_Code_begin) (defScope s_Code_begin) [] [] Code_begin_a Code_begin_d
  Code_begin_m : Meth K C_Code "begin" Code_begin_a
  Code_begin_b : Binds K Code_begin_d ["self"] []
  Code_is_full_a : Addr
  Code_is_full_d : FuncData
  Code_is_full_f : FunD K "is_full" "Code.is_full" (defArgs s_Code_is_full) (defBody s_Code_is_full) (defScope s_Code_is_full) [] [] Code_is_full_a Code_is_full_d
  Code_is_full_m : Meth K C_Code "is_full" Code_is_full_a
  Code_is_full_b : Binds K Code_is_full_d ["self", "column"] []
  Code_next_column_a : Addr
  Code_next_column_d : FuncData
  Code_next_column_f : FunD K "next_column" "Code.next_column" (defArgs s_Code_next_column) (defBody s_Code_next_column) (defScope s_Code_next_column) [] [] Code_next_column_a Code_next_column_d
  Code_next_column_m : Meth K C_Code "next_column" Code_next_column_a
  Code_next_column_b : Binds K Code_next_column_d ["self", "column"] []
  Code_placed_a : Addr
  Code_placed_d : FuncData
  Code_placed_f : FunD K "placed" "Code.placed" (defArgs s_Code_placed) (defBody s_Code_placed) (defScope s_Code_placed) [] [] Code_placed_a Code_placed_d
  Code_placed_m : Meth K C_Code "placed" Code_placed_a
  Code_placed_b : Binds K Code_placed_d ["self", "column", "sign"] []
  Code_write_a : Addr
  Code_write_d : FuncData
  Code_write_f : FunD K "write" "Code.write" (defArgs s_Code_write) (defBody s_Code_write) (defScope s_Code_write) [] [] Code_write_a Code_write_d
  Code_write_m : Meth K C_Code "write" Code_write_a
  Code_write_b : Binds K Code_write_d ["self", "state", "byte"] []
  Code___init___a : Addr
  Code___init___d : FuncData
  Code___init___f : FunD K "__init__" "Code.__init__" (defArgs s_Code___init__) (defBody s_Code___init__) (defScope s_Code___init__) [] [("pad", .str (Str.ofString "")), ("width", .int 0)] Code___init___a Code___init___d
  C_Code_m : Mk K C_Code Code___init___a
  passed_a : Addr
  passed_d : FuncData
  passed_f : FunD K "passed" "passed" (defArgs s_passed) (defBody s_passed) (defScope s_passed) [] [] passed_a passed_d
  passed_g : mg "passed" = some (.ref passed_a)
  passed_b : Binds K passed_d ["code", "state", "data"] []
  Writer_need_open_a : Addr
  Writer_need_open_d : FuncData
  Writer_need_open_f : FunD K "need_open" "Writer.need_open" (defArgs s_Writer_need_open) (defBody s_Writer_need_open) (defScope s_Writer_need_open) [] [] Writer_need_open_a Writer_need_open_d
  Writer_need_open_m : Meth K C_Writer "need_open" Writer_need_open_a
  Writer_need_open_b : Binds K Writer_need_open_d ["self"] []
  Writer___init___a : Addr
  Writer___init___d : FuncData
  Writer___init___f : FunD K "__init__" "Writer.__init__" (defArgs s_Writer___init__) (defBody s_Writer___init__) (defScope s_Writer___init__) [] [] Writer___init___a Writer___init___d
  C_Writer_m : Mk K C_Writer Writer___init___a
  Writer___init___b : Binds K Writer___init___d ["self", "code"] []
  Writer_state_a : Addr
  Writer_state_d : FuncData
  Writer_state_f : FunD K "state" "Writer.state" (defArgs s_Writer_state) (defBody s_Writer_state) (defScope s_Writer_state) [] [] Writer_state_a Writer_state_d
  Writer_state_q : Addr
  Writer_state_p : PropOf K C_Writer "state" Writer_state_q Writer_state_a
  Writer_state_b : Binds K Writer_state_d ["self"] []
  Writer___call___a : Addr
  Writer___call___d : FuncData
  Writer___call___f : FunD K "__call__" "Writer.__call__" (defArgs s_Writer___call__) (defBody s_Writer___call__) (defScope s_Writer___call__) [] [] Writer___call___a Writer___call___d
  Writer___call___m : Meth K C_Writer "__call__" Writer___call___a
  Writer___call___b : Binds K Writer___call___d ["self", "piece"] []
  l_bag_a : Addr
  l_bag_d : FuncData
  l_bag_f : FunD K "_law_bag" "_law_bag" (defArgs s_l_bag) (defBody s_l_bag) (defScope s_l_bag) [] [] l_bag_a l_bag_d
  l_bag_g : mg "_law_bag" = some (.ref l_bag_a)
  l_bag_b : Binds K l_bag_d ["_law_script", "_law_at"] []
  l_take_a : Addr
  l_take_d : FuncData
  l_take_f : FunD K "_law_take" "_law_take" (defArgs s_l_take) (defBody s_l_take) (defScope s_l_take) [] [] l_take_a l_take_d
  l_take_g : mg "_law_take" = some (.ref l_take_a)
  l_take_b : Binds K l_take_d ["_law_bag_here", "_law_many"] []
  l_of_a : Addr
  l_of_d : FuncData
  l_of_f : FunD K "_law_of" "_law_of" (defArgs s_l_of) (defBody s_l_of) (defScope s_l_of) [] [] l_of_a l_of_d
  l_of_g : mg "_law_of" = some (.ref l_of_a)
  l_of_b : Binds K l_of_d ["_law_bag_here", "_law_some"] []
  l_all_signs_a : Addr
  l_all_signs_d : FuncData
  l_all_signs_f : FunD K "_law_all_signs" "_law_all_signs" (defArgs s_l_all_signs) (defBody s_l_all_signs) (defScope s_l_all_signs) [] [] l_all_signs_a l_all_signs_d
  l_all_signs_g : mg "_law_all_signs" = some (.ref l_all_signs_a)
  l_all_signs_b : Binds K l_all_signs_d [] []
  l_code_a : Addr
  l_code_d : FuncData
  l_code_f : FunD K "_law_code" "_law_code" (defArgs s_l_code) (defBody s_l_code) (defScope s_l_code) [] [] l_code_a l_code_d
  l_code_g : mg "_law_code" = some (.ref l_code_a)
  l_code_b : Binds K l_code_d ["_law_bag_here"] []
  l_made_a : Addr
  l_made_d : FuncData
  l_made_f : FunD K "_law_made" "_law_made" (defArgs s_l_made) (defBody s_l_made) (defScope s_l_made) [] [] l_made_a l_made_d
  l_made_g : mg "_law_made" = some (.ref l_made_a)
  l_made_b : Binds K l_made_d ["_law_code_here"] []
  l_size_a : Addr
  l_size_d : FuncData
  l_size_f : FunD K "_law_size" "_law_size" (defArgs s_l_size) (defBody s_l_size) (defScope s_l_size) [] [] l_size_a l_size_d
  l_size_g : mg "_law_size" = some (.ref l_size_a)
  l_size_b : Binds K l_size_d ["_law_code_here"] []
  l_group_a : Addr
  l_group_d : FuncData
  l_group_f : FunD K "_law_group" "_law_group" (defArgs s_l_group) (defBody s_l_group) (defScope s_l_group) [] [] l_group_a l_group_d
  l_group_g : mg "_law_group" = some (.ref l_group_a)
  l_group_b : Binds K l_group_d ["_law_code_here"] []
  l_data_a : Addr
  l_data_d : FuncData
  l_data_f : FunD K "_law_data" "_law_data" (defArgs s_l_data) (defBody s_l_data) (defScope s_l_data) [] [] l_data_a l_data_d
  l_data_g : mg "_law_data" = some (.ref l_data_a)
  l_data_b : Binds K l_data_d ["_law_bag_here", "_law_most"] []
  l_bits_a : Addr
  l_bits_d : FuncData
  l_bits_f : FunD K "_law_bits" "_law_bits" (defArgs s_l_bits) (defBody s_l_bits) (defScope s_l_bits) [] [] l_bits_a l_bits_d
  l_bits_g : mg "_law_bits" = some (.ref l_bits_a)
  l_bits_b : Binds K l_bits_d ["_law_data_here"] []
  l_pieces_a : Addr
  l_pieces_d : FuncData
  l_pieces_f : FunD K "_law_pieces" "_law_pieces" (defArgs s_l_pieces) (defBody s_l_pieces) (defScope s_l_pieces) [] [] l_pieces_a l_pieces_d
  l_pieces_g : mg "_law_pieces" = some (.ref l_pieces_a)
  l_pieces_b : Binds K l_pieces_d ["_law_bag_here", "_law_some"] []
  l_given_a : Addr
  l_given_d : FuncData
  l_given_f : FunD K "_law_given" "_law_given" (defArgs s_l_given) (defBody s_l_given) (defScope s_l_given) [] [] l_given_a l_given_d
  l_given_g : mg "_law_given" = some (.ref l_given_a)
  l_given_b : Binds K l_given_d ["_law_real", "_law_some"] []
  l_state_a : Addr
  l_state_d : FuncData
  l_state_f : FunD K "_law_state" "_law_state" (defArgs s_l_state) (defBody s_l_state) (defScope s_l_state) [] [] l_state_a l_state_d
  l_state_g : mg "_law_state" = some (.ref l_state_a)
  l_state_b : Binds K l_state_d ["_law_code_here", "_law_some"] []
  l_right_a : Addr
  l_right_d : FuncData
  l_right_f : FunD K "_law_right" "_law_right" (defArgs s_l_right) (defBody s_l_right) (defScope s_l_right) [] [] l_right_a l_right_d
  l_right_g : mg "_law_right" = some (.ref l_right_a)
  l_right_b : Binds K l_right_d ["_law_bag_here", "_law_code_here", "_law_real", "_law_some"] []
  law_a : Addr
  law_d : FuncData
  law_f : FunD K "law" "law" (defArgs s_law) (defBody s_law) (defScope s_law) [] [] law_a law_d
  law_g : mg "law" = some (.ref law_a)
  law_b : Binds K law_d ["_law_script"] []
  Code___init___k1_pad_width : ∃ g, KBn K Code___init___d ["self", "signs", "pad", "width"] 2 ["pad", "width"] g (fun vs zs => vs ++ zs)
  Writer___init___k1_ : ∃ g, KBn K Writer___init___d ["self", "code"] 2 [] g (fun vs zs => vs ++ zs)
  C_Code_n_parts : NoAttr K C_Code "parts"
  C_Code_n_sign_bits : NoAttr K C_Code "sign_bits"
  C_Code_n_digits : NoAttr K C_Code "digits"
  C_Writer_n_is_closed : NoAttr K C_Writer "is_closed"
  C_Writer_n_many : NoAttr K C_Writer "many"
  C_Writer_n_now : NoAttr K C_Writer "now"
  C_Writer_n_own_code : NoAttr K C_Writer "own_code"
  C_Code_r : ClX.CRead K C_Code (.type "type")
  C_Code_v_WIDEST : ∃ u, ClX.CVal K C_Code (.type "type") "WIDEST" (.int 76) u
  k_PRINTED_u : Value
  k_PRINTED_g : mg "PRINTED" = some k_PRINTED_u
  k_PRINTED_r : RelV (.str (Str.ofString " !\"#$&'()*+,-./0123456789:;<=>?@ABCDEFGHIJKLMNOPQRSTUVWXYZ[\\]^_`abcdefghijklmnopqrstuvwxyz{|}~")) k_PRINTED_u
  k_MOST_BYTES_u : Value
  k_MOST_BYTES_g : mg "MOST_BYTES" = some k_MOST_BYTES_u
  k_MOST_BYTES_r : RelV (.int 600) k_MOST_BYTES_u
  k_GROUPS_a : Addr
  k_GROUPS_g : mg "GROUPS" = some (.ref k_GROUPS_a)
  k_GROUPS_t : ∀ H, SqT K H k_GROUPS_a [.int 0, .int 8, .int 4, .int 8, .int 2, .int 8, .int 4]
  k_NEWLINE_u : Value
  k_NEWLINE_g : mg "NEWLINE" = some k_NEWLINE_u
  k_NEWLINE_r : RelV (.str (Str.ofString "\n")) k_NEWLINE_u
  k_BITS_a : Addr
  k_BITS_g : mg "BITS" = some (.ref k_BITS_a)
  k_BITS_d : IDict K k_BITS_a [(2, 1), (4, 2), (8, 3), (16, 4), (32, 5), (64, 6)]
  n_abs : mg "abs" = none
  n_all : mg "all" = none
  n_bool : mg "bool" = none
  n_enumerate : mg "enumerate" = none
  n_int : mg "int" = none
  n_isinstance : mg "isinstance" = none
  n_len : mg "len" = none
  n_list : mg "list" = none
  n_max : mg "max" = none
  n_min : mg "min" = none
  n_range : mg "range" = none
  n_repr : mg "repr" = none
  n_str : mg "str" = none
  n_super : mg "super" = none
  n_tuple : mg "tuple" = none
theorem xi_Closed {K : PySem.W.Frag} {mg : Str → Option Value} (T : Txt K mg) (w : World) : PySem.PxE.InitOkN P w K mg T.X_Closed T.X_Closed_f [] := by
  intro A R hp g d t os e t0 us mb hl X hg hb hmb lim hroom hKe he hq
  match us, hl with
  | [], _ =>
    have F := T.X_Closed_F
    obtain ⟨oc, od, doc, pm, an, cda, ct, cc, osl, ccl, cdd, ccs, vs, tf, cl, cld, csl, lk, hcd, hcode, hvs, hcell⟩ := F.fn
    obtain ⟨nm, q, N, bs, sn, sub, ab, col, dd, k0, k1, k2, k3, k5, hC⟩ := F.oex.cls
    have lk' : K.lookup T.X_Closed_f = some ⟨oc, od, .func (PySem.W.ksFn "__init__" "Closed.__init__" (defArgs se_Closed) (PySem.PxE.s1 "the writer or reader is closed" ⟨23, 8, 23, 13⟩ ⟨23, 8, 23, 15⟩ ⟨23, 8, 23, 24⟩ ⟨23, 25, 23, 57⟩ ⟨23, 8, 23, 58⟩ ⟨23, 8, 23, 58⟩ 0 :: ([] : List PySem.PxE.FE).map PySem.PxE.FE.st) (defScope se_Closed) .none .none doc pm an (.ref cda) ct cc), osl⟩ := lk
    have hcd' : PySem.W.codeIn K (.ref cda) "Closed.__init__" = true := hcd
    refine PySem.PxE.init_gen (binds := [("self", .ref e)]) PySem.PxE.bas_RuntimeError X hg hb hmb T.n_super lim hroom lk' hcd' (ar := { arg := "self", annotation := none, pos := ⟨22, 17, 22, 21⟩ }) (by rfl) (by rfl) hcode hvs P_file P_top hcell
      (by decide +kernel) (by rfl) (by rfl) (by rfl) (by simp only [List.forall_mem_cons]; exact ⟨by rfl, fun _ h => nomatch h⟩) (by rfl) (by rfl) (by rfl) hC F.oex.sa F.hop F.hsup F.hB F.hself he hKe
      (BindsTo.of_eq (by rfl)) (by rfl) _ _ rfl (fun L => by rfl) (fun L => by rfl) ?_ (by show 0 ≤ 100; decide) (fun L => by rfl) (fun L => by rfl) (fun h' t' od' t1 a1 a2 a3 a4 => hq h' t' od' t1 a1 a2 a3 (a4.trans (by simp)))
    exact fun q hq => nomatch hq

section
variable {w : World} {K : PySem.W.Frag} {mg : Str → Option Value} {base : Heap}
/-! ### the draws -/
structure Bag (n : Nat) (d m c : Int) : Prop where
  d0 : 0 ≤ d
  m0 : 0 ≤ m
  m1 : m < 2305843009213693951
  c0 : 0 ≤ c
  c1 : c + n ≤ 1000000
def BagAt (H : Hp) (b : Addr) (n : Nat) : Prop := ∃ d m c, Bag n d m c ∧ H b = some (.lst [.int d, .int m, .int c])
theorem BagAt.mono {H : Hp} {b : Addr} {n m : Nat} (h : BagAt H b n) (l : m ≤ n) : BagAt H b m := by
  obtain ⟨d, x, c, ⟨h1, h2, h3, h4, h5⟩, e⟩ := h
  exact ⟨d, x, c, ⟨h1, h2, h3, h4, by omega⟩, e⟩
theorem BagAt.same {H H' : Hp} {b : Addr} {n : Nat} (h : BagAt H b n) (e : Same H H') : BagAt H' b n := by
  obtain ⟨d, x, c, B, q⟩ := h
  exact ⟨d, x, c, B, e _ _ q⟩
theorem BagAt.some {H : Hp} {b : Addr} {n : Nat} (h : BagAt H b n) : ∃ o, H b = some o := let ⟨_, _, _, _, e⟩ := h; ⟨_, e⟩
theorem BagAt.ne {H : Hp} {b p : Addr} {n : Nat} (h : BagAt H b n) (e : H p = none) : p ≠ b := fun z => by
  obtain ⟨o, q⟩ := h.some
  rw [z, q] at e
  cases e
theorem BagAt.upd {H : Hp} {b p : Addr} {m : Nat} {o : HO} (h : BagAt H b m) (n : p ≠ b) : BagAt (upd H p o) b m := by
  obtain ⟨d, x, c, B, q⟩ := h
  exact ⟨d, x, c, B, gu (Ne.symm n) q⟩
theorem sameB_mut {b : Addr} {H H' : Hp} {p : Addr} {o : HO} (e : SameB b H H') (h : H p = none) : SameB b H (upd H' p o) := fun a u n ha => (upd_ne (ne_of_none ha h)).trans (e a u n ha)
def sp_l_take (T : Txt K mg) : Sp := fun vs H Q _ => ∃ (b : Addr) (k : Int) (n : Nat), vs = [.ref b, .int k] ∧ BagAt H b (n + 1) ∧ 0 < k ∧ k < 1000000 ∧
  ∀ r H', 0 ≤ r → r < k → BagAt H' b n → SameB b H H' → Q (.int r) H'
theorem len_l_take (T : Txt K mg) (vs : List V) (H : Hp) (Q : VK) (E : XK) (h : sp_l_take T vs H Q E) : vs.length = 2 := by
  obtain ⟨b, k, n, rfl, _⟩ := h
  rfl
def t_l_take (T : Txt K mg) : TS := (tSeq (tIfS (tTest (tOp rGtI (tOp (rIx K) (tVar 0) (tC (.int 0))) (tC (.int 0)))) (tSeq (tAsg (tOp rModI (tOp (rIx K) (tVar 0) (tC (.int 0))) (tVar 1)) (gName 2))
    (tSeq (tAsg (tOp rFdivI (tOp (rIx K) (tVar 0) (tC (.int 0))) (tVar 1)) (gSub (tVar 0) (tC (.int 0)) rSetL))
    (tRet (tVar 2)))) tNext)
    (tSeq (tAsg (tOp (rAddU K) (tOp (rIx K) (tVar 0) (tC (.int 2))) (tC (.int 1))) (gSub (tVar 0) (tC (.int 2)) rSetL))
    (tSeq (tAsg (tOp rModI (tOp rPowI (tOp (rAddU K) (tOp (rIx K) (tVar 0) (tC (.int 1))) (tOp (rMulU K) (tC (.int 1000033)) (tOp (rIx K) (tVar 0) (tC (.int 2))))) (tC (.int 3))) (tC (.int 2305843009213693921))) (gName 3))
    (tSeq (tAsg (tOp rModI (tOp rPowI (tOp (rAddU K) (tVar 3) (tOp (rMulU K) (tC (.int 32452867)) (tOp (rIx K) (tVar 0) (tC (.int 2))))) (tC (.int 2))) (tC (.int 2305843009213693951))) (gName 3))
    (tRet (tOp rModI (tOp rFdivI (tVar 3) (tC (.int 1024))) (tVar 1)))))))

theorem pure_l_take (T : Txt K mg) (vs : List V) (H : Hp) (Q : VK) (E : XK) (h : sp_l_take T vs H Q E) : t_l_take T { nx := fun _ H' => Q .non H', rt := Q } (start ["_law_bag_here", "_law_many", "_law_digit", "_law_mixed"] vs) H := by
  obtain ⟨b, k, n, rfl, ⟨d, m, c, ⟨d0, m0, m1, c0, c1⟩, hB⟩, hk, hk2, q⟩ := h
  unfold t_l_take
  have hM : ∀ x : Int, 0 ≤ x.fmod 2305843009213693921 ∧ x.fmod 2305843009213693921 < 2305843009213693921 := fun x => ⟨Int.fmod_nonneg_of_pos x (by decide), Int.fmod_lt_of_pos x (by decide)⟩
  walk_at "rd"
  refine r_iteD (fun hd => ?_) (fun hd => ?_)
  · walk_at "rd"
    refine q _ _ (Int.fmod_nonneg_of_pos _ hk) (Int.fmod_lt_of_pos _ hk) ⟨_, _, _, ⟨?_, m0, m1, c0, by omega⟩, upd_same⟩ sameB_upd
    rw [Int.fdiv_eq_ediv_of_nonneg _ (Int.le_of_lt hk)]
    exact Int.ediv_nonneg d0 (Int.le_of_lt hk)
  · walk_at "rd"
    generalize hx : ((m + 1000033 * (c + 1)) ^ (Int.toNat 3)).fmod 2305843009213693921 = x1
    have hx1 := hM ((m + 1000033 * (c + 1)) ^ (Int.toNat 3))
    rw [hx] at hx1
    walk_at "rd"
    exact q _ _ (Int.fmod_nonneg_of_pos _ hk) (Int.fmod_lt_of_pos _ hk) ⟨_, _, _, ⟨d0, m0, m1, by omega, by omega⟩, upd_same⟩ sameB_upd
theorem ok_l_take (T : Txt K mg) : FnOk P w K mg base CX0 1 T.l_take_a T.l_take_d ["_law_bag_here", "_law_many"] (sp_l_take T) := by
  refine T.l_take_f.ok sc_l_take (fun vs H Q E h => len_l_take T vs H Q E h) (fun cdv A outer s H vs Q E hr h => ⟨t_l_take T, PSs.nox ?_, pure_l_take T vs H Q E h⟩)
  have hu := hu64 hr
  exact (pss_cons (ps_if (pt_cmpR op_gt (pe_ix ix_seq (pv 0) pe_int (fun _ _ => rfl)) pe_int (nomark _)) (pss_cons (ps_set (i := 2) sc_l_take.nd rfl (.inl rfl) (pe_op op_modN (pe_ix ix_seq (pv 0) pe_int (fun _ _ => rfl)) (pv 1)))
      (pss_cons (ps_asg (pe_op op_fdivN (pe_ix ix_seq (pv 0) pe_int (fun _ _ => rfl)) (pv 1)) (pg_sub (pv 0) pe_int set_list))
      (pss_one (ps_ret (pv 2))))) pss_nil)
      (pss_cons (ps_asg (pe_op op_addU (pe_ix ix_seq (pv 0) pe_int (fun _ _ => rfl)) pe_int) (pg_sub (pv 0) pe_int set_list))
      (pss_cons (ps_set (i := 3) sc_l_take.nd rfl (.inl rfl) (pe_op op_modN (pe_op op_pow (pe_op op_addU (pe_ix ix_seq (pv 0) pe_int (fun _ _ => rfl)) (pe_op op_mulU pe_int (pe_ix ix_seq (pv 0) pe_int (fun _ _ => rfl)))) pe_int) pe_int))
      (pss_cons (ps_set (i := 3) sc_l_take.nd rfl (.inl rfl) (pe_op op_modN (pe_op op_pow (pe_op op_addU (pv 3) (pe_op op_mulU pe_int (pe_ix ix_seq (pv 0) pe_int (fun _ _ => rfl)))) pe_int) pe_int))
      (pss_one (ps_ret (pe_op op_modN (pe_op op_fdivN (pv 3) pe_int) (pv 1))))))))


def sp_l_bag (T : Txt K mg) : Sp := fun vs H Q _ => ∃ (a : Addr) (ns : List Int) (i : Nat), vs = [.ref a, .int i] ∧ SqL K H a (ns.map V.int) ∧ ns.length ≤ 63 ∧ i ≤ 1000 ∧
  ∀ p H', Same H H' → H p = none → BagAt H' p 1000000 → Q (.ref p) H'
theorem len_l_bag (T : Txt K mg) (vs : List V) (H : Hp) (Q : VK) (E : XK) (h : sp_l_bag T vs H Q E) : vs.length = 2 := by
  obtain ⟨a, ns, i, rfl, _⟩ := h
  rfl
def t_l_bag (T : Txt K mg) : TS := (tSeq (tAsg (tIf (tTest (tOp rLtI (tVar 1) (tCB (rLenU K) (tCons (tVar 0) tNil)))) (tOp (rIx K) (tVar 0) (tVar 1)) (tC (.int 0))) (gName 2))
    (tSeq (tAsg (tIf (tTest (tOp rGeI (tCB rAbs (tCons (tVar 2) tNil)) (tOp rPowI (tC (.int 10)) (tC (.int 18))))) (tCB rAbs (tCons (tVar 2) tNil)) (tC (.int 0))) (gName 3))
    (tRet (tLst (tCons (tVar 3) (tCons (tOp rModI (tOp (rMulU K) (tOp (rAddU K) (tOp (rAddU K) (tOp rModI (tVar 2) (tC (.int 2305843009213693951))) (tOp (rMulU K) (tC (.int 5003)) (tVar 1))) (tC (.int 71))) (tC (.int 7368787))) (tC (.int 2305843009213693951))) (tCons (tC (.int 0)) tNil)))))))

theorem pure_l_bag (T : Txt K mg) (vs : List V) (H : Hp) (Q : VK) (E : XK) (h : sp_l_bag T vs H Q E) : t_l_bag T { nx := fun _ H' => Q .non H', rt := Q } (start ["_law_script", "_law_at", "_law_cell", "_law_digits"] vs) H := by
  obtain ⟨a, ns, i, rfl, hS, hl, hi, q⟩ := h
  unfold t_l_bag
  have fin : ∀ d x : Int, 0 ≤ d → [V.int d, V.int (x.fmod 2305843009213693951), V.int 0].length ≤ sizeLine ∧ ∀ p, H p = none → Q (.ref p) (upd H p (.lst [V.int d, V.int (x.fmod 2305843009213693951), V.int 0])) := by
    intro d x hd
    walk_at "new"
    exact q _ _ hs np ⟨_, _, _, ⟨hd, Int.fmod_nonneg_of_pos _ (by decide), Int.fmod_lt_of_pos _ (by decide), Int.le_refl _, by decide⟩, hv⟩
  walk_at "rd"
  refine r_iteD (fun h => ?_) (fun h => ?_)
  · have hi' : i < ns.length := by
      rw [List.length_map] at h
      omega
    have g : atI (ns.map V.int) (i : Int) = some (.int ns[i]) := atI_nat (by rw [List.getElem?_map, List.getElem?_eq_getElem hi']; rfl)
    walk_at "rd"
    refine r_iteD (fun h => ?_) (fun h => ?_)
    · walk_at "rd"
      exact fin _ _ (by split <;> omega)
    · walk_at "rd"
      exact fin _ _ (Int.le_refl _)
  · walk_at "rd"
    refine r_iteD (fun h => ?_) (fun h => ?_)
    · walk_at "rd"
      exact fin _ _ (by split <;> omega)
    · walk_at "rd"
      exact fin _ _ (Int.le_refl _)
theorem ok_l_bag (T : Txt K mg) : FnOk P w K mg base CX0 1 T.l_bag_a T.l_bag_d ["_law_script", "_law_at"] (sp_l_bag T) := by
  refine T.l_bag_f.ok sc_l_bag (fun vs H Q E h => len_l_bag T vs H Q E h) (fun cdv A outer s H vs Q E hr h => ⟨t_l_bag T, PSs.nox ?_, pure_l_bag T vs H Q E h⟩)
  have hu := hu64 hr
  exact (pss_cons (ps_set (i := 2) sc_l_bag.nd rfl (.inl rfl) (pe_ifExp (pt_cmpR op_lt (pv 1) (pe_callB c_lenU (by rfl) T.n_len (by decide +kernel) (pa_cons (pv 0) pa_nil)) (nomark _)) (pe_ix ix_seq (pv 0) (pv 1) (fun _ _ => rfl)) pe_int))
      (pss_cons (ps_set (i := 3) sc_l_bag.nd rfl (.inl rfl) (pe_ifExp (pt_cmpR op_ge (pe_callB c_abs (by rfl) T.n_abs (by decide +kernel) (pa_cons (pv 2) pa_nil)) (pe_op op_pow pe_int pe_int) (nomark _)) (pe_callB c_abs (by rfl) T.n_abs (by decide +kernel) (pa_cons (pv 2) pa_nil)) pe_int))
      (pss_one (ps_ret (pe_lst (pa_cons (pv 3) (pa_cons (pe_op op_modN (pe_op op_mulU (pe_op op_addU (pe_op op_addU (pe_op op_modN (pv 2) pe_int) (pe_op op_mulU pe_int (pv 1))) pe_int) pe_int) pe_int) (pa_cons pe_int pa_nil))))))))

def sp_l_of (T : Txt K mg) : Sp := fun vs H Q _ => ∃ (b l : Addr) (xs : List V) (n : Nat), vs = [.ref b, .ref l] ∧ SqL K H l xs ∧ l ≠ b ∧ BagAt H b (n + 1) ∧ 0 < xs.length ∧ xs.length < 1000000 ∧
  ∀ (j : Nat) x H', xs[j]? = some x → BagAt H' b n → SameB b H H' → Q x H'
theorem len_l_of (T : Txt K mg) (vs : List V) (H : Hp) (Q : VK) (E : XK) (h : sp_l_of T vs H Q E) : vs.length = 2 := by
  obtain ⟨a, l, xs, i, rfl, _⟩ := h
  rfl
def t_l_of (T : Txt K mg) : TS := (tRet (tOp (rIx K) (tVar 1) (tCall (sp_l_take T) [] E0 (tCons (tVar 0) (tCons (tCB (rLenU K) (tCons (tVar 1) tNil)) tNil)))))

theorem pure_l_of (T : Txt K mg) (vs : List V) (H : Hp) (Q : VK) (E : XK) (h : sp_l_of T vs H Q E) : t_l_of T { nx := fun _ H' => Q .non H', rt := Q } (start ["_law_bag_here", "_law_some"] vs) H := by
  obtain ⟨b, l, xs, n, rfl, hS, hne, hB, h0, h1, q⟩ := h
  unfold t_l_of
  walk_at "rd"
  refine ⟨b, xs.length, n, rfl, hB, by omega, by omega, fun r H' r0 r1 hB' hs => ?_⟩
  obtain ⟨j, rfl⟩ : ∃ j : Nat, r = j := ⟨r.toNat, by omega⟩
  have hj : j < xs.length := by omega
  have g : atI xs (j : Int) = some xs[j] := atI_nat (List.getElem?_eq_getElem hj)
  walk_at "rd"
  exact q j _ _ (List.getElem?_eq_getElem hj) hB' hs
theorem ok_l_of (T : Txt K mg) : FnOk P w K mg base CX0 2 T.l_of_a T.l_of_d ["_law_bag_here", "_law_some"] (sp_l_of T) := by
  refine T.l_of_f.ok sc_l_of (fun vs H Q E h => len_l_of T vs H Q E h) (fun cdv A outer s H vs Q E hr h => ⟨t_l_of T, PSs.nox ?_, pure_l_of T vs H Q E h⟩)
  have hu := hu64 hr
  exact (pss_one (ps_ret (pe_ix ix_seq (pv 1) (pe_call (ok_l_take T) (hr.mono (by decide)) (by rfl) T.l_take_g T.l_take_f.kp T.l_take_b .nil pass0 (pa_cons (pv 0) (pa_cons (pe_callB c_lenU (by rfl) T.n_len (by decide +kernel) (pa_cons (pv 1) pa_nil)) pa_nil))) (fun _ _ => rfl))))



/-! ### signs -/
def prn : List Nat := List.range' 32 5 ++ List.range' 38 89
theorem prn_eq : (Str.ofString " !\"#$&'()*+,-./0123456789:;<=>?@ABCDEFGHIJKLMNOPQRSTUVWXYZ[\\]^_`abcdefghijklmnopqrstuvwxyz{|}~").cps.toList = prn := by decide +kernel
/-- a sign that a code may have -/
def Sg (c : Nat) : Prop := 33 ≤ c ∧ c ≤ 126 ∧ c ≠ 37
theorem Sg.mem {c : Nat} (h : Sg c) : c ∈ prn := by
  unfold prn
  unfold Sg at h
  rw [List.mem_append, List.mem_range'_1, List.mem_range'_1]
  omega
def Sgs (z : Str) : Prop := ∀ c ∈ z.cps.toList, Sg c
def sp_is_integer (T : Txt K mg) : Sp := fun vs H Q _ => ∃ i : Int, vs = [.int i] ∧ Q (.bl true) H
theorem len_is_integer (T : Txt K mg) (vs : List V) (H : Hp) (Q : VK) (E : XK) (h : sp_is_integer T vs H Q E) : vs.length = 1 := by
  obtain ⟨_, rfl, _⟩ := h
  rfl
def t_is_integer (T : Txt K mg) : TS := (tRet (tAndV (tCB (rIsi K) (tCons (tVar 0) (tCons (tC (.ty "int")) tNil))) (tNotV (tCB (rIsi K) (tCons (tVar 0) (tCons (tC (.ty "bool")) tNil))))))

theorem pure_is_integer (T : Txt K mg) (vs : List V) (H : Hp) (Q : VK) (E : XK) (h : sp_is_integer T vs H Q E) : t_is_integer T { nx := fun _ H' => Q .non H', rt := Q } (start ["value"] vs) H := by
  obtain ⟨i, rfl, q⟩ := h
  unfold t_is_integer
  walk_at "rd"
  refine r_isiI ?_
  walk_at "rd"
  refine r_isiIB ?_
  walk_at "rd"
  exact q
theorem ok_is_integer (T : Txt K mg) : FnOk P w K mg base CX0 1 T.is_integer_a T.is_integer_d ["value"] (sp_is_integer T) := by
  refine T.is_integer_f.ok sc_is_integer (fun vs H Q E h => len_is_integer T vs H Q E h) (fun cdv A outer s H vs Q E hr h => ⟨t_is_integer T, PSs.nox ?_, pure_is_integer T vs H Q E h⟩)
  have hu := hu64 hr
  exact (pss_one (ps_ret (pe_and (pe_callB call_isi (by rfl) T.n_isinstance (by decide +kernel) (pa_cons (pv 0) (pa_cons (pe_bltn (v := .ty "int") (by rfl) T.n_int (by decide +kernel) rfl) pa_nil))) (pe_one (pe_not (pe_callB call_isi (by rfl) T.n_isinstance (by decide +kernel) (pa_cons (pv 0) (pa_cons (pe_bltn (v := .ty "bool") (by rfl) T.n_bool (by decide +kernel) rfl) pa_nil))))))))

def sp_is_within (T : Txt K mg) : Sp := fun vs H Q _ => ∃ x lo hi : Int, vs = [.int x, .int lo, .int hi] ∧ Q (.bl (decide (lo ≤ x) && decide (x ≤ hi))) H
theorem len_is_within (T : Txt K mg) (vs : List V) (H : Hp) (Q : VK) (E : XK) (h : sp_is_within T vs H Q E) : vs.length = 3 := by
  obtain ⟨_, _, _, rfl, _⟩ := h
  rfl
def t_is_within (T : Txt K mg) : TS := (tRet (tAndV (tCall (sp_is_integer T) [] E0 (tCons (tVar 0) tNil)) (tChain rLeI rLeI (tVar 1) (tVar 0) (tVar 2))))

theorem pure_is_within (T : Txt K mg) (vs : List V) (H : Hp) (Q : VK) (E : XK) (h : sp_is_within T vs H Q E) : t_is_within T { nx := fun _ H' => Q .non H', rt := Q } (start ["value", "low", "high"] vs) H := by
  obtain ⟨x, lo, hi, rfl, q⟩ := h
  unfold t_is_within
  walk_at "rd"
  refine ⟨x, rfl, ?_⟩
  walk_at "rd"
  refine r_iteD (fun h => ?_) (fun h => ?_)
  · walk_at "rd"
    rw [decide_eq_true h, Bool.true_and] at q
    exact q
  · rw [decide_eq_false h, Bool.false_and] at q
    exact q
theorem ok_is_within (T : Txt K mg) : FnOk P w K mg base CX0 2 T.is_within_a T.is_within_d ["value", "low", "high"] (sp_is_within T) := by
  refine T.is_within_f.ok sc_is_within (fun vs H Q E h => len_is_within T vs H Q E h) (fun cdv A outer s H vs Q E hr h => ⟨t_is_within T, PSs.nox ?_, pure_is_within T vs H Q E h⟩)
  have hu := hu64 hr
  exact (pss_one (ps_ret (pe_and (pe_call (ok_is_integer T) (hr.mono (by decide)) (by rfl) T.is_integer_g T.is_integer_f.kp T.is_integer_b .nil pass0 (pa_cons (pv 0) pa_nil)) (pe_one (pe_chain op_le op_le (pv 1) (pv 0) (pv 2))))))

def sp_is_byte (T : Txt K mg) : Sp := fun vs H Q _ => ∃ x : Int, vs = [.int x] ∧ Q (.bl (decide (0 ≤ x) && decide (x ≤ 255))) H
theorem len_is_byte (T : Txt K mg) (vs : List V) (H : Hp) (Q : VK) (E : XK) (h : sp_is_byte T vs H Q E) : vs.length = 1 := by
  obtain ⟨_, rfl, _⟩ := h
  rfl
def t_is_byte (T : Txt K mg) : TS := (tRet (tCall (sp_is_within T) [] E0 (tCons (tVar 0) (tCons (tC (.int 0)) (tCons (tC (.int 255)) tNil)))))

theorem pure_is_byte (T : Txt K mg) (vs : List V) (H : Hp) (Q : VK) (E : XK) (h : sp_is_byte T vs H Q E) : t_is_byte T { nx := fun _ H' => Q .non H', rt := Q } (start ["value"] vs) H := by
  obtain ⟨x, rfl, q⟩ := h
  unfold t_is_byte
  walk_at "rd"
  exact ⟨x, 0, 255, rfl, q⟩
theorem ok_is_byte (T : Txt K mg) : FnOk P w K mg base CX0 3 T.is_byte_a T.is_byte_d ["value"] (sp_is_byte T) := by
  refine T.is_byte_f.ok sc_is_byte (fun vs H Q E h => len_is_byte T vs H Q E h) (fun cdv A outer s H vs Q E hr h => ⟨t_is_byte T, PSs.nox ?_, pure_is_byte T vs H Q E h⟩)
  have hu := hu64 hr
  exact (pss_one (ps_ret (pe_call (ok_is_within T) (hr.mono (by decide)) (by rfl) T.is_within_g T.is_within_f.kp T.is_within_b .nil pass0 (pa_cons (pv 0) (pa_cons pe_int (pa_cons pe_int pa_nil))))))

def sp_is_sign (T : Txt K mg) : Sp := fun vs H Q _ => ∃ c : Nat, vs = [.str ⟨#[c]⟩] ∧ Sg c ∧ Q (.bl true) H
theorem len_is_sign (T : Txt K mg) (vs : List V) (H : Hp) (Q : VK) (E : XK) (h : sp_is_sign T vs H Q E) : vs.length = 1 := by
  obtain ⟨_, rfl, _⟩ := h
  rfl
def t_is_sign (T : Txt K mg) : TS := (tRet (tAndV (tCB (rIsi K) (tCons (tVar 0) (tCons (tC (.ty "str")) tNil))) (tAndV (tOp (rEqU K) (tCB (rLenU K) (tCons (tVar 0) tNil)) (tC (.int 1))) (tAndV (tOp (rInU K) (tVar 0) (tC (.str (Str.ofString " !\"#$&'()*+,-./0123456789:;<=>?@ABCDEFGHIJKLMNOPQRSTUVWXYZ[\\]^_`abcdefghijklmnopqrstuvwxyz{|}~")))) (tOp (rNeU K) (tVar 0) (tC (.str (Str.ofString " "))))))))

theorem pure_is_sign (T : Txt K mg) (vs : List V) (H : Hp) (Q : VK) (E : XK) (h : sp_is_sign T vs H Q E) : t_is_sign T { nx := fun _ H' => Q .non H', rt := Q } (start ["value"] vs) H := by
  obtain ⟨c, rfl, hc, q⟩ := h
  unfold t_is_sign
  walk_at "rd"
  refine r_isiS ?_
  walk_at "rd"
  refine r_lenUS (by show 1 ≤ sizeLine; decide) ?_
  walk_at "rd"
  refine r_iteD (fun _ => ?_) (fun h => absurd rfl h)
  walk_at "rd"
  refine r_inS ⟨c, _, rfl, rfl, ?_⟩
  rw [prn_eq, decide_eq_true hc.mem]
  walk_at "rd"
  have hne : (⟨#[c]⟩ : Str) ≠ Str.ofString " " := by
    intro z
    have e : c = 32 := by
      have z2 := congrArg (fun s : Str => s.cps.toList) z
      have z3 : [c] = [32] := z2
      exact (List.cons.inj z3).1
    unfold Sg at hc
    omega
  rw [decide_eq_false hne]
  exact q
theorem ok_is_sign (T : Txt K mg) : FnOk P w K mg base CX0 1 T.is_sign_a T.is_sign_d ["value"] (sp_is_sign T) := by
  refine T.is_sign_f.ok sc_is_sign (fun vs H Q E h => len_is_sign T vs H Q E h) (fun cdv A outer s H vs Q E hr h => ⟨t_is_sign T, PSs.nox ?_, pure_is_sign T vs H Q E h⟩)
  have hu := hu64 hr
  exact (pss_one (ps_ret (pe_and (pe_callB call_isi (by rfl) T.n_isinstance (by decide +kernel) (pa_cons (pv 0) (pa_cons (pe_bltn (v := .ty "str") (by rfl) T.n_str (by decide +kernel) rfl) pa_nil))) (pe_and (pe_cmpR (op_eqU hu) (pe_callB c_lenU (by rfl) T.n_len (by decide +kernel) (pa_cons (pv 0) pa_nil)) pe_int (nomark _)) (pe_and (pe_cmpR op_inU (pv 0) (pe_glob (by rfl) T.k_PRINTED_g T.k_PRINTED_r) (by rfl)) (pe_one (pe_cmpR (op_neU hu) (pv 0) pe_str (nomark _))))))))

def sp_are_signs (T : Txt K mg) : Sp := fun vs H Q _ => ∃ z : Str, vs = [.str z] ∧ z.length ≤ 1000 ∧ Sgs z ∧ z.cps.toList.Nodup ∧ ∀ H', Same H H' → Q (.bl true) H'
theorem len_are_signs (T : Txt K mg) (vs : List V) (H : Hp) (Q : VK) (E : XK) (h : sp_are_signs T vs H Q E) : vs.length = 1 := by
  obtain ⟨_, rfl, _⟩ := h
  rfl
def t_are_signs (T : Txt K mg) : TS := (tSeq (tIfS (tOr (tNot (tB (tCB (rIsi K) (tCons (tVar 0) (tCons (tC (.ty "str")) tNil))))) (tNot (tB (tCB (rAll K) (tCons (tLc (iSeqU K (tVar 0)) (gName 1) tYes (tCall (sp_is_sign T) [] E0 (tCons (tVar 1) tNil)) [1]) tNil))))) (tRet (tC (.bl false))) tNext)
    (tRet (tOp (rEqU K) (tDist 1 (tVar 0)) (tCB (rLenU K) (tCons (tVar 0) tNil)))))

theorem pure_are_signs (T : Txt K mg) (vs : List V) (H : Hp) (Q : VK) (E : XK) (h : sp_are_signs T vs H Q E) : t_are_signs T { nx := fun _ H' => Q .non H', rt := Q } (start ["value", "character"] vs) H := by
  obtain ⟨z, rfl, hl, hs, hn, q⟩ := h
  unfold t_are_signs
  walk_at "rd"
  refine r_isiS ?_
  walk_at "rd"
  refine r_iseqS ?_
  walk_at "rd"
  refine ⟨z, rfl, fun D hD => ?_⟩
  refine c_it walk_str (fun i G => G D = some (.lst ((List.replicate i true).map V.bl)) ∧ Same H G) ⟨upd_same, same_new hD⟩ (fun _ _ _ _ => trivial) ?_ ?_
  · rintro i x G G' hi ⟨hG, sG⟩ ⟨rfl, c, hc, rfl⟩
    walk_at "rd"
    refine ⟨rfl, ?_⟩
    walk_at "rd"
    refine ⟨c, rfl, hs c ?_, ?_⟩
    · exact Array.mem_toList_iff.mpr (Array.mem_of_getElem? hc)
    refine ⟨_, hG, ?_, ?_, same_mut sG hD⟩
    · rw [List.length_map, List.length_replicate]
      exact Nat.lt_trans hi (Nat.lt_of_le_of_lt hl (by rw [sizeLine_eq]; decide))
    · rw [upd_same, List.replicate_succ', List.map_append]
      rfl
  rintro G ⟨hG, sG⟩
  walk_at "rd"
  refine r_all (ql hG) ?_
  rw [show (List.replicate z.cps.size true).all id = true by simp]
  walk_at "rd"
  refine r_dist (by exact Nat.lt_succ_self 1) ?_
  walk_at "rd"
  refine ⟨z, rfl, hl, fun H2 s2 => ?_⟩
  walk_at "rd"
  refine r_lenUS (Nat.le_trans hl (by rw [sizeLine_eq]; decide)) ?_
  walk_at "rd"
  rw [uniq_nodup hn, Array.length_toList, decide_eq_true (show ((z.cps.size : Nat) : Int) = (z.length : Nat) from rfl)]
  exact q _ (sG.trans s2)
theorem ok_are_signs (T : Txt K mg) : FnOk P w K mg base CX0 2 T.are_signs_a T.are_signs_d ["value"] (sp_are_signs T) := by
  refine T.are_signs_f.ok sc_are_signs (fun vs H Q E h => len_are_signs T vs H Q E h) (fun cdv A outer s H vs Q E hr h => ⟨t_are_signs T, PSs.nox ?_, pure_are_signs T vs H Q E h⟩)
  have hu := hu64 hr
  exact (pss_cons (ps_if (PW.pt (pw_or (pt_not (pt_val (pe_callB call_isi (by rfl) T.n_isinstance (by decide +kernel) (pa_cons (pv 0) (pa_cons (pe_bltn (v := .ty "str") (by rfl) T.n_str (by decide +kernel) rfl) pa_nil))))) (pw_or1 (pt_not (pt_val (pe_callB (cr_all rfl) (by rfl) T.n_all (by decide +kernel) (pa_cons (pe_lc (own := [("character", 1)]) (g := (gName 1)) (tt := tYes) rfl sc_are_signs.nd (pi_seqU (pv 0)) (blkOk_by (own := [("character", 1)]) (N := ["value", "character"]) (sc := defScope s_are_signs) (by decide +kernel)) (fun _ _ _ _ _ => (pg_name (i := 1) sc_are_signs.nd rfl (.inl rfl))) (fun _ _ _ _ _ => pts_nil) (fun _ _ _ _ _ => (pe_call (ok_is_sign T) (hr.mono (by decide)) (by rfl) T.is_sign_g T.is_sign_f.kp T.is_sign_b .nil pass0 (pa_cons (pv 1) pa_nil)))) pa_nil))))))) (pss_one (ps_ret pe_bl)) pss_nil)
      (pss_one (ps_ret (pe_cmpR (op_eqU hu) (pe_distinct (fun σ H P P' f ⟨v, e, q⟩ => ⟨v, e, f _ _ q⟩) (pe_callB call_lenT (by rfl) T.n_len (by decide +kernel) (pa_cons (pe_scT (own := [("character", 1)]) (g := gName 1) (tt := tYes) rfl sc_are_signs.nd (pi_seqU (pv 0)) (blkOk_by (own := [("character", 1)]) (N := ["value", "character"]) (sc := defScope s_are_signs) (by decide +kernel)) (fun _ _ _ _ _ => (pg_name (i := 1) sc_are_signs.nd rfl (.inl rfl))) (fun _ _ _ _ _ => pts_nil) (fun _ _ _ _ _ => (pv 1))) pa_nil))) (pe_callB c_lenU (by rfl) T.n_len (by decide +kernel) (pa_cons (pv 0) pa_nil)) (nomark _)))))


end
section
variable {w : World} {K : PySem.W.Frag} {mg : Str → Option Value} {base : Heap}
/-! ### data -/
def Byts (xs : List Int) : Prop := ∀ x ∈ xs, 0 ≤ x ∧ x ≤ 255
theorem at_int {xs : List Int} {i : Nat} {x : V} (h : (xs.map V.int)[i]? = some x) : ∃ z, xs[i]? = some z ∧ x = .int z := by
  rw [List.getElem?_map] at h
  cases e : xs[i]? with
  | none => rw [e] at h; cases h
  | some a => rw [e] at h; exact ⟨a, rfl, (Option.some.inj h).symm⟩
/-- a list or a tuple -/
def SeqV (H : Hp) (p : Addr) (xs : List V) : Prop := H p = some (.lst xs) ∨ H p = some (.tup xs)
theorem SeqV.same {H H' : Hp} {p : Addr} {xs : List V} (s : Same H H') (h : SeqV H p xs) : SeqV H' p xs := h.imp (s _ _) (s _ _)
theorem SeqV.kd {H : Hp} {p : Addr} {xs : List V} (h : SeqV H p xs) : ∃ t, Kd H (.ref p) t := by
  rcases h with h | h
  · exact ⟨_, .lst h⟩
  · exact ⟨_, .tup h⟩
theorem SeqV.sm {H : Hp} {p : Addr} {xs ys : List V} (h : SeqV H p xs) (k : SeqV H p ys) : xs = ys := by
  rcases h with h | h <;> rcases k with k | k <;> (rw [h] at k; cases k) <;> rfl
theorem r_lenSeq {H : Hp} {Q : VK} {p : Addr} {xs : List V} (h1 : SeqV H p xs) (h : Q (.int xs.length) H) : rLenU K [.ref p] H Q := by
  rcases h1 with h1 | h1
  · exact r_lenUL (ql h1) h
  · exact r_lenUT (qt h1) h
theorem r_listSeq {H : Hp} {Q : VK} {p : Addr} {xs : List V} (h1 : SeqV H p xs) (h : ∀ l, H l = none → Q (.ref l) (upd H l (.lst xs))) : rListOf K [.ref p] H Q := by
  rcases h1 with h1 | h1
  · exact r_listL (ql h1) h
  · exact ⟨_, _, rfl, .inr (qt h1), h⟩
/-- for i, x in enumerate(list or tuple) -/
theorem f_enumSeq {i1 i2 : Nat} {tr : TS} {D : Ends} {σ : S} {H : Hp} {p : Addr} {xs : List V} {j : Nat} (h1 : SeqV H p xs) (hv : σ[j]? = some (some (.ref p))) (I : Nat → S → Hp → Prop) (h0 : I 0 σ H) (hs : ∀ i σ G, I i σ G → Same H G)
    (step : ∀ (i : Nat) (x : V) (σ : S) (G G' : Hp) (T : Addr), I i σ G → xs[i]? = some x → Same G G' → G' T = some (.tup [.int (i : Nat), x]) →
      gTup K 2 (gCons (gName i1) (gCons (gName i2) gNil)) (.ref T) σ G' fun σ1 H1 => tr { nx := fun σ' H' => I (i + 1) σ' H', rt := D.rt, bk := D.nx, ct := fun σ' H' => I (i + 1) σ' H' } σ1 H1)
    (fin : ∀ σ G, I xs.length σ G → D.nx σ G) : tFor (iEnumA K (tCons (tVar j) tNil)) (gTup K 2 (gCons (gName i1) (gCons (gName i2) gNil))) tr D σ H := by
  refine r_for ?_
  rcases h1 with h1 | h1
  · refine r_enumAL ?_
    refine r_cons (r_var hv (r_nil ?_))
    refine ⟨p, xs, rfl, ql h1, ?_⟩
    refine f_it (walk_enum (K := K) (a := p) (xs := xs)) I h0 (fun i σ G _ h => ql ((hs i σ G h) _ _ h1)) ?_ fin
    rintro i x σ G G' hi hI ⟨T, a, b, rfl, nT, hG', ea, eb⟩
    cases ea
    exact step i b σ G G' T hI eb (same_of hG'.symm nT) (at_of hG'.symm)
  · refine r_enumAT ?_
    refine r_cons (r_var hv (r_nil ?_))
    refine ⟨p, xs, rfl, qt h1, ?_⟩
    refine f_it (walk_enumT (K := K) (a := p) (xs := xs)) I h0 (fun i σ G _ h => qt ((hs i σ G h) _ _ h1)) ?_ fin
    rintro i x σ G G' hi hI ⟨T, a, b, rfl, nT, hG', ea, eb⟩
    cases ea
    exact step i b σ G G' T hI eb (same_of hG'.symm nT) (at_of hG'.symm)

theorem r_isiSeqV {H : Hp} {Q : VK} {p tp : Addr} {xs : List V} (h : SeqV H p xs) (h2 : H tp = some (.tup [.ty "list", .ty "tuple"])) (q : Q (.bl true) H) : rIsiT K [.ref p, .ref tp] H Q := by
  rcases h with h | h
  · exact r_isiTL h h2 q
  · exact r_isiTT h h2 q
def sp_data_of (T : Txt K mg) : Sp := fun vs H Q _ => ∃ (p : Addr) (xs : List Int), vs = [.ref p] ∧ SeqV H p (xs.map V.int) ∧ xs.length ≤ 600 ∧ Byts xs ∧
  ∀ r H', Same H H' → H r = none → H' r = some (.lst (xs.map V.int)) → Q (.ref r) H'
theorem len_data_of (T : Txt K mg) (vs : List V) (H : Hp) (Q : VK) (E : XK) (h : sp_data_of T vs H Q E) : vs.length = 1 := by
  obtain ⟨_, _, rfl, _⟩ := h
  rfl
def t_data_of (T : Txt K mg) : TS := (tSeq (tIfS (tOr (tNot (tB (tCB (rIsiT K) (tCons (tVar 0) (tCons (tTup (tCons (tC (.ty "list")) (tCons (tC (.ty "tuple")) tNil))) tNil))))) (tTest (tOp rGtI (tCB (rLenU K) (tCons (tVar 0) tNil)) (tC (.int 600))))) tNever tNext)
    (tSeq (tFor (iEnumA K (tCons (tVar 0) tNil)) (gTup K 2 (gCons (gName 1) (gCons (gName 2) gNil))) (tIfS (tNot (tB (tCall (sp_is_byte T) [] E0 (tCons (tVar 2) tNil)))) tNever tNext))
    (tRet (tCB (rListOf K) (tCons (tVar 0) tNil)))))

theorem pure_data_of (T : Txt K mg) (vs : List V) (H : Hp) (Q : VK) (E : XK) (h : sp_data_of T vs H Q E) : t_data_of T { nx := fun _ H' => Q .non H', rt := Q } (start ["value", "index", "byte"] vs) H := by
  obtain ⟨p, xs, rfl, hp, hl, hb, q⟩ := h
  unfold t_data_of
  walk_at "rd"
  refine And.intro (by walk_at "sz") ?_
  intro t nt
  generalize hg : upd _ t _ = Hn
  have hs := same_of hg nt
  have hv := at_of hg
  clear hg
  walk_at "rd"
  refine r_isiSeqV (hp.same hs) hv ?_
  walk_at "rd"
  refine r_lenSeq (hp.same hs) ?_
  walk_at "rd"
  refine r_iteD (fun h => absurd h (by rw [List.length_map]; omega)) (fun _ => ?_)
  walk_at "rd"
  refine f_enumSeq (hp.same hs) rfl (fun i σ G => ∃ v1 v2, σ = [some (.ref p), v1, v2] ∧ Same Hn G) ⟨none, none, rfl, Same.refl Hn⟩ (fun i σ G h => by
    obtain ⟨_, _, _, s⟩ := h
    exact s) ?_ ?_
  · rintro i x σ G G' T ⟨v1, v2, rfl, sG⟩ hx hsT hvT
    obtain ⟨z, hz, rfl⟩ := at_int hx
    have bz := hb z (List.mem_of_getElem? hz)
    walk_at "rd"
    refine ⟨z, rfl, ?_⟩
    rw [decide_eq_true bz.1, decide_eq_true bz.2]
    walk_at "rd"
    exact ⟨_, _, rfl, sG.trans hsT⟩
  · rintro σ G ⟨v1, v2, rfl, sG⟩
    have hp2 := (hp.same hs).same sG
    walk_at "rd"
    refine r_listSeq hp2 ?_
    intro r nr
    generalize hg : upd _ r _ = Hr
    have hsr := same_of hg nr
    have hvr := at_of hg
    exact q r Hr (hs.trans (sG.trans hsr)) ((hs.trans sG).free nr) hvr
theorem ok_data_of (T : Txt K mg) : FnOk P w K mg base CX0 4 T.data_of_a T.data_of_d ["value"] (sp_data_of T) := by
  refine T.data_of_f.ok sc_data_of (fun vs H Q E h => len_data_of T vs H Q E h) (fun cdv A outer s H vs Q E hr h => ⟨t_data_of T, PSs.nox ?_, pure_data_of T vs H Q E h⟩)
  have hu := hu64 hr
  exact (pss_cons (ps_if (PW.pt (pw_or (pt_not (pt_val (pe_callB call_isiT (by rfl) T.n_isinstance (by decide +kernel) (pa_cons (pv 0) (pa_cons (pe_tup (pa_cons (pe_bltn (v := .ty "list") (by rfl) T.n_list (by decide +kernel) rfl) (pa_cons (pe_bltn (v := .ty "tuple") (by rfl) T.n_tuple (by decide +kernel) rfl) pa_nil))) pa_nil))))) (pw_or1 (pt_cmpR op_gt (pe_callB c_lenU (by rfl) T.n_len (by decide +kernel) (pa_cons (pv 0) pa_nil)) (pe_glob (by rfl) T.k_MOST_BYTES_g T.k_MOST_BYTES_r) (nomark _))))) (pss_one ps_never) pss_nil)
      (pss_cons (ps_for PassesOwn.never rfl (pi_enumA (by rfl) T.n_enumerate (pa_cons (pv 0) pa_nil)) (pg_tup (by rfl) (pgs_cons (pg_name (i := 1) sc_data_of.nd rfl (.inl rfl)) (pgs_cons (pg_name (i := 2) sc_data_of.nd rfl (.inl rfl)) pgs_nil))) (pss_one (ps_if (pt_not (pt_val (pe_call (ok_is_byte T) (hr.mono (by decide)) (by rfl) T.is_byte_g T.is_byte_f.kp T.is_byte_b .nil pass0 (pa_cons (pv 2) pa_nil)))) (pss_one ps_never) pss_nil)))
      (pss_one (ps_ret (pe_callTy call_list_of (by rfl) T.n_list (by decide +kernel) (pa_cons (pv 0) pa_nil))))))

/-! ### a code -/
structure CodeD where
  sg : Str
  pd : Str
  wd : Nat
  sb : Nat
structure CodeD.Ok (c : CodeD) : Prop where
  b1 : 1 ≤ c.sb
  b6 : c.sb ≤ 6
  ln : c.sg.length = 2 ^ c.sb
  sgs : Sgs c.sg
  pds : Sgs c.pd
  pl : c.pd.length ≤ 1
  wd76 : c.wd ≤ 76
/-- the dict of the digits -/
def Dig (c : CodeD) (kvs : List (Key × V)) : Prop := ∀ (j ch : Nat), c.sg.cps.toList[j]? = some ch → valV kvs (.inr ⟨#[ch]⟩) = some (.int (j : Nat))
def CodeAt (T : Txt K mg) (H : Hp) (a : Addr) (c : CodeD) : Prop := c.Ok ∧ ∃ dx tp dg kvs, H a = some (.ins T.C_Code dx [("parts", .ref tp), ("digits", .ref dg), ("sign_bits", .int c.sb)]) ∧ H tp = some (.tup [.str c.sg, .str c.pd, .int c.wd]) ∧ H dg = some (.dK kvs) ∧ Dig c kvs
theorem CodeAt.same {T : Txt K mg} {H H' : Hp} {a : Addr} {c : CodeD} (h : CodeAt T H a c) (s : Same H H') : CodeAt T H' a c := by
  obtain ⟨o, dx, tp, dg, kvs, h1, h2, h3, h4⟩ := h
  exact ⟨o, dx, tp, dg, kvs, s _ _ h1, s _ _ h2, s _ _ h3, h4⟩
/-- a getter's promise -/
def spG (T : Txt K mg) (g : CodeD → V) : Sp := fun vs H Q _ => ∃ a c, vs = [.ref a] ∧ CodeAt T H a c ∧ Q (g c) H
theorem len_spG (T : Txt K mg) (g : CodeD → V) (vs : List V) (H : Hp) (Q : VK) (E : XK) (h : spG T g vs H Q E) : vs.length = 1 := by
  obtain ⟨_, _, rfl, _⟩ := h
  rfl
abbrev sp_Code_signs (T : Txt K mg) : Sp := spG T fun c => .str c.sg
abbrev sp_Code_pad (T : Txt K mg) : Sp := spG T fun c => .str c.pd
abbrev sp_Code_width (T : Txt K mg) : Sp := spG T fun c => .int c.wd
abbrev sp_Code_bits (T : Txt K mg) : Sp := spG T fun c => .int c.sb
def grp (b : Nat) : Nat := [0, 8, 4, 8, 2, 8, 4].getD b 0
theorem grp_at {n : Nat} (h : n ≤ 6) : atI [V.int 0, V.int 8, V.int 4, V.int 8, V.int 2, V.int 8, V.int 4] (n : Int) = some (V.int (grp n : Nat)) := by
  have e : n = 0 ∨ n = 1 ∨ n = 2 ∨ n = 3 ∨ n = 4 ∨ n = 5 ∨ n = 6 := by omega
  rcases e with rfl | rfl | rfl | rfl | rfl | rfl | rfl <;> rfl
abbrev sp_Code_group (T : Txt K mg) : Sp := spG T fun c => .int (grp c.sb : Nat)
theorem len_Code_signs (T : Txt K mg) (vs : List V) (H : Hp) (Q : VK) (E : XK) (h : sp_Code_signs T vs H Q E) : vs.length = 1 := len_spG T _ vs H Q E h
theorem len_Code_pad (T : Txt K mg) (vs : List V) (H : Hp) (Q : VK) (E : XK) (h : sp_Code_pad T vs H Q E) : vs.length = 1 := len_spG T _ vs H Q E h
theorem len_Code_width (T : Txt K mg) (vs : List V) (H : Hp) (Q : VK) (E : XK) (h : sp_Code_width T vs H Q E) : vs.length = 1 := len_spG T _ vs H Q E h
theorem len_Code_bits (T : Txt K mg) (vs : List V) (H : Hp) (Q : VK) (E : XK) (h : sp_Code_bits T vs H Q E) : vs.length = 1 := len_spG T _ vs H Q E h
theorem len_Code_group (T : Txt K mg) (vs : List V) (H : Hp) (Q : VK) (E : XK) (h : sp_Code_group T vs H Q E) : vs.length = 1 := len_spG T _ vs H Q E h
theorem r_parts {T : Txt K mg} {σ : S} {H : Hp} {Q : VK} {i : Nat} {a : Addr} {c : CodeD} (h0 : σ[i]? = some (some (.ref a))) (hc : CodeAt T H a c) (k : ∀ tp, H tp = some (.tup [.str c.sg, .str c.pd, .int c.wd]) → Q (.ref tp) H) : tFld K (tVar i) "parts" σ H Q := by
  refine ⟨_, h0, ?_⟩
  obtain ⟨o, dx, tp, dg, kvs, h1, h2, h3, h4⟩ := hc
  exact ⟨a, _, dx, _, .ref tp, rfl, h1, T.C_Code_c, T.C_Code_n_parts, rfl, k tp h2⟩
theorem r_bits {T : Txt K mg} {σ : S} {H : Hp} {Q : VK} {i : Nat} {a : Addr} {c : CodeD} (h0 : σ[i]? = some (some (.ref a))) (hc : CodeAt T H a c) (k : Q (.int c.sb) H) : tFld K (tVar i) "sign_bits" σ H Q := by
  refine ⟨_, h0, ?_⟩
  obtain ⟨o, dx, tp, dg, kvs, h1, h2, h3, h4⟩ := hc
  exact ⟨a, _, dx, _, .int c.sb, rfl, h1, T.C_Code_c, T.C_Code_n_sign_bits, rfl, k⟩
def t_Code_signs (T : Txt K mg) : TS := (tRet (tOp (rIx K) (tFld K (tVar 0) "parts") (tC (.int 0))))

theorem pure_Code_signs (T : Txt K mg) (vs : List V) (H : Hp) (Q : VK) (E : XK) (h : sp_Code_signs T vs H Q E) : t_Code_signs T { nx := fun _ H' => Q .non H', rt := Q } (start ["self"] vs) H := by
  obtain ⟨a, c, rfl, hc, q⟩ := h
  unfold t_Code_signs
  walk_at "rd"
  refine r_parts rfl hc fun tp ht => ?_
  walk_at "rd"
  exact q
theorem ok_Code_signs (T : Txt K mg) : FnOk P w K mg base CX0 1 T.Code_signs_a T.Code_signs_d ["self"] (sp_Code_signs T) := by
  refine T.Code_signs_f.ok sc_Code_signs (fun vs H Q E h => len_Code_signs T vs H Q E h) (fun cdv A outer s H vs Q E hr h => ⟨t_Code_signs T, PSs.nox ?_, pure_Code_signs T vs H Q E h⟩)
  have hu := hu64 hr
  exact (pss_one (ps_ret (pe_ix ix_seq (pe_fld (pv 0) rfl) pe_int (fun _ _ => rfl))))

def t_Code_width (T : Txt K mg) : TS := (tRet (tOp (rIx K) (tFld K (tVar 0) "parts") (tC (.int 2))))

theorem pure_Code_width (T : Txt K mg) (vs : List V) (H : Hp) (Q : VK) (E : XK) (h : sp_Code_width T vs H Q E) : t_Code_width T { nx := fun _ H' => Q .non H', rt := Q } (start ["self"] vs) H := by
  obtain ⟨a, c, rfl, hc, q⟩ := h
  unfold t_Code_width
  walk_at "rd"
  refine r_parts rfl hc fun tp ht => ?_
  walk_at "rd"
  exact q
theorem ok_Code_width (T : Txt K mg) : FnOk P w K mg base CX0 1 T.Code_width_a T.Code_width_d ["self"] (sp_Code_width T) := by
  refine T.Code_width_f.ok sc_Code_width (fun vs H Q E h => len_Code_width T vs H Q E h) (fun cdv A outer s H vs Q E hr h => ⟨t_Code_width T, PSs.nox ?_, pure_Code_width T vs H Q E h⟩)
  have hu := hu64 hr
  exact (pss_one (ps_ret (pe_ix ix_seq (pe_fld (pv 0) rfl) pe_int (fun _ _ => rfl))))

def t_Code_bits (T : Txt K mg) : TS := (tRet (tFld K (tVar 0) "sign_bits"))

theorem pure_Code_bits (T : Txt K mg) (vs : List V) (H : Hp) (Q : VK) (E : XK) (h : sp_Code_bits T vs H Q E) : t_Code_bits T { nx := fun _ H' => Q .non H', rt := Q } (start ["self"] vs) H := by
  obtain ⟨a, c, rfl, hc, q⟩ := h
  unfold t_Code_bits
  walk_at "rd"
  exact r_bits rfl hc q
theorem ok_Code_bits (T : Txt K mg) : FnOk P w K mg base CX0 1 T.Code_bits_a T.Code_bits_d ["self"] (sp_Code_bits T) := by
  refine T.Code_bits_f.ok sc_Code_bits (fun vs H Q E h => len_Code_bits T vs H Q E h) (fun cdv A outer s H vs Q E hr h => ⟨t_Code_bits T, PSs.nox ?_, pure_Code_bits T vs H Q E h⟩)
  have hu := hu64 hr
  exact (pss_one (ps_ret (pe_fld (pv 0) rfl)))

def t_Code_group (T : Txt K mg) : TS := (tRet (tOp (rIx K) (tC (.ref T.k_GROUPS_a)) (tFld K (tVar 0) "sign_bits")))

theorem pure_Code_group (T : Txt K mg) (vs : List V) (H : Hp) (Q : VK) (E : XK) (h : sp_Code_group T vs H Q E) : t_Code_group T { nx := fun _ H' => Q .non H', rt := Q } (start ["self"] vs) H := by
  obtain ⟨a, c, rfl, hc, q⟩ := h
  unfold t_Code_group
  walk_at "rd"
  refine r_bits rfl hc ?_
  exact r_ixT (T.k_GROUPS_t H) (grp_at hc.1.b6) q
theorem ok_Code_group (T : Txt K mg) : FnOk P w K mg base CX0 1 T.Code_group_a T.Code_group_d ["self"] (sp_Code_group T) := by
  refine T.Code_group_f.ok sc_Code_group (fun vs H Q E h => len_Code_group T vs H Q E h) (fun cdv A outer s H vs Q E hr h => ⟨t_Code_group T, PSs.nox ?_, pure_Code_group T vs H Q E h⟩)
  have hu := hu64 hr
  exact (pss_one (ps_ret (pe_ix ix_seq (pe_glob (by rfl) T.k_GROUPS_g rfl) (pe_fld (pv 0) rfl) (fun _ _ => rfl))))

/-! ### steps over a code -/
theorem r_get {T : Txt K mg} {g : CodeD → V} {σ : S} {H : Hp} {Q : VK} {i : Nat} {a : Addr} {c : CodeD} (h0 : σ[i]? = some (some (.ref a))) (hc : CodeAt T H a c) (h : Q (g c) H) : tProp T.C_Code (spG T g) [] E0 (tVar i) σ H Q := by
  refine ⟨_, h0, ?_⟩
  have hc' := hc
  obtain ⟨o, dx, tp, dg, kvs, h1, h2, h3, h4⟩ := hc'
  exact ⟨a, dx, _, rfl, h1, a, c, rfl, hc, h⟩
theorem r_methC {T : Txt K mg} {m : Str} {sp : Sp} {σ : S} {H : Hp} {Q : VK} {E : XK} {i : Nat} {a : Addr} {c : CodeD} {tr : TA} (h0 : σ[i]? = some (some (.ref a))) (hc : CodeAt T H a c)
    (hm : ∀ v1 v2 v3 : V, ([("parts", v1), ("digits", v2), ("sign_bits", v3)] : List (Str × V)).lookup m = none) (h : tr σ H fun vs H2 => sp (.ref a :: (vs ++ [])) H2 Q E) : tMeth T.C_Code m sp [] E (tVar i) tr σ H Q := by
  refine ⟨_, h0, ?_⟩
  obtain ⟨o, dx, tp, dg, kvs, h1, h2, h3, h4⟩ := hc
  exact ⟨a, dx, _, rfl, h1, hm _ _ _, h⟩

end
section
variable {w : World} {K : PySem.W.Frag} {mg : Str → Option Value} {base : Heap}
local macro_rules | `(tactic| walk_at "hc") => `(tactic| first
  | assumption
  | ((refine CodeAt.same (H := ?xH) ?xb ?xa); (case xa => assumption); (case xb => walk_at "hc")))
local macro_rules | `(tactic| walk_at "rd0") => `(tactic| first
  | ((with_reducible refine r_get (a := ?xa) (c := ?xc) ?x1 ?x2 ?_); (case x1 => rfl); (case x2 => walk_at "hc"))
  | ((with_reducible refine r_methC (a := ?xa) (c := ?xc) ?x1 ?x2 ?x3 ?_); (case x1 => rfl); (case x2 => walk_at "hc"); (case x3 => (intro _ _ _; rfl)))
  | (with_reducible refine r_fmtB ?_)
  | (with_reducible refine r_dget ?_)
  | (with_reducible refine r_m0 ?_)
  | (with_reducible refine r_makeK ?_)
  | (with_reducible refine r_cval ?_)
  | (with_reducible refine r_sfld ?_)
  | (with_reducible refine r_isiI ?_)
  | (with_reducible refine r_isiIB ?_)
  | (with_reducible refine r_isiS ?_)
  | (with_reducible refine r_inID ?_))

/-! ### where a sign goes -/
def CodeD.full (c : CodeD) (col : Nat) : Bool := decide (0 < c.wd) && decide (col = c.wd)
def CodeD.nxt (c : CodeD) (col : Nat) : Nat := if 0 < c.wd then col + 1 else 0
def CodeD.plc (c : CodeD) (col s : Nat) : List Nat × Nat := if c.full col = true then ([10, s], 1) else ([s], c.nxt col)
def sp_Code_begin (T : Txt K mg) : Sp := fun vs H Q _ => ∃ a c, vs = [.ref a] ∧ CodeAt T H a c ∧ ∀ p H', Same H H' → H p = none → H' p = some (.tup [.str (Str.ofString ""), .int 0, .int 0]) → Q (.ref p) H'
theorem len_Code_begin (T : Txt K mg) (vs : List V) (H : Hp) (Q : VK) (E : XK) (h : sp_Code_begin T vs H Q E) : vs.length = 1 := by
  obtain ⟨_, _, rfl, _⟩ := h
  rfl
def t_Code_begin (T : Txt K mg) : TS := (tRet (tTup (tCons (tC (.str (Str.ofString ""))) (tCons (tC (.int 0)) (tCons (tC (.int 0)) tNil)))))

theorem pure_Code_begin (T : Txt K mg) (vs : List V) (H : Hp) (Q : VK) (E : XK) (h : sp_Code_begin T vs H Q E) : t_Code_begin T { nx := fun _ H' => Q .non H', rt := Q } (start ["self"] vs) H := by
  obtain ⟨a, c, rfl, hc, q⟩ := h
  unfold t_Code_begin
  walk_at "rd"
  walk_at "new"
  exact q p Hn hs np hv
theorem ok_Code_begin (T : Txt K mg) : FnOk P w K mg base CX0 1 T.Code_begin_a T.Code_begin_d ["self"] (sp_Code_begin T) := by
  refine T.Code_begin_f.ok sc_Code_begin (fun vs H Q E h => len_Code_begin T vs H Q E h) (fun cdv A outer s H vs Q E hr h => ⟨t_Code_begin T, PSs.nox ?_, pure_Code_begin T vs H Q E h⟩)
  have hu := hu64 hr
  exact (pss_one (ps_ret (pe_tup (pa_cons pe_str (pa_cons pe_int (pa_cons pe_int pa_nil))))))

def sp_Code_is_full (T : Txt K mg) : Sp := fun vs H Q _ => ∃ a c, ∃ n : Nat, vs = [.ref a, .int n] ∧ CodeAt T H a c ∧ Q (.bl (c.full n)) H
theorem len_Code_is_full (T : Txt K mg) (vs : List V) (H : Hp) (Q : VK) (E : XK) (h : sp_Code_is_full T vs H Q E) : vs.length = 2 := by
  obtain ⟨_, _, _, rfl, _⟩ := h
  rfl
def t_Code_is_full (T : Txt K mg) : TS := (tRet (tAndV (tOp rGtI (tProp T.C_Code (sp_Code_width T) [] E0 (tVar 0)) (tC (.int 0))) (tOp (rEqU K) (tVar 1) (tProp T.C_Code (sp_Code_width T) [] E0 (tVar 0)))))

theorem pure_Code_is_full (T : Txt K mg) (vs : List V) (H : Hp) (Q : VK) (E : XK) (h : sp_Code_is_full T vs H Q E) : t_Code_is_full T { nx := fun _ H' => Q .non H', rt := Q } (start ["self", "column"] vs) H := by
  obtain ⟨a, c, n, rfl, hc, q⟩ := h
  unfold t_Code_is_full
  unfold CodeD.full at q
  walk_at "rd"
  refine r_iteD (fun h => ?_) (fun h => ?_)
  · rw [decide_eq_true (show 0 < c.wd by omega), Bool.true_and] at q
    walk_at "rd"
    by_cases e : n = c.wd
    · rw [decide_eq_true e] at q
      rw [decide_eq_true (show (n : Int) = (c.wd : Int) by omega)]
      exact q
    · rw [decide_eq_false e] at q
      rw [decide_eq_false (show ¬ (n : Int) = (c.wd : Int) by omega)]
      exact q
  · rw [decide_eq_false (show ¬ 0 < c.wd by omega), Bool.false_and] at q
    exact q
theorem ok_Code_is_full (T : Txt K mg) : FnOk P w K mg base CX0 3 T.Code_is_full_a T.Code_is_full_d ["self", "column"] (sp_Code_is_full T) := by
  refine T.Code_is_full_f.ok sc_Code_is_full (fun vs H Q E h => len_Code_is_full T vs H Q E h) (fun cdv A outer s H vs Q E hr h => ⟨t_Code_is_full T, PSs.nox ?_, pure_Code_is_full T vs H Q E h⟩)
  have hu := hu64 hr
  exact (pss_one (ps_ret (pe_and (pe_cmpR op_gt (pe_prop (pv 0) T.C_Code_c T.Code_width_p (ok_Code_width T) (hr.mono (by decide)) T.Code_width_b .nil pass0 rfl) pe_int (nomark _)) (pe_one (pe_cmpR (op_eqU hu) (pv 1) (pe_prop (pv 0) T.C_Code_c T.Code_width_p (ok_Code_width T) (hr.mono (by decide)) T.Code_width_b .nil pass0 rfl) (nomark _))))))

def sp_Code_next_column (T : Txt K mg) : Sp := fun vs H Q _ => ∃ a c, ∃ n : Nat, vs = [.ref a, .int n] ∧ CodeAt T H a c ∧ Q (.int (c.nxt n : Nat)) H
theorem len_Code_next_column (T : Txt K mg) (vs : List V) (H : Hp) (Q : VK) (E : XK) (h : sp_Code_next_column T vs H Q E) : vs.length = 2 := by
  obtain ⟨_, _, _, rfl, _⟩ := h
  rfl
def t_Code_next_column (T : Txt K mg) : TS := (tRet (tIf (tTest (tOp rGtI (tProp T.C_Code (sp_Code_width T) [] E0 (tVar 0)) (tC (.int 0)))) (tOp (rAddU K) (tVar 1) (tC (.int 1))) (tC (.int 0))))

theorem pure_Code_next_column (T : Txt K mg) (vs : List V) (H : Hp) (Q : VK) (E : XK) (h : sp_Code_next_column T vs H Q E) : t_Code_next_column T { nx := fun _ H' => Q .non H', rt := Q } (start ["self", "column"] vs) H := by
  obtain ⟨a, c, n, rfl, hc, q⟩ := h
  unfold t_Code_next_column
  unfold CodeD.nxt at q
  walk_at "rd"
  refine r_iteD (fun h => ?_) (fun h => ?_)
  · rw [if_pos (show 0 < c.wd by omega)] at q
    walk_at "rd"
    exact q
  · rw [if_neg (show ¬ 0 < c.wd by omega)] at q
    walk_at "rd"
    exact q
theorem ok_Code_next_column (T : Txt K mg) : FnOk P w K mg base CX0 3 T.Code_next_column_a T.Code_next_column_d ["self", "column"] (sp_Code_next_column T) := by
  refine T.Code_next_column_f.ok sc_Code_next_column (fun vs H Q E h => len_Code_next_column T vs H Q E h) (fun cdv A outer s H vs Q E hr h => ⟨t_Code_next_column T, PSs.nox ?_, pure_Code_next_column T vs H Q E h⟩)
  have hu := hu64 hr
  exact (pss_one (ps_ret (pe_ifExp (pt_cmpR op_gt (pe_prop (pv 0) T.C_Code_c T.Code_width_p (ok_Code_width T) (hr.mono (by decide)) T.Code_width_b .nil pass0 rfl) pe_int (nomark _)) (pe_op op_addU (pv 1) pe_int) pe_int)))

def tx (l : List Nat) : Str := ⟨l.toArray⟩
theorem tx_len (l : List Nat) : (tx l).length = l.length := by
  show l.toArray.size = _
  simp
theorem tx_list (l : List Nat) : (tx l).cps.toList = l := by simp [tx]
theorem tx_app (a b : List Nat) : tx a ++ tx b = tx (a ++ b) := by
  show (⟨a.toArray ++ b.toArray⟩ : Str) = ⟨(a ++ b).toArray⟩
  simp
theorem nl_tx : Str.ofString "\n" = tx [10] := rfl
theorem e_tx : Str.ofString "" = tx [] := rfl
def sp_Code_placed (T : Txt K mg) : Sp := fun vs H Q _ => ∃ a c, ∃ n s : Nat, vs = [.ref a, .int n, .str (tx [s])] ∧ CodeAt T H a c ∧
  ∀ p H', Same H H' → H p = none → H' p = some (.tup [.str (tx (c.plc n s).1), .int ((c.plc n s).2 : Nat)]) → Q (.ref p) H'
theorem len_Code_placed (T : Txt K mg) (vs : List V) (H : Hp) (Q : VK) (E : XK) (h : sp_Code_placed T vs H Q E) : vs.length = 3 := by
  obtain ⟨_, _, _, _, rfl, _⟩ := h
  rfl
def t_Code_placed (T : Txt K mg) : TS := (tSeq (tIfS (tB (tMeth T.C_Code "is_full" (sp_Code_is_full T) [] E0 (tVar 0) (tCons (tVar 1) tNil))) (tRet (tTup (tCons (tOp (rAddU K) (tC (.str (Str.ofString "\n"))) (tVar 2)) (tCons (tC (.int 1)) tNil)))) tNext)
    (tRet (tTup (tCons (tVar 2) (tCons (tMeth T.C_Code "next_column" (sp_Code_next_column T) [] E0 (tVar 0) (tCons (tVar 1) tNil)) tNil)))))

theorem pure_Code_placed (T : Txt K mg) (vs : List V) (H : Hp) (Q : VK) (E : XK) (h : sp_Code_placed T vs H Q E) : t_Code_placed T { nx := fun _ H' => Q .non H', rt := Q } (start ["self", "column", "sign"] vs) H := by
  obtain ⟨a, c, n, s, rfl, hc, q⟩ := h
  unfold t_Code_placed
  unfold CodeD.plc at q
  walk_at "rd"
  refine ⟨a, c, n, rfl, hc, ?_⟩
  walk_at "rd"
  refine r_iteB (fun h => ?_) (fun h => ?_)
  · rw [if_pos h] at q
    walk_at "rd"
    refine r_addUS (by rw [nl_tx, tx_len, tx_len]; show 2 ≤ sizeLine; decide) ?_
    rw [nl_tx, tx_app]
    walk_at "rd"
    walk_at "new"
    exact q p Hn hs np hv
  · rw [if_neg (by rw [h]; exact Bool.false_ne_true)] at q
    walk_at "rd"
    refine ⟨a, c, n, rfl, hc, ?_⟩
    walk_at "rd"
    walk_at "new"
    exact q p Hn hs np hv
theorem ok_Code_placed (T : Txt K mg) : FnOk P w K mg base CX0 4 T.Code_placed_a T.Code_placed_d ["self", "column", "sign"] (sp_Code_placed T) := by
  refine T.Code_placed_f.ok sc_Code_placed (fun vs H Q E h => len_Code_placed T vs H Q E h) (fun cdv A outer s H vs Q E hr h => ⟨t_Code_placed T, PSs.nox ?_, pure_Code_placed T vs H Q E h⟩)
  have hu := hu64 hr
  exact (pss_cons (ps_if (pt_val (pe_meth (pv 0) T.C_Code_c T.Code_is_full_m (ok_Code_is_full T) (hr.mono (by decide)) T.Code_is_full_b .nil pass0 (pa_cons (pv 1) pa_nil))) (pss_one (ps_ret (pe_tup (pa_cons (pe_op op_addU (pe_glob (by rfl) T.k_NEWLINE_g T.k_NEWLINE_r) (pv 2)) (pa_cons pe_int pa_nil))))) pss_nil)
      (pss_one (ps_ret (pe_tup (pa_cons (pv 2) (pa_cons (pe_meth (pv 0) T.C_Code_c T.Code_next_column_m (ok_Code_next_column T) (hr.mono (by decide)) T.Code_next_column_b .nil pass0 (pa_cons (pv 1) pa_nil)) pa_nil))))))


end
section
variable {w : World} {K : PySem.W.Frag} {mg : Str → Option Value} {base : Heap}
local macro_rules | `(tactic| walk_at "hc") => `(tactic| first
  | assumption
  | ((refine CodeAt.same (H := ?xH) ?xb ?xa); (case xa => assumption); (case xb => walk_at "hc")))
local macro_rules | `(tactic| walk_at "rd0") => `(tactic| first
  | ((with_reducible refine r_get (a := ?xa) (c := ?xc) ?x1 ?x2 ?_); (case x1 => rfl); (case x2 => walk_at "hc"))
  | ((with_reducible refine r_methC (a := ?xa) (c := ?xc) ?x1 ?x2 ?x3 ?_); (case x1 => rfl); (case x2 => walk_at "hc"); (case x3 => (intro _ _ _; rfl)))
  | (with_reducible refine r_fmtB ?_)
  | (with_reducible refine r_dget ?_)
  | (with_reducible refine r_m0 ?_)
  | (with_reducible refine r_makeK ?_)
  | (with_reducible refine r_cval ?_)
  | (with_reducible refine r_sfld ?_)
  | (with_reducible refine r_isiI ?_)
  | (with_reducible refine r_isiIB ?_)
  | (with_reducible refine r_isiS ?_)
  | (with_reducible refine r_inID ?_))

/-! ### what a byte writes -/
theorem sIx_le_nat {n d k : Nat} {i : Int} (hi : i = (k : Int)) (h : k ≤ n) : HT.sIx n d (some i) = k := by
  rw [hi, HT.sIx_nat]
  omega
theorem cut_take {l : List Nat} {k : Nat} (h : k ≤ l.length) : cutS (tx l) none (some (k : Int)) = tx (l.take k) := by
  unfold cutS
  rw [tx_len, HT.sIx_none, sIx_le_nat rfl h, tx_list]
  rfl
theorem cut_drop {l : List Nat} {k : Nat} (h : k ≤ l.length) : cutS (tx l) (some (k : Int)) none = tx (l.drop k) := by
  unfold cutS
  rw [tx_len, HT.sIx_none, sIx_le_nat rfl h, tx_list]
  show tx ((l.drop k).take (l.length - k)) = _
  rw [List.take_of_length_le (by rw [List.length_drop]; exact Nat.le_refl _)]
def b8 (n : Nat) : List Nat := [48 + n / 128 % 2, 48 + n / 64 % 2, 48 + n / 32 % 2, 48 + n / 16 % 2, 48 + n / 8 % 2, 48 + n / 4 % 2, 48 + n / 2 % 2, 48 + n % 2]
theorem bin8_tx (n : Nat) : bin8 n = tx (b8 n) := rfl
def Bits (l : List Nat) : Prop := ∀ c ∈ l, Bn.IsBit c
theorem b8_bits (n : Nat) : Bits (b8 n) := by
  have h : ∀ m : Nat, Bn.IsBit (48 + m % 2) := fun m => by unfold Bn.IsBit; omega
  intro c hc
  simp only [b8, List.mem_cons, List.not_mem_nil, or_false] at hc
  rcases hc with rfl | rfl | rfl | rfl | rfl | rfl | rfl | rfl <;> exact h _
theorem Bits.app {a b : List Nat} (h : Bits a) (k : Bits b) : Bits (a ++ b) := fun c hc => (List.mem_append.mp hc).elim (h c) (k c)
theorem Bits.take {a : List Nat} (h : Bits a) (k : Nat) : Bits (a.take k) := fun c hc => h c (List.mem_of_mem_take hc)
theorem Bits.drop {a : List Nat} (h : Bits a) (k : Nat) : Bits (a.drop k) := fun c hc => h c (List.mem_of_mem_drop hc)
theorem bin_go : ∀ (l : List Nat) (a : Nat), Bits l → l.foldl (fun a c => a * 2 + (c - 48)) a < (a + 1) * 2 ^ l.length
  | [], a, _ => by simp
  | x :: l, a, h => by
    have hx : x - 48 ≤ 1 := by
      have := h x (List.mem_cons_self ..)
      unfold Bn.IsBit at this
      omega
    have ih := bin_go l (a * 2 + (x - 48)) fun c hc => h c (List.mem_cons_of_mem _ hc)
    rw [List.foldl_cons, List.length_cons, Nat.pow_succ]
    refine Nat.lt_of_lt_of_le ih ?_
    have : a * 2 + (x - 48) + 1 ≤ (a + 1) * 2 := by omega
    calc (a * 2 + (x - 48) + 1) * 2 ^ l.length ≤ ((a + 1) * 2) * 2 ^ l.length := Nat.mul_le_mul_right _ this
      _ = (a + 1) * (2 ^ l.length * 2) := by rw [Nat.mul_assoc, Nat.mul_comm 2]
theorem bin_lt {l : List Nat} (h : Bits l) : Bn.binNum l < 2 ^ l.length := by
  have := bin_go l 0 h
  rw [Nat.zero_add, Nat.one_mul] at this
  exact this
def sgnOf (c : CodeD) (d : Nat) : Nat := c.sg.cps.toList.getD d 0
def em (c : CodeD) (b : List Nat) : List Nat := if h : 1 ≤ c.sb ∧ c.sb ≤ b.length then sgnOf c (Bn.binNum (b.take c.sb)) :: em c (b.drop c.sb) else []
termination_by b.length
decreasing_by rw [List.length_drop]; omega
def rs (c : CodeD) (b : List Nat) : List Nat := if h : 1 ≤ c.sb ∧ c.sb ≤ b.length then rs c (b.drop c.sb) else b
termination_by b.length
decreasing_by rw [List.length_drop]; omega
theorem em_on {c : CodeD} {b : List Nat} (h1 : 1 ≤ c.sb) (h2 : c.sb ≤ b.length) : em c b = sgnOf c (Bn.binNum (b.take c.sb)) :: em c (b.drop c.sb) := by
  rw [em, dif_pos ⟨h1, h2⟩]
theorem em_off {c : CodeD} {b : List Nat} (h2 : ¬ c.sb ≤ b.length) : em c b = [] := by
  rw [em, dif_neg fun z => h2 z.2]
theorem rs_on {c : CodeD} {b : List Nat} (h1 : 1 ≤ c.sb) (h2 : c.sb ≤ b.length) : rs c b = rs c (b.drop c.sb) := by
  rw [rs, dif_pos ⟨h1, h2⟩]
theorem rs_off {c : CodeD} {b : List Nat} (h2 : ¬ c.sb ≤ b.length) : rs c b = b := by
  rw [rs, dif_neg fun z => h2 z.2]
theorem em_len (c : CodeD) : ∀ (n : Nat) (b : List Nat), b.length ≤ n → (em c b).length ≤ b.length
  | 0, b, h => by
    by_cases e : 1 ≤ c.sb ∧ c.sb ≤ b.length
    · omega
    · rw [em, dif_neg e]; exact Nat.zero_le _
  | n + 1, b, h => by
    by_cases e : 1 ≤ c.sb ∧ c.sb ≤ b.length
    · rw [em_on e.1 e.2, List.length_cons]
      have := em_len c n (b.drop c.sb) (by rw [List.length_drop]; omega)
      rw [List.length_drop] at this
      omega
    · rw [em, dif_neg e]; exact Nat.zero_le _
theorem rs_sub (c : CodeD) : ∀ (n : Nat) (b : List Nat), b.length ≤ n → 1 ≤ c.sb → (rs c b).length < c.sb ∧ ∃ k, rs c b = b.drop k
  | 0, b, h, h1 => by
    have e : ¬ c.sb ≤ b.length := by omega
    rw [rs_off e]
    exact ⟨by omega, 0, rfl⟩
  | n + 1, b, h, h1 => by
    by_cases e : c.sb ≤ b.length
    · rw [rs_on h1 e]
      obtain ⟨i1, k, i2⟩ := rs_sub c n (b.drop c.sb) (by rw [List.length_drop]; omega) h1
      exact ⟨i1, c.sb + k, by rw [i2, List.drop_drop]⟩
    · rw [rs_off e]
      exact ⟨by omega, 0, rfl⟩
def plcs (c : CodeD) : Nat → List Nat → List Nat × Nat
  | col, [] => ([], col)
  | col, s :: r => ((c.plc col s).1 ++ (plcs c (c.plc col s).2 r).1, (plcs c (c.plc col s).2 r).2)
theorem plc_len (c : CodeD) (col s : Nat) : (c.plc col s).1.length ≤ 2 := by
  unfold CodeD.plc
  split <;> simp
theorem plcs_len (c : CodeD) : ∀ (l : List Nat) (col : Nat), (plcs c col l).1.length ≤ 2 * l.length
  | [], _ => Nat.le_refl _
  | s :: r, col => by
    have := plcs_len c r (c.plc col s).2
    have := plc_len c col s
    simp only [plcs, List.length_append, List.length_cons]
    omega
def snN (g sn : Nat) : Nat → Nat
  | 0 => sn
  | n + 1 => snN g ((sn + 1) % g) n
/-- the part, the column behind -/
def wP (c : CodeD) (b : List Nat) (col : Nat) : List Nat × Nat :=
  if rs c b ≠ [] ∧ c.full (plcs c col (em c b)).2 = true then ((plcs c col (em c b)).1 ++ [10], 0) else plcs c col (em c b)
theorem grp_pos {n : Nat} (h1 : 1 ≤ n) (h6 : n ≤ 6) : 0 < grp n := by
  have e : n = 1 ∨ n = 2 ∨ n = 3 ∨ n = 4 ∨ n = 5 ∨ n = 6 := by omega
  rcases e with rfl | rfl | rfl | rfl | rfl | rfl <;> decide
theorem tx_inj {a b : List Nat} (h : tx a = tx b) : a = b := by
  have := congrArg (fun s : Str => s.cps.toList) h
  simpa [tx_list] using this
def StAt (H : Hp) (st : Addr) (b : List Nat) (sn col : Nat) : Prop := H st = some (.tup [.str (tx b), .int sn, .int col])
def sp_Code_write (T : Txt K mg) : Sp := fun vs H Q _ => ∃ a c st, ∃ b : List Nat, ∃ sn col n : Nat, vs = [.ref a, .ref st, .int n] ∧ CodeAt T H a c ∧ StAt H st b sn col ∧ Bits b ∧ b.length < c.sb ∧ n < 256 ∧
  ∀ p s' H', Same H H' → H p = none → H s' = none → H' p = some (.tup [.str (tx (wP c (b ++ b8 n) col).1), .ref s']) → StAt H' s' (rs c (b ++ b8 n)) (snN (grp c.sb) sn (em c (b ++ b8 n)).length) (wP c (b ++ b8 n) col).2 → Q (.ref p) H'
theorem len_Code_write (T : Txt K mg) (vs : List V) (H : Hp) (Q : VK) (E : XK) (h : sp_Code_write T vs H Q E) : vs.length = 3 := by
  obtain ⟨_, _, _, _, _, _, _, rfl, _⟩ := h
  rfl
theorem smallS {n : Nat} (h : n ≤ 100000) : n ≤ sizeLine := small_line (by omega)
def t_Code_write (T : Txt K mg) : TS := (tSeq (tAsg (tVar 1) (gTup K 3 (gCons (gName 3) (gCons (gName 4) (gCons (gName 5) gNil)))))
    (tSeq (tAug 3 (tFmtB bin8 (tVar 2)) (rIaddU K))
    (tSeq (tAsg (tC (.str (Str.ofString ""))) (gName 6))
    (tSeq (tWhile (tTest (tOp rGeI (tCB (rLenU K) (tCons (tVar 3) tNil)) (tProp T.C_Code (sp_Code_bits T) [] E0 (tVar 0)))) (tSeq (tAsg (tMeth T.C_Code "placed" (sp_Code_placed T) [] E0 (tVar 0) (tCons (tVar 5) (tCons (tOp (rIx K) (tProp T.C_Code (sp_Code_signs T) [] E0 (tVar 0)) (tCB rIntBin (tCons (tSl (rSlU K) (tVar 3) tNoPart (tPart (tProp T.C_Code (sp_Code_bits T) [] E0 (tVar 0)))) (tCons (tC (.int 2)) tNil)))) tNil))) (gTup K 2 (gCons (gName 7) (gCons (gName 5) gNil))))
    (tSeq (tAug 6 (tVar 7) (rIaddU K))
    (tSeq (tAsg (tSl (rSlU K) (tVar 3) (tPart (tProp T.C_Code (sp_Code_bits T) [] E0 (tVar 0))) tNoPart) (gName 3))
    (tAsg (tOp rModI (tOp (rAddU K) (tVar 4) (tC (.int 1))) (tProp T.C_Code (sp_Code_group T) [] E0 (tVar 0))) (gName 4))))))
    (tSeq (tIfS (tAnd (tTest (tOp (rNeU K) (tVar 3) (tC (.str (Str.ofString ""))))) (tB (tMeth T.C_Code "is_full" (sp_Code_is_full T) [] E0 (tVar 0) (tCons (tVar 5) tNil)))) (tPar 6 5 (tCons (tOp (rAddU K) (tVar 6) (tC (.str (Str.ofString "\n")))) (tCons (tC (.int 0)) tNil))) tNext)
    (tRet (tTup (tCons (tVar 6) (tCons (tTup (tCons (tVar 3) (tCons (tVar 4) (tCons (tVar 5) tNil)))) tNil)))))))))

theorem pure_Code_write (T : Txt K mg) (vs : List V) (H : Hp) (Q : VK) (E : XK) (h : sp_Code_write T vs H Q E) : t_Code_write T { nx := fun _ H' => Q .non H', rt := Q } (start ["self", "state", "byte", "bits", "signs", "column", "part", "more"] vs) H := by
  obtain ⟨a, c, st, b0, sn, col, n, rfl, hc, hst, hb0, hl0, hn, q⟩ := h
  have ok := hc.1
  have hb1 := ok.b1
  have hb6 := ok.b6
  have gp := grp_pos hb1 hb6
  unfold StAt at hst q
  unfold t_Code_write
  walk_at "rd"
  refine ⟨n, rfl, hn, ?_⟩
  rw [bin8_tx]
  have l8 : (b8 n).length = 8 := rfl
  refine r_iaddS (smallS (by rw [tx_len, tx_len, l8]; omega)) ?_
  rw [tx_app]
  walk_at "rd"
  have hbb : Bits (b0 ++ b8 n) := hb0.app (b8_bits n)
  have hbl : (b0 ++ b8 n).length ≤ 13 := by rw [List.length_append, l8]; omega
  generalize hB : b0 ++ b8 n = B at hbb hbl q
  have P0l : (plcs c col (em c B)).1.length ≤ 26 := by
    have := plcs_len c (em c B) col
    have := em_len c _ B (Nat.le_refl _)
    omega
  refine r_while (fun σ G => ∃ b s col' part v7, σ = [some (.ref a), some (.ref st), some (.int (n : Nat)), some (.str (tx b)), some (.int (s : Nat)), some (.int (col' : Nat)), some (.str (tx part)), v7] ∧ Same H G ∧ Bits b ∧ b.length ≤ 13 ∧
      part ++ (plcs c col' (em c b)).1 = (plcs c col (em c B)).1 ∧ (plcs c col' (em c b)).2 = (plcs c col (em c B)).2 ∧ rs c b = rs c B ∧ snN (grp c.sb) s (em c b).length = snN (grp c.sb) sn (em c B).length)
    (fun σ _ => match σ with | [_, _, _, some (.str z), _, _, _, _] => z.length | _ => 0)
    (fun σ G => ∃ v7, σ = [some (.ref a), some (.ref st), some (.int (n : Nat)), some (.str (tx (rs c B))), some (.int (snN (grp c.sb) sn (em c B).length : Nat)), some (.int ((plcs c col (em c B)).2 : Nat)), some (.str (tx (plcs c col (em c B)).1)), v7] ∧ Same H G)
    ⟨B, sn, col, [], none, rfl, Same.refl H, hbb, hbl, rfl, rfl, rfl, rfl⟩ ?_ ?_
  · rintro σ G ⟨v7, rfl, sG⟩
    have hc1 := hc.same sG
    walk_at "rx"
    refine r_seqC (fun σ G' => ∃ v7, σ = [some (.ref a), some (.ref st), some (.int (n : Nat)), some (.str (tx (rs c B))), some (.int (snN (grp c.sb) sn (em c B).length : Nat)), some (.int ((wP c B col).2 : Nat)), some (.str (tx (wP c B col).1)), v7] ∧ Same H G') ?_ fun N tail => ?_
    · rintro σ G' ⟨v7, rfl, sG'⟩
      walk_at "rd"
      walk_at "new"
      walk_at "rd"
      refine And.intro (by show 2 ≤ sizeLine; decide) ?_
      intro p2 np2
      generalize hg2 : upd _ p2 _ = H2
      have hs2 := same_of hg2 np2
      have hv2 := at_of hg2
      clear hg2
      walk_at "rd"
      exact q p2 p H2 (sG'.trans (hs.trans hs2)) ((sG'.trans hs).free np2) (sG'.free np) hv2 (hs2 _ _ hv)
    · unfold wP at tail
      walk_at "rx"
      have en : (tx (rs c B) = Str.ofString "") ↔ rs c B = [] := by
        rw [e_tx]
        exact ⟨tx_inj, fun z => by rw [z]⟩
      refine r_iteND (fun h => ?_) (fun h => ?_)
      · have hne : rs c B ≠ [] := fun z => h (en.mpr z)
        walk_at "rx"
        refine ⟨a, c, _, rfl, hc1, ?_⟩
        walk_at "rx"
        refine r_iteB (fun hf => ?_) (fun hf => ?_)
        · rw [if_pos ⟨hne, hf⟩] at tail
          walk_at "rx"
          refine r_addUS (smallS (by rw [tx_len, nl_tx, tx_len]; simp only [List.length_cons, List.length_nil]; omega)) ?_
          rw [nl_tx, tx_app]
          walk_at "rx"
          exact tail _ _ ⟨_, rfl, sG⟩
        · rw [if_neg (fun z => by rw [z.2] at hf; cases hf)] at tail
          walk_at "rx"
          exact tail _ _ ⟨_, rfl, sG⟩
      · rw [if_neg (fun z => z.1 (en.mp h))] at tail
        walk_at "rx"
        exact tail _ _ ⟨_, rfl, sG⟩
  · rintro σ G ⟨b, s, col', part, v7, rfl, sG, hb, hl, e1, e2, e3, e4⟩ ex
    walk_at "rd"
    refine r_lenUS (smallS (by rw [tx_len]; omega)) ?_
    walk_at "rd"
    have hc1 := hc.same sG
    refine r_iteD (fun h => ?_) (fun h => ?_)
    · have h2 : c.sb ≤ b.length := by rw [tx_len] at h; omega
      rw [em_on hb1 h2] at e1 e2 e4
      rw [rs_on hb1 h2] at e3
      simp only [plcs, List.length_cons, snN] at e1 e2 e4
      have hbt : Bits (b.take c.sb) := hb.take _
      have lt : (b.take c.sb).length = c.sb := by rw [List.length_take]; omega
      have dlt : Bn.binNum (b.take c.sb) < c.sg.length := by
        have := bin_lt hbt
        rw [lt] at this
        rw [ok.ln]
        exact this
      refine r_turn ?_
      walk_at "rd"
      refine r_slUS (smallS (by rw [tx_len]; omega)) ?_
      rw [cut_take h2]
      walk_at "rd"
      refine r_intBin (by rw [tx_list]; intro z; rw [z] at lt; simp at lt; omega) (by rw [tx_len]; omega) (by rw [tx_list]; exact hbt) ?_
      rw [tx_list]
      have gch : atI c.sg.cps.toList ((Bn.binNum (b.take c.sb) : Nat) : Int) = some (sgnOf c (Bn.binNum (b.take c.sb))) := by
        have dlt' : Bn.binNum (b.take c.sb) < c.sg.cps.toList.length := by rw [Array.length_toList]; exact dlt
        refine atI_nat ?_
        unfold sgnOf
        rw [List.getElem?_eq_getElem dlt', List.getD_eq_getElem?_getD, List.getElem?_eq_getElem dlt']
        rfl
      have lsg : c.sg.length ≤ sizeLine := smallS (by
        rw [ok.ln]
        exact Nat.le_trans (Nat.pow_le_pow_right (by decide) hb6) (by decide))
      refine r_ixS lsg gch ?_
      walk_at "rd"
      refine ⟨a, c, col', sgnOf c (Bn.binNum (b.take c.sb)), rfl, hc1, fun p H' s1 np hv => ?_⟩
      walk_at "rd"
      refine r_iaddS (smallS (by
        rw [tx_len, tx_len]
        have := congrArg List.length e1
        simp only [List.length_append] at this
        omega)) ?_
      rw [tx_app]
      walk_at "rd"
      refine r_slUS (smallS (by rw [tx_len]; omega)) ?_
      rw [cut_drop h2]
      walk_at "rd"
      have ef : ((s : Int) + 1).fmod (grp c.sb : Int) = (((s + 1) % grp c.sb : Nat) : Int) := by
        rw [Int.fmod_eq_emod_of_nonneg _ (Int.natCast_nonneg _), Int.natCast_emod]
        rfl
      rw [ef]
      refine ⟨⟨b.drop c.sb, (s + 1) % grp c.sb, _, part ++ _, _, rfl, sG.trans s1, hb.drop _, by rw [List.length_drop]; omega, by rw [List.append_assoc]; exact e1, e2, e3, e4⟩, ?_⟩
      show (tx (b.drop c.sb)).length < (tx b).length
      rw [tx_len, tx_len, List.length_drop]
      omega
    · have h2 : ¬ c.sb ≤ b.length := by rw [tx_len] at h; omega
      rw [em_off h2] at e1 e2 e4
      rw [rs_off h2] at e3
      simp only [plcs, List.append_nil, List.length_nil, snN] at e1 e2 e4
      subst e1 e2 e3 e4
      exact ex _ _ ⟨_, rfl, sG⟩
theorem ok_Code_write (T : Txt K mg) : FnOk P w K mg base CX0 5 T.Code_write_a T.Code_write_d ["self", "state", "byte"] (sp_Code_write T) := by
  refine T.Code_write_f.ok sc_Code_write (fun vs H Q E h => len_Code_write T vs H Q E h) (fun cdv A outer s H vs Q E hr h => ⟨t_Code_write T, PSs.nox ?_, pure_Code_write T vs H Q E h⟩)
  have hu := hu64 hr
  exact (pss_cons (ps_asg (pv 1) (pg_tup (by rfl) (pgs_cons (pg_name (i := 3) sc_Code_write.nd rfl (.inl rfl)) (pgs_cons (pg_name (i := 4) sc_Code_write.nd rfl (.inl rfl)) (pgs_cons (pg_name (i := 5) sc_Code_write.nd rfl (.inl rfl)) pgs_nil)))))
      (pss_cons (ps_aug (i := 3) sc_Code_write.nd rfl (.inl rfl) (pe_joined1 (pe_fmtB (pv 2) (by decide) (by decide) (fun n hn t u => fmt08b hn t u))) ip_addU)
      (pss_cons (ps_set (i := 6) sc_Code_write.nd rfl (.inl rfl) pe_str)
      (pss_cons (ps_while PassesOwn.never (pt_cmpR op_ge (pe_callB c_lenU (by rfl) T.n_len (by decide +kernel) (pa_cons (pv 3) pa_nil)) (pe_prop (pv 0) T.C_Code_c T.Code_bits_p (ok_Code_bits T) (hr.mono (by decide)) T.Code_bits_b .nil pass0 rfl) (nomark _)) (pss_cons (ps_asg (pe_meth (pv 0) T.C_Code_c T.Code_placed_m (ok_Code_placed T) (hr.mono (by decide)) T.Code_placed_b .nil pass0 (pa_cons (pv 5) (pa_cons (pe_ix ix_seq (pe_prop (pv 0) T.C_Code_c T.Code_signs_p (ok_Code_signs T) (hr.mono (by decide)) T.Code_signs_b .nil pass0 rfl) (pe_callTy call_int_bin (by rfl) T.n_int (by decide +kernel) (pa_cons (pe_slice sl_U (pv 3) po_none (po_some (pe_prop (pv 0) T.C_Code_c T.Code_bits_p (ok_Code_bits T) (hr.mono (by decide)) T.Code_bits_b .nil pass0 rfl))) (pa_cons pe_int pa_nil))) (fun _ _ => rfl)) pa_nil))) (pg_tup (by rfl) (pgs_cons (pg_name (i := 7) sc_Code_write.nd rfl (.inl rfl)) (pgs_cons (pg_name (i := 5) sc_Code_write.nd rfl (.inl rfl)) pgs_nil))))
      (pss_cons (ps_aug (i := 6) sc_Code_write.nd rfl (.inl rfl) (pv 7) ip_addU)
      (pss_cons (ps_set (i := 3) sc_Code_write.nd rfl (.inl rfl) (pe_slice sl_U (pv 3) (po_some (pe_prop (pv 0) T.C_Code_c T.Code_bits_p (ok_Code_bits T) (hr.mono (by decide)) T.Code_bits_b .nil pass0 rfl)) po_none))
      (pss_one (ps_set (i := 4) sc_Code_write.nd rfl (.inl rfl) (pe_op op_modN (pe_op op_addU (pv 4) pe_int) (pe_prop (pv 0) T.C_Code_c T.Code_group_p (ok_Code_group T) (hr.mono (by decide)) T.Code_group_b .nil pass0 rfl))))))))
      (pss_cons (ps_if (PW.pt (pw_and (pt_cmpR (op_neU hu) (pv 3) pe_str (nomark _)) (pw_and1 (pt_val (pe_meth (pv 0) T.C_Code_c T.Code_is_full_m (ok_Code_is_full T) (hr.mono (by decide)) T.Code_is_full_b .nil pass0 (pa_cons (pv 5) pa_nil)))))) (pss_one (ps_par (i := 6) (j := 5) (by rfl) sc_Code_write.nd rfl rfl (by decide) rfl rfl (pa_cons (pe_op op_addU (pv 6) (pe_glob (by rfl) T.k_NEWLINE_g T.k_NEWLINE_r)) (pa_cons pe_int pa_nil)) (by rfl))) pss_nil)
      (pss_one (ps_ret (pe_tup (pa_cons (pv 6) (pa_cons (pe_tup (pa_cons (pv 3) (pa_cons (pv 4) (pa_cons (pv 5) pa_nil)))) pa_nil))))))))))


end
section
variable {w : World} {K : PySem.W.Frag} {mg : Str → Option Value} {base : Heap}
local macro_rules | `(tactic| walk_at "hc") => `(tactic| first
  | assumption
  | ((refine CodeAt.same (H := ?xH) ?xb ?xa); (case xa => assumption); (case xb => walk_at "hc")))
local macro_rules | `(tactic| walk_at "rd0") => `(tactic| first
  | ((with_reducible refine r_get (a := ?xa) (c := ?xc) ?x1 ?x2 ?_); (case x1 => rfl); (case x2 => walk_at "hc"))
  | ((with_reducible refine r_methC (a := ?xa) (c := ?xc) ?x1 ?x2 ?x3 ?_); (case x1 => rfl); (case x2 => walk_at "hc"); (case x3 => (intro _ _ _; rfl)))
  | (with_reducible refine r_fmtB ?_)
  | (with_reducible refine r_dget ?_)
  | (with_reducible refine r_m0 ?_)
  | (with_reducible refine r_makeK ?_)
  | (with_reducible refine r_cval ?_)
  | (with_reducible refine r_sfld ?_)
  | (with_reducible refine r_isiI ?_)
  | (with_reducible refine r_isiIB ?_)
  | (with_reducible refine r_isiS ?_)
  | (with_reducible refine r_inID ?_))

/-! ### how a text ends; whole texts -/
def lastS (c : CodeD) (b : List Nat) : Nat := sgnOf c (Bn.binNum (b ++ List.replicate (c.sb - b.length) 48))
def miss (c : CodeD) (sn : Nat) : Nat := if c.pd.cps.toList = [] then 0 else grp c.sb - 1 - sn
def padL (c : CodeD) (sn : Nat) : List Nat := List.replicate (miss c sn) (c.pd.cps.toList.getD 0 0)
/-- what the ending adds, without rows -/
def endS (c : CodeD) (b : List Nat) (sn : Nat) : List Nat := if b = [] then [] else lastS c b :: padL c sn
theorem plcs_app (c : CodeD) : ∀ (l m : List Nat) (col : Nat), plcs c col (l ++ m) = ((plcs c col l).1 ++ (plcs c (plcs c col l).2 m).1, (plcs c (plcs c col l).2 m).2)
  | [], m, col => rfl
  | s :: r, m, col => by
    simp only [List.cons_append, plcs, plcs_app c r m, List.append_assoc]
theorem tyS {z : Str} {H : Hp} : tyV K "str" (V.str z) H := rfl
theorem tx_of (z : Str) : z = tx z.cps.toList := by
  show z = ⟨z.cps.toList.toArray⟩
  simp
theorem pad_eq {c : CodeD} (ok : c.Ok) (h : c.pd.cps.toList ≠ []) : c.pd = tx [c.pd.cps.toList.getD 0 0] := by
  have hl : c.pd.cps.toList.length ≤ 1 := by rw [Array.length_toList]; exact ok.pl
  have e := tx_of c.pd
  generalize c.pd.cps.toList = l at h hl e ⊢
  match l, h, hl with
  | [x], _, _ => exact e
  | _ :: _ :: _, _, hl => exact absurd hl (by rw [List.length_cons, List.length_cons]; omega)

end
section
variable {w : World} {K : PySem.W.Frag} {mg : Str → Option Value} {base : Heap}
local macro_rules | `(tactic| walk_at "hc") => `(tactic| first
  | assumption
  | ((refine CodeAt.same (H := ?xH) ?xb ?xa); (case xa => assumption); (case xb => walk_at "hc")))
local macro_rules | `(tactic| walk_at "rd0") => `(tactic| first
  | ((with_reducible refine r_get (a := ?xa) (c := ?xc) ?x1 ?x2 ?_); (case x1 => rfl); (case x2 => walk_at "hc"))
  | ((with_reducible refine r_methC (a := ?xa) (c := ?xc) ?x1 ?x2 ?x3 ?_); (case x1 => rfl); (case x2 => walk_at "hc"); (case x3 => (intro _ _ _; rfl)))
  | (with_reducible refine r_fmtB ?_)
  | (with_reducible refine r_dget ?_)
  | (with_reducible refine r_m0 ?_)
  | (with_reducible refine r_makeK ?_)
  | (with_reducible refine r_cval ?_)
  | (with_reducible refine r_sfld ?_)
  | (with_reducible refine r_isiI ?_)
  | (with_reducible refine r_isiIB ?_)
  | (with_reducible refine r_isiS ?_)
  | (with_reducible refine r_inID ?_))

/-! ### whole texts -/
/-- part texts, the bits, the signs, the column behind the bytes -/
structure Wst where
  out : List (List Nat)
  b : List Nat
  sn : Nat
  col : Nat
def wstep (c : CodeD) (s : Wst) (x : Int) : Wst :=
  let B := s.b ++ b8 x.toNat
  ⟨s.out ++ [(wP c B s.col).1], rs c B, snN (grp c.sb) s.sn (em c B).length, (wP c B s.col).2⟩
def wrun (c : CodeD) (xs : List Int) : Wst := xs.foldl (wstep c) ⟨[], [], 0, 0⟩
def textC (c : CodeD) (xs : List Int) : List Nat := (wrun c xs).out.flatten ++ (plcs c (wrun c xs).col (endS c (wrun c xs).b (wrun c xs).sn)).1
theorem wrun_snoc (c : CodeD) (xs : List Int) (x : Int) : wrun c (xs ++ [x]) = wstep c (wrun c xs) x := by
  unfold wrun
  rw [List.foldl_append]
  rfl
theorem snN_lt {g : Nat} (hg : 0 < g) : ∀ (n sn : Nat), sn < g → snN g sn n < g
  | 0, sn, h => h
  | n + 1, sn, h => snN_lt hg n _ (Nat.mod_lt _ hg)
theorem wP_len (c : CodeD) (b : List Nat) (col : Nat) (h : b.length ≤ 13) : (wP c b col).1.length ≤ 27 := by
  have h1 := plcs_len c (em c b) col
  have h2 := em_len c _ b (Nat.le_refl _)
  unfold wP
  split
  · rw [List.length_append]
    simp only [List.length_cons, List.length_nil]
    omega
  · omega
structure Wok (c : CodeD) (s : Wst) : Prop where
  bits : Bits s.b
  bl : s.b.length < c.sb
  snl : s.sn < grp c.sb
  ol : ∀ p ∈ s.out, p.length ≤ 27
theorem Wok.step {c : CodeD} (ok : c.Ok) {s : Wst} (h : Wok c s) (x : Int) : Wok c (wstep c s x) := by
  have hB : Bits (s.b ++ b8 x.toNat) := h.bits.app (b8_bits _)
  have hl : (s.b ++ b8 x.toNat).length ≤ 13 := by
    have h1 := h.bl
    have h2 := ok.b6
    rw [List.length_append]
    show s.b.length + 8 ≤ 13
    omega
  obtain ⟨i1, k, i2⟩ := rs_sub c _ (s.b ++ b8 x.toNat) (Nat.le_refl _) ok.b1
  refine ⟨?_, i1, snN_lt (grp_pos ok.b1 ok.b6) _ _ h.snl, ?_⟩
  · show Bits (rs c _)
    rw [i2]
    exact hB.drop k
  · intro p hp
    rcases List.mem_append.mp hp with m | m
    · exact h.ol p m
    · rw [List.mem_singleton.mp m]
      exact wP_len c _ _ hl
theorem Wok.run {c : CodeD} (ok : c.Ok) (xs : List Int) : Wok c (wrun c xs) := by
  have h : ∀ (xs : List Int) (s : Wst), Wok c s → Wok c (xs.foldl (wstep c) s) := by
    intro xs
    induction xs with
    | nil => intro s h; exact h
    | cons x r ih => intro s h; exact ih _ (h.step ok x)
  exact h xs _ ⟨fun x hx => (nomatch hx), ok.b1, grp_pos ok.b1 ok.b6, fun p hp => (nomatch hp)⟩
theorem out_len (c : CodeD) (xs : List Int) : (wrun c xs).out.length = xs.length := by
  have h : ∀ (xs : List Int) (s : Wst), (xs.foldl (wstep c) s).out.length = s.out.length + xs.length := by
    intro xs
    induction xs with
    | nil => intro s; rfl
    | cons x r ih =>
      intro s
      rw [List.foldl_cons, ih]
      show (s.out ++ [_]).length + r.length = s.out.length + (r.length + 1)
      rw [List.length_append]
      simp only [List.length_cons, List.length_nil]
      omega
  have := h xs ⟨[], [], 0, 0⟩
  simpa [wrun] using this
theorem join_tx : ∀ l : List (List Nat), Str.join (Str.ofString "") (l.map tx) = tx l.flatten
  | [] => rfl
  | [x] => by
    show tx x = tx (x ++ [])
    rw [List.append_nil]
  | x :: y :: r => by
    have ih := join_tx (y :: r)
    rw [List.map_cons, List.map_cons, join_cons_cons]
    rw [List.map_cons] at ih
    rw [ih, e_tx, tx_app, tx_app, List.append_nil]
    rfl
theorem txt_join_tx (l : List (List Nat)) : Txt.join (Str.ofString "") (l.map tx) = tx l.flatten := by
  rw [← join_tx]
  exact PySem.StrLaws.glued_eq_join _ _
theorem sum_le {m : Nat} : ∀ l : List (List Nat), (∀ p ∈ l, p.length ≤ m) → ((l.map tx).map (·.length)).sum ≤ l.length * m
  | [], _ => by simp
  | x :: r, h => by
    have h1 := h x (List.mem_cons_self ..)
    have h2 := sum_le r fun p hp => h p (List.mem_cons_of_mem _ hp)
    simp only [List.map_cons, List.sum_cons, List.length_cons, tx_len, Nat.add_mul, Nat.one_mul] at h2 ⊢
    omega

end
section
variable {w : World} {K : PySem.W.Frag} {mg : Str → Option Value} {base : Heap}
local macro_rules | `(tactic| walk_at "hc") => `(tactic| first
  | assumption
  | ((refine CodeAt.same (H := ?xH) ?xb ?xa); (case xa => assumption); (case xb => walk_at "hc")))
local macro_rules | `(tactic| walk_at "rd0") => `(tactic| first
  | ((with_reducible refine r_get (a := ?xa) (c := ?xc) ?x1 ?x2 ?_); (case x1 => rfl); (case x2 => walk_at "hc"))
  | ((with_reducible refine r_methC (a := ?xa) (c := ?xc) ?x1 ?x2 ?x3 ?_); (case x1 => rfl); (case x2 => walk_at "hc"); (case x3 => (intro _ _ _; rfl)))
  | (with_reducible refine r_fmtB ?_)
  | (with_reducible refine r_dget ?_)
  | (with_reducible refine r_m0 ?_)
  | (with_reducible refine r_makeK ?_)
  | (with_reducible refine r_cval ?_)
  | (with_reducible refine r_sfld ?_)
  | (with_reducible refine r_isiI ?_)
  | (with_reducible refine r_isiIB ?_)
  | (with_reducible refine r_isiS ?_)
  | (with_reducible refine r_inID ?_))

/-! ### a code is made -/
theorem d_it {J : It} {n : Nat} {G0 : Hp → Prop} {Y : Nat → Hp → V → Hp → Prop} {g : TG} {tt : TT} {tk tv : TE} {us : List Nat} {σ : S} {H : Hp} {D : Addr} {Qd : Hp → Prop} (w : Walk J n G0 Y) (Pv : Nat → Hp → Prop) (h0 : Pv 0 (upd H D (.dK []))) (hG : ∀ i H, i ≤ n → Pv i H → G0 H)
    (hs : ∀ i x H H', i < n → Pv i H → Y i H x H' → g x (wipe σ us) H' fun σ2 H2 => wipe σ2 us = wipe σ us ∧ tt σ2 H2 fun b H3 =>
      if b = true then tk σ2 H3 fun y H4 => tv σ2 H4 fun z H5 => ∃ kvs k, y = kV k ∧ H5 D = some (.dK kvs) ∧ kvs.length < sizeLine ∧ Pv (i + 1) (upd H5 D (.dK (putK kvs k z))) else Pv (i + 1) H3) (hd : ∀ H, Pv n H → Qd H) :
    ∃ W : Nat → Nat → Hp → Prop, (∃ m, W 0 m (upd H D (.dK []))) ∧ ∀ i m H, W i m H → (J.stop i H ∧ Qd H) ∨ (J.go i H ∧ ∃ Nx : Hp → Prop, (∀ H', Nx H' → ∃ m', m' < m ∧ W (i + 1) m' H') ∧ ∀ x H', J.yld i H x H' →
      g x (wipe σ us) H' fun σ2 H2 => wipe σ2 us = wipe σ us ∧ tt σ2 H2 fun b H3 =>
        if b = true then tk σ2 H3 fun y H4 => tv σ2 H4 fun z H5 => ∃ kvs k, y = kV k ∧ H5 D = some (.dK kvs) ∧ kvs.length < sizeLine ∧ Nx (upd H5 D (.dK (putK kvs k z))) else Nx H3) := by
  refine ⟨fun i m H => m = n - i ∧ i ≤ n ∧ Pv i H, ⟨n, by omega, Nat.zero_le _, h0⟩, ?_⟩
  rintro i m H ⟨rfl, hi, p⟩
  by_cases lt : i < n
  · exact .inr ⟨w.1 i H lt (hG i H hi p), Pv (i + 1), fun H' q => ⟨n - (i + 1), by omega, rfl, lt, q⟩, fun x H' y => hs i x H H' lt p (w.3 i H x H' lt (hG i H hi p) y)⟩
  · have e : i = n := by omega
    subst e
    exact .inl ⟨w.2 H (hG i H hi p), hd H p⟩
def CodeD.New (c : CodeD) : Prop := c.Ok ∧ c.sg.cps.toList.Nodup ∧ ∀ x ∈ c.pd.cps.toList, x ∉ c.sg.cps.toList
def sp_Code___init__ (T : Txt K mg) : Sp := fun vs H Q _ => ∃ a dx, ∃ c : CodeD, vs = [.ref a, .str c.sg, .str c.pd, .int c.wd] ∧ H a = some (.ins T.C_Code dx []) ∧ c.New ∧ ∀ H', SameB a H H' → CodeAt T H' a c → Q .non H'
theorem len_Code___init__ (T : Txt K mg) (vs : List V) (H : Hp) (Q : VK) (E : XK) (h : sp_Code___init__ T vs H Q E) : vs.length = 4 := by
  obtain ⟨_, _, _, rfl, _⟩ := h
  rfl
theorem bits_at {n : Nat} (h1 : 1 ≤ n) (h6 : n ≤ 6) : atK [(2, 1), (4, 2), (8, 3), (16, 4), (32, 5), (64, 6)] ((2 ^ n : Nat) : Int) = some (n : Int) := by
  have e : n = 1 ∨ n = 2 ∨ n = 3 ∨ n = 4 ∨ n = 5 ∨ n = 6 := by omega
  rcases e with rfl | rfl | rfl | rfl | rfl | rfl <;> decide
def t_Code___init__ (T : Txt K mg) : TS := (tSeq (tIfS (tOr (tNot (tB (tCall (sp_are_signs T) [] E0 (tCons (tVar 1) tNil)))) (tTest (tOp (rInID [(2, 1), (4, 2), (8, 3), (16, 4), (32, 5), (64, 6)] T.k_BITS_a (fun b => !b)) (tCB (rLenU K) (tCons (tVar 1) tNil)) (tC (.ref T.k_BITS_a))))) tNever tNext)
    (tSeq (tIfS (tOr (tAnd (tTest (tOp (rNeU K) (tVar 2) (tC (.str (Str.ofString ""))))) (tOr (tNot (tB (tCall (sp_is_sign T) [] E0 (tCons (tVar 2) tNil)))) (tTest (tOp (rInU K) (tVar 2) (tVar 1))))) (tNot (tB (tCB (rIsi K) (tCons (tVar 2) (tCons (tC (.ty "str")) tNil)))))) tNever tNext)
    (tSeq (tIfS (tNot (tB (tCall (sp_is_within T) [] E0 (tCons (tVar 3) (tCons (tC (.int 0)) (tCons (ClX.tCVal K (tC (.ref T.C_Code)) "WIDEST") tNil)))))) tNever tNext)
    (tSeq (sFld K (tVar 0) (tTup (tCons (tVar 1) (tCons (tVar 2) (tCons (tVar 3) tNil)))) "parts")
    (tSeq (sFld K (tVar 0) (tDc (iEnumU K (tCons (tVar 1) tNil)) (gTup K 2 (gCons (gName 4) (gCons (gName 5) gNil))) tYes (tVar 5) (tVar 4) [4, 5]) "digits")
    (sFld K (tVar 0) (tOp (rIxID [(2, 1), (4, 2), (8, 3), (16, 4), (32, 5), (64, 6)] T.k_BITS_a) (tC (.ref T.k_BITS_a)) (tCB (rLenU K) (tCons (tVar 1) tNil))) "sign_bits"))))))

theorem pure_Code___init__ (T : Txt K mg) (vs : List V) (H : Hp) (Q : VK) (E : XK) (h : sp_Code___init__ T vs H Q E) : t_Code___init__ T { nx := fun _ H' => Q .non H', rt := Q } (start ["self", "signs", "pad", "width", "digit", "sign"] vs) H := by
  obtain ⟨a, dx, c, rfl, ha, ⟨ok, hnd, hpn⟩, q⟩ := h
  have hb1 := ok.b1
  have hb6 := ok.b6
  have lsg : c.sg.length ≤ 64 := by
    rw [ok.ln]
    exact Nat.le_trans (Nat.pow_le_pow_right (by decide) hb6) (by decide)
  have lsl : c.sg.length ≤ sizeLine := smallS (by omega)
  unfold t_Code___init__
  walk_at "rd"
  refine ⟨c.sg, rfl, by omega, ok.sgs, hnd, fun H1 s1 => ?_⟩
  walk_at "rd"
  refine r_lenUS lsl ?_
  walk_at "rd"
  rw [show ((c.sg.length : Nat) : Int) = ((2 ^ c.sb : Nat) : Int) by rw [ok.ln], bits_at hb1 hb6]
  refine r_iteNT ?_
  walk_at "rx"
  refine r_seqC (fun σ G => σ = [some (.ref a), some (.str c.sg), some (.str c.pd), some (.int c.wd), none, none] ∧ G = H1) ?_ fun N tail => ?_
  · rintro σ G ⟨rfl, rfl⟩
    walk_at "rd"
    refine ⟨_, _, _, _, rfl, T.C_Code_r, T.C_Code_v_WIDEST.choose_spec, ?_⟩
    walk_at "rd"
    refine ⟨c.wd, 0, 76, rfl, ?_⟩
    rw [decide_eq_true (show (0 : Int) ≤ (c.wd : Int) by omega), decide_eq_true (show (c.wd : Int) ≤ 76 by have := ok.wd76; omega)]
    walk_at "rd"
    refine r_iteNT ?_
    walk_at "rd"
    refine And.intro (by show 3 ≤ sizeLine; decide) ?_
    intro tp ntp
    generalize hgt : upd _ tp _ = Ht
    have st := same_of hgt ntp
    have vt := at_of hgt
    clear hgt
    have hat := st _ _ (s1 _ _ ha)
    have ntpa : tp ≠ a := (ne_of_none (s1 _ _ ha) ntp).symm
    walk_at "rd"
    refine ⟨a, T.C_Code, dx, [], rfl, hat, T.C_Code_c, T.C_Code_n_parts, by decide, ?_⟩
    generalize hg3 : upd Ht a _ = H3
    have b3 : SameB a Ht H3 := sameB_of hg3
    have h3a : H3 a = some (.ins T.C_Code dx [("parts", .ref tp)]) := at_of hg3
    have h3t : H3 tp = some (.tup [.str c.sg, .str c.pd, .int c.wd]) := b3 _ _ ntpa vt
    clear hg3
    walk_at "rd"
    show iEnumU K (tCons (tVar 1) tNil) _ H3 _
    refine r_enumS ?_
    walk_at "rd"
    refine ⟨c.sg, rfl, fun D nD => ?_⟩
    refine d_it walk_pairs (fun i G => (∃ kvs, G D = some (.dK kvs) ∧ kvs.length ≤ i ∧ ∀ (j ch : Nat), j < i → c.sg.cps.toList[j]? = some ch → valV kvs (.inr ⟨#[ch]⟩) = some (.int (j : Nat))) ∧ Same H3 G) ⟨⟨[], upd_same, Nat.le_refl _, fun j ch hj => absurd hj (Nat.not_lt_zero _)⟩, same_new nD⟩ (fun _ _ _ _ => trivial) ?_ ?_
    · rintro i x G G' hi ⟨⟨kvs, hk, lk, lo⟩, sG⟩ ⟨Tp, u, v, rfl, nT, hG', ea, eb⟩
      have hsT := same_of hG'.symm nT
      have hvT := at_of hG'.symm
      clear hG'
      cases ea
      unfold sgn at eb
      obtain ⟨ch, hch, rfl⟩ := Option.map_eq_some_iff.mp eb
      walk_at "rd"
      refine ⟨rfl, ?_⟩
      walk_at "rd"
      have hi' : i < c.sg.length := hi
      refine ⟨kvs, .inr ⟨#[ch]⟩, rfl, hsT _ _ hk, Nat.lt_of_le_of_lt lk (Nat.lt_of_lt_of_le hi' lsl), ⟨_, upd_same, ?_, ?_⟩, same_mut (sG.trans hsT) nD⟩
      · have := length_putK kvs (.inr ⟨#[ch]⟩) (.int (i : Nat))
        omega
      · intro j ch2 hj hj2
        rw [valV_put]
        have hch' : c.sg.cps.toList[i]? = some ch := by rw [Array.getElem?_toList]; exact hch
        by_cases e : j = i
        · subst e
          rw [hch'] at hj2
          rw [← Option.some.inj hj2, if_pos rfl]
        · rw [if_neg ?_]
          · exact lo j ch2 (by omega) hj2
          · intro z
            have z2 : ch2 = ch := by
              have := congrArg (fun k : Key => match k with | .inr s => s.cps.toList | .inl _ => []) z
              have : [ch2] = [ch] := this
              exact (List.cons.inj this).1
            subst z2
            obtain ⟨l1, g1⟩ := List.getElem?_eq_some_iff.mp hj2
            obtain ⟨l2, g2⟩ := List.getElem?_eq_some_iff.mp hch'
            exact e ((List.getElem_inj hnd).mp (g1.trans g2.symm))
    rintro G4 ⟨⟨kvs, hk, lk, lo⟩, sG⟩
    walk_at "rd"
    refine ⟨a, T.C_Code, dx, _, rfl, sG _ _ h3a, T.C_Code_c, T.C_Code_n_digits, (by show 1 < 1000; decide), ?_⟩
    generalize hg5 : upd G4 a _ = H5
    have b5 : SameB a G4 H5 := sameB_of hg5
    have h5a : H5 a = some (.ins T.C_Code dx [("parts", .ref tp), ("digits", .ref D)]) := at_of hg5
    have nDa : D ≠ a := (ne_of_none h3a nD).symm
    have h5D := b5 _ _ nDa hk
    have h5t : H5 tp = some (.tup [.str c.sg, .str c.pd, .int c.wd]) := b5 _ _ ntpa (sG _ _ h3t)
    clear hg5
    walk_at "rd"
    refine r_lenUS lsl ?_
    rw [ok.ln]
    refine r_ixID (bits_at hb1 hb6) ?_
    walk_at "rd"
    refine ⟨a, T.C_Code, dx, _, rfl, h5a, T.C_Code_c, T.C_Code_n_sign_bits, (by show 2 < 1000; decide), ?_⟩
    generalize hg6 : upd H5 a _ = H6
    have b6 : SameB a H5 H6 := sameB_of hg6
    have h6a : H6 a = some (.ins T.C_Code dx [("parts", .ref tp), ("digits", .ref D), ("sign_bits", .int c.sb)]) := at_of hg6
    have h6t := b6 _ _ ntpa h5t
    have h6D := b6 _ _ nDa h5D
    have lo2 : Dig c kvs := fun j ch hj => lo j ch (by
      have := (List.getElem?_eq_some_iff.mp hj).1
      rw [Array.length_toList] at this
      exact this) hj
    clear hg6
    exact q H6 (((toB (s1.trans st)).trans b3).trans ((toB sG).trans (b5.trans b6))) ⟨ok, dx, tp, D, kvs, h6a, h6t, h6D, lo2⟩
  · walk_at "rx"
    have pn : (c.pd = Str.ofString "") ↔ c.pd.cps.toList = [] := by
      rw [e_tx]
      constructor
      · intro z; rw [z, tx_list]
      · intro z; rw [tx_of c.pd, z]
    have fin : (if (!true) = true then True else True) := trivial
    refine r_iteND (fun h => ?_) (fun h => ?_)
    · have hne : c.pd.cps.toList ≠ [] := fun z => h (pn.mpr z)
      have ep := pad_eq ok hne
      have mp : c.pd.cps.toList.getD 0 0 ∈ c.pd.cps.toList := by
        cases hl : c.pd.cps.toList with
        | nil => exact absurd hl hne
        | cons x r => exact List.mem_cons_self
      walk_at "rx"
      refine ⟨c.pd.cps.toList.getD 0 0, by rw [ep]; rfl, ok.pds _ mp, ?_⟩
      walk_at "rx"
      refine r_inS ⟨c.pd.cps.toList.getD 0 0, c.sg, ep ▸ rfl, rfl, ?_⟩
      rw [decide_eq_false (hpn _ mp)]
      walk_at "rx"
      exact tail _ _ ⟨rfl, rfl⟩
    · walk_at "rx"
      exact tail _ _ ⟨rfl, rfl⟩
theorem ok_Code___init__ (T : Txt K mg) : FnOk P w K mg base CX0 3 T.Code___init___a T.Code___init___d ["self", "signs", "pad", "width"] (sp_Code___init__ T) := by
  refine T.Code___init___f.ok sc_Code___init__ (fun vs H Q E h => len_Code___init__ T vs H Q E h) (fun cdv A outer s H vs Q E hr h => ⟨t_Code___init__ T, PSs.nox ?_, pure_Code___init__ T vs H Q E h⟩)
  have hu := hu64 hr
  exact (pss_cons (ps_if (PW.pt (pw_or (pt_not (pt_val (pe_call (ok_are_signs T) (hr.mono (by decide)) (by rfl) T.are_signs_g T.are_signs_f.kp T.are_signs_b .nil pass0 (pa_cons (pv 1) pa_nil)))) (pw_or1 (pt_cmpR (op_notInID T.k_BITS_d) (pe_callB c_lenU (by rfl) T.n_len (by decide +kernel) (pa_cons (pv 1) pa_nil)) (pe_glob (by rfl) T.k_BITS_g rfl) (by rfl))))) (pss_one ps_never) pss_nil)
      (pss_cons (ps_if (PW.pt (pw_or (PW.pt (pw_and (pt_cmpR (op_neU hu) (pv 2) pe_str (nomark _)) (pw_and1 (PW.pt (pw_or (pt_not (pt_val (pe_call (ok_is_sign T) (hr.mono (by decide)) (by rfl) T.is_sign_g T.is_sign_f.kp T.is_sign_b .nil pass0 (pa_cons (pv 2) pa_nil)))) (pw_or1 (pt_cmpR op_inU (pv 2) (pv 1) (by rfl)))))))) (pw_or1 (pt_not (pt_val (pe_callB call_isi (by rfl) T.n_isinstance (by decide +kernel) (pa_cons (pv 2) (pa_cons (pe_bltn (v := .ty "str") (by rfl) T.n_str (by decide +kernel) rfl) pa_nil)))))))) (pss_one ps_never) pss_nil)
      (pss_cons (ps_if (pt_not (pt_val (pe_call (ok_is_within T) (hr.mono (by decide)) (by rfl) T.is_within_g T.is_within_f.kp T.is_within_b .nil pass0 (pa_cons (pv 3) (pa_cons pe_int (pa_cons (ClX.pe_cval (pe_glob (by rfl) T.C_Code_g rfl)) pa_nil)))))) (pss_one ps_never) pss_nil)
      (pss_cons (ps_fld (pv 0) (pe_tup (pa_cons (pv 1) (pa_cons (pv 2) (pa_cons (pv 3) pa_nil)))) rfl)
      (pss_cons (ps_fld (pv 0) (pe_dc (own := [("digit", 4), ("sign", 5)]) (g := (gTup K 2 (gCons (gName 4) (gCons (gName 5) gNil)))) (tt := tYes) rfl sc_Code___init__.nd (pi_enumU (by rfl) T.n_enumerate (pa_cons (pv 1) pa_nil)) (blkOk_by (own := [("digit", 4), ("sign", 5)]) (N := ["self", "signs", "pad", "width", "digit", "sign"]) (sc := defScope s_Code___init__) (by decide +kernel)) (fun _ _ _ _ _ => (pg_tup (by rfl) (pgs_cons (pg_name (i := 4) sc_Code___init__.nd rfl (.inl rfl)) (pgs_cons (pg_name (i := 5) sc_Code___init__.nd rfl (.inl rfl)) pgs_nil)))) (fun _ _ _ _ _ => pts_nil) (fun _ _ _ _ _ => (pv 5)) (fun _ _ _ _ _ => (pv 4))) rfl)
      (pss_one (ps_fld (pv 0) (pe_ixID T.k_BITS_d (pe_glob (by rfl) T.k_BITS_g rfl) (pe_callB c_lenU (by rfl) T.n_len (by decide +kernel) (pa_cons (pv 1) pa_nil)) (fun _ _ => rfl)) rfl)))))))


end
section
variable {w : World} {K : PySem.W.Frag} {mg : Str → Option Value} {base : Heap}
local macro_rules | `(tactic| walk_at "hc") => `(tactic| first
  | assumption
  | ((refine CodeAt.same (H := ?xH) ?xb ?xa); (case xa => assumption); (case xb => walk_at "hc")))
local macro_rules | `(tactic| walk_at "rd0") => `(tactic| first
  | ((with_reducible refine r_get (a := ?xa) (c := ?xc) ?x1 ?x2 ?_); (case x1 => rfl); (case x2 => walk_at "hc"))
  | ((with_reducible refine r_methC (a := ?xa) (c := ?xc) ?x1 ?x2 ?x3 ?_); (case x1 => rfl); (case x2 => walk_at "hc"); (case x3 => (intro _ _ _; rfl)))
  | (with_reducible refine r_fmtB ?_)
  | (with_reducible refine r_dget ?_)
  | (with_reducible refine r_m0 ?_)
  | (with_reducible refine r_makeK ?_)
  | (with_reducible refine r_cval ?_)
  | (with_reducible refine r_sfld ?_)
  | (with_reducible refine r_isiI ?_)
  | (with_reducible refine r_isiIB ?_)
  | (with_reducible refine r_isiS ?_)
  | (with_reducible refine r_inID ?_))

/-! ### the text's rows -/
theorem em_wd (c : CodeD) (w : Nat) : ∀ (n : Nat) (b : List Nat), b.length ≤ n → em { c with wd := w } b = em c b
  | n, b, h => by
    by_cases e : 1 ≤ c.sb ∧ c.sb ≤ b.length
    · match n, h with
      | 0, h => omega
      | n + 1, h =>
        rw [em_on e.1 e.2, em_on (c := { c with wd := w }) e.1 e.2]
        show sgnOf c _ :: em { c with wd := w } (b.drop c.sb) = _
        rw [em_wd c w n (b.drop c.sb) (by rw [List.length_drop]; omega)]
    · rw [em, dif_neg e, em, dif_neg e]
theorem rs_wd (c : CodeD) (w : Nat) : ∀ (n : Nat) (b : List Nat), b.length ≤ n → rs { c with wd := w } b = rs c b
  | n, b, h => by
    by_cases e : 1 ≤ c.sb ∧ c.sb ≤ b.length
    · match n, h with
      | 0, h => omega
      | n + 1, h =>
        rw [rs_on e.1 e.2, rs_on (c := { c with wd := w }) e.1 e.2]
        show rs { c with wd := w } (b.drop c.sb) = _
        rw [rs_wd c w n (b.drop c.sb) (by rw [List.length_drop]; omega)]
    · rw [rs, dif_neg e, rs, dif_neg e]
structure Pst where
  p : List Nat
  b : List Nat
  sn : Nat
def pstep (c : CodeD) (s : Pst) (x : Int) : Pst := ⟨s.p ++ em c (s.b ++ b8 x.toNat), rs c (s.b ++ b8 x.toNat), snN (grp c.sb) s.sn (em c (s.b ++ b8 x.toNat)).length⟩
def prun (c : CodeD) (xs : List Int) : Pst := xs.foldl (pstep c) ⟨[], [], 0⟩
def plain (c : CodeD) (xs : List Int) : List Nat := (prun c xs).p ++ endS c (prun c xs).b (prun c xs).sn
theorem pstep_wd (c : CodeD) (w : Nat) (s : Pst) (x : Int) : pstep { c with wd := w } s x = pstep c s x := by
  unfold pstep
  rw [em_wd c w _ _ (Nat.le_refl _), rs_wd c w _ _ (Nat.le_refl _)]
theorem plain_wd (c : CodeD) (w : Nat) (xs : List Int) : plain { c with wd := w } xs = plain c xs := by
  have h : ∀ (xs : List Int) (s : Pst), xs.foldl (pstep { c with wd := w }) s = xs.foldl (pstep c) s := by
    intro xs
    induction xs with
    | nil => intro s; rfl
    | cons x r ih => intro s; rw [List.foldl_cons, List.foldl_cons, pstep_wd, ih]
  unfold plain prun
  rw [h]
  rfl
theorem plcs_full {c : CodeD} {col : Nat} (h : c.full col = true) : ∀ {l : List Nat}, l ≠ [] → plcs c col l = (10 :: (plcs c 0 l).1, (plcs c 0 l).2)
  | s :: r, _ => by
    have hw : 0 < c.wd := by
      unfold CodeD.full at h
      simp at h
      exact h.1
    have h0 : c.full 0 = false := by
      unfold CodeD.full
      rw [decide_eq_false (show ¬ 0 = c.wd by omega), Bool.and_false]
    have e1 : c.plc col s = ([10, s], 1) := by unfold CodeD.plc; rw [if_pos h]
    have e2 : c.plc 0 s = ([s], 1) := by
      unfold CodeD.plc CodeD.nxt
      rw [if_neg (by rw [h0]; exact Bool.false_ne_true), if_pos hw]
    simp only [plcs, e1, e2]
    rfl
  | [], h => absurd rfl h
/-- how the two runs go together -/
def Tog (c : CodeD) (s : Wst) (p : Pst) : Prop := s.b = p.b ∧ s.sn = p.sn ∧ ((s.out.flatten = (plcs c 0 p.p).1 ∧ s.col = (plcs c 0 p.p).2) ∨
  (s.b ≠ [] ∧ c.full (plcs c 0 p.p).2 = true ∧ s.out.flatten = (plcs c 0 p.p).1 ++ [10] ∧ s.col = 0))
theorem Tog.place {c : CodeD} {s : Wst} {p : Pst} (h : Tog c s p) {l : List Nat} (hl : s.b ≠ [] → l ≠ []) :
    s.out.flatten ++ (plcs c s.col l).1 = (plcs c 0 (p.p ++ l)).1 ∧ (plcs c s.col l).2 = (plcs c 0 (p.p ++ l)).2 ∨ (l = [] ∧ s.b = []) := by
  obtain ⟨h1, h2, ⟨h3, h4⟩ | ⟨h3, h4, h5, h6⟩⟩ := h
  · left
    rw [h3, h4, plcs_app]
    exact ⟨rfl, rfl⟩
  · left
    rw [h5, h6, plcs_app, plcs_full h4 (hl h3)]
    simp
theorem Tog.step {c : CodeD} (ok : c.Ok) {s : Wst} {p : Pst} (h : Tog c s p) (x : Int) : Tog c (wstep c s x) (pstep c p x) := by
  have b1 := ok.b1
  have b6 := ok.b6
  have hlen : c.sb ≤ (s.b ++ b8 x.toNat).length := by
    rw [List.length_append]
    show c.sb ≤ s.b.length + 8
    omega
  have hne : em c (s.b ++ b8 x.toNat) ≠ [] := by
    rw [em_on b1 hlen]
    simp
  have hp : s.out.flatten ++ (plcs c s.col (em c (s.b ++ b8 x.toNat))).1 = (plcs c 0 (p.p ++ em c (s.b ++ b8 x.toNat))).1 ∧ (plcs c s.col (em c (s.b ++ b8 x.toNat))).2 = (plcs c 0 (p.p ++ em c (s.b ++ b8 x.toNat))).2 := by
    rcases h.place (l := em c (s.b ++ b8 x.toNat)) (fun _ => hne) with z | z
    · exact z
    · exact absurd z.1 hne
  obtain ⟨e1, e2, _⟩ := h
  unfold wstep pstep
  rw [← e1, ← e2]
  refine ⟨rfl, rfl, ?_⟩
  show ((s.out ++ [(wP c (s.b ++ b8 x.toNat) s.col).1]).flatten = _ ∧ (wP c (s.b ++ b8 x.toNat) s.col).2 = _) ∨ (rs c (s.b ++ b8 x.toNat) ≠ [] ∧ c.full _ = true ∧ (s.out ++ [(wP c (s.b ++ b8 x.toNat) s.col).1]).flatten = _ ∧ (wP c (s.b ++ b8 x.toNat) s.col).2 = 0)
  rw [List.flatten_append]
  unfold wP
  split
  · rename_i z
    right
    refine ⟨z.1, by rw [← hp.2]; exact z.2, ?_, rfl⟩
    show s.out.flatten ++ [(plcs c s.col (em c (s.b ++ b8 x.toNat))).1 ++ [10]].flatten = _
    rw [List.flatten_cons, List.flatten_nil, List.append_nil, ← List.append_assoc, hp.1]
  · left
    refine ⟨?_, hp.2⟩
    rw [List.flatten_cons, List.flatten_nil, List.append_nil]
    exact hp.1
theorem text_plain {c : CodeD} (ok : c.Ok) (xs : List Int) : textC c xs = (plcs c 0 (plain c xs)).1 := by
  have h : ∀ (xs : List Int) (s : Wst) (p : Pst), Tog c s p → Tog c (xs.foldl (wstep c) s) (xs.foldl (pstep c) p) := by
    intro xs
    induction xs with
    | nil => intro s p h; exact h
    | cons x r ih => intro s p h; exact ih _ _ (h.step ok x)
  have t : Tog c (wrun c xs) (prun c xs) := h xs _ _ ⟨rfl, rfl, .inl ⟨rfl, rfl⟩⟩
  have e1 := t.1
  have e2 := t.2.1
  unfold textC plain
  rw [← e1, ← e2]
  rcases t.place (l := endS c (wrun c xs).b (wrun c xs).sn) (fun z => by unfold endS; rw [if_neg z]; simp) with z | z
  · exact z.1
  · obtain ⟨_, _, ⟨h3, h4⟩ | ⟨h3, _⟩⟩ := t
    · rw [z.1, List.append_nil, ← h3]
      exact List.append_nil _
    · exact absurd z.2 h3
theorem plcs_zero {c : CodeD} (h : c.wd = 0) : ∀ (l : List Nat), plcs c 0 l = (l, 0)
  | [] => rfl
  | s :: r => by
    have e : c.plc 0 s = ([s], 0) := by
      unfold CodeD.plc CodeD.full CodeD.nxt
      rw [h]
      rfl
    simp only [plcs, e, plcs_zero h r]
    rfl
theorem rows_of {c : CodeD} (hw : 0 < c.wd) : ∀ (l cur : List Nat), cur.length ≤ c.wd → (l = [] → cur ≠ [] ∨ cur = []) →
    ∃ (rws : List (List Nat)) (last : List Nat), cur ++ (plcs c cur.length l).1 = KR.jn (rws ++ [last]) ∧ (∀ r ∈ rws, r.length = c.wd) ∧ last.length ≤ c.wd ∧ (l ≠ [] ∨ cur ≠ [] → 1 ≤ last.length) ∧ rws.flatten ++ last = cur ++ l
  | [], cur, hc, _ => ⟨[], cur, by simp [plcs, KR.jn], fun r hr => (nomatch hr), hc, fun h => by
      rcases h with h | h
      · exact absurd rfl h
      · exact Nat.pos_of_ne_zero fun z => h (List.eq_nil_of_length_eq_zero z), by simp⟩
  | s :: r, cur, hc, _ => by
    by_cases hf : c.full cur.length = true
    · have hl : cur.length = c.wd := by
        unfold CodeD.full at hf
        simp at hf
        exact hf.2
      have e : c.plc cur.length s = ([10, s], 1) := by unfold CodeD.plc; rw [if_pos hf]
      obtain ⟨rws, last, h1, h2, h3, h4, h5⟩ := rows_of hw r [s] (show 1 ≤ c.wd from hw) (fun _ => .inl (by simp))
      refine ⟨cur :: rws, last, ?_, ?_, h3, fun _ => h4 (.inr (by simp)), ?_⟩
      · simp only [plcs, e]
        show _ = KR.jn (cur :: (rws ++ [last]))
        rw [KR.jn_cons (by simp), ← h1]
        rfl
      · intro x hx
        rcases List.mem_cons.mp hx with rfl | hx
        · exact hl
        · exact h2 x hx
      · rw [List.flatten_cons, List.append_assoc, h5]
        rfl
    · have hl : cur.length < c.wd := by
        unfold CodeD.full at hf
        simp at hf
        have := hf hw
        omega
      have e : c.plc cur.length s = ([s], cur.length + 1) := by unfold CodeD.plc CodeD.nxt; rw [if_neg hf, if_pos hw]
      obtain ⟨rws, last, h1, h2, h3, h4, h5⟩ := rows_of hw r (cur ++ [s]) (by simp; omega) (fun _ => .inl (by simp))
      refine ⟨rws, last, ?_, h2, h3, fun _ => h4 (.inr (by simp)), by rw [h5]; simp⟩
      rw [← h1]
      simp only [plcs, e, List.length_append, List.length_cons, List.length_nil]
      simp

theorem sgn_in {c : CodeD} {d : Nat} (h : d < c.sg.length) : sgnOf c d ∈ c.sg.cps.toList := by
  have h' : d < c.sg.cps.toList.length := by rw [Array.length_toList]; exact h
  unfold sgnOf
  rw [List.getD_eq_getElem?_getD, List.getElem?_eq_getElem h']
  exact List.getElem_mem h'
theorem em_in {c : CodeD} (ok : c.Ok) : ∀ (n : Nat) (b : List Nat), b.length ≤ n → Bits b → ∀ x ∈ em c b, x ∈ c.sg.cps.toList
  | n, b, h, hb, x, hx => by
    by_cases e : 1 ≤ c.sb ∧ c.sb ≤ b.length
    · match n, h with
      | 0, h => omega
      | n + 1, h =>
        rw [em_on e.1 e.2] at hx
        rcases List.mem_cons.mp hx with rfl | hx
        · refine sgn_in ?_
          have l := bin_lt (hb.take c.sb)
          rw [List.length_take, Nat.min_eq_left e.2] at l
          rw [ok.ln]
          exact l
        · exact em_in ok n (b.drop c.sb) (by rw [List.length_drop]; omega) (hb.drop _) x hx
    · rw [em, dif_neg e] at hx
      exact (nomatch hx)
/-- what the plain text is made of -/
theorem plain_sg {c : CodeD} (ok : c.Ok) (xs : List Int) : ∀ x ∈ plain c xs, Sg x := by
  have h : ∀ (xs : List Int) (s : Pst), Bits s.b ∧ s.b.length < c.sb ∧ (∀ x ∈ s.p, Sg x) → Bits (xs.foldl (pstep c) s).b ∧ (xs.foldl (pstep c) s).b.length < c.sb ∧ ∀ x ∈ (xs.foldl (pstep c) s).p, Sg x := by
    intro xs
    induction xs with
    | nil => intro s h; exact h
    | cons x r ih =>
      intro s ⟨h1, h2, h3⟩
      refine ih _ ⟨?_, ?_, ?_⟩
      · obtain ⟨_, k, i2⟩ := rs_sub c _ (s.b ++ b8 x.toNat) (Nat.le_refl _) ok.b1
        show Bits (rs c _)
        rw [i2]
        exact (h1.app (b8_bits _)).drop k
      · exact (rs_sub c _ (s.b ++ b8 x.toNat) (Nat.le_refl _) ok.b1).1
      · intro y hy
        rcases List.mem_append.mp hy with m | m
        · exact h3 y m
        · exact ok.sgs y (em_in ok _ _ (Nat.le_refl _) (h1.app (b8_bits _)) y m)
  obtain ⟨h1, h2, h3⟩ := h xs ⟨[], [], 0⟩ ⟨fun x hx => (nomatch hx), ok.b1, fun x hx => (nomatch hx)⟩
  intro x hx
  rcases List.mem_append.mp hx with m | m
  · exact h3 x m
  · unfold endS at m
    split at m
    · exact (nomatch m)
    · rcases List.mem_cons.mp m with rfl | m
      · refine ok.sgs _ (sgn_in ?_)
        have hb : Bits ((prun c xs).b ++ List.replicate (c.sb - (prun c xs).b.length) 48) := Bits.app h1 fun y hy => .inl (List.eq_of_mem_replicate hy)
        have l := bin_lt hb
        have hl : (prun c xs).b.length < c.sb := h2
        rw [List.length_append, List.length_replicate, show (prun c xs).b.length + (c.sb - (prun c xs).b.length) = c.sb by omega] at l
        rw [ok.ln]
        exact l
      · unfold padL miss at m
        by_cases e : c.pd.cps.toList = []
        · rw [if_pos e] at m
          exact (nomatch m)
        · rw [List.eq_of_mem_replicate m]
          refine ok.pds _ ?_
          cases hl : c.pd.cps.toList with
          | nil => exact absurd hl e
          | cons y r => exact List.mem_cons_self
theorem join_jn : ∀ ps : List (List Nat), Str.join (tx [10]) (ps.map tx) = tx (KR.jn ps)
  | [] => rfl
  | [x] => rfl
  | x :: y :: r => by
    have ih := join_jn (y :: r)
    rw [List.map_cons, List.map_cons, join_cons_cons]
    rw [List.map_cons] at ih
    rw [ih, tx_app, tx_app, List.append_assoc]
    rfl
theorem split_jn {ps : List (List Nat)} (h : ps ≠ []) (hf : ∀ x ∈ ps, KR.Free x) : Txt.split (tx (KR.jn ps)) (tx [10]) = ps.map tx := by
  have e := PySem.StrLaws.join_split (tx (KR.jn ps)) (tx [10])
  have f := PySem.StrLaws.split_free (tx (KR.jn ps)) 10
  have pos := split_pos (tx (KR.jn ps)) (tx [10])
  have f' : ∀ y ∈ Txt.split (tx (KR.jn ps)) (tx [10]), 10 ∉ y.cps.toList := f
  generalize Txt.split (tx (KR.jn ps)) (tx [10]) = parts at e f' pos
  have ep : parts = (parts.map fun z => z.cps.toList).map tx := by
    rw [List.map_map]
    have : (tx ∘ fun z : Str => z.cps.toList) = id := funext fun z => (tx_of z).symm
    rw [this, List.map_id]
  rw [ep, join_jn] at e
  have e2 := tx_inj e
  have e3 := KR.jn_inj (p := parts.map fun z => z.cps.toList) (q := ps) (by
    intro z
    have := List.length_eq_zero_iff.mpr z
    rw [List.length_map] at this
    omega) h (fun x hx => by
    obtain ⟨y, hy, rfl⟩ := List.mem_map.mp hx
    intro d hd z
    exact f' y hy (z ▸ hd)) hf e2
  rw [ep, e3]
/-- the rows of a wide text -/
theorem rows_split {c : CodeD} (ok : c.Ok) (hw : 0 < c.wd) (xs : List Int) : ∃ (rws : List (List Nat)) (last : List Nat), Txt.split (tx (textC c xs)) (tx [10]) = (rws ++ [last]).map tx ∧ (∀ r ∈ rws, r.length = c.wd) ∧ last.length ≤ c.wd ∧
    (plain c xs ≠ [] → 1 ≤ last.length) ∧ rws.flatten ++ last = plain c xs ∧ textC c xs = KR.jn (rws ++ [last]) := by
  obtain ⟨rws, last, h1, h2, h3, h4, h5⟩ := rows_of hw (plain c xs) [] (Nat.zero_le _) (fun _ => .inr rfl)
  have sg := plain_sg ok xs
  have e : textC c xs = KR.jn (rws ++ [last]) := by
    rw [text_plain ok]
    exact h1
  refine ⟨rws, last, ?_, h2, h3, fun z => h4 (.inl z), h5, e⟩
  rw [e]
  refine split_jn (by simp) ?_
  intro x hx d hd z
  have m : d ∈ plain c xs := by
    rw [← show rws.flatten ++ last = plain c xs from h5]
    rcases List.mem_append.mp hx with m | m
    · exact List.mem_append_left _ (List.mem_flatten.mpr ⟨x, m, hd⟩)
    · rw [List.mem_singleton.mp m] at hd
      exact List.mem_append_right _ hd
  have := sg d m
  unfold Sg at this
  omega

end
section
variable {w : World} {K : PySem.W.Frag} {mg : Str → Option Value} {base : Heap}
local macro_rules | `(tactic| walk_at "hc") => `(tactic| first
  | assumption
  | ((refine CodeAt.same (H := ?xH) ?xb ?xa); (case xa => assumption); (case xb => walk_at "hc")))
local macro_rules | `(tactic| walk_at "rd0") => `(tactic| first
  | ((with_reducible refine r_get (a := ?xa) (c := ?xc) ?x1 ?x2 ?_); (case x1 => rfl); (case x2 => walk_at "hc"))
  | ((with_reducible refine r_methC (a := ?xa) (c := ?xc) ?x1 ?x2 ?x3 ?_); (case x1 => rfl); (case x2 => walk_at "hc"); (case x3 => (intro _ _ _; rfl)))
  | (with_reducible refine r_fmtB ?_)
  | (with_reducible refine r_dget ?_)
  | (with_reducible refine r_m0 ?_)
  | (with_reducible refine r_makeK ?_)
  | (with_reducible refine r_cval ?_)
  | (with_reducible refine r_sfld ?_)
  | (with_reducible refine r_isiI ?_)
  | (with_reducible refine r_isiIB ?_)
  | (with_reducible refine r_isiS ?_)
  | (with_reducible refine r_inID ?_))

/-! ### what the law draws -/
def alls : List Nat := List.range' 33 4 ++ List.range' 38 89
def sp_l_all_signs (T : Txt K mg) : Sp := fun vs H Q _ => vs = [] ∧ Q (.str (tx alls)) H
theorem len_l_all_signs (T : Txt K mg) (vs : List V) (H : Hp) (Q : VK) (E : XK) (h : sp_l_all_signs T vs H Q E) : vs.length = 0 := by
  obtain ⟨rfl, _⟩ := h
  rfl
theorem alls_eq : Str.ofString "!\"#$&'()*+,-./0123456789:;<=>?@" ++ Str.ofString "ABCDEFGHIJKLMNOPQRSTUVWXYZ" ++ Str.ofString "[\\]^_`" ++ Txt.lower (Str.ofString "ABCDEFGHIJKLMNOPQRSTUVWXYZ") ++ Str.ofString "{|}~" = tx alls := by decide +kernel
def t_l_all_signs (T : Txt K mg) : TS := (tSeq (tAsg (tC (.str (Str.ofString "ABCDEFGHIJKLMNOPQRSTUVWXYZ"))) (gName 0))
    (tRet (tOp (rAddU K) (tOp (rAddU K) (tOp (rAddU K) (tOp (rAddU K) (tC (.str (Str.ofString "!\"#$&'()*+,-./0123456789:;<=>?@"))) (tVar 0)) (tC (.str (Str.ofString "[\\]^_`")))) (tM0 rLower (tVar 0))) (tC (.str (Str.ofString "{|}~"))))))

theorem pure_l_all_signs (T : Txt K mg) (vs : List V) (H : Hp) (Q : VK) (E : XK) (h : sp_l_all_signs T vs H Q E) : t_l_all_signs T { nx := fun _ H' => Q .non H', rt := Q } (start ["_law_capitals"] vs) H := by
  obtain ⟨rfl, q⟩ := h
  unfold t_l_all_signs
  walk_at "rd"
  refine r_addUS (by decide +kernel) ?_
  walk_at "rd"
  refine r_addUS (by decide +kernel) ?_
  walk_at "rd"
  refine ⟨⟨_, rfl⟩, _, rfl, rfl, by decide +kernel, ?_⟩
  refine r_addUS (by decide +kernel) ?_
  walk_at "rd"
  refine r_addUS (by decide +kernel) ?_
  rw [alls_eq]
  exact q
theorem ok_l_all_signs (T : Txt K mg) : FnOk P w K mg base CX0 1 T.l_all_signs_a T.l_all_signs_d [] (sp_l_all_signs T) := by
  refine T.l_all_signs_f.ok sc_l_all_signs (fun vs H Q E h => len_l_all_signs T vs H Q E h) (fun cdv A outer s H vs Q E hr h => ⟨t_l_all_signs T, PSs.nox ?_, pure_l_all_signs T vs H Q E h⟩)
  have hu := hu64 hr
  exact (pss_cons (ps_set (i := 0) sc_l_all_signs.nd rfl (.inl rfl) pe_str)
      (pss_one (ps_ret (pe_op op_addU (pe_op op_addU (pe_op op_addU (pe_op op_addU pe_str (pv 0)) pe_str) (pe_lower (pv 0))) pe_str))))

/-- the code that is drawn: signs, pad -/
structure Drawn (z p : Str) : Prop where
  ex : ∃ n, 1 ≤ n ∧ n ≤ 6 ∧ z.length = 2 ^ n
  sz : Sgs z
  sp : Sgs p
  nd : z.cps.toList.Nodup
  pl : p.length ≤ 1
  dj : ∀ x ∈ p.cps.toList, x ∉ z.cps.toList
theorem cutV_take {l : List V} {k : Nat} (h : k ≤ l.length) : cutV l none (some (k : Int)) = l.take k := by
  unfold cutV
  rw [HT.sIx_none, sIx_le_nat rfl h]
  rfl
def dch (f pc k : Nat) : Nat := alls.getD ((f + pc * k) % 93) 0
def drow (f pc k : Nat) : List Nat := (List.range k).map (dch f pc)
theorem drow_len (f pc k : Nat) : (drow f pc k).length = k := by simp [drow]
theorem drow_succ (f pc k : Nat) : drow f pc (k + 1) = drow f pc k ++ [dch f pc k] := by simp [drow, List.range_succ]
theorem drow_take {f pc k n : Nat} (h : k ≤ n) : (drow f pc n).take k = drow f pc k := by
  unfold drow
  rw [← List.map_take, List.take_range, Nat.min_eq_left h]
theorem dch_sg (f pc k : Nat) : Sg (dch f pc k) := by
  have hl : alls.length = 93 := by decide
  have lt : (f + pc * k) % 93 < alls.length := by rw [hl]; exact Nat.mod_lt _ (by decide)
  have m : dch f pc k ∈ alls := by
    unfold dch
    rw [List.getD_eq_getElem?_getD, List.getElem?_eq_getElem lt]
    exact List.getElem_mem lt
  unfold alls at m
  rw [List.mem_append, List.mem_range'_1, List.mem_range'_1] at m
  unfold Sg
  omega
theorem drow_sg (f pc k : Nat) : ∀ c ∈ drow f pc k, Sg c := fun c hc => by
  obtain ⟨j, _, rfl⟩ := List.mem_map.mp hc
  exact dch_sg f pc j
theorem alls_nd : alls.Nodup := by decide
theorem dch_ne {f pc i j : Nat} (hpc : pc = 1 ∨ pc = 2 ∨ pc = 4 ∨ pc = 5 ∨ pc = 7 ∨ pc = 91) (h : i < j) (hj : j < 93) : dch f pc i ≠ dch f pc j := by
  have hl : alls.length = 93 := by decide
  have l1 : (f + pc * i) % 93 < alls.length := by rw [hl]; exact Nat.mod_lt _ (by decide)
  have l2 : (f + pc * j) % 93 < alls.length := by rw [hl]; exact Nat.mod_lt _ (by decide)
  intro e
  unfold dch at e
  rw [List.getD_eq_getElem?_getD, List.getElem?_eq_getElem l1, List.getD_eq_getElem?_getD, List.getElem?_eq_getElem l2] at e
  have e2 := (List.getElem_inj alls_nd).mp (show alls[(f + pc * i) % 93] = alls[(f + pc * j) % 93] from e)
  rcases hpc with rfl | rfl | rfl | rfl | rfl | rfl <;> omega
theorem drow_inj {f pc k : Nat} (hpc : pc = 1 ∨ pc = 2 ∨ pc = 4 ∨ pc = 5 ∨ pc = 7 ∨ pc = 91) (h : k ≤ 93) : (drow f pc k).Nodup := by
  unfold drow
  rw [List.nodup_iff_pairwise_ne, List.pairwise_map]
  refine List.Pairwise.imp_of_mem ?_ (List.pairwise_lt_range (n := k))
  intro a b _ hb hab
  exact dch_ne hpc hab (by have := List.mem_range.mp hb; omega)
theorem sum_one : ∀ l : List Nat, ((l.map fun c => tx [c]).map (·.length)).sum = l.length
  | [] => rfl
  | x :: r => by
    have ih := sum_one r
    simp only [List.map_cons, List.sum_cons, List.length_cons, tx_len, List.length_nil] at ih ⊢
    omega
instance (c : Nat) : Decidable (Sg c) := inferInstanceAs (Decidable (33 ≤ c ∧ c ≤ 126 ∧ c ≠ 37))
instance (z : Str) : Decidable (Sgs z) := inferInstanceAs (Decidable (∀ c ∈ z.cps.toList, Sg c))
def sp_l_code (T : Txt K mg) : Sp := fun vs H Q _ => ∃ (b : Addr) (n : Nat), vs = [.ref b] ∧ BagAt H b (n + 10) ∧
  ∀ p z d (w : Nat) H', SameB b H H' → BagAt H' b n → H p = none → H' p = some (.tup [.str z, .str d, .int w]) → Drawn z d ∧ w ≤ 76 → Q (.ref p) H'
theorem len_l_code (T : Txt K mg) (vs : List V) (H : Hp) (Q : VK) (E : XK) (h : sp_l_code T vs H Q E) : vs.length = 1 := by
  obtain ⟨_, _, rfl, _⟩ := h
  rfl
def t_l_code (T : Txt K mg) : TS := (tSeq (tAsg (tTup (tCons (tCall (sp_l_all_signs T) [] E0 tNil) (tCons (tCall (sp_l_of T) [] E0 (tCons (tVar 0) (tCons (tLst (tCons (tC (.int 2)) (tCons (tC (.int 4)) (tCons (tC (.int 8)) (tCons (tC (.int 16)) (tCons (tC (.int 32)) (tCons (tC (.int 64)) tNil))))))) tNil))) tNil))) (gTup K 2 (gCons (gName 1) (gCons (gName 2) gNil))))
    (tSeq (tAsg (tTup (tCons (tCall (sp_l_take T) [] E0 (tCons (tVar 0) (tCons (tC (.int 93)) tNil))) (tCons (tCall (sp_l_of T) [] E0 (tCons (tVar 0) (tCons (tLst (tCons (tC (.int 1)) (tCons (tC (.int 2)) (tCons (tC (.int 4)) (tCons (tC (.int 5)) (tCons (tC (.int 7)) (tCons (tC (.int 91)) tNil))))))) tNil))) tNil))) (gTup K 2 (gCons (gName 3) (gCons (gName 4) gNil))))
    (tSeq (tAsg (tLc (iRng1 (tCons (tOp (rAddU K) (tVar 2) (tC (.int 1))) tNil)) (gName 7) tYes (tOp (rIx K) (tVar 1) (tOp rModI (tOp (rAddU K) (tVar 3) (tOp (rMulU K) (tVar 4) (tVar 7))) (tC (.int 93)))) [7]) (gName 5))
    (tSeq (tAsg (tCall (sp_l_of T) [] E0 (tCons (tVar 0) (tCons (tLst (tCons (tC (.int 0)) (tCons (tC (.int 0)) (tCons (tC (.int 1)) (tCons (tC (.int 2)) (tCons (tC (.int 3)) (tCons (tC (.int 4)) (tCons (tC (.int 5)) (tCons (tC (.int 8)) (tCons (tC (.int 9)) (tCons (tC (.int 20)) tNil))))))))))) tNil))) (gName 6))
    (tSeq (tIfS (tTest (tOp (rEqU K) (tCall (sp_l_take T) [] E0 (tCons (tVar 0) (tCons (tC (.int 5)) tNil))) (tC (.int 0)))) (tRet (tTup (tCons (tC (.str (Str.ofString "0123456789ABCDEF"))) (tCons (tC (.str (Str.ofString ""))) (tCons (tVar 6) tNil))))) tNext)
    (tSeq (tIfS (tTest (tOp (rEqU K) (tCall (sp_l_take T) [] E0 (tCons (tVar 0) (tCons (tC (.int 6)) tNil))) (tC (.int 0)))) (tRet (tTup (tCons (tC (.str (Str.ofString "ABCDEFGHIJKLMNOPQRSTUVWXYZ234567"))) (tCons (tC (.str (Str.ofString "="))) (tCons (tVar 6) tNil))))) tNext)
    (tRet (tTup (tCons (tJoinU K (tC (.str (Str.ofString ""))) (tSl (rSlU K) (tVar 5) tNoPart (tPart (tVar 2)))) (tCons (tCall (sp_l_of T) [] E0 (tCons (tVar 0) (tCons (tLst (tCons (tC (.str (Str.ofString ""))) (tCons (tOp (rIx K) (tVar 5) (tVar 2)) tNil))) tNil))) (tCons (tVar 6) tNil)))))))))))

theorem pure_l_code (T : Txt K mg) (vs : List V) (H : Hp) (Q : VK) (E : XK) (h : sp_l_code T vs H Q E) : t_l_code T { nx := fun _ H' => Q .non H', rt := Q } (start ["_law_bag_here", "_law_some", "_law_many", "_law_first", "_law_pace", "_law_row", "_law_room", "_law_k"] vs) H := by
  obtain ⟨b, n, rfl, hB, q⟩ := h
  unfold t_l_code
  walk_at "rd"
  refine ⟨rfl, ?_⟩
  walk_at "rd"
  walk_at "new"
  refine ⟨b, p, _, n + 9, rfl, ql hv, hB.ne np, (hB.same hs).mono (by omega), by decide, by decide, fun j x H1 hx hB1 s1 => ?_⟩
  obtain ⟨m, rfl, hm1, hm6⟩ : ∃ m : Nat, x = .int ((2 ^ m : Nat) : Int) ∧ 1 ≤ m ∧ m ≤ 6 := by
    match j, hx with
    | 0, hx => exact ⟨1, (Option.some.inj hx).symm, by decide, by decide⟩
    | 1, hx => exact ⟨2, (Option.some.inj hx).symm, by decide, by decide⟩
    | 2, hx => exact ⟨3, (Option.some.inj hx).symm, by decide, by decide⟩
    | 3, hx => exact ⟨4, (Option.some.inj hx).symm, by decide, by decide⟩
    | 4, hx => exact ⟨5, (Option.some.inj hx).symm, by decide, by decide⟩
    | 5, hx => exact ⟨6, (Option.some.inj hx).symm, by decide, by decide⟩
    | j + 6, hx => cases hx
  have pm : 2 ^ m ≤ 64 := Nat.le_trans (Nat.pow_le_pow_right (by decide) hm6) (by decide)
  have pm1 : 1 ≤ 2 ^ m := Nat.one_le_two_pow
  have hlen : alls.length = 93 := by decide
  walk_at "rd"
  refine And.intro (by show 2 ≤ sizeLine; decide) ?_
  intro t1 nt1
  generalize hg1 : upd _ t1 _ = H2
  have s2 := same_of hg1 nt1
  have v2 := at_of hg1
  clear hg1
  have S2 : SameB b H H2 := (toB hs).trans (s1.trans (toB s2))
  walk_at "rd"
  refine ⟨b, 93, n + 8, rfl, hB1.same s2, by decide, by decide, fun r H3 r0 r1 hB3 s3 => ?_⟩
  obtain ⟨f, rfl⟩ : ∃ f : Nat, r = f := ⟨r.toNat, by omega⟩
  walk_at "rd"
  refine And.intro (by show 6 ≤ sizeLine; decide) ?_
  intro l2 nl2
  generalize hg2 : upd _ l2 _ = H4
  have s4 := same_of hg2 nl2
  have v4 := at_of hg2
  clear hg2
  walk_at "rd"
  refine ⟨b, l2, _, n + 7, rfl, ql v4, hB3.ne nl2, hB3.same s4, by decide, by decide, fun j2 x2 H5 hx2 hB5 s5 => ?_⟩
  obtain ⟨pc, rfl, hpc⟩ : ∃ pc : Nat, x2 = .int (pc : Nat) ∧ (pc = 1 ∨ pc = 2 ∨ pc = 4 ∨ pc = 5 ∨ pc = 7 ∨ pc = 91) := by
    match j2, hx2 with
    | 0, hx => exact ⟨1, (Option.some.inj hx).symm, by decide⟩
    | 1, hx => exact ⟨2, (Option.some.inj hx).symm, by decide⟩
    | 2, hx => exact ⟨4, (Option.some.inj hx).symm, by decide⟩
    | 3, hx => exact ⟨5, (Option.some.inj hx).symm, by decide⟩
    | 4, hx => exact ⟨7, (Option.some.inj hx).symm, by decide⟩
    | 5, hx => exact ⟨91, (Option.some.inj hx).symm, by decide⟩
    | j + 6, hx => cases hx
  have hpc91 : pc ≤ 91 := by omega
  walk_at "rd"
  refine And.intro (by show 2 ≤ sizeLine; decide) ?_
  intro t3 nt3
  generalize hg3 : upd _ t3 _ = H6
  have s6 := same_of hg3 nt3
  have v6 := at_of hg3
  clear hg3
  have hB6 := hB5.same s6
  have S6 : SameB b H H6 := S2.trans (s3.trans ((toB s4).trans (s5.trans (toB s6))))
  walk_at "rd"
  refine r_one ⟨by omega, by omega⟩ fun D nD => ?_
  have nDb : D ≠ b := hB6.ne nD
  refine c_it (walk_range (lo := 0) (n := (((2 ^ m : Nat) : Int) + 1).toNat)) (fun i G => G D = some (.lst ((drow f pc i).map fun c => V.str (tx [c]))) ∧ Same H6 G) ⟨upd_same, same_new nD⟩ (fun _ _ _ _ => trivial) ?_ ?_
  · rintro i x G G' hi ⟨hD, sG⟩ ⟨rfl, rfl⟩
    have hi' : i ≤ 64 := by omega
    walk_at "rd"
    refine ⟨rfl, ?_⟩
    walk_at "rd"
    have em1 : ((f : Int) + (pc : Int) * (0 + (i : Int))).fmod 93 = (((f + pc * i) % 93 : Nat) : Int) := by
      rw [Int.fmod_eq_emod_of_nonneg _ (by decide), Int.zero_add, Int.natCast_emod, Int.natCast_add, Int.natCast_mul]
      rfl
    rw [em1]
    have lt93 : (f + pc * i) % 93 < alls.length := by rw [hlen]; exact Nat.mod_lt _ (by decide)
    refine r_ixS (c := dch f pc i) (smallS (by rw [tx_len, hlen]; decide)) ?_ ?_
    · rw [tx_list]
      refine atI_nat ?_
      unfold dch
      rw [List.getD_eq_getElem?_getD, List.getElem?_eq_getElem lt93]
      rfl
    refine ⟨_, hD, ?_, ?_, same_mut sG nD⟩
    · rw [List.length_map, drow_len]
      exact Nat.lt_of_le_of_lt hi' (by rw [sizeLine_eq]; decide)
    · rw [upd_same, drow_succ, List.map_append]
      rfl
  rintro G ⟨hD, sG⟩
  rw [show (((2 ^ m : Nat) : Int) + 1).toNat = 2 ^ m + 1 by omega] at hD
  walk_at "rd"
  refine And.intro (by show 10 ≤ sizeLine; decide) ?_
  intro l4 nl4
  generalize hg4 : upd _ l4 _ = H7
  have s7 := same_of hg4 nl4
  have v7 := at_of hg4
  clear hg4
  have hBG := hB6.same sG
  walk_at "rd"
  refine ⟨b, l4, _, n + 6, rfl, ql v7, hBG.ne nl4, hBG.same s7, by decide, by decide, fun j3 x3 H8 hx3 hB8 s8 => ?_⟩
  obtain ⟨w0, rfl, hw0⟩ : ∃ w0 : Nat, x3 = .int (w0 : Nat) ∧ w0 ≤ 76 := by
    match j3, hx3 with
    | 0, hx => exact ⟨0, (Option.some.inj hx).symm, by decide⟩
    | 1, hx => exact ⟨0, (Option.some.inj hx).symm, by decide⟩
    | 2, hx => exact ⟨1, (Option.some.inj hx).symm, by decide⟩
    | 3, hx => exact ⟨2, (Option.some.inj hx).symm, by decide⟩
    | 4, hx => exact ⟨3, (Option.some.inj hx).symm, by decide⟩
    | 5, hx => exact ⟨4, (Option.some.inj hx).symm, by decide⟩
    | 6, hx => exact ⟨5, (Option.some.inj hx).symm, by decide⟩
    | 7, hx => exact ⟨8, (Option.some.inj hx).symm, by decide⟩
    | 8, hx => exact ⟨9, (Option.some.inj hx).symm, by decide⟩
    | 9, hx => exact ⟨20, (Option.some.inj hx).symm, by decide⟩
    | j + 10, hx => cases hx
  have S8 : SameB b H H8 := S6.trans ((toB (sG.trans s7)).trans s8)
  have hD8 : H8 D = some (.lst ((drow f pc (2 ^ m + 1)).map fun c => V.str (tx [c]))) := s8 _ _ nDb (s7 _ _ hD)
  walk_at "rd"
  refine ⟨b, 5, n + 5, rfl, hB8, by decide, by decide, fun r2 H9 r20 r21 hB9 s9 => ?_⟩
  have hD9 := s9 _ _ nDb hD8
  have S9 := S8.trans s9
  walk_at "rd"
  refine r_iteD (fun h5 => ?_) (fun h5 => ?_)
  · walk_at "rd"
    refine And.intro (by show 3 ≤ sizeLine; decide) ?_
    intro t5 nt5
    generalize hg5 : upd _ t5 _ = H10
    have s10 := same_of hg5 nt5
    have v10 := at_of hg5
    exact q t5 _ _ w0 H10 (S9.trans (toB s10)) ((hB9.same s10).mono (by omega)) (S9.free (hB9.ne nt5) nt5) v10 ⟨⟨⟨4, by decide, by decide, by decide⟩, by decide +kernel, by decide +kernel, by decide +kernel, by decide, by decide +kernel⟩, hw0⟩
  walk_at "rd"
  refine ⟨b, 6, n + 4, rfl, hB9, by decide, by decide, fun r3 H10 r30 r31 hB10 s10 => ?_⟩
  have hD10 := s10 _ _ nDb hD9
  have S10 := S9.trans s10
  walk_at "rd"
  refine r_iteD (fun h6 => ?_) (fun h6 => ?_)
  · walk_at "rd"
    refine And.intro (by show 3 ≤ sizeLine; decide) ?_
    intro t5 nt5
    generalize hg5 : upd _ t5 _ = H11
    have s11 := same_of hg5 nt5
    have v11 := at_of hg5
    exact q t5 _ _ w0 H11 (S10.trans (toB s11)) ((hB10.same s11).mono (by omega)) (S10.free (hB10.ne nt5) nt5) v11 ⟨⟨⟨5, by decide, by decide, by decide⟩, by decide +kernel, by decide +kernel, by decide +kernel, by decide, by decide +kernel⟩, hw0⟩
  walk_at "rd"
  refine r_join ?_ rfl
  walk_at "rd"
  refine r_slUL (ql hD10) ?_
  intro l6 nl6
  generalize hg6 : upd _ l6 _ = H11
  have s11 := same_of hg6 nl6
  have v11 := at_of hg6
  clear hg6
  rw [cutV_take (by rw [List.length_map, drow_len]; omega), ← List.map_take, drow_take (by omega)] at v11
  have hD11 := s11 _ _ hD10
  refine ⟨_, l6, (drow f pc (2 ^ m)).map fun c => tx [c], rfl, rfl, .inl (ql (by rw [List.map_map]; exact v11)), ?_, ?_⟩
  · have e0 : (Str.ofString "").length = 0 := rfl
    rw [e0, Nat.mul_zero, Nat.add_zero]
    have := sum_one (drow f pc (2 ^ m))
    rw [drow_len] at this
    omega
  have ej : Txt.join (Str.ofString "") ((drow f pc (2 ^ m)).map fun c => tx [c]) = tx (drow f pc (2 ^ m)) := by
    have := txt_join_tx ((drow f pc (2 ^ m)).map fun c => [c])
    rw [List.map_map] at this
    have e : (tx ∘ fun c => [c]) = fun c : Nat => tx [c] := rfl
    rw [e] at this
    rw [this]
    congr 1
    induction drow f pc (2 ^ m) with
    | nil => rfl
    | cons y r ih => rw [List.map_cons, List.flatten_cons, ih]; rfl
  rw [ej]
  have g1 : atI ((drow f pc (2 ^ m + 1)).map fun c => V.str (tx [c])) ((2 ^ m : Nat) : Int) = some (V.str (tx [dch f pc (2 ^ m)])) := by
    refine atI_nat ?_
    rw [List.getElem?_map, drow_succ, List.getElem?_append_right (by rw [drow_len]; exact Nat.le_refl _), drow_len, Nat.sub_self]
    rfl
  walk_at "rd"
  refine And.intro (by show 2 ≤ sizeLine; decide) ?_
  intro l7 nl7
  generalize hg7 : upd _ l7 _ = H12
  have s12 := same_of hg7 nl7
  have v12 := at_of hg7
  clear hg7
  have hB11 := hB10.same s11
  walk_at "rd"
  refine ⟨b, l7, _, n + 3, rfl, ql v12, hB11.ne nl7, hB11.same s12, (by show 0 < 2; decide), (by show 2 < 1000000; decide), fun j4 x4 H13 hx4 hB13 s13 => ?_⟩
  have S13 := S10.trans ((toB (s11.trans s12)).trans s13)
  have dj := drow_inj (f := f) hpc (k := 2 ^ m + 1) (by omega)
  have dsg := drow_sg f pc
  have fin : ∀ (d : Str) (t : Addr) (H' : Hp), Same H13 H' → H13 t = none → H' t = some (.tup [.str (tx (drow f pc (2 ^ m))), .str d, .int w0]) → (d = Str.ofString "" ∨ d = tx [dch f pc (2 ^ m)]) → Q (.ref t) H' := by
    intro d t H' sH nt ht hd
    refine q t _ _ w0 H' (S13.trans (toB sH)) ((hB13.same sH).mono (by omega)) (S13.free (hB13.ne nt) nt) ht ⟨⟨⟨m, hm1, hm6, by rw [tx_len, drow_len]⟩, ?_, ?_, ?_, ?_, ?_⟩, hw0⟩
    · intro c hc
      rw [tx_list] at hc
      exact dsg _ c hc
    · intro c hc
      rcases hd with rfl | rfl
      · exact (nomatch hc)
      · rw [tx_list] at hc
        rw [List.mem_singleton.mp hc]
        refine dsg (2 ^ m + 1) _ ?_
        rw [drow_succ]
        simp
    · rw [tx_list]
      rw [drow_succ] at dj
      exact (List.nodup_append.mp dj).1
    · rcases hd with rfl | rfl
      · exact Nat.zero_le _
      · rw [tx_len]; exact Nat.le_refl _
    · intro c hc m2
      rw [tx_list] at m2
      rcases hd with rfl | rfl
      · exact (nomatch hc)
      · rw [tx_list] at hc
        rw [List.mem_singleton.mp hc] at m2
        rw [drow_succ] at dj
        exact (List.nodup_append.mp dj).2.2 _ m2 _ (by simp) rfl
  match j4, hx4 with
  | 0, hx4 =>
    cases hx4
    walk_at "rd"
    refine And.intro (by show 3 ≤ sizeLine; decide) ?_
    intro t9 nt9
    exact fin _ t9 _ (same_new nt9) nt9 upd_same (.inl rfl)
  | 1, hx4 =>
    cases hx4
    walk_at "rd"
    refine And.intro (by show 3 ≤ sizeLine; decide) ?_
    intro t9 nt9
    exact fin _ t9 _ (same_new nt9) nt9 upd_same (.inr rfl)
  | j + 2, hx4 => cases hx4
theorem ok_l_code (T : Txt K mg) : FnOk P w K mg base CX0 3 T.l_code_a T.l_code_d ["_law_bag_here"] (sp_l_code T) := by
  refine T.l_code_f.ok sc_l_code (fun vs H Q E h => len_l_code T vs H Q E h) (fun cdv A outer s H vs Q E hr h => ⟨t_l_code T, PSs.nox ?_, pure_l_code T vs H Q E h⟩)
  have hu := hu64 hr
  exact (pss_cons (ps_asg (pe_tup (pa_cons (pe_call0 (ok_l_all_signs T) (hr.mono (by decide)) (by rfl) T.l_all_signs_g T.l_all_signs_f.kp T.l_all_signs_b .nil pass0) (pa_cons (pe_call (ok_l_of T) (hr.mono (by decide)) (by rfl) T.l_of_g T.l_of_f.kp T.l_of_b .nil pass0 (pa_cons (pv 0) (pa_cons (pe_lst (pa_cons pe_int (pa_cons pe_int (pa_cons pe_int (pa_cons pe_int (pa_cons pe_int (pa_cons pe_int pa_nil))))))) pa_nil))) pa_nil))) (pg_tup (by rfl) (pgs_cons (pg_name (i := 1) sc_l_code.nd rfl (.inr rfl)) (pgs_cons (pg_name (i := 2) sc_l_code.nd rfl (.inl rfl)) pgs_nil))))
      (pss_cons (ps_asg (pe_tup (pa_cons (pe_call (ok_l_take T) (hr.mono (by decide)) (by rfl) T.l_take_g T.l_take_f.kp T.l_take_b .nil pass0 (pa_cons (pv 0) (pa_cons pe_int pa_nil))) (pa_cons (pe_call (ok_l_of T) (hr.mono (by decide)) (by rfl) T.l_of_g T.l_of_f.kp T.l_of_b .nil pass0 (pa_cons (pv 0) (pa_cons (pe_lst (pa_cons pe_int (pa_cons pe_int (pa_cons pe_int (pa_cons pe_int (pa_cons pe_int (pa_cons pe_int pa_nil))))))) pa_nil))) pa_nil))) (pg_tup (by rfl) (pgs_cons (pg_name (i := 3) sc_l_code.nd rfl (.inr rfl)) (pgs_cons (pg_name (i := 4) sc_l_code.nd rfl (.inr rfl)) pgs_nil))))
      (pss_cons (ps_setLc (i := 5) (own := [("_law_k", 7)]) (g := (gName 7)) (tt := tYes) rfl sc_l_code.nd rfl rfl (sw_true rfl rfl rfl (by decide +kernel)) (pi_range1 (by rfl) T.n_range (pa_cons (pe_op op_addU (pv 2) pe_int) pa_nil)) (blkOk_by (own := [("_law_k", 7)]) (N := ["_law_bag_here", "_law_some", "_law_many", "_law_first", "_law_pace", "_law_row", "_law_room", "_law_k"]) (sc := defScope s_l_code) (by decide +kernel)) (fun _ _ _ _ _ => (pg_name (i := 7) sc_l_code.nd rfl (.inl rfl))) (fun _ _ _ _ _ => pts_nil) (fun _ _ _ _ _ => (pe_ix ix_seq (pv 1) (pe_op op_modN (pe_op op_addU (pv 3) (pe_op op_mulU (pv 4) (pv 7))) pe_int) (fun _ _ => rfl))))
      (pss_cons (ps_set (i := 6) sc_l_code.nd rfl (.inl rfl) (pe_call (ok_l_of T) (hr.mono (by decide)) (by rfl) T.l_of_g T.l_of_f.kp T.l_of_b .nil pass0 (pa_cons (pv 0) (pa_cons (pe_lst (pa_cons pe_int (pa_cons pe_int (pa_cons pe_int (pa_cons pe_int (pa_cons pe_int (pa_cons pe_int (pa_cons pe_int (pa_cons pe_int (pa_cons pe_int (pa_cons pe_int pa_nil))))))))))) pa_nil))))
      (pss_cons (ps_if (pt_cmpR (op_eqU hu) (pe_call (ok_l_take T) (hr.mono (by decide)) (by rfl) T.l_take_g T.l_take_f.kp T.l_take_b .nil pass0 (pa_cons (pv 0) (pa_cons pe_int pa_nil))) pe_int (nomark _)) (pss_one (ps_ret (pe_tup (pa_cons pe_str (pa_cons pe_str (pa_cons (pv 6) pa_nil)))))) pss_nil)
      (pss_cons (ps_if (pt_cmpR (op_eqU hu) (pe_call (ok_l_take T) (hr.mono (by decide)) (by rfl) T.l_take_g T.l_take_f.kp T.l_take_b .nil pass0 (pa_cons (pv 0) (pa_cons pe_int pa_nil))) pe_int (nomark _)) (pss_one (ps_ret (pe_tup (pa_cons pe_str (pa_cons pe_str (pa_cons (pv 6) pa_nil)))))) pss_nil)
      (pss_one (ps_ret (pe_tup (pa_cons (pe_join pe_str (pe_slice sl_U (pv 5) po_none (po_some (pv 2)))) (pa_cons (pe_call (ok_l_of T) (hr.mono (by decide)) (by rfl) T.l_of_g T.l_of_f.kp T.l_of_b .nil pass0 (pa_cons (pv 0) (pa_cons (pe_lst (pa_cons pe_str (pa_cons (pe_ix ix_seq (pv 5) (pv 2) (fun _ _ => rfl)) pa_nil))) pa_nil))) (pa_cons (pv 6) pa_nil))))))))))))


end
section
variable {w : World} {K : PySem.W.Frag} {mg : Str → Option Value} {base : Heap}
local macro_rules | `(tactic| walk_at "hc") => `(tactic| first
  | assumption
  | ((refine CodeAt.same (H := ?xH) ?xb ?xa); (case xa => assumption); (case xb => walk_at "hc")))
local macro_rules | `(tactic| walk_at "rd0") => `(tactic| first
  | ((with_reducible refine r_get (a := ?xa) (c := ?xc) ?x1 ?x2 ?_); (case x1 => rfl); (case x2 => walk_at "hc"))
  | ((with_reducible refine r_methC (a := ?xa) (c := ?xc) ?x1 ?x2 ?x3 ?_); (case x1 => rfl); (case x2 => walk_at "hc"); (case x3 => (intro _ _ _; rfl)))
  | (with_reducible refine r_fmtB ?_)
  | (with_reducible refine r_dget ?_)
  | (with_reducible refine r_m0 ?_)
  | (with_reducible refine r_makeK ?_)
  | (with_reducible refine r_cval ?_)
  | (with_reducible refine r_sfld ?_)
  | (with_reducible refine r_isiI ?_)
  | (with_reducible refine r_isiIB ?_)
  | (with_reducible refine r_isiS ?_)
  | (with_reducible refine r_inID ?_))

/-! ### data -/
def sp_l_data (T : Txt K mg) : Sp := fun vs H Q _ => ∃ (b : Addr) (k n : Nat), vs = [.ref b, .int k] ∧ BagAt H b (n + 1000) ∧ k ≤ 500 ∧
  ∀ p xs H', Byts xs → xs.length ≤ k → H p = none → H' p = some (.lst (xs.map V.int)) → SameB b H H' → BagAt H' b n → Q (.ref p) H'
theorem len_l_data (T : Txt K mg) (vs : List V) (H : Hp) (Q : VK) (E : XK) (h : sp_l_data T vs H Q E) : vs.length = 2 := by
  obtain ⟨_, _, _, rfl, _⟩ := h
  rfl
def t_l_data (T : Txt K mg) : TS := (tSeq (tAsg (tTup (tCons (tCall (sp_l_take T) [] E0 (tCons (tVar 0) (tCons (tC (.int 3)) tNil))) (tCons (tCall (sp_l_take T) [] E0 (tCons (tVar 0) (tCons (tOp (rAddU K) (tVar 1) (tC (.int 1))) tNil))) tNil))) (gTup K 2 (gCons (gName 2) (gCons (gName 3) gNil))))
    (tRet (tLc (iRng1 (tCons (tVar 3) tNil)) (gName 4) tYes (tIf (tTest (tOp (rEqU K) (tVar 2) (tC (.int 0)))) (tCall (sp_l_of T) [] E0 (tCons (tVar 0) (tCons (tLst (tCons (tC (.int 0)) (tCons (tC (.int 255)) (tCons (tC (.int 65)) (tCons (tC (.int 10)) (tCons (tC (.int 32)) tNil)))))) tNil))) (tCall (sp_l_take T) [] E0 (tCons (tVar 0) (tCons (tC (.int 256)) tNil)))) [4])))

theorem pure_l_data (T : Txt K mg) (vs : List V) (H : Hp) (Q : VK) (E : XK) (h : sp_l_data T vs H Q E) : t_l_data T { nx := fun _ H' => Q .non H', rt := Q } (start ["_law_bag_here", "_law_most", "_law_few", "_law_many", "_law_k"] vs) H := by
  obtain ⟨b, k, n, rfl, hB, hk, q⟩ := h
  unfold t_l_data
  walk_at "rd"
  refine ⟨b, 3, n + 999, rfl, hB, by decide, by decide, fun r H1 r0 r1 hB1 s1 => ?_⟩
  obtain ⟨few, rfl⟩ : ∃ j : Nat, r = j := ⟨r.toNat, by omega⟩
  walk_at "rd"
  refine ⟨b, (k : Int) + 1, n + 998, rfl, hB1, by omega, by omega, fun r2 H2 r20 r21 hB2 s2 => ?_⟩
  obtain ⟨cnt, rfl⟩ : ∃ j : Nat, r2 = j := ⟨r2.toNat, by omega⟩
  walk_at "rd"
  refine And.intro (by show 2 ≤ sizeLine; decide) ?_
  intro t nt
  generalize hg : upd _ t _ = H3
  have s3 := same_of hg nt
  have v3 := at_of hg
  clear hg
  have hB3 := hB2.same s3
  have S3 : SameB b H H3 := s1.trans (s2.trans (toB s3))
  walk_at "rd"
  refine r_one ⟨by omega, by omega⟩ fun D hD => ?_
  have nD : D ≠ b := hB3.ne hD
  refine c_it (walk_range (lo := 0) (n := cnt)) (fun i G => ∃ acc : List Int, acc.length = i ∧ Byts acc ∧ G D = some (.lst (acc.map V.int)) ∧ SameB b H3 G ∧ BagAt G b (n + (998 - i)))
    ⟨[], rfl, fun x hx => absurd hx List.not_mem_nil, upd_same, toB (same_new hD), hB3.same (same_new hD)⟩ (fun _ _ _ _ => trivial) ?_ ?_
  · rintro i x G G' hi ⟨acc, el, hd, hG, hsb, hb⟩ ⟨rfl, rfl⟩
    have fin : ∀ (z : Int) (G2 : Hp), 0 ≤ z → z ≤ 255 → BagAt G2 b (n + (998 - (i + 1))) → SameB b G' G2 → ∃ acc0, G2 D = some (.lst acc0) ∧ acc0.length < sizeLine ∧
        ∃ acc : List Int, acc.length = i + 1 ∧ Byts acc ∧ upd G2 D (.lst (acc0 ++ [.int z])) D = some (.lst (acc.map V.int)) ∧ SameB b H3 (upd G2 D (.lst (acc0 ++ [.int z]))) ∧ BagAt (upd G2 D (.lst (acc0 ++ [.int z]))) b (n + (998 - (i + 1))) := by
      intro z G2 z0 z1 hb3 hs3
      refine ⟨_, hs3 _ _ nD hG, by rw [List.length_map, el]; exact Nat.lt_of_lt_of_le hi (smallS (by omega)), acc ++ [z], by simp [el], ?_, by rw [upd_same, List.map_append]; rfl, ?_, hb3.upd nD⟩
      · intro y hy
        rcases List.mem_append.mp hy with h | h
        · exact hd y h
        · rw [List.mem_singleton.mp h]; exact ⟨z0, z1⟩
      · exact sameB_mut (hsb.trans hs3) hD
    walk_at "rd"
    refine ⟨rfl, ?_⟩
    walk_at "rd"
    refine r_iteD (fun h => ?_) (fun h => ?_)
    · walk_at "rd"
      walk_at "new"
      refine ⟨b, p, _, n + (998 - (i + 1)), rfl, ql hv, hb.ne np, (hb.same hs).mono (by omega), by decide, by decide, fun j x G2 hx hb3 hs3 => ?_⟩
      obtain ⟨z, rfl, hz⟩ : ∃ z : Int, x = .int z ∧ 0 ≤ z ∧ z ≤ 255 := by
        match j, hx with
        | 0, hx => exact ⟨0, (Option.some.inj hx).symm, by decide, by decide⟩
        | 1, hx => exact ⟨255, (Option.some.inj hx).symm, by decide, by decide⟩
        | 2, hx => exact ⟨65, (Option.some.inj hx).symm, by decide, by decide⟩
        | 3, hx => exact ⟨10, (Option.some.inj hx).symm, by decide, by decide⟩
        | 4, hx => exact ⟨32, (Option.some.inj hx).symm, by decide, by decide⟩
        | j + 5, hx => cases hx
      exact fin z G2 hz.1 hz.2 hb3 ((toB hs).trans hs3)
    · walk_at "rd"
      refine ⟨b, 256, n + (998 - (i + 1)), rfl, hb.mono (by omega), by decide, by decide, fun z G2 z0 z1 hb3 hs3 => ?_⟩
      exact fin z G2 z0 (by omega) hb3 hs3
  · rintro G ⟨acc, el, hd, hG, hs, hb⟩
    exact q D acc G hd (by omega) (S3.free nD hD) hG (S3.trans hs) (hb.mono (by omega))
theorem ok_l_data (T : Txt K mg) : FnOk P w K mg base CX0 3 T.l_data_a T.l_data_d ["_law_bag_here", "_law_most"] (sp_l_data T) := by
  refine T.l_data_f.ok sc_l_data (fun vs H Q E h => len_l_data T vs H Q E h) (fun cdv A outer s H vs Q E hr h => ⟨t_l_data T, PSs.nox ?_, pure_l_data T vs H Q E h⟩)
  have hu := hu64 hr
  exact (pss_cons (ps_asg (pe_tup (pa_cons (pe_call (ok_l_take T) (hr.mono (by decide)) (by rfl) T.l_take_g T.l_take_f.kp T.l_take_b .nil pass0 (pa_cons (pv 0) (pa_cons pe_int pa_nil))) (pa_cons (pe_call (ok_l_take T) (hr.mono (by decide)) (by rfl) T.l_take_g T.l_take_f.kp T.l_take_b .nil pass0 (pa_cons (pv 0) (pa_cons (pe_op op_addU (pv 1) pe_int) pa_nil))) pa_nil))) (pg_tup (by rfl) (pgs_cons (pg_name (i := 2) sc_l_data.nd rfl (.inr rfl)) (pgs_cons (pg_name (i := 3) sc_l_data.nd rfl (.inl rfl)) pgs_nil))))
      (pss_one (ps_ret (pe_lc (own := [("_law_k", 4)]) (g := (gName 4)) (tt := tYes) rfl sc_l_data.nd (pi_range1 (by rfl) T.n_range (pa_cons (pv 3) pa_nil)) (blkOk_by (own := [("_law_k", 4)]) (N := ["_law_bag_here", "_law_most", "_law_few", "_law_many", "_law_k"]) (sc := defScope s_l_data) (by decide +kernel)) (fun _ _ _ _ _ => (pg_name (i := 4) sc_l_data.nd rfl (.inl rfl))) (fun _ _ _ _ _ => pts_nil) (fun _ _ _ _ _ => (pe_ifExp (pt_cmpR (op_eqU hu) (pv 2) pe_int (nomark _)) (pe_call (ok_l_of T) (hr.mono (by decide)) (by rfl) T.l_of_g T.l_of_f.kp T.l_of_b .nil pass0 (pa_cons (pv 0) (pa_cons (pe_lst (pa_cons pe_int (pa_cons pe_int (pa_cons pe_int (pa_cons pe_int (pa_cons pe_int pa_nil)))))) pa_nil))) (pe_call (ok_l_take T) (hr.mono (by decide)) (by rfl) T.l_take_g T.l_take_f.kp T.l_take_b .nil pass0 (pa_cons (pv 0) (pa_cons pe_int pa_nil)))))))))


end
section
variable {w : World} {K : PySem.W.Frag} {mg : Str → Option Value} {base : Heap}
local macro_rules | `(tactic| walk_at "hc") => `(tactic| first
  | assumption
  | ((refine CodeAt.same (H := ?xH) ?xb ?xa); (case xa => assumption); (case xb => walk_at "hc")))
local macro_rules | `(tactic| walk_at "rd0") => `(tactic| first
  | ((with_reducible refine r_get (a := ?xa) (c := ?xc) ?x1 ?x2 ?_); (case x1 => rfl); (case x2 => walk_at "hc"))
  | ((with_reducible refine r_methC (a := ?xa) (c := ?xc) ?x1 ?x2 ?x3 ?_); (case x1 => rfl); (case x2 => walk_at "hc"); (case x3 => (intro _ _ _; rfl)))
  | (with_reducible refine r_fmtB ?_)
  | (with_reducible refine r_dget ?_)
  | (with_reducible refine r_m0 ?_)
  | (with_reducible refine r_makeK ?_)
  | (with_reducible refine r_cval ?_)
  | (with_reducible refine r_sfld ?_)
  | (with_reducible refine r_isiI ?_)
  | (with_reducible refine r_isiIB ?_)
  | (with_reducible refine r_isiS ?_)
  | (with_reducible refine r_inID ?_))

/-! ### bytes behind others -/
theorem r_mkN {C : Addr} {fls : List Str} {ta : TA} {σ : S} {H : Hp} {E : XK} (h : ta σ H fun vs H1 => vs.length = fls.length ∧ (fls = [] → E (.ref C) none H1) ∧ (fls ≠ [] → ∀ d, H1 d = none → E (.ref C) (some d) (upd H1 d (.xd (zipX [] fls vs))))) : tMkN C fls ta σ H E := h
def cutW (s : Wst) : Wst := { s with out := [] }
def w0 : Wst := ⟨[], [], 0, 0⟩
/-- what is written behind the state s, and the state then -/
def wgo (c : CodeD) (s : Wst) (xs : List Int) : Wst := xs.foldl (wstep c) (cutW s)
theorem wrun_go (c : CodeD) (xs : List Int) : wrun c xs = wgo c w0 xs := rfl
theorem wgo_snoc (c : CodeD) (s : Wst) (xs : List Int) (x : Int) : wgo c s (xs ++ [x]) = wstep c (wgo c s xs) x := by
  unfold wgo
  rw [List.foldl_append]
  rfl
theorem fold_out (c : CodeD) : ∀ (xs : List Int) (s : Wst), xs.foldl (wstep c) s = { wgo c s xs with out := s.out ++ (wgo c s xs).out }
  | [], s => by
    show s = { cutW s with out := s.out ++ [] }
    rw [List.append_nil]
    rfl
  | x :: r, s => by
    have e1 : wgo c s (x :: r) = r.foldl (wstep c) (wstep c (cutW s) x) := rfl
    have e2 : wgo c (wstep c s x) r = wgo c (wstep c (cutW s) x) r := rfl
    have a1 : (wstep c s x).out = s.out ++ (wstep c (cutW s) x).out := rfl
    rw [List.foldl_cons, fold_out c r (wstep c s x), e1, fold_out c r (wstep c (cutW s) x), e2, a1, List.append_assoc]
theorem wgo_app (c : CodeD) (s : Wst) (xs ys : List Int) : wgo c s (xs ++ ys) = { wgo c (wgo c s xs) ys with out := (wgo c s xs).out ++ (wgo c (wgo c s xs) ys).out } := by
  show (xs ++ ys).foldl (wstep c) (cutW s) = _
  rw [List.foldl_append, fold_out c ys]
  rfl
def Wk (c : CodeD) (s : Wst) : Prop := Wok c (cutW s)
theorem Wok.wk {c : CodeD} {s : Wst} (h : Wok c s) : Wk c s := ⟨h.bits, h.bl, h.snl, fun _ hp => nomatch hp⟩
theorem Wk.go {c : CodeD} {s : Wst} (ok : c.Ok) (h : Wk c s) (xs : List Int) : Wok c (wgo c s xs) := by
  have : ∀ (xs : List Int) (s : Wst), Wok c s → Wok c (xs.foldl (wstep c) s) := by
    intro xs
    induction xs with
    | nil => intro s h; exact h
    | cons x r ih => intro s h; exact ih _ (h.step ok x)
  exact this xs _ h
theorem wk0 {c : CodeD} (ok : c.Ok) : Wk c w0 := (Wok.run ok []).wk
theorem go_len (c : CodeD) (s : Wst) (xs : List Int) : (wgo c s xs).out.length = xs.length := by
  have h : ∀ (xs : List Int) (s : Wst), (xs.foldl (wstep c) s).out.length = s.out.length + xs.length := by
    intro xs
    induction xs with
    | nil => intro s; rfl
    | cons x r ih =>
      intro s
      rw [List.foldl_cons, ih]
      show (s.out ++ [_]).length + r.length = s.out.length + (r.length + 1)
      rw [List.length_append]
      simp only [List.length_cons, List.length_nil]
      omega
  have := h xs (cutW s)
  simpa [wgo, cutW] using this
def SAt (H : Hp) (st : Addr) (s : Wst) : Prop := StAt H st s.b s.sn s.col
theorem SAt.move {H H' : Hp} {st : Addr} {s : Wst} (h : SAt H st s) (k : ∀ o, H st = some o → H' st = some o) : SAt H' st s := k _ h
theorem SAt.nins {H : Hp} {st w C dx : Addr} {s : Wst} {fs : List (Str × V)} (h : SAt H st s) (hw : H w = some (.ins C dx fs)) : st ≠ w := fun z => by
  unfold SAt StAt at h
  rw [z, hw] at h
  cases h
theorem SAt.cut {H : Hp} {st : Addr} {s t : Wst} (h : SAt H st s) (e : cutW s = cutW t) : SAt H st t := by
  have e1 : s.b = t.b := (congrArg (fun z : Wst => z.b) e : (cutW s).b = (cutW t).b)
  have e2 : s.sn = t.sn := (congrArg (fun z : Wst => z.sn) e : (cutW s).sn = (cutW t).sn)
  have e3 : s.col = t.col := (congrArg (fun z : Wst => z.col) e : (cutW s).col = (cutW t).col)
  unfold SAt at h ⊢
  rw [← e1, ← e2, ← e3]
  exact h
/-- what closes the text -/
def endT (c : CodeD) (s : Wst) : List Nat := (plcs c s.col (endS c s.b s.sn)).1
theorem CodeAt.sameW {T : Txt K mg} {H H' : Hp} {a w dx : Addr} {fs : List (Str × V)} {c : CodeD} (h : CodeAt T H a c) (s : SameB w H H') (hw : H w = some (.ins T.C_Writer dx fs)) (h1 : fs.lookup ("parts" : Str) = none) : CodeAt T H' a c := by
  obtain ⟨o, dx2, tp, dg, kvs, g1, g2, g3, g4⟩ := h
  refine ⟨o, dx2, tp, dg, kvs, s _ _ (fun z => ?_) g1, s _ _ (fun z => ?_) g2, s _ _ (fun z => ?_) g3, g4⟩
  · rw [z, hw] at g1
    have := (HO.ins.inj (Option.some.inj g1)).2.2
    rw [this] at h1
    exact nomatch (show some (V.ref tp) = none from h1)
  · rw [z, hw] at g2; cases g2
  · rw [z, hw] at g3; cases g3
def sp_passed (T : Txt K mg) : Sp := fun vs H Q _ => ∃ a c st p, ∃ (s : Wst) (xs : List Int), vs = [.ref a, .ref st, .ref p] ∧ CodeAt T H a c ∧ SAt H st s ∧ Wk c s ∧ H p = some (.lst (xs.map V.int)) ∧ xs.length ≤ 600 ∧ Byts xs ∧
  ∀ r st' H', Same H H' → H r = none → H' r = some (.tup [.str (tx (wgo c s xs).out.flatten), .ref st']) → SAt H' st' (wgo c s xs) → (st' = st ∨ H st' = none) → Q (.ref r) H'
theorem len_passed (T : Txt K mg) (vs : List V) (H : Hp) (Q : VK) (E : XK) (h : sp_passed T vs H Q E) : vs.length = 3 := by
  obtain ⟨_, _, _, _, _, _, rfl, _⟩ := h
  rfl
def t_passed (T : Txt K mg) : TS := (tSeq (tAsg (tLst tNil) (gName 3))
    (tSeq (tFor (iSeqU K (tVar 2)) (gName 4) (tSeq (tAsg (tMeth T.C_Code "write" (sp_Code_write T) [] E0 (tVar 0) (tCons (tVar 1) (tCons (tVar 4) tNil))) (gTup K 2 (gCons (gName 5) (gCons (gName 1) gNil))))
    (tDrop (tBM K "list" rAppend (tVar 3) (tCons (tVar 5) tNil)))))
    (tRet (tTup (tCons (tJoinU K (tC (.str (Str.ofString ""))) (tVar 3)) (tCons (tVar 1) tNil))))))

theorem pure_passed (T : Txt K mg) (vs : List V) (H : Hp) (Q : VK) (E : XK) (h : sp_passed T vs H Q E) : t_passed T { nx := fun _ H' => Q .non H', rt := Q } (start ["code", "state", "data", "parts", "byte", "part"] vs) H := by
  obtain ⟨a, c, st, p, s, xs, rfl, hc, hst, hk, hp, hl, hx, q⟩ := h
  have ok := hc.1
  unfold t_passed
  walk_at "rd"
  refine And.intro (Nat.zero_le _) ?_
  intro D nD
  generalize hg : upd _ D _ = Hn
  have hs := same_of hg nD
  have hv := at_of hg
  clear hg
  walk_at "rd"
  refine r_iseqL ?_
  walk_at "rd"
  have hp1 : Hn p = some (.lst (xs.map V.int)) := hs _ _ hp
  refine ⟨p, rfl, ⟨_, ql hp1⟩, ?_⟩
  refine f_it (walk_list (K := K) (a := p) (xs := xs.map V.int)) (fun i σ G => ∃ v4 v5 st', σ = [some (.ref a), some (.ref st'), some (.ref p), some (.ref D), v4, v5] ∧ Same H G ∧ (st' = st ∨ H st' = none) ∧ st' ≠ D ∧
      G D = some (.lst ((wgo c s (xs.take i)).out.map fun l => V.str (tx l))) ∧ SAt G st' (wgo c s (xs.take i)))
    ⟨none, none, st, rfl, hs, .inl rfl, ne_of_none hst nD, hv, hs _ _ hst⟩ (fun i σ G _ h => by
      obtain ⟨_, _, _, _, s, _⟩ := h
      exact ql (s _ _ hp)) ?_ ?_
  · rintro i x σ G G' hi ⟨v4, v5, st', rfl, sG, hst0, hstD, hD, hS⟩ ⟨rfl, hx'⟩
    obtain ⟨z, hz, rfl⟩ := at_int hx'
    have bz := hx z (List.mem_of_getElem? hz)
    obtain ⟨n, rfl⟩ : ∃ n : Nat, z = n := ⟨z.toNat, by omega⟩
    have po := hk.go ok (xs.take i)
    have hcG := hc.same sG
    walk_at "rd"
    refine ⟨a, c, st', _, _, _, n, rfl, hcG, hS, po.bits, po.bl, by omega, fun pp st2 G2 s2 npp nst2 hpp hst2 => ?_⟩
    walk_at "rd"
    have hD2 := s2 _ _ hD
    refine ⟨r_tyL (ql hD2), ?_⟩
    walk_at "rd"
    have ol : (wgo c s (xs.take i)).out.length ≤ 600 := by
      rw [go_len, List.length_take]
      omega
    refine r_append hD2 (by rw [List.length_map]; exact Nat.lt_of_le_of_lt ol (by rw [sizeLine_eq]; decide)) ?_
    walk_at "rd"
    have e : wgo c s (xs.take (i + 1)) = wstep c (wgo c s (xs.take i)) (n : Nat) := by
      rw [List.take_add_one, hz, ← wgo_snoc]
      rfl
    have ne' : st2 ≠ D := (ne_of_none hD nst2).symm
    rw [e]
    refine ⟨_, _, st2, rfl, same_mut (sG.trans s2) nD, .inr (sG.free nst2), ne', ?_, ?_⟩
    · rw [upd_same]
      show _ = some (HO.lst (List.map _ (_ ++ [_])))
      rw [List.map_append]
      first | done | rfl
    · exact (upd_ne ne').trans hst2
  · rintro σ G ⟨v4, v5, st', rfl, sG, hst0, hstD, hD, hS⟩
    rw [List.length_map, List.take_of_length_le (Nat.le_refl _)] at hD hS
    have po := hk.go ok xs
    walk_at "rd"
    refine r_join ?_ rfl
    walk_at "rd"
    have sl := sum_le _ po.ol
    rw [go_len] at sl
    refine ⟨_, D, (wgo c s xs).out.map tx, rfl, rfl, .inl (ql ?_), ?_, ?_⟩
    · rw [List.map_map]
      exact hD
    · have e0 : (Str.ofString "").length = 0 := rfl
      rw [e0, Nat.mul_zero, Nat.add_zero]
      omega
    rw [txt_join_tx]
    walk_at "rd"
    refine And.intro (by show 2 ≤ sizeLine; decide) fun r nr => ?_
    have s3 := same_new (o := .tup [.str (tx (wgo c s xs).out.flatten), .ref st']) nr
    exact q r st' _ (sG.trans s3) (sG.free nr) upd_same (s3 _ _ hS) hst0
theorem ok_passed (T : Txt K mg) : FnOk P w K mg base CX0 6 T.passed_a T.passed_d ["code", "state", "data"] (sp_passed T) := by
  refine T.passed_f.ok sc_passed (fun vs H Q E h => len_passed T vs H Q E h) (fun cdv A outer s H vs Q E hr h => ⟨t_passed T, PSs.nox ?_, pure_passed T vs H Q E h⟩)
  have hu := hu64 hr
  exact (pss_cons (ps_set (i := 3) sc_passed.nd rfl (.inl rfl) (pe_lst pa_nil))
      (pss_cons (ps_for PassesOwn.never rfl (pi_seqU (pv 2)) (pg_name (i := 4) sc_passed.nd rfl (.inl rfl)) (pss_cons (ps_asg (pe_meth (pv 0) T.C_Code_c T.Code_write_m (ok_Code_write T) (hr.mono (by decide)) T.Code_write_b .nil pass0 (pa_cons (pv 1) (pa_cons (pv 4) pa_nil))) (pg_tup (by rfl) (pgs_cons (pg_name (i := 5) sc_passed.nd rfl (.inl rfl)) (pgs_cons (pg_name (i := 1) sc_passed.nd rfl (.inl rfl)) pgs_nil))))
      (pss_one (ps_expr (pe_bm PySem.F.plainAttrs_list PySem.F.slot_list_append PySem.F.type_list_append mt_append (pv 3) (pa_cons (pv 5) pa_nil))))))
      (pss_one (ps_ret (pe_tup (pa_cons (pe_join pe_str (pv 3)) (pa_cons (pv 1) pa_nil)))))))

/-! ### writers -/
def WrAt (T : Txt K mg) (H : Hp) (w a st : Addr) (n : Nat) (cl : Bool) : Prop := ∃ dx, H w = some (.ins T.C_Writer dx [("own_code", .ref a), ("now", .ref st), ("many", .int n), ("is_closed", .bl cl)])
theorem WrAt.move {T : Txt K mg} {H H' : Hp} {w a st : Addr} {n : Nat} {cl : Bool} (h : WrAt T H w a st n cl) (k : ∀ o, H w = some o → H' w = some o) : WrAt T H' w a st n cl := by
  obtain ⟨dx, e⟩ := h
  exact ⟨dx, k _ e⟩
theorem WrAt.same {T : Txt K mg} {H H' : Hp} {w a st : Addr} {n : Nat} {cl : Bool} (h : WrAt T H w a st n cl) (s : Same H H') : WrAt T H' w a st n cl := h.move fun o e => s _ _ e
def sp_Writer_need_open (T : Txt K mg) : Sp := fun vs H Q E => ∃ w a st n cl, vs = [.ref w] ∧ WrAt T H w a st n cl ∧ (cl = false → Q .non H) ∧ (cl = true → E (.ref T.X_Closed) none H)
theorem len_Writer_need_open (T : Txt K mg) (vs : List V) (H : Hp) (Q : VK) (E : XK) (h : sp_Writer_need_open T vs H Q E) : vs.length = 1 := by
  obtain ⟨_, _, _, _, _, rfl, _⟩ := h
  rfl
def t_Writer_need_open (T : Txt K mg) (E : XK) : TS := (tIfS (tB (tFld K (tVar 0) "is_closed")) (tRaiseE E (tMkN T.X_Closed [] tNil)) tNext)

theorem pure_Writer_need_open (T : Txt K mg) (vs : List V) (H : Hp) (Q : VK) (E : XK) (h : sp_Writer_need_open T vs H Q E) : t_Writer_need_open T E { nx := fun _ H' => Q .non H', rt := Q } (start ["self"] vs) H := by
  obtain ⟨w, a, st, n, cl, rfl, ⟨dx, hw⟩, q0, q1⟩ := h
  unfold t_Writer_need_open
  walk_at "rd"
  refine r_fldI rfl hw T.C_Writer_c T.C_Writer_n_is_closed rfl ?_
  walk_at "rd"
  cases cl with
  | false =>
    walk_at "rd"
    exact q0 rfl
  | true =>
    walk_at "rd"
    exact r_raise (r_mkN (r_nil ⟨rfl, fun _ => q1 rfl, fun z => absurd rfl z⟩))
theorem ok_Writer_need_open (T : Txt K mg) : FnOk P w K mg base (L2.CX P w) 2 T.Writer_need_open_a T.Writer_need_open_d ["self"] (sp_Writer_need_open T) := by
  refine T.Writer_need_open_f.ok sc_Writer_need_open (fun vs H Q E h => len_Writer_need_open T vs H Q E h) (fun cdv A outer s H vs Q E hr h => ⟨t_Writer_need_open T E, ?_, pure_Writer_need_open T vs H Q E h⟩)
  have hu := hu64 hr
  exact (pss_one (ps_if (pt_val (pe_fld (pv 0) rfl)) (pss_one (ps_raise rfl (takes_of rfl rfl rfl rfl) (pmk_errN0 (k := 0) PySem.PxE.bas_RuntimeError T.X_Closed_F.oex T.X_Closed_F.iC T.X_Closed_F.tI (xi_Closed T w) (hr.mono (by decide)) (by rfl) T.X_Closed_g))) pss_nil))

def sp_Writer___init__ (T : Txt K mg) : Sp := fun vs H Q _ => ∃ w a dx c, vs = [.ref w, .ref a] ∧ H w = some (.ins T.C_Writer dx []) ∧ CodeAt T H a c ∧
  ∀ H' st, SameB w H H' → WrAt T H' w a st 0 false → SAt H' st w0 → H st = none → Q .non H'
theorem len_Writer___init__ (T : Txt K mg) (vs : List V) (H : Hp) (Q : VK) (E : XK) (h : sp_Writer___init__ T vs H Q E) : vs.length = 2 := by
  obtain ⟨_, _, _, _, rfl, _⟩ := h
  rfl
def t_Writer___init__ (T : Txt K mg) : TS := (tSeq (sFld K (tVar 0) (tVar 1) "own_code")
    (tSeq (sFld K (tVar 0) (tMeth T.C_Code "begin" (sp_Code_begin T) [] E0 (tVar 1) tNil) "now")
    (tSeq (sFld K (tVar 0) (tC (.int 0)) "many")
    (sFld K (tVar 0) (tC (.bl false)) "is_closed"))))

theorem pure_Writer___init__ (T : Txt K mg) (vs : List V) (H : Hp) (Q : VK) (E : XK) (h : sp_Writer___init__ T vs H Q E) : t_Writer___init__ T { nx := fun _ H' => Q .non H', rt := Q } (start ["self", "code"] vs) H := by
  obtain ⟨w, a, dx, c, rfl, hw, hc, q⟩ := h
  unfold t_Writer___init__
  walk_at "rd"
  refine ⟨w, T.C_Writer, dx, [], rfl, hw, T.C_Writer_c, T.C_Writer_n_own_code, by decide, ?_⟩
  generalize hg1 : upd H w _ = H1
  have b1 : SameB w H H1 := sameB_of hg1
  have h1w : H1 w = some (.ins T.C_Writer dx [("own_code", .ref a)]) := at_of hg1
  have hc1 := hc.sameW b1 hw rfl
  clear hg1
  walk_at "rd"
  refine ⟨a, c, rfl, hc1, fun st H2 s2 nst hst => ?_⟩
  walk_at "rd"
  have h2w := s2 _ _ h1w
  refine ⟨w, T.C_Writer, dx, _, rfl, h2w, T.C_Writer_c, T.C_Writer_n_now, (by show 1 < 1000; decide), ?_⟩
  generalize hg3 : upd H2 w _ = H3
  have b3 : SameB w H2 H3 := sameB_of hg3
  have h3w : H3 w = some (.ins T.C_Writer dx [("own_code", .ref a), ("now", .ref st)]) := at_of hg3
  clear hg3
  walk_at "rd"
  refine ⟨w, T.C_Writer, dx, _, rfl, h3w, T.C_Writer_c, T.C_Writer_n_many, (by show 2 < 1000; decide), ?_⟩
  generalize hg4 : upd H3 w _ = H4
  have b4 : SameB w H3 H4 := sameB_of hg4
  have h4w : H4 w = some (.ins T.C_Writer dx [("own_code", .ref a), ("now", .ref st), ("many", .int 0)]) := at_of hg4
  clear hg4
  walk_at "rd"
  refine ⟨w, T.C_Writer, dx, _, rfl, h4w, T.C_Writer_c, T.C_Writer_n_is_closed, (by show 3 < 1000; decide), ?_⟩
  generalize hg5 : upd H4 w _ = H5
  have b5 : SameB w H4 H5 := sameB_of hg5
  have h5w : H5 w = some (.ins T.C_Writer dx [("own_code", .ref a), ("now", .ref st), ("many", .int 0), ("is_closed", .bl false)]) := at_of hg5
  clear hg5
  have nw : st ≠ w := (ne_of_none h1w nst).symm
  exact q H5 st (b1.trans ((toB s2).trans (b3.trans (b4.trans b5)))) ⟨dx, h5w⟩ (b5 _ _ nw (b4 _ _ nw (b3 _ _ nw hst))) (by
    cases z : H st with
    | none => rfl
    | some o => exact absurd (s2 _ _ (b1 _ _ nw z)) (fun e => by have := ne_of_none (b1 _ _ nw z) nst; exact this rfl))
theorem ok_Writer___init__ (T : Txt K mg) : FnOk P w K mg base CX0 2 T.Writer___init___a T.Writer___init___d ["self", "code"] (sp_Writer___init__ T) := by
  refine T.Writer___init___f.ok sc_Writer___init__ (fun vs H Q E h => len_Writer___init__ T vs H Q E h) (fun cdv A outer s H vs Q E hr h => ⟨t_Writer___init__ T, PSs.nox ?_, pure_Writer___init__ T vs H Q E h⟩)
  have hu := hu64 hr
  exact (pss_cons (ps_fld (pv 0) (pv 1) rfl)
      (pss_cons (ps_fld (pv 0) (pe_meth0 (pv 1) T.C_Code_c T.Code_begin_m (ok_Code_begin T) (hr.mono (by decide)) T.Code_begin_b .nil pass0) rfl)
      (pss_cons (ps_fld (pv 0) pe_int rfl)
      (pss_one (ps_fld (pv 0) pe_bl rfl)))))

def sp_Writer___call__ (T : Txt K mg) : Sp := fun vs H Q E => ∃ w a st n cl c, ∃ (s : Wst) (v : V), vs = [.ref w, v] ∧ WrAt T H w a st n cl ∧ CodeAt T H a c ∧ SAt H st s ∧ Wk c s ∧
  ((cl = true ∧ E (.ref T.X_Closed) none H) ∨ (cl = false ∧ ((∃ p, ∃ xs : List Int, v = .ref p ∧ SeqV H p (xs.map V.int) ∧ xs.length ≤ 600 ∧ Byts xs ∧
    ∀ H' st', SameB w H H' → WrAt T H' w a st' (n + xs.length) false → SAt H' st' (wgo c s xs) → (st' = st ∨ H st' = none) → Q (.str (tx (wgo c s xs).out.flatten)) H'))))
theorem len_Writer___call__ (T : Txt K mg) (vs : List V) (H : Hp) (Q : VK) (E : XK) (h : sp_Writer___call__ T vs H Q E) : vs.length = 2 := by
  obtain ⟨_, _, _, _, _, _, _, _, rfl, _⟩ := h
  rfl
def t_Writer___call__ (T : Txt K mg) (E : XK) : TS := (tSeq (tDrop (tMethS T.C_Writer "need_open" (sp_Writer_need_open T) (WE (fun cls d _ H => E cls d H)) (tVar 0) tNil))
    (tSeq (tAsg (tCall (sp_data_of T) [] E0 (tCons (tVar 1) tNil)) (gName 2))
    (tSeq (tAsg (tCall (sp_passed T) [] E0 (tCons (tFld K (tVar 0) "own_code") (tCons (tFld K (tVar 0) "now") (tCons (tVar 2) tNil)))) (gTup K 2 (gCons (gName 3) (gCons (gFld K (tVar 0) "now") gNil))))
    (tSeq (sFldAug K (tVar 0) (tCB (rLenU K) (tCons (tVar 2) tNil)) (rIaddU K) "many")
    (tRet (tVar 3))))))

theorem pure_Writer___call__ (T : Txt K mg) (vs : List V) (H : Hp) (Q : VK) (E : XK) (h : sp_Writer___call__ T vs H Q E) : t_Writer___call__ T E { nx := fun _ H' => Q .non H', rt := Q } (start ["self", "piece", "data", "part"] vs) H := by
  obtain ⟨w, a, st, n, cl, c, s, v, rfl, hW, hc, hst, hk, h⟩ := h
  have hW0 := hW
  obtain ⟨dx, hw⟩ := hW
  unfold t_Writer___call__
  walk_at "rd"
  refine r_methS rfl hw rfl ?_
  walk_at "rd"
  refine ⟨w, a, st, n, cl, rfl, hW0, ?_, ?_⟩
  · intro ecl
    subst ecl
    rcases h with ⟨z, _⟩ | ⟨_, h⟩
    · cases z
    walk_at "rd"
    obtain ⟨p, xs, rfl, hp, hl, hx, q⟩ := h
    · refine ⟨p, xs, rfl, hp, hl, hx, fun r H1 s1 nr hr => ?_⟩
      have hw1 := s1 _ _ hw
      walk_at "rd"
      refine r_fldI rfl hw1 T.C_Writer_c T.C_Writer_n_own_code rfl ?_
      walk_at "rd"
      refine r_fldI rfl hw1 T.C_Writer_c T.C_Writer_n_now rfl ?_
      walk_at "rd"
      refine ⟨a, c, st, r, s, xs, rfl, hc.same s1, s1 _ _ hst, hk, hr, hl, hx, fun t st' H2 s2 nt ht hst' hor => ?_⟩
      have hw2 := s2 _ _ hw1
      have hr2 := s2 _ _ hr
      walk_at "rd"
      refine r_gFld rfl hw2 T.C_Writer_c T.C_Writer_n_now (by show 4 < 1000; decide) ?_
      generalize hg3 : upd H2 w _ = H3
      have b3 : SameB w H2 H3 := sameB_of hg3
      have h3w : H3 w = some (.ins T.C_Writer dx [("own_code", .ref a), ("now", .ref st'), ("many", .int n), ("is_closed", .bl false)]) := at_of hg3
      clear hg3
      have hr3 : H3 r = some (.lst (xs.map V.int)) := b3 _ _ ((ne_of_none hw nr).symm) hr2
      walk_at "rd"
      refine ⟨_, rfl, w, T.C_Writer, dx, _, .int n, rfl, h3w, T.C_Writer_c, T.C_Writer_n_many, rfl, ?_⟩
      walk_at "rd"
      rw [List.length_map]
      refine ⟨dx, _, h3w, (by show 4 < 1000; decide), ?_⟩
      generalize hg4 : upd H3 w _ = H4
      have b4 : SameB w H3 H4 := sameB_of hg4
      have h4w : H4 w = some (.ins T.C_Writer dx [("own_code", .ref a), ("now", .ref st'), ("many", .int ((n : Int) + (xs.length : Nat))), ("is_closed", .bl false)]) := at_of hg4
      clear hg4
      walk_at "rd"
      have nw : st' ≠ w := hst'.nins hw2
      refine q H4 st' ((toB (s1.trans s2)).trans (b3.trans b4)) ⟨dx, ?_⟩ (b4 _ _ nw (b3 _ _ nw hst')) (hor.imp id fun z => s1.free z)
      rw [h4w, ← Int.natCast_add]
  · intro ecl
    rcases h with ⟨_, z⟩ | ⟨z, _⟩
    · exact z
    · rw [z] at ecl; cases ecl
theorem ok_Writer___call__ (T : Txt K mg) : FnOk P w K mg base (L2.CX P w) 7 T.Writer___call___a T.Writer___call___d ["self", "piece"] (sp_Writer___call__ T) := by
  refine T.Writer___call___f.ok sc_Writer___call__ (fun vs H Q E h => len_Writer___call__ T vs H Q E h) (fun cdv A outer s H vs Q E hr h => ⟨t_Writer___call__ T E, ?_, pure_Writer___call__ T vs H Q E h⟩)
  have hu := hu64 hr
  exact (pss_cons (ps_expr (pe_methS0 (pv 0) T.C_Writer_c T.Writer_need_open_m (ok_Writer_need_open T) (hr.mono (by decide)) T.Writer_need_open_b (fun σ => passAt (takes_of rfl rfl rfl rfl) σ)))
      (pss_cons (ps_set (i := 2) sc_Writer___call__.nd rfl (.inl rfl) (pe_call (ok_data_of T) (hr.mono (by decide)) (by rfl) T.data_of_g T.data_of_f.kp T.data_of_b .nil pass0 (pa_cons (pv 1) pa_nil)))
      (pss_cons (ps_asg (pe_call (ok_passed T) (hr.mono (by decide)) (by rfl) T.passed_g T.passed_f.kp T.passed_b .nil pass0 (pa_cons (pe_fld (pv 0) rfl) (pa_cons (pe_fld (pv 0) rfl) (pa_cons (pv 2) pa_nil)))) (pg_tup (by rfl) (pgs_cons (pg_name (i := 3) sc_Writer___call__.nd rfl (.inl rfl)) (pgs_cons (pg_fld (pv 0)) pgs_nil))))
      (pss_cons (ps_fldaug (pv 0) (pe_callB c_lenU (by rfl) T.n_len (by decide +kernel) (pa_cons (pv 2) pa_nil)) ip_addU)
      (pss_one (ps_ret (pv 3)))))))

def sp_Writer_state (T : Txt K mg) : Sp := fun vs H Q _ => ∃ w a st n cl, vs = [.ref w] ∧ WrAt T H w a st n cl ∧ Q (.ref st) H
theorem len_Writer_state (T : Txt K mg) (vs : List V) (H : Hp) (Q : VK) (E : XK) (h : sp_Writer_state T vs H Q E) : vs.length = 1 := by
  obtain ⟨_, _, _, _, _, rfl, _⟩ := h
  rfl
def t_Writer_state (T : Txt K mg) : TS := (tRet (tFld K (tVar 0) "now"))

theorem pure_Writer_state (T : Txt K mg) (vs : List V) (H : Hp) (Q : VK) (E : XK) (h : sp_Writer_state T vs H Q E) : t_Writer_state T { nx := fun _ H' => Q .non H', rt := Q } (start ["self"] vs) H := by
  obtain ⟨w, a, st, n, cl, rfl, ⟨dx, hw⟩, q⟩ := h
  unfold t_Writer_state
  walk_at "rd"
  exact r_fldI rfl hw T.C_Writer_c T.C_Writer_n_now rfl q
theorem ok_Writer_state (T : Txt K mg) : FnOk P w K mg base CX0 1 T.Writer_state_a T.Writer_state_d ["self"] (sp_Writer_state T) := by
  refine T.Writer_state_f.ok sc_Writer_state (fun vs H Q E h => len_Writer_state T vs H Q E h) (fun cdv A outer s H vs Q E hr h => ⟨t_Writer_state T, PSs.nox ?_, pure_Writer_state T vs H Q E h⟩)
  have hu := hu64 hr
  exact (pss_one (ps_ret (pe_fld (pv 0) rfl)))


end
section
variable {w : World} {K : PySem.W.Frag} {mg : Str → Option Value} {base : Heap}
local macro_rules | `(tactic| walk_at "hc") => `(tactic| first
  | assumption
  | ((refine CodeAt.same (H := ?xH) ?xb ?xa); (case xa => assumption); (case xb => walk_at "hc")))
local macro_rules | `(tactic| walk_at "rd0") => `(tactic| first
  | ((with_reducible refine r_get (a := ?xa) (c := ?xc) ?x1 ?x2 ?_); (case x1 => rfl); (case x2 => walk_at "hc"))
  | ((with_reducible refine r_methC (a := ?xa) (c := ?xc) ?x1 ?x2 ?x3 ?_); (case x1 => rfl); (case x2 => walk_at "hc"); (case x3 => (intro _ _ _; rfl)))
  | (with_reducible refine r_fmtB ?_)
  | (with_reducible refine r_dget ?_)
  | (with_reducible refine r_m0 ?_)
  | (with_reducible refine r_makeK ?_)
  | (with_reducible refine r_cval ?_)
  | (with_reducible refine r_sfld ?_)
  | (with_reducible refine r_isiI ?_)
  | (with_reducible refine r_isiIB ?_)
  | (with_reducible refine r_isiS ?_)
  | (with_reducible refine r_inID ?_))

/-! ### written -/
theorem r_star {te : TE} {t : TA} {σ : S} {H : Hp} {Q : List V → Hp → Prop} (h : te σ H fun x H1 => ∃ p xs, x = V.ref p ∧ (SqT K H1 p xs ∨ SqL K H1 p xs) ∧ t σ H1 fun ys H2 => Q (xs ++ ys) H2) : StX.tStar K te t σ H Q := h
theorem snocInd {α : Type} {P : List α → Prop} (h0 : P []) (h1 : ∀ l x, P l → P (l ++ [x])) : ∀ l, P l := by
  intro l
  rw [← List.reverse_reverse l]
  induction l.reverse with
  | nil => exact h0
  | cons x r ih => rw [List.reverse_cons]; exact h1 _ _ ih
def wpar (c : CodeD) (xss : List (List Int)) : List (List Nat) × Wst := xss.foldl (fun a xs => (a.1 ++ [(wgo c a.2 xs).out.flatten], wgo c a.2 xs)) ([], w0)
theorem wpar_snoc (c : CodeD) (xss : List (List Int)) (xs : List Int) : wpar c (xss ++ [xs]) = ((wpar c xss).1 ++ [(wgo c (wpar c xss).2 xs).out.flatten], wgo c (wpar c xss).2 xs) := by
  unfold wpar
  rw [List.foldl_append]
  rfl
theorem wgo_cut {c : CodeD} {s t : Wst} (e : cutW s = cutW t) (xs : List Int) : wgo c s xs = wgo c t xs := by
  unfold wgo
  rw [e]
theorem endT_cut {c : CodeD} {s t : Wst} (e : cutW s = cutW t) : endT c s = endT c t := by
  have e1 : s.b = t.b := (congrArg (fun z : Wst => z.b) e : (cutW s).b = (cutW t).b)
  have e2 : s.sn = t.sn := (congrArg (fun z : Wst => z.sn) e : (cutW s).sn = (cutW t).sn)
  have e3 : s.col = t.col := (congrArg (fun z : Wst => z.col) e : (cutW s).col = (cutW t).col)
  unfold endT
  rw [e1, e2, e3]
theorem text_end (c : CodeD) (xs : List Int) : textC c xs = (wrun c xs).out.flatten ++ endT c (wrun c xs) := rfl
/-- some pieces together -/
theorem wpar_flat (c : CodeD) : ∀ xss : List (List Int), cutW (wpar c xss).2 = cutW (wrun c xss.flatten) ∧ (wpar c xss).1.flatten = (wrun c xss.flatten).out.flatten ∧ (wpar c xss).1.length = xss.length := by
  refine snocInd ⟨rfl, rfl, rfl⟩ ?_
  intro l x ⟨h1, h2, h3⟩
  rw [wpar_snoc, List.flatten_append, List.flatten_cons, List.flatten_nil, List.append_nil, wrun_go, wgo_app, ← wrun_go, wgo_cut h1]
  refine ⟨rfl, ?_, by rw [List.length_append, List.length_append, h3]; rfl⟩
  rw [List.flatten_append, h2]
  show _ = ((wrun c l.flatten).out ++ (wgo c (wrun c l.flatten) x).out).flatten
  rw [List.flatten_append]
  simp
theorem wpar_ok {c : CodeD} (ok : c.Ok) (xss : List (List Int)) : Wk c (wpar c xss).2 := by
  unfold Wk
  rw [(wpar_flat c xss).1]
  exact ((wk0 ok).go ok xss.flatten).wk
structure PieAt (H : Hp) (as : List Addr) (xss : List (List Int)) : Prop where
  ln : as.length = xss.length
  at_ : ∀ (i : Nat) a xs, as[i]? = some a → xss[i]? = some xs → SeqV H a (xs.map V.int)
  ok : ∀ xs ∈ xss, xs.length ≤ 600 ∧ Byts xs

end
section
variable {w : World} {K : PySem.W.Frag} {mg : Str → Option Value} {base : Heap}
local macro_rules | `(tactic| walk_at "hc") => `(tactic| first
  | assumption
  | ((refine CodeAt.same (H := ?xH) ?xb ?xa); (case xa => assumption); (case xb => walk_at "hc")))
local macro_rules | `(tactic| walk_at "rd0") => `(tactic| first
  | ((with_reducible refine r_get (a := ?xa) (c := ?xc) ?x1 ?x2 ?_); (case x1 => rfl); (case x2 => walk_at "hc"))
  | ((with_reducible refine r_methC (a := ?xa) (c := ?xc) ?x1 ?x2 ?x3 ?_); (case x1 => rfl); (case x2 => walk_at "hc"); (case x3 => (intro _ _ _; rfl)))
  | (with_reducible refine r_fmtB ?_)
  | (with_reducible refine r_dget ?_)
  | (with_reducible refine r_m0 ?_)
  | (with_reducible refine r_makeK ?_)
  | (with_reducible refine r_cval ?_)
  | (with_reducible refine r_sfld ?_)
  | (with_reducible refine r_isiI ?_)
  | (with_reducible refine r_isiIB ?_)
  | (with_reducible refine r_isiS ?_)
  | (with_reducible refine r_inID ?_))

/-! ### the text as the law builds it: plain law -/
def chk {α : Type} (k : Nat) (l : List α) : List (List α) := (List.range ((l.length + k - 1) / k)).map fun i => (l.drop (i * k)).take k
theorem chk_nil {α : Type} {k : Nat} (h : 0 < k) : chk k ([] : List α) = [] := by
  unfold chk
  rw [List.length_nil, show (0 + k - 1) / k = 0 from Nat.div_eq_of_lt (by omega)]
  rfl
theorem chk_cons {α : Type} {k : Nat} (h : 0 < k) {l : List α} (hl : l ≠ []) : chk k l = l.take k :: chk k (l.drop k) := by
  have h1 : 1 ≤ l.length := Nat.pos_of_ne_zero fun z => hl (List.eq_nil_of_length_eq_zero z)
  have e1 : (l.length + k - 1) / k = (l.length - 1) / k + 1 := by
    rw [show l.length + k - 1 = (l.length - 1) + k by omega, Nat.add_div_right _ h]
  have e2 : ((l.drop k).length + k - 1) / k = (l.length - 1) / k := by
    rw [List.length_drop]
    by_cases e : k ≤ l.length
    · rw [show l.length - k + k - 1 = l.length - 1 by omega]
    · rw [show l.length - k + k - 1 = k - 1 by omega, Nat.div_eq_of_lt (show k - 1 < k by omega), Nat.div_eq_of_lt (show l.length - 1 < k by omega)]
  unfold chk
  rw [e1, e2, List.range_succ_eq_map, List.map_cons, List.map_map, Nat.zero_mul, List.drop_zero]
  congr 1
  refine List.map_congr_left fun i _ => ?_
  show (l.drop ((i + 1) * k)).take k = ((l.drop k).drop (i * k)).take k
  rw [List.drop_drop, Nat.add_mul, Nat.one_mul, Nat.add_comm k]
def bitL (n : Nat) : List Nat := [n / 128 % 2, n / 64 % 2, n / 32 % 2, n / 16 % 2, n / 8 % 2, n / 4 % 2, n / 2 % 2, n % 2]
def bitsL (xs : List Int) : List Nat := xs.flatMap fun x => bitL x.toNat
def b48 (l : List Nat) : List Nat := l.map (48 + ·)
theorem b48_app (a b : List Nat) : b48 (a ++ b) = b48 a ++ b48 b := List.map_append
theorem b48_take (a : List Nat) (k : Nat) : b48 (a.take k) = (b48 a).take k := by unfold b48; rw [List.map_take]
theorem b48_drop (a : List Nat) (k : Nat) : b48 (a.drop k) = (b48 a).drop k := by unfold b48; rw [List.map_drop]
theorem b48_bit (n : Nat) : b48 (bitL n) = b8 n := rfl
def numL (l : List Nat) : Nat := l.foldl (fun t b => 2 * t + b) 0
theorem num_bin (l : List Nat) : Bn.binNum (b48 l) = numL l := by
  have h : ∀ (l : List Nat) (a : Nat), (b48 l).foldl (fun a c => a * 2 + (c - 48)) a = l.foldl (fun t b => 2 * t + b) a := by
    intro l
    induction l with
    | nil => intro a; rfl
    | cons x l ih =>
      intro a
      show (b48 l).foldl _ (a * 2 + (48 + x - 48)) = l.foldl _ (2 * a + x)
      rw [ih, show a * 2 + (48 + x - 48) = 2 * a + x by omega]
  exact h l 0
theorem em_chk {c : CodeD} (h1 : 1 ≤ c.sb) : ∀ (n : Nat) (l : List Nat), l.length = c.sb * n → em c (b48 l) = (chk c.sb l).map fun ch => sgnOf c (numL ch)
  | 0, l, h => by
    rw [Nat.mul_zero] at h
    cases List.eq_nil_of_length_eq_zero h
    rw [chk_nil h1, em_off (by show ¬ c.sb ≤ 0; omega)]
    rfl
  | n + 1, l, h => by
    rw [Nat.mul_add, Nat.mul_one] at h
    have hl : l ≠ [] := fun z => by rw [z] at h; simp at h; omega
    have hs : c.sb ≤ (b48 l).length := by unfold b48; rw [List.length_map]; omega
    rw [chk_cons h1 hl, em_on h1 hs, List.map_cons, ← b48_take, num_bin, ← b48_drop, em_chk h1 n (l.drop c.sb) (by rw [List.length_drop]; omega)]
theorem em_app {c : CodeD} (h1 : 1 ≤ c.sb) : ∀ (n : Nat) (u v : List Nat), u.length ≤ n → em c (u ++ v) = em c u ++ em c (rs c u ++ v) ∧ rs c (u ++ v) = rs c (rs c u ++ v)
  | n, u, v, h => by
    by_cases e : c.sb ≤ u.length
    · match n, h with
      | 0, h => omega
      | n + 1, h =>
        have ih := em_app h1 n (u.drop c.sb) v (by rw [List.length_drop]; omega)
        have e2 : c.sb ≤ (u ++ v).length := by rw [List.length_append]; omega
        have et : (u ++ v).take c.sb = u.take c.sb := List.take_append_of_le_length e
        have ed : (u ++ v).drop c.sb = u.drop c.sb ++ v := List.drop_append_of_le_length e
        rw [em_on h1 e2, em_on h1 e, rs_on h1 e2, rs_on h1 e, et, ed, ih.1, ih.2]
        exact ⟨rfl, rfl⟩
    · rw [em_off e, rs_off e]
      exact ⟨rfl, rfl⟩
theorem em_length {c : CodeD} (h1 : 1 ≤ c.sb) : ∀ (n : Nat) (u : List Nat), u.length ≤ n → (em c u).length = u.length / c.sb ∧ (rs c u).length = u.length % c.sb
  | n, u, h => by
    by_cases e : c.sb ≤ u.length
    · match n, h with
      | 0, h => omega
      | n + 1, h =>
        have ih := em_length h1 n (u.drop c.sb) (by rw [List.length_drop]; omega)
        rw [List.length_drop] at ih
        rw [em_on h1 e, rs_on h1 e, List.length_cons, ih.1, ih.2]
        refine ⟨?_, (Nat.mod_eq_sub_mod e).symm⟩
        rw [Nat.div_eq_sub_div h1 e]
    · rw [em_off e, rs_off e, Nat.div_eq_of_lt (by omega), Nat.mod_eq_of_lt (by omega)]
      exact ⟨rfl, rfl⟩
theorem snN_mod {g : Nat} : ∀ (n s : Nat), s < g → snN g s n = (s + n) % g
  | 0, s, h => (Nat.mod_eq_of_lt h).symm
  | n + 1, s, h => by
    show snN g ((s + 1) % g) n = _
    rw [snN_mod n _ (Nat.mod_lt _ (by omega)), Nat.mod_add_mod, show s + 1 + n = s + (n + 1) by omega]
theorem prun_all {c : CodeD} (ok : c.Ok) (xs : List Int) : (prun c xs).p = em c (b48 (bitsL xs)) ∧ (prun c xs).b = rs c (b48 (bitsL xs)) ∧ (prun c xs).sn = ((bitsL xs).length / c.sb) % grp c.sb := by
  have h1 := ok.b1
  have gp := grp_pos ok.b1 ok.b6
  have go : ∀ (xs : List Int) (s : Pst) (B : List Nat), s.p = em c (b48 B) → s.b = rs c (b48 B) → s.sn = (B.length / c.sb) % grp c.sb →
      (xs.foldl (pstep c) s).p = em c (b48 (B ++ bitsL xs)) ∧ (xs.foldl (pstep c) s).b = rs c (b48 (B ++ bitsL xs)) ∧ (xs.foldl (pstep c) s).sn = ((B ++ bitsL xs).length / c.sb) % grp c.sb := by
    intro xs
    induction xs with
    | nil =>
      intro s B e1 e2 e3
      show s.p = em c (b48 (B ++ [])) ∧ s.b = rs c (b48 (B ++ [])) ∧ s.sn = ((B ++ []).length / c.sb) % grp c.sb
      rw [List.append_nil]
      exact ⟨e1, e2, e3⟩
    | cons x t ih =>
      intro s B e1 e2 e3
      have ea := em_app h1 _ (b48 B) (b8 x.toNat) (Nat.le_refl _)
      have el := em_length h1 _ (b48 B) (Nat.le_refl _)
      have el2 := em_length h1 _ (b48 (B ++ bitL x.toNat)) (Nat.le_refl _)
      have lb : ∀ l : List Nat, (b48 l).length = l.length := fun l => List.length_map _
      have := ih (pstep c s x) (B ++ bitL x.toNat) (by
          show s.p ++ em c (s.b ++ b8 x.toNat) = _
          rw [e1, e2, b48_app, b48_bit, ea.1]) (by
          show rs c (s.b ++ b8 x.toNat) = _
          rw [e2, b48_app, b48_bit, ea.2]) (by
          show snN (grp c.sb) s.sn (em c (s.b ++ b8 x.toNat)).length = _
          rw [snN_mod _ _ (by rw [e3]; exact Nat.mod_lt _ gp), e3, Nat.mod_add_mod]
          congr 1
          rw [e2]
          rw [b48_app, b48_bit, ea.1, List.length_append, el.1, lb, ← b48_bit, ← b48_app, lb] at el2
          exact el2.1)
      rw [List.foldl_cons]
      rw [List.append_assoc] at this
      exact this
  have := go xs ⟨[], [], 0⟩ [] (by show ([] : List Nat) = em c []; rw [em_off (by show ¬ c.sb ≤ 0; omega)]) (by show ([] : List Nat) = rs c []; rw [rs_off (by show ¬ c.sb ≤ 0; omega)]) (by show 0 = (0 / c.sb) % grp c.sb; rw [Nat.zero_div, Nat.zero_mod])
  rw [List.nil_append] at this
  exact this
/-- how many bits 0 stand behind -/
def zf (c : CodeD) (L : Nat) : Nat := ((0 - (L : Int)).fmod (c.sb : Int)).toNat
def digsL (c : CodeD) (xs : List Int) : List Nat := (chk c.sb (bitsL xs ++ List.replicate (zf c (bitsL xs).length) 0)).map numL
def padN (c : CodeD) (R : Nat) : Nat := if c.pd.cps.toList = [] then 0 else ((0 - (R : Int)).fmod (grp c.sb : Int)).toNat
def rowL (c : CodeD) (xs : List Int) : List Nat := (digsL c xs).map (sgnOf c) ++ List.replicate (padN c (digsL c xs).length) (c.pd.cps.toList.getD 0 0)
theorem bits_len : ∀ xs : List Int, (bitsL xs).length = 8 * xs.length
  | [] => rfl
  | x :: xs => by
    have := bits_len xs
    show (bitL x.toNat ++ bitsL xs).length = _
    rw [List.length_append, this, List.length_cons]
    show 8 + _ = _
    omega
theorem zf_spec {c : CodeD} (h1 : 1 ≤ c.sb) (h6 : c.sb ≤ 6) (L : Nat) : zf c L = (c.sb - L % c.sb) % c.sb := by
  unfold zf
  have e : c.sb = 1 ∨ c.sb = 2 ∨ c.sb = 3 ∨ c.sb = 4 ∨ c.sb = 5 ∨ c.sb = 6 := by omega
  rw [Int.fmod_eq_emod_of_nonneg _ (by omega)]
  rcases e with e | e | e | e | e | e <;> rw [e] <;> omega
theorem row_plain {c : CodeD} (ok : c.Ok) (xs : List Int) : rowL c xs = plain c xs := by
  have h1 := ok.b1
  have h6 := ok.b6
  obtain ⟨p1, p2, p3⟩ := prun_all ok xs
  have bl := bits_len xs
  have lb : ∀ l : List Nat, (b48 l).length = l.length := fun l => List.length_map _
  have el := em_length h1 _ (b48 (bitsL xs)) (Nat.le_refl _)
  rw [lb] at el
  have zs := zf_spec h1 h6 (bitsL xs).length
  generalize hB : bitsL xs = B at *
  have mul : (B ++ List.replicate (zf c B.length) 0).length = c.sb * ((B.length + (c.sb - 1)) / c.sb) := by
    rw [List.length_append, List.length_replicate, zs]
    have e : c.sb = 1 ∨ c.sb = 2 ∨ c.sb = 3 ∨ c.sb = 4 ∨ c.sb = 5 ∨ c.sb = 6 := by omega
    rcases e with e | e | e | e | e | e <;> rw [e] <;> omega
  have ee := em_chk h1 _ _ mul
  have dg : (digsL c xs).map (sgnOf c) = em c (b48 B ++ List.replicate (zf c B.length) 48) := by
    unfold digsL
    rw [hB, List.map_map]
    have e0 : b48 (B ++ List.replicate (zf c B.length) 0) = b48 B ++ List.replicate (zf c B.length) 48 := by
      rw [b48_app]
      congr 1
      unfold b48
      rw [List.map_replicate]
    rw [← e0, ee]
    rfl
  have ea := (em_app h1 _ (b48 B) (List.replicate (zf c B.length) 48) (Nat.le_refl _)).1
  have dl : (digsL c xs).length = ((digsL c xs).map (sgnOf c)).length := (List.length_map _).symm
  unfold rowL plain
  rw [dl, dg, ea, p1, p2, p3]
  by_cases hz : B.length % c.sb = 0
  · have r0 : rs c (b48 B) = [] := List.eq_nil_of_length_eq_zero (by rw [el.2]; exact hz)
    have z0 : zf c B.length = 0 := by rw [zs, hz, Nat.sub_zero, Nat.mod_self]
    have e0 : em c [] = [] := em_off (by show ¬ c.sb ≤ 0; omega)
    rw [r0, z0]
    simp only [List.replicate_zero, List.append_nil, e0]
    unfold endS
    rw [if_pos rfl]
    have : padN c (em c (b48 B)).length = 0 := by
      unfold padN
      split
      · rfl
      · rw [el.1, bl] at *
        rw [Int.fmod_eq_emod_of_nonneg _ (by omega)]
        have e : c.sb = 1 ∨ c.sb = 2 ∨ c.sb = 3 ∨ c.sb = 4 ∨ c.sb = 5 ∨ c.sb = 6 := by omega
        rcases e with e | e | e | e | e | e <;> rw [e] at hz ⊢
        · show ((0 - (_ : Int)) % ((8 : Nat) : Int)).toNat = 0; omega
        · show ((0 - (_ : Int)) % ((4 : Nat) : Int)).toNat = 0; omega
        · show ((0 - (_ : Int)) % ((8 : Nat) : Int)).toNat = 0; omega
        · show ((0 - (_ : Int)) % ((2 : Nat) : Int)).toNat = 0; omega
        · show ((0 - (_ : Int)) % ((8 : Nat) : Int)).toNat = 0; omega
        · show ((0 - (_ : Int)) % ((4 : Nat) : Int)).toNat = 0; omega
    rw [this]
    rfl
  · have rl : (rs c (b48 B)).length = B.length % c.sb := el.2
    have rlt : B.length % c.sb < c.sb := Nat.mod_lt _ h1
    have zr : zf c B.length = c.sb - (rs c (b48 B)).length := by
      rw [zs, rl]
      exact Nat.mod_eq_of_lt (by omega)
    have rne : rs c (b48 B) ≠ [] := fun z => hz (by rw [← rl, z]; rfl)
    have tl : (rs c (b48 B) ++ List.replicate (zf c B.length) 48).length = c.sb := by rw [List.length_append, List.length_replicate, zr]; omega
    have em1 : em c (rs c (b48 B) ++ List.replicate (zf c B.length) 48) = [lastS c (rs c (b48 B))] := by
      rw [em_on h1 (by omega), List.take_of_length_le (by omega), List.drop_of_length_le (by omega), em_off (by show ¬ c.sb ≤ 0; omega)]
      unfold lastS
      rw [zr]
    have key : padN c (em c (b48 B) ++ [lastS c (rs c (b48 B))]).length = miss c (B.length / c.sb % grp c.sb) := by
      unfold padN miss
      split
      · rfl
      · rw [List.length_append, el.1, bl] at *
        rw [Int.fmod_eq_emod_of_nonneg _ (by omega)]
        have e : c.sb = 1 ∨ c.sb = 2 ∨ c.sb = 3 ∨ c.sb = 4 ∨ c.sb = 5 ∨ c.sb = 6 := by omega
        simp only [List.length_cons, List.length_nil]
        rcases e with e | e | e | e | e | e <;> rw [e] at hz ⊢
        · omega
        · omega
        · show ((0 - ((8 * xs.length / 3 + (0 + 1) : Nat) : Int)) % ((8 : Nat) : Int)).toNat = 8 - 1 - 8 * xs.length / 3 % 8; omega
        · omega
        · show ((0 - ((8 * xs.length / 5 + (0 + 1) : Nat) : Int)) % ((8 : Nat) : Int)).toNat = 8 - 1 - 8 * xs.length / 5 % 8; omega
        · show ((0 - ((8 * xs.length / 6 + (0 + 1) : Nat) : Int)) % ((4 : Nat) : Int)).toNat = 4 - 1 - 8 * xs.length / 6 % 4; omega
    rw [em1, key, List.append_assoc]
    unfold endS
    rw [if_neg rne]
    rfl
theorem plcs_fill {c : CodeD} (hw : 0 < c.wd) : ∀ (l : List Nat) (col : Nat), col + l.length ≤ c.wd → plcs c col l = (l, col + l.length)
  | [], col, _ => rfl
  | s :: r, col, h => by
    rw [List.length_cons] at h
    have hf : c.full col = false := by
      unfold CodeD.full
      rw [decide_eq_false (show ¬ col = c.wd by omega), Bool.and_false]
    have e : c.plc col s = ([s], col + 1) := by
      unfold CodeD.plc CodeD.nxt
      rw [hf, if_neg Bool.false_ne_true, if_pos hw]
    simp only [plcs, e, plcs_fill hw r (col + 1) (by omega), List.length_cons]
    rw [show col + 1 + r.length = col + (r.length + 1) by omega]
    rfl
theorem plcs_chk {c : CodeD} (hw : 0 < c.wd) : ∀ (n : Nat) (l : List Nat), l.length ≤ n → (plcs c 0 l).1 = KR.jn (chk c.wd l)
  | n, l, h => by
    by_cases hl : l = []
    · rw [hl, chk_nil hw]
      rfl
    · match n, h with
      | 0, h => exact absurd (List.eq_nil_of_length_eq_zero (by omega)) hl
      | n + 1, h =>
        rw [chk_cons hw hl]
        by_cases e : l.length ≤ c.wd
        · rw [List.drop_of_length_le e, List.take_of_length_le e, chk_nil hw, plcs_fill hw l 0 (by omega)]
          rfl
        · have dne : l.drop c.wd ≠ [] := fun z => by
            have := congrArg List.length z
            rw [List.length_drop, List.length_nil] at this
            omega
          have tl : (l.take c.wd).length = c.wd := by rw [List.length_take]; omega
          have cne : chk c.wd (l.drop c.wd) ≠ [] := by rw [chk_cons hw dne]; exact List.cons_ne_nil _ _
          have hf : c.full c.wd = true := by
            unfold CodeD.full
            rw [decide_eq_true hw, decide_eq_true rfl]
            rfl
          rw [KR.jn_cons cne, ← plcs_chk hw n (l.drop c.wd) (by rw [List.length_drop]; omega)]
          have ed : (plcs c 0 l).1 = (plcs c 0 (l.take c.wd ++ l.drop c.wd)).1 := by rw [List.take_append_drop]
          rw [ed, plcs_app, plcs_fill hw (l.take c.wd) 0 (by omega), tl, Nat.zero_add, plcs_full hf dne]
/-- the text in rows -/
def rowsL (c : CodeD) (l : List Nat) : List Nat := if c.wd = 0 then l else KR.jn (chk c.wd l)
theorem text_law {c : CodeD} (ok : c.Ok) (xs : List Int) : rowsL c (rowL c xs) = textC c xs := by
  rw [text_plain ok, row_plain ok]
  unfold rowsL
  split
  · rename_i h
    rw [plcs_zero h]
  · rename_i h
    rw [plcs_chk (Nat.pos_of_ne_zero h) _ _ (Nat.le_refl _)]

end
section
variable {w : World} {K : PySem.W.Frag} {mg : Str → Option Value} {base : Heap}
local macro_rules | `(tactic| walk_at "hc") => `(tactic| first
  | assumption
  | ((refine CodeAt.same (H := ?xH) ?xb ?xa); (case xa => assumption); (case xb => walk_at "hc")))
local macro_rules | `(tactic| walk_at "rd0") => `(tactic| first
  | ((with_reducible refine r_get (a := ?xa) (c := ?xc) ?x1 ?x2 ?_); (case x1 => rfl); (case x2 => walk_at "hc"))
  | ((with_reducible refine r_methC (a := ?xa) (c := ?xc) ?x1 ?x2 ?x3 ?_); (case x1 => rfl); (case x2 => walk_at "hc"); (case x3 => (intro _ _ _; rfl)))
  | (with_reducible refine r_fmtB ?_)
  | (with_reducible refine r_dget ?_)
  | (with_reducible refine r_m0 ?_)
  | (with_reducible refine r_makeK ?_)
  | (with_reducible refine r_cval ?_)
  | (with_reducible refine r_sfld ?_)
  | (with_reducible refine r_isiI ?_)
  | (with_reducible refine r_isiIB ?_)
  | (with_reducible refine r_isiS ?_)
  | (with_reducible refine r_inID ?_))

/-! ### what the law reckons itself -/
def sizeKvs : List (Key × V) := [(.inl 2, .int 1), (.inl 4, .int 2), (.inl 8, .int 3), (.inl 16, .int 4), (.inl 32, .int 5), (.inl 64, .int 6)]
theorem size_at {m : Nat} (h1 : 1 ≤ m) (h6 : m ≤ 6) : valV (mergeK [] sizeKvs) (.inl ((2 ^ m : Nat) : Int)) = some (V.int (m : Nat)) := by
  have e : m = 1 ∨ m = 2 ∨ m = 3 ∨ m = 4 ∨ m = 5 ∨ m = 6 := by omega
  rcases e with rfl | rfl | rfl | rfl | rfl | rfl <;> decide
def sp_l_size (T : Txt K mg) : Sp := fun vs H Q _ => ∃ (p : Addr) (z d : Str) (w m : Nat), vs = [.ref p] ∧ H p = some (.tup [.str z, .str d, .int w]) ∧ z.length = 2 ^ m ∧ 1 ≤ m ∧ m ≤ 6 ∧ ∀ H', Same H H' → Q (.int (m : Nat)) H'
theorem len_l_size (T : Txt K mg) (vs : List V) (H : Hp) (Q : VK) (E : XK) (h : sp_l_size T vs H Q E) : vs.length = 1 := by
  obtain ⟨_, _, _, _, _, rfl, _⟩ := h
  rfl
def t_l_size (T : Txt K mg) : TS := (tRet (tDGet (tDisp [((tC (.int 2)), (tC (.int 1))), ((tC (.int 4)), (tC (.int 2))), ((tC (.int 8)), (tC (.int 3))), ((tC (.int 16)), (tC (.int 4))), ((tC (.int 32)), (tC (.int 5))), ((tC (.int 64)), (tC (.int 6)))]) (tCB (rLenU K) (tCons (tOp (rIx K) (tVar 0) (tC (.int 0))) tNil))))

theorem pure_l_size (T : Txt K mg) (vs : List V) (H : Hp) (Q : VK) (E : XK) (h : sp_l_size T vs H Q E) : t_l_size T { nx := fun _ H' => Q .non H', rt := Q } (start ["_law_code_here"] vs) H := by
  obtain ⟨p, z, d, w, m, rfl, hp, hz, h1, h6, q⟩ := h
  unfold t_l_size
  walk_at "rd"
  intro D nD
  refine ⟨upd_same, sizeKvs, rfl, by decide, ?_⟩
  generalize hg : upd (upd H D _) D _ = Hn
  have hD : Hn D = some (.dK (mergeK [] sizeKvs)) := at_of hg
  have hs : Same H Hn := by rw [← hg]; exact same_mut (same_new nD) nD
  clear hg
  have hp1 := hs _ _ hp
  walk_at "rd"
  refine r_lenUS (smallS (by rw [hz]; exact Nat.le_trans (Nat.pow_le_pow_right (by decide) h6) (by decide))) ?_
  rw [hz]
  refine ⟨D, .int (m : Nat), rfl, ?_, q Hn hs⟩
  have := DGet.k (k := .inl ((2 ^ m : Nat) : Int)) hD
  rw [size_at h1 h6] at this
  exact this
theorem ok_l_size (T : Txt K mg) : FnOk P w K mg base CX0 1 T.l_size_a T.l_size_d ["_law_code_here"] (sp_l_size T) := by
  refine T.l_size_f.ok sc_l_size (fun vs H Q E h => len_l_size T vs H Q E h) (fun cdv A outer s H vs Q E hr h => ⟨t_l_size T, PSs.nox ?_, pure_l_size T vs H Q E h⟩)
  have hu := hu64 hr
  exact (pss_one (ps_ret (pe_dget (hu_of hr) (pe_disp (pps_cons pe_int pe_int (pps_cons pe_int pe_int (pps_cons pe_int pe_int (pps_cons pe_int pe_int (pps_cons pe_int pe_int (pps_cons pe_int pe_int pps_nil)))))) (by rfl) (by rfl) (fun h => nomatch h) (by decide)) (pe_callB c_lenU (by rfl) T.n_len (by decide +kernel) (pa_cons (pe_ix ix_seq (pv 0) pe_int (fun _ _ => rfl)) pa_nil)) (fun _ _ => rfl))))

def grpKvs : List (Key × V) := [(.inl 2, .int 8), (.inl 4, .int 4), (.inl 8, .int 8), (.inl 16, .int 2), (.inl 32, .int 8), (.inl 64, .int 4)]
theorem grp_at2 {m : Nat} (h1 : 1 ≤ m) (h6 : m ≤ 6) : valV (mergeK [] grpKvs) (.inl ((2 ^ m : Nat) : Int)) = some (V.int (grp m : Nat)) := by
  have e : m = 1 ∨ m = 2 ∨ m = 3 ∨ m = 4 ∨ m = 5 ∨ m = 6 := by omega
  rcases e with rfl | rfl | rfl | rfl | rfl | rfl <;> decide
def sp_l_group (T : Txt K mg) : Sp := fun vs H Q _ => ∃ (p : Addr) (z d : Str) (w m : Nat), vs = [.ref p] ∧ H p = some (.tup [.str z, .str d, .int w]) ∧ z.length = 2 ^ m ∧ 1 ≤ m ∧ m ≤ 6 ∧ ∀ H', Same H H' → Q (.int (grp m : Nat)) H'
theorem len_l_group (T : Txt K mg) (vs : List V) (H : Hp) (Q : VK) (E : XK) (h : sp_l_group T vs H Q E) : vs.length = 1 := by
  obtain ⟨_, _, _, _, _, rfl, _⟩ := h
  rfl
def t_l_group (T : Txt K mg) : TS := (tRet (tDGet (tDisp [((tC (.int 2)), (tC (.int 8))), ((tC (.int 4)), (tC (.int 4))), ((tC (.int 8)), (tC (.int 8))), ((tC (.int 16)), (tC (.int 2))), ((tC (.int 32)), (tC (.int 8))), ((tC (.int 64)), (tC (.int 4)))]) (tCB (rLenU K) (tCons (tOp (rIx K) (tVar 0) (tC (.int 0))) tNil))))

theorem pure_l_group (T : Txt K mg) (vs : List V) (H : Hp) (Q : VK) (E : XK) (h : sp_l_group T vs H Q E) : t_l_group T { nx := fun _ H' => Q .non H', rt := Q } (start ["_law_code_here"] vs) H := by
  obtain ⟨p, z, d, w, m, rfl, hp, hz, h1, h6, q⟩ := h
  unfold t_l_group
  walk_at "rd"
  intro D nD
  refine ⟨upd_same, grpKvs, rfl, by decide, ?_⟩
  generalize hg : upd (upd H D _) D _ = Hn
  have hD : Hn D = some (.dK (mergeK [] grpKvs)) := at_of hg
  have hs : Same H Hn := by rw [← hg]; exact same_mut (same_new nD) nD
  clear hg
  have hp1 := hs _ _ hp
  walk_at "rd"
  refine r_lenUS (smallS (by rw [hz]; exact Nat.le_trans (Nat.pow_le_pow_right (by decide) h6) (by decide))) ?_
  rw [hz]
  refine ⟨D, .int (grp m : Nat), rfl, ?_, q Hn hs⟩
  have := DGet.k (k := .inl ((2 ^ m : Nat) : Int)) hD
  rw [grp_at2 h1 h6] at this
  exact this
theorem ok_l_group (T : Txt K mg) : FnOk P w K mg base CX0 1 T.l_group_a T.l_group_d ["_law_code_here"] (sp_l_group T) := by
  refine T.l_group_f.ok sc_l_group (fun vs H Q E h => len_l_group T vs H Q E h) (fun cdv A outer s H vs Q E hr h => ⟨t_l_group T, PSs.nox ?_, pure_l_group T vs H Q E h⟩)
  have hu := hu64 hr
  exact (pss_one (ps_ret (pe_dget (hu_of hr) (pe_disp (pps_cons pe_int pe_int (pps_cons pe_int pe_int (pps_cons pe_int pe_int (pps_cons pe_int pe_int (pps_cons pe_int pe_int (pps_cons pe_int pe_int pps_nil)))))) (by rfl) (by rfl) (fun h => nomatch h) (by decide)) (pe_callB c_lenU (by rfl) T.n_len (by decide +kernel) (pa_cons (pe_ix ix_seq (pv 0) pe_int (fun _ _ => rfl)) pa_nil)) (fun _ _ => rfl))))

def TupC (H : Hp) (p : Addr) (c : CodeD) : Prop := H p = some (.tup [.str c.sg, .str c.pd, .int c.wd])
def sp_l_made (T : Txt K mg) : Sp := fun vs H Q _ => ∃ p c, vs = [.ref p] ∧ TupC H p c ∧ c.New ∧ ∀ a H', Same H H' → H a = none → CodeAt T H' a c → Q (.ref a) H'
theorem len_l_made (T : Txt K mg) (vs : List V) (H : Hp) (Q : VK) (E : XK) (h : sp_l_made T vs H Q E) : vs.length = 1 := by
  obtain ⟨_, _, rfl, _⟩ := h
  rfl
def t_l_made (T : Txt K mg) : TS := (tRet (tMakeK T.C_Code 1 (["pad", "width"] : List Str).length (sp_Code___init__ T) (fun vs zs => vs ++ zs) E0 (tCons (tOp (rIx K) (tVar 0) (tC (.int 0))) tNil) (tCons (tOp (rIx K) (tVar 0) (tC (.int 1))) (tCons (tOp (rIx K) (tVar 0) (tC (.int 2))) tNil))))

theorem pure_l_made (T : Txt K mg) (vs : List V) (H : Hp) (Q : VK) (E : XK) (h : sp_l_made T vs H Q E) : t_l_made T { nx := fun _ H' => Q .non H', rt := Q } (start ["_law_code_here"] vs) H := by
  obtain ⟨p, c, rfl, hp, ok, q⟩ := h
  unfold TupC at hp
  unfold t_l_made
  walk_at "rd"
  refine ⟨rfl, rfl, fun x dx nx ndx nex => ?_⟩
  refine ⟨x, dx, c, rfl, upd_same, ok, fun H1 b1 c1 => ⟨rfl, ?_⟩⟩
  exact q x H1 (same_mutB nx (same_mut (same_new ndx) nx) b1) nx c1
theorem ok_l_made (T : Txt K mg) : FnOk P w K mg base CX0 5 T.l_made_a T.l_made_d ["_law_code_here"] (sp_l_made T) := by
  refine T.l_made_f.ok sc_l_made (fun vs H Q E h => len_l_made T vs H Q E h) (fun cdv A outer s H vs Q E hr h => ⟨t_l_made T, PSs.nox ?_, pure_l_made T vs H Q E h⟩)
  have hu := hu64 hr
  exact (pss_one (ps_ret (pe_makeK T.C_Code_m (ok_Code___init__ T) (hr.mono (by decide)) (by rfl) T.C_Code_g T.Code___init___k1_pad_width.choose_spec pass0 (pa_cons (pe_ix ix_seq (pv 0) pe_int (fun _ _ => rfl)) pa_nil) (pk_cons (pe_ix ix_seq (pv 0) pe_int (fun _ _ => rfl)) (pk_cons (pe_ix ix_seq (pv 0) pe_int (fun _ _ => rfl)) pk_nil)))))


theorem bw (n w : Nat) : ((n : Int).fdiv (w : Int)).fmod 2 = ((n / w % 2 : Nat) : Int) := by
  rw [Int.fdiv_eq_ediv_of_nonneg _ (by omega), Int.fmod_eq_emod_of_nonneg _ (by decide), Int.natCast_emod, Int.natCast_ediv]
  rfl
def ws8 : List Nat := [128, 64, 32, 16, 8, 4, 2, 1]
theorem bit_ws (n : Nat) : bitL n = ws8.map fun w => n / w % 2 := by
  simp [bitL, ws8]
def sp_l_bits (T : Txt K mg) : Sp := fun vs H Q _ => ∃ (p : Addr) (xs : List Int), vs = [.ref p] ∧ H p = some (.lst (xs.map V.int)) ∧ xs.length ≤ 600 ∧ Byts xs ∧
  ∀ (r : Addr) H', Same H H' → H' r = some (.lst ((bitsL xs).map fun n : Nat => V.int n)) → Q (.ref r) H'
theorem len_l_bits (T : Txt K mg) (vs : List V) (H : Hp) (Q : VK) (E : XK) (h : sp_l_bits T vs H Q E) : vs.length = 1 := by
  obtain ⟨_, _, rfl, _⟩ := h
  rfl
theorem bits_snoc (xs : List Int) (x : Int) : bitsL (xs ++ [x]) = bitsL xs ++ bitL x.toNat := by
  unfold bitsL
  rw [List.flatMap_append]
  simp
def t_l_bits (T : Txt K mg) : TS := (tSeq (tAsg (tLst tNil) (gName 1))
    (tSeq (tFor (iSeqU K (tVar 0)) (gName 2) (tAsg (tOp (rAddU K) (tVar 1) (tLc (iSeqU K (tTup (tCons (tC (.int 128)) (tCons (tC (.int 64)) (tCons (tC (.int 32)) (tCons (tC (.int 16)) (tCons (tC (.int 8)) (tCons (tC (.int 4)) (tCons (tC (.int 2)) (tCons (tC (.int 1)) tNil)))))))))) (gName 3) tYes (tOp rModI (tOp rFdivI (tVar 2) (tVar 3)) (tC (.int 2))) [3])) (gName 1)))
    (tRet (tVar 1))))

theorem pure_l_bits (T : Txt K mg) (vs : List V) (H : Hp) (Q : VK) (E : XK) (h : sp_l_bits T vs H Q E) : t_l_bits T { nx := fun _ H' => Q .non H', rt := Q } (start ["_law_data_here", "_law_found", "_law_byte", "_law_worth"] vs) H := by
  obtain ⟨p, xs, rfl, hp, hl, hx, q⟩ := h
  unfold t_l_bits
  walk_at "rd"
  refine And.intro (Nat.zero_le _) ?_
  intro r0 nr0
  generalize hg : upd _ r0 _ = H1
  have s1 := same_of hg nr0
  have v1 := at_of hg
  clear hg
  have hp1 := s1 _ _ hp
  walk_at "rd"
  refine r_iseqL ?_
  walk_at "rd"
  refine ⟨p, rfl, ⟨_, ql hp1⟩, ?_⟩
  refine f_it (walk_list (K := K) (a := p) (xs := xs.map V.int)) (fun i σ G => ∃ (r : Addr), ∃ v2 v3, σ = [some (.ref p), some (.ref r), v2, v3] ∧ Same H G ∧ G r = some (.lst ((bitsL (xs.take i)).map fun n : Nat => V.int n)))
    ⟨r0, none, none, rfl, s1, v1⟩ (fun i σ G _ h => by
      obtain ⟨_, _, _, _, s, _⟩ := h
      exact ql (s _ _ hp)) ?_ ?_
  · rintro i x σ G G' hi ⟨r, v2, v3, rfl, sG, hr⟩ ⟨rfl, hx'⟩
    obtain ⟨z, hz, rfl⟩ := at_int hx'
    have bz := hx z (List.mem_of_getElem? hz)
    have hi' : i < xs.length := by rw [List.length_map] at hi; exact hi
    obtain ⟨n, rfl⟩ : ∃ n : Nat, z = n := ⟨z.toNat, by omega⟩
    walk_at "rd"
    refine r_iseqT ?_
    walk_at "rd"
    refine And.intro (by show 8 ≤ sizeLine; decide) ?_
    intro t nt
    generalize hgt : upd _ t _ = G1
    have st := same_of hgt nt
    have vt := at_of hgt
    clear hgt
    refine ⟨t, rfl, ⟨_, qt vt⟩, fun D nD => ?_⟩
    refine c_it (walk_tup (K := K) (a := t) (xs := [.int 128, .int 64, .int 32, .int 16, .int 8, .int 4, .int 2, .int 1])) (fun j G => G D = some (.lst (((ws8.take j).map fun w => n / w % 2).map fun m : Nat => V.int m)) ∧ Same G1 G) ⟨upd_same, same_new nD⟩
      (fun j G _ h => qt (h.2 _ _ vt)) ?_ ?_
    · rintro j y G2 G2' hj ⟨hD, sD⟩ ⟨rfl, hy⟩
      have hj8 : j < 8 := hj
      obtain ⟨wv, rfl, e8, w1, w2⟩ : ∃ wv : Nat, y = .int wv ∧ ws8[j]? = some wv ∧ 1 ≤ wv ∧ wv ≤ 128 := by
        match j, hy with
        | 0, hx => exact ⟨128, (Option.some.inj hx).symm, rfl, by decide, by decide⟩
        | 1, hx => exact ⟨64, (Option.some.inj hx).symm, rfl, by decide, by decide⟩
        | 2, hx => exact ⟨32, (Option.some.inj hx).symm, rfl, by decide, by decide⟩
        | 3, hx => exact ⟨16, (Option.some.inj hx).symm, rfl, by decide, by decide⟩
        | 4, hx => exact ⟨8, (Option.some.inj hx).symm, rfl, by decide, by decide⟩
        | 5, hx => exact ⟨4, (Option.some.inj hx).symm, rfl, by decide, by decide⟩
        | 6, hx => exact ⟨2, (Option.some.inj hx).symm, rfl, by decide, by decide⟩
        | 7, hx => exact ⟨1, (Option.some.inj hx).symm, rfl, by decide, by decide⟩
        | j + 8, hx => cases hx
      walk_at "rd"
      refine ⟨rfl, ?_⟩
      walk_at "rd"
      rw [bw]
      refine ⟨_, hD, ?_, ?_, same_mut sD nD⟩
      · rw [List.length_map, List.length_map, List.length_take]
        exact Nat.lt_of_le_of_lt (show min j ws8.length ≤ 8 by omega) (by rw [sizeLine_eq]; decide)
      · rw [upd_same, List.take_add_one, e8, List.map_append, List.map_append]
        rfl
    · rintro G2 ⟨hD, sD⟩
      have hr2 := sD _ _ (st _ _ hr)
      have e8 : ((ws8.take 8).map fun w => n / w % 2) = bitL n := (bit_ws n).symm
      have hD : G2 D = some (.lst ((bitL n).map fun m : Nat => V.int m)) := by rw [← e8]; exact hD
      have tl : (xs.take i).length ≤ 600 := by rw [List.length_take]; omega
      refine r_addUL hr2 hD (by rw [List.length_map, List.length_map, bits_len]; exact smallS (by show 8 * _ + 8 ≤ _; omega)) fun r2 nr2 => ?_
      rw [← List.map_append]
      walk_at "rd"
      refine ⟨r2, _, _, rfl, (sG.trans (st.trans sD)).trans (same_new nr2), ?_⟩
      rw [upd_same, List.take_add_one, hz]
      show _ = some (HO.lst ((bitsL (xs.take i ++ [((n : Nat) : Int)])).map _))
      rw [bits_snoc, Int.toNat_natCast]
  · rintro σ G ⟨r, v2, v3, rfl, sG, hr⟩
    rw [List.length_map, List.take_of_length_le (Nat.le_refl _)] at hr
    walk_at "rd"
    exact q r G sG hr
theorem ok_l_bits (T : Txt K mg) : FnOk P w K mg base CX0 1 T.l_bits_a T.l_bits_d ["_law_data_here"] (sp_l_bits T) := by
  refine T.l_bits_f.ok sc_l_bits (fun vs H Q E h => len_l_bits T vs H Q E h) (fun cdv A outer s H vs Q E hr h => ⟨t_l_bits T, PSs.nox ?_, pure_l_bits T vs H Q E h⟩)
  have hu := hu64 hr
  exact (pss_cons (ps_set (i := 1) sc_l_bits.nd rfl (.inl rfl) (pe_lst pa_nil))
      (pss_cons (ps_for PassesOwn.never rfl (pi_seqU (pv 0)) (pg_name (i := 2) sc_l_bits.nd rfl (.inr rfl)) (pss_one (ps_set (i := 1) sc_l_bits.nd rfl (.inl rfl) (pe_op op_addU (pv 1) (pe_lc (own := [("_law_worth", 3)]) (g := (gName 3)) (tt := tYes) rfl sc_l_bits.nd (pi_seqU (pe_tup (pa_cons pe_int (pa_cons pe_int (pa_cons pe_int (pa_cons pe_int (pa_cons pe_int (pa_cons pe_int (pa_cons pe_int (pa_cons pe_int pa_nil)))))))))) (blkOk_by (own := [("_law_worth", 3)]) (N := ["_law_data_here", "_law_found", "_law_byte", "_law_worth"]) (sc := defScope s_l_bits) (by decide +kernel)) (fun _ _ _ _ _ => (pg_name (i := 3) sc_l_bits.nd rfl (.inl rfl))) (fun _ _ _ _ _ => pts_nil) (fun _ _ _ _ _ => (pe_op op_modN (pe_op op_fdivN (pv 2) (pv 3)) pe_int)))))))
      (pss_one (ps_ret (pv 1)))))

theorem cutV_mid {l : List V} {a m : Nat} (h : a ≤ l.length) : cutV l (some (a : Int)) (some ((a : Int) + (m : Int))) = (l.drop a).take m := by
  unfold cutV
  rw [sIx_le_nat rfl h, show (a : Int) + (m : Int) = ((a + m : Nat) : Int) by omega, HT.sIx_nat]
  by_cases e : a + m ≤ l.length
  · rw [show min (a + m) l.length - a = m by omega]
  · rw [show min (a + m) l.length - a = l.length - a by omega, List.take_of_length_le (by rw [List.length_drop]; omega), List.take_of_length_le (by rw [List.length_drop]; omega)]

end
section
variable {w : World} {K : PySem.W.Frag} {mg : Str → Option Value} {base : Heap}
local macro_rules | `(tactic| walk_at "hc") => `(tactic| first
  | assumption
  | ((refine CodeAt.same (H := ?xH) ?xb ?xa); (case xa => assumption); (case xb => walk_at "hc")))
local macro_rules | `(tactic| walk_at "rd0") => `(tactic| first
  | ((with_reducible refine r_get (a := ?xa) (c := ?xc) ?x1 ?x2 ?_); (case x1 => rfl); (case x2 => walk_at "hc"))
  | ((with_reducible refine r_methC (a := ?xa) (c := ?xc) ?x1 ?x2 ?x3 ?_); (case x1 => rfl); (case x2 => walk_at "hc"); (case x3 => (intro _ _ _; rfl)))
  | (with_reducible refine r_fmtB ?_)
  | (with_reducible refine r_dget ?_)
  | (with_reducible refine r_m0 ?_)
  | (with_reducible refine r_makeK ?_)
  | (with_reducible refine r_cval ?_)
  | (with_reducible refine r_sfld ?_)
  | (with_reducible refine r_isiI ?_)
  | (with_reducible refine r_isiIB ?_)
  | (with_reducible refine r_isiS ?_)
  | (with_reducible refine r_inID ?_))

/-! ### pieces, what written returns -/
structure PL (H : Hp) (as : List Addr) (xss : List (List Int)) : Prop where
  ln : as.length = xss.length
  at_ : ∀ (i : Nat) a ys, as[i]? = some a → xss[i]? = some ys → H a = some (.lst (ys.map V.int))
theorem PL.move {H H' : Hp} {as : List Addr} {xss : List (List Int)} (h : PL H as xss) (k : ∀ a ∈ as, ∀ o, H a = some o → H' a = some o) : PL H' as xss :=
  ⟨h.ln, fun i a ys h1 h2 => k a (List.mem_of_getElem? h1) _ (h.at_ i a ys h1 h2)⟩
theorem PL.snoc {H : Hp} {as : List Addr} {xss : List (List Int)} {a : Addr} {ys : List Int} (h : PL H as xss) (ha : H a = some (.lst (ys.map V.int))) : PL H (as ++ [a]) (xss ++ [ys]) := by
  refine ⟨by rw [List.length_append, List.length_append, h.ln]; rfl, fun i b zs h1 h2 => ?_⟩
  by_cases e : i < as.length
  · rw [List.getElem?_append_left e] at h1
    rw [List.getElem?_append_left (by rw [← h.ln]; exact e)] at h2
    exact h.at_ i b zs h1 h2
  · rw [List.getElem?_append_right (by omega)] at h1
    rw [List.getElem?_append_right (by rw [← h.ln]; omega), ← h.ln] at h2
    have e0 : i - as.length = 0 := by
      by_cases z : i - as.length = 0
      · exact z
      · rw [List.getElem?_eq_none (by show 1 ≤ _; omega)] at h1
        cases h1
    rw [e0] at h1 h2
    cases h1
    cases h2
    exact ha
theorem cutV_two {l : List V} {a k : Nat} : cutV l (some (a : Int)) (some ((a : Int) + (k : Int))) = (l.drop a).take k := by
  unfold cutV
  rw [show (a : Int) + (k : Int) = ((a + k : Nat) : Int) by omega, HT.sIx_nat, HT.sIx_nat]
  by_cases e : a ≤ l.length
  · rw [show min a l.length = a by omega]
    by_cases e2 : a + k ≤ l.length
    · rw [show min (a + k) l.length - a = k by omega]
    · rw [show min (a + k) l.length - a = l.length - a by omega, List.take_of_length_le (by rw [List.length_drop]; omega), List.take_of_length_le (by rw [List.length_drop]; omega)]
  · rw [List.drop_of_length_le (show l.length ≤ min a l.length by omega), List.drop_of_length_le (by omega)]
    simp
theorem cutV_from {l : List V} {a : Nat} : cutV l (some (a : Int)) none = l.drop a := by
  unfold cutV
  rw [HT.sIx_none, HT.sIx_nat]
  by_cases e : a ≤ l.length
  · rw [show min a l.length = a by omega, List.take_of_length_le (by rw [List.length_drop]; omega)]
  · rw [List.drop_of_length_le (show l.length ≤ min a l.length by omega), List.drop_of_length_le (by omega)]
    simp
theorem cutV_to {l : List V} {a : Nat} : cutV l none (some (a : Int)) = l.take a := by
  unfold cutV
  rw [HT.sIx_none, HT.sIx_nat]
  show (l.drop 0).take (min a l.length - 0) = _
  rw [List.drop_zero, Nat.sub_zero]
  by_cases e : a ≤ l.length
  · rw [show min a l.length = a by omega]
  · rw [show min a l.length = l.length by omega, List.take_of_length_le (Nat.le_refl _), List.take_of_length_le (by omega)]
def sp_l_pieces (T : Txt K mg) : Sp := fun vs H Q _ => ∃ (b d : Addr) (n : Nat), ∃ xs : List Int, vs = [.ref b, .ref d] ∧ BagAt H b (n + 600) ∧ H d = some (.lst (xs.map V.int)) ∧ d ≠ b ∧ xs.length ≤ 500 ∧
  ∀ r as xss H', SameB b H H' → BagAt H' b n → H' r = some (.lst (as.map V.ref)) → PL H' as xss → xss.flatten = xs → xss.length = xs.length + 1 → r ≠ b → Q (.ref r) H'
theorem len_l_pieces (T : Txt K mg) (vs : List V) (H : Hp) (Q : VK) (E : XK) (h : sp_l_pieces T vs H Q E) : vs.length = 2 := by
  obtain ⟨_, _, _, _, rfl, _⟩ := h
  rfl
def t_l_pieces (T : Txt K mg) : TS := (tSeq (tPar 2 3 (tCons (tLst tNil) (tCons (tC (.int 0)) tNil)))
    (tSeq (tFor (iRng1 (tCons (tCB (rLenU K) (tCons (tVar 1) tNil)) tNil)) (gName 4) (tSeq (tAsg (tOp (rAddU K) (tVar 3) (tCall (sp_l_take T) [] E0 (tCons (tVar 0) (tCons (tC (.int 4)) tNil)))) (gName 5))
    (tSeq (tDrop (tBM K "list" rAppend (tVar 2) (tCons (tSl (rSlU K) (tVar 1) (tPart (tVar 3)) (tPart (tVar 5))) tNil)))
    (tAsg (tVar 5) (gName 3)))))
    (tRet (tOp (rAddU K) (tVar 2) (tLst (tCons (tSl (rSlU K) (tVar 1) (tPart (tVar 3)) tNoPart) tNil))))))

theorem pure_l_pieces (T : Txt K mg) (vs : List V) (H : Hp) (Q : VK) (E : XK) (h : sp_l_pieces T vs H Q E) : t_l_pieces T { nx := fun _ H' => Q .non H', rt := Q } (start ["_law_bag_here", "_law_some", "_law_found", "_law_at", "_law_k", "_law_behind"] vs) H := by
  obtain ⟨b, d, n, xs, rfl, hB, hd, ndb, hl, q⟩ := h
  unfold t_l_pieces
  walk_at "rd"
  refine And.intro (Nat.zero_le _) fun F nF => ?_
  generalize hg : upd _ F _ = H1
  have s1 := same_of hg nF
  have v1 := at_of hg
  clear hg
  have hd1 := s1 _ _ hd
  have nFb : F ≠ b := hB.ne nF
  walk_at "rd"
  rw [List.length_map]
  refine r_one ⟨by omega, by omega⟩ ?_
  refine f_it (walk_range (lo := 0) (n := ((xs.length : Nat) : Int).toNat)) (fun i σ G => ∃ (at_ : Nat) (as : List Addr) (xss : List (List Int)), ∃ v4 v5, σ = [some (.ref b), some (.ref d), some (.ref F), some (.int (at_ : Nat)), v4, v5] ∧ SameB b H G ∧ BagAt G b (n + (600 - i)) ∧ G F = some (.lst (as.map V.ref)) ∧ PL G as xss ∧ (∀ a ∈ as, a ≠ F ∧ a ≠ b) ∧ xss.flatten = xs.take at_ ∧ xss.length = i)
    ⟨0, [], [], none, none, rfl, toB s1, hB.same s1, v1, ⟨rfl, fun i a ys z => (nomatch z)⟩, fun a z => (nomatch z), rfl, rfl⟩ (fun _ _ _ _ _ => trivial) ?_ ?_
  · rintro i x σ G G' hi ⟨at_, as, xss, v4, v5, rfl, sb, hb, hF, hP, hne, hfl, hln⟩ ⟨rfl, rfl⟩
    have hi' : i < xs.length := by omega
    have hdG : G' d = some (.lst (xs.map V.int)) := sb _ _ ndb hd
    walk_at "rd"
    refine ⟨b, 4, n + (600 - (i + 1)), rfl, hb.mono (by omega), by decide, by decide, fun r G2 r0 r1 hb2 sb2 => ?_⟩
    obtain ⟨k, rfl⟩ : ∃ k : Nat, r = k := ⟨r.toNat, by omega⟩
    have hd2 := sb2 _ _ ndb hdG
    have hF2 := sb2 _ _ nFb hF
    walk_at "rd"
    refine ⟨r_tyL (ql hF2), ?_⟩
    walk_at "rd"
    refine r_slUL (ql hd2) fun p np => ?_
    rw [cutV_two, ← List.map_drop, ← List.map_take]
    generalize hg : upd _ p _ = G3
    have s3 := same_of hg np
    have v3 := at_of hg
    clear hg
    have npF : p ≠ F := (ne_of_none hF2 np).symm
    have npb : p ≠ b := hb2.ne np
    have la : as.length ≤ 500 := by rw [hP.ln, hln]; omega
    walk_at "rd"
    refine r_append (s3 _ _ hF2) (by rw [List.length_map]; exact Nat.lt_of_le_of_lt la (by rw [sizeLine_eq]; decide)) ?_
    generalize hg : upd _ F _ = G4
    have b4 : SameB F G3 G4 := sameB_of hg
    have v4' := at_of hg
    clear hg
    walk_at "rd"
    have P2 : PL G3 as xss := hP.move fun a ha o e => s3 _ _ (sb2 _ _ (hne a ha).2 e)
    have P4 : PL G4 (as ++ [p]) (xss ++ [(xs.drop at_).take k]) := (P2.snoc v3).move fun a ha o e => b4 _ _ (by
      rcases List.mem_append.mp ha with m | m
      · exact (hne a m).1
      · rw [List.mem_singleton.mp m]; exact npF) e
    refine ⟨at_ + k, as ++ [p], xss ++ [(xs.drop at_).take k], _, _, rfl, ?_, ?_, by rw [v4', List.map_append]; rfl, P4, ?_, ?_, by rw [List.length_append, hln]; rfl⟩
    · have sbx : SameB b H G3 := sb.trans (sb2.trans (toB s3))
      exact fun a o n e => b4 _ _ (ne_of_none e nF) (sbx a o n e)
    · obtain ⟨dB, mB, cB, BB, eB⟩ := hb2.same s3
      exact ⟨dB, mB, cB, BB, b4 _ _ nFb.symm eB⟩
    · intro a ha
      rcases List.mem_append.mp ha with m | m
      · exact hne a m
      · rw [List.mem_singleton.mp m]
        exact ⟨npF, npb⟩
    · rw [List.flatten_append, hfl, List.take_add]
      simp
  · rintro σ G ⟨at_, as, xss, v4, v5, rfl, sb, hb, hF, hP, hne, hfl, hln⟩
    have hln : xss.length = xs.length := by omega
    have hdG : G d = some (.lst (xs.map V.int)) := sb _ _ ndb hd
    have la : as.length ≤ 500 := by rw [hP.ln, hln]; omega
    walk_at "rd"
    refine r_slUL (ql hdG) fun p np => ?_
    rw [cutV_from, ← List.map_drop]
    generalize hg : upd _ p _ = G3
    have s3 := same_of hg np
    have v3 := at_of hg
    clear hg
    walk_at "rd"
    refine And.intro (by show 1 ≤ sizeLine; decide) fun l1 nl1 => ?_
    generalize hg : upd _ l1 _ = G4
    have s4 := same_of hg nl1
    have v4 := at_of hg
    clear hg
    refine r_addUL (s4 _ _ (s3 _ _ hF)) v4 (by rw [List.length_map]; exact smallS (by show as.length + 1 ≤ 100000; omega)) fun l2 nl2 => ?_
    have s5 := same_new (o := .lst (as.map V.ref ++ [.ref p])) nl2
    have S := s3.trans (s4.trans s5)
    have nl2b : l2 ≠ b := ((hb.same s3).same s4).ne nl2
    refine q l2 (as ++ [p]) (xss ++ [xs.drop at_]) _ (sb.trans (toB S)) ((hb.same S).mono (by omega)) (by rw [upd_same, List.map_append]; rfl) ((hP.move fun a ha o e => S _ _ e).snoc (s5 _ _ (s4 _ _ v3))) ?_ (by rw [List.length_append, hln]; rfl) nl2b
    rw [List.flatten_append, hfl]
    simp
theorem ok_l_pieces (T : Txt K mg) : FnOk P w K mg base CX0 2 T.l_pieces_a T.l_pieces_d ["_law_bag_here", "_law_some"] (sp_l_pieces T) := by
  refine T.l_pieces_f.ok sc_l_pieces (fun vs H Q E h => len_l_pieces T vs H Q E h) (fun cdv A outer s H vs Q E hr h => ⟨t_l_pieces T, PSs.nox ?_, pure_l_pieces T vs H Q E h⟩)
  have hu := hu64 hr
  exact (pss_cons (ps_par (i := 2) (j := 3) (by rfl) sc_l_pieces.nd rfl rfl (by decide) rfl rfl (pa_cons (pe_lst pa_nil) (pa_cons pe_int pa_nil)) (by rfl))
      (pss_cons (ps_for PassesOwn.never rfl (pi_range1 (by rfl) T.n_range (pa_cons (pe_callB c_lenU (by rfl) T.n_len (by decide +kernel) (pa_cons (pv 1) pa_nil)) pa_nil)) (pg_name (i := 4) sc_l_pieces.nd rfl (.inl rfl)) (pss_cons (ps_set (i := 5) sc_l_pieces.nd rfl (.inl rfl) (pe_op op_addU (pv 3) (pe_call (ok_l_take T) (hr.mono (by decide)) (by rfl) T.l_take_g T.l_take_f.kp T.l_take_b .nil pass0 (pa_cons (pv 0) (pa_cons pe_int pa_nil)))))
      (pss_cons (ps_expr (pe_bm PySem.F.plainAttrs_list PySem.F.slot_list_append PySem.F.type_list_append mt_append (pv 2) (pa_cons (pe_slice sl_U (pv 1) (po_some (pv 3)) (po_some (pv 5))) pa_nil)))
      (pss_one (ps_set (i := 3) sc_l_pieces.nd rfl (.inl rfl) (pv 5))))))
      (pss_one (ps_ret (pe_op op_addU (pv 2) (pe_lst (pa_cons (pe_slice sl_U (pv 1) (po_some (pv 3)) po_none) pa_nil)))))))


end
section
variable {w : World} {K : PySem.W.Frag} {mg : Str → Option Value} {base : Heap}
/-! ### what a writer holds: plain law -/
theorem not_full {c : CodeD} (s : Wst) (x : Int) (h : (wstep c s x).b ≠ []) : c.full (wstep c s x).col = false := by
  have h : rs c (s.b ++ b8 x.toNat) ≠ [] := h
  show c.full (wP c (s.b ++ b8 x.toNat) s.col).2 = false
  unfold wP
  by_cases g : rs c (s.b ++ b8 x.toNat) ≠ [] ∧ c.full (plcs c s.col (em c (s.b ++ b8 x.toNat))).2 = true
  · rw [if_pos g]
    unfold CodeD.full
    by_cases w : 0 < c.wd
    · rw [decide_eq_false (show ¬ 0 = c.wd by omega), Bool.and_false]
    · rw [decide_eq_false w, Bool.false_and]
  · rw [if_neg g]
    by_cases f : c.full (plcs c s.col (em c (s.b ++ b8 x.toNat))).2 = true
    · exact absurd ⟨h, f⟩ g
    · simpa using f
theorem run_full (c : CodeD) (xs : List Int) (h : (wrun c xs).b ≠ []) : c.full (wrun c xs).col = false := by
  rcases List.eq_nil_or_concat xs with rfl | ⟨ys, y, rfl⟩
  · exact absurd rfl h
  · rw [List.concat_eq_append, wrun_snoc] at h ⊢
    exact not_full _ _ h
theorem tog_run {c : CodeD} (ok : c.Ok) (xs : List Int) : Tog c (wrun c xs) (prun c xs) := by
  have h : ∀ (xs : List Int) (s : Wst) (p : Pst), Tog c s p → Tog c (xs.foldl (wstep c) s) (xs.foldl (pstep c) p) := by
    intro xs
    induction xs with
    | nil => intro s p h; exact h
    | cons x r ih => intro s p h; exact ih _ _ (h.step ok x)
  exact h xs _ _ ⟨rfl, rfl, .inl ⟨rfl, rfl⟩⟩
theorem rs_drop {c : CodeD} (h1 : 1 ≤ c.sb) : ∀ (n : Nat) (u : List Nat), u.length ≤ n → rs c u = u.drop (c.sb * (u.length / c.sb))
  | n, u, h => by
    by_cases e : c.sb ≤ u.length
    · match n, h with
      | 0, h => omega
      | n + 1, h =>
        rw [rs_on h1 e, rs_drop h1 n _ (by rw [List.length_drop]; omega), List.drop_drop, List.length_drop]
        have : u.length / c.sb = (u.length - c.sb) / c.sb + 1 := by
          rw [← Nat.add_div_right _ h1]
          congr 1
          omega
        rw [this, Nat.mul_add, Nat.mul_one, Nat.add_comm]
    · rw [rs_off e, Nat.div_eq_of_lt (by omega), Nat.mul_zero, List.drop_zero]
/-- the column behind n signs -/
def colN (w n : Nat) : Nat := if 0 < w ∧ 0 < n then (n - 1) % w + 1 else 0
theorem mod_next (m w : Nat) (h : 0 < w) : (m + 1) % w = if m % w + 1 = w then 0 else m % w + 1 := by
  have e := Nat.div_add_mod m w
  have l := Nat.mod_lt m h
  split
  · rename_i g
    rw [show m + 1 = w * (m / w + 1) by rw [Nat.mul_add, Nat.mul_one]; omega, Nat.mul_mod_right]
  · rw [show m + 1 = w * (m / w) + (m % w + 1) by omega, Nat.mul_add_mod, Nat.mod_eq_of_lt (by omega)]
theorem plc_col (c : CodeD) (n s : Nat) : (c.plc (colN c.wd n) s).2 = colN c.wd (n + 1) := by
  by_cases hw : 0 < c.wd
  · unfold CodeD.plc CodeD.full CodeD.nxt
    rw [decide_eq_true hw, Bool.true_and]
    have e1 : colN c.wd (n + 1) = n % c.wd + 1 := by unfold colN; rw [if_pos ⟨hw, by omega⟩]; rfl
    rw [e1]
    cases n with
    | zero =>
      have e0 : colN c.wd 0 = 0 := by unfold colN; rw [if_neg (by omega)]
      rw [e0, decide_eq_false (by omega), if_neg Bool.false_ne_true, if_pos hw, Nat.zero_mod]
    | succ m =>
      have e0 : colN c.wd (m + 1) = m % c.wd + 1 := by unfold colN; rw [if_pos ⟨hw, by omega⟩]; rfl
      rw [e0, mod_next m c.wd hw]
      by_cases g : m % c.wd + 1 = c.wd
      · rw [decide_eq_true g, if_pos rfl, if_pos g]
      · rw [decide_eq_false g, if_neg Bool.false_ne_true, if_pos hw, if_neg g]
  · have z : ∀ k, colN c.wd k = 0 := fun k => by unfold colN; rw [if_neg (fun h => hw h.1)]
    rw [z, z]
    unfold CodeD.plc CodeD.full CodeD.nxt
    rw [decide_eq_false hw, Bool.false_and, if_neg Bool.false_ne_true, if_neg hw]
theorem plcs_col (c : CodeD) : ∀ (l : List Nat) (n : Nat), (plcs c (colN c.wd n) l).2 = colN c.wd (n + l.length)
  | [], n => rfl
  | s :: r, n => by
    show (plcs c (c.plc (colN c.wd n) s).2 r).2 = _
    rw [plc_col, plcs_col c r (n + 1), List.length_cons]
    congr 1
    omega
def manyL (c : CodeD) (xs : List Int) : Nat := (bitsL xs).length / c.sb
def leftL (c : CodeD) (xs : List Int) : List Nat := (bitsL xs).drop (c.sb * manyL c xs)
def colS (c : CodeD) (xs : List Int) : Nat := if leftL c xs ≠ [] ∧ colN c.wd (manyL c xs) = c.wd then 0 else colN c.wd (manyL c xs)
theorem st_law {c : CodeD} (ok : c.Ok) (xs : List Int) : (wrun c xs).b = b48 (leftL c xs) ∧ (wrun c xs).sn = manyL c xs % grp c.sb ∧ (wrun c xs).col = colS c xs := by
  have h1 := ok.b1
  have t := tog_run ok xs
  obtain ⟨p1, p2, p3⟩ := prun_all ok xs
  have lb : ∀ l : List Nat, (b48 l).length = l.length := fun l => List.length_map _
  have eb : (wrun c xs).b = b48 (leftL c xs) := by
    rw [t.1, p2, rs_drop h1 _ _ (Nat.le_refl _), lb]
    unfold leftL manyL
    rw [b48_drop]
  have ep : (prun c xs).p.length = manyL c xs := by
    rw [p1, (em_length h1 _ _ (Nat.le_refl _)).1, lb]
    rfl
  have ec : (plcs c 0 (prun c xs).p).2 = colN c.wd (manyL c xs) := by
    have e0 : colN c.wd 0 = 0 := by unfold colN; rw [if_neg (by omega)]
    have := plcs_col c (prun c xs).p 0
    rw [e0, Nat.zero_add, ep] at this
    exact this
  have en : (wrun c xs).b = [] ↔ leftL c xs = [] := by
    rw [eb]
    unfold b48
    exact List.map_eq_nil_iff
  refine ⟨eb, by rw [t.2.1, p3]; rfl, ?_⟩
  unfold colS
  rcases t.2.2 with ⟨_, h4⟩ | ⟨h3, h4, _, h6⟩
  · rw [h4, ec]
    split
    · rename_i g
      by_cases hw : 0 < c.wd
      · exfalso
        have f := run_full c xs fun z => g.1 (en.mp z)
        rw [h4, ec] at f
        unfold CodeD.full at f
        rw [decide_eq_true hw, decide_eq_true g.2] at f
        cases f
      · unfold colN
        rw [if_neg fun h => hw h.1]
    · rfl
  · rw [h6, if_pos]
    rw [ec] at h4
    unfold CodeD.full at h4
    simp at h4
    exact ⟨fun z => h3 (en.mpr z), h4.2⟩

end
section
variable {w : World} {K : PySem.W.Frag} {mg : Str → Option Value} {base : Heap}
local macro_rules | `(tactic| walk_at "hc") => `(tactic| first
  | assumption
  | ((refine CodeAt.same (H := ?xH) ?xb ?xa); (case xa => assumption); (case xb => walk_at "hc")))
local macro_rules | `(tactic| walk_at "rd0") => `(tactic| first
  | ((with_reducible refine r_get (a := ?xa) (c := ?xc) ?x1 ?x2 ?_); (case x1 => rfl); (case x2 => walk_at "hc"))
  | ((with_reducible refine r_methC (a := ?xa) (c := ?xc) ?x1 ?x2 ?x3 ?_); (case x1 => rfl); (case x2 => walk_at "hc"); (case x3 => (intro _ _ _; rfl)))
  | (with_reducible refine r_fmtB ?_)
  | (with_reducible refine r_dget ?_)
  | (with_reducible refine r_m0 ?_)
  | (with_reducible refine r_makeK ?_)
  | (with_reducible refine r_cval ?_)
  | (with_reducible refine r_sfld ?_)
  | (with_reducible refine r_isiI ?_)
  | (with_reducible refine r_isiIB ?_)
  | (with_reducible refine r_isiS ?_)
  | (with_reducible refine r_inID ?_))

/-! ### the state as the law computes it -/
theorem r_par3 {i j l : Nat} {ta : TA} {D : Ends} {σ : S} {H : Hp} (h : ta σ H fun vs H1 => ∃ u v w, vs = [u, v, w] ∧ D.nx (((σ.set i (some u)).set j (some v)).set l (some w)) H1) : tPar3 i j l ta D σ H := h
theorem sing_flat : ∀ l : List Nat, (l.map fun c => [c]).flatten = l
  | [] => rfl
  | y :: r => by rw [List.map_cons, List.flatten_cons, sing_flat r]; rfl
theorem cell_map (l : List Nat) : (l.map fun ch => V.str (tx [ch])) = (l.map fun ch => tx [ch]).map V.str := by rw [List.map_map]; rfl
theorem join_ch (l : List Nat) : Txt.join (Str.ofString "") (l.map fun c => tx [c]) = tx l := by
  have := txt_join_tx (l.map fun c => [c])
  rw [List.map_map] at this
  have e : (tx ∘ fun c => [c]) = fun c : Nat => tx [c] := rfl
  rw [e] at this
  rw [this, sing_flat]
theorem fdiv_nat (a b : Nat) : (a : Int).fdiv (b : Int) = ((a / b : Nat) : Int) := by
  rw [Int.fdiv_eq_ediv_of_nonneg _ (Int.natCast_nonneg b)]
  rfl
theorem fmod_nat (a b : Nat) : (a : Int).fmod (b : Int) = ((a % b : Nat) : Int) := by
  rw [Int.fmod_eq_emod_of_nonneg _ (Int.natCast_nonneg b)]
  rfl
theorem r_neLL0 {H : Hp} {Q : VK} {a b : Addr} {ys : List Int} (h1 : H a = some (.lst (ys.map V.int))) (hl : ys.length ≤ 100000) (h2 : H b = some (.lst (([] : List Int).map V.int))) (k : Q (.bl (decide (ys ≠ []))) H) : rNeU K (.ref a) (.ref b) H Q :=
  q_ne (k := false) (xs := ys) (ys := []) ⟨hl, .inl ⟨rfl, a, rfl, h1⟩⟩ ⟨Nat.zero_le _, .inl ⟨rfl, b, rfl, h2⟩⟩ (fun z => nomatch z) (fun z => nomatch z) (by rw [← decide_not]; exact k)
def B01 (l : List Nat) : Prop := ∀ x ∈ l, x < 2
theorem bits01 : ∀ xs : List Int, B01 (bitsL xs)
  | [] => fun x h => nomatch h
  | a :: r => by
    intro x h
    rcases List.mem_append.mp (show x ∈ bitL a.toNat ++ bitsL r from h) with h | h
    · unfold bitL at h
      simp only [List.mem_cons, List.not_mem_nil, or_false] at h
      omega
    · exact bits01 r x h
def sp_l_state (T : Txt K mg) : Sp := fun vs H Q _ => ∃ (p d : Addr) (c : CodeD) (xs : List Int), vs = [.ref p, .ref d] ∧ TupC H p c ∧ c.Ok ∧ H d = some (.lst (xs.map V.int)) ∧ xs.length ≤ 600 ∧ Byts xs ∧
  ∀ (r : Addr) H', Same H H' → SAt H' r (wrun c xs) → Q (.ref r) H'
theorem len_l_state (T : Txt K mg) (vs : List V) (H : Hp) (Q : VK) (E : XK) (h : sp_l_state T vs H Q E) : vs.length = 2 := by
  obtain ⟨_, _, _, _, rfl, _⟩ := h
  rfl
def t_l_state (T : Txt K mg) : TS := (tSeq (tPar3 2 3 4 (tCons (tCall (sp_l_bits T) [] E0 (tCons (tVar 1) tNil)) (tCons (tCall (sp_l_size T) [] E0 (tCons (tVar 0) tNil)) (tCons (tOp (rIx K) (tVar 0) (tC (.int 2))) tNil))))
    (tSeq (tAsg (tOp rFdivI (tCB (rLenU K) (tCons (tVar 2) tNil)) (tVar 3)) (gName 5))
    (tSeq (tAsg (tSl (rSlU K) (tVar 2) (tPart (tOp (rMulU K) (tVar 3) (tVar 5))) tNoPart) (gName 6))
    (tSeq (tAsg (tIf (tAnd (tTest (tOp rGtI (tVar 4) (tC (.int 0)))) (tTest (tOp rGtI (tVar 5) (tC (.int 0))))) (tOp (rAddU K) (tOp rModI (tOp rSubI (tVar 5) (tC (.int 1))) (tVar 4)) (tC (.int 1))) (tC (.int 0))) (gName 7))
    (tSeq (tIfS (tAnd (tTest (tOp (rNeU K) (tVar 6) (tLst tNil))) (tTest (tOp (rEqU K) (tVar 7) (tVar 4)))) (tAsg (tC (.int 0)) (gName 7)) tNext)
    (tRet (tTup (tCons (tJoinU K (tC (.str (Str.ofString ""))) (tLc (iSeqU K (tVar 6)) (gName 8) tYes (tCB rStrI (tCons (tVar 8) tNil)) [8])) (tCons (tOp rModI (tVar 5) (tCall (sp_l_group T) [] E0 (tCons (tVar 0) tNil))) (tCons (tVar 7) tNil))))))))))

theorem pure_l_state (T : Txt K mg) (vs : List V) (H : Hp) (Q : VK) (E : XK) (h : sp_l_state T vs H Q E) : t_l_state T { nx := fun _ H' => Q .non H', rt := Q } (start ["_law_code_here", "_law_some", "_law_bits_here", "_law_size_here", "_law_room", "_law_many", "_law_left", "_law_column", "_law_bit"] vs) H := by
  obtain ⟨p, d, c, xs, rfl, hp, ok, hd, hl, hx, q⟩ := h
  have h1 := ok.b1
  have h6 := ok.b6
  have gp := grp_pos h1 h6
  unfold TupC at hp
  unfold t_l_state
  walk_at "rd"
  refine r_par3 ?_
  walk_at "rd"
  refine ⟨d, xs, rfl, hd, hl, hx, fun r H1 s1 hr => ?_⟩
  walk_at "rd"
  refine ⟨p, c.sg, c.pd, c.wd, c.sb, rfl, s1 _ _ hp, ok.ln, h1, h6, fun H2 s2 => ?_⟩
  have hr2 := s2 _ _ hr
  have hp2 := s2 _ _ (s1 _ _ hp)
  walk_at "rd"
  refine ⟨_, _, _, rfl, ?_⟩
  have bl := bits_len xs
  walk_at "rd"
  rw [show (((List.map (fun n : Nat => V.int n) (bitsL xs)).length : Nat) : Int).fdiv (c.sb : Int) = ((manyL c xs : Nat) : Int) by rw [List.length_map, fdiv_nat]; rfl, show (c.sb : Int) * ((manyL c xs : Nat) : Int) = ((c.sb * manyL c xs : Nat) : Int) from (Int.natCast_mul _ _).symm]
  refine r_slUL (ql hr2) fun S nS => ?_
  rw [cutV_from, ← List.map_drop]
  generalize hg : upd H2 S _ = H3
  have s3 := same_of hg nS
  have v3 : H3 S = some (.lst ((leftL c xs).map fun n : Nat => V.int n)) := at_of hg
  clear hg
  have s0 : Same H H3 := s1.trans (s2.trans s3)
  have hp3 := s3 _ _ hp2
  have ll : (leftL c xs).length ≤ 4800 := by
    unfold leftL
    rw [List.length_drop]
    omega
  walk_at "rx"
  refine r_seqC (fun σ G => σ = [some (.ref p), some (.ref d), some (.ref r), some (.int c.sb), some (.int c.wd), some (.int (manyL c xs : Nat)), some (.ref S), some (.int (colN c.wd (manyL c xs) : Nat)), none] ∧ G = H3) ?_ fun N tail => ?_
  rotate_left
  · walk_at "rd"
    have e0 : ¬ (0 < c.wd ∧ 0 < manyL c xs) → colN c.wd (manyL c xs) = 0 := fun h => by unfold colN; rw [if_neg h]
    refine r_iteD (fun g1 => ?_) (fun g1 => ?_)
    · walk_at "rd"
      refine r_iteD (fun g2 => ?_) (fun g2 => ?_)
      · walk_at "rd"
        refine tail _ _ ⟨?_, rfl⟩
        rw [show ((manyL c xs : Nat) : Int) - 1 = ((manyL c xs - 1 : Nat) : Int) by omega, fmod_nat]
        have e1 : colN c.wd (manyL c xs) = (manyL c xs - 1) % c.wd + 1 := by unfold colN; rw [if_pos ⟨by omega, by omega⟩]
        rw [e1]
        rfl
      · walk_at "rd"
        refine tail _ _ ⟨?_, rfl⟩
        rw [e0 (by omega)]
        rfl
    · walk_at "rd"
      refine tail _ _ ⟨?_, rfl⟩
      rw [e0 (by omega)]
      rfl
  rintro σ G ⟨rfl, rfl⟩
  refine r_seqC (fun σ G' => σ = [some (.ref p), some (.ref d), some (.ref r), some (.int c.sb), some (.int c.wd), some (.int (manyL c xs : Nat)), some (.ref S), some (.int (colS c xs : Nat)), none] ∧ Same G G') ?_ fun N tail => ?_
  rotate_left
  · walk_at "rd"
    refine And.intro (Nat.zero_le _) fun L0 nL0 => ?_
    generalize hg : upd G L0 _ = H4
    have s4 := same_of hg nL0
    have v4 : H4 L0 = some (.lst (([] : List Int).map V.int)) := at_of hg
    clear hg
    have mm : (leftL c xs).map (fun n : Nat => V.int n) = ((leftL c xs).map fun n : Nat => (n : Int)).map V.int := by rw [List.map_map]; rfl
    refine r_neLL0 (ys := (leftL c xs).map fun n : Nat => (n : Int)) (by rw [← mm]; exact s4 _ _ v3) (by rw [List.length_map]; omega) v4 ?_
    refine ⟨_, rfl, ?_⟩
    refine r_iteD (fun g1 => ?_) (fun g1 => ?_)
    · have g1' : leftL c xs ≠ [] := fun z => g1 (by rw [z]; rfl)
      walk_at "rd"
      refine r_iteD (fun g2 => ?_) (fun g2 => ?_)
      · walk_at "rd"
        refine tail _ _ ⟨?_, s4⟩
        rw [show colS c xs = 0 by unfold colS; rw [if_pos ⟨g1', by omega⟩]]
        rfl
      · walk_at "rd"
        refine tail _ _ ⟨?_, s4⟩
        rw [show colS c xs = colN c.wd (manyL c xs) by unfold colS; rw [if_neg fun h => g2 (by rw [h.2])]]
    · have g1' : leftL c xs = [] := by
        have : (leftL c xs).map (fun n : Nat => (n : Int)) = [] := Classical.byContradiction fun z => g1 z
        exact List.map_eq_nil_iff.mp this
      walk_at "rd"
      refine tail _ _ ⟨?_, s4⟩
      rw [show colS c xs = colN c.wd (manyL c xs) by unfold colS; rw [if_neg fun h => h.1 g1']]
  rintro σ G' ⟨rfl, sG⟩
  have vS := sG _ _ v3
  walk_at "rd"
  refine r_join ?_ rfl
  walk_at "rd"
  refine r_iseqL ?_
  walk_at "rd"
  refine ⟨S, rfl, ⟨_, ql vS⟩, fun D nD => ?_⟩
  refine c_it (walk_list (K := K) (a := S) (xs := (leftL c xs).map fun n : Nat => V.int n)) (fun i G2 => G2 D = some (.lst ((((leftL c xs).take i).map fun n => tx [48 + n]).map V.str)) ∧ Same G' G2)
    ⟨upd_same, same_new nD⟩ (fun i G2 _ h => ql (h.2 _ _ vS)) ?_ ?_
  · rintro i x G2 G3 hi ⟨hD, sD⟩ ⟨rfl, hx'⟩
    rw [List.getElem?_map] at hx'
    obtain ⟨n, hn, rfl⟩ := Option.map_eq_some_iff.mp hx'
    have n2 : n < 2 := bits01 xs n (List.mem_of_mem_drop (List.mem_of_getElem? hn))
    walk_at "rd"
    refine ⟨rfl, ?_⟩
    walk_at "rd"
    refine r_strI (Nat.lt_of_le_of_lt (Nat.log2_le_self _) (by omega)) ?_
    refine ⟨_, hD, by rw [List.length_map, List.length_map, List.length_take]; exact Nat.lt_of_le_of_lt (show min i (leftL c xs).length ≤ 4800 by omega) (by rw [sizeLine_eq]; decide), ?_, same_mut sD nD⟩
    have e : Str.ofString (toString (n : Int)) = tx [48 + n] := by
      have h : n = 0 ∨ n = 1 := by omega
      rcases h with h | h <;> (rw [h]; rfl)
    rw [upd_same, List.take_add_one, hn, e, List.map_append, List.map_append]
    rfl
  rintro G2 ⟨hD, sD⟩
  rw [List.length_map, List.take_length] at hD
  have lq : ((leftL c xs).map fun n => tx [48 + n]) = (b48 (leftL c xs)).map fun ch => tx [ch] := by
    unfold b48
    rw [List.map_map]
    rfl
  rw [lq] at hD
  have lb : (b48 (leftL c xs)).length = (leftL c xs).length := List.length_map _
  refine ⟨_, D, (b48 (leftL c xs)).map fun ch => tx [ch], rfl, rfl, .inl (ql hD), ?_, ?_⟩
  · have e0 : (Str.ofString "").length = 0 := rfl
    rw [e0, Nat.mul_zero, Nat.add_zero, sum_one]
    omega
  rw [join_ch]
  have hp4 := sD _ _ (sG _ _ hp3)
  walk_at "rd"
  refine ⟨p, c.sg, c.pd, c.wd, c.sb, rfl, hp4, ok.ln, h1, h6, fun H5 s5 => ?_⟩
  walk_at "rd"
  refine And.intro (by show 3 ≤ sizeLine; decide) fun R nR => ?_
  obtain ⟨l1, l2, l3⟩ := st_law ok xs
  refine q R _ (s0.trans (sG.trans (sD.trans (s5.trans (same_new nR))))) ?_
  unfold SAt StAt
  rw [upd_same, l1, l2, l3, fmod_nat]
theorem ok_l_state (T : Txt K mg) : FnOk P w K mg base CX0 2 T.l_state_a T.l_state_d ["_law_code_here", "_law_some"] (sp_l_state T) := by
  refine T.l_state_f.ok sc_l_state (fun vs H Q E h => len_l_state T vs H Q E h) (fun cdv A outer s H vs Q E hr h => ⟨t_l_state T, PSs.nox ?_, pure_l_state T vs H Q E h⟩)
  have hu := hu64 hr
  exact (pss_cons (ps_par3 (i := 2) (j := 3) (l := 4) (by rfl) sc_l_state.nd rfl rfl rfl (by decide) (by decide) (by decide) rfl rfl rfl (pa_cons (pe_call (ok_l_bits T) (hr.mono (by decide)) (by rfl) T.l_bits_g T.l_bits_f.kp T.l_bits_b .nil pass0 (pa_cons (pv 1) pa_nil)) (pa_cons (pe_call (ok_l_size T) (hr.mono (by decide)) (by rfl) T.l_size_g T.l_size_f.kp T.l_size_b .nil pass0 (pa_cons (pv 0) pa_nil)) (pa_cons (pe_ix ix_seq (pv 0) pe_int (fun _ _ => rfl)) pa_nil))) (by rfl))
      (pss_cons (ps_set (i := 5) sc_l_state.nd rfl (.inl rfl) (pe_op op_fdivN (pe_callB c_lenU (by rfl) T.n_len (by decide +kernel) (pa_cons (pv 2) pa_nil)) (pv 3)))
      (pss_cons (ps_set (i := 6) sc_l_state.nd rfl (.inl rfl) (pe_slice sl_U (pv 2) (po_some (pe_op op_mulU (pv 3) (pv 5))) po_none))
      (pss_cons (ps_set (i := 7) sc_l_state.nd rfl (.inl rfl) (pe_ifExp (PW.pt (pw_and (pt_cmpR op_gt (pv 4) pe_int (nomark _)) (pw_and1 (pt_cmpR op_gt (pv 5) pe_int (nomark _))))) (pe_op op_addU (pe_op op_modN (pe_op op_sub (pv 5) pe_int) (pv 4)) pe_int) pe_int))
      (pss_cons (ps_if (PW.pt (pw_and (pt_cmpR (op_neU hu) (pv 6) (pe_lst pa_nil) (nomark _)) (pw_and1 (pt_cmpR (op_eqU hu) (pv 7) (pv 4) (nomark _))))) (pss_one (ps_set (i := 7) sc_l_state.nd rfl (.inl rfl) pe_int)) pss_nil)
      (pss_one (ps_ret (pe_tup (pa_cons (pe_join pe_str (pe_lc (own := [("_law_bit", 8)]) (g := (gName 8)) (tt := tYes) rfl sc_l_state.nd (pi_seqU (pv 6)) (blkOk_by (own := [("_law_bit", 8)]) (N := ["_law_code_here", "_law_some", "_law_bits_here", "_law_size_here", "_law_room", "_law_many", "_law_left", "_law_column", "_law_bit"]) (sc := defScope s_l_state) (by decide +kernel)) (fun _ _ _ _ _ => (pg_name (i := 8) sc_l_state.nd rfl (.inl rfl))) (fun _ _ _ _ _ => pts_nil) (fun _ _ _ _ _ => (pe_callTy call_str_int (by rfl) T.n_str (by decide +kernel) (pa_cons (pv 8) pa_nil))))) (pa_cons (pe_op op_modN (pv 5) (pe_call (ok_l_group T) (hr.mono (by decide)) (by rfl) T.l_group_g T.l_group_f.kp T.l_group_b .nil pass0 (pa_cons (pv 0) pa_nil))) (pa_cons (pv 7) pa_nil)))))))))))


end
section
variable {w : World} {K : PySem.W.Frag} {mg : Str → Option Value} {base : Heap}
local macro_rules | `(tactic| walk_at "hc") => `(tactic| first
  | assumption
  | ((refine CodeAt.same (H := ?xH) ?xb ?xa); (case xa => assumption); (case xb => walk_at "hc")))
local macro_rules | `(tactic| walk_at "rd0") => `(tactic| first
  | ((with_reducible refine r_get (a := ?xa) (c := ?xc) ?x1 ?x2 ?_); (case x1 => rfl); (case x2 => walk_at "hc"))
  | ((with_reducible refine r_methC (a := ?xa) (c := ?xc) ?x1 ?x2 ?x3 ?_); (case x1 => rfl); (case x2 => walk_at "hc"); (case x3 => (intro _ _ _; rfl)))
  | (with_reducible refine r_fmtB ?_)
  | (with_reducible refine r_dget ?_)
  | (with_reducible refine r_m0 ?_)
  | (with_reducible refine r_makeK ?_)
  | (with_reducible refine r_cval ?_)
  | (with_reducible refine r_sfld ?_)
  | (with_reducible refine r_isiI ?_)
  | (with_reducible refine r_isiIB ?_)
  | (with_reducible refine r_isiS ?_)
  | (with_reducible refine r_inID ?_))

/-! ### the states of a writer -/
theorem ne_ob {H : Hp} {a b : Addr} {o u : HO} (h1 : H a = some o) (h2 : H b = some u) (n : o ≠ u) : a ≠ b := fun z => n (by rw [z, h2] at h1; exact (Option.some.inj h1).symm)
theorem code_sameB {T : Txt K mg} {H H' : Hp} {r b : Addr} {c : CodeD} {n : Nat} (h : CodeAt T H r c) (hb : BagAt H b n) (sb : SameB b H H') : CodeAt T H' r c := by
  obtain ⟨o, dx, tp, dg, kvs, h1, h2, h3, h4⟩ := h
  obtain ⟨dB, mB, cB, BB, eB⟩ := hb
  refine ⟨o, dx, tp, dg, kvs, sb _ _ ?_ h1, sb _ _ ?_ h2, sb _ _ ?_ h3, h4⟩
  · intro z
    rw [z, eB] at h1
    cases h1
  · intro z
    rw [z, eB] at h2
    cases h2
  · intro z
    rw [z, eB] at h3
    cases h3
theorem flat_split {α : Type} (xss : List (List α)) (k : Nat) : (xss.take k).flatten.length ≤ xss.flatten.length := by
  conv => rhs; rw [← List.take_append_drop k xss]
  rw [List.flatten_append, List.length_append]
  exact Nat.le_add_right _ _
theorem r_eqLL {H : Hp} {Q : VK} {a b : Addr} {ys : List Int} (h1 : H a = some (.lst (ys.map V.int))) (h2 : H b = some (.lst (ys.map V.int))) (hl : ys.length ≤ 100000) (k : Q (.bl true) H) : rEqU K (.ref a) (.ref b) H Q :=
  q_eq (k := false) (xs := ys) (ys := ys) ⟨hl, .inl ⟨rfl, a, rfl, h1⟩⟩ ⟨hl, .inl ⟨rfl, b, rfl, h2⟩⟩ (fun z => nomatch z) (fun z => nomatch z) (by rw [decide_eq_true rfl]; exact k)
def dSt (s : Wst) : PyData := .tuple [.str (tx s.b), .int s.sn, .int s.col]
theorem colN_le (w n : Nat) : colN w n ≤ w := by
  unfold colN
  split
  · rename_i h
    have := Nat.mod_lt (n - 1) h.1
    omega
  · exact Nat.zero_le _
theorem run_col {c : CodeD} (ok : c.Ok) (xs : List Int) : (wrun c xs).col ≤ c.wd := by
  rw [(st_law ok xs).2.2]
  unfold colS
  split
  · exact Nat.zero_le _
  · exact colN_le _ _
theorem lo_bits {b : List Nat} (h : Bits b) : ∀ x ∈ (tx b).cps.toList, x < 0x110000 := fun x hx => by
  rw [tx_list] at hx
  have := h x hx
  unfold Bn.IsBit at this
  omega
theorem r_reprSt {H : Hp} {Q : VK} {st : Addr} {s : Wst} (h : SAt H st s) (hb : Bits s.b) (l1 : s.b.length ≤ 10) (l2 : s.sn ≤ 100) (l3 : s.col ≤ 100) (k : Q (.str (dSt s).shown) H) : rRepr K [.ref st] H Q := by
  have dp : Dp K H (.ref st) (dSt s) := .tup (qt h) (.cons (.str _) (.cons (.int _) (.cons (.int _) .nil)))
  have sm : Sm 500 (dSt s) := (Sm.tuple (n := 110) (ds := [.str (tx s.b), .int s.sn, .int s.col]) (by
    intro d hd
    simp only [List.mem_cons, List.not_mem_nil, or_false] at hd
    rcases hd with rfl | rfl | rfl
    · exact (Sm.str fun ch hch => Nat.lt_trans (lo_bits hb ch hch) (by decide)).mono (by rw [tx_len]; omega)
    · exact (Sm.int (by omega)).mono (by decide)
    · exact (Sm.int (by omega)).mono (by decide))).mono (by show 3 * (110 + 2) + 3 ≤ 500; decide)
  exact r_repr dp sm.sh (Nat.le_trans sm.le (smallS (by decide))) (by unfold dSt; simp [PyData.depth, PyData.depthAll]) k
theorem r_eqSt {H : Hp} {Q : VK} {st st' : Addr} {s : Wst} (h : SAt H st s) (h' : SAt H st' s) (hb : Bits s.b) (k : Q (.bl true) H) : rEqU K (.ref st) (.ref st') H Q := by
  have dp : ∀ {x}, SAt H x s → Dp K H (.ref x) (dSt s) := fun h => .tup (qt h) (.cons (.str _) (.cons (.int _) (.cons (.int _) .nil)))
  have sh : SeqAt.shaped (dSt s) = true := by
    unfold SeqAt.shaped dSt
    simp only [PyData.canLay0, PyData.canLayAll0, PyData.depth, PyData.depthAll, strOk_of (lo_bits hb)]
    rfl
  refine r_eqUD (dp h) (dp h') sh sh ?_
  rw [PySem.SeqAt.eqv_refl _ (PySem.SeqAt.canLay_of_shaped sh)]
  exact k
def sp_l_given (T : Txt K mg) : Sp := fun vs H Q _ => ∃ (a d : Addr) (c : CodeD) (xs : List Int), vs = [.ref a, .ref d] ∧ CodeAt T H a c ∧ H d = some (.lst (xs.map V.int)) ∧ xs.length ≤ 600 ∧ Byts xs ∧
  ∀ (r st : Addr) (t : Str) H', Same H H' → H' r = some (.tup [.str t, .ref st]) → SAt H' st (wrun c xs) → Q (.ref r) H'
theorem len_l_given (T : Txt K mg) (vs : List V) (H : Hp) (Q : VK) (E : XK) (h : sp_l_given T vs H Q E) : vs.length = 2 := by
  obtain ⟨_, _, _, _, rfl, _⟩ := h
  rfl
def t_l_given (T : Txt K mg) : TS := (tSeq (tAsg (tMakeK T.C_Writer 1 ([] : List Str).length (sp_Writer___init__ T) (fun vs zs => vs ++ zs) E0 (tCons (tVar 0) tNil) tNil) (gName 2))
    (tRet (tTup (tCons (tCallOS T.C_Writer (sp_Writer___call__ T) (fun _ => E0) (tVar 2) (tCons (tVar 1) tNil)) (tCons (tProp T.C_Writer (sp_Writer_state T) [] E0 (tVar 2)) tNil)))))

theorem pure_l_given (T : Txt K mg) (vs : List V) (H : Hp) (Q : VK) (E : XK) (h : sp_l_given T vs H Q E) : t_l_given T { nx := fun _ H' => Q .non H', rt := Q } (start ["_law_real", "_law_some", "_law_writer"] vs) H := by
  obtain ⟨a, d, c, xs, rfl, hc, hd, hl, hx, q⟩ := h
  have ok := hc.1
  unfold t_l_given
  walk_at "rd"
  refine ⟨rfl, rfl, fun W dx nW ndx nex => ?_⟩
  have e1 := same_mut (o := .ins T.C_Writer dx []) (same_new (o := .own W) ndx) nW
  refine ⟨W, a, dx, c, rfl, upd_same, hc.same e1, fun H1 st b1 hW1 hst1 nst1 => ⟨rfl, ?_⟩⟩
  have s1 : Same H H1 := same_mutB nW e1 b1
  obtain ⟨dxW, ew⟩ := id hW1
  walk_at "rd"
  refine r_callOS rfl ?_
  walk_at "rd"
  refine ⟨⟨_, _, ew⟩, W, a, st, 0, false, c, w0, _, rfl, hW1, hc.same s1, hst1, wk0 ok, .inr ⟨rfl, d, xs, rfl, .inl (s1 _ _ hd), hl, hx, fun H2 st2 b2 hW2 hst2 hor => ?_⟩⟩
  obtain ⟨dxW2, ew2⟩ := id hW2
  have s2 : Same H H2 := same_mutB nW s1 b2
  walk_at "rd"
  refine r_propI rfl ew2 ?_
  refine ⟨W, a, st2, _, false, rfl, hW2, ?_⟩
  walk_at "rd"
  refine And.intro (by show 2 ≤ sizeLine; decide) fun R nR => ?_
  exact q R st2 _ _ (s2.trans (same_new nR)) upd_same (same_new nR _ _ hst2)
theorem ok_l_given (T : Txt K mg) : FnOk P w K mg base CX0 8 T.l_given_a T.l_given_d ["_law_real", "_law_some"] (sp_l_given T) := by
  refine T.l_given_f.ok sc_l_given (fun vs H Q E h => len_l_given T vs H Q E h) (fun cdv A outer s H vs Q E hr h => ⟨t_l_given T, PSs.nox ?_, pure_l_given T vs H Q E h⟩)
  have hu := hu64 hr
  exact (pss_cons (ps_set (i := 2) sc_l_given.nd rfl (.inl rfl) (pe_makeK T.C_Writer_m (ok_Writer___init__ T) (hr.mono (by decide)) (by rfl) T.C_Writer_g T.Writer___init___k1_.choose_spec pass0 (pa_cons (pv 0) pa_nil) pk_nil))
      (pss_one (ps_ret (pe_tup (pa_cons (pe_callOS (pv 2) (callO_of T.Writer___call___m T.Writer___call___f) (ok_Writer___call__ T) (hr.mono (by decide)) T.Writer___call___b passLS (pa_cons (pv 1) pa_nil)) (pa_cons (pe_prop (pv 2) T.C_Writer_c T.Writer_state_p (ok_Writer_state T) (hr.mono (by decide)) T.Writer_state_b .nil pass0 rfl) pa_nil))))))

def sp_l_right (T : Txt K mg) : Sp := fun vs H Q _ => ∃ (b p a d : Addr) (c : CodeD) (xs : List Int) (n : Nat), vs = [.ref b, .ref p, .ref a, .ref d] ∧ BagAt H b (n + 600) ∧ TupC H p c ∧ c.New ∧ CodeAt T H a c ∧ H d = some (.lst (xs.map V.int)) ∧ p ≠ b ∧ d ≠ b ∧ xs.length ≤ 100 ∧ Byts xs ∧
  ∀ H', SameB b H H' → BagAt H' b n → Q (.bl true) H'
theorem len_l_right (T : Txt K mg) (vs : List V) (H : Hp) (Q : VK) (E : XK) (h : sp_l_right T vs H Q E) : vs.length = 4 := by
  obtain ⟨_, _, _, _, _, _, _, rfl, _⟩ := h
  rfl
def t_l_right (T : Txt K mg) : TS := (tSeq (tPar 4 5 (tCons (tMakeK T.C_Writer 1 ([] : List Str).length (sp_Writer___init__ T) (fun vs zs => vs ++ zs) E0 (tCons (tVar 2) tNil) tNil) (tCons (tLst tNil) tNil)))
    (tSeq (tIfS (tTest (tOp (rNeU K) (tCB (rRepr K) (tCons (tProp T.C_Writer (sp_Writer_state T) [] E0 (tVar 4)) tNil)) (tCB (rRepr K) (tCons (tTup (tCons (tC (.str (Str.ofString ""))) (tCons (tC (.int 0)) (tCons (tC (.int 0)) tNil)))) tNil)))) (tRet (tC (.bl false))) tNext)
    (tSeq (tFor (iSeqU K (tCall (sp_l_pieces T) [] E0 (tCons (tVar 0) (tCons (tVar 3) tNil)))) (gName 6) (tSeq (tDrop (tCallOS T.C_Writer (sp_Writer___call__ T) (fun _ => E0) (tVar 4) (tCons (tVar 6) tNil)))
    (tSeq (tAsg (tOp (rAddU K) (tVar 5) (tVar 6)) (gName 5))
    (tIfS (tTest (tOp (rNeU K) (tCB (rRepr K) (tCons (tProp T.C_Writer (sp_Writer_state T) [] E0 (tVar 4)) tNil)) (tCB (rRepr K) (tCons (tCall (sp_l_state T) [] E0 (tCons (tVar 1) (tCons (tVar 5) tNil))) tNil)))) (tRet (tC (.bl false))) tNext))))
    (tRet (tAndV (tOp (rEqU K) (tVar 5) (tVar 3)) (tOp (rEqU K) (tOp (rIx K) (tCall (sp_l_given T) [] E0 (tCons (tVar 2) (tCons (tVar 3) tNil))) (tC (.int 1))) (tProp T.C_Writer (sp_Writer_state T) [] E0 (tVar 4))))))))

theorem pure_l_right (T : Txt K mg) (vs : List V) (H : Hp) (Q : VK) (E : XK) (h : sp_l_right T vs H Q E) : t_l_right T { nx := fun _ H' => Q .non H', rt := Q } (start ["_law_bag_here", "_law_code_here", "_law_real", "_law_some", "_law_writer", "_law_before", "_law_piece"] vs) H := by
  obtain ⟨b, p, a, d, c, xs, n, rfl, hB, hp, nw, hc, hd, pb, db, hl, hx, q⟩ := h
  have ok := nw.1
  unfold t_l_right
  walk_at "rd"
  refine ⟨rfl, rfl, fun W dx nW ndx nex => ?_⟩
  have e1 := same_mut (o := .ins T.C_Writer dx []) (same_new (o := .own W) ndx) nW
  refine ⟨W, a, dx, c, rfl, upd_same, hc.same e1, fun H1 st b1 hW1 hst1 nst1 => ⟨rfl, ?_⟩⟩
  have s1 : Same H H1 := same_mutB nW e1 b1
  have Wb : W ≠ b := hB.ne nW
  walk_at "rd"
  refine And.intro (Nat.zero_le _) fun d0 nd0 => ?_
  generalize hg : upd H1 d0 _ = H2
  have s2 := same_of hg nd0
  have v2 : H2 d0 = some (.lst (([] : List Int).map V.int)) := at_of hg
  clear hg
  have d0b : d0 ≠ b := (hB.same s1).ne nd0
  have hW2 := hW1.same s2
  have hst2 := s2 _ _ hst1
  obtain ⟨dxW2, ew2⟩ := id hW2
  walk_at "rd"
  refine r_propI rfl ew2 ?_
  refine ⟨W, a, st, _, false, rfl, hW2, ?_⟩
  walk_at "rd"
  refine r_reprSt (s := w0) hst2 (fun x h => nomatch h) (by decide) (by decide) (by decide) ?_
  walk_at "rd"
  refine And.intro (by show 3 ≤ sizeLine; decide) fun t0 nt0 => ?_
  generalize hg : upd H2 t0 _ = H3
  have s3 := same_of hg nt0
  have v3 : SAt H3 t0 w0 := at_of hg
  clear hg
  walk_at "rd"
  refine r_reprSt (s := w0) v3 (fun x h => nomatch h) (by decide) (by decide) (by decide) ?_
  walk_at "rd"
  rw [decide_eq_true rfl]
  walk_at "rd"
  have S3 : Same H H3 := s1.trans (s2.trans s3)
  have hB3 := hB.same S3
  refine r_iseqL ?_
  walk_at "rd"
  refine ⟨b, d, n, xs, rfl, hB3, S3 _ _ hd, db, by omega, fun lr as xss HB sb hb hlr hPL hfl hln lrb => ?_⟩
  have SB : SameB b H HB := fun x o nx h => sb _ _ nx (S3 _ _ h)
  have hcB : CodeAt T HB a c := code_sameB hc hB SB
  have hpB : TupC HB p c := SB _ _ pb hp
  have hdB := SB _ _ db hd
  have hWB : WrAt T HB W a st 0 false := by
    obtain ⟨dxx, e⟩ := hW2.same s3
    exact ⟨dxx, sb _ _ Wb e⟩
  have stb : st ≠ b := by
    obtain ⟨dB, mB, cB, BB, eB⟩ := id hB3
    exact ne_ob (s3 _ _ hst2) eB fun z => nomatch z
  have hstB : SAt HB st w0 := sb _ _ stb (s3 _ _ hst2)
  have vB := sb _ _ d0b (s3 _ _ v2)
  refine ⟨lr, rfl, ⟨_, ql hlr⟩, ?_⟩
  have wB : ∃ o, HB W = some o := by
    obtain ⟨dxx, e⟩ := hWB
    exact ⟨_, e⟩
  have bit : ∀ k, Byts (xss.take k).flatten := fun k z hz => by
    obtain ⟨l, hl, hz⟩ := List.mem_flatten.mp hz
    exact hx z (by rw [← hfl]; exact List.mem_flatten.mpr ⟨l, List.mem_of_mem_take hl, hz⟩)
  refine f_it (walk_list (K := K) (a := lr) (xs := as.map V.ref)) (fun k σ G => ∃ (st dn : Addr), ∃ v6, σ = [some (.ref b), some (.ref p), some (.ref a), some (.ref d), some (.ref W), some (.ref dn), v6] ∧ SameB W HB G ∧ WrAt T G W a st (xss.take k).flatten.length false ∧ SAt G st (wrun c (xss.take k).flatten) ∧ G dn = some (.lst ((xss.take k).flatten.map V.int)))
    ⟨st, d0, _, rfl, fun x o _ h => h, hWB, hstB, vB⟩ (fun k σ G _ h => by
      obtain ⟨_, _, _, _, s, _⟩ := h
      obtain ⟨o, e⟩ := wB
      exact ql (s _ _ (ne_ob hlr e (by obtain ⟨dxx, e'⟩ := hWB; rw [e'] at e; cases e; exact fun z => nomatch z)) hlr)) ?_ ?_
  · rintro k x σ G G' hk ⟨st, dn, v6, rfl, sG, hW, hst, hdn⟩ ⟨rfl, hx'⟩
    rw [List.getElem?_map] at hx'
    obtain ⟨pa, hpa, rfl⟩ := Option.map_eq_some_iff.mp hx'
    have hk' : k < xss.length := by
      rw [← hPL.ln]
      exact (List.getElem?_eq_some_iff.mp hpa).1
    obtain ⟨ys, hk2⟩ : ∃ ys, xss[k]? = some ys := ⟨_, List.getElem?_eq_getElem hk'⟩
    have hpaB := hPL.at_ k pa ys hpa hk2
    obtain ⟨dxB, ewB⟩ := id hWB
    have npw : pa ≠ W := ne_ob hpaB ewB fun z => nomatch z
    have hpaG := sG _ _ npw hpaB
    have ef : (xss.take (k + 1)).flatten = (xss.take k).flatten ++ ys := by rw [List.take_add_one, hk2, List.flatten_append]; simp
    have lk := flat_split xss (k + 1)
    rw [hfl] at lk
    have lk2 : (xss.take (k + 1)).flatten.length = (xss.take k).flatten.length + ys.length := by rw [ef, List.length_append]
    have bys : Byts ys := fun z hz => bit (k + 1) z (by rw [ef]; exact List.mem_append_right _ hz)
    obtain ⟨dxW, ew⟩ := id hW
    have hcG := hcB.sameW sG ewB rfl
    have W1 : Wok c (wrun c (xss.take k).flatten) := (wk0 ok).go ok _
    have W2 : Wok c (wrun c (xss.take (k + 1)).flatten) := (wk0 ok).go ok _
    have cl2 := run_col ok (xss.take (k + 1)).flatten
    have w76 := ok.wd76
    have b6 := ok.b6
    have gl : grp c.sb ≤ 8 := by
      have h1 := ok.b1
      have e : c.sb = 1 ∨ c.sb = 2 ∨ c.sb = 3 ∨ c.sb = 4 ∨ c.sb = 5 ∨ c.sb = 6 := by omega
      rcases e with e | e | e | e | e | e <;> (rw [e]; decide)
    have l1 := W2.bl
    have l2 := W2.snl
    walk_at "rd"
    refine r_callOS rfl ?_
    walk_at "rd"
    refine ⟨⟨_, _, ew⟩, W, a, st, _, false, c, wrun c (xss.take k).flatten, _, rfl, hW, hcG, hst, W1.wk, .inr ⟨rfl, pa, ys, rfl, .inl hpaG, by omega, bys, fun H4 st' b4 hW4 hst4 hor => ?_⟩⟩
    have hst4' : SAt H4 st' (wrun c (xss.take (k + 1)).flatten) := by
      rw [ef, wrun_go, wgo_app, ← wrun_go]
      exact hst4
    have hdn4 := b4 _ _ (ne_ob hdn ew fun z => nomatch z) hdn
    have hpa4 := b4 _ _ npw hpaG
    rw [← lk2] at hW4
    walk_at "rd"
    refine r_addUL hdn4 hpa4 (by rw [List.length_map, List.length_map]; exact smallS (by omega)) fun d' nd' => ?_
    generalize hg : upd H4 d' _ = H5
    have s5 := same_of hg nd'
    have v5 : H5 d' = some (.lst ((xss.take (k + 1)).flatten.map V.int)) := by rw [ef, List.map_append]; exact at_of hg
    clear hg
    have hW5 := hW4.same s5
    have hst5 := s5 _ _ hst4'
    obtain ⟨dxW5, ew5⟩ := id hW5
    have sG5 : SameB W HB H5 := fun x o nx h => s5 _ _ (b4 _ _ nx (sG _ _ nx h))
    have hp5 : TupC H5 p c := sG5 _ _ (ne_ob hpB ewB fun z => nomatch z) hpB
    walk_at "rd"
    refine r_propI rfl ew5 ?_
    refine ⟨W, a, st', _, false, rfl, hW5, ?_⟩
    walk_at "rd"
    refine r_reprSt (s := wrun c (xss.take (k + 1)).flatten) hst5 W2.bits (by omega) (by omega) (by omega) ?_
    walk_at "rd"
    refine ⟨p, d', c, (xss.take (k + 1)).flatten, rfl, hp5, ok, v5, by omega, bit _, fun r6 H6 s6 hr6 => ?_⟩
    walk_at "rd"
    refine r_reprSt (s := wrun c (xss.take (k + 1)).flatten) hr6 W2.bits (by omega) (by omega) (by omega) ?_
    walk_at "rd"
    rw [decide_eq_true rfl]
    walk_at "rd"
    exact ⟨st', d', _, rfl, fun x o nx h => s6 _ _ (sG5 _ _ nx h), hW5.same s6, s6 _ _ hst5, s6 _ _ v5⟩
  rintro σ G ⟨st, dn, v6, rfl, sG, hW, hst, hdn⟩
  have ft : (xss.take (as.map V.ref).length).flatten = xs := by
    rw [List.length_map, hPL.ln, List.take_length, hfl]
  rw [ft] at hW hst hdn
  obtain ⟨dxB, ewB⟩ := id hWB
  obtain ⟨dxW, ew⟩ := id hW
  have hdG := sG _ _ (ne_ob hdB ewB fun z => nomatch z) hdB
  have hcG := hcB.sameW sG ewB rfl
  have W2 : Wok c (wrun c xs) := (wk0 ok).go ok _
  walk_at "rd"
  refine r_eqLL hdn hdG (by omega) ?_
  walk_at "rd"
  refine ⟨a, d, c, xs, rfl, hcG, hdG, by omega, hx, fun r st2 t H4 s4 hr hst4 => ?_⟩
  walk_at "rd"
  refine r_propI rfl (s4 _ _ ew) ?_
  refine ⟨W, a, st, _, false, rfl, hW.same s4, ?_⟩
  walk_at "rd"
  refine r_eqSt hst4 (s4 _ _ hst) W2.bits ?_
  refine q _ (fun x o nx h => ?_) ?_
  · by_cases e : x = W
    · rw [e, nW] at h
      cases h
    · exact s4 _ _ (sG _ _ e (SB _ _ nx h))
  · obtain ⟨dB, mB, cB, BB, eB⟩ := hb
    exact ⟨dB, mB, cB, BB, s4 _ _ (sG _ _ Wb.symm eB)⟩
theorem ok_l_right (T : Txt K mg) : FnG P w K mg base CX0 9 T.l_right_a T.l_right_d ["_law_bag_here", "_law_code_here", "_law_real", "_law_some"] (sp_l_right T) := by
  refine fnG_ok T.l_right_f sc_l_right (fun vs H Q E h => len_l_right T vs H Q E h) (fun cdv A outer s H vs Q E hG hr h => ⟨t_l_right T, PSs.nox ?_, pure_l_right T vs H Q E h⟩)
  have hu := hu64 hr
  exact (pss_cons (ps_par (i := 4) (j := 5) (by rfl) sc_l_right.nd rfl rfl (by decide) rfl rfl (pa_cons (pe_makeK T.C_Writer_m (ok_Writer___init__ T) (hr.mono (by decide)) (by rfl) T.C_Writer_g T.Writer___init___k1_.choose_spec pass0 (pa_cons (pv 2) pa_nil) pk_nil) (pa_cons (pe_lst pa_nil) pa_nil)) (by rfl))
      (pss_cons (ps_if (pt_cmpR (op_neU hu) (pe_callB (c_repr hG hu) (by rfl) T.n_repr (by decide +kernel) (pa_cons (pe_prop (pv 4) T.C_Writer_c T.Writer_state_p (ok_Writer_state T) (hr.mono (by decide)) T.Writer_state_b .nil pass0 rfl) pa_nil)) (pe_callB (c_repr hG hu) (by rfl) T.n_repr (by decide +kernel) (pa_cons (pe_tup (pa_cons pe_str (pa_cons pe_int (pa_cons pe_int pa_nil)))) pa_nil)) (nomark _)) (pss_one (ps_ret pe_bl)) pss_nil)
      (pss_cons (ps_for PassesOwn.never rfl (pi_seqU (pe_call (ok_l_pieces T) (hr.mono (by decide)) (by rfl) T.l_pieces_g T.l_pieces_f.kp T.l_pieces_b .nil pass0 (pa_cons (pv 0) (pa_cons (pv 3) pa_nil)))) (pg_name (i := 6) sc_l_right.nd rfl (.inl rfl)) (pss_cons (ps_expr (pe_callOS (pv 4) (callO_of T.Writer___call___m T.Writer___call___f) (ok_Writer___call__ T) (hr.mono (by decide)) T.Writer___call___b passLS (pa_cons (pv 6) pa_nil)))
      (pss_cons (ps_set (i := 5) sc_l_right.nd rfl (.inl rfl) (pe_op op_addU (pv 5) (pv 6)))
      (pss_one (ps_if (pt_cmpR (op_neU hu) (pe_callB (c_repr hG hu) (by rfl) T.n_repr (by decide +kernel) (pa_cons (pe_prop (pv 4) T.C_Writer_c T.Writer_state_p (ok_Writer_state T) (hr.mono (by decide)) T.Writer_state_b .nil pass0 rfl) pa_nil)) (pe_callB (c_repr hG hu) (by rfl) T.n_repr (by decide +kernel) (pa_cons (pe_call (ok_l_state T) (hr.mono (by decide)) (by rfl) T.l_state_g T.l_state_f.kp T.l_state_b .nil pass0 (pa_cons (pv 1) (pa_cons (pv 5) pa_nil))) pa_nil)) (nomark _)) (pss_one (ps_ret pe_bl)) pss_nil)))))
      (pss_one (ps_ret (pe_and (pe_cmpR (op_eqU hu) (pv 5) (pv 3) (nomark _)) (pe_one (pe_cmpR (op_eqU hu) (pe_ix ix_seq (pe_call (ok_l_given T) (hr.mono (by decide)) (by rfl) T.l_given_g T.l_given_f.kp T.l_given_b .nil pass0 (pa_cons (pv 2) (pa_cons (pv 3) pa_nil))) pe_int (fun _ _ => rfl)) (pe_prop (pv 4) T.C_Writer_c T.Writer_state_p (ok_Writer_state T) (hr.mono (by decide)) T.Writer_state_b .nil pass0 rfl) (nomark _)))))))))


end
section
variable {w : World} {K : PySem.W.Frag} {mg : Str → Option Value} {base : Heap}
local macro_rules | `(tactic| walk_at "hc") => `(tactic| first
  | assumption
  | ((refine CodeAt.same (H := ?xH) ?xb ?xa); (case xa => assumption); (case xb => walk_at "hc")))
local macro_rules | `(tactic| walk_at "rd0") => `(tactic| first
  | ((with_reducible refine r_get (a := ?xa) (c := ?xc) ?x1 ?x2 ?_); (case x1 => rfl); (case x2 => walk_at "hc"))
  | ((with_reducible refine r_methC (a := ?xa) (c := ?xc) ?x1 ?x2 ?x3 ?_); (case x1 => rfl); (case x2 => walk_at "hc"); (case x3 => (intro _ _ _; rfl)))
  | (with_reducible refine r_fmtB ?_)
  | (with_reducible refine r_dget ?_)
  | (with_reducible refine r_m0 ?_)
  | (with_reducible refine r_makeK ?_)
  | (with_reducible refine r_cval ?_)
  | (with_reducible refine r_sfld ?_)
  | (with_reducible refine r_isiI ?_)
  | (with_reducible refine r_isiIB ?_)
  | (with_reducible refine r_isiS ?_)
  | (with_reducible refine r_inID ?_))

def sp_law (T : Txt K mg) : Sp := fun vs H Q _ => ∃ (a : Addr) (ns : List Int), vs = [.ref a] ∧ SqL K H a (ns.map V.int) ∧ ns.length ≤ 63 ∧ ∀ H', Q (.bl true) H'
theorem len_law (T : Txt K mg) (vs : List V) (H : Hp) (Q : VK) (E : XK) (h : sp_law T vs H Q E) : vs.length = 1 := by
  obtain ⟨_, _, rfl, _⟩ := h
  rfl
def t_law (T : Txt K mg) : TS := (tSeq (tFor (iRng1 (tCons (tCB rMax2 (tCons (tC (.int 2)) (tCons (tCB rMin2 (tCons (tC (.int 6)) (tCons (tCB (rLenU K) (tCons (tVar 0) tNil)) tNil))) tNil))) tNil)) (gName 1) (tSeq (tAsg (tCall (sp_l_bag T) [] E0 (tCons (tVar 0) (tCons (tVar 1) tNil))) (gName 2))
    (tFor (iRng1 (tCons (tC (.int 10)) tNil)) (gName 3) (tSeq (tAsg (tCall (sp_l_code T) [] E0 (tCons (tVar 2) tNil)) (gName 4))
    (tIfS (tNot (tB (tCall (sp_l_right T) [] E0 (tCons (tVar 2) (tCons (tVar 4) (tCons (tCall (sp_l_made T) [] E0 (tCons (tVar 4) tNil)) (tCons (tCall (sp_l_data T) [] E0 (tCons (tVar 2) (tCons (tC (.int 40)) tNil))) tNil))))))) (tRet (tC (.bl false))) tNext)))))
    (tRet (tC (.bl true))))

theorem pure_law (T : Txt K mg) (vs : List V) (H : Hp) (Q : VK) (E : XK) (h : sp_law T vs H Q E) : t_law T { nx := fun _ H' => Q .non H', rt := Q } (start ["_law_script", "_law_at", "_law_bag_here", "_law_turn", "_law_code_here"] vs) H := by
  obtain ⟨a, ns, rfl, hS, hn, q⟩ := h
  unfold t_law
  walk_at "rd"
  generalize hc : (if (if ((List.map V.int ns).length : Int) < 6 then ((List.map V.int ns).length : Int) else 6) > 2 then (if ((List.map V.int ns).length : Int) < 6 then ((List.map V.int ns).length : Int) else 6) else 2) = cnt
  obtain ⟨cn, rfl, hcn⟩ : ∃ m : Nat, cnt = m ∧ m ≤ 6 := by
    refine ⟨cnt.toNat, ?_, ?_⟩
    · rw [← hc]; split <;> split <;> omega
    · rw [← hc]; split <;> split <;> omega
  refine r_one ⟨by omega, by omega⟩ ?_
  refine f_it (walk_range (lo := 0) (n := cn)) (fun i σ G => ∃ v1 v2 v3 v4, σ = [some (.ref a), v1, v2, v3, v4] ∧ Same H G)
    ⟨_, _, _, _, rfl, Same.refl H⟩ (fun _ _ _ _ _ => trivial) ?_ ?_
  rotate_left
  · rintro σ G ⟨v1, v2, v3, v4, rfl, s⟩
    walk_at "rd"
    exact q G
  rintro i x σ G G' hi ⟨v1, v2, v3, v4, rfl, s⟩ ⟨rfl, rfl⟩
  walk_at "rd"
  refine ⟨a, ns, i, by simp, s.seq hS, hn, by omega, fun b H0 s0 nb hb0 => ?_⟩
  walk_at "rd"
  refine r_one ⟨by decide, by decide⟩ ?_
  refine f_it (walk_range (lo := 0) (n := (10 : Int).toNat)) (fun j σ G => ∃ v3 v4, σ = [some (.ref a), some (.int (0 + (i : Int))), some (.ref b), v3, v4] ∧ Same G' G ∧ BagAt G b (1000000 - 2000 * j))
    ⟨_, _, rfl, s0, hb0⟩ (fun _ _ _ _ _ => trivial) ?_ ?_
  rotate_left
  · rintro σ G2 ⟨w3, w4, rfl, s2, hb⟩
    walk_at "rd"
    exact ⟨_, _, _, _, rfl, s.trans s2⟩
  rintro j x σ G2 G2' hj ⟨w3, w4, rfl, s2, hb⟩ ⟨rfl, rfl⟩
  have hj4 : j < 10 := hj
  walk_at "rd"
  refine ⟨b, 1000000 - 2000 * j - 10, rfl, hb.mono (by omega), fun p z d0 w0' H3 sb3 hb3 np hp0 hdr => ?_⟩
  have pb : p ≠ b := hb.ne np
  have S3 : Same G' H3 := same_mutB nb s2 sb3
  obtain ⟨⟨m, hm1, hm6, hzl⟩, hsz, hsp, hnd, hpl, hdj⟩ := hdr.1
  obtain ⟨c, new, hp⟩ : ∃ c : CodeD, c.New ∧ TupC H3 p c := ⟨⟨z, d0, w0', m⟩, ⟨⟨hm1, hm6, hzl, hsz, hsp, hpl, hdr.2⟩, hnd, hdj⟩, hp0⟩
  have ok := new.1
  walk_at "rd"
  refine ⟨p, c, rfl, hp, new, fun r H4 s4 nr hr => ?_⟩
  have hp4 : TupC H4 p c := s4 _ _ hp
  have hb4 := hb3.same s4
  walk_at "rd"
  refine ⟨b, 40, 1000000 - 2000 * j - 1010, rfl, hb4.mono (by omega), by decide, fun pd xs H7 hx1 hl1 npd hpd sb7 hb7 => ?_⟩
  have pdb : pd ≠ b := hb4.ne npd
  walk_at "rd"
  refine ⟨b, p, r, pd, c, xs, 1000000 - 2000 * j - 1610, rfl, hb7.mono (by omega), sb7 _ _ pb hp4, new, code_sameB hr hb4 sb7, hpd, pb, pdb, by omega, hx1, fun H8 sb8 hb8 => ?_⟩
  walk_at "rd"
  exact ⟨_, _, rfl, same_mutB nb (S3.trans s4) (fun x o nx h => sb8 _ _ nx (sb7 _ _ nx h)), hb8.mono (by omega)⟩
theorem ok_law (T : Txt K mg) : FnG P w K mg base CX0 10 T.law_a T.law_d ["_law_script"] (sp_law T) := by
  refine fnG_ok T.law_f sc_law (fun vs H Q E h => len_law T vs H Q E h) (fun cdv A outer s H vs Q E hG hr h => ⟨t_law T, PSs.nox ?_, pure_law T vs H Q E h⟩)
  have hu := hu64 hr
  exact (pss_cons (ps_for PassesOwn.never rfl (pi_range1 (by rfl) T.n_range (pa_cons (pe_callB (call_max2 rfl) (by rfl) T.n_max (by decide +kernel) (pa_cons pe_int (pa_cons (pe_callB (call_min2 rfl) (by rfl) T.n_min (by decide +kernel) (pa_cons pe_int (pa_cons (pe_callB c_lenU (by rfl) T.n_len (by decide +kernel) (pa_cons (pv 0) pa_nil)) pa_nil))) pa_nil))) pa_nil)) (pg_name (i := 1) sc_law.nd rfl (.inl rfl)) (pss_cons (ps_set (i := 2) sc_law.nd rfl (.inl rfl) (pe_call (ok_l_bag T) (hr.mono (by decide)) (by rfl) T.l_bag_g T.l_bag_f.kp T.l_bag_b .nil pass0 (pa_cons (pv 0) (pa_cons (pv 1) pa_nil))))
      (pss_one (ps_for PassesOwn.never rfl (pi_range1 (by rfl) T.n_range (pa_cons pe_int pa_nil)) (pg_name (i := 3) sc_law.nd rfl (.inl rfl)) (pss_cons (ps_set (i := 4) sc_law.nd rfl (.inl rfl) (pe_call (ok_l_code T) (hr.mono (by decide)) (by rfl) T.l_code_g T.l_code_f.kp T.l_code_b .nil pass0 (pa_cons (pv 2) pa_nil)))
      (pss_one (ps_if (pt_not (pt_val (pe_callG (ok_l_right T) hG (hr.mono (by decide)) (by rfl) T.l_right_g T.l_right_f.kp T.l_right_b .nil pass0 (pa_cons (pv 2) (pa_cons (pv 4) (pa_cons (pe_call (ok_l_made T) (hr.mono (by decide)) (by rfl) T.l_made_g T.l_made_f.kp T.l_made_b .nil pass0 (pa_cons (pv 4) pa_nil)) (pa_cons (pe_call (ok_l_data T) (hr.mono (by decide)) (by rfl) T.l_data_g T.l_data_f.kp T.l_data_b .nil pass0 (pa_cons (pv 2) (pa_cons pe_int pa_nil))) pa_nil))))))) (pss_one (ps_ret pe_bl)) pss_nil)))))))
      (pss_one (ps_ret pe_bl)))


end
section
variable {w : World} {K : PySem.W.Frag} {mg : Str → Option Value} {base : Heap}
theorem kb_Code___init___pad_width {fd : FuncData} {a : Addr} (F : FunD K "__init__" "Code.__init__" (defArgs s_Code___init__) (defBody s_Code___init__) (defScope s_Code___init__) [] [("pad", .str (Str.ofString "")), ("width", .int 0)] a fd) :
    ∃ g, KBn K fd ["self", "signs", "pad", "width"] 2 ["pad", "width"] g (fun vs zs => vs ++ zs) := by
  obtain ⟨mv, h⟩ := FunD.kbinds0 (ps := ["self", "signs", "pad", "width"]) F 2 ["pad", "width"] [] (fun a m z => a ++ z) (by simp) (by simp) (fun r1 r2 r3 => r1.append r3)
    (fun D doc pm an cdv ct us mv ws l1 l2 l3 => match us, mv, ws, l1, l2, l3 with | [_, _], [], [_, _], _, _, _ => rfl)
  exact ⟨_, h⟩
theorem kb_Writer___init___ {fd : FuncData} {a : Addr} (F : FunD K "__init__" "Writer.__init__" (defArgs s_Writer___init__) (defBody s_Writer___init__) (defScope s_Writer___init__) [] [] a fd) :
    ∃ g, KBn K fd ["self", "code"] 2 [] g (fun vs zs => vs ++ zs) := by
  have hb : Binds K fd ["self", "code"] [] := FunD.bindsN (ps := ["self", "code"]) F fun _ _ _ _ _ _ us hl => match us, hl with | [_, _], _ => rfl
  refine ⟨fun us ws => us ++ ws, ⟨fun s us ws X l1 l2 => ?_, fun r1 r2 => r1.append r2⟩⟩
  cases ws with
  | cons _ _ => cases l2
  | nil =>
    have := hb s us X (by rw [List.append_nil]; exact l1)
    exact this

theorem htxt {K : PySem.W.Frag} {h : Heap} {mg : Str → Option Value} {f : Addr} (X : K.In h) (G : h.Ns mainGlobals mg) (hfa : mg ("law" : Str) = some (.ref f)) (c : SaysN hfacts hdefs herrs K) :
    ∃ T : Txt K mg, T.law_a = f ∧ ∀ (s : Shared) (v : Value), BindsTo s T.law_d ⟨[v], []⟩ [("_law_script", v)] := by
  obtain ⟨fd_is_integer, F_is_integer⟩ := c.def_ 0 (d := d_is_integer) rfl
  obtain ⟨fd_is_within, F_is_within⟩ := c.def_ 1 (d := d_is_within) rfl
  obtain ⟨fd_is_byte, F_is_byte⟩ := c.def_ 2 (d := d_is_byte) rfl
  obtain ⟨fd_is_sign, F_is_sign⟩ := c.def_ 3 (d := d_is_sign) rfl
  obtain ⟨fd_are_signs, F_are_signs⟩ := c.def_ 4 (d := d_are_signs) rfl
  obtain ⟨fd_data_of, F_data_of⟩ := c.def_ 5 (d := d_data_of) rfl
  obtain ⟨fd_Code_signs, F_Code_signs⟩ := c.def_ 6 (d := d_Code_signs) rfl
  obtain ⟨fd_Code_width, F_Code_width⟩ := c.def_ 7 (d := d_Code_width) rfl
  obtain ⟨fd_Code_bits, F_Code_bits⟩ := c.def_ 8 (d := d_Code_bits) rfl
  obtain ⟨fd_Code_group, F_Code_group⟩ := c.def_ 9 (d := d_Code_group) rfl
  obtain ⟨fd_Code_begin, F_Code_begin⟩ := c.def_ 10 (d := d_Code_begin) rfl
  obtain ⟨fd_Code_is_full, F_Code_is_full⟩ := c.def_ 11 (d := d_Code_is_full) rfl
  obtain ⟨fd_Code_next_column, F_Code_next_column⟩ := c.def_ 12 (d := d_Code_next_column) rfl
  obtain ⟨fd_Code_placed, F_Code_placed⟩ := c.def_ 13 (d := d_Code_placed) rfl
  obtain ⟨fd_Code_write, F_Code_write⟩ := c.def_ 14 (d := d_Code_write) rfl
  obtain ⟨fd_Code___init__, F_Code___init__⟩ := c.def_ 15 (d := d_Code___init__) rfl
  obtain ⟨fd_passed, F_passed⟩ := c.def_ 16 (d := d_passed) rfl
  obtain ⟨fd_Writer_need_open, F_Writer_need_open⟩ := c.def_ 17 (d := d_Writer_need_open) rfl
  obtain ⟨fd_Writer___init__, F_Writer___init__⟩ := c.def_ 18 (d := d_Writer___init__) rfl
  obtain ⟨fd_Writer_state, F_Writer_state⟩ := c.def_ 19 (d := d_Writer_state) rfl
  obtain ⟨fd_Writer___call__, F_Writer___call__⟩ := c.def_ 20 (d := d_Writer___call__) rfl
  obtain ⟨fd_l_bag, F_l_bag⟩ := c.def_ 21 (d := d_l_bag) rfl
  obtain ⟨fd_l_take, F_l_take⟩ := c.def_ 22 (d := d_l_take) rfl
  obtain ⟨fd_l_of, F_l_of⟩ := c.def_ 23 (d := d_l_of) rfl
  obtain ⟨fd_l_all_signs, F_l_all_signs⟩ := c.def_ 24 (d := d_l_all_signs) rfl
  obtain ⟨fd_l_code, F_l_code⟩ := c.def_ 25 (d := d_l_code) rfl
  obtain ⟨fd_l_made, F_l_made⟩ := c.def_ 26 (d := d_l_made) rfl
  obtain ⟨fd_l_size, F_l_size⟩ := c.def_ 27 (d := d_l_size) rfl
  obtain ⟨fd_l_group, F_l_group⟩ := c.def_ 28 (d := d_l_group) rfl
  obtain ⟨fd_l_data, F_l_data⟩ := c.def_ 29 (d := d_l_data) rfl
  obtain ⟨fd_l_bits, F_l_bits⟩ := c.def_ 30 (d := d_l_bits) rfl
  obtain ⟨fd_l_pieces, F_l_pieces⟩ := c.def_ 31 (d := d_l_pieces) rfl
  obtain ⟨fd_l_given, F_l_given⟩ := c.def_ 32 (d := d_l_given) rfl
  obtain ⟨fd_l_state, F_l_state⟩ := c.def_ 33 (d := d_l_state) rfl
  obtain ⟨fd_l_right, F_l_right⟩ := c.def_ 34 (d := d_l_right) rfl
  obtain ⟨fd_law, F_law⟩ := c.def_ 35 (d := d_law) rfl
  have XF_Closed := c.err 0 (d := eN_Closed) rfl
  have g_law := He.glo_ok X G (c.fact 39 (f := fFa (.glo "law")) rfl)
  have e := hfa.symm.trans g_law
  cases e
  obtain ⟨t_PRINTED, h_PRINTED⟩ := He.str_ok X G (c.fact 49 (f := fFa (.str "PRINTED" " !\"#$&'()*+,-./0123456789:;<=>?@ABCDEFGHIJKLMNOPQRSTUVWXYZ[\\]^_`abcdefghijklmnopqrstuvwxyz{|}~")) rfl)
  obtain ⟨t_MOST_BYTES, h_MOST_BYTES⟩ := He.int_ok X G (c.fact 50 (f := fFa (.int "MOST_BYTES" 600)) rfl)
  obtain ⟨t_NEWLINE, h_NEWLINE⟩ := He.str_ok X G (c.fact 53 (f := fFa (.str "NEWLINE" "\n")) rfl)
  refine ⟨{
    C_Code := He.ga K "Code"
    C_Code_g := He.glo_ok X G (c.fact 0 (f := fFa (.glo "Code")) rfl)
    C_Code_c := He.cls_ok (c.fact 1 (f := fFa (.cls "Code")) rfl)
    C_Writer := He.ga K "Writer"
    C_Writer_g := He.glo_ok X G (c.fact 2 (f := fFa (.glo "Writer")) rfl)
    C_Writer_c := He.cls_ok (c.fact 3 (f := fFa (.cls "Writer")) rfl)
    is_integer_a := _
    is_integer_d := fd_is_integer
    is_integer_f := F_is_integer
    is_integer_g := He.glo_ok X G (c.fact 4 (f := fFa (.glo "is_integer")) rfl)
    is_integer_b := FunD.bindsN (ps := ["value"]) F_is_integer fun _ _ _ _ _ _ us hl => match us, hl with | [_], _ => rfl
    is_within_a := _
    is_within_d := fd_is_within
    is_within_f := F_is_within
    is_within_g := He.glo_ok X G (c.fact 5 (f := fFa (.glo "is_within")) rfl)
    is_within_b := FunD.bindsN (ps := ["value", "low", "high"]) F_is_within fun _ _ _ _ _ _ us hl => match us, hl with | [_, _, _], _ => rfl
    is_byte_a := _
    is_byte_d := fd_is_byte
    is_byte_f := F_is_byte
    is_byte_g := He.glo_ok X G (c.fact 6 (f := fFa (.glo "is_byte")) rfl)
    is_byte_b := FunD.bindsN (ps := ["value"]) F_is_byte fun _ _ _ _ _ _ us hl => match us, hl with | [_], _ => rfl
    is_sign_a := _
    is_sign_d := fd_is_sign
    is_sign_f := F_is_sign
    is_sign_g := He.glo_ok X G (c.fact 7 (f := fFa (.glo "is_sign")) rfl)
    is_sign_b := FunD.bindsN (ps := ["value"]) F_is_sign fun _ _ _ _ _ _ us hl => match us, hl with | [_], _ => rfl
    are_signs_a := _
    are_signs_d := fd_are_signs
    are_signs_f := F_are_signs
    are_signs_g := He.glo_ok X G (c.fact 8 (f := fFa (.glo "are_signs")) rfl)
    are_signs_b := FunD.bindsN (ps := ["value"]) F_are_signs fun _ _ _ _ _ _ us hl => match us, hl with | [_], _ => rfl
    data_of_a := _
    data_of_d := fd_data_of
    data_of_f := F_data_of
    data_of_g := He.glo_ok X G (c.fact 9 (f := fFa (.glo "data_of")) rfl)
    data_of_b := FunD.bindsN (ps := ["value"]) F_data_of fun _ _ _ _ _ _ us hl => match us, hl with | [_], _ => rfl
    Code_signs_a := _
    Code_signs_d := fd_Code_signs
    Code_signs_f := F_Code_signs
    Code_signs_q := _
    Code_signs_p := fProp_ok (c.fact 10 (f := fProp "Code" "signs") rfl)
    Code_signs_b := FunD.bindsN (ps := ["self"]) F_Code_signs fun _ _ _ _ _ _ us hl => match us, hl with | [_], _ => rfl
    Code_width_a := _
    Code_width_d := fd_Code_width
    Code_width_f := F_Code_width
    Code_width_q := _
    Code_width_p := fProp_ok (c.fact 11 (f := fProp "Code" "width") rfl)
    Code_width_b := FunD.bindsN (ps := ["self"]) F_Code_width fun _ _ _ _ _ _ us hl => match us, hl with | [_], _ => rfl
    Code_bits_a := _
    Code_bits_d := fd_Code_bits
    Code_bits_f := F_Code_bits
    Code_bits_q := _
    Code_bits_p := fProp_ok (c.fact 12 (f := fProp "Code" "bits") rfl)
    Code_bits_b := FunD.bindsN (ps := ["self"]) F_Code_bits fun _ _ _ _ _ _ us hl => match us, hl with | [_], _ => rfl
    Code_group_a := _
    Code_group_d := fd_Code_group
    Code_group_f := F_Code_group
    Code_group_q := _
    Code_group_p := fProp_ok (c.fact 13 (f := fProp "Code" "group") rfl)
    Code_group_b := FunD.bindsN (ps := ["self"]) F_Code_group fun _ _ _ _ _ _ us hl => match us, hl with | [_], _ => rfl
    Code_begin_a := _
    Code_begin_d := fd_Code_begin
    Code_begin_f := F_Code_begin
    Code_begin_m := He.meth_ok (c.fact 14 (f := fFa (.meth "Code" "begin")) rfl)
    Code_begin_b := FunD.bindsN (ps := ["self"]) F_Code_begin fun _ _ _ _ _ _ us hl => match us, hl with | [_], _ => rfl
    Code_is_full_a := _
    Code_is_full_d := fd_Code_is_full
    Code_is_full_f := F_Code_is_full
    Code_is_full_m := He.meth_ok (c.fact 15 (f := fFa (.meth "Code" "is_full")) rfl)
    Code_is_full_b := FunD.bindsN (ps := ["self", "column"]) F_Code_is_full fun _ _ _ _ _ _ us hl => match us, hl with | [_, _], _ => rfl
    Code_next_column_a := _
    Code_next_column_d := fd_Code_next_column
    Code_next_column_f := F_Code_next_column
    Code_next_column_m := He.meth_ok (c.fact 16 (f := fFa (.meth "Code" "next_column")) rfl)
    Code_next_column_b := FunD.bindsN (ps := ["self", "column"]) F_Code_next_column fun _ _ _ _ _ _ us hl => match us, hl with | [_, _], _ => rfl
    Code_placed_a := _
    Code_placed_d := fd_Code_placed
    Code_placed_f := F_Code_placed
    Code_placed_m := He.meth_ok (c.fact 17 (f := fFa (.meth "Code" "placed")) rfl)
    Code_placed_b := FunD.bindsN (ps := ["self", "column", "sign"]) F_Code_placed fun _ _ _ _ _ _ us hl => match us, hl with | [_, _, _], _ => rfl
    Code_write_a := _
    Code_write_d := fd_Code_write
    Code_write_f := F_Code_write
    Code_write_m := He.meth_ok (c.fact 18 (f := fFa (.meth "Code" "write")) rfl)
    Code_write_b := FunD.bindsN (ps := ["self", "state", "byte"]) F_Code_write fun _ _ _ _ _ _ us hl => match us, hl with | [_, _, _], _ => rfl
    Code___init___a := _
    Code___init___d := fd_Code___init__
    Code___init___f := F_Code___init__
    C_Code_m := He.mkr_ok (c.fact 19 (f := fFa (.mkr "Code")) rfl)
    passed_a := _
    passed_d := fd_passed
    passed_f := F_passed
    passed_g := He.glo_ok X G (c.fact 20 (f := fFa (.glo "passed")) rfl)
    passed_b := FunD.bindsN (ps := ["code", "state", "data"]) F_passed fun _ _ _ _ _ _ us hl => match us, hl with | [_, _, _], _ => rfl
    Writer_need_open_a := _
    Writer_need_open_d := fd_Writer_need_open
    Writer_need_open_f := F_Writer_need_open
    Writer_need_open_m := He.meth_ok (c.fact 21 (f := fFa (.meth "Writer" "need_open")) rfl)
    Writer_need_open_b := FunD.bindsN (ps := ["self"]) F_Writer_need_open fun _ _ _ _ _ _ us hl => match us, hl with | [_], _ => rfl
    Writer___init___a := _
    Writer___init___d := fd_Writer___init__
    Writer___init___f := F_Writer___init__
    C_Writer_m := He.mkr_ok (c.fact 22 (f := fFa (.mkr "Writer")) rfl)
    Writer___init___b := FunD.bindsN (ps := ["self", "code"]) F_Writer___init__ fun _ _ _ _ _ _ us hl => match us, hl with | [_, _], _ => rfl
    Writer_state_a := _
    Writer_state_d := fd_Writer_state
    Writer_state_f := F_Writer_state
    Writer_state_q := _
    Writer_state_p := fProp_ok (c.fact 23 (f := fProp "Writer" "state") rfl)
    Writer_state_b := FunD.bindsN (ps := ["self"]) F_Writer_state fun _ _ _ _ _ _ us hl => match us, hl with | [_], _ => rfl
    Writer___call___a := _
    Writer___call___d := fd_Writer___call__
    Writer___call___f := F_Writer___call__
    Writer___call___m := He.meth_ok (c.fact 24 (f := fFa (.meth "Writer" "__call__")) rfl)
    Writer___call___b := FunD.bindsN (ps := ["self", "piece"]) F_Writer___call__ fun _ _ _ _ _ _ us hl => match us, hl with | [_, _], _ => rfl
    l_bag_a := _
    l_bag_d := fd_l_bag
    l_bag_f := F_l_bag
    l_bag_g := He.glo_ok X G (c.fact 25 (f := fFa (.glo "_law_bag")) rfl)
    l_bag_b := FunD.bindsN (ps := ["_law_script", "_law_at"]) F_l_bag fun _ _ _ _ _ _ us hl => match us, hl with | [_, _], _ => rfl
    l_take_a := _
    l_take_d := fd_l_take
    l_take_f := F_l_take
    l_take_g := He.glo_ok X G (c.fact 26 (f := fFa (.glo "_law_take")) rfl)
    l_take_b := FunD.bindsN (ps := ["_law_bag_here", "_law_many"]) F_l_take fun _ _ _ _ _ _ us hl => match us, hl with | [_, _], _ => rfl
    l_of_a := _
    l_of_d := fd_l_of
    l_of_f := F_l_of
    l_of_g := He.glo_ok X G (c.fact 27 (f := fFa (.glo "_law_of")) rfl)
    l_of_b := FunD.bindsN (ps := ["_law_bag_here", "_law_some"]) F_l_of fun _ _ _ _ _ _ us hl => match us, hl with | [_, _], _ => rfl
    l_all_signs_a := _
    l_all_signs_d := fd_l_all_signs
    l_all_signs_f := F_l_all_signs
    l_all_signs_g := He.glo_ok X G (c.fact 28 (f := fFa (.glo "_law_all_signs")) rfl)
    l_all_signs_b := FunD.bindsN (ps := []) F_l_all_signs fun _ _ _ _ _ _ us hl => match us, hl with | [], _ => rfl
    l_code_a := _
    l_code_d := fd_l_code
    l_code_f := F_l_code
    l_code_g := He.glo_ok X G (c.fact 29 (f := fFa (.glo "_law_code")) rfl)
    l_code_b := FunD.bindsN (ps := ["_law_bag_here"]) F_l_code fun _ _ _ _ _ _ us hl => match us, hl with | [_], _ => rfl
    l_made_a := _
    l_made_d := fd_l_made
    l_made_f := F_l_made
    l_made_g := He.glo_ok X G (c.fact 30 (f := fFa (.glo "_law_made")) rfl)
    l_made_b := FunD.bindsN (ps := ["_law_code_here"]) F_l_made fun _ _ _ _ _ _ us hl => match us, hl with | [_], _ => rfl
    l_size_a := _
    l_size_d := fd_l_size
    l_size_f := F_l_size
    l_size_g := He.glo_ok X G (c.fact 31 (f := fFa (.glo "_law_size")) rfl)
    l_size_b := FunD.bindsN (ps := ["_law_code_here"]) F_l_size fun _ _ _ _ _ _ us hl => match us, hl with | [_], _ => rfl
    l_group_a := _
    l_group_d := fd_l_group
    l_group_f := F_l_group
    l_group_g := He.glo_ok X G (c.fact 32 (f := fFa (.glo "_law_group")) rfl)
    l_group_b := FunD.bindsN (ps := ["_law_code_here"]) F_l_group fun _ _ _ _ _ _ us hl => match us, hl with | [_], _ => rfl
    l_data_a := _
    l_data_d := fd_l_data
    l_data_f := F_l_data
    l_data_g := He.glo_ok X G (c.fact 33 (f := fFa (.glo "_law_data")) rfl)
    l_data_b := FunD.bindsN (ps := ["_law_bag_here", "_law_most"]) F_l_data fun _ _ _ _ _ _ us hl => match us, hl with | [_, _], _ => rfl
    l_bits_a := _
    l_bits_d := fd_l_bits
    l_bits_f := F_l_bits
    l_bits_g := He.glo_ok X G (c.fact 34 (f := fFa (.glo "_law_bits")) rfl)
    l_bits_b := FunD.bindsN (ps := ["_law_data_here"]) F_l_bits fun _ _ _ _ _ _ us hl => match us, hl with | [_], _ => rfl
    l_pieces_a := _
    l_pieces_d := fd_l_pieces
    l_pieces_f := F_l_pieces
    l_pieces_g := He.glo_ok X G (c.fact 35 (f := fFa (.glo "_law_pieces")) rfl)
    l_pieces_b := FunD.bindsN (ps := ["_law_bag_here", "_law_some"]) F_l_pieces fun _ _ _ _ _ _ us hl => match us, hl with | [_, _], _ => rfl
    l_given_a := _
    l_given_d := fd_l_given
    l_given_f := F_l_given
    l_given_g := He.glo_ok X G (c.fact 36 (f := fFa (.glo "_law_given")) rfl)
    l_given_b := FunD.bindsN (ps := ["_law_real", "_law_some"]) F_l_given fun _ _ _ _ _ _ us hl => match us, hl with | [_, _], _ => rfl
    l_state_a := _
    l_state_d := fd_l_state
    l_state_f := F_l_state
    l_state_g := He.glo_ok X G (c.fact 37 (f := fFa (.glo "_law_state")) rfl)
    l_state_b := FunD.bindsN (ps := ["_law_code_here", "_law_some"]) F_l_state fun _ _ _ _ _ _ us hl => match us, hl with | [_, _], _ => rfl
    l_right_a := _
    l_right_d := fd_l_right
    l_right_f := F_l_right
    l_right_g := He.glo_ok X G (c.fact 38 (f := fFa (.glo "_law_right")) rfl)
    l_right_b := FunD.bindsN (ps := ["_law_bag_here", "_law_code_here", "_law_real", "_law_some"]) F_l_right fun _ _ _ _ _ _ us hl => match us, hl with | [_, _, _, _], _ => rfl
    law_a := _
    law_d := fd_law
    law_f := F_law
    law_g := He.glo_ok X G (c.fact 39 (f := fFa (.glo "law")) rfl)
    law_b := FunD.bindsN (ps := ["_law_script"]) F_law fun _ _ _ _ _ _ us hl => match us, hl with | [_], _ => rfl
    Code___init___k1_pad_width := kb_Code___init___pad_width F_Code___init__
    Writer___init___k1_ := kb_Writer___init___ F_Writer___init__
    C_Code_n_parts := He.noat_ok (c.fact 40 (f := fFa (.noat "Code" "parts")) rfl)
    C_Code_n_sign_bits := He.noat_ok (c.fact 41 (f := fFa (.noat "Code" "sign_bits")) rfl)
    C_Code_n_digits := He.noat_ok (c.fact 42 (f := fFa (.noat "Code" "digits")) rfl)
    C_Writer_n_is_closed := He.noat_ok (c.fact 43 (f := fFa (.noat "Writer" "is_closed")) rfl)
    C_Writer_n_many := He.noat_ok (c.fact 44 (f := fFa (.noat "Writer" "many")) rfl)
    C_Writer_n_now := He.noat_ok (c.fact 45 (f := fFa (.noat "Writer" "now")) rfl)
    C_Writer_n_own_code := He.noat_ok (c.fact 46 (f := fFa (.noat "Writer" "own_code")) rfl)
    C_Code_r := fCRead_ok (c.fact 47 (f := fCRead "Code") rfl)
    C_Code_v_WIDEST := fCVal_ok (c.fact 48 (f := fCVal "Code" "WIDEST" (.int 76)) rfl)
    k_PRINTED_u := _
    k_PRINTED_g := h_PRINTED
    k_PRINTED_r := ⟨t_PRINTED, rfl⟩
    k_MOST_BYTES_u := _
    k_MOST_BYTES_g := h_MOST_BYTES
    k_MOST_BYTES_r := ⟨t_MOST_BYTES, rfl⟩
    k_GROUPS_a := He.ga K "GROUPS"
    k_GROUPS_g := He.glo_ok X G (c.fact 51 (f := fFa (.glo "GROUPS")) rfl)
    k_GROUPS_t := fun H => He.tupB_ok (c.fact 52 (f := fTup "GROUPS" [.int 0, .int 8, .int 4, .int 8, .int 2, .int 8, .int 4]) rfl) H
    k_NEWLINE_u := _
    k_NEWLINE_g := h_NEWLINE
    k_NEWLINE_r := ⟨t_NEWLINE, rfl⟩
    k_BITS_a := He.ga K "BITS"
    k_BITS_g := He.glo_ok X G (c.fact 54 (f := fFa (.glo "BITS")) rfl)
    k_BITS_d := idB_ok (c.fact 55 (f := (fun K => idB K (He.ga K "BITS") [(2, 1), (4, 2), (8, 3), (16, 4), (32, 5), (64, 6)])) rfl)
    n_abs := He.free_ok X G (c.fact 56 (f := fFa (.free "abs")) rfl)
    n_all := He.free_ok X G (c.fact 57 (f := fFa (.free "all")) rfl)
    n_bool := He.free_ok X G (c.fact 58 (f := fFa (.free "bool")) rfl)
    n_enumerate := He.free_ok X G (c.fact 59 (f := fFa (.free "enumerate")) rfl)
    n_int := He.free_ok X G (c.fact 60 (f := fFa (.free "int")) rfl)
    n_isinstance := He.free_ok X G (c.fact 61 (f := fFa (.free "isinstance")) rfl)
    n_len := He.free_ok X G (c.fact 62 (f := fFa (.free "len")) rfl)
    n_list := He.free_ok X G (c.fact 63 (f := fFa (.free "list")) rfl)
    n_max := He.free_ok X G (c.fact 64 (f := fFa (.free "max")) rfl)
    n_min := He.free_ok X G (c.fact 65 (f := fFa (.free "min")) rfl)
    n_range := He.free_ok X G (c.fact 66 (f := fFa (.free "range")) rfl)
    n_repr := He.free_ok X G (c.fact 67 (f := fFa (.free "repr")) rfl)
    n_str := He.free_ok X G (c.fact 68 (f := fFa (.free "str")) rfl)
    n_super := He.free_ok X G (c.fact 69 (f := fFa (.free "super")) rfl)
    n_tuple := He.free_ok X G (c.fact 70 (f := fFa (.free "tuple")) rfl)
    X_Closed := _
    X_Closed_f := _
    X_Closed_F := XF_Closed
    X_Closed_g := He.glo_ok X G XF_Closed.glo
    }, rfl, fun s v => FunD.bindsA (ps := ["_law_script"]) F_law (fun _ _ _ _ _ _ us hl => match us, hl with | [_], _ => rfl) s [v] rfl⟩
end
end Px
open PySem PySem.W PySem.Calls PyProof.Rows
set_option maxHeartbeats 0 in
theorem PySem.Challenge.cw_piecetexts_k13_writing_states_holds : PySem.Challenge.rw_piecetexts_k13_writing_states.Holds := by
  w_on; o_law
  refine HandSHeadRun.head_any (r := OpenLaw.row PySem.Challenge.rw_piecetexts_k13_writing_states) (q := view (OpenLaw.row PySem.Challenge.rw_piecetexts_k13_writing_states).prog [44]) (H := Px.hhook) (ob := Px.hob) (M := 9000) (loose := Px.hloose) (d := HandSHeadRun.topDef (OpenLaw.row PySem.Challenge.rw_piecetexts_k13_writing_states).prog 44) (kwd := []) Px.hob_eq
    (by kernel_rfl) (fun s => by kernel_rfl) Px.hrun (by kernel_rfl) (by kernel_rfl) (by kernel_rfl) (by rfl) (by first | assumption | decide +kernel) (by decide +kernel) ⟨rfl, rfl, rfl, rfl, rfl, by decide +kernel⟩ ?hw ?hc
  case hw => w_witness2
  case hc =>
    refine Px.walk_G (l := PySem.Challenge.rw_piecetexts_k13_writing_states) (n := 63) (k := 10) (x := "_law_script") rfl (by decide) (by kernel_rfl) ⟨rfl, by decide, by decide⟩ ?F
    intro w mg fa h Y G hmg0
    obtain ⟨K, KX, c⟩ := Y
    have hmg : mg ("law" : PySem.Str) = some (.ref fa) := by
      have e : (HandSHeadRun.topDef (OpenLaw.row PySem.Challenge.rw_piecetexts_k13_writing_states).prog 44).name = ("law" : PySem.Str) := by kernel_rfl
      rw [← e]
      exact hmg0
    obtain ⟨T, rfl, hb⟩ := Px.htxt KX G hmg c
    exact ⟨K, T.law_d, Px.sp_law T, KX, hb, fun H a ns hl _ hS => ⟨a, ns, rfl, hS, hl, fun _ => rfl⟩, fun base _ _ => Px.P_eq ▸ Px.ok_law T⟩


