import PyProof.Rows.All
import Wide.All
import OpenK.AllK
import Wide.FinOn
import HandS.ForMost
import HandS.IsInst
import HandS.Flow
import HandS.Style
import HandS.Wide
import HandS.Walk
import HandS.ClsMeth
import HandS.Property
import HandS.MakeKwOnly
import HandS.StrMore
import HandS.DictComp
import HandS.SetKeys
import HandS.TupAny
import HandS.Steps
import HandS.Defaults
import KE.GoesNew
import KE.GoesEnum
import KE.GoesMore
import HandS.RaiseMore
import KE.KRevSl
import PyProof.ReprRoads
import PyProof.ReprText
import HandS.HeadEnd
import KE.KxField
import HandS.FStr
import HandS.IntHex
import HandS.SetBool
import HandS.HeadHook1
import HandS.HeadHook2
import PyProof.Cells
import PyProof.ToksMono
import HandS.Replace
import HandS.ReplaceLit
import PyProof.StrOps2
import KE.KExcSuper
import HandS.Exc
import HandS.ExcInit
import HandS.ExcField
import HandS.ExcOwn
import HandS.WordsExc
import HandS.TryOnly
import HandS.Iter
import PyProof.EnumMake
import PyProof.InstEq
import HandS.HeadNt
import KE.KExcInit
import KE.KExcIs
import PyProof.ExcBaseAll.LookupError
import PyProof.ExcBaseAll.IndexError
import PyProof.ExcBaseAll.RuntimeError
import PyProof.ExcBaseAll.OverflowError
import PyProof.ExcBaseAll.TypeError
import PyProof.ExcBaseAll.ValueError
import KE.KCallOwn
import HandS.Star
import HandS.NoneIn
import HandS.Conv
import HandS.Deep
import PyProof.EqAt
import PyProof.EqKinds
import PyProof.TupleCall
import HandS.Base
import HandS.Call
import PyProof.InstSpecial
import PyProof.CodeObj
import KE.KLam
import HandS.List
import HandS.Codes
import HandS.Lambda
import HandS.Nested
import HandS.Comp
import HandS.Words
import HandS.HeadWalk
import PyProof.ListStr
import KE.GoesComp
import KE.GoesRaise
import HandS.Head0
import HandS.Head1
import HandS.Head2
import PySem.Challenge.RW_piecetexts_k43_whole_quoted_readers_give
set_option Elab.async false
set_option linter.all false
set_option maxRecDepth 100000
set_option maxHeartbeats 1000000
namespace Px
open PySem PySem.Spec PyProof.Rows L2
abbrev S := L2.St

/-! ### heaps that grow -/
def SameB (b : Addr) (H H' : Hp) : Prop := ∀ a o, a ≠ b → H a = some o → H' a = some o
theorem same_new {H : Hp} {p : Addr} {o : HO} (h : H p = none) : Same H (upd H p o) := fun a u e => (upd_ne (ne_of_none e h)).trans e
theorem same_mut {H H' : Hp} {p : Addr} {o : HO} (e : Same H H') (h : H p = none) : Same H (upd H' p o) := fun a u ha => (upd_ne (ne_of_none ha h)).trans (e a u ha)
theorem same_mutB {H H' : Hp} {p : Addr} (h : H p = none) {H1 : Hp} (e : Same H H1) (e2 : SameB p H1 H') : Same H H' := fun a u ha => e2 a u (ne_of_none ha h) (e a u ha)
theorem sameB_upd {H : Hp} {b : Addr} {o : HO} : SameB b H (upd H b o) := fun a u n e => (upd_ne n).trans e
theorem SameB.refl (b : Addr) (H : Hp) : SameB b H H := fun _ _ _ h => h
theorem SameB.trans {b : Addr} {H H1 H2 : Hp} (x : SameB b H H1) (y : SameB b H1 H2) : SameB b H H2 := fun a o n h => y a o n (x a o n h)
theorem toB {b : Addr} {H H' : Hp} (e : Same H H') : SameB b H H' := fun a o _ h => e a o h
theorem SameB.free {b : Addr} {H H' : Hp} (e : SameB b H H') {l : Addr} (n : l ≠ b) (h : H' l = none) : H l = none := by
  cases q : H l with
  | none => rfl
  | some o => rw [e l o n q] at h; cases h
theorem gs {H H' : Hp} {a : Addr} {o : HO} (e : Same H H') (h : H a = some o) : H' a = some o := e a o h
theorem gb {b : Addr} {H H' : Hp} {a : Addr} {o : HO} (e : SameB b H H') (n : a ≠ b) (h : H a = some o) : H' a = some o := e a o n h
theorem gu {b : Addr} {H : Hp} {a : Addr} {o u : HO} (n : a ≠ b) (h : H a = some o) : upd H b u a = some o := (upd_ne n).trans h
section
variable {K : PySem.W.Frag} {H H' : Hp} {a b : Addr} {xs : List V}
theorem ql (h : H a = some (.lst xs)) : SqL K H a xs := .inl (.inl h)
theorem qt (h : H a = some (.tup xs)) : SqT K H a xs := .inl (.inl h)
theorem gsl (e : Same H H') (h : SqL K H a xs) : SqL K H' a xs := e.seq h
theorem gst (e : Same H H') (h : SqT K H a xs) : SqT K H' a xs := by
  rcases h with (h | ⟨o, h⟩) | h
  · exact .inl (.inl (e _ _ h))
  · exact .inl (.inr ⟨o, e _ _ h⟩)
  · exact .inr h
theorem gbl (e : SameB b H H') (n : a ≠ b) (h : SqL K H a xs) : SqL K H' a xs := by
  rcases h with (h | ⟨o, h⟩) | h
  · exact .inl (.inl (e _ _ n h))
  · exact .inl (.inr ⟨o, e _ _ n h⟩)
  · exact .inr h
theorem gbt (e : SameB b H H') (n : a ≠ b) (h : SqT K H a xs) : SqT K H' a xs := by
  rcases h with (h | ⟨o, h⟩) | h
  · exact .inl (.inl (e _ _ n h))
  · exact .inl (.inr ⟨o, e _ _ n h⟩)
  · exact .inr h
mutual
theorem dps (e : Same H H') : ∀ (d : PyData) (v : V), Dp K H v d → Dp K H' v d
  | .none, _, h => by cases h; exact .non
  | .bool _, _, h => by cases h; exact .bl _
  | .int _, _, h => by cases h; exact .int _
  | .str _, _, h => by cases h; exact .str _
  | .list ds, _, h => by
    cases h with
    | lst hs ha => exact .lst (gsl e hs) (dpsAll e ds _ ha)
  | .tuple ds, _, h => by
    cases h with
    | tup hs ha => exact .tup (gst e hs) (dpsAll e ds _ ha)
  | .dict _, _, h => by cases h
theorem dpsAll (e : Same H H') : ∀ (ds : List PyData) (vs : List V), DpAll K H vs ds → DpAll K H' vs ds
  | [], _, h => by cases h; exact .nil
  | d :: ds, _, h => by
    cases h with
    | cons h1 h2 => exact .cons (dps e d _ h1) (dpsAll e ds _ h2)
end
end

/-! ### one step of a reading -/
section
variable {K : PySem.W.Frag} {σ : S} {H : Hp} {Q : VK} {D : Ends} {t u : TS} {ta tb te tc : TE} {x y v : V} {tr : TA} {i : Nat} {g : TG} {c c2 : TT}
theorem r_seq (h : t { D with nx := u D } σ H) : tSeq t u D σ H := h
theorem r_next (h : D.nx σ H) : tNext D σ H := h
theorem r_ret (h : te σ H D.rt) : tRet te D σ H := h
theorem r_retN (h : D.rt .non H) : tRetN D σ H := h
theorem r_asg (h : te σ H fun x H1 => g x σ H1 D.nx) : tAsg te g D σ H := h
theorem r_drop (h : te σ H fun _ H1 => D.nx σ H1) : tDrop te D σ H := h
theorem r_ifs (h : c σ H fun b H1 => if b = true then t D σ H1 else u D σ H1) : tIfS c t u D σ H := h
theorem r_brk (h : D.bk σ H) : tBreak D σ H := h
theorem r_cont (h : D.ct σ H) : tCont D σ H := h
theorem r_gname {P : S → Hp → Prop} (h : P (σ.set i (some v)) H) : gName i v σ H P := h
theorem r_gtup {n : Nat} {gs : TGs} {a : Addr} {xs : List V} {P : S → Hp → Prop} (h1 : SqT K H a xs) (h2 : xs.length = n) (h : gs xs σ H P) : gTup K n gs (.ref a) σ H P := ⟨a, xs, rfl, h1, h2, h⟩
theorem r_gcons {gs : TGs} {xs : List V} {P : S → Hp → Prop} (h : g x σ H fun σ' H' => gs xs σ' H' P) : gCons g gs (x :: xs) σ H P := ⟨x, xs, rfl, h⟩
theorem r_gnil {P : S → Hp → Prop} (h : P σ H) : gNil [] σ H P := ⟨rfl, h⟩
theorem r_gsub {ts : TSet} {P : S → Hp → Prop} (h : ta σ H fun o H1 => tb σ H1 fun i H2 => ts o i v H2 fun H3 => P σ H3) : gSub ta tb ts v σ H P := h
theorem r_setL {p : Addr} {xs : List V} {k : Int} {j : Nat} {P : Hp → Prop} (h1 : H p = some (.lst xs)) (h2 : ixN xs.length k = some j) (h : P (upd H p (.lst (xs.set j v)))) : rSetL (.ref p) (.int k) v H P := ⟨p, xs, k, j, rfl, rfl, h1, h2, h⟩
theorem r_aug {ti : TIp} (hx : σ[i]? = some (some x)) (h : te σ H fun y H1 => ti x y H1 fun z H2 => D.nx (σ.set i (some z)) H2) : tAug i te ti D σ H := ⟨x, hx, h⟩
theorem r_par {j : Nat} (h : tr σ H fun vs H1 => ∃ v w, vs = [v, w] ∧ D.nx ((σ.set i (some v)).set j (some w)) H1) : tPar i j tr D σ H := h
theorem r_two {P : V → V → Prop} (h : P x y) : ∃ v w, [x, y] = [v, w] ∧ P v w := ⟨x, y, rfl, h⟩
theorem r_var (h1 : σ[i]? = some (some v)) (h : Q v H) : tVar i σ H Q := ⟨v, h1, h⟩
theorem r_c (h : Q v H) : tC v σ H Q := h
theorem r_op {r : R2} (h : ta σ H fun x H1 => tb σ H1 fun y H2 => r x y H2 Q) : tOp r ta tb σ H Q := h
theorem r_un {r : V → Hp → VK → Prop} (h : ta σ H fun x H1 => r x H1 Q) : tUn r ta σ H Q := h
theorem r_if (h : c σ H fun b H1 => if b = true then ta σ H1 Q else tb σ H1 Q) : tIf c ta tb σ H Q := h
theorem r_test {P : Bool → Hp → Prop} (h : te σ H fun x H' => ∃ k, x = .bl k ∧ P k H') : tTest te σ H P := h
theorem r_b {P : Bool → Hp → Prop} (h : te σ H fun x H' => ∃ k, x = .bl k ∧ P k H') : tB te σ H P := h
theorem r_bl {b : Bool} {P : Bool → Prop} (h : P b) : ∃ k, V.bl b = V.bl k ∧ P k := ⟨b, rfl, h⟩
theorem r_and {P : Bool → Hp → Prop} (h : c σ H fun b H1 => if b = true then c2 σ H1 P else P false H1) : tAnd c c2 σ H P := h
theorem r_or {P : Bool → Hp → Prop} (h : c σ H fun b H1 => if b = true then P true H1 else c2 σ H1 P) : tOr c c2 σ H P := h
theorem r_not {P : Bool → Hp → Prop} (h : c σ H fun b H1 => P (!b) H1) : tNot c σ H P := h
theorem r_andV (h : ta σ H fun x H1 => ∃ c, x = .bl c ∧ if c = true then tb σ H1 Q else Q (.bl false) H1) : tAndV ta tb σ H Q := h
theorem r_orV (h : ta σ H fun x H1 => ∃ c, x = .bl c ∧ if c = true then Q (.bl true) H1 else tb σ H1 Q) : tOrV ta tb σ H Q := h
theorem r_notV (h : ta σ H fun x H1 => ∃ c, x = .bl c ∧ Q (.bl (!c)) H1) : tNotV ta σ H Q := h
theorem r_chain {r r' : R2} (h : ta σ H fun x H1 => tb σ H1 fun y H2 => r x y H2 fun z H3 => ∃ k, z = .bl k ∧ (if k = true then tc σ H3 fun w' H4 => r' y w' H4 Q else Q (.bl false) H3)) : tChain r r' ta tb tc σ H Q := h
theorem r_nil {P : List V → Hp → Prop} (h : P [] H) : tNil σ H P := h
theorem r_cons {P : List V → Hp → Prop} (h : ta σ H fun x H1 => tr σ H1 fun xs H2 => P (x :: xs) H2) : tCons ta tr σ H P := h

theorem same_of {H H2 : Hp} {p : Addr} {o : HO} (h : upd H p o = H2) (n : H p = none) : Same H H2 := h ▸ same_new n
theorem at_of {H H2 : Hp} {p : Addr} {o : HO} (h : upd H p o = H2) : H2 p = some o := h ▸ upd_same
theorem sameB_of {H H2 : Hp} {p : Addr} {o : HO} (h : upd H p o = H2) : SameB p H H2 := h ▸ sameB_upd
theorem r_tup (h : tr σ H fun xs H1 => xs.length ≤ sizeLine ∧ ∀ p, H1 p = none → Q (.ref p) (upd H1 p (.tup xs))) : tTup tr σ H Q := h
theorem r_lst (h : tr σ H fun xs H1 => xs.length ≤ sizeLine ∧ ∀ p, H1 p = none → Q (.ref p) (upd H1 p (.lst xs))) : tLst tr σ H Q := h
theorem r_call {sp : Sp} {dvs : List V} {E : XK} (h : tr σ H fun vs H1 => sp (vs ++ dvs) H1 Q E) : tCall sp dvs E tr σ H Q := h
theorem r_cb {r : List V → Hp → VK → Prop} (h : tr σ H fun vs H1 => r vs H1 Q) : tCB r tr σ H Q := h
theorem r_I0 {g : Int → Int → V} {i j : Int} (h : Q (g i j) H) : rI0 g (.int i) (.int j) H Q := ⟨i, j, rfl, rfl, h⟩
theorem r_I {C : Int → Int → Prop} {g : Int → Int → V} {i j : Int} (hc : C i j) (h : Q (g i j) H) : rI C g (.int i) (.int j) H Q := ⟨i, j, rfl, rfl, hc, h⟩
theorem r_eqI {i j : Int} (h : Q (.bl (decide (i = j))) H) : rEq (.int i) (.int j) H Q := ⟨rfl, by
  have e : decide (V.int i = V.int j) = decide (i = j) := by simp
  rw [e]; exact h⟩
theorem r_neI {i j : Int} (h : Q (.bl (!decide (i = j))) H) : rNe (.int i) (.int j) H Q := ⟨rfl, by
  have e : decide (V.int i = V.int j) = decide (i = j) := by simp
  rw [e]; exact h⟩
theorem r_eqS {i j : Str} (h : Q (.bl (decide (i = j))) H) : rEq (.str i) (.str j) H Q := ⟨rfl, by
  have e : decide (V.str i = V.str j) = decide (i = j) := by simp
  rw [e]; exact h⟩
theorem r_neS {i j : Str} (h : Q (.bl (!decide (i = j))) H) : rNe (.str i) (.str j) H Q := ⟨rfl, by
  have e : decide (V.str i = V.str j) = decide (i = j) := by simp
  rw [e]; exact h⟩
theorem r_eqB {i j : Bool} (h : Q (.bl (decide (i = j))) H) : rEq (.bl i) (.bl j) H Q := ⟨rfl, by
  have e : decide (V.bl i = V.bl j) = decide (i = j) := by simp
  rw [e]; exact h⟩
theorem r_ixL {p : Addr} {xs : List V} {i : Int} (h1 : SqL K H p xs) (h2 : atI xs i = some v) (h : Q v H) : rIx K (.ref p) (.int i) H Q := .inl ⟨p, xs, i, v, rfl, rfl, h1, h2, h⟩
theorem r_ixT {p : Addr} {xs : List V} {i : Int} (h1 : SqT K H p xs) (h2 : atI xs i = some v) (h : Q v H) : rIx K (.ref p) (.int i) H Q := .inr (.inl ⟨p, xs, i, v, rfl, rfl, h1, h2, h⟩)
theorem r_ixS {z : Str} {i : Int} {c : Nat} (h1 : z.length ≤ sizeLine) (h2 : atI z.cps.toList i = some c) (h : Q (.str ⟨#[c]⟩) H) : rIx K (.str z) (.int i) H Q := .inr (.inr ⟨z, i, c, rfl, rfl, h1, h2, h⟩)
theorem r_iteD {p A B : Prop} [Decidable p] (h1 : p → A) (h2 : ¬p → B) : if decide p = true then A else B := by
  by_cases q : p
  · rw [if_pos (decide_eq_true q)]; exact h1 q
  · rw [if_neg (by simpa using q)]; exact h2 q
theorem r_iteND {p A B : Prop} [Decidable p] (h1 : ¬p → A) (h2 : p → B) : if (!decide p) = true then A else B := by
  by_cases q : p
  · rw [if_neg (by simpa using q)]; exact h2 q
  · rw [if_pos (by simpa using q)]; exact h1 q
theorem r_iteB {b : Bool} {A B : Prop} (h1 : b = true → A) (h2 : b = false → B) : if b = true then A else B := by
  cases b
  · rw [if_neg Bool.false_ne_true]; exact h2 rfl
  · rw [if_pos rfl]; exact h1 rfl
theorem r_iteT {A B : Prop} (h : A) : if true = true then A else B := by rw [if_pos rfl]; exact h
theorem r_iteF {A B : Prop} (h : B) : if false = true then A else B := by rw [if_neg Bool.false_ne_true]; exact h
end
end Px

namespace Px
open PySem PySem.Spec PyProof.Rows L2 He
/-! ### the head's facts: defs at any path, facts as Bools -/
/-- a def: the way to it, name, qualified name, parameters, body, scope, defaults, keyword-only defaults -/
structure DefA where
  way : PySem.W.Frag → Addr
  nme : Str
  qul : Str
  par : Arguments
  bdy : List Stmt
  scp : Scope
  dfs : List Dv := []
  kws : List (Str × Dv) := []
def DefA.sees (K : PySem.W.Frag) (d : DefA) : FnW := match K.lookup (d.way K) with
  | some ⟨_, _, .func fd, _⟩ => some (fd.name, fd.qualname, fd.params, fd.body, fd.scope, fd.globals, fd.closure, fd.builtins)
  | _ => none
def DefA.due (d : DefA) : FnW := some (d.nme, d.qul, d.par, .stmts d.bdy, d.scp, mainGlobals, [], builtinsNs)
def DefA.dV (K : PySem.W.Frag) (d : DefA) : List V := d.dfs.map (Dv.v K)
def DefA.kV (K : PySem.W.Frag) (d : DefA) : List (Str × V) := d.kws.map fun q => (q.1, q.2.v K)
def DefA.good (K : PySem.W.Frag) (d : DefA) : Bool := PySem.W.keepIn K (.ref (d.way K)) && (match K.lookup (d.way K) with
  | some ⟨_, _, .func fd, _⟩ => PySem.W.codeIn K fd.code d.qul && dflB K fd.defaults (d.dV K) && kwdB K fd.kwdefaults (d.kV K)
  | _ => false)
theorem DefA.fun_ {K : PySem.W.Frag} {d : DefA} (e : d.sees K = d.due) (c : d.good K = true) : ∃ fd, FunD K d.nme d.qul d.par d.bdy d.scp (d.dV K) (d.kV K) (d.way K) fd := by
  unfold DefA.good at c
  unfold DefA.sees DefA.due at e
  obtain ⟨kp, c⟩ := ba c
  split at e
  · rename_i oc od fd osl q
    rw [q] at c
    obtain ⟨c, k3⟩ := ba c
    obtain ⟨k1, k2⟩ := ba c
    obtain ⟨n1, n2, n3, n4, n5, n6, n7, n8, n9, n10, n11, n12, n13, n14, n15⟩ := fd
    simp only [Option.some.injEq, Prod.mk.injEq] at e
    obtain ⟨h1, h2, h3, h4, h5, h6, h7, h8⟩ := e
    subst h1 h2 h3 h4 h5 h6 h7 h8
    exact ⟨_, ⟨oc, od, n8, n9, n10, n11, n12, n13, n14, osl, rfl, q, k1, dflB_ok k2, kwdB_ok k3⟩, kp⟩
  · cases e
abbrev Fact : Type := PySem.W.Frag → Bool
abbrev AlA : Type := Bool × List FnW
def obsA (fs : List Fact) (ds : List DefA) (K : PySem.W.Frag) : AlA := ((fs.all fun f => f K) && ds.all fun d => d.good K, ds.map fun d => d.sees K)
def valA (ds : List DefA) : AlA := (true, ds.map DefA.due)
def SaysA (fs : List Fact) (ds : List DefA) (K : PySem.W.Frag) : Prop := obsA fs ds K = valA ds
/-- what is looked at: what the module's names reach, and the statics -/
def obsAG (n : Nat) (fs : List Fact) (ds : List DefA) (g : Addr → Option Obj) : AlA := obsA fs ds (frG g (cStatics :: asD g n))
def hookA (n : Nat) (fs : List Fact) (ds : List DefA) : PySem.W.Hook where
  α := AlA
  obs := fun s => obsAG n fs ds s.heap.get?
  val := fun _ => valA ds
  says := fun _ h => ∃ K : PySem.W.Frag, K.In h ∧ SaysA fs ds K
  of := fun _ _ e => ⟨_, frG_in, e⟩
  keeps := fun _ _ _ ⟨K, hK, c⟩ k => ⟨K, PySem.W.Frag.In.keeps hK k, c⟩
theorem obsAG_eq {n : Nat} {fs : List Fact} {ds : List DefA} {g : Addr → Option Obj} {s : Shared} (h : ∀ a, g a = s.heap.get? a) : obsAG n fs ds g = (hookA n fs ds).obs s := by
  have e : g = s.heap.get? := funext h
  subst e
  rfl
section
variable {fs : List Fact} {ds : List DefA} {K : PySem.W.Frag}
theorem SaysA.fact (c : SaysA fs ds K) (i : Nat) {f : Fact} (h : fs[i]? = some f := by rfl) : f K = true := by
  have z : ((fs.all fun f => f K) && ds.all fun d => d.good K) = true := congrArg (fun z : AlA => z.1) c
  exact List.all_eq_true.mp (ba z).1 f (List.mem_of_getElem? h)
theorem SaysA.def_ (c : SaysA fs ds K) (i : Nat) {d : DefA} (h : ds[i]? = some d := by rfl) : ∃ fd, FunD K d.nme d.qul d.par d.bdy d.scp (d.dV K) (d.kV K) (d.way K) fd := by
  have z : ((fs.all fun f => f K) && ds.all fun d => d.good K) = true := congrArg (fun z : AlA => z.1) c
  have e : ds.map (fun d => d.sees K) = ds.map DefA.due := congrArg (fun z : AlA => z.2) c
  have e2 : (ds.map fun d => d.sees K)[i]? = (ds.map DefA.due)[i]? := by rw [e]
  rw [List.getElem?_map, List.getElem?_map, h] at e2
  exact DefA.fun_ (Option.some.inj e2) (List.all_eq_true.mp (ba z).2 d (List.mem_of_getElem? h))
end
/-! ### ways -/
def wGlo (x : Str) (K : PySem.W.Frag) : Addr := ga K x
def wMeth (C m : Str) (K : PySem.W.Frag) : Addr := ma K (ga K C) m
/-- a property's getter -/
def wGet (C f : Str) (K : PySem.W.Frag) : Addr := match PySem.W.recIn K (ma K (ga K C) f) "property" with
  | some (.ref g :: _) => g
  | _ => 0
/-! ### facts -/
def fFa (f : Fa) : Fact := fun K => f.ok K
def fProp (C f : Str) : Fact := fun K => eqO (PySem.W.findIn K (.ref (ga K C)) f) (some (some (.ref (ma K (ga K C) f)))) &&
  (eqO (PySem.W.specialIn K (.ref (ma K (ga K C) f)) "__get__") (some (some (.builtin "property.__get__"))) &&
    (decide (PySem.W.takesIn K (.ref (ma K (ga K C) f)) = some true) && (match PySem.W.recIn K (ma K (ga K C) f) "property" with
      | some (.ref _ :: _) => true
      | _ => false)))
theorem fProp_ok {C f : Str} {K : PySem.W.Frag} (h : fProp C f K = true) : PropOf K (ga K C) f (ma K (ga K C) f) (wGet C f K) := by
  obtain ⟨h1, h⟩ := ba h
  obtain ⟨h2, h⟩ := ba h
  obtain ⟨h3, h4⟩ := ba h
  refine ⟨eqO_ok h1, eqO_ok h2, of_decide_eq_true h3, ?_⟩
  unfold wGet
  split at h4
  · rename_i g l e
    exact ⟨l, by rw [e]⟩
  · cases h4
end Px
namespace Px
open PySem PySem.Spec PyProof.Rows L2 He
/-- attributes of the class C are read plainly; C.f is v -/
def fCRead (C : Str) : Fact := fun K => PySem.W.readsIn K (ga K C) (.type "type") && eqO (PySem.W.specialIn K (.ref (ga K C)) "__getattribute__") (some (some (.builtin "type.__getattribute__")))
theorem fCRead_ok {C : Str} {K : PySem.W.Frag} (h : fCRead C K = true) : ClX.CRead K (ga K C) (.type "type") := by
  obtain ⟨h1, h2⟩ := ba h
  exact ⟨h1, eqO_ok h2⟩
def fCVal (C f : Str) (v : Dv) : Fact := fun K => match PySem.W.findCls K (.ref (ga K C)) (.type "type") f with
  | some (.val u) => relB (v.v K) u
  | _ => false
theorem fCVal_ok {C f : Str} {v : Dv} {K : PySem.W.Frag} (h : fCVal C f v K = true) : ∃ u, ClX.CVal K (ga K C) (.type "type") f (v.v K) u := by
  unfold fCVal at h
  split at h
  · rename_i u e
    exact ⟨u, e, relB_ok h⟩
  · cases h
def fTup (x : Str) (vs : List Dv) : Fact := fun K => tupB K x vs
end Px

/-! own errors over ValueError whose __init__ says super().__init__("..") and keeps one argument -/
namespace PySem
namespace PxE
open PySem.W PySem.Calls PyProof.Rows PySem.HandSPX
/-- super().__init__("txt"); self.fld = prm -/
abbrev s1 (txt : Str) (p0 p1 p2 p3 p4 p5 : Pos) (k : Nat) : Stmt := .Expr (.Call (.Attribute (.Call (.Name "super" p0) [] [] p1) "__init__" p2) [.Constant (.str txt) k p3] [] p4) p5
abbrev s2 (fld prm : Str) (p6 p7 p8 p9 : Pos) : Stmt := .Assign [.Attribute (.Name "self" p6) fld p7] (.Name prm p8) p9
section
abbrev c1 (txt : Str) (p0 p1 p2 p3 p4 : Pos) (k : Nat) : Expr := .Call (.Attribute (.Call (.Name "super" p0) [] [] p1) "__init__" p2) [.Constant (.str txt) k p3] [] p4
variable {prog : Program} {w : World} {A : Around} {R : Result → Shared → Prop} {hp : Heap} {g : Array GenState} {d : Drawn} {t : Nat} {os : OsState} {K : Frag}
variable {C f cc cda e t0 : Addr} {v : Value} {mg mb : Str → Option Value} {name qual txt fld prm : Str} {params : Arguments} {scope : Scope} {dV kV doc pm ct oc ccl cl : Value} {an od cdd cld : Option Addr} {osl ccs csl : Array (Option Value)} {vs : Array Value} {file : Str} {tf : Tok} {ar : Arg}
  {p0 p1 p2 p3 p4 p5 p6 p7 p8 p9 : Pos} {k : Nat} {nm q : Str} {N : Addr} {bs bm : List Value} {sn : List Str} {sub : List Value} {ab : Bool} {col : Option Bool} {dd : Option Addr} {k0 k1 k2 k3 k5 : Option Value}
theorem init_super (X : K.In hp) (hg : hp.Ns mainGlobals mg) (hb : hp.Ns builtinsNs mb) (hmb : mb "super" = some (.type "super")) (hsuper : mg "super" = none) (lim : hp.NoLimit) (hroom : A.depth < recursionLimit)
    (lk : K.lookup f = some ⟨oc, od, .func (ksFn name qual params [s1 txt p0 p1 p2 p3 p4 p5 k, s2 fld prm p6 p7 p8 p9] scope dV kV doc pm an (.ref cda) ct cc), osl⟩) (hcd : codeIn K (.ref cda) qual = true)
    (hpar : (params.posonlyargs ++ params.args).head? = some ar) (har : ar.arg = "self")
    (hcode : K.lookup cda = some ⟨ccl, cdd, .fields vs, ccs⟩) (hvs : vs[2]? = some (.str file tf)) (hfile : ((prog.main.file : Str) == file) = true) (htop : (prog.main.scope.names.lookup ("super" : Str)).isSome = false)
    (hcell : K.lookup cc = some ⟨cl, cld, .cell (some (.ref C)), csl⟩)
    (hsc : ∀ x ∈ scope.names, x.2 ≠ .cell) (hs1 : scope.names.lookup ("super" : Str) = some .globalImplicit) (hs2 : scope.names.lookup ("__class__" : Str) = some .free) (hs3 : scope.names.lookup ("self" : Str) = some .local) (hs4 : scope.names.lookup prm = some .local)
    (hsk : scope.kind = .function) (hco : scope.isCoroutine = false) (hgen : scope.isGenerator = false) (hps : prm ≠ "self") (hpd : (prm == ("__debug__" : Str)) = false)
    (hC : K.lookup C = some (excClassObj nm q C N bs bm true sn sub ab col dd k0 k1 k2 k3 k5 "ValueError.__new__")) (hbm : refsVE bm = true) (sa : findIn K (.ref C) "__setattr__" = some (some (.builtin "object.__setattr__"))) (hno : findIn K (.ref C) fld = some none)
    (hop : nsIn K cStatics "thirdparty.any" = some none) (hsup : ks_superIn K C C "__init__" = some (some (.builtin "ValueError.__init__"))) (hB : subIn K (.ref C) (.type "ValueError") = some true) (hself : mroIn K C (.ref C) = some true)
    (he : hp.get? e = some ({ cls := .ref C, dict := none, data := .fields #[.ref t0, .none, .none, .none, .bool false, .none] } : Obj))
    (hKe : ∀ a o, K.lookup a = some o → a ≠ e)
    (hbind : BindsTo ⟨hp, g, d, t, os⟩ (ksFn name qual params [s1 txt p0 p1 p2 p3 p4 p5 k, s2 fld prm p6 p7 p8 p9] scope dV kV doc pm an (.ref cda) ct cc) ⟨[.ref e, v], []⟩ [("self", .ref e), (prm, v)])
    (pl : Addr → Sem Bool) (env : Addr → Env) (henv : env = fun L => callEnv (ksFn name qual params [s1 txt p0 p1 p2 p3 p4 p5 k, s2 fld prm p6 p7 p8 p9] scope dV kV doc pm an (.ref cda) ct cc) L f)
    (hi : ∀ L, interactive (env L) = false) (hw1 : ∀ L, swapsWith (c1 txt p0 p1 p2 p3 p4 k) none p5.line (env L) = pure false) (hw2 : ∀ L, swapsWith (.Name prm p8) (some (.Attribute (.Name "self" p6) fld p7)) p9.line (env L) = pure false)
    (hev : ∀ L, eval (c1 txt p0 p1 p2 p3 p4 k) (env L) = (do
      let ov ← attributeBase (.Call (.Name "super" p0) [] [] p1) "__init__" (env L) (eval (.Call (.Name "super" p0) [] [] p1) (env L))
      standAt p2.atName
      let (f, first) ← holding [ov] (getMethod ov "__init__" (pl L))
      callWith p4 f first (backTo p4 (starEach [.Constant (.str txt) k p3] (env L))) []))
    (hst : ∀ L, starEach [.Constant (.str txt) k p3] (env L) = [(false, eval (.Constant (.str txt) k p3) (env L))])
    (hq : ∀ h' t' dx t1, (∀ b o, b ≠ e → hp.get? b = some o → h'.get? b = some o) → hp.objs.size ≤ dx → dx ≠ e → h'.get? e = some ({ cls := .ref C, dict := some dx, data := .fields #[.ref t1, .none, .none, .none, .bool false, .none] } : Obj) →
      h'.Ns1 dx (fun y => if y = fld then some v else none) → R (.ok (.ret .none)) ⟨h', g, d, t', os⟩) :
    codeAny (model prog w) A (.call (.ref f) ⟨[.ref e, v], []⟩) R ⟨hp, g, d, t, os⟩ := by
  have hcl : clsIn K C = some { name := nm, bases := bs, mro := .ref C :: bm, ns := N, qualname := q, hasDict := true, slotNames := sn, subclasses := sub, abstract := ab, collection := col, hasDel := false } := by unfold clsIn; rw [hC] <;> rfl
  refine ks_codeAny_call_defAt (fd := ksFn name qual params [s1 txt p0 p1 p2 p3 p4 p5 k, s2 fld prm p6 p7 p8 p9] scope dV kV doc pm an (.ref cda) ct cc) (body := [s1 txt p0 p1 p2 p3 p4 p5 k, s2 fld prm p6 p7 p8 p9]) (binds := [("self", .ref e), (prm, v)])
    hroom (X _ _ lk) rfl lim (codeRec_of X hcd) rfl hbind hsc (fun y hy => ?_) (fun h1 hns hk1 => ?_) hco hgen hsk
  · rcases List.mem_cons.mp hy with rfl | hy
    · exact hs3
    · rw [List.mem_singleton.mp hy]; exact hs4
  have X1 : K.In h1 := X.keeps hk1
  have he1 := hk1 _ _ he
  have lself : ([(("self" : Str), Value.ref e), (prm, v)] : List (Str × Value)).reverse.lookup ("self" : Str) = some (Value.ref e) := by
    show List.lookup _ [(prm, v), (("self" : Str), Value.ref e)] = _
    have : (("self" : Str) == prm) = false := by simpa using (Ne.symm hps)
    simp [List.lookup, this]
  have lprm : ([(("self" : Str), Value.ref e), (prm, v)] : List (Str × Value)).reverse.lookup prm = some v := by
    show List.lookup _ [(prm, v), (("self" : Str), Value.ref e)] = _
    simp [List.lookup]
  have ee : ∀ L, callEnv (ksFn name qual params [s1 txt p0 p1 p2 p3 p4 p5 k, s2 fld prm p6 p7 p8 p9] scope dV kV doc pm an (.ref cda) ct cc) L f = env L := fun L => by rw [henv]
  show wpAt _ (A.deeper (callEnv _ hp.objs.size f)) (.func _ (callEnv _ hp.objs.size f)) (execs _ (callEnv _ hp.objs.size f)) _ _ _
  rw [ee hp.objs.size]
  have hk : (env hp.objs.size).scope = scope := by rw [henv]; rfl
  refine ks_wpAt_execs_cons (ks_wpAt_Expr_any (ks_wpAt_MethodCall (pl := pl hp.objs.size) ?_ (hev _)) (hi _) (hw1 _))
  rw [← ee hp.objs.size]
  refine ks_wpAt_super_base hs1 hs2 (by decide) rfl (X1 _ _ lk) rfl hpar rfl (X1 _ _ hcode) rfl hvs hfile htop ?_
  refine ks_loadName_global hsk hs1 (loadGlobal_builtin (hg.keeps hk1) hsuper (hb.keeps hk1) hmb ⟨rfl, ?_⟩)
  refine wpAny_loadName_free hsk hs2 rfl ⟨_, X1 _ _ hcell, rfl⟩ ?_
  rw [har]
  refine wpAny_loadName_local hsk hs3 hns lself ?_
  refine ks_wpAny_isType_cls (X1 _ _ hC) rfl ⟨rfl, ?_⟩
  refine ks_wpAny_call_super (X1 _ _ hC) rfl he1 rfl (fun c z => nomatch z) (looks_mroIn X1 hself) (fun h2 hso k2' => ?_)
  have X2 : K.In h2 := X1.keeps k2'
  have he2 := k2' _ _ he1
  have hns2 := hns.keeps k2'
  have I2 : InstAt h2 e ({ cls := .ref C, dict := none, data := .fields #[.ref t0, .none, .none, .none, .bool false, .none] } : Obj) C none := ⟨he2, rfl, rfl, trivial⟩
  have hsup' : alongIn K "__init__" (((Value.ref C :: bm).dropWhile (· != .ref C)).drop 1) = some (some (.builtin "ValueError.__init__")) := by
    unfold ks_superIn at hsup
    rw [hcl] at hsup
    exact hsup
  refine kxs_getMethod kxs_ValueError hso (looks_opaque X2 hop) (l₀ := Value.ref C :: bm) (fun A Q E s k q => wpAny_bind ((looks_clsIn X2 hcl) A _ E s k (wpAny_pure q))) rfl X2 hsup' (I2.type.andThen (looks_subIn X2 hB)) (ks_ne X2 I2 hcl) (by decide) ?_
  have k3' : ∀ b o, h2.get? b = some o → (h2.push (kxs_mw "ValueError.__init__" e)).get? b = some o := fun b o z => Heap.get?_push_of_some _ z
  have hu : (h2.push (kxs_mw "ValueError.__init__" e)).get? h2.objs.size = some (kxs_mw "ValueError.__init__" e) := Heap.get?_push_at rfl rfl
  generalize hh3 : h2.push (kxs_mw "ValueError.__init__" e) = h3 at k3' hu
  have X3 : K.In h3 := X2.keeps k3'
  have he3 := k3' _ _ he2
  have hns3 := hns2.keeps k3'
  have kk3 : ∀ b o, hp.get? b = some o → h3.get? b = some o := fun b o z => k3' b o (k2' b o (hk1 b o z))
  show wpAny _ _ (callWith p4 (.ref h2.objs.size) [] (backTo p4 (starEach [.Constant (.str txt) k p3] _)) []) _ _ _
  rw [ee hp.objs.size, hst]
  refine kxs_callWith (i := "ValueError.__init__") (x := e) rfl (evalArgs_plain (spliced_cons (Constant_str (pos := p3) (k := k) (spliced_nil ⟨hu, ?_⟩))))
  have FB := PySem.F.excBase_ValueError
  refine wpAny_call (codeAny_of_tree ?_)
  show wpAny _ (A.deeper (env hp.objs.size)).in1 (callAny (.ref h2.objs.size) ⟨[.str txt _], []⟩) _ _ _
  simp only [callAny]
  refine wpAny_bind (wpAny_load hu ?_)
  simp only [kxs_mw, show (Value.type "method-wrapper" == Value.type "method" || Value.type "method-wrapper" == Value.type "builtin_function_or_method" || Value.type "method-wrapper" == Value.type "method-wrapper") = true by decide, if_true]
  refine KFB.if_so (by decide) ?_
  refine wpAny_bind (check_bound_init FB.toExcCallFacts (X3 _ _ hC) he3 rfl ?_)
  refine wpAny_bind (wpAny_pure (wpAny_pure ?_))
  refine ⟨plainId_quiet FB.init.plain _, codeAny_builtin FB.initEntry ?_⟩
  refine exc_init_tree (cls := .ref C) (t0 := t0) (dv := none) (c2 := .none) (c3 := .none) (b4 := .bool false) he3 (by show 1 ≤ sizeLine; decide) (fun h4 k4' he4 _ => ?_)
  -- the second statement
  have eL : hp.objs.size ≠ e := Nat.ne_of_gt (Heap.lt_size he)
  have kk4 : ∀ b o, b ≠ e → hp.get? b = some o → h4.get? b = some o := fun b o hb z => k4' b o hb (kk3 b o z)
  have X4 : K.In h4 := fun a o z => kk4 a o (hKe a o z) (X a o z)
  have hns4 : h4.Ns hp.objs.size (fun x => ([(("self" : Str), Value.ref e), (prm, v)] : List (Str × Value)).reverse.lookup x) := hns3.at fun o z => k4' _ o eL z
  show wpAt _ _ _ (execs [s2 fld prm p6 p7 p8 p9] (env hp.objs.size)) _ _ _
  refine wpAt_of_wpAny (wpAny_execs_cons (plainObj_wpAny_Assign_Attribute ?_ (hw2 _)))
  rw [← ee hp.objs.size]
  refine wpAny_Name (wpAny_loadName_local hsk hs4 hns4 lprm ?_) hpd
  refine wpAny_Name (wpAny_loadName_local hsk hs3 hns4 lself ?_) (by decide)
  have he4' : h4.get? e = some ({ cls := .ref C, dict := none, data := .fields #[.ref h3.objs.size, .none, .none, .none, .bool false, .none] } : Obj) := he4
  refine set_plain X4 (ox := { cls := .ref C, dict := none, data := .fields #[.ref h3.objs.size, .none, .none, .none, .bool false, .none] }) (od := none) ⟨he4', rfl, rfl, trivial⟩ sa ?_
  have szle : hp.objs.size ≤ h4.objs.size := Nat.le_of_lt hns4.lt
  refine exc_osa X4 he4' hcl (show refsVE (.ref C :: bm) = true from hbm) rfl hno (fun h5 tk5 dx k5' dn dne hx5 hn5 => ?_)
  refine wpAny_execs_nil ?_
  exact hq h5 tk5 dx h3.objs.size (fun b o hb z => k5' b o hb (kk4 b o hb z)) (Nat.le_trans szle dn) dne hx5 hn5
end
/-- what a call of the class's __init__ does: the object gets its dict with one field -/
def InitOk (prog : Program) (w : World) (K : Frag) (mg : Str → Option Value) (C f : Addr) (fld : Str) : Prop :=
  ∀ (A : Around) (R : Result → Shared → Prop) (hp : Heap) (g : Array GenState) (d : Drawn) (t : Nat) (os : OsState) (e t0 : Addr) (v : Value) (mb : Str → Option Value), K.In hp → hp.Ns mainGlobals mg → hp.Ns builtinsNs mb → mb "super" = some (.type "super") → hp.NoLimit →
    A.depth < recursionLimit → (∀ a o, K.lookup a = some o → a ≠ e) → hp.get? e = some ({ cls := .ref C, dict := none, data := .fields #[.ref t0, .none, .none, .none, .bool false, .none] } : Obj) →
    (∀ h' t' dx t1, (∀ b o, b ≠ e → hp.get? b = some o → h'.get? b = some o) → hp.objs.size ≤ dx → dx ≠ e → h'.get? e = some ({ cls := .ref C, dict := some dx, data := .fields #[.ref t1, .none, .none, .none, .bool false, .none] } : Obj) →
      h'.Ns1 dx (fun y => if y = fld then some v else none) → R (.ok (.ret .none)) ⟨h', g, d, t', os⟩) →
    codeAny (model prog w) A (.call (.ref f) ⟨[.ref e, v], []⟩) R ⟨hp, g, d, t, os⟩
end PxE
end PySem
namespace L2
open PySem PySem.Spec PyProof.Rows
/-- C(e), C's own __init__ keeping its one argument as the field fld -/
def tMkE (C : Addr) (fld : Str) (ta : TA) : St → Hp → XK → Prop := fun σ H Q => ta σ H fun vs H1 => ∃ v, vs = [v] ∧ ∀ d, H1 d = none → Q (.ref C) (some d) (upd H1 d (.xd [(fld, v)]))
theorem pmk_err {X : Cx} {x fld : Str} {C fI : Addr} {k : Nat} {e : Expr} {ta : TA} {p pos : Pos} (T : OexC X.K C) (iC : PySem.W.findIn X.K (.ref C) "__init__" = some (some (.ref fI))) (tI : PySem.W.typeIn X.K (.ref fI) = some (.type "function"))
    (IO : PySem.PxE.InitOk X.prog X.w X.K X.mg C fI fld) (hr : Room (k + 1) X.A) (hg : Gl X x) (hm : X.mg x = some (.ref C)) (ha : PA X [e] ta)
    (hdb : (x == ("__debug__" : Str)) = false := by decide) (he : starEach [e] X.env = (false, eval e X.env) :: starEach [] X.env := by rfl) (hpl : (backTo pos (starEach [] X.env)).any (·.1) = false := by rfl) :
    PMk X (.Call (.Name x p) [e] [] pos) (tMkE C fld ta) := by
  intro pins s σ H Q I h
  obtain ⟨nm, q, N, bs, bm, sn, sub, ab, col, dd, k0, k1, k2, k3, k5, hC, hbm⟩ := T.cls
  refine wpAny_Call_Name_kw (ld_glob I hg hm ?_ hdb)
  refine PySem.W.callWith_K (h₀ := X.base) I.ok.mod.kin T.kC (thn (ha.run pos pins s σ H _ I h) fun us s1 ⟨vs, H1, I1, r1, v, ev, q1⟩ => ⟨I1.kIn, ?_⟩) he hpl
  subst ev
  obtain ⟨u, rfl, ru⟩ := vals1 r1
  show wpAny _ _ (call (.ref C) [u]) _ _ _
  obtain ⟨hp, g, dr, tk, os⟩ := s1
  have hsz : hp.objs.size ≤ hp.objs.size + 1 := Nat.le_succ _
  have hn : H1 (hp.objs.size + 1) = none := I1.hok.fresh hsz
  have kk : ∀ b o, hp.get? b = some o → ((hp.push (PySem.W.kdv_tup [u])).push (PySem.HandSPX.excO C hp.objs.size)).get? b = some o := fun b o e => Heap.get?_push_of_some _ (Heap.get?_push_of_some _ e)
  have hget : ((hp.push (PySem.W.kdv_tup [u])).push (PySem.HandSPX.excO C hp.objs.size)).get? (hp.objs.size + 1) = some (PySem.HandSPX.excO C hp.objs.size) := by heap_get
  have I2 : Inv X pins σ (upd H1 (hp.objs.size + 1) (exo (hp.objs.size + 1) C none)) ⟨(hp.push (PySem.W.kdv_tup [u])).push (PySem.HandSPX.excO C hp.objs.size), g, dr, tk, os⟩ :=
    I1.laid (t' := tk) (a := hp.objs.size + 1) (o := exo (hp.objs.size + 1) C none) (h' := (hp.push (PySem.W.kdv_tup [u])).push (PySem.HandSPX.excO C hp.objs.size)) kk hsz (exo_ok hget)
  have e0 := I2.env0
  obtain ⟨mb, hmb, hmv⟩ := e0.mod.blt
  have hus : ([u] : List Value).length ≤ sizeLine := by show 1 ≤ sizeLine; decide
  have hea : upd H1 (hp.objs.size + 1) (exo (hp.objs.size + 1) C none) (hp.objs.size + 1) = some (exo (hp.objs.size + 1) C none) := upd_same
  refine wpAny_call (PySem.HandSPX.call_own F.excBase_ValueError (fun Y => PySem.HandSPX.refsVE_contains Y bm hbm) (I1.kIn _ _ hC) (PySem.W.looks_findIn I1.kIn iC) (fun self => PySem.W.bind_fn I1.kIn self tI) hus ?_)
  generalize hpp : (hp.push (PySem.W.kdv_tup [u])).push (PySem.HandSPX.excO C hp.objs.size) = hp2 at *
  generalize hea2 : hp.objs.size + 1 = a at *
  have kb : ∀ b o, X.base.get? b = some o → hp2.get? b = some o := fun b o z => (e0.bs b o z).1
  have bs2 : mb "super" = some (.type "super") := (hmv _ (by decide +kernel)).trans (by first | boot_by_name | rfl | kernel_rfl)
  refine IO _ _ hp2 g dr _ os a hp.objs.size u mb I2.kIn (e0.mod.glob.keeps kb) (hmb.keeps kb) bs2 (e0.mod.nolimit.keeps kb) (hr.make C [u] []).depth (fun b o z w => ?_) hget (fun h' t' dx t1 k' dn dne hx hn5 => ?_)
  · have y := (e0.bs b o (e0.mod.kin b o z)).2
    rw [w, hea] at y
    cases y
  generalize hH : upd H1 a (exo a C none) = H at *
  have hnd : H dx = none := I2.hok.fresh dn
  have hd1 : H1 dx = none := by
    rw [← hH, upd_ne dne] at hnd
    exact hnd
  have nd : ∀ {b : Addr} {o : Obj}, hp2.get? b = some o → b ≠ dx := fun {b o} q => Nat.ne_of_lt (Nat.lt_of_lt_of_le (Heap.lt_size q) dn)
  have na : ∀ {b : Addr}, H b = none → b ≠ a := fun {b} n z => by
    rw [z, hea] at n
    cases n
  have Un1 : Un (frs X.stack) [] H (upd (upd H dx (exd dx [(fld, v)])) a (exo a C (some dx))) hp2 h' := {
    keep := fun b o q n _ _ => k' b o (na n) q
    slot := fun b o q n _ _ => ⟨o.slots, k' b o (na n) q⟩
    free := fun b o q n _ => by rw [upd_ne (na n), upd_ne (nd q)]; exact n
    there := fun b o q _ => by
      by_cases hb : b = a
      · exact ⟨_, by rw [hb]; exact hx⟩
      · exact ⟨o, k' b o hb q⟩
    tups := fun b xs q => by rw [upd_ne (at_ne hea q exo_tup), upd_ne (ne_of_none q hnd)]; exact q
    frzs := fun b o v q => by rw [upd_ne (at_ne hea q exo_frz), upd_ne (ne_of_none q hnd)]; exact q
    tbls := fun b ps q => ⟨#[], by rw [upd_ne (at_ne hea q exo_tbl), upd_ne (ne_of_none q hnd), q]; simp⟩ }
  have hok2 : HOk X.prog X.w (upd (upd H dx (exd dx [(fld, v)])) a (exo a C (some dx))) h' := fun b o q => by
    by_cases hb : b = a
    · subst hb
      rw [upd_same] at q
      cases q
      exact exo_ok hx
    · rw [upd_ne hb] at q
      by_cases hd : b = dx
      · subst hd
        rw [upd_same] at q
        cases q
        exact exd_ok hn5 (relO_put (fs := []) ru fun g => True.intro)
      · rw [upd_ne hd] at q
        exact (I2.hok b o q).stay (fun c v hc z => k' c v (by
            rcases hc with hc | hc
            · rw [hc]
              exact hb
            · exact at_ne hea hc exo_own) z)
          (fun c hc => by rw [upd_ne (at_ne hea hc exo_own), upd_ne (ne_of_none hc hnd)]; exact hc) (fun c xs hc => by rw [upd_ne (at_ne hea hc exo_tup), upd_ne (ne_of_none hc hnd)]; exact hc)
  have eq : upd (del (upd (upd H dx (exd dx [(fld, v)])) a (exo a C (some dx))) a) dx (.xd [(fld, v)]) = upd H1 dx (.xd [(fld, v)]) := by
    funext b
    by_cases hd : b = dx
    · rw [hd, upd_same, upd_same]
    · rw [upd_ne hd, upd_ne hd]
      by_cases hb : b = a
      · rw [hb, del_same, hn]
      · rw [del_ne hb, upd_ne hb, upd_ne hd, ← hH, upd_ne hb]
  refine ⟨rfl, mk_end (H2 := upd (upd H dx (exd dx [(fld, v)])) a (exo a C (some dx))) (fs := [(fld, v)]) (d := dx) (raises_own T.exC T.tyC) I1 hsz kk (by rw [hH]; exact Un1) hok2 rfl I2.bare upd_same (by rw [upd_ne dne, upd_same]) hd1 (by rw [eq]; exact q1 dx hd1)⟩
end L2

namespace Px
open PySem PySem.Spec PyProof.Rows L2 He
/-! ### the head's facts of own error classes whose __init__ says super() -/
structure ErrD where
  cls : Str
  fld : Str
  qul : Str
  par : Arguments
  bdy : List Stmt
  scp : Scope
  fil : Str
def ErrD.C (d : ErrD) (K : PySem.W.Frag) : Addr := ga K d.cls
def ErrD.f (d : ErrD) (K : PySem.W.Frag) : Addr := ma K (ga K d.cls) "__init__"
def ErrD.sees (K : PySem.W.Frag) (d : ErrD) : FnW := match K.lookup (d.f K) with
  | some ⟨_, _, .func fd, _⟩ => some (fd.name, fd.qualname, fd.params, fd.body, fd.scope, fd.globals, fd.closure.map (fun q => (q.1, 0)), fd.builtins)
  | _ => none
def ErrD.due (d : ErrD) : FnW := some ("__init__", d.qul, d.par, .stmts d.bdy, d.scp, mainGlobals, [("__class__", 0)], builtinsNs)
def ecB (K : PySem.W.Frag) (C : Addr) : Bool := match K.lookup C with
  | some ⟨.type "type", _, .cls cd, sl⟩ => (match cd.mro, sl.toList with
    | .ref C' :: bm, [_, _, _, _, some (.builtin n), _] => C' == C && (n == "ValueError.__new__" && (!cd.hasDel && (cd.hasDict && PySem.HandSPX.refsVE bm)))
    | _, _ => false)
  | _ => false
theorem ecB_ok {K : PySem.W.Frag} {C : Addr} (q : ecB K C = true) : ∃ nm q N bs bm sn sub ab col dd k0 k1 k2 k3 k5, K.lookup C = some (excClassObj nm q C N bs bm true sn sub ab col dd k0 k1 k2 k3 k5 "ValueError.__new__") ∧ PySem.HandSPX.refsVE bm = true := by
  unfold ecB at q
  split at q
  · rename_i dd cd sl ho
    split at q
    · rename_i C' bm k0 k1 k2 k3 n k5 hm hs
      simp only [Bool.and_eq_true, beq_iff_eq, Bool.not_eq_true'] at q
      obtain ⟨rfl, rfl, hdel, hdict, hb⟩ := q
      obtain ⟨nm, bs, mro, ns, qn, hd, sn, sub, ab, col, del⟩ := cd
      dsimp only at hm hdel hdict
      subst hm hdel hdict
      have hsl : sl = #[k0, k1, k2, k3, some (.builtin "ValueError.__new__"), k5] := by
        obtain ⟨l⟩ := sl
        simp only at hs
        rw [hs]
      subst hsl
      exact ⟨nm, qn, ns, bs, bm, sn, sub, ab, col, dd, k0, k1, k2, k3, k5, ho, hb⟩
    · cases q
  · cases q
def codeB (K : PySem.W.Frag) (fil : Str) (v : Value) : Bool := match v with
  | .ref cda => (match K.lookup cda with
    | some ⟨_, _, .fields vs, _⟩ => (match (vs[2]? : Option Value) with
      | some (.str f _) => decide (f = fil)
      | _ => false)
    | _ => false)
  | _ => false
theorem codeB_ok {K : PySem.W.Frag} {fil : Str} {v : Value} (h : codeB K fil v = true) : ∃ cda ccl cdd vs ccs tf, v = .ref cda ∧ K.lookup cda = some ⟨ccl, cdd, .fields vs, ccs⟩ ∧ vs[2]? = some (.str fil tf) := by
  unfold codeB at h
  split at h
  · rename_i cda
    split at h
    · rename_i ccl cdd vs ccs q
      split at h
      · rename_i f tf r
        have e := of_decide_eq_true h
        subst e
        exact ⟨cda, ccl, cdd, vs, ccs, tf, rfl, q, r⟩
      · cases h
    · cases h
  · cases h
def cellB (K : PySem.W.Frag) (C : Addr) (l : List (Str × Addr)) : Bool := match l with
  | [q] => (match K.lookup q.2 with
    | some ⟨_, _, .cell (some (.ref c)), _⟩ => c == C
    | _ => false)
  | _ => false
theorem cellB_ok {K : PySem.W.Frag} {C : Addr} {l : List (Str × Addr)} {x : Str} (h : cellB K C l = true) (e : l.map (fun q => (q.1, 0)) = [(x, (0 : Addr))]) : ∃ cc cl cld csl, l = [(x, cc)] ∧ K.lookup cc = some ⟨cl, cld, .cell (some (.ref C)), csl⟩ := by
  unfold cellB at h
  split at h
  · rename_i q
    obtain ⟨y, cc⟩ := q
    have ey : y = x := by simpa using e
    subst ey
    split at h
    · rename_i cl cld c csl r
      have ec := beq_iff_eq.mp h
      subst ec
      exact ⟨cc, cl, cld, csl, rfl, r⟩
    · cases h
  · cases h
def ErrD.good (K : PySem.W.Frag) (d : ErrD) : Bool := (Fa.glo d.cls).ok K && (ecB K (d.C K) && (eqO (PySem.W.findIn K (.ref (d.C K)) "__setattr__") (some (some (.builtin "object.__setattr__"))) &&
  (decide (PySem.W.subIn K (.ref (d.C K)) (.type "BaseException") = some true) && (decide (PySem.W.typeIn K (.ref (d.C K)) = some (.type "type")) && (PySem.W.keepIn K (.ref (d.C K)) && (xfB K (d.C K) &&
  (eqO (PySem.W.findIn K (.ref (d.C K)) d.fld) (some none) && (eqO (PySem.W.findIn K (.ref (d.C K)) "__init__") (some (some (.ref (d.f K)))) && (decide (PySem.W.typeIn K (.ref (d.f K)) = some (.type "function")) &&
  (decide (PySem.W.exmOne K (.ref (d.C K)) (.ref (d.C K)) = some true) && (eqO (PySem.W.nsIn K cStatics "thirdparty.any") (some none) && (decide (PySem.W.ks_superIn K (d.C K) (d.C K) "__init__" = some (some (.builtin "ValueError.__init__"))) &&
  (decide (PySem.W.subIn K (.ref (d.C K)) (.type "ValueError") = some true) && (decide (PySem.W.mroIn K (d.C K) (.ref (d.C K)) = some true) && (match K.lookup (d.f K) with
    | some ⟨_, _, .func fd, _⟩ => PySem.W.codeIn K fd.code d.qul && (codeB K d.fil fd.code && (cellB K (d.C K) fd.closure && (decide (fd.defaults = .none) && decide (fd.kwdefaults = .none))))
    | _ => false)))))))))))))))
/-- what is known of such a class -/
structure ErrF (K : PySem.W.Frag) (d : ErrD) (C f : Addr) : Prop where
  glo : (Fa.glo d.cls).ok K = true
  Ce : C = ga K d.cls
  oex : OexC K C
  xf : XfC K C
  noF : PySem.W.findIn K (.ref C) d.fld = some none
  iC : PySem.W.findIn K (.ref C) "__init__" = some (some (.ref f))
  tI : PySem.W.typeIn K (.ref f) = some (.type "function")
  te : PySem.W.exmOne K (.ref C) (.ref C) = some true
  hop : PySem.W.nsIn K cStatics "thirdparty.any" = some none
  hsup : PySem.W.ks_superIn K C C "__init__" = some (some (.builtin "ValueError.__init__"))
  hB : PySem.W.subIn K (.ref C) (.type "ValueError") = some true
  hself : PySem.W.mroIn K C (.ref C) = some true
  fn : ∃ oc od doc pm an cda ct cc osl ccl cdd ccs vs tf cl cld csl, K.lookup f = some ⟨oc, od, .func (PySem.W.ksFn "__init__" d.qul d.par d.bdy d.scp .none .none doc pm an (.ref cda) ct cc), osl⟩ ∧ PySem.W.codeIn K (.ref cda) d.qul = true ∧
    K.lookup cda = some ⟨ccl, cdd, .fields vs, ccs⟩ ∧ vs[2]? = some (.str d.fil tf) ∧ K.lookup cc = some ⟨cl, cld, .cell (some (.ref C)), csl⟩
theorem ErrD.ok {K : PySem.W.Frag} {d : ErrD} (e : d.sees K = d.due) (c : d.good K = true) : ErrF K d (d.C K) (d.f K) := by
  unfold ErrD.good at c
  obtain ⟨c0, c⟩ := ba c
  obtain ⟨c1, c⟩ := ba c
  obtain ⟨c2, c⟩ := ba c
  obtain ⟨c3, c⟩ := ba c
  obtain ⟨c4, c⟩ := ba c
  obtain ⟨c5, c⟩ := ba c
  obtain ⟨c6, c⟩ := ba c
  obtain ⟨c7, c⟩ := ba c
  obtain ⟨c8, c⟩ := ba c
  obtain ⟨c9, c⟩ := ba c
  obtain ⟨c10, c⟩ := ba c
  obtain ⟨c11, c⟩ := ba c
  obtain ⟨c12, c⟩ := ba c
  obtain ⟨c13, c⟩ := ba c
  obtain ⟨c14, c15⟩ := ba c
  refine ⟨c0, rfl, ⟨ecB_ok c1, eqO_ok c2, of_decide_eq_true c3, of_decide_eq_true c4, c5⟩, xfB_ok c6, eqO_ok c7, eqO_ok c8, of_decide_eq_true c9, of_decide_eq_true c10, eqO_ok c11, of_decide_eq_true c12, of_decide_eq_true c13, of_decide_eq_true c14, ?_⟩
  unfold ErrD.sees ErrD.due at e
  split at e
  · rename_i oc od fd osl q
    rw [q] at c15
    obtain ⟨k1, k⟩ := ba c15
    obtain ⟨k2, k⟩ := ba k
    obtain ⟨k3, k⟩ := ba k
    obtain ⟨k4, k5⟩ := ba k
    replace k4 := of_decide_eq_true k4
    replace k5 := of_decide_eq_true k5
    obtain ⟨n1, n2, n3, n4, n5, n6, n7, n8, n9, n10, n11, n12, n13, n14, n15⟩ := fd
    simp only [Option.some.injEq, Prod.mk.injEq] at e
    obtain ⟨h1, h2, h3, h4, h5, h6, h7, h8⟩ := e
    obtain ⟨cda, ccl, cdd, vs, ccs, tf, rfl, a1, a2⟩ := codeB_ok k2
    obtain ⟨cc, cl, cld, csl, b1, b2⟩ := cellB_ok k3 h7
    dsimp only at b1 k4 k5
    subst h1 h2 h3 h4 h5 h6 h8 b1 k4 k5
    exact ⟨oc, od, n10, n11, n12, cda, n14, cc, osl, ccl, cdd, ccs, vs, tf, cl, cld, csl, q, k1, a1, a2, b2⟩
  · cases e
/-! ### the hook -/
/-- the closures' cells too -/
def asX (g : Addr → Option Obj) (n : Nat) : List Addr := asD g n ++ (asD g n).flatMap fun a => match g a with
  | some ⟨_, _, .func fd, _⟩ => fd.closure.map (·.2)
  | _ => []
def obsX (fs : List Fact) (ds : List DefA) (es : List ErrD) (K : PySem.W.Frag) : AlA := ((fs.all fun f => f K) && ((ds.all fun d => d.good K) && es.all fun d => d.good K), ds.map (fun d => d.sees K) ++ es.map fun d => d.sees K)
def valX (ds : List DefA) (es : List ErrD) : AlA := (true, ds.map DefA.due ++ es.map ErrD.due)
def SaysX (fs : List Fact) (ds : List DefA) (es : List ErrD) (K : PySem.W.Frag) : Prop := obsX fs ds es K = valX ds es
def obsXG (n : Nat) (fs : List Fact) (ds : List DefA) (es : List ErrD) (g : Addr → Option Obj) : AlA := obsX fs ds es (frG g (cStatics :: asX g n))
def hookX (n : Nat) (fs : List Fact) (ds : List DefA) (es : List ErrD) : PySem.W.Hook where
  α := AlA
  obs := fun s => obsXG n fs ds es s.heap.get?
  val := fun _ => valX ds es
  says := fun _ h => ∃ K : PySem.W.Frag, K.In h ∧ SaysX fs ds es K
  of := fun _ _ e => ⟨_, frG_in, e⟩
  keeps := fun _ _ _ ⟨K, hK, c⟩ k => ⟨K, PySem.W.Frag.In.keeps hK k, c⟩
theorem obsXG_eq {n : Nat} {fs : List Fact} {ds : List DefA} {es : List ErrD} {g : Addr → Option Obj} {s : Shared} (h : ∀ a, g a = s.heap.get? a) : obsXG n fs ds es g = (hookX n fs ds es).obs s := by
  have e : g = s.heap.get? := funext h
  subst e
  rfl
section
variable {fs : List Fact} {ds : List DefA} {es : List ErrD} {K : PySem.W.Frag}
theorem SaysX.fact (c : SaysX fs ds es K) (i : Nat) {f : Fact} (h : fs[i]? = some f := by rfl) : f K = true := by
  have z : ((fs.all fun f => f K) && ((ds.all fun d => d.good K) && es.all fun d => d.good K)) = true := congrArg (fun z : AlA => z.1) c
  exact List.all_eq_true.mp (ba z).1 f (List.mem_of_getElem? h)
theorem SaysX.two (c : SaysX fs ds es K) : ds.map (fun d => d.sees K) = ds.map DefA.due ∧ es.map (fun d => d.sees K) = es.map ErrD.due := by
  have e : ds.map (fun d => d.sees K) ++ es.map (fun d => d.sees K) = ds.map DefA.due ++ es.map ErrD.due := congrArg (fun z : AlA => z.2) c
  exact List.append_inj e (by rw [List.length_map, List.length_map])
theorem SaysX.def_ (c : SaysX fs ds es K) (i : Nat) {d : DefA} (h : ds[i]? = some d := by rfl) : ∃ fd, FunD K d.nme d.qul d.par d.bdy d.scp (d.dV K) (d.kV K) (d.way K) fd := by
  have z : ((fs.all fun f => f K) && ((ds.all fun d => d.good K) && es.all fun d => d.good K)) = true := congrArg (fun z : AlA => z.1) c
  have e := c.two.1
  have e2 : (ds.map fun d => d.sees K)[i]? = (ds.map DefA.due)[i]? := by rw [e]
  rw [List.getElem?_map, List.getElem?_map, h] at e2
  exact DefA.fun_ (Option.some.inj e2) (List.all_eq_true.mp (ba (ba z).2).1 d (List.mem_of_getElem? h))
theorem SaysX.err (c : SaysX fs ds es K) (i : Nat) {d : ErrD} (h : es[i]? = some d := by rfl) : ErrF K d (d.C K) (d.f K) := by
  have z : ((fs.all fun f => f K) && ((ds.all fun d => d.good K) && es.all fun d => d.good K)) = true := congrArg (fun z : AlA => z.1) c
  have e := c.two.2
  have e2 : (es.map fun d => d.sees K)[i]? = (es.map ErrD.due)[i]? := by rw [e]
  rw [List.getElem?_map, List.getElem?_map, h] at e2
  exact ErrD.ok (Option.some.inj e2) (List.all_eq_true.mp (ba (ba z).2).2 d (List.mem_of_getElem? h))
end
end Px

/-! o != p by an own __eq__; C.m(k = v) of a classmethod; cls(.., k = v) -/
namespace Px
open PySem PySem.Spec PyProof.Rows L2 ClX
section
variable {prog : Program} {w : World} {A A₀ : Around} {E : Value → Shared → Prop} {s : Shared} {K : PySem.W.Frag} {x C L f : Addr} {h₀ : Heap} {m : Str → Option Value} {ox : Obj} {od : Option Obj} {b tb : Value}
theorem ifBound_B {M : Model} {name : Str} {id T : String} {args : List Value} {Q : Option Value → Shared → Prop} (X : K.In s.heap) (I : PySem.W.InstAt s.heap x ox C od) (hs : PySem.W.findIn K (.ref C) name = some (some (.builtin id))) (S : Slot T name id)
    (h : wpAny M A (call (.builtin id) (.ref x :: args)) (fun v => Q (some v)) E s) : wpAny M A (callSpecialIfBound? (.ref x) name args) Q E s := by
  simp only [callSpecialIfBound?, bindSpecialIfBound?]
  refine wpAny_holding (wpAny_bind (wpAny_bind (wpAny_bind (I.type.here ((PySem.W.looks_findIn X hs).here ?_)))))
  simp only [S.bind]
  refine wpAny_bind (wpAny_askSetting (wpAny_ite ?_))
  have fin : wpAny M A (call (.builtin id) ([.ref x] ++ args) >>= fun v => pure (some v)) Q E s := wpAny_bind (wpAny_mono h (fun v s' h' => wpAny_pure h') fun _ _ h' => h')
  split
  · exact wpAny_bind (wpAny_pure (wpAny_pure (by exact fin)))
  · exact wpAny_tryCatch (wpAny_bind (wpAny_pure (wpAny_pure (by exact fin))))
theorem objNe_own {Q : Fin → Shared → Prop} (X : K.In s.heap) (I : PySem.W.InstAt s.heap x ox C od) (hs : PySem.W.findIn K (.ref C) "__eq__" = some (some (.ref f))) (hf : PySem.W.isFn K (.ref f) = true) (hu : A.units < cLine)
    (h : wpAny (model prog w) A (call (.ref f) [.ref x, b]) (fun v s' => ∃ r, v = .bool r ∧ Q (.done (.ret (.bool (!r)))) s') E s) : wpAny (model prog w) A (Builtin.«object.__ne__» ⟨[.ref x, b], []⟩) Q E s := by
  unfold Builtin.«object.__ne__»
  repeat (first
    | with_reducible refine wpAny_cRoomFor hu ?_
    | (refine wpAny_bind (m := callSpecialIfBound? (.ref x) (Str.ofString "__eq__") [b])
        (PySem.W.ifBound_K X I hs hf (wpAny_mono h (fun r s' hr => by
          obtain ⟨b, rfl, hq⟩ := hr
          repeat (first | exact hq | exact wpAny_pure hq | exact wpAny_truthy_bool hq | (refine wpAny_bind (m := truthy (.bool _)) (wpAny_truthy_bool ?_)) | wp_step)) fun _ _ e => e)))
    | wp_step)
theorem rc_neOwn {Q : Value → Shared → Prop} (hu : A.units + 1 < cLine) (Fm : Fr h₀ L s.heap m) (X₀ : K.In h₀) (I : PySem.W.InstAt s.heap x ox C od) (hb : PySem.W.Looks (model prog w) s.heap (typeOf b) (.ref C))
    (hne : PySem.W.findIn K (.ref C) "__ne__" = some (some (.builtin "object.__ne__"))) (hm : PySem.W.mroIn K C (.type "object") = some true)
    (hs : PySem.W.findIn K (.ref C) "__eq__" = some (some (.ref f))) (hf : PySem.W.isFn K (.ref f) = true)
    (h : wpAny (model prog w) A.in1 (call (.ref f) [.ref x, b]) (fun v s' => ∃ r, v = .bool r ∧ Q (.bool (!r)) s') E s) : wpAny (model prog w) A (richCompare .NotEq (.ref x) b) Q E s := by
  have X := X₀.keeps Fm.keep
  have sub : PySem.W.Looks (model prog w) s.heap (isInstance (.ref x) (.type "object")) true := I.type.andThen (PySem.W.looks_mroIn X hm)
  have one : wpAny (model prog w) A (tryCompare (.ref x) "__ne__" b) (fun r s' => ∃ v, r = some v ∧ Q v s') E s := by
    unfold tryCompare
    refine wpAny_bind (ifBound_B X I hne PySem.F.cmp_object.ne (wpAny_call (codeAny_call_builtin PySem.F.cmp_object.ne.plain PySem.F.cmpEntry_ne
      (PySem.W.check_slot PySem.F.cmpKind_ne PySem.F.cmpSplit_ne sub (PySem.F.cmpArgs_ne _ _) (objNe_own (A := A.in1) X I hs hf hu (wpAny_mono h (fun v s' hv => ?_) fun _ _ e => e))))))
    obtain ⟨r, rfl, hq⟩ := hv
    exact ⟨r, rfl, wpAny_pure ⟨_, rfl, hq⟩⟩
  unfold richCompare
  simp only [oneThing_ref]
  refine wpAny_holding (wpAny_bind (wpAny_cRoomFor (Nat.lt_of_succ_lt hu) ?_))
  refine wpAny_bind (I.type.here (wpAny_bind (hb.here ?_)))
  rw [show (Value.ref C != Value.ref C) = false from by simp]
  rw [cmpInfo_NotEq]
  simp only [Bool.false_eq_true, if_false]
  refine wpAny_bind (wpAny_pure ?_)
  simp only [Bool.false_eq_true, if_false]
  refine wpAny_bind (wpAny_mono one (fun r s' z => ?_) fun _ _ e => e)
  obtain ⟨v, rfl, hq⟩ := z
  exact wpAny_pure hq
end
/-- o != p, both of the class at C, by C's own __eq__ -/
def rNeOwn (C : Addr) (sp : Sp) (E : XK) : R2 := fun x y H Q => ∃ a b dx dy fs gs, x = .ref a ∧ y = .ref b ∧ H a = some (.ins C dx fs) ∧ H b = some (.ins C dy gs) ∧ sp [.ref a, .ref b] H (fun v H' => ∃ k, v = .bl k ∧ Q (.bl (!k)) H') E
/-- what the class says of != -/
structure NeC (K : PySem.W.Frag) (C : Addr) : Prop where
  ne : PySem.W.findIn K (.ref C) "__ne__" = some (some (.builtin "object.__ne__"))
  ob : PySem.W.mroIn K C (.type "object") = some true
def fNe (C : Str) : Fact := fun K => He.eqO (PySem.W.findIn K (.ref (He.ga K C)) "__ne__") (some (some (.builtin "object.__ne__"))) && decide (PySem.W.mroIn K (He.ga K C) (.type "object") = some true)
theorem fNe_ok {C : Str} {K : PySem.W.Frag} (h : fNe C K = true) : NeC K (He.ga K C) := by
  obtain ⟨h1, h2⟩ := He.ba h
  exact ⟨He.eqO_ok h1, of_decide_eq_true h2⟩
section
variable {X : Cx} {CX : CXT} {k : Nat} {C f : Addr} {fd : FuncData} {ps : List Str} {sp : Sp} {E : XK}
theorem op_neOwn (F : FnOk X.prog X.w X.K X.mg X.base CX k f fd ps sp) (hr : Room (k + 1) X.A) (N : NeC X.K C) (D : Meth X.K C "__eq__" f) (hb : Binds X.K fd ps []) (hx : Passes CX X E) : OpR X (compareOp .NotEq) (rNeOwn C sp E) := by
  intro pins s σ H x y v u Q I rx ry hq
  obtain ⟨a, b, dx, dy, fs, gs, rfl, rfl, ha, hb', q⟩ := hq
  cases rx
  cases ry
  obtain ⟨mA, J, _⟩ := ins_get I.hok ha
  obtain ⟨mB, J', _⟩ := ins_get I.hok hb'
  obtain ⟨od, J, _⟩ := J.look
  obtain ⟨od', J', _⟩ := J'.look
  obtain ⟨m, hF⟩ := I.fr
  show wpAny (model X.prog X.w) X.A (richCompare .NotEq (.ref a) (.ref b)) _ _ _
  refine rc_neOwn (hr.in1).units0 hF I.ok.mod.kin J J'.type N.ne N.ob D.at_ D.fn ?_
  have hl := F.len _ _ _ _ q
  have r2 : Vals [V.ref a, V.ref b] [Value.ref a, Value.ref b] := .cons rfl (.cons rfl .nil)
  refine wpAny_call (codeAny_mono (F.run X.A.in1 X.stack s H ⟨[.ref a, .ref b], []⟩ [.ref a, .ref b] [.ref a, .ref b] _ E hr.in1 I.env0.in1 (by
    have := hb s [.ref a, .ref b] I.kIn (by simpa using hl)
    simpa using this) r2 q) fun r s' hq => ?_)
  cases r with
  | error e => exact hx pins σ H s e s' I hq
  | ok fl =>
    cases fl with
    | ret w =>
      obtain ⟨z, H', I', rz, n, ez, q'⟩ := I.after hq
      subst ez
      cases rz
      exact ⟨n, rfl, .bl (!n), H', I', rfl, q'⟩
    | next => exact False.elim hq
    | brk => exact False.elim hq
    | cont => exact False.elim hq
end
/-- C.m(k = v, ..), C.m(): m a classmethod -/
def tCMethK (C : Addr) (m : Nat) (sp : Sp) (gV : List V → List V → List V) (E : L2.St → XK) (ta : TE) (tk : TA) : TE := fun σ H Q => ta σ H fun x H1 => x = .ref C ∧ tk σ H1 fun zs H2 => zs.length = m ∧ sp (gV [.ref C] zs) H2 Q (E σ)
/-- cls(e, .., k = v, ..), the class in slot i -/
def tMakeLK (i : Nat) (C : Addr) (n m : Nat) (sp : Sp) (gV : List V → List V → List V) (E : XK) (t tk : TA) : TE := fun σ H Q => σ[i]? = some (some (.ref C)) ∧ tMakeK C n m sp gV E t tk σ H Q
section
variable {X : Cx} {CX : CXT} {k n i : Nat} {C p f g : Addr} {mc : Value} {fd : FuncData} {ps ks : List Str} {sp : Sp} {x m : Str} {o e : Expr} {es : List Expr} {kws : List Keyword} {ta : TE} {t tk : TA} {gg : List Value → List Value → List Value} {gV : List V → List V → List V} {pos apos np : Pos} {pl : Sem Bool}
theorem pe_cmethK {E : L2.St → XK} (he : PE X o ta) (r : CRead X.K C mc) (c : CMet X.K C mc m p g) (F : FnOk X.prog X.w X.K X.mg X.base CX k g fd ps sp) (hr : Room k X.A) (hb : KBn X.K fd ps 1 ks gg gV) (hx : ∀ σ, PassesAt CX X σ (E σ)) (hkw : PK X kws tk)
    (hall : (backToKw pos (keywordEach kws X.env)).all (·.1.isSome) = true := by rfl) (hks : (backToKw pos (keywordEach kws X.env)).filterMap (·.1) = ks := by rfl)
    (hpl : ((backTo pos (starEach [] X.env)).any (·.1) || (backToKw pos (keywordEach kws X.env)).any (·.1.isNone)) = false := by rfl)
    (ht : eval (.Call (.Attribute o m apos) [] kws pos) X.env = (do
      let ov ← eval o X.env
      standAt apos.atName
      let (f, first) ← holding [ov] (getMethod ov m pl)
      callWith pos f first (backTo pos (starEach [] X.env)) (backToKw pos (keywordEach kws X.env))) := by rfl) :
    PE X (.Call (.Attribute o m apos) [] kws pos) (tCMethK C ks.length sp gV E ta tk) := by
  refine ⟨fun pins s σ H Q I h => ?_⟩
  refine PySem.W.methodCall_KW (pl := pl) (thn (he.run pins s σ H _ I h) fun u s1 ⟨x, H1, I1, rx, ex, q⟩ => ?_) ht
  subst ex
  obtain rfl : u = Value.ref C := rx
  refine getmethcm_ok I1 r c fun s2 I2 => ?_
  refine PySem.W.callWith_of hpl (PySem.W.keeps_M (K := X.K) (self := .ref C) c.fi) (evalArgs_kw2_nil hall ?_)
  refine thn (hkw.run pos _ s2 σ H1 _ I2 q) fun ws s3 ⟨zs, H2, I3, rz, l2, q2⟩ => ⟨⟨pin_at I3, I3.kIn⟩, ?_⟩
  rw [hks]
  have z : wpAny (model X.prog X.w) X.A (call (.ref s1.heap.objs.size) [] (ks.zip ws)) (EP X ((s1.heap.objs.size, PySem.W.methodObj (.ref g) (.ref C)) :: pins) σ Q) X.xe s3 :=
    wpAny_call (PySem.W.method_call (pin_at I3) (codeAny_mono (F.run X.A X.stack s3 H2 ⟨[.ref C], ks.zip ws⟩ (gg [.ref C] ws) (gV [.ref C] zs) Q (E σ) hr I3.env0 (hb.to _ [.ref C] ws I3.kIn rfl (rz.length.symm.trans l2)) (hb.rel (.cons rfl .nil) rz) q2) fun r s' hq => by
      cases r with
      | error e => exact hx σ _ H2 s3 e s' I3 hq
      | ok fl =>
        cases fl with
        | ret u => exact I3.after hq
        | next => exact False.elim hq
        | brk => exact False.elim hq
        | cont => exact False.elim hq))
  exact thn z fun _ _ y => unpinE y
theorem pe_makeLK {E : XK} (M : Mk X.K C f) (F : FnOk X.prog X.w X.K X.mg X.base CX k f fd ps sp) (hr : Room (k + 1) X.A) (hN : X.N[i]? = some x) (hv : Vis X.env.scope x) (hb : KBn X.K fd ps (n + 1) ks gg gV) (hx : Passes CX X E) (ha : PA X (e :: es) t) (hkw : PK X kws tk)
    (hall : (backToKw pos (keywordEach kws X.env)).all (·.1.isSome) = true := by rfl) (hks : (backToKw pos (keywordEach kws X.env)).filterMap (·.1) = ks := by rfl) (hdb : (x == ("__debug__" : Str)) = false := by decide) (hcd : (x == ("__classdict__" : Str)) = false := by decide)
    (he : starEach (e :: es) X.env = (false, eval e X.env) :: starEach es X.env := by rfl) (hpl : ((backTo pos (starEach (e :: es) X.env)).any (·.1) || (backToKw pos (keywordEach kws X.env)).any (·.1.isNone)) = false := by rfl) :
    PE X (.Call (.Name x np) (e :: es) kws pos) (tMakeLK i C n ks.length sp gV E t tk) := by
  refine ⟨fun pins s σ H Q I h => ?_⟩
  obtain ⟨hs, ht⟩ := h
  refine wpAny_Call_Name_kw (thn ((pe_var (pos := np) hN hv hdb hcd).run pins s σ H (fun v H1 => v = .ref C ∧ H1 = H) I ⟨.ref C, hs, rfl, rfl⟩) fun u s0 ⟨v, H0, I0, r1, q1⟩ => ?_)
  obtain ⟨rfl, rfl⟩ := q1
  cases r1
  refine PySem.W.callWith_KW (h₀ := X.base) I.ok.mod.kin M.kp hall (thn (ha.run pos pins s0 σ _ _ I0 ht) fun us s1 ⟨vs, H1, I1, r, q⟩ => ?_) hpl he
  refine thn (hkw.run pos pins s1 σ H1 _ I1 q) fun ws s2 ⟨zs, H2, I2, rz, l1, l2, q2⟩ => ⟨I2.kIn, ?_⟩
  rw [hks]
  exact run_makeK M F hr hb hx I2 r rz l1 l2 q2
end
/-! ### the head: classmethods -/
def wCls (C m : Str) (K : PySem.W.Frag) : Addr := He5.wf K (He.ga K C) "classmethod" m
def fCMet (C m : Str) : Fact := fun K => He5.wrapB K (He.ga K C) "classmethod" "classmethod.__get__" m && PySem.W.fnIn K (He5.wf K (He.ga K C) "classmethod" m)
theorem fCMet_ok {C m : Str} {K : PySem.W.Frag} (h : fCMet C m K = true) : CMet K (He.ga K C) (.type "type") m (He.ma K (He.ga K C) m) (wCls C m K) := by
  obtain ⟨h1, h2⟩ := He.ba h
  exact He5.cmet_of h1 h2
theorem passLS {X : Cx} : ∀ σ : L2.St, PassesAt (L2.CX X.prog X.w) X σ E0 := fun σ pins H s e s' I c => passL pins σ H s e s' I c
/-! ### isinstance of instances of an own class -/
structure InsC (K : PySem.W.Frag) (C : Addr) : Prop where
  cl : Cls K C
  ha : PySem.W.findIn K (.ref C) "__class__" = some (some (.builtin "object.__class__"))
  hn : PySem.W.specialIn K (.builtin "object.__class__") "__get__" = some (some (.builtin "getset_descriptor.__get__"))
  htk : PySem.W.takesIn K (.builtin "object.__class__") = some true
  hm : PySem.W.mroIn K C (.type "object") = some true
  me : PySem.W.kitOne K (.ref C) (.ref C) = some true
def fIns (C : Str) : Fact := fun K => (He.Fa.cls C).ok K && (He.eqO (PySem.W.findIn K (.ref (He.ga K C)) "__class__") (some (some (.builtin "object.__class__"))) && (He.eqO (PySem.W.specialIn K (.builtin "object.__class__") "__get__") (some (some (.builtin "getset_descriptor.__get__"))) &&
  (decide (PySem.W.takesIn K (.builtin "object.__class__") = some true) && (decide (PySem.W.mroIn K (He.ga K C) (.type "object") = some true) && decide (PySem.W.kitOne K (.ref (He.ga K C)) (.ref (He.ga K C)) = some true)))))
theorem fIns_ok {C : Str} {K : PySem.W.Frag} (h : fIns C K = true) : InsC K (He.ga K C) := by
  obtain ⟨h0, h⟩ := He.ba h
  obtain ⟨h1, h⟩ := He.ba h
  obtain ⟨h2, h⟩ := He.ba h
  obtain ⟨h3, h⟩ := He.ba h
  obtain ⟨h4, h5⟩ := He.ba h
  exact ⟨He.cls_ok h0, He.eqO_ok h1, He.eqO_ok h2, of_decide_eq_true h3, of_decide_eq_true h4, of_decide_eq_true h5⟩
theorem r_isC {K : PySem.W.Frag} {C a dx : Addr} {fs : List (Str × V)} {H : Hp} {Q : VK} (c : InsC K C) (ha : H a = some (.ins C dx fs)) (h : Q (.bl true) H) : rIsi K [.ref a, .ref C] H Q :=
  ⟨.ref a, .ref C, .ref C, .ref C, true, rfl, .own C, .base (TyOf.ins ha c.cl c.ha c.hn c.htk c.hm), c.me, h⟩
section
variable {K : PySem.W.Frag} {H : Hp} {Q : VK} {σ : S}
theorem r_cmethK {C : Addr} {m : Nat} {sp : Sp} {gV : List V → List V → List V} {E : L2.St → XK} {tk : TA} (h : tk σ H fun zs H2 => zs.length = m ∧ sp (gV [.ref C] zs) H2 Q (E σ)) : tCMethK C m sp gV E (tC (.ref C)) tk σ H Q := ⟨rfl, h⟩
end
end Px

/-! own errors over any of some bases whose __init__ says super().__init__("..") and keeps its arguments, none, one or more -/
namespace PySem
namespace PxE
open PySem.W PySem.Calls PyProof.Rows PySem.HandSPX Builtin Builtin.ObjectAttr
structure Bas (B newId initId : String) (bmB : List Value) : Prop where
  fb : ExcBaseFacts B newId initId bmB
  kx : KxsFacts B initId
  pass : ∀ self, refuseLoop self "__setattr__" bmB = pure ()
  obj : bmB.contains (.type "object") = true
theorem bas_ValueError : Bas "ValueError" "ValueError.__new__" "ValueError.__init__" [.type "ValueError", .type "Exception", .type "BaseException", .type "object"] := ⟨F.excBase_ValueError, kxs_ValueError, F.store_ValueError.passes, by decide +kernel⟩
theorem bas_LookupError : Bas "LookupError" "LookupError.__new__" "LookupError.__init__" [.type "LookupError", .type "Exception", .type "BaseException", .type "object"] := ⟨F.excBase_LookupError, kxs_LookupError, F.store_LookupError.passes, by decide +kernel⟩
theorem bas_IndexError : Bas "IndexError" "IndexError.__new__" "IndexError.__init__" [.type "IndexError", .type "LookupError", .type "Exception", .type "BaseException", .type "object"] := ⟨F.excBase_IndexError, kxs_IndexError, F.store_IndexError.passes, by decide +kernel⟩
theorem bas_RuntimeError : Bas "RuntimeError" "RuntimeError.__new__" "RuntimeError.__init__" [.type "RuntimeError", .type "Exception", .type "BaseException", .type "object"] := ⟨F.excBase_RuntimeError, kxs_RuntimeError, F.store_RuntimeError.passes, by decide +kernel⟩
theorem bas_OverflowError : Bas "OverflowError" "OverflowError.__new__" "OverflowError.__init__" [.type "OverflowError", .type "ArithmeticError", .type "Exception", .type "BaseException", .type "object"] := ⟨F.excBase_OverflowError, kxs_OverflowError, F.store_OverflowError.passes, by decide +kernel⟩
theorem bas_TypeError : Bas "TypeError" "TypeError.__new__" "TypeError.__init__" [.type "TypeError", .type "Exception", .type "BaseException", .type "object"] := ⟨F.excBase_TypeError, kxs_TypeError, F.store_TypeError.passes, by decide +kernel⟩
section
variable {prog : Program} {w : World} {A : Around} {E : Value → Shared → Prop} {R : Result → Shared → Prop} {hp : Heap} {g : Array GenState} {d : Drawn} {t : Nat} {os : OsState} {B newId initId : String} {bmB : List Value}
theorem osa_first (BS : Bas B newId initId bmB) {K : W.Frag} {name : Str} {tk : Tok} {v : Value} {x C : Addr} {fv : Array Value} {cd : ClassData}
    (X : K.In hp) (hx : hp.get? x = some { cls := .ref C, data := .fields fv }) (hcd : W.clsIn K C = some cd) (hm : cd.mro = .ref C :: bmB) (hh : cd.hasDict = true) (ha : W.findIn K (.ref C) name = some none)
    (hq : ∀ h' tk' dx, (∀ b o, b ≠ x → hp.get? b = some o → h'.get? b = some o) → hp.objs.size ≤ dx → dx ≠ x → h'.get? x = some { cls := .ref C, dict := some dx, data := .fields fv } →
      h'.Ns1 dx (fun y => if y = name then some v else none) → R (.ok (.ret .none)) ⟨h', g, d, tk', os⟩) :
    codeAny (model prog w) A (.call (.builtin "object.__setattr__") ⟨[.ref x, .str name tk, v], []⟩) R ⟨hp, g, d, t, os⟩ := by
  have I : W.InstAt hp x { cls := .ref C, data := .fields fv } C none := ⟨hx, rfl, rfl, trivial⟩
  have SF := F.store_object
  have ne : cd.mro.isEmpty = false := by rw [hm]; rfl
  have hob : cd.mro.contains (.type "object") = true := by rw [hm, List.contains_cons, BS.obj, Bool.or_true]
  have hxs : x ≠ hp.objs.size := Nat.ne_of_lt (Heap.lt_size hx)
  have sub : W.Looks (model prog w) hp (isInstance (.ref x) (.type "object")) true := I.type.andThen (W.looks_mroIn X (by unfold W.mroIn; rw [hcd, Option.bind_some, if_neg (by rw [ne]; decide), hob]))
  refine codeAny_call_builtin SF.slot.plain SF.entry (@W.check_slot (model prog w) _ _ ⟨hp, g, d, t, os⟩ "object.__setattr__" "object" "__setattr__" (.ref x) [.str name tk, v] [] _ SF.kind SF.split sub (SF.args (.ref x) (.str name tk) v) ?_)
  have hmr : W.Looks (model prog w) hp (mroOf (.ref C)) cd.mro := (W.looks_clsIn X hcd).andThen .now
  have L3 : W.Looks (model prog w) hp (storeTaker? none) none := .now
  have hcls : W.Looks (model prog w) hp (classData C) cd := W.looks_clsIn X hcd
  have hps : refuseLoop (.ref x) "__setattr__" cd.mro = pure () := by rw [hm, refuseLoop_ref]; exact BS.pass _
  rw [W.osa_eq, refuse_eq]
  refine wpAny_bind (wpAny_bind (I.type.at (wpAny_bind (hmr.at ?_))))
  rw [hps]
  refine wpAny_pure (wpAny_bind (I.type.at (wpAny_bind ((W.looks_findIn X ha).at (wpAny_bind (L3.at ?_))))))
  show wpAny _ _ (storeInOwnDict (.ref x) (.ref C) (.str name tk) name v false) _ _ _
  obtain ⟨nm, bs, mro, ns, qn, hd, sn, sb, ab, col, del⟩ := cd
  dsimp only at hh
  subst hh
  unfold storeInOwnDict ownDictForStores
  repeat (first | with_reducible refine HandSPX.store_in_new ?_ ?_ | with_reducible refine wpAny_loadPart_at hx ?_ | with_reducible refine hcls.at ?_ | wp_step)
  · exact ⟨_, #[], _, (Heap.get?_update_ne _ _ _ _ hxs.symm).trans (Heap.get?_push_at rfl rfl), rfl, fun e he => absurd he (by simp), fun _ => rfl⟩
  · intro h' tk' hn' hs
    have hx₁ : (hp.push { cls := .type "dict", data := .dict #[] }).get? x = some { cls := .ref C, data := .fields fv } := Heap.get?_push_of_some _ hx
    refine hq h' tk' hp.objs.size (fun b o hb ho => ?_) (Nat.le_refl _) hxs.symm ?_ hn'
    · exact (hs.2 b (Nat.ne_of_lt (Heap.lt_size ho))).trans ((Heap.get?_update_ne _ _ _ _ hb).trans (Heap.get?_push_of_some _ ho))
    · exact (hs.2 x hxs).trans (Heap.get?_update_self _ hx₁ rfl)
theorem osa_more (BS : Bas B newId initId bmB) {K : W.Frag} {name : Str} {tk : Tok} {v : Value} {x C dx : Addr} {fv : Array Value} {cd : ClassData} {m0 : Str → Option Value} {nl : List Str}
    (X : K.In hp) (hx : hp.get? x = some { cls := .ref C, dict := some dx, data := .fields fv }) (hns : hp.Ns1 dx m0) (hw : Within m0 nl) (hz : nl.length ≤ 1000) (hcd : W.clsIn K C = some cd) (hm : cd.mro = .ref C :: bmB) (hh : cd.hasDict = true)
    (ha : W.findIn K (.ref C) name = some none)
    (hq : ∀ h' tk', (∀ b o, b ≠ dx → hp.get? b = some o → h'.get? b = some o) → h'.Ns1 dx (fun y => if y = name then some v else m0 y) → R (.ok (.ret .none)) ⟨h', g, d, tk', os⟩) :
    codeAny (model prog w) A (.call (.builtin "object.__setattr__") ⟨[.ref x, .str name tk, v], []⟩) R ⟨hp, g, d, t, os⟩ := by
  obtain ⟨oD, esD, epD, hoD, hdD, _⟩ := hns.count hw
  have I : W.InstAt hp x { cls := .ref C, dict := some dx, data := .fields fv } C (some oD) := ⟨hx, rfl, rfl, hoD⟩
  have SF := F.store_object
  have ne : cd.mro.isEmpty = false := by rw [hm]; rfl
  have hob : cd.mro.contains (.type "object") = true := by rw [hm, List.contains_cons, BS.obj, Bool.or_true]
  have sub : W.Looks (model prog w) hp (isInstance (.ref x) (.type "object")) true := I.type.andThen (W.looks_mroIn X (by unfold W.mroIn; rw [hcd, Option.bind_some, if_neg (by rw [ne]; decide), hob]))
  refine codeAny_call_builtin SF.slot.plain SF.entry (@W.check_slot (model prog w) _ _ ⟨hp, g, d, t, os⟩ "object.__setattr__" "object" "__setattr__" (.ref x) [.str name tk, v] [] _ SF.kind SF.split sub (SF.args (.ref x) (.str name tk) v) ?_)
  have hmr : W.Looks (model prog w) hp (mroOf (.ref C)) cd.mro := (W.looks_clsIn X hcd).andThen .now
  have L3 : W.Looks (model prog w) hp (storeTaker? none) none := .now
  have hcls : W.Looks (model prog w) hp (classData C) cd := W.looks_clsIn X hcd
  have hps : refuseLoop (.ref x) "__setattr__" cd.mro = pure () := by rw [hm, refuseLoop_ref]; exact BS.pass _
  rw [W.osa_eq, refuse_eq]
  refine wpAny_bind (wpAny_bind (I.type.at (wpAny_bind (hmr.at ?_))))
  rw [hps]
  refine wpAny_pure (wpAny_bind (I.type.at (wpAny_bind ((W.looks_findIn X ha).at (wpAny_bind (L3.at ?_))))))
  show wpAny _ _ (storeInOwnDict (.ref x) (.ref C) (.str name tk) name v false) _ _ _
  obtain ⟨nm, bs, mro, ns, qn, hd, sn, sb, ab, col, del⟩ := cd
  dsimp only at hh
  subst hh
  unfold storeInOwnDict ownDictForStores
  repeat (first | with_reducible refine OEX.store_in_old hns hw hz ?_ | with_reducible refine wpAny_loadPart_at hx ?_ | with_reducible refine hcls.at ?_ | wp_step)
  intro h' tk' hn' hs
  exact hq h' tk' (fun b o hb ho => (hs.2 b hb).trans ho) hn'
end
/-- a field that __init__ keeps: its name, the parameter, the value, the four places -/
structure FE where
  fld : Str
  prm : Str
  v : Value
  p6 : Pos
  p7 : Pos
  p8 : Pos
  p9 : Pos
abbrev FE.st (q : FE) : Stmt := s2 q.fld q.prm q.p6 q.p7 q.p8 q.p9
def putM (m : Str → Option Value) : List FE → (Str → Option Value)
  | [] => m
  | q :: r => putM (fun y => if y = q.fld then some q.v else m y) r
/-- what a made exception has of its fields: no dict, or a dict with them -/
def Made (h h' : Heap) (e : Addr) (od : Option Addr) (m : Str → Option Value) : Prop := (od = none ∧ m = fun _ => none) ∨ ∃ dx nl, od = some dx ∧ h.objs.size ≤ dx ∧ dx ≠ e ∧ h'.Ns1 dx m ∧ Within m nl ∧ nl.length ≤ 1000
section
variable {prog : Program} {w : World} {A A' : Around} {E' : Value → Shared → Prop} {R : Result → Shared → Prop} {hp : Heap} {g : Array GenState} {d : Drawn} {t : Nat} {os : OsState} {K : Frag} {B newId initId : String} {bmB : List Value}
variable {C f cc cda e t0 L : Addr} {v : Value} {mg mb : Str → Option Value} {name qual txt fld prm : Str} {params : Arguments} {scope : Scope} {dV kV doc pm ct oc ccl cl : Value} {an od cdd cld : Option Addr} {osl ccs csl : Array (Option Value)} {vs : Array Value} {file : Str} {tf : Tok} {ar : Arg}
  {p0 p1 p2 p3 p4 p5 : Pos} {k : Nat} {cd : ClassData} {binds : List (Str × Value)} {env : Env}
theorem within_put {m : Str → Option Value} {nl : List Str} {x : Str} {v : Value} (h : Within m nl) : Within (fun y => if y = x then some v else m y) (x :: nl) := Within.cons x v h
/-- the statements that keep the fields -/
theorem flds_run (BS : Bas B newId initId bmB) (hcd : clsIn K C = some cd) (hm : cd.mro = .ref C :: bmB) (hh : cd.hasDict = true) (hsk : env.scope.kind = .function) (hself : env.scope.names.lookup ("self" : Str) = some .local) (hloc : env.locals = L) (sa : findIn K (.ref C) "__setattr__" = some (some (.builtin "object.__setattr__")))
    (lself : binds.reverse.lookup ("self" : Str) = some (Value.ref e)) (hKe : ∀ a o, K.lookup a = some o → a ≠ e) (hL : hp.objs.size ≤ L) (hLe : L ≠ e) {Q : Flow → Shared → Prop} :
    ∀ (fl : List FE) (h4 : Heap) (t4 : Nat) (od : Option Addr) (m0 : Str → Option Value) (n : Nat), K.In hp → (∀ b o, b ≠ e → hp.get? b = some o → h4.get? b = some o) → h4.Ns L (fun x => binds.reverse.lookup x) → (∃ t1, h4.get? e = some ({ cls := .ref C, dict := od, data := .fields #[.ref t1, .none, .none, .none, .bool false, .none] } : Obj)) →
      ((od = none ∧ m0 = fun _ => none) ∨ ∃ dx nl, od = some dx ∧ hp.objs.size ≤ dx ∧ dx ≠ e ∧ dx ≠ L ∧ h4.Ns1 dx m0 ∧ Within m0 nl ∧ nl.length ≤ n) → n + fl.length ≤ 1000 →
      (∀ q ∈ fl, env.scope.names.lookup q.prm = some .local ∧ binds.reverse.lookup q.prm = some q.v ∧ (q.prm == ("__debug__" : Str)) = false ∧ findIn K (.ref C) q.fld = some none ∧ swapsWith (.Name q.prm q.p8) (some (.Attribute (.Name "self" q.p6) q.fld q.p7)) q.p9.line env = pure false) →
      (∀ h' t' od' t1, (∀ b o, b ≠ e → hp.get? b = some o → h'.get? b = some o) → h'.get? e = some ({ cls := .ref C, dict := od', data := .fields #[.ref t1, .none, .none, .none, .bool false, .none] } : Obj) → Made hp h' e od' (putM m0 fl) → (od' = none ↔ od = none ∧ fl = []) → Q .next ⟨h', g, d, t', os⟩) →
      wpAny (model prog w) A' (execs (fl.map FE.st) env) Q E' ⟨h4, g, d, t4, os⟩ := by
  intro fl
  induction fl with
  | nil =>
    intro h4 t4 od m0 n X kk hns he hst hn hf hq
    obtain ⟨t1, he⟩ := he
    refine wpAny_execs_nil ?_
    refine hq h4 t4 od t1 kk he ?_ (by simp)
    rcases hst with ⟨a, b⟩ | ⟨dx, nl, a, b, c, _, c1, c2, c3⟩
    · exact .inl ⟨a, b⟩
    · exact .inr ⟨dx, nl, a, b, c, c1, c2, Nat.le_trans c3 (Nat.le_trans (Nat.le_add_right _ _) hn)⟩
  | cons q fl ih =>
    intro h4 t4 od m0 n X kk hns he hst hn hf hq
    obtain ⟨t1, he⟩ := he
    obtain ⟨f1, f2, f3, f4, f5⟩ := hf q (List.mem_cons_self ..)
    have X4 : K.In h4 := fun a o z => kk a o (hKe a o z) (X a o z)
    subst hloc
    show wpAny _ _ (execs (q.st :: fl.map FE.st) env) _ _ _
    refine wpAny_execs_cons (plainObj_wpAny_Assign_Attribute ?_ f5)
    refine wpAny_Name (wpAny_loadName_local hsk f1 hns f2 ?_) f3
    refine wpAny_Name (wpAny_loadName_local hsk hself hns lself ?_) (by decide)
    have rest : ∀ (h5 : Heap) (t5 : Nat) (dx : Addr) (nl : List Str), (∀ b o, b ≠ e → hp.get? b = some o → h5.get? b = some o) → h5.Ns env.locals (fun x => binds.reverse.lookup x) → (∃ t1, h5.get? e = some ({ cls := .ref C, dict := some dx, data := .fields #[.ref t1, .none, .none, .none, .bool false, .none] } : Obj)) → hp.objs.size ≤ dx → dx ≠ e → dx ≠ env.locals →
        h5.Ns1 dx (fun y => if y = q.fld then some q.v else m0 y) → Within (fun y => if y = q.fld then some q.v else m0 y) nl → nl.length ≤ n + 1 → wpAny (model prog w) A' (execs (fl.map FE.st) env) Q E' ⟨h5, g, d, t5, os⟩ := fun h5 t5 dx nl k5 n5 e5 d1 d2 d3 d4 d5 d6 =>
      ih h5 t5 (some dx) _ (n + 1) X k5 n5 e5 (.inr ⟨dx, nl, rfl, d1, d2, d3, d4, d5, d6⟩) (by rw [List.length_cons] at hn; omega) (fun q' hq' => hf q' (List.mem_cons_of_mem _ hq')) fun h' t' od' t1 a1 a2 a3 a4 => hq h' t' od' t1 a1 a2 a3 (by simp at a4 ⊢; exact a4)
    rcases hst with ⟨rfl, rfl⟩ | ⟨dx, nl, rfl, b1, b2, b3, c1, c2, c3⟩
    · refine set_plain X4 (ox := { cls := .ref C, dict := none, data := .fields #[.ref t1, .none, .none, .none, .bool false, .none] }) (od := none) ⟨he, rfl, rfl, trivial⟩ sa ?_
      refine osa_first BS X4 he hcd hm hh f4 (fun h5 tk5 dx k5 dn dne hx5 hn5 => ?_)
      have zl : env.locals < h4.objs.size := hns.lt
      refine rest h5 tk5 dx [q.fld] (fun b o hb z => k5 b o hb (kk b o hb z)) (hns.at fun o z => k5 _ o hLe z) ⟨t1, hx5⟩ (Nat.le_trans hL (Nat.le_trans (Nat.le_of_lt zl) dn)) dne (Nat.ne_of_gt (Nat.lt_of_lt_of_le zl dn)) hn5 (within_put (m := fun _ => none) Within.nil) (by simp)
    · obtain ⟨oD, esD, epD, hoD, _⟩ := c1.count c2
      refine set_plain X4 (ox := { cls := .ref C, dict := some dx, data := .fields #[.ref t1, .none, .none, .none, .bool false, .none] }) (od := some oD) ⟨he, rfl, rfl, hoD⟩ sa ?_
      refine osa_more BS X4 he c1 c2 (by omega) hcd hm hh f4 (fun h5 tk5 k5 hn5 => ?_)
      refine rest h5 tk5 dx (q.fld :: nl) (fun b o hb z => k5 b o (fun y => ?_) (kk b o hb z)) (hns.at fun o z => k5 _ o (Ne.symm b3) z) ⟨t1, k5 _ _ (Ne.symm b2) he⟩ b1 b2 b3 hn5 (within_put c2) (by simp only [List.length_cons]; omega)
      rw [y] at z
      exact absurd (Heap.lt_size z) (Nat.not_lt.mpr b1)
/-- super().__init__("txt"), then the fields -/
theorem init_gen (BS : Bas B newId initId bmB) {fl : List FE} (X : K.In hp) (hg : hp.Ns mainGlobals mg) (hb : hp.Ns builtinsNs mb) (hmb : mb "super" = some (.type "super")) (hsuper : mg "super" = none) (lim : hp.NoLimit) (hroom : A.depth < recursionLimit)
    (lk : K.lookup f = some ⟨oc, od, .func (ksFn name qual params (s1 txt p0 p1 p2 p3 p4 p5 k :: fl.map FE.st) scope dV kV doc pm an (.ref cda) ct cc), osl⟩) (hcd : codeIn K (.ref cda) qual = true)
    (hpar : (params.posonlyargs ++ params.args).head? = some ar) (har : ar.arg = "self")
    (hcode : K.lookup cda = some ⟨ccl, cdd, .fields vs, ccs⟩) (hvs : vs[2]? = some (.str file tf)) (hfile : ((prog.main.file : Str) == file) = true) (htop : (prog.main.scope.names.lookup ("super" : Str)).isSome = false)
    (hcell : K.lookup cc = some ⟨cl, cld, .cell (some (.ref C)), csl⟩)
    (hsc : ∀ x ∈ scope.names, x.2 ≠ .cell) (hs1 : scope.names.lookup ("super" : Str) = some .globalImplicit) (hs2 : scope.names.lookup ("__class__" : Str) = some .free) (hs3 : scope.names.lookup ("self" : Str) = some .local) (hbl : ∀ y ∈ binds, scope.names.lookup y.1 = some .local)
    (hsk : scope.kind = .function) (hco : scope.isCoroutine = false) (hgen : scope.isGenerator = false)
    {nm q : Str} {N : Addr} {bs : List Value} {sn : List Str} {sub : List Value} {ab : Bool} {col : Option Bool} {dd : Option Addr} {k0 k1 k2 k3 k5 : Option Value}
    (hC : K.lookup C = some (excClassObj nm q C N bs bmB true sn sub ab col dd k0 k1 k2 k3 k5 newId)) (sa : findIn K (.ref C) "__setattr__" = some (some (.builtin "object.__setattr__")))
    (hop : nsIn K cStatics "thirdparty.any" = some none) (hsup : ks_superIn K C C "__init__" = some (some (.builtin initId))) (hB : subIn K (.ref C) (.type B) = some true) (hself : mroIn K C (.ref C) = some true)
    (he : hp.get? e = some ({ cls := .ref C, dict := none, data := .fields #[.ref t0, .none, .none, .none, .bool false, .none] } : Obj))
    (hKe : ∀ a o, K.lookup a = some o → a ≠ e) {us : List Value}
    (hbind : BindsTo ⟨hp, g, d, t, os⟩ (ksFn name qual params (s1 txt p0 p1 p2 p3 p4 p5 k :: fl.map FE.st) scope dV kV doc pm an (.ref cda) ct cc) ⟨.ref e :: us, []⟩ binds) (lself : binds.reverse.lookup ("self" : Str) = some (Value.ref e))
    (pl : Addr → Sem Bool) (env : Addr → Env) (henv : env = fun L => callEnv (ksFn name qual params (s1 txt p0 p1 p2 p3 p4 p5 k :: fl.map FE.st) scope dV kV doc pm an (.ref cda) ct cc) L f)
    (hi : ∀ L, interactive (env L) = false) (hw1 : ∀ L, swapsWith (c1 txt p0 p1 p2 p3 p4 k) none p5.line (env L) = pure false)
    (hfl : ∀ q ∈ fl, scope.names.lookup q.prm = some .local ∧ binds.reverse.lookup q.prm = some q.v ∧ (q.prm == ("__debug__" : Str)) = false ∧ findIn K (.ref C) q.fld = some none ∧ ∀ L, swapsWith (.Name q.prm q.p8) (some (.Attribute (.Name "self" q.p6) q.fld q.p7)) q.p9.line (env L) = pure false) (hfn : fl.length ≤ 100)
    (hev : ∀ L, eval (c1 txt p0 p1 p2 p3 p4 k) (env L) = (do
      let ov ← attributeBase (.Call (.Name "super" p0) [] [] p1) "__init__" (env L) (eval (.Call (.Name "super" p0) [] [] p1) (env L))
      standAt p2.atName
      let (f, first) ← holding [ov] (getMethod ov "__init__" (pl L))
      callWith p4 f first (backTo p4 (starEach [.Constant (.str txt) k p3] (env L))) []))
    (hst : ∀ L, starEach [.Constant (.str txt) k p3] (env L) = [(false, eval (.Constant (.str txt) k p3) (env L))])
    (hq : ∀ h' t' od' t1, (∀ b o, b ≠ e → hp.get? b = some o → h'.get? b = some o) → h'.get? e = some ({ cls := .ref C, dict := od', data := .fields #[.ref t1, .none, .none, .none, .bool false, .none] } : Obj) → Made hp h' e od' (putM (fun _ => none) fl) → (od' = none ↔ fl = []) → R (.ok (.ret .none)) ⟨h', g, d, t', os⟩) :
    codeAny (model prog w) A (.call (.ref f) ⟨.ref e :: us, []⟩) R ⟨hp, g, d, t, os⟩ := by
  have hcl : clsIn K C = some { name := nm, bases := bs, mro := .ref C :: bmB, ns := N, qualname := q, hasDict := true, slotNames := sn, subclasses := sub, abstract := ab, collection := col, hasDel := false } := by unfold clsIn; rw [hC] <;> rfl
  refine ks_codeAny_call_defAt (fd := ksFn name qual params (s1 txt p0 p1 p2 p3 p4 p5 k :: fl.map FE.st) scope dV kV doc pm an (.ref cda) ct cc) (body := s1 txt p0 p1 p2 p3 p4 p5 k :: fl.map FE.st) (binds := binds)
    hroom (X _ _ lk) rfl lim (codeRec_of X hcd) rfl hbind hsc hbl (fun h1 hns hk1 => ?_) hco hgen hsk
  have X1 : K.In h1 := X.keeps hk1
  have he1 := hk1 _ _ he
  have ee : ∀ L, callEnv (ksFn name qual params (s1 txt p0 p1 p2 p3 p4 p5 k :: fl.map FE.st) scope dV kV doc pm an (.ref cda) ct cc) L f = env L := fun L => by rw [henv]
  show wpAt _ (A.deeper (callEnv _ hp.objs.size f)) (.func _ (callEnv _ hp.objs.size f)) (execs _ (callEnv _ hp.objs.size f)) _ _ _
  rw [ee hp.objs.size]
  have hk : (env hp.objs.size).scope = scope := by rw [henv]; rfl
  refine ks_wpAt_execs_cons (ks_wpAt_Expr_any (ks_wpAt_MethodCall (pl := pl hp.objs.size) ?_ (hev _)) (hi _) (hw1 _))
  rw [← ee hp.objs.size]
  refine ks_wpAt_super_base hs1 hs2 (by decide) rfl (X1 _ _ lk) rfl hpar rfl (X1 _ _ hcode) rfl hvs hfile htop ?_
  refine ks_loadName_global hsk hs1 (loadGlobal_builtin (hg.keeps hk1) hsuper (hb.keeps hk1) hmb ⟨rfl, ?_⟩)
  refine wpAny_loadName_free hsk hs2 rfl ⟨_, X1 _ _ hcell, rfl⟩ ?_
  rw [har]
  refine wpAny_loadName_local hsk hs3 hns lself ?_
  refine ks_wpAny_isType_cls (X1 _ _ hC) rfl ⟨rfl, ?_⟩
  refine ks_wpAny_call_super (X1 _ _ hC) rfl he1 rfl (fun c z => nomatch z) (looks_mroIn X1 hself) (fun h2 hso k2' => ?_)
  have X2 : K.In h2 := X1.keeps k2'
  have he2 := k2' _ _ he1
  have hns2 := hns.keeps k2'
  have I2 : InstAt h2 e ({ cls := .ref C, dict := none, data := .fields #[.ref t0, .none, .none, .none, .bool false, .none] } : Obj) C none := ⟨he2, rfl, rfl, trivial⟩
  have hsup' : alongIn K "__init__" (((Value.ref C :: bmB).dropWhile (· != .ref C)).drop 1) = some (some (.builtin initId)) := by
    unfold ks_superIn at hsup
    rw [hcl] at hsup
    exact hsup
  refine kxs_getMethod BS.kx hso (looks_opaque X2 hop) (l₀ := Value.ref C :: bmB) (fun A Q E s k q => wpAny_bind ((looks_clsIn X2 hcl) A _ E s k (wpAny_pure q))) rfl X2 hsup' (I2.type.andThen (looks_subIn X2 hB)) (ks_ne X2 I2 hcl) (by decide) ?_
  have k3' : ∀ b o, h2.get? b = some o → (h2.push (kxs_mw initId e)).get? b = some o := fun b o z => Heap.get?_push_of_some _ z
  have hu : (h2.push (kxs_mw initId e)).get? h2.objs.size = some (kxs_mw initId e) := Heap.get?_push_at rfl rfl
  generalize hh3 : h2.push (kxs_mw initId e) = h3 at k3' hu
  have X3 : K.In h3 := X2.keeps k3'
  have he3 := k3' _ _ he2
  have hns3 := hns2.keeps k3'
  have kk3 : ∀ b o, hp.get? b = some o → h3.get? b = some o := fun b o z => k3' b o (k2' b o (hk1 b o z))
  show wpAny _ _ (callWith p4 (.ref h2.objs.size) [] (backTo p4 (starEach [.Constant (.str txt) k p3] _)) []) _ _ _
  rw [ee hp.objs.size, hst]
  refine kxs_callWith (i := initId) (x := e) rfl (evalArgs_plain (spliced_cons (Constant_str (pos := p3) (k := k) (spliced_nil ⟨hu, ?_⟩))))
  have FB := BS.fb
  refine wpAny_call (codeAny_of_tree ?_)
  show wpAny _ (A.deeper (env hp.objs.size)).in1 (callAny (.ref h2.objs.size) ⟨[.str txt _], []⟩) _ _ _
  simp only [callAny]
  refine wpAny_bind (wpAny_load hu ?_)
  simp only [kxs_mw, show (Value.type "method-wrapper" == Value.type "method" || Value.type "method-wrapper" == Value.type "builtin_function_or_method" || Value.type "method-wrapper" == Value.type "method-wrapper") = true by decide, if_true]
  refine KFB.if_so (by decide) ?_
  refine wpAny_bind (check_bound_init FB.toExcCallFacts (X3 _ _ hC) he3 rfl ?_)
  refine wpAny_bind (wpAny_pure (wpAny_pure ?_))
  refine ⟨plainId_quiet FB.init.plain _, codeAny_builtin FB.initEntry ?_⟩
  refine exc_init_tree (cls := .ref C) (t0 := t0) (dv := none) (c2 := .none) (c3 := .none) (b4 := .bool false) he3 (by show 1 ≤ sizeLine; decide) (fun h4 k4' he4 _ => ?_)
  -- the fields
  have eL : hp.objs.size ≠ e := Nat.ne_of_gt (Heap.lt_size he)
  have kk4 : ∀ b o, b ≠ e → hp.get? b = some o → h4.get? b = some o := fun b o hb z => k4' b o hb (kk3 b o z)
  have hns4 : h4.Ns hp.objs.size (fun x => binds.reverse.lookup x) := hns3.at fun o z => k4' _ o eL z
  have he4' : h4.get? e = some ({ cls := .ref C, dict := none, data := .fields #[.ref h3.objs.size, .none, .none, .none, .bool false, .none] } : Obj) := he4
  show wpAt _ _ _ (execs (fl.map FE.st) (env hp.objs.size)) _ _ _
  refine wpAt_of_wpAny (flds_run BS hcl rfl rfl (by rw [hk]; exact hsk) (by rw [hk]; exact hs3) (L := hp.objs.size) (by rw [henv]; rfl) sa lself hKe (Nat.le_refl _) eL fl h4 _ none (fun _ => none) 0 X kk4 hns4 ⟨_, he4'⟩ (.inl ⟨rfl, rfl⟩) (by omega) (fun q hq' => ?_) fun h' t' od' t1 k' e' m' z' => ?_)
  · obtain ⟨f1, f2, f3, f4, f5⟩ := hfl q hq'
    exact ⟨by rw [hk]; exact f1, f2, f3, f4, f5 _⟩
  · exact hq h' t' od' t1 k' e' m' (by simpa using z')
end
def putZ (m : Str → Option Value) : List Str → List Value → (Str → Option Value)
  | f :: fs, v :: vs => putZ (fun y => if y = f then some v else m y) fs vs
  | _, _ => m
/-- what a call of the class's __init__ does: the object gets its fields -/
def InitOkN (prog : Program) (w : World) (K : Frag) (mg : Str → Option Value) (C f : Addr) (fls : List Str) : Prop :=
  ∀ (A : Around) (R : Result → Shared → Prop) (hp : Heap) (g : Array GenState) (d : Drawn) (t : Nat) (os : OsState) (e t0 : Addr) (us : List Value) (mb : Str → Option Value), us.length = fls.length → K.In hp → hp.Ns mainGlobals mg → hp.Ns builtinsNs mb → mb "super" = some (.type "super") → hp.NoLimit →
    A.depth < recursionLimit → (∀ a o, K.lookup a = some o → a ≠ e) → hp.get? e = some ({ cls := .ref C, dict := none, data := .fields #[.ref t0, .none, .none, .none, .bool false, .none] } : Obj) →
    (∀ h' t' od t1, (∀ b o, b ≠ e → hp.get? b = some o → h'.get? b = some o) → h'.get? e = some ({ cls := .ref C, dict := od, data := .fields #[.ref t1, .none, .none, .none, .bool false, .none] } : Obj) → Made hp h' e od (putZ (fun _ => none) fls us) → (od = none ↔ fls = []) → R (.ok (.ret .none)) ⟨h', g, d, t', os⟩) →
    codeAny (model prog w) A (.call (.ref f) ⟨.ref e :: us, []⟩) R ⟨hp, g, d, t, os⟩
end PxE
end PySem
namespace L2
open PySem PySem.Spec PyProof.Rows
/-- what the written part says of such a class -/
structure OexN (K : PySem.W.Frag) (C : Addr) (newId : String) (bmB : List Value) : Prop where
  cls : ∃ nm q N bs sn sub ab col dd k0 k1 k2 k3 k5, K.lookup C = some (excClassObj nm q C N bs bmB true sn sub ab col dd k0 k1 k2 k3 k5 newId)
  sa : PySem.W.findIn K (.ref C) "__setattr__" = some (some (.builtin "object.__setattr__"))
  exC : PySem.W.subIn K (.ref C) (.type "BaseException") = some true
  tyC : PySem.W.typeIn K (.ref C) = some (.type "type")
  kC : PySem.W.keepIn K (.ref C) = true
def zipX (acc : List (Str × V)) : List Str → List V → List (Str × V)
  | f :: fs, v :: vs => zipX ((f, v) :: acc) fs vs
  | _, _ => acc
theorem relO_zip : ∀ {fls : List Str} {vs : List V} {us : List Value} {acc : List (Str × V)} {m : Str → Option Value}, Vals vs us → (∀ g, RelO (acc.lookup g) (m g)) → ∀ g, RelO ((zipX acc fls vs).lookup g) (PySem.PxE.putZ m fls us g)
  | [], _, _, _, _, _, h => by
    intro g
    simp only [zipX, PySem.PxE.putZ]
    exact h g
  | f :: fs, [], [], _, _, _, h => h
  | f :: fs, v :: vs, u :: us, acc, m, .cons rv rr, h => relO_zip (fls := fs) rr (relO_put rv h)
/-- C(e, ..), C's own __init__ keeping its arguments as the fields fls -/
def tMkN (C : Addr) (fls : List Str) (ta : TA) : St → Hp → XK → Prop := fun σ H Q => ta σ H fun vs H1 => vs.length = fls.length ∧ (fls = [] → Q (.ref C) none H1) ∧ (fls ≠ [] → ∀ d, H1 d = none → Q (.ref C) (some d) (upd H1 d (.xd (zipX [] fls vs))))
section
variable {X : Cx} {x : Str} {C fI : Addr} {k : Nat} {fls : List Str} {B newId initId : String} {bmB : List Value} {pos p : Pos}
theorem mk_run {pins : List (Addr × Obj)} {σ : St} {H1 : Hp} {Q : XK} {s1 : Shared} {us : List Value} {vs : List V} (BS : PySem.PxE.Bas B newId initId bmB) (T : OexN X.K C newId bmB) (iC : PySem.W.findIn X.K (.ref C) "__init__" = some (some (.ref fI))) (tI : PySem.W.typeIn X.K (.ref fI) = some (.type "function"))
    (IO : PySem.PxE.InitOkN X.prog X.w X.K X.mg C fI fls) (hr : Room (k + 1) X.A) (I1 : Inv X pins σ H1 s1) (r1 : Vals vs us) (hl : vs.length = fls.length) (hfl : fls.length ≤ 100)
    (q0 : fls = [] → Q (.ref C) none H1) (q1 : fls ≠ [] → ∀ d, H1 d = none → Q (.ref C) (some d) (upd H1 d (.xd (zipX [] fls vs)))) :
    wpAny (model X.prog X.w) X.A (call (.ref C) us) (MkP X pins σ Q) X.xe s1 := by
  obtain ⟨nm, q, N, bs, sn, sub, ab, col, dd, k0, k1, k2, k3, k5, hC⟩ := T.cls
  have ul : us.length = fls.length := r1.length.symm.trans hl
  obtain ⟨hp, g, dr, tk, os⟩ := s1
  have kk : ∀ b o, hp.get? b = some o → ((hp.push (PySem.W.kdv_tup us)).push (PySem.HandSPX.excO C hp.objs.size)).get? b = some o := fun b o e => Heap.get?_push_of_some _ (Heap.get?_push_of_some _ e)
  have hget : ((hp.push (PySem.W.kdv_tup us)).push (PySem.HandSPX.excO C hp.objs.size)).get? (hp.objs.size + 1) = some (PySem.HandSPX.excO C hp.objs.size) := by heap_get
  have e0 := I1.env0
  obtain ⟨mb, hmb, hmv⟩ := e0.mod.blt
  have hus : us.length ≤ sizeLine := by rw [ul, sizeLine_eq]; omega
  have old : ∀ b o, hp.get? b = some o → b ≠ hp.objs.size + 1 := fun b o z => Nat.ne_of_lt (Nat.lt_succ_of_lt (Heap.lt_size z))
  refine wpAny_call (PySem.HandSPX.call_own BS.fb (fun Y => rfl) (I1.kIn _ _ hC) (PySem.W.looks_findIn I1.kIn iC) (fun self => PySem.W.bind_fn I1.kIn self tI) hus ?_)
  have szp : ((hp.push (PySem.W.kdv_tup us)).push (PySem.HandSPX.excO C hp.objs.size)).objs.size = hp.objs.size + 2 := by rw [Heap.size_push, Heap.size_push]
  generalize hpp : (hp.push (PySem.W.kdv_tup us)).push (PySem.HandSPX.excO C hp.objs.size) = hp2 at *
  have kb : ∀ b o, X.base.get? b = some o → hp2.get? b = some o := fun b o z => kk b o (e0.bs b o z).1
  have bs2 : mb "super" = some (.type "super") := (hmv _ (by decide +kernel)).trans (by first | boot_by_name | rfl | kernel_rfl)
  refine IO _ _ hp2 g dr _ os (hp.objs.size + 1) hp.objs.size us mb ul (I1.kIn.keeps kk) (e0.mod.glob.keeps kb) (hmb.keeps kb) bs2 (e0.mod.nolimit.keeps kb) (hr.make C us []).depth (fun b o z => old b o (I1.kIn b o z)) hget (fun h' t' od t1 k' hx hm hz => ?_)
  have all : ∀ b o, hp.get? b = some o → h'.get? b = some o := fun b o z => k' b o (old b o z) (kk b o z)
  obtain ⟨G', g1, g2⟩ := restrict h' fun b => decide (b ≠ hp.objs.size + 1)
  have gk : ∀ b, b ≠ hp.objs.size + 1 → G'.get? b = h'.get? b := fun b hb => g1 b (decide_eq_true hb)
  have ge : G'.get? (hp.objs.size + 1) = none := g2 _ (by simp)
  have oldG : ∀ b o, hp.get? b = some o → G'.get? b = some o := fun b o z => (gk b (old b o z)).trans (all b o z)
  have back : ∀ b o, G'.get? b = some o → h'.get? b = some o := fun b o z => by
    by_cases hb : b = hp.objs.size + 1
    · rw [hb, ge] at z; cases z
    · exact (gk b hb).symm.trans z
  have na : H1 (hp.objs.size + 1) = none := I1.hok.fresh (Nat.le_succ _)
  have ra := raises_own T.exC T.tyC
  by_cases hf : fls = []
  · subst hf
    have us0 : us = [] := List.length_eq_zero_iff.mp ul
    subst us0
    rcases hm with ⟨rfl, _⟩ | ⟨dx, nl, rfl, d1, d2, d3, d4, d5⟩
    · have J : Inv X pins σ H1 ⟨G', g, dr, t', os⟩ := I1.kept (t' := t') oldG
      exact ⟨rfl, hp.objs.size + 1, _, _, ⟨G', g, dr, t', os⟩, H1, .ref C, none, rfl, J, back, ge, hx, ⟨rfl, rfl⟩, rfl, rfl, na, rfl, I1.bare, ra, q0 rfl⟩
    · cases hz.mpr rfl
  · rcases hm with ⟨rfl, hm⟩ | ⟨dx, nl, rfl, d1, d2, d3, d4, d5⟩
    · exact absurd (hz.mp rfl) hf
    · have dbig : hp.objs.size ≤ dx := by rw [szp] at d1; omega
      have ob : ObjOk X.prog X.w (upd H1 dx (.xd (zipX [] fls vs))) G' dx (.xd (zipX [] fls vs)) := ⟨_, d3.at (fun o q => (gk dx d2).trans q), relO_zip (acc := []) r1 fun g => True.intro⟩
      have J : Inv X pins σ (upd H1 dx (.xd (zipX [] fls vs))) ⟨G', g, dr, t', os⟩ := I1.laid (t' := t') oldG dbig ob
      exact ⟨rfl, hp.objs.size + 1, _, _, ⟨G', g, dr, t', os⟩, _, .ref C, some dx, rfl, J, back, ge, hx, ⟨rfl, rfl⟩, rfl, rfl, by rw [upd_ne (Ne.symm d2)]; exact na, rfl, I1.bare, ra, q1 hf dx (I1.hok.fresh dbig)⟩
theorem pmk_errN {e : Expr} {es : List Expr} {ta : TA} (BS : PySem.PxE.Bas B newId initId bmB) (T : OexN X.K C newId bmB) (iC : PySem.W.findIn X.K (.ref C) "__init__" = some (some (.ref fI))) (tI : PySem.W.typeIn X.K (.ref fI) = some (.type "function"))
    (IO : PySem.PxE.InitOkN X.prog X.w X.K X.mg C fI fls) (hr : Room (k + 1) X.A) (hg : Gl X x) (hm : X.mg x = some (.ref C)) (ha : PA X (e :: es) ta) (hfl : fls.length ≤ 100)
    (hdb : (x == ("__debug__" : Str)) = false := by decide) (he : starEach (e :: es) X.env = (false, eval e X.env) :: starEach es X.env := by rfl) (hpl : (backTo pos (starEach es X.env)).any (·.1) = false := by rfl) :
    PMk X (.Call (.Name x p) (e :: es) [] pos) (tMkN C fls ta) := by
  intro pins s σ H Q I h
  refine wpAny_Call_Name_kw (ld_glob I hg hm ?_ hdb)
  refine PySem.W.callWith_K (h₀ := X.base) I.ok.mod.kin T.kC (thn (ha.run pos pins s σ H _ I h) fun us s1 ⟨vs, H1, I1, r1, l1, q0, q1⟩ => ⟨I1.kIn, ?_⟩) he hpl
  exact mk_run BS T iC tI IO hr I1 r1 l1 hfl q0 q1
theorem pmk_errN0 (BS : PySem.PxE.Bas B newId initId bmB) (T : OexN X.K C newId bmB) (iC : PySem.W.findIn X.K (.ref C) "__init__" = some (some (.ref fI))) (tI : PySem.W.typeIn X.K (.ref fI) = some (.type "function"))
    (IO : PySem.PxE.InitOkN X.prog X.w X.K X.mg C fI []) (hr : Room (k + 1) X.A) (hg : Gl X x) (hm : X.mg x = some (.ref C)) (hdb : (x == ("__debug__" : Str)) = false := by decide) : PMk X (.Call (.Name x p) [] [] pos) (tMkN C [] tNil) := by
  intro pins s σ H Q I h
  obtain ⟨l1, q0, q1⟩ := h
  refine wpAny_Call_Name_kw (ld_glob I hg hm ?_ hdb)
  exact PySem.W.callWith_K0 I.kIn T.kC (mk_run (us := []) (vs := []) BS T iC tI IO hr I .nil l1 (by decide) q0 q1)
end
end L2

namespace Px
open PySem PySem.Spec PyProof.Rows L2 He
/-! ### the head's facts of own errors over any base, any fields -/
structure ErrN where
  cls : Str
  flds : List Str
  qul : Str
  par : Arguments
  bdy : List Stmt
  scp : Scope
  fil : Str
  base : String
  newId : String
  initId : String
  bmB : List Value
def ErrN.C (d : ErrN) (K : PySem.W.Frag) : Addr := ga K d.cls
def ErrN.f (d : ErrN) (K : PySem.W.Frag) : Addr := ma K (ga K d.cls) "__init__"
def ErrN.sees (K : PySem.W.Frag) (d : ErrN) : FnW := match K.lookup (d.f K) with
  | some ⟨_, _, .func fd, _⟩ => some (fd.name, fd.qualname, fd.params, fd.body, fd.scope, fd.globals, fd.closure.map (fun q => (q.1, 0)), fd.builtins)
  | _ => none
def ErrN.due (d : ErrN) : FnW := some ("__init__", d.qul, d.par, .stmts d.bdy, d.scp, mainGlobals, [("__class__", 0)], builtinsNs)
def ecN (K : PySem.W.Frag) (C : Addr) (newId : String) (bmB : List Value) : Bool := match K.lookup C with
  | some ⟨.type "type", _, .cls cd, sl⟩ => (match sl.toList with
    | [_, _, _, _, some (.builtin n), _] => decide (cd.mro = .ref C :: bmB) && (n == newId && (!cd.hasDel && cd.hasDict))
    | _ => false)
  | _ => false
theorem ecN_ok {K : PySem.W.Frag} {C : Addr} {newId : String} {bmB : List Value} (q : ecN K C newId bmB = true) : ∃ nm q N bs sn sub ab col dd k0 k1 k2 k3 k5, K.lookup C = some (excClassObj nm q C N bs bmB true sn sub ab col dd k0 k1 k2 k3 k5 newId) := by
  unfold ecN at q
  split at q
  · rename_i dd cd sl ho
    split at q
    · rename_i k0 k1 k2 k3 n k5 hs
      simp only [Bool.and_eq_true, beq_iff_eq, Bool.not_eq_true', decide_eq_true_eq] at q
      obtain ⟨hm, rfl, hdel, hdict⟩ := q
      obtain ⟨nm, bs, mro, ns, qn, hd, sn, sub, ab, col, del⟩ := cd
      dsimp only at hm hdel hdict
      subst hm hdel hdict
      have hsl : sl = #[k0, k1, k2, k3, some (.builtin n), k5] := by
        obtain ⟨l⟩ := sl
        simp only at hs
        rw [hs]
      subst hsl
      exact ⟨nm, qn, ns, bs, sn, sub, ab, col, dd, k0, k1, k2, k3, k5, ho⟩
    · cases q
  · cases q
def ErrN.good (K : PySem.W.Frag) (d : ErrN) : Bool := (Fa.glo d.cls).ok K && (ecN K (d.C K) d.newId d.bmB && (eqO (PySem.W.findIn K (.ref (d.C K)) "__setattr__") (some (some (.builtin "object.__setattr__"))) &&
  (decide (PySem.W.subIn K (.ref (d.C K)) (.type "BaseException") = some true) && (decide (PySem.W.typeIn K (.ref (d.C K)) = some (.type "type")) && (PySem.W.keepIn K (.ref (d.C K)) && (xfB K (d.C K) &&
  ((d.flds.all fun x => eqO (PySem.W.findIn K (.ref (d.C K)) x) (some none)) && (eqO (PySem.W.findIn K (.ref (d.C K)) "__init__") (some (some (.ref (d.f K)))) && (decide (PySem.W.typeIn K (.ref (d.f K)) = some (.type "function")) &&
  (decide (PySem.W.exmOne K (.ref (d.C K)) (.ref (d.C K)) = some true) && (eqO (PySem.W.nsIn K cStatics "thirdparty.any") (some none) && (decide (PySem.W.ks_superIn K (d.C K) (d.C K) "__init__" = some (some (.builtin d.initId))) &&
  (decide (PySem.W.subIn K (.ref (d.C K)) (.type d.base) = some true) && (decide (PySem.W.mroIn K (d.C K) (.ref (d.C K)) = some true) && ((eqO (PySem.W.findIn K (.ref (d.C K)) "__class__") (some (some (.builtin "object.__class__"))) &&
  (eqO (PySem.W.specialIn K (.builtin "object.__class__") "__get__") (some (some (.builtin "getset_descriptor.__get__"))) && (decide (PySem.W.takesIn K (.builtin "object.__class__") = some true) && decide (PySem.W.mroIn K (d.C K) (.type "object") = some true)))) && (match K.lookup (d.f K) with
    | some ⟨_, _, .func fd, _⟩ => PySem.W.codeIn K fd.code d.qul && (codeB K d.fil fd.code && (cellB K (d.C K) fd.closure && (decide (fd.defaults = .none) && decide (fd.kwdefaults = .none))))
    | _ => false))))))))))))))))
/-- what isinstance asks -/
structure ExcA (K : PySem.W.Frag) (C : Addr) : Prop where
  xf : XfC K C
  ha : PySem.W.findIn K (.ref C) "__class__" = some (some (.builtin "object.__class__"))
  hn : PySem.W.specialIn K (.builtin "object.__class__") "__get__" = some (some (.builtin "getset_descriptor.__get__"))
  ht : PySem.W.takesIn K (.builtin "object.__class__") = some true
  hm : PySem.W.mroIn K C (.type "object") = some true
structure ErrG (K : PySem.W.Frag) (d : ErrN) (C f : Addr) : Prop where
  glo : (Fa.glo d.cls).ok K = true
  Ce : C = ga K d.cls
  oex : OexN K C d.newId d.bmB
  ea : ExcA K C
  noF : ∀ x ∈ d.flds, PySem.W.findIn K (.ref C) x = some none
  iC : PySem.W.findIn K (.ref C) "__init__" = some (some (.ref f))
  tI : PySem.W.typeIn K (.ref f) = some (.type "function")
  te : PySem.W.exmOne K (.ref C) (.ref C) = some true
  hop : PySem.W.nsIn K cStatics "thirdparty.any" = some none
  hsup : PySem.W.ks_superIn K C C "__init__" = some (some (.builtin d.initId))
  hB : PySem.W.subIn K (.ref C) (.type d.base) = some true
  hself : PySem.W.mroIn K C (.ref C) = some true
  fn : ∃ oc od doc pm an cda ct cc osl ccl cdd ccs vs tf cl cld csl, K.lookup f = some ⟨oc, od, .func (PySem.W.ksFn "__init__" d.qul d.par d.bdy d.scp .none .none doc pm an (.ref cda) ct cc), osl⟩ ∧ PySem.W.codeIn K (.ref cda) d.qul = true ∧
    K.lookup cda = some ⟨ccl, cdd, .fields vs, ccs⟩ ∧ vs[2]? = some (.str d.fil tf) ∧ K.lookup cc = some ⟨cl, cld, .cell (some (.ref C)), csl⟩
theorem ErrN.ok {K : PySem.W.Frag} {d : ErrN} (e : d.sees K = d.due) (c : d.good K = true) : ErrG K d (d.C K) (d.f K) := by
  unfold ErrN.good at c
  obtain ⟨c0, c⟩ := ba c
  obtain ⟨c1, c⟩ := ba c
  obtain ⟨c2, c⟩ := ba c
  obtain ⟨c3, c⟩ := ba c
  obtain ⟨c4, c⟩ := ba c
  obtain ⟨c5, c⟩ := ba c
  obtain ⟨c6, c⟩ := ba c
  obtain ⟨c7, c⟩ := ba c
  obtain ⟨c8, c⟩ := ba c
  obtain ⟨c9, c⟩ := ba c
  obtain ⟨c10, c⟩ := ba c
  obtain ⟨c11, c⟩ := ba c
  obtain ⟨c12, c⟩ := ba c
  obtain ⟨c13, c⟩ := ba c
  obtain ⟨c14, c⟩ := ba c
  obtain ⟨c16, c15⟩ := ba c
  obtain ⟨b1, b⟩ := ba c16
  obtain ⟨b2, b⟩ := ba b
  obtain ⟨b3, b4⟩ := ba b
  refine ⟨c0, rfl, ⟨ecN_ok c1, eqO_ok c2, of_decide_eq_true c3, of_decide_eq_true c4, c5⟩, ⟨xfB_ok c6, eqO_ok b1, eqO_ok b2, of_decide_eq_true b3, of_decide_eq_true b4⟩, fun x hx => eqO_ok (List.all_eq_true.mp c7 x hx), eqO_ok c8, of_decide_eq_true c9, of_decide_eq_true c10, eqO_ok c11, of_decide_eq_true c12, of_decide_eq_true c13, of_decide_eq_true c14, ?_⟩
  unfold ErrN.sees ErrN.due at e
  split at e
  · rename_i oc od fd osl q
    rw [q] at c15
    obtain ⟨k1, k⟩ := ba c15
    obtain ⟨k2, k⟩ := ba k
    obtain ⟨k3, k⟩ := ba k
    obtain ⟨k4, k5⟩ := ba k
    replace k4 := of_decide_eq_true k4
    replace k5 := of_decide_eq_true k5
    obtain ⟨n1, n2, n3, n4, n5, n6, n7, n8, n9, n10, n11, n12, n13, n14, n15⟩ := fd
    simp only [Option.some.injEq, Prod.mk.injEq] at e
    obtain ⟨h1, h2, h3, h4, h5, h6, h7, h8⟩ := e
    obtain ⟨cda, ccl, cdd, vs, ccs, tf, rfl, a1, a2⟩ := codeB_ok k2
    obtain ⟨cc, cl, cld, csl, b1, b2⟩ := cellB_ok k3 h7
    dsimp only at b1 k4 k5
    subst h1 h2 h3 h4 h5 h6 h8 b1 k4 k5
    exact ⟨oc, od, n10, n11, n12, cda, n14, cc, osl, ccl, cdd, ccs, vs, tf, cl, cld, csl, q, k1, a1, a2, b2⟩
  · cases e
/-! ### the hook -/
def obsN (fs : List Fact) (ds : List DefA) (es : List ErrN) (K : PySem.W.Frag) : AlA := ((fs.all fun f => f K) && ((ds.all fun d => d.good K) && es.all fun d => d.good K), ds.map (fun d => d.sees K) ++ es.map fun d => d.sees K)
def valN (ds : List DefA) (es : List ErrN) : AlA := (true, ds.map DefA.due ++ es.map ErrN.due)
def SaysN (fs : List Fact) (ds : List DefA) (es : List ErrN) (K : PySem.W.Frag) : Prop := obsN fs ds es K = valN ds es
def obsNG (n : Nat) (fs : List Fact) (ds : List DefA) (es : List ErrN) (g : Addr → Option Obj) : AlA := obsN fs ds es (frG g (cStatics :: asX g n))
def hookN (n : Nat) (fs : List Fact) (ds : List DefA) (es : List ErrN) : PySem.W.Hook where
  α := AlA
  obs := fun s => obsNG n fs ds es s.heap.get?
  val := fun _ => valN ds es
  says := fun _ h => ∃ K : PySem.W.Frag, K.In h ∧ SaysN fs ds es K
  of := fun _ _ e => ⟨_, frG_in, e⟩
  keeps := fun _ _ _ ⟨K, hK, c⟩ k => ⟨K, PySem.W.Frag.In.keeps hK k, c⟩
theorem obsNG_eq {n : Nat} {fs : List Fact} {ds : List DefA} {es : List ErrN} {g : Addr → Option Obj} {s : Shared} (h : ∀ a, g a = s.heap.get? a) : obsNG n fs ds es g = (hookN n fs ds es).obs s := by
  have e : g = s.heap.get? := funext h
  subst e
  rfl
section
variable {fs : List Fact} {ds : List DefA} {es : List ErrN} {K : PySem.W.Frag}
theorem SaysN.fact (c : SaysN fs ds es K) (i : Nat) {f : Fact} (h : fs[i]? = some f := by rfl) : f K = true := by
  have z : ((fs.all fun f => f K) && ((ds.all fun d => d.good K) && es.all fun d => d.good K)) = true := congrArg (fun z : AlA => z.1) c
  exact List.all_eq_true.mp (ba z).1 f (List.mem_of_getElem? h)
theorem SaysN.two (c : SaysN fs ds es K) : ds.map (fun d => d.sees K) = ds.map DefA.due ∧ es.map (fun d => d.sees K) = es.map ErrN.due := by
  have e : ds.map (fun d => d.sees K) ++ es.map (fun d => d.sees K) = ds.map DefA.due ++ es.map ErrN.due := congrArg (fun z : AlA => z.2) c
  exact List.append_inj e (by rw [List.length_map, List.length_map])
theorem SaysN.def_ (c : SaysN fs ds es K) (i : Nat) {d : DefA} (h : ds[i]? = some d := by rfl) : ∃ fd, FunD K d.nme d.qul d.par d.bdy d.scp (d.dV K) (d.kV K) (d.way K) fd := by
  have z : ((fs.all fun f => f K) && ((ds.all fun d => d.good K) && es.all fun d => d.good K)) = true := congrArg (fun z : AlA => z.1) c
  have e := c.two.1
  have e2 : (ds.map fun d => d.sees K)[i]? = (ds.map DefA.due)[i]? := by rw [e]
  rw [List.getElem?_map, List.getElem?_map, h] at e2
  exact DefA.fun_ (Option.some.inj e2) (List.all_eq_true.mp (ba (ba z).2).1 d (List.mem_of_getElem? h))
theorem SaysN.err (c : SaysN fs ds es K) (i : Nat) {d : ErrN} (h : es[i]? = some d := by rfl) : ErrG K d (d.C K) (d.f K) := by
  have z : ((fs.all fun f => f K) && ((ds.all fun d => d.good K) && es.all fun d => d.good K)) = true := congrArg (fun z : AlA => z.1) c
  have e := c.two.2
  have e2 : (es.map fun d => d.sees K)[i]? = (es.map ErrN.due)[i]? := by rw [e]
  rw [List.getElem?_map, List.getElem?_map, h] at e2
  exact ErrN.ok (Option.some.inj e2) (List.all_eq_true.mp (ba (ba z).2).2 d (List.mem_of_getElem? h))
end
/-- isinstance of errors: an answer -/
def fKit (D : Str) (c : PySem.W.Frag → Value) (b : Bool) : Fact := fun K => decide (PySem.W.kitOne K (.ref (ga K D)) (c K) = some b)
theorem fKit_ok {D : Str} {c : PySem.W.Frag → Value} {b : Bool} {K : PySem.W.Frag} (h : fKit D c b K = true) : PySem.W.kitOne K (.ref (ga K D)) (c K) = some b := of_decide_eq_true h
def fExm (D C : Str) (b : Bool) : Fact := fun K => decide (PySem.W.exmOne K (.ref (ga K D)) (.ref (ga K C)) = some b)
theorem fExm_ok {D C : Str} {b : Bool} {K : PySem.W.Frag} (h : fExm D C b K = true) : PySem.W.exmOne K (.ref (ga K D)) (.ref (ga K C)) = some b := of_decide_eq_true h
/-- isinstance(e, c), e the exception that the suite holds -/
def rIsX (K : PySem.W.Frag) (a : Addr) (cls : Value) (d : Option Addr) : List V → Hp → VK → Prop := fun xs H Q => ∃ (D : Addr) (c : V) (cv : Value) (b : Bool), xs = [.ref a, c] ∧ cls = .ref D ∧ ExcA K D ∧ (d = none ∨ ∃ dd fs, d = some dd ∧ H dd = some (.xd fs)) ∧ ClsV c cv ∧ PySem.W.kitOne K (.ref D) cv = some b ∧ Q (.bl b) H
theorem call_isX {X : Cx} {a : Addr} {cls : Value} {d : Option Addr} {oe : Obj} {pn : List (Addr × Obj)} (hz : Zc cls d oe) (hf : ∃ vs, oe.data = .fields vs) : CallR (X.suite a ((a, oe) :: pn)) (.builtin "isinstance") (rIsX X.K a cls d) := by
  intro pins s σ H xs us Q I r h
  obtain ⟨D, c, cv, b, rfl, rfl, C, hd, hcv, e, q⟩ := h
  obtain ⟨u1, u2, rfl, r1, r2⟩ := vals2 r
  obtain rfl : u1 = Value.ref a := r1
  have ec := hcv.eq r2
  subst ec
  obtain ⟨hget, _⟩ := I.pin (a, oe) (List.mem_append.mpr (.inl List.mem_cons_self))
  obtain ⟨vs, hv⟩ := hf
  have J : ∃ od, PySem.W.InstAt s.heap a oe D od := by
    rcases hd with rfl | ⟨dd, fs, rfl, hdd⟩
    · exact ⟨none, hget, hz.1, by unfold PySem.W.notCls; rw [hv] <;> rfl, by rw [hz.2]; trivial⟩
    · have hx : ObjOk X.prog X.w H s.heap dd (.xd fs) := I.hok dd _ hdd
      obtain ⟨mA, hns, hr⟩ := hx
      obtain ⟨od, ho, hl⟩ := lookIn_ns hns
      exact ⟨some od, hget, hz.1, by unfold PySem.W.notCls; rw [hv] <;> rfl, by rw [hz.2]; exact ho⟩
  obtain ⟨od, J⟩ := J
  have hcl : (PySem.W.clsIn X.K D).isSome = true := by
    have := C.xf.hdC
    unfold PySem.W.hasDictIn at this
    cases z : PySem.W.clsIn X.K D with
    | none => rw [z] at this; cases this
    | some _ => rfl
  exact PySem.W.kia_one (PySem.W.kitx_exc hcl C.xf.ga C.xf.gg C.xf.exC C.ha C.hn C.ht C.hm) I.kIn J e (fun z => nomatch z) fun tk => ⟨.bl b, H, I.kept (t' := tk) fun _ _ z => z, rfl, q⟩
end Px

namespace Px
open PySem PySem.Spec PyProof.Rows L2 He
/-! ### what is looked at, chosen: no duplicates are sought, classes are not walked along their mro -/
def dictRefs (g : Addr → Option Obj) (a : Addr) : List Addr := match g a with
  | some ⟨_, _, .dict es _, _⟩ => es.toList.flatMap fun e => refV e.val
  | _ => []
def funRefs (g : Addr → Option Obj) (a : Addr) : List Addr := match g a with
  | some ⟨_, _, .func fd, _⟩ => refV fd.code ++ refV fd.kwdefaults ++ refV fd.defaults ++ fd.closure.map (·.2)
  | _ => []
def topRefs (g : Addr → Option Obj) (a : Addr) : List Addr := match g a with
  | some ⟨_, _, .func fd, _⟩ => refV fd.code ++ refV fd.kwdefaults ++ refV fd.defaults ++ fd.closure.map (·.2)
  | some ⟨_, _, .cls cd, _⟩ => [cd.ns]
  | _ => []
def memRefs (g : Addr → Option Obj) (a : Addr) : List Addr := match g a with
  | some ⟨_, _, .func fd, _⟩ => refV fd.code ++ refV fd.kwdefaults ++ refV fd.defaults ++ fd.closure.map (·.2)
  | some ⟨_, _, .fields vs, _⟩ => vs.toList.flatMap refV
  | _ => []
def as1 (g : Addr → Option Obj) : List Addr := dictRefs g mainGlobals
def as2 (g : Addr → Option Obj) : List Addr := (as1 g).flatMap (topRefs g)
def as3 (g : Addr → Option Obj) : List Addr := (as2 g).flatMap (dictRefs g)
def as4 (g : Addr → Option Obj) : List Addr := (as3 g).flatMap (memRefs g)
def as5 (g : Addr → Option Obj) : List Addr := (as4 g).flatMap (funRefs g)
def asT (g : Addr → Option Obj) : List Addr := cStatics :: mainGlobals :: (as1 g ++ (as2 g ++ (as3 g ++ (as4 g ++ as5 g))))
def obsATG (fs : List Fact) (ds : List DefA) (g : Addr → Option Obj) : AlA := obsA fs ds (frG g (asT g))
def hookAT (fs : List Fact) (ds : List DefA) : PySem.W.Hook where
  α := AlA
  obs := fun s => obsATG fs ds s.heap.get?
  val := fun _ => valA ds
  says := fun _ h => ∃ K : PySem.W.Frag, K.In h ∧ SaysA fs ds K
  of := fun _ _ e => ⟨_, frG_in, e⟩
  keeps := fun _ _ _ ⟨K, hK, c⟩ k => ⟨K, PySem.W.Frag.In.keeps hK k, c⟩
theorem obsATG_eq {fs : List Fact} {ds : List DefA} {g : Addr → Option Obj} {s : Shared} (h : ∀ a, g a = s.heap.get? a) : obsATG fs ds g = (hookAT fs ds).obs s := by
  have e : g = s.heap.get? := funext h
  subst e
  rfl
def obsNTG (fs : List Fact) (ds : List DefA) (es : List ErrN) (g : Addr → Option Obj) : AlA := obsN fs ds es (frG g (asT g))
def hookNT (fs : List Fact) (ds : List DefA) (es : List ErrN) : PySem.W.Hook where
  α := AlA
  obs := fun s => obsNTG fs ds es s.heap.get?
  val := fun _ => valN ds es
  says := fun _ h => ∃ K : PySem.W.Frag, K.In h ∧ SaysN fs ds es K
  of := fun _ _ e => ⟨_, frG_in, e⟩
  keeps := fun _ _ _ ⟨K, hK, c⟩ k => ⟨K, PySem.W.Frag.In.keeps hK k, c⟩
theorem obsNTG_eq {fs : List Fact} {ds : List DefA} {es : List ErrN} {g : Addr → Option Obj} {s : Shared} (h : ∀ a, g a = s.heap.get? a) : obsNTG fs ds es g = (hookNT fs ds es).obs s := by
  have e : g = s.heap.get? := funext h
  subst e
  rfl
end Px

namespace Px
open PySem PySem.Spec PyProof.Rows L2
def topS (i : Nat) : Stmt := PySem.Challenge.pw_piecetexts_k43_whole_quoted_readers_give.main.body.getD i (.Pass ⟨0, 0, 0, 0⟩)
abbrev s_is_integer : Stmt := topS 18
theorem sc_is_integer : FnScope ["value"] ["value"] (defScope s_is_integer) := ⟨rfl, rfl, rfl, by decide +kernel, rfl, by decide +kernel, by decide +kernel⟩
abbrev s_is_within : Stmt := topS 19
theorem sc_is_within : FnScope ["value", "low", "high"] ["value", "low", "high"] (defScope s_is_within) := ⟨rfl, rfl, rfl, by decide +kernel, rfl, by decide +kernel, by decide +kernel⟩
abbrev s_is_byte : Stmt := topS 20
theorem sc_is_byte : FnScope ["value"] ["value"] (defScope s_is_byte) := ⟨rfl, rfl, rfl, by decide +kernel, rfl, by decide +kernel, by decide +kernel⟩
abbrev s_is_sign : Stmt := topS 21
theorem sc_is_sign : FnScope ["value"] ["value"] (defScope s_is_sign) := ⟨rfl, rfl, rfl, by decide +kernel, rfl, by decide +kernel, by decide +kernel⟩
abbrev s_are_signs : Stmt := topS 22
theorem sc_are_signs : FnScope ["value", "character"] ["value"] (defScope s_are_signs) := ⟨rfl, rfl, rfl, by decide +kernel, rfl, by decide +kernel, by decide +kernel⟩
abbrev s_are_characters : Stmt := topS 23
theorem sc_are_characters : FnScope ["value", "character"] ["value"] (defScope s_are_characters) := ⟨rfl, rfl, rfl, by decide +kernel, rfl, by decide +kernel, by decide +kernel⟩
abbrev s_character_of : Stmt := topS 24
theorem sc_character_of : FnScope ["byte"] ["byte"] (defScope s_character_of) := ⟨rfl, rfl, rfl, by decide +kernel, rfl, by decide +kernel, by decide +kernel⟩
abbrev s_byte_of : Stmt := topS 25
theorem sc_byte_of : FnScope ["character"] ["character"] (defScope s_byte_of) := ⟨rfl, rfl, rfl, by decide +kernel, rfl, by decide +kernel, by decide +kernel⟩
abbrev s_check_text : Stmt := topS 26
theorem sc_check_text : FnScope ["value", "index", "character"] ["value"] (defScope s_check_text) := ⟨rfl, rfl, rfl, by decide +kernel, rfl, by decide +kernel, by decide +kernel⟩
abbrev s_other_case : Stmt := topS 27
theorem sc_other_case : FnScope ["letter"] ["letter"] (defScope s_other_case) := ⟨rfl, rfl, rfl, by decide +kernel, rfl, by decide +kernel, by decide +kernel⟩
abbrev s_is_option : Stmt := topS 36
theorem sc_is_option : FnScope ["name", "value"] ["name", "value"] (defScope s_is_option) := ⟨rfl, rfl, rfl, by decide +kernel, rfl, by decide +kernel, by decide +kernel⟩
abbrev s_Rules___init__ : Stmt := inClass (topS 37) 0
theorem sc_Rules___init__ : FnScope ["self", "pads", "skip", "lines", "loose", "fold", "name"] ["self", "pads", "skip", "lines", "loose", "fold"] (defScope s_Rules___init__) := ⟨rfl, rfl, rfl, by decide +kernel, rfl, by decide +kernel, by decide +kernel⟩
abbrev s_Rules_pads : Stmt := inClass (topS 37) 4
theorem sc_Rules_pads : FnScope ["self"] ["self"] (defScope s_Rules_pads) := ⟨rfl, rfl, rfl, by decide +kernel, rfl, by decide +kernel, by decide +kernel⟩
abbrev s_Rules_skip : Stmt := inClass (topS 37) 5
theorem sc_Rules_skip : FnScope ["self"] ["self"] (defScope s_Rules_skip) := ⟨rfl, rfl, rfl, by decide +kernel, rfl, by decide +kernel, by decide +kernel⟩
abbrev s_Rules_lines : Stmt := inClass (topS 37) 6
theorem sc_Rules_lines : FnScope ["self"] ["self"] (defScope s_Rules_lines) := ⟨rfl, rfl, rfl, by decide +kernel, rfl, by decide +kernel, by decide +kernel⟩
abbrev s_Rules_loose : Stmt := inClass (topS 37) 7
theorem sc_Rules_loose : FnScope ["self"] ["self"] (defScope s_Rules_loose) := ⟨rfl, rfl, rfl, by decide +kernel, rfl, by decide +kernel, by decide +kernel⟩
abbrev s_Rules_fold : Stmt := inClass (topS 37) 8
theorem sc_Rules_fold : FnScope ["self"] ["self"] (defScope s_Rules_fold) := ⟨rfl, rfl, rfl, by decide +kernel, rfl, by decide +kernel, by decide +kernel⟩
abbrev s_hex_digit : Stmt := topS 48
theorem sc_hex_digit : FnScope ["rules", "character", "folded"] ["rules", "character"] (defScope s_hex_digit) := ⟨rfl, rfl, rfl, by decide +kernel, rfl, by decide +kernel, by decide +kernel⟩
abbrev s_Quoted_width : Stmt := inClass (topS 49) 4
theorem sc_Quoted_width : FnScope ["self"] ["self"] (defScope s_Quoted_width) := ⟨rfl, rfl, rfl, by decide +kernel, rfl, by decide +kernel, by decide +kernel⟩
abbrev s_Quoted_binary : Stmt := inClass (topS 49) 5
theorem sc_Quoted_binary : FnScope ["self"] ["self"] (defScope s_Quoted_binary) := ⟨rfl, rfl, rfl, by decide +kernel, rfl, by decide +kernel, by decide +kernel⟩
abbrev s_Quoted_also : Stmt := inClass (topS 49) 6
theorem sc_Quoted_also : FnScope ["self"] ["self"] (defScope s_Quoted_also) := ⟨rfl, rfl, rfl, by decide +kernel, rfl, by decide +kernel, by decide +kernel⟩
abbrev s_Quoted_is_newline : Stmt := inClass (topS 49) 7
theorem sc_Quoted_is_newline : FnScope ["self", "byte"] ["self", "byte"] (defScope s_Quoted_is_newline) := ⟨rfl, rfl, rfl, by decide +kernel, rfl, by decide +kernel, by decide +kernel⟩
abbrev s_Quoted_item_of : Stmt := inClass (topS 49) 8
theorem sc_Quoted_item_of : FnScope ["self", "byte", "character"] ["self", "byte"] (defScope s_Quoted_item_of) := ⟨rfl, rfl, rfl, by decide +kernel, rfl, by decide +kernel, by decide +kernel⟩
abbrev s_Quoted___init__ : Stmt := inClass (topS 49) 0
theorem sc_Quoted___init__ : FnScope ["self", "width", "binary", "also", "byte"] ["self", "width", "binary", "also"] (defScope s_Quoted___init__) := ⟨rfl, rfl, rfl, by decide +kernel, rfl, by decide +kernel, by decide +kernel⟩
abbrev s_Quoted_column_behind : Stmt := inClass (topS 49) 10
theorem sc_Quoted_column_behind : FnScope ["self", "column", "size"] ["self", "column", "size"] (defScope s_Quoted_column_behind) := ⟨rfl, rfl, rfl, by decide +kernel, rfl, by decide +kernel, by decide +kernel⟩
abbrev s_Quoted_fits : Stmt := inClass (topS 49) 11
theorem sc_Quoted_fits : FnScope ["self", "column", "size"] ["self", "column", "size"] (defScope s_Quoted_fits) := ⟨rfl, rfl, rfl, by decide +kernel, rfl, by decide +kernel, by decide +kernel⟩
abbrev s_Quoted_suits : Stmt := inClass (topS 49) 17
theorem sc_Quoted_suits : FnScope ["self", "rules"] ["self", "rules"] (defScope s_Quoted_suits) := ⟨rfl, rfl, rfl, by decide +kernel, rfl, by decide +kernel, by decide +kernel⟩
abbrev s_Quoted_kind_of : Stmt := inClass (topS 49) 18
theorem sc_Quoted_kind_of : FnScope ["self", "rules", "character"] ["self", "rules", "character"] (defScope s_Quoted_kind_of) := ⟨rfl, rfl, rfl, by decide +kernel, rfl, by decide +kernel, by decide +kernel⟩
abbrev s_Quoted_opening : Stmt := inClass (topS 49) 20
theorem sc_Quoted_opening : FnScope ["self"] ["self"] (defScope s_Quoted_opening) := ⟨rfl, rfl, rfl, by decide +kernel, rfl, by decide +kernel, by decide +kernel⟩
abbrev s_Quoted_has_room : Stmt := inClass (topS 49) 22
theorem sc_Quoted_has_room : FnScope ["self", "rules", "column", "size"] ["self", "rules", "column", "size"] (defScope s_Quoted_has_room) := ⟨rfl, rfl, rfl, by decide +kernel, rfl, by decide +kernel, by decide +kernel⟩
abbrev s_Quoted_next_place : Stmt := inClass (topS 49) 23
theorem sc_Quoted_next_place : FnScope ["self", "rules", "column"] ["self", "rules", "column"] (defScope s_Quoted_next_place) := ⟨rfl, rfl, rfl, by decide +kernel, rfl, by decide +kernel, by decide +kernel⟩
abbrev s_Quoted_take_digit : Stmt := inClass (topS 49) 24
theorem sc_Quoted_take_digit : FnScope ["self", "rules", "state", "character", "column", "begun", "digit", "after"] ["self", "rules", "state", "character"] (defScope s_Quoted_take_digit) := ⟨rfl, rfl, rfl, by decide +kernel, rfl, by decide +kernel, by decide +kernel⟩
abbrev s_Quoted_take : Stmt := inClass (topS 49) 25
theorem sc_Quoted_take : FnScope ["self", "rules", "state", "character", "column", "begun", "after"] ["self", "rules", "state", "character"] (defScope s_Quoted_take) := ⟨rfl, rfl, rfl, by decide +kernel, rfl, by decide +kernel, by decide +kernel⟩
abbrev s_Rules_suit : Stmt := inClass (topS 37) 9
theorem sc_Rules_suit : FnScope ["self", "code"] ["self", "code"] (defScope s_Rules_suit) := ⟨rfl, rfl, rfl, by decide +kernel, rfl, by decide +kernel, by decide +kernel⟩
abbrev s_Machine_usual : Stmt := inClass (topS 39) 0
theorem sc_Machine_usual : FnScope ["self"] ["self"] (defScope s_Machine_usual) := ⟨rfl, rfl, rfl, by decide +kernel, rfl, by decide +kernel, by decide +kernel⟩
abbrev s_rules_for : Stmt := topS 29
theorem sc_rules_for : FnScope ["code", "rules", "found"] ["code", "rules"] (defScope s_rules_for) := ⟨rfl, rfl, rfl, by decide +kernel, rfl, by decide +kernel, by decide +kernel⟩
abbrev s_followed : Stmt := topS 30
theorem sc_followed : FnScope ["code", "rules", "state", "place", "text", "data", "step", "character", "found", "more"] ["code", "rules", "state", "place", "text"] (defScope s_followed) := ⟨rfl, rfl, rfl, by decide +kernel, rfl, by decide +kernel, by decide +kernel⟩
abbrev s_Reader_need_open : Stmt := inClass (topS 31) 6
theorem sc_Reader_need_open : FnScope ["self"] ["self"] (defScope s_Reader_need_open) := ⟨rfl, rfl, rfl, by decide +kernel, rfl, by decide +kernel, by decide +kernel⟩
abbrev s_Reader___init__ : Stmt := inClass (topS 31) 0
theorem sc_Reader___init__ : FnScope ["self", "code", "rules"] ["self", "code", "rules"] (defScope s_Reader___init__) := ⟨rfl, rfl, rfl, by decide +kernel, rfl, by decide +kernel, by decide +kernel⟩
abbrev s_Reader___call__ : Stmt := inClass (topS 31) 1
theorem sc_Reader___call__ : FnScope ["self", "piece", "data"] ["self", "piece"] (defScope s_Reader___call__) := ⟨rfl, rfl, rfl, by decide +kernel, rfl, by decide +kernel, by decide +kernel⟩
abbrev s_Reader_given : Stmt := inClass (topS 31) 4
theorem sc_Reader_given : FnScope ["self"] ["self"] (defScope s_Reader_given) := ⟨rfl, rfl, rfl, by decide +kernel, rfl, by decide +kernel, by decide +kernel⟩
abbrev s_Reader_position : Stmt := inClass (topS 31) 5
theorem sc_Reader_position : FnScope ["self"] ["self"] (defScope s_Reader_position) := ⟨rfl, rfl, rfl, by decide +kernel, rfl, by decide +kernel, by decide +kernel⟩
abbrev s_l_bag : Stmt := topS 51
theorem sc_l_bag : FnScope ["_law_script", "_law_at", "_law_cell", "_law_digits"] ["_law_script", "_law_at"] (defScope s_l_bag) := ⟨rfl, rfl, rfl, by decide +kernel, rfl, by decide +kernel, by decide +kernel⟩
abbrev s_l_take : Stmt := topS 52
theorem sc_l_take : FnScope ["_law_bag_here", "_law_many", "_law_digit", "_law_mixed"] ["_law_bag_here", "_law_many"] (defScope s_l_take) := ⟨rfl, rfl, rfl, by decide +kernel, rfl, by decide +kernel, by decide +kernel⟩
abbrev s_l_of : Stmt := topS 53
theorem sc_l_of : FnScope ["_law_bag_here", "_law_some"] ["_law_bag_here", "_law_some"] (defScope s_l_of) := ⟨rfl, rfl, rfl, by decide +kernel, rfl, by decide +kernel, by decide +kernel⟩
abbrev s_l_all_signs : Stmt := topS 54
theorem sc_l_all_signs : FnScope ["_law_capitals_here"] [] (defScope s_l_all_signs) := ⟨rfl, rfl, rfl, by decide +kernel, rfl, by decide +kernel, by decide +kernel⟩
abbrev s_l_quoted : Stmt := topS 56
theorem sc_l_quoted : FnScope ["_law_bag_here", "_law_some", "_law_wide", "_law_first", "_law_more", "_law_k"] ["_law_bag_here"] (defScope s_l_quoted) := ⟨rfl, rfl, rfl, by decide +kernel, rfl, by decide +kernel, by decide +kernel⟩
abbrev s_l_quoting : Stmt := topS 57
theorem sc_l_quoting : FnScope ["_law_code"] ["_law_code"] (defScope s_l_quoting) := ⟨rfl, rfl, rfl, by decide +kernel, rfl, by decide +kernel, by decide +kernel⟩
abbrev s_l_bytes : Stmt := topS 58
theorem sc_l_bytes : FnScope ["_law_bag_here", "_law_most", "_law_few", "_law_way", "_law_some", "_law_k"] ["_law_bag_here", "_law_most"] (defScope s_l_bytes) := ⟨rfl, rfl, rfl, by decide +kernel, rfl, by decide +kernel, by decide +kernel⟩
abbrev s_l_capitals : Stmt := topS 59
theorem sc_l_capitals : FnScope ["_law_byte"] ["_law_byte"] (defScope s_l_capitals) := ⟨rfl, rfl, rfl, by decide +kernel, rfl, by decide +kernel, by decide +kernel⟩
abbrev s_l_item : Stmt := topS 60
theorem sc_l_item : FnScope ["_law_code", "_law_byte", "_law_signs", "_law_sign"] ["_law_code", "_law_byte"] (defScope s_l_item) := ⟨rfl, rfl, rfl, by decide +kernel, rfl, by decide +kernel, by decide +kernel⟩
abbrev s_l_lines : Stmt := topS 61
theorem sc_l_lines : FnScope ["_law_code", "_law_data", "_law_found", "_law_byte"] ["_law_code", "_law_data"] (defScope s_l_lines) := ⟨rfl, rfl, rfl, by decide +kernel, rfl, by decide +kernel, by decide +kernel⟩
abbrev s_l_line_rows : Stmt := topS 62
theorem sc_l_line_rows : FnScope ["_law_code", "_law_line", "_law_found", "_law_row", "_law_place", "_law_byte", "_law_is_last", "_law_item_here"] ["_law_code", "_law_line"] (defScope s_l_line_rows) := ⟨rfl, rfl, rfl, by decide +kernel, rfl, by decide +kernel, by decide +kernel⟩
abbrev s_l_quoted_text : Stmt := topS 63
theorem sc_l_quoted_text : FnScope ["_law_code", "_law_data", "_law_rows", "_law_line"] ["_law_code", "_law_data"] (defScope s_l_quoted_text) := ⟨rfl, rfl, rfl, by decide +kernel, rfl, by decide +kernel, by decide +kernel⟩
abbrev s_l_row_data : Stmt := topS 64
theorem sc_l_row_data : FnScope ["_law_rules_here", "_law_row", "_law_is_soft", "_law_digits", "_law_found", "_law_at"] ["_law_rules_here", "_law_row", "_law_is_soft"] (defScope s_l_row_data) := ⟨rfl, rfl, rfl, by decide +kernel, rfl, by decide +kernel, by decide +kernel⟩
abbrev s_l_soft : Stmt := topS 65
theorem sc_l_soft : FnScope ["_law_row", "_law_at"] ["_law_row"] (defScope s_l_soft) := ⟨rfl, rfl, rfl, by decide +kernel, rfl, by decide +kernel, by decide +kernel⟩
abbrev s_l_quoted_data : Stmt := topS 66
theorem sc_l_quoted_data : FnScope ["_law_code", "_law_rules_here", "_law_text", "_law_found", "_law_rows", "_law_place", "_law_row", "_law_is_soft", "_law_is_end", "_law_more"] ["_law_code", "_law_rules_here", "_law_text"] (defScope s_l_quoted_data) := ⟨rfl, rfl, rfl, by decide +kernel, rfl, by decide +kernel, by decide +kernel⟩
abbrev s_l_rules : Stmt := topS 67
theorem sc_l_rules : FnScope ["_law_bag_here"] ["_law_bag_here"] (defScope s_l_rules) := ⟨rfl, rfl, rfl, by decide +kernel, rfl, by decide +kernel, by decide +kernel⟩
abbrev s_l_ruling : Stmt := topS 68
theorem sc_l_ruling : FnScope ["_law_bag_here", "_law_rules_here", "_law_way"] ["_law_bag_here", "_law_rules_here"] (defScope s_l_ruling) := ⟨rfl, rfl, rfl, by decide +kernel, rfl, by decide +kernel, by decide +kernel⟩
abbrev s_l_tokens : Stmt := topS 69
theorem sc_l_tokens : FnScope ["_law_bag_here", "_law_code", "_law_many", "_law_some", "_law_most", "_law_k"] ["_law_bag_here", "_law_code", "_law_many"] (defScope s_l_tokens) := ⟨rfl, rfl, rfl, by decide +kernel, rfl, by decide +kernel, by decide +kernel⟩
abbrev s_l_bent : Stmt := topS 70
theorem sc_l_bent : FnScope ["_law_bag_here", "_law_text", "_law_spot", "_law_way", "_law_sign"] ["_law_bag_here", "_law_text"] (defScope s_l_bent) := ⟨rfl, rfl, rfl, by decide +kernel, rfl, by decide +kernel, by decide +kernel⟩
abbrev s_l_some_text : Stmt := topS 71
theorem sc_l_some_text : FnScope ["_law_bag_here", "_law_code", "_law_way", "_law_text", "_law_turn"] ["_law_bag_here", "_law_code"] (defScope s_l_some_text) := ⟨rfl, rfl, rfl, by decide +kernel, rfl, by decide +kernel, by decide +kernel⟩
abbrev s_l_alive : Stmt := topS 72
theorem sc_l_alive : FnScope ["_law_code", "_law_rules_here", "_law_text", "_law_more", "_law_some"] ["_law_code", "_law_rules_here", "_law_text"] (defScope s_l_alive) := ⟨rfl, rfl, rfl, by decide +kernel, rfl, by decide +kernel, by decide +kernel⟩
abbrev s_l_wrong : Stmt := topS 73
theorem sc_l_wrong : FnScope ["_law_code", "_law_rules_here", "_law_text", "_law_place", "_law_many"] ["_law_code", "_law_rules_here", "_law_text"] (defScope s_l_wrong) := ⟨rfl, rfl, rfl, by decide +kernel, rfl, by decide +kernel, by decide +kernel⟩
abbrev s_l_common : Stmt := topS 55
theorem sc_l_common : FnScope ["_law_texts", "_law_found", "_law_one", "_law_at"] ["_law_texts"] (defScope s_l_common) := ⟨rfl, rfl, rfl, by decide +kernel, rfl, by decide +kernel, by decide +kernel⟩
abbrev s_l_begun_data : Stmt := topS 74
theorem sc_l_begun_data : FnScope ["_law_code", "_law_rules_here", "_law_text", "_law_more", "_law_some", "_law_one"] ["_law_code", "_law_rules_here", "_law_text"] (defScope s_l_begun_data) := ⟨rfl, rfl, rfl, by decide +kernel, rfl, by decide +kernel, by decide +kernel⟩
abbrev s_law : Stmt := topS 75
theorem sc_law : FnScope ["_law_script", "_law_at", "_law_bag_here", "_law_code", "_law_rules_here", "_law_real", "_law_own", "_law_turn", "_law_text", "_law_wrong_here", "_law_reader", "_law_given", "_law_many", "_law_sign"] ["_law_script"] (defScope s_law) := ⟨rfl, rfl, rfl, by decide +kernel, rfl, by decide +kernel, by decide +kernel⟩
def P : Program := PySem.Challenge.pw_piecetexts_k43_whole_quoted_readers_give
theorem P_eq : P = PySem.Challenge.rw_piecetexts_k43_whole_quoted_readers_give.prog := by kernel_rfl
theorem P_file : ((P.main.file : Str) == ("/claim/cut.py" : Str)) = true := by decide +kernel
theorem P_top : (P.main.scope.names.lookup ("super" : Str)).isSome = false := by decide +kernel
abbrev se_NoCharacter : Stmt := inClass (topS 4) 0
def eN_NoCharacter : ErrN := ⟨"NoCharacter", ["index"], "NoCharacter.__init__", defArgs se_NoCharacter, defBody se_NoCharacter, defScope se_NoCharacter, "/claim/cut.py", "ValueError", "ValueError.__new__", "ValueError.__init__", [.type "ValueError", .type "Exception", .type "BaseException", .type "object"]⟩
abbrev se_Wrong : Stmt := inClass (topS 5) 0
def eN_Wrong : ErrN := ⟨"Wrong", ["place", "kind"], "Wrong.__init__", defArgs se_Wrong, defBody se_Wrong, defScope se_Wrong, "/claim/cut.py", "ValueError", "ValueError.__new__", "ValueError.__init__", [.type "ValueError", .type "Exception", .type "BaseException", .type "object"]⟩
abbrev se_Closed : Stmt := inClass (topS 7) 0
def eN_Closed : ErrN := ⟨"Closed", [], "Closed.__init__", defArgs se_Closed, defBody se_Closed, defScope se_Closed, "/claim/cut.py", "RuntimeError", "RuntimeError.__new__", "RuntimeError.__init__", [.type "RuntimeError", .type "Exception", .type "BaseException", .type "object"]⟩
def d_is_integer : DefA := ⟨wGlo "is_integer", "is_integer", "is_integer", defArgs s_is_integer, defBody s_is_integer, defScope s_is_integer, [], []⟩
def d_is_within : DefA := ⟨wGlo "is_within", "is_within", "is_within", defArgs s_is_within, defBody s_is_within, defScope s_is_within, [], []⟩
def d_is_byte : DefA := ⟨wGlo "is_byte", "is_byte", "is_byte", defArgs s_is_byte, defBody s_is_byte, defScope s_is_byte, [], []⟩
def d_is_sign : DefA := ⟨wGlo "is_sign", "is_sign", "is_sign", defArgs s_is_sign, defBody s_is_sign, defScope s_is_sign, [], []⟩
def d_are_signs : DefA := ⟨wGlo "are_signs", "are_signs", "are_signs", defArgs s_are_signs, defBody s_are_signs, defScope s_are_signs, [], []⟩
def d_are_characters : DefA := ⟨wGlo "are_characters", "are_characters", "are_characters", defArgs s_are_characters, defBody s_are_characters, defScope s_are_characters, [], []⟩
def d_character_of : DefA := ⟨wGlo "character_of", "character_of", "character_of", defArgs s_character_of, defBody s_character_of, defScope s_character_of, [], []⟩
def d_byte_of : DefA := ⟨wGlo "byte_of", "byte_of", "byte_of", defArgs s_byte_of, defBody s_byte_of, defScope s_byte_of, [], []⟩
def d_check_text : DefA := ⟨wGlo "check_text", "check_text", "check_text", defArgs s_check_text, defBody s_check_text, defScope s_check_text, [], []⟩
def d_other_case : DefA := ⟨wGlo "other_case", "other_case", "other_case", defArgs s_other_case, defBody s_other_case, defScope s_other_case, [], []⟩
def d_is_option : DefA := ⟨wGlo "is_option", "is_option", "is_option", defArgs s_is_option, defBody s_is_option, defScope s_is_option, [], []⟩
def d_Rules___init__ : DefA := ⟨wMeth "Rules" "__init__", "__init__", "Rules.__init__", defArgs s_Rules___init__, defBody s_Rules___init__, defScope s_Rules___init__, [], [("pads", .str "full"), ("skip", .str ""), ("lines", .bl true), ("loose", .bl false), ("fold", .bl false)]⟩
def d_Rules_pads : DefA := ⟨wGet "Rules" "pads", "pads", "Rules.pads", defArgs s_Rules_pads, defBody s_Rules_pads, defScope s_Rules_pads, [], []⟩
def d_Rules_skip : DefA := ⟨wGet "Rules" "skip", "skip", "Rules.skip", defArgs s_Rules_skip, defBody s_Rules_skip, defScope s_Rules_skip, [], []⟩
def d_Rules_lines : DefA := ⟨wGet "Rules" "lines", "lines", "Rules.lines", defArgs s_Rules_lines, defBody s_Rules_lines, defScope s_Rules_lines, [], []⟩
def d_Rules_loose : DefA := ⟨wGet "Rules" "loose", "loose", "Rules.loose", defArgs s_Rules_loose, defBody s_Rules_loose, defScope s_Rules_loose, [], []⟩
def d_Rules_fold : DefA := ⟨wGet "Rules" "fold", "fold", "Rules.fold", defArgs s_Rules_fold, defBody s_Rules_fold, defScope s_Rules_fold, [], []⟩
def d_hex_digit : DefA := ⟨wGlo "hex_digit", "hex_digit", "hex_digit", defArgs s_hex_digit, defBody s_hex_digit, defScope s_hex_digit, [], []⟩
def d_Quoted_width : DefA := ⟨wGet "Quoted" "width", "width", "Quoted.width", defArgs s_Quoted_width, defBody s_Quoted_width, defScope s_Quoted_width, [], []⟩
def d_Quoted_binary : DefA := ⟨wGet "Quoted" "binary", "binary", "Quoted.binary", defArgs s_Quoted_binary, defBody s_Quoted_binary, defScope s_Quoted_binary, [], []⟩
def d_Quoted_also : DefA := ⟨wGet "Quoted" "also", "also", "Quoted.also", defArgs s_Quoted_also, defBody s_Quoted_also, defScope s_Quoted_also, [], []⟩
def d_Quoted_is_newline : DefA := ⟨wMeth "Quoted" "is_newline", "is_newline", "Quoted.is_newline", defArgs s_Quoted_is_newline, defBody s_Quoted_is_newline, defScope s_Quoted_is_newline, [], []⟩
def d_Quoted_item_of : DefA := ⟨wMeth "Quoted" "item_of", "item_of", "Quoted.item_of", defArgs s_Quoted_item_of, defBody s_Quoted_item_of, defScope s_Quoted_item_of, [], []⟩
def d_Quoted___init__ : DefA := ⟨wMeth "Quoted" "__init__", "__init__", "Quoted.__init__", defArgs s_Quoted___init__, defBody s_Quoted___init__, defScope s_Quoted___init__, [], [("width", .int 0), ("binary", .bl false), ("also", .str "")]⟩
def d_Quoted_column_behind : DefA := ⟨wMeth "Quoted" "column_behind", "column_behind", "Quoted.column_behind", defArgs s_Quoted_column_behind, defBody s_Quoted_column_behind, defScope s_Quoted_column_behind, [], []⟩
def d_Quoted_fits : DefA := ⟨wMeth "Quoted" "fits", "fits", "Quoted.fits", defArgs s_Quoted_fits, defBody s_Quoted_fits, defScope s_Quoted_fits, [], []⟩
def d_Quoted_suits : DefA := ⟨wMeth "Quoted" "suits", "suits", "Quoted.suits", defArgs s_Quoted_suits, defBody s_Quoted_suits, defScope s_Quoted_suits, [], []⟩
def d_Quoted_kind_of : DefA := ⟨wMeth "Quoted" "kind_of", "kind_of", "Quoted.kind_of", defArgs s_Quoted_kind_of, defBody s_Quoted_kind_of, defScope s_Quoted_kind_of, [], []⟩
def d_Quoted_opening : DefA := ⟨wMeth "Quoted" "opening", "opening", "Quoted.opening", defArgs s_Quoted_opening, defBody s_Quoted_opening, defScope s_Quoted_opening, [], []⟩
def d_Quoted_has_room : DefA := ⟨wMeth "Quoted" "has_room", "has_room", "Quoted.has_room", defArgs s_Quoted_has_room, defBody s_Quoted_has_room, defScope s_Quoted_has_room, [], []⟩
def d_Quoted_next_place : DefA := ⟨wMeth "Quoted" "next_place", "next_place", "Quoted.next_place", defArgs s_Quoted_next_place, defBody s_Quoted_next_place, defScope s_Quoted_next_place, [], []⟩
def d_Quoted_take_digit : DefA := ⟨wMeth "Quoted" "take_digit", "take_digit", "Quoted.take_digit", defArgs s_Quoted_take_digit, defBody s_Quoted_take_digit, defScope s_Quoted_take_digit, [], []⟩
def d_Quoted_take : DefA := ⟨wMeth "Quoted" "take", "take", "Quoted.take", defArgs s_Quoted_take, defBody s_Quoted_take, defScope s_Quoted_take, [], []⟩
def d_Rules_suit : DefA := ⟨wMeth "Rules" "suit", "suit", "Rules.suit", defArgs s_Rules_suit, defBody s_Rules_suit, defScope s_Rules_suit, [], []⟩
def d_Machine_usual : DefA := ⟨wMeth "Quoted" "usual", "usual", "Machine.usual", defArgs s_Machine_usual, defBody s_Machine_usual, defScope s_Machine_usual, [], []⟩
def d_rules_for : DefA := ⟨wGlo "rules_for", "rules_for", "rules_for", defArgs s_rules_for, defBody s_rules_for, defScope s_rules_for, [], []⟩
def d_followed : DefA := ⟨wGlo "followed", "followed", "followed", defArgs s_followed, defBody s_followed, defScope s_followed, [], []⟩
def d_Reader_need_open : DefA := ⟨wMeth "Reader" "need_open", "need_open", "Reader.need_open", defArgs s_Reader_need_open, defBody s_Reader_need_open, defScope s_Reader_need_open, [], []⟩
def d_Reader___init__ : DefA := ⟨wMeth "Reader" "__init__", "__init__", "Reader.__init__", defArgs s_Reader___init__, defBody s_Reader___init__, defScope s_Reader___init__, [.non], []⟩
def d_Reader___call__ : DefA := ⟨wMeth "Reader" "__call__", "__call__", "Reader.__call__", defArgs s_Reader___call__, defBody s_Reader___call__, defScope s_Reader___call__, [], []⟩
def d_Reader_given : DefA := ⟨wGet "Reader" "given", "given", "Reader.given", defArgs s_Reader_given, defBody s_Reader_given, defScope s_Reader_given, [], []⟩
def d_Reader_position : DefA := ⟨wGet "Reader" "position", "position", "Reader.position", defArgs s_Reader_position, defBody s_Reader_position, defScope s_Reader_position, [], []⟩
def d_l_bag : DefA := ⟨wGlo "_law_bag", "_law_bag", "_law_bag", defArgs s_l_bag, defBody s_l_bag, defScope s_l_bag, [], []⟩
def d_l_take : DefA := ⟨wGlo "_law_take", "_law_take", "_law_take", defArgs s_l_take, defBody s_l_take, defScope s_l_take, [], []⟩
def d_l_of : DefA := ⟨wGlo "_law_of", "_law_of", "_law_of", defArgs s_l_of, defBody s_l_of, defScope s_l_of, [], []⟩
def d_l_all_signs : DefA := ⟨wGlo "_law_all_signs", "_law_all_signs", "_law_all_signs", defArgs s_l_all_signs, defBody s_l_all_signs, defScope s_l_all_signs, [], []⟩
def d_l_quoted : DefA := ⟨wGlo "_law_quoted", "_law_quoted", "_law_quoted", defArgs s_l_quoted, defBody s_l_quoted, defScope s_l_quoted, [], []⟩
def d_l_quoting : DefA := ⟨wGlo "_law_quoting", "_law_quoting", "_law_quoting", defArgs s_l_quoting, defBody s_l_quoting, defScope s_l_quoting, [], []⟩
def d_l_bytes : DefA := ⟨wGlo "_law_bytes", "_law_bytes", "_law_bytes", defArgs s_l_bytes, defBody s_l_bytes, defScope s_l_bytes, [], []⟩
def d_l_capitals : DefA := ⟨wGlo "_law_capitals", "_law_capitals", "_law_capitals", defArgs s_l_capitals, defBody s_l_capitals, defScope s_l_capitals, [], []⟩
def d_l_item : DefA := ⟨wGlo "_law_item", "_law_item", "_law_item", defArgs s_l_item, defBody s_l_item, defScope s_l_item, [], []⟩
def d_l_lines : DefA := ⟨wGlo "_law_lines", "_law_lines", "_law_lines", defArgs s_l_lines, defBody s_l_lines, defScope s_l_lines, [], []⟩
def d_l_line_rows : DefA := ⟨wGlo "_law_line_rows", "_law_line_rows", "_law_line_rows", defArgs s_l_line_rows, defBody s_l_line_rows, defScope s_l_line_rows, [], []⟩
def d_l_quoted_text : DefA := ⟨wGlo "_law_quoted_text", "_law_quoted_text", "_law_quoted_text", defArgs s_l_quoted_text, defBody s_l_quoted_text, defScope s_l_quoted_text, [], []⟩
def d_l_row_data : DefA := ⟨wGlo "_law_row_data", "_law_row_data", "_law_row_data", defArgs s_l_row_data, defBody s_l_row_data, defScope s_l_row_data, [], []⟩
def d_l_soft : DefA := ⟨wGlo "_law_soft", "_law_soft", "_law_soft", defArgs s_l_soft, defBody s_l_soft, defScope s_l_soft, [], []⟩
def d_l_quoted_data : DefA := ⟨wGlo "_law_quoted_data", "_law_quoted_data", "_law_quoted_data", defArgs s_l_quoted_data, defBody s_l_quoted_data, defScope s_l_quoted_data, [], []⟩
def d_l_rules : DefA := ⟨wGlo "_law_rules", "_law_rules", "_law_rules", defArgs s_l_rules, defBody s_l_rules, defScope s_l_rules, [], []⟩
def d_l_ruling : DefA := ⟨wGlo "_law_ruling", "_law_ruling", "_law_ruling", defArgs s_l_ruling, defBody s_l_ruling, defScope s_l_ruling, [], []⟩
def d_l_tokens : DefA := ⟨wGlo "_law_tokens", "_law_tokens", "_law_tokens", defArgs s_l_tokens, defBody s_l_tokens, defScope s_l_tokens, [], []⟩
def d_l_bent : DefA := ⟨wGlo "_law_bent", "_law_bent", "_law_bent", defArgs s_l_bent, defBody s_l_bent, defScope s_l_bent, [], []⟩
def d_l_some_text : DefA := ⟨wGlo "_law_some_text", "_law_some_text", "_law_some_text", defArgs s_l_some_text, defBody s_l_some_text, defScope s_l_some_text, [], []⟩
def d_l_alive : DefA := ⟨wGlo "_law_alive", "_law_alive", "_law_alive", defArgs s_l_alive, defBody s_l_alive, defScope s_l_alive, [], []⟩
def d_l_wrong : DefA := ⟨wGlo "_law_wrong", "_law_wrong", "_law_wrong", defArgs s_l_wrong, defBody s_l_wrong, defScope s_l_wrong, [], []⟩
def d_l_common : DefA := ⟨wGlo "_law_common", "_law_common", "_law_common", defArgs s_l_common, defBody s_l_common, defScope s_l_common, [], []⟩
def d_l_begun_data : DefA := ⟨wGlo "_law_begun_data", "_law_begun_data", "_law_begun_data", defArgs s_l_begun_data, defBody s_l_begun_data, defScope s_l_begun_data, [], []⟩
def d_law : DefA := ⟨wGlo "law", "law", "law", defArgs s_law, defBody s_law, defScope s_law, [], []⟩
def hdefs : List DefA := [d_is_integer, d_is_within, d_is_byte, d_is_sign, d_are_signs, d_are_characters, d_character_of, d_byte_of, d_check_text, d_other_case, d_is_option, d_Rules___init__, d_Rules_pads, d_Rules_skip, d_Rules_lines, d_Rules_loose, d_Rules_fold, d_hex_digit, d_Quoted_width, d_Quoted_binary, d_Quoted_also, d_Quoted_is_newline, d_Quoted_item_of, d_Quoted___init__, d_Quoted_column_behind, d_Quoted_fits, d_Quoted_suits, d_Quoted_kind_of, d_Quoted_opening, d_Quoted_has_room, d_Quoted_next_place, d_Quoted_take_digit, d_Quoted_take, d_Rules_suit, d_Machine_usual, d_rules_for, d_followed, d_Reader_need_open, d_Reader___init__, d_Reader___call__, d_Reader_given, d_Reader_position, d_l_bag, d_l_take, d_l_of, d_l_all_signs, d_l_quoted, d_l_quoting, d_l_bytes, d_l_capitals, d_l_item, d_l_lines, d_l_line_rows, d_l_quoted_text, d_l_row_data, d_l_soft, d_l_quoted_data, d_l_rules, d_l_ruling, d_l_tokens, d_l_bent, d_l_some_text, d_l_alive, d_l_wrong, d_l_common, d_l_begun_data, d_law]
def hfacts : List Fact := [fFa (.glo "Rules"), fFa (.cls "Rules"), fFa (.glo "Quoted"), fFa (.cls "Quoted"), fFa (.glo "Reader"), fFa (.cls "Reader"), fFa (.glo "is_integer"), fFa (.glo "is_within"), fFa (.glo "is_byte"), fFa (.glo "is_sign"), fFa (.glo "are_signs"), fFa (.glo "are_characters"), fFa (.glo "character_of"), fFa (.glo "byte_of"), fFa (.glo "check_text"), fFa (.glo "other_case"), fFa (.glo "is_option"), fFa (.mkr "Rules"), fProp "Rules" "pads", fProp "Rules" "skip", fProp "Rules" "lines", fProp "Rules" "loose", fProp "Rules" "fold", fFa (.glo "hex_digit"), fProp "Quoted" "width", fProp "Quoted" "binary", fProp "Quoted" "also", fFa (.meth "Quoted" "is_newline"), fFa (.meth "Quoted" "item_of"), fFa (.mkr "Quoted"), fFa (.meth "Quoted" "column_behind"), fFa (.meth "Quoted" "fits"), fFa (.meth "Quoted" "suits"), fFa (.meth "Quoted" "kind_of"), fFa (.meth "Quoted" "opening"), fFa (.meth "Quoted" "has_room"), fFa (.meth "Quoted" "next_place"), fFa (.meth "Quoted" "take_digit"), fFa (.meth "Quoted" "take"), fFa (.meth "Rules" "suit"), fFa (.meth "Quoted" "usual"), fFa (.glo "rules_for"), fFa (.glo "followed"), fFa (.meth "Reader" "need_open"), fFa (.mkr "Reader"), fFa (.meth "Reader" "__call__"), fProp "Reader" "given", fProp "Reader" "position", fFa (.glo "_law_bag"), fFa (.glo "_law_take"), fFa (.glo "_law_of"), fFa (.glo "_law_all_signs"), fFa (.glo "_law_quoted"), fFa (.glo "_law_quoting"), fFa (.glo "_law_bytes"), fFa (.glo "_law_capitals"), fFa (.glo "_law_item"), fFa (.glo "_law_lines"), fFa (.glo "_law_line_rows"), fFa (.glo "_law_quoted_text"), fFa (.glo "_law_row_data"), fFa (.glo "_law_soft"), fFa (.glo "_law_quoted_data"), fFa (.glo "_law_rules"), fFa (.glo "_law_ruling"), fFa (.glo "_law_tokens"), fFa (.glo "_law_bent"), fFa (.glo "_law_some_text"), fFa (.glo "_law_alive"), fFa (.glo "_law_wrong"), fFa (.glo "_law_common"), fFa (.glo "_law_begun_data"), fFa (.glo "law"), fFa (.noat "Rules" "options"), fFa (.noat "Quoted" "ways"), fFa (.noat "Quoted" "known_items"), fFa (.noat "Reader" "is_closed"), fFa (.noat "Reader" "many"), fFa (.noat "Reader" "found"), fFa (.noat "Reader" "now"), fFa (.noat "Reader" "rules_now"), fFa (.noat "Reader" "own_code"), fFa (.str "PRINTED" " !\"#$&'()*+,-./0123456789:;<=>?@ABCDEFGHIJKLMNOPQRSTUVWXYZ[\\]^_`abcdefghijklmnopqrstuvwxyz{|}~"), fFa (.str "CHARACTERS" "\n !\"#$&'()*+,-./0123456789:;<=>?@ABCDEFGHIJKLMNOPQRSTUVWXYZ[\\]^_`abcdefghijklmnopqrstuvwxyz{|}~"), fFa (.int "SPACE" 32), fFa (.int "GAP" 37), fFa (.int "LINE_FEED" 10), fFa (.int "MOST_CHARACTERS" 12000), fFa (.str "SMALLS" "abcdefghijklmnopqrstuvwxyz"), fFa (.str "CAPITALS" "ABCDEFGHIJKLMNOPQRSTUVWXYZ"), fFa (.glo "PADS"), fTup "PADS" [.str "full", .str "none", .str "optional", .str "any"], fFa (.glo "OPTIONS"), fTup "OPTIONS" [.str "pads", .str "skip", .str "lines", .str "loose", .str "fold"], fFa (.str "HEX_DIGITS" "0123456789ABCDEF"), fFa (.str "BLANK" " "), fFa (.str "ESCAPE" "="), fFa (.str "NEWLINE" "\n"), fFa (.int "WIDEST" 76), fFa (.int "LEAST_WIDTH" 4), fFa (.str "SOFT_BREAK" "=\n"), fFa (.free "abs"), fFa (.free "all"), fFa (.free "any"), fFa (.free "bool"), fFa (.free "enumerate"), fFa (.free "int"), fFa (.free "isinstance"), fFa (.free "len"), fFa (.free "list"), fFa (.free "max"), fFa (.free "min"), fFa (.free "ord"), fFa (.free "range"), fFa (.free "str"), fFa (.free "super"), fIns "Rules"]
abbrev hrow : PySem.W.OpenRow := PySem.W.OpenLaw.row PySem.Challenge.rw_piecetexts_k43_whole_quoted_readers_give
def herrs : List ErrN := [eN_NoCharacter, eN_Wrong, eN_Closed]
abbrev hhook : PySem.W.Hook := hookNT hfacts hdefs herrs
def hob (s : PySem.W.SharedT) : AlA := obsNTG hfacts hdefs herrs (HandSHeadRun.getT s)
theorem hob_eq (s : PySem.W.SharedT) : hob s = hhook.obs s.abs := obsNTG_eq (HandSHeadRun.getT_eq s)
abbrev hloose0 : List Str := ["_wall", "BadOption", "NoByte", "NoCharacter", "Wrong", "Unfit", "Closed", "PRINTED", "CHARACTERS", "CAPITALS", "SMALLS", "HEX_DIGITS", "SPACE", "LINE_FEED", "GAP", "MOST_CHARACTERS", "is_integer", "is_within", "is_byte", "is_sign", "are_signs", "are_characters", "character_of", "byte_of", "check_text", "other_case", "rules_for", "followed", "Reader", "PADS"]
abbrev hloose1 : List Str := ["SWITCHES", "OPTIONS", "is_option", "Rules", "Machine", "NEWLINE", "BLANK", "ESCAPE", "SOFT_BREAK", "LEAST_WIDTH", "WIDEST", "CODED", "hex_digit", "Quoted", "_law_bag", "_law_take", "_law_of", "_law_all_signs", "_law_common", "_law_quoted", "_law_quoting", "_law_bytes", "_law_capitals", "_law_item", "_law_lines", "_law_line_rows", "_law_quoted_text", "_law_row_data", "_law_soft", "_law_quoted_data"]
abbrev hloose2 : List Str := ["_law_rules", "_law_ruling", "_law_tokens", "_law_bent", "_law_some_text", "_law_alive", "_law_wrong", "_law_begun_data"]
abbrev hloose : List Str := hloose0 ++ hloose1 ++ hloose2
theorem hrun_true (w : World) : HandSHeadRun.RunEq hrow (PySem.W.view hrow.prog [75]) hhook hob 9000 hloose (w.withFollow "special-get-raises" true) := by
  intro os
  kernel_rfl
theorem hrun_false (w : World) : HandSHeadRun.RunEq hrow (PySem.W.view hrow.prog [75]) hhook hob 9000 hloose (w.withFollow "special-get-raises" false) := by
  intro os
  kernel_rfl
theorem hrun (w : World) : HandSHeadRun.RunEq hrow (PySem.W.view hrow.prog [75]) hhook hob 9000 hloose w := PySem.W.byRow2 "special-get-raises" (P := fun w => HandSHeadRun.RunEq hrow (PySem.W.view hrow.prog [75]) hhook hob 9000 hloose w) hrun_false hrun_true w

end Px
namespace Px
open PySem PySem.Spec PyProof.Rows L2

/-! ### operators by any kind of value -/
abbrev rAddI : R2 := rI0 fun i j => .int (i + j)
abbrev rSubI : R2 := rI0 fun i j => .int (i - j)
abbrev rLtI : R2 := rI0 fun i j => .bl (decide (i < j))
abbrev rLeI : R2 := rI0 fun i j => .bl (decide (i ≤ j))
abbrev rGtI : R2 := rI0 fun i j => .bl (decide (j < i))
abbrev rGeI : R2 := rI0 fun i j => .bl (decide (j ≤ i))
abbrev rFdivI : R2 := rI CDivN fun i j => .int (i.fdiv j)
abbrev rModI : R2 := rI (fun _ j => j ≠ 0) fun i j => .int (i.fmod j)
abbrev rPowI : R2 := rI CPow fun i j => .int (i ^ j.toNat)
abbrev rMulI : R2 := rI CMul fun i j => .int (i * j)
abbrev rNegI : V → Hp → VK → Prop := rU fun i => .int (-i)
def rAddS : R2 := fun x y H Q => ∃ i j, x = .str i ∧ y = .str j ∧ i.length + j.length ≤ sizeLine ∧ Q (.str (i ++ j)) H
def rAddU (K : PySem.W.Frag) : R2 := fun x y H Q => rAddI x y H Q ∨ rAddS x y H Q ∨ rCat x y H Q ∨ rCatA K x y H Q
def rMulU (K : PySem.W.Frag) : R2 := fun x y H Q => rMulI x y H Q ∨ rRep x y H Q
def rEqU (K : PySem.W.Frag) : R2 := fun x y H Q => rEq x y H Q ∨ rEqD K x y H Q
def rNeU (K : PySem.W.Frag) : R2 := fun x y H Q => rNe x y H Q ∨ rNeD K x y H Q
def rIsNN : R2 := fun x y H Q => y = .non ∧ Q (.bl (decide (x = .non))) H
def rNotNN : R2 := fun x y H Q => y = .non ∧ Q (.bl (!decide (x = .non))) H
def rInU (K : PySem.W.Frag) : R2 := fun x y H Q => rInS x y H Q ∨ rIn K false x y H Q
def rNinU (K : PySem.W.Frag) : R2 := fun x y H Q => rNotInS x y H Q ∨ rIn K true x y H Q
def rSlU (K : PySem.W.Frag) : V → Option Int → Option Int → Hp → VK → Prop := fun x lo hi H Q => rSlL K x lo hi H Q ∨ rSlS x lo hi H Q ∨ rSlA K x lo hi H Q
section
variable {X : Cx}
theorem op_addU : OpR X (binaryOp .Add) (rAddU X.K) := OpR.or op_add (OpR.or op_add_str (OpR.or op_cat op_catA))
theorem op_mulU : OpR X (binaryOp .Mult) (rMulU X.K) := OpR.or op_mul op_rep
theorem op_eqU (hu : X.A.units + 64 < cLine) : OpR X (compareOp .Eq) (rEqU X.K) := OpR.or op_eq (op_eqD hu)
theorem op_neU (hu : X.A.units + 64 < cLine) : OpR X (compareOp .NotEq) (rNeU X.K) := OpR.or op_ne (op_neD hu)
theorem op_inU : OpR X (compareOp .In) (rInU X.K) := OpR.or op_inS op_in_seq
theorem op_ninU : OpR X (compareOp .NotIn) (rNinU X.K) := OpR.or op_notInS op_notIn_seq
theorem sl_U : SlR X (rSlU X.K) := SlR.or sl_list (SlR.or sl_str sl_tupA)
theorem hu64 {k : Nat} {A : Around} (hr : Room k A) : A.units + 64 < cLine := hr.units

/-! ### three comparisons in a chain -/
def tChain3 (r r' r'' : R2) (ta tb tc td : TE) : TE := fun σ H Q => ta σ H fun x H1 => tb σ H1 fun y H2 => r x y H2 fun z H3 => ∃ k, z = .bl k ∧
  (if k = true then tc σ H3 fun y' H4 => r' y y' H4 fun z' H5 => ∃ k', z' = .bl k' ∧ (if k' = true then td σ H5 fun w' H6 => r'' y' w' H6 Q else Q (.bl false) H5) else Q (.bl false) H3)
theorem pt_chain3 {op op' op'' : CmpOp} {r r' r'' : R2} {a b c d : Expr} {ta tb tc td : TE} {pos : Pos} (ho : OpR X (compareOp op) r) (ho' : OpR X (compareOp op') r') (ho'' : OpR X (compareOp op'') r'')
    (ha : PE X a ta) (hb : PE X b tb) (hc : PE X c tc) (hd : PE X d td)
    (hm : lastMarks [op, op', op''] [b, c, d] = false := by with_unfolding_all rfl) : PT X (.Compare a [op, op', op''] [b, c, d] pos) (tTest (tChain3 r r' r'' ta tb tc td)) := by
  refine ⟨fun pins s σ H Q I h => ?_⟩
  refine isTrue_chain (thn (ha.run pins s σ H _ I h) fun v s1 ⟨x, H1, I1, r1, q1⟩ => test_link (thn (hb.run pins s1 σ H1 _ I1 q1) fun u s2 ⟨y, H2, I2, r2, q2⟩ =>
    thn (ho pins s2 σ H2 x y v u _ I2 r1 r2 q2) fun d1 s3 ⟨z, H3, I3, r3, k, e, q3⟩ => ?_)) hm
  subst e
  cases r3
  refine wpAny_truthy_bool ?_
  cases k with
  | false =>
    obtain ⟨k', e', q'⟩ := q3
    cases e'
    exact ite_ff ⟨H3, I3, q'⟩
  | true =>
    refine ite_tt (test_link (thn (hc.run pins s3 σ H3 _ I3 q3) fun u4 s4 ⟨y4, H4, I4, r4, q4⟩ =>
      thn (ho' pins s4 σ H4 y y4 u u4 _ I4 r2 r4 q4) fun d2 s5 ⟨z5, H5, I5, r5, k5, e5, q5⟩ => ?_))
    subst e5
    cases r5
    refine wpAny_truthy_bool ?_
    cases k5 with
    | false =>
      obtain ⟨k', e', q'⟩ := q5
      cases e'
      exact ite_ff ⟨H5, I5, q'⟩
    | true =>
      refine ite_tt (test_last (thn (hd.run pins s5 σ H5 _ I5 q5) fun w6 s6 ⟨z6, H6, I6, r6, q6⟩ => thn (ho'' pins s6 σ H6 y4 z6 u4 w6 _ I6 r4 r6 q6) fun d' s7 ⟨z7, H7, I7, r7, k7, e7, q7⟩ => ?_))
      subst e7
      cases r7
      exact wpAny_truthy_bool ⟨H7, I7, q7⟩

/-! ### walks over a list, a tuple, a text -/
theorem PI.or {tg e : Expr} {w1 w2 : TI} (h1 : PI X tg e w1) (h2 : PI X tg e w2) : PI X tg e (fun σ H R => w1 σ H R ∨ w2 σ H R) := by
  refine ⟨fun pins s σ H R I h => ?_⟩
  rcases h with h | h
  · exact h1.run pins s σ H R I h
  · exact h2.run pins s σ H R I h
def iSeqU (K : PySem.W.Frag) (te : TE) : TI := fun σ H R => iList K te σ H R ∨ iTup K te σ H R ∨ iStr te σ H R
theorem pi_seqU {tg e : Expr} {te : TE} (he : PE X e te) : PI X tg e (iSeqU X.K te) := PI.or (pi_list he) (PI.or (pi_tup he) (pi_str he))
end

/-- an iterator that gives new pairs, by the library's Goes -/
def ItP (n : Nat) (f g : Nat → Option V) : It :=
  ⟨fun i _ => i < n, fun i H v H' => ∃ T x y, v = .ref T ∧ H T = none ∧ H' = upd H T (.tup [x, y]) ∧ f i = some x ∧ g i = some y, fun i _ => i = n⟩
theorem turn_pairs {P : Program} {w : World} {K : PySem.W.Frag} {tg : Expr} {it : Addr} {fp wr : List Addr} {n : Nat} {Y : Nat → Heap → Value → Heap → Prop} {St : Nat → Heap → Prop} {f g : Nat → Option V}
    (W : ∀ A : Around, A.handled = none → GoesN P w A tg it fp wr n Y St)
    (hY : ∀ i h v h', Y i h v h' → ∃ T a b x y, v = .ref T ∧ h.objs.size ≤ T ∧ h'.IsTuple T #[a, b] ∧ f i = some x ∧ g i = some y ∧ RelV x a ∧ RelV y b)
    (hself : ∀ (A : Around) (i : Nat) (s : Shared) (Q : Value → Shared → Prop) (E : Value → Shared → Prop), St i s.heap → Q (.ref it) s → wpAny (model P w) A (pyIter (.ref it)) Q E s)
    (mem : it ∈ fp) (obj : ∀ i h, St i h → ∀ b ∈ fp, ∃ o, h.get? b = some o ∧ ∀ v, o.data ≠ .cell v) : Turn P w K tg (ItP n f g) fp it St where
  mem := mem
  obj := obj
  keep := (W { handled := none } rfl).frame
  item := by
    intro X hP hw hK hc i pins s σ H E I hf st hi
    subst hP hw hK
    have G := W X.A (I.ok.hd hc)
    refine G.goes i s _ E hi st fun v h' tk hy st' hk _ => ?_
    obtain ⟨T, a, b, x, y, rfl, hT, ht, e1, e2, ra, rb⟩ := hY _ _ _ _ hy
    have hn : H T = none := I.hok.fresh hT
    have new : ObjOk X.prog X.w (upd H T (.tup [x, y])) h' T (.tup [x, y]) := ⟨by show 2 ≤ sizeLine; decide, [a, b], .cons ra (.cons rb .nil), ht⟩
    refine ⟨.ref T, _, I.turnedNew (ch := fp) (fun b o hb q => hk b o (fun z => hb (G.sub b z)) q) hf hT new, rfl, ⟨T, x, y, rfl, hn, rfl, e1, e2⟩, st', fun c hcm => ?_⟩
    have hlt : c < s.heap.objs.size := by
      obtain ⟨o, ho, _⟩ := obj i s.heap st c hcm
      exact Heap.lt_size ho
    rw [upd_ne (Nat.ne_of_lt (Nat.lt_of_lt_of_le hlt hT))]
    exact (hf c hcm).1
  done := by
    intro X hP hw hK hc i pins s σ H E I hf st hi
    subst hP hw hK
    have hi' : i = n := hi
    subst hi'
    have G := W X.A (I.ok.hd hc)
    exact G.stops s _ E st fun h' tk hk _ => I.turnedL (ch := fp) (fun b o hb q => hk b o (fun z => hb (G.sub b z)) q) hf
  self := hself
theorem walk_pairs {n : Nat} {f g : Nat → Option V} : Walk (ItP n f g) n (fun _ => True) (YPair f g) :=
  ⟨fun _ _ hi _ => hi, fun _ _ => rfl, fun _ _ _ _ _ _ y => y⟩

/-! ### zip and enumerate over texts -/
def sgn (z : Str) (i : Nat) : Option V := (z.cps[i]?).map fun c => .str ⟨#[c]⟩
theorem sgn_of {z : Str} {i c : Nat} {u : Tok} {v : Value} (h : z.cps[i]? = some c) (e : v = .str ⟨#[c]⟩ u) : sgn z i = some (.str ⟨#[c]⟩) ∧ RelV (.str ⟨#[c]⟩) v := by
  unfold sgn
  rw [h]
  exact ⟨rfl, u, e⟩
theorem striter_obj {h : Heap} {b : Addr} {ty : String} {z : Str} {t : Tok} {i : Nat} (st : h.IsStrIter b ty z t i) : ∃ o, h.get? b = some o ∧ ∀ v, o.data ≠ .cell v := by
  obtain ⟨o, e, _, d⟩ := st
  exact ⟨o, e, fun v q => by rw [d] at q; cases q⟩
def iZipS (ta : TA) : TI := fun σ H R => ta σ H fun vs H1 => ∃ y z : Str, vs = [.str y, .str z] ∧ R (ItP (min y.cps.size z.cps.size) (sgn y) (sgn z)) H1
def iEnumS (ta : TA) : TI := fun σ H R => ta σ H fun vs H1 => ∃ z : Str, vs = [.str z] ∧ R (ItP z.cps.size (fun i => some (.int (i : Nat))) (sgn z)) H1
section
variable {X : Cx}
theorem pi_zipS {e e2 : Expr} {ta : TA} {p pos tpos : Pos} {elts : List Expr} {kk : Nat} (hg : Gl X "zip") (hm : X.mg "zip" = none) (ha : PA X [e, e2] ta)
    (hs : starEach [e, e2] X.env = (false, eval e X.env) :: starEach [e2] X.env := by rfl) (hpl : (backTo pos (starEach [e2] X.env)).any (·.1) = false := by rfl) :
    PI X (.Tuple elts kk tpos) (.Call (.Name "zip" p) [e, e2] [] pos) (iZipS ta) := by
  refine ⟨fun pins s σ H R I h => ?_⟩
  refine Call_ (ld_blt I hg hm PyProof.Rows.boot_zip (PyProof.Rows.callWith_type1 (thn (ha.run pos pins s σ H _ I h) fun us s1 ⟨vs, H1, I1, r1, q1⟩ => ?_) hs hpl))
  obtain ⟨y, z, rfl, q⟩ := q1
  cases r1 with
  | cons r rr =>
    cases rr with
    | cons r' rr =>
      cases rr
      obtain ⟨t, rfl⟩ := r
      obtain ⟨t', rfl⟩ := r'
      refine zip_begins2 (begins_text y t) (begins_text z t') trivial trivial fun h' hz hTI hTO h1 h2 hsz hk => wpAny_pyIter_zip hz ?_
      have I2 : Inv X pins σ H1 { s1 with heap := h' } := I1.kept (t' := s1.toks) hk
      have St0 : ∀ {j : Addr} {x : Str} {u : Tok}, h'.get? j = some { cls := .type (strIterType x), data := .fields #[.str x u, .int 0 0] } → h'.IsStrIter j (strIterType x) x u 0 := fun e => ⟨_, e, rfl, rfl⟩
      refine ⟨s1.heap.objs.size + 4, (s1.heap.objs.size + 4) :: (s1.heap.objs.size + 2) :: (s1.heap.objs.size + 3) :: ([s1.heap.objs.size] ++ [s1.heap.objs.size + 1]),
        fun i h => IsZip h (s1.heap.objs.size + 4) (s1.heap.objs.size + 2) (s1.heap.objs.size + 3) .none ∧ IsTupOf2 h (s1.heap.objs.size + 2) (.ref s1.heap.objs.size) (.ref (s1.heap.objs.size + 1)) ∧ (∃ a1 a2, IsTupOf2 h (s1.heap.objs.size + 3) a1 a2) ∧
          h.IsStrIter s1.heap.objs.size (strIterType y) y t i ∧ h.IsStrIter (s1.heap.objs.size + 1) (strIterType z) z t' i, _, H1, rfl, I2,
        turn_pairs (n := min y.cps.size z.cps.size) (fun A hA => GoesN.zip2 (zip_sep2 (fp1 := []) (fp2 := []) (fun _ hb => absurd hb List.not_mem_nil) fun _ hb => absurd hb List.not_mem_nil) (Draws.text (A := A.in1) hA _ y t) (Draws.text (A := A.in1) hA _ z t')) ?hY (fun A i s Q E st h => wpAny_pyIter_zip st.1 h) (by simp) ?obj,
        ⟨hz, hTI, ⟨_, _, hTO⟩, St0 h1, St0 h2⟩, fun b hb => ?_, q⟩
      case hY =>
        rintro i h v h' ⟨T, a, b, rfl, hT, ⟨c, u, hc, ea⟩, ⟨c', u', hc', eb⟩, ht⟩
        obtain ⟨e1, r1⟩ := sgn_of hc ea
        obtain ⟨e2, r2⟩ := sgn_of hc' eb
        exact ⟨T, a, b, _, _, rfl, hT, ht, e1, e2, r1, r2⟩
      case obj =>
        rintro i h ⟨hz, hTI, ⟨a1, a2, hTO⟩, s1', s2'⟩ b hb
        have e' : b = s1.heap.objs.size + 4 ∨ b = s1.heap.objs.size + 2 ∨ b = s1.heap.objs.size + 3 ∨ b = s1.heap.objs.size ∨ b = s1.heap.objs.size + 1 := by simpa using hb
        rcases e' with q | q | q | q | q
        · rw [q]; exact ⟨_, hz, fun v z => nomatch z⟩
        · rw [q]; exact ⟨_, hTI, fun v z => nomatch z⟩
        · rw [q]; exact ⟨_, hTO, fun v z => nomatch z⟩
        · rw [q]; exact striter_obj s1'
        · rw [q]; exact striter_obj s2'
      · have e' : b = s1.heap.objs.size + 4 ∨ b = s1.heap.objs.size + 2 ∨ b = s1.heap.objs.size + 3 ∨ b = s1.heap.objs.size ∨ b = s1.heap.objs.size + 1 := by simpa using hb
        have hle : s1.heap.objs.size ≤ b := by
          rcases e' with z | z | z | z | z
          · rw [z]; exact Nat.le_add_right _ _
          · rw [z]; exact Nat.le_add_right _ _
          · rw [z]; exact Nat.le_add_right _ _
          · rw [z]; exact Nat.le_refl _
          · rw [z]; exact Nat.le_add_right _ _
        exact I1.fpOk hle (I1.hok.fresh hle)
theorem pi_enumS {e : Expr} {ta : TA} {p pos tpos : Pos} {elts : List Expr} {kk : Nat} (hg : Gl X "enumerate") (hm : X.mg "enumerate" = none) (ha : PA X [e] ta) (hs : starEach [e] X.env = [(false, eval e X.env)] := by rfl) :
    PI X (.Tuple elts kk tpos) (.Call (.Name "enumerate" p) [e] [] pos) (iEnumS ta) := by
  refine ⟨fun pins s σ H R I h => ?_⟩
  refine Call_ (ld_blt I hg hm boot_enumerate (PyProof.Rows.callWith_type1 (thn (ha.run pos pins s σ H _ I h) fun us s1 ⟨vs, H1, I1, r1, q1⟩ => ?_) hs rfl))
  obtain ⟨z, rfl, q⟩ := q1
  cases r1 with
  | cons r rr =>
    cases rr
    obtain ⟨t, rfl⟩ := r
    refine call_enumerate_str fun h' he hit hsz hk => wpAny_pyIter_enum he ?_
    have I2 : Inv X pins σ H1 { s1 with heap := h' } := I1.kept (t' := s1.toks) hk
    have hne : s1.heap.objs.size + 1 ∉ [s1.heap.objs.size] := by
      intro hm
      have := List.mem_singleton.mp hm
      exact absurd this (Nat.succ_ne_self _)
    refine ⟨s1.heap.objs.size + 1, (s1.heap.objs.size + 1) :: [s1.heap.objs.size],
      fun i h => (∃ old, IsEnum h (s1.heap.objs.size + 1) s1.heap.objs.size (0 + (i : Int)) old) ∧ h.IsStrIter s1.heap.objs.size (strIterType z) z t i, _, H1, rfl, I2,
      turn_pairs (n := z.cps.size) (fun A hA => GoesN.enumFrom 0 (Draws.text (A := A.in1) hA s1.heap.objs.size z t) (s1.heap.objs.size + 1) (Nat.succ_ne_self _) hne (by simp)) ?hY (fun A i s Q E st h => wpAny_pyIter_enum st.1.choose_spec h) (by simp) ?obj,
      ⟨⟨.none, he⟩, hit⟩, fun b hb => ?_, q⟩
    case hY =>
      rintro i h v h' ⟨T, u, x, rfl, hT, ⟨c, u', hc, ea⟩, ht⟩
      obtain ⟨e1, r1⟩ := sgn_of hc ea
      exact ⟨T, _, x, .int (i : Nat), _, rfl, hT, ht, rfl, e1, ⟨u, by simp⟩, r1⟩
    case obj =>
      rintro i h ⟨⟨old, he⟩, s1'⟩ b hb
      have e' : b = s1.heap.objs.size + 1 ∨ b = s1.heap.objs.size := by simpa using hb
      rcases e' with q | q
      · rw [q]; exact ⟨_, he, fun v z => nomatch z⟩
      · rw [q]; exact striter_obj s1'
    · have e' : b = s1.heap.objs.size + 1 ∨ b = s1.heap.objs.size := by simpa using hb
      have hle : s1.heap.objs.size ≤ b := by
        rcases e' with z | z
        · rw [z]; exact Nat.le_add_right _ _
        · rw [z]; exact Nat.le_refl _
      exact I1.fpOk hle (I1.hok.fresh hle)
def iZipU (K : PySem.W.Frag) (ta : TA) : TI := fun σ H R => iZip K ta σ H R ∨ iZipS ta σ H R
def iEnumU (K : PySem.W.Frag) (ta : TA) : TI := fun σ H R => iEnum K ta σ H R ∨ iEnumS ta σ H R
theorem pi_zipU {e e2 : Expr} {ta : TA} {p pos tpos : Pos} {elts : List Expr} {kk : Nat} (hg : Gl X "zip") (hm : X.mg "zip" = none) (ha : PA X [e, e2] ta)
    (hs : starEach [e, e2] X.env = (false, eval e X.env) :: starEach [e2] X.env := by rfl) (hpl : (backTo pos (starEach [e2] X.env)).any (·.1) = false := by rfl) :
    PI X (.Tuple elts kk tpos) (.Call (.Name "zip" p) [e, e2] [] pos) (iZipU X.K ta) := PI.or (pi_zip hg hm ha hs hpl) (pi_zipS hg hm ha hs hpl)
theorem pi_enumU {e : Expr} {ta : TA} {p pos tpos : Pos} {elts : List Expr} {kk : Nat} (hg : Gl X "enumerate") (hm : X.mg "enumerate" = none) (ha : PA X [e] ta) (hs : starEach [e] X.env = [(false, eval e X.env)] := by rfl) :
    PI X (.Tuple elts kk tpos) (.Call (.Name "enumerate" p) [e] [] pos) (iEnumU X.K ta) := PI.or (pi_enum hg hm ha hs) (pi_enumS hg hm ha hs)
end
end Px

namespace Px
open PySem PySem.Spec PyProof.Rows L2
section
variable {X : Cx}
theorem PE.or {e : Expr} {t1 t2 : TE} (h1 : PE X e t1) (h2 : PE X e t2) : PE X e (fun σ H Q => t1 σ H Q ∨ t2 σ H Q) := by
  refine ⟨fun pins s σ H Q I h => ?_⟩
  rcases h with h | h
  · exact h1.run pins s σ H Q I h
  · exact h2.run pins s σ H Q I h
/-! ### a text from behind -/
def revS (z : Str) : Str := ⟨z.cps.toList.reverse.toArray⟩
theorem rev_picked (z : Str) (t : Tok) (u : Tok) : sliceMade z t none none (some (-1, u)) = .str (revS z) := by
  unfold sliceMade slicePicked
  have h1 : ((((some ((-1 : Int), u)).map (·.1)).getD 1 == 1) && ((Builtin.Str.strSliceIndices (Option.map (·.1) (none : Option (Int × Tok))) (Option.map (·.1) (none : Option (Int × Tok))) (((some ((-1 : Int), u)).map (·.1)).getD 1) z.length).length == z.length)) = false := by
    rw [Bool.and_eq_false_iff]
    left
    rfl
  rw [h1, if_neg Bool.false_ne_true]
  have h2 : Builtin.Str.strSliceIndices (Option.map (·.1) (none : Option (Int × Tok))) (Option.map (·.1) (none : Option (Int × Tok))) (((some ((-1 : Int), u)).map (·.1)).getD 1) z.length = sliceRange ((z.length : Int) - 1) (-1) (-1) := rfl
  rw [h2, PySem.W.krv_sliceRange, PySem.W.krv_range, List.filterMap_reverse]
  have h3 : List.filterMap (fun x => z.cps[x]?) (List.range z.length) = z.cps.toList := PySem.W.krv_all z.cps
  rw [h3]
  rfl
def tRevS (te : TE) : TE := fun σ H Q => te σ H fun x H1 => ∃ z, x = .str z ∧ z.length ≤ sizeLine ∧ Q (.str (revS z)) H1
theorem pe_revS {e : Expr} {te : TE} {k : Nat} {p1 p2 p3 pos : Pos} (he : PE X e te) : PE X (.Subscript e (.Slice none none (some (.UnaryOp .USub (.Constant (.int 1) k p1) p2)) p3) pos) (tRevS te) := by
  refine ⟨fun pins s σ H Q I h => ?_⟩
  refine Subscript_ (thn (he.run pins s σ H _ I h) fun v s1 ⟨x, H1, I1, r1, q1⟩ => ?_)
  obtain ⟨z, rfl, hz, q⟩ := q1
  obtain ⟨t, rfl⟩ := r1
  have hst : PO X (some (.UnaryOp .USub (.Constant (.int 1) k p1) p2)) (tPart (tUn rNegI (tC (.int 1)))) := po_some (pe_un un_neg pe_int)
  refine wpAny_Slice (thn (po_none.run pins s1 σ H1 (fun o G => o = none ∧ G = H1) I1 ⟨rfl, rfl⟩) fun vl s2 ⟨l, H2, I2, pl, el, e2⟩ => ?_)
  subst el e2
  refine thn (po_none.run pins s2 σ H2 (fun o G => o = none ∧ G = H2) I2 ⟨rfl, rfl⟩) fun vu s3 ⟨u, H3, I3, pu, eu, e3⟩ => ?_
  subst eu e3
  refine thn (hst.run pins s3 σ H3 (fun o G => o = some (-1) ∧ G = H3) I3 ⟨1, rfl, -1, rfl, rfl, rfl⟩) fun vs s4 ⟨o, H4, I4, ps, eo, e4⟩ => ?_
  subst eo e4
  have I5 : Inv X pins σ H4 { s4 with heap := s4.heap.push { cls := .type "slice", data := .fields #[vl, vu, vs] } } := I4.kept (t' := s4.toks) fun b ob q => Heap.get?_push_of_some _ q
  obtain ⟨l, rfl, e1⟩ := IsPart.raw pl
  obtain ⟨u, rfl, e2⟩ := IsPart.raw pu
  obtain ⟨w3, rfl, e3⟩ := IsPart.raw ps
  cases l with
  | some p => cases e1
  | none =>
    cases u with
    | some p => cases e2
    | none =>
      cases w3 with
      | none => cases e3
      | some p =>
        obtain ⟨i, tk⟩ := p
        have hi : i = (-1 : Int) := Option.some.inj e3
        subst hi
        refine tail_any (ops := [.ref s4.heap.objs.size, .str z t]) (typeIs_str _ _ _) (F.slot_str_getitem.lookup) ?_ (by with_unfolding_all rfl)
        refine wpAny_getItem_str_slice (l := none) (u := none) (st := some (-1, tk)) ⟨_, Heap.get?_push_size _ rfl, rfl, rfl⟩ rfl ?_
        rw [rev_picked]
        refine ⟨?_, .str _, H4, I5.tok _, ⟨_, rfl⟩, q⟩
        have e : (revS z).length = z.length := by
          unfold revS
          show (List.toArray z.cps.toList.reverse).size = z.cps.size
          simp
        omega
def tRevU (K : PySem.W.Frag) (te : TE) : TE := fun σ H Q => tRevL K te σ H Q ∨ tRevS te σ H Q
theorem pe_rev {e : Expr} {te : TE} {k : Nat} {p1 p2 p3 pos : Pos} (he : PE X e te) : PE X (.Subscript e (.Slice none none (some (.UnaryOp .USub (.Constant (.int 1) k p1) p2)) p3) pos) (tRevU X.K te) := PE.or (pe_revL he) (pe_revS he)

/-! ### repr -/
def rRepr (K : PySem.W.Frag) : List V → Hp → VK → Prop := fun xs H Q => ∃ x d, xs = [x] ∧ Dp K H x d ∧ d.showable = true ∧ d.shown.length ≤ sizeLine ∧ d.depth ≤ 60 ∧ Q (.str d.shown) H
mutual
theorem dp_noDict {K : PySem.W.Frag} {H : Hp} : ∀ (d : PyData) (v : V), Dp K H v d → d.hasDict = false
  | .none, _, _ => by simp only [PyData.hasDict]
  | .bool _, _, _ => by simp only [PyData.hasDict]
  | .int _, _, _ => by simp only [PyData.hasDict]
  | .str _, _, _ => by simp only [PyData.hasDict]
  | .list ds, _, h => by
    cases h with
    | lst _ ha => simp only [PyData.hasDict]; exact dp_noDictAll ds _ ha
  | .tuple ds, _, h => by
    cases h with
    | tup _ ha => simp only [PyData.hasDict]; exact dp_noDictAll ds _ ha
  | .dict _, _, h => by cases h
theorem dp_noDictAll {K : PySem.W.Frag} {H : Hp} : ∀ (ds : List PyData) (vs : List V), DpAll K H vs ds → PyData.hasDictAll ds = false
  | [], _, _ => by simp only [PyData.hasDictAll]
  | d :: ds, _, h => by
    cases h with
    | cons h1 h2 =>
      simp only [PyData.hasDictAll]
      rw [dp_noDict d _ h1, dp_noDictAll ds _ h2]
      rfl
end
theorem c_repr (hg : X.A.guards = some []) (hu : X.A.units + 64 < cLine) : CallR X (.builtin "repr") (rRepr X.K) := by
  intro pins s σ H xs us Q I r h
  obtain ⟨x, d, rfl, hd, hs, hz, hdep, q⟩ := h
  obtain ⟨u, rfl, rx⟩ := vals1 r
  obtain ⟨as, rd⟩ := Dp.reads I d x u hd rx
  have hnd := dp_noDict d x hd
  cases x with
  | ref a =>
    obtain rfl : u = .ref a := rx
    refine repr_of_reads' rd hs (fun h => by rw [hnd] at h; cases h) hg (by omega) (fun _ _ e => e) (fun h' u tk hk => ⟨.str _, H, I.kept (t' := tk) hk, ⟨u, rfl⟩, q⟩) hz
  | non =>
    cases hd
    obtain rfl : u = .none := rx
    simp only [PyData.shown] at q
    exact PySem.P.repr_of_none ⟨.str _, H, I.tok _, ⟨_, rfl⟩, q⟩
  | bl b =>
    cases hd
    obtain rfl : u = .bool b := rx
    simp only [PyData.shown] at q
    exact PySem.P.repr_of_bool ⟨.str _, H, I.tok _, ⟨_, rfl⟩, q⟩
  | int i =>
    cases hd
    obtain ⟨t, rfl⟩ := rx
    simp only [PyData.shown] at q
    simp only [PyData.showable] at hs
    exact PySem.P.repr_of_int (of_decide_eq_true hs) ⟨.str _, H, I.tok _, ⟨_, rfl⟩, q⟩
  | str z =>
    cases hd
    obtain ⟨t, rfl⟩ := rx
    simp only [PyData.shown] at q hz
    exact PySem.P.repr_of_str ⟨.str _, H, I.tok _, ⟨_, rfl⟩, q⟩ hz
  | byt b => cases hd
  | flt b => cases hd
  | ty n => cases hd

/-! ### contracts that know that no repr is under way -/
structure FnG (P : Program) (w : World) (K : PySem.W.Frag) (mg : Str → Option Value) (base : Heap) (CX : CXT) (k : Nat) (f : Addr) (fd : FuncData) (ps : List Str) (sp : Sp) : Prop where
  len : ∀ vs H Q E, sp vs H Q E → vs.length = ps.length
  run : ∀ (A : Around) (outer : List Env) (s : Shared) (H : Hp) (args : Args) (us : List Value) (vs : List V) (Q : VK) (E : XK), A.guards = some [] → Room k A → Env0 P w K mg base A outer s H → BindsTo s fd args (ps.zip us) →
    Vals vs us → sp vs H Q E → codeAny (model P w) A (.call (.ref f) args) (CR CX outer P w H s Q E) s
theorem FnG.of {P : Program} {w : World} {K : PySem.W.Frag} {mg : Str → Option Value} {base : Heap} {CX : CXT} {k : Nat} {f : Addr} {fd : FuncData} {ps : List Str} {sp : Sp} (F : FnOk P w K mg base CX k f fd ps sp) : FnG P w K mg base CX k f fd ps sp :=
  ⟨F.len, fun A outer s H args us vs Q E _ => F.run A outer s H args us vs Q E⟩
end
section
variable {X : Cx} {CX : CXT} {k : Nat} {f : Addr} {fd : FuncData} {ps : List Str} {sp : Sp} {ds : List Value} {dvs : List V} {E : XK} {x : Str} {p pos : Pos} {e : Expr} {es : List Expr} {t : TA}
theorem run_g {pins : List (Addr × Obj)} {σ : L2.St} {H : Hp} {s : Shared} {Q : VK} {us : List Value} {vs : List V} (F : FnG X.prog X.w X.K X.mg X.base CX k f fd ps sp) (hG : X.A.guards = some []) (hr : Room k X.A) (hb : Binds X.K fd ps ds) (hd : Vals dvs ds)
    (hx : Passes CX X E) (I : Inv X pins σ H s) (r : Vals vs us) (h : sp (vs ++ dvs) H Q E) : wpAny (model X.prog X.w) X.A (call (.ref f) us) (EP X pins σ Q) X.xe s := by
  have r2 : Vals (vs ++ dvs) (us ++ ds) := r.append hd
  have hl : (us ++ ds).length = ps.length := r2.length.symm.trans (F.len _ _ _ _ h)
  have go := F.run X.A X.stack s H ⟨us, []⟩ (us ++ ds) (vs ++ dvs) Q E hG hr I.env0 (hb s us I.kIn hl) r2 h
  refine wpAny_call (codeAny_mono go fun r s' hq => ?_)
  match r, hq with
  | .error e, hq => exact hx pins σ H s e s' I hq
  | .ok (.ret u), hq => exact I.after hq
  | .ok .next, hq => exact hq.elim
  | .ok .brk, hq => exact hq.elim
  | .ok .cont, hq => exact hq.elim
theorem pe_callG (F : FnG X.prog X.w X.K X.mg X.base CX k f fd ps sp) (hG : X.A.guards = some []) (hr : Room k X.A) (hg : Gl X x) (hm : X.mg x = some (.ref f)) (hk : PySem.W.keepIn X.K (.ref f) = true) (hb : Binds X.K fd ps ds) (hd : Vals dvs ds) (hx : Passes CX X E)
    (ha : PA X (e :: es) t) (hdb : (x == ("__debug__" : Str)) = false := by decide) (he : starEach (e :: es) X.env = (false, eval e X.env) :: starEach es X.env := by rfl) (hpl : (backTo pos (starEach es X.env)).any (·.1) = false := by rfl) :
    PE X (.Call (.Name x p) (e :: es) [] pos) (tCall sp dvs E t) := by
  refine ⟨fun pins s σ H Q I h => wpAny_Call_Name_kw (ld_glob I hg hm ?_ hdb)⟩
  exact PySem.W.callWith_K (h₀ := X.base) I.ok.mod.kin hk (thn (ha.run pos pins s σ H _ I h) fun us s1 ⟨vs, H1, I1, r, q⟩ => ⟨I1.kIn, run_g F hG hr hb hd hx I1 r q⟩) he hpl
theorem pe_callG0 (F : FnG X.prog X.w X.K X.mg X.base CX k f fd ps sp) (hG : X.A.guards = some []) (hr : Room k X.A) (hg : Gl X x) (hm : X.mg x = some (.ref f)) (hk : PySem.W.keepIn X.K (.ref f) = true) (hb : Binds X.K fd ps ds) (hd : Vals dvs ds) (hx : Passes CX X E)
    (hdb : (x == ("__debug__" : Str)) = false := by decide) : PE X (.Call (.Name x p) [] [] pos) (tCall sp dvs E tNil) :=
  ⟨fun pins s σ H Q I h => wpAny_Call_Name_kw (ld_glob I hg hm (PySem.W.callWith_K0 I.kIn hk (run_g (us := []) F hG hr hb hd hx I .nil h)) hdb)⟩
end
section
variable  {P : Program} {w : World} {K : PySem.W.Frag} {mg : Str → Option Value} {base : Heap} {x qual : Str} {params : Arguments} {body : List Stmt} {scope : Scope} {dvs : List V} {kws : List (Str × V)} {f : Addr} {fd : FuncData}
theorem fnG_ok {CX : CXT} {N ps : List Str} {k : Nat} {sp : Sp} (F : FunD K x qual params body scope dvs kws f fd) (S : FnScope N ps scope) (len : ∀ vs H Q E, sp vs H Q E → vs.length = ps.length)
    (hbody : ∀ (cdv : Value) (A : Around) (outer : List Env) (s : Shared) (H : Hp) (vs : List V) (Q : VK) (E : XK), (A.deeper (envOfC qual scope s.heap.objs.size f cdv)).guards = some [] → Room k (A.deeper (envOfC qual scope s.heap.objs.size f cdv)) → sp vs H Q E →
      ∃ t, PSs (cxOf CX P w K mg base N qual scope f cdv A outer s H E) body t ∧ t { nx := fun _ H' => Q .non H', rt := Q } (start N vs) H) : FnG P w K mg base CX (k + 1) f fd ps sp := by
  obtain ⟨oc, od, dV, kV, doc, pm, an, cdv, ct, osl, rfl, lk, hcd, _, _⟩ := F.ex
  refine ⟨len, fun A outer s H args us vs Q E hG hr e0 hb r hsp => ?_⟩
  have KX : K.In s.heap := e0.mod.kin.keeps fun b o e => (e0.bs b o e).1
  have lim : s.heap.NoLimit := e0.mod.nolimit.keeps fun b o e => (e0.bs b o e).1
  have hkind : ∀ y ∈ ps.zip us, scope.names.lookup y.1 = some .local ∨ (scope.names.lookup y.1 = some .cell ∧ ((cellsFrom (s.heap.objs.size + 1) scope.names []).lookup y.1).isSome = true) := fun y hy =>
    (S.par y.1 (List.of_mem_zip (show (y.1, y.2) ∈ ps.zip us from hy)).1).imp id fun q => ⟨q, PySem.W.cellsFrom_some _ _ _ (.inl q)⟩
  refine codeAny_call_function hr.depth (KX _ _ lk) rfl S.co S.gen rfl (PySem.W.codeRec_of KX hcd) (hb _ _ _ _ (wpAny_newFunctionEnv_cells S.kind hkind fun env he s1 x => ?_))
  subst he
  refine ⟨lim.keeps x.toInCall.keep, codeAny_func ?_⟩
  obtain ⟨t, ht, hq⟩ := hbody cdv A outer s H vs Q E hG (hr.deeper _) hsp
  have I : Inv (cxOf CX P w K mg base N qual scope f cdv A outer s H E) [] (start N vs) H s1 := inv_start S hr.hd e0 (len _ _ _ _ hsp) r x
  refine wpAny_mono (ht.run [] s1 (start N vs) H _ I hq) (fun fl s' hs => ?_) fun e s' hs => hs
  match fl, hs with
  | .ret u, ⟨v, σ', H', J, rv, q⟩ => exact ⟨v, H', J.os, J.bare, J.base, J.hok, rv, q⟩
  | .next, ⟨σ', H', J, q⟩ => exact ⟨V.non, H', J.os, J.bare, J.base, J.hok, rfl, q⟩
  | .brk, ⟨_, _, _, q⟩ => exact q.elim
  | .cont, ⟨_, _, _, q⟩ => exact q.elim
end
end Px

namespace Px
open PySem PySem.Spec PyProof.Rows L2
/-! ### built-ins by any kind of value -/
def rLenU (K : PySem.W.Frag) : List V → Hp → VK → Prop := fun xs H Q => ∃ x n, xs = [x] ∧ LenV K x H n ∧ Q (.int n) H
def rAbs : List V → Hp → VK → Prop := fun xs H Q => ∃ i, xs = [.int i] ∧ Q (.int (if i < 0 then -i else i)) H
def rMax2 : List V → Hp → VK → Prop := fun xs H Q => ∃ i j, xs = [.int i, .int j] ∧ Q (.int (if j > i then j else i)) H
def rMin2 : List V → Hp → VK → Prop := fun xs H Q => ∃ i j, xs = [.int i, .int j] ∧ Q (.int (if j < i then j else i)) H
def rStrI : List V → Hp → VK → Prop := fun xs H Q => ∃ i, xs = [.int i] ∧ i.natAbs.log2 < 1920 ∧ Q (.str (toString i)) H
def rListOf (K : PySem.W.Frag) : List V → Hp → VK → Prop := fun xs H Q => ∃ p ys, xs = [.ref p] ∧ (SqL K H p ys ∨ SqT K H p ys) ∧ ∀ l, H l = none → Q (.ref l) (upd H l (.lst ys))
def rOrd : List V → Hp → VK → Prop := fun xs H Q => ∃ i : Nat, xs = [.str ⟨#[i]⟩] ∧ Q (.int i) H
def rJoin (K : PySem.W.Frag) : V → List V → Hp → VK → Prop := fun x xs H Q => ∃ a p, ∃ ys : List Str, x = .str a ∧ xs = [.ref p] ∧ (SqL K H p (ys.map V.str) ∨ SqT K H p (ys.map V.str)) ∧
  (ys.map (·.length)).sum + ys.length * a.length ≤ 16777216 ∧ Q (.str (Txt.join a ys)) H
def tJoinU (K : PySem.W.Frag) (to te : TE) : TE := tM1 (rJoin K) to te
section
variable {X : Cx}
theorem c_lenU : CallR X (.builtin "len") (rLenU X.K) := call_len
theorem c_abs : CallR X (.builtin "abs") rAbs := call_abs
theorem c_max2 (hc : X.calm = true) : CallR X (.builtin "max") rMax2 := call_max2 hc
theorem c_min2 (hc : X.calm = true) : CallR X (.builtin "min") rMin2 := call_min2 hc
/-! ### x += y -/
def rIaddS : TIp := fun x y H Q => ∃ i j, x = .str i ∧ y = .str j ∧ i.length + j.length ≤ sizeLine ∧ Q (.str (i ++ j)) H
def rIaddU (K : PySem.W.Frag) : TIp := fun x y H Q => ipI (fun i j => i + j) x y H Q ∨ rIaddS x y H Q
theorem PIp.or {op : Operator} {t1 t2 : TIp} (h1 : PIp X op t1) (h2 : PIp X op t2) : PIp X op (fun x y H Q => t1 x y H Q ∨ t2 x y H Q) := fun pins s σ H x y v u Q I rx ry h => by
  rcases h with h | h
  · exact h1 pins s σ H x y v u Q I rx ry h
  · exact h2 pins s σ H x y v u Q I rx ry h
theorem ip_addU : PIp X .Add (rIaddU X.K) := PIp.or ip_add fun pins s σ H x y v u Q I rx ry h => iop_add_str pins s σ H x y v u Q I rx ry h
end
section
variable {K : PySem.W.Frag} {σ : S} {H : Hp} {Q : VK} {D : Ends} {t u : TS} {ta tb tc td te : TE} {x y v : V} {tr : TA} {i j : Int}
theorem r_addUI (h : Q (.int (i + j)) H) : rAddU K (.int i) (.int j) H Q := .inl ⟨i, j, rfl, rfl, h⟩
theorem r_addUS {a b : Str} (h1 : a.length + b.length ≤ sizeLine) (h : Q (.str (a ++ b)) H) : rAddU K (.str a) (.str b) H Q := .inr (.inl ⟨a, b, rfl, rfl, h1, h⟩)
theorem r_addUL {l b : Addr} {xs zs : List V} (h1 : H l = some (.lst xs)) (h2 : H b = some (.lst zs)) (h3 : xs.length + zs.length ≤ sizeLine) (h : ∀ p, H p = none → Q (.ref p) (upd H p (.lst (xs ++ zs)))) : rAddU K (.ref l) (.ref b) H Q :=
  .inr (.inr (.inl ⟨l, b, xs, zs, rfl, rfl, h1, h2, h3, h⟩))
theorem r_mulUI (h1 : CMul i j) (h : Q (.int (i * j)) H) : rMulU K (.int i) (.int j) H Q := .inl ⟨i, j, rfl, rfl, h1, h⟩
theorem r_mulUL {l : Addr} {xs : List V} (h1 : H l = some (.lst xs)) (h2 : -(2 ^ 63) ≤ i ∧ i < 2 ^ 63) (h3 : xs.length * i.toNat ≤ sizeLine) (h : ∀ p, H p = none → Q (.ref p) (upd H p (.lst (List.replicate i.toNat xs).flatten))) : rMulU K (.ref l) (.int i) H Q :=
  .inr ⟨l, i, xs, rfl, rfl, h1, h2.1, h2.2, h3, h⟩
theorem r_eqUI (h : Q (.bl (decide (i = j))) H) : rEqU K (.int i) (.int j) H Q := .inl (r_eqI h)
theorem r_eqUS {a b : Str} (h : Q (.bl (decide (a = b))) H) : rEqU K (.str a) (.str b) H Q := .inl (r_eqS h)
theorem r_eqUB {a b : Bool} (h : Q (.bl (decide (a = b))) H) : rEqU K (.bl a) (.bl b) H Q := .inl (r_eqB h)
theorem r_neUI (h : Q (.bl (!decide (i = j))) H) : rNeU K (.int i) (.int j) H Q := .inl (r_neI h)
theorem r_neUS {a b : Str} (h : Q (.bl (!decide (a = b))) H) : rNeU K (.str a) (.str b) H Q := .inl (r_neS h)
theorem r_eqUD {d e : PyData} (h1 : Dp K H x d) (h2 : Dp K H y e) (h3 : SeqAt.shaped d = true) (h4 : SeqAt.shaped e = true) (h : Q (.bl (PyData.eqv d e)) H) : rEqU K x y H Q := .inr ⟨d, e, h1, h2, h3, h4, h⟩
theorem r_neUD {d e : PyData} (h1 : Dp K H x d) (h2 : Dp K H y e) (h3 : SeqAt.shaped d = true) (h4 : SeqAt.shaped e = true) (h : Q (.bl (!PyData.eqv d e)) H) : rNeU K x y H Q := .inr ⟨d, e, h1, h2, h3, h4, h⟩
theorem r_lenUL {a : Addr} {xs : List V} (h1 : SqL K H a xs) (h : Q (.int xs.length) H) : rLenU K [.ref a] H Q := ⟨_, xs.length, rfl, .inl ⟨xs, h1, rfl⟩, h⟩
theorem r_lenUT {a : Addr} {xs : List V} (h1 : SqT K H a xs) (h : Q (.int xs.length) H) : rLenU K [.ref a] H Q := ⟨_, xs.length, rfl, .inr ⟨xs, h1, rfl⟩, h⟩
theorem r_lenUS {z : Str} (h1 : z.length ≤ sizeLine) (h : Q (.int z.length) H) : rLenU K [.str z] H Q := ⟨_, z.length, rfl, ⟨h1, rfl⟩, h⟩
theorem r_abs (h : Q (.int (if i < 0 then -i else i)) H) : rAbs [.int i] H Q := ⟨i, rfl, h⟩
theorem r_max2 (h : Q (.int (if j > i then j else i)) H) : rMax2 [.int i, .int j] H Q := ⟨i, j, rfl, h⟩
theorem r_min2 (h : Q (.int (if j < i then j else i)) H) : rMin2 [.int i, .int j] H Q := ⟨i, j, rfl, h⟩
theorem r_strI (h1 : i.natAbs.log2 < 1920) (h : Q (.str (toString i)) H) : rStrI [.int i] H Q := ⟨i, rfl, h1, h⟩
theorem r_listL {a : Addr} {xs : List V} (h1 : SqL K H a xs) (h : ∀ l, H l = none → Q (.ref l) (upd H l (.lst xs))) : rListOf K [.ref a] H Q := ⟨a, xs, rfl, .inl h1, h⟩
theorem r_min {a : Addr} {ns : List Int} (h1 : SqL K H a (ns.map V.int)) (h2 : 0 < ns.length) (h : ∀ m, m ∈ ns → (∀ y, y ∈ ns → m ≤ y) → Q (.int m) H) : rMin K [.ref a] H Q := ⟨a, ns, rfl, h1, h2, h⟩
theorem r_isi {c : V} {tv cu : Value} {b : Bool} (h1 : ClsV c cu) (h2 : TyX K H x tv) (h3 : PySem.W.kitOne K tv cu = some b) (h : Q (.bl b) H) : rIsi K [x, c] H Q := ⟨x, c, tv, cu, b, rfl, h1, h2, h3, h⟩
theorem r_repr {d : PyData} (h1 : Dp K H x d) (h2 : d.showable = true) (h3 : d.shown.length ≤ sizeLine) (h4 : d.depth ≤ 60) (h : Q (.str d.shown) H) : rRepr K [x] H Q := ⟨x, d, rfl, h1, h2, h3, h4, h⟩
theorem r_sl {r : V → Option Int → Option Int → Hp → VK → Prop} {tl th : TO} (h : te σ H fun x H1 => tl σ H1 fun l H2 => th σ H2 fun u H3 => r x l u H3 Q) : tSl r te tl th σ H Q := h
theorem r_noPart {P : Option Int → Hp → Prop} (h : P none H) : tNoPart σ H P := h
theorem r_part {P : Option Int → Hp → Prop} (h : te σ H fun x H1 => ∃ i, x = .int i ∧ P (some i) H1) : tPart te σ H P := h
theorem r_int {P : Int → Prop} (h : P i) : ∃ k, V.int i = V.int k ∧ P k := ⟨i, rfl, h⟩
theorem r_slUL {lo hi : Option Int} {a : Addr} {xs : List V} (h1 : SqL K H a xs) (h : ∀ p, H p = none → Q (.ref p) (upd H p (.lst (cutV xs lo hi)))) : rSlU K (.ref a) lo hi H Q := .inl ⟨a, xs, rfl, h1, h⟩
theorem r_slUS {lo hi : Option Int} {z : Str} (h1 : z.length ≤ sizeLine) (h : Q (.str (cutS z lo hi)) H) : rSlU K (.str z) lo hi H Q := .inr (.inl ⟨z, rfl, h1, h⟩)
theorem r_bm {T : String} {r : V → List V → Hp → VK → Prop} (h : ta σ H fun x H1 => tyV K T x H1 ∧ tr σ H1 fun xs H2 => r x xs H2 Q) : tBM K T r ta tr σ H Q := h
theorem r_tyL {a : Addr} {xs : List V} (h1 : SqL K H a xs) : tyV K "list" (.ref a) H := .inl ⟨rfl, _, h1⟩
theorem r_append {p : Addr} {xs : List V} (h1 : H p = some (.lst xs)) (h2 : xs.length < sizeLine) (h : Q .non (upd H p (.lst (xs ++ [y])))) : rAppend (.ref p) [y] H Q := ⟨p, xs, y, rfl, rfl, h1, h2, h⟩
theorem r_join {z : Str} (h : te σ H fun y H2 => rJoin K (.str z) [y] H2 Q) (h0 : ta = tC (.str z)) : tJoinU K ta te σ H Q := by
  subst h0
  exact ⟨⟨z, rfl⟩, h⟩
theorem r_chain3 {r r' r'' : R2} (h : ta σ H fun x H1 => tb σ H1 fun y H2 => r x y H2 fun z H3 => ∃ k, z = .bl k ∧
  (if k = true then tc σ H3 fun y' H4 => r' y y' H4 fun z' H5 => ∃ k', z' = .bl k' ∧ (if k' = true then td σ H5 fun w' H6 => r'' y' w' H6 Q else Q (.bl false) H5) else Q (.bl false) H3)) : tChain3 r r' r'' ta tb tc td σ H Q := h
theorem r_iaddI {P : V → Hp → Prop} (h : P (.int (i + j)) H) : rIaddU K (.int i) (.int j) H P := .inl ⟨i, j, rfl, rfl, h⟩
theorem r_iaddS {a b : Str} {P : V → Hp → Prop} (h1 : a.length + b.length ≤ sizeLine) (h : P (.str (a ++ b)) H) : rIaddU K (.str a) (.str b) H P := .inr ⟨a, b, rfl, rfl, h1, h⟩
def tFors (J : It) (g : TG) (tb : TS) (D : Ends) (σ : S) (H : Hp) : Prop := ∃ W : Nat → Nat → S → Hp → Prop, (∃ m, W 0 m σ H) ∧ ∀ i m σ H, W i m σ H →
  (J.stop i H ∧ D.nx σ H) ∨ (J.go i H ∧ ∃ N : S → Hp → Prop, (∀ σ' H', N σ' H' → ∃ m', m' < m ∧ W (i + 1) m' σ' H') ∧ ∀ x H', J.yld i H x H' → g x σ H' fun σ2 H2 => tb { D with nx := N, ct := N, bk := D.nx } σ2 H2)
theorem r_for {wi : TI} {g : TG} {tb : TS} (h : wi σ H fun J H1 => tFors J g tb D σ H1) : tFor wi g tb D σ H := h
theorem f_it {J : It} {n : Nat} {G : Hp → Prop} {Y : Nat → Hp → V → Hp → Prop} {g : TG} {tb : TS} (w : Walk J n G Y) (Pv : Nat → S → Hp → Prop) (h0 : Pv 0 σ H) (hG : ∀ i σ H, i ≤ n → Pv i σ H → G H)
    (hs : ∀ i x σ H H', i < n → Pv i σ H → Y i H x H' → g x σ H' fun σ2 H2 => tb { D with nx := Pv (i + 1), ct := Pv (i + 1), bk := D.nx } σ2 H2) (hd : ∀ σ H, Pv n σ H → D.nx σ H) : tFors J g tb D σ H := for_it w Pv h0 hG hs hd
def tLcs (J : It) (g : TG) (tt : TT) (te : TE) (vs : List Nat) (σ : S) (H1 : Hp) (D : Addr) (Qd : Hp → Prop) : Prop := ∃ W : Nat → Nat → Hp → Prop, (∃ m, W 0 m (upd H1 D (.lst []))) ∧ ∀ i m H, W i m H →
  (J.stop i H ∧ Qd H) ∨ (J.go i H ∧ ∃ Nx : Hp → Prop, (∀ H', Nx H' → ∃ m', m' < m ∧ W (i + 1) m' H') ∧ ∀ x H', J.yld i H x H' → g x (wipe σ vs) H' fun σ2 H2 => wipe σ2 vs = wipe σ vs ∧ tt σ2 H2 fun b H3 =>
    if b = true then te σ2 H3 fun y H4 => ∃ acc, H4 D = some (.lst acc) ∧ acc.length < sizeLine ∧ Nx (upd H4 D (.lst (acc ++ [y]))) else Nx H3)
theorem r_lc {wi : TI} {g : TG} {tt : TT} {vs : List Nat} (h : wi σ H fun J H1 => ∀ p, H1 p = none → tLcs J g tt te vs σ H1 p fun H2 => Q (.ref p) H2) : tLc wi g tt te vs σ H Q := h
theorem c_it {J : It} {n : Nat} {G : Hp → Prop} {Y : Nat → Hp → V → Hp → Prop} {g : TG} {tt : TT} {vs : List Nat} {p : Addr} {Qd : Hp → Prop} (w : Walk J n G Y) (Pv : Nat → Hp → Prop) (h0 : Pv 0 (upd H p (.lst []))) (hG : ∀ i H, i ≤ n → Pv i H → G H)
    (hs : ∀ i x H H', i < n → Pv i H → Y i H x H' → g x (wipe σ vs) H' fun σ2 H2 => wipe σ2 vs = wipe σ vs ∧ tt σ2 H2 fun b H3 =>
      if b = true then te σ2 H3 fun y H4 => ∃ acc, H4 p = some (.lst acc) ∧ acc.length < sizeLine ∧ Pv (i + 1) (upd H4 p (.lst (acc ++ [y]))) else Pv (i + 1) H3) (hd : ∀ H, Pv n H → Qd H) : tLcs J g tt te vs σ H p Qd := lc_it w Pv h0 hG hs hd
theorem r_while {c : TT} {tb : TS} (Pv : S → Hp → Prop) (μ : S → Hp → Nat) (Pe : S → Hp → Prop) (h0 : Pv σ H) (he : ∀ σ H, Pe σ H → D.nx σ H)
    (hs : ∀ σ H, Pv σ H → (∀ σ H, Pe σ H → D.nx σ H) → c σ H fun b H1 => if b = true then ∃ N : S → Hp → Prop, (∀ σ' H', N σ' H' → ∃ m', m' < μ σ H ∧ (m' = μ σ' H' ∧ Pv σ' H')) ∧ tb { D with nx := N, ct := N, bk := D.nx } σ H1 else D.nx σ H1) : tWhile c tb D σ H := by
  refine ⟨fun m σ H => m = μ σ H ∧ Pv σ H, ⟨_, rfl, h0⟩, ?_⟩
  rintro m σ H ⟨rfl, p⟩
  exact hs σ H p he
theorem r_turn {tb : TS} {Pv : S → Hp → Prop} {μ : S → Hp → Nat} {m : Nat} {rt : VK} {bk : S → Hp → Prop} (h : tb { nx := fun σ' H' => Pv σ' H' ∧ μ σ' H' < m, rt := rt, ct := fun σ' H' => Pv σ' H' ∧ μ σ' H' < m, bk := bk } σ H) :
    ∃ N : S → Hp → Prop, (∀ σ' H', N σ' H' → ∃ m', m' < m ∧ (m' = μ σ' H' ∧ Pv σ' H')) ∧ tb { nx := N, rt := rt, ct := N, bk := bk } σ H :=
  ⟨_, fun σ' H' q => ⟨_, q.2, rfl, q.1⟩, h⟩
theorem r_iteNT {A B : Prop} (h : B) : if (!true) = true then A else B := h
theorem r_iteNF {A B : Prop} (h : A) : if (!false) = true then A else B := h
theorem r_isiT {p : Addr} {xs : List V} (h1 : H p = some (.tup xs)) (h : Q (.bl true) H) : rIsi K [.ref p, .ty "tuple"] H Q := r_isi (.ty "tuple") (.base (.tup h1)) (kit_ty (by decide +kernel)) h
theorem r_seqH (Mid : S → Hp → Prop) (h2 : ∀ σ G, Mid σ G → u D σ G) (h1 : (∀ σ G, Mid σ G → u D σ G) → t { D with nx := u D } σ H) : tSeq t u D σ H := h1 h2
theorem r_nx {f bk ct : S → Hp → Prop} {rt : VK} (h : f σ H) : Ends.nx { nx := f, rt := rt, bk := bk, ct := ct } σ H := h
theorem r_bk {f bk ct : S → Hp → Prop} {rt : VK} (h : bk σ H) : Ends.bk { nx := f, rt := rt, bk := bk, ct := ct } σ H := h
theorem r_ct {f bk ct : S → Hp → Prop} {rt : VK} (h : ct σ H) : Ends.ct { nx := f, rt := rt, bk := bk, ct := ct } σ H := h
theorem r_rt {f bk ct : S → Hp → Prop} {rt : VK} (h : rt v H) : Ends.rt { nx := f, rt := rt, bk := bk, ct := ct } v H := h
theorem r_iseqL {R : It → Hp → Prop} (h : te σ H fun x H1 => ∃ a, x = .ref a ∧ (∃ xs, SqL K H1 a xs) ∧ R (Itl K a) H1) : iSeqU K te σ H R := .inl h
theorem r_iseqT {R : It → Hp → Prop} (h : te σ H fun x H1 => ∃ a, x = .ref a ∧ (∃ xs, SqT K H1 a xs) ∧ R (Itt K a) H1) : iSeqU K te σ H R := .inr (.inl h)
theorem r_iseqS {R : It → Hp → Prop} (h : te σ H fun v H1 => ∃ x, v = .str x ∧ R (Its x) H1) : iSeqU K te σ H R := .inr (.inr h)
theorem r_yes {P : Bool → Hp → Prop} (h : P true H) : tYes σ H P := h
theorem r_rng1 {R : It → Hp → Prop} (h : tr σ H fun vs H1 => ∃ j : Int, vs = [.int j] ∧ -(2 ^ 62) ≤ j ∧ j < 2 ^ 62 ∧ R (Itr 0 j.toNat) H1) : iRng1 tr σ H R := h
theorem r_one {P : Int → Prop} (h1 : -(2 ^ 62) ≤ i ∧ i < 2 ^ 62) (h : P i) : ∃ j : Int, [V.int i] = [.int j] ∧ -(2 ^ 62) ≤ j ∧ j < 2 ^ 62 ∧ P j := ⟨i, rfl, h1.1, h1.2, h⟩
end
end Px

namespace Px
open PySem PySem.Spec PyProof.Rows L2
/-! ### how long what repr shows may be -/
structure Sm (n : Nat) (d : PyData) : Prop where
  sh : d.showable = true
  le : d.shown.length ≤ n
theorem Sm.mono {n m : Nat} {d : PyData} (h : Sm n d) (l : n ≤ m) : Sm m d := ⟨h.sh, Nat.le_trans h.le l⟩
theorem append_len (a b : Str) : (a ++ b).length = a.length + b.length := by
  show (a.cps ++ b.cps).size = a.cps.size + b.cps.size
  rw [Array.size_append]
theorem join_len (sep : Str) (n : Nat) : ∀ ts : List Str, (∀ t ∈ ts, t.length ≤ n) → (Str.join sep ts).length ≤ ts.length * (n + sep.length)
  | [], _ => by rw [join_nil]; exact Nat.zero_le _
  | [x], h => by
    rw [join_one]
    have := h x (by simp)
    simp
    omega
  | x :: y :: r, h => by
    rw [join_cons_cons, append_len, append_len]
    have h1 := h x (by simp)
    have h2 := join_len sep n (y :: r) fun t ht => h t (List.mem_cons_of_mem _ ht)
    have e : (x :: y :: r).length = (y :: r).length + 1 := rfl
    rw [e, Nat.add_mul, Nat.one_mul]
    omega
theorem lt_log {n : Nat} (h : n < 10 ^ 20) : n.log2 < 1920 := by
  by_cases z : n = 0
  · rw [z]; decide
  · exact (Nat.log2_lt z).mpr (Nat.lt_trans h (by decide))
theorem Sm.int {i : Int} (h : i.natAbs < 10 ^ 20) : Sm 21 (.int i) := by
  refine ⟨?_, ?_⟩
  · simp only [PyData.showable]; exact decide_eq_true (lt_log h)
  · simp only [PyData.shown]
    have := int_text_length_le10 (a := i) (k := 20) (by decide) h
    rw [PySem.ofString_length]
    exact this
theorem Sm.str {z : Str} (h : ∀ c ∈ z.cps.toList, c < 16 ^ 8) : Sm (10 * z.length + 2) (.str z) := by
  refine ⟨by simp only [PyData.showable], ?_⟩
  simp only [PyData.shown]
  exact PySem.StrLaws.reprText_len z h
theorem shownAll_le {n : Nat} : ∀ {ds : List PyData}, (∀ d ∈ ds, Sm n d) → PyData.showableAll ds = true ∧ (PyData.shownAll ds).length = ds.length ∧ ∀ t ∈ PyData.shownAll ds, t.length ≤ n
  | [], _ => ⟨by simp only [PyData.showableAll], by simp only [PyData.shownAll, List.length_nil], fun t h => by simp only [PyData.shownAll] at h; cases h⟩
  | d :: ds, h => by
    obtain ⟨h1, h2, h3⟩ := shownAll_le (ds := ds) fun e he => h e (List.mem_cons_of_mem _ he)
    have h0 := h d (by simp)
    refine ⟨?_, ?_, ?_⟩
    · simp only [PyData.showableAll, h0.sh, h1, Bool.and_self]
    · simp only [PyData.shownAll, List.length_cons, h2]
    · intro t ht
      simp only [PyData.shownAll] at ht
      rcases List.mem_cons.mp ht with e | e
      · rw [e]; exact h0.le
      · exact h3 t e
theorem Sm.list {n : Nat} {ds : List PyData} (h : ∀ d ∈ ds, Sm n d) : Sm (ds.length * (n + 2) + 2) (.list ds) := by
  obtain ⟨h1, h2, h3⟩ := shownAll_le h
  refine ⟨by simp only [PyData.showable]; exact h1, ?_⟩
  simp only [PyData.shown, PySem.listText_eq_join]
  have q := join_len (", " : Str) n _ h3
  rw [h2] at q
  rw [append_len, append_len]
  show 1 + _ + 1 ≤ _
  have e : (Str.ofString ", ").length = 2 := rfl
  rw [e] at q
  omega
theorem Sm.tuple {n : Nat} {ds : List PyData} (h : ∀ d ∈ ds, Sm n d) : Sm (ds.length * (n + 2) + 3) (.tuple ds) := by
  obtain ⟨h1, h2, h3⟩ := shownAll_le h
  refine ⟨by simp only [PyData.showable]; exact h1, ?_⟩
  simp only [PyData.shown, tupleText]
  have q := join_len (", " : Str) n _ h3
  rw [h2] at q
  rw [append_len, append_len]
  have e : (Str.ofString ", ").length = 2 := rfl
  rw [e] at q
  have e1 : (Str.ofString "(").length = 1 := rfl
  rw [e1]
  split
  · have e2 : (Str.ofString ",)").length = 2 := rfl
    rw [e2]; omega
  · have e2 : (Str.ofString ")").length = 1 := rfl
    rw [e2]; omega
theorem small_line {n : Nat} (h : n ≤ 16777216) : n ≤ sizeLine := by rw [sizeLine_eq]; exact h

/-! ### lists of ints and texts as one thing -/
/-- a text of these code points -/
def sOf (xs : List Int) : Str := ⟨(xs.map Int.toNat).toArray⟩
theorem sOf_len (xs : List Int) : (sOf xs).length = xs.length := by
  show (List.toArray (xs.map Int.toNat)).size = xs.length
  simp
theorem sOf_list (xs : List Int) : (sOf xs).cps.toList = xs.map Int.toNat := by simp [sOf]
theorem sOf_append (xs ys : List Int) : sOf xs ++ sOf ys = sOf (xs ++ ys) := by
  show (⟨_ ++ _⟩ : Str) = _
  unfold sOf
  simp
def Cps (xs : List Int) : Prop := ∀ x ∈ xs, 0 ≤ x ∧ x < 16 ^ 8
theorem toNat_inj : ∀ {xs ys : List Int}, Cps xs → Cps ys → xs.map Int.toNat = ys.map Int.toNat → xs = ys
  | [], [], _, _, _ => rfl
  | [], _ :: _, _, _, h => by simp at h
  | _ :: _, [], _, _, h => by simp at h
  | x :: xs, y :: ys, hx, hy, h => by
    simp only [List.map_cons, List.cons.injEq] at h
    have e := toNat_inj (fun z hz => hx z (List.mem_cons_of_mem _ hz)) (fun z hz => hy z (List.mem_cons_of_mem _ hz)) h.2
    have h1 := (hx x (by simp)).1
    have h2 := (hy y (by simp)).1
    have e2 : x = y := by omega
    rw [e, e2]
theorem sOf_inj {xs ys : List Int} (hx : Cps xs) (hy : Cps ys) : sOf xs = sOf ys ↔ xs = ys := by
  constructor
  · intro h
    have e := congrArg (fun z : Str => z.cps.toList) h
    simp only [sOf_list] at e
    exact toNat_inj hx hy e
  · intro h; rw [h]
/-- one item: an int, or a text of one sign -/
def itV (k : Bool) (x : Int) : V := if k = true then .str ⟨#[x.toNat]⟩ else .int x
/-- v is a list of these ints, or the text of these code points -/
def IsQ (H : Hp) (k : Bool) (v : V) (xs : List Int) : Prop := xs.length ≤ 100000 ∧ ((k = false ∧ ∃ a, v = .ref a ∧ H a = some (.lst (xs.map V.int))) ∨ (k = true ∧ v = .str (sOf xs) ∧ Cps xs))
/-- .. and, if it is a list, one that H does not know -/
def NewQ (H H' : Hp) (k : Bool) (v : V) (xs : List Int) : Prop := IsQ H' k v xs ∧ (∀ a, v = .ref a → H a = none)
theorem IsQ.same {H H' : Hp} {k : Bool} {v : V} {xs : List Int} (q : IsQ H k v xs) (e : Same H H') : IsQ H' k v xs := by
  obtain ⟨l, q⟩ := q
  refine ⟨l, ?_⟩
  rcases q with ⟨hk, a, hv, h⟩ | q
  · exact .inl ⟨hk, a, hv, e _ _ h⟩
  · exact .inr q
def dq (k : Bool) (xs : List Int) : PyData := if k = true then .str (sOf xs) else .list (xs.map PyData.int)
theorem dpAll_ints {K : PySem.W.Frag} {H : Hp} : ∀ xs : List Int, DpAll K H (xs.map V.int) (xs.map PyData.int)
  | [] => .nil
  | x :: xs => .cons (.int x) (dpAll_ints xs)
theorem IsQ.dp {K : PySem.W.Frag} {H : Hp} {k : Bool} {v : V} {xs : List Int} (q : IsQ H k v xs) : Dp K H v (dq k xs) := by
  obtain ⟨l, ⟨rfl, a, rfl, h⟩ | ⟨rfl, rfl, c⟩⟩ := q
  · exact .lst (ql h) (dpAll_ints xs)
  · exact .str _
theorem canLay_ints : ∀ xs : List Int, PyData.canLayAll0 (xs.map PyData.int) = true
  | [] => by simp only [List.map_nil, PyData.canLayAll0]
  | x :: xs => by simp only [List.map_cons, PyData.canLayAll0, PyData.canLay0, canLay_ints xs, Bool.and_self]
theorem depth_ints : ∀ xs : List Int, PyData.depthAll (xs.map PyData.int) = 0
  | [] => by simp only [List.map_nil, PyData.depthAll]
  | x :: xs => by simp only [List.map_cons, PyData.depthAll, PyData.depth, depth_ints xs, Nat.max_self]
theorem shaped_list_ints (xs : List Int) : SeqAt.shaped (.list (xs.map PyData.int)) = true := by
  unfold SeqAt.shaped
  simp only [PyData.canLay0, PyData.depth, canLay_ints, depth_ints]
  decide
theorem strOk_of {z : Str} (h : ∀ c ∈ z.cps.toList, c < 0x110000) : PyData.strOk z = true := by
  unfold PyData.strOk
  rw [Array.all_eq_true_iff_forall_mem]
  intro c hc
  exact decide_eq_true (h c (by simpa using hc))
theorem eqv_ints : ∀ xs ys : List Int, PyData.eqvAll (xs.map PyData.int) (ys.map PyData.int) = decide (xs = ys)
  | [], [] => by simp only [List.map_nil, PyData.eqvAll]; rfl
  | [], y :: ys => by simp only [List.map_nil, List.map_cons, PyData.eqvAll]; simp
  | x :: xs, [] => by simp only [List.map_nil, List.map_cons, PyData.eqvAll]; simp
  | x :: xs, y :: ys => by
    simp only [List.map_cons, PyData.eqvAll, PyData.eqv, eqv_ints xs ys]
    by_cases h : x = y <;> simp [h]

theorem dq_shaped {k : Bool} {xs : List Int} (h : k = true → ∀ x ∈ xs, x < 0x110000) : SeqAt.shaped (dq k xs) = true := by
  cases k with
  | false => exact shaped_list_ints xs
  | true =>
    unfold SeqAt.shaped dq
    rw [if_pos rfl]
    simp only [PyData.canLay0, PyData.depth]
    rw [strOk_of]
    · rfl
    · intro c hc
      rw [sOf_list] at hc
      obtain ⟨x, hx, rfl⟩ := List.mem_map.mp hc
      have := h rfl x hx
      omega
theorem dq_eqv {k : Bool} {xs ys : List Int} (hx : k = true → Cps xs) (hy : k = true → Cps ys) : PyData.eqv (dq k xs) (dq k ys) = decide (xs = ys) := by
  cases k with
  | false =>
    show PyData.eqv (.list _) (.list _) = _
    simp only [PyData.eqv, eqv_ints]
  | true =>
    show PyData.eqv (.str _) (.str _) = _
    simp only [PyData.eqv]
    have e := sOf_inj (hx rfl) (hy rfl)
    by_cases h : xs = ys
    · rw [h]; simp
    · rw [decide_eq_false h]
      exact beq_eq_false_iff_ne.mpr fun z => h (e.mp z)
theorem IsQ.len {H : Hp} {k : Bool} {v : V} {xs : List Int} (q : IsQ H k v xs) : xs.length ≤ 100000 := q.1
theorem IsQ.cps {H : Hp} {k : Bool} {v : V} {xs : List Int} (q : IsQ H k v xs) : k = true → Cps xs := fun e => by
  obtain ⟨_, ⟨hk, _⟩ | ⟨_, _, c⟩⟩ := q
  · rw [hk] at e; cases e
  · exact c
section
variable {K : PySem.W.Frag} {H : Hp} {Q : VK} {k : Bool} {v u : V} {xs ys : List Int} {i : Int}
theorem q_len (q : IsQ H k v xs) (h : Q (.int xs.length) H) : rLenU K [v] H Q := by
  obtain ⟨l, ⟨rfl, a, rfl, e⟩ | ⟨rfl, rfl, c⟩⟩ := q
  · have e2 : (xs.map V.int).length = xs.length := List.length_map ..
    exact r_lenUL (ql e) (by rw [e2]; exact h)
  · exact r_lenUS (by rw [sOf_len]; exact small_line (by omega)) (by rw [sOf_len]; exact h)
theorem q_ix {j : Nat} {x : Int} (q : IsQ H k v xs) (hj : i = (j : Int)) (hx : xs[j]? = some x) (h : Q (itV k x) H) : rIx K v (.int i) H Q := by
  subst hj
  obtain ⟨l, ⟨rfl, a, rfl, e⟩ | ⟨rfl, rfl, c⟩⟩ := q
  · exact r_ixL (ql e) (atI_nat (by rw [List.getElem?_map, hx]; rfl)) h
  · exact r_ixS (by rw [sOf_len]; exact small_line (by omega)) (atI_nat (by rw [sOf_list, List.getElem?_map, hx]; rfl)) h
theorem q_eqi {x y : Int} (hx : k = true → 0 ≤ x) (hy : k = true → 0 ≤ y) (h : Q (.bl (decide (x = y))) H) : rEqU K (itV k x) (itV k y) H Q := by
  cases k with
  | false => exact r_eqUI h
  | true =>
    refine r_eqUS ?_
    have e : decide ((⟨#[x.toNat]⟩ : Str) = ⟨#[y.toNat]⟩) = decide (x = y) := by
      have h1 := hx rfl
      have h2 := hy rfl
      by_cases z : x = y
      · subst z; simp
      · rw [decide_eq_false z]
        refine decide_eq_false fun w => z ?_
        simp at w
        omega
    rw [e]; exact h
theorem q_nei {x y : Int} (hx : k = true → 0 ≤ x) (hy : k = true → 0 ≤ y) (h : Q (.bl (!decide (x = y))) H) : rNeU K (itV k x) (itV k y) H Q := by
  cases k with
  | false => exact r_neUI h
  | true =>
    refine r_neUS ?_
    have e : decide ((⟨#[x.toNat]⟩ : Str) = ⟨#[y.toNat]⟩) = decide (x = y) := by
      have h1 := hx rfl
      have h2 := hy rfl
      by_cases z : x = y
      · subst z; simp
      · rw [decide_eq_false z]
        refine decide_eq_false fun w => z ?_
        simp at w
        omega
    rw [e]; exact h
theorem newq_list {H' : Hp} {p : Addr} (hp : H p = none) (l : xs.length ≤ 100000) (e : H' p = some (.lst (xs.map V.int))) : NewQ H H' false (.ref p) xs :=
  ⟨⟨l, .inl ⟨rfl, p, rfl, e⟩⟩, fun a ea => by cases ea; exact hp⟩
theorem newq_str {H' : Hp} (l : xs.length ≤ 100000) (c : Cps xs) : NewQ H H' true (.str (sOf xs)) xs := ⟨⟨l, .inr ⟨rfl, rfl, c⟩⟩, fun a ea => nomatch ea⟩
/-- a new list of ints at p, laid -/
theorem q_new {p : Addr} {vs : List V} (hp : H p = none) (l : xs.length ≤ 100000) (e : vs = xs.map V.int) : NewQ H (upd H p (.lst vs)) false (.ref p) xs := newq_list hp l (by rw [upd_same, e])
theorem Cps.sub {xs ys : List Int} (c : Cps xs) (h : ∀ x ∈ ys, x ∈ xs) : Cps ys := fun x hx => c x (h x hx)
/-- v[lo:hi] -/
theorem q_sl {lo hi : Option Int} {a b : Nat} (q : IsQ H k v xs) (ha : HT.sIx xs.length 0 lo = a) (hb : HT.sIx xs.length xs.length hi = b) (h : ∀ v' H', Same H H' → NewQ H H' k v' ((xs.drop a).take (b - a)) → Q v' H') : rSlU K v lo hi H Q := by
  have hl : ((xs.drop a).take (b - a)).length ≤ 100000 := by
    rw [List.length_take, List.length_drop]
    have := q.1
    omega
  obtain ⟨l, ⟨rfl, p, rfl, e⟩ | ⟨rfl, rfl, c⟩⟩ := q
  · refine r_slUL (ql e) fun p hp => h _ _ (same_new hp) (q_new hp hl ?_)
    unfold cutV
    rw [List.length_map, ha, hb, List.map_take, List.map_drop]
  · refine r_slUS (by rw [sOf_len]; exact small_line (by omega)) ?_
    have e : cutS (sOf xs) lo hi = sOf ((xs.drop a).take (b - a)) := by
      unfold cutS
      rw [sOf_len, ha, hb, sOf_list]
      unfold sOf
      rw [List.map_take, List.map_drop]
    rw [e]
    exact h _ _ (Same.refl H) (newq_str hl (c.sub fun x hx => List.mem_of_mem_drop (List.mem_of_mem_take hx)))
theorem q_rev {te : TE} {σ : S} (h : te σ H fun w H1 => IsQ H1 k w xs ∧ ∀ v' H', Same H1 H' → NewQ H1 H' k v' xs.reverse → Q v' H') : k = k → (∀ (P P' : VK), (∀ w H1, P w H1 → P' w H1) → te σ H P → te σ H P') → tRevU K te σ H Q := fun _ mono => by
  cases k with
  | false =>
    refine .inl (mono _ _ (fun w H1 ⟨q, h⟩ => ?_) h)
    obtain ⟨l, ⟨_, a, rfl, e⟩ | ⟨z, _⟩⟩ := q
    · exact ⟨a, _, rfl, ql e, fun p hp => h _ _ (same_new hp) (q_new hp (by rw [List.length_reverse]; exact l) (by rw [List.map_reverse]))⟩
    · cases z
  | true =>
    refine .inr (mono _ _ (fun w H1 ⟨q, h⟩ => ?_) h)
    obtain ⟨l, ⟨z, _⟩ | ⟨_, rfl, c⟩⟩ := q
    · cases z
    · refine ⟨sOf xs, rfl, by rw [sOf_len]; exact small_line (by omega), ?_⟩
      have e : revS (sOf xs) = sOf xs.reverse := by
        unfold revS
        rw [sOf_list]
        unfold sOf
        rw [List.map_reverse]
      rw [e]
      exact h _ _ (Same.refl H1) (newq_str (by rw [List.length_reverse]; exact l) (c.sub fun x hx => List.mem_reverse.mp hx))
theorem q_add (q1 : IsQ H k v xs) (q2 : IsQ H k u ys) (hl : xs.length + ys.length ≤ 100000) (h : ∀ v' H', Same H H' → NewQ H H' k v' (xs ++ ys) → Q v' H') : rAddU K v u H Q := by
  have hl' : (xs ++ ys).length ≤ 100000 := by rw [List.length_append]; exact hl
  obtain ⟨l1, ⟨rfl, a, rfl, e1⟩ | ⟨rfl, rfl, c1⟩⟩ := q1
  · obtain ⟨l2, ⟨_, b, rfl, e2⟩ | ⟨z, _⟩⟩ := q2
    · exact r_addUL e1 e2 (by rw [List.length_map, List.length_map]; exact small_line (by omega)) fun p hp => h _ _ (same_new hp) (q_new hp hl' (by rw [List.map_append]))
    · cases z
  · obtain ⟨l2, ⟨z, _⟩ | ⟨_, rfl, c2⟩⟩ := q2
    · cases z
    · refine r_addUS (by rw [sOf_len, sOf_len]; exact small_line (by omega)) ?_
      rw [sOf_append]
      exact h _ _ (Same.refl H) (newq_str hl' fun x hx => (List.mem_append.mp hx).elim (c1 x) (c2 x))
theorem q_eq (q1 : IsQ H k v xs) (q2 : IsQ H k u ys) (c1 : k = true → ∀ x ∈ xs, x < 0x110000) (c2 : k = true → ∀ x ∈ ys, x < 0x110000) (h : Q (.bl (decide (xs = ys))) H) : rEqU K v u H Q :=
  r_eqUD q1.dp q2.dp (dq_shaped c1) (dq_shaped c2) (by rw [dq_eqv q1.cps q2.cps]; exact h)
theorem q_ne (q1 : IsQ H k v xs) (q2 : IsQ H k u ys) (c1 : k = true → ∀ x ∈ xs, x < 0x110000) (c2 : k = true → ∀ x ∈ ys, x < 0x110000) (h : Q (.bl (!decide (xs = ys))) H) : rNeU K v u H Q :=
  r_neUD q1.dp q2.dp (dq_shaped c1) (dq_shaped c2) (by rw [dq_eqv q1.cps q2.cps]; exact h)
/-- for a, b in zip(v, u) -/
theorem q_zip {ta : TA} {R : It → Hp → Prop} {σ : S} (h : ta σ H fun vs H1 => ∃ v u, vs = [v, u] ∧ IsQ H1 k v xs ∧ IsQ H1 k u ys ∧ ∀ J : It, Walk J (min xs.length ys.length) (fun H => IsQ H k v xs ∧ IsQ H k u ys) (YPair (fun i => (xs[i]?).map (itV k)) fun i => (ys[i]?).map (itV k)) → R J H1)
    (mono : ∀ (P P' : List V → Hp → Prop), (∀ w H1, P w H1 → P' w H1) → ta σ H P → ta σ H P') : iZipU K ta σ H R := by
  cases k with
  | false =>
    refine .inl (mono _ _ (fun w H1 h => ?_) h)
    obtain ⟨v, u, rfl, q1, q2, g⟩ := h
    obtain ⟨l1, ⟨_, a, rfl, e1⟩ | ⟨z, _⟩⟩ := q1
    · obtain ⟨l2, ⟨_, b, rfl, e2⟩ | ⟨z, _⟩⟩ := q2
      · refine ⟨a, b, _, _, rfl, ql e1, ql e2, g _ ?_⟩
        have w := walk_zip (K := K) (a := a) (b := b) (xs := xs.map V.int) (ys := ys.map V.int) (n := min xs.length ys.length) (by rw [List.length_map, List.length_map])
        refine w.mono (fun H h => ?_) fun i H x H' _ _ y => ?_
        · obtain ⟨⟨_, ⟨_, a', ea, h1⟩ | ⟨z, _⟩⟩, ⟨_, ⟨_, b', eb, h2⟩ | ⟨z', _⟩⟩⟩ := h
          · cases ea; cases eb; exact ⟨ql h1, ql h2⟩
          · cases z'
          · cases z
          · cases z
        · obtain ⟨T, x1, x2, h1, h2, h3, h4, h5⟩ := y
          refine ⟨T, x1, x2, h1, h2, h3, ?_, ?_⟩
          · have z : (xs.map V.int)[i]? = some x1 := h4
            rw [List.getElem?_map] at z; exact z
          · have z : (ys.map V.int)[i]? = some x2 := h5
            rw [List.getElem?_map] at z; exact z
      · cases z
    · cases z
  | true =>
    refine .inr (mono _ _ (fun w H1 h => ?_) h)
    obtain ⟨v, u, rfl, q1, q2, g⟩ := h
    obtain ⟨l1, ⟨z, _⟩ | ⟨_, rfl, c1⟩⟩ := q1
    · cases z
    · obtain ⟨l2, ⟨z, _⟩ | ⟨_, rfl, c2⟩⟩ := q2
      · cases z
      · refine ⟨_, _, rfl, g _ ?_⟩
        have s1 : ∀ (zs : List Int) (i : Nat), sgn (sOf zs) i = (zs[i]?).map (itV true) := fun zs i => by
          unfold sgn
          rw [← Array.getElem?_toList, sOf_list, List.getElem?_map, Option.map_map]
          rfl
        have e1 : (sOf xs).cps.size = xs.length := sOf_len xs
        have e2 : (sOf ys).cps.size = ys.length := sOf_len ys
        rw [e1, e2]
        refine (walk_pairs (n := min xs.length ys.length) (f := sgn (sOf xs)) (g := sgn (sOf ys))).mono (fun _ _ => trivial) fun i H x H' _ _ y => ?_
        obtain ⟨T, x1, x2, h1, h2, h3, h4, h5⟩ := y
        exact ⟨T, x1, x2, h1, h2, h3, (s1 xs i).symm.trans h4, (s1 ys i).symm.trans h5⟩
end
end Px

namespace Px
open PySem PySem.Spec PyProof.Rows L2
/-! ### a law's end, by a contract that knows that no repr is under way -/
theorem hid_at {h : Heap} {H : Hp} {b : Addr} {o : Obj} (e : h.get? b = some o) (n : H b = none) : (hidT h H).get? b = some o := hidT_get e n
theorem law_core {P : Program} {w : World} {K : PySem.W.Frag} {mg mb : Str → Option Value} {k : Nat} {fa a : Addr} {fd : FuncData} {x : Str} {sp : Sp} {s₁ : Shared} {vs : List Value}
    (KX : K.In s₁.heap) (hns : s₁.heap.Ns mainGlobals mg) (hb : s₁.heap.Ns builtinsNs mb) (hbb : ∀ x : Str, x ≠ "__name__" → mb x = bootBuiltins x) (hlim : s₁.heap.NoLimit) (hg : s₁.gens = #[])
    (ha : s₁.heap.get? a = some { cls := .type "list", data := .seq vs.toArray }) (hr : Room k callerA)
    (F : ∀ base : Heap, K.In base → base.Ns mainGlobals mg → FnG P w K mg base CX0 k fa fd [x] sp) (hbind : ∀ (s : Shared) (u : Value), BindsTo s fd ⟨[u], []⟩ [(x, u)])
    (H : Hp) (hO : Only H) (hsp : sp [.ref a] H (fun v _ => v = .bl true) fun _ _ _ => False) (hok : HOk P w H s₁.heap) (hA : ∀ b, H b ≠ none → b = a) (hK : H a ≠ none → K.lookup a = none) :
    codeAny (model P w) callerA (.call (.ref fa) ⟨[.ref a], []⟩) (fun r s' => r = .ok (.ret (.bool true)) ∧ OldK s₁.heap s'.heap ∧ s'.os = s₁.os ∧ AllBare s'.gens) s₁ := by
  have only : ∀ {b : Addr} {o : Obj}, s₁.heap.get? b = some o → (b = a → False) → H b = none := fun {b o} e n => by
    cases q : H b with
    | none => rfl
    | some u => exact (n (hA b (by rw [q]; simp))).elim
  have noA : ∀ {b : Addr} {o : Obj} {es : Array DictEntry} {ep : Nat}, s₁.heap.get? b = some o → o.data = .dict es ep → H b = none := fun e d => only e fun z => by
    subst z
    rw [ha] at e
    cases e
    exact nomatch (show Data.seq vs.toArray _ = Data.dict _ _ from d)
  have nsK : ∀ {b : Addr} {m : Str → Option Value}, s₁.heap.Ns b m → (hidT s₁.heap H).Ns b m := fun ⟨o, es, ep, e, d, r⟩ => ⟨o, es, ep, hid_at e (noA e d), d, r⟩
  have hKb : K.In (hidT s₁.heap H) := fun b o e => hid_at (KX b o e) (by
    cases q : H b with
    | none => rfl
    | some u =>
      have e' : b = a := hA b (by rw [q]; simp)
      subst e'
      have z := hK (by rw [q]; simp)
      rw [z] at e
      cases e)
  have hM : Mod K mg (hidT s₁.heap H) := ⟨hKb, nsK hns, ⟨mb, nsK hb, hbb⟩, let ⟨mc, h1, h2⟩ := hlim; ⟨mc, nsK h1, h2⟩⟩
  have e0 : Env0 P w K mg (hidT s₁.heap H) callerA [] s₁ H := ⟨rfl, hM, fun b o e => of_hidT e, Nat.le_of_eq (hidT_size _ _), trivial, fun b hb => absurd (show b ∈ ([] : List Addr) from hb) (by simp), hok, .of_eq hg⟩
  have go := (F _ hKb (nsK hns)).run callerA [] s₁ H ⟨[.ref a], []⟩ [.ref a] [.ref a] _ _ rfl hr e0 (hbind s₁ (.ref a)) (.cons rfl .nil) hsp
  refine codeAny_mono go fun r s' h => ?_
  match r, h with
  | .error _, h => exact h.elim
  | .ok .next, h => exact h.elim
  | .ok .brk, h => exact h.elim
  | .ok .cont, h => exact h.elim
  | .ok (.ret u), ⟨v, H', os, bare, un, hok', r', q⟩ =>
    have q' : v = .bl true := q
    subst q'
    obtain rfl : u = Value.bool true := r'
    refine ⟨rfl, OldK.of_keep fun b o e => ?_, os, bare⟩
    rcases hO b with z | ⟨ob, xs, z⟩
    · exact un.keep b o e z (fun m => absurd (show b ∈ ([] : List Addr) from m) List.not_mem_nil) List.not_mem_nil
    · have h1 := (hok b _ z).1
      have h2 := (hok' b _ (un.frzs b ob _ z)).1
      rw [e] at h1
      cases h1
      exact h2
theorem law_go {P : Program} {w : World} {K : PySem.W.Frag} {mg mb : Str → Option Value} {k : Nat} {fa a : Addr} {fd : FuncData} {x : Str} {sp : Sp} {s₁ : Shared} {vs : List Value} {ns : List Int}
    (KX : K.In s₁.heap) (hns : s₁.heap.Ns mainGlobals mg) (hb : s₁.heap.Ns builtinsNs mb) (hbb : ∀ x : Str, x ≠ "__name__" → mb x = bootBuiltins x) (hlim : s₁.heap.NoLimit) (hg : s₁.gens = #[])
    (ha : s₁.heap.get? a = some { cls := .type "list", data := .seq vs.toArray }) (hi : IntsAre vs ns) (hl : ns.length ≤ sizeLine) (hr : Room k callerA)
    (F : ∀ base : Heap, K.In base → base.Ns mainGlobals mg → FnG P w K mg base CX0 k fa fd [x] sp) (hbind : ∀ (s : Shared) (u : Value), BindsTo s fd ⟨[u], []⟩ [(x, u)])
    (hsp : ∀ H : Hp, Only H → SqL K H a (ns.map V.int) → sp [.ref a] H (fun v _ => v = .bl true) fun _ _ _ => False) :
    codeAny (model P w) callerA (.call (.ref fa) ⟨[.ref a], []⟩) (fun r s' => r = .ok (.ret (.bool true)) ∧ OldK s₁.heap s'.heap ∧ s'.os = s₁.os ∧ AllBare s'.gens) s₁ := by
  have rv := vals_ints hi
  have core := law_core (mb := mb) KX hns hb hbb hlim hg ha hr F hbind
  cases hk : K.lookup a with
  | some o =>
    have e := KX a o hk
    rw [ha] at e
    cases e
    have hO : Only fun _ => none := fun _ => .inl rfl
    exact core _ hO (hsp _ hO (.inr ⟨_, vs.toArray, _, hk, rfl, rfl, rfl, by rw [List.size_toArray, hi.length]; exact hl, by simpa using rv⟩)) (fun b u z => nomatch (show (none : Option HO) = some u from z)) (fun b z => absurd rfl z) fun z => absurd rfl z
  | none =>
    let H0 : Hp := upd (fun _ => none) a (.frz { cls := .type "list", data := .seq vs.toArray } (.lst (ns.map V.int)))
    have at0 : ∀ b, b ≠ a → H0 b = none := fun b n => upd_ne n
    have hO : Only H0 := fun b => by
      by_cases q : b = a
      · subst q; exact .inr ⟨_, _, upd_same⟩
      · exact .inl (at0 b q)
    refine core H0 hO (hsp _ hO (.inl (.inr ⟨_, upd_same⟩))) (fun b u z => ?_) (fun b z => ?_) fun _ => hk
    · by_cases q : b = a
      · subst q
        have z' : HO.frz _ _ = u := Option.some.inj (upd_same.symm.trans z)
        subst z'
        exact ⟨ha, by rw [List.length_map]; exact hl, vs, _, rv, ha⟩
      · exact nomatch ((at0 b q).symm.trans z)
    · by_cases q : b = a
      · exact q
      · exact absurd (at0 b q) z
theorem walk_G {l : PySem.W.OpenLaw} {n k : Nat} {q : Program} {loose : List Str} {XP : (Str → Option Value) → Heap → Prop} {YP : World → Heap → Prop} {d : DefRec} {x : Str}
    (hn : l.most = some n) (hn2 : n ≤ sizeLine) (hdf : d.params.defaults = []) (hr : Room k callerA)
    (F : ∀ (w : World) (mg : Str → Option Value) (fa : Addr) (h : Heap), YP w h → h.Ns mainGlobals mg → mg d.name = some (.ref fa) →
      ∃ (K : PySem.W.Frag) (fd : FuncData) (sp : Sp), K.In h ∧ (∀ (s : Shared) (u : Value), BindsTo s fd ⟨[u], []⟩ [(x, u)]) ∧
        (∀ (H : Hp) (a : Addr) (ns : List Int), ns.length ≤ n → Only H → SqL K H a (ns.map V.int) → sp [.ref a] H (fun v _ => v = .bl true) fun _ _ _ => False) ∧
        ∀ base : Heap, K.In base → base.Ns mainGlobals mg → FnG l.prog w K mg base CX0 k fa fd [x] sp) :
    PySem.W.WalkO q loose XP YP l.row.toRowW d [] (fun f vs => PySem.call f vs) := by
  refine Att.attach_call hn hdf fun w s₀ s₁ mg mb fa o pm cd doc a vs ns G Y ho hd hcd hmg hobj hints hlen hg => ?_
  obtain ⟨K, fd, sp, KX, hb, hsp, hF⟩ := F w mg fa _ Y G.T.g hmg
  exact law_go KX G.T.g G.T.b G.T.builtins G.T.nolimit hg hobj hints (Nat.le_trans hlen hn2) hr hF hb fun H hO hS => hsp H a ns hlen hO hS
end Px

namespace Px
open PySem PySem.Spec PyProof.Rows L2 PySem.W
/-- n's last eight binary digits, as signs -/
def bin8 (n : Nat) : Str := ⟨#[48 + n / 128 % 2, 48 + n / 64 % 2, 48 + n / 32 % 2, 48 + n / 16 % 2, 48 + n / 8 % 2, 48 + n / 4 % 2, 48 + n / 2 % 2, 48 + n % 2]⟩
theorem fmt08b {n : Nat} (hn : n < 256) (t u : Tok) : Meets (Builtin.«int.__format__» ⟨[.int (n : Int) t, .str (PySem.Str.ofString "08b") u], []⟩) (fun _ R s => ∀ t' k, R (.ok (.ret (.str (bin8 n) t'))) { s with toks := k }) := by
  apply KPc.meets_of
  intro _ _ _ _ _ _ hq
  unfold Builtin.«int.__format__»
  refine wpAny_bind (wpAny_of_eq (a := (_, _)) rfl ?_)
  refine wpAny_bind (wpAny_of_eq (a := _) rfl ?_)
  kxf_if
  refine wpAny_bind (wpAny_typeNameOf (T := "str") (typeIs_str _ _ _) (by decide) fun _ => ?_)
  refine wpAny_bind (wpAny_of_eq (a := some _) rfl ?_)
  kxf_if
  kxf_if
  refine wpAny_bind (wpAny_typeNameOfCut_int ?_)
  (repeat kxf_if)
  refine KXf.ret_text ?he ?hl hq
  · clear hq
    revert n
    decide +kernel
  · clear hq
    revert n
    decide +kernel
def hexSign (d : Nat) : Nat := if d < 10 then 48 + d else 55 + d
/-- two hexadecimal digits, as signs -/
def hex2 (n : Nat) : Str := ⟨#[hexSign (n / 16), hexSign (n % 16)]⟩
theorem fmt02X {n : Nat} (hn : n < 256) (t u : Tok) : Meets (Builtin.«int.__format__» ⟨[.int (n : Int) t, .str (PySem.Str.ofString "02X") u], []⟩) (fun _ R s => ∀ t' k, R (.ok (.ret (.str (hex2 n) t'))) { s with toks := k }) := by
  apply KPc.meets_of
  intro _ _ _ _ _ _ hq
  unfold Builtin.«int.__format__»
  refine wpAny_bind (wpAny_of_eq (a := (_, _)) rfl ?_)
  refine wpAny_bind (wpAny_of_eq (a := _) rfl ?_)
  kxf_if
  refine wpAny_bind (wpAny_typeNameOf (T := "str") (typeIs_str _ _ _) (by decide) fun _ => ?_)
  refine wpAny_bind (wpAny_of_eq (a := some _) rfl ?_)
  kxf_if
  kxf_if
  refine wpAny_bind (wpAny_typeNameOfCut_int ?_)
  (repeat kxf_if)
  refine KXf.ret_text ?he ?hl hq
  · clear hq
    revert n
    decide +kernel
  · clear hq
    revert n
    decide +kernel
/-- {e:spec}, e a number below 256 -/
def tFmtB (g : Nat → Str) (te : TE) : TE := fun σ H Q => te σ H fun x H1 => ∃ n : Nat, x = .int n ∧ n < 256 ∧ Q (.str (g n)) H1
section
variable {X : Cx}
theorem pe_fmtB {e : Expr} {te : TE} {pos p1 p2 : Pos} {k : Nat} {spec : Str} {g : Nat → Str} (he : PE X e te) (hne : (spec.length == 0) = false) (hsz : spec.length ≤ sizeLine)
    (hg : ∀ n : Nat, n < 256 → ∀ t u, Meets (Builtin.«int.__format__» ⟨[.int (n : Int) t, .str spec u], []⟩) (fun _ R s => ∀ t' k, R (.ok (.ret (.str (g n) t'))) { s with toks := k })) :
    PE X (.FormattedValue e (-1) (some (.JoinedStr [.Constant (.str spec) k p1] p2)) pos) (tFmtB g te) := by
  refine ⟨fun pins s σ H Q I h => ?_⟩
  refine wpAny_FormattedValue_spec (thn (he.run pins s σ H _ I h) fun v s1 hv => ?_)
  obtain ⟨x, H1, I1, r1, n, rfl, hn, q⟩ := hv
  obtain ⟨t, rfl⟩ := r1
  refine wpAny_JoinedStr_one ?_
  refine thn ((pe_str (X := X) (x := spec)).run pins s1 σ H1 _ I1 (show tC (.str spec) σ H1 fun y H2 => y = .str spec ∧ H2 = H1 from ⟨rfl, rfl⟩)) fun r s2 h2 => ?_
  obtain ⟨y, H2, I2, r2, rfl, rfl⟩ := h2
  obtain ⟨tk, rfl⟩ := r2
  refine ⟨spec, tk, rfl, ?_⟩
  exact KXf.field_int rfl hne hsz (hg n hn t) fun t' k => ⟨.str (g n), H2, I2.tok k, ⟨_, rfl⟩, q⟩
end
end Px

namespace Px
open PySem PySem.Spec PyProof.Rows L2
/-! ### int(t, 2) -/
namespace Bn
open PySem.NumText PySem.Calls
def IsBit (c : Nat) : Prop := c = 48 ∨ c = 49
def binNum (l : List Nat) : Nat := l.foldl (fun a c => a * 2 + (c - 48)) 0
theorem toHex {c : Nat} (h : IsBit c) : L2.Hx.IsHex c := .inl (by rcases h with rfl | rfl <;> exact ⟨by decide, by decide⟩)
theorem dig {c : Nat} (h : IsBit c) : digit? c = some (c - 48) := by rcases h with rfl | rfl <;> rfl
theorem step2 {ds : Array Nat} {b : Bool} {c : Nat} (h : IsBit c) : PySem.NumText.step 2 (ds, b) c = some (ds.push (c - 48), true) := by rcases h with rfl | rfl <;> rfl
theorem fold2 : ∀ (cs : List Nat) (ds : Array Nat), (∀ c ∈ cs, IsBit c) → cs.foldlM (PySem.NumText.step 2) (ds, true) = some (cs.foldl (fun acc c => acc.push (c - 48)) ds, true)
  | [], _, _ => rfl
  | c :: cs, ds, h => by
    rw [List.foldlM_cons, step2 (h c (List.mem_cons_self ..))]
    exact fold2 cs (ds.push (c - 48)) fun d hd => h d (List.mem_cons_of_mem _ hd)
theorem digits2 {cs : List Nat} (h : ∀ c ∈ cs, IsBit c) (hne : cs ≠ []) : digits? 2 cs = some (cs.foldl (fun acc c => acc.push (c - 48)) #[]) := by
  match cs, hne with
  | c :: cs, _ =>
    unfold digits?
    rw [List.foldlM_cons, step2 (h c (List.mem_cons_self ..))]
    show (List.foldlM (PySem.NumText.step 2) ((#[] : Array Nat).push (c - 48), true) cs).bind _ = _
    rw [fold2 cs _ fun d hd => h d (List.mem_cons_of_mem _ hd)]
    rfl
theorem push2 : ∀ (cs : List Nat) (ds : Array Nat), (cs.foldl (fun acc c => acc.push (c - 48)) ds).foldl (fun acc d => acc * 2 + d) 0 = cs.foldl (fun a c => a * 2 + (c - 48)) (ds.foldl (fun acc d => acc * 2 + d) 0)
  | [], _ => rfl
  | c :: cs, ds => by
    rw [List.foldl_cons, push2 cs (ds.push (c - 48)), List.foldl_cons]
    simp
theorem based2 {cs : List Nat} (h : ∀ c ∈ cs, IsBit c) : based 2 cs = (2, false, cs) := by
  match cs, h with
  | [], _ => rfl
  | [a], h => rcases h a (by simp) with rfl | rfl <;> rfl
  | a :: c :: r, h =>
    rcases h a (by simp) with rfl | rfl <;> rcases h c (by simp) with rfl | rfl <;> rfl
theorem read2 {cs : List Nat} (h : ∀ c ∈ cs, IsBit c) (hne : cs ≠ []) : (int_private% "readNumeral") 0 2 cs = (int_private% "Numeral.value") ((binNum cs : Nat) : Int) := by
  have hx : ∀ c ∈ cs, L2.Hx.IsHex c := fun c hc => toHex (h c hc)
  refine (readNumeral_eq 0 2 cs).trans ?_
  rw [L2.Hx.dropB hx, L2.Hx.signH hx]
  show judge 0 false (based 2 cs).1 (based 2 cs).2.1 (digits? (based 2 cs).1 (((based 2 cs).2.2.reverse.dropWhile blank).reverse)) = _
  rw [based2 h]
  show judge 0 false 2 false (digits? 2 ((cs.reverse.dropWhile blank).reverse)) = _
  rw [L2.Hx.dropB (cs := cs.reverse) fun c hc => hx c (List.mem_reverse.mp hc), List.reverse_reverse, digits2 h hne]
  show (int_private% "Numeral.value") (((cs.foldl (fun acc c => acc.push (c - 48)) (#[] : Array Nat)).foldl (fun acc d => acc * 2 + d) 0 : Nat) : Int) = _
  rw [push2]
  rfl
set_option maxHeartbeats 4000000 in
theorem gives2 {x : PySem.Str} {u t : Tok} (hl : x.length ≤ 640) (h : ∀ c ∈ x.cps.toList, IsBit c) (hne : x.cps.toList ≠ []) :
    Gives (Builtin.«int.__new__» ⟨[.type "int", .str x u, .int 2 t], []⟩) (.int ((binNum x.cps.toList : Nat) : Int)) :=
  .of_wp fun M A E s Q hQ => by
    obtain ⟨hp, g, d, tk, os⟩ := s
    have c1 := F.conv_sub_int
    have c2 := F.madeHere_int
    have c3 : typeOf (.str x u) = pure (.type "str") := rfl
    obtain ⟨e1, e2⟩ := L2.Hx.seen_hex fun c hc => toHex (h c hc)
    have key : L2.Hx.Hid ((numSeenOf x).length ≤ 640 ∧ (int_private% "readNumeral") 0 2 (numSeenOf x) = (int_private% "Numeral.value") ((binNum x.cps.toList : Nat) : Int) ∧ ((numSeenOf x).length == (numTextOf x).length) = true) := by
      refine ⟨?_, ?_, ?_⟩
      · rw [e2, Array.length_toList]; exact hl
      · rw [e2]; exact read2 h hne
      · rw [e1, e2]; exact beq_self_eq_true _
    clear e1 e2 hl hne h
    repeat (any_goals (first
      | assumption
      | ((with_reducible show wpAny _ _ ((int_private% "intFromText") _ _ _) _ _ _);
          refine L2.Hx.wp_textB key.out.1 key.out.2.1 key.out.2.2 ?_)
      | wp_step))
    all_goals first | exact ⟨_, rfl, hQ⟩ | skip
end Bn
/-- int(t, 2) -/
def rIntBin : List V → Hp → VK → Prop := fun xs H Q => ∃ x : Str, xs = [.str x, .int 2] ∧ x.cps.toList ≠ [] ∧ x.length ≤ 640 ∧ (∀ c ∈ x.cps.toList, Bn.IsBit c) ∧ Q (.int ((Bn.binNum x.cps.toList : Nat) : Int)) H
theorem call_int_bin {X : Cx} : CallR X (.type "int") rIntBin := by
  intro pins s σ H xs us Q I r h
  obtain ⟨x, rfl, hne, hl, hx, q⟩ := h
  obtain ⟨u, w', rfl, r1, r2⟩ := vals2 r
  obtain ⟨t1, rfl⟩ := r1
  obtain ⟨t2, rfl⟩ := r2
  exact callType_new F.called_int F.newNe_int (L2.Hx.typeCall_int_2 _ _) (L2.Hx.newCall_int_2 _ _) (fun obj => F.initArgs_range_2 obj _ _) F.entry_int_new (Bn.gives2 hl hx hne).meets
    (show (Made.int ((Bn.binNum x.cps.toList : Nat) : Int)).post _ s from ⟨rfl, ⟨.int ((Bn.binNum x.cps.toList : Nat) : Int), H, I.tok _, ⟨_, rfl⟩, q⟩⟩)
end Px

namespace Px
open PySem PySem.Spec PyProof.Rows L2 PpSet
/-! ### sets of texts; len({x for x in text}) -/
/-- the members so far, and one more -/
def putT (l : List Str) (k : Str) : List Str := if k ∈ l then l else k :: l
def SetT (P : Program) (w : World) (h : Heap) (a : Addr) (l : List Str) : Prop := h.SetOf (strKind P w) a (fun k => decide (k ∈ l)) l.length
theorem setOf_at {P : Program} {w : World} {h h' : Heap} {a : Addr} {S : Str → Bool} {n : Nat} (R : h.SetOf (strKind P w) a S n) (k : ∀ o, h.get? a = some o → h'.get? a = some o) : h'.SetOf (strKind P w) a S n := by
  obtain ⟨o, es, ep, t, ho, r⟩ := R
  exact ⟨o, es, ep, t, k o ho, r⟩
theorem setOf_congr {P : Program} {w : World} {h : Heap} {a : Addr} {S S' : Str → Bool} {n n' : Nat} (R : h.SetOf (strKind P w) a S n) (e : ∀ k, S' k = S k) (en : n' = n) : h.SetOf (strKind P w) a S' n' := by
  have z : S' = S := funext e
  rw [z, en]
  exact R
def SetTO (P : Program) (w : World) (a : Addr) (l : List Str) : HO := .ext fun h => SetT P w h a l
theorem setTO_new {P : Program} {w : World} {H : Hp} {h : Heap} {a : Addr} {l : List Str} (R : SetT P w h a l) : ObjOk P w H h a (SetTO P w a l) := by
  have R' := R
  obtain ⟨o, _, _, _, ho, _⟩ := R'
  exact ⟨R, ⟨o, ho⟩, fun h1 h2 p k => setOf_at p k⟩
theorem setT_fresh {h : Heap} (P : Program) (w : World) (led : Bool) : SetT P w (h.push { cls := .type "set", dict := none, data := .set #[] 0 (.fresh 0 0 led) }) h.objs.size [] :=
  setOf_congr ((setObjOf_fresh (knd := strKind P w) led).setOf (Heap.get?_push_size _ rfl) (by decide)) (fun k => by simp) rfl
section
variable {X : Cx} {pins : List (Addr × Obj)} {σ : L2.St} {H : Hp} {s : Shared}
theorem setTO_get {a : Addr} {l : List Str} (I : Inv X pins σ H s) (ha : H a = some (SetTO X.prog X.w a l)) : SetT X.prog X.w s.heap a l := (I.hok a _ ha).1
theorem addT_ok {E : Value → Shared → Prop} {D : Addr} {l : List Str} {y : Str} {t : Tok} {Q : Value → Shared → Prop} (I : Inv X pins σ H s) (hD : H D = some (SetTO X.prog X.w D l)) (room : l.length + 1 < scanBound)
    (k : ∀ s', Inv X pins σ (upd H D (SetTO X.prog X.w D (putT l y))) s' → Q .none s') : wpAny (model X.prog X.w) X.A (call (.builtin "set.add") [.ref D, .str y t]) Q E s := by
  refine call_set_add (knd := strKind X.prog X.w) (k := y) (strKind_is _ _ _ _) rfl (setTO_get I hD) room fun h' sb new => ?_
  have new' : SetT X.prog X.w h' D (putT l y) := by
    refine setOf_congr new (fun j => ?_) ?_
    · unfold putT
      split
      · rename_i m
        by_cases e : j = y
        · subst e; simp [m]
        · simp [e]
      · by_cases e : j = y <;> simp [e]
    · unfold putT
      by_cases m : y ∈ l
      · rw [if_pos m, if_pos (decide_eq_true m)]
      · rw [if_neg m, if_neg (by simpa using m)]
        rfl
  have there : ∃ u, h'.get? D = some u := by
    obtain ⟨o, _, _, _, ho, _⟩ := new'
    exact ⟨o, ho⟩
  exact k _ (I.write (e := D) (t' := s.toks + 1) (by rw [hD]; trivial) (.inl rfl) (fun b u nb hu => (sb.2 b nb).trans hu) there (setTO_new new'))
end
section
variable {X : Cx}
/-- {elt for target in iter if ..}, elt a text: D the new set -/
def tScT (P : Program) (w : World) (wi : TI) (g : TG) (tt : TT) (te : TE) (vs : List Nat) : TE := fun σ H Q => wi σ H fun J H1 => ∀ D, H1 D = none →
  ∃ W : Nat → Nat → Hp → Prop, (∃ m, W 0 m (upd H1 D (SetTO P w D []))) ∧ ∀ i m H, W i m H → (J.stop i H ∧ Q (.ref D) H) ∨
    (J.go i H ∧ ∃ Nx : Hp → Prop, (∀ H', Nx H' → ∃ m', m' < m ∧ W (i + 1) m' H') ∧ ∀ x H', J.yld i H x H' →
      g x (wipe σ vs) H' fun σ2 H2 => wipe σ2 vs = wipe σ vs ∧ tt σ2 H2 fun b H3 =>
        if b = true then te σ2 H3 fun y H4 => ∃ (z : Str) (l : List Str), y = .str z ∧ H4 D = some (SetTO P w D l) ∧ l.length + 1 < scanBound ∧ Nx (upd H4 D (SetTO P w D (putT l z))) else Nx H3)
abbrev BlkAll (X : Cx) (scope : Scope) (p : Cx → Prop) : Prop := ∀ (s : Shared) (H : Hp) (C : Addr) (cl : List (PySem.Str × Addr)) (fp : List Addr), p (X.blk s H scope (compEnvC scope cl C X.env) fp)
theorem pe_scT {elt tg iter : Expr} {ifs : List Expr} {scope : Scope} {own : List (PySem.Str × Nat)} {pos : Pos} {wi : TI} {g : TG} {tt : TT} {te : TE} (hc : X.calm = true) (hN : X.N.Nodup) (hi : PI X tg iter wi)
    (ok : BlkOk X.N X.env.scope scope own) (hg : BlkAll X scope fun Y => PG Y tg g) (ht : BlkAll X scope fun Y => PTs Y ifs tt) (he : BlkAll X scope fun Y => PE Y elt te) (hs : ∀ x, foldedSetIterable iter X.env x = pure x := by intro _; rfl) :
    PE X (.SetComp elt [⟨tg, iter, ifs, 0⟩] scope pos) (tScT X.prog X.w wi g tt te (own.map (·.2))) := by
  refine ⟨fun pins s σ H Q I h => ?_⟩
  rw [eval_SetComp]
  have closed : ∀ y ∈ scope.names, y.2 = .free → ∃ c, X.env.cells.lookup y.1 = some c := by
    intro y hy e
    exact (ok.free y hy e).elim (fun k => I.ok.has _ (.inl k)) fun k => I.ok.has _ (.inr k)
  refine wpAny_comprehension_free (use := none) rfl hs (closure_ok closed) ok.kind (fun y hy e => by rw [ok.uniq y hy, e]) ?_
  refine thn (hi.run pins s σ H _ I h) fun _ s1 hx => thn hx ?_
  rintro _ s2 ⟨it, fp, tn, J, H2, rfl, I2, T, st2, f2, q⟩
  refine newSet_ok (newEnv_comp ?_)
  generalize hO : ({ cls := .type "set", dict := none, data := .set #[] 0 (.fresh 0 0 (!X.w.params.followText "set-order")) } : Obj) = O
  generalize hD : s2.heap.objs.size = D
  obtain ⟨W, ⟨m0, w0⟩, turn⟩ := q D (I2.hok.fresh (Nat.le_of_eq hD))
  have hO0 : ∀ {b : Addr} {o : Obj}, s2.heap.get? b = some o → (s2.heap.push O).get? b = some o := fun e => Heap.get?_push_of_some _ e
  generalize hH3 : upd H2 D (SetTO X.prog X.w D []) = H3 at w0
  generalize hs3 : ({ s2 with heap := s2.heap.push O } : Shared) = s3
  have hp3 : s3.heap = s2.heap.push O := by rw [← hs3]
  have I3 : Inv X pins σ H3 s3 := by
    subst hs3 hH3 hD hO
    exact I2.laid (t' := s2.toks) (fun b o e => Heap.get?_push_of_some _ e) (Nat.le_refl _) (setTO_new (setT_fresh X.prog X.w _))
  have low : ∀ b ∈ fp, b < D := fun b hb => by
    obtain ⟨o, e, _⟩ := T.obj _ _ st2 b hb
    rw [← hD]
    exact Heap.lt_size e
  have f3 : ∀ b ∈ fp, FpOk X pins H3 b ∧ b < s3.heap.objs.size := fun b hb => by
    have hlt := low b hb
    refine ⟨⟨?_, (f2 b hb).2⟩, ?_⟩
    · rw [← hH3, upd_ne (Nat.ne_of_lt hlt)]
      exact (f2 b hb).1
    · rw [hp3, Heap.size_push, hD]
      exact Nat.lt_succ_of_lt hlt
  have st3 : tn 0 s3.heap := T.keep _ _ _ st2 fun b _ o e => by rw [hp3]; exact hO0 e
  have I4 := block_start I3 ok hN f3
  have pg := hg s3 H3 s3.heap.objs.size (cellsFrom (s3.heap.objs.size + 1) scope.names (cloFrom X.env.cells scope.names [])) fp
  have pt := ht s3 H3 s3.heap.objs.size (cellsFrom (s3.heap.objs.size + 1) scope.names (cloFrom X.env.cells scope.names [])) fp
  have pe := he s3 H3 s3.heap.objs.size (cellsFrom (s3.heap.objs.size + 1) scope.names (cloFrom X.env.cells scope.names [])) fp
  show codeAny _ _ (.compStart (.SetComp elt [⟨tg, iter, ifs, 0⟩] scope pos) 0 (.ref it) (.ref D) (compEnvC scope (cellsFrom (s3.heap.objs.size + 1) scope.names (cloFrom X.env.cells scope.names [])) s3.heap.objs.size X.env))
    (compPost (model X.prog X.w) X.A X.xe none _ (.ref D) s3.heap.objs.size) { s3 with heap := pushCells (s3.heap.push { cls := .type "dict", data := .dict #[] }) scope.names }
  have cL : (compEnvC scope (cellsFrom (s3.heap.objs.size + 1) scope.names (cloFrom X.env.cells scope.names [])) s3.heap.objs.size X.env).locals = s3.heap.objs.size := rfl
  generalize compEnvC scope (cellsFrom (s3.heap.objs.size + 1) scope.names (cloFrom X.env.cells scope.names [])) s3.heap.objs.size X.env = ce at I4 pg pt pe cL ⊢
  have st4 : tn 0 (pushCells (s3.heap.push { cls := .type "dict", data := .dict #[] }) scope.names) := T.keep _ _ _ st3 fun b _ o e => pushCells_keeps _ _ _ _ (Heap.get?_push_of_some _ e)
  generalize hs4 : ({ s3 with heap := pushCells (s3.heap.push { cls := .type "dict", data := .dict #[] }) scope.names } : Shared) = s4 at I4 ⊢
  replace st4 : tn 0 s4.heap := by rw [← hs4]; exact st4
  have still : ∀ {σ' : L2.St} {H' : Hp} {s' : Shared}, Inv (X.blk s3 H3 scope ce fp) [] σ' H' s' → (∀ b ∈ fp, H' b = none) → ∀ b ∈ fp, FpOk (X.blk s3 H3 scope ce fp) [] H' b := by
    intro σ' H' s' I' hn b hb
    exact ⟨hn b hb, (I'.ok.exf b hb).1, I'.ok.exfs b hb, .inl hb, fun x c e => (I'.ok.exf b hb).2 x c e, fun p hp => absurd (show p ∈ ([] : List (Addr × Obj)) ++ [] from hp) (by simp)⟩
  refine codeAny_compStart_set ?_ (T.self X.A 0 _ _ _ st4 ?_)
  all_goals
    refine compLoopS_any (fun n s' => ∃ i H', Inv (X.blk s3 H3 scope ce fp) [] (wipe σ (own.map (·.2))) H' s' ∧ tn i s'.heap ∧ (∀ b ∈ fp, H' b = none) ∧ W i n H') ?_ m0 ⟨0, H3, I4, st4, fun b hb => (f3 b hb).1.1, w0⟩
    rintro n s5 ⟨i, H5, I5, st5, n5, w5⟩
    rcases turn i n H5 w5 with ⟨stop, qq⟩ | ⟨go, Nx, hNx, step⟩
    · refine thnF (T.done (X.blk s3 H3 scope ce fp) rfl rfl rfl hc i [] s5 _ H5 (fun _ _ => False) I5 (still I5 n5) st5 stop) ?_
      rintro r s6 ⟨rfl, I6⟩
      have I7 : Inv X pins σ H5 s6 := I3.call' (ch := fp) I6.os I6.base I6.hok I6.bare fun b hb =>
        let z := (f3 b hb).1
        ⟨z.2.2.2.1, z.2.1, z.2.2.2.2.1, z.2.2.2.2.2⟩
      have nC : H5 s3.heap.objs.size = none := by
        rw [← cL]
        exact I6.free
      obtain ⟨m, hn, _⟩ := I6.loc
      replace hn : s6.heap.Ns s3.heap.objs.size m := by rw [← cL]; exact hn
      obtain ⟨f0, f1, f2', f3', f4, f5⟩ := I3.fpOk (Nat.le_refl _) nC
      exact ⟨m, hn, fun h'' sb => ⟨.ref D, H5, I7.turned (t' := s6.toks) (fun b o hb e => (sb.2 b hb).trans e) f0 f1 f3' f4 f5, rfl, qq⟩⟩
    · refine thnF (T.item (X.blk s3 H3 scope ce fp) rfl rfl rfl hc i [] s5 _ H5 (fun _ _ => False) I5 (still I5 n5) st5 go) ?_
      rintro r s6 ⟨u, rfl, h6⟩
      refine thnF h6 ?_
      rintro _ s7 ⟨x, H7, I7, r7, y7, st7, n7⟩
      refine thnF (pg.run _ s7 _ H7 x u _ (I7.pinned (still I7 n7) (T.obj _ _ st7)) r7 (step x H7 y7)) ?_
      rintro _ s8 ⟨σ8, H8, I8, hw8, q8⟩
      refine thnF (pt.run _ s8 σ8 H8 _ I8 q8) ?_
      rintro b s9 ⟨H9, I9, q9⟩
      have fin : ∀ {s' : Shared} {H' : Hp}, Inv (X.blk s3 H3 scope ce fp) ([] ++ pinsAt fp s7.heap) σ8 H' s' → Nx H' →
          ∃ m, m < n ∧ ∃ i H', Inv (X.blk s3 H3 scope ce fp) [] (wipe σ (own.map (·.2))) H' s' ∧ tn i s'.heap ∧ (∀ b ∈ fp, H' b = none) ∧ W i m H' := by
        intro s' H' I' nx
        obtain ⟨m', hm, w'⟩ := hNx H' nx
        have kept : ∀ b ∈ fp, ∀ o, s7.heap.get? b = some o → s'.heap.get? b = some o ∧ H' b = none := by
          intro b hb o e
          have z := I'.pin (b, o) (List.mem_append_right _ (List.mem_append_right _ (mem_pinsAt hb e)))
          exact ⟨z.1, z.2.1⟩
        refine ⟨m', hm, i + 1, H', (I'.unpinned (pins := [])).weak (by rw [← hw8, wipe_length]) (fun j v e => ?_), T.keep _ _ _ st7 fun b hb o e => (kept b hb o e).1, ?_, w'⟩
        · rw [← hw8] at e
          exact (wipe_some e).1
        · intro b hb
          obtain ⟨o, e, _⟩ := T.obj _ _ st7 b hb
          exact (kept b hb o e).2
      cases b with
      | false => exact fin I9 q9
      | true =>
        refine thnF (pe.run _ s9 σ8 H9 _ I9 q9) ?_
        rintro z s10 ⟨yv, H10, I10, r10, zz, l0, rfl, hD10, room, nx⟩
        obtain ⟨tz, rfl⟩ := r10
        exact addT_ok (X := X.blk s3 H3 scope ce fp) I10 hD10 room fun s11 I11 => fin I11 nx
def rLenT (P : Program) (w : World) : List V → Hp → VK → Prop := fun xs H Q => ∃ a l, xs = [.ref a] ∧ H a = some (SetTO P w a l) ∧ Q (.int (l.length : Nat)) H
theorem call_lenT : CallR X (.builtin "len") (rLenT X.prog X.w) := by
  intro pins s σ H xs us Q I r h
  obtain ⟨a, l, rfl, ha, q⟩ := h
  cases r with
  | cons r0 r1 =>
    cases r1
    cases r0
    obtain ⟨o, es, ep, t, ho, hex, hd, _, _, hb, hf, hn⟩ := setTO_get I ha
    have big : scanBound < 2 ^ 62 := by decide
    refine call_len_set ho hex hd hf (by omega) ⟨.int (l.length : Nat), H, I.tok _, ⟨_, by rw [hn]⟩, q⟩
end
def uniq (l : List Nat) : List Str := l.foldl (fun a c => putT a ⟨#[c]⟩) []
theorem putT_len (l : List Str) (k : Str) : (putT l k).length ≤ l.length + 1 := by
  unfold putT
  split
  · omega
  · exact Nat.le_refl _
theorem uniq_take {l : List Nat} {i c : Nat} (h : l[i]? = some c) : uniq (l.take (i + 1)) = putT (uniq (l.take i)) ⟨#[c]⟩ := by
  unfold uniq
  rw [List.take_add_one, h, List.foldl_append]
  rfl
theorem uniq_len : ∀ (l : List Nat), (uniq l).length ≤ l.length := by
  intro l
  have h : ∀ (l : List Nat) (a : List Str), (l.foldl (fun a c => putT a ⟨#[c]⟩) a).length ≤ a.length + l.length := by
    intro l
    induction l with
    | nil => intro a; exact Nat.le_refl _
    | cons c r ih =>
      intro a
      have h1 := ih (putT a ⟨#[c]⟩)
      have h2 := putT_len a ⟨#[c]⟩
      simp only [List.foldl_cons, List.length_cons]
      omega
  have z := h l []
  rw [List.length_nil, Nat.zero_add] at z
  exact z
theorem uniq_mem : ∀ (l : List Nat) (c : Nat), (⟨#[c]⟩ : Str) ∈ uniq l ↔ c ∈ l := by
  have h : ∀ (l : List Nat) (a : List Str) (c : Nat), (⟨#[c]⟩ : Str) ∈ l.foldl (fun a c => putT a ⟨#[c]⟩) a ↔ ((⟨#[c]⟩ : Str) ∈ a ∨ c ∈ l) := by
    intro l
    induction l with
    | nil => intro a c; simp
    | cons d r ih =>
      intro a c
      simp only [List.foldl_cons, List.mem_cons]
      rw [ih]
      unfold putT
      split
      · rename_i m
        constructor
        · rintro (h | h)
          · exact .inl h
          · exact .inr (.inr h)
        · rintro (h | rfl | h)
          · exact .inl h
          · exact .inl m
          · exact .inr h
      · simp only [List.mem_cons, Str.mk.injEq, Array.mk.injEq, List.cons.injEq, and_true]
        constructor
        · rintro ((h | h) | h)
          · exact .inr (.inl h)
          · exact .inl h
          · exact .inr (.inr h)
        · rintro (h | h | h)
          · exact .inl (.inr h)
          · exact .inl (.inl h)
          · exact .inr h
  intro l c
  rw [show uniq l = l.foldl (fun a c => putT a ⟨#[c]⟩) [] from rfl, h]
  simp
/-- every sign once: as many members as signs -/
theorem uniq_nodup : ∀ {l : List Nat}, l.Nodup → (uniq l).length = l.length := by
  intro l
  have h : ∀ (r l : List Nat), (l ++ r).Nodup → (r.foldl (fun a c => putT a ⟨#[c]⟩) (uniq l)).length = (uniq l).length + r.length := by
    intro r
    induction r with
    | nil => intro l _; rfl
    | cons c r ih =>
      intro l n
      have n' : ((l ++ [c]) ++ r).Nodup := by simpa using n
      have hc : c ∉ l := fun m => by
        have := (List.nodup_append.mp n).2.2 c m c (by simp)
        exact this rfl
      have e : uniq (l ++ [c]) = putT (uniq l) ⟨#[c]⟩ := by
        unfold uniq
        rw [List.foldl_append]
        rfl
      have z := ih (l ++ [c]) n'
      rw [e] at z
      rw [List.foldl_cons, z]
      unfold putT
      rw [if_neg (fun m => hc ((uniq_mem l c).mp m))]
      simp only [List.length_cons]
      omega
  intro n
  have z := h l [] n
  simpa [uniq] using z
/-- len({x for x in e}), e a text; i: x's place -/
def tDist (i : Nat) (te : TE) : TE := fun σ H Q => i < σ.length ∧ te σ H fun v H1 => ∃ z : Str, v = .str z ∧ z.length ≤ 1000 ∧ ∀ H2, Same H1 H2 → Q (.int ((uniq z.cps.toList).length : Nat)) H2
theorem pe_distinct {X : Cx} {e : Expr} {i : Nat} {te : TE} (hm : ∀ (σ : L2.St) (H : Hp) (P P' : VK), (∀ w H1, P w H1 → P' w H1) → te σ H P → te σ H P')
    (h : PE X e (tCB (rLenT X.prog X.w) (tCons (tScT X.prog X.w (iSeqU X.K te) (gName i) tYes (tVar i) [i]) tNil))) : PE X e (tDist i te) := by
  refine ⟨fun pins s σ H Q I hq => h.run pins s σ H Q I ?_⟩
  obtain ⟨hi, hq⟩ := hq
  show iSeqU X.K te σ H _
  refine .inr (.inr (hm σ H _ _ ?_ hq))
  rintro v H1 ⟨z, rfl, hz, q⟩
  refine ⟨z, rfl, fun D hD => ?_⟩
  have hzl : z.cps.toList.length ≤ 1000 := by rw [Array.length_toList]; exact hz
  refine ⟨fun j m H => m = z.cps.size - j ∧ j ≤ z.cps.size ∧ H D = some (SetTO X.prog X.w D (uniq (z.cps.toList.take j))) ∧ Same H1 H, ⟨_, rfl, Nat.zero_le _, upd_same, same_new hD⟩, ?_⟩
  rintro j m H2 ⟨rfl, hj, hD2, s2⟩
  by_cases hlt : j < z.cps.size
  · refine .inr ⟨hlt, fun H' => j + 1 ≤ z.cps.size ∧ H' D = some (SetTO X.prog X.w D (uniq (z.cps.toList.take (j + 1)))) ∧ Same H1 H', fun H' p => ⟨_, by omega, rfl, p⟩, ?_⟩
    rintro x H' ⟨rfl, c, hc, rfl⟩
    have hw : i < (wipe σ [i]).length := by rw [wipe_length]; exact hi
    refine ⟨?_, _, by rw [List.getElem?_set_self hw], ?_⟩
    · simp [wipe, List.set_set]
    · have hc' : z.cps.toList[j]? = some c := by rw [Array.getElem?_toList]; exact hc
      refine ⟨⟨#[c]⟩, _, rfl, hD2, ?_, hlt, ?_, same_mut s2 hD⟩
      · have := uniq_len (z.cps.toList.take j)
        rw [List.length_take] at this
        have big : 2000 < scanBound := by decide
        omega
      · rw [upd_same, uniq_take hc']
  · have e : j = z.cps.size := by omega
    subst e
    refine .inl ⟨Nat.le_refl _, _, _, rfl, hD2, ?_⟩
    rw [List.take_of_length_le (by rw [Array.length_toList]; exact Nat.le_refl _)]
    exact q H2 s2
end Px

namespace Px
open PySem PySem.Spec PyProof.Rows L2
/-! ### a written dict of ints by ints -/
def intOf : Value → Option Int
  | .int i _ => some i
  | _ => none
def ents (l : List DictEntry) : List (Option Int × Int × Option Int) := l.map fun e => (intOf e.key, e.hash, intOf e.val)
def idB (K : PySem.W.Frag) (a : Addr) (kvs : List (Int × Int)) : Bool := match K.lookup a with
  | some ⟨.type c, none, .dict es _, sl⟩ => decide (c = "dict") && (sl.isEmpty && (!(a == sysModules) && decide (ents es.toList = kvs.map fun p => (some p.1, hashInt p.1, some p.2))))
  | _ => false
structure IDict (K : PySem.W.Frag) (a : Addr) (kvs : List (Int × Int)) : Prop where
  at_ : ∃ es n, K.lookup a = some ⟨.type "dict", none, .dict es n, #[]⟩ ∧ ents es.toList = kvs.map fun p => (some p.1, hashInt p.1, some p.2)
  low : (a == sysModules) = false
theorem idB_ok {K : PySem.W.Frag} {a : Addr} {kvs : List (Int × Int)} (h : idB K a kvs = true) : IDict K a kvs := by
  unfold idB at h
  split at h
  · rename_i c es n sl e
    simp only [Bool.and_eq_true, decide_eq_true_eq, Bool.not_eq_true'] at h
    obtain ⟨h1, h2, h3, h4⟩ := h
    subst h1
    rw [Array.isEmpty_iff.mp h2] at e
    exact ⟨⟨es, n, e, h4⟩, h3⟩
  · cases h
theorem intOf_some {v : Value} {i : Int} (h : intOf v = some i) : ∃ t, v = .int i t := by
  cases v with
  | int j t =>
    cases (show some j = some i from h)
    exact ⟨t, rfl⟩
  | _ => cases h
/-- the int at k -/
def atK (kvs : List (Int × Int)) (k : Int) : Option Int := (kvs.find? fun p => decide (p.1 = k)).map (·.2)
theorem ents_find (k : Int) : ∀ (l : List DictEntry) (kvs : List (Int × Int)), ents l = kvs.map (fun p => (some p.1, hashInt p.1, some p.2)) →
    (∀ e ∈ l, ∃ j t, e.key = .int j t ∧ e.hash = hashInt j) ∧ RelO ((atK kvs k).map V.int) ((l.find? fun e => Value.isInt k e.key).map (·.val))
  | [], [], _ => ⟨fun e he => (nomatch he), trivial⟩
  | [], _ :: _, h => by cases h
  | _ :: _, [], h => by cases h
  | e :: l, p :: kvs, h => by
    have h1 : (intOf e.key, e.hash, intOf e.val) :: ents l = (some p.1, hashInt p.1, some p.2) :: kvs.map (fun p => (some p.1, hashInt p.1, some p.2)) := h
    injection h1 with h2 h3
    simp only [Prod.mk.injEq] at h2
    obtain ⟨ek, eh, ev⟩ := h2
    obtain ⟨t, et⟩ := intOf_some ek
    obtain ⟨u, eu⟩ := intOf_some ev
    obtain ⟨i1, i2⟩ := ents_find k l kvs h3
    refine ⟨fun e' he' => ?_, ?_⟩
    · rcases List.mem_cons.mp he' with rfl | m
      · exact ⟨p.1, t, et, eh⟩
      · exact i1 e' m
    · unfold atK
      by_cases q : p.1 = k
      · rw [List.find?_cons_of_pos (by simpa using q), List.find?_cons_of_pos (by rw [et]; simp [Value.isInt, q])]
        show RelV (V.int p.2) e.val
        rw [eu]
        exact ⟨u, rfl⟩
      · rw [List.find?_cons_of_neg (by simpa using q), List.find?_cons_of_neg (by rw [et]; simp [Value.isInt, q])]
        exact i2
section
variable {X : Cx} {a : Addr} {kvs : List (Int × Int)}
theorem IDict.map (D : IDict X.K a kvs) {h : Heap} (I : X.K.In h) (k : Int) : ∃ f, h.MapOf (intKind X.prog X.w) a f ∧ RelO ((atK kvs k).map V.int) (f k) := by
  obtain ⟨es, n, e, q⟩ := D.at_
  obtain ⟨h1, h2⟩ := ents_find k es.toList kvs q
  refine ⟨fun k => findBy Value.isInt es k, ⟨_, es, n, I _ _ e, ⟨rfl, rfl, rfl⟩, rfl, fun e he => ?_, fun _ => rfl⟩, ?_⟩
  · obtain ⟨j, t, e1, e2⟩ := h1 e (Array.mem_toList_iff.mpr he)
    exact ⟨j, by rw [e1]; exact intKind_is _ _ _ _, e2⟩
  · show RelO _ ((es.find? fun e => Value.isInt k e.key).map (·.val))
    rw [← Array.find?_toList]
    exact h2
/-- k in D, D[k] -/
def rInID (kvs : List (Int × Int)) (a : Addr) (f : Bool → Bool) : R2 := fun x y H Q => ∃ k : Int, x = .int k ∧ y = .ref a ∧ Q (.bl (f (atK kvs k).isSome)) H
def rIxID (kvs : List (Int × Int)) (a : Addr) : R2 := fun x y H Q => ∃ k v : Int, x = .ref a ∧ y = .int k ∧ atK kvs k = some v ∧ Q (.int v) H
theorem relO_some {o : Option Int} {r : Option Value} (h : RelO (o.map V.int) r) : r.isSome = o.isSome := by
  cases o <;> cases r <;> first | rfl | exact h.elim
theorem op_inID (D : IDict X.K a kvs) : OpR X (compareOp .In) (rInID kvs a fun b => b) := by
  intro pins s σ H x y v u Q I rx ry h
  obtain ⟨k, rfl, rfl, q⟩ := h
  obtain ⟨t, rfl⟩ := rx
  cases ry
  obtain ⟨f, hm, r⟩ := D.map I.kIn k
  refine wpAny_in_of (knd := intKind X.prog X.w) (intKind_is _ _ k t) D.low hm ?_
  rw [relO_some r]
  exact ⟨.bl (atK kvs k).isSome, H, I.tok _, rfl, q⟩
theorem op_notInID (D : IDict X.K a kvs) : OpR X (compareOp .NotIn) (rInID kvs a fun b => !b) := by
  intro pins s σ H x y v u Q I rx ry h
  obtain ⟨k, rfl, rfl, q⟩ := h
  obtain ⟨t, rfl⟩ := rx
  cases ry
  obtain ⟨f, hm, r⟩ := D.map I.kIn k
  refine wpAny_notIn_of (knd := intKind X.prog X.w) (intKind_is _ _ k t) D.low hm ?_
  rw [relO_some r]
  exact ⟨.bl (!(atK kvs k).isSome), H, I.tok _, rfl, q⟩
theorem op_ixID (D : IDict X.K a kvs) : OpR X getItem (rIxID kvs a) := by
  intro pins s σ H x y v u Q I rx ry h
  obtain ⟨k, z, rfl, rfl, e, q⟩ := h
  obtain ⟨t, rfl⟩ := ry
  cases rx
  obtain ⟨f, hm, r⟩ := D.map I.kIn k
  rw [e] at r
  cases hf : f k with
  | none => rw [hf] at r; exact r.elim
  | some w' =>
    rw [hf] at r
    exact wpAny_getItem_of (knd := intKind X.prog X.w) (intKind_is _ _ k t) hm hf ⟨.int z, H, I.tok _, r, q⟩
theorem idict_type (D : IDict X.K a kvs) {pins : List (Addr × Obj)} {σ : L2.St} {H : Hp} {s : Shared} (I : Inv X pins σ H s) : s.TypeIs (.ref a) "dict" := by
  obtain ⟨es, n, e, _⟩ := D.at_
  exact ⟨_, I.kIn _ _ e, rfl⟩
theorem pe_ixID {o i : Expr} {td ty : TE} {pos : Pos} (D : IDict X.K a kvs) (ho : PE X o td) (hi : PE X i ty) (hs : NoSl i) : PE X (.Subscript o i pos) (tOp (rIxID kvs a) td ty) := by
  refine ⟨fun pins s σ H Q I h => ?_⟩
  refine subD_of PySem.F.slot_dict_getitem.lookup hs (thn (ho.run pins s σ H _ I h) fun u s1 ⟨x, H1, I1, rx, q1⟩ => thn (hi.run pins s1 σ H1 _ I1 q1) fun iv s2 ⟨y, H2, I2, ry, q2⟩ => ?_)
  have q3 := q2
  obtain ⟨k, z, rfl, _⟩ := q3
  obtain rfl : u = Value.ref a := rx
  exact ⟨idict_type D I2, op_ixID D pins s2 σ H2 (.ref a) y (.ref a) iv Q I2 rfl ry q2⟩
/-! ### sizes of what is written -/
end
end Px

namespace Px
open PySem PySem.Spec PyProof.Rows L2
open PySem.Builtin PySem.Builtin.Str in
/-- x filled up on the right by c -/
def fillR (x : Str) (i : Int) (c : Nat) : Str := if i ≤ x.length then x else padded x 0 (i.toNat - x.length) c
section
open PySem.Builtin PySem.Builtin.Str
theorem gives_ljust3 (x : Str) (i : Int) (t u v : Tok) (c : Nat) (hr : (decide (i < -(2 ^ 63 : Int)) || decide (i ≥ 2 ^ 63)) = false) (hl : tooLong i.toNat = false) :
    Gives («str.ljust» ⟨[.str x t, .int i u, .str ⟨#[c]⟩ v], []⟩) (if i ≤ x.length then .val (.str x t) else .str (padded x 0 (i.toNat - x.length) c)) := by
  show Gives (do
    let w ← asSsize "str.ljust" (.int i u)
    if w ≤ x.length then (do rule "str.ljust.long-enough"; ret (.str x t)) else if tooLong w.toNat = true then unsupported "str.ljust:memory" else retStr (padded x 0 (w.toNat - x.length) c)) _
  rw [asSsize_int _ _ _ hr]
  show Gives (if i ≤ x.length then (do rule "str.ljust.long-enough"; ret (.str x t)) else if tooLong i.toNat = true then unsupported "str.ljust:memory" else retStr (padded x 0 (i.toNat - x.length) c)) _
  rw [hl]
  by_cases h : i ≤ (x.length : Int)
  · rw [if_pos h, if_pos h]
    exact .rule (.of_eq rfl)
  · rw [if_neg h, if_neg h]
    exact .of_eq rfl
end
def rLjust : V → List V → Hp → VK → Prop := fun x xs H Q => ∃ (a : Str) (i : Int) (c : Nat), x = .str a ∧ xs = [.int i, .str ⟨#[c]⟩] ∧ PadOk i = true ∧ Q (.str (fillR a i c)) H
theorem mt_ljustC {X : Cx} : MtR X "str.ljust" rLjust := by
  intro pins s σ H x xs v us Q I rx rs h
  obtain ⟨a, i, c, rfl, rfl, hp, h⟩ := h
  obtain ⟨t, rfl⟩ := rx
  obtain ⟨u1, u2, rfl, r1, r2⟩ := vals2 rs
  obtain ⟨t1, rfl⟩ := r1
  obtain ⟨t2, rfl⟩ := r2
  exact call_gives F.slot_str_ljust (typeIs_str _ _ _) F.entry_str_ljust (F.args_str_ljust_3 _ _ _) (gives_ljust3 a i t t1 t2 c (PadOk.parts hp).1 (PadOk.parts hp).2)
    (post_val_or_made (fits_padR c (PadOk.parts hp).2) fun t' k => ⟨.str (fillR a i c), H, I.tok k, ⟨t', rfl⟩, h⟩)
abbrev rLower : V → List V → Hp → VK → Prop := fun x xs H Q => ∃ a, x = .str a ∧ xs = [] ∧ a.length ≤ 5592405 ∧ Q (.str (Txt.lower a)) H
abbrev rSplit : V → List V → Hp → VK → Prop := fun x xs H Q => ∃ a b, x = .str a ∧ xs = [.str b] ∧ (b.length == 0) = false ∧ a.length + 2 ≤ sizeLine ∧ rNewStrs (Txt.split a b) H Q
end Px

namespace Px
open PySem PySem.Spec PyProof.Rows L2
/-! ### steps for the readings of classes, kinds, formats -/
/-- int(x) of an int or a bool -/
abbrev rInt1 : List V → Hp → VK → Prop := fun xs H Q => (∃ i, xs = [.int i] ∧ Q (.int i) H) ∨ ∃ k : Bool, xs = [.bl k] ∧ Q (.int (if k then 1 else 0)) H
section
variable {K : PySem.W.Frag} {σ : S} {H : Hp} {Q : VK} {D : Ends} {ta tb te : TE} {tr tk : TA} {E : XK} {i j : Int} {f : Str} {C : Addr} {sp : Sp}
theorem r_fld (h : ta σ H fun x H1 => ∃ a C dx fs v, x = .ref a ∧ H1 a = some (.ins C dx fs) ∧ Cls K C ∧ NoAttr K C f ∧ fs.lookup f = some v ∧ Q v H1) : tFld K ta f σ H Q := h
theorem r_sfld {tv : TE} (h : tv σ H fun y H1 => ta σ H1 fun x H2 => ∃ a C dx fs, x = .ref a ∧ H2 a = some (.ins C dx fs) ∧ Cls K C ∧ NoAttr K C f ∧ fs.length < 1000 ∧ D.nx σ (upd H2 a (.ins C dx (putF f y fs)))) : sFld K ta tv f D σ H := h
theorem r_cval (h : ta σ H fun x H1 => ∃ C mc v u, x = .ref C ∧ ClX.CRead K C mc ∧ ClX.CVal K C mc f v u ∧ Q v H1) : ClX.tCVal K ta f σ H Q := h
theorem r_meth {m : Str} {dvs : List V} (h : ta σ H fun x H1 => ∃ a dx fs, x = .ref a ∧ H1 a = some (.ins C dx fs) ∧ fs.lookup m = none ∧ tr σ H1 fun vs H2 => sp (x :: (vs ++ dvs)) H2 Q E) : tMeth C m sp dvs E ta tr σ H Q := h
theorem r_makeK {n m : Nat} {gV : List V → List V → List V} (h : tr σ H fun vs H1 => tk σ H1 fun zs H2 => vs.length = n ∧ zs.length = m ∧ ∀ x dx, H2 x = none → H2 dx = none → dx ≠ x →
    sp (gV (.ref x :: vs) zs) (upd (upd H2 dx (.own x)) x (.ins C dx [])) (fun v H3 => v = .non ∧ Q (.ref x) H3) E) : tMakeK C n m sp gV E tr tk σ H Q := h
theorem r_fmtB {g : Nat → Str} (h : te σ H fun x H1 => ∃ n : Nat, x = .int n ∧ n < 256 ∧ Q (.str (g n)) H1) : tFmtB g te σ H Q := h
theorem r_dist {k : Nat} (h0 : k < σ.length) (h : te σ H fun v H1 => ∃ z : Str, v = .str z ∧ z.length ≤ 1000 ∧ ∀ H2, Same H1 H2 → Q (.int ((uniq z.cps.toList).length : Nat)) H2) : tDist k te σ H Q := ⟨h0, h⟩
theorem r_m0 {r : V → List V → Hp → VK → Prop} (h : ta σ H fun x H1 => (∃ a, x = .str a) ∧ r x [] H1 Q) : tM0 r ta σ H Q := h
theorem r_dget (h : ta σ H fun x H1 => tb σ H1 fun y H2 => ∃ a v, x = .ref a ∧ DGet H2 a y (some v) ∧ Q v H2) : tDGet ta tb σ H Q := h
theorem r_isiB {x : V} {t c : String} {b : Bool} (h1 : TyOf K H x (.type t)) (h2 : kitB t c = some b) (h : Q (.bl b) H) : rIsi K [x, .ty c] H Q := r_isi (.ty c) (.base h1) (kit_ty h2) h
theorem r_isiI (h : Q (.bl true) H) : rIsi K [.int i, .ty "int"] H Q := r_isiB (.int i) (by decide +kernel) h
theorem r_isiIB (h : Q (.bl false) H) : rIsi K [.int i, .ty "bool"] H Q := r_isiB (.int i) (by decide +kernel) h
theorem r_isiS {z : Str} (h : Q (.bl true) H) : rIsi K [.str z, .ty "str"] H Q := r_isiB (.str z) (by decide +kernel) h
theorem r_isiBB {b : Bool} (h : Q (.bl true) H) : rIsi K [.bl b, .ty "bool"] H Q := r_isiB (.bl b) (by decide +kernel) h
theorem r_isiTL {p t : Addr} {xs : List V} (h1 : H p = some (.lst xs)) (h2 : H t = some (.tup [.ty "list", .ty "tuple"])) (h : Q (.bl true) H) : rIsiT K [.ref p, .ref t] H Q :=
  ⟨.ref p, t, _, .type "list", _, true, rfl, h2, .cons (.ty "list") (.cons (.ty "tuple") .nil), .base (.lst h1), kitAny_cons (b := true) (kit_ty (by decide +kernel)) (fun z => by cases z) (fun _ => rfl), h⟩
theorem r_isiTT {p t : Addr} {xs : List V} (h1 : H p = some (.tup xs)) (h2 : H t = some (.tup [.ty "list", .ty "tuple"])) (h : Q (.bl true) H) : rIsiT K [.ref p, .ref t] H Q :=
  ⟨.ref p, t, _, .type "tuple", _, true, rfl, h2, .cons (.ty "list") (.cons (.ty "tuple") .nil), .base (.tup h1), kitAny_cons (b := false) (kit_ty (by decide +kernel))
    (fun _ => kitAny_cons (b := true) (kit_ty (by decide +kernel)) (fun z => by cases z) (fun _ => rfl)) (fun z => by cases z), h⟩
theorem r_inID {kvs : List (Int × Int)} {a : Addr} {g : Bool → Bool} (h : Q (.bl (g (atK kvs i).isSome)) H) : rInID kvs a g (.int i) (.ref a) H Q := ⟨i, rfl, rfl, h⟩
theorem r_ixID {kvs : List (Int × Int)} {a : Addr} (h1 : atK kvs i = some j) (h : Q (.int j) H) : rIxID kvs a (.ref a) (.int i) H Q := ⟨i, j, rfl, rfl, h1, h⟩
theorem r_intBin {x : Str} (h1 : x.cps.toList ≠ []) (h2 : x.length ≤ 640) (h3 : ∀ c ∈ x.cps.toList, Bn.IsBit c) (h : Q (.int ((Bn.binNum x.cps.toList : Nat) : Int)) H) : rIntBin [.str x, .int 2] H Q := ⟨x, rfl, h1, h2, h3, h⟩
theorem r_all {a : Addr} {bs : List Bool} (h1 : SqL K H a (bs.map V.bl)) (h : Q (.bl (bs.all id)) H) : rAll K [.ref a] H Q := ⟨a, bs, rfl, h1, h⟩
theorem r_int1I (h : Q (.int i) H) : rInt1 [.int i] H Q := .inl ⟨i, rfl, h⟩
theorem r_int1B {k : Bool} (h : Q (.int (if k then 1 else 0)) H) : rInt1 [.bl k] H Q := .inr ⟨k, rfl, h⟩
theorem r_inS {a b : Str} (h : rInS (.str a) (.str b) H Q) : rInU K (.str a) (.str b) H Q := .inl h
theorem r_enumL {R : It → Hp → Prop} (h : tr σ H fun vs H1 => ∃ a xs, vs = [.ref a] ∧ SqL K H1 a xs ∧ R (Ite K a) H1) : iEnumU K tr σ H R := .inl h
theorem r_enumS {R : It → Hp → Prop} (h : tr σ H fun vs H1 => ∃ z : Str, vs = [.str z] ∧ R (ItP z.cps.size (fun i => some (.int (i : Nat))) (sgn z)) H1) : iEnumU K tr σ H R := .inr h
theorem r_seqC {t u : TS} (Mid : S → Hp → Prop) (h2 : ∀ σ G, Mid σ G → u D σ G) (h1 : ∀ N : S → Hp → Prop, (∀ σ G, Mid σ G → N σ G) → t { D with nx := N } σ H) : tSeq t u D σ H := h1 (u D) h2
theorem r_gtI (h : Q (.bl (decide (j < i))) H) : rGtI (.int i) (.int j) H Q := r_I0 h
end
end Px

namespace Px
open PySem PySem.Spec PyProof.Rows L2
/-! ### lists of texts compared -/
def StrsLo (l : List Str) : Prop := ∀ z ∈ l, ∀ c ∈ z.cps.toList, c < 0x110000
def dS (l : List Str) : PyData := .list (l.map PyData.str)
theorem dpAll_strs {K : PySem.W.Frag} {H : Hp} : ∀ xs : List Str, DpAll K H (xs.map V.str) (xs.map PyData.str)
  | [] => .nil
  | x :: xs => .cons (.str _) (dpAll_strs xs)
theorem dp_strs {K : PySem.W.Frag} {H : Hp} {a : Addr} {l : List Str} (h : SqL K H a (l.map V.str)) : Dp K H (.ref a) (dS l) := .lst h (dpAll_strs l)
theorem canLay_strs : ∀ {xs : List Str}, StrsLo xs → PyData.canLayAll0 (xs.map PyData.str) = true
  | [], _ => by simp only [List.map_nil, PyData.canLayAll0]
  | x :: xs, h => by
    simp only [List.map_cons, PyData.canLayAll0, PyData.canLay0, canLay_strs fun z hz => h z (List.mem_cons_of_mem _ hz), Bool.and_true]
    exact strOk_of (h x (List.mem_cons_self ..))
theorem depth_strs : ∀ xs : List Str, PyData.depthAll (xs.map PyData.str) = 0
  | [] => by simp only [List.map_nil, PyData.depthAll]
  | x :: xs => by simp only [List.map_cons, PyData.depthAll, PyData.depth, depth_strs xs, Nat.max_self]
theorem dS_shaped {xs : List Str} (h : StrsLo xs) : SeqAt.shaped (dS xs) = true := by
  unfold SeqAt.shaped dS
  simp only [PyData.canLay0, PyData.depth, canLay_strs h, depth_strs]
  decide
theorem eqv_strs : ∀ xs ys : List Str, PyData.eqvAll (xs.map PyData.str) (ys.map PyData.str) = decide (xs = ys)
  | [], [] => by simp only [List.map_nil, PyData.eqvAll]; rfl
  | [], y :: ys => by simp only [List.map_nil, List.map_cons, PyData.eqvAll]; simp
  | x :: xs, [] => by simp only [List.map_nil, List.map_cons, PyData.eqvAll]; simp
  | x :: xs, y :: ys => by
    simp only [List.map_cons, PyData.eqvAll, PyData.eqv, eqv_strs xs ys]
    by_cases h : x = y <;> simp [h]
theorem dS_eqv (xs ys : List Str) : PyData.eqv (dS xs) (dS ys) = decide (xs = ys) := by
  unfold dS
  simp only [PyData.eqv, eqv_strs]
section
variable {K : PySem.W.Frag} {H : Hp} {Q : VK} {a b : Addr} {xs ys : List Str}
theorem r_eqUT (h1 : SqL K H a (xs.map V.str)) (h2 : SqL K H b (ys.map V.str)) (l1 : StrsLo xs) (l2 : StrsLo ys) (h : Q (.bl (decide (xs = ys))) H) : rEqU K (.ref a) (.ref b) H Q :=
  r_eqUD (dp_strs h1) (dp_strs h2) (dS_shaped l1) (dS_shaped l2) (by rw [dS_eqv]; exact h)
theorem r_neUT (h1 : SqL K H a (xs.map V.str)) (h2 : SqL K H b (ys.map V.str)) (l1 : StrsLo xs) (l2 : StrsLo ys) (h : Q (.bl (!decide (xs = ys))) H) : rNeU K (.ref a) (.ref b) H Q :=
  r_neUD (dp_strs h1) (dp_strs h2) (dS_shaped l1) (dS_shaped l2) (by rw [dS_eqv]; exact h)
end
end Px

namespace Px
open PySem PySem.Spec PyProof.Rows L2
/-! ### len(o), x in o by the class's own defs -/
section
variable {prog : Program} {w : World} {A : Around} {E : Value → Shared → Prop} {s : Shared} {K : PySem.W.Frag} {x C f : Addr} {ox : Obj} {od : Option Obj}
theorem contains_own {b : Value} {Q : Bool → Shared → Prop} (X : K.In s.heap) (I : PySem.W.InstAt s.heap x ox C od) (hs : PySem.W.findIn K (.ref C) "__contains__" = some (some (.ref f))) (hf : PySem.W.isFn K (.ref f) = true)
    (h : wpAny (model prog w) A (call (.ref f) [.ref x, b]) (fun v s' => ∃ r, v = .bool r ∧ Q r s') E s) : wpAny (model prog w) A (contains (.ref x) b) Q E s := by
  unfold contains
  refine wpAny_holding ?_
  dsimp only [stdlibNamesSay?]
  refine wpAny_bind (wpAny_bind (I.type.here ((PySem.W.looks_findIn X hs).here ?_)))
  show wpAny _ _ (if (some (Value.ref f) == some Value.none) = true then _ else _) _ _ _
  rw [if_neg (by intro z; cases z)]
  unfold callSpecialUnlessNone?
  refine wpAny_bind (wpAny_bind (wpAny_bind (I.type.here ((PySem.W.looks_findIn X hs).here ?_))))
  refine wpAny_holding (wpAny_bind ((PySem.W.bind_fn X _ (beq_iff_eq.mp hf)).here ?_))
  show wpAny _ _ (if (Value.ref f == Value.none) = true then _ else _) _ _ _
  rw [if_neg (by intro z; cases z)]
  refine wpAny_bind (wpAny_mono h (fun v s' hv => ?_) fun _ _ e => e)
  obtain ⟨r, rfl, q⟩ := hv
  exact wpAny_pure (wpAny_truthy_bool q)
end
/-- len(o) -/
def rLenOwn (C : Addr) (sp : Sp) (E : XK) : List V → Hp → VK → Prop := fun xs H Q => ∃ a dx fs, xs = [.ref a] ∧ H a = some (.ins C dx fs) ∧ sp [.ref a] H (fun v H' => ∃ n : Nat, v = .int n ∧ n < 1000000 ∧ Q (.int n) H') E
/-- x in o -/
def rInOwn (C : Addr) (sp : Sp) (E : XK) (g : Bool → Bool) : R2 := fun x y H Q => ∃ a dx fs, y = .ref a ∧ H a = some (.ins C dx fs) ∧ sp [.ref a, x] H (fun v H' => ∃ r, v = .bl r ∧ Q (.bl (g r)) H') E
section
variable {X : Cx} {CX : CXT} {k : Nat} {C f : Addr} {fd : FuncData} {ps : List Str} {sp : Sp} {E : XK}
theorem call_lenOwn (F : FnOk X.prog X.w X.K X.mg X.base CX k f fd ps sp) (hr : Room (k + 1) X.A) (D : Meth X.K C "__len__" f) (hb : Binds X.K fd ps []) (hx : Passes CX X E) : CallR X (.builtin "len") (rLenOwn C sp E) := by
  intro pins s σ H xs us Q I r h
  obtain ⟨a, dx, fs, rfl, ha, q⟩ := h
  obtain ⟨u, rfl, ru⟩ := vals1 r
  obtain rfl : u = Value.ref a := ru
  obtain ⟨mA, J, _⟩ := ins_get I.hok ha
  obtain ⟨od, J, _⟩ := J.look
  obtain ⟨m, hF⟩ := I.fr
  refine PySem.W.len_K hF I.ok.mod.kin J D.at_ D.fn ?_
  have hl := F.len _ _ _ _ q
  have r2 : Vals [V.ref a] [Value.ref a] := .cons rfl .nil
  refine wpAny_call (codeAny_mono (F.run X.A.in1 X.stack s H ⟨[.ref a], []⟩ [.ref a] [.ref a] _ E hr.in1 I.env0.in1 (by
    have := hb s [.ref a] I.kIn (by simpa using hl)
    simpa using this) r2 q) fun r s' hq => ?_)
  cases r with
  | error e => exact hx pins σ H s e s' I hq
  | ok fl =>
    cases fl with
    | ret w =>
      obtain ⟨z, H', I', rz, n, ez, hn, q'⟩ := I.after hq
      subst ez
      obtain ⟨t, rfl⟩ := rz
      exact ⟨⟨by omega, by omega⟩, .int n, H', I'.tok _, ⟨_, rfl⟩, q'⟩
    | next => exact False.elim hq
    | brk => exact False.elim hq
    | cont => exact False.elim hq
theorem contains_ok {pins : List (Addr × Obj)} {s : Shared} {σ : S} {H : Hp} {x : V} {v : Value} {a dx : Addr} {fs : List (Str × V)} {Q : Bool → Hp → Prop} (F : FnOk X.prog X.w X.K X.mg X.base CX k f fd ps sp) (hr : Room k X.A) (D : Meth X.K C "__contains__" f) (hb : Binds X.K fd ps []) (hx : Passes CX X E)
    (I : Inv X pins σ H s) (rx : RelV x v) (ha : H a = some (.ins C dx fs)) (q : sp [.ref a, x] H (fun v H' => ∃ r, v = .bl r ∧ Q r H') E) :
    wpAny (model X.prog X.w) X.A (contains (.ref a) v) (fun r s' => ∃ H', Inv X pins σ H' s' ∧ Q r H') X.xe s := by
  obtain ⟨mA, J, _⟩ := ins_get I.hok ha
  obtain ⟨od, J, _⟩ := J.look
  refine contains_own I.kIn J D.at_ D.fn ?_
  have hl := F.len _ _ _ _ q
  have r2 : Vals [V.ref a, x] [Value.ref a, v] := .cons rfl (.cons rx .nil)
  refine wpAny_call (codeAny_mono (F.run X.A X.stack s H ⟨[.ref a, v], []⟩ [.ref a, v] [.ref a, x] _ E hr I.env0 (by
    have := hb s [.ref a, v] I.kIn (by simpa using hl)
    simpa using this) r2 q) fun r s' hq => ?_)
  cases r with
  | error e => exact hx pins σ H s e s' I hq
  | ok fl =>
    cases fl with
    | ret w =>
      obtain ⟨z, H', I', rz, b, ez, q'⟩ := I.after hq
      subst ez
      cases rz
      exact ⟨b, rfl, H', I', q'⟩
    | next => exact False.elim hq
    | brk => exact False.elim hq
    | cont => exact False.elim hq
theorem op_inOwn (F : FnOk X.prog X.w X.K X.mg X.base CX k f fd ps sp) (hr : Room k X.A) (D : Meth X.K C "__contains__" f) (hb : Binds X.K fd ps []) (hx : Passes CX X E) : OpR X (compareOp .In) (rInOwn C sp E fun b => b) := by
  intro pins s σ H x y v u Q I rx ry h
  obtain ⟨a, dx, fs, rfl, ha, q⟩ := h
  cases (show u = Value.ref a from ry)
  show wpAny _ _ (contains (.ref a) v >>= fun b => pure (Value.bool b)) _ _ _
  refine wpAny_bind (wpAny_mono (contains_ok F hr D hb hx I rx ha (Q := fun r H' => Q (.bl r) H') q) (fun r s' z => ?_) fun _ _ e => e)
  obtain ⟨H', I', q'⟩ := z
  exact wpAny_pure ⟨.bl r, H', I', rfl, q'⟩
end
section
variable {H : Hp} {Q : VK} {x : V} {C a dx : Addr} {fs : List (Str × V)} {sp : Sp} {E : XK} {g : Bool → Bool}
theorem r_lenOwn (ha : H a = some (.ins C dx fs)) (h : sp [.ref a] H (fun v H' => ∃ n : Nat, v = .int n ∧ n < 1000000 ∧ Q (.int n) H') E) : rLenOwn C sp E [.ref a] H Q := ⟨a, dx, fs, rfl, ha, h⟩
theorem r_inOwn (ha : H a = some (.ins C dx fs)) (h : sp [.ref a, x] H (fun v H' => ∃ r, v = .bl r ∧ Q (.bl (g r)) H') E) : rInOwn C sp E g x (.ref a) H Q := ⟨a, dx, fs, rfl, ha, h⟩
end
end Px

/-! a def's body begins with a token given out (its first parameter's name); str.replace of written texts in such a body -/
namespace Px
open PySem PySem.Spec PyProof.Rows L2
section
variable {M : Model} {A : Around} {E : Value → Shared → Prop} {s s₀ : Shared} {env : Env} {m cm : Str → Option Value}
theorem stLC_t {n : Str} {v : Value} {Q : Unit → Shared → Prop} (x : InCallC s₀ env.locals m env.cells cm s) (hk : env.scope.kind = .function) (hl : env.kindOf n = some .local)
    (h : ∀ s', InCallC s₀ env.locals (fun y => if y = n then some v else m y) env.cells cm s' → 1 ≤ s'.toks → Q () s') : wpAny M A (storeName env n v) Q E s := by
  refine wpAny_storeName_local hl x.toInCall.ns (fun h' hn' hs' => h _ ⟨⟨?_, hn', fun b o e => ?_, x.toInCall.fresh⟩, fun k c hc => ?_, x.apart, x.above⟩ (Nat.succ_le_succ (Nat.zero_le _))) (by rw [hk]; rfl)
  · obtain ⟨h₁, tk, rfl⟩ := x.toInCall.same
    exact ⟨h', _, rfl⟩
  · exact hs'.extBut b o (Nat.ne_of_lt (Nat.lt_of_lt_of_le (Heap.lt_size e) x.toInCall.fresh)) (x.toInCall.keep b o e)
  · exact (x.cell k c hc).sameBut hs' (Nat.ne_of_gt (x.above k c (mem_of_lookup hc)))
theorem bindParams_t (f : Str × Value → PUnit → Sem (ForInStep PUnit)) (hf : ∀ n v u, f (n, v) u = (do storeName env n v; pure (.yield ⟨⟩))) (hk : env.scope.kind = .function)
    (n : Str) (v : Value) (r : List (Str × Value)) {Q : PUnit → Shared → Prop} (x : InCallC s₀ env.locals m env.cells cm s) (hl : env.kindOf n = some .local)
    (hkind : ∀ x ∈ r, env.kindOf x.1 = some .local ∨ (env.kindOf x.1 = some .cell ∧ (env.cells.lookup x.1).isSome = true))
    (h : ∀ s', InCallC s₀ env.locals (bindL env.kindOf ((n, v) :: r) m) env.cells (bindC env.kindOf ((n, v) :: r) cm) s' → 1 ≤ s'.toks → Q ⟨⟩ s') : wpAny M A (forIn ((n, v) :: r) ⟨⟩ f) Q E s := by
  rw [List.forIn_cons, hf]
  refine wpAny_bind (wpAny_bind (stLC_t x hk hl fun s' x' h1 => wpAny_pure ?_))
  refine wpAny_mono (wpAny_toks_of h1 (wpAny_bindParams f hf hk r _ _ s' (fun _ s'' => InCallC s₀ env.locals (bindL env.kindOf ((n, v) :: r) m) env.cells (bindC env.kindOf ((n, v) :: r) cm) s'') x' hkind fun s'' x'' => ?_)) (fun _ s'' z => h s'' z.2 z.1) fun _ _ z => z.2
  unfold bindL bindC; rw [if_pos hl, if_pos hl]; exact x''
theorem newEnv_t {scope : Scope} {globals : Addr} {n : Str} {v : Value} {r : List (Str × Value)} {qual : Str} {func : Option Addr} {code : Value} {builtins : Addr} {Q : Env → Shared → Prop}
    (hk : scope.kind = .function) (hl : scope.names.lookup n = some .local)
    (hkind : ∀ x ∈ r, scope.names.lookup x.1 = some .local ∨ (scope.names.lookup x.1 = some .cell ∧ ((cellsFrom (s.heap.objs.size + 1) scope.names []).lookup x.1).isSome = true))
    (hQ : ∀ env, env = newEnv scope s.heap.objs.size globals (cellsFrom (s.heap.objs.size + 1) scope.names []) qual func code none builtins →
      ∀ s', InCallC s env.locals (bindL env.kindOf ((n, v) :: r) fun _ => none) env.cells (bindC env.kindOf ((n, v) :: r) fun _ => none) s' → 1 ≤ s'.toks → Q env s') :
    wpAny M A (newFunctionEnv scope globals [] ((n, v) :: r) qual func code none builtins) Q E s := by
  simp only [newFunctionEnv, Option.isSome_none, Bool.false_eq_true, if_false]
  refine wpAny_bind (wpAny_alloc ?_)
  refine wpAny_bind (wpAny_layCells _ (fun name kind cells => by cases hkc : kind == NameKind.cell <;> simp [hkc]) _ _ _ _ ?_)
  have ok := cellsFrom_ok scope.names (s.heap.push { cls := .type "frame", data := .dict #[] }) (s.heap.objs.size + 1) [] ⟨fun _ _ hm => (nomatch hm), List.Pairwise.nil⟩ (by rw [Heap.size_push]; exact Nat.le_refl _)
  rw [Heap.size_push] at ok
  rw [show ({ s with heap := s.heap.push { cls := .type "frame", data := .dict #[] } } : Shared).heap.objs.size = s.heap.objs.size + 1 from Heap.size_push ..]
  refine wpAny_bind (bindParams_t (s₀ := s) (env := newEnv scope s.heap.objs.size globals (cellsFrom (s.heap.objs.size + 1) scope.names []) qual func code none builtins)
    _ (fun _ _ _ => rfl) hk n v r
    ⟨⟨⟨_, _, rfl⟩, (Heap.Ns.new s.heap (.type "frame")).keeps (pushCells_keeps _ _), fun b o e => pushCells_keeps _ _ b o (Heap.get?_push_of_some _ e), Nat.le_refl _⟩,
      fun n c hc => (ok.empty n c (mem_of_lookup hc)).1, ok.apart, fun n c hm => (ok.empty n c hm).2⟩
    hl hkind fun s' x h1 => wpAny_pure (hQ _ rfl s' x h1))
end
theorem fn_ofG {CX : CXT} {P : Program} {w : World} {K : PySem.W.Frag} {mg : Str → Option Value} {base : Heap} {k : Nat} {f : Addr} {name qual : Str} {params : Arguments} {body : List Stmt} {scope : Scope} {dV kV doc pm cdv ct oc : Value} {an od : Option Addr}
    {osl : Array (Option Value)} {N ps : List Str} {p0 : Str} {sp : Sp} (lk : K.lookup f = some ⟨oc, od, .func (PySem.W.fnOf name qual params body scope dV kV doc pm an cdv ct), osl⟩) (hcd : PySem.W.codeIn K cdv qual = true) (Sc : FnScope N (p0 :: ps) scope)
    (h0 : scope.names.lookup p0 = some .local) (len : ∀ vs H Q E, sp vs H Q E → vs.length = (p0 :: ps).length)
    (hbody : ∀ (A : Around) (outer : List Env) (s : Shared) (H : Hp) (vs : List V) (Q : VK) (E : XK), Room k (A.deeper (envOfC qual scope s.heap.objs.size f cdv)) → sp vs H Q E →
      ∃ t, PSsT (cxOf CX P w K mg base N qual scope f cdv A outer s H E) body t ∧ t { nx := fun _ H' => Q .non H', rt := Q } (start N vs) H) :
    FnOk P w K mg base CX (k + 1) f (PySem.W.fnOf name qual params body scope dV kV doc pm an cdv ct) (p0 :: ps) sp := by
  refine ⟨len, fun A outer s H args us vs Q E hr e0 hb r hsp => ?_⟩
  have hl := len _ _ _ _ hsp
  have hul : us.length = (p0 :: ps).length := by rw [← r.length, hl]
  obtain ⟨u0, us', rfl⟩ := List.exists_cons_of_length_eq_add_one (n := ps.length) (by simpa using hul)
  have KX : K.In s.heap := e0.mod.kin.keeps fun b o e => (e0.bs b o e).1
  have lim : s.heap.NoLimit := e0.mod.nolimit.keeps fun b o e => (e0.bs b o e).1
  have hkind : ∀ y ∈ ps.zip us', scope.names.lookup y.1 = some .local ∨ (scope.names.lookup y.1 = some .cell ∧ ((cellsFrom (s.heap.objs.size + 1) scope.names []).lookup y.1).isSome = true) := fun ⟨n, v⟩ hy => by
    rcases Sc.par n (List.mem_cons_of_mem _ (List.of_mem_zip hy).1) with q | q
    · exact .inl q
    · exact .inr ⟨q, PySem.W.cellsFrom_some _ _ _ (.inl q)⟩
  refine codeAny_call_function hr.depth (KX _ _ lk) rfl Sc.co Sc.gen rfl (PySem.W.codeRec_of KX hcd) (hb _ _ _ _ ?_)
  rw [List.zip_cons_cons]
  refine newEnv_t Sc.kind h0 hkind fun env he s1 x hto => ?_
  subst he
  refine ⟨lim.keeps x.toInCall.keep, codeAny_func ?_⟩
  obtain ⟨t, ht, hq⟩ := hbody A outer s H vs Q E (hr.deeper _) hsp
  have I : Inv (cxOf CX P w K mg base N qual scope f cdv A outer s H E) [] (start N vs) H s1 := inv_start Sc hr.hd e0 hl r x
  refine wpAny_mono (ht [] s1 (start N vs) H _ hto I hq) (fun fl s' hs => ?_) fun e s' hs => hs
  have fin : ∀ {σ' : S} {H' : Hp} {v : V} {u : Value}, Inv (cxOf CX P w K mg base N qual scope f cdv A outer s H E) [] σ' H' s' → RelV v u → Q v H' → CE outer P w H s Q u s' :=
    fun {σ' H' v u} J rv q => ⟨v, H', J.os, J.bare, J.base, J.hok, rv, q⟩
  cases fl with
  | ret u =>
    obtain ⟨v, σ', H', J, rv, q⟩ := hs
    exact fin J rv q
  | next =>
    obtain ⟨σ', H', J, q⟩ := hs
    exact fin (v := V.non) (u := Value.none) J rfl q
  | brk =>
    obtain ⟨_, _, _, q⟩ := hs
    exact False.elim q
  | cont =>
    obtain ⟨_, _, _, q⟩ := hs
    exact False.elim q
theorem okT {CX : CXT} {P : Program} {w : World} {K : PySem.W.Frag} {mg : Str → Option Value} {base : Heap} {k : Nat} {x qual : Str} {params : Arguments} {body : List Stmt} {scope : Scope} {dvs : List V} {kws : List (Str × V)} {f : Addr} {fd : FuncData} {N ps : List Str} {p0 : Str} {sp : Sp}
    (F : FunD K x qual params body scope dvs kws f fd) (Sc : FnScope N (p0 :: ps) scope) (h0 : scope.names.lookup p0 = some .local) (len : ∀ vs H Q E, sp vs H Q E → vs.length = (p0 :: ps).length)
    (hbody : ∀ (cdv : Value) (A : Around) (outer : List Env) (s : Shared) (H : Hp) (vs : List V) (Q : VK) (E : XK), Room k (A.deeper (envOfC qual scope s.heap.objs.size f cdv)) → sp vs H Q E →
      ∃ t, PSsT (cxOf CX P w K mg base N qual scope f cdv A outer s H E) body t ∧ t { nx := fun _ H' => Q .non H', rt := Q } (start N vs) H) : FnOk P w K mg base CX (k + 1) f fd (p0 :: ps) sp := by
  obtain ⟨oc, od, dV, kV, doc, pm, an, cdv, ct, osl, rfl, lk, hcd, _, _⟩ := F.ex
  exact fn_ofG lk hcd Sc h0 len fun A outer s H vs Q E hr hsp => hbody cdv A outer s H vs Q E hr hsp
theorem psst_nox {X : Cx} {st : List Stmt} {t : TS} (h : PSsT X.nox st t) : PSsT X st t := fun pins s σ H D h0 I hw =>
  wpAny_mono (h pins s σ H D h0 (I.wish _) hw) (fun _ _ q => q.unwish) fun _ _ z => False.elim z
/-- x = e, e wants a token -/
theorem pst_set {X : Cx} {i : Nat} {x : Str} {e : Expr} {te : TE} {pos' pos : Pos} (hN : X.N.Nodup) (hi : X.N[i]? = some x) (hx : Loc X.env.scope x) (he : PET X e te) (hs : swapsWith e (some (.Name x pos')) pos.line X.env = pure false := by rfl) (hf : X.fn x = true ∨ X.env.scope.names.lookup x = some .local := by first | exact .inl rfl | exact .inr rfl) :
    PST X (.Assign [.Name x pos'] e pos) (tAsg te (gName i)) := by
  intro pins s σ H D h0 I h
  refine wpAny_Assign_Name (thn (he pins s σ H _ h0 I h) fun v s1 ⟨y, H1, I1, r1, q1⟩ => ?_) hs
  exact store_ok I1 hN hi hx r1 (fun s2 I2 => ⟨_, H1, I2, q1⟩) hf
/-- the tokens' own way: e.replace(y, z) as what PET asks -/
theorem r_repl {to : TE} {y z : Str} {σ : S} {H : Hp} {Q : VK} (h : to σ H fun v H1 => ∃ x, v = .str x ∧ x.length + (x.length + 1) * z.length ≤ 16777216 ∧ Q (.str (Txt.replace x y z)) H1) : CwR.tReplC to y z σ H Q := h
end Px

namespace Px
open PySem PySem.Spec PyProof.Rows L2
/-! ### text * number (a sign or none, a small number), text.index -/
def strRep (a : Str) (n : Nat) : Str := ⟨(List.replicate n a.cps.toList).flatten.toArray⟩
theorem rep_fold (x : Array Nat) : ∀ (n : Nat) (acc : Array Nat), (List.replicate n x).foldl (· ++ ·) acc = acc ++ (List.replicate n x.toList).flatten.toArray
  | 0, acc => by simp
  | n + 1, acc => by
    rw [List.replicate_succ, List.foldl_cons, rep_fold x n, List.replicate_succ, List.flatten_cons]
    apply Array.ext'
    simp
def rMulS : R2 := fun x y H Q => ∃ (a : Str) (n : Nat), x = .str a ∧ y = .int n ∧ a.length ≤ 1 ∧ n ≤ 1000 ∧ Q (.str (strRep a n)) H
theorem op_mulS {X : Cx} : OpR X (binaryOp .Mult) rMulS := by
  intro pins s σ H x y v u Q I rx ry h
  obtain ⟨a, n, rfl, rfl, ha, hn, q⟩ := h
  obtain ⟨t, rfl⟩ := rx
  obtain ⟨t2, rfl⟩ := ry
  have dv : 1000 ≤ (2 ^ 63 - 1 : Int) / (1000 : Int) := by decide
  refine PySem.P.mul_str (by
    rw [decide_eq_false (by omega), decide_eq_false (by omega)]; rfl) (fun h1 _ z => ?_) (fun h1 _ => ?_) ?_
  · have h3 : (1 : Int) ≤ (2 ^ 63 - 1) / (n : Int) := (Int.le_ediv_iff_mul_le (by omega)).mpr (by omega)
    omega
  · unfold Builtin.Str.tooLong
    rw [Int.toNat_natCast]
    refine decide_eq_false ?_
    have : a.length * n ≤ 1 * 1000 := Nat.mul_le_mul ha hn
    have := sizeLine_eq
    omega
  by_cases h1 : (n : Int) < 1
  · rw [if_pos h1]
    have e : n = 0 := by omega
    subst e
    exact ⟨by decide, ⟨.str (strRep a 0), H, I.tok _, ⟨_, rfl⟩, q⟩⟩
  · rw [if_neg h1]
    by_cases h2 : ((n : Int) == 1 || a.length == 0) = true
    · rw [if_pos h2]
      have e : strRep a n = a := by
        unfold strRep
        rcases Bool.or_eq_true_iff.mp h2 with z | z
        · have z := beq_iff_eq.mp z
          have : n = 1 := by omega
          subst this
          simp
        · have z : a.cps.size = 0 := beq_iff_eq.mp z
          have : a.cps = #[] := Array.eq_empty_of_size_eq_zero z
          have e2 : a = ⟨#[]⟩ := by
            show a = _
            rw [← this]
          rw [e2]
          simp
      rw [e] at q
      exact ⟨.str a, H, I, ⟨_, rfl⟩, q⟩
    · rw [if_neg h2]
      have e : (⟨(List.replicate (Int.toNat n) a.cps).foldl (· ++ ·) #[]⟩ : Str) = strRep a n := by
        rw [rep_fold, Int.toNat_natCast]
        unfold strRep
        simp
      rw [e]
      refine ⟨?_, ⟨.str (strRep a n), H, I.tok _, ⟨_, rfl⟩, q⟩⟩
      unfold strRep
      show (List.replicate n a.cps.toList).flatten.toArray.size ≤ sizeLine
      have : a.cps.toList.length ≤ 1 := by rw [Array.length_toList]; exact ha
      simp only [List.size_toArray, List.length_flatten, List.map_replicate, List.sum_replicate_nat]
      have h5 : n * a.cps.toList.length ≤ 1000 * 1 := Nat.mul_le_mul hn this
      rw [sizeLine_eq]
      omega
abbrev rSIdx : V → List V → Hp → VK → Prop := fun x xs H Q => ∃ a b i rest, x = .str a ∧ xs = [.str b] ∧ Builtin.Str.occurrences a b 0 a.length 1 = i :: rest ∧ Q (.int (i : Nat)) H
end Px

namespace Px
open PySem PySem.Spec PyProof.Rows L2
/-! ### readings of raise, try; values of any kind -/
def tRaiseE (E : XK) (t : L2.St → Hp → XK → Prop) : TS := fun _ σ H => t σ H fun cls d H' => E cls d H'
def tTryAs (K : PySem.W.Frag) (c : Value) (i : Nat) (ts : Addr → Value → Option Addr → TS) (Wout : WX) (tb : WX → TS) : TS := fun D σ H => tb (wAs K c i ts Wout D) D σ H
def tTryOnly (K : PySem.W.Frag) (c : Value) (ts : Addr → Value → Option Addr → TS) (Wout : WX) (tb : WX → TS) : TS := fun D σ H => tb (wOnly K c ts Wout D) D σ H
def rTupOf (K : PySem.W.Frag) : List V → Hp → VK → Prop := fun xs H Q => ∃ p ys, xs = [.ref p] ∧ ((SqL K H p ys ∧ ∀ l, H l = none → Q (.ref l) (upd H l (.tup ys))) ∨ (SqT K H p ys ∧ Q (.ref p) H))
section
variable {K : PySem.W.Frag} {H : Hp} {σ : S} {D : Ends} {Q : VK} {E : XK}
theorem r_raise {t : L2.St → Hp → XK → Prop} (h : t σ H fun cls d H' => E cls d H') : tRaiseE E t D σ H := h
theorem r_mkE {C : Addr} {fld : Str} {ta : TA} {E : XK} (h : ta σ H fun vs H1 => ∃ v, vs = [v] ∧ ∀ d, H1 d = none → E (.ref C) (some d) (upd H1 d (.xd [(fld, v)]))) : tMkE C fld ta σ H E := h
theorem r_callS {sp : Sp} {W : L2.St → XK} {ta : TA} (h : ta σ H fun vs H1 => sp vs H1 Q (W σ)) : tCallS sp W ta σ H Q := h
theorem r_tryAs {c : Value} {i : Nat} {ts : Addr → Value → Option Addr → TS} {Wout : WX} {tb : WX → TS} (h : tb (wAs K c i ts Wout D) D σ H) : tTryAs K c i ts Wout tb D σ H := h
theorem r_tryOnly {c : Value} {ts : Addr → Value → Option Addr → TS} {Wout : WX} {tb : WX → TS} (h : tb (wOnly K c ts Wout D) D σ H) : tTryOnly K c ts Wout tb D σ H := h
theorem r_wAs {C : Addr} {d : Option Addr} {i : Nat} {ts : Addr → Value → Option Addr → TS} {Wout : WX} (te : PySem.W.exmOne K (.ref C) (.ref C) = some true)
    (h : ∀ a, H a = none → ts a (.ref C) d { nx := fun σ' H' => D.nx (σ'.set i none) H', rt := D.rt, bk := fun σ' H' => D.bk (σ'.set i none) H', ct := fun σ' H' => D.ct (σ'.set i none) H' } (σ.set i (some (.ref a))) H) :
    wAs K (.ref C) i ts Wout D (.ref C) d σ H := ⟨true, te, fun _ => h, fun z => nomatch z⟩
theorem r_wOnly {C : Addr} {d : Option Addr} {ts : Addr → Value → Option Addr → TS} {Wout : WX} (te : PySem.W.exmOne K (.ref C) (.ref C) = some true) (h : ∀ a, H a = none → ts a (.ref C) d D σ H) :
    wOnly K (.ref C) ts Wout D (.ref C) d σ H := ⟨true, te, fun _ => h, fun z => nomatch z⟩
theorem r_xf {a C : Addr} {dd : Addr} {f : Str} {i : Nat} {v : V} {fs : List (Str × V)} (h0 : σ[i]? = some (some (.ref a))) (h1 : H dd = some (.xd fs)) (h2 : fs.lookup f = some v) (h : Q v H) : tXf a (.ref C) (some dd) C f (tVar i) σ H Q := by
  refine ⟨_, h0, ?_⟩
  exact ⟨rfl, rfl, dd, fs, v, rfl, h1, h2, h⟩
theorem r_tupOfL {p : Addr} {ys : List V} (h1 : SqL K H p ys) (h : ∀ l, H l = none → Q (.ref l) (upd H l (.tup ys))) : rTupOf K [.ref p] H Q := ⟨p, ys, rfl, .inl ⟨h1, h⟩⟩
theorem r_tupOfT {p : Addr} {ys : List V} (h1 : SqT K H p ys) (h : Q (.ref p) H) : rTupOf K [.ref p] H Q := ⟨p, ys, rfl, .inr ⟨h1, h⟩⟩
end
/-- values whose kind is known -/
inductive Kd (H : Hp) : V → String → Prop
  | int (i : Int) : Kd H (.int i) "int"
  | bl (b : Bool) : Kd H (.bl b) "bool"
  | non : Kd H .non "NoneType"
  | str (z : Str) : Kd H (.str z) "str"
  | lst {p : Addr} {xs : List V} : H p = some (.lst xs) → Kd H (.ref p) "list"
  | tup {p : Addr} {xs : List V} : H p = some (.tup xs) → Kd H (.ref p) "tuple"
theorem Kd.same {H H' : Hp} (s : Same H H') {v : V} {t : String} (h : Kd H v t) : Kd H' v t := by
  cases h with
  | int i => exact .int i
  | bl b => exact .bl b
  | non => exact .non
  | str z => exact .str z
  | lst h => exact .lst (s _ _ h)
  | tup h => exact .tup (s _ _ h)
theorem Kd.ty {K : PySem.W.Frag} {H : Hp} {v : V} {t : String} (h : Kd H v t) : TyOf K H v (.type t) := by
  cases h with
  | int i => exact .int i
  | bl b => exact .bl b
  | non => exact .non
  | str z => exact .str z
  | lst h => exact .lst h
  | tup h => exact .tup h
section
variable {K : PySem.W.Frag} {H : Hp} {Q : VK} {v : V} {t : String}
theorem r_isiK {c : String} {b : Bool} (k : Kd H v t) (h2 : kitB t c = some b) (h : Q (.bl b) H) : rIsi K [v, .ty c] H Q := r_isiB k.ty h2 h
theorem Kd.kinds (k : Kd H v t) : t = "int" ∨ t = "bool" ∨ t = "NoneType" ∨ t = "str" ∨ t = "list" ∨ t = "tuple" := by
  cases k <;> simp
/-- isinstance(v, int) and so on, for any known kind -/
theorem r_isiInt (k : Kd H v t) (h : Q (.bl (decide (t = "int") || decide (t = "bool"))) H) : rIsi K [v, .ty "int"] H Q := by
  cases k with
  | int i => exact r_isiK (.int i) (by decide +kernel) h
  | bl b => exact r_isiK (.bl b) (by decide +kernel) h
  | non => exact r_isiK .non (by decide +kernel) h
  | str z => exact r_isiK (.str z) (by decide +kernel) h
  | lst q => exact r_isiK (.lst q) (by decide +kernel) h
  | tup q => exact r_isiK (.tup q) (by decide +kernel) h
theorem r_isiBool (k : Kd H v t) (h : Q (.bl (decide (t = "bool"))) H) : rIsi K [v, .ty "bool"] H Q := by
  cases k with
  | int i => exact r_isiK (.int i) (by decide +kernel) h
  | bl b => exact r_isiK (.bl b) (by decide +kernel) h
  | non => exact r_isiK .non (by decide +kernel) h
  | str z => exact r_isiK (.str z) (by decide +kernel) h
  | lst q => exact r_isiK (.lst q) (by decide +kernel) h
  | tup q => exact r_isiK (.tup q) (by decide +kernel) h
theorem r_isiStr (k : Kd H v t) (h : Q (.bl (decide (t = "str"))) H) : rIsi K [v, .ty "str"] H Q := by
  cases k with
  | int i => exact r_isiK (.int i) (by decide +kernel) h
  | bl b => exact r_isiK (.bl b) (by decide +kernel) h
  | non => exact r_isiK .non (by decide +kernel) h
  | str z => exact r_isiK (.str z) (by decide +kernel) h
  | lst q => exact r_isiK (.lst q) (by decide +kernel) h
  | tup q => exact r_isiK (.tup q) (by decide +kernel) h
/-- isinstance(v, (list, tuple)) -/
theorem r_isiSeq {tp : Addr} (k : Kd H v t) (h2 : H tp = some (.tup [.ty "list", .ty "tuple"])) (h : Q (.bl (decide (t = "list") || decide (t = "tuple"))) H) : rIsiT K [v, .ref tp] H Q := by
  have go : ∀ (b : Bool), PySem.W.kitAny K (.type t) [.type "list", .type "tuple"] = some b → Q (.bl b) H → rIsiT K [v, .ref tp] H Q := fun b e q =>
    ⟨v, tp, [.ty "list", .ty "tuple"], .type t, [.type "list", .type "tuple"], b, rfl, h2, .cons (.ty "list") (.cons (.ty "tuple") .nil), .base k.ty, e, q⟩
  have no : ∀ {t : String}, kitB t "list" = some false → kitB t "tuple" = some false → PySem.W.kitAny K (.type t) [.type "list", .type "tuple"] = some false := fun a b =>
    kitAny_cons (b := false) (kit_ty a) (fun _ => kitAny_cons (b := false) (kit_ty b) (fun _ => rfl) (fun z => nomatch z)) (fun z => nomatch z)
  cases k with
  | int i => exact go false (no (by decide +kernel) (by decide +kernel)) h
  | bl b => exact go false (no (by decide +kernel) (by decide +kernel)) h
  | non => exact go false (no (by decide +kernel) (by decide +kernel)) h
  | str z => exact go false (no (by decide +kernel) (by decide +kernel)) h
  | lst q => exact r_isiTL q h2 h
  | tup q => exact r_isiTT q h2 h
end
end Px

/-! for i, x in enumerate(tuple) -/
namespace PySem
open Sem (wp)
open AutoSeq1 (wpAny_loadPart')
theorem meets_enumerate_newT (l : Addr) (items : Array Value) (n : Nat) (dct : Option Addr) (sl : Array (Option Value)) :
    Meets (Builtin.«enumerate.__new__» ⟨[.type "enumerate", .ref l], []⟩) (fun _ R s => s.heap.get? l = some { cls := .type "tuple", dict := dct, data := .seq items n, slots := sl } ∧
      R (.ok (.ret (.ref (s.heap.push { cls := .type "tuple_iterator", data := .fields #[.ref l, .int 0 0] }).objs.size)))
        { s with heap := (s.heap.push { cls := .type "tuple_iterator", data := .fields #[.ref l, .int 0 0] }).push { cls := .type "enumerate", data := .fields #[.none, .bool false, .ref s.heap.objs.size, rawInt 0, .none, .none] } }) :=
  .of_wp fun prog w A R s h => by
    obtain ⟨hp, g, d, tk, os⟩ := s; obtain ⟨hl, h⟩ := h
    have hsub := sub_enumerate
    have hL : Heap.IsTuple (Shared.heap ⟨hp, g, d, tk, os⟩) l items := ⟨_, hl, rfl, n, rfl⟩
    wp_walk using wpAny_loadPart' hl
    refine wpAny_stack_any fun st => wpAny_pure ?_
    split
    · rename_i c _ _ _ _ _
      cases (c == Value.type "enumerate")
      · wp_walk using wpAny_loadPart' hl, wpAny_pyIter_tuple hL
        exact ⟨_, rfl, h⟩
      · wp_walk using wpAny_loadPart' hl, wpAny_pyIter_tuple hL
        exact ⟨_, rfl, h⟩
    · wp_walk using wpAny_loadPart' hl, wpAny_pyIter_tuple hL
      exact ⟨_, rfl, h⟩
section
variable {prog : Program} {w : World} {A : Around} {E : Value → Shared → Prop} {s : Shared}
theorem call_enumerate_tup {l : Addr} {items : Array Value} {Q : Value → Shared → Prop} (hL : s.heap.IsTuple l items)
    (h : ∀ h', IsEnum h' (s.heap.objs.size + 1) s.heap.objs.size 0 .none → h'.IsTupleIter s.heap.objs.size l 0 → h'.objs.size = s.heap.objs.size + 2 →
      (∀ b o, s.heap.get? b = some o → h'.get? b = some o) → Q (.ref (s.heap.objs.size + 1)) { s with heap := h' }) :
    wpAny (model prog w) A (call (.type "enumerate") [.ref l]) Q E s := by
  obtain ⟨⟨c, dct, dt, sl⟩, hl, hc, n, hd⟩ := hL
  replace hc : c = .type "tuple" := hc
  replace hd : dt = .seq items n := hd
  subst hc hd
  refine callType_new F.called_enumerate (by decide) (F.typeCall_enumerate_1 _) (F.newCall_enumerate_1 _) (fun obj => F.args_object_init_2 obj _) F.entry_enumerate_new
    (meets_enumerate_newT l items n dct sl) ⟨hl, ?_⟩
  have hz : (s.heap.push { cls := .type "tuple_iterator", data := .fields #[.ref l, .int 0 0] }).objs.size = s.heap.objs.size + 1 := Heap.size_push ..
  show _ ∧ _
  rw [hz]
  have he : IsEnum ((s.heap.push { cls := .type "tuple_iterator", data := .fields #[.ref l, .int 0 0] }).push
      { cls := .type "enumerate", data := .fields #[.none, .bool false, .ref s.heap.objs.size, rawInt 0, .none, .none] }) (s.heap.objs.size + 1) s.heap.objs.size 0 .none := by
    have := Heap.get?_push_size (s.heap.push { cls := .type "tuple_iterator", data := .fields #[.ref l, .int 0 0] })
      (o := { cls := .type "enumerate", data := .fields #[.none, .bool false, .ref s.heap.objs.size, rawInt 0, .none, .none] }) rfl
    rw [hz] at this; exact this
  refine ⟨⟨_, he, rfl⟩, h _ he ⟨_, Heap.get?_push_of_some _ (Heap.get?_push_size _ rfl), rfl, rfl⟩ (by rw [Heap.size_push, hz]) fun b o x => Heap.get?_push_of_some _ (Heap.get?_push_of_some _ x)⟩
end
end PySem
namespace Px
open PySem PySem.Spec PyProof.Rows L2
/-- the tuple at a, each item in a new pair -/
def IteT (K : PySem.W.Frag) (a : Addr) : It :=
  ⟨fun i H => ∃ (xs : List V) (x : V), SqT K H a xs ∧ xs[i]? = some x, fun i H v H' => ∃ T x, v = .ref T ∧ H T = none ∧ H' = upd H T (.tup [.int (i : Nat), x]) ∧ ∀ xs, SqT K H a xs → xs[i]? = some x, fun i H => ∃ xs : List V, SqT K H a xs ∧ xs.length = i⟩
theorem turn_enumT {P : Program} {w : World} {K : PySem.W.Frag} {elts : List Expr} {kk : Nat} {tpos : Pos} (a e it : Addr) :
    Turn P w K (.Tuple elts kk tpos) (IteT K a) [e, it] e (fun i h => (∃ old, IsEnum h e it (0 + ((i : Nat) : Int)) old) ∧ h.IsTupleIter it a i ∧ e ≠ it) where
  mem := by simp
  obj := fun i h st b hb => by
    obtain ⟨⟨old, he⟩, ⟨o, ho, hc, hd⟩, _⟩ := st
    have e' : b = e ∨ b = it := by simpa using hb
    rcases e' with z | z
    · rw [z]; exact ⟨_, he, fun v q => nomatch q⟩
    · rw [z]; exact ⟨o, ho, fun v q => by rw [hd] at q; cases q⟩
  keep := fun i h h' st k => let ⟨⟨old, he⟩, hi, hne⟩ := st; ⟨⟨old, k e (by simp) _ he⟩, hi.at fun o q => k it (by simp) o q, hne⟩
  item := by
    intro X hP hw hK hc i pins s σ H E I hf st hg
    subst hP hw hK
    obtain ⟨he, hit, hne⟩ := st
    obtain ⟨xs, x, hq, hx⟩ := hg
    obtain ⟨its, rv, p, hz⟩ := I.tuple hq
    obtain ⟨u, hu, ru⟩ := rv.get hx
    have hit2 : a ≠ it := by
      intro z
      subst z
      obtain ⟨o, ho, hc2, hd2⟩ := hit
      obtain ⟨o2, ho2, _, n2, hd3⟩ := p
      rw [ho] at ho2; cases ho2
      rw [hd2] at hd3; cases hd3
    have hea : e ≠ a := by
      intro z
      subst z
      obtain ⟨old, he⟩ := he
      obtain ⟨o2, ho2, _, n2, hd3⟩ := p
      have he' : s.heap.get? e = _ := he
      rw [he'] at ho2; cases ho2
      cases hd3
    have G := GoesN.enumFrom (elts := elts) (x1 := kk) (pos := tpos) 0 (Draws.tuple (prog := X.prog) (w := X.w) (A := X.A.in1) (I.ok.hd hc) it a hit2 its.toArray) e hne (by simp [hne, hea]) (by simp)
    have lt : i < its.toArray.size := by
      have := rv.length
      have h2 : i < xs.length := (List.getElem?_eq_some_iff.mp hx).1
      simp only [List.size_toArray]
      omega
    have nw : ∀ b, b ∈ [e, it] → b < s.heap.objs.size := by
      intro b hb
      obtain ⟨old, he⟩ := he
      obtain ⟨o, ho, _⟩ := hit
      have e' : b = e ∨ b = it := by simpa using hb
      rcases e' with z | z
      · rw [z]; exact Heap.lt_size he
      · rw [z]; exact Heap.lt_size ho
    refine G.goes i s _ E lt ⟨he, hit, p⟩ fun v h' tk hy st' hk _ => ?_
    obtain ⟨T, t, y, rfl, hT, hy', ht⟩ := hy
    have ey : y = u := by
      have : its[i]? = some y := by simpa using hy'
      rw [hu] at this
      exact (Option.some.inj this).symm
    subst ey
    have hn : H T = none := I.hok.fresh hT
    have new : ObjOk X.prog X.w (upd H T (.tup [.int (i : Nat), x])) h' T (.tup [.int (i : Nat), x]) := ⟨by show 2 ≤ sizeLine; decide, [_, y], .cons ⟨t, by simp⟩ (.cons ru .nil), ht⟩
    refine ⟨.ref T, _, I.turnedNew (ch := [e, it]) (fun b o hb q => hk b o hb q) hf hT new, rfl, ⟨T, x, rfl, hn, rfl, fun ys hy => by rw [I.tuple_inj hy hq]; exact hx⟩, ⟨st'.1, st'.2.1, hne⟩, fun c hcm => ?_⟩
    rw [upd_ne (Nat.ne_of_lt (Nat.lt_of_lt_of_le (nw c hcm) hT))]
    exact (hf c hcm).1
  done := by
    intro X hP hw hK hc i pins s σ H E I hf st hg
    subst hP hw hK
    obtain ⟨he, hit, hne⟩ := st
    obtain ⟨xs, hq, hx⟩ := hg
    obtain ⟨its, rv, p, hz⟩ := I.tuple hq
    have hit2 : a ≠ it := by
      intro z
      subst z
      obtain ⟨o, ho, hc2, hd2⟩ := hit
      obtain ⟨o2, ho2, _, n2, hd3⟩ := p
      rw [ho] at ho2; cases ho2
      rw [hd2] at hd3; cases hd3
    have hea : e ≠ a := by
      intro z
      subst z
      obtain ⟨old, he⟩ := he
      obtain ⟨o2, ho2, _, n2, hd3⟩ := p
      have he' : s.heap.get? e = _ := he
      rw [he'] at ho2; cases ho2
      cases hd3
    have G := GoesN.enumFrom (elts := elts) (x1 := kk) (pos := tpos) 0 (Draws.tuple (prog := X.prog) (w := X.w) (A := X.A.in1) (I.ok.hd hc) it a hit2 its.toArray) e hne (by simp [hne, hea]) (by simp)
    have en : its.toArray.size = i := by
      have := rv.length
      simp only [List.size_toArray]
      omega
    rw [en] at G
    exact G.stops s _ E ⟨he, hit, p⟩ fun h' tk hk _ => I.turnedL (ch := [e, it]) (fun b o hb q => hk b o hb q) hf
  self := fun A i s Q E st h => let ⟨⟨_, he⟩, _⟩ := st; wpAny_pyIter_enum he h
def iEnumT (K : PySem.W.Frag) (ta : TA) : TI := fun σ H R => ta σ H fun vs H1 => ∃ a xs, vs = [.ref a] ∧ SqT K H1 a xs ∧ R (IteT K a) H1
theorem pi_enumT {X : Cx} {e : Expr} {ta : TA} {p pos tpos : Pos} {elts : List Expr} {kk : Nat} (hg : Gl X "enumerate") (hm : X.mg "enumerate" = none) (ha : PA X [e] ta) (hs : starEach [e] X.env = [(false, eval e X.env)] := by rfl) :
    PI X (.Tuple elts kk tpos) (.Call (.Name "enumerate" p) [e] [] pos) (iEnumT X.K ta) := by
  refine ⟨fun pins s σ H R I h => ?_⟩
  refine Call_ (ld_blt I hg hm boot_enumerate (PyProof.Rows.callWith_type1 (thn (ha.run pos pins s σ H _ I h) fun us s1 ⟨vs, H1, I1, r1, q1⟩ => ?_) hs rfl))
  obtain ⟨a, xs, ex, hq, q⟩ := q1
  subst ex
  cases r1 with
  | cons r rr =>
    cases rr
    cases r
    obtain ⟨its, rv, p', hz⟩ := I1.tuple hq
    refine PySem.call_enumerate_tup p' fun h' he hit hsz hk => wpAny_pyIter_enum he ?_
    have I2 : Inv X pins σ H1 { s1 with heap := h' } := I1.kept (t' := s1.toks) hk
    refine ⟨s1.heap.objs.size + 1, [s1.heap.objs.size + 1, s1.heap.objs.size], _, _, H1, rfl, I2, turn_enumT a (s1.heap.objs.size + 1) s1.heap.objs.size, ⟨⟨.none, he⟩, hit, Nat.succ_ne_self _⟩, fun b hb => ?_, q⟩
    have e' : b = s1.heap.objs.size + 1 ∨ b = s1.heap.objs.size := by simpa using hb
    have hle : s1.heap.objs.size ≤ b := by
      rcases e' with z | z
      · rw [z]; exact Nat.le_add_right _ _
      · rw [z]; exact Nat.le_refl _
    exact I1.fpOk hle (I1.hok.fresh hle)
theorem walk_enumT {K : PySem.W.Frag} {a : Addr} {xs : List V} : Walk (IteT K a) xs.length (fun H => SqT K H a xs) (YPair (fun i => some (.int (i : Nat))) (fun i => xs[i]?)) := by
  refine ⟨fun i _ hi q => ⟨xs, xs[i], q, by simp [hi]⟩, fun _ q => ⟨xs, q, rfl⟩, fun i H v H' _ q y => ?_⟩
  obtain ⟨T, x, h1, h2, h3, h4⟩ := y
  exact ⟨T, .int (i : Nat), x, h1, h2, h3, rfl, h4 xs q⟩
/-- over a list, a text or a tuple -/
def iEnumA (K : PySem.W.Frag) (ta : TA) : TI := fun σ H R => iEnumU K ta σ H R ∨ iEnumT K ta σ H R
theorem pi_enumA {X : Cx} {e : Expr} {ta : TA} {p pos tpos : Pos} {elts : List Expr} {kk : Nat} (hg : Gl X "enumerate") (hm : X.mg "enumerate" = none) (ha : PA X [e] ta) (hs : starEach [e] X.env = [(false, eval e X.env)] := by rfl) :
    PI X (.Tuple elts kk tpos) (.Call (.Name "enumerate" p) [e] [] pos) (iEnumA X.K ta) := PI.or (pi_enumU hg hm ha hs) (pi_enumT hg hm ha hs)
section
variable {K : PySem.W.Frag} {σ : S} {H : Hp} {tr : TA}
theorem r_enumAL {R : It → Hp → Prop} (h : tr σ H fun vs H1 => ∃ a xs, vs = [.ref a] ∧ SqL K H1 a xs ∧ R (Ite K a) H1) : iEnumA K tr σ H R := .inl (.inl h)
theorem r_enumAS {R : It → Hp → Prop} (h : tr σ H fun vs H1 => ∃ z : Str, vs = [.str z] ∧ R (ItP z.cps.size (fun i => some (.int (i : Nat))) (sgn z)) H1) : iEnumA K tr σ H R := .inl (.inr h)
theorem r_enumAT {R : It → Hp → Prop} (h : tr σ H fun vs H1 => ∃ a xs, vs = [.ref a] ∧ SqT K H1 a xs ∧ R (IteT K a) H1) : iEnumA K tr σ H R := .inr h
end
end Px

namespace Px
open PySem PySem.Spec PyProof.Rows L2
theorem hu65 {k : Nat} {A : Around} (hr : Room k A) : A.units + 65 < cLine := by have := hr.un; omega
/-! ### either of two readings -/
def tOrE (t1 t2 : TE) : TE := fun σ H Q => t1 σ H Q ∨ t2 σ H Q
theorem pe_or2 {X : Cx} {e : Expr} {t1 t2 : TE} (h1 : PE X e t1) (h2 : PE X e t2) : PE X e (tOrE t1 t2) := PE.or h1 h2
theorem r_orL {t1 t2 : TE} {σ : S} {H : Hp} {Q : VK} (h : t1 σ H Q) : tOrE t1 t2 σ H Q := .inl h
theorem r_orR {t1 t2 : TE} {σ : S} {H : Hp} {Q : VK} (h : t2 σ H Q) : tOrE t1 t2 σ H Q := .inr h
/-! ### instances called -/
theorem callO_of {K : PySem.W.Frag} {C f : Addr} {x qual : Str} {params : Arguments} {body : List Stmt} {scope : Scope} {dvs : List V} {kws : List (Str × V)} {fd : FuncData} (M : Meth K C "__call__" f) (F : FunD K x qual params body scope dvs kws f fd) : StX.CallO K C f := by
  refine ⟨M.at_, M.fn, ?_⟩
  obtain ⟨oc, od, dV, kV, doc, pm, an, cdv, ct, osl, e, lk, _⟩ := F.ex
  unfold PySem.W.fnIn
  rw [lk]
def tCallOS (C : Addr) (sp : Sp) (W : L2.St → XK) (tf : TE) (t : TA) : TE := fun σ H Q => tf σ H fun y H1 => ∃ a, y = V.ref a ∧ t σ H1 fun vs H2 => (∃ dx fs, H2 a = some (.ins C dx fs)) ∧ sp (V.ref a :: vs) H2 Q (W σ)
section
variable {X : Cx} {CX : CXT} {k i : Nat} {f g C : Addr} {fd : FuncData} {ps : List Str} {sp : Sp} {W : L2.St → XK} {x m : Str} {e o fe : Expr} {es : List Expr} {te tf ta : TE} {t : TA} {p pos apos : Pos}
theorem run_fnSc {pins : List (Addr × Obj)} {σ : L2.St} {H : Hp} {s : Shared} {Q : VK} {us : List Value} {vs : List V} (F : FnOk X.prog X.w X.K X.mg X.base CX k f fd ps sp) (hr : Room k X.A) (hb : Binds X.K fd ps []) (hx : PassesAt CX X σ (W σ))
    (I : Inv X pins σ H s) (r : Vals vs us) (h : sp vs H Q (W σ)) : codeAny (model X.prog X.w) X.A (.call (.ref f) ⟨us, []⟩) (fun r s' => match r with | .ok (.ret v) => EP X pins σ Q v s' | .ok _ => False | .error e => X.xe e s') s := by
  have hl : us.length = ps.length := by rw [← r.length]; exact F.len _ _ _ _ h
  have b := hb s us I.kIn (by rw [List.append_nil]; exact hl)
  rw [List.append_nil] at b
  refine codeAny_mono (F.run X.A X.stack s H ⟨us, []⟩ us vs Q (W σ) hr I.env0 b r h) fun r s' hq => ?_
  cases r with
  | error e => exact hx pins H s e s' I hq
  | ok fl =>
    cases fl with
    | ret u => exact I.after hq
    | next => exact False.elim hq
    | brk => exact False.elim hq
    | cont => exact False.elim hq
theorem pe_callOS (hf : PE X fe tf) (c : StX.CallO X.K C g) (F : FnOk X.prog X.w X.K X.mg X.base CX k g fd ps sp) (hr : Room k X.A) (hb : Binds X.K fd ps []) (hx : ∀ σ, PassesAt CX X σ (W σ)) (ha : PA X (e :: es) t)
    (ht : eval (.Call fe (e :: es) [] pos) X.env = (do callWith pos (← eval fe X.env) [] (backTo pos (starEach (e :: es) X.env)) (backToKw pos (keywordEach [] X.env))) := by rfl)
    (he : starEach (e :: es) X.env = (false, eval e X.env) :: starEach es X.env := by rfl) (hpl : (backTo pos (starEach es X.env)).any (·.1) = false := by rfl) : PE X (.Call fe (e :: es) [] pos) (tCallOS C sp W tf t) := by
  refine ⟨fun pins s σ H Q I h => ?_⟩
  refine Call_ (thn (hf.run pins s σ H _ I h) fun u s1 ⟨y, H1, I1, ry, a, ey, q⟩ => ?_) ht
  subst ey
  obtain rfl : u = Value.ref a := ry
  refine StX.callO_with (thn (ha.run pos pins s1 σ H1 _ I1 q) fun us s2 ⟨vs, H2, I2, r, ⟨dx, fs, hi⟩, q2⟩ => ?_) he hpl
  obtain ⟨ox, od, J, hd⟩ := StX.insC_at I2 (.inr ⟨dx, fs, hi⟩)
  exact ⟨⟨C, ox, od, J, hd⟩, wpAny_call (PySem.W.kco_code I2.kIn J hd c.at_ c.fn c.fi (run_fnSc (us := .ref a :: us) (vs := .ref a :: vs) F hr hb (hx σ) I2 (.cons rfl r) q2))⟩
/-! ### methods that let something out -/
def tMethS (C : Addr) (m : Str) (sp : Sp) (W : L2.St → XK) (ta : TE) (t : TA) : TE := fun σ H Q => ta σ H fun x H1 => ∃ a dx fs, x = .ref a ∧ H1 a = some (.ins C dx fs) ∧ fs.lookup m = none ∧ t σ H1 fun vs H2 => sp (.ref a :: vs) H2 Q (W σ)
theorem pe_methS {pl : Sem Bool} (he : PE X o ta) (c : Cls X.K C) (hm : Meth X.K C m f) (F : FnOk X.prog X.w X.K X.mg X.base CX k f fd ps sp) (hr : Room k X.A) (hb : Binds X.K fd ps []) (hx : ∀ σ, PassesAt CX X σ (W σ)) (ha : PA X (e :: es) t)
    (hst : starEach (e :: es) X.env = (false, eval e X.env) :: starEach es X.env := by rfl) (hpl : (backTo pos (starEach es X.env)).any (·.1) = false := by rfl)
    (ht : eval (.Call (.Attribute o m apos) (e :: es) [] pos) X.env = (do
      let ov ← eval o X.env
      standAt apos.atName
      let (f, first) ← holding [ov] (getMethod ov m pl)
      callWith pos f first (backTo pos (starEach (e :: es) X.env)) (backToKw pos (keywordEach [] X.env))) := by rfl) :
    PE X (.Call (.Attribute o m apos) (e :: es) [] pos) (tMethS C m sp W ta t) := by
  refine ⟨fun pins s σ H Q I h => ?_⟩
  refine PySem.W.methodCall_KW (pl := pl) (thn (he.run pins s σ H _ I h) fun u s1 ⟨x, H1, I1, rx, a, dx, fs, ex, ea, l, q⟩ => ?_) ht
  subst ex
  obtain rfl : u = Value.ref a := rx
  refine getmeth_ok I1 ea c hm l ?_
  refine PySem.W.callWith_K (first := [.ref a]) (h₀ := X.base) I.ok.mod.kin hm.kp (thn (ha.run pos pins s1 σ H1 _ I1 q) fun us s2 ⟨vs, H2, I2, r, q2⟩ => ⟨I2.kIn, ?_⟩) hst hpl
  exact run_fnS (us := .ref a :: us) (vs := .ref a :: vs) F hr hb (hx σ) I2 (.cons rfl r) q2
theorem pe_methS0 {pl : Sem Bool} (he : PE X o ta) (c : Cls X.K C) (hm : Meth X.K C m f) (F : FnOk X.prog X.w X.K X.mg X.base CX k f fd ps sp) (hr : Room k X.A) (hb : Binds X.K fd ps []) (hx : ∀ σ, PassesAt CX X σ (W σ))
    (ht : eval (.Call (.Attribute o m apos) [] [] pos) X.env = (do
      let ov ← eval o X.env
      standAt apos.atName
      let (f, first) ← holding [ov] (getMethod ov m pl)
      callWith pos f first (backTo pos (starEach [] X.env)) (backToKw pos (keywordEach [] X.env))) := by rfl) :
    PE X (.Call (.Attribute o m apos) [] [] pos) (tMethS C m sp W ta tNil) := by
  refine ⟨fun pins s σ H Q I h => ?_⟩
  refine PySem.W.methodCall_KW (pl := pl) (thn (he.run pins s σ H _ I h) fun u s1 ⟨x, H1, I1, rx, a, dx, fs, ex, ea, l, q⟩ => ?_) ht
  subst ex
  obtain rfl : u = Value.ref a := rx
  refine getmeth_ok I1 ea c hm l ?_
  exact PySem.W.callWith_K0 (first := [.ref a]) I1.kIn hm.kp (run_fnS (us := [.ref a]) (vs := [.ref a]) F hr hb (hx σ) I1 (.cons rfl .nil) q)
/-! ### a field as one of several targets -/
def gFld (K : PySem.W.Frag) (to : TE) (f : Str) : TG := fun v σ H P => to σ H fun x H1 => ∃ a C dx fs, x = .ref a ∧ H1 a = some (.ins C dx fs) ∧ Cls K C ∧ NoAttr K C f ∧ fs.length < 1000 ∧ P σ (upd H1 a (.ins C dx (putF f v fs)))
theorem pg_fld {f : Str} (ho : PE X o ta) : PG X (.Attribute o f pos) (gFld X.K ta f) := by
  refine ⟨fun pins s σ H v u Q I r h => ?_⟩
  rw [assign_Attribute]
  refine wpAny_bind (wpAny_holding (thn (ho.run pins s σ H _ I h) fun ov s1 ⟨x, H1, I1, rx, a, C, dx, fs, ex, ea, c, n, l, q⟩ => ?_))
  subst ex
  obtain rfl : ov = Value.ref a := rx
  refine wpAny_bind (wpAny_standAt (wpAny_bind (wpAny_holding (setattr_ok I1 ea c n l r fun s2 I2 => ?_))))
  exact wpAny_release ⟨σ, _, I2, q⟩
end
/-! ### star arguments -/
def spStar (n : Nat) (sp : Sp) : Sp := fun vs H Q E => ∃ ws rest, vs = ws ++ rest ∧ ws.length = n ∧ rest.length ≤ sizeLine ∧ ∀ p, H p = none → sp (ws ++ [V.ref p]) (upd H p (.tup rest)) Q E
section
variable  {P : Program} {w : World} {K : PySem.W.Frag} {mg : Str → Option Value} {base : Heap} {CX : CXT} {k : Nat} {f : Addr} {name qual pv : Str} {params : Arguments} {body : List Stmt} {scope : Scope} {dvs : List V} {kws : List (Str × V)} {fd : FuncData} {N ps : List Str} {sp : Sp}
theorem fnr_star (F : FunD K name qual params body scope dvs kws f fd) (S : FnScope N (ps ++ [pv]) scope) (hCX : StX.CXUp CX)
    (hb : ∀ (dV kV doc pm : Value) (an : Option Addr) (cdv ct : Value) (us rest : List Value), us.length = ps.length → bindArgs (PySem.W.fnOf name qual params body scope dV kV doc pm an cdv ct) ⟨us ++ rest, []⟩ = (newTuple rest >>= fun t => pure (ps.zip us ++ [(pv, t)])))
    (hbody : ∀ (cdv : Value) (A : Around) (outer : List Env) (s : Shared) (H : Hp) (vs : List V) (Q : VK) (E : XK), Room k (A.deeper (envOfC qual scope s.heap.objs.size f cdv)) → sp vs H Q E →
      ∃ t, PSs (cxOf CX P w K mg base N qual scope f cdv A outer s H E) body t ∧ t { nx := fun _ H' => Q .non H', rt := Q } (start N vs) H) :
    FnR P w K mg base CX (k + 1) f (spStar ps.length sp) := by
  obtain ⟨oc, od, dV, kV, doc, pm, an, cdv, ct, osl, rfl, lk, hcd, _, _⟩ := F.ex
  exact StX.fn_star lk hcd S hCX (hb dV kV doc pm an cdv ct) (hbody cdv)
end
section
variable {X : Cx} {CX : CXT} {k : Nat} {f : Addr} {sp : Sp} {W : L2.St → XK} {x : Str} {e : Expr} {es : List Expr} {t : TA} {p pos : Pos}
theorem run_fnRS {pins : List (Addr × Obj)} {σ : L2.St} {H : Hp} {s : Shared} {Q : VK} {us : List Value} {vs : List V} (F : FnR X.prog X.w X.K X.mg X.base CX k f sp) (hr : Room k X.A) (hx : PassesAt CX X σ (W σ)) (I : Inv X pins σ H s) (r : Vals vs us) (h : sp vs H Q (W σ)) :
    codeAny (model X.prog X.w) X.A (.call (.ref f) ⟨us, []⟩) (fun r s' => match r with | .ok (.ret v) => EP X pins σ Q v s' | .ok _ => False | .error e => X.xe e s') s := by
  refine codeAny_mono (F X.A X.stack s H us vs Q (W σ) hr I.env0 r h) fun r s' hq => ?_
  cases r with
  | error e => exact hx pins H s e s' I hq
  | ok fl =>
    cases fl with
    | ret u => exact I.after hq
    | next => exact False.elim hq
    | brk => exact False.elim hq
    | cont => exact False.elim hq
theorem pe_callR (F : FnR X.prog X.w X.K X.mg X.base CX k f sp) (hr : Room k X.A) (hg : Gl X x) (hm : X.mg x = some (.ref f)) (hk : PySem.W.keepIn X.K (.ref f) = true) (hx : ∀ σ, PassesAt CX X σ (W σ))
    (ha : PA X (e :: es) t) (hdb : (x == ("__debug__" : Str)) = false := by decide) (he : starEach (e :: es) X.env = (false, eval e X.env) :: starEach es X.env := by rfl) (hpl : (backTo pos (starEach es X.env)).any (·.1) = false := by rfl) :
    PE X (.Call (.Name x p) (e :: es) [] pos) (tCallS sp W t) := by
  refine ⟨fun pins s σ H Q I h => ?_⟩
  refine wpAny_Call_Name_kw (ld_glob I hg hm ?_ hdb)
  refine PySem.W.callWith_K (h₀ := X.base) I.ok.mod.kin hk (thn (ha.run pos pins s σ H _ I h) fun us s1 ⟨vs, H1, I1, r, q⟩ => ⟨I1.kIn, ?_⟩) he hpl
  exact wpAny_call (run_fnRS F hr (hx σ) I1 r q)
end
/-! ### steps -/
section
variable {K : PySem.W.Frag} {σ : S} {H : Hp} {Q : VK} {D : Ends} {x y v : V}
theorem r_callOS {C : Addr} {sp : Sp} {W : L2.St → XK} {t : TA} {i : Nat} {a : Addr} (h0 : σ[i]? = some (some (.ref a))) (h : t σ H fun vs H2 => (∃ dx fs, H2 a = some (.ins C dx fs)) ∧ sp (V.ref a :: vs) H2 Q (W σ)) : tCallOS C sp W (tVar i) t σ H Q := ⟨_, h0, a, rfl, h⟩
theorem r_methS {C : Addr} {m : Str} {sp : Sp} {W : L2.St → XK} {t : TA} {i : Nat} {a dx : Addr} {fs : List (Str × V)} (h0 : σ[i]? = some (some (.ref a))) (h1 : H a = some (.ins C dx fs)) (h2 : fs.lookup m = none) (h : t σ H fun vs H2 => sp (V.ref a :: vs) H2 Q (W σ)) : tMethS C m sp W (tVar i) t σ H Q := ⟨_, h0, a, dx, fs, rfl, h1, h2, h⟩
theorem r_methI {C : Addr} {m : Str} {sp : Sp} {E : XK} {t : TA} {i : Nat} {a dx : Addr} {fs : List (Str × V)} (h0 : σ[i]? = some (some (.ref a))) (h1 : H a = some (.ins C dx fs)) (h2 : fs.lookup m = none) (h : t σ H fun vs H2 => sp (V.ref a :: (vs ++ [])) H2 Q E) : tMeth C m sp [] E (tVar i) t σ H Q := ⟨_, h0, a, dx, fs, rfl, h1, h2, h⟩
theorem r_propI {C : Addr} {sp : Sp} {E : XK} {i : Nat} {a dx : Addr} {fs : List (Str × V)} (h0 : σ[i]? = some (some (.ref a))) (h1 : H a = some (.ins C dx fs)) (h : sp [V.ref a] H Q E) : tProp C sp [] E (tVar i) σ H Q := ⟨_, h0, a, dx, fs, rfl, h1, h⟩
theorem r_fldI {f : Str} {i : Nat} {a C dx : Addr} {fs : List (Str × V)} (h0 : σ[i]? = some (some (.ref a))) (h1 : H a = some (.ins C dx fs)) (c : Cls K C) (n : NoAttr K C f) (h2 : fs.lookup f = some v) (h : Q v H) : tFld K (tVar i) f σ H Q := ⟨_, h0, a, C, dx, fs, v, rfl, h1, c, n, h2, h⟩
theorem r_gFld {f : Str} {i : Nat} {a C dx : Addr} {fs : List (Str × V)} {P : S → Hp → Prop} (h0 : σ[i]? = some (some (.ref a))) (h1 : H a = some (.ins C dx fs)) (c : Cls K C) (n : NoAttr K C f) (hl : fs.length < 1000) (h : P σ (upd H a (.ins C dx (putF f v fs)))) : gFld K (tVar i) f v σ H P := ⟨_, h0, a, C, dx, fs, rfl, h1, c, n, hl, h⟩
theorem r_gUnl {n : Nat} {gs : TGs} {a : Addr} {xs : List V} {P : S → Hp → Prop} (h1 : SqL K H a xs) (h2 : xs.length = n) (h : gs xs σ H P) : gUnl K n gs (.ref a) σ H P := ⟨a, xs, rfl, h1, h2, h⟩
theorem r_lstRg {te : L2.St → Hp → (Int → Int → Hp → Prop) → Prop} (h : te σ H fun a b H1 => RgOk a b ∧ ∀ q, H1 q = none → Q (.ref q) (upd H1 q (.lst (rgV a b)))) : tLstRg te σ H Q := h
end
end Px

namespace Px
open PySem PySem.Spec PyProof.Rows L2
/-! ### star arguments: what is bound -/
def StarB (ps : List Str) (pv : Str) (B : List Value → Sem (List (Str × Value))) : Prop := ∀ us rest : List Value, us.length = ps.length → B (us ++ rest) = (newTuple rest >>= fun t => pure (ps.zip us ++ [(pv, t)]))
theorem starB1 {B : List Value → Sem (List (Str × Value))} {p1 pv : Str} (h0 : ∀ a, B [a] = (newTuple [] >>= fun t => pure [(p1, a), (pv, t)])) (h1 : ∀ a r rs, B (a :: r :: rs) = (newTuple (r :: rs) >>= fun t => pure [(p1, a), (pv, t)])) : StarB [p1] pv B := StX.bind_star1 h0 h1
theorem starB2 {B : List Value → Sem (List (Str × Value))} {p1 p2 pv : Str} (h0 : ∀ a b, B [a, b] = (newTuple [] >>= fun t => pure [(p1, a), (p2, b), (pv, t)])) (h1 : ∀ a b r rs, B (a :: b :: r :: rs) = (newTuple (r :: rs) >>= fun t => pure [(p1, a), (p2, b), (pv, t)])) : StarB [p1, p2] pv B := StX.bind_star2 h0 h1
section
variable  {P : Program} {w : World} {K : PySem.W.Frag} {mg : Str → Option Value} {base : Heap} {CX : CXT} {k : Nat} {f : Addr} {name qual pv : Str} {params : Arguments} {body : List Stmt} {scope : Scope} {dvs : List V} {kws : List (Str × V)} {fd : FuncData} {N ps : List Str} {sp : Sp}
theorem fnr_starB (F : FunD K name qual params body scope [] kws f fd) (S : FnScope N (ps ++ [pv]) scope) (hCX : StX.CXUp CX)
    (hb : ∀ (kV doc pm : Value) (an : Option Addr) (cdv ct : Value), StarB ps pv fun l => bindArgs (PySem.W.fnOf name qual params body scope .none kV doc pm an cdv ct) ⟨l, []⟩)
    (hbody : ∀ (cdv : Value) (A : Around) (outer : List Env) (s : Shared) (H : Hp) (vs : List V) (Q : VK) (E : XK), Room k (A.deeper (envOfC qual scope s.heap.objs.size f cdv)) → sp vs H Q E →
      ∃ t, PSs (cxOf CX P w K mg base N qual scope f cdv A outer s H E) body t ∧ t { nx := fun _ H' => Q .non H', rt := Q } (start N vs) H) :
    FnR P w K mg base CX (k + 1) f (spStar ps.length sp) := by
  obtain ⟨oc, od, dV, kV, doc, pm, an, cdv, ct, osl, rfl, lk, hcd, hD, _⟩ := F.ex
  rcases hD with ⟨_, rfl⟩ | ⟨e, _⟩
  · exact StX.fn_star lk hcd S hCX (hb kV doc pm an cdv ct) (hbody cdv)
  · exact absurd rfl e
end
end Px

/-! PxTryMany: several except clauses, each with a name. -/
namespace L2
open PySem PySem.Spec PyProof.Rows
/-- what the clauses wish of an exception of the body, one after the other -/
def wAsL (K : PySem.W.Frag) (Wout : WX) (D : Ends) : List (Value × Nat × (Addr → Value → Option Addr → TS)) → WX
  | [] => Wout
  | (c, i, ts) :: r => wAs K c i ts (wAsL K Wout D r) D
inductive HdA (X : Cx) : List ExceptHandler → List (Value × Nat × (Addr → Value → Option Addr → TS)) → Prop
  | nil : HdA X [] []
  | cons {x n : Str} {c : Value} {i : Nat} {ts : Addr → Value → Option Addr → TS} {b₀ : Stmt} {suite : List Stmt} {np pos' : Pos} {hds : List ExceptHandler} {l : List (Value × Nat × (Addr → Value → Option Addr → TS))}
      (hi : X.N[i]? = some n) (hln : X.env.kindOf n = some .local) (hc : Names X x c)
      (hsu : ∀ (a : Addr) (oe : Obj) (cls : Value) (d : Option Addr) (pn : List (Addr × Obj)), Zc cls d oe → (∃ vs, oe.data = .fields vs) → PSs (X.suite a ((a, oe) :: pn)) (b₀ :: suite) (ts a cls d)) (r : HdA X hds l) :
      HdA X (.ExceptHandler (some (.Name x np)) (some n) (b₀ :: suite) pos' :: hds) ((c, i, ts) :: l)
section
variable {X : Cx} {body : List Stmt} {h₀ : ExceptHandler} {hds : List ExceptHandler} {l : List (Value × Nat × (Addr → Value → Option Addr → TS))} {pos : Pos} {tb : WX → TS} {Wout : WX}
theorem ps_try_asL (hs : X.stack = X.env :: X.outer) (hf : X.env.frame = some X.env.locals) (hN : X.N.Nodup) (tk : Takes X Wout)
    (hb : ∀ (W : WX) (pn : List (Addr × Obj)) (xe : Value → Shared → Prop), Takes (X.tr pn xe) W → PassesOwn (model X.prog X.w) X.A X.env xe → PSs (X.tr pn xe) body (tb W))
    (hh : HdA X (h₀ :: hds) l) : PS X (.Try body (h₀ :: hds) [] [] pos) (fun D σ H => tb (wAsL X.K Wout D l) D σ H) := by
  refine ⟨fun pins s σ H D I h => ?_⟩
  have ok := I.ok
  have hfr : X.A.frames = some (X.env :: X.outer) := by rw [ok.frames, hs]
  refine wpAny_Try_except (wpAny_mono ((hb (wAsL X.K Wout D l) (X.pn ++ pins) (fun e s₁ => wpAny (model X.prog X.w) X.A (noteFrame e X.env) (fun _ s₂ => wpAny (model X.prog X.w) X.A (setFlight e none) (fun _ s₃ =>
    wpAny (model X.prog X.w) X.A (handleBy e X.env (h₀ :: hds)) (SP X pins D) X.xe s₃) X.xe s₂) X.xe s₁) (fun u s' xx => ?_) PassesOwn.looking).run [] s σ H D (I.toTry _) h) (fun f s1 hsp => ?_) (fun e s1 he => he))
  · obtain ⟨a, B, sI, pins', σ', H', cls, d, rfl, J', nb, up, sky, na, os, ag, w⟩ := xx
    have J : Inv X pins σ' H' sI := J'.ofTry ok
    have sky' : Sky B (X.env :: X.outer) a (Zc cls d) X.env.locals s'.heap := by rw [← hs]; exact sky
    show wpAny (model X.prog X.w) X.A (noteFrame (.ref a) X.env) _ _ _
    refine Sky.land Zc.steady hfr hf sky' fun h3 fl3 up3 => ?_
    have J3 : Inv X pins σ' H' { s' with heap := h3 } := J.landed nb fl3.1 (up.trans up3) os ag
    obtain ⟨oe3, vs3, he3, hz3, hd3⟩ := fl3.there
    have nfr : a ∉ frs (X.env :: X.outer) := fun hm => by
      obtain ⟨_, o', e', hnf⟩ := fl3.2.2.1.mem hm
      rw [he3] at e'
      cases e'
      exact hnf _ hd3
    have nL : a ≠ X.env.locals := fun z => nfr (List.mem_filterMap.mpr ⟨X.env, List.mem_cons_self, by rw [hf, z]⟩)
    have nF : a ∉ X.fs := fun hm => by
      obtain ⟨e, he, q⟩ := List.mem_filterMap.mp hm
      exact nfr (List.mem_filterMap.mpr ⟨e, List.mem_cons_of_mem _ he, q⟩)
    have S3 := J3.suite he3 hd3 na nL nF
    suffices go : ∀ {hds' : List ExceptHandler} {l' : List (Value × Nat × (Addr → Value → Option Addr → TS))}, HdA X hds' l' → wAsL X.K Wout D l' cls d σ' H' →
        wpAny (model X.prog X.w) X.A (handleBy (.ref a) X.env hds') (SP X pins D) X.xe { s' with heap := h3 } from go hh w
    intro hds' l' hk
    induction hk with
    | nil =>
      intro w
      refine wpAny_handleBy_nil ?_
      obtain ⟨k1, k2, k3, oe, vs, T, oT, ts', he, hz, hd, h1, hr⟩ := id fl3
      unfold PySem.passOn
      refine wpAny_bind (wpAny_field he hd h1 ?_)
      rw [if_neg (show ¬ ((Value.ref T == Value.none) = true) from by simp)]
      have fin : wpAny (model X.prog X.w) X.A (setFlight (.ref a) X.env.frame) (fun _ s4 => wpAny (model X.prog X.w) X.A (throw (.ref a) : Sem Flow) (SP X pins D) X.xe s4) X.xe { s' with heap := h3 } := by
        rw [hf]
        refine HandSPX.setFlight_upZ fl3 fun h4 hh4 up4 => wpAny_throw (tk _ _ ?_)
        exact ⟨a, B, sI, pins, σ', H', cls, d, rfl, J, nb, (up.trans up3).trans up4, .inr (.inr (by rw [hs]; exact hh4)), na, os, ag, w⟩
      first
        | exact wpAny_bind (wpAny_pure (wpAny_bind fin))
        | exact wpAny_bind fin
    | @cons x n c i ts b₀ suite np pos' hds2 l2 hi hln hc hsu r ih =>
      rintro ⟨b, hb1, hyes, hno⟩
      refine wpAny_handleBy_cons (codeAny_handlers_test ?_) (by intro q; cases q)
      have LT : PySem.W.Looks (model X.prog X.w) h3 (typeOf (.ref a)) cls := fun A Q E s k q => wpAny_typeOf_ref (k _ _ he3) (by rw [hz3.1]; exact q)
      have LM := PySem.W.exm_one (M := model X.prog X.w) (J3.kIn) LT hb1
      have test : ∀ {Q : Value → Shared → Prop} {E : Value → Shared → Prop}, Q c { s' with heap := h3 } → wpAny (model X.prog X.w) (X.A.mark (some (.ref a))) (eval (.Name x np) X.env) Q E { s' with heap := h3 } := fun {Q E} q => by
        obtain ⟨hg, hdbg, hm | ⟨hm, hv, hnn⟩⟩ := hc
        · exact ld_glob (X := X.suite a ((a, oe3) :: (X.pn ++ pins))) S3 hg hm q hdbg
        · exact ld_blt (X := X.suite a ((a, oe3) :: (X.pn ++ pins))) S3 hg hm hv q hnn hdbg
      refine test (LM.here ?_)
      cases b with
      | false =>
        show wpAny _ X.A (handleBy (.ref a) X.env hds2) _ _ _
        exact ih (hno rfl)
      | true =>
        refine codeAny_handlers_suite_as (HandSPX.lands_againZ fl3 fun h4 fl4 up4 => ?_)
        have J4 : Inv X pins σ' H' { s' with heap := h4 } := J.landed nb fl4.1 ((up.trans up3).trans up4) os ag
        obtain ⟨oe4, vs4, he4, hz4, hd4⟩ := fl4.there
        have S4 := J4.suite he4 hd4 na nL nF
        refine store_ok (X := X.suite a ((a, oe4) :: (X.pn ++ pins))) (v := .ref a) S4 hN hi (.inl hln) rfl (fun s5 S5 => ?_) (.inr hln)
        refine wpAny_mono ((hsu a oe4 cls d (X.pn ++ pins) hz4 ⟨_, hd4⟩).run [] s5 _ H' _ S5 (hyes rfl a na)) (fun f s6 hsp => ?_) (fun _ _ z => False.elim z)
        have end_ : ∀ {σ6 : St} {H6 : Hp} {Q : Shared → Prop}, Inv (X.suite a ((a, oe4) :: (X.pn ++ pins))) [] σ6 H6 s6 → (∀ s7, Inv X pins (σ6.set i none) H6 s7 → Q s7) →
            wpAny (model X.prog X.w) X.A (do bindName X.env n .none; unbindBehindTheSuite X.env n pos') (fun _ s7 => Q s7) X.xe s6 := fun {σ6 H6 Q} S6 hq => gone_ok (S6.unsuite ok) hN hi hln hq
        cases f with
        | next =>
          obtain ⟨σ6, H6, S6, q6⟩ := hsp
          exact end_ S6 fun s7 J7 => ⟨_, _, J7, q6⟩
        | brk =>
          obtain ⟨σ6, H6, S6, q6⟩ := hsp
          exact end_ S6 fun s7 J7 => ⟨_, _, J7, q6⟩
        | cont =>
          obtain ⟨σ6, H6, S6, q6⟩ := hsp
          exact end_ S6 fun s7 J7 => ⟨_, _, J7, q6⟩
        | ret u =>
          obtain ⟨v6, σ6, H6, S6, r6, q6⟩ := hsp
          exact end_ S6 fun s7 J7 => ⟨_, _, _, J7, r6, q6⟩
  · cases f with
    | next =>
      obtain ⟨σ', H', J', q⟩ := hsp
      exact wpAny_execs_nil ⟨σ', H', J'.ofTry ok, q⟩
    | brk =>
      obtain ⟨σ', H', J', q⟩ := hsp
      exact ⟨σ', H', J'.ofTry ok, q⟩
    | cont =>
      obtain ⟨σ', H', J', q⟩ := hsp
      exact ⟨σ', H', J'.ofTry ok, q⟩
    | ret u =>
      obtain ⟨v, σ', H', J', r, q⟩ := hsp
      exact ⟨v, σ', H', J'.ofTry ok, r, q⟩
end
end L2

/-! PxMakeS: C(e, .., k = v, ..) within a try: what __init__ lets out is told of the slots -/
namespace Px
open PySem PySem.Spec PyProof.Rows L2
def tMakeKS (C : Addr) (n m : Nat) (sp : Sp) (gV : List V → List V → List V) (E : L2.St → XK) (t tk : TA) : TE := fun σ H Q => tMakeK C n m sp gV (E σ) t tk σ H Q
section
variable {X : Cx} {CX : CXT} {k n : Nat} {f C : Addr} {fd : FuncData} {ps ks : List Str} {sp : Sp} {x : Str} {p pos : Pos} {e : Expr} {es : List Expr} {kws : List Keyword} {t tk : TA} {g : List Value → List Value → List Value} {gV : List V → List V → List V}
theorem run_makeKS {pins : List (Addr × Obj)} {σ : L2.St} {H : Hp} {s : Shared} {Q : VK} {us ws : List Value} {vs zs : List V} {E : XK} (M : Mk X.K C f) (F : FnOk X.prog X.w X.K X.mg X.base CX k f fd ps sp) (hr : Room (k + 1) X.A) (hb : KBn X.K fd ps (n + 1) ks g gV) (hx : PassesAt CX X σ E)
    (I : Inv X pins σ H s) (r : Vals vs us) (rz : Vals zs ws) (l1 : vs.length = n) (l2 : zs.length = ks.length)
    (h : ∀ x dx, H x = none → H dx = none → dx ≠ x → sp (gV (.ref x :: vs) zs) (upd (upd H dx (.own x)) x (.ins C dx [])) (fun v H2 => v = .non ∧ Q (.ref x) H2) E) :
    wpAny (model X.prog X.w) X.A (call (.ref C) us (ks.zip ws)) (EP X pins σ Q) X.xe s := by
  have hq := h (s.heap.objs.size + 1) s.heap.objs.size (I.hok.fresh (Nat.le_succ _)) (I.hok.fresh (Nat.le_refl _)) (Nat.ne_of_lt (Nat.lt_succ_self _))
  have I2 := Inv.made (C := C) I
  have r1 : Vals (V.ref (s.heap.objs.size + 1) :: vs) (Value.ref (s.heap.objs.size + 1) :: us) := .cons rfl r
  have n1 : (Value.ref (s.heap.objs.size + 1) :: us).length = n + 1 := by rw [List.length_cons, ← r.length, l1]
  refine wpAny_call (make_map (f := f) I.kIn M.makes M.init (beq_iff_eq.mp M.fn) (codeAny_mono (F.run _ X.stack _ _ ⟨Value.ref (s.heap.objs.size + 1) :: us, ks.zip ws⟩ (g (Value.ref (s.heap.objs.size + 1) :: us) ws) _ _ E (hr.make C us (ks.zip ws))
    (I2.env0.make C us (ks.zip ws)) (hb.to _ (Value.ref (s.heap.objs.size + 1) :: us) ws I2.kIn n1 (rz.length.symm.trans l2)) (hb.rel r1 rz) hq) fun r s' hq' => ?_))
  cases r with
  | error e => exact hx pins _ _ e s' I2 hq'
  | ok fl =>
    cases fl with
    | ret u =>
      obtain ⟨v, H', I3, rv, ev, q3⟩ := I2.after hq'
      subst ev
      exact ⟨rv, ⟨V.ref (s.heap.objs.size + 1), H', I3, rfl, q3⟩⟩
    | next => exact False.elim hq'
    | brk => exact False.elim hq'
    | cont => exact False.elim hq'
theorem pe_makeKS {E : L2.St → XK} (M : Mk X.K C f) (F : FnOk X.prog X.w X.K X.mg X.base CX k f fd ps sp) (hr : Room (k + 1) X.A) (hg : Gl X x) (hm : X.mg x = some (.ref C)) (hb : KBn X.K fd ps (n + 1) ks g gV) (hx : ∀ σ, PassesAt CX X σ (E σ)) (ha : PA X (e :: es) t) (hkw : PK X kws tk)
    (hall : (backToKw pos (keywordEach kws X.env)).all (·.1.isSome) = true := by rfl) (hks : (backToKw pos (keywordEach kws X.env)).filterMap (·.1) = ks := by rfl) (hdb : (x == ("__debug__" : Str)) = false := by decide)
    (he : starEach (e :: es) X.env = (false, eval e X.env) :: starEach es X.env := by rfl) (hpl : ((backTo pos (starEach (e :: es) X.env)).any (·.1) || (backToKw pos (keywordEach kws X.env)).any (·.1.isNone)) = false := by rfl) :
    PE X (.Call (.Name x p) (e :: es) kws pos) (tMakeKS C n ks.length sp gV E t tk) := by
  refine ⟨fun pins s σ H Q I h => ?_⟩
  refine wpAny_Call_Name_kw (ld_glob I hg hm ?_ hdb)
  refine PySem.W.callWith_KW (h₀ := X.base) I.ok.mod.kin M.kp hall (thn (ha.run pos pins s σ H _ I h) fun us s1 ⟨vs, H1, I1, r, q⟩ => ?_) hpl he
  refine thn (hkw.run pos pins s1 σ H1 _ I1 q) fun ws s2 ⟨zs, H2, I2, rz, l1, l2, q2⟩ => ⟨I2.kIn, ?_⟩
  rw [hks]
  exact run_makeKS M F hr hb (hx σ) I2 r rz l1 l2 q2
end
end Px

/-! PxIsXT: isinstance(e, (c1, c2, ..)), e the exception that the suite holds -/
namespace Px
open PySem PySem.Spec PyProof.Rows L2
def rIsXT (K : PySem.W.Frag) (a : Addr) (cls : Value) (d : Option Addr) : List V → Hp → VK → Prop := fun xs H Q => ∃ (D tp : Addr) (cs : List V) (us : List Value) (b : Bool), xs = [.ref a, .ref tp] ∧ H tp = some (.tup cs) ∧ Paired ClsV cs us ∧ cls = .ref D ∧ ExcA K D ∧ (d = none ∨ ∃ dd fs, d = some dd ∧ H dd = some (.xd fs)) ∧ PySem.W.kitAny K (.ref D) us = some b ∧ Q (.bl b) H
theorem call_isXT {X : Cx} {a : Addr} {cls : Value} {d : Option Addr} {oe : Obj} {pn : List (Addr × Obj)} (hz : Zc cls d oe) (hf : ∃ vs, oe.data = .fields vs) : CallR (X.suite a ((a, oe) :: pn)) (.builtin "isinstance") (rIsXT X.K a cls d) := by
  intro pins s σ H xs us Q I r h
  obtain ⟨D, tp, cs, ws, b, rfl, hT, k, rfl, C, hd, e, q⟩ := h
  obtain ⟨u1, u2, rfl, r1, r2⟩ := vals2 r
  obtain rfl : u1 = Value.ref a := r1
  cases (show u2 = Value.ref tp from r2)
  obtain ⟨hget, _⟩ := I.pin (a, oe) (List.mem_append.mpr (.inl List.mem_cons_self))
  obtain ⟨vs, hv⟩ := hf
  have J : ∃ od, PySem.W.InstAt s.heap a oe D od := by
    rcases hd with rfl | ⟨dd, fs, rfl, hdd⟩
    · exact ⟨none, hget, hz.1, by unfold PySem.W.notCls; rw [hv] <;> rfl, by rw [hz.2]; trivial⟩
    · have hx : ObjOk X.prog X.w H s.heap dd (.xd fs) := I.hok dd _ hdd
      obtain ⟨mA, hns, hr⟩ := hx
      obtain ⟨od, ho, hl⟩ := lookIn_ns hns
      exact ⟨some od, hget, hz.1, by unfold PySem.W.notCls; rw [hv] <;> rfl, by rw [hz.2]; exact ho⟩
  obtain ⟨od, J⟩ := J
  have hcl : (PySem.W.clsIn X.K D).isSome = true := by
    have := C.xf.hdC
    unfold PySem.W.hasDictIn at this
    cases z : PySem.W.clsIn X.K D with
    | none => rw [z] at this; cases this
    | some _ => rfl
  obtain ⟨_, its, rv, o, h1, h2, n, h3⟩ := (show ObjOk X.prog X.w H s.heap tp (.tup cs) from I.hok tp _ hT)
  have e3 := ClsV.all k rv
  subst e3
  obtain ⟨oc, odd, dt, sl⟩ := o
  simp only at h2 h3
  subst h2 h3
  exact PySem.W.kia_tup (PySem.W.kitx_exc hcl C.xf.ga C.xf.gg C.xf.exC C.ha C.hn C.ht C.hm) I.kIn J h1 e (fun z => nomatch z) fun tk => ⟨.bl b, H, I.kept (t' := tk) fun _ _ z => z, rfl, q⟩
end Px

/-! PxOwnEq: o == v, o != v by o's own __eq__, v of any kind; repr(o) by o's own __repr__ -/
namespace Px
open PySem PySem.Spec PyProof.Rows L2 ClX
section
variable {prog : Program} {w : World} {A : Around} {E : Value → Shared → Prop} {s : Shared} {K : PySem.W.Frag} {x C f : Addr} {ox : Obj} {od : Option Obj} {b t : Value}
/-- the right one's class is the left one's, or none under it -/
def RightLast (K : PySem.W.Frag) (C : Addr) (t : Value) : Prop := t = .ref C ∨ PySem.W.kitOne K t (.ref C) = some false
theorem RightLast.sub {h : Heap} {M : Model} (X : K.In h) (r : RightLast K C t) : t = .ref C ∨ ((Value.ref C != t) = true ∧ PySem.W.Looks M h (isSubtype t (.ref C)) false) := by
  rcases r with r | r
  · exact .inl r
  · refine .inr ?_
    unfold PySem.W.kitOne at r
    by_cases q : (t == Value.ref C) = true
    · rw [if_pos q] at r
      cases r
    · rw [if_neg q] at r
      refine ⟨?_, (PySem.W.kit_cls X r).2.2⟩
      by_cases z : Value.ref C = t
      · rw [← z] at q
        exact absurd (by simp) q
      · simpa using z
theorem rc_eqOwn {Q : Value → Shared → Prop} (hu : A.units < cLine) (X : K.In s.heap) (I : PySem.W.InstAt s.heap x ox C od) (hb : PySem.W.Looks (model prog w) s.heap (typeOf b) t) (ht : RightLast K C t)
    (hs : PySem.W.findIn K (.ref C) "__eq__" = some (some (.ref f))) (hf : PySem.W.isFn K (.ref f) = true)
    (h : wpAny (model prog w) A (call (.ref f) [.ref x, b]) (fun v s' => ∃ r, v = .bool r ∧ Q (.bool r) s') E s) : wpAny (model prog w) A (richCompare .Eq (.ref x) b) Q E s := by
  have one : wpAny (model prog w) A (tryCompare (.ref x) "__eq__" b) (fun r s' => ∃ v, r = some v ∧ Q v s') E s := by
    unfold tryCompare
    refine wpAny_bind (PySem.W.ifBound_K X I hs hf (wpAny_mono h (fun v s' hv => ?_) fun _ _ e => e))
    obtain ⟨r, rfl, hq⟩ := hv
    exact wpAny_pure ⟨_, rfl, hq⟩
  unfold richCompare
  simp only [oneThing_ref]
  refine wpAny_holding (wpAny_bind (wpAny_cRoomFor hu ?_))
  refine wpAny_bind (I.type.here (wpAny_bind (hb.here ?_)))
  rw [cmpInfo_Eq]
  rcases ht.sub (M := model prog w) X with rfl | ⟨q, hsub⟩
  · rw [show (Value.ref C != Value.ref C) = false from by simp]
    simp only [Bool.false_eq_true, if_false]
    refine wpAny_bind (wpAny_pure ?_)
    simp only [Bool.false_eq_true, if_false]
    refine wpAny_bind (wpAny_mono one (fun r s' z => ?_) fun _ _ e => e)
    obtain ⟨v, rfl, hq⟩ := z
    exact wpAny_pure hq
  · rw [q]
    simp only [if_true]
    refine wpAny_bind (hsub.here ?_)
    simp only [Bool.false_eq_true, if_false]
    refine wpAny_bind (wpAny_mono one (fun r s' z => ?_) fun _ _ e => e)
    obtain ⟨v, rfl, hq⟩ := z
    exact wpAny_pure hq
theorem rc_neOwnA {Q : Value → Shared → Prop} (hu : A.units + 1 < cLine) (X : K.In s.heap) (I : PySem.W.InstAt s.heap x ox C od) (hb : PySem.W.Looks (model prog w) s.heap (typeOf b) t) (ht : RightLast K C t) (N : NeC K C)
    (hs : PySem.W.findIn K (.ref C) "__eq__" = some (some (.ref f))) (hf : PySem.W.isFn K (.ref f) = true)
    (h : wpAny (model prog w) A.in1 (call (.ref f) [.ref x, b]) (fun v s' => ∃ r, v = .bool r ∧ Q (.bool (!r)) s') E s) : wpAny (model prog w) A (richCompare .NotEq (.ref x) b) Q E s := by
  have sub : PySem.W.Looks (model prog w) s.heap (isInstance (.ref x) (.type "object")) true := I.type.andThen (PySem.W.looks_mroIn X N.ob)
  have one : wpAny (model prog w) A (tryCompare (.ref x) "__ne__" b) (fun r s' => ∃ v, r = some v ∧ Q v s') E s := by
    unfold tryCompare
    refine wpAny_bind (ifBound_B X I N.ne PySem.F.cmp_object.ne (wpAny_call (codeAny_call_builtin PySem.F.cmp_object.ne.plain PySem.F.cmpEntry_ne
      (PySem.W.check_slot PySem.F.cmpKind_ne PySem.F.cmpSplit_ne sub (PySem.F.cmpArgs_ne _ _) (objNe_own (A := A.in1) X I hs hf hu (wpAny_mono h (fun v s' hv => ?_) fun _ _ e => e))))))
    obtain ⟨r, rfl, hq⟩ := hv
    exact ⟨r, rfl, wpAny_pure ⟨_, rfl, hq⟩⟩
  unfold richCompare
  simp only [oneThing_ref]
  refine wpAny_holding (wpAny_bind (wpAny_cRoomFor (Nat.lt_of_succ_lt hu) ?_))
  refine wpAny_bind (I.type.here (wpAny_bind (hb.here ?_)))
  rw [cmpInfo_NotEq]
  rcases ht.sub (M := model prog w) X with rfl | ⟨q, hsub⟩
  · rw [show (Value.ref C != Value.ref C) = false from by simp]
    simp only [Bool.false_eq_true, if_false]
    refine wpAny_bind (wpAny_pure ?_)
    simp only [Bool.false_eq_true, if_false]
    refine wpAny_bind (wpAny_mono one (fun r s' z => ?_) fun _ _ e => e)
    obtain ⟨v, rfl, hq⟩ := z
    exact wpAny_pure hq
  · rw [q]
    simp only [if_true]
    refine wpAny_bind (hsub.here ?_)
    simp only [Bool.false_eq_true, if_false]
    refine wpAny_bind (wpAny_mono one (fun r s' z => ?_) fun _ _ e => e)
    obtain ⟨v, rfl, hq⟩ := z
    exact wpAny_pure hq
end
/-- the right one: of the class at C, or of a class that is not under it -/
def RightV (K : PySem.W.Frag) (C : Addr) (H : Hp) (y : V) : Prop := (∃ b dy gs, y = .ref b ∧ H b = some (.ins C dy gs)) ∨ ∃ t, TyX K H y t ∧ PySem.W.kitOne K t (.ref C) = some false
theorem RightV.looks {X : Cx} {pins : List (Addr × Obj)} {σ : L2.St} {H : Hp} {s : Shared} {C : Addr} {y : V} {u : Value} (I : Inv X pins σ H s) (ry : RelV y u) (r : RightV X.K C H y) : ∃ t, RightLast X.K C t ∧ PySem.W.Looks (model X.prog X.w) s.heap (typeOf u) t := by
  rcases r with ⟨b, dy, gs, rfl, hb⟩ | ⟨t, ty, k⟩
  · cases ry
    obtain ⟨mB, J, _⟩ := ins_get I.hok hb
    obtain ⟨od, J, _⟩ := J.look
    exact ⟨_, .inl rfl, J.type⟩
  · obtain ⟨P, Z, p, _⟩ := kit_of I ry ty
    exact ⟨t, .inr k, Z.ty _ _ I.kIn p⟩
def rEqOwnA (K : PySem.W.Frag) (C : Addr) (sp : Sp) (E : XK) : R2 := fun x y H Q => ∃ a dx fs, x = .ref a ∧ H a = some (.ins C dx fs) ∧ RightV K C H y ∧ sp [.ref a, y] H (fun v H' => ∃ k, v = .bl k ∧ Q (.bl k) H') E
def rNeOwnA (K : PySem.W.Frag) (C : Addr) (sp : Sp) (E : XK) : R2 := fun x y H Q => ∃ a dx fs, x = .ref a ∧ H a = some (.ins C dx fs) ∧ RightV K C H y ∧ sp [.ref a, y] H (fun v H' => ∃ k, v = .bl k ∧ Q (.bl (!k)) H') E
section
variable {X : Cx} {CX : CXT} {k : Nat} {C f : Addr} {fd : FuncData} {ps : List Str} {sp : Sp} {E : XK}
theorem op_eqOwnA (F : FnOk X.prog X.w X.K X.mg X.base CX k f fd ps sp) (hr : Room k X.A) (D : Meth X.K C "__eq__" f) (hb : Binds X.K fd ps []) (hx : Passes CX X E) : OpR X (compareOp .Eq) (rEqOwnA X.K C sp E) := by
  intro pins s σ H x y v u Q I rx ry hq
  obtain ⟨a, dx, fs, rfl, ha, hR, q⟩ := hq
  cases rx
  obtain ⟨mA, J, _⟩ := ins_get I.hok ha
  obtain ⟨od, J, _⟩ := J.look
  obtain ⟨t, hL, hT⟩ := hR.looks I ry
  show wpAny (model X.prog X.w) X.A (richCompare .Eq (.ref a) u) _ _ _
  refine rc_eqOwn hr.units0 I.kIn J hT hL D.at_ D.fn ?_
  have hl := F.len _ _ _ _ q
  have r2 : Vals [V.ref a, y] [Value.ref a, u] := .cons rfl (.cons ry .nil)
  refine wpAny_call (codeAny_mono (F.run X.A X.stack s H ⟨[.ref a, u], []⟩ [.ref a, u] [.ref a, y] _ E hr I.env0 (by
    have := hb s [.ref a, u] I.kIn (by simpa using hl)
    simpa using this) r2 q) fun r s' hq => ?_)
  cases r with
  | error e => exact hx pins σ H s e s' I hq
  | ok fl =>
    cases fl with
    | ret w =>
      obtain ⟨z, H', I', rz, n, ez, q'⟩ := I.after hq
      subst ez
      cases rz
      exact ⟨n, rfl, .bl n, H', I', rfl, q'⟩
    | next => exact False.elim hq
    | brk => exact False.elim hq
    | cont => exact False.elim hq
theorem op_neOwnA (F : FnOk X.prog X.w X.K X.mg X.base CX k f fd ps sp) (hr : Room (k + 1) X.A) (N : NeC X.K C) (D : Meth X.K C "__eq__" f) (hb : Binds X.K fd ps []) (hx : Passes CX X E) : OpR X (compareOp .NotEq) (rNeOwnA X.K C sp E) := by
  intro pins s σ H x y v u Q I rx ry hq
  obtain ⟨a, dx, fs, rfl, ha, hR, q⟩ := hq
  cases rx
  obtain ⟨mA, J, _⟩ := ins_get I.hok ha
  obtain ⟨od, J, _⟩ := J.look
  obtain ⟨t, hL, hT⟩ := hR.looks I ry
  show wpAny (model X.prog X.w) X.A (richCompare .NotEq (.ref a) u) _ _ _
  refine rc_neOwnA (hr.in1).units0 I.kIn J hT hL N D.at_ D.fn ?_
  have hl := F.len _ _ _ _ q
  have r2 : Vals [V.ref a, y] [Value.ref a, u] := .cons rfl (.cons ry .nil)
  refine wpAny_call (codeAny_mono (F.run X.A.in1 X.stack s H ⟨[.ref a, u], []⟩ [.ref a, u] [.ref a, y] _ E hr.in1 I.env0.in1 (by
    have := hb s [.ref a, u] I.kIn (by simpa using hl)
    simpa using this) r2 q) fun r s' hq => ?_)
  cases r with
  | error e => exact hx pins σ H s e s' I hq
  | ok fl =>
    cases fl with
    | ret w =>
      obtain ⟨z, H', I', rz, n, ez, q'⟩ := I.after hq
      subst ez
      cases rz
      exact ⟨n, rfl, .bl (!n), H', I', rfl, q'⟩
    | next => exact False.elim hq
    | brk => exact False.elim hq
    | cont => exact False.elim hq
end
end Px

/-! PxOwnRepr: repr(o) by o's own __repr__ -/
namespace Px
open PySem PySem.Spec PyProof.Rows L2
section
variable {prog : Program} {w : World} {A : Around} {E : Value → Shared → Prop} {s : Shared} {K : PySem.W.Frag} {x C f : Addr} {ox : Obj} {od : Option Obj}
theorem repr_ownK {Q : Value → Shared → Prop} (X : K.In s.heap) (I : PySem.W.InstAt s.heap x ox C od) (hu : A.in1.units < cLine) (hs : PySem.W.findIn K (.ref C) "__repr__" = some (some (.ref f))) (hf : PySem.W.isFn K (.ref f) = true)
    (h : wpAny (model prog w) A.in1 (call (.ref f) [.ref x]) (fun r s' => ∃ m tk, r = .str m tk ∧ Q (.str m tk) s') E s) : wpAny (model prog w) A (call (.builtin "repr") [.ref x]) Q E s := by
  refine Calls.call_function_entry F.kind_repr F.plain_repr F.entry_repr (F.args_repr1 _) ?_
  unfold Builtin.«repr»
  refine wpAny_bind (m := oneArg "repr" _) (wpAny_pure ?_)
  refine wpAny_bind (wpAny_cRoomFor hu ?_)
  unfold specialOf
  refine wpAny_bind (wpAny_bind (I.type.here ((PySem.W.looks_findIn X hs).here ?_)))
  show wpAny _ _ (if (some (Value.ref f)).isNone = true then _ else _) _ _ _
  rw [if_neg (by simp)]
  refine wpAny_bind (m := callSpecialIfBound? (.ref x) (Str.ofString "__repr__") _) (PySem.W.ifBound_K X I hs hf (wpAny_mono h (fun r s' hr => ?_) fun _ _ y => y))
  obtain ⟨m, tk, rfl, hq⟩ := hr
  refine wpAny_bind (wpAny_isInstance (typeIs_str _ _ _) isSubtype_str_str ?_)
  first
    | exact wpAny_pure ⟨_, rfl, hq⟩
    | (rw [if_pos rfl]; exact wpAny_pure ⟨_, rfl, hq⟩)
    | (simp only [if_true]; exact wpAny_pure ⟨_, rfl, hq⟩)
end
def rReprOwn (C : Addr) (sp : Sp) (E : XK) : List V → Hp → VK → Prop := fun xs H Q => ∃ a dx fs, xs = [.ref a] ∧ H a = some (.ins C dx fs) ∧ sp [.ref a] H (fun v H' => ∃ z : Str, v = .str z ∧ Q (.str z) H') E
section
variable {X : Cx} {CX : CXT} {k : Nat} {C f : Addr} {fd : FuncData} {ps : List Str} {sp : Sp} {E : XK}
theorem call_reprOwn (F : FnOk X.prog X.w X.K X.mg X.base CX k f fd ps sp) (hr : Room (k + 1) X.A) (D : Meth X.K C "__repr__" f) (hb : Binds X.K fd ps []) (hx : Passes CX X E) : CallR X (.builtin "repr") (rReprOwn C sp E) := by
  intro pins s σ H xs us Q I r h
  obtain ⟨a, dx, fs, rfl, ha, q⟩ := h
  obtain ⟨u, rfl, ru⟩ := vals1 r
  obtain rfl : u = Value.ref a := ru
  obtain ⟨mA, J, _⟩ := ins_get I.hok ha
  obtain ⟨od, J, _⟩ := J.look
  refine repr_ownK I.kIn J hr.in1.units0 D.at_ D.fn ?_
  have hl := F.len _ _ _ _ q
  have r2 : Vals [V.ref a] [Value.ref a] := .cons rfl .nil
  refine wpAny_call (codeAny_mono (F.run X.A.in1 X.stack s H ⟨[.ref a], []⟩ [.ref a] [.ref a] _ E hr.in1 I.env0.in1 (by
    have := hb s [.ref a] I.kIn (by simpa using hl)
    simpa using this) r2 q) fun r s' hq => ?_)
  cases r with
  | error e => exact hx pins σ H s e s' I hq
  | ok fl =>
    cases fl with
    | ret w =>
      obtain ⟨z, H', I', rz, n, ez, q'⟩ := I.after hq
      subst ez
      obtain ⟨t, rfl⟩ := rz
      exact ⟨n, t, rfl, .str n, H', I', ⟨_, rfl⟩, q'⟩
    | next => exact False.elim hq
    | brk => exact False.elim hq
    | cont => exact False.elim hq
theorem op_notInOwn (F : FnOk X.prog X.w X.K X.mg X.base CX k f fd ps sp) (hr : Room k X.A) (D : Meth X.K C "__contains__" f) (hb : Binds X.K fd ps []) (hx : Passes CX X E) : OpR X (compareOp .NotIn) (rInOwn C sp E fun b => !b) := by
  intro pins s σ H x y v u Q I rx ry h
  obtain ⟨a, dx, fs, rfl, ha, q⟩ := h
  cases (show u = Value.ref a from ry)
  show wpAny _ _ (contains (.ref a) v >>= fun b => pure (Value.bool (!b))) _ _ _
  refine wpAny_bind (wpAny_mono (contains_ok F hr D hb hx I rx ha (Q := fun r H' => Q (.bl (!r)) H') q) (fun r s' z => ?_) fun _ _ e => e)
  obtain ⟨H', I', q'⟩ := z
  exact wpAny_pure ⟨.bl (!r), H', I', rfl, q'⟩
end
end Px

/-! PxInsNo: values of the kinds that a law names are no instances of an own class -/
namespace Px
open PySem PySem.Spec PyProof.Rows L2
def NoC (K : PySem.W.Frag) (C : Addr) : Prop := ∀ t ∈ ["int", "bool", "str", "NoneType", "list", "tuple"], PySem.W.kitOne K (.type t) (.ref C) = some false
def fNo (C : Str) : Fact := fun K => ["int", "bool", "str", "NoneType", "list", "tuple"].all fun t => decide (PySem.W.kitOne K (.type t) (.ref (He.ga K C)) = some false)
theorem fNo_ok {C : Str} {K : PySem.W.Frag} (h : fNo C K = true) : NoC K (He.ga K C) := fun t ht => of_decide_eq_true (List.all_eq_true.mp h t ht)
theorem Kd.mem {H : Hp} {v : V} {t : String} (k : Kd H v t) : t ∈ ["int", "bool", "str", "NoneType", "list", "tuple"] := by
  cases k <;> simp
theorem RightV.kd {K : PySem.W.Frag} {C : Addr} {H : Hp} {v : V} {t : String} (n : NoC K C) (k : Kd H v t) : RightV K C H v := .inr ⟨_, .base k.ty, n t k.mem⟩
theorem r_isNo {K : PySem.W.Frag} {C : Addr} {H : Hp} {Q : VK} {v : V} {t : String} (n : NoC K C) (k : Kd H v t) (h : Q (.bl false) H) : rIsi K [v, .ref C] H Q := r_isi (.own C) (.base k.ty) (n t k.mem) h
end Px

namespace Px
open PySem PySem.Spec PyProof.Rows L2
/-! ### text * number, longer texts -/
def rMulT : R2 := fun x y H Q => ∃ (a : Str) (n : Nat), x = .str a ∧ y = .int n ∧ a.length ≤ 1000 ∧ n ≤ 100 ∧ Q (.str (strRep a n)) H
theorem op_mulT {X : Cx} : OpR X (binaryOp .Mult) rMulT := by
  intro pins s σ H x y v u Q I rx ry h
  obtain ⟨a, n, rfl, rfl, ha, hn, q⟩ := h
  obtain ⟨t, rfl⟩ := rx
  obtain ⟨t2, rfl⟩ := ry
  have dv : 1000 ≤ (2 ^ 63 - 1 : Int) / (1000 : Int) := by decide
  refine PySem.P.mul_str (by
    rw [decide_eq_false (by omega), decide_eq_false (by omega)]; rfl) (fun h1 _ z => ?_) (fun h1 _ => ?_) ?_
  · have h3 : (1000 : Int) ≤ (2 ^ 63 - 1) / (n : Int) := (Int.le_ediv_iff_mul_le (by omega)).mpr (by omega)
    omega
  · unfold Builtin.Str.tooLong
    rw [Int.toNat_natCast]
    refine decide_eq_false ?_
    have : a.length * n ≤ 1000 * 100 := Nat.mul_le_mul ha hn
    have := sizeLine_eq
    omega
  by_cases h1 : (n : Int) < 1
  · rw [if_pos h1]
    have e : n = 0 := by omega
    subst e
    exact ⟨by decide, ⟨.str (strRep a 0), H, I.tok _, ⟨_, rfl⟩, q⟩⟩
  · rw [if_neg h1]
    by_cases h2 : ((n : Int) == 1 || a.length == 0) = true
    · rw [if_pos h2]
      have e : strRep a n = a := by
        unfold strRep
        rcases Bool.or_eq_true_iff.mp h2 with z | z
        · have z := beq_iff_eq.mp z
          have : n = 1 := by omega
          subst this
          simp
        · have z : a.cps.size = 0 := beq_iff_eq.mp z
          have : a.cps = #[] := Array.eq_empty_of_size_eq_zero z
          have e2 : a = ⟨#[]⟩ := by
            show a = _
            rw [← this]
          rw [e2]
          simp
      rw [e] at q
      exact ⟨.str a, H, I, ⟨_, rfl⟩, q⟩
    · rw [if_neg h2]
      have e : (⟨(List.replicate (Int.toNat n) a.cps).foldl (· ++ ·) #[]⟩ : Str) = strRep a n := by
        rw [rep_fold, Int.toNat_natCast]
        unfold strRep
        simp
      rw [e]
      refine ⟨?_, ⟨.str (strRep a n), H, I.tok _, ⟨_, rfl⟩, q⟩⟩
      unfold strRep
      show (List.replicate n a.cps.toList).flatten.toArray.size ≤ sizeLine
      have : a.cps.toList.length ≤ 1000 := by rw [Array.length_toList]; exact ha
      simp only [List.size_toArray, List.length_flatten, List.map_replicate, List.sum_replicate_nat]
      have h5 : n * a.cps.toList.length ≤ 100 * 1000 := Nat.mul_le_mul hn this
      rw [sizeLine_eq]
      omega
end Px

/-! PxLam: a lambda without parameters kept as a value, and handed to a def that calls it -/
namespace Px
open PySem PySem.Spec PyProof.Rows L2 LamX NdefX
/-- a made lambda: its words, the cells that it captured, its code object -/
structure LF where
  qual : Str
  params : Arguments
  body : Expr
  scope : Scope
  cl : List (Str × Addr)
  c : Addr
abbrev LF.obj (F : LF) (pm ctv : Value) : Obj := PySem.W.kla_obj "<lambda>" F.qual F.params F.body F.scope F.cl pm F.c ctv
/-- the object at f is the lambda F; G: what is known of it -/
def LamO (f : Addr) (F : LF) (G : Prop) : HO := .ext fun h => (∃ pm ctv : Value, h.get? f = some (F.obj pm ctv)) ∧ G
theorem lamO_ne {f : Addr} {F : LF} {G : Prop} (ps : Array Value) : LamO f F G ≠ .tbl ps := fun z => by
  unfold LamO at z
  cases z
theorem lamO_at {P : Program} {w : World} {H : Hp} {h : Heap} {f : Addr} {F : LF} {G : Prop} (hok : HOk P w H h) (e : H f = some (LamO f F G)) : (∃ pm ctv : Value, h.get? f = some (F.obj pm ctv)) ∧ G := by
  obtain ⟨z, _, _⟩ := hok f _ e
  exact z
section
variable {X : Cx} {pins : List (Addr × Obj)} {σ : L2.St} {H HZ : Hp} {s s1 : Shared}
/-- a lambda just made is known from now on -/
theorem inv_lam {F : LF} {G : Prop} {o : Obj} {t' : Nat} {pm ctv : Value} (g : G) (I : Inv X pins σ H s) (ho : o = F.obj pm ctv) :
    Inv X pins σ (upd H s.heap.objs.size (LamO s.heap.objs.size F G)) { s with heap := s.heap.push o, toks := t' } := by
  subst ho
  refine I.laid (a := s.heap.objs.size) (fun b u e => Heap.get?_push_of_some _ e) (Nat.le_refl _) ?_
  have e : (s.heap.push (F.obj pm ctv)).get? s.heap.objs.size = some (F.obj pm ctv) := Heap.get?_push_size _ rfl
  exact ⟨⟨⟨pm, ctv, e⟩, g⟩, ⟨_, e⟩, fun h1 h2 ⟨⟨p, t, z⟩, g⟩ st => ⟨⟨p, t, st _ z⟩, g⟩⟩
abbrev lfOf (X : Cx) (params : Arguments) (body : Expr) (scope : Scope) (c' : Addr) : LF := ⟨X.env.qual ++ "<lambda>", params, body, scope, cloFrom X.env.cells scope.names [], c'⟩
/-- the table with one code object more -/
abbrev more (H : Hp) (P c' : Addr) (q : Str) (pos : Pos) (ps : Array Value) : Hp := upd (upd H P (.tbl (ps ++ #[rawInt pos.line, rawInt pos.col, .ref c']))) c' (CodeO c' q)
theorem more_ext {P c' : Addr} {q : Str} {pos : Pos} {ps : Array Value} (hP : H P = some (.tbl ps)) (nC : H c' = none) : ExtN H (more H P c' q pos ps) := fun b o e n => by
  have n1 : b ≠ c' := ne_of_none e nC
  have n2 : b ≠ P := fun z => by
    rw [z, hP] at e
    exact n ps (Option.some.inj e).symm
  exact ((upd_ne n1).trans (upd_ne n2)).trans e
theorem more_tabs {T : List (Addr × Str)} {P c' : Addr} {q : Str} {pos : Pos} {ps : Array Value} (hT : Tabs T H) (hP : H P = some (.tbl ps)) (ok : TriplesOk ps.toList) (nC : H c' = none) (hu : ∀ p ∈ T, p.1 = P → p.2 = q) : Tabs T (more H P c' q pos ps) := by
  have ext := more_ext (q := q) (pos := pos) hP nC
  intro p hp
  obtain ⟨ps', a1, a2, a3⟩ := hT p hp
  have old : ∀ (p' : Pos) (cv : Value), codeAmong p' ps'.toList = some cv → ∃ c, cv = .ref c ∧ more H P c' q pos ps c = some (CodeO c p.2) := fun p' cv h => by
    obtain ⟨c, e, k⟩ := a3 p' cv h
    exact ⟨c, e, ext _ _ k codeO_ne⟩
  by_cases hb : p.1 = P
  · have e : ps' = ps := by
      rw [hb, hP] at a1
      cases a1
      rfl
    subst e
    refine ⟨_, by rw [hb]; exact (upd_ne (ne_of_none hP nC)).trans upd_same, ?_, fun p' cv h => ?_⟩
    · rw [Array.toList_append]
      exact PySem.TriplesOk_snoc _ _ _ _ ok
    · rw [Array.toList_append] at h
      rcases among_app _ ok h with z | z
      · exact old p' cv z
      · exact ⟨c', z, by rw [hu p hp hb]; exact upd_same⟩
  · exact ⟨ps', ((upd_ne (ne_of_none a1 nC)).trans (upd_ne hb)).trans a1, a2, old⟩
/-- a lambda is made and known from then on: its code object is new, or stands in the table -/
theorem lam_made {G : Prop} (g : G) {T : List (Addr × Str)} {c P : Addr} {params : Arguments} {body : Expr} {scope : Scope} {pos : Pos} {E : Value → Shared → Prop} {Q : Value → Shared → Prop} (I : Inv X pins σ H s) (TB : TabB X.base X.mg c P) (hcode : X.env.code = .ref c)
    (hm : (P, X.env.qual ++ "<lambda>") ∈ T) (hu : ∀ p ∈ T, p.1 = P → p.2 = X.env.qual ++ "<lambda>") (hT : Tabs T H) (hdef : defaultsOf params X.env = ([], [])) (hfree : ∀ y ∈ scope.names, y.2 = .free → ∃ c, X.env.cells.lookup y.1 = some c)
    (h : ∀ (f c' : Addr) (H1 : Hp) (s' : Shared), Inv X pins σ H1 s' → ExtN H H1 → (∀ b, H1 b = none → H b = none) → Tabs T H1 → H f = none → H1 f = some (LamO f (lfOf X params body scope c') G) → H1 c' = some (CodeO c' (X.env.qual ++ "<lambda>")) → Q (.ref f) s') :
    wpAny (model X.prog X.w) X.A (eval (.Lambda params body scope pos) X.env) Q E s := by
  obtain ⟨ps, hP, ok, known⟩ := hT _ hm
  have built : ∀ {H1 : Hp} {s1 : Shared} {c' : Addr} (tk : Nat) (ctv : Value), Inv X pins σ H1 s1 → ExtN H H1 → (∀ b, H1 b = none → H b = none) → Tabs T H1 → H1 c' = some (CodeO c' (X.env.qual ++ "<lambda>")) →
      Q (.ref s1.heap.objs.size) { s1 with heap := s1.heap.push ((lfOf X params body scope c').obj ((X.mg "__name__").getD .none) ctv), toks := tk } := fun {H1 s1 c'} tk ctv I1 ext nn T1 hc' => by
    have nF : H1 s1.heap.objs.size = none := I1.hok.fresh (Nat.le_refl _)
    have keep : ∀ b o, H1 b = some o → upd H1 s1.heap.objs.size (LamO s1.heap.objs.size (lfOf X params body scope c') G) b = some o := fun b o e => (upd_ne (ne_of_none e nF)).trans e
    exact h _ c' _ _ (inv_lam (t' := tk) g I1 rfl) (fun b o e n => keep b o (ext b o e n)) (fun b e => nn b (upd_none e)) (T1.ext keep) (nn _ nF) upd_same (keep _ _ hc')
  have bmP := TB.bm.keeps I.bk
  have atP : s.heap.get? P = some { cls := .none, data := .fields ps } := I.hok P _ hP
  refine PySem.W.kla_eval hdef ?_
  cases hc : codeAmong pos ps.toList with
  | some cv =>
    obtain ⟨c', rfl, hco⟩ := known pos cv hc
    refine PySem.W.kla_makeFunctionHit (closure_ok hfree) I.ok.glob (I.mod.glob.keeps I.bk) hcode (TB.code.keeps I.bk) atP ok hc bmP fun ctv h' tk hx _ => ?_
    exact built (s1 := { s with heap := h', toks := tk }) tk ctv (I.kept hx) (ExtN.refl H) (fun _ e => e) hT hco
  | none =>
    refine PySem.W.kla_makeFunction (closure_ok hfree) I.ok.glob (I.mod.glob.keeps I.bk) hcode (TB.code.keeps I.bk) atP ok hc TB.gP bmP fun c' ctv h' tk hx hge hlt hrec htb => ?_
    obtain ⟨c2, oc, vs, t, e2, hoc, hd, hv⟩ := hrec
    cases e2
    have nC : H c' = none := I.hok.fresh hge
    exact built (s1 := { s with heap := h', toks := tk }) tk ctv (inv_table (t' := tk) I hP (fun b o hb e => hx b o hb e) htb hge ⟨oc, vs, t, hoc, hd, hv⟩) (more_ext hP nC) (fun _ e => upd_none (upd_none e)) (more_tabs hT hP ok nC hu) upd_same
end
/-- a lambda: its words by its code object's place, its body's reading -/
abbrev LamD := (Addr → LF) × (XK → TE)
/-- the reading of lambda: .. as a value -/
def tLamV (T : List (Addr × Str)) (G : LamD → Prop) (d : LamD) : TE := fun σ H Q => Tabs T H ∧ ∀ (f c' : Addr) (H1 : Hp), ExtN H H1 → (∀ b, H1 b = none → H b = none) → Tabs T H1 → H f = none → H1 f = some (LamO f (d.1 c') (G d)) → H1 (d.1 c').c = some (CodeO (d.1 c').c (d.1 c').qual) → Q (.ref f) H1
/-- what is asked of a lambda -/
structure LamOk (X : Cx) (k : Nat) (d : LamD) : Prop where
  ex : ∃ (params : Arguments) (body : Expr) (scope : Scope), d.1 = lfOf X params body scope ∧ LamS X.env.scope scope ∧
    (∀ (pm cv ctv : Value), bindArgs (PySem.W.kla_fn "<lambda>" (X.env.qual ++ "<lambda>") params body scope (cloFrom X.env.cells scope.names []) pm cv ctv) ⟨[], []⟩ = pure []) ∧
    ∀ (A : Around) (outer : List Env) (s : Shared) (H : Hp) (E : XK) (f c' : Addr), Room k (A.deeper (lamEnv X scope s.heap.objs.size f c')) → PE (lamCx X A outer s H E scope f c') body (d.2 E)
section
variable {X : Cx} {pins : List (Addr × Obj)} {σ : L2.St} {H HZ : Hp} {s s1 : Shared}
theorem pe_lamV {k : Nat} {t : XK → TE} {T : List (Addr × Str)} {c P : Addr} {params : Arguments} {body : Expr} {scope : Scope} {pos : Pos} (TB : TabB X.base X.mg c P) (hcode : X.env.code = .ref c)
    (hm : (P, X.env.qual ++ "<lambda>") ∈ T) (hu : ∀ p ∈ T, p.1 = P → p.2 = X.env.qual ++ "<lambda>") (L : LamS X.env.scope scope) (hdef : defaultsOf params X.env = ([], []))
    (hbind : ∀ (pm cv ctv : Value), bindArgs (PySem.W.kla_fn "<lambda>" (X.env.qual ++ "<lambda>") params body scope (cloFrom X.env.cells scope.names []) pm cv ctv) ⟨[], []⟩ = pure [])
    (hbody : ∀ (A : Around) (outer : List Env) (s : Shared) (H : Hp) (E : XK) (f c' : Addr), Room k (A.deeper (lamEnv X scope s.heap.objs.size f c')) → PE (lamCx X A outer s H E scope f c') body (t E)) :
    PE X (.Lambda params body scope pos) (tLamV T (LamOk X k) (lfOf X params body scope, t)) := by
  refine ⟨fun pins s σ H Q I h => ?_⟩
  obtain ⟨hT, h⟩ := h
  exact lam_made (⟨⟨params, body, scope, rfl, L, hbind, hbody⟩⟩ : LamOk X k (lfOf X params body scope, t)) I TB hcode hm hu hT hdef (L.has I.ok) fun f c' H1 s' I1 eN nn T1 f0 f1 c1 => ⟨.ref f, H1, I1, rfl, h f c' H1 eN nn T1 f0 f1 c1⟩
/-- a(), a the parameter that holds the lambda F at f -/
def tAct (i : Nat) (f : Addr) (F : LF) (G : Prop) (W : WX) (tl : XK → Hp → VK → Prop) : TE := fun σZ HZ Q => σZ[i]? = some (some (.ref f)) ∧ HZ f = some (LamO f F G) ∧ HZ F.c = some (CodeO F.c F.qual) ∧ tl (WE W σZ) HZ Q
/-- the lambda's run, wherever it is called: its body by what its maker's names held at s, which the run began behind -/
theorem lam_runs {G : Prop} {f c' : Addr} {params : Arguments} {body : Expr} {scope : Scope} {k : Nat} {t : TE} {E : XK} {Q : VK} {A : Around} {outer : List Env} (I : Inv X pins σ H s) (L : LamS X.env.scope scope) (e0 : Env0 X.prog X.w X.K X.mg X.base A outer s1 HZ) (hr : Room (k + 1) A)
    (un : Un (frs X.stack) [] H HZ s.heap s1.heap) (lim : s1.heap.NoLimit) (hl : HZ f = some (LamO f (lfOf X params body scope c') G)) (hc : HZ c' = some (CodeO c' (X.env.qual ++ "<lambda>")))
    (hbind : ∀ (pm cv ctv : Value), bindArgs (PySem.W.kla_fn "<lambda>" (X.env.qual ++ "<lambda>") params body scope (cloFrom X.env.cells scope.names []) pm cv ctv) ⟨[], []⟩ = pure [])
    (hbody : ∀ (A : Around) (outer : List Env) (s : Shared) (H : Hp), Room k (A.deeper (lamEnv X scope s.heap.objs.size f c')) → PE (lamCx X A outer s H E scope f c') body t) (ht : t σ HZ Q) :
    codeAny (model X.prog X.w) A (.call (.ref f) ⟨[], []⟩) (CR (L2.CX X.prog X.w) outer X.prog X.w HZ s1 Q E) s1 := by
  obtain ⟨⟨pm, ctv, obj⟩, _⟩ := lamO_at e0.hok hl
  refine PySem.W.kla_callFunE hr.depth obj rfl L.co L.gen rfl (codeO_at e0.hok hc) ?_
  rw [hbind]
  refine wpAny_pure (wpAny_newFunctionEnv (fun y hy => (L.own y hy).2) (fun _ hy => nomatch hy) (fun h₁ hns hsb => ⟨lim.fresh _ hsb, ?_⟩) L.kind)
  have keep : ∀ b o, s1.heap.get? b = some o → h₁.get? b = some o := fun b o e => hsb.extBut b o (Nat.ne_of_lt (Heap.lt_size e)) (Heap.get?_push_of_some _ e)
  have J := lam_start2 (E := E) (f := f) (c' := c') (tk := s1.toks + ([] : List (Str × Value)).length) I L e0 hr.hd un hns keep
  refine PySem.W.kla_codeExpr (wpAny_mono ((hbody A outer s1 HZ (hr.deeper _)).run [] _ _ HZ Q J ht) (fun v s' ⟨x, H', K, r, q⟩ => ?_) fun _ _ z => z)
  exact ⟨x, H', K.os, K.bare, K.base, K.hok, r, q⟩
theorem pe_actV {G : Prop} {CXg : CXT} {Eg : XK} {Ng : List Str} {qg : Str} {sg : Scope} {g f c' : Addr} {cdg : Value} {params : Arguments} {body : Expr} {scope : Scope} {k i : Nat} {a : Str} {pn : List (Addr × Obj)} {xe : Value → Shared → Prop} {W : WX} {t : XK → TE} {p1 p2 : Pos}
    (I : Inv X pins σ H s) (L : LamS X.env.scope scope)
    (hbind : ∀ (pm cv ctv : Value), bindArgs (PySem.W.kla_fn "<lambda>" (X.env.qual ++ "<lambda>") params body scope (cloFrom X.env.cells scope.names []) pm cv ctv) ⟨[], []⟩ = pure [])
    (tk : Takes ((cxOf CXg X.prog X.w X.K X.mg X.base Ng qg sg g cdg X.A X.stack s H Eg).tr pn xe) W) (hr : Room (k + 1) (X.A.deeper (envOfC qg sg s.heap.objs.size g cdg)))
    (hbody : ∀ (A : Around) (outer : List Env) (s : Shared) (H : Hp) (E : XK), Room k (A.deeper (lamEnv X scope s.heap.objs.size f c')) → PE (lamCx X A outer s H E scope f c') body (t E))
    (hN : Ng[i]? = some a) (hv : Vis sg a) (hd : (a == ("__debug__" : Str)) = false := by decide) (hcd : (a == ("__classdict__" : Str)) = false := by decide) :
    PE ((cxOf CXg X.prog X.w X.K X.mg X.base Ng qg sg g cdg X.A X.stack s H Eg).tr pn xe) (.Call (.Name a p1) [] [] p2) (tAct i f (lfOf X params body scope c') G W fun E H' Q' => t E σ H' Q') := by
  refine ⟨fun pinsZ sZ σZ HZ Q IZ ⟨hs, hl, hc, ht⟩ => ?_⟩
  have look := (pe_var (pos := p1) (i := i) hN hv hd hcd).run pinsZ sZ σZ HZ (fun v H1 => v = .ref f ∧ H1 = HZ) IZ ⟨.ref f, hs, rfl, rfl⟩
  refine wpAny_Call_Name_kw (thn look fun u s1 ⟨v, H1, I1, r1, ev, eH⟩ => ?_)
  subst ev eH
  cases r1
  obtain ⟨⟨pm, ctv, obj⟩, _⟩ := lamO_at I1.hok hl
  have run : codeAny (model X.prog X.w) (X.A.deeper (envOfC qg sg s.heap.objs.size g cdg)) (.call (.ref f) ⟨[], []⟩) (CR (L2.CX X.prog X.w) (envOfC qg sg s.heap.objs.size g cdg :: X.stack) X.prog X.w H1 s1 Q (WE W σZ)) s1 :=
    lam_runs (X := X) (t := t (WE W σZ)) I L I1.env0 hr I1.base I1.nolimit hl hc hbind (fun A outer s H r => hbody A outer s H (WE W σZ) r) ht
  refine PySem.W.callWith_F0 ⟨_, _, _, _, obj⟩ (wpAny_call (codeAny_mono run fun r s' hq => ?_))
  match r, hq with
  | .error e, hq => exact passAt tk σZ pinsZ H1 s1 e s' I1 hq
  | .ok (.ret u), hq => exact I1.after hq
  | .ok .next, hq => exact hq.elim
  | .ok .brk, hq => exact hq.elim
  | .ok .cont, hq => exact hq.elim
end
end Px

/-! PxLamC: [g(x) for x in xs], xs lambdas that were kept: the element is told with what the def's own names hold -/
namespace Px
open PySem PySem.Spec PyProof.Rows L2 LamX NdefX
abbrev LS := L2.St
/-- the block's context -/
abbrev Bk (X : Cx) (s : Shared) (H : Hp) (scope : Scope) (fp : List Addr) : Cx := X.blk s H scope (compEnvC scope (cellsFrom (s.heap.objs.size + 1) scope.names (cloFrom X.env.cells scope.names [])) s.heap.objs.size X.env) fp
/-- an element within a block, the def's own state at hand -/
def PEO (X B : Cx) (us : List Nat) (e : Expr) (te : TE) : Prop := ∀ (pins : List (Addr × Obj)) (s : Shared) (σ : LS) (H : Hp) (Q : VK) (pinsO : List (Addr × Obj)) (σO : LS), Inv B pins σ H s → (∀ (pins' : List (Addr × Obj)) (σ' : LS) (H' : Hp) (s' : Shared), Inv B pins' σ' H' s' → Inv X pinsO σO H' s') → wipe σ us = wipe σO us → te σ H Q →
  wpAny (model X.prog X.w) X.A (eval e B.env) (EP B pins σ Q) B.xe s
section
variable {X : Cx} {pins : List (Addr × Obj)} {s3 : Shared} {σ : LS} {H3 : Hp} {scope : Scope} {fp : List Addr} {us : List Nat}
/-- the marks of the iterator: nobody's but the block's -/
def Marks (X : Cx) (pins : List (Addr × Obj)) (H : Hp) (s : Shared) (fp : List Addr) : Prop := ∀ b ∈ fp, FpOk X pins H b ∧ b < s.heap.objs.size
/-- what the def knew is known still, whatever the block did -/
theorem Marks.out (M : Marks X pins H3 s3 fp) (I3 : Inv X pins σ H3 s3) {pins' : List (Addr × Obj)} {σ' : LS} {H' : Hp} {s' : Shared} (J : Inv (Bk X s3 H3 scope fp) pins' σ' H' s') : Inv X pins σ H' s' :=
  I3.call' (ch := fp) J.os J.base J.hok J.bare fun b hb =>
    have f := (M b hb).1
    ⟨f.2.2.2.1, f.2.1, f.2.2.2.2.1, f.2.2.2.2.2⟩
theorem marks_in {σ' : LS} {H' : Hp} {s' : Shared} (J : Inv (Bk X s3 H3 scope fp) [] σ' H' s') (hn : ∀ b ∈ fp, H' b = none) : ∀ b ∈ fp, FpOk (Bk X s3 H3 scope fp) [] H' b := fun b hb =>
  have e := J.ok.exf b hb
  ⟨hn b hb, e.1, J.ok.exfs b hb, Or.inl hb, fun x c z => e.2 x c z, fun _ hp => nomatch (show _ ∈ ([] : List (Addr × Obj)) from hp)⟩
/-- where a turn of the block begins -/
def AtTurn (X : Cx) (s3 : Shared) (H3 : Hp) (scope : Scope) (fp : List Addr) (us : List Nat) (σ : LS) (tn : Nat → Heap → Prop) (W : Nat → Nat → Hp → Prop) (m : Nat) (s' : Shared) : Prop :=
  ∃ i H', Inv (Bk X s3 H3 scope fp) [] (wipe σ us) H' s' ∧ tn i s'.heap ∧ (∀ b ∈ fp, H' b = none) ∧ W i m H'
/-- the turn's end: the next one begins -/
theorem at_next {tg : Expr} {J : It} {it : Addr} {tn : Nat → Heap → Prop} (T : Turn X.prog X.w X.K tg J fp it tn) {W : Nat → Nat → Hp → Prop} {i n m : Nat} {s7 s' : Shared} {σ8 : LS} {H' : Hp} (st7 : tn (i + 1) s7.heap)
    (K : Inv (Bk X s3 H3 scope fp) ([] ++ pinsAt fp s7.heap) σ8 H' s') (hw : wipe σ8 us = wipe σ us) (lt : m < n) (w : W (i + 1) m H') : ∃ m', m' < n ∧ AtTurn X s3 H3 scope fp us σ tn W m' s' := by
  have held : ∀ b ∈ fp, ∀ o, s7.heap.get? b = some o → s'.heap.get? b = some o ∧ H' b = none := fun b hb o e => by
    have z := K.pin (b, o) (List.mem_append_right _ (List.mem_append_right _ (mem_pinsAt hb e)))
    exact ⟨z.1, z.2.1⟩
  have K0 := K.unpinned (pins := [])
  have K1 : Inv (Bk X s3 H3 scope fp) [] (wipe σ us) H' s' := K0.weak (by rw [← hw, wipe_length]) fun j v e => by
    rw [← hw] at e
    exact (wipe_some e).1
  refine ⟨m, lt, i + 1, H', K1, T.keep _ _ _ st7 fun b hb o e => (held b hb o e).1, fun b hb => ?_, w⟩
  obtain ⟨o, e, _⟩ := T.obj _ _ st7 b hb
  exact (held b hb o e).2
/-- a block without tests, its element told with the def's state -/
theorem lc_told {s : Shared} {H : Hp} {Q : VK} {elt tg iter : Expr} {own : List (Str × Nat)} {pos pos' : Pos} {wi : TI} {g : TG} {te : TE} {use : Option (Value → Sem Unit)} {Qf : Value → Shared → Prop} (hc : X.calm = true) (hN : X.N.Nodup) (I : Inv X pins σ H s)
    (hi : PI X tg iter wi) (ok : BlkOk X.N X.env.scope scope own) (hg : ∀ (s : Shared) (H : Hp) (fp : List Addr), PG (Bk X s H scope fp) tg g) (he : ∀ (s : Shared) (H : Hp) (fp : List Addr), PEO X (Bk X s H scope fp) (own.map (·.2)) elt te)
    (hs : ∀ x, foldedSetIterable iter X.env x = pure x) (h : tLc wi g tYes te (own.map (·.2)) σ H Q)
    (end_ : ∀ D C s' m H', Inv X pins σ H' s' → Q (.ref D) H' → s'.heap.Ns C m → FpOk X pins H' C → compPost (model X.prog X.w) X.A X.xe use Qf (.ref D) C (.ok .next) s') :
    wpAny (model X.prog X.w) X.A (comprehension (.ListComp elt [⟨tg, iter, [], 0⟩] scope pos) scope X.env pos' (newList []) false (eval iter X.env) use) Qf X.xe s := by
  have caps : ∀ y ∈ scope.names, y.2 = .free → ∃ c, X.env.cells.lookup y.1 = some c := fun y hy e => (ok.free y hy e).elim (fun k => I.ok.has _ (.inl k)) fun k => I.ok.has _ (.inr k)
  refine wpAny_comprehension_free (use := use) rfl hs (closure_ok caps) ok.kind (fun y hy e => by rw [ok.uniq y hy, e]) (thn (hi.run pins s σ H _ I h) fun xv s1 hx => thn hx fun itv s2 hit => ?_)
  obtain ⟨it, fp, tn, J, H2, rfl, I2, T, st2, f2, q⟩ := hit
  refine wpAny_newObj_type (newEnv_comp ?_) (by show 0 ≤ sizeLine; decide)
  have newD : H2 s2.heap.objs.size = none := I2.hok.fresh (Nat.le_refl _)
  obtain ⟨W, ⟨m0, w0⟩, turn⟩ := q s2.heap.objs.size newD
  generalize eH : upd H2 s2.heap.objs.size (.lst []) = H3 at w0
  generalize es : ({ s2 with heap := s2.heap.push { cls := .type "list", data := .seq ([] : List Value).toArray } } : Shared) = s3
  have hh : s3.heap = s2.heap.push { cls := .type "list", data := .seq ([] : List Value).toArray } := by rw [← es]
  have I3 : Inv X pins σ H3 s3 := by
    rw [← es, ← eH]
    exact I2.laid (t' := s2.toks) (fun b o e => Heap.get?_push_of_some _ e) (Nat.le_refl _) ⟨Nat.zero_le _, [], 0, .nil, Heap.get?_push_size _ rfl⟩
  have M : Marks X pins H3 s3 fp := fun b hb => by
    obtain ⟨o, e, _⟩ := T.obj _ _ st2 b hb
    have lt := Heap.lt_size e
    refine ⟨⟨?_, (f2 b hb).2⟩, by rw [hh, Heap.size_push]; exact Nat.lt_succ_of_lt lt⟩
    rw [← eH, upd_ne (Nat.ne_of_lt lt)]
    exact (f2 b hb).1
  have I4 := block_start I3 ok hN M
  have st3 : tn 0 s3.heap := T.keep _ _ _ st2 fun b _ o e => by rw [hh]; exact Heap.get?_push_of_some _ e
  show codeAny _ _ (.compStart (.ListComp elt [⟨tg, iter, [], 0⟩] scope pos) 0 (.ref it) (.ref s2.heap.objs.size) (Bk X s3 H3 scope fp).env) (compPost (model X.prog X.w) X.A X.xe use Qf (.ref s2.heap.objs.size) s3.heap.objs.size) { s3 with heap := pushCells (s3.heap.push { cls := .type "dict", data := .dict #[] }) scope.names }
  generalize e4 : ({ s3 with heap := pushCells (s3.heap.push { cls := .type "dict", data := .dict #[] }) scope.names } : Shared) = s4 at I4 ⊢
  have st4 : tn 0 s4.heap := T.keep _ _ _ st3 fun b _ o e => by rw [← e4]; exact pushCells_keeps _ _ _ _ (Heap.get?_push_of_some _ e)
  refine codeAny_compStart_list ?_ (T.self X.A 0 _ _ _ st4 ?_) <;>
  · refine compLoop_any (AtTurn X s3 H3 scope fp (own.map (·.2)) σ tn W) ?_ m0 ⟨0, H3, I4, st4, fun b hb => (M b hb).1.1, w0⟩
    rintro n s5 ⟨i, H5, I5, st5, n5, w5⟩
    rcases turn i n H5 w5 with ⟨stop, done⟩ | ⟨go, Nx, hNx, step⟩
    · refine thnF (T.done (Bk X s3 H3 scope fp) rfl rfl rfl hc i [] s5 _ H5 (fun _ _ => False) I5 (marks_in I5 n5) st5 stop) fun r s6 ⟨hr, I6⟩ => ?_
      subst hr
      obtain ⟨m, hn, _⟩ := I6.loc
      exact end_ _ _ s6 m H5 (M.out I3 I6) done hn (I3.fpOk (Nat.le_refl _) I6.free)
    · refine thnF (T.item (Bk X s3 H3 scope fp) rfl rfl rfl hc i [] s5 _ H5 (fun _ _ => False) I5 (marks_in I5 n5) st5 go) fun r s6 ⟨u, hr, h6⟩ => ?_
      subst hr
      refine thnF h6 fun _ s7 ⟨x, H7, I7, r7, y7, st7, n7⟩ => ?_
      refine thnF ((hg s3 H3 fp).run _ s7 _ H7 x u _ (I7.pinned (marks_in I7 n7) (T.obj _ _ st7)) r7 (step x H7 y7)) fun _ s8 ⟨σ8, H8, I8, hw, q8⟩ => ?_
      refine wpAny_tests_nil ?_
      have q8 : te σ8 H8 fun y H4 => ∃ acc, H4 s2.heap.objs.size = some (.lst acc) ∧ acc.length < sizeLine ∧ Nx (upd H4 s2.heap.objs.size (.lst (acc ++ [y]))) := q8
      rw [if_pos rfl]
      refine thnF (he s3 H3 fp _ s8 σ8 H8 _ pins σ I8 (fun _ _ _ _ K => M.out I3 K) hw q8) fun z s9 ⟨yv, H9, I9, r9, acc, hD, hz, nx⟩ => ?_
      refine app_ok (X := Bk X s3 H3 scope fp) I9 hD hz r9 fun s' K => ?_
      obtain ⟨m', hm, w'⟩ := hNx _ nx
      exact at_next T st7 K hw hm w'
theorem pe_lcO {elt tg iter : Expr} {own : List (Str × Nat)} {pos : Pos} {wi : TI} {g : TG} {te : TE} (hc : X.calm = true) (hN : X.N.Nodup) (hi : PI X tg iter wi) (ok : BlkOk X.N X.env.scope scope own)
    (hg : ∀ (s : Shared) (H : Hp) (fp : List Addr), PG (Bk X s H scope fp) tg g) (he : ∀ (s : Shared) (H : Hp) (fp : List Addr), PEO X (Bk X s H scope fp) (own.map (·.2)) elt te) (hs : ∀ x, foldedSetIterable iter X.env x = pure x := by intro _; rfl) :
    PE X (.ListComp elt [⟨tg, iter, [], 0⟩] scope pos) (tLc wi g tYes te (own.map (·.2))) := by
  refine ⟨fun pins s σ H Q I h => ?_⟩
  rw [eval_ListComp]
  exact lc_told hc hN I hi ok hg he hs h fun D C s' m H' K q hn f => ⟨m, hn, fun h'' sb => ⟨.ref D, H', K.turned (t' := s'.toks) (fun b o hb e => (sb.2 b hb).trans e) f.1 f.2.1 f.2.2.2.1 f.2.2.2.2.1 f.2.2.2.2.2, rfl, q⟩⟩
/-- g(x) in a block, x a lambda that was kept; tb: what g's body is, by the lambda -/
def tCallL (us : List Nat) (Ng : List Str) (G : LamD → Prop) (tb : Addr → LF → Prop → (XK → Hp → VK → Prop) → TS) (te : TE) : TE := fun σ H Q => te σ H fun v H1 => ∃ d f c', v = .ref f ∧ H1 f = some (LamO f (d.1 c') (G d)) ∧ H1 (d.1 c').c = some (CodeO (d.1 c').c (d.1 c').qual) ∧
  tb f (d.1 c') (G d) (fun E H' Q' => d.2 E (wipe σ us) H' Q') { nx := fun _ H' => Q .non H', rt := Q } (L2.start Ng [.ref f]) H1
theorem pe_callL {s0 : Shared} {H0 : Hp} {x a : Str} {g : Addr} {k : Nat} {pg : Arguments} {bg : List Stmt} {sg : Scope} {fd : FuncData} {Ng : List Str} {tb : Addr → LF → Prop → (XK → Hp → VK → Prop) → TS}
    {e : Expr} {te : TE} {p pos : Pos} (hg : Gl (Bk X s0 H0 scope fp) x) (hm : X.mg x = some (.ref g)) (Fg : FunD X.K x x pg bg sg [] [] g fd) (hb : L2.Binds X.K fd [a] []) (Sg : FnScope Ng [a] sg) (hNg : Ng[0]? = some a) (hva : Vis sg a)
    (he : PE (Bk X s0 H0 scope fp) e te) (hr : Room (k + 2) X.A)
    (hG : ∀ (cdg : Value) (s : Shared) (H : Hp) (f : Addr) (F : LF) (G : Prop) (tl : XK → Hp → VK → Prop),
      (∀ (W : WX) (pn : List (Addr × Obj)) (xe : Value → Shared → Prop) (p1 p2 : Pos), Takes ((cxOf L2.CX0 X.prog X.w X.K X.mg X.base Ng x sg g cdg X.A X.stack s H E0).tr pn xe) W →
        PE ((cxOf L2.CX0 X.prog X.w X.K X.mg X.base Ng x sg g cdg X.A X.stack s H E0).tr pn xe) (.Call (.Name a p1) [] [] p2) (tAct 0 f F G W tl)) →
      Room (k + 1) (X.A.deeper (envOfC x sg s.heap.objs.size g cdg)) → PSs (cxOf L2.CX0 X.prog X.w X.K X.mg X.base Ng x sg g cdg X.A X.stack s H E0) bg (tb f F G tl))
    (hdb : (x == ("__debug__" : Str)) = false := by decide) (hd : (a == ("__debug__" : Str)) = false := by decide) (hcd : (a == ("__classdict__" : Str)) = false := by decide)
    (hst : starEach [e] (Bk X s0 H0 scope fp).env = [(false, eval e (Bk X s0 H0 scope fp).env)] := by rfl) :
    PEO X (Bk X s0 H0 scope fp) us (.Call (.Name x p) [e] [] pos) (tCallL us Ng (LamOk X k) tb te) := by
  intro pins s σ H Q pinsO σO I out hw h
  obtain ⟨oc, od, dV, kV, doc, pm, an, cdv, ct, osl, rfl, lk, hcg, _, _⟩ := Fg.ex
  refine wpAny_Call_Name_kw (ld_glob (X := Bk X s0 H0 scope fp) I hg hm ?_ hdb)
  refine PySem.W.callWith_K (h₀ := X.base) I.ok.mod.kin Fg.kp ?_ hst (by rfl)
  rw [hst]
  show wpAny _ _ (spliced [(false, eval e (Bk X s0 H0 scope fp).env)]) _ _ s
  refine Calls.spliced_cons (thn (he.run pins s σ H _ I h) fun u s1 ⟨v, H1, I1, r1, d, f, c', ev, hf, hc, hq⟩ => Calls.spliced_nil ⟨I1.kIn, ?_⟩)
  subst ev
  cases r1
  obtain ⟨params, body, scope2, e1, L, hbind, hbody⟩ := (lamO_at I1.hok hf).2.ex
  rw [e1, hw] at hq
  have maker : Inv X pinsO (wipe σO us) H1 s1 := (out _ _ _ _ I1).weak (by rw [wipe_length]) fun j v e => (wipe_some e).1
  have runs : codeAny (model X.prog X.w) X.A (.call (.ref g) ⟨[.ref f], []⟩) (CR L2.CX0 X.stack X.prog X.w H1 s1 Q E0) s1 :=
    run_ofS (N := Ng) (ps := [a]) (us := [.ref f]) (vs := [.ref f]) lk hcg Sg hr I1.env0 (hb s1 [.ref f] I1.kIn rfl) (.cons rfl .nil) rfl fun hr' =>
      ⟨_, hG cdv s1 H1 f (lfOf X params body scope2 c') (LamOk X k d) (fun E H' Q' => d.2 E (wipe σO us) H' Q') (fun W pn xe p1 p2 tk => pe_actV (i := 0) maker L hbind tk hr' (fun A outer s H E r => hbody A outer s H E f c' r) hNg hva hd hcd) hr', hq⟩
  refine wpAny_call (codeAny_mono runs fun r s2 z => ?_)
  match r, z with
  | .error e, z => exact (show False from z).elim
  | .ok (.ret u), z => exact I1.after z
  | .ok .next, z => exact z.elim
  | .ok .brk, z => exact z.elim
  | .ok .cont, z => exact z.elim
end
end Px

/-! PxLamH: the head's facts with tables of code objects of defs that make lambdas -/
namespace Px
open PySem PySem.Spec PyProof.Rows L2 He
section
variable  {P : Program} {w : World} {K : PySem.W.Frag} {mg : Str → Option Value} {base : Heap} {x qual : Str} {params : Arguments} {body : List Stmt} {scope : Scope} {dvs : List V} {kws : List (Str × V)} {f : Addr} {fd : FuncData}
/-- FunD.ok that tells the code object too -/
theorem fun_okC {CX : CXT} {N ps : List Str} {k : Nat} {sp : Sp} (F : FunD K x qual params body scope dvs kws f fd) (S : FnScope N ps scope) (len : ∀ vs H Q E, sp vs H Q E → vs.length = ps.length)
    (hbody : ∀ (cdv : Value), fd.code = cdv → ∀ (A : Around) (outer : List Env) (s : Shared) (H : Hp) (vs : List V) (Q : VK) (E : XK), Room k (A.deeper (envOfC qual scope s.heap.objs.size f cdv)) → sp vs H Q E →
      ∃ t, PSs (cxOf CX P w K mg base N qual scope f cdv A outer s H E) body t ∧ t { nx := fun _ H' => Q .non H', rt := Q } (start N vs) H) : FnOk P w K mg base CX (k + 1) f fd ps sp := by
  obtain ⟨oc, od, dV, kV, doc, pm, an, cdv, ct, osl, rfl, lk, hcd, _, _⟩ := F.ex
  exact fn_of lk hcd S len fun A outer s H vs Q E hr hsp => hbody cdv rfl A outer s H vs Q E hr hsp
end
def refOf : Value → Option Addr
  | .ref c => some c
  | _ => none
theorem refOf_ok {v : Value} {c : Addr} (h : refOf v = some c) : v = .ref c := by
  cases v with
  | ref a => rw [Option.some.inj h]
  | _ => cases h
def codeOf (K : PySem.W.Frag) (nm : Str) : Option Addr := match K.lookup (ga K nm) with
  | some ⟨_, _, .func fd, _⟩ => refOf fd.code
  | _ => none
theorem code_of {K : PySem.W.Frag} {nm x qual : Str} {params : Arguments} {body : List Stmt} {scope : Scope} {dvs : List V} {kws : List (Str × V)} {fd : FuncData} {c : Addr} (F : FunD K x qual params body scope dvs kws (ga K nm) fd) (h : codeOf K nm = some c) : fd.code = .ref c := by
  obtain ⟨oc, od, dV, kV, doc, pm, an, cdv, ct, osl, rfl, lk, hcd, _, _⟩ := F.ex
  unfold codeOf at h
  rw [lk] at h
  exact refOf_ok h
def tabAt (g : Addr → Option Obj) (c : Addr) : Option Addr := match g c with
  | some ⟨_, _, .fields vs, _⟩ => (match vs.getD 11 .none with
    | .ref P => some P
    | _ => none)
  | _ => none
def emptyB : Option Obj → Bool
  | some ⟨.none, none, .fields vs, sl⟩ => vs.isEmpty && sl.isEmpty
  | _ => false
theorem emptyB_ok {o : Option Obj} (h : emptyB o = true) : o = some { cls := .none, data := .fields #[] } := by
  unfold emptyB at h
  split at h
  · rename_i vs sl
    rw [Bool.and_eq_true] at h
    rw [Array.isEmpty_iff.mp h.1, Array.isEmpty_iff.mp h.2]
  · cases h
def isRef (P : Addr) : Option Value → Bool
  | some (.ref p) => decide (p = P)
  | _ => false
def isStrV : Value → Bool
  | .str _ _ => true
  | _ => false
def isIntV : Value → Bool
  | .int _ _ => true
  | _ => false
def isBoolV : Value → Bool
  | .bool _ => true
  | _ => false
def cdHdB (c P : Addr) : Option Obj → Bool
  | some ⟨.type q, _, .fields vs, _⟩ => decide (q = "code") && (isRef P vs[11]? && (isStrV (vs.getD 18 .none) && (isIntV (vs.getD 7 .none) && (isBoolV (vs.getD 9 .none) && (isIntV (vs.getD 10 .none) && !decide (c = P))))))
  | _ => false
theorem isRef_ok {P : Addr} {o : Option Value} (h : isRef P o = true) : o = some (.ref P) := by
  unfold isRef at h
  split at h
  · rw [of_decide_eq_true h]
  · cases h
theorem isStrV_ok {v : Value} (h : isStrV v = true) : ∃ x t, v = .str x t := by
  unfold isStrV at h
  split at h
  · exact ⟨_, _, rfl⟩
  · cases h
theorem isIntV_ok {v : Value} (h : isIntV v = true) : ∃ x t, v = .int x t := by
  unfold isIntV at h
  split at h
  · exact ⟨_, _, rfl⟩
  · cases h
theorem isBoolV_ok {v : Value} (h : isBoolV v = true) : ∃ x, v = .bool x := by
  unfold isBoolV at h
  split at h
  · exact ⟨_, rfl⟩
  · cases h
theorem cdHdB_ok {h : Heap} {c P : Addr} (e : cdHdB c P (h.get? c) = true) : PySem.W.CodeHd h c P := by
  unfold cdHdB at e
  split at e
  · rename_i q d vs sl z
    obtain ⟨e1, e⟩ := ba e
    obtain ⟨e2, e⟩ := ba e
    obtain ⟨e3, e⟩ := ba e
    obtain ⟨e4, e⟩ := ba e
    obtain ⟨e5, e⟩ := ba e
    obtain ⟨e6, e7⟩ := ba e
    have e1 := of_decide_eq_true e1
    have e2 := isRef_ok e2
    obtain ⟨file, tf, e3⟩ := isStrV_ok e3
    obtain ⟨fl, tg, e4⟩ := isIntV_ok e4
    obtain ⟨inF, e5⟩ := isBoolV_ok e5
    obtain ⟨text, tt, e6⟩ := isIntV_ok e6
    refine ⟨_, vs, file, tf, fl, tg, inF, text, tt, z, by rw [e1], rfl, e2, ?_, e3, e4, e5, e6, ?_⟩
    · rw [Array.getD_eq_getD_getElem?, e2]
      rfl
    · simpa using e7
  · cases e
def tabB (g : Addr → Option Obj) (K : PySem.W.Frag) (nm : Str) : Bool := match codeOf K nm with
  | some c => (match tabAt g c with
    | some P => (K.lookup P).isNone && (emptyB (g P) && cdHdB c P (g c))
    | none => false)
  | none => false
/-- what is known of the def nm's code object and its table -/
def TabH (K : PySem.W.Frag) (h : Heap) (nm : Str) : Prop := ∃ c P, codeOf K nm = some c ∧ K.lookup P = none ∧ h.get? P = some { cls := .none, data := .fields #[] } ∧ PySem.W.CodeHd h c P
theorem tabB_ok {K : PySem.W.Frag} {h : Heap} {nm : Str} (e : tabB h.get? K nm = true) : TabH K h nm := by
  unfold tabB at e
  split at e
  · rename_i c hc
    split at e
    · rename_i P hP
      obtain ⟨e1, e⟩ := ba e
      obtain ⟨e2, e3⟩ := ba e
      exact ⟨c, P, hc, Option.isNone_iff_eq_none.mp e1, emptyB_ok e2, cdHdB_ok e3⟩
    · cases e
  · cases e
def obsLT (fs : List Fact) (ds : List DefA) (es : List ErrN) (ls : List Str) (g : Addr → Option Obj) (K : PySem.W.Frag) : AlA := ((obsN fs ds es K).1 && ls.all fun nm => tabB g K nm, (obsN fs ds es K).2)
def obsLTG (fs : List Fact) (ds : List DefA) (es : List ErrN) (ls : List Str) (g : Addr → Option Obj) : AlA := obsLT fs ds es ls g (frG g (asT g))
theorem obsLT_ok {fs : List Fact} {ds : List DefA} {es : List ErrN} {ls : List Str} {K : PySem.W.Frag} {h : Heap} (e : obsLT fs ds es ls h.get? K = valN ds es) : SaysN fs ds es K ∧ ∀ nm ∈ ls, TabH K h nm := by
  have e1 : (obsLT fs ds es ls h.get? K).1 = true := by rw [e]; rfl
  have e2 : (obsLT fs ds es ls h.get? K).2 = (valN ds es).2 := by rw [e]
  have e1 : ((obsN fs ds es K).1 && ls.all fun nm => tabB h.get? K nm) = true := e1
  have e2 : (obsN fs ds es K).2 = (valN ds es).2 := e2
  obtain ⟨a, b⟩ := ba e1
  exact ⟨Prod.ext a e2, fun nm hm => tabB_ok (List.all_eq_true.mp b nm hm)⟩
def hookLT (fs : List Fact) (ds : List DefA) (es : List ErrN) (ls : List Str) : PySem.W.Hook where
  α := AlA
  obs := fun s => obsLTG fs ds es ls s.heap.get?
  val := fun _ => valN ds es
  says := fun _ h => ∃ K : PySem.W.Frag, K.In h ∧ SaysN fs ds es K ∧ ∀ nm ∈ ls, TabH K h nm
  of := fun _ _ e => ⟨_, frG_in, obsLT_ok e⟩
  keeps := fun _ _ _ ⟨K, hK, c, t⟩ k => ⟨K, PySem.W.Frag.In.keeps hK k, c, fun nm hm => by
    obtain ⟨c, P, h1, h2, h3, h4⟩ := t nm hm
    exact ⟨c, P, h1, h2, k _ _ h3, h4.keeps k⟩⟩
theorem obsLTG_eq {fs : List Fact} {ds : List DefA} {es : List ErrN} {ls : List Str} {g : Addr → Option Obj} {s : Shared} (h : ∀ a, g a = s.heap.get? a) : obsLTG fs ds es ls g = (hookLT fs ds es ls).obs s := by
  have e : g = s.heap.get? := funext h
  subst e
  rfl
end Px

/-! PxLamG: lambdas in laws that call repr: contracts that know that no repr is under way, with one table of code objects -/
namespace Px
open PySem PySem.Spec PyProof.Rows L2
section
variable  {P : Program} {w : World} {K : PySem.W.Frag} {mg : Str → Option Value} {base : Heap} {x qual : Str} {params : Arguments} {body : List Stmt} {scope : Scope} {dvs : List V} {kws : List (Str × V)} {f : Addr} {fd : FuncData}
/-- fnG_ok that tells the code object too -/
theorem fnG_okC {CX : CXT} {N ps : List Str} {k : Nat} {sp : Sp} (F : FunD K x qual params body scope dvs kws f fd) (S : FnScope N ps scope) (len : ∀ vs H Q E, sp vs H Q E → vs.length = ps.length)
    (hbody : ∀ (cdv : Value), fd.code = cdv → ∀ (A : Around) (outer : List Env) (s : Shared) (H : Hp) (vs : List V) (Q : VK) (E : XK), (A.deeper (envOfC qual scope s.heap.objs.size f cdv)).guards = some [] → Room k (A.deeper (envOfC qual scope s.heap.objs.size f cdv)) → sp vs H Q E →
      ∃ t, PSs (cxOf CX P w K mg base N qual scope f cdv A outer s H E) body t ∧ t { nx := fun _ H' => Q .non H', rt := Q } (start N vs) H) : FnG P w K mg base CX (k + 1) f fd ps sp := by
  obtain ⟨oc, od, dV, kV, doc, pm, an, cdv, ct, osl, rfl, lk, hcd, _, _⟩ := F.ex
  refine ⟨len, fun A outer s H args us vs Q E hG hr e0 hb r hsp => ?_⟩
  have KX : K.In s.heap := e0.mod.kin.keeps fun b o e => (e0.bs b o e).1
  have lim : s.heap.NoLimit := e0.mod.nolimit.keeps fun b o e => (e0.bs b o e).1
  have hkind : ∀ y ∈ ps.zip us, scope.names.lookup y.1 = some .local ∨ (scope.names.lookup y.1 = some .cell ∧ ((cellsFrom (s.heap.objs.size + 1) scope.names []).lookup y.1).isSome = true) := fun y hy =>
    (S.par y.1 (List.of_mem_zip (show (y.1, y.2) ∈ ps.zip us from hy)).1).imp id fun q => ⟨q, PySem.W.cellsFrom_some _ _ _ (.inl q)⟩
  refine codeAny_call_function hr.depth (KX _ _ lk) rfl S.co S.gen rfl (PySem.W.codeRec_of KX hcd) (hb _ _ _ _ (wpAny_newFunctionEnv_cells S.kind hkind fun env he s1 x => ?_))
  subst he
  refine ⟨lim.keeps x.toInCall.keep, codeAny_func ?_⟩
  obtain ⟨t, ht, hq⟩ := hbody cdv rfl A outer s H vs Q E hG (hr.deeper _) hsp
  have I : Inv (cxOf CX P w K mg base N qual scope f cdv A outer s H E) [] (start N vs) H s1 := inv_start S hr.hd e0 (len _ _ _ _ hsp) r x
  refine wpAny_mono (ht.run [] s1 (start N vs) H _ I hq) (fun fl s' hs => ?_) fun e s' hs => hs
  match fl, hs with
  | .ret u, ⟨v, σ', H', J, rv, q⟩ => exact ⟨v, H', J.os, J.bare, J.base, J.hok, rv, q⟩
  | .next, ⟨σ', H', J, q⟩ => exact ⟨V.non, H', J.os, J.bare, J.base, J.hok, rfl, q⟩
  | .brk, ⟨_, _, _, q⟩ => exact q.elim
  | .cont, ⟨_, _, _, q⟩ => exact q.elim
end
/-! ### a law's end with one table of code objects -/
section
variable  {P : Program} {w : World} {K : PySem.W.Frag} {mg mb : Str → Option Value} {k : Nat} {fa a c Pt : Addr} {fd : FuncData} {x : Str} {sp : Sp} {s₁ : Shared} {vs : List Value} {H : Hp}
abbrev scriptO (vs : List Value) : Obj := { cls := .type "list", data := .seq vs.toArray }
abbrev tableO : Obj := { cls := .none, data := .fields #[] }
/-- what H may track of the heap at a law's begin: the script at a, the table at Pt -/
structure Trk (K : PySem.W.Frag) (H : Hp) (a Pt : Addr) : Prop where
  ob : ∀ b, H b = none ∨ (b = a ∧ ∃ o xs, H b = some (.frz o (.lst xs))) ∨ (b = Pt ∧ H b = some (.tbl #[]))
  ka : H a ≠ none → K.lookup a = none
theorem Trk.free (T : Trk K H a Pt) (ha : s₁.heap.get? a = some (scriptO vs)) (hP : s₁.heap.get? Pt = some tableO) {b : Addr} {o : Obj} (e : s₁.heap.get? b = some o) (n1 : o ≠ scriptO vs) (n2 : o ≠ tableO) : H b = none := by
  rcases T.ob b with z | ⟨z, _⟩ | ⟨z, _⟩
  · exact z
  · subst z
    rw [ha] at e
    exact (n1 (Option.some.inj e).symm).elim
  · subst z
    rw [hP] at e
    exact (n2 (Option.some.inj e).symm).elim
theorem neq_of {α β : Type} {f : α → β} {x y : α} (h : f x ≠ f y) : x ≠ y := fun z => h (by rw [z])
theorem law_coreT (KX : K.In s₁.heap) (hns : s₁.heap.Ns mainGlobals mg) (hb : s₁.heap.Ns builtinsNs mb) (hbb : ∀ x : Str, x ≠ "__name__" → mb x = bootBuiltins x) (hlim : s₁.heap.NoLimit) (hg : s₁.gens = #[])
    (ha : s₁.heap.get? a = some (scriptO vs)) (hP : s₁.heap.get? Pt = some tableO) (nP : K.lookup Pt = none) (C : PySem.W.CodeHd s₁.heap c Pt)
    (hbm : ∃ (bm : Addr) (ob : Obj), mg "__builtins__" = some (.ref bm) ∧ bm ≠ builtinsNs ∧ s₁.heap.get? bm = some ob ∧ ob.cls = .type "module" ∧ ob.dict = some builtinsNs ∧ ob.data = .plain) (hr : Room k callerA)
    (F : ∀ base : Heap, K.In base → base.Ns mainGlobals mg → LamX.TabB base mg c Pt → FnG P w K mg base CX0 k fa fd [x] sp) (hbind : ∀ (s : Shared) (u : Value), BindsTo s fd ⟨[u], []⟩ [(x, u)])
    (T : Trk K H a Pt) (hT : H Pt = some (.tbl #[])) (hsp : sp [.ref a] H (fun v _ => v = .bl true) fun _ _ _ => False) (hok : HOk P w H s₁.heap) :
    codeAny (model P w) callerA (.call (.ref fa) ⟨[.ref a], []⟩) (fun r s' => r = .ok (.ret (.bool true)) ∧ OldK s₁.heap s'.heap ∧ s'.os = s₁.os ∧ AllBare s'.gens) s₁ := by
  have back : ∀ {b : Addr} {o : Obj}, s₁.heap.get? b = some o → o ≠ scriptO vs → o ≠ tableO → (hidT s₁.heap H).get? b = some o := fun e n1 n2 => hid_at e (T.free ha hP e n1 n2)
  have nsK : ∀ {b : Addr} {m : Str → Option Value}, s₁.heap.Ns b m → (hidT s₁.heap H).Ns b m := fun {b m} ⟨o, es, ep, e, d, r⟩ => ⟨o, es, ep, back e (fun z => by rw [z] at d; cases d) (fun z => by rw [z] at d; cases d), d, r⟩
  have hKb : K.In (hidT s₁.heap H) := fun b o e => hid_at (KX b o e) (by
    rcases T.ob b with z | ⟨z, o', xs, q⟩ | ⟨z, _⟩
    · exact z
    · subst z
      rw [T.ka (by rw [q]; simp)] at e
      cases e
    · subst z
      rw [nP] at e
      cases e)
  have gP : mainGlobals ≠ Pt := fun z => by
    obtain ⟨o, es, ep, e, d, _⟩ := hns
    rw [z, hP] at e
    cases e
    cases d
  have hTB : LamX.TabB (hidT s₁.heap H) mg c Pt := by
    refine ⟨?_, ?_, gP⟩
    · obtain ⟨o, us, file, tf, flags, tg, inF, text, tt, e1, r1, r2, r3, r4⟩ := C
      exact ⟨o, us, file, tf, flags, tg, inF, text, tt, back e1 (fun z => by rw [z] at r2; cases r2) (fun z => by rw [z] at r2; cases r2; simp at r3), r1, r2, r3, r4⟩
    · obtain ⟨bm, ob, b1, b2, b3, b4, b5, b6⟩ := hbm
      refine ⟨bm, ob, b1, b2, fun z => ?_, fun z => ?_, back b3 (fun z => by rw [z] at b6; cases b6) (fun z => by rw [z] at b6; cases b6), b4, b5, b6⟩
      · obtain ⟨o, es, ep, e, d, _⟩ := hns
        rw [z, e] at b3
        cases b3
        rw [d] at b6
        cases b6
      · rw [z, hP] at b3
        cases b3
        cases b6
  have e0 : Env0 P w K mg (hidT s₁.heap H) callerA [] s₁ H := ⟨rfl, ⟨hKb, nsK hns, ⟨mb, nsK hb, hbb⟩, let ⟨mc, h1, h2⟩ := hlim; ⟨mc, nsK h1, h2⟩⟩, fun b o e => of_hidT e, Nat.le_of_eq (hidT_size _ _), trivial, fun b hb => absurd (show b ∈ ([] : List Addr) from hb) (by simp), hok, .of_eq hg⟩
  refine codeAny_mono ((F _ hKb (nsK hns) hTB).run callerA [] s₁ H ⟨[.ref a], []⟩ [.ref a] [.ref a] _ _ rfl hr e0 (hbind s₁ (.ref a)) (.cons rfl .nil) hsp) fun r s' h => ?_
  match r, h with
  | .error _, h => exact h.elim
  | .ok .next, h => exact h.elim
  | .ok .brk, h => exact h.elim
  | .ok .cont, h => exact h.elim
  | .ok (.ret u), ⟨v, H', os, bare, un, hok', r', q⟩ =>
    have q' : v = .bl true := q
    subst q'
    obtain rfl : u = Value.bool true := r'
    obtain ⟨more, gm⟩ := un.tbls Pt #[] hT
    have gm' := hok' Pt _ gm
    have stay : ∀ b o, b ≠ Pt → s₁.heap.get? b = some o → s'.heap.get? b = some o := fun b o nb e => by
      rcases T.ob b with z | ⟨z, ob, xs, q⟩ | ⟨z, _⟩
      · exact un.keep b o e z (fun m => absurd (show b ∈ ([] : List Addr) from m) List.not_mem_nil) List.not_mem_nil
      · have h1 := (hok b _ q).1
        have h2 := (hok' b _ (un.frzs b ob _ q)).1
        rw [e] at h1
        cases h1
        exact h2
      · exact (nb z).elim
    refine ⟨rfl, ⟨fun b o e => ?_, fun b o e => ?_⟩, os, bare⟩
    · by_cases hb : b = Pt
      · subst hb
        rw [hP] at e
        cases e
        exact .inr (.inl ⟨(C.tab hP).isCodeTable, rfl, #[], _, rfl, by rw [Array.empty_append]; exact gm'⟩)
      · exact .inl (stay b o hb e)
    · by_cases hb : b = Pt
      · rw [hb]
        exact ⟨_, gm'⟩
      · exact ⟨o, stay b o hb e⟩
/-- .. from the heap that the head leaves: the script is tracked, if no class or def holds it -/
theorem law_goT {ns : List Int} (KX : K.In s₁.heap) (hns : s₁.heap.Ns mainGlobals mg) (hb : s₁.heap.Ns builtinsNs mb) (hbb : ∀ x : Str, x ≠ "__name__" → mb x = bootBuiltins x) (hlim : s₁.heap.NoLimit) (hg : s₁.gens = #[])
    (ha : s₁.heap.get? a = some (scriptO vs)) (hP : s₁.heap.get? Pt = some tableO) (nP : K.lookup Pt = none) (C : PySem.W.CodeHd s₁.heap c Pt)
    (hbm : ∃ (bm : Addr) (ob : Obj), mg "__builtins__" = some (.ref bm) ∧ bm ≠ builtinsNs ∧ s₁.heap.get? bm = some ob ∧ ob.cls = .type "module" ∧ ob.dict = some builtinsNs ∧ ob.data = .plain) (hi : IntsAre vs ns) (hl : ns.length ≤ sizeLine) (hr : Room k callerA)
    (F : ∀ base : Heap, K.In base → base.Ns mainGlobals mg → LamX.TabB base mg c Pt → FnG P w K mg base CX0 k fa fd [x] sp) (hbind : ∀ (s : Shared) (u : Value), BindsTo s fd ⟨[u], []⟩ [(x, u)])
    (hsp : ∀ H : Hp, H Pt = some (.tbl #[]) → SqL K H a (ns.map V.int) → sp [.ref a] H (fun v _ => v = .bl true) fun _ _ _ => False) :
    codeAny (model P w) callerA (.call (.ref fa) ⟨[.ref a], []⟩) (fun r s' => r = .ok (.ret (.bool true)) ∧ OldK s₁.heap s'.heap ∧ s'.os = s₁.os ∧ AllBare s'.gens) s₁ := by
  have rv := vals_ints hi
  have naP : a ≠ Pt := fun z => by
    rw [z, hP] at ha
    cases ha
  let H0 : Hp := upd (fun _ => none) Pt (.tbl #[])
  have a0 : H0 Pt = some (.tbl #[]) := upd_same
  have n0 : ∀ b, b ≠ Pt → H0 b = none := fun b n => upd_ne n
  cases hk : K.lookup a with
  | some o =>
    have e := KX a o hk
    rw [ha] at e
    cases e
    refine law_coreT (mb := mb) (H := H0) KX hns hb hbb hlim hg ha hP nP C hbm hr F hbind ⟨fun b => ?_, fun z => absurd (n0 a naP) z⟩ a0 (hsp _ a0 (.inr ⟨_, vs.toArray, _, hk, rfl, rfl, rfl, by rw [List.size_toArray, hi.length]; exact hl, by simpa using rv⟩)) fun b u z => ?_
    · by_cases q : b = Pt
      · exact .inr (.inr ⟨q, by rw [q]; exact a0⟩)
      · exact .inl (n0 b q)
    · by_cases q : b = Pt
      · subst q
        have z' := a0.symm.trans z
        cases z'
        exact hP
      · have z' := (n0 b q).symm.trans z
        cases z'
  | none =>
    let H1 : Hp := upd H0 a (.frz (scriptO vs) (.lst (ns.map V.int)))
    have a1 : H1 a = some (.frz (scriptO vs) (.lst (ns.map V.int))) := upd_same
    have b1 : H1 Pt = some (.tbl #[]) := (upd_ne (Ne.symm naP)).trans a0
    have n1 : ∀ b, b ≠ a → b ≠ Pt → H1 b = none := fun b h1 h2 => (upd_ne h1).trans (n0 b h2)
    refine law_coreT (mb := mb) (H := H1) KX hns hb hbb hlim hg ha hP nP C hbm hr F hbind ⟨fun b => ?_, fun _ => hk⟩ b1 (hsp _ b1 (.inl (.inr ⟨_, a1⟩))) fun b u z => ?_
    · by_cases q : b = a
      · exact .inr (.inl ⟨q, _, _, by rw [q]; exact a1⟩)
      · by_cases q2 : b = Pt
        · exact .inr (.inr ⟨q2, by rw [q2]; exact b1⟩)
        · exact .inl (n1 b q q2)
    · by_cases q : b = a
      · subst q
        have z' := a1.symm.trans z
        cases z'
        exact ⟨ha, by rw [List.length_map]; exact hl, vs, _, rv, ha⟩
      · by_cases q2 : b = Pt
        · subst q2
          have z' := b1.symm.trans z
          cases z'
          exact hP
        · have z' := (n1 b q q2).symm.trans z
          cases z'
end
theorem walk_GT {l : PySem.W.OpenLaw} {n k : Nat} {q : Program} {loose : List Str} {XP : (Str → Option Value) → Heap → Prop} {YP : World → Heap → Prop} {d : DefRec} {x : Str}
    (hn : l.most = some n) (hn2 : n ≤ sizeLine) (hdf : d.params.defaults = []) (hr : Room k callerA)
    (F : ∀ (w : World) (mg : Str → Option Value) (fa : Addr) (h : Heap), YP w h → h.Ns mainGlobals mg → mg d.name = some (.ref fa) →
      ∃ (K : PySem.W.Frag) (fd : FuncData) (c Pt : Addr) (sp : Sp), K.In h ∧ h.get? Pt = some tableO ∧ K.lookup Pt = none ∧ PySem.W.CodeHd h c Pt ∧ (∀ (s : Shared) (u : Value), BindsTo s fd ⟨[u], []⟩ [(x, u)]) ∧
        (∀ (H : Hp) (a : Addr) (ns : List Int), ns.length ≤ n → H Pt = some (.tbl #[]) → SqL K H a (ns.map V.int) → sp [.ref a] H (fun v _ => v = .bl true) fun _ _ _ => False) ∧
        ∀ base : Heap, K.In base → base.Ns mainGlobals mg → LamX.TabB base mg c Pt → FnG l.prog w K mg base CX0 k fa fd [x] sp) :
    PySem.W.WalkO q loose XP YP l.row.toRowW d [] (fun f vs => PySem.call f vs) := by
  refine Att.attach_call hn hdf fun w s₀ s₁ mg mb fa o pm cd doc a vs ns G Y ho hd hcd hmg hobj hints hlen hg => ?_
  obtain ⟨K, fd, c, Pt, sp, KX, hP, nP, C, hb, hsp, hF⟩ := F w mg fa _ Y G.T.g hmg
  exact law_goT KX G.T.g G.T.b G.T.builtins G.T.nolimit hg hobj hP nP C G.T.bmain hints (Nat.le_trans hlen hn2) hr hF hb fun H hT hS => hsp H a ns hlen hT hS
end Px

/-! PxTryTup: except clauses of any kind: with a name, without one, of two classes. -/
namespace L2
open PySem PySem.Spec PyProof.Rows
/-- what the clause 'except (x, y)' wishes of an exception of the body -/
def wTwo (K : PySem.W.Frag) (c1 c2 : Value) (ts : Addr → Value → Option Addr → TS) (Wout : WX) (D : Ends) : WX := fun cls d σ H =>
  ∃ b, PySem.W.exmAny K cls [c1, c2] = some b ∧ (b = true → ∀ a, H a = none → ts a cls d D σ H) ∧ (b = false → Wout cls d σ H)
/-- a clause's suite, told -/
def SuiteOk (X : Cx) (sts : List Stmt) (ts : Addr → Value → Option Addr → TS) : Prop :=
  ∀ (a : Addr) (oe : Obj) (cls : Value) (d : Option Addr) (pn : List (Addr × Obj)), Zc cls d oe → (∃ vs, oe.data = .fields vs) → PSs (X.suite a ((a, oe) :: pn)) sts (ts a cls d)
/-- some clauses: what they wish, by what is wished where none of them matches -/
inductive HdB (X : Cx) : List ExceptHandler → (WX → Ends → WX) → Prop
  | nil : HdB X [] (fun W _ => W)
  | named {x n : Str} {c : Value} {i : Nat} {ts : Addr → Value → Option Addr → TS} {b₀ : Stmt} {suite : List Stmt} {np pos' : Pos} {hds : List ExceptHandler} {w : WX → Ends → WX}
      (hi : X.N[i]? = some n) (hln : X.env.kindOf n = some .local) (hc : Names X x c) (hsu : SuiteOk X (b₀ :: suite) ts) (r : HdB X hds w) :
      HdB X (.ExceptHandler (some (.Name x np)) (some n) (b₀ :: suite) pos' :: hds) (fun W D => wAs X.K c i ts (w W D) D)
  | bare {x : Str} {c : Value} {ts : Addr → Value → Option Addr → TS} {b₀ : Stmt} {suite : List Stmt} {np pos' : Pos} {hds : List ExceptHandler} {w : WX → Ends → WX}
      (hc : Names X x c) (hsu : SuiteOk X (b₀ :: suite) ts) (r : HdB X hds w) :
      HdB X (.ExceptHandler (some (.Name x np)) none (b₀ :: suite) pos' :: hds) (fun W D => wOnly X.K c ts (w W D) D)
  | two {x y : Str} {c1 c2 : Value} {ts : Addr → Value → Option Addr → TS} {b₀ : Stmt} {suite : List Stmt} {p1 p2 tp pos' : Pos} {k : Nat} {hds : List ExceptHandler} {w : WX → Ends → WX}
      (hc : Names X x c1) (hc2 : Names X y c2) (hsu : SuiteOk X (b₀ :: suite) ts) (r : HdB X hds w) :
      HdB X (.ExceptHandler (some (.Tuple [.Name x p1, .Name y p2] k tp)) none (b₀ :: suite) pos' :: hds) (fun W D => wTwo X.K c1 c2 ts (w W D) D)
theorem fly_push {base h : Heap} {l : List Env} {e : Addr} {Z : Obj → Prop} {o : Obj} (f : HandSPX.FlyingZ base l e Z h) : HandSPX.FlyingZ base l e Z (h.push o) := by
  obtain ⟨f1, f2, f3, oe, vs, T, oT, ts, he, hz, hd, h1, hnT, hTe, hT, hdT, h3⟩ := f
  have k : ∀ b u, h.get? b = some u → (h.push o).get? b = some u := fun b u q => Heap.get?_push_of_some _ q
  exact ⟨fun b u q => k _ _ (f1 b u q), f2, f3.of_keeps (fun b u q _ => ⟨u, k _ _ q, rfl⟩), oe, vs, T, oT, ts, k _ _ he, hz, hd, h1, hnT, hTe, k _ _ hT, hdT, h3⟩
section
variable {X : Cx} {body : List Stmt} {h₀ : ExceptHandler} {hds : List ExceptHandler} {w : WX → Ends → WX} {pos : Pos} {tb : WX → TS} {Wout : WX}
/-- a suite runs, the exception still at hand -/
theorem suite_runs {sts : List Stmt} {ts : Addr → Value → Option Addr → TS} {a : Addr} {oe : Obj} {cls : Value} {d : Option Addr} {pins : List (Addr × Obj)} {σ : St} {H : Hp} {s : Shared} {D : Ends} {E : Value → Shared → Prop}
    (ok : X.Ok) (hsu : SuiteOk X sts ts) (hz : Zc cls d oe) (hd : ∃ vs, oe.data = .fields vs) (S : Inv (X.suite a ((a, oe) :: (X.pn ++ pins))) [] σ H s) (q : ts a cls d D σ H) :
    wpAny (model X.prog X.w) (X.A.mark (some (.ref a))) (execs sts X.env) (SP X pins D) E s := by
  refine wpAny_mono ((hsu a oe cls d (X.pn ++ pins) hz hd).run [] s σ H D S q) (fun f s6 hsp => ?_) (fun _ _ z => False.elim z)
  cases f with
  | next =>
    obtain ⟨σ6, H6, S6, q6⟩ := hsp
    exact ⟨_, _, S6.unsuite ok, q6⟩
  | brk =>
    obtain ⟨σ6, H6, S6, q6⟩ := hsp
    exact ⟨_, _, S6.unsuite ok, q6⟩
  | cont =>
    obtain ⟨σ6, H6, S6, q6⟩ := hsp
    exact ⟨_, _, S6.unsuite ok, q6⟩
  | ret u =>
    obtain ⟨v6, σ6, H6, S6, r6, q6⟩ := hsp
    exact ⟨_, _, _, S6.unsuite ok, r6, q6⟩
/-- the name of a clause's class is looked up -/
theorem name_looked {x : Str} {c : Value} {np : Pos} {a : Addr} {oe : Obj} {pins : List (Addr × Obj)} {σ : St} {H : Hp} {s : Shared} {Q : Value → Shared → Prop} {E : Value → Shared → Prop} (hc : Names X x c) (S : Inv (X.suite a ((a, oe) :: (X.pn ++ pins))) [] σ H s) (q : Q c s) :
    wpAny (model X.prog X.w) (X.A.mark (some (.ref a))) (eval (.Name x np) X.env) Q E s := by
  obtain ⟨hg, hdbg, hm | ⟨hm, hv, hnn⟩⟩ := hc
  · exact ld_glob (X := X.suite a ((a, oe) :: (X.pn ++ pins))) S hg hm q hdbg
  · exact ld_blt (X := X.suite a ((a, oe) :: (X.pn ++ pins))) S hg hm hv q hnn hdbg
theorem ps_try_all (hs : X.stack = X.env :: X.outer) (hf : X.env.frame = some X.env.locals) (hN : X.N.Nodup) (tk : Takes X Wout)
    (hb : ∀ (W : WX) (pn : List (Addr × Obj)) (xe : Value → Shared → Prop), Takes (X.tr pn xe) W → PassesOwn (model X.prog X.w) X.A X.env xe → PSs (X.tr pn xe) body (tb W))
    (hh : HdB X (h₀ :: hds) w) : PS X (.Try body (h₀ :: hds) [] [] pos) (fun D σ H => tb (w Wout D) D σ H) := by
  refine ⟨fun pins s σ H D I h => ?_⟩
  have ok := I.ok
  have hfr : X.A.frames = some (X.env :: X.outer) := by rw [ok.frames, hs]
  refine wpAny_Try_except (wpAny_mono ((hb (w Wout D) (X.pn ++ pins) (fun e s₁ => wpAny (model X.prog X.w) X.A (noteFrame e X.env) (fun _ s₂ => wpAny (model X.prog X.w) X.A (setFlight e none) (fun _ s₃ =>
    wpAny (model X.prog X.w) X.A (handleBy e X.env (h₀ :: hds)) (SP X pins D) X.xe s₃) X.xe s₂) X.xe s₁) (fun u s' xx => ?_) PassesOwn.looking).run [] s σ H D (I.toTry _) h) (fun f s1 hsp => ?_) (fun e s1 he => he))
  · obtain ⟨a, B, sI, pins', σ', H', cls, d, rfl, J', nb, up, sky, na, os, ag, wish⟩ := xx
    have J : Inv X pins σ' H' sI := J'.ofTry ok
    have sky' : Sky B (X.env :: X.outer) a (Zc cls d) X.env.locals s'.heap := by rw [← hs]; exact sky
    show wpAny (model X.prog X.w) X.A (noteFrame (.ref a) X.env) _ _ _
    refine Sky.land Zc.steady hfr hf sky' fun h3 fl3 up3 => ?_
    -- in any heap in which the exception has landed
    have suited : ∀ {h : Heap} {t : Nat}, HandSPX.FlyingZ B (X.env :: X.outer) a (Zc cls d) h → s'.heap.UpToSlots h → ∃ oe vs, h.get? a = some oe ∧ Zc cls d oe ∧ oe.data = .fields vs ∧ Inv X pins σ' H' { s' with heap := h, toks := t } ∧ Inv (X.suite a ((a, oe) :: (X.pn ++ pins))) [] σ' H' { s' with heap := h, toks := t } := fun {h t} fl upx => by
      have Jx : Inv X pins σ' H' { s' with heap := h, toks := t } := Inv.landed (s' := { s' with heap := h, toks := t }) J nb fl.1 (up.trans upx) os ag
      obtain ⟨oe, vs, he, hz, hd⟩ := fl.there
      have nfr : a ∉ frs (X.env :: X.outer) := fun hm => by
        obtain ⟨_, o', e', hnf⟩ := fl.2.2.1.mem hm
        rw [he] at e'
        cases e'
        exact hnf _ hd
      have nL : a ≠ X.env.locals := fun z => nfr (List.mem_filterMap.mpr ⟨X.env, List.mem_cons_self, by rw [hf, z]⟩)
      have nF : a ∉ X.fs := fun hm => by
        obtain ⟨e, he, q⟩ := List.mem_filterMap.mp hm
        exact nfr (List.mem_filterMap.mpr ⟨e, List.mem_cons_of_mem _ he, q⟩)
      exact ⟨oe, vs, he, hz, hd, Jx, Jx.suite he hd na nL nF⟩
    suffices go : ∀ {hds' : List ExceptHandler} {w' : WX → Ends → WX}, HdB X hds' w' → ∀ (h : Heap) (t : Nat), HandSPX.FlyingZ B (X.env :: X.outer) a (Zc cls d) h → s'.heap.UpToSlots h → w' Wout D cls d σ' H' →
        wpAny (model X.prog X.w) X.A (handleBy (.ref a) X.env hds') (SP X pins D) X.xe { s' with heap := h, toks := t } from go hh h3 s'.toks fl3 up3 wish
    intro hds' w' hk
    induction hk with
    | nil =>
      intro h t fl upx wi
      refine wpAny_handleBy_nil ?_
      obtain ⟨k1, k2, k3, oe, vs, T, oT, ts', he, hz, hd, h1, hr⟩ := id fl
      unfold PySem.passOn
      refine wpAny_bind (wpAny_field he hd h1 ?_)
      rw [if_neg (show ¬ ((Value.ref T == Value.none) = true) from by simp)]
      have fin : wpAny (model X.prog X.w) X.A (setFlight (.ref a) X.env.frame) (fun _ s4 => wpAny (model X.prog X.w) X.A (throw (.ref a) : Sem Flow) (SP X pins D) X.xe s4) X.xe { s' with heap := h, toks := t } := by
        rw [hf]
        refine HandSPX.setFlight_upZ fl fun h4 hh4 up4 => wpAny_throw (tk _ _ ?_)
        exact ⟨a, B, sI, pins, σ', H', cls, d, rfl, J, nb, (up.trans upx).trans up4, .inr (.inr (by rw [hs]; exact hh4)), na, os, ag, wi⟩
      first
        | exact wpAny_bind (wpAny_pure (wpAny_bind fin))
        | exact wpAny_bind fin
    | @named x n c i ts b₀ suite np pos' hds2 w2 hi hln hc hsu r ih =>
      rintro h t fl upx ⟨b, hb1, hyes, hno⟩
      obtain ⟨oe, vs, he, hz, hd, Jx, Sx⟩ := suited (t := t) fl upx
      refine wpAny_handleBy_cons (codeAny_handlers_test ?_) (by intro q; cases q)
      have LT : PySem.W.Looks (model X.prog X.w) h (typeOf (.ref a)) cls := fun A Q E s k q => wpAny_typeOf_ref (k _ _ he) (by rw [hz.1]; exact q)
      refine name_looked hc Sx ((PySem.W.exm_one (M := model X.prog X.w) Jx.kIn LT hb1).here ?_)
      cases b with
      | false => exact ih h t fl upx (hno rfl)
      | true =>
        refine codeAny_handlers_suite_as (HandSPX.lands_againZ fl fun h4 fl4 up4 => ?_)
        obtain ⟨oe4, vs4, he4, hz4, hd4, J4, S4⟩ := suited (t := t) fl4 (upx.trans up4)
        refine store_ok (X := X.suite a ((a, oe4) :: (X.pn ++ pins))) (v := .ref a) S4 hN hi (.inl hln) rfl (fun s5 S5 => ?_) (.inr hln)
        refine wpAny_mono ((hsu a oe4 cls d (X.pn ++ pins) hz4 ⟨_, hd4⟩).run [] s5 _ H' _ S5 (hyes rfl a na)) (fun f s6 hsp => ?_) (fun _ _ z => False.elim z)
        have end_ : ∀ {σ6 : St} {H6 : Hp} {Q : Shared → Prop}, Inv (X.suite a ((a, oe4) :: (X.pn ++ pins))) [] σ6 H6 s6 → (∀ s7, Inv X pins (σ6.set i none) H6 s7 → Q s7) →
            wpAny (model X.prog X.w) X.A (do bindName X.env n .none; unbindBehindTheSuite X.env n pos') (fun _ s7 => Q s7) X.xe s6 := fun {σ6 H6 Q} S6 hq => gone_ok (S6.unsuite ok) hN hi hln hq
        cases f with
        | next =>
          obtain ⟨σ6, H6, S6, q6⟩ := hsp
          exact end_ S6 fun s7 J7 => ⟨_, _, J7, q6⟩
        | brk =>
          obtain ⟨σ6, H6, S6, q6⟩ := hsp
          exact end_ S6 fun s7 J7 => ⟨_, _, J7, q6⟩
        | cont =>
          obtain ⟨σ6, H6, S6, q6⟩ := hsp
          exact end_ S6 fun s7 J7 => ⟨_, _, J7, q6⟩
        | ret u =>
          obtain ⟨v6, σ6, H6, S6, r6, q6⟩ := hsp
          exact end_ S6 fun s7 J7 => ⟨_, _, _, J7, r6, q6⟩
    | @bare x c ts b₀ suite np pos' hds2 w2 hc hsu r ih =>
      rintro h t fl upx ⟨b, hb1, hyes, hno⟩
      obtain ⟨oe, vs, he, hz, hd, Jx, Sx⟩ := suited (t := t) fl upx
      refine wpAny_handleBy_cons (codeAny_handlers_test ?_) (by intro q; cases q)
      have LT : PySem.W.Looks (model X.prog X.w) h (typeOf (.ref a)) cls := fun A Q E s k q => wpAny_typeOf_ref (k _ _ he) (by rw [hz.1]; exact q)
      refine name_looked hc Sx ((PySem.W.exm_one (M := model X.prog X.w) Jx.kIn LT hb1).here ?_)
      cases b with
      | false => exact ih h t fl upx (hno rfl)
      | true =>
        refine codeAny_handlers_suite (HandSPX.lands_againZ fl fun h4 fl4 up4 => ?_)
        obtain ⟨oe4, vs4, he4, hz4, hd4, J4, S4⟩ := suited (t := t) fl4 (upx.trans up4)
        exact suite_runs ok hsu hz4 ⟨_, hd4⟩ S4 (hyes rfl a na)
    | @two x y c1 c2 ts b₀ suite p1 p2 tp pos' k hds2 w2 hc hc2 hsu r ih =>
      rintro h t fl upx ⟨b, hb1, hyes, hno⟩
      obtain ⟨oe, vs, he, hz, hd, Jx, Sx⟩ := suited (t := t) fl upx
      refine wpAny_handleBy_cons (codeAny_handlers_test ?_) (by intro q; cases q)
      refine Tuple_ (spliced_more (name_looked hc Sx (spliced_more (name_looked hc2 Sx (spliced_none ?_)))))
      refine wpAny_newObj_type ?_ (by show 2 ≤ sizeLine; decide)
      have fl2 : HandSPX.FlyingZ B (X.env :: X.outer) a (Zc cls d) (h.push { cls := .type "tuple", data := .seq [c1, c2].toArray }) := fly_push fl
      have up2 : s'.heap.UpToSlots (h.push { cls := .type "tuple", data := .seq [c1, c2].toArray }) := upx.trans (Heap.UpToSlots.of_keeps fun b o e => Heap.get?_push_of_some _ e)
      obtain ⟨oe2, vs2, he2, hz2, hd2, J2, S2⟩ := suited (t := t) fl2 up2
      have LT : PySem.W.Looks (model X.prog X.w) (h.push { cls := .type "tuple", data := .seq [c1, c2].toArray }) (typeOf (.ref a)) cls := fun A Q E s k q => wpAny_typeOf_ref (k _ _ he2) (by rw [hz2.1]; exact q)
      refine (PySem.W.exm_tup2 (M := model X.prog X.w) J2.kIn LT (Heap.get?_push_size _ rfl) hb1).here ?_
      cases b with
      | false => exact ih _ t fl2 up2 (hno rfl)
      | true =>
        refine codeAny_handlers_suite (HandSPX.lands_againZ fl2 fun h4 fl4 up4 => ?_)
        obtain ⟨oe4, vs4, he4, hz4, hd4, J4, S4⟩ := suited (t := t) fl4 (up2.trans up4)
        exact suite_runs ok hsu hz4 ⟨_, hd4⟩ S4 (hyes rfl a na)
  · cases f with
    | next =>
      obtain ⟨σ', H', J', q⟩ := hsp
      exact wpAny_execs_nil ⟨σ', H', J'.ofTry ok, q⟩
    | brk =>
      obtain ⟨σ', H', J', q⟩ := hsp
      exact ⟨σ', H', J'.ofTry ok, q⟩
    | cont =>
      obtain ⟨σ', H', J', q⟩ := hsp
      exact ⟨σ', H', J'.ofTry ok, q⟩
    | ret u =>
      obtain ⟨v, σ', H', J', r, q⟩ := hsp
      exact ⟨v, σ', H', J'.ofTry ok, r, q⟩
end
end L2

/-! PxRule: what rules of reading want -/
namespace Px
open PySem PySem.Spec PyProof.Rows L2
abbrev rUpper : V → List V → Hp → VK → Prop := fun x xs H Q => ∃ a, x = .str a ∧ xs = [] ∧ a.length ≤ 5592405 ∧ Q (.str (Txt.upper a)) H
/-- a text is not behind another one -/
abbrev rLeS : R2 := fun x y H Q => ∃ i j, x = .str i ∧ y = .str j ∧ Q (.bl (!decide (j.cps.toList < i.cps.toList))) H
theorem r_leS {i j : Str} {H : Hp} {Q : VK} (h : Q (.bl (!decide (j.cps.toList < i.cps.toList))) H) : rLeS (.str i) (.str j) H Q := ⟨i, j, rfl, rfl, h⟩
theorem op_leS {X : Cx} : OpR X (compareOp .LtE) rLeS := op_le_str
/-! ### list(text) -/
theorem vals_at : ∀ {xs : List V} {us : List Value}, us.length = xs.length → (∀ (j : Nat) x u, xs[j]? = some x → us[j]? = some u → RelV x u) → Vals xs us
  | [], [], _, _ => .nil
  | [], _ :: _, h, _ => by cases h
  | _ :: _, [], h, _ => by cases h
  | x :: xs, u :: us, h, k => .cons (k 0 x u rfl rfl) (vals_at (Nat.succ.inj h) fun j y w a b => k (j + 1) y w a b)
def rListTx : List V → Hp → VK → Prop := fun xs H Q => ∃ z : Str, xs = [.str z] ∧ z.length ≤ sizeLine ∧ ∀ l, H l = none → Q (.ref l) (upd H l (.lst (z.cps.toList.map fun c => V.str ⟨#[c]⟩)))
theorem call_listS {X : Cx} (hcal : X.calm = true) : CallR X (.type "list") rListTx := by
  intro pins s σ H xs us Q I r h
  obtain ⟨z, rfl, hz, q⟩ := h
  obtain ⟨u, rfl, t, rfl⟩ := vals1 r
  refine call_list_str (I.ok.hd hcal) z t (fun h' tk acc' c' kp e it => ?_) hz
  have hl : (z.cps.toList.map fun c => V.str ⟨#[c]⟩).length = z.length := by
    rw [List.length_map, Array.length_toList]
    rfl
  refine ⟨.ref s.heap.objs.size, _, I.laid (t' := tk) kp (Nat.le_refl _) (show ObjOk X.prog X.w _ h' _ (.lst _) from ⟨by rw [hl]; exact hz, acc'.toList, c', vals_at (by rw [hl, Array.length_toList]; exact it.1) fun j x u hx hu => ?_, by simpa using e⟩), rfl, q _ (I.hok.fresh (Nat.le_refl _))⟩
  rw [Array.getElem?_toList] at hu
  obtain ⟨c, tk2, hc, rfl⟩ := it.2 j u hu
  rw [List.getElem?_map, Array.getElem?_toList, hc] at hx
  cases hx
  exact ⟨tk2, rfl⟩
theorem r_listTx {z : Str} {H : Hp} {Q : VK} (hz : z.length ≤ sizeLine) (h : ∀ l, H l = none → Q (.ref l) (upd H l (.lst (z.cps.toList.map fun c => V.str ⟨#[c]⟩)))) : rListTx [.str z] H Q := ⟨z, rfl, hz, h⟩
end Px

/-! PxExm: whether an except clause names an exception's class, as a fact of the head; steps for suites of clauses of any kind -/
namespace Px
open PySem PySem.Spec PyProof.Rows L2 He
section
variable {K : PySem.W.Frag} {H : Hp} {σ : S} {D : Ends} {Q : VK}
theorem exm_any2 {cls c1 c2 : Value} {b1 b2 : Bool} (h1 : PySem.W.exmOne K cls c1 = some b1) (h2 : PySem.W.exmOne K cls c2 = some b2) : PySem.W.exmAny K cls [c1, c2] = some (b1 || b2) := by
  simp [PySem.W.exmAny, h1, h2]
theorem r_wAsNo {cls : Value} {C : Addr} {d : Option Addr} {i : Nat} {ts : Addr → Value → Option Addr → TS} {Wout : WX} (te : PySem.W.exmOne K cls (.ref C) = some false) (h : Wout cls d σ H) : wAs K (.ref C) i ts Wout D cls d σ H := ⟨false, te, (fun z => nomatch z), fun _ => h⟩
theorem r_wOnlyNo {cls : Value} {C : Addr} {d : Option Addr} {ts : Addr → Value → Option Addr → TS} {Wout : WX} (te : PySem.W.exmOne K cls (.ref C) = some false) (h : Wout cls d σ H) : wOnly K (.ref C) ts Wout D cls d σ H := ⟨false, te, (fun z => nomatch z), fun _ => h⟩
theorem r_wTwo1 {cls c1 c2 : Value} {d : Option Addr} {ts : Addr → Value → Option Addr → TS} {Wout : WX} {b2 : Bool} (h1 : PySem.W.exmOne K cls c1 = some true) (h2 : PySem.W.exmOne K cls c2 = some b2) (h : ∀ a, H a = none → ts a cls d D σ H) : wTwo K c1 c2 ts Wout D cls d σ H :=
  ⟨true, by rw [exm_any2 h1 h2]; rfl, fun _ => h, fun z => nomatch z⟩
theorem r_wTwo2 {cls c1 c2 : Value} {d : Option Addr} {ts : Addr → Value → Option Addr → TS} {Wout : WX} {b1 : Bool} (h1 : PySem.W.exmOne K cls c1 = some b1) (h2 : PySem.W.exmOne K cls c2 = some true) (h : ∀ a, H a = none → ts a cls d D σ H) : wTwo K c1 c2 ts Wout D cls d σ H :=
  ⟨true, by rw [exm_any2 h1 h2, Bool.or_true], fun _ => h, fun z => nomatch z⟩
theorem r_wTwoNo {cls c1 c2 : Value} {d : Option Addr} {ts : Addr → Value → Option Addr → TS} {Wout : WX} (h1 : PySem.W.exmOne K cls c1 = some false) (h2 : PySem.W.exmOne K cls c2 = some false) (h : Wout cls d σ H) : wTwo K c1 c2 ts Wout D cls d σ H :=
  ⟨false, by rw [exm_any2 h1 h2]; rfl, (fun z => nomatch z), fun _ => h⟩
end
/-! ### defs with defaults that are all written in the call -/
section
variable {K : PySem.W.Frag} {x qual : Str} {params : Arguments} {body : List Stmt} {scope : Scope} {dvs : List V} {kws : List (Str × V)} {f : Addr} {fd : FuncData} {ps : List Str}
theorem binds_all (F : FunD K x qual params body scope dvs kws f fd) (hd : dvs ≠ [])
    (h : ∀ (T : Addr) (kV doc pm : Value) (an : Option Addr) (cdv ct : Value) (us its : List Value), us.length = ps.length → its.length = dvs.length →
      ∃ k, bindArgs (PySem.W.fnOf x qual params body scope (.ref T) kV doc pm an cdv ct) ⟨us, []⟩ = seqItems? (.ref T) >>= k ∧ k (some its.toArray) = pure (ps.zip us)) : Binds K fd ps [] := by
  obtain ⟨ds, r, b⟩ := FunD.binds1 (ps := ps) F ps.length dvs.length hd (by omega) fun T kV doc pm an cdv ct us its h1 h2 => by
    obtain ⟨k, e1, e2⟩ := h T kV doc pm an cdv ct us its h1 h2
    refine ⟨k, e1, ?_⟩
    rw [← h2, List.drop_length, List.append_nil]
    exact e2
  rw [List.drop_length] at r
  cases r
  exact b
end
end Px

/-! PxLcX: [e for x in it], the element lets something out -/
namespace Px
open PySem PySem.Spec PyProof.Rows L2 LamX NdefX
/-- where the block's own names live -/
abbrev BkC (s : Shared) : Addr := s.heap.objs.size
/-- the block's context, what its element may let out told by E -/
abbrev BkR (X : Cx) (s : Shared) (H : Hp) (scope : Scope) (fp : List Addr) (E : XK) : Cx :=
  (Bk X s H scope fp).wish fun e s' => ∃ (pins : List (Addr × Obj)) (σ : LS) (H1 : Hp) (s1 : Shared), Inv (Bk X s H scope fp) pins σ H1 s1 ∧ L2.CX X.prog X.w X.stack H1 s1 E e s'
section
variable {X : Cx} {pins : List (Addr × Obj)} {s3 : Shared} {σ : LS} {H3 : Hp} {scope : Scope} {fp : List Addr} {us : List Nat} {E : XK}
theorem ok_wish {Y : Cx} {xe : Value → Shared → Prop} (k : Y.Ok) : (Y.wish xe).Ok := ⟨k.mod, k.kind, k.glob, k.blt, k.above, k.inj, k.has, k.cab, k.hd, k.frames, k.stk, k.exf, k.bs, k.bsz, k.noex, k.exfs, k.funs, k.frf⟩
theorem ok_unwish {Y : Cx} {xe : Value → Shared → Prop} (k : (Y.wish xe).Ok) : Y.Ok := ⟨k.mod, k.kind, k.glob, k.blt, k.above, k.inj, k.has, k.cab, k.hd, k.frames, k.stk, k.exf, k.bs, k.bsz, k.noex, k.exfs, k.funs, k.frf⟩
theorem inv_wish {Y : Cx} {xe : Value → Shared → Prop} {pins : List (Addr × Obj)} {σ : LS} {H : Hp} {s : Shared} (I : Inv Y pins σ H s) : Inv (Y.wish xe) pins σ H s := ⟨ok_wish I.ok, I.os, I.bare, I.base, I.loc, I.cell, I.free, I.freeC, I.pin, I.hok, I.len⟩
theorem inv_unwish {Y : Cx} {xe : Value → Shared → Prop} {pins : List (Addr × Obj)} {σ : LS} {H : Hp} {s : Shared} (I : Inv (Y.wish xe) pins σ H s) : Inv Y pins σ H s := ⟨ok_unwish I.ok, I.os, I.bare, I.base, I.loc, I.cell, I.free, I.freeC, I.pin, I.hok, I.len⟩
/-- a call in the element lets out what E tells of -/
theorem pass_blk (σ : LS) : PassesAt (L2.CX X.prog X.w) (BkR X s3 H3 scope fp E) σ (WE (fun cls d _ H => E cls d H) σ) := fun pins H s e s' I c => ⟨pins, σ, H, s, inv_unwish I, c⟩
theorem hid_ne {h : Heap} {C b : Addr} {o : Obj} (e : h.get? b = some o) (n : b ≠ C) : (PySem.W.hideAll h [C]).get? b = some o := PySem.W.hideAll_get _ e fun m => n (List.mem_singleton.mp m)
theorem hid_of {h : Heap} {C b : Addr} {o : Obj} (e : (PySem.W.hideAll h [C]).get? b = some o) : h.get? b = some o ∧ b ≠ C := ⟨PySem.W.of_hideAll _ e, fun z => by
  rw [z, PySem.W.hideAll_none _ (List.mem_singleton.mpr rfl)] at e
  cases e⟩
theorem hid_none {h : Heap} {C b : Addr} (e : h.get? b = none) : (PySem.W.hideAll h [C]).get? b = none := by
  cases q : (PySem.W.hideAll h [C]).get? b with
  | none => rfl
  | some o => rw [(hid_of q).1] at e; cases e
theorem hok_hid {P : Program} {w : World} {H : Hp} {h : Heap} {C : Addr} (k : HOk P w H h) (n : H C = none) : HOk P w H (PySem.W.hideAll h [C]) := fun b o q =>
  (k b o q).stay (fun c u hc r => hid_ne r fun z => by
    rcases hc with hc | hc
    · rw [← hc, z, n] at q; cases q
    · rw [z, n] at hc; cases hc) (fun _ r => r) fun _ _ r => r
/-- what the def knew is known still, the block's own names put aside -/
theorem Marks.outC (M : Marks X pins H3 s3 fp) (I3 : Inv X pins σ H3 s3) {pins' : List (Addr × Obj)} {σ' : LS} {H' : Hp} {s' : Shared} (J : Inv (Bk X s3 H3 scope fp) pins' σ' H' s') :
    Inv X pins σ H' { s' with heap := PySem.W.hideAll s'.heap [BkC s3] } := by
  have u : Un (frs X.stack) fp H3 H' s3.heap s'.heap := J.base
  have ne : ∀ {b o}, s3.heap.get? b = some o → b ≠ BkC s3 := fun e => Nat.ne_of_lt (Heap.lt_size e)
  refine I3.call' (ch := fp) J.os ⟨fun b o e n hb hx => hid_ne (u.keep b o e n hb hx) (ne e), fun b o e n hb hx => ?_, fun b o e n hx => u.free b o e n hx, fun b o e hx => ?_, u.tups, u.frzs, u.tbls⟩ (hok_hid J.hok J.free) J.bare fun b hb => ?_
  · obtain ⟨sl, q⟩ := u.slot b o e n hb hx
    exact ⟨sl, hid_ne q (ne e)⟩
  · obtain ⟨o', q⟩ := u.there b o e hx
    exact ⟨o', hid_ne q (ne e)⟩
  · have f := (M b hb).1
    exact ⟨f.2.2.2.1, f.2.1, f.2.2.2.2.1, f.2.2.2.2.2⟩
theorem traced_hid {h B : Heap} {C a : Addr} {Z : Obj → Prop} {fl : Value} (t : HandSPX.TracedZ h B a Z fl) : HandSPX.TracedZ h (PySem.W.hideAll B [C]) a Z fl := by
  obtain ⟨oe, vs, T, oT, ts, he, hz, hd, h1, hnT, r⟩ := t
  exact ⟨oe, vs, T, oT, ts, he, hz, hd, h1, hid_none hnT, r⟩
theorem flying_hid {h B : Heap} {C a : Addr} {l : List Env} {Z : Obj → Prop} (f : HandSPX.FlyingZ B l a Z h) : HandSPX.FlyingZ (PySem.W.hideAll B [C]) l a Z h :=
  ⟨fun b o e => f.1 b o (hid_of e).1, hid_none f.2.1, funFrames_none f.2.2.1 fun L hL => hid_none (f.2.2.1.mem hL).1, traced_hid f.2.2.2⟩
/-- a call's exception, the block's names neither in the ground nor in the state -/
theorem call_ground {H : Hp} {s s' : Shared} {C : Addr} {m : Str → Option Value} {u : Value} (I : Inv X pins σ H { s with heap := PySem.W.hideAll s.heap [C] }) (nC : H C = none) (nF : C ∉ frs X.stack) (hC : s.heap.Ns C m) (c : L2.CX X.prog X.w X.stack H s E u s') :
    ∃ (a : Addr) (B : Heap) (sI : Shared) (H' : Hp) (cls : Value) (d : Option Addr), u = .ref a ∧ Inv X pins σ H' sI ∧ (∀ b o, sI.heap.get? b = some o → b ∉ frs X.stack → B.get? b = some o) ∧ sI.heap.UpToSlots s'.heap ∧
      HandSPX.FlyingZ B X.stack a (Zc cls d) s'.heap ∧ H' a = none ∧ s'.os = sI.os ∧ AllBare s'.gens ∧ E cls d H' ∧ B.get? C = none ∧ sI.heap.get? C = none ∧ s'.heap.Ns C m := by
  obtain ⟨a, B0, H', cls, d, rfl, fl0, hok0, ub, na, os, ag, hE⟩ := c
  have hCs : s'.heap.Ns C m := by
    obtain ⟨o, es, ep, e, r⟩ := hC
    exact ⟨o, es, ep, fl0.1 C o (ub.keep C o e nC nF), r⟩
  have nC' : H' C = none := by
    obtain ⟨o, es, ep, e, r⟩ := hC
    exact ub.free C o e nC
  have fl := flying_hid (C := C) fl0
  have hok := hok_hid hok0 nC'
  generalize eB : PySem.W.hideAll B0 [C] = B at fl hok
  have bk : ∀ {b o}, B0.get? b = some o → b ≠ C → B.get? b = some o := fun e n => by rw [← eB]; exact hid_ne e n
  have bC : B.get? C = none := by rw [← eB]; exact PySem.W.hideAll_none _ (List.mem_singleton.mpr rfl)
  obtain ⟨G, g1, g2⟩ := restrict s'.heap fun b => (B.get? b).isSome || decide (b ∈ frs X.stack)
  have st : B.StaysIn s'.heap := fl.1
  have gB : ∀ b o, B.get? b = some o → G.get? b = some o := fun b o e => by
    rw [g1 b (by simp [e])]
    exact st b o e
  have gF : ∀ b, b ∈ frs X.stack → G.get? b = s'.heap.get? b := fun b hb => g1 b (by simp [hb])
  have og : ∀ b o, G.get? b = some o → s'.heap.get? b = some o ∧ ((B.get? b).isSome = true ∨ b ∈ frs X.stack) := fun b o e => by
    cases q : ((B.get? b).isSome || decide (b ∈ frs X.stack)) with
    | false => rw [g2 b q] at e; cases e
    | true =>
      rw [g1 b q] at e
      exact ⟨e, by simpa [Bool.or_eq_true] using q⟩
  refine ⟨a, B, { s with heap := G, gens := s'.gens, drawn := s'.drawn, toks := s'.toks }, H', cls, d, rfl, ?_, fun b o e hb => ?_, Heap.UpToSlots.of_keeps fun b o e => (og b o e).1, fl, na, os, ag, hE, bC, ?_, hCs⟩
  · refine I.call' (s' := { s with heap := G, gens := s'.gens, drawn := s'.drawn, toks := s'.toks }) (ch := []) rfl ⟨fun b o e n hb _ => ?_, fun b o e n hb _ => ?_, fun b o e n _ => ub.free b o (hid_of e).1 n, fun b o e _ => ?_, ub.tups, ub.frzs, ub.tbls⟩ (hok.kept gB) ag (fun _ z => nomatch z)
    · exact gB b o (bk (ub.keep b o (hid_of e).1 n hb) (hid_of e).2)
    · obtain ⟨sl, q⟩ := ub.slot b o (hid_of e).1 hb
      exact ⟨sl, by rw [gF b hb]; exact q⟩
    · by_cases hb : b ∈ frs X.stack
      · obtain ⟨sl, q⟩ := ub.slot b o (hid_of e).1 hb
        exact ⟨_, by rw [gF b hb]; exact q⟩
      · obtain ⟨o', q⟩ := ub.there b o (hid_of e).1 hb
        exact ⟨o', gB b o' (bk q (hid_of e).2)⟩
  · obtain ⟨e', h⟩ := og b o e
    rcases h with h | h
    · obtain ⟨o', q⟩ := Option.isSome_iff_exists.mp h
      have z := st b o' q
      rw [e'] at z; cases z
      exact q
    · exact absurd h hb
  · exact g2 C (by simp [bC, nF])
/-- it goes on from the block into the def -/
theorem blk_raises (hs : X.stack = X.env :: X.outer) (hf : X.env.frame = some X.env.locals) (tk : Takes X (fun cls d _ H => E cls d H)) (M : Marks X pins H3 s3 fp) (I3 : Inv X pins σ H3 s3) {e : Value} {s' : Shared}
    (x : ∃ (pins : List (Addr × Obj)) (σ : LS) (H1 : Hp) (s1 : Shared), Inv (Bk X s3 H3 scope fp) pins σ H1 s1 ∧ L2.CX X.prog X.w X.stack H1 s1 E e s') :
    notedBy (model X.prog X.w) X.A (Bk X s3 H3 scope fp).env (fun e s' => CompFails (model X.prog X.w) X.A X.xe (Bk X s3 H3 scope fp).env e s') e s' := by
  obtain ⟨pins', σ', H1, s1, J, c⟩ := x
  have I1 := Marks.outC M I3 J
  obtain ⟨m, hC, _⟩ := J.loc
  have nF : BkC s3 ∉ frs X.stack := fun hm => by
    obtain ⟨_, o, e, _⟩ := I3.stack.mem hm
    exact Nat.lt_irrefl _ (Heap.lt_size e)
  obtain ⟨a, B, sI, H', cls, d, rfl, I, nb, up, fl, na, os, ag, hE, bC, sC, hC'⟩ := call_ground I1 J.free nF hC c
  have hfr : X.A.frames = some (X.env :: X.outer) := by rw [I3.ok.frames, hs]
  rw [hs] at fl
  show wpAny _ _ (noteFrame (.ref a) (Bk X s3 H3 scope fp).env) _ _ s'
  rw [noteFrame_env (cenv := (Bk X s3 H3 scope fp).env) (env := X.env) _ rfl]
  refine HandSPX.looks_onZ Zc.steady hfr hf fl fun h2 hh up2 => ?_
  refine ⟨m, hC'.upToSlots up2, fun h3 m3 hn3 hs3 => ?_⟩
  have hC2 := hC'.upToSlots up2
  obtain ⟨b1, b0, f1, oe, vs, T, oT, ts, he, hz, hd, h1, hnT, hTe, hT, hdT, h3'⟩ := hh
  have neC : ∀ {b o ws}, h2.get? b = some o → o.data = .fields ws → b ≠ BkC s3 := fun e dd z => by
    obtain ⟨o', es, ep, e', d', _⟩ := hC2
    rw [z] at e
    rw [show h2.get? (BkC s3) = some o' from e'] at e
    cases e
    rw [dd] at d'
    cases d'
  have hh3 : HandSPX.HeldZ B (X.env :: X.outer) a (Zc cls d) X.env.locals h3 :=
    ⟨fun b o e => (hs3.2 b fun z => by rw [show b = BkC s3 from z, show B.get? (BkC s3) = none from bC] at e; cases e).trans (b1 b o e), b0, Heap.FunFrames.sameBut hs3 hn3 f1, oe, vs, T, oT, ts, (hs3.2 a (neC he hd)).trans he, hz, hd, h1, hnT, hTe, (hs3.2 T (neC hT hdT)).trans hT, hdT, h3'⟩
  unfold PySem.passOn
  refine wpAny_bind (wpAny_field ((hs3.2 a (neC he hd)).trans he) hd h1 ?_)
  rw [if_neg (show ¬ ((Value.ref T == Value.none) = true) from by simp)]
  have fin : wpAny (model X.prog X.w) X.A (setFlight (.ref a) X.env.frame) (fun _ s4 => wpAny (model X.prog X.w) X.A (throw (.ref a) : Sem Value) (fun _ _ => False) X.xe s4) X.xe { s' with heap := h3 } := by
    rw [hf]
    refine HandSPX.setFlight_onZ hh3 fun h4 hh4 up4 => wpAny_throw (tk _ _ ?_)
    refine ⟨a, B, sI, pins, σ, H', cls, d, rfl, I, nb, fun b o e hnf => ?_, .inr (.inr (by rw [hs]; exact hh4)), na, os, ag, hE⟩
    obtain ⟨sl1, e1⟩ := up b o e hnf
    obtain ⟨sl2, e2⟩ := up2 b _ e1 hnf
    have nb' : b ≠ BkC s3 := fun z => by rw [z, show sI.heap.get? (BkC s3) = none from sC] at e; cases e
    obtain ⟨sl3, e3⟩ := up4 b _ ((hs3.2 b nb').trans e2) hnf
    exact ⟨sl3, e3⟩
  first
    | exact wpAny_bind (wpAny_pure (wpAny_bind fin))
    | exact wpAny_bind fin
theorem lcX_told {s : Shared} {H : Hp} {Q : VK} {elt tg iter : Expr} {own : List (Str × Nat)} {pos pos' : Pos} {wi : TI} {g : TG} {te : TE} {use : Option (Value → Sem Unit)} {Qf : Value → Shared → Prop} (hc : X.calm = true) (hN : X.N.Nodup) (I : Inv X pins σ H s)
    (hsX : X.stack = X.env :: X.outer) (hfX : X.env.frame = some X.env.locals) (tk : Takes X (fun cls d _ H => E cls d H))
    (hi : PI X tg iter wi) (ok : BlkOk X.N X.env.scope scope own) (hg : ∀ (s : Shared) (H : Hp) (fp : List Addr), PG (Bk X s H scope fp) tg g) (he : ∀ (s : Shared) (H : Hp) (fp : List Addr), PE (BkR X s H scope fp E) elt te)
    (hs : ∀ x, foldedSetIterable iter X.env x = pure x) (h : tLc wi g tYes te (own.map (·.2)) σ H Q)
    (end_ : ∀ D C cenv s' m H', cenv.locals = C → Inv X pins σ H' s' → Q (.ref D) H' → s'.heap.Ns C m → FpOk X pins H' C → compEnds (model X.prog X.w) X.A X.xe use Qf (.ref D) cenv (.ok .next) s') :
    wpAny (model X.prog X.w) X.A (comprehension (.ListComp elt [⟨tg, iter, [], 0⟩] scope pos) scope X.env pos' (newList []) false (eval iter X.env) use) Qf X.xe s := by
  have caps : ∀ y ∈ scope.names, y.2 = .free → ∃ c, X.env.cells.lookup y.1 = some c := fun y hy e => (ok.free y hy e).elim (fun k => I.ok.has _ (.inl k)) fun k => I.ok.has _ (.inr k)
  refine comprehension_at (use := use) rfl hs (closure_ok caps) ok.kind (fun y hy e => by rw [ok.uniq y hy, e]) (thn (hi.run pins s σ H _ I h) fun xv s1 hx => thn hx fun itv s2 hit => ?_)
  obtain ⟨it, fp, tn, J, H2, rfl, I2, T, st2, f2, q⟩ := hit
  refine wpAny_newObj_type (newEnv_comp ?_) (by show 0 ≤ sizeLine; decide)
  have newD : H2 s2.heap.objs.size = none := I2.hok.fresh (Nat.le_refl _)
  obtain ⟨W, ⟨m0, w0⟩, turn⟩ := q s2.heap.objs.size newD
  generalize eH : upd H2 s2.heap.objs.size (.lst []) = H3 at w0
  generalize es : ({ s2 with heap := s2.heap.push { cls := .type "list", data := .seq ([] : List Value).toArray } } : Shared) = s3
  have hh : s3.heap = s2.heap.push { cls := .type "list", data := .seq ([] : List Value).toArray } := by rw [← es]
  have I3 : Inv X pins σ H3 s3 := by
    rw [← es, ← eH]
    exact I2.laid (t' := s2.toks) (fun b o e => Heap.get?_push_of_some _ e) (Nat.le_refl _) ⟨Nat.zero_le _, [], 0, .nil, Heap.get?_push_size _ rfl⟩
  have M : Marks X pins H3 s3 fp := fun b hb => by
    obtain ⟨o, e, _⟩ := T.obj _ _ st2 b hb
    have lt := Heap.lt_size e
    refine ⟨⟨?_, (f2 b hb).2⟩, by rw [hh, Heap.size_push]; exact Nat.lt_succ_of_lt lt⟩
    rw [← eH, upd_ne (Nat.ne_of_lt lt)]
    exact (f2 b hb).1
  have I4 := block_start I3 ok hN M
  have st3 : tn 0 s3.heap := T.keep _ _ _ st2 fun b _ o e => by rw [hh]; exact Heap.get?_push_of_some _ e
  show codeAny _ _ (.compStart (.ListComp elt [⟨tg, iter, [], 0⟩] scope pos) 0 (.ref it) (.ref s2.heap.objs.size) (Bk X s3 H3 scope fp).env) (compEnds (model X.prog X.w) X.A X.xe use Qf (.ref s2.heap.objs.size) (Bk X s3 H3 scope fp).env) { s3 with heap := pushCells (s3.heap.push { cls := .type "dict", data := .dict #[] }) scope.names }
  generalize e4 : ({ s3 with heap := pushCells (s3.heap.push { cls := .type "dict", data := .dict #[] }) scope.names } : Shared) = s4 at I4 ⊢
  have st4 : tn 0 s4.heap := T.keep _ _ _ st3 fun b _ o e => by rw [← e4]; exact pushCells_keeps _ _ _ _ (Heap.get?_push_of_some _ e)
  have bad : ∀ {e : Value} {s' : Shared}, (BkR X s3 H3 scope fp E).xe e s' → notedBy (model X.prog X.w) X.A (Bk X s3 H3 scope fp).env (fun e s' => compEnds (model X.prog X.w) X.A X.xe use Qf (.ref s2.heap.objs.size) (Bk X s3 H3 scope fp).env (.error e) s') e s' := fun x => by
    have z := blk_raises hsX hfX tk M I3 x
    cases use with
    | none => exact z
    | some u => exact z
  refine codeAny_compStart_list ?_ (T.self X.A 0 _ _ _ st4 ?_) <;>
  · refine compLoop_any (AtTurn X s3 H3 scope fp (own.map (·.2)) σ tn W) ?_ m0 ⟨0, H3, I4, st4, fun b hb => (M b hb).1.1, w0⟩
    rintro n s5 ⟨i, H5, I5, st5, n5, w5⟩
    rcases turn i n H5 w5 with ⟨stop, done⟩ | ⟨go, Nx, hNx, step⟩
    · refine thnF (T.done (Bk X s3 H3 scope fp) rfl rfl rfl hc i [] s5 _ H5 (fun _ _ => False) I5 (marks_in I5 n5) st5 stop) fun r s6 ⟨hr, I6⟩ => ?_
      subst hr
      obtain ⟨m, hn, _⟩ := I6.loc
      exact end_ _ _ _ s6 m H5 rfl (M.out I3 I6) done hn (I3.fpOk (Nat.le_refl _) I6.free)
    · refine thnF (T.item (Bk X s3 H3 scope fp) rfl rfl rfl hc i [] s5 _ H5 (fun _ _ => False) I5 (marks_in I5 n5) st5 go) fun r s6 ⟨u, hr, h6⟩ => ?_
      subst hr
      refine thnF h6 fun _ s7 ⟨x, H7, I7, r7, y7, st7, n7⟩ => ?_
      refine thnF ((hg s3 H3 fp).run _ s7 _ H7 x u _ (I7.pinned (marks_in I7 n7) (T.obj _ _ st7)) r7 (step x H7 y7)) fun _ s8 ⟨σ8, H8, I8, hw, q8⟩ => ?_
      refine wpAny_tests_nil ?_
      have q8 : te σ8 H8 fun y H4 => ∃ acc, H4 s2.heap.objs.size = some (.lst acc) ∧ acc.length < sizeLine ∧ Nx (upd H4 s2.heap.objs.size (.lst (acc ++ [y]))) := q8
      rw [if_pos rfl]
      refine wpAny_mono ((he s3 H3 fp).run _ s8 σ8 H8 _ (inv_wish I8) q8) (fun z s9 ⟨yv, H9, I9', r9, acc, hD, hz, nx⟩ => ?_) (fun e s9 x => bad x)
      have I9 := inv_unwish I9'
      refine app_ok (X := Bk X s3 H3 scope fp) I9 hD hz r9 fun s' K => ?_
      obtain ⟨m', hm, w'⟩ := hNx _ nx
      exact at_next T st7 K hw hm w'
theorem pe_lcX {elt tg iter : Expr} {own : List (Str × Nat)} {pos : Pos} {wi : TI} {g : TG} {te : TE} (hc : X.calm = true) (hN : X.N.Nodup) (hsX : X.stack = X.env :: X.outer) (hfX : X.env.frame = some X.env.locals) (tk : Takes X (fun cls d _ H => E cls d H)) (hi : PI X tg iter wi) (ok : BlkOk X.N X.env.scope scope own)
    (hg : ∀ (s : Shared) (H : Hp) (fp : List Addr), PG (Bk X s H scope fp) tg g) (he : ∀ (s : Shared) (H : Hp) (fp : List Addr), PE (BkR X s H scope fp E) elt te) (hs : ∀ x, foldedSetIterable iter X.env x = pure x := by intro _; rfl) :
    PE X (.ListComp elt [⟨tg, iter, [], 0⟩] scope pos) (tLc wi g tYes te (own.map (·.2))) := by
  refine ⟨fun pins s σ H Q I h => ?_⟩
  rw [eval_ListComp]
  exact lcX_told hc hN I hsX hfX tk hi ok hg he hs h fun D C cenv s' m H' ec K q hn f => ⟨m, by rw [ec]; exact hn, fun h'' sb => ⟨.ref D, H', K.turned (t' := s'.toks) (fun b o hb e => (sb.2 b (by rw [ec]; exact hb)).trans e) f.1 f.2.1 f.2.2.2.1 f.2.2.2.2.1 f.2.2.2.2.2, rfl, q⟩⟩
/-- name = [..] on one line, the name a local -/
theorem ps_setLcX {i : Nat} {y : Str} {py : Pos} {elt tg iter : Expr} {own : List (Str × Nat)} {pos spos : Pos} {wi : TI} {g : TG} {te : TE} (hc : X.calm = true) (hN : X.N.Nodup) (hy : X.N[i]? = some y) (hyl : X.env.scope.names.lookup y = some .local)
    (hsw : swapsWith (.ListComp elt [⟨tg, iter, [], 0⟩] scope pos) (some (.Name y py)) spos.line X.env = pure true) (hsX : X.stack = X.env :: X.outer) (hfX : X.env.frame = some X.env.locals) (tk : Takes X (fun cls d _ H => E cls d H)) (hi : PI X tg iter wi) (ok : BlkOk X.N X.env.scope scope own)
    (hg : ∀ (s : Shared) (H : Hp) (fp : List Addr), PG (Bk X s H scope fp) tg g) (he : ∀ (s : Shared) (H : Hp) (fp : List Addr), PE (BkR X s H scope fp E) elt te) (hs : ∀ x, foldedSetIterable iter X.env x = pure x := by intro _; rfl) :
    PS X (.Assign [.Name y py] (.ListComp elt [⟨tg, iter, [], 0⟩] scope pos) spos) (tAsg (tLc wi g tYes te (own.map (·.2))) (gName i)) := by
  refine ⟨fun pins s σ H D I h => ?_⟩
  rw [exec_Assign_Name_used _ _ _ _ hsw]
  refine wpAny_bind (wpAny_standAt (wpAny_bind ?_))
  show wpAny _ X.A (do let _ ← comprehension (.ListComp elt [⟨tg, iter, [], 0⟩] scope pos) scope X.env (firstIterPos [⟨tg, iter, [], 0⟩] pos) (newList []) false (eval iter X.env) (some (assign (.Name y py) X.env))) _ _ s
  have h : tLc wi g tYes te (own.map (·.2)) σ H (fun x H1 => gName i x σ H1 D.nx) := h
  refine wpAny_bind (thn (lcX_told (Qf := fun _ s' => SP X pins D .next s') hc hN I hsX hfX tk hi ok hg he hs h fun L C cenv s' m H' ec I' q hn f => ?_) fun _ s' hq => wpAny_pure (wpAny_pure hq))
  show wpAny _ _ (assign (.Name y py) X.env (.ref L)) _ _ _
  refine wpAny_assign_Name (store_ok2 (v := V.ref L) I' hN hy (.inl hyl) rfl (fun s2 I2 ⟨a, sb, ha⟩ => ?_) (.inr hyl))
  obtain ⟨f0, f1, f2, f3, f4, f5⟩ := f
  have haC : C ≠ a := by
    rcases ha with z | z
    · rw [z]; exact f1
    · exact fun e => f4 y a z e.symm
  refine ⟨m, by rw [ec]; exact hn.sameBut sb haC, fun h3 sb3 => ?_⟩
  exact ⟨_, H', I2.turned (t' := s2.toks) (fun b o hb e => (sb3.2 b (by rw [ec]; exact hb)).trans e) f0 f1 f3 f4 f5, q⟩
end
end Px

/-! PxRead: what reading wants: a list that is extended, int(text, 16) -/
namespace Px
open PySem PySem.Spec PyProof.Rows L2
theorem ip_ext {X : Cx} : PIp X .Add rExt2 := fun pins s σ H x y v u Q I rx ry h => iop_ext pins s σ H x y v u Q I rx ry h
theorem r_ext {l b : Addr} {xs zs : List V} {H : Hp} {P : V → Hp → Prop} (h1 : H l = some (.lst xs)) (h2 : H b = some (.lst zs)) (h3 : xs.length + zs.length ≤ sizeLine) (h : P (.ref l) (upd H l (.lst (xs ++ zs)))) : rExt2 (.ref l) (.ref b) H P := ⟨l, b, xs, zs, rfl, rfl, h1, h2, h3, h⟩
theorem r_intHex {l : List Nat} {H : Hp} {Q : VK} (h1 : l ≠ []) (h2 : l.length ≤ 640) (h3 : ∀ c ∈ l, Hx.IsHex c) (h : Q (.int ((Hx.hexNum l : Nat) : Int)) H) : rIntHex [.str (SX.S l), .int 16] H Q := ⟨l, rfl, h1, h2, h3, h⟩
end Px

/-! PxKw: keyword-only parameters that lack in the middle -/
namespace Px
open PySem PySem.Spec PyProof.Rows L2
theorem vals_take : ∀ (n : Nat) {vs : List V} {us : List Value}, Vals vs us → Vals (vs.take n) (us.take n)
  | 0, _, _, _ => .nil
  | _ + 1, [], [], _ => .nil
  | n + 1, _ :: _, _ :: _, .cons h t => .cons h (vals_take n t)
theorem vals_drop : ∀ (n : Nat) {vs : List V} {us : List Value}, Vals vs us → Vals (vs.drop n) (us.drop n)
  | 0, _, _, h => h
  | _ + 1, [], [], _ => .nil
  | n + 1, _ :: _, _ :: _, .cons _ t => vals_drop n t
end Px

namespace Px
open PySem PySem.Spec PyProof.Rows L2
/-! ### text * number, many times -/
def rMulW : R2 := fun x y H Q => ∃ (a : Str) (n : Nat), x = .str a ∧ y = .int n ∧ a.length ≤ 1000 ∧ n ≤ 1000000 ∧ a.length * n ≤ sizeLine ∧ Q (.str (strRep a n)) H
theorem op_mulW {X : Cx} : OpR X (binaryOp .Mult) rMulW := by
  intro pins s σ H x y v u Q I rx ry h
  obtain ⟨a, n, rfl, rfl, ha, hn, hz, q⟩ := h
  obtain ⟨t, rfl⟩ := rx
  obtain ⟨t2, rfl⟩ := ry
  have dv : 1000 ≤ (2 ^ 63 - 1 : Int) / (1000 : Int) := by decide
  refine PySem.P.mul_str (by
    rw [decide_eq_false (by omega), decide_eq_false (by omega)]; rfl) (fun h1 _ z => ?_) (fun h1 _ => ?_) ?_
  · have h3 : (1000 : Int) ≤ (2 ^ 63 - 1) / (n : Int) := (Int.le_ediv_iff_mul_le (by omega)).mpr (by omega)
    omega
  · unfold Builtin.Str.tooLong
    rw [Int.toNat_natCast]
    refine decide_eq_false ?_
    omega
  by_cases h1 : (n : Int) < 1
  · rw [if_pos h1]
    have e : n = 0 := by omega
    subst e
    exact ⟨by decide, ⟨.str (strRep a 0), H, I.tok _, ⟨_, rfl⟩, q⟩⟩
  · rw [if_neg h1]
    by_cases h2 : ((n : Int) == 1 || a.length == 0) = true
    · rw [if_pos h2]
      have e : strRep a n = a := by
        unfold strRep
        rcases Bool.or_eq_true_iff.mp h2 with z | z
        · have z := beq_iff_eq.mp z
          have : n = 1 := by omega
          subst this
          simp
        · have z : a.cps.size = 0 := beq_iff_eq.mp z
          have : a.cps = #[] := Array.eq_empty_of_size_eq_zero z
          have e2 : a = ⟨#[]⟩ := by
            show a = _
            rw [← this]
          rw [e2]
          simp
      rw [e] at q
      exact ⟨.str a, H, I, ⟨_, rfl⟩, q⟩
    · rw [if_neg h2]
      have e : (⟨(List.replicate (Int.toNat n) a.cps).foldl (· ++ ·) #[]⟩ : Str) = strRep a n := by
        rw [rep_fold, Int.toNat_natCast]
        unfold strRep
        simp
      rw [e]
      refine ⟨?_, ⟨.str (strRep a n), H, I.tok _, ⟨_, rfl⟩, q⟩⟩
      unfold strRep
      show (List.replicate n a.cps.toList).flatten.toArray.size ≤ sizeLine
      have : a.cps.toList.length = a.length := Array.length_toList
      simp only [List.size_toArray, List.length_flatten, List.map_replicate, List.sum_replicate_nat]
      rw [this, Nat.mul_comm]
      exact hz
end Px

namespace Px
open PySem PySem.Spec PyProof.Rows L2
/-! ### s.rfind(t): where a sign stands last -/
abbrev rRfind : V → List V → Hp → VK → Prop := fun x xs H Q => ∃ a b, x = .str a ∧ xs = [.str b] ∧ Q (.int (Txt.rfind a b)) H
theorem mt_rfindU {X : Cx} : MtR X "str.rfind" rRfind := mt_rfind
theorem rfind_spec (x : Str) (c : Nat) : (Txt.rfind x ⟨#[c]⟩ = -1 ∧ ∀ i : Nat, x.cps.toList[i]? ≠ some c) ∨ ∃ i : Nat, Txt.rfind x ⟨#[c]⟩ = (i : Int) ∧ x.cps.toList[i]? = some c ∧ ∀ k : Nat, i < k → x.cps.toList[k]? ≠ some c := by
  unfold Txt.rfind
  rcases PySem.StrLaws.last_spec x ⟨#[c]⟩ with ⟨e, h⟩ | ⟨i, e, h1, h2⟩
  · rw [e]
    exact .inl ⟨rfl, fun i z => h i ((PySem.StrLaws.subAt_one x c i).mpr z)⟩
  · rw [e]
    exact .inr ⟨i, rfl, (PySem.StrLaws.subAt_one x c i).mp h1, fun k hk z => h2 k hk ((PySem.StrLaws.subAt_one x c k).mpr z)⟩
end Px

/-! rows of signs, over lists of numbers -/
namespace KR
/-- rows with a line feed between -/
def jn : List (List Nat) → List Nat
  | [] => []
  | [x] => x
  | x :: y :: r => x ++ 10 :: jn (y :: r)
theorem jn_cons {x : List Nat} {r : List (List Nat)} (h : r ≠ []) : jn (x :: r) = x ++ 10 :: jn r := by
  match r, h with
  | y :: r, _ => rfl
def Free (l : List Nat) : Prop := ∀ c ∈ l, c ≠ 10
theorem cut_first : ∀ {a b s t : List Nat}, Free a → Free b → a ++ 10 :: s = b ++ 10 :: t → a = b ∧ s = t
  | [], [], s, t, _, _, h => ⟨rfl, (List.cons.inj h).2⟩
  | [], y :: b, s, t, _, hb, h => absurd (List.cons.inj h).1.symm (hb y (List.mem_cons_self ..))
  | x :: a, [], s, t, ha, _, h => absurd (List.cons.inj h).1 (ha x (List.mem_cons_self ..))
  | x :: a, y :: b, s, t, ha, hb, h => by
    obtain ⟨h1, h2⟩ := List.cons.inj h
    obtain ⟨h3, h4⟩ := cut_first (fun c hc => ha c (List.mem_cons_of_mem _ hc)) (fun c hc => hb c (List.mem_cons_of_mem _ hc)) h2
    exact ⟨by rw [h1, h3], h4⟩
theorem no_cut {a b t : List Nat} (ha : Free a) (h : a = b ++ 10 :: t) : False := ha 10 (by rw [h]; simp) rfl
theorem jn_inj : ∀ {p q : List (List Nat)}, p ≠ [] → q ≠ [] → (∀ x ∈ p, Free x) → (∀ x ∈ q, Free x) → jn p = jn q → p = q
  | [x], [y], _, _, _, _, h => by
    have e : x = y := h
    rw [e]
  | [x], y :: z :: r, _, _, hp, _, h => (no_cut (hp x (List.mem_cons_self ..)) (show x = y ++ 10 :: jn (z :: r) from h)).elim
  | x :: z :: r, [y], _, _, _, hq, h => (no_cut (hq y (List.mem_cons_self ..)) (show y = x ++ 10 :: jn (z :: r) from h.symm)).elim
  | x :: x2 :: r, y :: y2 :: t, _, _, hp, hq, h => by
    obtain ⟨h1, h2⟩ := cut_first (hp x (List.mem_cons_self ..)) (hq y (List.mem_cons_self ..)) (show x ++ 10 :: jn (x2 :: r) = y ++ 10 :: jn (y2 :: t) from h)
    have ih := jn_inj (p := x2 :: r) (q := y2 :: t) (by simp) (by simp) (fun z hz => hp z (List.mem_cons_of_mem _ hz)) (fun z hz => hq z (List.mem_cons_of_mem _ hz)) h2
    rw [h1, ih]
  | [], _, h, _, _, _, _ => absurd rfl h
  | _ :: _, [], _, h, _, _, _ => absurd rfl h
theorem count_jn : ∀ {p : List (List Nat)}, p ≠ [] → (jn p).count 10 + 1 = p.length + p.flatten.count 10
  | [x], _ => by simp [jn]; omega
  | x :: y :: r, _ => by
    have ih := count_jn (p := y :: r) (by simp)
    rw [jn_cons (by simp), List.count_append, List.count_cons_self, List.flatten_cons, List.count_append]
    simp only [List.length_cons] at ih ⊢
    omega
  | [], h => absurd rfl h
theorem free_of {p : List (List Nat)} (h : p ≠ []) (e : p.length = (jn p).count 10 + 1) : ∀ x ∈ p, Free x := by
  have c := count_jn h
  have z : p.flatten.count 10 = 0 := by omega
  intro x hx c hc e10
  rw [e10] at hc
  exact (List.count_eq_zero.mp z) (List.mem_flatten.mpr ⟨x, hx, hc⟩)
theorem rows_num {n w r l : Nat} (hw : 0 < w) (h : n = w * r + l) (h1 : 1 ≤ l) (h2 : l ≤ w) : r + 1 = (n + w - 1) / w := by
  subst h
  have e : w * r + l + w - 1 = (l - 1) + w * (r + 1) := by rw [Nat.mul_add, Nat.mul_one]; omega
  rw [e, Nat.add_mul_div_left _ _ hw, Nat.div_eq_of_lt (by omega), Nat.zero_add]
theorem flat_len {w : Nat} : ∀ {p : List (List Nat)}, (∀ x ∈ p, x.length = w) → p.flatten.length = w * p.length
  | [], _ => rfl
  | x :: r, h => by
    rw [List.flatten_cons, List.length_append, h x (List.mem_cons_self ..), flat_len fun y hy => h y (List.mem_cons_of_mem _ hy), List.length_cons, Nat.mul_add, Nat.mul_one, Nat.add_comm]
end KR

/-! quoted texts: the plain law. Lists of signs; no program. -/
namespace QT
def fit (w col s : Nat) : Bool := decide (w = 0) || decide (col + s ≤ w)
def cb (w col s : Nat) : Nat := if 0 < w then col + s else 0
def h32 : List Nat := [61, 50, 48]
/-- what is settled by an item, the column behind, what is held back -/
def plc (w col : Nat) (x : List Nat) : List Nat × Nat × List Nat :=
  if fit w col (x.length + 1) = true then (if x = [32] then ([], col, x) else (x, cb w col x.length, []))
  else if x = [32] then ([61, 10], 0, x)
  else if fit w col x.length = true then ((if x.length = 3 then [61] else []), col, x)
  else ([61, 10] ++ x, x.length, [])
def goOn (w col : Nat) (held : List Nat) : List Nat × Nat :=
  if held = [] then ([], col) else if held = [32] then ([32], cb w col 1) else if held.length = 3 then (10 :: held, 3) else ([61, 10] ++ held, 1)
def endW (w col : Nat) (held : List Nat) : List Nat :=
  if held = [32] then (if fit w col 3 = true then h32 else [61, 10] ++ h32) else if held.length = 3 then held.drop 1 else held
def outL (w : Nat) : Nat → List Nat → List (List Nat) → List Nat
  | col, held, [] => endW w col held
  | col, held, x :: r => (goOn w col held).1 ++ ((plc w (goOn w col held).2 x).1 ++ outL w (plc w (goOn w col held).2 x).2.1 (plc w (goOn w col held).2 x).2.2 r)
def lineW (w : Nat) : Nat → List (List Nat) → List Nat
  | _, [] => []
  | col, x :: r => if fit w col (x.length + if r = [] then 0 else 1) = true then x ++ lineW w (cb w col x.length) r else 61 :: 10 :: (x ++ lineW w x.length r)
def fixl : List (List Nat) → List (List Nat)
  | [] => []
  | [x] => [if x = [32] then h32 else x]
  | x :: y :: r => x :: fixl (y :: r)
theorem lineW_cons (w col : Nat) (x : List Nat) (r : List (List Nat)) : lineW w col (x :: r) = if fit w col (x.length + if r = [] then 0 else 1) = true then x ++ lineW w (cb w col x.length) r else 61 :: 10 :: (x ++ lineW w x.length r) := rfl
/-- an item -/
def It (x : List Nat) : Prop := (∃ c, x = [c] ∧ c ≠ 61 ∧ c ≠ 10) ∨ ∃ a b, x = [61, a, b] ∧ a ≠ 10 ∧ b ≠ 10 ∧ b ≠ 32
theorem It.len {x : List Nat} (h : It x) : x.length = 1 ∨ x.length = 3 := by
  rcases h with ⟨c, rfl, _⟩ | ⟨a, b, rfl, _⟩
  · exact .inl rfl
  · exact .inr rfl
theorem It.ne {x : List Nat} (h : It x) : x ≠ [] := fun z => by
  have := h.len
  rw [z] at this
  simp at this
theorem It.nl {x : List Nat} (h : It x) : x ≠ [10] := fun z => by
  subst z
  rcases h with ⟨c, e, _, q⟩ | ⟨a, b, e, _⟩
  · exact q (List.cons.inj e).1.symm
  · cases e
theorem h32_it : It h32 := .inr ⟨50, 48, rfl, by decide, by decide, by decide⟩
theorem fixl_ne {x : List Nat} {r : List (List Nat)} : fixl (x :: r) ≠ [] := by
  cases r <;> simp [fixl]
theorem fixl_cons {x : List Nat} {r : List (List Nat)} (h : r ≠ []) : fixl (x :: r) = x :: fixl r := by
  cases r with
  | nil => exact absurd rfl h
  | cons y r => rfl
theorem fixl_nil {r : List (List Nat)} : fixl r = [] ↔ r = [] := by
  cases r with
  | nil => simp [fixl]
  | cons x r => simp [fixl_ne]
theorem fixl_it : ∀ {l : List (List Nat)}, (∀ x ∈ l, It x) → ∀ x ∈ fixl l, It x
  | [], h, x, hx => h x hx
  | [y], h, x, hx => by
    have e := List.mem_singleton.mp hx
    rw [e]
    split
    · exact h32_it
    · exact h y (List.mem_singleton.mpr rfl)
  | y :: z :: r, h, x, hx => by
    rcases List.mem_cons.mp hx with rfl | hx
    · exact h _ (List.mem_cons_self ..)
    · exact fixl_it (l := z :: r) (fun x hx => h x (List.mem_cons_of_mem _ hx)) x hx
theorem fixl_last : ∀ (l : List (List Nat)), (fixl l).getLast? ≠ some [32]
  | [] => by simp [fixl]
  | [y] => by
    simp only [fixl]
    by_cases h : y = [32]
    · rw [if_pos h]; simp [h32]
    · rw [if_neg h]; simpa using h
  | y :: z :: r => by
    have ih := fixl_last (z :: r)
    rw [fixl_cons (by simp)]
    rw [List.getLast?_cons_of_ne_nil fixl_ne]
    exact ih
section
variable {w : Nat}
theorem fit_le {col s t : Nat} (h : fit w col t = true) (l : s ≤ t) : fit w col s = true := by
  unfold fit at h ⊢
  simp only [Bool.or_eq_true, decide_eq_true_eq] at h ⊢
  omega
/-- what is put out for an item and all behind it -/
theorem put (hw : w = 0 ∨ 4 ≤ w) {r : List (List Nat)}
    (A : ∀ col, outL w col [] r = lineW w col (fixl r))
    (B : ∀ col, fit w col 2 = true → outL w col [32] r = lineW w col (fixl ([32] :: r)))
    (C : ∀ col x, It x → x ≠ [32] → ¬ fit w col (x.length + 1) = true → fit w col x.length = true → (if x.length = 3 then [61] else []) ++ outL w col x r = lineW w col (fixl (x :: r)))
    (col : Nat) {y : List Nat} (hy : It y) : (plc w col y).1 ++ outL w (plc w col y).2.1 (plc w col y).2.2 r = lineW w col (fixl (y :: r)) := by
  have le3 : y.length ≤ 3 := by rcases hy.len with h | h <;> omega
  have f0 : ∀ s, s ≤ 4 → fit w 0 s = true := by
    intro s hs
    unfold fit
    simp only [Bool.or_eq_true, decide_eq_true_eq]
    omega
  unfold plc
  by_cases h1 : fit w col (y.length + 1) = true
  · rw [if_pos h1]
    by_cases h2 : y = [32]
    · rw [if_pos h2]
      subst h2
      exact B col h1
    · rw [if_neg h2]
      show y ++ outL w (cb w col y.length) [] r = _
      rw [A]
      cases r with
      | nil =>
        simp only [fixl, if_neg h2, lineW]
        rw [if_pos (fit_le h1 (by simp))]
      | cons z r =>
        rw [fixl_cons (x := y) (r := z :: r) (by simp), lineW_cons w col y, if_neg fixl_ne, if_pos h1]
  · rw [if_neg h1]
    by_cases h2 : y = [32]
    · rw [if_pos h2]
      subst h2
      show [61, 10] ++ outL w 0 [32] r = _
      rw [B 0 (f0 2 (by decide))]
      cases r with
      | nil =>
        simp only [fixl, if_true, lineW]
        rw [if_pos (f0 _ (by decide)), if_neg (fun z => h1 (fit_le z (by decide)))]
        rfl
      | cons z r =>
        rw [fixl_cons (x := [32]) (r := z :: r) (by simp), lineW_cons w 0 [32], lineW_cons w col [32], if_neg fixl_ne, if_pos (f0 _ (by decide)), if_neg h1]
        have : cb w 0 ([32] : List Nat).length = ([32] : List Nat).length ∨ w = 0 := by
          unfold cb
          rcases hw with h | h
          · exact .inr h
          · exact .inl (by rw [if_pos (by omega), Nat.zero_add])
        rcases this with e | e
        · rw [e]; rfl
        · exfalso
          apply h1
          unfold fit
          simp [e]
    · rw [if_neg h2]
      by_cases h3 : fit w col y.length = true
      · rw [if_pos h3]
        exact C col y hy h2 h1 h3
      · rw [if_neg h3]
        show ([61, 10] ++ y) ++ outL w y.length [] r = _
        rw [A]
        cases r with
        | nil =>
          simp only [fixl, if_neg h2, lineW]
          rw [if_neg (by simpa using h3)]
          rfl
        | cons z r =>
          rw [fixl_cons (x := y) (r := z :: r) (by simp), lineW_cons w col y, if_neg fixl_ne, if_neg h1]
          rfl
theorem out_line (hw : w = 0 ∨ 4 ≤ w) : ∀ (r : List (List Nat)), (∀ x ∈ r, It x) →
    (∀ col, outL w col [] r = lineW w col (fixl r)) ∧ (∀ col, fit w col 2 = true → outL w col [32] r = lineW w col (fixl ([32] :: r))) ∧
    (∀ col x, It x → x ≠ [32] → ¬ fit w col (x.length + 1) = true → fit w col x.length = true → (if x.length = 3 then [61] else []) ++ outL w col x r = lineW w col (fixl (x :: r)))
  | [], _ => by
    refine ⟨fun col => rfl, fun col h => ?_, fun col x hx h1 h2 h3 => ?_⟩
    · simp only [outL, endW, fixl, if_true, lineW]
      by_cases h : fit w col 3 = true
      · rw [if_pos h, if_pos (show fit w col (h32.length + 0) = true from h)]; rfl
      · rw [if_neg h, if_neg (show ¬ fit w col (h32.length + 0) = true from h)]; rfl
    · simp only [outL, endW, fixl, if_neg h1, lineW, if_true, Nat.add_zero]
      rw [if_pos h3]
      rcases hx with ⟨c, rfl, _⟩ | ⟨a, b, rfl, _⟩ <;> simp
  | y :: r, h => by
    have hy := h y (List.mem_cons_self ..)
    obtain ⟨A, B, C⟩ := out_line hw r fun x hx => h x (List.mem_cons_of_mem _ hx)
    have P := fun col => put hw A B C col hy
    refine ⟨fun col => ?_, fun col hf => ?_, fun col x hx h1 h2 h3 => ?_⟩
    · simp only [outL, goOn, if_true, List.nil_append]
      exact P col
    · have e : goOn w col [32] = ([32], cb w col 1) := by unfold goOn; rw [if_neg (by simp), if_pos rfl]
      simp only [outL, e]
      rw [P, fixl_cons (x := [32]) (r := y :: r) (by simp), lineW_cons w col [32], if_neg fixl_ne, if_pos (show fit w col (([32] : List Nat).length + 1) = true from hf)]
      rfl
    · rw [fixl_cons (x := x) (r := y :: r) (by simp), lineW_cons w col x, if_neg fixl_ne, if_neg h2]
      rcases hx.len with l | l
      · have e : goOn w col x = ([61, 10] ++ x, 1) := by unfold goOn; rw [if_neg hx.ne, if_neg h1, if_neg (by omega)]
        simp only [outL, e]
        rw [P, if_neg (by omega), l]
        simp
      · have e : goOn w col x = (10 :: x, 3) := by unfold goOn; rw [if_neg hx.ne, if_neg h1, if_pos l]
        simp only [outL, e]
        rw [P, if_pos l, l]
        simp
end
/-! ### whole texts -/
section
variable (w : Nat) (nl : Nat → Bool) (item : Nat → List Nat)
def run : Nat → List Nat → List Nat → List Nat
  | col, held, [] => endW w col held
  | col, held, n :: r => if nl n = true then endW w col held ++ 10 :: run 0 [] r
    else (goOn w col held).1 ++ ((plc w (goOn w col held).2 (item n)).1 ++ run (plc w (goOn w col held).2 (item n)).2.1 (plc w (goOn w col held).2 (item n)).2.2 r)
def lns : List Nat → List (List Nat)
  | [] => [[]]
  | n :: r => if nl n = true then [] :: lns r else match lns r with
    | [] => [[n]]
    | l :: ls => (n :: l) :: ls
/-- the line as it is written -/
def lin (l : List Nat) : List Nat := lineW w 0 (fixl (l.map item))
def tl (ls : List (List Nat)) : List Nat := if ls = [] then [] else 10 :: KR.jn (ls.map (lin w item))
end
section
variable {w : Nat} {nl : Nat → Bool} {item : Nat → List Nat}
theorem lns_ne (d : List Nat) : lns nl d ≠ [] := by
  cases d with
  | nil => simp [lns]
  | cons n r =>
    simp only [lns]
    split
    · simp
    · split <;> simp
theorem jn_tl (l : List Nat) (ls : List (List Nat)) : KR.jn ((l :: ls).map (lin w item)) = lin w item l ++ tl w item ls := by
  cases ls with
  | nil => simp [tl, KR.jn]
  | cons m ls =>
    rw [List.map_cons, KR.jn_cons (by simp)]
    simp [tl]
theorem run_lines (hw : w = 0 ∨ 4 ≤ w) : ∀ (d : List Nat), (∀ n ∈ d, nl n = false → It (item n)) → ∀ col held, ∃ l ls, lns nl d = l :: ls ∧ run w nl item col held d = outL w col held (l.map item) ++ tl w item ls
  | [], _, col, held => ⟨[], [], rfl, by simp [run, outL, tl]⟩
  | n :: r, hi, col, held => by
    have hi' : ∀ m ∈ r, nl m = false → It (item m) := fun m hm => hi m (List.mem_cons_of_mem _ hm)
    by_cases h : nl n = true
    · obtain ⟨l, ls, e1, e2⟩ := run_lines hw r hi' 0 []
      have il : ∀ x ∈ l.map item, It x := by
        intro x hx
        obtain ⟨m, hm, rfl⟩ := List.mem_map.mp hx
        have g := in_lns r (nl := nl) l (by rw [e1]; exact List.mem_cons_self ..) m hm
        exact hi' m g.1 g.2
      refine ⟨[], l :: ls, by simp only [lns]; rw [if_pos h, e1], ?_⟩
      simp only [run, List.map_nil, outL]
      rw [if_pos h, e2, (out_line hw _ il).1]
      have e3 : tl w item (l :: ls) = 10 :: KR.jn ((l :: ls).map (lin w item)) := by unfold tl; rw [if_neg (by simp)]
      rw [e3, jn_tl]
      rfl
    · obtain ⟨l, ls, e1, e2⟩ := run_lines hw r hi' (plc w (goOn w col held).2 (item n)).2.1 (plc w (goOn w col held).2 (item n)).2.2
      refine ⟨n :: l, ls, by simp only [lns]; rw [if_neg h, e1], ?_⟩
      simp only [run, List.map_cons, outL]
      rw [if_neg h, e2]
      simp
where
  in_lns {nl : Nat → Bool} : ∀ (d : List Nat) (l : List Nat), l ∈ lns nl d → ∀ m ∈ l, m ∈ d ∧ nl m = false
    | [], l, hl, m, hm => by
      rw [List.mem_singleton.mp hl] at hm
      exact absurd hm List.not_mem_nil
    | n :: r, l, hl, m, hm => by
      by_cases h : nl n = true
      · simp only [lns] at hl
        rw [if_pos h] at hl
        rcases List.mem_cons.mp hl with rfl | hl
        · exact absurd hm List.not_mem_nil
        · have := in_lns r l hl m hm
          exact ⟨List.mem_cons_of_mem _ this.1, this.2⟩
      · simp only [lns] at hl
        rw [if_neg h] at hl
        match e : lns nl r with
        | [] => exact absurd e (lns_ne r)
        | k :: ks =>
          rw [e] at hl
          rcases List.mem_cons.mp hl with rfl | hl
          · rcases List.mem_cons.mp hm with rfl | hm
            · exact ⟨List.mem_cons_self .., by simpa using h⟩
            · have := in_lns r k (by rw [e]; exact List.mem_cons_self ..) m hm
              exact ⟨List.mem_cons_of_mem _ this.1, this.2⟩
          · have := in_lns r l (by rw [e]; exact List.mem_cons_of_mem _ hl) m hm
            exact ⟨List.mem_cons_of_mem _ this.1, this.2⟩
theorem run_jn (hw : w = 0 ∨ 4 ≤ w) (d : List Nat) (hi : ∀ n ∈ d, nl n = false → It (item n)) : run w nl item 0 [] d = KR.jn ((lns nl d).map (lin w item)) := by
  obtain ⟨l, ls, e1, e2⟩ := run_lines hw d hi 0 []
  have il : ∀ x ∈ l.map item, It x := by
    intro x hx
    obtain ⟨m, hm, rfl⟩ := List.mem_map.mp hx
    have g := run_lines.in_lns d (nl := nl) l (by rw [e1]; exact List.mem_cons_self ..) m hm
    exact hi m g.1 g.2
  rw [e2, e1, jn_tl, (out_line hw _ il).1]
  rfl
end
/-! ### rows -/
/-- what stands due from here on, the rows from here on -/
inductive Sfx (w : Nat) : List (List Nat) → List (List Nat) → Prop
  | fin {L} : (∀ x ∈ L, It x) → L.flatten.length ≤ w → L.getLast? ≠ some [32] → Sfx w L [L.flatten]
  | nl {L D R} : (∀ x ∈ L, It x) → L.flatten.length ≤ w → L.getLast? ≠ some [32] → Sfx w D R → Sfx w (L ++ [10] :: D) (L.flatten :: R)
  | soft {L x D R} : (∀ y ∈ L, It y) → L ≠ [] → L.flatten.length + 1 ≤ w → It x → w < L.flatten.length + x.length + (if D = [] ∨ D.head? = some [10] then 0 else 1) → Sfx w (x :: D) R → Sfx w (L ++ x :: D) ((L.flatten ++ [61]) :: R)
theorem Sfx.ne {w : Nat} {D R : List (List Nat)} (h : Sfx w D R) : R ≠ [] := by
  cases h <;> simp
/-- the rows of a line, whatever comes behind the line -/
theorem line_rows {w : Nat} (hw : 4 ≤ w) (E : List (List Nat)) (RE : List (List Nat)) (hE : E = [] ∧ RE = [] ∨ ∃ D, E = [10] :: D ∧ Sfx w D RE) : ∀ (L own : List (List Nat)), (∀ x ∈ L, It x) → (∀ x ∈ own, It x) → (L ≠ [] → own.flatten.length + 1 ≤ w) → own.flatten.length ≤ w → (own ++ L).getLast? ≠ some [32] →
    ∃ R, R ≠ [] ∧ own.flatten ++ lineW w own.flatten.length L = KR.jn R ∧ Sfx w (own ++ L ++ E) (R ++ RE)
  | [], own, _, ho, _, h2, h3 => by
    rw [List.append_nil] at h3
    refine ⟨[own.flatten], by simp, by simp [lineW, KR.jn], ?_⟩
    rw [List.append_nil]
    rcases hE with ⟨rfl, rfl⟩ | ⟨D, rfl, hD⟩
    · rw [List.append_nil]
      exact .fin ho h2 h3
    · exact .nl ho h2 h3 hD
  | x :: r, own, hL, ho, h1, h2, h3 => by
    have hx := hL x (List.mem_cons_self ..)
    have hr : ∀ y ∈ r, It y := fun y hy => hL y (List.mem_cons_of_mem _ hy)
    have le3 : x.length ≤ 3 := by rcases hx.len with h | h <;> omega
    have h1 := h1 (by simp)
    by_cases hf : fit w own.flatten.length (x.length + if r = [] then 0 else 1) = true
    · have hf' : own.flatten.length + (x.length + if r = [] then 0 else 1) ≤ w := by
        unfold fit at hf
        simp only [Bool.or_eq_true, decide_eq_true_eq] at hf
        omega
      have ef : (own ++ [x]).flatten.length = own.flatten.length + x.length := by simp
      obtain ⟨R, r1, r2, r3⟩ := line_rows hw E RE hE r (own ++ [x]) hr (by
        intro y hy
        rcases List.mem_append.mp hy with h | h
        · exact ho y h
        · rw [List.mem_singleton.mp h]; exact hx) (fun z => by rw [if_neg z] at hf'; omega) (by omega) (by rw [List.append_assoc]; exact h3)
      refine ⟨R, r1, ?_, by rw [List.append_assoc own [x] r] at r3; exact r3⟩
      rw [← r2, ef]
      simp only [lineW]
      rw [if_pos hf]
      have : cb w own.flatten.length x.length = own.flatten.length + x.length := by unfold cb; rw [if_pos (by omega)]
      rw [this]
      simp
    · have hf' : w < own.flatten.length + (x.length + if r = [] then 0 else 1) := by
        unfold fit at hf
        simp only [Bool.or_eq_true, decide_eq_true_eq] at hf
        omega
      have hne : own ≠ [] := by
        intro z
        rw [z] at hf'
        simp only [List.flatten_nil, List.length_nil] at hf'
        split at hf' <;> omega
      have ef : [x].flatten.length = x.length := by simp
      obtain ⟨R, r1, r2, r3⟩ := line_rows hw E RE hE r [x] hr (by
        intro y hy
        rw [List.mem_singleton.mp hy]; exact hx) (fun _ => by omega) (by omega) (by
        rw [List.getLast?_append] at h3
        simpa using h3)
      refine ⟨(own.flatten ++ [61]) :: R, by simp, ?_, ?_⟩
      · rw [KR.jn_cons r1, ← r2, ef]
        simp only [lineW]
        rw [if_neg hf]
        simp
      · have : own ++ x :: r ++ E = own ++ x :: (r ++ E) := by simp
        rw [this]
        refine .soft ho hne h1 hx ?_ (by simpa using r3)
        refine Nat.lt_of_lt_of_le hf' ?_
        rw [← Nat.add_assoc]
        refine Nat.add_le_add_left ?_ _
        by_cases hr0 : r = []
        · rw [if_pos hr0]; exact Nat.zero_le _
        · rw [if_neg hr0, if_neg]
          · exact Nat.le_refl _
          · rintro (z | z)
            · exact hr0 (List.append_eq_nil_iff.mp z).1
            · cases r with
              | nil => exact hr0 rfl
              | cons y r =>
                have : y = [10] := Option.some.inj z
                exact (hr y (List.mem_cons_self ..)).nl this
/-- what is due: the lines with newlines between them -/
def due (item : Nat → List Nat) : List (List Nat) → List (List Nat)
  | [] => []
  | [l] => fixl (l.map item)
  | l :: m :: ls => fixl (l.map item) ++ [10] :: due item (m :: ls)
theorem all_rows {w : Nat} (hw : 4 ≤ w) {item : Nat → List Nat} : ∀ (ls : List (List Nat)), ls ≠ [] → (∀ l ∈ ls, ∀ n ∈ l, It (item n)) → ∃ R, KR.jn (ls.map (lin w item)) = KR.jn R ∧ Sfx w (due item ls) R
  | [], h, _ => absurd rfl h
  | [l], _, hi => by
    have il : ∀ x ∈ fixl (l.map item), It x := fixl_it fun x hx => by
      obtain ⟨n, hn, rfl⟩ := List.mem_map.mp hx
      exact hi l (List.mem_cons_self ..) n hn
    obtain ⟨R, r1, r2, r3⟩ := line_rows hw [] [] (.inl ⟨rfl, rfl⟩) (fixl (l.map item)) [] il (fun x hx => absurd hx List.not_mem_nil) (fun _ => by simp; omega) (by simp) (by simpa using fixl_last _)
    refine ⟨R, ?_, by simpa [due] using r3⟩
    rw [← r2]
    rfl
  | l :: m :: ls, _, hi => by
    have il : ∀ x ∈ fixl (l.map item), It x := fixl_it fun x hx => by
      obtain ⟨n, hn, rfl⟩ := List.mem_map.mp hx
      exact hi l (List.mem_cons_self ..) n hn
    obtain ⟨R2, e1, e2⟩ := all_rows hw (m :: ls) (by simp) fun k hk => hi k (List.mem_cons_of_mem _ hk)
    obtain ⟨R, r1, r2, r3⟩ := line_rows hw ([10] :: due item (m :: ls)) R2 (.inr ⟨_, rfl, e2⟩) (fixl (l.map item)) [] il (fun x hx => absurd hx List.not_mem_nil) (fun _ => by simp; omega) (by simp) (by simpa using fixl_last _)
    refine ⟨R ++ R2, ?_, by simpa [due] using r3⟩
    rw [List.map_cons, KR.jn_cons (by simp), e1]
    have e3 : lin w item l = KR.jn R := by
      rw [← r2]
      rfl
    rw [e3, jn_app r1 e2.ne]
where
  jn_app {p q : List (List Nat)} (h : p ≠ []) (k : q ≠ []) : KR.jn p ++ 10 :: KR.jn q = KR.jn (p ++ q) := by
    induction p with
    | nil => exact absurd rfl h
    | cons x r ih =>
      by_cases hr : r = []
      · subst hr
        rw [List.cons_append, List.nil_append, KR.jn_cons k]
        rfl
      · rw [KR.jn_cons hr, List.cons_append, KR.jn_cons (by simp [hr]), ← ih hr]
        simp
theorem It.last {x : List Nat} (h : It x) (n : x ≠ [32]) : x.getLast? ≠ some 32 := by
  rcases h with ⟨c, rfl, _⟩ | ⟨a, b, rfl, _, _, q⟩
  · intro z
    simp at z
    exact n (by rw [z])
  · simpa using q
theorem flat_last {L : List (List Nat)} (h : ∀ x ∈ L, It x) (n : L.getLast? ≠ some [32]) : L.flatten.getLast? ≠ some 32 := by
  cases e : L.getLast? with
  | none =>
    rw [List.getLast?_eq_none_iff.mp e]
    simp
  | some x =>
    obtain ⟨K, rfl⟩ := List.getLast?_eq_some_iff.mp e
    have hx := h x (by simp)
    have := hx.last fun z => n (by rw [e, z])
    rw [List.flatten_append, List.getLast?_append]
    simp only [List.flatten_cons, List.flatten_nil, List.append_nil]
    cases e2 : x.getLast? with
    | none => exact absurd (List.getLast?_eq_none_iff.mp e2) hx.ne
    | some y =>
      rw [e2] at this
      simpa using this
theorem It.free {x : List Nat} (h : It x) : KR.Free x := by
  rcases h with ⟨c, rfl, _, q⟩ | ⟨a, b, rfl, q1, q2, _⟩
  · intro d hd z
    rw [List.mem_singleton.mp hd] at z
    exact q z
  · intro d hd z
    subst z
    simp only [List.mem_cons, List.not_mem_nil, or_false] at hd
    rcases hd with h | h | h
    · cases h
    · exact q1 h.symm
    · exact q2 h.symm
theorem flat_free {L : List (List Nat)} (h : ∀ x ∈ L, It x) : KR.Free L.flatten := by
  intro d hd z
  obtain ⟨x, hx, hd⟩ := List.mem_flatten.mp hd
  exact (h x hx).free d hd z
theorem Sfx.free {w : Nat} {D R : List (List Nat)} (h : Sfx w D R) : ∀ x ∈ R, KR.Free x := by
  induction h with
  | fin h _ _ =>
    intro x hx
    rw [List.mem_singleton.mp hx]
    exact flat_free h
  | nl h _ _ _ ih =>
    intro x hx
    rcases List.mem_cons.mp hx with rfl | hx
    · exact flat_free h
    · exact ih x hx
  | soft h _ _ _ _ _ ih =>
    intro x hx
    rcases List.mem_cons.mp hx with rfl | hx
    · intro d hd z
      rcases List.mem_append.mp hd with h2 | h2
      · exact flat_free h d h2 z
      · rw [List.mem_singleton.mp h2] at z
        cases z
    · exact ih x hx
theorem Sfx.last {w : Nat} {D R : List (List Nat)} (h : Sfx w D R) : (KR.jn R).getLast? ≠ some 32 := by
  have step : ∀ (a : List Nat) (R : List (List Nat)), R ≠ [] → (KR.jn R).getLast? ≠ some 32 → (KR.jn (a :: R)).getLast? ≠ some 32 := by
    intro a R hR h
    rw [KR.jn_cons hR, List.getLast?_append]
    cases e : KR.jn R with
    | nil => simp
    | cons y r =>
      rw [e] at h
      rw [List.getLast?_cons_cons]
      cases e2 : (y :: r).getLast? with
      | none => cases (List.getLast?_eq_none_iff.mp e2)
      | some z =>
        rw [e2] at h
        simpa using h
  induction h with
  | fin h _ n => exact flat_last h n
  | nl _ _ _ s ih => exact step _ _ s.ne ih
  | soft _ _ _ _ _ s ih => exact step _ _ s.ne ih
end QT

namespace Px
open PySem PySem.Spec PyProof.Rows L2
local macro_rules | `(tactic| walk_at "ne") => `(tactic| first
  | assumption
  | (refine Ne.symm ?_; assumption)
  | (refine ne_of_none (H := ?xH) (o := ?xo) ?xa ?xb; (case xb => assumption); (case xa => walk_at "hp"))
  | (refine Ne.symm (ne_of_none (H := ?xH) (o := ?xo) ?xa ?xb); (case xb => assumption); (case xa => walk_at "hp"))
  | ((refine ne_of (H := ?xH) (o := ?xo) (u := ?xu) ?xa ?xb ?xc); (case xa => walk_at "hp"); (case xb => walk_at "hp"); (case xc => (intro z; cases z))))
local macro_rules | `(tactic| walk_at "hp") => `(tactic| first
  | assumption
  | ((refine gs (H := ?xH) ?xa ?xb); (case xa => assumption); (case xb => walk_at "hp"))
  | ((refine gb (b := ?xB) (H := ?xH) ?xa ?xc ?xb); (case xa => assumption); (case xb => walk_at "hp"); (case xc => walk_at "ne"))
  | exact upd_same
  | ((refine gu ?xa ?xb); (case xb => walk_at "hp"); (case xa => walk_at "ne")))
local macro_rules | `(tactic| walk_at "hl") => `(tactic| first
  | assumption
  | (refine ql ?_; walk_at "hp")
  | ((refine gsl (H := ?xH) ?xa ?xb); (case xa => assumption); (case xb => walk_at "hl"))
  | ((refine gbl (b := ?xB) (H := ?xH) ?xa ?xc ?xb); (case xa => assumption); (case xb => walk_at "hl"); (case xc => walk_at "ne")))
local macro_rules | `(tactic| walk_at "ht") => `(tactic| first
  | assumption
  | (refine qt ?_; walk_at "hp")
  | ((refine gst (H := ?xH) ?xa ?xb); (case xa => assumption); (case xb => walk_at "ht"))
  | ((refine gbt (b := ?xB) (H := ?xH) ?xa ?xc ?xb); (case xa => assumption); (case xb => walk_at "ht"); (case xc => walk_at "ne")))
local macro_rules | `(tactic| walk_at "hq") => `(tactic| first
  | assumption
  | ((refine IsQ.same (H := ?xH) ?xb ?xa); (case xa => assumption); (case xb => walk_at "hq")))
local macro_rules | `(tactic| walk_at "sz") => `(tactic| first
  | (show _ ≤ sizeLine; decide)
  | (refine small_line ?_; (simp only [List.length_map, List.length_append, List.length_cons, List.length_nil] at *); omega))
local macro_rules | `(tactic| walk_at "rd0") => `(tactic| first
  | (with_reducible refine r_yes ?_)
  | ((with_reducible refine r_listL (xs := ?xs) ?x1 ?_); (case x1 => walk_at "hl"))
  | (with_reducible refine r_nx ?_)
  | (with_reducible refine r_rt ?_)
  | (with_reducible refine r_bk ?_)
  | (with_reducible refine r_ct ?_)
  | ((with_reducible refine r_isiT (xs := ?xs) ?x1 ?_); (case x1 => walk_at "hp"))
  | (with_reducible refine r_bm ?_)
  | (with_reducible refine r_for ?_)
  | (with_reducible refine r_lc ?_)
  | (with_reducible refine r_asg ?_)
  | ((with_reducible refine r_var (v := ?xv) ?x1 ?_); (case x1 => rfl))
  | (with_reducible refine r_c ?_)
  | (with_reducible refine r_op ?_)
  | (with_reducible refine r_cons ?_)
  | (with_reducible refine r_nil ?_)
  | (with_reducible refine r_gname ?_)
  | (with_reducible refine r_I0 ?_)
  | (with_reducible refine r_addUI ?_)
  | (with_reducible refine r_eqUI ?_)
  | (with_reducible refine r_neUI ?_)
  | (with_reducible refine r_eqUS ?_)
  | (with_reducible refine r_neUS ?_)
  | (with_reducible refine r_eqUB ?_)
  | (with_reducible refine r_test ?_)
  | (with_reducible refine r_bl ?_)
  | (with_reducible refine r_int ?_)
  | (with_reducible refine r_ifs ?_)
  | (with_reducible refine r_ret ?_)
  | (with_reducible refine r_next ?_)
  | (with_reducible refine r_call ?_)
  | (with_reducible refine r_cb ?_)
  | (with_reducible refine r_tup ?_)
  | (with_reducible refine r_lst ?_)
  | (with_reducible refine r_gsub ?_)
  | ((with_reducible refine r_setL (xs := ?xs) (j := ?xj) ?x1 ?x2 ?_); (case x1 => walk_at "hp"); (case x2 => rfl))
  | ((with_reducible refine r_ixL (xs := ?xs) (v := ?xv) ?x1 ?x2 ?_); (case x1 => walk_at "hl"); (case x2 => first | rfl | assumption))
  | ((with_reducible refine r_ixT (xs := ?xs) (v := ?xv) ?x1 ?x2 ?_); (case x1 => walk_at "ht"); (case x2 => first | rfl | assumption))
  | (with_reducible refine r_gcons ?_)
  | (with_reducible refine r_gnil ?_)
  | ((with_reducible refine r_gtup (xs := ?xs) ?x1 ?x2 ?_); (case x1 => walk_at "ht"); (case x2 => rfl))
  | ((with_reducible refine r_aug (x := ?xv) ?x1 ?_); (case x1 => rfl))
  | (with_reducible refine r_iaddI ?_)
  | (with_reducible refine r_par ?_)
  | (with_reducible refine r_two ?_)
  | (with_reducible refine r_un ?_)
  | (with_reducible refine r_if ?_)
  | (with_reducible refine r_b ?_)
  | (with_reducible refine r_and ?_)
  | (with_reducible refine r_or ?_)
  | (with_reducible refine r_not ?_)
  | (with_reducible refine r_andV ?_)
  | (with_reducible refine r_orV ?_)
  | (with_reducible refine r_notV ?_)
  | (with_reducible refine r_chain ?_)
  | (with_reducible refine r_chain3 ?_)
  | (with_reducible refine r_drop ?_)
  | (with_reducible refine r_retN ?_)
  | (with_reducible refine r_brk ?_)
  | (with_reducible refine r_cont ?_)
  | (with_reducible refine r_iteT ?_)
  | (with_reducible refine r_iteNT ?_)
  | (with_reducible refine r_iteNF ?_)
  | (with_reducible refine r_iteF ?_)
  | (with_reducible refine r_sl ?_)
  | (with_reducible refine r_noPart ?_)
  | (with_reducible refine r_part ?_)
  | (with_reducible refine r_abs ?_)
  | (with_reducible refine r_max2 ?_)
  | (with_reducible refine r_min2 ?_)
  | ((with_reducible refine q_len (k := ?xk) (xs := ?xs) ?x1 ?_); (case x1 => walk_at "hq"))
  | ((with_reducible refine r_lenUL (xs := ?xs) ?x1 ?_); (case x1 => walk_at "hl"))
  | ((with_reducible refine r_lenUT (xs := ?xs) ?x1 ?_); (case x1 => walk_at "ht"))
  | ((with_reducible refine r_mulUI ?x1 ?_); (case x1 => first | exact .inl ⟨by decide, by decide⟩ | exact .inr ⟨by decide, by decide⟩ | exact .inl ⟨by omega, by omega⟩ | exact .inr ⟨by omega, by omega⟩))
  | (with_reducible refine r_rng1 ?_)
  | ((with_reducible refine r_I ?x1 ?_); (case x1 => first | decide | (show _ ∧ _; exact ⟨by omega, by omega⟩) | (show _ ≠ _; omega) | (show _ ∧ _ ∧ _; exact ⟨by decide, by decide, by omega⟩))))
local macro_rules | `(tactic| walk_at "rd1") => `(tactic| first | (with_reducible refine r_seq ?_) | walk_at "rd0")
local macro_rules | `(tactic| walk_at "rx") => `(tactic| repeat walk_at "rd0")
local macro_rules | `(tactic| walk_at "rd") => `(tactic| repeat walk_at "rd1")
set_option hygiene false in
local macro_rules | `(tactic| walk_at "new") => `(tactic| (refine And.intro (by walk_at "sz") ?_; intro p np; generalize hg : upd _ p _ = Hn; have hs := same_of hg np; have hv := at_of hg; clear hg))
set_option hygiene false in
local macro_rules | `(tactic| walk_at "newp") => `(tactic| (intro p np; generalize hg : upd _ p _ = Hn; have hs := same_of hg np; have hv := at_of hg; clear hg))

structure Txt (K : PySem.W.Frag) (mg : Str → Option Value) : Type where
  C_Rules : Addr
  C_Rules_g : mg "Rules" = some (.ref C_Rules)
  C_Rules_c : Cls K C_Rules
  C_Quoted : Addr
  C_Quoted_g : mg "Quoted" = some (.ref C_Quoted)
  C_Quoted_c : Cls K C_Quoted
  C_Reader : Addr
  C_Reader_g : mg "Reader" = some (.ref C_Reader)
  C_Reader_c : Cls K C_Reader
  X_NoCharacter : Addr
  X_NoCharacter_f : Addr
  X_NoCharacter_F : ErrG K eN_NoCharacter X_NoCharacter X_NoCharacter_f
  X_NoCharacter_g : mg "NoCharacter" = some (.ref X_NoCharacter)
  X_Wrong : Addr
  X_Wrong_f : Addr
  X_Wrong_F : ErrG K eN_Wrong X_Wrong X_Wrong_f
  X_Wrong_g : mg "Wrong" = some (.ref X_Wrong)
  X_Closed : Addr
  X_Closed_f : Addr
  X_Closed_F : ErrG K eN_Closed X_Closed X_Closed_f
  X_Closed_g : mg "Closed" = some (.ref X_Closed)
  C_Rules_is : InsC K C_Rules
  is_integer_a : Addr
  is_integer_d : FuncData
  is_integer_f : FunD K "is_integer" "is_integer" (defArgs s_is_integer) (defBody s_is_integer) (defScope s_is_integer) [] [] is_integer_a is_integer_d
  is_integer_g : mg "is_integer" = some (.ref is_integer_a)
  is_integer_b : Binds K is_integer_d ["value"] []
  is_within_a : Addr
  is_within_d : FuncData
  is_within_f : FunD K "is_within" "is_within" (defArgs s_is_within) (defBody s_is_within) (defScope s_is_within) [] [] is_within_a is_within_d
  is_within_g : mg "is_within" = some (.ref is_within_a)
  is_within_b : Binds K is_within_d ["value", "low", "high"] []
  is_byte_a : Addr
  is_byte_d : FuncData
  is_byte_f : FunD K "is_byte" "is_byte" (defArgs s_is_byte) (defBody s_is_byte) (defScope s_is_byte) [] [] is_byte_a is_byte_d
  is_byte_g : mg "is_byte" = some (.ref is_byte_a)
  is_byte_b : Binds K is_byte_d ["value"] []
  is_sign_a : Addr
  is_sign_d : FuncData
  is_sign_f : FunD K "is_sign" "is_sign" (defArgs s_is_sign) (defBody s_is_sign) (defScope s_is_sign) [] [] is_sign_a is_sign_d
  is_sign_g : mg "is_sign" = some (.ref is_sign_a)
  is_sign_b : Binds K is_sign_d ["value"] []
  are_signs_a : Addr
  are_signs_d : FuncData
  are_signs_f : FunD K "are_signs" "are_signs" (defArgs s_are_signs) (defBody s_are_signs) (defScope s_are_signs) [] [] are_signs_a are_signs_d
  are_signs_g : mg "are_signs" = some (.ref are_signs_a)
  are_signs_b : Binds K are_signs_d ["value"] []
  are_characters_a : Addr
  are_characters_d : FuncData
  are_characters_f : FunD K "are_characters" "are_characters" (defArgs s_are_characters) (defBody s_are_characters) (defScope s_are_characters) [] [] are_characters_a are_characters_d
  are_characters_g : mg "are_characters" = some (.ref are_characters_a)
  are_characters_b : Binds K are_characters_d ["value"] []
  character_of_a : Addr
  character_of_d : FuncData
  character_of_f : FunD K "character_of" "character_of" (defArgs s_character_of) (defBody s_character_of) (defScope s_character_of) [] [] character_of_a character_of_d
  character_of_g : mg "character_of" = some (.ref character_of_a)
  character_of_b : Binds K character_of_d ["byte"] []
  byte_of_a : Addr
  byte_of_d : FuncData
  byte_of_f : FunD K "byte_of" "byte_of" (defArgs s_byte_of) (defBody s_byte_of) (defScope s_byte_of) [] [] byte_of_a byte_of_d
  byte_of_g : mg "byte_of" = some (.ref byte_of_a)
  byte_of_b : Binds K byte_of_d ["character"] []
  check_text_a : Addr
  check_text_d : FuncData
  check_text_f : FunD K "check_text" "check_text" (defArgs s_check_text) (defBody s_check_text) (defScope s_check_text) [] [] check_text_a check_text_d
  check_text_g : mg "check_text" = some (.ref check_text_a)
  check_text_b : Binds K check_text_d ["value"] []
  other_case_a : Addr
  other_case_d : FuncData
  other_case_f : FunD K "other_case" "other_case" (defArgs s_other_case) (defBody s_other_case) (defScope s_other_case) [] [] other_case_a other_case_d
  other_case_g : mg "other_case" = some (.ref other_case_a)
  other_case_b : Binds K other_case_d ["letter"] []
  is_option_a : Addr
  is_option_d : FuncData
  is_option_f : FunD K "is_option" "is_option" (defArgs s_is_option) (defBody s_is_option) (defScope s_is_option) [] [] is_option_a is_option_d
  is_option_g : mg "is_option" = some (.ref is_option_a)
  is_option_b : Binds K is_option_d ["name", "value"] []
  Rules___init___a : Addr
  Rules___init___d : FuncData
  Rules___init___f : FunD K "__init__" "Rules.__init__" (defArgs s_Rules___init__) (defBody s_Rules___init__) (defScope s_Rules___init__) [] [("pads", .str (Str.ofString "full")), ("skip", .str (Str.ofString "")), ("lines", .bl true), ("loose", .bl false), ("fold", .bl false)] Rules___init___a Rules___init___d
  C_Rules_m : Mk K C_Rules Rules___init___a
  Rules_pads_a : Addr
  Rules_pads_d : FuncData
  Rules_pads_f : FunD K "pads" "Rules.pads" (defArgs s_Rules_pads) (defBody s_Rules_pads) (defScope s_Rules_pads) [] [] Rules_pads_a Rules_pads_d
  Rules_pads_q : Addr
  Rules_pads_p : PropOf K C_Rules "pads" Rules_pads_q Rules_pads_a
  Rules_pads_b : Binds K Rules_pads_d ["self"] []
  Rules_skip_a : Addr
  Rules_skip_d : FuncData
  Rules_skip_f : FunD K "skip" "Rules.skip" (defArgs s_Rules_skip) (defBody s_Rules_skip) (defScope s_Rules_skip) [] [] Rules_skip_a Rules_skip_d
  Rules_skip_q : Addr
  Rules_skip_p : PropOf K C_Rules "skip" Rules_skip_q Rules_skip_a
  Rules_skip_b : Binds K Rules_skip_d ["self"] []
  Rules_lines_a : Addr
  Rules_lines_d : FuncData
  Rules_lines_f : FunD K "lines" "Rules.lines" (defArgs s_Rules_lines) (defBody s_Rules_lines) (defScope s_Rules_lines) [] [] Rules_lines_a Rules_lines_d
  Rules_lines_q : Addr
  Rules_lines_p : PropOf K C_Rules "lines" Rules_lines_q Rules_lines_a
  Rules_lines_b : Binds K Rules_lines_d ["self"] []
  Rules_loose_a : Addr
  Rules_loose_d : FuncData
  Rules_loose_f : FunD K "loose" "Rules.loose" (defArgs s_Rules_loose) (defBody s_Rules_loose) (defScope s_Rules_loose) [] [] Rules_loose_a Rules_loose_d
  Rules_loose_q : Addr
  Rules_loose_p : PropOf K C_Rules "loose" Rules_loose_q Rules_loose_a
  Rules_loose_b : Binds K Rules_loose_d ["self"] []
  Rules_fold_a : Addr
  Rules_fold_d : FuncData
  Rules_fold_f : FunD K "fold" "Rules.fold" (defArgs s_Rules_fold) (defBody s_Rules_fold) (defScope s_Rules_fold) [] [] Rules_fold_a Rules_fold_d
  Rules_fold_q : Addr
  Rules_fold_p : PropOf K C_Rules "fold" Rules_fold_q Rules_fold_a
  Rules_fold_b : Binds K Rules_fold_d ["self"] []
  hex_digit_a : Addr
  hex_digit_d : FuncData
  hex_digit_f : FunD K "hex_digit" "hex_digit" (defArgs s_hex_digit) (defBody s_hex_digit) (defScope s_hex_digit) [] [] hex_digit_a hex_digit_d
  hex_digit_g : mg "hex_digit" = some (.ref hex_digit_a)
  hex_digit_b : Binds K hex_digit_d ["rules", "character"] []
  Quoted_width_a : Addr
  Quoted_width_d : FuncData
  Quoted_width_f : FunD K "width" "Quoted.width" (defArgs s_Quoted_width) (defBody s_Quoted_width) (defScope s_Quoted_width) [] [] Quoted_width_a Quoted_width_d
  Quoted_width_q : Addr
  Quoted_width_p : PropOf K C_Quoted "width" Quoted_width_q Quoted_width_a
  Quoted_width_b : Binds K Quoted_width_d ["self"] []
  Quoted_binary_a : Addr
  Quoted_binary_d : FuncData
  Quoted_binary_f : FunD K "binary" "Quoted.binary" (defArgs s_Quoted_binary) (defBody s_Quoted_binary) (defScope s_Quoted_binary) [] [] Quoted_binary_a Quoted_binary_d
  Quoted_binary_q : Addr
  Quoted_binary_p : PropOf K C_Quoted "binary" Quoted_binary_q Quoted_binary_a
  Quoted_binary_b : Binds K Quoted_binary_d ["self"] []
  Quoted_also_a : Addr
  Quoted_also_d : FuncData
  Quoted_also_f : FunD K "also" "Quoted.also" (defArgs s_Quoted_also) (defBody s_Quoted_also) (defScope s_Quoted_also) [] [] Quoted_also_a Quoted_also_d
  Quoted_also_q : Addr
  Quoted_also_p : PropOf K C_Quoted "also" Quoted_also_q Quoted_also_a
  Quoted_also_b : Binds K Quoted_also_d ["self"] []
  Quoted_is_newline_a : Addr
  Quoted_is_newline_d : FuncData
  Quoted_is_newline_f : FunD K "is_newline" "Quoted.is_newline" (defArgs s_Quoted_is_newline) (defBody s_Quoted_is_newline) (defScope s_Quoted_is_newline) [] [] Quoted_is_newline_a Quoted_is_newline_d
  Quoted_is_newline_m : Meth K C_Quoted "is_newline" Quoted_is_newline_a
  Quoted_is_newline_b : Binds K Quoted_is_newline_d ["self", "byte"] []
  Quoted_item_of_a : Addr
  Quoted_item_of_d : FuncData
  Quoted_item_of_f : FunD K "item_of" "Quoted.item_of" (defArgs s_Quoted_item_of) (defBody s_Quoted_item_of) (defScope s_Quoted_item_of) [] [] Quoted_item_of_a Quoted_item_of_d
  Quoted_item_of_m : Meth K C_Quoted "item_of" Quoted_item_of_a
  Quoted_item_of_b : Binds K Quoted_item_of_d ["self", "byte"] []
  Quoted___init___a : Addr
  Quoted___init___d : FuncData
  Quoted___init___f : FunD K "__init__" "Quoted.__init__" (defArgs s_Quoted___init__) (defBody s_Quoted___init__) (defScope s_Quoted___init__) [] [("width", .int 0), ("binary", .bl false), ("also", .str (Str.ofString ""))] Quoted___init___a Quoted___init___d
  C_Quoted_m : Mk K C_Quoted Quoted___init___a
  Quoted_column_behind_a : Addr
  Quoted_column_behind_d : FuncData
  Quoted_column_behind_f : FunD K "column_behind" "Quoted.column_behind" (defArgs s_Quoted_column_behind) (defBody s_Quoted_column_behind) (defScope s_Quoted_column_behind) [] [] Quoted_column_behind_a Quoted_column_behind_d
  Quoted_column_behind_m : Meth K C_Quoted "column_behind" Quoted_column_behind_a
  Quoted_column_behind_b : Binds K Quoted_column_behind_d ["self", "column", "size"] []
  Quoted_fits_a : Addr
  Quoted_fits_d : FuncData
  Quoted_fits_f : FunD K "fits" "Quoted.fits" (defArgs s_Quoted_fits) (defBody s_Quoted_fits) (defScope s_Quoted_fits) [] [] Quoted_fits_a Quoted_fits_d
  Quoted_fits_m : Meth K C_Quoted "fits" Quoted_fits_a
  Quoted_fits_b : Binds K Quoted_fits_d ["self", "column", "size"] []
  Quoted_suits_a : Addr
  Quoted_suits_d : FuncData
  Quoted_suits_f : FunD K "suits" "Quoted.suits" (defArgs s_Quoted_suits) (defBody s_Quoted_suits) (defScope s_Quoted_suits) [] [] Quoted_suits_a Quoted_suits_d
  Quoted_suits_m : Meth K C_Quoted "suits" Quoted_suits_a
  Quoted_suits_b : Binds K Quoted_suits_d ["self", "rules"] []
  Quoted_kind_of_a : Addr
  Quoted_kind_of_d : FuncData
  Quoted_kind_of_f : FunD K "kind_of" "Quoted.kind_of" (defArgs s_Quoted_kind_of) (defBody s_Quoted_kind_of) (defScope s_Quoted_kind_of) [] [] Quoted_kind_of_a Quoted_kind_of_d
  Quoted_kind_of_m : Meth K C_Quoted "kind_of" Quoted_kind_of_a
  Quoted_kind_of_b : Binds K Quoted_kind_of_d ["self", "rules", "character"] []
  Quoted_opening_a : Addr
  Quoted_opening_d : FuncData
  Quoted_opening_f : FunD K "opening" "Quoted.opening" (defArgs s_Quoted_opening) (defBody s_Quoted_opening) (defScope s_Quoted_opening) [] [] Quoted_opening_a Quoted_opening_d
  Quoted_opening_m : Meth K C_Quoted "opening" Quoted_opening_a
  Quoted_opening_b : Binds K Quoted_opening_d ["self"] []
  Quoted_has_room_a : Addr
  Quoted_has_room_d : FuncData
  Quoted_has_room_f : FunD K "has_room" "Quoted.has_room" (defArgs s_Quoted_has_room) (defBody s_Quoted_has_room) (defScope s_Quoted_has_room) [] [] Quoted_has_room_a Quoted_has_room_d
  Quoted_has_room_m : Meth K C_Quoted "has_room" Quoted_has_room_a
  Quoted_has_room_b : Binds K Quoted_has_room_d ["self", "rules", "column", "size"] []
  Quoted_next_place_a : Addr
  Quoted_next_place_d : FuncData
  Quoted_next_place_f : FunD K "next_place" "Quoted.next_place" (defArgs s_Quoted_next_place) (defBody s_Quoted_next_place) (defScope s_Quoted_next_place) [] [] Quoted_next_place_a Quoted_next_place_d
  Quoted_next_place_m : Meth K C_Quoted "next_place" Quoted_next_place_a
  Quoted_next_place_b : Binds K Quoted_next_place_d ["self", "rules", "column"] []
  Quoted_take_digit_a : Addr
  Quoted_take_digit_d : FuncData
  Quoted_take_digit_f : FunD K "take_digit" "Quoted.take_digit" (defArgs s_Quoted_take_digit) (defBody s_Quoted_take_digit) (defScope s_Quoted_take_digit) [] [] Quoted_take_digit_a Quoted_take_digit_d
  Quoted_take_digit_m : Meth K C_Quoted "take_digit" Quoted_take_digit_a
  Quoted_take_digit_b : Binds K Quoted_take_digit_d ["self", "rules", "state", "character"] []
  Quoted_take_a : Addr
  Quoted_take_d : FuncData
  Quoted_take_f : FunD K "take" "Quoted.take" (defArgs s_Quoted_take) (defBody s_Quoted_take) (defScope s_Quoted_take) [] [] Quoted_take_a Quoted_take_d
  Quoted_take_m : Meth K C_Quoted "take" Quoted_take_a
  Quoted_take_b : Binds K Quoted_take_d ["self", "rules", "state", "character"] []
  Rules_suit_a : Addr
  Rules_suit_d : FuncData
  Rules_suit_f : FunD K "suit" "Rules.suit" (defArgs s_Rules_suit) (defBody s_Rules_suit) (defScope s_Rules_suit) [] [] Rules_suit_a Rules_suit_d
  Rules_suit_m : Meth K C_Rules "suit" Rules_suit_a
  Rules_suit_b : Binds K Rules_suit_d ["self", "code"] []
  Machine_usual_a : Addr
  Machine_usual_d : FuncData
  Machine_usual_f : FunD K "usual" "Machine.usual" (defArgs s_Machine_usual) (defBody s_Machine_usual) (defScope s_Machine_usual) [] [] Machine_usual_a Machine_usual_d
  Machine_usual_m : Meth K C_Quoted "usual" Machine_usual_a
  Machine_usual_b : Binds K Machine_usual_d ["self"] []
  rules_for_a : Addr
  rules_for_d : FuncData
  rules_for_f : FunD K "rules_for" "rules_for" (defArgs s_rules_for) (defBody s_rules_for) (defScope s_rules_for) [] [] rules_for_a rules_for_d
  rules_for_g : mg "rules_for" = some (.ref rules_for_a)
  rules_for_b : Binds K rules_for_d ["code", "rules"] []
  followed_a : Addr
  followed_d : FuncData
  followed_f : FunD K "followed" "followed" (defArgs s_followed) (defBody s_followed) (defScope s_followed) [] [] followed_a followed_d
  followed_g : mg "followed" = some (.ref followed_a)
  followed_b : Binds K followed_d ["code", "rules", "state", "place", "text"] []
  Reader_need_open_a : Addr
  Reader_need_open_d : FuncData
  Reader_need_open_f : FunD K "need_open" "Reader.need_open" (defArgs s_Reader_need_open) (defBody s_Reader_need_open) (defScope s_Reader_need_open) [] [] Reader_need_open_a Reader_need_open_d
  Reader_need_open_m : Meth K C_Reader "need_open" Reader_need_open_a
  Reader_need_open_b : Binds K Reader_need_open_d ["self"] []
  Reader___init___a : Addr
  Reader___init___d : FuncData
  Reader___init___f : FunD K "__init__" "Reader.__init__" (defArgs s_Reader___init__) (defBody s_Reader___init__) (defScope s_Reader___init__) [.non] [] Reader___init___a Reader___init___d
  C_Reader_m : Mk K C_Reader Reader___init___a
  Reader___init___b : Binds K Reader___init___d ["self", "code", "rules"] []
  Reader___call___a : Addr
  Reader___call___d : FuncData
  Reader___call___f : FunD K "__call__" "Reader.__call__" (defArgs s_Reader___call__) (defBody s_Reader___call__) (defScope s_Reader___call__) [] [] Reader___call___a Reader___call___d
  Reader___call___m : Meth K C_Reader "__call__" Reader___call___a
  Reader___call___b : Binds K Reader___call___d ["self", "piece"] []
  Reader_given_a : Addr
  Reader_given_d : FuncData
  Reader_given_f : FunD K "given" "Reader.given" (defArgs s_Reader_given) (defBody s_Reader_given) (defScope s_Reader_given) [] [] Reader_given_a Reader_given_d
  Reader_given_q : Addr
  Reader_given_p : PropOf K C_Reader "given" Reader_given_q Reader_given_a
  Reader_given_b : Binds K Reader_given_d ["self"] []
  Reader_position_a : Addr
  Reader_position_d : FuncData
  Reader_position_f : FunD K "position" "Reader.position" (defArgs s_Reader_position) (defBody s_Reader_position) (defScope s_Reader_position) [] [] Reader_position_a Reader_position_d
  Reader_position_q : Addr
  Reader_position_p : PropOf K C_Reader "position" Reader_position_q Reader_position_a
  Reader_position_b : Binds K Reader_position_d ["self"] []
  l_bag_a : Addr
  l_bag_d : FuncData
  l_bag_f : FunD K "_law_bag" "_law_bag" (defArgs s_l_bag) (defBody s_l_bag) (defScope s_l_bag) [] [] l_bag_a l_bag_d
  l_bag_g : mg "_law_bag" = some (.ref l_bag_a)
  l_bag_b : Binds K l_bag_d ["_law_script", "_law_at"] []
  l_take_a : Addr
  l_take_d : FuncData
  l_take_f : FunD K "_law_take" "_law_take" (defArgs s_l_take) (defBody s_l_take) (defScope s_l_take) [] [] l_take_a l_take_d
  l_take_g : mg "_law_take" = some (.ref l_take_a)
  l_take_b : Binds K l_take_d ["_law_bag_here", "_law_many"] []
  l_of_a : Addr
  l_of_d : FuncData
  l_of_f : FunD K "_law_of" "_law_of" (defArgs s_l_of) (defBody s_l_of) (defScope s_l_of) [] [] l_of_a l_of_d
  l_of_g : mg "_law_of" = some (.ref l_of_a)
  l_of_b : Binds K l_of_d ["_law_bag_here", "_law_some"] []
  l_all_signs_a : Addr
  l_all_signs_d : FuncData
  l_all_signs_f : FunD K "_law_all_signs" "_law_all_signs" (defArgs s_l_all_signs) (defBody s_l_all_signs) (defScope s_l_all_signs) [] [] l_all_signs_a l_all_signs_d
  l_all_signs_g : mg "_law_all_signs" = some (.ref l_all_signs_a)
  l_all_signs_b : Binds K l_all_signs_d [] []
  l_quoted_a : Addr
  l_quoted_d : FuncData
  l_quoted_f : FunD K "_law_quoted" "_law_quoted" (defArgs s_l_quoted) (defBody s_l_quoted) (defScope s_l_quoted) [] [] l_quoted_a l_quoted_d
  l_quoted_g : mg "_law_quoted" = some (.ref l_quoted_a)
  l_quoted_b : Binds K l_quoted_d ["_law_bag_here"] []
  l_quoting_a : Addr
  l_quoting_d : FuncData
  l_quoting_f : FunD K "_law_quoting" "_law_quoting" (defArgs s_l_quoting) (defBody s_l_quoting) (defScope s_l_quoting) [] [] l_quoting_a l_quoting_d
  l_quoting_g : mg "_law_quoting" = some (.ref l_quoting_a)
  l_quoting_b : Binds K l_quoting_d ["_law_code"] []
  l_bytes_a : Addr
  l_bytes_d : FuncData
  l_bytes_f : FunD K "_law_bytes" "_law_bytes" (defArgs s_l_bytes) (defBody s_l_bytes) (defScope s_l_bytes) [] [] l_bytes_a l_bytes_d
  l_bytes_g : mg "_law_bytes" = some (.ref l_bytes_a)
  l_bytes_b : Binds K l_bytes_d ["_law_bag_here", "_law_most"] []
  l_capitals_a : Addr
  l_capitals_d : FuncData
  l_capitals_f : FunD K "_law_capitals" "_law_capitals" (defArgs s_l_capitals) (defBody s_l_capitals) (defScope s_l_capitals) [] [] l_capitals_a l_capitals_d
  l_capitals_g : mg "_law_capitals" = some (.ref l_capitals_a)
  l_capitals_b : Binds K l_capitals_d ["_law_byte"] []
  l_item_a : Addr
  l_item_d : FuncData
  l_item_f : FunD K "_law_item" "_law_item" (defArgs s_l_item) (defBody s_l_item) (defScope s_l_item) [] [] l_item_a l_item_d
  l_item_g : mg "_law_item" = some (.ref l_item_a)
  l_item_b : Binds K l_item_d ["_law_code", "_law_byte"] []
  l_lines_a : Addr
  l_lines_d : FuncData
  l_lines_f : FunD K "_law_lines" "_law_lines" (defArgs s_l_lines) (defBody s_l_lines) (defScope s_l_lines) [] [] l_lines_a l_lines_d
  l_lines_g : mg "_law_lines" = some (.ref l_lines_a)
  l_lines_b : Binds K l_lines_d ["_law_code", "_law_data"] []
  l_line_rows_a : Addr
  l_line_rows_d : FuncData
  l_line_rows_f : FunD K "_law_line_rows" "_law_line_rows" (defArgs s_l_line_rows) (defBody s_l_line_rows) (defScope s_l_line_rows) [] [] l_line_rows_a l_line_rows_d
  l_line_rows_g : mg "_law_line_rows" = some (.ref l_line_rows_a)
  l_line_rows_b : Binds K l_line_rows_d ["_law_code", "_law_line"] []
  l_quoted_text_a : Addr
  l_quoted_text_d : FuncData
  l_quoted_text_f : FunD K "_law_quoted_text" "_law_quoted_text" (defArgs s_l_quoted_text) (defBody s_l_quoted_text) (defScope s_l_quoted_text) [] [] l_quoted_text_a l_quoted_text_d
  l_quoted_text_g : mg "_law_quoted_text" = some (.ref l_quoted_text_a)
  l_quoted_text_b : Binds K l_quoted_text_d ["_law_code", "_law_data"] []
  l_row_data_a : Addr
  l_row_data_d : FuncData
  l_row_data_f : FunD K "_law_row_data" "_law_row_data" (defArgs s_l_row_data) (defBody s_l_row_data) (defScope s_l_row_data) [] [] l_row_data_a l_row_data_d
  l_row_data_g : mg "_law_row_data" = some (.ref l_row_data_a)
  l_row_data_b : Binds K l_row_data_d ["_law_rules_here", "_law_row", "_law_is_soft"] []
  l_soft_a : Addr
  l_soft_d : FuncData
  l_soft_f : FunD K "_law_soft" "_law_soft" (defArgs s_l_soft) (defBody s_l_soft) (defScope s_l_soft) [] [] l_soft_a l_soft_d
  l_soft_g : mg "_law_soft" = some (.ref l_soft_a)
  l_soft_b : Binds K l_soft_d ["_law_row"] []
  l_quoted_data_a : Addr
  l_quoted_data_d : FuncData
  l_quoted_data_f : FunD K "_law_quoted_data" "_law_quoted_data" (defArgs s_l_quoted_data) (defBody s_l_quoted_data) (defScope s_l_quoted_data) [] [] l_quoted_data_a l_quoted_data_d
  l_quoted_data_g : mg "_law_quoted_data" = some (.ref l_quoted_data_a)
  l_quoted_data_b : Binds K l_quoted_data_d ["_law_code", "_law_rules_here", "_law_text"] []
  l_rules_a : Addr
  l_rules_d : FuncData
  l_rules_f : FunD K "_law_rules" "_law_rules" (defArgs s_l_rules) (defBody s_l_rules) (defScope s_l_rules) [] [] l_rules_a l_rules_d
  l_rules_g : mg "_law_rules" = some (.ref l_rules_a)
  l_rules_b : Binds K l_rules_d ["_law_bag_here"] []
  l_ruling_a : Addr
  l_ruling_d : FuncData
  l_ruling_f : FunD K "_law_ruling" "_law_ruling" (defArgs s_l_ruling) (defBody s_l_ruling) (defScope s_l_ruling) [] [] l_ruling_a l_ruling_d
  l_ruling_g : mg "_law_ruling" = some (.ref l_ruling_a)
  l_ruling_b : Binds K l_ruling_d ["_law_bag_here", "_law_rules_here"] []
  l_tokens_a : Addr
  l_tokens_d : FuncData
  l_tokens_f : FunD K "_law_tokens" "_law_tokens" (defArgs s_l_tokens) (defBody s_l_tokens) (defScope s_l_tokens) [] [] l_tokens_a l_tokens_d
  l_tokens_g : mg "_law_tokens" = some (.ref l_tokens_a)
  l_tokens_b : Binds K l_tokens_d ["_law_bag_here", "_law_code", "_law_many"] []
  l_bent_a : Addr
  l_bent_d : FuncData
  l_bent_f : FunD K "_law_bent" "_law_bent" (defArgs s_l_bent) (defBody s_l_bent) (defScope s_l_bent) [] [] l_bent_a l_bent_d
  l_bent_g : mg "_law_bent" = some (.ref l_bent_a)
  l_bent_b : Binds K l_bent_d ["_law_bag_here", "_law_text"] []
  l_some_text_a : Addr
  l_some_text_d : FuncData
  l_some_text_f : FunD K "_law_some_text" "_law_some_text" (defArgs s_l_some_text) (defBody s_l_some_text) (defScope s_l_some_text) [] [] l_some_text_a l_some_text_d
  l_some_text_g : mg "_law_some_text" = some (.ref l_some_text_a)
  l_some_text_b : Binds K l_some_text_d ["_law_bag_here", "_law_code"] []
  l_alive_a : Addr
  l_alive_d : FuncData
  l_alive_f : FunD K "_law_alive" "_law_alive" (defArgs s_l_alive) (defBody s_l_alive) (defScope s_l_alive) [] [] l_alive_a l_alive_d
  l_alive_g : mg "_law_alive" = some (.ref l_alive_a)
  l_alive_b : Binds K l_alive_d ["_law_code", "_law_rules_here", "_law_text"] []
  l_wrong_a : Addr
  l_wrong_d : FuncData
  l_wrong_f : FunD K "_law_wrong" "_law_wrong" (defArgs s_l_wrong) (defBody s_l_wrong) (defScope s_l_wrong) [] [] l_wrong_a l_wrong_d
  l_wrong_g : mg "_law_wrong" = some (.ref l_wrong_a)
  l_wrong_b : Binds K l_wrong_d ["_law_code", "_law_rules_here", "_law_text"] []
  l_common_a : Addr
  l_common_d : FuncData
  l_common_f : FunD K "_law_common" "_law_common" (defArgs s_l_common) (defBody s_l_common) (defScope s_l_common) [] [] l_common_a l_common_d
  l_common_g : mg "_law_common" = some (.ref l_common_a)
  l_common_b : Binds K l_common_d ["_law_texts"] []
  l_begun_data_a : Addr
  l_begun_data_d : FuncData
  l_begun_data_f : FunD K "_law_begun_data" "_law_begun_data" (defArgs s_l_begun_data) (defBody s_l_begun_data) (defScope s_l_begun_data) [] [] l_begun_data_a l_begun_data_d
  l_begun_data_g : mg "_law_begun_data" = some (.ref l_begun_data_a)
  l_begun_data_b : Binds K l_begun_data_d ["_law_code", "_law_rules_here", "_law_text"] []
  law_a : Addr
  law_d : FuncData
  law_f : FunD K "law" "law" (defArgs s_law) (defBody s_law) (defScope s_law) [] [] law_a law_d
  law_g : mg "law" = some (.ref law_a)
  law_b : Binds K law_d ["_law_script"] []
  Rules___init___k0_ : ∃ g, KBn K Rules___init___d ["self", "pads", "skip", "lines", "loose", "fold"] 1 [] g (fun vs zs => vs ++ (zs ++ [.str (Str.ofString "full"), .str (Str.ofString ""), .bl true, .bl false, .bl false]))
  Quoted___init___k0_width_binary_also : ∃ g, KBn K Quoted___init___d ["self", "width", "binary", "also"] 1 ["width", "binary", "also"] g (fun vs zs => vs ++ zs)
  Rules___init___k0_pads_lines_loose_fold : ∃ g, KBn K Rules___init___d ["self", "pads", "skip", "lines", "loose", "fold"] 1 ["pads", "lines", "loose", "fold"] g (fun vs zs => vs ++ (zs.take 1 ++ ([.str (Str.ofString "")] ++ zs.drop 1)))
  Reader___init___k2_ : ∃ g, KBn K Reader___init___d ["self", "code", "rules"] 3 [] g (fun vs zs => vs ++ zs)
  C_Rules_n_options : NoAttr K C_Rules "options"
  C_Quoted_n_ways : NoAttr K C_Quoted "ways"
  C_Quoted_n_known_items : NoAttr K C_Quoted "known_items"
  C_Reader_n_is_closed : NoAttr K C_Reader "is_closed"
  C_Reader_n_many : NoAttr K C_Reader "many"
  C_Reader_n_found : NoAttr K C_Reader "found"
  C_Reader_n_now : NoAttr K C_Reader "now"
  C_Reader_n_rules_now : NoAttr K C_Reader "rules_now"
  C_Reader_n_own_code : NoAttr K C_Reader "own_code"
  k_PRINTED_u : Value
  k_PRINTED_g : mg "PRINTED" = some k_PRINTED_u
  k_PRINTED_r : RelV (.str (Str.ofString " !\"#$&'()*+,-./0123456789:;<=>?@ABCDEFGHIJKLMNOPQRSTUVWXYZ[\\]^_`abcdefghijklmnopqrstuvwxyz{|}~")) k_PRINTED_u
  k_CHARACTERS_u : Value
  k_CHARACTERS_g : mg "CHARACTERS" = some k_CHARACTERS_u
  k_CHARACTERS_r : RelV (.str (Str.ofString "\n !\"#$&'()*+,-./0123456789:;<=>?@ABCDEFGHIJKLMNOPQRSTUVWXYZ[\\]^_`abcdefghijklmnopqrstuvwxyz{|}~")) k_CHARACTERS_u
  k_SPACE_u : Value
  k_SPACE_g : mg "SPACE" = some k_SPACE_u
  k_SPACE_r : RelV (.int 32) k_SPACE_u
  k_GAP_u : Value
  k_GAP_g : mg "GAP" = some k_GAP_u
  k_GAP_r : RelV (.int 37) k_GAP_u
  k_LINE_FEED_u : Value
  k_LINE_FEED_g : mg "LINE_FEED" = some k_LINE_FEED_u
  k_LINE_FEED_r : RelV (.int 10) k_LINE_FEED_u
  k_MOST_CHARACTERS_u : Value
  k_MOST_CHARACTERS_g : mg "MOST_CHARACTERS" = some k_MOST_CHARACTERS_u
  k_MOST_CHARACTERS_r : RelV (.int 12000) k_MOST_CHARACTERS_u
  k_SMALLS_u : Value
  k_SMALLS_g : mg "SMALLS" = some k_SMALLS_u
  k_SMALLS_r : RelV (.str (Str.ofString "abcdefghijklmnopqrstuvwxyz")) k_SMALLS_u
  k_CAPITALS_u : Value
  k_CAPITALS_g : mg "CAPITALS" = some k_CAPITALS_u
  k_CAPITALS_r : RelV (.str (Str.ofString "ABCDEFGHIJKLMNOPQRSTUVWXYZ")) k_CAPITALS_u
  k_PADS_a : Addr
  k_PADS_g : mg "PADS" = some (.ref k_PADS_a)
  k_PADS_t : ∀ H, SqT K H k_PADS_a [.str (Str.ofString "full"), .str (Str.ofString "none"), .str (Str.ofString "optional"), .str (Str.ofString "any")]
  k_OPTIONS_a : Addr
  k_OPTIONS_g : mg "OPTIONS" = some (.ref k_OPTIONS_a)
  k_OPTIONS_t : ∀ H, SqT K H k_OPTIONS_a [.str (Str.ofString "pads"), .str (Str.ofString "skip"), .str (Str.ofString "lines"), .str (Str.ofString "loose"), .str (Str.ofString "fold")]
  k_HEX_DIGITS_u : Value
  k_HEX_DIGITS_g : mg "HEX_DIGITS" = some k_HEX_DIGITS_u
  k_HEX_DIGITS_r : RelV (.str (Str.ofString "0123456789ABCDEF")) k_HEX_DIGITS_u
  k_BLANK_u : Value
  k_BLANK_g : mg "BLANK" = some k_BLANK_u
  k_BLANK_r : RelV (.str (Str.ofString " ")) k_BLANK_u
  k_ESCAPE_u : Value
  k_ESCAPE_g : mg "ESCAPE" = some k_ESCAPE_u
  k_ESCAPE_r : RelV (.str (Str.ofString "=")) k_ESCAPE_u
  k_NEWLINE_u : Value
  k_NEWLINE_g : mg "NEWLINE" = some k_NEWLINE_u
  k_NEWLINE_r : RelV (.str (Str.ofString "\n")) k_NEWLINE_u
  k_WIDEST_u : Value
  k_WIDEST_g : mg "WIDEST" = some k_WIDEST_u
  k_WIDEST_r : RelV (.int 76) k_WIDEST_u
  k_LEAST_WIDTH_u : Value
  k_LEAST_WIDTH_g : mg "LEAST_WIDTH" = some k_LEAST_WIDTH_u
  k_LEAST_WIDTH_r : RelV (.int 4) k_LEAST_WIDTH_u
  k_SOFT_BREAK_u : Value
  k_SOFT_BREAK_g : mg "SOFT_BREAK" = some k_SOFT_BREAK_u
  k_SOFT_BREAK_r : RelV (.str (Str.ofString "=\n")) k_SOFT_BREAK_u
  n_abs : mg "abs" = none
  n_all : mg "all" = none
  n_any : mg "any" = none
  n_bool : mg "bool" = none
  n_enumerate : mg "enumerate" = none
  n_int : mg "int" = none
  n_isinstance : mg "isinstance" = none
  n_len : mg "len" = none
  n_list : mg "list" = none
  n_max : mg "max" = none
  n_min : mg "min" = none
  n_ord : mg "ord" = none
  n_range : mg "range" = none
  n_str : mg "str" = none
  n_super : mg "super" = none
theorem xi_NoCharacter {K : PySem.W.Frag} {mg : Str → Option Value} (T : Txt K mg) (w : World) : PySem.PxE.InitOkN P w K mg T.X_NoCharacter T.X_NoCharacter_f ["index"] := by
  intro A R hp g d t os e t0 us mb hl X hg hb hmb lim hroom hKe he hq
  match us, hl with
  | [u0], _ =>
    have F := T.X_NoCharacter_F
    obtain ⟨oc, od, doc, pm, an, cda, ct, cc, osl, ccl, cdd, ccs, vs, tf, cl, cld, csl, lk, hcd, hcode, hvs, hcell⟩ := F.fn
    obtain ⟨nm, q, N, bs, sn, sub, ab, col, dd, k0, k1, k2, k3, k5, hC⟩ := F.oex.cls
    have lk' : K.lookup T.X_NoCharacter_f = some ⟨oc, od, .func (PySem.W.ksFn "__init__" "NoCharacter.__init__" (defArgs se_NoCharacter) (PySem.PxE.s1 "not a text" ⟨18, 8, 18, 13⟩ ⟨18, 8, 18, 15⟩ ⟨18, 8, 18, 24⟩ ⟨18, 25, 18, 37⟩ ⟨18, 8, 18, 38⟩ ⟨18, 8, 18, 38⟩ 0 :: ([⟨"index", "index", u0, ⟨19, 8, 19, 12⟩, ⟨19, 8, 19, 18⟩, ⟨19, 21, 19, 26⟩, ⟨19, 8, 19, 26⟩⟩] : List PySem.PxE.FE).map PySem.PxE.FE.st) (defScope se_NoCharacter) .none .none doc pm an (.ref cda) ct cc), osl⟩ := lk
    have hcd' : PySem.W.codeIn K (.ref cda) "NoCharacter.__init__" = true := hcd
    refine PySem.PxE.init_gen (binds := [("self", .ref e), ("index", u0)]) PySem.PxE.bas_ValueError X hg hb hmb T.n_super lim hroom lk' hcd' (ar := { arg := "self", annotation := none, pos := ⟨17, 17, 17, 21⟩ }) (by rfl) (by rfl) hcode hvs P_file P_top hcell
      (by decide +kernel) (by rfl) (by rfl) (by rfl) (by simp only [List.forall_mem_cons]; exact ⟨by rfl, ⟨by rfl, fun _ h => nomatch h⟩⟩) (by rfl) (by rfl) (by rfl) hC F.oex.sa F.hop F.hsup F.hB F.hself he hKe
      (BindsTo.of_eq (by rfl)) (by rfl) _ _ rfl (fun L => by rfl) (fun L => by rfl) ?_ (by show 1 ≤ 100; decide) (fun L => by rfl) (fun L => by rfl) (fun h' t' od' t1 a1 a2 a3 a4 => hq h' t' od' t1 a1 a2 a3 (a4.trans (by simp)))
    exact fun q hq => by
      simp only [List.mem_cons, List.not_mem_nil, or_false] at hq
      rcases hq with rfl
      · exact ⟨by rfl, by rfl, by rfl, F.noF "index" (by show _ ∈ (["index"] : List Str); simp), fun L => by rfl⟩
theorem xi_Wrong {K : PySem.W.Frag} {mg : Str → Option Value} (T : Txt K mg) (w : World) : PySem.PxE.InitOkN P w K mg T.X_Wrong T.X_Wrong_f ["place", "kind"] := by
  intro A R hp g d t os e t0 us mb hl X hg hb hmb lim hroom hKe he hq
  match us, hl with
  | [u0, u1], _ =>
    have F := T.X_Wrong_F
    obtain ⟨oc, od, doc, pm, an, cda, ct, cc, osl, ccl, cdd, ccs, vs, tf, cl, cld, csl, lk, hcd, hcode, hvs, hcell⟩ := F.fn
    obtain ⟨nm, q, N, bs, sn, sub, ab, col, dd, k0, k1, k2, k3, k5, hC⟩ := F.oex.cls
    have lk' : K.lookup T.X_Wrong_f = some ⟨oc, od, .func (PySem.W.ksFn "__init__" "Wrong.__init__" (defArgs se_Wrong) (PySem.PxE.s1 "the text is not right" ⟨23, 8, 23, 13⟩ ⟨23, 8, 23, 15⟩ ⟨23, 8, 23, 24⟩ ⟨23, 25, 23, 48⟩ ⟨23, 8, 23, 49⟩ ⟨23, 8, 23, 49⟩ 0 :: ([⟨"place", "place", u0, ⟨24, 8, 24, 12⟩, ⟨24, 8, 24, 18⟩, ⟨24, 21, 24, 26⟩, ⟨24, 8, 24, 26⟩⟩, ⟨"kind", "kind", u1, ⟨25, 8, 25, 12⟩, ⟨25, 8, 25, 17⟩, ⟨25, 20, 25, 24⟩, ⟨25, 8, 25, 24⟩⟩] : List PySem.PxE.FE).map PySem.PxE.FE.st) (defScope se_Wrong) .none .none doc pm an (.ref cda) ct cc), osl⟩ := lk
    have hcd' : PySem.W.codeIn K (.ref cda) "Wrong.__init__" = true := hcd
    refine PySem.PxE.init_gen (binds := [("self", .ref e), ("place", u0), ("kind", u1)]) PySem.PxE.bas_ValueError X hg hb hmb T.n_super lim hroom lk' hcd' (ar := { arg := "self", annotation := none, pos := ⟨22, 17, 22, 21⟩ }) (by rfl) (by rfl) hcode hvs P_file P_top hcell
      (by decide +kernel) (by rfl) (by rfl) (by rfl) (by simp only [List.forall_mem_cons]; exact ⟨by rfl, ⟨by rfl, ⟨by rfl, fun _ h => nomatch h⟩⟩⟩) (by rfl) (by rfl) (by rfl) hC F.oex.sa F.hop F.hsup F.hB F.hself he hKe
      (BindsTo.of_eq (by rfl)) (by rfl) _ _ rfl (fun L => by rfl) (fun L => by rfl) ?_ (by show 2 ≤ 100; decide) (fun L => by rfl) (fun L => by rfl) (fun h' t' od' t1 a1 a2 a3 a4 => hq h' t' od' t1 a1 a2 a3 (a4.trans (by simp)))
    exact fun q hq => by
      simp only [List.mem_cons, List.not_mem_nil, or_false] at hq
      rcases hq with rfl | rfl
      · exact ⟨by rfl, by rfl, by rfl, F.noF "place" (by show _ ∈ (["place", "kind"] : List Str); simp), fun L => by rfl⟩
      · exact ⟨by rfl, by rfl, by rfl, F.noF "kind" (by show _ ∈ (["place", "kind"] : List Str); simp), fun L => by rfl⟩
theorem xi_Closed {K : PySem.W.Frag} {mg : Str → Option Value} (T : Txt K mg) (w : World) : PySem.PxE.InitOkN P w K mg T.X_Closed T.X_Closed_f [] := by
  intro A R hp g d t os e t0 us mb hl X hg hb hmb lim hroom hKe he hq
  match us, hl with
  | [], _ =>
    have F := T.X_Closed_F
    obtain ⟨oc, od, doc, pm, an, cda, ct, cc, osl, ccl, cdd, ccs, vs, tf, cl, cld, csl, lk, hcd, hcode, hvs, hcell⟩ := F.fn
    obtain ⟨nm, q, N, bs, sn, sub, ab, col, dd, k0, k1, k2, k3, k5, hC⟩ := F.oex.cls
    have lk' : K.lookup T.X_Closed_f = some ⟨oc, od, .func (PySem.W.ksFn "__init__" "Closed.__init__" (defArgs se_Closed) (PySem.PxE.s1 "the writer or reader is closed" ⟨33, 8, 33, 13⟩ ⟨33, 8, 33, 15⟩ ⟨33, 8, 33, 24⟩ ⟨33, 25, 33, 57⟩ ⟨33, 8, 33, 58⟩ ⟨33, 8, 33, 58⟩ 0 :: ([] : List PySem.PxE.FE).map PySem.PxE.FE.st) (defScope se_Closed) .none .none doc pm an (.ref cda) ct cc), osl⟩ := lk
    have hcd' : PySem.W.codeIn K (.ref cda) "Closed.__init__" = true := hcd
    refine PySem.PxE.init_gen (binds := [("self", .ref e)]) PySem.PxE.bas_RuntimeError X hg hb hmb T.n_super lim hroom lk' hcd' (ar := { arg := "self", annotation := none, pos := ⟨32, 17, 32, 21⟩ }) (by rfl) (by rfl) hcode hvs P_file P_top hcell
      (by decide +kernel) (by rfl) (by rfl) (by rfl) (by simp only [List.forall_mem_cons]; exact ⟨by rfl, fun _ h => nomatch h⟩) (by rfl) (by rfl) (by rfl) hC F.oex.sa F.hop F.hsup F.hB F.hself he hKe
      (BindsTo.of_eq (by rfl)) (by rfl) _ _ rfl (fun L => by rfl) (fun L => by rfl) ?_ (by show 0 ≤ 100; decide) (fun L => by rfl) (fun L => by rfl) (fun h' t' od' t1 a1 a2 a3 a4 => hq h' t' od' t1 a1 a2 a3 (a4.trans (by simp)))
    exact fun q hq => nomatch hq

section
variable {w : World} {K : PySem.W.Frag} {mg : Str → Option Value} {base : Heap}
/-! ### the draws -/
structure Bag (n : Nat) (d m c : Int) : Prop where
  d0 : 0 ≤ d
  m0 : 0 ≤ m
  m1 : m < 2305843009213693951
  c0 : 0 ≤ c
  c1 : c + n ≤ 1000000
def BagAt (H : Hp) (b : Addr) (n : Nat) : Prop := ∃ d m c, Bag n d m c ∧ H b = some (.lst [.int d, .int m, .int c])
theorem BagAt.mono {H : Hp} {b : Addr} {n m : Nat} (h : BagAt H b n) (l : m ≤ n) : BagAt H b m := by
  obtain ⟨d, x, c, ⟨h1, h2, h3, h4, h5⟩, e⟩ := h
  exact ⟨d, x, c, ⟨h1, h2, h3, h4, by omega⟩, e⟩
theorem BagAt.same {H H' : Hp} {b : Addr} {n : Nat} (h : BagAt H b n) (e : Same H H') : BagAt H' b n := by
  obtain ⟨d, x, c, B, q⟩ := h
  exact ⟨d, x, c, B, e _ _ q⟩
theorem BagAt.some {H : Hp} {b : Addr} {n : Nat} (h : BagAt H b n) : ∃ o, H b = some o := let ⟨_, _, _, _, e⟩ := h; ⟨_, e⟩
theorem BagAt.ne {H : Hp} {b p : Addr} {n : Nat} (h : BagAt H b n) (e : H p = none) : p ≠ b := fun z => by
  obtain ⟨o, q⟩ := h.some
  rw [z, q] at e
  cases e
theorem BagAt.upd {H : Hp} {b p : Addr} {m : Nat} {o : HO} (h : BagAt H b m) (n : p ≠ b) : BagAt (upd H p o) b m := by
  obtain ⟨d, x, c, B, q⟩ := h
  exact ⟨d, x, c, B, gu (Ne.symm n) q⟩
theorem sameB_mut {b : Addr} {H H' : Hp} {p : Addr} {o : HO} (e : SameB b H H') (h : H p = none) : SameB b H (upd H' p o) := fun a u n ha => (upd_ne (ne_of_none ha h)).trans (e a u n ha)
def sp_l_take (T : Txt K mg) : Sp := fun vs H Q _ => ∃ (b : Addr) (k : Int) (n : Nat), vs = [.ref b, .int k] ∧ BagAt H b (n + 1) ∧ 0 < k ∧ k < 1000000 ∧
  ∀ r H', 0 ≤ r → r < k → BagAt H' b n → SameB b H H' → Q (.int r) H'
theorem len_l_take (T : Txt K mg) (vs : List V) (H : Hp) (Q : VK) (E : XK) (h : sp_l_take T vs H Q E) : vs.length = 2 := by
  obtain ⟨b, k, n, rfl, _⟩ := h
  rfl
def t_l_take (T : Txt K mg) : TS := (tSeq (tIfS (tTest (tOp rGtI (tOp (rIx K) (tVar 0) (tC (.int 0))) (tC (.int 0)))) (tSeq (tAsg (tOp rModI (tOp (rIx K) (tVar 0) (tC (.int 0))) (tVar 1)) (gName 2))
    (tSeq (tAsg (tOp rFdivI (tOp (rIx K) (tVar 0) (tC (.int 0))) (tVar 1)) (gSub (tVar 0) (tC (.int 0)) rSetL))
    (tRet (tVar 2)))) tNext)
    (tSeq (tAsg (tOp (rAddU K) (tOp (rIx K) (tVar 0) (tC (.int 2))) (tC (.int 1))) (gSub (tVar 0) (tC (.int 2)) rSetL))
    (tSeq (tAsg (tOp rModI (tOp rPowI (tOp (rAddU K) (tOp (rIx K) (tVar 0) (tC (.int 1))) (tOp (rMulU K) (tC (.int 1000033)) (tOp (rIx K) (tVar 0) (tC (.int 2))))) (tC (.int 3))) (tC (.int 2305843009213693921))) (gName 3))
    (tSeq (tAsg (tOp rModI (tOp rPowI (tOp (rAddU K) (tVar 3) (tOp (rMulU K) (tC (.int 32452867)) (tOp (rIx K) (tVar 0) (tC (.int 2))))) (tC (.int 2))) (tC (.int 2305843009213693951))) (gName 3))
    (tRet (tOp rModI (tOp rFdivI (tVar 3) (tC (.int 1024))) (tVar 1)))))))

theorem pure_l_take (T : Txt K mg) (vs : List V) (H : Hp) (Q : VK) (E : XK) (h : sp_l_take T vs H Q E) : t_l_take T { nx := fun _ H' => Q .non H', rt := Q } (start ["_law_bag_here", "_law_many", "_law_digit", "_law_mixed"] vs) H := by
  obtain ⟨b, k, n, rfl, ⟨d, m, c, ⟨d0, m0, m1, c0, c1⟩, hB⟩, hk, hk2, q⟩ := h
  unfold t_l_take
  have hM : ∀ x : Int, 0 ≤ x.fmod 2305843009213693921 ∧ x.fmod 2305843009213693921 < 2305843009213693921 := fun x => ⟨Int.fmod_nonneg_of_pos x (by decide), Int.fmod_lt_of_pos x (by decide)⟩
  walk_at "rd"
  refine r_iteD (fun hd => ?_) (fun hd => ?_)
  · walk_at "rd"
    refine q _ _ (Int.fmod_nonneg_of_pos _ hk) (Int.fmod_lt_of_pos _ hk) ⟨_, _, _, ⟨?_, m0, m1, c0, by omega⟩, upd_same⟩ sameB_upd
    rw [Int.fdiv_eq_ediv_of_nonneg _ (Int.le_of_lt hk)]
    exact Int.ediv_nonneg d0 (Int.le_of_lt hk)
  · walk_at "rd"
    generalize hx : ((m + 1000033 * (c + 1)) ^ (Int.toNat 3)).fmod 2305843009213693921 = x1
    have hx1 := hM ((m + 1000033 * (c + 1)) ^ (Int.toNat 3))
    rw [hx] at hx1
    walk_at "rd"
    exact q _ _ (Int.fmod_nonneg_of_pos _ hk) (Int.fmod_lt_of_pos _ hk) ⟨_, _, _, ⟨d0, m0, m1, by omega, by omega⟩, upd_same⟩ sameB_upd
theorem ok_l_take (T : Txt K mg) : FnOk P w K mg base CX0 1 T.l_take_a T.l_take_d ["_law_bag_here", "_law_many"] (sp_l_take T) := by
  refine T.l_take_f.ok sc_l_take (fun vs H Q E h => len_l_take T vs H Q E h) (fun cdv A outer s H vs Q E hr h => ⟨t_l_take T, PSs.nox ?_, pure_l_take T vs H Q E h⟩)
  have hu := hu64 hr
  exact (pss_cons (ps_if (pt_cmpR op_gt (pe_ix ix_seq (pv 0) pe_int (fun _ _ => rfl)) pe_int (nomark _)) (pss_cons (ps_set (i := 2) sc_l_take.nd rfl (.inl rfl) (pe_op op_modN (pe_ix ix_seq (pv 0) pe_int (fun _ _ => rfl)) (pv 1)))
      (pss_cons (ps_asg (pe_op op_fdivN (pe_ix ix_seq (pv 0) pe_int (fun _ _ => rfl)) (pv 1)) (pg_sub (pv 0) pe_int set_list))
      (pss_one (ps_ret (pv 2))))) pss_nil)
      (pss_cons (ps_asg (pe_op op_addU (pe_ix ix_seq (pv 0) pe_int (fun _ _ => rfl)) pe_int) (pg_sub (pv 0) pe_int set_list))
      (pss_cons (ps_set (i := 3) sc_l_take.nd rfl (.inl rfl) (pe_op op_modN (pe_op op_pow (pe_op op_addU (pe_ix ix_seq (pv 0) pe_int (fun _ _ => rfl)) (pe_op op_mulU pe_int (pe_ix ix_seq (pv 0) pe_int (fun _ _ => rfl)))) pe_int) pe_int))
      (pss_cons (ps_set (i := 3) sc_l_take.nd rfl (.inl rfl) (pe_op op_modN (pe_op op_pow (pe_op op_addU (pv 3) (pe_op op_mulU pe_int (pe_ix ix_seq (pv 0) pe_int (fun _ _ => rfl)))) pe_int) pe_int))
      (pss_one (ps_ret (pe_op op_modN (pe_op op_fdivN (pv 3) pe_int) (pv 1))))))))


def sp_l_bag (T : Txt K mg) : Sp := fun vs H Q _ => ∃ (a : Addr) (ns : List Int) (i : Nat), vs = [.ref a, .int i] ∧ SqL K H a (ns.map V.int) ∧ ns.length ≤ 63 ∧ i ≤ 1000 ∧
  ∀ p H', Same H H' → H p = none → BagAt H' p 1000000 → Q (.ref p) H'
theorem len_l_bag (T : Txt K mg) (vs : List V) (H : Hp) (Q : VK) (E : XK) (h : sp_l_bag T vs H Q E) : vs.length = 2 := by
  obtain ⟨a, ns, i, rfl, _⟩ := h
  rfl
def t_l_bag (T : Txt K mg) : TS := (tSeq (tAsg (tIf (tTest (tOp rLtI (tVar 1) (tCB (rLenU K) (tCons (tVar 0) tNil)))) (tOp (rIx K) (tVar 0) (tVar 1)) (tC (.int 0))) (gName 2))
    (tSeq (tAsg (tIf (tTest (tOp rGeI (tCB rAbs (tCons (tVar 2) tNil)) (tOp rPowI (tC (.int 10)) (tC (.int 18))))) (tCB rAbs (tCons (tVar 2) tNil)) (tC (.int 0))) (gName 3))
    (tRet (tLst (tCons (tVar 3) (tCons (tOp rModI (tOp (rMulU K) (tOp (rAddU K) (tOp (rAddU K) (tOp rModI (tVar 2) (tC (.int 2305843009213693951))) (tOp (rMulU K) (tC (.int 5003)) (tVar 1))) (tC (.int 71))) (tC (.int 7368787))) (tC (.int 2305843009213693951))) (tCons (tC (.int 0)) tNil)))))))

theorem pure_l_bag (T : Txt K mg) (vs : List V) (H : Hp) (Q : VK) (E : XK) (h : sp_l_bag T vs H Q E) : t_l_bag T { nx := fun _ H' => Q .non H', rt := Q } (start ["_law_script", "_law_at", "_law_cell", "_law_digits"] vs) H := by
  obtain ⟨a, ns, i, rfl, hS, hl, hi, q⟩ := h
  unfold t_l_bag
  have fin : ∀ d x : Int, 0 ≤ d → [V.int d, V.int (x.fmod 2305843009213693951), V.int 0].length ≤ sizeLine ∧ ∀ p, H p = none → Q (.ref p) (upd H p (.lst [V.int d, V.int (x.fmod 2305843009213693951), V.int 0])) := by
    intro d x hd
    walk_at "new"
    exact q _ _ hs np ⟨_, _, _, ⟨hd, Int.fmod_nonneg_of_pos _ (by decide), Int.fmod_lt_of_pos _ (by decide), Int.le_refl _, by decide⟩, hv⟩
  walk_at "rd"
  refine r_iteD (fun h => ?_) (fun h => ?_)
  · have hi' : i < ns.length := by
      rw [List.length_map] at h
      omega
    have g : atI (ns.map V.int) (i : Int) = some (.int ns[i]) := atI_nat (by rw [List.getElem?_map, List.getElem?_eq_getElem hi']; rfl)
    walk_at "rd"
    refine r_iteD (fun h => ?_) (fun h => ?_)
    · walk_at "rd"
      exact fin _ _ (by split <;> omega)
    · walk_at "rd"
      exact fin _ _ (Int.le_refl _)
  · walk_at "rd"
    refine r_iteD (fun h => ?_) (fun h => ?_)
    · walk_at "rd"
      exact fin _ _ (by split <;> omega)
    · walk_at "rd"
      exact fin _ _ (Int.le_refl _)
theorem ok_l_bag (T : Txt K mg) : FnOk P w K mg base CX0 1 T.l_bag_a T.l_bag_d ["_law_script", "_law_at"] (sp_l_bag T) := by
  refine T.l_bag_f.ok sc_l_bag (fun vs H Q E h => len_l_bag T vs H Q E h) (fun cdv A outer s H vs Q E hr h => ⟨t_l_bag T, PSs.nox ?_, pure_l_bag T vs H Q E h⟩)
  have hu := hu64 hr
  exact (pss_cons (ps_set (i := 2) sc_l_bag.nd rfl (.inl rfl) (pe_ifExp (pt_cmpR op_lt (pv 1) (pe_callB c_lenU (by rfl) T.n_len (by decide +kernel) (pa_cons (pv 0) pa_nil)) (nomark _)) (pe_ix ix_seq (pv 0) (pv 1) (fun _ _ => rfl)) pe_int))
      (pss_cons (ps_set (i := 3) sc_l_bag.nd rfl (.inl rfl) (pe_ifExp (pt_cmpR op_ge (pe_callB c_abs (by rfl) T.n_abs (by decide +kernel) (pa_cons (pv 2) pa_nil)) (pe_op op_pow pe_int pe_int) (nomark _)) (pe_callB c_abs (by rfl) T.n_abs (by decide +kernel) (pa_cons (pv 2) pa_nil)) pe_int))
      (pss_one (ps_ret (pe_lst (pa_cons (pv 3) (pa_cons (pe_op op_modN (pe_op op_mulU (pe_op op_addU (pe_op op_addU (pe_op op_modN (pv 2) pe_int) (pe_op op_mulU pe_int (pv 1))) pe_int) pe_int) pe_int) (pa_cons pe_int pa_nil))))))))

def sp_l_of (T : Txt K mg) : Sp := fun vs H Q _ => ∃ (b l : Addr) (xs : List V) (n : Nat), vs = [.ref b, .ref l] ∧ SqL K H l xs ∧ l ≠ b ∧ BagAt H b (n + 1) ∧ 0 < xs.length ∧ xs.length < 1000000 ∧
  ∀ (j : Nat) x H', xs[j]? = some x → BagAt H' b n → SameB b H H' → Q x H'
theorem len_l_of (T : Txt K mg) (vs : List V) (H : Hp) (Q : VK) (E : XK) (h : sp_l_of T vs H Q E) : vs.length = 2 := by
  obtain ⟨a, l, xs, i, rfl, _⟩ := h
  rfl
def t_l_of (T : Txt K mg) : TS := (tRet (tOp (rIx K) (tVar 1) (tCall (sp_l_take T) [] E0 (tCons (tVar 0) (tCons (tCB (rLenU K) (tCons (tVar 1) tNil)) tNil)))))

theorem pure_l_of (T : Txt K mg) (vs : List V) (H : Hp) (Q : VK) (E : XK) (h : sp_l_of T vs H Q E) : t_l_of T { nx := fun _ H' => Q .non H', rt := Q } (start ["_law_bag_here", "_law_some"] vs) H := by
  obtain ⟨b, l, xs, n, rfl, hS, hne, hB, h0, h1, q⟩ := h
  unfold t_l_of
  walk_at "rd"
  refine ⟨b, xs.length, n, rfl, hB, by omega, by omega, fun r H' r0 r1 hB' hs => ?_⟩
  obtain ⟨j, rfl⟩ : ∃ j : Nat, r = j := ⟨r.toNat, by omega⟩
  have hj : j < xs.length := by omega
  have g : atI xs (j : Int) = some xs[j] := atI_nat (List.getElem?_eq_getElem hj)
  walk_at "rd"
  exact q j _ _ (List.getElem?_eq_getElem hj) hB' hs
theorem ok_l_of (T : Txt K mg) : FnOk P w K mg base CX0 2 T.l_of_a T.l_of_d ["_law_bag_here", "_law_some"] (sp_l_of T) := by
  refine T.l_of_f.ok sc_l_of (fun vs H Q E h => len_l_of T vs H Q E h) (fun cdv A outer s H vs Q E hr h => ⟨t_l_of T, PSs.nox ?_, pure_l_of T vs H Q E h⟩)
  have hu := hu64 hr
  exact (pss_one (ps_ret (pe_ix ix_seq (pv 1) (pe_call (ok_l_take T) (hr.mono (by decide)) (by rfl) T.l_take_g T.l_take_f.kp T.l_take_b .nil pass0 (pa_cons (pv 0) (pa_cons (pe_callB c_lenU (by rfl) T.n_len (by decide +kernel) (pa_cons (pv 1) pa_nil)) pa_nil))) (fun _ _ => rfl))))



/-! ### signs -/
def prn : List Nat := List.range' 32 5 ++ List.range' 38 89
theorem prn_eq : (Str.ofString " !\"#$&'()*+,-./0123456789:;<=>?@ABCDEFGHIJKLMNOPQRSTUVWXYZ[\\]^_`abcdefghijklmnopqrstuvwxyz{|}~").cps.toList = prn := by decide +kernel
/-- a sign that a code may have -/
def Sg (c : Nat) : Prop := 33 ≤ c ∧ c ≤ 126 ∧ c ≠ 37
theorem Sg.mem {c : Nat} (h : Sg c) : c ∈ prn := by
  unfold prn
  unfold Sg at h
  rw [List.mem_append, List.mem_range'_1, List.mem_range'_1]
  omega
def Sgs (z : Str) : Prop := ∀ c ∈ z.cps.toList, Sg c
/-- whole numbers, and only they -/
def isI : V → Bool
  | .int _ => true
  | _ => false
def sp_is_integer (T : Txt K mg) : Sp := fun vs H Q _ => ∃ v t, vs = [v] ∧ Kd H v t ∧ Q (.bl (isI v)) H
theorem len_is_integer (T : Txt K mg) (vs : List V) (H : Hp) (Q : VK) (E : XK) (h : sp_is_integer T vs H Q E) : vs.length = 1 := by
  obtain ⟨_, _, rfl, _⟩ := h
  rfl
def t_is_integer (T : Txt K mg) : TS := (tRet (tAndV (tCB (rIsi K) (tCons (tVar 0) (tCons (tC (.ty "int")) tNil))) (tNotV (tCB (rIsi K) (tCons (tVar 0) (tCons (tC (.ty "bool")) tNil))))))

theorem pure_is_integer (T : Txt K mg) (vs : List V) (H : Hp) (Q : VK) (E : XK) (h : sp_is_integer T vs H Q E) : t_is_integer T { nx := fun _ H' => Q .non H', rt := Q } (start ["value"] vs) H := by
  obtain ⟨v, t, rfl, k, q⟩ := h
  unfold t_is_integer
  walk_at "rd"
  refine r_isiInt k ?_
  walk_at "rd"
  cases k with
  | int x =>
    refine r_iteT ?_
    walk_at "rd"
    refine r_isiBool (.int x) ?_
    walk_at "rd"
    exact q
  | bl b =>
    refine r_iteT ?_
    walk_at "rd"
    refine r_isiBool (.bl b) ?_
    walk_at "rd"
    exact q
  | non => exact r_iteF q
  | str z => exact r_iteF q
  | lst h => exact r_iteF q
  | tup h => exact r_iteF q
theorem ok_is_integer (T : Txt K mg) : FnOk P w K mg base CX0 1 T.is_integer_a T.is_integer_d ["value"] (sp_is_integer T) := by
  refine T.is_integer_f.ok sc_is_integer (fun vs H Q E h => len_is_integer T vs H Q E h) (fun cdv A outer s H vs Q E hr h => ⟨t_is_integer T, PSs.nox ?_, pure_is_integer T vs H Q E h⟩)
  have hu := hu64 hr
  exact (pss_one (ps_ret (pe_and (pe_callB call_isi (by rfl) T.n_isinstance (by decide +kernel) (pa_cons (pv 0) (pa_cons (pe_bltn (v := .ty "int") (by rfl) T.n_int (by decide +kernel) rfl) pa_nil))) (pe_one (pe_not (pe_callB call_isi (by rfl) T.n_isinstance (by decide +kernel) (pa_cons (pv 0) (pa_cons (pe_bltn (v := .ty "bool") (by rfl) T.n_bool (by decide +kernel) rfl) pa_nil))))))))

def isW (lo hi : Int) : V → Bool
  | .int x => decide (lo ≤ x) && decide (x ≤ hi)
  | _ => false
def sp_is_within (T : Txt K mg) : Sp := fun vs H Q _ => ∃ v t, ∃ lo hi : Int, vs = [v, .int lo, .int hi] ∧ Kd H v t ∧ Q (.bl (isW lo hi v)) H
theorem len_is_within (T : Txt K mg) (vs : List V) (H : Hp) (Q : VK) (E : XK) (h : sp_is_within T vs H Q E) : vs.length = 3 := by
  obtain ⟨_, _, _, _, rfl, _⟩ := h
  rfl
def t_is_within (T : Txt K mg) : TS := (tRet (tAndV (tCall (sp_is_integer T) [] E0 (tCons (tVar 0) tNil)) (tChain rLeI rLeI (tVar 1) (tVar 0) (tVar 2))))

theorem pure_is_within (T : Txt K mg) (vs : List V) (H : Hp) (Q : VK) (E : XK) (h : sp_is_within T vs H Q E) : t_is_within T { nx := fun _ H' => Q .non H', rt := Q } (start ["value", "low", "high"] vs) H := by
  obtain ⟨v, t, lo, hi, rfl, k, q⟩ := h
  unfold t_is_within
  walk_at "rd"
  refine ⟨v, t, rfl, k, ?_⟩
  walk_at "rd"
  cases k with
  | int x =>
    refine r_iteT ?_
    have q : Q (.bl (decide (lo ≤ x) && decide (x ≤ hi))) H := q
    walk_at "rd"
    refine r_iteD (fun h => ?_) (fun h => ?_)
    · walk_at "rd"
      rw [decide_eq_true h, Bool.true_and] at q
      exact q
    · rw [decide_eq_false h, Bool.false_and] at q
      exact q
  | bl b => exact r_iteF q
  | non => exact r_iteF q
  | str z => exact r_iteF q
  | lst h => exact r_iteF q
  | tup h => exact r_iteF q
theorem ok_is_within (T : Txt K mg) : FnOk P w K mg base CX0 2 T.is_within_a T.is_within_d ["value", "low", "high"] (sp_is_within T) := by
  refine T.is_within_f.ok sc_is_within (fun vs H Q E h => len_is_within T vs H Q E h) (fun cdv A outer s H vs Q E hr h => ⟨t_is_within T, PSs.nox ?_, pure_is_within T vs H Q E h⟩)
  have hu := hu64 hr
  exact (pss_one (ps_ret (pe_and (pe_call (ok_is_integer T) (hr.mono (by decide)) (by rfl) T.is_integer_g T.is_integer_f.kp T.is_integer_b .nil pass0 (pa_cons (pv 0) pa_nil)) (pe_one (pe_chain op_le op_le (pv 1) (pv 0) (pv 2))))))

abbrev isB : V → Bool := isW 0 255
def sp_is_byte (T : Txt K mg) : Sp := fun vs H Q _ => ∃ v t, vs = [v] ∧ Kd H v t ∧ Q (.bl (isB v)) H
theorem len_is_byte (T : Txt K mg) (vs : List V) (H : Hp) (Q : VK) (E : XK) (h : sp_is_byte T vs H Q E) : vs.length = 1 := by
  obtain ⟨_, _, rfl, _⟩ := h
  rfl
def t_is_byte (T : Txt K mg) : TS := (tRet (tCall (sp_is_within T) [] E0 (tCons (tVar 0) (tCons (tC (.int 0)) (tCons (tC (.int 255)) tNil)))))

theorem pure_is_byte (T : Txt K mg) (vs : List V) (H : Hp) (Q : VK) (E : XK) (h : sp_is_byte T vs H Q E) : t_is_byte T { nx := fun _ H' => Q .non H', rt := Q } (start ["value"] vs) H := by
  obtain ⟨v, t, rfl, k, q⟩ := h
  unfold t_is_byte
  walk_at "rd"
  exact ⟨v, t, 0, 255, rfl, k, q⟩
theorem ok_is_byte (T : Txt K mg) : FnOk P w K mg base CX0 3 T.is_byte_a T.is_byte_d ["value"] (sp_is_byte T) := by
  refine T.is_byte_f.ok sc_is_byte (fun vs H Q E h => len_is_byte T vs H Q E h) (fun cdv A outer s H vs Q E hr h => ⟨t_is_byte T, PSs.nox ?_, pure_is_byte T vs H Q E h⟩)
  have hu := hu64 hr
  exact (pss_one (ps_ret (pe_call (ok_is_within T) (hr.mono (by decide)) (by rfl) T.is_within_g T.is_within_f.kp T.is_within_b .nil pass0 (pa_cons (pv 0) (pa_cons pe_int (pa_cons pe_int pa_nil))))))

def tx (l : List Nat) : Str := ⟨l.toArray⟩
theorem tx_len (l : List Nat) : (tx l).length = l.length := by
  show l.toArray.size = _
  simp
theorem tx_list (l : List Nat) : (tx l).cps.toList = l := by simp [tx]
theorem tx_app (a b : List Nat) : tx a ++ tx b = tx (a ++ b) := by
  show (⟨a.toArray ++ b.toArray⟩ : Str) = ⟨(a ++ b).toArray⟩
  simp
theorem tx_inj {a b : List Nat} (h : tx a = tx b) : a = b := by
  have := congrArg (fun s : Str => s.cps.toList) h
  simpa [tx_list] using this
theorem tx_of (z : Str) : z = tx z.cps.toList := by
  show z = ⟨z.cps.toList.toArray⟩
  simp
theorem tx_dec (a b : List Nat) : decide (tx a = tx b) = decide (a = b) := by
  by_cases h : a = b
  · rw [h, decide_eq_true rfl, decide_eq_true rfl]
  · rw [decide_eq_false h, decide_eq_false fun z => h (tx_inj z)]
theorem nl_tx : Str.ofString "\n" = tx [10] := rfl
theorem e_tx : Str.ofString "" = tx [] := rfl
theorem sp_tx : Str.ofString " " = tx [32] := rfl
theorem esc_tx : Str.ofString "=" = tx [61] := rfl
theorem sb_tx : Str.ofString "=\n" = tx [61, 10] := rfl
theorem smallS {n : Nat} (h : n ≤ 100000) : n ≤ sizeLine := small_line (by omega)
instance (c : Nat) : Decidable (Sg c) := inferInstanceAs (Decidable (33 ≤ c ∧ c ≤ 126 ∧ c ≠ 37))
def isSg : List Nat → Bool
  | [c] => decide (Sg c)
  | _ => false
def sp_is_sign (T : Txt K mg) : Sp := fun vs H Q _ => ∃ l : List Nat, vs = [.str (tx l)] ∧ l.length ≤ 1 ∧ Q (.bl (isSg l)) H
theorem len_is_sign (T : Txt K mg) (vs : List V) (H : Hp) (Q : VK) (E : XK) (h : sp_is_sign T vs H Q E) : vs.length = 1 := by
  obtain ⟨l, rfl, _⟩ := h
  rfl
def t_is_sign (T : Txt K mg) : TS := (tRet (tAndV (tCB (rIsi K) (tCons (tVar 0) (tCons (tC (.ty "str")) tNil))) (tAndV (tOp (rEqU K) (tCB (rLenU K) (tCons (tVar 0) tNil)) (tC (.int 1))) (tAndV (tOp (rInU K) (tVar 0) (tC (.str (Str.ofString " !\"#$&'()*+,-./0123456789:;<=>?@ABCDEFGHIJKLMNOPQRSTUVWXYZ[\\]^_`abcdefghijklmnopqrstuvwxyz{|}~")))) (tOp (rNeU K) (tVar 0) (tC (.str (Str.ofString " "))))))))

theorem pure_is_sign (T : Txt K mg) (vs : List V) (H : Hp) (Q : VK) (E : XK) (h : sp_is_sign T vs H Q E) : t_is_sign T { nx := fun _ H' => Q .non H', rt := Q } (start ["value"] vs) H := by
  obtain ⟨l, rfl, hl, q⟩ := h
  unfold t_is_sign
  walk_at "rd"
  refine r_isiS ?_
  walk_at "rd"
  refine r_lenUS (smallS (by rw [tx_len]; omega)) ?_
  walk_at "rd"
  rw [tx_len]
  match l, hl, q with
  | [], _, q => exact r_iteD (fun h => absurd h (by decide)) (fun _ => q)
  | [c], _, q =>
    refine r_iteD (fun _ => ?_) (fun h => absurd rfl h)
    walk_at "rd"
    refine r_inS ⟨c, _, rfl, rfl, ?_⟩
    rw [prn_eq]
    have e : isSg [c] = (decide (c ∈ prn) && !decide (tx [c] = Str.ofString " ")) := by
      rw [sp_tx, tx_dec]
      by_cases hs : Sg c
      · have : c ≠ 32 := by unfold Sg at hs; omega
        simp [isSg, hs, hs.mem, this]
      · by_cases hm : c ∈ prn
        · have : c = 32 := by
            unfold prn at hm
            rw [List.mem_append, List.mem_range'_1, List.mem_range'_1] at hm
            unfold Sg at hs
            omega
          subst this
          simp [isSg, hs]
        · simp [isSg, hs, hm]
    rw [e] at q
    by_cases hm : c ∈ prn
    · rw [decide_eq_true hm] at q ⊢
      walk_at "rd"
      exact q
    · rw [decide_eq_false hm] at q ⊢
      walk_at "rd"
      exact q
theorem ok_is_sign (T : Txt K mg) : FnOk P w K mg base CX0 1 T.is_sign_a T.is_sign_d ["value"] (sp_is_sign T) := by
  refine T.is_sign_f.ok sc_is_sign (fun vs H Q E h => len_is_sign T vs H Q E h) (fun cdv A outer s H vs Q E hr h => ⟨t_is_sign T, PSs.nox ?_, pure_is_sign T vs H Q E h⟩)
  have hu := hu64 hr
  exact (pss_one (ps_ret (pe_and (pe_callB call_isi (by rfl) T.n_isinstance (by decide +kernel) (pa_cons (pv 0) (pa_cons (pe_bltn (v := .ty "str") (by rfl) T.n_str (by decide +kernel) rfl) pa_nil))) (pe_and (pe_cmpR (op_eqU hu) (pe_callB c_lenU (by rfl) T.n_len (by decide +kernel) (pa_cons (pv 0) pa_nil)) pe_int (nomark _)) (pe_and (pe_cmpR op_inU (pv 0) (pe_glob (by rfl) T.k_PRINTED_g T.k_PRINTED_r) (by rfl)) (pe_one (pe_cmpR (op_neU hu) (pv 0) pe_str (nomark _))))))))

def sp_are_signs (T : Txt K mg) : Sp := fun vs H Q _ => ∃ z : Str, vs = [.str z] ∧ z.length ≤ 1000 ∧ Sgs z ∧ z.cps.toList.Nodup ∧ ∀ H', Same H H' → Q (.bl true) H'
theorem len_are_signs (T : Txt K mg) (vs : List V) (H : Hp) (Q : VK) (E : XK) (h : sp_are_signs T vs H Q E) : vs.length = 1 := by
  obtain ⟨_, rfl, _⟩ := h
  rfl
def t_are_signs (T : Txt K mg) : TS := (tSeq (tIfS (tOr (tNot (tB (tCB (rIsi K) (tCons (tVar 0) (tCons (tC (.ty "str")) tNil))))) (tNot (tB (tCB (rAll K) (tCons (tLc (iSeqU K (tVar 0)) (gName 1) tYes (tCall (sp_is_sign T) [] E0 (tCons (tVar 1) tNil)) [1]) tNil))))) (tRet (tC (.bl false))) tNext)
    (tRet (tOp (rEqU K) (tDist 1 (tVar 0)) (tCB (rLenU K) (tCons (tVar 0) tNil)))))

theorem pure_are_signs (T : Txt K mg) (vs : List V) (H : Hp) (Q : VK) (E : XK) (h : sp_are_signs T vs H Q E) : t_are_signs T { nx := fun _ H' => Q .non H', rt := Q } (start ["value", "character"] vs) H := by
  obtain ⟨z, rfl, hl, hs, hn, q⟩ := h
  unfold t_are_signs
  walk_at "rd"
  refine r_isiS ?_
  walk_at "rd"
  refine r_iseqS ?_
  walk_at "rd"
  refine ⟨z, rfl, fun D hD => ?_⟩
  refine c_it walk_str (fun i G => G D = some (.lst ((List.replicate i true).map V.bl)) ∧ Same H G) ⟨upd_same, same_new hD⟩ (fun _ _ _ _ => trivial) ?_ ?_
  · rintro i x G G' hi ⟨hG, sG⟩ ⟨rfl, c, hc, rfl⟩
    walk_at "rd"
    refine ⟨rfl, ?_⟩
    walk_at "rd"
    refine ⟨[c], rfl, Nat.le_refl _, ?_⟩
    rw [show isSg [c] = true from decide_eq_true (hs c (Array.mem_toList_iff.mpr (Array.mem_of_getElem? hc)))]
    refine ⟨_, hG, ?_, ?_, same_mut sG hD⟩
    · rw [List.length_map, List.length_replicate]
      exact Nat.lt_trans hi (Nat.lt_of_le_of_lt hl (by rw [sizeLine_eq]; decide))
    · rw [upd_same, List.replicate_succ', List.map_append]
      rfl
  rintro G ⟨hG, sG⟩
  walk_at "rd"
  refine r_all (ql hG) ?_
  rw [show (List.replicate z.cps.size true).all id = true by simp]
  walk_at "rd"
  refine r_dist (by exact Nat.lt_succ_self 1) ?_
  walk_at "rd"
  refine ⟨z, rfl, hl, fun H2 s2 => ?_⟩
  walk_at "rd"
  refine r_lenUS (Nat.le_trans hl (by rw [sizeLine_eq]; decide)) ?_
  walk_at "rd"
  rw [uniq_nodup hn, Array.length_toList, decide_eq_true (show ((z.cps.size : Nat) : Int) = (z.length : Nat) from rfl)]
  exact q _ (sG.trans s2)
theorem ok_are_signs (T : Txt K mg) : FnOk P w K mg base CX0 2 T.are_signs_a T.are_signs_d ["value"] (sp_are_signs T) := by
  refine T.are_signs_f.ok sc_are_signs (fun vs H Q E h => len_are_signs T vs H Q E h) (fun cdv A outer s H vs Q E hr h => ⟨t_are_signs T, PSs.nox ?_, pure_are_signs T vs H Q E h⟩)
  have hu := hu64 hr
  exact (pss_cons (ps_if (PW.pt (pw_or (pt_not (pt_val (pe_callB call_isi (by rfl) T.n_isinstance (by decide +kernel) (pa_cons (pv 0) (pa_cons (pe_bltn (v := .ty "str") (by rfl) T.n_str (by decide +kernel) rfl) pa_nil))))) (pw_or1 (pt_not (pt_val (pe_callB (cr_all rfl) (by rfl) T.n_all (by decide +kernel) (pa_cons (pe_lc (own := [("character", 1)]) (g := (gName 1)) (tt := tYes) rfl sc_are_signs.nd (pi_seqU (pv 0)) (blkOk_by (own := [("character", 1)]) (N := ["value", "character"]) (sc := defScope s_are_signs) (by decide +kernel)) (fun _ _ _ _ _ => (pg_name (i := 1) sc_are_signs.nd rfl (.inl rfl))) (fun _ _ _ _ _ => pts_nil) (fun _ _ _ _ _ => (pe_call (ok_is_sign T) (hr.mono (by decide)) (by rfl) T.is_sign_g T.is_sign_f.kp T.is_sign_b .nil pass0 (pa_cons (pv 1) pa_nil)))) pa_nil))))))) (pss_one (ps_ret pe_bl)) pss_nil)
      (pss_one (ps_ret (pe_cmpR (op_eqU hu) (pe_distinct (fun σ H P P' f ⟨v, e, q⟩ => ⟨v, e, f _ _ q⟩) (pe_callB call_lenT (by rfl) T.n_len (by decide +kernel) (pa_cons (pe_scT (own := [("character", 1)]) (g := gName 1) (tt := tYes) rfl sc_are_signs.nd (pi_seqU (pv 0)) (blkOk_by (own := [("character", 1)]) (N := ["value", "character"]) (sc := defScope s_are_signs) (by decide +kernel)) (fun _ _ _ _ _ => (pg_name (i := 1) sc_are_signs.nd rfl (.inl rfl))) (fun _ _ _ _ _ => pts_nil) (fun _ _ _ _ _ => (pv 1))) pa_nil))) (pe_callB c_lenU (by rfl) T.n_len (by decide +kernel) (pa_cons (pv 0) pa_nil)) (nomark _)))))


/-! ### characters -/
/-- the character of a byte -/
def chr (n : Nat) : List Nat := if n = 10 then [10] else if n < 32 ∨ 126 < n ∨ n = 37 then [] else [n]
theorem prn_at {n : Nat} (h1 : 32 ≤ n) (h2 : n ≤ 126) (h3 : n ≠ 37) : prn[n - 32 - if 37 < n then 1 else 0]? = some n := by
  have h : ∀ m : Nat, m < 127 → 32 ≤ m → m ≠ 37 → prn[m - 32 - if 37 < m then 1 else 0]? = some m := by decide +kernel
  exact h n (by omega) h1 h3
def sp_character_of (T : Txt K mg) : Sp := fun vs H Q _ => ∃ n : Nat, vs = [.int n] ∧ n < 256 ∧ Q (.str (tx (chr n))) H
theorem len_character_of (T : Txt K mg) (vs : List V) (H : Hp) (Q : VK) (E : XK) (h : sp_character_of T vs H Q E) : vs.length = 1 := by
  obtain ⟨l, rfl, _⟩ := h
  rfl
def t_character_of (T : Txt K mg) : TS := (tSeq (tIfS (tTest (tOp (rEqU K) (tVar 0) (tC (.int 10)))) (tRet (tC (.str (Str.ofString "\n")))) tNext)
    (tSeq (tIfS (tOr (tNot (tTest (tChain rLeI rLeI (tC (.int 32)) (tVar 0) (tC (.int 126))))) (tTest (tOp (rEqU K) (tVar 0) (tC (.int 37))))) (tRet (tC (.str (Str.ofString "")))) tNext)
    (tRet (tOp (rIx K) (tC (.str (Str.ofString " !\"#$&'()*+,-./0123456789:;<=>?@ABCDEFGHIJKLMNOPQRSTUVWXYZ[\\]^_`abcdefghijklmnopqrstuvwxyz{|}~"))) (tOp rSubI (tOp rSubI (tVar 0) (tC (.int 32))) (tCB rInt1 (tCons (tOp rGtI (tVar 0) (tC (.int 37))) tNil)))))))

theorem pure_character_of (T : Txt K mg) (vs : List V) (H : Hp) (Q : VK) (E : XK) (h : sp_character_of T vs H Q E) : t_character_of T { nx := fun _ H' => Q .non H', rt := Q } (start ["byte"] vs) H := by
  obtain ⟨n, rfl, hn, q⟩ := h
  unfold t_character_of
  unfold chr at q
  walk_at "rd"
  refine r_iteD (fun h => ?_) (fun h => ?_)
  · walk_at "rd"
    rw [if_pos (by omega)] at q
    exact q
  rw [if_neg (by omega)] at q
  have fin0 : (n < 32 ∨ 126 < n ∨ n = 37) → Q (.str (Str.ofString "")) H := fun z => by
    rw [if_pos z] at q
    exact q
  walk_at "rd"
  refine r_iteD (fun h1 => ?_) (fun h1 => ?_)
  · walk_at "rd"
    refine r_iteND (fun h2 => ?_) (fun h2 => ?_)
    · walk_at "rd"
      exact fin0 (by omega)
    · walk_at "rd"
      refine r_iteD (fun h3 => ?_) (fun h3 => ?_)
      · walk_at "rd"
        exact fin0 (by omega)
      · rw [if_neg (by omega)] at q
        walk_at "rd"
        refine r_int1B ?_
        walk_at "rd"
        refine r_ixS (c := n) ?_ ?_ q
        · decide +kernel
        rw [prn_eq]
        have e : ((n : Int) - 32 - if decide (37 < (n : Int)) = true then 1 else 0) = ((n - 32 - if 37 < n then 1 else 0 : Nat) : Int) := by
          by_cases g : 37 < n
          · rw [if_pos (by simp; omega), if_pos g]
            omega
          · rw [if_neg (by simp; omega), if_neg g]
            omega
        rw [e]
        exact atI_nat (prn_at (by omega) (by omega) (by omega))
  · walk_at "rd"
    exact fin0 (by omega)
theorem ok_character_of (T : Txt K mg) : FnOk P w K mg base CX0 1 T.character_of_a T.character_of_d ["byte"] (sp_character_of T) := by
  refine T.character_of_f.ok sc_character_of (fun vs H Q E h => len_character_of T vs H Q E h) (fun cdv A outer s H vs Q E hr h => ⟨t_character_of T, PSs.nox ?_, pure_character_of T vs H Q E h⟩)
  have hu := hu64 hr
  exact (pss_cons (ps_if (pt_cmpR (op_eqU hu) (pv 0) (pe_glob (by rfl) T.k_LINE_FEED_g T.k_LINE_FEED_r) (nomark _)) (pss_one (ps_ret pe_str)) pss_nil)
      (pss_cons (ps_if (PW.pt (pw_or (pt_not (pt_chain op_le op_le (pe_glob (by rfl) T.k_SPACE_g T.k_SPACE_r) (pv 0) pe_int)) (pw_or1 (pt_cmpR (op_eqU hu) (pv 0) (pe_glob (by rfl) T.k_GAP_g T.k_GAP_r) (nomark _))))) (pss_one (ps_ret pe_str)) pss_nil)
      (pss_one (ps_ret (pe_ix ix_seq (pe_glob (by rfl) T.k_PRINTED_g T.k_PRINTED_r) (pe_op op_sub (pe_op op_sub (pv 0) (pe_glob (by rfl) T.k_SPACE_g T.k_SPACE_r)) (pe_callTy call_int1 (by rfl) T.n_int (by decide +kernel) (pa_cons (pe_cmpR op_gt (pv 0) (pe_glob (by rfl) T.k_GAP_g T.k_GAP_r) (nomark _)) pa_nil))) (fun _ _ => rfl))))))

/-! ### characters of texts -/
/-- the characters that a text may have -/
def Ch (c : Nat) : Prop := c = 10 ∨ (32 ≤ c ∧ c ≤ 126 ∧ c ≠ 37)
instance (c : Nat) : Decidable (Ch c) := inferInstanceAs (Decidable (c = 10 ∨ (32 ≤ c ∧ c ≤ 126 ∧ c ≠ 37)))
def chars : List Nat := 10 :: prn
theorem chars_eq : (Str.ofString "\n !\"#$&'()*+,-./0123456789:;<=>?@ABCDEFGHIJKLMNOPQRSTUVWXYZ[\\]^_`abcdefghijklmnopqrstuvwxyz{|}~").cps.toList = chars := by decide +kernel
theorem ch_mem {c : Nat} : Ch c ↔ c ∈ chars := by
  unfold Ch chars prn
  rw [List.mem_cons, List.mem_append, List.mem_range'_1, List.mem_range'_1]
  omega
def sp_are_characters (T : Txt K mg) : Sp := fun vs H Q _ => ∃ z : Str, vs = [.str z] ∧ z.length ≤ 1000 ∧ (∀ c ∈ z.cps.toList, Ch c) ∧ z.cps.toList.Nodup ∧ ∀ H', Same H H' → Q (.bl true) H'
theorem len_are_characters (T : Txt K mg) (vs : List V) (H : Hp) (Q : VK) (E : XK) (h : sp_are_characters T vs H Q E) : vs.length = 1 := by
  obtain ⟨_, rfl, _⟩ := h
  rfl
def t_are_characters (T : Txt K mg) : TS := (tSeq (tIfS (tOr (tNot (tB (tCB (rIsi K) (tCons (tVar 0) (tCons (tC (.ty "str")) tNil))))) (tNot (tB (tCB (rAll K) (tCons (tLc (iSeqU K (tVar 0)) (gName 1) tYes (tOp (rInU K) (tVar 1) (tC (.str (Str.ofString "\n !\"#$&'()*+,-./0123456789:;<=>?@ABCDEFGHIJKLMNOPQRSTUVWXYZ[\\]^_`abcdefghijklmnopqrstuvwxyz{|}~")))) [1]) tNil))))) (tRet (tC (.bl false))) tNext)
    (tRet (tOp (rEqU K) (tDist 1 (tVar 0)) (tCB (rLenU K) (tCons (tVar 0) tNil)))))

theorem pure_are_characters (T : Txt K mg) (vs : List V) (H : Hp) (Q : VK) (E : XK) (h : sp_are_characters T vs H Q E) : t_are_characters T { nx := fun _ H' => Q .non H', rt := Q } (start ["value", "character"] vs) H := by
  obtain ⟨z, rfl, hl, hs, hn, q⟩ := h
  unfold t_are_characters
  walk_at "rd"
  refine r_isiS ?_
  walk_at "rd"
  refine r_iseqS ?_
  walk_at "rd"
  refine ⟨z, rfl, fun D hD => ?_⟩
  refine c_it walk_str (fun i G => G D = some (.lst ((List.replicate i true).map V.bl)) ∧ Same H G) ⟨upd_same, same_new hD⟩ (fun _ _ _ _ => trivial) ?_ ?_
  · rintro i x G G' hi ⟨hG, sG⟩ ⟨rfl, c, hc, rfl⟩
    walk_at "rd"
    refine ⟨rfl, ?_⟩
    walk_at "rd"
    refine r_inS ⟨c, _, rfl, rfl, ?_⟩
    rw [chars_eq, decide_eq_true (ch_mem.mp (hs c (Array.mem_toList_iff.mpr (Array.mem_of_getElem? hc))))]
    refine ⟨_, hG, ?_, ?_, same_mut sG hD⟩
    · rw [List.length_map, List.length_replicate]
      exact Nat.lt_trans hi (Nat.lt_of_le_of_lt hl (by rw [sizeLine_eq]; decide))
    · rw [upd_same, List.replicate_succ', List.map_append]
      rfl
  rintro G ⟨hG, sG⟩
  walk_at "rd"
  refine r_all (ql hG) ?_
  rw [show (List.replicate z.cps.size true).all id = true by simp]
  walk_at "rd"
  refine r_dist (by exact Nat.lt_succ_self 1) ?_
  walk_at "rd"
  refine ⟨z, rfl, hl, fun H2 s2 => ?_⟩
  walk_at "rd"
  refine r_lenUS (Nat.le_trans hl (by rw [sizeLine_eq]; decide)) ?_
  walk_at "rd"
  rw [uniq_nodup hn, Array.length_toList, decide_eq_true (show ((z.cps.size : Nat) : Int) = (z.length : Nat) from rfl)]
  exact q _ (sG.trans s2)
theorem ok_are_characters (T : Txt K mg) : FnOk P w K mg base CX0 1 T.are_characters_a T.are_characters_d ["value"] (sp_are_characters T) := by
  refine T.are_characters_f.ok sc_are_characters (fun vs H Q E h => len_are_characters T vs H Q E h) (fun cdv A outer s H vs Q E hr h => ⟨t_are_characters T, PSs.nox ?_, pure_are_characters T vs H Q E h⟩)
  have hu := hu64 hr
  exact (pss_cons (ps_if (PW.pt (pw_or (pt_not (pt_val (pe_callB call_isi (by rfl) T.n_isinstance (by decide +kernel) (pa_cons (pv 0) (pa_cons (pe_bltn (v := .ty "str") (by rfl) T.n_str (by decide +kernel) rfl) pa_nil))))) (pw_or1 (pt_not (pt_val (pe_callB (cr_all rfl) (by rfl) T.n_all (by decide +kernel) (pa_cons (pe_lc (own := [("character", 1)]) (g := (gName 1)) (tt := tYes) rfl sc_are_characters.nd (pi_seqU (pv 0)) (blkOk_by (own := [("character", 1)]) (N := ["value", "character"]) (sc := defScope s_are_characters) (by decide +kernel)) (fun _ _ _ _ _ => (pg_name (i := 1) sc_are_characters.nd rfl (.inl rfl))) (fun _ _ _ _ _ => pts_nil) (fun _ _ _ _ _ => (pe_cmpR op_inU (pv 1) (pe_glob (by rfl) T.k_CHARACTERS_g T.k_CHARACTERS_r) (by rfl)))) pa_nil))))))) (pss_one (ps_ret pe_bl)) pss_nil)
      (pss_one (ps_ret (pe_cmpR (op_eqU hu) (pe_distinct (fun σ H P P' f ⟨v, e, q⟩ => ⟨v, e, f _ _ q⟩) (pe_callB call_lenT (by rfl) T.n_len (by decide +kernel) (pa_cons (pe_scT (own := [("character", 1)]) (g := gName 1) (tt := tYes) rfl sc_are_characters.nd (pi_seqU (pv 0)) (blkOk_by (own := [("character", 1)]) (N := ["value", "character"]) (sc := defScope s_are_characters) (by decide +kernel)) (fun _ _ _ _ _ => (pg_name (i := 1) sc_are_characters.nd rfl (.inl rfl))) (fun _ _ _ _ _ => pts_nil) (fun _ _ _ _ _ => (pv 1))) pa_nil))) (pe_callB c_lenU (by rfl) T.n_len (by decide +kernel) (pa_cons (pv 0) pa_nil)) (nomark _)))))


/-! ### the other case -/
theorem occ_at {z : Str} {ch j : Nat} (hnd : z.cps.toList.Nodup) (hj : z.cps.toList[j]? = some ch) : ∃ rest, Builtin.Str.occurrences z ⟨#[ch]⟩ 0 z.length 1 = j :: rest := by
  rcases PySem.StrLaws.occ_head z ⟨#[ch]⟩ 1 (Nat.le_refl _) with ⟨_, hn⟩ | ⟨i, r, e, ha, _⟩
  · exact absurd ((PySem.StrLaws.subAt_one z ch j).mpr hj) (hn j)
  · have hi := (PySem.StrLaws.subAt_one z ch i).mp ha
    obtain ⟨l1, g1⟩ := List.getElem?_eq_some_iff.mp hj
    obtain ⟨l2, g2⟩ := List.getElem?_eq_some_iff.mp hi
    have : i = j := (List.getElem_inj hnd).mp (g2.trans g1.symm)
    exact ⟨r, by rw [e, this]⟩
def caps : List Nat := List.range' 65 26
def smls : List Nat := List.range' 97 26
theorem caps_eq : (Str.ofString "ABCDEFGHIJKLMNOPQRSTUVWXYZ").cps.toList = caps := by decide +kernel
theorem smls_eq : (Str.ofString "abcdefghijklmnopqrstuvwxyz").cps.toList = smls := by decide +kernel
theorem caps_at {c : Nat} (h : 65 ≤ c ∧ c ≤ 90) : caps[c - 65]? = some c := by
  unfold caps
  rw [List.getElem?_range' (by omega)]
  congr 1
  omega
theorem smls_at {c : Nat} (h : 97 ≤ c ∧ c ≤ 122) : smls[c - 97]? = some c := by
  unfold smls
  rw [List.getElem?_range' (by omega)]
  congr 1
  omega
/-- the letter in the other case -/
def oc (c : Nat) : List Nat := if 65 ≤ c ∧ c ≤ 90 then [c + 32] else if 97 ≤ c ∧ c ≤ 122 then [c - 32] else []
theorem oc_len (c : Nat) : (oc c).length ≤ 1 := by
  unfold oc
  split
  · exact Nat.le_refl _
  · split
    · exact Nat.le_refl _
    · exact Nat.zero_le _
theorem mem_caps {c : Nat} : c ∈ caps ↔ (65 ≤ c ∧ c ≤ 90) := by
  unfold caps
  rw [List.mem_range'_1]
  omega
theorem mem_smls {c : Nat} : c ∈ smls ↔ (97 ≤ c ∧ c ≤ 122) := by
  unfold smls
  rw [List.mem_range'_1]
  omega
theorem r_sidx {a b : Str} {i : Nat} {rest : List Nat} {H : Hp} {Q : VK} (h1 : Builtin.Str.occurrences a b 0 a.length 1 = i :: rest) (h : Q (.int (i : Nat)) H) : rSIdx (.str a) [.str b] H Q := ⟨a, b, i, rest, rfl, rfl, h1, h⟩
def sp_other_case (T : Txt K mg) : Sp := fun vs H Q _ => ∃ c : Nat, vs = [.str (tx [c])] ∧ Q (.str (tx (oc c))) H
theorem len_other_case (T : Txt K mg) (vs : List V) (H : Hp) (Q : VK) (E : XK) (h : sp_other_case T vs H Q E) : vs.length = 1 := by
  obtain ⟨_, rfl, _⟩ := h
  rfl
def t_other_case (T : Txt K mg) : TS := (tSeq (tIfS (tAnd (tTest (tOp (rNeU K) (tVar 0) (tC (.str (Str.ofString ""))))) (tTest (tOp (rInU K) (tVar 0) (tC (.str (Str.ofString "ABCDEFGHIJKLMNOPQRSTUVWXYZ")))))) (tRet (tOp (rIx K) (tC (.str (Str.ofString "abcdefghijklmnopqrstuvwxyz"))) (tBM K "str" rSIdx (tC (.str (Str.ofString "ABCDEFGHIJKLMNOPQRSTUVWXYZ"))) (tCons (tVar 0) tNil)))) tNext)
    (tRet (tIf (tTest (tOp (rInU K) (tVar 0) (tC (.str (Str.ofString "abcdefghijklmnopqrstuvwxyz"))))) (tOp (rIx K) (tC (.str (Str.ofString "ABCDEFGHIJKLMNOPQRSTUVWXYZ"))) (tBM K "str" rSIdx (tC (.str (Str.ofString "abcdefghijklmnopqrstuvwxyz"))) (tCons (tVar 0) tNil))) (tC (.str (Str.ofString ""))))))

theorem pure_other_case (T : Txt K mg) (vs : List V) (H : Hp) (Q : VK) (E : XK) (h : sp_other_case T vs H Q E) : t_other_case T { nx := fun _ H' => Q .non H', rt := Q } (start ["letter"] vs) H := by
  obtain ⟨c, rfl, q⟩ := h
  unfold t_other_case
  walk_at "rd"
  rw [show decide (tx [c] = Str.ofString "") = false by rw [e_tx, tx_dec]; rfl]
  walk_at "rd"
  refine r_inS ⟨c, _, rfl, rfl, ?_⟩
  rw [caps_eq]
  by_cases h1 : c ∈ caps
  · rw [decide_eq_true h1]
    have h1 := mem_caps.mp h1
    walk_at "rd"
    refine ⟨rfl, ?_⟩
    walk_at "rd"
    obtain ⟨rest, ho⟩ := occ_at (z := Str.ofString "ABCDEFGHIJKLMNOPQRSTUVWXYZ") (ch := c) (j := c - 65) (by rw [caps_eq]; exact List.nodup_range') (by rw [caps_eq]; exact caps_at h1)
    refine r_sidx ho ?_
    refine r_ixS (c := c + 32) (by decide) (atI_nat ?_) ?_
    · rw [smls_eq]
      have := smls_at (c := c + 32) (by omega)
      rw [show c + 32 - 97 = c - 65 by omega] at this
      exact this
    · unfold oc at q
      rw [if_pos h1] at q
      exact q
  · rw [decide_eq_false h1]
    have h1 : ¬ (65 ≤ c ∧ c ≤ 90) := fun z => h1 (mem_caps.mpr z)
    walk_at "rd"
    refine r_inS ⟨c, _, rfl, rfl, ?_⟩
    rw [smls_eq]
    unfold oc at q
    rw [if_neg h1] at q
    by_cases h2 : c ∈ smls
    · rw [decide_eq_true h2]
      have h2 := mem_smls.mp h2
      walk_at "rd"
      refine ⟨rfl, ?_⟩
      walk_at "rd"
      obtain ⟨rest, ho⟩ := occ_at (z := Str.ofString "abcdefghijklmnopqrstuvwxyz") (ch := c) (j := c - 97) (by rw [smls_eq]; exact List.nodup_range') (by rw [smls_eq]; exact smls_at h2)
      refine r_sidx ho ?_
      refine r_ixS (c := c - 32) (by decide) (atI_nat ?_) ?_
      · rw [caps_eq]
        have := caps_at (c := c - 32) (by omega)
        rw [show c - 32 - 65 = c - 97 by omega] at this
        exact this
      · rw [if_pos h2] at q
        exact q
    · rw [decide_eq_false h2]
      have h2 : ¬ (97 ≤ c ∧ c ≤ 122) := fun z => h2 (mem_smls.mpr z)
      walk_at "rd"
      rw [if_neg h2] at q
      exact q
theorem ok_other_case (T : Txt K mg) : FnOk P w K mg base CX0 1 T.other_case_a T.other_case_d ["letter"] (sp_other_case T) := by
  refine T.other_case_f.ok sc_other_case (fun vs H Q E h => len_other_case T vs H Q E h) (fun cdv A outer s H vs Q E hr h => ⟨t_other_case T, PSs.nox ?_, pure_other_case T vs H Q E h⟩)
  have hu := hu64 hr
  exact (pss_cons (ps_if (PW.pt (pw_and (pt_cmpR (op_neU hu) (pv 0) pe_str (nomark _)) (pw_and1 (pt_cmpR op_inU (pv 0) (pe_glob (by rfl) T.k_CAPITALS_g T.k_CAPITALS_r) (by rfl))))) (pss_one (ps_ret (pe_ix ix_seq (pe_glob (by rfl) T.k_SMALLS_g T.k_SMALLS_r) (pe_bm PySem.F.plainAttrs_str PySem.F.slot_str_index PySem.F.type_str_index mt_sindex (pe_glob (by rfl) T.k_CAPITALS_g T.k_CAPITALS_r) (pa_cons (pv 0) pa_nil)) (fun _ _ => rfl)))) pss_nil)
      (pss_one (ps_ret (pe_ifExp (pt_cmpR op_inU (pv 0) (pe_glob (by rfl) T.k_SMALLS_g T.k_SMALLS_r) (by rfl)) (pe_ix ix_seq (pe_glob (by rfl) T.k_CAPITALS_g T.k_CAPITALS_r) (pe_bm PySem.F.plainAttrs_str PySem.F.slot_str_index PySem.F.type_str_index mt_sindex (pe_glob (by rfl) T.k_SMALLS_g T.k_SMALLS_r) (pa_cons (pv 0) pa_nil)) (fun _ _ => rfl)) pe_str))))


end
section
variable {w : World} {K : PySem.W.Frag} {mg : Str → Option Value} {base : Heap}
/-! ### a quoted code -/
structure QD where
  wd : Nat
  bin : Bool
  also : List Nat
structure QD.Ok (q : QD) : Prop where
  w0 : q.wd = 0 ∨ 4 ≤ q.wd
  w76 : q.wd ≤ 76
  sg : ∀ c ∈ q.also, Sg c
  nd : q.also.Nodup
  al : q.also.length ≤ 1000
/-- an escape -/
def hx (n : Nat) : List Nat := [61, hexSign (n / 16), hexSign (n % 16)]
def QD.isNl (q : QD) (n : Nat) : Bool := decide (n = 10) && !q.bin
def QD.plain (q : QD) (n : Nat) : Prop := n = 32 ∨ (Sg n ∧ n ≠ 61 ∧ n ∉ q.also)
instance (q : QD) (n : Nat) : Decidable (q.plain n) := inferInstanceAs (Decidable (n = 32 ∨ (Sg n ∧ n ≠ 61 ∧ n ∉ q.also)))
def QD.item (q : QD) (n : Nat) : List Nat := if q.isNl n = true then [10] else if q.plain n then [n] else hx n
def Ways (T : Txt K mg) (H : Hp) (a : Addr) (q : QD) (rest : List (Str × V)) : Prop := ∃ dx wp, H a = some (.ins T.C_Quoted dx (("ways", .ref wp) :: rest)) ∧ H wp = some (.tup [.int q.wd, .bl q.bin, .str (tx q.also)])
def WaysAt (T : Txt K mg) (H : Hp) (a : Addr) (q : QD) : Prop := q.Ok ∧ ∃ rest : List (Str × V), (rest = [] ∨ ∃ v : V, rest = [(("known_items" : Str), v)]) ∧ Ways T H a q rest
def QuotAt (T : Txt K mg) (H : Hp) (a : Addr) (q : QD) : Prop := q.Ok ∧ ∃ kp, Ways T H a q [("known_items", .ref kp)] ∧ H kp = some (.lst ((List.range 256).map fun n => V.str (tx (q.item n))))
theorem Ways.same {T : Txt K mg} {H H' : Hp} {a : Addr} {q : QD} {r : List (Str × V)} (h : Ways T H a q r) (s : Same H H') : Ways T H' a q r := by
  obtain ⟨dx, wp, h1, h2⟩ := h
  exact ⟨dx, wp, s _ _ h1, s _ _ h2⟩
theorem WaysAt.same {T : Txt K mg} {H H' : Hp} {a : Addr} {q : QD} (h : WaysAt T H a q) (s : Same H H') : WaysAt T H' a q := by
  obtain ⟨o, r, hr, h1⟩ := h
  exact ⟨o, r, hr, h1.same s⟩
theorem QuotAt.same {T : Txt K mg} {H H' : Hp} {a : Addr} {q : QD} (h : QuotAt T H a q) (s : Same H H') : QuotAt T H' a q := by
  obtain ⟨o, kp, h1, h2⟩ := h
  exact ⟨o, kp, h1.same s, s _ _ h2⟩
theorem QuotAt.ways {T : Txt K mg} {H : Hp} {a : Addr} {q : QD} (h : QuotAt T H a q) : WaysAt T H a q := by
  obtain ⟨o, kp, h1, h2⟩ := h
  exact ⟨o, _, .inr ⟨_, rfl⟩, h1⟩
def spGQ (T : Txt K mg) (g : QD → V) : Sp := fun vs H Q _ => ∃ a c, vs = [.ref a] ∧ WaysAt T H a c ∧ Q (g c) H
theorem len_spGQ (T : Txt K mg) (g : QD → V) (vs : List V) (H : Hp) (Q : VK) (E : XK) (h : spGQ T g vs H Q E) : vs.length = 1 := by
  obtain ⟨_, _, rfl, _⟩ := h
  rfl
abbrev sp_Quoted_width (T : Txt K mg) : Sp := spGQ T fun c => .int c.wd
abbrev sp_Quoted_binary (T : Txt K mg) : Sp := spGQ T fun c => .bl c.bin
abbrev sp_Quoted_also (T : Txt K mg) : Sp := spGQ T fun c => .str (tx c.also)
theorem len_Quoted_width (T : Txt K mg) (vs : List V) (H : Hp) (Q : VK) (E : XK) (h : sp_Quoted_width T vs H Q E) : vs.length = 1 := len_spGQ T _ vs H Q E h
theorem len_Quoted_binary (T : Txt K mg) (vs : List V) (H : Hp) (Q : VK) (E : XK) (h : sp_Quoted_binary T vs H Q E) : vs.length = 1 := len_spGQ T _ vs H Q E h
theorem len_Quoted_also (T : Txt K mg) (vs : List V) (H : Hp) (Q : VK) (E : XK) (h : sp_Quoted_also T vs H Q E) : vs.length = 1 := len_spGQ T _ vs H Q E h
theorem r_ways {T : Txt K mg} {σ : S} {H : Hp} {Q : VK} {i : Nat} {a : Addr} {c : QD} (h0 : σ[i]? = some (some (.ref a))) (hc : WaysAt T H a c) (k : ∀ tp, H tp = some (.tup [.int c.wd, .bl c.bin, .str (tx c.also)]) → Q (.ref tp) H) : tFld K (tVar i) "ways" σ H Q := by
  refine ⟨_, h0, ?_⟩
  obtain ⟨o, rest, hr, dx, tp, h1, h2⟩ := hc
  exact ⟨a, _, dx, _, .ref tp, rfl, h1, T.C_Quoted_c, T.C_Quoted_n_ways, rfl, k tp h2⟩
theorem r_known {T : Txt K mg} {σ : S} {H : Hp} {Q : VK} {i : Nat} {a : Addr} {c : QD} (h0 : σ[i]? = some (some (.ref a))) (hc : QuotAt T H a c) (k : ∀ kp, H kp = some (.lst ((List.range 256).map fun n => V.str (tx (c.item n)))) → Q (.ref kp) H) : tFld K (tVar i) "known_items" σ H Q := by
  refine ⟨_, h0, ?_⟩
  obtain ⟨o, kp, ⟨dx, tp, h1, h2⟩, h3⟩ := hc
  exact ⟨a, _, dx, _, .ref kp, rfl, h1, T.C_Quoted_c, T.C_Quoted_n_known_items, rfl, k kp h3⟩
def t_Quoted_width (T : Txt K mg) : TS := (tRet (tOp (rIx K) (tFld K (tVar 0) "ways") (tC (.int 0))))

theorem pure_Quoted_width (T : Txt K mg) (vs : List V) (H : Hp) (Q : VK) (E : XK) (h : sp_Quoted_width T vs H Q E) : t_Quoted_width T { nx := fun _ H' => Q .non H', rt := Q } (start ["self"] vs) H := by
  obtain ⟨a, c, rfl, hc, q⟩ := h
  unfold t_Quoted_width
  walk_at "rd"
  refine r_ways rfl hc fun tp ht => ?_
  walk_at "rd"
  exact q
theorem ok_Quoted_width (T : Txt K mg) : FnOk P w K mg base CX0 1 T.Quoted_width_a T.Quoted_width_d ["self"] (sp_Quoted_width T) := by
  refine T.Quoted_width_f.ok sc_Quoted_width (fun vs H Q E h => len_Quoted_width T vs H Q E h) (fun cdv A outer s H vs Q E hr h => ⟨t_Quoted_width T, PSs.nox ?_, pure_Quoted_width T vs H Q E h⟩)
  have hu := hu64 hr
  exact (pss_one (ps_ret (pe_ix ix_seq (pe_fld (pv 0) rfl) pe_int (fun _ _ => rfl))))

def t_Quoted_binary (T : Txt K mg) : TS := (tRet (tOp (rIx K) (tFld K (tVar 0) "ways") (tC (.int 1))))

theorem pure_Quoted_binary (T : Txt K mg) (vs : List V) (H : Hp) (Q : VK) (E : XK) (h : sp_Quoted_binary T vs H Q E) : t_Quoted_binary T { nx := fun _ H' => Q .non H', rt := Q } (start ["self"] vs) H := by
  obtain ⟨a, c, rfl, hc, q⟩ := h
  unfold t_Quoted_binary
  walk_at "rd"
  refine r_ways rfl hc fun tp ht => ?_
  walk_at "rd"
  exact q
theorem ok_Quoted_binary (T : Txt K mg) : FnOk P w K mg base CX0 1 T.Quoted_binary_a T.Quoted_binary_d ["self"] (sp_Quoted_binary T) := by
  refine T.Quoted_binary_f.ok sc_Quoted_binary (fun vs H Q E h => len_Quoted_binary T vs H Q E h) (fun cdv A outer s H vs Q E hr h => ⟨t_Quoted_binary T, PSs.nox ?_, pure_Quoted_binary T vs H Q E h⟩)
  have hu := hu64 hr
  exact (pss_one (ps_ret (pe_ix ix_seq (pe_fld (pv 0) rfl) pe_int (fun _ _ => rfl))))

def t_Quoted_also (T : Txt K mg) : TS := (tRet (tOp (rIx K) (tFld K (tVar 0) "ways") (tC (.int 2))))

theorem pure_Quoted_also (T : Txt K mg) (vs : List V) (H : Hp) (Q : VK) (E : XK) (h : sp_Quoted_also T vs H Q E) : t_Quoted_also T { nx := fun _ H' => Q .non H', rt := Q } (start ["self"] vs) H := by
  obtain ⟨a, c, rfl, hc, q⟩ := h
  unfold t_Quoted_also
  walk_at "rd"
  refine r_ways rfl hc fun tp ht => ?_
  walk_at "rd"
  exact q
theorem ok_Quoted_also (T : Txt K mg) : FnOk P w K mg base CX0 1 T.Quoted_also_a T.Quoted_also_d ["self"] (sp_Quoted_also T) := by
  refine T.Quoted_also_f.ok sc_Quoted_also (fun vs H Q E h => len_Quoted_also T vs H Q E h) (fun cdv A outer s H vs Q E hr h => ⟨t_Quoted_also T, PSs.nox ?_, pure_Quoted_also T vs H Q E h⟩)
  have hu := hu64 hr
  exact (pss_one (ps_ret (pe_ix ix_seq (pe_fld (pv 0) rfl) pe_int (fun _ _ => rfl))))

/-! ### steps over a code -/
theorem r_getQ {T : Txt K mg} {g : QD → V} {σ : S} {H : Hp} {Q : VK} {i : Nat} {a : Addr} {c : QD} (h0 : σ[i]? = some (some (.ref a))) (hc : WaysAt T H a c) (h : Q (g c) H) : tProp T.C_Quoted (spGQ T g) [] E0 (tVar i) σ H Q := by
  refine ⟨_, h0, ?_⟩
  have hc' := hc
  obtain ⟨o, rest, hr, dx, tp, h1, h2⟩ := hc'
  exact ⟨a, dx, _, rfl, h1, a, c, rfl, hc, h⟩
theorem r_methQ {T : Txt K mg} {m : Str} {sp : Sp} {σ : S} {H : Hp} {Q : VK} {E : XK} {i : Nat} {a : Addr} {c : QD} {tr : TA} (h0 : σ[i]? = some (some (.ref a))) (hc : WaysAt T H a c)
    (hm : (∀ v1 : V, ([("ways", v1)] : List (Str × V)).lookup m = none) ∧ ∀ v1 v2 : V, ([("ways", v1), ("known_items", v2)] : List (Str × V)).lookup m = none) (h : tr σ H fun vs H2 => sp (.ref a :: (vs ++ [])) H2 Q E) : tMeth T.C_Quoted m sp [] E (tVar i) tr σ H Q := by
  refine ⟨_, h0, ?_⟩
  obtain ⟨o, rest, hr, dx, tp, h1, h2⟩ := hc
  refine ⟨a, dx, _, rfl, h1, ?_, h⟩
  rcases hr with rfl | ⟨v, rfl⟩
  · exact hm.1 _
  · exact hm.2 _ _
theorem r_js {ts : List TE} {t : TE} {acc : Str} {σ : S} {H : Hp} {Q : Str → Hp → Prop} (h : t σ H fun x H1 => ∃ y : Str, x = .str y ∧ (acc ++ y).length ≤ sizeLine ∧ tJs ts (acc ++ y) σ H1 Q) : tJs (t :: ts) acc σ H Q := h
theorem r_ninS {a b : Str} {H : Hp} {Q : VK} (h : rNotInS (.str a) (.str b) H Q) : rNinU K (.str a) (.str b) H Q := .inl h

end
section
variable {w : World} {K : PySem.W.Frag} {mg : Str → Option Value} {base : Heap}
local macro_rules | `(tactic| walk_at "hcq") => `(tactic| first
  | assumption
  | ((refine WaysAt.same (H := ?xH) ?xb ?xa); (case xa => assumption); (case xb => walk_at "hcq")))
local macro_rules | `(tactic| walk_at "rd0") => `(tactic| first
  | ((with_reducible refine r_getQ (a := ?xa) (c := ?xc) ?x1 ?x2 ?_); (case x1 => rfl); (case x2 => walk_at "hcq"))
  | ((with_reducible refine r_methQ (a := ?xa) (c := ?xc) ?x1 ?x2 ?x3 ?_); (case x1 => rfl); (case x2 => walk_at "hcq"); (case x3 => exact ⟨fun _ => rfl, fun _ _ => rfl⟩))
  | (with_reducible refine r_fmtB ?_)
  | (with_reducible refine r_dget ?_)
  | (with_reducible refine r_m0 ?_)
  | (with_reducible refine r_makeK ?_)
  | (with_reducible refine r_cval ?_)
  | (with_reducible refine r_sfld ?_)
  | (with_reducible refine r_isiI ?_)
  | (with_reducible refine r_isiIB ?_)
  | (with_reducible refine r_isiBB ?_)
  | (with_reducible refine r_isiS ?_)
  | (with_reducible refine r_int1I ?_)
  | (with_reducible refine r_int1B ?_))

/-! ### items, places -/
def sp_Quoted_is_newline (T : Txt K mg) : Sp := fun vs H Q _ => ∃ a c, ∃ n : Nat, vs = [.ref a, .int n] ∧ WaysAt T H a c ∧ Q (.bl (c.isNl n)) H
theorem len_Quoted_is_newline (T : Txt K mg) (vs : List V) (H : Hp) (Q : VK) (E : XK) (h : sp_Quoted_is_newline T vs H Q E) : vs.length = 2 := by
  obtain ⟨_, _, _, rfl, _⟩ := h
  rfl
def t_Quoted_is_newline (T : Txt K mg) : TS := (tRet (tAndV (tOp (rEqU K) (tVar 1) (tC (.int 10))) (tNotV (tProp T.C_Quoted (sp_Quoted_binary T) [] E0 (tVar 0)))))

theorem pure_Quoted_is_newline (T : Txt K mg) (vs : List V) (H : Hp) (Q : VK) (E : XK) (h : sp_Quoted_is_newline T vs H Q E) : t_Quoted_is_newline T { nx := fun _ H' => Q .non H', rt := Q } (start ["self", "byte"] vs) H := by
  obtain ⟨a, c, n, rfl, hc, q⟩ := h
  unfold t_Quoted_is_newline
  unfold QD.isNl at q
  walk_at "rd"
  refine r_iteD (fun h => ?_) (fun h => ?_)
  · rw [decide_eq_true (show n = 10 by omega), Bool.true_and] at q
    walk_at "rd"
    exact q
  · rw [decide_eq_false (show ¬ n = 10 by omega), Bool.false_and] at q
    exact q
theorem ok_Quoted_is_newline (T : Txt K mg) : FnOk P w K mg base CX0 3 T.Quoted_is_newline_a T.Quoted_is_newline_d ["self", "byte"] (sp_Quoted_is_newline T) := by
  refine T.Quoted_is_newline_f.ok sc_Quoted_is_newline (fun vs H Q E h => len_Quoted_is_newline T vs H Q E h) (fun cdv A outer s H vs Q E hr h => ⟨t_Quoted_is_newline T, PSs.nox ?_, pure_Quoted_is_newline T vs H Q E h⟩)
  have hu := hu64 hr
  exact (pss_one (ps_ret (pe_and (pe_cmpR (op_eqU hu) (pv 1) (pe_glob (by rfl) T.k_LINE_FEED_g T.k_LINE_FEED_r) (nomark _)) (pe_one (pe_not (pe_prop (pv 0) T.C_Quoted_c T.Quoted_binary_p (ok_Quoted_binary T) (hr.mono (by decide)) T.Quoted_binary_b .nil pass0 rfl))))))

def sp_Quoted_item_of (T : Txt K mg) : Sp := fun vs H Q _ => ∃ a c, ∃ n : Nat, vs = [.ref a, .int n] ∧ n < 256 ∧ WaysAt T H a c ∧ Q (.str (tx (c.item n))) H
theorem len_Quoted_item_of (T : Txt K mg) (vs : List V) (H : Hp) (Q : VK) (E : XK) (h : sp_Quoted_item_of T vs H Q E) : vs.length = 2 := by
  obtain ⟨_, _, _, rfl, _⟩ := h
  rfl
theorem hex_tx (n : Nat) : tx [61] ++ hex2 n = tx (hx n) := by
  show tx [61] ++ tx [hexSign (n / 16), hexSign (n % 16)] = _
  rw [tx_app]
  rfl
def t_Quoted_item_of (T : Txt K mg) : TS := (tSeq (tIfS (tNot (tB (tCall (sp_is_byte T) [] E0 (tCons (tVar 1) tNil)))) tNever tNext)
    (tSeq (tIfS (tB (tMeth T.C_Quoted "is_newline" (sp_Quoted_is_newline T) [] E0 (tVar 0) (tCons (tVar 1) tNil))) (tRet (tC (.str (Str.ofString "\n")))) tNext)
    (tSeq (tAsg (tCall (sp_character_of T) [] E0 (tCons (tVar 1) tNil)) (gName 2))
    (tSeq (tIfS (tOr (tTest (tOp (rEqU K) (tVar 2) (tC (.str (Str.ofString " "))))) (tAnd (tB (tCall (sp_is_sign T) [] E0 (tCons (tVar 2) tNil))) (tAnd (tTest (tOp (rNeU K) (tVar 2) (tC (.str (Str.ofString "="))))) (tTest (tOp (rNinU K) (tVar 2) (tProp T.C_Quoted (sp_Quoted_also T) [] E0 (tVar 0))))))) (tRet (tVar 2)) tNext)
    (tRet (fun σ H Q => tJs [(tC (.str (Str.ofString "="))), (tFmtB hex2 (tVar 1))] Str.empty σ H fun out H1 => Q (.str out) H1))))))

theorem pure_Quoted_item_of (T : Txt K mg) (vs : List V) (H : Hp) (Q : VK) (E : XK) (h : sp_Quoted_item_of T vs H Q E) : t_Quoted_item_of T { nx := fun _ H' => Q .non H', rt := Q } (start ["self", "byte", "character"] vs) H := by
  obtain ⟨a, c, n, rfl, hn, hc, q⟩ := h
  unfold t_Quoted_item_of
  unfold QD.item at q
  walk_at "rd"
  refine ⟨_, _, rfl, .int n, ?_⟩
  rw [show isB (.int (n : Int)) = true by
    show (decide ((0 : Int) ≤ n) && decide ((n : Int) ≤ 255)) = true
    rw [decide_eq_true (show (0 : Int) ≤ (n : Int) by omega), decide_eq_true (show (n : Int) ≤ 255 by omega)]; rfl]
  walk_at "rd"
  refine ⟨a, c, n, rfl, hc, ?_⟩
  walk_at "rd"
  refine r_iteB (fun hN => ?_) (fun hN => ?_)
  · rw [if_pos hN] at q
    walk_at "rd"
    exact q
  rw [if_neg (by rw [hN]; exact Bool.false_ne_true)] at q
  walk_at "rd"
  refine ⟨n, rfl, hn, ?_⟩
  walk_at "rd"
  have esc : ∀ v2, ¬ c.plain n → tRet (fun σ H Q => tJs [(tC (.str (Str.ofString "="))), (tFmtB hex2 (tVar 1))] Str.empty σ H fun out H1 => Q (.str out) H1) { nx := fun _ H' => Q .non H', rt := Q } [some (.ref a), some (.int (n : Nat)), v2] H := by
    intro v2 hp
    rw [if_neg hp] at q
    refine r_ret ?_
    refine r_js ?_
    walk_at "rd"
    refine ⟨_, rfl, smallS (by decide), ?_⟩
    refine r_js ?_
    walk_at "rd"
    refine ⟨n, rfl, hn, _, rfl, ?_, ?_⟩
    · show (Str.empty ++ tx [61] ++ hex2 n).length ≤ sizeLine
      rw [show Str.empty = tx [] from rfl, tx_app, List.nil_append, hex_tx, tx_len]
      exact smallS (by show 3 ≤ 100000; decide)
    show Q (.str (Str.empty ++ tx [61] ++ hex2 n)) H
    rw [show Str.empty = tx [] from rfl, tx_app, List.nil_append, hex_tx]
    exact q
  rw [sp_tx, tx_dec]
  have hchr : (chr n = [n] ∧ (n = 32 ∨ Sg n)) ∨ (isSg (chr n) = false ∧ chr n ≠ [32] ∧ ¬ (n = 32 ∨ Sg n) ∧ (chr n).length ≤ 1) := by
    unfold chr Sg
    by_cases h1 : n = 10
    · rw [if_pos h1]
      exact .inr ⟨by decide, by decide, by omega, by decide⟩
    · rw [if_neg h1]
      by_cases h2 : n < 32 ∨ 126 < n ∨ n = 37
      · rw [if_pos h2]
        exact .inr ⟨by decide, by decide, by omega, by decide⟩
      · rw [if_neg h2]
        exact .inl ⟨rfl, by omega⟩
  rcases hchr with ⟨e, hs⟩ | ⟨e1, e2, e3, e4⟩
  · rw [e]
    have ok2 : c.plain n → tRet (tVar 2) { nx := fun _ H' => Q .non H', rt := Q } [some (.ref a), some (.int (n : Nat)), some (.str (tx [n]))] H := by
      intro hp
      rw [if_pos hp] at q
      walk_at "rd"
      exact q
    refine r_iteD (fun h => ?_) (fun h => ?_)
    · have h' : n = 32 := (List.cons.inj h).1
      refine r_iteT ?_
      exact ok2 (.inl h')
    · have h' : n ≠ 32 := fun z => h (by rw [z])
      have hs : Sg n := by rcases hs with z | z; exact absurd z h'; exact z
      walk_at "rd"
      refine ⟨[n], rfl, Nat.le_refl _, ?_⟩
      rw [show isSg [n] = true from decide_eq_true hs]
      walk_at "rd"
      rw [esc_tx, tx_dec]
      refine r_iteND (fun h3 => ?_) (fun h3 => ?_)
      · walk_at "rd"
        refine r_ninS ⟨n, tx c.also, rfl, rfl, ?_⟩
        rw [tx_list]
        walk_at "rd"
        refine r_iteND (fun h4 => ?_) (fun h4 => ?_)
        · exact ok2 (.inr ⟨hs, fun z => h3 (by rw [z]), h4⟩)
        · walk_at "rd"
          exact esc _ fun z => by
            rcases z with z | z
            · exact h' z
            · exact z.2.2 h4
      · walk_at "rd"
        exact esc _ fun z => by
          rcases z with z | z
          · exact h' z
          · exact z.2.1 (List.cons.inj h3).1
  · refine r_iteD (fun h => absurd h e2) (fun h => ?_)
    walk_at "rd"
    refine ⟨chr n, rfl, e4, ?_⟩
    rw [e1]
    walk_at "rd"
    exact esc _ fun z => e3 (by
      rcases z with z | z
      · exact .inl z
      · exact .inr z.1)
theorem ok_Quoted_item_of (T : Txt K mg) : FnOk P w K mg base CX0 4 T.Quoted_item_of_a T.Quoted_item_of_d ["self", "byte"] (sp_Quoted_item_of T) := by
  refine T.Quoted_item_of_f.ok sc_Quoted_item_of (fun vs H Q E h => len_Quoted_item_of T vs H Q E h) (fun cdv A outer s H vs Q E hr h => ⟨t_Quoted_item_of T, PSs.nox ?_, pure_Quoted_item_of T vs H Q E h⟩)
  have hu := hu64 hr
  exact (pss_cons (ps_if (pt_not (pt_val (pe_call (ok_is_byte T) (hr.mono (by decide)) (by rfl) T.is_byte_g T.is_byte_f.kp T.is_byte_b .nil pass0 (pa_cons (pv 1) pa_nil)))) (pss_one ps_never) pss_nil)
      (pss_cons (ps_if (pt_val (pe_meth (pv 0) T.C_Quoted_c T.Quoted_is_newline_m (ok_Quoted_is_newline T) (hr.mono (by decide)) T.Quoted_is_newline_b .nil pass0 (pa_cons (pv 1) pa_nil))) (pss_one (ps_ret (pe_glob (by rfl) T.k_NEWLINE_g T.k_NEWLINE_r))) pss_nil)
      (pss_cons (ps_set (i := 2) sc_Quoted_item_of.nd rfl (.inl rfl) (pe_call (ok_character_of T) (hr.mono (by decide)) (by rfl) T.character_of_g T.character_of_f.kp T.character_of_b .nil pass0 (pa_cons (pv 1) pa_nil)))
      (pss_cons (ps_if (PW.pt (pw_or (pt_cmpR (op_eqU hu) (pv 2) (pe_glob (by rfl) T.k_BLANK_g T.k_BLANK_r) (nomark _)) (pw_or1 (PW.pt (pw_and (pt_val (pe_call (ok_is_sign T) (hr.mono (by decide)) (by rfl) T.is_sign_g T.is_sign_f.kp T.is_sign_b .nil pass0 (pa_cons (pv 2) pa_nil))) (pw_and (pt_cmpR (op_neU hu) (pv 2) (pe_glob (by rfl) T.k_ESCAPE_g T.k_ESCAPE_r) (nomark _)) (pw_and1 (pt_cmpR op_ninU (pv 2) (pe_prop (pv 0) T.C_Quoted_c T.Quoted_also_p (ok_Quoted_also T) (hr.mono (by decide)) T.Quoted_also_b .nil pass0 rfl) (by rfl))))))))) (pss_one (ps_ret (pv 2))) pss_nil)
      (pss_one (ps_ret (pe_joined (PJ.cons pe_str (PJ.cons (pe_fmtB (pv 1) (by decide) (by decide) (fun n hn t u => fmt02X hn t u)) PJ.nil)))))))))

def QAt (H : Hp) (st : Addr) (col : Nat) (held : List Nat) : Prop := H st = some (.tup [.int col, .str (tx held)])

end
section
variable {w : World} {K : PySem.W.Frag} {mg : Str → Option Value} {base : Heap}
local macro_rules | `(tactic| walk_at "hcq") => `(tactic| first
  | assumption
  | ((refine WaysAt.same (H := ?xH) ?xb ?xa); (case xa => assumption); (case xb => walk_at "hcq")))
local macro_rules | `(tactic| walk_at "rd0") => `(tactic| first
  | ((with_reducible refine r_getQ (a := ?xa) (c := ?xc) ?x1 ?x2 ?_); (case x1 => rfl); (case x2 => walk_at "hcq"))
  | ((with_reducible refine r_methQ (a := ?xa) (c := ?xc) ?x1 ?x2 ?x3 ?_); (case x1 => rfl); (case x2 => walk_at "hcq"); (case x3 => exact ⟨fun _ => rfl, fun _ _ => rfl⟩))
  | (with_reducible refine r_fmtB ?_)
  | (with_reducible refine r_dget ?_)
  | (with_reducible refine r_m0 ?_)
  | (with_reducible refine r_makeK ?_)
  | (with_reducible refine r_cval ?_)
  | (with_reducible refine r_sfld ?_)
  | (with_reducible refine r_isiI ?_)
  | (with_reducible refine r_isiIB ?_)
  | (with_reducible refine r_isiBB ?_)
  | (with_reducible refine r_isiS ?_)
  | (with_reducible refine r_int1I ?_)
  | (with_reducible refine r_int1B ?_))

/-! ### whole texts -/
theorem three_l {xs : List V} (h : xs.length = 3) : xs.length ≤ sizeLine := by rw [h]; decide
theorem join_tx : ∀ l : List (List Nat), Str.join (Str.ofString "") (l.map tx) = tx l.flatten
  | [] => rfl
  | [x] => by
    show tx x = tx (x ++ [])
    rw [List.append_nil]
  | x :: y :: r => by
    have ih := join_tx (y :: r)
    rw [List.map_cons, List.map_cons, join_cons_cons]
    rw [List.map_cons] at ih
    rw [ih, e_tx, tx_app, tx_app, List.append_nil]
    rfl
theorem txt_join_tx (l : List (List Nat)) : Txt.join (Str.ofString "") (l.map tx) = tx l.flatten := by
  rw [← join_tx]
  exact PySem.StrLaws.glued_eq_join _ _
theorem sum_le {m : Nat} : ∀ l : List (List Nat), (∀ p ∈ l, p.length ≤ m) → ((l.map tx).map (·.length)).sum ≤ l.length * m
  | [], _ => by simp
  | x :: r, h => by
    have h1 := h x (List.mem_cons_self ..)
    have h2 := sum_le r fun p hp => h p (List.mem_cons_of_mem _ hp)
    simp only [List.map_cons, List.sum_cons, List.length_cons, tx_len, Nat.add_mul, Nat.one_mul] at h2 ⊢
    omega
theorem flat_le {m : Nat} : ∀ l : List (List Nat), (∀ p ∈ l, p.length ≤ m) → l.flatten.length ≤ l.length * m
  | [], _ => by simp
  | x :: r, h => by
    have h1 := h x (List.mem_cons_self ..)
    have h2 := flat_le r fun p hp => h p (List.mem_cons_of_mem _ hp)
    simp only [List.flatten_cons, List.length_append, List.length_cons, Nat.add_mul, Nat.one_mul]
    omega
/-! ### a quoted code is made -/
def sp_Quoted___init__ (T : Txt K mg) : Sp := fun vs H Q _ => ∃ a dx, ∃ c : QD, vs = [.ref a, .int c.wd, .bl c.bin, .str (tx c.also)] ∧ H a = some (.ins T.C_Quoted dx []) ∧ c.Ok ∧ ∀ H', SameB a H H' → QuotAt T H' a c → Q .non H'
theorem len_Quoted___init__ (T : Txt K mg) (vs : List V) (H : Hp) (Q : VK) (E : XK) (h : sp_Quoted___init__ T vs H Q E) : vs.length = 4 := by
  obtain ⟨_, _, _, rfl, _⟩ := h
  rfl
def t_Quoted___init__ (T : Txt K mg) : TS := (tSeq (tIfS (tOr (tNot (tB (tCall (sp_is_within T) [] E0 (tCons (tVar 1) (tCons (tC (.int 0)) (tCons (tC (.int 76)) tNil)))))) (tTest (tChain rLtI rLtI (tC (.int 0)) (tVar 1) (tC (.int 4))))) tNever tNext)
    (tSeq (tIfS (tNot (tB (tCB (rIsi K) (tCons (tVar 2) (tCons (tC (.ty "bool")) tNil))))) tNever tNext)
    (tSeq (tIfS (tNot (tB (tCall (sp_are_signs T) [] E0 (tCons (tVar 3) tNil)))) tNever tNext)
    (tSeq (sFld K (tVar 0) (tTup (tCons (tVar 1) (tCons (tVar 2) (tCons (tVar 3) tNil)))) "ways")
    (sFld K (tVar 0) (tLc (iRng1 (tCons (tC (.int 256)) tNil)) (gName 4) tYes (tMeth T.C_Quoted "item_of" (sp_Quoted_item_of T) [] E0 (tVar 0) (tCons (tVar 4) tNil)) [4]) "known_items")))))

theorem pure_Quoted___init__ (T : Txt K mg) (vs : List V) (H : Hp) (Q : VK) (E : XK) (h : sp_Quoted___init__ T vs H Q E) : t_Quoted___init__ T { nx := fun _ H' => Q .non H', rt := Q } (start ["self", "width", "binary", "also", "byte"] vs) H := by
  obtain ⟨a, dx, c, rfl, ha, ok, q⟩ := h
  have w0 := ok.w0
  have w76 := ok.w76
  unfold t_Quoted___init__
  refine r_seqC (fun σ G => σ = [some (.ref a), some (.int c.wd), some (.bl c.bin), some (.str (tx c.also)), none] ∧ G = H) ?_ fun N tail => ?_
  · rintro σ G ⟨rfl, rfl⟩
    walk_at "rd"
    refine ⟨tx c.also, rfl, by rw [tx_len]; exact ok.al, fun x hx => ok.sg x (by rw [tx_list] at hx; exact hx), by rw [tx_list]; exact ok.nd, fun H1 s1 => ?_⟩
    walk_at "rd"
    refine And.intro (three_l rfl) ?_
    intro tp ntp
    generalize hgt : upd _ tp _ = Ht
    have st := same_of hgt ntp
    have vt := at_of hgt
    clear hgt
    have hat := st _ _ (s1 _ _ ha)
    have ntpa : tp ≠ a := (ne_of_none (s1 _ _ ha) ntp).symm
    walk_at "rd"
    refine ⟨a, T.C_Quoted, dx, [], rfl, hat, T.C_Quoted_c, T.C_Quoted_n_ways, by decide, ?_⟩
    generalize hg3 : upd Ht a _ = H3
    have b3 : SameB a Ht H3 := sameB_of hg3
    have h3a : H3 a = some (.ins T.C_Quoted dx [("ways", .ref tp)]) := at_of hg3
    have h3t : H3 tp = some (.tup [.int c.wd, .bl c.bin, .str (tx c.also)]) := b3 _ _ ntpa vt
    clear hg3
    have hw : WaysAt T H3 a c := ⟨ok, [], .inl rfl, dx, tp, h3a, h3t⟩
    walk_at "rd"
    refine r_one ⟨by decide, by decide⟩ fun D nD => ?_
    refine c_it (walk_range (lo := 0) (n := (256 : Int).toNat)) (fun i G => G D = some (.lst ((List.range i).map fun n => V.str (tx (c.item n)))) ∧ Same H3 G) ⟨upd_same, same_new nD⟩ (fun _ _ _ _ => trivial) ?_ ?_
    · rintro i x G G' hi ⟨hD, sG⟩ ⟨rfl, rfl⟩
      have hi' : i < 256 := hi
      walk_at "rd"
      refine ⟨rfl, ?_⟩
      walk_at "rd"
      refine ⟨a, c, i, (by show _ = [V.ref a, V.int (i : Nat)]; rw [← Int.zero_add (i : Int)]; rfl), hi', hw.same sG, ?_⟩
      refine ⟨_, hD, ?_, ?_, same_mut sG nD⟩
      · rw [List.length_map, List.length_range]
        exact Nat.lt_of_lt_of_le hi' (smallS (by decide))
      · rw [upd_same, List.range_succ, List.map_append]
        rfl
    rintro G4 ⟨hD, sG⟩
    walk_at "rd"
    refine ⟨a, T.C_Quoted, dx, _, rfl, sG _ _ h3a, T.C_Quoted_c, T.C_Quoted_n_known_items, (by show 1 < 1000; decide), ?_⟩
    generalize hg5 : upd G4 a _ = H5
    have b5 : SameB a G4 H5 := sameB_of hg5
    have h5a : H5 a = some (.ins T.C_Quoted dx [("ways", .ref tp), ("known_items", .ref D)]) := at_of hg5
    have h5t : H5 tp = some (.tup [.int c.wd, .bl c.bin, .str (tx c.also)]) := b5 _ _ ntpa (sG _ _ h3t)
    have nDa : D ≠ a := (ne_of_none h3a nD).symm
    have h5D := b5 _ _ nDa hD
    clear hg5
    exact q H5 (((toB (s1.trans st)).trans b3).trans ((toB sG).trans b5)) ⟨ok, D, ⟨dx, tp, h5a, h5t⟩, h5D⟩
  · walk_at "rx"
    refine ⟨_, _, 0, 76, rfl, .int c.wd, ?_⟩
    rw [show isW 0 76 (.int (c.wd : Int)) = true by
      show (decide ((0 : Int) ≤ c.wd) && decide ((c.wd : Int) ≤ 76)) = true
      rw [decide_eq_true (show (0 : Int) ≤ (c.wd : Int) by omega), decide_eq_true (show (c.wd : Int) ≤ 76 by omega)]; rfl]
    walk_at "rx"
    refine r_iteD (fun h1 => ?_) (fun h1 => ?_)
    · walk_at "rx"
      refine r_iteD (fun h2 => absurd h2 (by omega)) (fun h2 => ?_)
      walk_at "rx"
      exact tail _ _ ⟨rfl, rfl⟩
    · walk_at "rx"
      exact tail _ _ ⟨rfl, rfl⟩
theorem ok_Quoted___init__ (T : Txt K mg) : FnOk P w K mg base CX0 5 T.Quoted___init___a T.Quoted___init___d ["self", "width", "binary", "also"] (sp_Quoted___init__ T) := by
  refine T.Quoted___init___f.ok sc_Quoted___init__ (fun vs H Q E h => len_Quoted___init__ T vs H Q E h) (fun cdv A outer s H vs Q E hr h => ⟨t_Quoted___init__ T, PSs.nox ?_, pure_Quoted___init__ T vs H Q E h⟩)
  have hu := hu64 hr
  exact (pss_cons (ps_if (PW.pt (pw_or (pt_not (pt_val (pe_call (ok_is_within T) (hr.mono (by decide)) (by rfl) T.is_within_g T.is_within_f.kp T.is_within_b .nil pass0 (pa_cons (pv 1) (pa_cons pe_int (pa_cons (pe_glob (by rfl) T.k_WIDEST_g T.k_WIDEST_r) pa_nil)))))) (pw_or1 (pt_chain op_lt op_lt pe_int (pv 1) (pe_glob (by rfl) T.k_LEAST_WIDTH_g T.k_LEAST_WIDTH_r))))) (pss_one ps_never) pss_nil)
      (pss_cons (ps_if (pt_not (pt_val (pe_callB call_isi (by rfl) T.n_isinstance (by decide +kernel) (pa_cons (pv 2) (pa_cons (pe_bltn (v := .ty "bool") (by rfl) T.n_bool (by decide +kernel) rfl) pa_nil))))) (pss_one ps_never) pss_nil)
      (pss_cons (ps_if (pt_not (pt_val (pe_call (ok_are_signs T) (hr.mono (by decide)) (by rfl) T.are_signs_g T.are_signs_f.kp T.are_signs_b .nil pass0 (pa_cons (pv 3) pa_nil)))) (pss_one ps_never) pss_nil)
      (pss_cons (ps_fld (pv 0) (pe_tup (pa_cons (pv 1) (pa_cons (pv 2) (pa_cons (pv 3) pa_nil)))) rfl)
      (pss_one (ps_fld (pv 0) (pe_lc (own := [("byte", 4)]) (g := (gName 4)) (tt := tYes) rfl sc_Quoted___init__.nd (pi_range1 (by rfl) T.n_range (pa_cons pe_int pa_nil)) (blkOk_by (own := [("byte", 4)]) (N := ["self", "width", "binary", "also", "byte"]) (sc := defScope s_Quoted___init__) (by decide +kernel)) (fun _ _ _ _ _ => (pg_name (i := 4) sc_Quoted___init__.nd rfl (.inl rfl))) (fun _ _ _ _ _ => pts_nil) (fun _ _ _ _ _ => (pe_meth (pv 0) T.C_Quoted_c T.Quoted_item_of_m (ok_Quoted_item_of T) (hr.mono (by decide)) T.Quoted_item_of_b .nil pass0 (pa_cons (pv 4) pa_nil)))) rfl))))))


end
section
variable {w : World} {K : PySem.W.Frag} {mg : Str → Option Value} {base : Heap}
local macro_rules | `(tactic| walk_at "hcq") => `(tactic| first
  | assumption
  | ((refine WaysAt.same (H := ?xH) ?xb ?xa); (case xa => assumption); (case xb => walk_at "hcq")))
local macro_rules | `(tactic| walk_at "rd0") => `(tactic| first
  | ((with_reducible refine r_getQ (a := ?xa) (c := ?xc) ?x1 ?x2 ?_); (case x1 => rfl); (case x2 => walk_at "hcq"))
  | ((with_reducible refine r_methQ (a := ?xa) (c := ?xc) ?x1 ?x2 ?x3 ?_); (case x1 => rfl); (case x2 => walk_at "hcq"); (case x3 => exact ⟨fun _ => rfl, fun _ _ => rfl⟩))
  | (with_reducible refine r_fmtB ?_)
  | (with_reducible refine r_dget ?_)
  | (with_reducible refine r_m0 ?_)
  | (with_reducible refine r_makeK ?_)
  | (with_reducible refine r_cval ?_)
  | (with_reducible refine r_sfld ?_)
  | (with_reducible refine r_isiI ?_)
  | (with_reducible refine r_isiIB ?_)
  | (with_reducible refine r_isiBB ?_)
  | (with_reducible refine r_isiS ?_)
  | (with_reducible refine r_int1I ?_)
  | (with_reducible refine r_int1B ?_))

/-! ### rules of reading -/
structure RD where
  pads : Str
  skip : List Nat
  lines : Bool
  loose : Bool
  fold : Bool
def padsOk (z : Str) : Prop := z = Str.ofString "full" ∨ z = Str.ofString "none" ∨ z = Str.ofString "optional" ∨ z = Str.ofString "any"
structure RD.Ok (r : RD) : Prop where
  pd : padsOk r.pads
  ch : ∀ c ∈ r.skip, Ch c
  nd : r.skip.Nodup
  ln : r.skip.length ≤ 100
local macro_rules | `(tactic| walk_at "kd") => `(tactic| (intro z; exact absurd (Sum.inr.inj z) (by decide +kernel)))
def optKvs (r : RD) : List (Key × V) := [(.inr (Str.ofString "pads"), .str r.pads), (.inr (Str.ofString "skip"), .str (tx r.skip)), (.inr (Str.ofString "lines"), .bl r.lines), (.inr (Str.ofString "loose"), .bl r.loose), (.inr (Str.ofString "fold"), .bl r.fold)]
theorem opt_pads (r : RD) : valV (optKvs r) (.inr (Str.ofString "pads")) = some (.str r.pads) := valV_pos rfl
theorem opt_skip (r : RD) : valV (optKvs r) (.inr (Str.ofString "skip")) = some (.str (tx r.skip)) := (valV_neg (by walk_at "kd")).trans (valV_pos rfl)
theorem opt_lines (r : RD) : valV (optKvs r) (.inr (Str.ofString "lines")) = some (.bl r.lines) := (valV_neg (by walk_at "kd")).trans ((valV_neg (by walk_at "kd")).trans (valV_pos rfl))
theorem opt_loose (r : RD) : valV (optKvs r) (.inr (Str.ofString "loose")) = some (.bl r.loose) := (valV_neg (by walk_at "kd")).trans ((valV_neg (by walk_at "kd")).trans ((valV_neg (by walk_at "kd")).trans (valV_pos rfl)))
theorem opt_fold (r : RD) : valV (optKvs r) (.inr (Str.ofString "fold")) = some (.bl r.fold) := (valV_neg (by walk_at "kd")).trans ((valV_neg (by walk_at "kd")).trans ((valV_neg (by walk_at "kd")).trans ((valV_neg (by walk_at "kd")).trans (valV_pos rfl))))
theorem put_new {kvs : List (Key × V)} {k : Key} {v : V} (h : ∀ p ∈ kvs, p.1 ≠ k) : putK kvs k v = kvs ++ [(k, v)] := by
  unfold putK
  rw [if_neg]
  intro z
  obtain ⟨p, hp, e⟩ := List.any_eq_true.mp z
  exact h p hp (of_decide_eq_true e)
theorem merge_opt (r : RD) : mergeK [] (optKvs r) = optKvs r := by
  unfold mergeK optKvs
  simp only [List.foldl_cons, List.foldl_nil]
  rw [put_new (kvs := []) (fun p hp => nomatch hp), List.nil_append]
  rw [put_new (kvs := [_]) (fun p hp => by simp only [List.mem_cons, List.not_mem_nil, or_false] at hp; subst hp; walk_at "kd")]
  rw [List.singleton_append]
  rw [put_new (kvs := [_, _]) (fun p hp => by simp only [List.mem_cons, List.not_mem_nil, or_false] at hp; rcases hp with rfl | rfl <;> walk_at "kd")]
  simp only [List.cons_append, List.nil_append]
  rw [put_new (kvs := [_, _, _]) (fun p hp => by simp only [List.mem_cons, List.not_mem_nil, or_false] at hp; rcases hp with rfl | rfl | rfl <;> walk_at "kd")]
  simp only [List.cons_append, List.nil_append]
  rw [put_new (kvs := [_, _, _, _]) (fun p hp => by simp only [List.mem_cons, List.not_mem_nil, or_false] at hp; rcases hp with rfl | rfl | rfl | rfl <;> walk_at "kd")]
  rfl
def OptAt (T : Txt K mg) (H : Hp) (a : Addr) (r : RD) : Prop := ∃ dx D, H a = some (.ins T.C_Rules dx [("options", .ref D)]) ∧ H D = some (.dK (optKvs r))
def RulesAt (T : Txt K mg) (H : Hp) (a : Addr) (r : RD) : Prop := r.Ok ∧ OptAt T H a r
theorem OptAt.same {T : Txt K mg} {H H' : Hp} {a : Addr} {r : RD} (h : OptAt T H a r) (s : Same H H') : OptAt T H' a r := by
  obtain ⟨dx, D, h1, h2⟩ := h
  exact ⟨dx, D, s _ _ h1, s _ _ h2⟩
theorem RulesAt.same {T : Txt K mg} {H H' : Hp} {a : Addr} {r : RD} (h : RulesAt T H a r) (s : Same H H') : RulesAt T H' a r := ⟨h.1, h.2.same s⟩
def sp_is_option (T : Txt K mg) : Sp := fun vs H Q _ => ∃ (n : Str) (v : V), vs = [.str n, v] ∧
  ((n = Str.ofString "pads" ∧ ∃ z, v = .str z ∧ padsOk z) ∨ (n = Str.ofString "skip" ∧ ∃ l, v = .str (tx l) ∧ (∀ c ∈ l, Ch c) ∧ l.Nodup ∧ l.length ≤ 100) ∨ ((n = Str.ofString "lines" ∨ n = Str.ofString "loose" ∨ n = Str.ofString "fold") ∧ ∃ b, v = .bl b)) ∧ ∀ H', Same H H' → Q (.bl true) H'
theorem len_is_option (T : Txt K mg) (vs : List V) (H : Hp) (Q : VK) (E : XK) (h : sp_is_option T vs H Q E) : vs.length = 2 := by
  obtain ⟨_, _, rfl, _⟩ := h
  rfl
def t_is_option (T : Txt K mg) : TS := (tSeq (tIfS (tTest (tOp (rEqU K) (tVar 0) (tC (.str (Str.ofString "pads"))))) (tRet (tAndV (tCB (rIsi K) (tCons (tVar 1) (tCons (tC (.ty "str")) tNil))) (tOp (rInU K) (tVar 1) (tC (.ref T.k_PADS_a))))) tNext)
    (tSeq (tIfS (tTest (tOp (rEqU K) (tVar 0) (tC (.str (Str.ofString "skip"))))) (tRet (tCall (sp_are_characters T) [] E0 (tCons (tVar 1) tNil))) tNext)
    (tRet (tCB (rIsi K) (tCons (tVar 1) (tCons (tC (.ty "bool")) tNil))))))

theorem pure_is_option (T : Txt K mg) (vs : List V) (H : Hp) (Q : VK) (E : XK) (h : sp_is_option T vs H Q E) : t_is_option T { nx := fun _ H' => Q .non H', rt := Q } (start ["name", "value"] vs) H := by
  obtain ⟨n, v, rfl, h, q⟩ := h
  unfold t_is_option
  walk_at "rd"
  rcases h with ⟨rfl, z, rfl, hz⟩ | ⟨rfl, l, rfl, hc, hn, hl⟩ | ⟨hn, b, rfl⟩
  · rw [show decide (Str.ofString "pads" = Str.ofString "pads") = true from rfl]
    walk_at "rd"
    refine .inr ⟨_, _, rfl, .inr (T.k_PADS_t H), rfl, by rfl, ?_⟩
    have e : inV (.str z) [V.str (Str.ofString "full"), .str (Str.ofString "none"), .str (Str.ofString "optional"), .str (Str.ofString "any")] = true := by
      rcases hz with rfl | rfl | rfl | rfl <;> decide +kernel
    rw [e]
    exact q H (Same.refl H)
  · rw [show decide (Str.ofString "skip" = Str.ofString "pads") = false by decide +kernel]
    walk_at "rd"
    rw [show decide (Str.ofString "skip" = Str.ofString "skip") = true from rfl]
    walk_at "rd"
    exact ⟨tx l, rfl, by rw [tx_len]; omega, by rw [tx_list]; exact hc, by rw [tx_list]; exact hn, q⟩
  · have n1 : decide (n = Str.ofString "pads") = false := by rcases hn with rfl | rfl | rfl <;> decide +kernel
    have n2 : decide (n = Str.ofString "skip") = false := by rcases hn with rfl | rfl | rfl <;> decide +kernel
    rw [n1]
    walk_at "rd"
    rw [n2]
    walk_at "rd"
    exact q H (Same.refl H)
theorem ok_is_option (T : Txt K mg) : FnOk P w K mg base CX0 2 T.is_option_a T.is_option_d ["name", "value"] (sp_is_option T) := by
  refine T.is_option_f.ok sc_is_option (fun vs H Q E h => len_is_option T vs H Q E h) (fun cdv A outer s H vs Q E hr h => ⟨t_is_option T, PSs.nox ?_, pure_is_option T vs H Q E h⟩)
  have hu := hu64 hr
  exact (pss_cons (ps_if (pt_cmpR (op_eqU hu) (pv 0) pe_str (nomark _)) (pss_one (ps_ret (pe_and (pe_callB call_isi (by rfl) T.n_isinstance (by decide +kernel) (pa_cons (pv 1) (pa_cons (pe_bltn (v := .ty "str") (by rfl) T.n_str (by decide +kernel) rfl) pa_nil))) (pe_one (pe_cmpR op_inU (pv 1) (pe_glob (by rfl) T.k_PADS_g rfl) (by rfl)))))) pss_nil)
      (pss_cons (ps_if (pt_cmpR (op_eqU hu) (pv 0) pe_str (nomark _)) (pss_one (ps_ret (pe_call (ok_are_characters T) (hr.mono (by decide)) (by rfl) T.are_characters_g T.are_characters_f.kp T.are_characters_b .nil pass0 (pa_cons (pv 1) pa_nil)))) pss_nil)
      (pss_one (ps_ret (pe_callB call_isi (by rfl) T.n_isinstance (by decide +kernel) (pa_cons (pv 1) (pa_cons (pe_bltn (v := .ty "bool") (by rfl) T.n_bool (by decide +kernel) rfl) pa_nil)))))))

def sp_Rules___init__ (T : Txt K mg) : Sp := fun vs H Q _ => ∃ (a dx : Addr) (r : RD), vs = [.ref a, .str r.pads, .str (tx r.skip), .bl r.lines, .bl r.loose, .bl r.fold] ∧ H a = some (.ins T.C_Rules dx []) ∧ r.Ok ∧ ∀ H', SameB a H H' → RulesAt T H' a r → Q .non H'
theorem len_Rules___init__ (T : Txt K mg) (vs : List V) (H : Hp) (Q : VK) (E : XK) (h : sp_Rules___init__ T vs H Q E) : vs.length = 6 := by
  obtain ⟨_, _, _, rfl, _⟩ := h
  rfl
def t_Rules___init__ (T : Txt K mg) : TS := (tSeq (sFld K (tVar 0) (tDisp [((tC (.str (Str.ofString "pads"))), (tVar 1)), ((tC (.str (Str.ofString "skip"))), (tVar 2)), ((tC (.str (Str.ofString "lines"))), (tVar 3)), ((tC (.str (Str.ofString "loose"))), (tVar 4)), ((tC (.str (Str.ofString "fold"))), (tVar 5))]) "options")
    (tFor (iSeqU K (tC (.ref T.k_OPTIONS_a))) (gName 6) (tIfS (tNot (tB (tCall (sp_is_option T) [] E0 (tCons (tVar 6) (tCons (tDGet (tFld K (tVar 0) "options") (tVar 6)) tNil))))) tNever tNext)))

theorem pure_Rules___init__ (T : Txt K mg) (vs : List V) (H : Hp) (Q : VK) (E : XK) (h : sp_Rules___init__ T vs H Q E) : t_Rules___init__ T { nx := fun _ H' => Q .non H', rt := Q } (start ["self", "pads", "skip", "lines", "loose", "fold", "name"] vs) H := by
  obtain ⟨a, dx, r, rfl, ha, ok, q⟩ := h
  unfold t_Rules___init__
  walk_at "rd"
  intro D nD
  refine ⟨_, rfl, _, rfl, _, rfl, _, rfl, _, rfl, upd_same, optKvs r, rfl, by show 5 ≤ 15; decide, ?_⟩
  rw [merge_opt]
  generalize hg : upd (upd H D _) D _ = H1
  have s1 : Same H H1 := by rw [← hg]; exact same_mut (same_new nD) nD
  have v1 : H1 D = some (.dK (optKvs r)) := by rw [← hg]; exact upd_same
  clear hg
  have ha1 := s1 _ _ ha
  walk_at "rd"
  refine ⟨a, T.C_Rules, dx, [], rfl, ha1, T.C_Rules_c, T.C_Rules_n_options, by decide, ?_⟩
  generalize hg : upd H1 a _ = H2
  have b2 : SameB a H1 H2 := sameB_of hg
  have h2a : H2 a = some (.ins T.C_Rules dx [("options", .ref D)]) := at_of hg
  clear hg
  have nDa : D ≠ a := (ne_of_none ha nD).symm
  have h2D : H2 D = some (.dK (optKvs r)) := b2 _ _ nDa v1
  walk_at "rd"
  refine r_iseqT ?_
  walk_at "rd"
  refine ⟨_, rfl, ⟨_, T.k_OPTIONS_t H2⟩, ?_⟩
  refine f_it (walk_tup (K := K) (a := T.k_OPTIONS_a) (xs := [.str (Str.ofString "pads"), .str (Str.ofString "skip"), .str (Str.ofString "lines"), .str (Str.ofString "loose"), .str (Str.ofString "fold")])) (fun i σ G => ∃ v6, σ = [some (.ref a), some (.str r.pads), some (.str (tx r.skip)), some (.bl r.lines), some (.bl r.loose), some (.bl r.fold), v6] ∧ Same H2 G)
    ⟨none, rfl, Same.refl H2⟩ (fun i σ G _ _ => T.k_OPTIONS_t G) ?_ ?_
  · rintro i x σ G G' hi ⟨v6, rfl, sG⟩ ⟨rfl, hx⟩
    have gD := sG _ _ h2D
    have ga := sG _ _ h2a
    have fin : ∀ H', Same G' H' → ∃ v6', [some (V.ref a), some (.str r.pads), some (.str (tx r.skip)), some (.bl r.lines), some (.bl r.loose), some (.bl r.fold), some x] = [some (V.ref a), some (.str r.pads), some (.str (tx r.skip)), some (.bl r.lines), some (.bl r.loose), some (.bl r.fold), v6'] ∧ Same H2 H' := fun H' s => ⟨_, rfl, sG.trans s⟩
    have step : ∀ (n : Str) (v : V), x = .str n → valV (optKvs r) (.inr n) = some v →
        ((n = Str.ofString "pads" ∧ ∃ z, v = .str z ∧ padsOk z) ∨ (n = Str.ofString "skip" ∧ ∃ l, v = .str (tx l) ∧ (∀ c ∈ l, Ch c) ∧ l.Nodup ∧ l.length ≤ 100) ∨ ((n = Str.ofString "lines" ∨ n = Str.ofString "loose" ∨ n = Str.ofString "fold") ∧ ∃ b, v = .bl b)) →
        DGet G' D (.str n) (some v) := fun n v _ e _ => by
      have := DGet.k (k := .inr n) gD
      rw [e] at this
      exact this
    walk_at "rd"
    refine r_fldI rfl ga T.C_Rules_c T.C_Rules_n_options rfl ?_
    walk_at "rd"
    match i, hx with
    | 0, hx =>
      cases hx
      refine ⟨D, _, rfl, step _ _ rfl (opt_pads r) (.inl ⟨rfl, _, rfl, ok.pd⟩), ?_⟩
      refine ⟨_, _, rfl, .inl ⟨rfl, _, rfl, ok.pd⟩, fun H' s => ?_⟩
      walk_at "rd"
      exact fin H' s
    | 1, hx =>
      cases hx
      refine ⟨D, _, rfl, step _ _ rfl (opt_skip r) (.inr (.inl ⟨rfl, _, rfl, ok.ch, ok.nd, ok.ln⟩)), ?_⟩
      refine ⟨_, _, rfl, .inr (.inl ⟨rfl, _, rfl, ok.ch, ok.nd, ok.ln⟩), fun H' s => ?_⟩
      walk_at "rd"
      exact fin H' s
    | 2, hx =>
      cases hx
      refine ⟨D, _, rfl, step _ _ rfl (opt_lines r) (.inr (.inr ⟨.inl rfl, _, rfl⟩)), ?_⟩
      refine ⟨_, _, rfl, .inr (.inr ⟨.inl rfl, _, rfl⟩), fun H' s => ?_⟩
      walk_at "rd"
      exact fin H' s
    | 3, hx =>
      cases hx
      refine ⟨D, _, rfl, step _ _ rfl (opt_loose r) (.inr (.inr ⟨.inr (.inl rfl), _, rfl⟩)), ?_⟩
      refine ⟨_, _, rfl, .inr (.inr ⟨.inr (.inl rfl), _, rfl⟩), fun H' s => ?_⟩
      walk_at "rd"
      exact fin H' s
    | 4, hx =>
      cases hx
      refine ⟨D, _, rfl, step _ _ rfl (opt_fold r) (.inr (.inr ⟨.inr (.inr rfl), _, rfl⟩)), ?_⟩
      refine ⟨_, _, rfl, .inr (.inr ⟨.inr (.inr rfl), _, rfl⟩), fun H' s => ?_⟩
      walk_at "rd"
      exact fin H' s
    | i + 5, hx => cases hx
  · rintro σ G ⟨v6, rfl, sG⟩
    walk_at "rd"
    exact q G ((toB s1).trans (b2.trans (toB sG))) ⟨ok, dx, D, sG _ _ h2a, sG _ _ h2D⟩
theorem ok_Rules___init__ (T : Txt K mg) : FnOk P w K mg base CX0 3 T.Rules___init___a T.Rules___init___d ["self", "pads", "skip", "lines", "loose", "fold"] (sp_Rules___init__ T) := by
  refine T.Rules___init___f.ok sc_Rules___init__ (fun vs H Q E h => len_Rules___init__ T vs H Q E h) (fun cdv A outer s H vs Q E hr h => ⟨t_Rules___init__ T, PSs.nox ?_, pure_Rules___init__ T vs H Q E h⟩)
  have hu := hu64 hr
  exact (pss_cons (ps_fld (pv 0) (pe_disp (pps_cons pe_str (pv 1) (pps_cons pe_str (pv 2) (pps_cons pe_str (pv 3) (pps_cons pe_str (pv 4) (pps_cons pe_str (pv 5) pps_nil))))) (by rfl) (by rfl) (fun h => nomatch h) (by decide)) rfl)
      (pss_one (ps_for PassesOwn.never rfl (pi_seqU (pe_glob (by rfl) T.k_OPTIONS_g rfl)) (pg_name (i := 6) sc_Rules___init__.nd rfl (.inl rfl)) (pss_one (ps_if (pt_not (pt_val (pe_call (ok_is_option T) (hr.mono (by decide)) (by rfl) T.is_option_g T.is_option_f.kp T.is_option_b .nil pass0 (pa_cons (pv 6) (pa_cons (pe_dget (hu_of hr) (pe_fld (pv 0) rfl) (pv 6) (fun _ _ => rfl)) pa_nil))))) (pss_one ps_never) pss_nil)))))

def spR (T : Txt K mg) (g : RD → V) : Sp := fun vs H Q _ => ∃ a r, vs = [.ref a] ∧ RulesAt T H a r ∧ Q (g r) H
theorem len_spR (T : Txt K mg) (g : RD → V) (vs : List V) (H : Hp) (Q : VK) (E : XK) (h : spR T g vs H Q E) : vs.length = 1 := by
  obtain ⟨_, _, rfl, _⟩ := h
  rfl
abbrev sp_Rules_pads (T : Txt K mg) : Sp := spR T fun r => .str r.pads
abbrev sp_Rules_skip (T : Txt K mg) : Sp := spR T fun r => .str (tx r.skip)
abbrev sp_Rules_lines (T : Txt K mg) : Sp := spR T fun r => .bl r.lines
abbrev sp_Rules_loose (T : Txt K mg) : Sp := spR T fun r => .bl r.loose
abbrev sp_Rules_fold (T : Txt K mg) : Sp := spR T fun r => .bl r.fold
theorem len_Rules_pads (T : Txt K mg) (vs : List V) (H : Hp) (Q : VK) (E : XK) (h : sp_Rules_pads T vs H Q E) : vs.length = 1 := len_spR T _ vs H Q E h
theorem len_Rules_skip (T : Txt K mg) (vs : List V) (H : Hp) (Q : VK) (E : XK) (h : sp_Rules_skip T vs H Q E) : vs.length = 1 := len_spR T _ vs H Q E h
theorem len_Rules_lines (T : Txt K mg) (vs : List V) (H : Hp) (Q : VK) (E : XK) (h : sp_Rules_lines T vs H Q E) : vs.length = 1 := len_spR T _ vs H Q E h
theorem len_Rules_loose (T : Txt K mg) (vs : List V) (H : Hp) (Q : VK) (E : XK) (h : sp_Rules_loose T vs H Q E) : vs.length = 1 := len_spR T _ vs H Q E h
theorem len_Rules_fold (T : Txt K mg) (vs : List V) (H : Hp) (Q : VK) (E : XK) (h : sp_Rules_fold T vs H Q E) : vs.length = 1 := len_spR T _ vs H Q E h
theorem opt_of {T : Txt K mg} {H : Hp} {a : Addr} {r : RD} {σ : S} {i : Nat} {n : Str} {v : V} {Q : VK} (h0 : σ[i]? = some (some (.ref a))) (h : RulesAt T H a r) (e : valV (optKvs r) (.inr n) = some v) (q : Q v H) : tDGet (tFld K (tVar i) "options") (tC (.str n)) σ H Q := by
  obtain ⟨_, dx, D, h1, h2⟩ := h
  refine r_dget ?_
  refine r_fldI h0 h1 T.C_Rules_c T.C_Rules_n_options rfl ?_
  refine r_c ?_
  refine ⟨D, v, rfl, ?_, q⟩
  have := DGet.k (k := .inr n) h2
  rw [e] at this
  exact this
def t_Rules_pads (T : Txt K mg) : TS := (tRet (tDGet (tFld K (tVar 0) "options") (tC (.str (Str.ofString "pads")))))

theorem pure_Rules_pads (T : Txt K mg) (vs : List V) (H : Hp) (Q : VK) (E : XK) (h : sp_Rules_pads T vs H Q E) : t_Rules_pads T { nx := fun _ H' => Q .non H', rt := Q } (start ["self"] vs) H := by
  obtain ⟨a, r, rfl, hr, q⟩ := h
  unfold t_Rules_pads
  refine r_ret ?_
  exact opt_of rfl hr (opt_pads r) q
theorem ok_Rules_pads (T : Txt K mg) : FnOk P w K mg base CX0 1 T.Rules_pads_a T.Rules_pads_d ["self"] (sp_Rules_pads T) := by
  refine T.Rules_pads_f.ok sc_Rules_pads (fun vs H Q E h => len_Rules_pads T vs H Q E h) (fun cdv A outer s H vs Q E hr h => ⟨t_Rules_pads T, PSs.nox ?_, pure_Rules_pads T vs H Q E h⟩)
  have hu := hu64 hr
  exact (pss_one (ps_ret (pe_dget (hu_of hr) (pe_fld (pv 0) rfl) pe_str (fun _ _ => rfl))))

def t_Rules_skip (T : Txt K mg) : TS := (tRet (tDGet (tFld K (tVar 0) "options") (tC (.str (Str.ofString "skip")))))

theorem pure_Rules_skip (T : Txt K mg) (vs : List V) (H : Hp) (Q : VK) (E : XK) (h : sp_Rules_skip T vs H Q E) : t_Rules_skip T { nx := fun _ H' => Q .non H', rt := Q } (start ["self"] vs) H := by
  obtain ⟨a, r, rfl, hr, q⟩ := h
  unfold t_Rules_skip
  refine r_ret ?_
  exact opt_of rfl hr (opt_skip r) q
theorem ok_Rules_skip (T : Txt K mg) : FnOk P w K mg base CX0 1 T.Rules_skip_a T.Rules_skip_d ["self"] (sp_Rules_skip T) := by
  refine T.Rules_skip_f.ok sc_Rules_skip (fun vs H Q E h => len_Rules_skip T vs H Q E h) (fun cdv A outer s H vs Q E hr h => ⟨t_Rules_skip T, PSs.nox ?_, pure_Rules_skip T vs H Q E h⟩)
  have hu := hu64 hr
  exact (pss_one (ps_ret (pe_dget (hu_of hr) (pe_fld (pv 0) rfl) pe_str (fun _ _ => rfl))))

def t_Rules_lines (T : Txt K mg) : TS := (tRet (tDGet (tFld K (tVar 0) "options") (tC (.str (Str.ofString "lines")))))

theorem pure_Rules_lines (T : Txt K mg) (vs : List V) (H : Hp) (Q : VK) (E : XK) (h : sp_Rules_lines T vs H Q E) : t_Rules_lines T { nx := fun _ H' => Q .non H', rt := Q } (start ["self"] vs) H := by
  obtain ⟨a, r, rfl, hr, q⟩ := h
  unfold t_Rules_lines
  refine r_ret ?_
  exact opt_of rfl hr (opt_lines r) q
theorem ok_Rules_lines (T : Txt K mg) : FnOk P w K mg base CX0 1 T.Rules_lines_a T.Rules_lines_d ["self"] (sp_Rules_lines T) := by
  refine T.Rules_lines_f.ok sc_Rules_lines (fun vs H Q E h => len_Rules_lines T vs H Q E h) (fun cdv A outer s H vs Q E hr h => ⟨t_Rules_lines T, PSs.nox ?_, pure_Rules_lines T vs H Q E h⟩)
  have hu := hu64 hr
  exact (pss_one (ps_ret (pe_dget (hu_of hr) (pe_fld (pv 0) rfl) pe_str (fun _ _ => rfl))))

def t_Rules_loose (T : Txt K mg) : TS := (tRet (tDGet (tFld K (tVar 0) "options") (tC (.str (Str.ofString "loose")))))

theorem pure_Rules_loose (T : Txt K mg) (vs : List V) (H : Hp) (Q : VK) (E : XK) (h : sp_Rules_loose T vs H Q E) : t_Rules_loose T { nx := fun _ H' => Q .non H', rt := Q } (start ["self"] vs) H := by
  obtain ⟨a, r, rfl, hr, q⟩ := h
  unfold t_Rules_loose
  refine r_ret ?_
  exact opt_of rfl hr (opt_loose r) q
theorem ok_Rules_loose (T : Txt K mg) : FnOk P w K mg base CX0 1 T.Rules_loose_a T.Rules_loose_d ["self"] (sp_Rules_loose T) := by
  refine T.Rules_loose_f.ok sc_Rules_loose (fun vs H Q E h => len_Rules_loose T vs H Q E h) (fun cdv A outer s H vs Q E hr h => ⟨t_Rules_loose T, PSs.nox ?_, pure_Rules_loose T vs H Q E h⟩)
  have hu := hu64 hr
  exact (pss_one (ps_ret (pe_dget (hu_of hr) (pe_fld (pv 0) rfl) pe_str (fun _ _ => rfl))))

def t_Rules_fold (T : Txt K mg) : TS := (tRet (tDGet (tFld K (tVar 0) "options") (tC (.str (Str.ofString "fold")))))

theorem pure_Rules_fold (T : Txt K mg) (vs : List V) (H : Hp) (Q : VK) (E : XK) (h : sp_Rules_fold T vs H Q E) : t_Rules_fold T { nx := fun _ H' => Q .non H', rt := Q } (start ["self"] vs) H := by
  obtain ⟨a, r, rfl, hr, q⟩ := h
  unfold t_Rules_fold
  refine r_ret ?_
  exact opt_of rfl hr (opt_fold r) q
theorem ok_Rules_fold (T : Txt K mg) : FnOk P w K mg base CX0 1 T.Rules_fold_a T.Rules_fold_d ["self"] (sp_Rules_fold T) := by
  refine T.Rules_fold_f.ok sc_Rules_fold (fun vs H Q E h => len_Rules_fold T vs H Q E h) (fun cdv A outer s H vs Q E hr h => ⟨t_Rules_fold T, PSs.nox ?_, pure_Rules_fold T vs H Q E h⟩)
  have hu := hu64 hr
  exact (pss_one (ps_ret (pe_dget (hu_of hr) (pe_fld (pv 0) rfl) pe_str (fun _ _ => rfl))))

/-! ### steps over rules -/
theorem r_getR {T : Txt K mg} {g : RD → V} {σ : S} {H : Hp} {Q : VK} {i : Nat} {a : Addr} {r : RD} (h0 : σ[i]? = some (some (.ref a))) (hr : RulesAt T H a r) (h : Q (g r) H) : tProp T.C_Rules (spR T g) [] E0 (tVar i) σ H Q := by
  refine ⟨_, h0, ?_⟩
  obtain ⟨o, dx, D, h1, h2⟩ := id hr
  exact ⟨a, dx, _, rfl, h1, a, r, rfl, hr, h⟩

end
section
variable {w : World} {K : PySem.W.Frag} {mg : Str → Option Value} {base : Heap}
local macro_rules | `(tactic| walk_at "hcq") => `(tactic| first
  | assumption
  | ((refine WaysAt.same (H := ?xH) ?xb ?xa); (case xa => assumption); (case xb => walk_at "hcq")))
local macro_rules | `(tactic| walk_at "rd0") => `(tactic| first
  | ((with_reducible refine r_getQ (a := ?xa) (c := ?xc) ?x1 ?x2 ?_); (case x1 => rfl); (case x2 => walk_at "hcq"))
  | ((with_reducible refine r_methQ (a := ?xa) (c := ?xc) ?x1 ?x2 ?x3 ?_); (case x1 => rfl); (case x2 => walk_at "hcq"); (case x3 => exact ⟨fun _ => rfl, fun _ _ => rfl⟩))
  | (with_reducible refine r_fmtB ?_)
  | (with_reducible refine r_dget ?_)
  | (with_reducible refine r_m0 ?_)
  | (with_reducible refine r_makeK ?_)
  | (with_reducible refine r_cval ?_)
  | (with_reducible refine r_sfld ?_)
  | (with_reducible refine r_isiI ?_)
  | (with_reducible refine r_isiIB ?_)
  | (with_reducible refine r_isiBB ?_)
  | (with_reducible refine r_isiS ?_)
  | (with_reducible refine r_int1I ?_)
  | (with_reducible refine r_int1B ?_))

local macro_rules | `(tactic| walk_at "hcr") => `(tactic| first
  | assumption
  | ((refine RulesAt.same (H := ?xH) ?xb ?xa); (case xa => assumption); (case xb => walk_at "hcr")))
local macro_rules | `(tactic| walk_at "rd0") => `(tactic| first
  | ((with_reducible refine r_getR (a := ?xa) (r := ?xr) ?x1 ?x2 ?_); (case x1 => rfl); (case x2 => walk_at "hcr")))

theorem r_notInS {H : Hp} {Q : VK} {c : Nat} {z : Str} (h : Q (.bl (!decide (c ∈ z.cps.toList))) H) : rNinU K (.str ⟨#[c]⟩) (.str z) H Q := .inl ⟨c, z, rfl, rfl, h⟩
theorem ne_ob {H : Hp} {a b : Addr} {o u : HO} (h1 : H a = some o) (h2 : H b = some u) (n : o ≠ u) : a ≠ b := fun z => n (by rw [z, h2] at h1; exact (Option.some.inj h1).symm)
theorem ins_ne {C D dx dy : Addr} {fs gs : List (Str × V)} {n : Str} {v : V} (h1 : fs.lookup n = some v) (h2 : gs.lookup n = none) : HO.ins C dx fs ≠ HO.ins D dy gs := fun z => by
  rw [(HO.ins.inj z).2.2, h2] at h1
  cases h1
theorem RulesAt.sameI {T : Txt K mg} {H H' : Hp} {a w C dx : Addr} {fs : List (Str × V)} {r : RD} (h : RulesAt T H a r) (s : SameB w H H') (hw : H w = some (.ins C dx fs)) (h1 : fs.lookup ("options" : Str) = none) : RulesAt T H' a r := by
  obtain ⟨o, dx2, D, g1, g2⟩ := h
  exact ⟨o, dx2, D, s _ _ (ne_ob g1 hw (ins_ne (n := "options") (v := .ref D) rfl h1)) g1, s _ _ (ne_ob g2 hw fun z => nomatch z) g2⟩
def sp_Quoted_suits (T : Txt K mg) : Sp := fun vs H Q _ => ∃ a rr c r, vs = [.ref a, .ref rr] ∧ QuotAt T H a c ∧ RulesAt T H rr r ∧ Q (.bl (decide (r.skip = []))) H
theorem len_Quoted_suits (T : Txt K mg) (vs : List V) (H : Hp) (Q : VK) (E : XK) (h : sp_Quoted_suits T vs H Q E) : vs.length = 2 := by
  obtain ⟨_, _, _, _, rfl, _⟩ := h
  rfl
def t_Quoted_suits (T : Txt K mg) : TS := (tRet (tAndV (tCB (rIsi K) (tCons (tVar 1) (tCons (tC (.ref T.C_Rules)) tNil))) (tOp (rEqU K) (tProp T.C_Rules (sp_Rules_skip T) [] E0 (tVar 1)) (tC (.str (Str.ofString ""))))))

theorem pure_Quoted_suits (T : Txt K mg) (vs : List V) (H : Hp) (Q : VK) (E : XK) (h : sp_Quoted_suits T vs H Q E) : t_Quoted_suits T { nx := fun _ H' => Q .non H', rt := Q } (start ["self", "rules"] vs) H := by
  obtain ⟨a, rr, c, r, rfl, hc, hr, q⟩ := h
  unfold t_Quoted_suits
  obtain ⟨ok, dx, D, h1, h2⟩ := id hr
  walk_at "rd"
  refine r_isC T.C_Rules_is h1 ?_
  walk_at "rd"
  rw [e_tx, tx_dec]
  exact q
theorem ok_Quoted_suits (T : Txt K mg) : FnOk P w K mg base CX0 3 T.Quoted_suits_a T.Quoted_suits_d ["self", "rules"] (sp_Quoted_suits T) := by
  refine T.Quoted_suits_f.ok sc_Quoted_suits (fun vs H Q E h => len_Quoted_suits T vs H Q E h) (fun cdv A outer s H vs Q E hr h => ⟨t_Quoted_suits T, PSs.nox ?_, pure_Quoted_suits T vs H Q E h⟩)
  have hu := hu64 hr
  exact (pss_one (ps_ret (pe_and (pe_callB call_isi (by rfl) T.n_isinstance (by decide +kernel) (pa_cons (pv 1) (pa_cons (pe_glob (by rfl) T.C_Rules_g rfl) pa_nil))) (pe_one (pe_cmpR (op_eqU hu) (pe_prop (pv 1) T.C_Rules_c T.Rules_skip_p (ok_Rules_skip T) (hr.mono (by decide)) T.Rules_skip_b .nil pass0 rfl) pe_str (nomark _))))))

def QRStAt (H : Hp) (st : Addr) (col : Nat) (beg : List Nat) : Prop := H st = some (.tup [.int col, .str (tx beg)])
def sp_Quoted_opening (T : Txt K mg) : Sp := fun vs H Q _ => ∃ a c, vs = [.ref a] ∧ QuotAt T H a c ∧ ∀ p H', Same H H' → H p = none → QRStAt H' p 0 [] → Q (.ref p) H'
theorem len_Quoted_opening (T : Txt K mg) (vs : List V) (H : Hp) (Q : VK) (E : XK) (h : sp_Quoted_opening T vs H Q E) : vs.length = 1 := by
  obtain ⟨_, _, rfl, _⟩ := h
  rfl
def t_Quoted_opening (T : Txt K mg) : TS := (tRet (tTup (tCons (tC (.int 0)) (tCons (tC (.str (Str.ofString ""))) tNil))))

theorem pure_Quoted_opening (T : Txt K mg) (vs : List V) (H : Hp) (Q : VK) (E : XK) (h : sp_Quoted_opening T vs H Q E) : t_Quoted_opening T { nx := fun _ H' => Q .non H', rt := Q } (start ["self"] vs) H := by
  obtain ⟨a, c, rfl, hc, q⟩ := h
  unfold t_Quoted_opening
  walk_at "rd"
  refine And.intro (by show 2 ≤ sizeLine; decide) fun p np => ?_
  exact q p _ (same_new np) np upd_same
theorem ok_Quoted_opening (T : Txt K mg) : FnOk P w K mg base CX0 1 T.Quoted_opening_a T.Quoted_opening_d ["self"] (sp_Quoted_opening T) := by
  refine T.Quoted_opening_f.ok sc_Quoted_opening (fun vs H Q E h => len_Quoted_opening T vs H Q E h) (fun cdv A outer s H vs Q E hr h => ⟨t_Quoted_opening T, PSs.nox ?_, pure_Quoted_opening T vs H Q E h⟩)
  have hu := hu64 hr
  exact (pss_one (ps_ret (pe_tup (pa_cons pe_int (pa_cons pe_str pa_nil)))))

def sp_Quoted_may_end (T : Txt K mg) : Sp := fun vs H Q _ => ∃ a rr c r st col beg, vs = [.ref a, .ref rr, .ref st] ∧ QuotAt T H a c ∧ RulesAt T H rr r ∧ QRStAt H st col beg ∧ Q (.bl (decide (beg = []))) H
theorem len_Quoted_may_end (T : Txt K mg) (vs : List V) (H : Hp) (Q : VK) (E : XK) (h : sp_Quoted_may_end T vs H Q E) : vs.length = 3 := by
  obtain ⟨_, _, _, _, _, _, _, rfl, _⟩ := h
  rfl
def sp_Rules_suit (T : Txt K mg) : Sp := fun vs H Q _ => ∃ rr a r c, vs = [.ref rr, .ref a] ∧ QuotAt T H a c ∧ RulesAt T H rr r ∧ Q (.bl (decide (r.skip = []))) H
theorem len_Rules_suit (T : Txt K mg) (vs : List V) (H : Hp) (Q : VK) (E : XK) (h : sp_Rules_suit T vs H Q E) : vs.length = 2 := by
  obtain ⟨_, _, _, _, rfl, _⟩ := h
  rfl
def t_Rules_suit (T : Txt K mg) : TS := (tRet (tMeth T.C_Quoted "suits" (sp_Quoted_suits T) [] E0 (tVar 1) (tCons (tVar 0) tNil)))

theorem pure_Rules_suit (T : Txt K mg) (vs : List V) (H : Hp) (Q : VK) (E : XK) (h : sp_Rules_suit T vs H Q E) : t_Rules_suit T { nx := fun _ H' => Q .non H', rt := Q } (start ["self", "code"] vs) H := by
  obtain ⟨rr, a, r, c, rfl, hc, hr, q⟩ := h
  unfold t_Rules_suit
  refine r_ret ?_
  exact r_methQ rfl (QuotAt.ways hc) ⟨fun _ => rfl, fun _ _ => rfl⟩ (r_cons (r_var rfl (r_nil ⟨a, rr, c, r, rfl, hc, hr, q⟩)))
theorem ok_Rules_suit (T : Txt K mg) : FnOk P w K mg base CX0 4 T.Rules_suit_a T.Rules_suit_d ["self", "code"] (sp_Rules_suit T) := by
  refine T.Rules_suit_f.ok sc_Rules_suit (fun vs H Q E h => len_Rules_suit T vs H Q E h) (fun cdv A outer s H vs Q E hr h => ⟨t_Rules_suit T, PSs.nox ?_, pure_Rules_suit T vs H Q E h⟩)
  have hu := hu64 hr
  exact (pss_one (ps_ret (pe_meth (pv 1) T.C_Quoted_c T.Quoted_suits_m (ok_Quoted_suits T) (hr.mono (by decide)) T.Quoted_suits_b .nil pass0 (pa_cons (pv 0) pa_nil))))

/-- the usual rules -/
def usualR : RD := ⟨Str.ofString "full", [], true, false, false⟩
theorem usual_ok : usualR.Ok := ⟨.inl rfl, fun c h => (nomatch h), List.nodup_nil, Nat.zero_le _⟩
def sp_Machine_usual (T : Txt K mg) : Sp := fun vs H Q _ => ∃ a c, vs = [.ref a] ∧ QuotAt T H a c ∧ ∀ rr H', Same H H' → H rr = none → RulesAt T H' rr usualR → Q (.ref rr) H'
theorem len_Machine_usual (T : Txt K mg) (vs : List V) (H : Hp) (Q : VK) (E : XK) (h : sp_Machine_usual T vs H Q E) : vs.length = 1 := by
  obtain ⟨_, _, rfl, _⟩ := h
  rfl
def t_Machine_usual (T : Txt K mg) : TS := (tRet (tMakeK T.C_Rules 0 ([] : List Str).length (sp_Rules___init__ T) (fun vs zs => vs ++ (zs ++ [.str (Str.ofString "full"), .str (Str.ofString ""), .bl true, .bl false, .bl false])) E0 tNil tNil))

theorem pure_Machine_usual (T : Txt K mg) (vs : List V) (H : Hp) (Q : VK) (E : XK) (h : sp_Machine_usual T vs H Q E) : t_Machine_usual T { nx := fun _ H' => Q .non H', rt := Q } (start ["self"] vs) H := by
  obtain ⟨a, c, rfl, hc, q⟩ := h
  unfold t_Machine_usual
  walk_at "rd"
  refine ⟨rfl, rfl, fun x dx nx ndx nex => ?_⟩
  exact ⟨x, dx, usualR, rfl, upd_same, usual_ok, fun H1 b1 h1 => ⟨rfl, q x H1 (same_mutB nx (same_mut (same_new ndx) nx) b1) nx h1⟩⟩
theorem ok_Machine_usual (T : Txt K mg) : FnOk P w K mg base CX0 5 T.Machine_usual_a T.Machine_usual_d ["self"] (sp_Machine_usual T) := by
  refine T.Machine_usual_f.ok sc_Machine_usual (fun vs H Q E h => len_Machine_usual T vs H Q E h) (fun cdv A outer s H vs Q E hr h => ⟨t_Machine_usual T, PSs.nox ?_, pure_Machine_usual T vs H Q E h⟩)
  have hu := hu64 hr
  exact (pss_one (ps_ret (pe_makeK0 T.C_Rules_m (ok_Rules___init__ T) (hr.mono (by decide)) (by rfl) T.C_Rules_g T.Rules___init___k0_.choose_spec pass0 pk_nil)))


end
section
variable {w : World} {K : PySem.W.Frag} {mg : Str → Option Value} {base : Heap}
local macro_rules | `(tactic| walk_at "hcq") => `(tactic| first
  | assumption
  | ((refine WaysAt.same (H := ?xH) ?xb ?xa); (case xa => assumption); (case xb => walk_at "hcq")))
local macro_rules | `(tactic| walk_at "rd0") => `(tactic| first
  | ((with_reducible refine r_getQ (a := ?xa) (c := ?xc) ?x1 ?x2 ?_); (case x1 => rfl); (case x2 => walk_at "hcq"))
  | ((with_reducible refine r_methQ (a := ?xa) (c := ?xc) ?x1 ?x2 ?x3 ?_); (case x1 => rfl); (case x2 => walk_at "hcq"); (case x3 => exact ⟨fun _ => rfl, fun _ _ => rfl⟩))
  | (with_reducible refine r_fmtB ?_)
  | (with_reducible refine r_dget ?_)
  | (with_reducible refine r_m0 ?_)
  | (with_reducible refine r_makeK ?_)
  | (with_reducible refine r_cval ?_)
  | (with_reducible refine r_sfld ?_)
  | (with_reducible refine r_isiI ?_)
  | (with_reducible refine r_isiIB ?_)
  | (with_reducible refine r_isiBB ?_)
  | (with_reducible refine r_isiS ?_)
  | (with_reducible refine r_int1I ?_)
  | (with_reducible refine r_int1B ?_))

local macro_rules | `(tactic| walk_at "hcr") => `(tactic| first
  | assumption
  | ((refine RulesAt.same (H := ?xH) ?xb ?xa); (case xa => assumption); (case xb => walk_at "hcr")))
local macro_rules | `(tactic| walk_at "rd0") => `(tactic| first
  | ((with_reducible refine r_getR (a := ?xa) (r := ?xr) ?x1 ?x2 ?_); (case x1 => rfl); (case x2 => walk_at "hcr")))

set_option hygiene false in
local macro_rules | `(tactic| walk_at "n1") => `(tactic| (refine And.intro (by walk_at "sz") ?_; intro p1 np1; generalize hg : upd _ p1 _ = H1; have s1 := same_of hg np1; have v1 := at_of hg; clear hg))
set_option hygiene false in
local macro_rules | `(tactic| walk_at "n2") => `(tactic| (refine And.intro (by walk_at "sz") ?_; intro p2 np2; generalize hg : upd _ p2 _ = H2; have s2 := same_of hg np2; have v2 := at_of hg; clear hg))
set_option hygiene false in
local macro_rules | `(tactic| walk_at "n3") => `(tactic| (refine And.intro (by walk_at "sz") ?_; intro p3 np3; generalize hg : upd _ p3 _ = H3; have s3 := same_of hg np3; have v3 := at_of hg; clear hg))
set_option hygiene false in
local macro_rules | `(tactic| walk_at "n4") => `(tactic| (refine And.intro (by walk_at "sz") ?_; intro p4 np4; generalize hg : upd _ p4 _ = H4; have s4 := same_of hg np4; have v4 := at_of hg; clear hg))

theorem sIx_le_nat {n d k : Nat} {i : Int} (hi : i = (k : Int)) (h : k ≤ n) : HT.sIx n d (some i) = k := by
  rw [hi, HT.sIx_nat]
  omega
theorem cut_take {l : List Nat} {k : Nat} (h : k ≤ l.length) : cutS (tx l) none (some (k : Int)) = tx (l.take k) := by
  unfold cutS
  rw [tx_len, HT.sIx_none, sIx_le_nat rfl h, tx_list]
  rfl
theorem cut_drop {l : List Nat} {k : Nat} (h : k ≤ l.length) : cutS (tx l) (some (k : Int)) none = tx (l.drop k) := by
  unfold cutS
  rw [tx_len, HT.sIx_none, sIx_le_nat rfl h, tx_list]
  show tx ((l.drop k).take (l.length - k)) = _
  rw [List.take_of_length_le (by rw [List.length_drop]; exact Nat.le_refl _)]
abbrev nv (n : Nat) : V := .int (n : Nat)
theorem r_inC {c : Nat} {z : Str} {H : Hp} {Q : VK} (h : Q (.bl (decide (c ∈ z.cps.toList))) H) : rInU K (.str (tx [c])) (.str z) H Q := r_inS ⟨c, z, rfl, rfl, h⟩
theorem shaped_nvs (l : List Nat) : SeqAt.shaped (.list ((l.map fun n : Nat => (n : Int)).map PyData.int)) = true := shaped_list_ints _
theorem dp_ns {H : Hp} {a : Addr} {l : List Nat} (h : SqL K H a (l.map nv)) : Dp K H (.ref a) (.list ((l.map fun n : Nat => (n : Int)).map PyData.int)) := by
  have e : l.map nv = (l.map fun n : Nat => (n : Int)).map V.int := by rw [List.map_map]; rfl
  rw [e] at h
  exact .lst h (dpAll_ints _)
theorem r_neN {H : Hp} {Q : VK} {a b : Addr} {l m : List Nat} (h1 : SqL K H a (l.map nv)) (h2 : SqL K H b (m.map nv)) (h : Q (.bl (!decide (l = m))) H) : rNeU K (.ref a) (.ref b) H Q := by
  refine r_neUD (dp_ns h1) (dp_ns h2) (shaped_nvs _) (shaped_nvs _) ?_
  have e : PyData.eqv (.list ((l.map fun n : Nat => (n : Int)).map PyData.int)) (.list ((m.map fun n : Nat => (n : Int)).map PyData.int)) = decide (l = m) := by
    simp only [PyData.eqv, eqv_ints]
    refine decide_eq_decide.mpr ⟨fun z => ?_, fun z => by rw [z]⟩
    exact (List.map_inj_right fun x y h => Int.ofNat.inj h).mp z
  rw [e]
  exact h
/-! ### characters of quoted texts -/
def sp_byte_of (T : Txt K mg) : Sp := fun vs H Q _ => ∃ ch : Nat, vs = [.str (tx [ch])] ∧ Q (.int (ch : Nat)) H
theorem len_byte_of (T : Txt K mg) (vs : List V) (H : Hp) (Q : VK) (E : XK) (h : sp_byte_of T vs H Q E) : vs.length = 1 := by
  obtain ⟨_, rfl, _⟩ := h
  rfl
def t_byte_of (T : Txt K mg) : TS := (tRet (tCB (fun xs H Q => ∃ x : Str, xs = [V.str x] ∧ x.length = 1 ∧ Q (V.int (x.cps.getD 0 0 : Nat)) H) (tCons (tVar 0) tNil)))

theorem pure_byte_of (T : Txt K mg) (vs : List V) (H : Hp) (Q : VK) (E : XK) (h : sp_byte_of T vs H Q E) : t_byte_of T { nx := fun _ H' => Q .non H', rt := Q } (start ["character"] vs) H := by
  obtain ⟨ch, rfl, q⟩ := h
  unfold t_byte_of
  walk_at "rd"
  exact ⟨tx [ch], rfl, rfl, q⟩
theorem ok_byte_of (T : Txt K mg) : FnOk P w K mg base CX0 1 T.byte_of_a T.byte_of_d ["character"] (sp_byte_of T) := by
  refine T.byte_of_f.ok sc_byte_of (fun vs H Q E h => len_byte_of T vs H Q E h) (fun cdv A outer s H vs Q E hr h => ⟨t_byte_of T, PSs.nox ?_, pure_byte_of T vs H Q E h⟩)
  have hu := hu64 hr
  exact (pss_one (ps_ret (pe_callB call_ord (by rfl) T.n_ord (by decide +kernel) (pa_cons (pv 0) pa_nil))))

def hexes : List Nat := List.range' 48 10 ++ List.range' 65 6
theorem hexes_eq : (Str.ofString "0123456789ABCDEF").cps.toList = hexes := by decide +kernel
theorem hexes_is {d : Nat} (h : d ∈ hexes) : Hx.IsHex d := by
  unfold hexes at h
  rw [List.mem_append, List.mem_range'_1, List.mem_range'_1] at h
  unfold Hx.IsHex
  omega
/-- the digit in capitals, if it is one -/
def hexQ (r : RD) (ch : Nat) : Option Nat := if ch ∈ hexes then some ch else if r.fold = true then (match oc ch with | [d] => if d ∈ hexes then some d else none | _ => none) else none
theorem hexQ_in {r : RD} {ch d : Nat} (h : hexQ r ch = some d) : d ∈ hexes := by
  unfold hexQ at h
  by_cases h1 : ch ∈ hexes
  · rw [if_pos h1] at h
    cases h
    exact h1
  rw [if_neg h1] at h
  by_cases h2 : r.fold = true
  · rw [if_pos h2] at h
    revert h
    match oc ch with
    | [] => intro h; cases h
    | [x] =>
      intro h
      have h' : (if x ∈ hexes then some x else none) = some d := h
      by_cases h3 : x ∈ hexes
      · rw [if_pos h3] at h'
        cases h'
        exact h3
      · rw [if_neg h3] at h'
        cases h'
    | _ :: _ :: _ => intro h; cases h
  · rw [if_neg h2] at h
    cases h
def sp_hex_digit (T : Txt K mg) : Sp := fun vs H Q _ => ∃ rr r, ∃ ch : Nat, vs = [.ref rr, .str (tx [ch])] ∧ RulesAt T H rr r ∧ Q (.str (tx (hexQ r ch).toList)) H
theorem len_hex_digit (T : Txt K mg) (vs : List V) (H : Hp) (Q : VK) (E : XK) (h : sp_hex_digit T vs H Q E) : vs.length = 2 := by
  obtain ⟨_, _, _, rfl, _⟩ := h
  rfl
def t_hex_digit (T : Txt K mg) : TS := (tSeq (tIfS (tTest (tOp (rInU K) (tVar 1) (tC (.str (Str.ofString "0123456789ABCDEF"))))) (tRet (tVar 1)) tNext)
    (tSeq (tAsg (tIf (tB (tProp T.C_Rules (sp_Rules_fold T) [] E0 (tVar 0))) (tCall (sp_other_case T) [] E0 (tCons (tVar 1) tNil)) (tC (.str (Str.ofString "")))) (gName 2))
    (tRet (tIf (tAnd (tTest (tOp (rNeU K) (tVar 2) (tC (.str (Str.ofString ""))))) (tTest (tOp (rInU K) (tVar 2) (tC (.str (Str.ofString "0123456789ABCDEF")))))) (tVar 2) (tC (.str (Str.ofString "")))))))

theorem pure_hex_digit (T : Txt K mg) (vs : List V) (H : Hp) (Q : VK) (E : XK) (h : sp_hex_digit T vs H Q E) : t_hex_digit T { nx := fun _ H' => Q .non H', rt := Q } (start ["rules", "character", "folded"] vs) H := by
  obtain ⟨rr, r, ch, rfl, hr, q⟩ := h
  unfold t_hex_digit
  unfold hexQ at q
  walk_at "rd"
  refine r_inC ?_
  walk_at "rd"
  rw [hexes_eq]
  refine r_iteD (fun h1 => ?_) (fun h1 => ?_)
  · rw [if_pos h1] at q
    walk_at "rd"
    exact q
  rw [if_neg h1] at q
  walk_at "rd"
  cases hf : r.fold with
  | false =>
    rw [hf, if_neg (by decide)] at q
    walk_at "rd"
    rw [show decide (Str.ofString "" = Str.ofString "") = true from decide_eq_true rfl]
    walk_at "rd"
    exact q
  | true =>
    rw [if_pos hf] at q
    walk_at "rd"
    refine ⟨ch, rfl, ?_⟩
    have hl := oc_len ch
    revert q hl
    match oc ch with
    | [] =>
      intro q hl
      walk_at "rd"
      rw [show decide (tx [] = Str.ofString "") = true from decide_eq_true rfl]
      walk_at "rd"
      exact q
    | [d] =>
      intro q hl
      have q' : Q (.str (tx (if d ∈ hexes then some d else none : Option Nat).toList)) H := q
      walk_at "rd"
      rw [show decide (tx [d] = Str.ofString "") = false from decide_eq_false (fun z => by cases tx_inj (z.trans e_tx))]
      walk_at "rd"
      refine r_inC ?_
      walk_at "rd"
      rw [hexes_eq]
      refine r_iteD (fun h2 => ?_) (fun h2 => ?_)
      · rw [if_pos h2] at q'
        walk_at "rd"
        exact q'
      · rw [if_neg h2] at q'
        walk_at "rd"
        exact q'
    | _ :: _ :: _ =>
      intro q hl
      simp at hl
theorem ok_hex_digit (T : Txt K mg) : FnOk P w K mg base CX0 3 T.hex_digit_a T.hex_digit_d ["rules", "character"] (sp_hex_digit T) := by
  refine T.hex_digit_f.ok sc_hex_digit (fun vs H Q E h => len_hex_digit T vs H Q E h) (fun cdv A outer s H vs Q E hr h => ⟨t_hex_digit T, PSs.nox ?_, pure_hex_digit T vs H Q E h⟩)
  have hu := hu64 hr
  exact (pss_cons (ps_if (pt_cmpR op_inU (pv 1) (pe_glob (by rfl) T.k_HEX_DIGITS_g T.k_HEX_DIGITS_r) (by rfl)) (pss_one (ps_ret (pv 1))) pss_nil)
      (pss_cons (ps_set (i := 2) sc_hex_digit.nd rfl (.inl rfl) (pe_ifExp (pt_val (pe_prop (pv 0) T.C_Rules_c T.Rules_fold_p (ok_Rules_fold T) (hr.mono (by decide)) T.Rules_fold_b .nil pass0 rfl)) (pe_call (ok_other_case T) (hr.mono (by decide)) (by rfl) T.other_case_g T.other_case_f.kp T.other_case_b .nil pass0 (pa_cons (pv 1) pa_nil)) pe_str))
      (pss_one (ps_ret (pe_ifExp (PW.pt (pw_and (pt_cmpR (op_neU hu) (pv 2) pe_str (nomark _)) (pw_and1 (pt_cmpR op_inU (pv 2) (pe_glob (by rfl) T.k_HEX_DIGITS_g T.k_HEX_DIGITS_r) (by rfl))))) (pv 2) pe_str)))))

def sp_Quoted_column_behind (T : Txt K mg) : Sp := fun vs H Q _ => ∃ a c, ∃ n k : Nat, vs = [.ref a, .int n, .int k] ∧ WaysAt T H a c ∧ Q (.int ((if 0 < c.wd then n + k else 0 : Nat))) H
theorem len_Quoted_column_behind (T : Txt K mg) (vs : List V) (H : Hp) (Q : VK) (E : XK) (h : sp_Quoted_column_behind T vs H Q E) : vs.length = 3 := by
  obtain ⟨_, _, _, _, rfl, _⟩ := h
  rfl
def t_Quoted_column_behind (T : Txt K mg) : TS := (tRet (tIf (tTest (tOp rGtI (tProp T.C_Quoted (sp_Quoted_width T) [] E0 (tVar 0)) (tC (.int 0)))) (tOp (rAddU K) (tVar 1) (tVar 2)) (tC (.int 0))))

theorem pure_Quoted_column_behind (T : Txt K mg) (vs : List V) (H : Hp) (Q : VK) (E : XK) (h : sp_Quoted_column_behind T vs H Q E) : t_Quoted_column_behind T { nx := fun _ H' => Q .non H', rt := Q } (start ["self", "column", "size"] vs) H := by
  obtain ⟨a, c, n, k, rfl, hc, q⟩ := h
  unfold t_Quoted_column_behind
  walk_at "rd"
  refine r_iteD (fun h => ?_) (fun h => ?_)
  · rw [if_pos (show 0 < c.wd by omega)] at q
    walk_at "rd"
    exact q
  · rw [if_neg (show ¬ 0 < c.wd by omega)] at q
    walk_at "rd"
    exact q
theorem ok_Quoted_column_behind (T : Txt K mg) : FnOk P w K mg base CX0 3 T.Quoted_column_behind_a T.Quoted_column_behind_d ["self", "column", "size"] (sp_Quoted_column_behind T) := by
  refine T.Quoted_column_behind_f.ok sc_Quoted_column_behind (fun vs H Q E h => len_Quoted_column_behind T vs H Q E h) (fun cdv A outer s H vs Q E hr h => ⟨t_Quoted_column_behind T, PSs.nox ?_, pure_Quoted_column_behind T vs H Q E h⟩)
  have hu := hu64 hr
  exact (pss_one (ps_ret (pe_ifExp (pt_cmpR op_gt (pe_prop (pv 0) T.C_Quoted_c T.Quoted_width_p (ok_Quoted_width T) (hr.mono (by decide)) T.Quoted_width_b .nil pass0 rfl) pe_int (nomark _)) (pe_op op_addU (pv 1) (pv 2)) pe_int)))

def QD.fit (c : QD) (n k : Nat) : Bool := decide (c.wd = 0) || decide (n + k ≤ c.wd)
def sp_Quoted_fits (T : Txt K mg) : Sp := fun vs H Q _ => ∃ a c, ∃ n k : Nat, vs = [.ref a, .int n, .int k] ∧ WaysAt T H a c ∧ Q (.bl (c.fit n k)) H
theorem len_Quoted_fits (T : Txt K mg) (vs : List V) (H : Hp) (Q : VK) (E : XK) (h : sp_Quoted_fits T vs H Q E) : vs.length = 3 := by
  obtain ⟨_, _, _, _, rfl, _⟩ := h
  rfl
def t_Quoted_fits (T : Txt K mg) : TS := (tRet (tOrV (tOp (rEqU K) (tProp T.C_Quoted (sp_Quoted_width T) [] E0 (tVar 0)) (tC (.int 0))) (tOp rLeI (tOp (rAddU K) (tVar 1) (tVar 2)) (tProp T.C_Quoted (sp_Quoted_width T) [] E0 (tVar 0)))))

theorem pure_Quoted_fits (T : Txt K mg) (vs : List V) (H : Hp) (Q : VK) (E : XK) (h : sp_Quoted_fits T vs H Q E) : t_Quoted_fits T { nx := fun _ H' => Q .non H', rt := Q } (start ["self", "column", "size"] vs) H := by
  obtain ⟨a, c, n, k, rfl, hc, q⟩ := h
  unfold t_Quoted_fits
  unfold QD.fit at q
  walk_at "rd"
  by_cases h : c.wd = 0
  · rw [decide_eq_true h, Bool.true_or] at q
    rw [show decide ((c.wd : Int) = 0) = true from decide_eq_true (by omega)]
    walk_at "rd"
    exact q
  · rw [decide_eq_false h, Bool.false_or] at q
    rw [show decide ((c.wd : Int) = 0) = false from decide_eq_false (by omega)]
    walk_at "rd"
    rw [show decide ((n : Int) + (k : Int) ≤ (c.wd : Int)) = decide (n + k ≤ c.wd) from decide_eq_decide.mpr (by omega)]
    exact q
theorem ok_Quoted_fits (T : Txt K mg) : FnOk P w K mg base CX0 3 T.Quoted_fits_a T.Quoted_fits_d ["self", "column", "size"] (sp_Quoted_fits T) := by
  refine T.Quoted_fits_f.ok sc_Quoted_fits (fun vs H Q E h => len_Quoted_fits T vs H Q E h) (fun cdv A outer s H vs Q E hr h => ⟨t_Quoted_fits T, PSs.nox ?_, pure_Quoted_fits T vs H Q E h⟩)
  have hu := hu64 hr
  exact (pss_one (ps_ret (pe_or (pe_cmpR (op_eqU hu) (pe_prop (pv 0) T.C_Quoted_c T.Quoted_width_p (ok_Quoted_width T) (hr.mono (by decide)) T.Quoted_width_b .nil pass0 rfl) pe_int (nomark _)) (pe_one (pe_cmpR op_le (pe_op op_addU (pv 1) (pv 2)) (pe_prop (pv 0) T.C_Quoted_c T.Quoted_width_p (ok_Quoted_width T) (hr.mono (by decide)) T.Quoted_width_b .nil pass0 rfl) (nomark _))))))

def kindQ (ch : Nat) : Str := if ch = 10 then Str.ofString "line" else Str.ofString "sign"
def sp_Quoted_kind_of (T : Txt K mg) : Sp := fun vs H Q _ => ∃ (x y : V), ∃ ch : Nat, vs = [x, y, .str (tx [ch])] ∧ Q (.str (kindQ ch)) H
theorem len_Quoted_kind_of (T : Txt K mg) (vs : List V) (H : Hp) (Q : VK) (E : XK) (h : sp_Quoted_kind_of T vs H Q E) : vs.length = 3 := by
  obtain ⟨_, _, _, rfl, _⟩ := h
  rfl
theorem tx1_eq (ch d : Nat) : (tx [ch] = tx [d]) ↔ ch = d := ⟨fun e => by cases tx_inj e; rfl, fun e => by rw [e]⟩
def t_Quoted_kind_of (T : Txt K mg) : TS := (tRet (tIf (tTest (tOp (rEqU K) (tVar 2) (tC (.str (Str.ofString "\n"))))) (tC (.str (Str.ofString "line"))) (tC (.str (Str.ofString "sign")))))

theorem pure_Quoted_kind_of (T : Txt K mg) (vs : List V) (H : Hp) (Q : VK) (E : XK) (h : sp_Quoted_kind_of T vs H Q E) : t_Quoted_kind_of T { nx := fun _ H' => Q .non H', rt := Q } (start ["self", "rules", "character"] vs) H := by
  obtain ⟨x, y, ch, rfl, q⟩ := h
  unfold t_Quoted_kind_of
  unfold kindQ at q
  walk_at "rd"
  rw [nl_tx]
  refine r_iteD (fun h => ?_) (fun h => ?_)
  · rw [if_pos ((tx1_eq ch 10).mp h)] at q
    walk_at "rd"
    exact q
  · rw [if_neg (fun z => h ((tx1_eq ch 10).mpr z))] at q
    walk_at "rd"
    exact q
theorem ok_Quoted_kind_of (T : Txt K mg) : FnOk P w K mg base CX0 1 T.Quoted_kind_of_a T.Quoted_kind_of_d ["self", "rules", "character"] (sp_Quoted_kind_of T) := by
  refine T.Quoted_kind_of_f.ok sc_Quoted_kind_of (fun vs H Q E h => len_Quoted_kind_of T vs H Q E h) (fun cdv A outer s H vs Q E hr h => ⟨t_Quoted_kind_of T, PSs.nox ?_, pure_Quoted_kind_of T vs H Q E h⟩)
  have hu := hu64 hr
  exact (pss_one (ps_ret (pe_ifExp (pt_cmpR (op_eqU hu) (pv 2) (pe_glob (by rfl) T.k_NEWLINE_g T.k_NEWLINE_r) (nomark _)) pe_str pe_str)))

def roomQ (c : QD) (r : RD) (col k : Nat) : Bool := !r.lines || c.fit col k
def nextQ (c : QD) (r : RD) (col : Nat) : Nat := if r.lines = true then (if 0 < c.wd then col + 1 else 0) else 0
def sp_Quoted_has_room (T : Txt K mg) : Sp := fun vs H Q _ => ∃ a rr c r, ∃ n k : Nat, vs = [.ref a, .ref rr, .int n, .int k] ∧ WaysAt T H a c ∧ RulesAt T H rr r ∧ Q (.bl (roomQ c r n k)) H
theorem len_Quoted_has_room (T : Txt K mg) (vs : List V) (H : Hp) (Q : VK) (E : XK) (h : sp_Quoted_has_room T vs H Q E) : vs.length = 4 := by
  obtain ⟨_, _, _, _, _, _, rfl, _⟩ := h
  rfl
def t_Quoted_has_room (T : Txt K mg) : TS := (tRet (tOrV (tNotV (tProp T.C_Rules (sp_Rules_lines T) [] E0 (tVar 1))) (tMeth T.C_Quoted "fits" (sp_Quoted_fits T) [] E0 (tVar 0) (tCons (tVar 2) (tCons (tVar 3) tNil)))))

theorem pure_Quoted_has_room (T : Txt K mg) (vs : List V) (H : Hp) (Q : VK) (E : XK) (h : sp_Quoted_has_room T vs H Q E) : t_Quoted_has_room T { nx := fun _ H' => Q .non H', rt := Q } (start ["self", "rules", "column", "size"] vs) H := by
  obtain ⟨a, rr, c, r, n, k, rfl, hc, hr, q⟩ := h
  unfold t_Quoted_has_room
  unfold roomQ at q
  walk_at "rd"
  cases hl : r.lines with
  | false =>
    rw [hl] at q
    walk_at "rd"
    exact q
  | true =>
    rw [hl] at q
    walk_at "rd"
    exact ⟨a, c, n, k, rfl, hc, q⟩
theorem ok_Quoted_has_room (T : Txt K mg) : FnOk P w K mg base CX0 4 T.Quoted_has_room_a T.Quoted_has_room_d ["self", "rules", "column", "size"] (sp_Quoted_has_room T) := by
  refine T.Quoted_has_room_f.ok sc_Quoted_has_room (fun vs H Q E h => len_Quoted_has_room T vs H Q E h) (fun cdv A outer s H vs Q E hr h => ⟨t_Quoted_has_room T, PSs.nox ?_, pure_Quoted_has_room T vs H Q E h⟩)
  have hu := hu64 hr
  exact (pss_one (ps_ret (pe_or (pe_not (pe_prop (pv 1) T.C_Rules_c T.Rules_lines_p (ok_Rules_lines T) (hr.mono (by decide)) T.Rules_lines_b .nil pass0 rfl)) (pe_one (pe_meth (pv 0) T.C_Quoted_c T.Quoted_fits_m (ok_Quoted_fits T) (hr.mono (by decide)) T.Quoted_fits_b .nil pass0 (pa_cons (pv 2) (pa_cons (pv 3) pa_nil)))))))

def sp_Quoted_next_place (T : Txt K mg) : Sp := fun vs H Q _ => ∃ a rr c r, ∃ n : Nat, vs = [.ref a, .ref rr, .int n] ∧ WaysAt T H a c ∧ RulesAt T H rr r ∧ Q (.int (nextQ c r n : Nat)) H
theorem len_Quoted_next_place (T : Txt K mg) (vs : List V) (H : Hp) (Q : VK) (E : XK) (h : sp_Quoted_next_place T vs H Q E) : vs.length = 3 := by
  obtain ⟨_, _, _, _, _, rfl, _⟩ := h
  rfl
def t_Quoted_next_place (T : Txt K mg) : TS := (tRet (tIf (tB (tProp T.C_Rules (sp_Rules_lines T) [] E0 (tVar 1))) (tMeth T.C_Quoted "column_behind" (sp_Quoted_column_behind T) [] E0 (tVar 0) (tCons (tVar 2) (tCons (tC (.int 1)) tNil))) (tC (.int 0))))

theorem pure_Quoted_next_place (T : Txt K mg) (vs : List V) (H : Hp) (Q : VK) (E : XK) (h : sp_Quoted_next_place T vs H Q E) : t_Quoted_next_place T { nx := fun _ H' => Q .non H', rt := Q } (start ["self", "rules", "column"] vs) H := by
  obtain ⟨a, rr, c, r, n, rfl, hc, hr, q⟩ := h
  unfold t_Quoted_next_place
  unfold nextQ at q
  walk_at "rd"
  cases hl : r.lines with
  | false =>
    rw [hl, if_neg (by decide)] at q
    walk_at "rd"
    exact q
  | true =>
    rw [if_pos hl] at q
    walk_at "rd"
    exact ⟨a, c, n, 1, rfl, hc, q⟩
theorem ok_Quoted_next_place (T : Txt K mg) : FnOk P w K mg base CX0 4 T.Quoted_next_place_a T.Quoted_next_place_d ["self", "rules", "column"] (sp_Quoted_next_place T) := by
  refine T.Quoted_next_place_f.ok sc_Quoted_next_place (fun vs H Q E h => len_Quoted_next_place T vs H Q E h) (fun cdv A outer s H vs Q E hr h => ⟨t_Quoted_next_place T, PSs.nox ?_, pure_Quoted_next_place T vs H Q E h⟩)
  have hu := hu64 hr
  exact (pss_one (ps_ret (pe_ifExp (pt_val (pe_prop (pv 1) T.C_Rules_c T.Rules_lines_p (ok_Rules_lines T) (hr.mono (by decide)) T.Rules_lines_b .nil pass0 rfl)) (pe_meth (pv 0) T.C_Quoted_c T.Quoted_column_behind_m (ok_Quoted_column_behind T) (hr.mono (by decide)) T.Quoted_column_behind_b .nil pass0 (pa_cons (pv 2) (pa_cons pe_int pa_nil))) pe_int)))


end
section
variable {w : World} {K : PySem.W.Frag} {mg : Str → Option Value} {base : Heap}
local macro_rules | `(tactic| walk_at "hcq") => `(tactic| first
  | assumption
  | ((refine WaysAt.same (H := ?xH) ?xb ?xa); (case xa => assumption); (case xb => walk_at "hcq")))
local macro_rules | `(tactic| walk_at "rd0") => `(tactic| first
  | ((with_reducible refine r_getQ (a := ?xa) (c := ?xc) ?x1 ?x2 ?_); (case x1 => rfl); (case x2 => walk_at "hcq"))
  | ((with_reducible refine r_methQ (a := ?xa) (c := ?xc) ?x1 ?x2 ?x3 ?_); (case x1 => rfl); (case x2 => walk_at "hcq"); (case x3 => exact ⟨fun _ => rfl, fun _ _ => rfl⟩))
  | (with_reducible refine r_fmtB ?_)
  | (with_reducible refine r_dget ?_)
  | (with_reducible refine r_m0 ?_)
  | (with_reducible refine r_makeK ?_)
  | (with_reducible refine r_cval ?_)
  | (with_reducible refine r_sfld ?_)
  | (with_reducible refine r_isiI ?_)
  | (with_reducible refine r_isiIB ?_)
  | (with_reducible refine r_isiBB ?_)
  | (with_reducible refine r_isiS ?_)
  | (with_reducible refine r_int1I ?_)
  | (with_reducible refine r_int1B ?_))

local macro_rules | `(tactic| walk_at "hcr") => `(tactic| first
  | assumption
  | ((refine RulesAt.same (H := ?xH) ?xb ?xa); (case xa => assumption); (case xb => walk_at "hcr")))
local macro_rules | `(tactic| walk_at "rd0") => `(tactic| first
  | ((with_reducible refine r_getR (a := ?xa) (r := ?xr) ?x1 ?x2 ?_); (case x1 => rfl); (case x2 => walk_at "hcr")))

set_option hygiene false in
local macro_rules | `(tactic| walk_at "n1") => `(tactic| (refine And.intro (by walk_at "sz") ?_; intro p1 np1; generalize hg : upd _ p1 _ = H1; have s1 := same_of hg np1; have v1 := at_of hg; clear hg))
set_option hygiene false in
local macro_rules | `(tactic| walk_at "n2") => `(tactic| (refine And.intro (by walk_at "sz") ?_; intro p2 np2; generalize hg : upd _ p2 _ = H2; have s2 := same_of hg np2; have v2 := at_of hg; clear hg))
set_option hygiene false in
local macro_rules | `(tactic| walk_at "n3") => `(tactic| (refine And.intro (by walk_at "sz") ?_; intro p3 np3; generalize hg : upd _ p3 _ = H3; have s3 := same_of hg np3; have v3 := at_of hg; clear hg))
set_option hygiene false in
local macro_rules | `(tactic| walk_at "n4") => `(tactic| (refine And.intro (by walk_at "sz") ?_; intro p4 np4; generalize hg : upd _ p4 _ = H4; have s4 := same_of hg np4; have v4 := at_of hg; clear hg))

/-! ### a character of a quoted text is taken -/
structure RQ where
  col : Nat
  beg : List Nat
def FitQ (s : RQ) : Prop := s.beg = [] ∨ s.beg = [32] ∨ s.beg = [61] ∨ s.beg = [61, 10] ∨ ∃ d ∈ hexes, s.beg = [61, d]
def digQ (c : QD) (r : RD) (s : RQ) (ch : Nat) : Option (List Nat × RQ) :=
  if ch = 10 ∧ s.beg = [61] then some ([], ⟨0, if r.loose = true then [] else [61, 10]⟩) else
  match hexQ r ch with
  | none => none
  | some d => if s.beg ≠ [61] then some ([Hx.hexNum (s.beg.drop 1 ++ [d])], ⟨nextQ c r s.col, []⟩) else if roomQ c r s.col 2 = true then some ([], ⟨nextQ c r s.col, [61, d]⟩) else none
def takeQ (c : QD) (r : RD) (s : RQ) (ch : Nat) : Option (List Nat × RQ) :=
  if s.beg.take 1 = [61] ∧ s.beg ≠ [61, 10] then digQ c r s ch else
  if ch = 10 then (if c.bin = true ∨ s.beg ≠ [] then none else some ([10], ⟨0, []⟩)) else
  if ch = 32 ∧ r.loose = false then (if roomQ c r s.col 2 = true then some ([32], ⟨nextQ c r s.col, [32]⟩) else none) else
  if roomQ c r s.col 1 = false then none else
  if ch = 61 then some ([], ⟨nextQ c r s.col, [61]⟩) else some ([ch], ⟨nextQ c r s.col, []⟩)
theorem FitQ.dig {c : QD} {r : RD} {s s' : RQ} {ch : Nat} {ds : List Nat} (h : digQ c r s ch = some (ds, s')) : FitQ s' := by
  unfold digQ at h
  by_cases h1 : ch = 10 ∧ s.beg = [61]
  · rw [if_pos h1] at h
    cases h
    by_cases h2 : r.loose = true
    · exact .inl (if_pos h2)
    · exact .inr (.inr (.inr (.inl (if_neg h2))))
  rw [if_neg h1] at h
  cases hd : hexQ r ch with
  | none =>
    rw [hd] at h
    cases h
  | some d =>
    rw [hd] at h
    have h' : (if s.beg ≠ [61] then some ([Hx.hexNum (s.beg.drop 1 ++ [d])], ⟨nextQ c r s.col, []⟩) else if roomQ c r s.col 2 = true then some ([], ⟨nextQ c r s.col, [61, d]⟩) else none : Option (List Nat × RQ)) = some (ds, s') := h
    by_cases h2 : s.beg ≠ [61]
    · rw [if_pos h2] at h'
      cases h'
      exact .inl rfl
    rw [if_neg h2] at h'
    by_cases h3 : roomQ c r s.col 2 = true
    · rw [if_pos h3] at h'
      cases h'
      exact .inr (.inr (.inr (.inr ⟨d, hexQ_in hd, rfl⟩)))
    · rw [if_neg h3] at h'
      cases h'
theorem FitQ.take {c : QD} {r : RD} {s s' : RQ} {ch : Nat} {ds : List Nat} (h : takeQ c r s ch = some (ds, s')) : FitQ s' := by
  unfold takeQ at h
  by_cases h1 : s.beg.take 1 = [61] ∧ s.beg ≠ [61, 10]
  · rw [if_pos h1] at h
    exact FitQ.dig h
  rw [if_neg h1] at h
  by_cases h2 : ch = 10
  · rw [if_pos h2] at h
    by_cases h3 : c.bin = true ∨ s.beg ≠ []
    · rw [if_pos h3] at h
      cases h
    · rw [if_neg h3] at h
      cases h
      exact .inl rfl
  rw [if_neg h2] at h
  by_cases h3 : ch = 32 ∧ r.loose = false
  · rw [if_pos h3] at h
    by_cases h4 : roomQ c r s.col 2 = true
    · rw [if_pos h4] at h
      cases h
      exact .inr (.inl rfl)
    · rw [if_neg h4] at h
      cases h
  rw [if_neg h3] at h
  by_cases h4 : roomQ c r s.col 1 = false
  · rw [if_pos h4] at h
    cases h
  rw [if_neg h4] at h
  by_cases h5 : ch = 61
  · rw [if_pos h5] at h
    cases h
    exact .inr (.inr (.inl rfl))
  · rw [if_neg h5] at h
    cases h
    exact .inl rfl
/-- what taking promises: f tells what comes of it -/
def spTk (T : Txt K mg) (f : QD → RD → RQ → Nat → Option (List Nat × RQ)) (ok : RQ → Prop) : Sp := fun vs H Q _ => ∃ a rr c r st, ∃ s : RQ, ∃ ch : Nat, vs = [.ref a, .ref rr, .ref st, .str (tx [ch])] ∧ WaysAt T H a c ∧ RulesAt T H rr r ∧ QRStAt H st s.col s.beg ∧ FitQ s ∧ ok s ∧
  (f c r s ch = none → ∀ H', Same H H' → Q .non H') ∧
  ∀ ds s', f c r s ch = some (ds, s') → ∀ p l st' H', Same H H' → H p = none → H l = none → (st' = st ∨ H st' = none) → H' p = some (.tup [.ref l, .ref st']) → H' l = some (.lst (ds.map nv)) → QRStAt H' st' s'.col s'.beg → Q (.ref p) H'
theorem len_spTk (T : Txt K mg) (f) (ok) (vs : List V) (H : Hp) (Q : VK) (E : XK) (h : spTk T f ok vs H Q E) : vs.length = 4 := by
  obtain ⟨_, _, _, _, _, _, _, rfl, _⟩ := h
  rfl
abbrev sp_Quoted_take_digit (T : Txt K mg) : Sp := spTk T digQ fun s => s.beg.take 1 = [61] ∧ s.beg ≠ [61, 10]
abbrev sp_Quoted_take (T : Txt K mg) : Sp := spTk T takeQ fun _ => True
theorem len_Quoted_take_digit (T : Txt K mg) (vs : List V) (H : Hp) (Q : VK) (E : XK) (h : sp_Quoted_take_digit T vs H Q E) : vs.length = 4 := len_spTk T _ _ vs H Q E h
theorem len_Quoted_take (T : Txt K mg) (vs : List V) (H : Hp) (Q : VK) (E : XK) (h : sp_Quoted_take T vs H Q E) : vs.length = 4 := len_spTk T _ _ vs H Q E h
set_option hygiene false in
local macro_rules | `(tactic| walk_at "gt") => `(tactic| (walk_at "n1"; walk_at "rd"; walk_at "n2"; walk_at "rd"; walk_at "n3"; exact qs _ _ rfl p3 p1 p2 H3 ((s1.trans s2).trans s3) ((s1.trans s2).free np3) np1 (.inr (s1.free np2)) v3 ((s2.trans s3) _ _ v1) (s3 _ _ v2)))
def t_Quoted_take_digit (T : Txt K mg) : TS := (tSeq (tAsg (tVar 2) (gTup K 2 (gCons (gName 4) (gCons (gName 5) gNil))))
    (tSeq (tIfS (tAnd (tTest (tOp (rEqU K) (tVar 3) (tC (.str (Str.ofString "\n"))))) (tTest (tOp (rEqU K) (tVar 5) (tC (.str (Str.ofString "=")))))) (tRet (tTup (tCons (tLst tNil) (tCons (tTup (tCons (tC (.int 0)) (tCons (tIf (tB (tProp T.C_Rules (sp_Rules_loose T) [] E0 (tVar 1))) (tC (.str (Str.ofString ""))) (tC (.str (Str.ofString "=\n")))) tNil))) tNil)))) tNext)
    (tSeq (tAsg (tCall (sp_hex_digit T) [] E0 (tCons (tVar 1) (tCons (tVar 3) tNil))) (gName 6))
    (tSeq (tIfS (tTest (tOp (rEqU K) (tVar 6) (tC (.str (Str.ofString ""))))) (tRet (tC .non)) tNext)
    (tSeq (tAsg (tMeth T.C_Quoted "next_place" (sp_Quoted_next_place T) [] E0 (tVar 0) (tCons (tVar 1) (tCons (tVar 4) tNil))) (gName 7))
    (tSeq (tIfS (tTest (tOp (rNeU K) (tVar 5) (tC (.str (Str.ofString "="))))) (tRet (tTup (tCons (tLst (tCons (tCB rIntHex (tCons (tOp (rAddU K) (tSl (rSlU K) (tVar 5) (tPart (tC (.int 1))) tNoPart) (tVar 6)) (tCons (tC (.int 16)) tNil))) tNil)) (tCons (tTup (tCons (tVar 7) (tCons (tC (.str (Str.ofString ""))) tNil))) tNil)))) tNext)
    (tRet (tIf (tB (tMeth T.C_Quoted "has_room" (sp_Quoted_has_room T) [] E0 (tVar 0) (tCons (tVar 1) (tCons (tVar 4) (tCons (tC (.int 2)) tNil))))) (tTup (tCons (tLst tNil) (tCons (tTup (tCons (tVar 7) (tCons (tOp (rAddU K) (tC (.str (Str.ofString "="))) (tVar 6)) tNil))) tNil))) (tC .non)))))))))

theorem pure_Quoted_take_digit (T : Txt K mg) (vs : List V) (H : Hp) (Q : VK) (E : XK) (h : sp_Quoted_take_digit T vs H Q E) : t_Quoted_take_digit T { nx := fun _ H' => Q .non H', rt := Q } (start ["self", "rules", "state", "character", "column", "begun", "digit", "after"] vs) H := by
  obtain ⟨a, rr, c, r, st, s, ch, rfl, hc, hr, hst, F, ⟨g1, g2⟩, qn, qs⟩ := h
  unfold QRStAt at hst qs
  unfold t_Quoted_take_digit
  unfold digQ at qn qs
  walk_at "rd"
  rw [nl_tx, esc_tx]
  have main : ¬ (ch = 10 ∧ s.beg = [61]) → (tSeq (tAsg (tCall (sp_hex_digit T) [] E0 (tCons (tVar 1) (tCons (tVar 3) tNil))) (gName 6))
    (tSeq (tIfS (tTest (tOp (rEqU K) (tVar 6) (tC (.str (Str.ofString ""))))) (tRet (tC .non)) tNext)
    (tSeq (tAsg (tMeth T.C_Quoted "next_place" (sp_Quoted_next_place T) [] E0 (tVar 0) (tCons (tVar 1) (tCons (tVar 4) tNil))) (gName 7))
    (tSeq (tIfS (tTest (tOp (rNeU K) (tVar 5) (tC (.str (Str.ofString "="))))) (tRet (tTup (tCons (tLst (tCons (tCB rIntHex (tCons (tOp (rAddU K) (tSl (rSlU K) (tVar 5) (tPart (tC (.int 1))) tNoPart) (tVar 6)) (tCons (tC (.int 16)) tNil))) tNil)) (tCons (tTup (tCons (tVar 7) (tCons (tC (.str (Str.ofString ""))) tNil))) tNil)))) tNext)
    (tRet (tIf (tB (tMeth T.C_Quoted "has_room" (sp_Quoted_has_room T) [] E0 (tVar 0) (tCons (tVar 1) (tCons (tVar 4) (tCons (tC (.int 2)) tNil))))) (tTup (tCons (tLst tNil) (tCons (tTup (tCons (tVar 7) (tCons (tOp (rAddU K) (tC (.str (Str.ofString "="))) (tVar 6)) tNil))) tNil))) (tC .non))))))) { nx := fun _ H' => Q .non H', rt := Q } [some (.ref a), some (.ref rr), some (.ref st), some (.str (tx [ch])), some (.int (s.col : Nat)), some (.str (tx s.beg)), none, none] H := by
    intro h1
    rw [if_neg h1] at qn qs
    walk_at "rd"
    refine ⟨rr, r, ch, rfl, hr, ?_⟩
    walk_at "rd"
    rw [e_tx, esc_tx]
    cases hd : hexQ r ch with
    | none =>
      rw [hd] at qn
      rw [show decide (tx (none : Option Nat).toList = tx []) = true from decide_eq_true rfl]
      walk_at "rd"
      exact qn rfl H (Same.refl H)
    | some d =>
    have hdx := hexQ_in hd
    rw [hd] at qn qs
    have qn' : (if s.beg ≠ [61] then some ([Hx.hexNum (s.beg.drop 1 ++ [d])], ⟨nextQ c r s.col, []⟩) else if roomQ c r s.col 2 = true then some ([], ⟨nextQ c r s.col, [61, d]⟩) else none : Option (List Nat × RQ)) = none → ∀ H', Same H H' → Q .non H' := qn
    have qs' : ∀ ds s', (if s.beg ≠ [61] then some ([Hx.hexNum (s.beg.drop 1 ++ [d])], ⟨nextQ c r s.col, []⟩) else if roomQ c r s.col 2 = true then some ([], ⟨nextQ c r s.col, [61, d]⟩) else none : Option (List Nat × RQ)) = some (ds, s') → ∀ p l st' H', Same H H' → H p = none → H l = none → (st' = st ∨ H st' = none) → H' p = some (.tup [.ref l, .ref st']) → H' l = some (.lst (ds.map nv)) → H' st' = some (.tup [.int s'.col, .str (tx s'.beg)]) → Q (.ref p) H' := qs
    clear qn qs
    have qn := qn'
    have qs := qs'
    clear qn' qs'
    rw [show decide (tx (some d : Option Nat).toList = tx []) = false from decide_eq_false (fun z => by cases tx_inj z)]
    walk_at "rd"
    refine ⟨a, rr, c, r, s.col, rfl, hc, hr, ?_⟩
    walk_at "rd"
    rw [tx_dec]
    by_cases h2 : s.beg = [61]
    · rw [if_neg (fun z => z h2)] at qn qs
      rw [decide_eq_true h2]
      walk_at "rd"
      refine ⟨a, rr, c, r, s.col, 2, rfl, hc, hr, ?_⟩
      walk_at "rd"
      refine r_iteB (fun h5 => ?_) (fun h5 => ?_)
      · rw [if_pos h5] at qs
        walk_at "rd"
        walk_at "n1"
        walk_at "rd"
        refine r_addUS (smallS (by rw [tx_len, tx_len]; show 2 ≤ 100000; decide)) ?_
        rw [tx_app]
        walk_at "rd"
        walk_at "n2"
        walk_at "rd"
        walk_at "n3"
        exact qs _ _ rfl p3 p1 p2 H3 ((s1.trans s2).trans s3) ((s1.trans s2).free np3) np1 (.inr (s1.free np2)) v3 ((s2.trans s3) _ _ v1) (s3 _ _ v2)
      · rw [if_neg (by rw [h5]; decide)] at qn
        walk_at "rd"
        exact qn rfl H (Same.refl _)
    · rw [if_pos h2] at qs
      rw [decide_eq_false h2]
      walk_at "rd"
      have hb : ∃ x ∈ hexes, s.beg = [61, x] := by
        rcases F with z | z | z | z | z
        · rw [z] at g1; cases g1
        · rw [z] at g1; cases g1
        · exact absurd z h2
        · exact absurd z g2
        · exact z
      obtain ⟨x, hx, ex⟩ := hb
      rw [ex] at qs ⊢
      refine r_slUS (smallS (by rw [tx_len]; show 2 ≤ 100000; decide)) ?_
      rw [show (1 : Int) = ((1 : Nat) : Int) from rfl, cut_drop (by show 1 ≤ 2; decide)]
      walk_at "rd"
      refine r_addUS (smallS (by rw [tx_len, tx_len]; show 2 ≤ 100000; decide)) ?_
      rw [tx_app]
      walk_at "rd"
      refine r_intHex (l := [x, d]) (by simp) (by show 2 ≤ 640; decide) (fun y hy => ?_) ?_
      · rcases List.mem_cons.mp hy with rfl | hy
        · exact hexes_is hx
        · rw [List.mem_singleton.mp hy]
          exact hexes_is hdx
      walk_at "rd"
      walk_at "gt"
  by_cases h1 : ch = 10
  · rw [decide_eq_true ((tx1_eq ch 10).mpr h1)]
    walk_at "rd"
    rw [tx_dec]
    by_cases h2 : s.beg = [61]
    · rw [if_pos ⟨h1, h2⟩] at qs
      rw [decide_eq_true h2]
      walk_at "rd"
      walk_at "n1"
      walk_at "rd"
      refine r_iteB (fun h5 => ?_) (fun h5 => ?_)
      · rw [if_pos h5] at qs
        walk_at "rd"
        walk_at "n2"
        walk_at "rd"
        walk_at "n3"
        exact qs _ _ rfl p3 p1 p2 H3 ((s1.trans s2).trans s3) ((s1.trans s2).free np3) np1 (.inr (s1.free np2)) v3 ((s2.trans s3) _ _ v1) (s3 _ _ v2)
      · rw [if_neg (by rw [h5]; decide)] at qs
        walk_at "rd"
        walk_at "n2"
        walk_at "rd"
        walk_at "n3"
        exact qs _ _ rfl p3 p1 p2 H3 ((s1.trans s2).trans s3) ((s1.trans s2).free np3) np1 (.inr (s1.free np2)) v3 ((s2.trans s3) _ _ v1) (s3 _ _ v2)
    · rw [decide_eq_false h2]
      walk_at "rx"
      exact main fun z => h2 z.2
  · rw [decide_eq_false (fun z => h1 ((tx1_eq ch 10).mp z))]
    walk_at "rx"
    exact main fun z => h1 z.1
theorem ok_Quoted_take_digit (T : Txt K mg) : FnOk P w K mg base CX0 5 T.Quoted_take_digit_a T.Quoted_take_digit_d ["self", "rules", "state", "character"] (sp_Quoted_take_digit T) := by
  refine T.Quoted_take_digit_f.ok sc_Quoted_take_digit (fun vs H Q E h => len_Quoted_take_digit T vs H Q E h) (fun cdv A outer s H vs Q E hr h => ⟨t_Quoted_take_digit T, PSs.nox ?_, pure_Quoted_take_digit T vs H Q E h⟩)
  have hu := hu64 hr
  exact (pss_cons (ps_asg (pv 2) (pg_tup (by rfl) (pgs_cons (pg_name (i := 4) sc_Quoted_take_digit.nd rfl (.inl rfl)) (pgs_cons (pg_name (i := 5) sc_Quoted_take_digit.nd rfl (.inl rfl)) pgs_nil))))
      (pss_cons (ps_if (PW.pt (pw_and (pt_cmpR (op_eqU hu) (pv 3) (pe_glob (by rfl) T.k_NEWLINE_g T.k_NEWLINE_r) (nomark _)) (pw_and1 (pt_cmpR (op_eqU hu) (pv 5) (pe_glob (by rfl) T.k_ESCAPE_g T.k_ESCAPE_r) (nomark _))))) (pss_one (ps_ret (pe_tup (pa_cons (pe_lst pa_nil) (pa_cons (pe_tup (pa_cons pe_int (pa_cons (pe_ifExp (pt_val (pe_prop (pv 1) T.C_Rules_c T.Rules_loose_p (ok_Rules_loose T) (hr.mono (by decide)) T.Rules_loose_b .nil pass0 rfl)) pe_str (pe_glob (by rfl) T.k_SOFT_BREAK_g T.k_SOFT_BREAK_r)) pa_nil))) pa_nil))))) pss_nil)
      (pss_cons (ps_set (i := 6) sc_Quoted_take_digit.nd rfl (.inl rfl) (pe_call (ok_hex_digit T) (hr.mono (by decide)) (by rfl) T.hex_digit_g T.hex_digit_f.kp T.hex_digit_b .nil pass0 (pa_cons (pv 1) (pa_cons (pv 3) pa_nil))))
      (pss_cons (ps_if (pt_cmpR (op_eqU hu) (pv 6) pe_str (nomark _)) (pss_one (ps_ret pe_non)) pss_nil)
      (pss_cons (ps_set (i := 7) sc_Quoted_take_digit.nd rfl (.inl rfl) (pe_meth (pv 0) T.C_Quoted_c T.Quoted_next_place_m (ok_Quoted_next_place T) (hr.mono (by decide)) T.Quoted_next_place_b .nil pass0 (pa_cons (pv 1) (pa_cons (pv 4) pa_nil))))
      (pss_cons (ps_if (pt_cmpR (op_neU hu) (pv 5) (pe_glob (by rfl) T.k_ESCAPE_g T.k_ESCAPE_r) (nomark _)) (pss_one (ps_ret (pe_tup (pa_cons (pe_lst (pa_cons (pe_callTy call_int_hex (by rfl) T.n_int (by decide +kernel) (pa_cons (pe_op op_addU (pe_slice sl_U (pv 5) (po_some pe_int) po_none) (pv 6)) (pa_cons pe_int pa_nil))) pa_nil)) (pa_cons (pe_tup (pa_cons (pv 7) (pa_cons pe_str pa_nil))) pa_nil))))) pss_nil)
      (pss_one (ps_ret (pe_ifExp (pt_val (pe_meth (pv 0) T.C_Quoted_c T.Quoted_has_room_m (ok_Quoted_has_room T) (hr.mono (by decide)) T.Quoted_has_room_b .nil pass0 (pa_cons (pv 1) (pa_cons (pv 4) (pa_cons pe_int pa_nil))))) (pe_tup (pa_cons (pe_lst pa_nil) (pa_cons (pe_tup (pa_cons (pv 7) (pa_cons (pe_op op_addU (pe_glob (by rfl) T.k_ESCAPE_g T.k_ESCAPE_r) (pv 6)) pa_nil))) pa_nil))) pe_non)))))))))

theorem FitQ.len {s : RQ} (F : FitQ s) : s.beg.length ≤ 2 := by
  rcases F with z | z | z | z | ⟨_, _, z⟩ <;> rw [z] <;> simp
theorem cut_take1 {l : List Nat} (h : l.length ≤ 2) : cutS (tx l) none (some (1 : Int)) = tx (l.take 1) := by
  by_cases h0 : l = []
  · subst h0
    rfl
  · rw [show (1 : Int) = ((1 : Nat) : Int) from rfl, cut_take (by cases l with | nil => exact absurd rfl h0 | cons a r => exact Nat.le_add_left ..)]
def t_Quoted_take (T : Txt K mg) : TS := (tSeq (tAsg (tVar 2) (gTup K 2 (gCons (gName 4) (gCons (gName 5) gNil))))
    (tSeq (tIfS (tAnd (tTest (tOp (rEqU K) (tSl (rSlU K) (tVar 5) tNoPart (tPart (tC (.int 1)))) (tC (.str (Str.ofString "="))))) (tTest (tOp (rNeU K) (tVar 5) (tC (.str (Str.ofString "=\n")))))) (tRet (tMeth T.C_Quoted "take_digit" (sp_Quoted_take_digit T) [] E0 (tVar 0) (tCons (tVar 1) (tCons (tVar 2) (tCons (tVar 3) tNil))))) tNext)
    (tSeq (tIfS (tTest (tOp (rEqU K) (tVar 3) (tC (.str (Str.ofString "\n"))))) (tRet (tIf (tOr (tB (tProp T.C_Quoted (sp_Quoted_binary T) [] E0 (tVar 0))) (tTest (tOp (rNeU K) (tVar 5) (tC (.str (Str.ofString "")))))) (tC .non) (tTup (tCons (tLst (tCons (tC (.int 10)) tNil)) (tCons (tTup (tCons (tC (.int 0)) (tCons (tC (.str (Str.ofString ""))) tNil))) tNil))))) tNext)
    (tSeq (tAsg (tMeth T.C_Quoted "next_place" (sp_Quoted_next_place T) [] E0 (tVar 0) (tCons (tVar 1) (tCons (tVar 4) tNil))) (gName 6))
    (tSeq (tIfS (tAnd (tTest (tOp (rEqU K) (tVar 3) (tC (.str (Str.ofString " "))))) (tNot (tB (tProp T.C_Rules (sp_Rules_loose T) [] E0 (tVar 1))))) (tRet (tIf (tB (tMeth T.C_Quoted "has_room" (sp_Quoted_has_room T) [] E0 (tVar 0) (tCons (tVar 1) (tCons (tVar 4) (tCons (tC (.int 2)) tNil))))) (tTup (tCons (tLst (tCons (tC (.int 32)) tNil)) (tCons (tTup (tCons (tVar 6) (tCons (tC (.str (Str.ofString " "))) tNil))) tNil))) (tC .non))) tNext)
    (tSeq (tIfS (tNot (tB (tMeth T.C_Quoted "has_room" (sp_Quoted_has_room T) [] E0 (tVar 0) (tCons (tVar 1) (tCons (tVar 4) (tCons (tC (.int 1)) tNil)))))) (tRet (tC .non)) tNext)
    (tSeq (tIfS (tTest (tOp (rEqU K) (tVar 3) (tC (.str (Str.ofString "="))))) (tRet (tTup (tCons (tLst tNil) (tCons (tTup (tCons (tVar 6) (tCons (tC (.str (Str.ofString "="))) tNil))) tNil)))) tNext)
    (tRet (tTup (tCons (tLst (tCons (tCall (sp_byte_of T) [] E0 (tCons (tVar 3) tNil)) tNil)) (tCons (tTup (tCons (tVar 6) (tCons (tC (.str (Str.ofString ""))) tNil))) tNil)))))))))))

theorem pure_Quoted_take (T : Txt K mg) (vs : List V) (H : Hp) (Q : VK) (E : XK) (h : sp_Quoted_take T vs H Q E) : t_Quoted_take T { nx := fun _ H' => Q .non H', rt := Q } (start ["self", "rules", "state", "character", "column", "begun", "after"] vs) H := by
  obtain ⟨a, rr, c, r, st, s, ch, rfl, hc, hr, hst, F, _, qn, qs⟩ := h
  have hst' := hst
  unfold QRStAt at hst qs
  unfold t_Quoted_take
  unfold takeQ at qn qs
  walk_at "rd"
  refine r_slUS (smallS (by rw [tx_len]; have := F.len; omega)) ?_
  rw [cut_take1 F.len]
  walk_at "rd"
  rw [esc_tx, tx_dec]
  have main : ¬ (s.beg.take 1 = [61] ∧ s.beg ≠ [61, 10]) → (tSeq (tIfS (tTest (tOp (rEqU K) (tVar 3) (tC (.str (Str.ofString "\n"))))) (tRet (tIf (tOr (tB (tProp T.C_Quoted (sp_Quoted_binary T) [] E0 (tVar 0))) (tTest (tOp (rNeU K) (tVar 5) (tC (.str (Str.ofString "")))))) (tC .non) (tTup (tCons (tLst (tCons (tC (.int 10)) tNil)) (tCons (tTup (tCons (tC (.int 0)) (tCons (tC (.str (Str.ofString ""))) tNil))) tNil))))) tNext)
    (tSeq (tAsg (tMeth T.C_Quoted "next_place" (sp_Quoted_next_place T) [] E0 (tVar 0) (tCons (tVar 1) (tCons (tVar 4) tNil))) (gName 6))
    (tSeq (tIfS (tAnd (tTest (tOp (rEqU K) (tVar 3) (tC (.str (Str.ofString " "))))) (tNot (tB (tProp T.C_Rules (sp_Rules_loose T) [] E0 (tVar 1))))) (tRet (tIf (tB (tMeth T.C_Quoted "has_room" (sp_Quoted_has_room T) [] E0 (tVar 0) (tCons (tVar 1) (tCons (tVar 4) (tCons (tC (.int 2)) tNil))))) (tTup (tCons (tLst (tCons (tC (.int 32)) tNil)) (tCons (tTup (tCons (tVar 6) (tCons (tC (.str (Str.ofString " "))) tNil))) tNil))) (tC .non))) tNext)
    (tSeq (tIfS (tNot (tB (tMeth T.C_Quoted "has_room" (sp_Quoted_has_room T) [] E0 (tVar 0) (tCons (tVar 1) (tCons (tVar 4) (tCons (tC (.int 1)) tNil)))))) (tRet (tC .non)) tNext)
    (tSeq (tIfS (tTest (tOp (rEqU K) (tVar 3) (tC (.str (Str.ofString "="))))) (tRet (tTup (tCons (tLst tNil) (tCons (tTup (tCons (tVar 6) (tCons (tC (.str (Str.ofString "="))) tNil))) tNil)))) tNext)
    (tRet (tTup (tCons (tLst (tCons (tCall (sp_byte_of T) [] E0 (tCons (tVar 3) tNil)) tNil)) (tCons (tTup (tCons (tVar 6) (tCons (tC (.str (Str.ofString ""))) tNil))) tNil)))))))))
      { nx := fun _ H' => Q .non H', rt := Q } [some (.ref a), some (.ref rr), some (.ref st), some (.str (tx [ch])), some (.int (s.col : Nat)), some (.str (tx s.beg)), none] H := by
    intro h1
    rw [if_neg h1] at qn qs
    walk_at "rd"
    rw [nl_tx]
    refine r_iteD (fun h2 => ?_) (fun h2 => ?_)
    · have h2' := (tx1_eq ch 10).mp h2
      rw [if_pos h2'] at qn qs
      walk_at "rd"
      cases hbn : c.bin with
      | true =>
        rw [if_pos (.inl hbn)] at qn
        walk_at "rd"
        exact qn rfl H (Same.refl _)
      | false =>
      walk_at "rd"
      rw [e_tx, tx_dec]
      by_cases h3 : s.beg = []
      · rw [if_neg (fun z => z.elim (fun z => by rw [hbn] at z; cases z) fun z => z h3)] at qs
        rw [decide_eq_true h3]
        walk_at "rd"
        walk_at "gt"
      · rw [if_pos (.inr h3)] at qn
        rw [decide_eq_false h3]
        walk_at "rd"
        exact qn rfl H (Same.refl _)
    have h2' : ¬ ch = 10 := fun z => h2 ((tx1_eq ch 10).mpr z)
    rw [if_neg h2'] at qn qs
    walk_at "rd"
    refine ⟨a, rr, c, r, s.col, rfl, hc, hr, ?_⟩
    have rest : ¬ (ch = 32 ∧ r.loose = false) → (tSeq (tIfS (tNot (tB (tMeth T.C_Quoted "has_room" (sp_Quoted_has_room T) [] E0 (tVar 0) (tCons (tVar 1) (tCons (tVar 4) (tCons (tC (.int 1)) tNil)))))) (tRet (tC .non)) tNext)
      (tSeq (tIfS (tTest (tOp (rEqU K) (tVar 3) (tC (.str (Str.ofString "="))))) (tRet (tTup (tCons (tLst tNil) (tCons (tTup (tCons (tVar 6) (tCons (tC (.str (Str.ofString "="))) tNil))) tNil)))) tNext)
      (tRet (tTup (tCons (tLst (tCons (tCall (sp_byte_of T) [] E0 (tCons (tVar 3) tNil)) tNil)) (tCons (tTup (tCons (tVar 6) (tCons (tC (.str (Str.ofString ""))) tNil))) tNil))))))
        { nx := fun _ H' => Q .non H', rt := Q } [some (.ref a), some (.ref rr), some (.ref st), some (.str (tx [ch])), some (.int (s.col : Nat)), some (.str (tx s.beg)), some (.int (nextQ c r s.col : Nat))] H := by
      intro h3
      rw [if_neg h3] at qn qs
      walk_at "rd"
      refine ⟨a, rr, c, r, s.col, 1, rfl, hc, hr, ?_⟩
      cases hrm : roomQ c r s.col 1 with
      | false =>
        rw [if_pos hrm] at qn
        walk_at "rd"
        exact qn rfl H (Same.refl _)
      | true =>
      rw [if_neg (by rw [hrm]; decide)] at qs
      walk_at "rd"
      rw [esc_tx]
      refine r_iteD (fun h4 => ?_) (fun h4 => ?_)
      · rw [if_pos ((tx1_eq ch 61).mp h4)] at qs
        walk_at "rd"
        walk_at "gt"
      · rw [if_neg (fun z => h4 ((tx1_eq ch 61).mpr z))] at qs
        walk_at "rd"
        refine ⟨ch, rfl, ?_⟩
        walk_at "rd"
        walk_at "gt"
    walk_at "rd"
    rw [sp_tx]
    by_cases h3 : ch = 32
    · rw [decide_eq_true ((tx1_eq ch 32).mpr h3)]
      walk_at "rd"
      cases hlo : r.loose with
      | true =>
        walk_at "rx"
        exact rest fun z => by rw [hlo] at z; exact absurd z.2 (by decide)
      | false =>
        rw [if_pos ⟨h3, hlo⟩] at qn qs
        walk_at "rd"
        refine ⟨a, rr, c, r, s.col, 2, rfl, hc, hr, ?_⟩
        walk_at "rd"
        refine r_iteB (fun h5 => ?_) (fun h5 => ?_)
        · rw [if_pos h5] at qs
          walk_at "rd"
          walk_at "gt"
        · rw [if_neg (by rw [h5]; decide)] at qn
          walk_at "rd"
          exact qn rfl H (Same.refl _)
    · rw [decide_eq_false (fun z => h3 ((tx1_eq ch 32).mp z))]
      walk_at "rx"
      exact rest fun z => h3 z.1
  by_cases h1 : s.beg.take 1 = [61]
  · rw [decide_eq_true h1]
    walk_at "rd"
    rw [sb_tx, tx_dec]
    by_cases h2 : s.beg = [61, 10]
    · rw [decide_eq_true h2]
      walk_at "rx"
      exact main fun z => z.2 h2
    · rw [decide_eq_false h2]
      walk_at "rx"
      rw [if_pos ⟨h1, h2⟩] at qn qs
      exact ⟨a, rr, c, r, st, s, ch, rfl, hc, hr, hst', F, ⟨h1, h2⟩, qn, qs⟩
  · rw [decide_eq_false h1]
    walk_at "rx"
    exact main fun z => h1 z.1
theorem ok_Quoted_take (T : Txt K mg) : FnOk P w K mg base CX0 6 T.Quoted_take_a T.Quoted_take_d ["self", "rules", "state", "character"] (sp_Quoted_take T) := by
  refine T.Quoted_take_f.ok sc_Quoted_take (fun vs H Q E h => len_Quoted_take T vs H Q E h) (fun cdv A outer s H vs Q E hr h => ⟨t_Quoted_take T, PSs.nox ?_, pure_Quoted_take T vs H Q E h⟩)
  have hu := hu64 hr
  exact (pss_cons (ps_asg (pv 2) (pg_tup (by rfl) (pgs_cons (pg_name (i := 4) sc_Quoted_take.nd rfl (.inl rfl)) (pgs_cons (pg_name (i := 5) sc_Quoted_take.nd rfl (.inl rfl)) pgs_nil))))
      (pss_cons (ps_if (PW.pt (pw_and (pt_cmpR (op_eqU hu) (pe_slice sl_U (pv 5) po_none (po_some pe_int)) (pe_glob (by rfl) T.k_ESCAPE_g T.k_ESCAPE_r) (nomark _)) (pw_and1 (pt_cmpR (op_neU hu) (pv 5) (pe_glob (by rfl) T.k_SOFT_BREAK_g T.k_SOFT_BREAK_r) (nomark _))))) (pss_one (ps_ret (pe_meth (pv 0) T.C_Quoted_c T.Quoted_take_digit_m (ok_Quoted_take_digit T) (hr.mono (by decide)) T.Quoted_take_digit_b .nil pass0 (pa_cons (pv 1) (pa_cons (pv 2) (pa_cons (pv 3) pa_nil)))))) pss_nil)
      (pss_cons (ps_if (pt_cmpR (op_eqU hu) (pv 3) (pe_glob (by rfl) T.k_NEWLINE_g T.k_NEWLINE_r) (nomark _)) (pss_one (ps_ret (pe_ifExp (PW.pt (pw_or (pt_val (pe_prop (pv 0) T.C_Quoted_c T.Quoted_binary_p (ok_Quoted_binary T) (hr.mono (by decide)) T.Quoted_binary_b .nil pass0 rfl)) (pw_or1 (pt_cmpR (op_neU hu) (pv 5) pe_str (nomark _))))) pe_non (pe_tup (pa_cons (pe_lst (pa_cons (pe_glob (by rfl) T.k_LINE_FEED_g T.k_LINE_FEED_r) pa_nil)) (pa_cons (pe_tup (pa_cons pe_int (pa_cons pe_str pa_nil))) pa_nil)))))) pss_nil)
      (pss_cons (ps_set (i := 6) sc_Quoted_take.nd rfl (.inl rfl) (pe_meth (pv 0) T.C_Quoted_c T.Quoted_next_place_m (ok_Quoted_next_place T) (hr.mono (by decide)) T.Quoted_next_place_b .nil pass0 (pa_cons (pv 1) (pa_cons (pv 4) pa_nil))))
      (pss_cons (ps_if (PW.pt (pw_and (pt_cmpR (op_eqU hu) (pv 3) (pe_glob (by rfl) T.k_BLANK_g T.k_BLANK_r) (nomark _)) (pw_and1 (pt_not (pt_val (pe_prop (pv 1) T.C_Rules_c T.Rules_loose_p (ok_Rules_loose T) (hr.mono (by decide)) T.Rules_loose_b .nil pass0 rfl)))))) (pss_one (ps_ret (pe_ifExp (pt_val (pe_meth (pv 0) T.C_Quoted_c T.Quoted_has_room_m (ok_Quoted_has_room T) (hr.mono (by decide)) T.Quoted_has_room_b .nil pass0 (pa_cons (pv 1) (pa_cons (pv 4) (pa_cons pe_int pa_nil))))) (pe_tup (pa_cons (pe_lst (pa_cons (pe_glob (by rfl) T.k_SPACE_g T.k_SPACE_r) pa_nil)) (pa_cons (pe_tup (pa_cons (pv 6) (pa_cons (pe_glob (by rfl) T.k_BLANK_g T.k_BLANK_r) pa_nil))) pa_nil))) pe_non))) pss_nil)
      (pss_cons (ps_if (pt_not (pt_val (pe_meth (pv 0) T.C_Quoted_c T.Quoted_has_room_m (ok_Quoted_has_room T) (hr.mono (by decide)) T.Quoted_has_room_b .nil pass0 (pa_cons (pv 1) (pa_cons (pv 4) (pa_cons pe_int pa_nil)))))) (pss_one (ps_ret pe_non)) pss_nil)
      (pss_cons (ps_if (pt_cmpR (op_eqU hu) (pv 3) (pe_glob (by rfl) T.k_ESCAPE_g T.k_ESCAPE_r) (nomark _)) (pss_one (ps_ret (pe_tup (pa_cons (pe_lst pa_nil) (pa_cons (pe_tup (pa_cons (pv 6) (pa_cons (pe_glob (by rfl) T.k_ESCAPE_g T.k_ESCAPE_r) pa_nil))) pa_nil))))) pss_nil)
      (pss_one (ps_ret (pe_tup (pa_cons (pe_lst (pa_cons (pe_call (ok_byte_of T) (hr.mono (by decide)) (by rfl) T.byte_of_g T.byte_of_f.kp T.byte_of_b .nil pass0 (pa_cons (pv 3) pa_nil)) pa_nil)) (pa_cons (pe_tup (pa_cons (pv 6) (pa_cons pe_str pa_nil))) pa_nil))))))))))))


end
section
variable {w : World} {K : PySem.W.Frag} {mg : Str → Option Value} {base : Heap}
/-! ### the plain law: reading row by row -/
def folQ (c : QD) (r : RD) : RQ → List Nat → Option (List Nat × RQ)
  | s, [] => some ([], s)
  | s, ch :: t => (takeQ c r s ch).bind fun p => (folQ c r p.2 t).map fun q => (p.1 ++ q.1, q.2)
theorem folQ_app (c : QD) (r : RD) : ∀ (a : List Nat) (s : RQ) (b : List Nat), folQ c r s (a ++ b) = (folQ c r s a).bind fun p => (folQ c r p.2 b).map fun q => (p.1 ++ q.1, q.2)
  | [], s, b => by
    show folQ c r s b = (folQ c r s b).map fun q => ([] ++ q.1, q.2)
    cases folQ c r s b <;> rfl
  | ch :: a, s, b => by
    show (takeQ c r s ch).bind (fun p => (folQ c r p.2 (a ++ b)).map fun q => (p.1 ++ q.1, q.2)) = ((takeQ c r s ch).bind fun p => (folQ c r p.2 a).map fun q => (p.1 ++ q.1, q.2)).bind _
    cases takeQ c r s ch with
    | none => rfl
    | some p =>
      show (folQ c r p.2 (a ++ b)).map _ = ((folQ c r p.2 a).map _).bind _
      rw [folQ_app c r a]
      cases folQ c r p.2 a with
      | none => rfl
      | some q =>
        show ((folQ c r q.2 b).map _).map _ = (folQ c r q.2 b).map _
        cases folQ c r q.2 b with
        | none => rfl
        | some z => simp [List.append_assoc]
/-- a row: its bytes, whether a soft break ends it -/
def scanR (hx : Nat → Option Nat) : List Nat → Option (List Nat × Bool)
  | [] => some ([], false)
  | [c] => if c = 61 then some ([], true) else some ([c], false)
  | [c, d] => if c = 61 then none else (scanR hx [d]).map fun p => (c :: p.1, p.2)
  | c :: d :: e :: r => if c = 61 then (hx d).bind fun x => (hx e).bind fun y => (scanR hx r).map fun p => (Hx.hexNum [x, y] :: p.1, p.2) else (scanR hx (d :: e :: r)).map fun p => (c :: p.1, p.2)
theorem scan_plain (hx : Nat → Option Nat) {c : Nat} (h : c ≠ 61) (r : List Nat) : scanR hx (c :: r) = (scanR hx r).map fun p => (c :: p.1, p.2) := by
  match r with
  | [] =>
    show (if c = 61 then some ([], true) else some ([c], false) : Option (List Nat × Bool)) = _
    rw [if_neg h]
    rfl
  | [d] =>
    show (if c = 61 then none else (scanR hx [d]).map fun p => (c :: p.1, p.2) : Option (List Nat × Bool)) = _
    rw [if_neg h]
  | d :: e :: r =>
    show (if c = 61 then _ else (scanR hx (d :: e :: r)).map fun p => (c :: p.1, p.2) : Option (List Nat × Bool)) = _
    rw [if_neg h]
def limQ (c : QD) (r : RD) : Bool := r.lines && decide (0 < c.wd)
def fitN (c : QD) (r : RD) (m : Nat) : Bool := !limQ c r || decide (m ≤ c.wd)
def ccQ (c : QD) (r : RD) (n : Nat) : Nat := if limQ c r = true then n else 0
theorem next_cc (c : QD) (r : RD) (n : Nat) : nextQ c r (ccQ c r n) = ccQ c r (n + 1) := by
  unfold nextQ ccQ limQ
  cases r.lines with
  | false => rfl
  | true =>
    by_cases h : 0 < c.wd
    · simp [h]
    · simp [h]
theorem room_cc (c : QD) (r : RD) (n k : Nat) : roomQ c r (ccQ c r n) k = fitN c r (n + k) := by
  unfold roomQ QD.fit fitN ccQ limQ
  cases r.lines with
  | false => rfl
  | true =>
    by_cases h : 0 < c.wd
    · have : ¬ c.wd = 0 := by omega
      simp [h, this]
    · have : c.wd = 0 := by omega
      simp [this]
theorem fitN_le {c : QD} {r : RD} {m n : Nat} (h : m ≤ n) (f : fitN c r m = false) : fitN c r n = false := by
  unfold fitN at f ⊢
  simp only [Bool.or_eq_false_iff, Bool.not_eq_false', decide_eq_false_iff_not] at f ⊢
  exact ⟨f.1, by omega⟩
/-- where an item may begin -/
def FreeQ (r : RD) (s : RQ) : Prop := s.beg = [] ∨ (r.loose = false ∧ (s.beg = [32] ∨ s.beg = [61, 10]))
/-- reading a row from a state, then what k says of the state behind it -/
def runQ (c : QD) (r : RD) (k : RQ → Option (List Nat × RQ)) (s : RQ) (row : List Nat) : Option (List Nat × RQ) := (folQ c r s row).bind fun p => (k p.2).map fun q => (p.1 ++ q.1, q.2)
def badEnd (r : RD) (s : RQ) (row : List Nat) : Bool := match row.getLast? with
  | none => !decide (s.beg = [])
  | some x => !r.loose && decide (x = 32)
structure Kont (r : RD) (k : RQ → Option (List Nat × RQ)) (soft plain : Option (List Nat × RQ)) : Prop where
  dig : ∀ col x, x ≠ 10 → k ⟨col, [61, x]⟩ = none
  sft : ∀ col, k ⟨col, [61]⟩ = soft
  fre : ∀ s, FreeQ r s → k s = if s.beg = [] then plain else none
theorem runQ_cons (c : QD) (r : RD) (k) (s : RQ) (ch : Nat) (t : List Nat) : runQ c r k s (ch :: t) = (takeQ c r s ch).bind fun p => (runQ c r k p.2 t).map fun q => (p.1 ++ q.1, q.2) := by
  unfold runQ
  show ((takeQ c r s ch).bind fun p => (folQ c r p.2 t).map fun q => (p.1 ++ q.1, q.2)).bind _ = _
  cases takeQ c r s ch with
  | none => rfl
  | some p =>
    show ((folQ c r p.2 t).map _).bind _ = ((folQ c r p.2 t).bind _).map _
    cases folQ c r p.2 t with
    | none => rfl
    | some q =>
      show (k q.2).map _ = ((k q.2).map _).map _
      cases k q.2 with
      | none => rfl
      | some z => simp [List.append_assoc]
theorem take_free {c : QD} {r : RD} {s : RQ} (F : FreeQ r s) (ch : Nat) (h10 : ch ≠ 10) : takeQ c r s ch =
    if ch = 32 ∧ r.loose = false then (if roomQ c r s.col 2 = true then some ([32], ⟨nextQ c r s.col, [32]⟩) else none) else
    if roomQ c r s.col 1 = false then none else
    if ch = 61 then some ([], ⟨nextQ c r s.col, [61]⟩) else some ([ch], ⟨nextQ c r s.col, []⟩) := by
  unfold takeQ
  have n1 : ¬ (s.beg.take 1 = [61] ∧ s.beg ≠ [61, 10]) := by
    rintro ⟨a, b⟩
    rcases F with e | ⟨_, e | e⟩
    · rw [e] at a; cases a
    · rw [e] at a; cases a
    · exact b e
  rw [if_neg n1, if_neg h10]
theorem hex_not {r : RD} {ch d : Nat} (h : hexQ r ch = some d) : d ≠ 10 ∧ ch ≠ 32 := by
  have m := hexQ_in h
  unfold hexes at m
  rw [List.mem_append, List.mem_range'_1, List.mem_range'_1] at m
  refine ⟨by omega, fun e => ?_⟩
  subst e
  have : hexQ r 32 = none := by
    unfold hexQ
    rw [if_neg (by decide)]
    split
    · rfl
    · rfl
  rw [this] at h
  cases h
theorem hex_10 (r : RD) : hexQ r 10 = none := by
  unfold hexQ
  rw [if_neg (by decide)]
  split
  · rfl
  · rfl
/-- what is told of a row -/
def told (c : QD) (r : RD) (n : Nat) (s : RQ) (soft plain : Option (List Nat × RQ)) (row : List Nat) : Option (List Nat × RQ) :=
  if fitN c r (n + row.length) = false then none else
  (scanR (hexQ r) row).bind fun p => (if p.2 = true then soft else if badEnd r s row = true then none else plain).map fun q => (p.1 ++ q.1, q.2)
theorem badEnd_cons (r : RD) (s : RQ) (a b : Nat) (t : List Nat) (s' : RQ) : badEnd r s (a :: b :: t) = badEnd r s' (b :: t) := by
  unfold badEnd
  rw [List.getLast?_cons_cons]
  cases h : (b :: t).getLast? with
  | none => simp at h
  | some x => rfl
theorem map_map_app {a b : List Nat} (o : Option (List Nat × RQ)) : (o.map fun q => (b ++ q.1, q.2)).map (fun q => (a ++ q.1, q.2)) = o.map fun q => ((a ++ b) ++ q.1, q.2) := by
  cases o with
  | none => rfl
  | some z => simp [List.append_assoc]
/-- one plain character ahead -/
theorem told_cons {c : QD} {r : RD} {n ch : Nat} {s s' : RQ} {soft plain : Option (List Nat × RQ)} {row : List Nat} (h : ch ≠ 61) (hb : badEnd r s (ch :: row) = badEnd r s' row) :
    told c r n s soft plain (ch :: row) = (told c r (n + 1) s' soft plain row).map fun q => ([ch] ++ q.1, q.2) := by
  unfold told
  rw [List.length_cons, show n + (row.length + 1) = n + 1 + row.length by omega, scan_plain _ h, hb]
  by_cases f : fitN c r (n + 1 + row.length) = false
  · rw [if_pos f, if_pos f]
    rfl
  rw [if_neg f, if_neg f]
  cases scanR (hexQ r) row with
  | none => rfl
  | some p =>
    show Option.map _ _ = Option.map _ (Option.map _ _)
    rw [map_map_app]
    rfl

end
section
variable {w : World} {K : PySem.W.Frag} {mg : Str → Option Value} {base : Heap}
/-! ### a row -/
theorem take_esc {c : QD} {r : RD} {col : Nat} {x : List Nat} (ch : Nat) (h10 : ch ≠ 10) (hx : [61] ++ x ≠ [61, 10]) : takeQ c r ⟨col, [61] ++ x⟩ ch =
    (hexQ r ch).bind fun d => if x ≠ [] then some ([Hx.hexNum (x ++ [d])], ⟨nextQ c r col, []⟩) else if roomQ c r col 2 = true then some ([], ⟨nextQ c r col, [61, d]⟩) else none := by
  unfold takeQ
  rw [if_pos ⟨rfl, hx⟩]
  unfold digQ
  rw [if_neg (fun z => h10 z.1)]
  cases hexQ r ch with
  | none => rfl
  | some d =>
    show (if [61] ++ x ≠ [61] then _ else _) = (if x ≠ [] then _ else _)
    by_cases h : x = []
    · subst h
      rw [if_neg (show ¬ ([61] ++ [] ≠ ([61] : List Nat)) from fun z => z rfl), if_neg (show ¬ (([] : List Nat) ≠ []) from fun z => z rfl)]
    · rw [if_pos h, if_pos (fun z => h (by cases x with | nil => rfl | cons a b => cases z))]
      rfl
theorem told_off {c : QD} {r : RD} {n : Nat} {s : RQ} {soft plain : Option (List Nat × RQ)} {row : List Nat} (h : fitN c r (n + row.length) = false) : told c r n s soft plain row = none := by
  unfold told
  rw [if_pos h]
theorem told_scan {c : QD} {r : RD} {n : Nat} {s : RQ} {soft plain : Option (List Nat × RQ)} {row : List Nat} (h : scanR (hexQ r) row = none) : told c r n s soft plain row = none := by
  unfold told
  rw [h]
  split <;> rfl
theorem row_law {c : QD} {r : RD} {k : RQ → Option (List Nat × RQ)} {soft plain : Option (List Nat × RQ)} (K : Kont r k soft plain) : ∀ (m : Nat) (row : List Nat) (n : Nat) (s : RQ), row.length ≤ m → (∀ x ∈ row, x ≠ 10) → s.col = ccQ c r n → FreeQ r s → fitN c r n = true →
    runQ c r k s row = told c r n s soft plain row := by
  intro m
  induction m with
  | zero =>
    intro row n s hl _ hc F f0
    match row, hl with
    | [], _ =>
      show (k s).map (fun q => ([] ++ q.1, q.2)) = _
      rw [K.fre s F]
      unfold told
      rw [if_neg (show ¬ fitN c r (n + ([] : List Nat).length) = false by rw [List.length_nil, Nat.add_zero, f0]; decide)]
      show _ = Option.map _ (if badEnd r s [] = true then none else plain)
      unfold badEnd
      by_cases h : s.beg = []
      · rw [if_pos h]
        simp [h]
      · rw [if_neg h]
        simp [h]
  | succ m ih =>
    intro row n s hl h10 hc F f0
    match row, hl, h10 with
    | [], hl, h10 => exact ih [] n s (Nat.zero_le _) h10 hc F f0
    | ch :: t, hl, h10 =>
    have hlt : t.length ≤ m := by rw [List.length_cons] at hl; omega
    have c10 := h10 ch (List.mem_cons_self ..)
    have t10 : ∀ x ∈ t, x ≠ 10 := fun x hx => h10 x (List.mem_cons_of_mem _ hx)
    rw [runQ_cons, take_free F ch c10, hc, room_cc, room_cc, next_cc]
    by_cases hb : ch = 32 ∧ r.loose = false
    · obtain ⟨rfl, hlo⟩ := hb
      rw [if_pos ⟨rfl, hlo⟩]
      have eb : badEnd r s (32 :: t) = badEnd r ⟨ccQ c r (n + 1), [32]⟩ t := by
        match t with
        | [] => unfold badEnd; simp [hlo]
        | b :: t' => exact badEnd_cons r s 32 b t' _
      by_cases f2 : fitN c r (n + 2) = true
      · rw [if_pos f2]
        have f1 : fitN c r (n + 1) = true := by
          cases e : fitN c r (n + 1) with
          | true => rfl
          | false => rw [fitN_le (show n + 1 ≤ n + 2 by omega) e] at f2; cases f2
        show Option.map _ (runQ c r k ⟨ccQ c r (n + 1), [32]⟩ t) = _
        rw [ih t (n + 1) ⟨ccQ c r (n + 1), [32]⟩ hlt t10 rfl (.inr ⟨hlo, .inl rfl⟩) f1, told_cons (by decide) eb]
      · rw [if_neg f2]
        show none = _
        have f2' : fitN c r (n + 2) = false := by simpa using f2
        match t, eb with
        | [], eb =>
          unfold told
          split
          · rfl
          · show none = Option.map _ (if badEnd r s [32] = true then none else plain)
            rw [eb]
            unfold badEnd
            simp
        | b :: t', _ => exact (told_off (fitN_le (by rw [List.length_cons, List.length_cons]; omega) f2')).symm
    rw [if_neg hb]
    by_cases f1 : fitN c r (n + 1) = false
    · rw [if_pos f1]
      exact (told_off (fitN_le (by rw [List.length_cons]; omega) f1)).symm
    rw [if_neg f1]
    have f1' : fitN c r (n + 1) = true := by simpa using f1
    by_cases h61 : ch = 61
    · subst h61
      rw [if_pos rfl]
      show Option.map _ (runQ c r k ⟨ccQ c r (n + 1), [61]⟩ t) = _
      have idm : ∀ o : Option (List Nat × RQ), o.map (fun q => (([] : List Nat) ++ q.1, q.2)) = o := fun o => by cases o <;> rfl
      rw [idm]
      match t, hlt, t10 with
      | [], _, _ =>
        show (k ⟨ccQ c r (n + 1), [61]⟩).map (fun q => ([] ++ q.1, q.2)) = _
        rw [K.sft]
        unfold told
        rw [if_neg (show ¬ fitN c r (n + [61].length) = false by rw [show n + [61].length = n + 1 from rfl, f1']; decide)]
        rfl
      | d :: t2, hlt, t10 =>
        have d10 := t10 d (List.mem_cons_self ..)
        rw [runQ_cons, show (⟨ccQ c r (n + 1), [61]⟩ : RQ) = ⟨ccQ c r (n + 1), [61] ++ []⟩ from rfl, take_esc d d10 (by decide), room_cc, next_cc]
        cases hd : hexQ r d with
        | none =>
          show none = _
          refine (told_scan ?_).symm
          match t2 with
          | [] => rfl
          | e :: r' =>
            show (if (61 : Nat) = 61 then (hexQ r d).bind _ else _) = none
            rw [if_pos rfl, hd]
            rfl
        | some x =>
        have hx := hex_not hd
        rw [Option.bind_some, if_neg (show ¬ (([] : List Nat) ≠ []) from fun z => z rfl)]
        by_cases f3 : fitN c r (n + 1 + 2) = true
        · rw [if_pos f3]
          show Option.map _ (runQ c r k ⟨ccQ c r (n + 1 + 1), [61, x]⟩ t2) = _
          rw [idm]
          match t2, hlt, t10 with
          | [], _, _ =>
            show (k ⟨ccQ c r (n + 1 + 1), [61, x]⟩).map (fun q => ([] ++ q.1, q.2)) = _
            rw [K.dig _ _ hx.1]
            exact (told_scan rfl).symm
          | e :: r', hlt, t10 =>
            have e10 := t10 e (List.mem_cons_of_mem _ (List.mem_cons_self ..))
            have r10 : ∀ y ∈ r', y ≠ 10 := fun y hy => t10 y (List.mem_cons_of_mem _ (List.mem_cons_of_mem _ hy))
            rw [runQ_cons, show (⟨ccQ c r (n + 1 + 1), [61, x]⟩ : RQ) = ⟨ccQ c r (n + 1 + 1), [61] ++ [x]⟩ from rfl, take_esc e e10 (fun z => hx.1 (by cases z; rfl)), next_cc]
            cases he : hexQ r e with
            | none =>
              show none = _
              refine (told_scan ?_).symm
              show (if (61 : Nat) = 61 then (hexQ r d).bind fun x => (hexQ r e).bind _ else _) = none
              rw [if_pos rfl, hd, he]
              rfl
            | some y =>
              have hy := hex_not he
              rw [Option.bind_some, if_pos (show ([x] : List Nat) ≠ [] from List.cons_ne_nil _ _), Option.bind_some]
              show Option.map _ (runQ c r k ⟨ccQ c r (n + 1 + 1 + 1), []⟩ r') = _
              rw [ih r' (n + 1 + 1 + 1) ⟨ccQ c r (n + 1 + 1 + 1), []⟩ (by rw [List.length_cons, List.length_cons] at hlt; omega) r10 rfl (.inl rfl) f3]
              have eb : badEnd r s (61 :: d :: e :: r') = badEnd r ⟨ccQ c r (n + 1 + 1 + 1), []⟩ r' := by
                match r' with
                | [] =>
                  unfold badEnd
                  have : ¬ e = 32 := hy.2
                  simp [this]
                | b :: t' => rw [badEnd_cons r s 61 d (e :: b :: t') s, badEnd_cons r s d e (b :: t') s, badEnd_cons r s e b t' _]
              unfold told
              rw [eb, show n + (61 :: d :: e :: r').length = n + 1 + 1 + 1 + r'.length by simp only [List.length_cons]; omega]
              by_cases f : fitN c r (n + 1 + 1 + 1 + r'.length) = false
              · rw [if_pos f, if_pos f]
                rfl
              rw [if_neg f, if_neg f]
              show _ = Option.bind (if (61 : Nat) = 61 then (hexQ r d).bind fun x => (hexQ r e).bind fun y => (scanR (hexQ r) r').map fun p => (Hx.hexNum [x, y] :: p.1, p.2) else _) _
              rw [if_pos rfl, hd, he]
              show _ = Option.bind ((scanR (hexQ r) r').map fun p => (Hx.hexNum [x, y] :: p.1, p.2)) _
              cases scanR (hexQ r) r' with
              | none => rfl
              | some p =>
                show Option.map _ (Option.map _ _) = Option.map _ _
                rw [map_map_app]
                rfl
        · rw [if_neg f3]
          show none = _
          have f3' : fitN c r (n + 1 + 2) = false := by simpa using f3
          match t2 with
          | [] => exact (told_scan rfl).symm
          | e :: r' => exact (told_off (fitN_le (by simp only [List.length_cons]; omega) f3')).symm
    · rw [if_neg h61]
      show Option.map _ (runQ c r k ⟨ccQ c r (n + 1), []⟩ t) = _
      have eb : badEnd r s (ch :: t) = badEnd r ⟨ccQ c r (n + 1), []⟩ t := by
        match t with
        | [] =>
          unfold badEnd
          cases hlo : r.loose with
          | true => simp
          | false =>
            have : ¬ ch = 32 := fun z => hb ⟨z, hlo⟩
            simp [this]
        | b :: t' => exact badEnd_cons r s ch b t' _
      rw [ih t (n + 1) ⟨ccQ c r (n + 1), []⟩ hlt t10 rfl (.inl rfl) f1', told_cons h61 eb]

end
section
variable {w : World} {K : PySem.W.Frag} {mg : Str → Option Value} {base : Heap}
/-! ### texts as rows -/
def softNL (r : RD) : Option (List Nat × RQ) := some ([], ⟨0, if r.loose = true then [] else [61, 10]⟩)
def plainNL (c : QD) : Option (List Nat × RQ) := if c.bin = true then none else some ([10], ⟨0, []⟩)
def nlK (c : QD) (r : RD) : RQ → Option (List Nat × RQ) := fun s => takeQ c r s 10
def finK : RQ → Option (List Nat × RQ) := fun s => if s.beg = [] then some ([], ⟨0, []⟩) else none
theorem kont_nl (c : QD) (r : RD) : Kont r (nlK c r) (softNL r) (plainNL c) where
  dig := fun col x hx => by
    have n1 : ¬ (10 = 10 ∧ ([61, x] : List Nat) = [61]) := fun z => by cases z.2
    show takeQ c r ⟨col, [61, x]⟩ 10 = none
    unfold takeQ
    rw [if_pos (show (([61, x] : List Nat).take 1 = [61] ∧ ([61, x] : List Nat) ≠ [61, 10]) from ⟨rfl, fun z => hx (by cases z; rfl)⟩)]
    unfold digQ
    rw [if_neg n1, hex_10]
  sft := fun col => by
    show takeQ c r ⟨col, [61]⟩ 10 = _
    unfold takeQ
    rw [if_pos (show (([61] : List Nat).take 1 = [61] ∧ ([61] : List Nat) ≠ [61, 10]) from ⟨rfl, fun z => nomatch z⟩)]
    unfold digQ
    rw [if_pos (show (10 = 10 ∧ ([61] : List Nat) = [61]) from ⟨rfl, rfl⟩)]
    rfl
  fre := fun s F => by
    show takeQ c r s 10 = _
    unfold takeQ
    have n1 : ¬ (s.beg.take 1 = [61] ∧ s.beg ≠ [61, 10]) := by
      rintro ⟨a, b⟩
      rcases F with e | ⟨_, e | e⟩
      · rw [e] at a; cases a
      · rw [e] at a; cases a
      · exact b e
    rw [if_neg n1, if_pos rfl]
    unfold plainNL
    by_cases h : s.beg = []
    · cases hb : c.bin <;> simp [h]
    · simp [h]
theorem kont_fin (r : RD) : Kont r finK none (some ([], ⟨0, []⟩)) where
  dig := fun col x _ => rfl
  sft := fun col => rfl
  fre := fun s F => rfl
/-- what is told of a whole text: its rows, told one by one -/
def rowsQ (c : QD) (r : RD) : RQ → List (List Nat) → Option (List Nat)
  | _, [] => none
  | s, [row] => (told c r 0 s none (some ([], ⟨0, []⟩)) row).map (·.1)
  | s, row :: row2 :: rest => (told c r 0 s (softNL r) (plainNL c) row).bind fun p => (rowsQ c r p.2 (row2 :: rest)).map fun t => p.1 ++ t
def jnl : List (List Nat) → List Nat
  | [] => []
  | [row] => row
  | row :: row2 :: rest => row ++ 10 :: jnl (row2 :: rest)
/-- the data of a right text -/
def finQ (c : QD) (r : RD) (s : RQ) (text : List Nat) : Option (List Nat) := (folQ c r s text).bind fun p => if p.2.beg = [] then some p.1 else none
theorem told_free {c : QD} {r : RD} {s s' : RQ} {n : Nat} {row ds : List Nat} (h : told c r n s (softNL r) (plainNL c) row = some (ds, s')) : s'.col = 0 ∧ (s'.beg = [] ∨ (r.loose = false ∧ s'.beg = [61, 10])) := by
  unfold told at h
  by_cases f : fitN c r (n + row.length) = false
  · rw [if_pos f] at h
    cases h
  rw [if_neg f] at h
  obtain ⟨p, _, h2⟩ := Option.bind_eq_some_iff.mp h
  obtain ⟨q, h3, h4⟩ := Option.map_eq_some_iff.mp h2
  cases h4
  by_cases hp : p.2 = true
  · rw [if_pos hp] at h3
    cases h3
    cases hl : r.loose with
    | true => exact ⟨rfl, .inl rfl⟩
    | false => exact ⟨rfl, .inr ⟨rfl, rfl⟩⟩
  · rw [if_neg hp] at h3
    by_cases hb : badEnd r s row = true
    · rw [if_pos hb] at h3
      cases h3
    · rw [if_neg hb] at h3
      unfold plainNL at h3
      by_cases hc : c.bin = true
      · rw [if_pos hc] at h3
        cases h3
      · rw [if_neg hc] at h3
        cases h3
        exact ⟨rfl, .inl rfl⟩
theorem fit0 (c : QD) (r : RD) : fitN c r 0 = true := by
  unfold fitN
  simp
theorem text_law (c : QD) (r : RD) : ∀ (rows : List (List Nat)) (s : RQ), rows ≠ [] → (∀ row ∈ rows, ∀ x ∈ row, x ≠ 10) → s.col = 0 → FreeQ r s → finQ c r s (jnl rows) = rowsQ c r s rows
  | [], _, h, _, _, _ => absurd rfl h
  | [row], s, _, h10, hc, F => by
    have e := row_law (c := c) (kont_fin r) row.length row 0 s (Nat.le_refl _) (h10 row (List.mem_cons_self ..)) (by rw [hc]; unfold ccQ; split <;> rfl) F (fit0 c r)
    show finQ c r s row = (told c r 0 s none (some ([], ⟨0, []⟩)) row).map (·.1)
    rw [← e]
    unfold finQ runQ
    cases folQ c r s row with
    | none => rfl
    | some p =>
      show (if p.2.beg = [] then some p.1 else none) = Option.map (fun z : List Nat × RQ => z.1) (Option.map (fun q : List Nat × RQ => (p.1 ++ q.1, q.2)) (finK p.2))
      unfold finK
      by_cases h : p.2.beg = []
      · rw [if_pos h, if_pos h]
        simp
      · rw [if_neg h, if_neg h]
        rfl
  | row :: row2 :: rest, s, _, h10, hc, F => by
    have e := row_law (c := c) (kont_nl c r) row.length row 0 s (Nat.le_refl _) (h10 row (List.mem_cons_self ..)) (by rw [hc]; unfold ccQ; split <;> rfl) F (fit0 c r)
    show finQ c r s (row ++ 10 :: jnl (row2 :: rest)) = (told c r 0 s (softNL r) (plainNL c) row).bind fun p => (rowsQ c r p.2 (row2 :: rest)).map fun t => p.1 ++ t
    have e2 : finQ c r s (row ++ 10 :: jnl (row2 :: rest)) = (runQ c r (nlK c r) s row).bind fun p => (finQ c r p.2 (jnl (row2 :: rest))).map fun t => p.1 ++ t := by
      unfold finQ runQ
      rw [folQ_app]
      cases folQ c r s row with
      | none => rfl
      | some p =>
        show Option.bind (Option.map _ ((takeQ c r p.2 10).bind fun z => (folQ c r z.2 (jnl (row2 :: rest))).map fun q => (z.1 ++ q.1, q.2))) _ = Option.bind (Option.map _ (takeQ c r p.2 10)) _
        cases takeQ c r p.2 10 with
        | none => rfl
        | some z =>
          show Option.bind (Option.map _ (Option.map _ (folQ c r z.2 (jnl (row2 :: rest))))) _ = Option.map _ (Option.bind (folQ c r z.2 (jnl (row2 :: rest))) _)
          cases folQ c r z.2 (jnl (row2 :: rest)) with
          | none => rfl
          | some q =>
            show (if q.2.beg = [] then some (p.1 ++ (z.1 ++ q.1)) else none) = Option.map _ (if q.2.beg = [] then some q.1 else none)
            by_cases h : q.2.beg = []
            · rw [if_pos h, if_pos h]
              show _ = some ((p.1 ++ z.1) ++ q.1)
              rw [List.append_assoc]
            · rw [if_neg h, if_neg h]
              rfl
    rw [e2, e]
    cases ht : told c r 0 s (softNL r) (plainNL c) row with
    | none => rfl
    | some p =>
      obtain ⟨t1, t2⟩ := told_free (ds := p.1) (s' := p.2) ht
      show Option.map _ (finQ c r p.2 (jnl (row2 :: rest))) = Option.map _ (rowsQ c r p.2 (row2 :: rest))
      rw [text_law c r (row2 :: rest) p.2 (List.cons_ne_nil _ _) (fun z hz => h10 z (List.mem_cons_of_mem _ hz)) t1 (t2.imp id fun z => ⟨z.1, .inr z.2⟩)]

end
section
variable {w : World} {K : PySem.W.Frag} {mg : Str → Option Value} {base : Heap}
/-! ### the law's own reading -/
def dgt (r : RD) (d : Nat) : Bool := decide (d ∈ hexes) || (r.fold && decide (97 ≤ d ∧ d ≤ 102))
def upx (d : Nat) : Nat := if 97 ≤ d then d - 32 else d
theorem hexes_iff (d : Nat) : d ∈ hexes ↔ (48 ≤ d ∧ d ≤ 57) ∨ (65 ≤ d ∧ d ≤ 70) := by
  unfold hexes
  rw [List.mem_append, List.mem_range'_1, List.mem_range'_1]
  omega
theorem hexQ_dgt (r : RD) (d : Nat) : hexQ r d = if dgt r d = true then some (upx d) else none := by
  unfold hexQ dgt upx
  by_cases h : d ∈ hexes
  · have := (hexes_iff d).mp h
    rw [if_pos h, decide_eq_true h, Bool.true_or, if_pos rfl, if_neg (by omega)]
  rw [if_neg h, decide_eq_false h, Bool.false_or]
  cases hf : r.fold with
  | false => rfl
  | true =>
    rw [if_pos rfl, Bool.true_and]
    unfold oc
    by_cases h1 : 65 ≤ d ∧ d ≤ 90
    · rw [if_pos h1]
      show (if d + 32 ∈ hexes then some (d + 32) else none) = _
      rw [if_neg (fun z => by have := (hexes_iff _).mp z; omega), if_neg (by simp; omega)]
    rw [if_neg h1]
    by_cases h2 : 97 ≤ d ∧ d ≤ 122
    · rw [if_pos h2]
      show (if d - 32 ∈ hexes then some (d - 32) else none) = _
      by_cases h3 : d ≤ 102
      · rw [if_pos ((hexes_iff _).mpr (by omega)), if_pos (by simp; omega), if_pos h2.1]
      · rw [if_neg (fun z => by have := (hexes_iff _).mp z; omega), if_neg (by simp; omega)]
    · rw [if_neg h2]
      show none = _
      rw [if_neg (by simp; omega)]
theorem hv_upx {r : RD} {d : Nat} (h : dgt r d = true) : Hx.hv (upx d) = Hx.hv d := by
  unfold dgt at h
  have : ((48 ≤ d ∧ d ≤ 57) ∨ (65 ≤ d ∧ d ≤ 70)) ∨ (97 ≤ d ∧ d ≤ 102) := by
    simp only [Bool.or_eq_true, Bool.and_eq_true, decide_eq_true_eq] at h
    rcases h with h | h
    · exact .inl ((hexes_iff d).mp h)
    · exact .inr h.2
  unfold upx Hx.hv
  by_cases h1 : 97 ≤ d
  · rw [if_pos h1]
    have e : ¬ d ≤ 57 := by omega
    have e2 : ¬ d - 32 ≤ 57 := by omega
    have e3 : ¬ 97 ≤ d - 32 := by omega
    rw [if_neg e, if_neg e2, if_pos h1, if_neg e3]
    omega
  · rw [if_neg h1]
theorem hexNum_upx {r : RD} {d e : Nat} (h1 : dgt r d = true) (h2 : dgt r e = true) : Hx.hexNum [upx d, upx e] = Hx.hexNum [d, e] := by
  show (0 * 16 + Hx.hv (upx d)) * 16 + Hx.hv (upx e) = (0 * 16 + Hx.hv d) * 16 + Hx.hv e
  rw [hv_upx h1, hv_upx h2]
/-- whether a soft break ends a row -/
def softR : List Nat → Bool
  | [] => false
  | [c] => decide (c = 61)
  | [c, d] => if c = 61 then false else softR [d]
  | c :: d :: e :: t => if c = 61 then softR t else softR (d :: e :: t)
/-- the bytes of a row without its soft break -/
def dataR (r : RD) : List Nat → Option (List Nat)
  | [] => some []
  | [c] => if c = 61 then none else some [c]
  | [c, d] => if c = 61 then none else (dataR r [d]).map fun l => c :: l
  | c :: d :: e :: t => if c = 61 then (if (dgt r d && dgt r e) = true then (dataR r t).map fun l => Hx.hexNum [d, e] :: l else none) else (dataR r (d :: e :: t)).map fun l => c :: l
theorem soft_plain {c : Nat} (h : c ≠ 61) (t : List Nat) : softR (c :: t) = softR t := by
  match t with
  | [] => exact decide_eq_false h
  | [d] =>
    show (if c = 61 then false else softR [d]) = _
    rw [if_neg h]
  | d :: e :: t =>
    show (if c = 61 then softR t else softR (d :: e :: t)) = _
    rw [if_neg h]
theorem data_plain (r : RD) {c : Nat} (h : c ≠ 61) (t : List Nat) : dataR r (c :: t) = (dataR r t).map fun l => c :: l := by
  match t with
  | [] =>
    show (if c = 61 then none else some [c]) = _
    rw [if_neg h]
    rfl
  | [d] =>
    show (if c = 61 then none else (dataR r [d]).map fun l => c :: l) = _
    rw [if_neg h]
  | d :: e :: t =>
    show (if c = 61 then _ else (dataR r (d :: e :: t)).map fun l => c :: l) = _
    rw [if_neg h]
theorem soft_ne {t : List Nat} (h : softR t = true) : t ≠ [] := fun z => by rw [z] at h; cases h
theorem drop_cons {c : Nat} {t : List Nat} (h : t ≠ []) : (c :: t).dropLast = c :: t.dropLast := by
  cases t with
  | nil => exact absurd rfl h
  | cons a b => rfl
def outR (r : RD) (row : List Nat) : Option (List Nat × Bool) := if softR row = true then (dataR r row.dropLast).map fun ds => (ds, true) else (dataR r row).map fun ds => (ds, false)
theorem out_plain (r : RD) {c : Nat} (h : c ≠ 61) (t : List Nat) : outR r (c :: t) = (outR r t).map fun p => (c :: p.1, p.2) := by
  unfold outR
  rw [soft_plain h]
  by_cases hs : softR t = true
  · rw [if_pos hs, if_pos hs, drop_cons (soft_ne hs), data_plain r h, Option.map_map, Option.map_map]
    rfl
  · rw [if_neg hs, if_neg hs, data_plain r h, Option.map_map, Option.map_map]
    rfl
theorem scan_law (r : RD) : ∀ (m : Nat) (row : List Nat), row.length ≤ m → scanR (hexQ r) row = outR r row := by
  intro m
  induction m with
  | zero =>
    intro row hl
    match row, hl with
    | [], _ => rfl
  | succ m ih =>
    intro row hl
    match row, hl with
    | [], _ => rfl
    | c :: t, hl =>
      have hl2 : t.length ≤ m := by rw [List.length_cons] at hl; omega
      by_cases h : c = 61
      · subst h
        match t, hl2 with
        | [], _ => rfl
        | [d], _ => rfl
        | d :: e :: t, hl2 =>
          have ht : t.length ≤ m := by rw [List.length_cons, List.length_cons] at hl2; omega
          show (if (61 : Nat) = 61 then (hexQ r d).bind fun x => (hexQ r e).bind fun y => (scanR (hexQ r) t).map fun p => (Hx.hexNum [x, y] :: p.1, p.2) else (scanR (hexQ r) (d :: e :: t)).map fun p => (61 :: p.1, p.2)) = _
          rw [if_pos rfl, hexQ_dgt, hexQ_dgt, ih t ht]
          have es : softR (61 :: d :: e :: t) = softR t := rfl
          have ed : ∀ u : List Nat, dataR r (61 :: d :: e :: u) = if (dgt r d && dgt r e) = true then (dataR r u).map fun l => Hx.hexNum [d, e] :: l else none := fun u => rfl
          unfold outR
          rw [es]
          cases h1 : dgt r d with
          | false =>
            rw [if_neg (by decide)]
            show none = _
            by_cases hs : softR t = true
            · rw [if_pos hs, drop_cons (List.cons_ne_nil _ _), drop_cons (List.cons_ne_nil _ _), drop_cons (soft_ne hs), ed, h1]
              rfl
            · rw [if_neg hs, ed, h1]
              rfl
          | true =>
            rw [if_pos rfl]
            cases h2 : dgt r e with
            | false =>
              rw [if_neg (by decide)]
              show none = _
              by_cases hs : softR t = true
              · rw [if_pos hs, drop_cons (List.cons_ne_nil _ _), drop_cons (List.cons_ne_nil _ _), drop_cons (soft_ne hs), ed, h1, h2]
                rfl
              · rw [if_neg hs, ed, h1, h2]
                rfl
            | true =>
              rw [if_pos rfl]
              show Option.map (fun p : List Nat × Bool => (Hx.hexNum [upx d, upx e] :: p.1, p.2)) _ = _
              rw [hexNum_upx h1 h2]
              by_cases hs : softR t = true
              · rw [if_pos hs, if_pos hs, drop_cons (List.cons_ne_nil _ _), drop_cons (List.cons_ne_nil _ _), drop_cons (soft_ne hs), ed, h1, h2, Option.map_map]
                show _ = Option.map _ (Option.map _ _)
                rw [Option.map_map]
                rfl
              · rw [if_neg hs, if_neg hs, ed, h1, h2, Option.map_map]
                show _ = Option.map _ (Option.map _ _)
                rw [Option.map_map]
                rfl
      · rw [scan_plain _ h, out_plain r h, ih t hl2]

end
section
variable {w : World} {K : PySem.W.Frag} {mg : Str → Option Value} {base : Heap}
/-! ### the law's own reading of a text -/
def rowD (r : RD) (row : List Nat) (soft : Bool) : Option (List Nat) := (dataR r row).bind fun ds => if r.loose = false ∧ soft = false ∧ row.getLast? = some 32 then none else some ds
def cutR (row : List Nat) : List Nat := if softR row = true then row.dropLast else row
def lawQ (c : QD) (r : RD) : List (List Nat) → Option (List Nat)
  | [] => some []
  | row :: rest =>
    if fitN c r row.length = false ∨ (softR row = true ∧ rest = []) then none else
    if softR row = true ∧ r.loose = false ∧ rest.head? = some [] then none else
    (rowD r (cutR row) (softR row)).bind fun ds =>
      if softR row = false ∧ rest ≠ [] ∧ c.bin = true then none else (lawQ c r rest).map fun t => ds ++ (if softR row = false ∧ rest ≠ [] then [10] else []) ++ t
theorem rowD_soft (r : RD) (row : List Nat) : rowD r row true = dataR r row := by
  unfold rowD
  cases dataR r row with
  | none => rfl
  | some ds =>
    show (if r.loose = false ∧ true = false ∧ row.getLast? = some 32 then none else some ds) = some ds
    rw [if_neg (fun z => by cases z.2.1)]
theorem rowD_hard (r : RD) (row : List Nat) : rowD r row false = (dataR r row).bind fun ds => if badEnd r ⟨0, []⟩ row = true then none else some ds := by
  unfold rowD
  cases dataR r row with
  | none => rfl
  | some ds =>
    show (if r.loose = false ∧ false = false ∧ row.getLast? = some 32 then none else some ds) = if badEnd r ⟨0, []⟩ row = true then none else some ds
    have e : (r.loose = false ∧ false = false ∧ row.getLast? = some 32) ↔ badEnd r ⟨0, []⟩ row = true := by
      unfold badEnd
      cases row.getLast? with
      | none => simp
      | some x => simp
    by_cases h : badEnd r ⟨0, []⟩ row = true
    · rw [if_pos h, if_pos (e.mpr h)]
    · rw [if_neg h, if_neg (fun z => h (e.mp z))]
theorem told_ne {c : QD} {r : RD} {n : Nat} {s s' : RQ} {soft plain : Option (List Nat × RQ)} {row : List Nat} (h : row ≠ []) : told c r n s soft plain row = told c r n s' soft plain row := by
  have e : badEnd r s row = badEnd r s' row := by
    unfold badEnd
    cases hg : row.getLast? with
    | none => exact absurd (List.getLast?_eq_none_iff.mp hg) h
    | some x => rfl
  unfold told
  rw [e]
theorem rows_soft {c : QD} {r : RD} {s : RQ} (h : s.beg ≠ []) (row : List Nat) (rest : List (List Nat)) : rowsQ c r s (row :: rest) = if row = [] then none else rowsQ c r ⟨0, []⟩ (row :: rest) := by
  by_cases hr : row = []
  · subst hr
    rw [if_pos rfl]
    have e : ∀ soft plain, told c r 0 s soft plain [] = none := fun soft plain => by
      unfold told
      rw [if_neg (show ¬ fitN c r (0 + ([] : List Nat).length) = false by rw [List.length_nil, fit0]; decide)]
      show Option.map _ (if badEnd r s [] = true then none else plain) = none
      rw [if_pos (by unfold badEnd; simp [h])]
      rfl
    match rest with
    | [] =>
      show Option.map _ (told c r 0 s none _ []) = none
      rw [e]
      rfl
    | a :: b =>
      show Option.bind (told c r 0 s _ _ []) _ = none
      rw [e]
      rfl
  · rw [if_neg hr]
    match rest with
    | [] =>
      show Option.map _ (told c r 0 s none _ row) = Option.map _ (told c r 0 ⟨0, []⟩ none _ row)
      rw [told_ne hr]
    | a :: b =>
      show Option.bind (told c r 0 s _ _ row) _ = Option.bind (told c r 0 ⟨0, []⟩ _ _ row) _
      rw [told_ne hr]
theorem law_rows (c : QD) (r : RD) : ∀ rows : List (List Nat), rows ≠ [] → rowsQ c r ⟨0, []⟩ rows = lawQ c r rows
  | [], h => absurd rfl h
  | [row], _ => by
    show Option.map (fun z : List Nat × RQ => z.1) (told c r 0 ⟨0, []⟩ none (some ([], ⟨0, []⟩)) row) = lawQ c r [row]
    unfold lawQ told
    rw [Nat.zero_add, scan_law r row.length row (Nat.le_refl _)]
    by_cases f : fitN c r row.length = false
    · rw [if_pos f, if_pos (.inl f)]
      rfl
    rw [if_neg f]
    unfold outR cutR
    by_cases hs : softR row = true
    · rw [if_pos hs, if_pos (show fitN c r row.length = false ∨ (softR row = true ∧ ([] : List (List Nat)) = []) from .inr ⟨hs, rfl⟩)]
      cases dataR r row.dropLast <;> rfl
    · have hs' : softR row = false := by simpa using hs
      rw [if_neg hs, if_neg (show ¬ (fitN c r row.length = false ∨ (softR row = true ∧ ([] : List (List Nat)) = [])) from fun z => z.elim f fun z => hs z.1), if_neg (show ¬ (softR row = true ∧ r.loose = false ∧ ([] : List (List Nat)).head? = some []) from fun z => hs z.1), if_neg hs, hs', rowD_hard]
      cases dataR r row with
      | none => rfl
      | some ds =>
        show Option.map _ (Option.map _ (if badEnd r ⟨0, []⟩ row = true then none else some ([], (⟨0, []⟩ : RQ)))) = Option.bind (if badEnd r ⟨0, []⟩ row = true then none else some ds) _
        by_cases hb : badEnd r ⟨0, []⟩ row = true
        · rw [if_pos hb, if_pos hb]
          rfl
        · rw [if_neg hb, if_neg hb]
          show some (ds ++ []) = if (false = false ∧ ([] : List (List Nat)) ≠ [] ∧ c.bin = true) then none else (lawQ c r []).map _
          rw [if_neg (show ¬ (false = false ∧ ([] : List (List Nat)) ≠ [] ∧ c.bin = true) from fun z => z.2.1 rfl)]
          show some (ds ++ []) = some (ds ++ (if (false = false ∧ ([] : List (List Nat)) ≠ []) then [10] else []) ++ [])
          rw [if_neg (show ¬ (false = false ∧ ([] : List (List Nat)) ≠ []) from fun z => z.2 rfl)]
          simp
  | row :: row2 :: rest, _ => by
    have ih := law_rows c r (row2 :: rest) (List.cons_ne_nil _ _)
    show Option.bind (told c r 0 ⟨0, []⟩ (softNL r) (plainNL c) row) (fun p => (rowsQ c r p.2 (row2 :: rest)).map fun t => p.1 ++ t) = _
    rw [lawQ]
    unfold told
    rw [Nat.zero_add, scan_law r row.length row (Nat.le_refl _)]
    by_cases f : fitN c r row.length = false
    · rw [if_pos f, if_pos (.inl f)]
      rfl
    rw [if_neg f, if_neg (show ¬ (fitN c r row.length = false ∨ (softR row = true ∧ row2 :: rest = [])) from fun z => z.elim f fun z => nomatch z.2)]
    unfold outR cutR
    by_cases hs : softR row = true
    · rw [if_pos hs, if_pos hs, hs, rowD_soft]
      by_cases hk : r.loose = false ∧ row2 = []
      · rw [if_pos (show (true = true ∧ r.loose = false ∧ (row2 :: rest).head? = some []) from ⟨rfl, hk.1, by rw [hk.2]; rfl⟩)]
        cases dataR r row.dropLast with
        | none => rfl
        | some ds =>
          show Option.map _ (rowsQ c r ⟨0, if r.loose = true then [] else [61, 10]⟩ (row2 :: rest)) = none
          rw [rows_soft (by rw [hk.1]; simp), if_pos hk.2]
          rfl
      · rw [if_neg (show ¬ (true = true ∧ r.loose = false ∧ (row2 :: rest).head? = some []) from fun z => hk ⟨z.2.1, by simpa using z.2.2⟩)]
        cases dataR r row.dropLast with
        | none => rfl
        | some ds =>
          show Option.map (fun t => (ds ++ []) ++ t) (rowsQ c r ⟨0, if r.loose = true then [] else [61, 10]⟩ (row2 :: rest)) = if (true = false ∧ row2 :: rest ≠ [] ∧ c.bin = true) then none else (lawQ c r (row2 :: rest)).map fun t => ds ++ (if (true = false ∧ row2 :: rest ≠ []) then [10] else []) ++ t
          rw [if_neg (show ¬ (true = false ∧ row2 :: rest ≠ [] ∧ c.bin = true) from fun z => nomatch z.1), if_neg (show ¬ (true = false ∧ row2 :: rest ≠ []) from fun z => nomatch z.1), ← ih]
          cases hl : r.loose with
          | true => rfl
          | false =>
            rw [rows_soft (by simp), if_neg (fun z => hk ⟨hl, z⟩)]
    · have hs' : softR row = false := by simpa using hs
      rw [if_neg hs, if_neg (show ¬ (softR row = true ∧ r.loose = false ∧ (row2 :: rest).head? = some []) from fun z => hs z.1), if_neg hs, hs', rowD_hard]
      cases dataR r row with
      | none => rfl
      | some ds =>
        show Option.bind (Option.map _ (if badEnd r ⟨0, []⟩ row = true then none else plainNL c)) _ = Option.bind (if badEnd r ⟨0, []⟩ row = true then none else some ds) _
        by_cases hb : badEnd r ⟨0, []⟩ row = true
        · rw [if_pos hb, if_pos hb]
          rfl
        · rw [if_neg hb, if_neg hb]
          unfold plainNL
          show _ = if (false = false ∧ row2 :: rest ≠ [] ∧ c.bin = true) then none else (lawQ c r (row2 :: rest)).map fun t => ds ++ (if (false = false ∧ row2 :: rest ≠ []) then [10] else []) ++ t
          by_cases hc : c.bin = true
          · rw [if_pos hc, if_pos (show false = false ∧ row2 :: rest ≠ [] ∧ c.bin = true from ⟨rfl, List.cons_ne_nil _ _, hc⟩)]
            rfl
          · rw [if_neg hc, if_neg (show ¬ (false = false ∧ row2 :: rest ≠ [] ∧ c.bin = true) from fun z => hc z.2.2), if_pos (show false = false ∧ row2 :: rest ≠ [] from ⟨rfl, List.cons_ne_nil _ _⟩), ← ih]
            rfl
/-- what the program reads is what the law reads -/
theorem read_law (c : QD) (r : RD) {rows : List (List Nat)} (h : rows ≠ []) (h10 : ∀ row ∈ rows, ∀ x ∈ row, x ≠ 10) : finQ c r ⟨0, []⟩ (jnl rows) = lawQ c r rows :=
  (text_law c r rows ⟨0, []⟩ h h10 rfl (.inl rfl)).trans (law_rows c r rows h)

end
section
variable {w : World} {K : PySem.W.Frag} {mg : Str → Option Value} {base : Heap}
local macro_rules | `(tactic| walk_at "hcq") => `(tactic| first
  | assumption
  | ((refine WaysAt.same (H := ?xH) ?xb ?xa); (case xa => assumption); (case xb => walk_at "hcq")))
local macro_rules | `(tactic| walk_at "rd0") => `(tactic| first
  | ((with_reducible refine r_getQ (a := ?xa) (c := ?xc) ?x1 ?x2 ?_); (case x1 => rfl); (case x2 => walk_at "hcq"))
  | ((with_reducible refine r_methQ (a := ?xa) (c := ?xc) ?x1 ?x2 ?x3 ?_); (case x1 => rfl); (case x2 => walk_at "hcq"); (case x3 => exact ⟨fun _ => rfl, fun _ _ => rfl⟩))
  | (with_reducible refine r_fmtB ?_)
  | (with_reducible refine r_dget ?_)
  | (with_reducible refine r_m0 ?_)
  | (with_reducible refine r_makeK ?_)
  | (with_reducible refine r_cval ?_)
  | (with_reducible refine r_sfld ?_)
  | (with_reducible refine r_isiI ?_)
  | (with_reducible refine r_isiIB ?_)
  | (with_reducible refine r_isiBB ?_)
  | (with_reducible refine r_isiS ?_)
  | (with_reducible refine r_int1I ?_)
  | (with_reducible refine r_int1B ?_))

local macro_rules | `(tactic| walk_at "hcr") => `(tactic| first
  | assumption
  | ((refine RulesAt.same (H := ?xH) ?xb ?xa); (case xa => assumption); (case xb => walk_at "hcr")))
local macro_rules | `(tactic| walk_at "rd0") => `(tactic| first
  | ((with_reducible refine r_getR (a := ?xa) (r := ?xr) ?x1 ?x2 ?_); (case x1 => rfl); (case x2 => walk_at "hcr")))

set_option hygiene false in
local macro_rules | `(tactic| walk_at "n1") => `(tactic| (refine And.intro (by walk_at "sz") ?_; intro p1 np1; generalize hg : upd _ p1 _ = H1; have s1 := same_of hg np1; have v1 := at_of hg; clear hg))
set_option hygiene false in
local macro_rules | `(tactic| walk_at "n2") => `(tactic| (refine And.intro (by walk_at "sz") ?_; intro p2 np2; generalize hg : upd _ p2 _ = H2; have s2 := same_of hg np2; have v2 := at_of hg; clear hg))
set_option hygiene false in
local macro_rules | `(tactic| walk_at "n3") => `(tactic| (refine And.intro (by walk_at "sz") ?_; intro p3 np3; generalize hg : upd _ p3 _ = H3; have s3 := same_of hg np3; have v3 := at_of hg; clear hg))
set_option hygiene false in
local macro_rules | `(tactic| walk_at "n4") => `(tactic| (refine And.intro (by walk_at "sz") ?_; intro p4 np4; generalize hg : upd _ p4 _ = H4; have s4 := same_of hg np4; have v4 := at_of hg; clear hg))

/-! ### texts looked at, texts read -/
theorem r_mkN {C : Addr} {fls : List Str} {ta : TA} {σ : S} {H : Hp} {E : XK} (h : ta σ H fun vs H1 => vs.length = fls.length ∧ (fls = [] → E (.ref C) none H1) ∧ (fls ≠ [] → ∀ d, H1 d = none → E (.ref C) (some d) (upd H1 d (.xd (zipX [] fls vs))))) : tMkN C fls ta σ H E := h
theorem r_negI {i : Int} {H : Hp} {Q : VK} (h : Q (.int (-i)) H) : rNegI (.int i) H Q := ⟨i, rfl, h⟩
def NoCh (T : Txt K mg) (E : XK) (H : Hp) (i : Int) : Prop := ∀ d H', Same H H' → H' d = some (.xd [("index", .int i)]) → E (.ref T.X_NoCharacter) (some d) H'
theorem NoCh.same {T : Txt K mg} {E : XK} {H H' : Hp} {i : Int} (h : NoCh T E H i) (s : Same H H') : NoCh T E H' i := fun d G t e => h d G (s.trans t) e
def WrE (T : Txt K mg) (E : XK) (H : Hp) : Prop := ∀ d fs H', Same H H' → H' d = some (.xd fs) → E (.ref T.X_Wrong) (some d) H'
theorem WrE.same {T : Txt K mg} {E : XK} {H H' : Hp} (h : WrE T E H) (s : Same H H') : WrE T E H' := fun d fs G t e => h d fs G (s.trans t) e
def FirstBad (l : List Nat) (i : Nat) : Prop := ∃ ch, l[i]? = some ch ∧ ¬ Ch ch ∧ ∀ (j x : Nat), j < i → l[j]? = some x → Ch x
/-- a value that is no text, and the index that is told of it -/
def Odd (H : Hp) (v : V) (i : Int) : Prop := (∃ l, ∃ k : Nat, v = .str (tx l) ∧ l.length ≤ 12000 ∧ FirstBad l k ∧ i = k) ∨ (∃ l, v = .str (tx l) ∧ 12000 < l.length ∧ l.length ≤ 90000 ∧ i = -1) ∨ ∃ t, Kd H v t ∧ t ≠ "str" ∧ i = -1
theorem Odd.same {H H' : Hp} {v : V} {i : Int} (h : Odd H v i) (s : Same H H') : Odd H' v i := by
  rcases h with h | h | ⟨t, k, n, e⟩
  · exact .inl h
  · exact .inr (.inl h)
  · exact .inr (.inr ⟨t, k.same s, n, e⟩)
def sp_check_text (T : Txt K mg) : Sp := fun vs H Q E => ∃ v, vs = [v] ∧ ((∃ l, v = .str (tx l) ∧ l.length ≤ 12000 ∧ (∀ c ∈ l, Ch c) ∧ ∀ H', Same H H' → Q .non H') ∨ ∃ i, Odd H v i ∧ NoCh T E H i)
theorem len_check_text (T : Txt K mg) (vs : List V) (H : Hp) (Q : VK) (E : XK) (h : sp_check_text T vs H Q E) : vs.length = 1 := by
  obtain ⟨_, rfl, _⟩ := h
  rfl
def t_check_text (T : Txt K mg) (E : XK) : TS := (tSeq (tIfS (tOr (tNot (tB (tCB (rIsi K) (tCons (tVar 0) (tCons (tC (.ty "str")) tNil))))) (tTest (tOp rGtI (tCB (rLenU K) (tCons (tVar 0) tNil)) (tC (.int 12000))))) (tRaiseE E (tMkN T.X_NoCharacter ["index"] (tCons (tUn rNegI (tC (.int 1))) tNil))) tNext)
    (tFor (iEnumA K (tCons (tVar 0) tNil)) (gTup K 2 (gCons (gName 1) (gCons (gName 2) gNil))) (tIfS (tTest (tOp (rNinU K) (tVar 2) (tC (.str (Str.ofString "\n !\"#$&'()*+,-./0123456789:;<=>?@ABCDEFGHIJKLMNOPQRSTUVWXYZ[\\]^_`abcdefghijklmnopqrstuvwxyz{|}~"))))) (tRaiseE E (tMkN T.X_NoCharacter ["index"] (tCons (tVar 1) tNil))) tNext)))

theorem pure_check_text (T : Txt K mg) (vs : List V) (H : Hp) (Q : VK) (E : XK) (h : sp_check_text T vs H Q E) : t_check_text T E { nx := fun _ H' => Q .non H', rt := Q } (start ["value", "index", "character"] vs) H := by
  obtain ⟨v, rfl, h⟩ := h
  unfold t_check_text
  have scan : ∀ (l : List Nat) (hl : l.length ≤ 12000) (q : (∀ i ch, l[i]? = some ch → ¬ Ch ch → (∀ (j x : Nat), j < i → l[j]? = some x → Ch x) → NoCh T E H i)) (q2 : (∀ c ∈ l, Ch c) → ∀ H', Same H H' → Q .non H'),
      tSeq (tIfS (tOr (tNot (tB (tCB (rIsi K) (tCons (tVar 0) (tCons (tC (.ty "str")) tNil))))) (tTest (tOp rGtI (tCB (rLenU K) (tCons (tVar 0) tNil)) (tC (.int 12000))))) (tRaiseE E (tMkN T.X_NoCharacter ["index"] (tCons (tUn rNegI (tC (.int 1))) tNil))) tNext)
    (tFor (iEnumA K (tCons (tVar 0) tNil)) (gTup K 2 (gCons (gName 1) (gCons (gName 2) gNil))) (tIfS (tTest (tOp (rNinU K) (tVar 2) (tC (.str (Str.ofString "\n !\"#$&'()*+,-./0123456789:;<=>?@ABCDEFGHIJKLMNOPQRSTUVWXYZ[\\]^_`abcdefghijklmnopqrstuvwxyz{|}~"))))) (tRaiseE E (tMkN T.X_NoCharacter ["index"] (tCons (tVar 1) tNil))) tNext)) { nx := fun _ H' => Q .non H', rt := Q } [some (.str (tx l)), none, none] H := by
    intro l hl q q2
    walk_at "rd"
    refine r_lenUS (smallS (by rw [tx_len]; omega)) ?_
    walk_at "rd"
    rw [tx_len]
    refine r_iteD (fun h => absurd h (by omega)) (fun _ => ?_)
    walk_at "rd"
    refine r_enumAS ?_
    walk_at "rd"
    refine ⟨tx l, rfl, ?_⟩
    refine f_it walk_pairs (fun i σ G => ∃ v1 v2, σ = [some (.str (tx l)), v1, v2] ∧ Same H G ∧ ∀ (j x : Nat), j < i → l[j]? = some x → Ch x) ⟨none, none, rfl, Same.refl H, fun j x z => absurd z (Nat.not_lt_zero _)⟩ (fun _ _ _ _ _ => trivial) ?_ ?_
    · rintro i x σ G G' hi ⟨v1, v2, rfl, sG, hall⟩ ⟨Tp, u, w, rfl, nT, hG', ea, eb⟩
      have hsT := same_of hG'.symm nT
      have hvT := at_of hG'.symm
      clear hG'
      cases ea
      unfold sgn at eb
      obtain ⟨ch, hch, rfl⟩ := Option.map_eq_some_iff.mp eb
      have hli : l[i]? = some ch := by
        have e : (tx l).cps[i]? = l[i]? := by simp [tx]
        rw [← e]
        exact hch
      walk_at "rd"
      refine r_notInS ?_
      rw [chars_eq]
      by_cases hm : Ch ch
      · rw [decide_eq_true (ch_mem.mp hm)]
        walk_at "rd"
        refine ⟨_, _, rfl, sG.trans hsT, fun j y hj hy => ?_⟩
        by_cases e : j = i
        · subst e
          rw [hli] at hy
          cases hy
          exact hm
        · exact hall j y (by omega) hy
      · rw [decide_eq_false (fun z => hm (ch_mem.mpr z))]
        walk_at "rd"
        refine r_raise (r_mkN (r_cons ?_))
        walk_at "rd"
        refine ⟨rfl, fun z => (nomatch z), fun _ d nd => ?_⟩
        exact q i ch hli hm hall d _ ((sG.trans hsT).trans (same_new nd)) upd_same
    · rintro σ G ⟨v1, v2, rfl, sG, hall⟩
      walk_at "rd"
      refine q2 (fun c hc => ?_) G sG
      obtain ⟨j, hj⟩ := List.getElem?_of_mem hc
      have hjl : j < l.length := (List.getElem?_eq_some_iff.mp hj).1
      exact hall j c (by rw [show (tx l).cps.size = l.length by simp [tx]]; exact hjl) hj
  rcases h with ⟨l, rfl, hl, hc, q⟩ | ⟨i, h, q⟩
  · exact scan l hl (fun i ch hi hn _ => absurd (hc ch (List.mem_of_getElem? hi)) hn) fun _ => q
  · rcases h with ⟨l, k, rfl, hl, ⟨ch, h1, h2, h3⟩, rfl⟩ | ⟨l, rfl, hl, hl2, rfl⟩ | ⟨t, kd, nt, rfl⟩
    · refine scan l hl (fun i ch' hi hn hall => ?_) fun hc => absurd (hc ch (List.mem_of_getElem? h1)) h2
      have e : i = k := by
        rcases Nat.lt_trichotomy i k with z | z | z
        · exact absurd (h3 i ch' z hi) hn
        · exact z
        · exact absurd (hall k ch z h1) h2
      rw [e]
      exact q
    · walk_at "rd"
      refine r_lenUS (smallS (by rw [tx_len]; omega)) ?_
      walk_at "rd"
      rw [tx_len]
      refine r_iteD (fun _ => ?_) (fun h => absurd (by omega) h)
      walk_at "rd"
      refine r_raise (r_mkN (r_cons ?_))
      walk_at "rd"
      refine r_negI ?_
      walk_at "rd"
      refine ⟨rfl, fun z => (nomatch z), fun _ d nd => ?_⟩
      exact q d _ (same_new nd) upd_same
    · walk_at "rd"
      refine r_isiStr kd ?_
      rw [decide_eq_false nt]
      walk_at "rd"
      refine r_raise (r_mkN (r_cons ?_))
      walk_at "rd"
      refine r_negI ?_
      walk_at "rd"
      refine ⟨rfl, fun z => (nomatch z), fun _ d nd => ?_⟩
      exact q d _ (same_new nd) upd_same
theorem ok_check_text (T : Txt K mg) : FnOk P w K mg base (L2.CX P w) 2 T.check_text_a T.check_text_d ["value"] (sp_check_text T) := by
  refine T.check_text_f.ok sc_check_text (fun vs H Q E h => len_check_text T vs H Q E h) (fun cdv A outer s H vs Q E hr h => ⟨t_check_text T E, ?_, pure_check_text T vs H Q E h⟩)
  have hu := hu64 hr
  exact (pss_cons (ps_if (PW.pt (pw_or (pt_not (pt_val (pe_callB call_isi (by rfl) T.n_isinstance (by decide +kernel) (pa_cons (pv 0) (pa_cons (pe_bltn (v := .ty "str") (by rfl) T.n_str (by decide +kernel) rfl) pa_nil))))) (pw_or1 (pt_cmpR op_gt (pe_callB c_lenU (by rfl) T.n_len (by decide +kernel) (pa_cons (pv 0) pa_nil)) (pe_glob (by rfl) T.k_MOST_CHARACTERS_g T.k_MOST_CHARACTERS_r) (nomark _))))) (pss_one (ps_raise rfl (takes_of rfl rfl rfl rfl) (pmk_errN (k := 0) (fls := ["index"]) PySem.PxE.bas_ValueError T.X_NoCharacter_F.oex T.X_NoCharacter_F.iC T.X_NoCharacter_F.tI (xi_NoCharacter T w) (hr.mono (by decide)) (by rfl) T.X_NoCharacter_g (pa_cons (pe_un un_neg pe_int) pa_nil) (by decide)))) pss_nil)
      (pss_one (ps_for (passes_of rfl) rfl (pi_enumA (by rfl) T.n_enumerate (pa_cons (pv 0) pa_nil)) (pg_tup (by rfl) (pgs_cons (pg_name (i := 1) sc_check_text.nd rfl (.inl rfl)) (pgs_cons (pg_name (i := 2) sc_check_text.nd rfl (.inl rfl)) pgs_nil))) (pss_one (ps_if (pt_cmpR op_ninU (pv 2) (pe_glob (by rfl) T.k_CHARACTERS_g T.k_CHARACTERS_r) (by rfl)) (pss_one (ps_raise rfl (takes_of rfl rfl rfl rfl) (pmk_errN (k := 0) (fls := ["index"]) PySem.PxE.bas_ValueError T.X_NoCharacter_F.oex T.X_NoCharacter_F.iC T.X_NoCharacter_F.tI (xi_NoCharacter T w) (hr.mono (by decide)) (by rfl) T.X_NoCharacter_g (pa_cons (pv 1) pa_nil) (by decide)))) pss_nil)))))


end
section
variable {w : World} {K : PySem.W.Frag} {mg : Str → Option Value} {base : Heap}
local macro_rules | `(tactic| walk_at "hcq") => `(tactic| first
  | assumption
  | ((refine WaysAt.same (H := ?xH) ?xb ?xa); (case xa => assumption); (case xb => walk_at "hcq")))
local macro_rules | `(tactic| walk_at "rd0") => `(tactic| first
  | ((with_reducible refine r_getQ (a := ?xa) (c := ?xc) ?x1 ?x2 ?_); (case x1 => rfl); (case x2 => walk_at "hcq"))
  | ((with_reducible refine r_methQ (a := ?xa) (c := ?xc) ?x1 ?x2 ?x3 ?_); (case x1 => rfl); (case x2 => walk_at "hcq"); (case x3 => exact ⟨fun _ => rfl, fun _ _ => rfl⟩))
  | (with_reducible refine r_fmtB ?_)
  | (with_reducible refine r_dget ?_)
  | (with_reducible refine r_m0 ?_)
  | (with_reducible refine r_makeK ?_)
  | (with_reducible refine r_cval ?_)
  | (with_reducible refine r_sfld ?_)
  | (with_reducible refine r_isiI ?_)
  | (with_reducible refine r_isiIB ?_)
  | (with_reducible refine r_isiBB ?_)
  | (with_reducible refine r_isiS ?_)
  | (with_reducible refine r_int1I ?_)
  | (with_reducible refine r_int1B ?_))

local macro_rules | `(tactic| walk_at "hcr") => `(tactic| first
  | assumption
  | ((refine RulesAt.same (H := ?xH) ?xb ?xa); (case xa => assumption); (case xb => walk_at "hcr")))
local macro_rules | `(tactic| walk_at "rd0") => `(tactic| first
  | ((with_reducible refine r_getR (a := ?xa) (r := ?xr) ?x1 ?x2 ?_); (case x1 => rfl); (case x2 => walk_at "hcr")))

set_option hygiene false in
local macro_rules | `(tactic| walk_at "n1") => `(tactic| (refine And.intro (by walk_at "sz") ?_; intro p1 np1; generalize hg : upd _ p1 _ = H1; have s1 := same_of hg np1; have v1 := at_of hg; clear hg))
set_option hygiene false in
local macro_rules | `(tactic| walk_at "n2") => `(tactic| (refine And.intro (by walk_at "sz") ?_; intro p2 np2; generalize hg : upd _ p2 _ = H2; have s2 := same_of hg np2; have v2 := at_of hg; clear hg))
set_option hygiene false in
local macro_rules | `(tactic| walk_at "n3") => `(tactic| (refine And.intro (by walk_at "sz") ?_; intro p3 np3; generalize hg : upd _ p3 _ = H3; have s3 := same_of hg np3; have v3 := at_of hg; clear hg))
set_option hygiene false in
local macro_rules | `(tactic| walk_at "n4") => `(tactic| (refine And.intro (by walk_at "sz") ?_; intro p4 np4; generalize hg : upd _ p4 _ = H4; have s4 := same_of hg np4; have v4 := at_of hg; clear hg))

/-! ### rules, passed -/
def opnQ : RQ := ⟨0, []⟩
theorem r_isNNr {a : Addr} {H : Hp} {Q : VK} (h : Q (.bl false) H) : rIsNN (.ref a) .non H Q := ⟨rfl, h⟩
theorem r_isNNn {H : Hp} {Q : VK} (h : Q (.bl true) H) : rIsNN .non .non H Q := ⟨rfl, h⟩
def sp_rules_for (T : Txt K mg) : Sp := fun vs H Q _ => ∃ a rr c r, vs = [.ref a, .ref rr] ∧ QuotAt T H a c ∧ RulesAt T H rr r ∧ r.skip = [] ∧ Q (.ref rr) H
theorem len_rules_for (T : Txt K mg) (vs : List V) (H : Hp) (Q : VK) (E : XK) (h : sp_rules_for T vs H Q E) : vs.length = 2 := by
  obtain ⟨_, _, _, _, rfl, _⟩ := h
  rfl
def t_rules_for (T : Txt K mg) : TS := (tSeq (tAsg (tIf (tTest (tOp rIsNN (tVar 1) (tC .non))) (tMeth T.C_Quoted "usual" (sp_Machine_usual T) [] E0 (tVar 0) tNil) (tVar 1)) (gName 2))
    (tSeq (tIfS (tNot (tB (tMeth T.C_Rules "suit" (sp_Rules_suit T) [] E0 (tVar 2) (tCons (tVar 0) tNil)))) tNever tNext)
    (tRet (tVar 2))))

theorem pure_rules_for (T : Txt K mg) (vs : List V) (H : Hp) (Q : VK) (E : XK) (h : sp_rules_for T vs H Q E) : t_rules_for T { nx := fun _ H' => Q .non H', rt := Q } (start ["code", "rules", "found"] vs) H := by
  obtain ⟨a, rr, c, r, rfl, hc, hr, hsk, q⟩ := h
  obtain ⟨o, dx, D, h1, h2⟩ := id hr
  unfold t_rules_for
  walk_at "rd"
  refine r_isNNr ?_
  walk_at "rd"
  refine r_methI rfl h1 rfl ?_
  walk_at "rd"
  refine ⟨rr, a, r, c, rfl, hc, hr, ?_⟩
  rw [decide_eq_true hsk]
  walk_at "rd"
  exact q
theorem ok_rules_for (T : Txt K mg) : FnOk P w K mg base CX0 6 T.rules_for_a T.rules_for_d ["code", "rules"] (sp_rules_for T) := by
  refine T.rules_for_f.ok sc_rules_for (fun vs H Q E h => len_rules_for T vs H Q E h) (fun cdv A outer s H vs Q E hr h => ⟨t_rules_for T, PSs.nox ?_, pure_rules_for T vs H Q E h⟩)
  have hu := hu64 hr
  exact (pss_cons (ps_set (i := 2) sc_rules_for.nd rfl (.inl rfl) (pe_ifExp (pt_cmpR op_isN (pv 1) pe_non (nomark _)) (pe_meth0 (pv 0) T.C_Quoted_c T.Machine_usual_m (ok_Machine_usual T) (hr.mono (by decide)) T.Machine_usual_b .nil pass0) (pv 1)))
      (pss_cons (ps_if (pt_not (pt_val (pe_meth (pv 2) T.C_Rules_c T.Rules_suit_m (ok_Rules_suit T) (hr.mono (by decide)) T.Rules_suit_b .nil pass0 (pa_cons (pv 0) pa_nil)))) (pss_one ps_never) pss_nil)
      (pss_one (ps_ret (pv 2)))))


end
section
variable {w : World} {K : PySem.W.Frag} {mg : Str → Option Value} {base : Heap}
local macro_rules | `(tactic| walk_at "hcq") => `(tactic| first
  | assumption
  | ((refine WaysAt.same (H := ?xH) ?xb ?xa); (case xa => assumption); (case xb => walk_at "hcq")))
local macro_rules | `(tactic| walk_at "rd0") => `(tactic| first
  | ((with_reducible refine r_getQ (a := ?xa) (c := ?xc) ?x1 ?x2 ?_); (case x1 => rfl); (case x2 => walk_at "hcq"))
  | ((with_reducible refine r_methQ (a := ?xa) (c := ?xc) ?x1 ?x2 ?x3 ?_); (case x1 => rfl); (case x2 => walk_at "hcq"); (case x3 => exact ⟨fun _ => rfl, fun _ _ => rfl⟩))
  | (with_reducible refine r_fmtB ?_)
  | (with_reducible refine r_dget ?_)
  | (with_reducible refine r_m0 ?_)
  | (with_reducible refine r_makeK ?_)
  | (with_reducible refine r_cval ?_)
  | (with_reducible refine r_sfld ?_)
  | (with_reducible refine r_isiI ?_)
  | (with_reducible refine r_isiIB ?_)
  | (with_reducible refine r_isiBB ?_)
  | (with_reducible refine r_isiS ?_)
  | (with_reducible refine r_int1I ?_)
  | (with_reducible refine r_int1B ?_))

local macro_rules | `(tactic| walk_at "hcr") => `(tactic| first
  | assumption
  | ((refine RulesAt.same (H := ?xH) ?xb ?xa); (case xa => assumption); (case xb => walk_at "hcr")))
local macro_rules | `(tactic| walk_at "rd0") => `(tactic| first
  | ((with_reducible refine r_getR (a := ?xa) (r := ?xr) ?x1 ?x2 ?_); (case x1 => rfl); (case x2 => walk_at "hcr")))

set_option hygiene false in
local macro_rules | `(tactic| walk_at "n1") => `(tactic| (refine And.intro (by walk_at "sz") ?_; intro p1 np1; generalize hg : upd _ p1 _ = H1; have s1 := same_of hg np1; have v1 := at_of hg; clear hg))
set_option hygiene false in
local macro_rules | `(tactic| walk_at "n2") => `(tactic| (refine And.intro (by walk_at "sz") ?_; intro p2 np2; generalize hg : upd _ p2 _ = H2; have s2 := same_of hg np2; have v2 := at_of hg; clear hg))
set_option hygiene false in
local macro_rules | `(tactic| walk_at "n3") => `(tactic| (refine And.intro (by walk_at "sz") ?_; intro p3 np3; generalize hg : upd _ p3 _ = H3; have s3 := same_of hg np3; have v3 := at_of hg; clear hg))
set_option hygiene false in
local macro_rules | `(tactic| walk_at "n4") => `(tactic| (refine And.intro (by walk_at "sz") ?_; intro p4 np4; generalize hg : upd _ p4 _ = H4; have s4 := same_of hg np4; have v4 := at_of hg; clear hg))

/-! ### the law's rows -/
theorem soft_esc {t : List Nat} (h : t ≠ []) : softR (61 :: t) = softR (t.drop 2) := by
  match t, h with
  | [d], _ => rfl
  | d :: e :: t, _ => rfl
def sp_l_soft (T : Txt K mg) : Sp := fun vs H Q _ => ∃ l : List Nat, vs = [.str (tx l)] ∧ l.length ≤ 5000 ∧ Q (.bl (softR l)) H
theorem len_l_soft (T : Txt K mg) (vs : List V) (H : Hp) (Q : VK) (E : XK) (h : sp_l_soft T vs H Q E) : vs.length = 1 := by
  obtain ⟨_, rfl, _⟩ := h
  rfl
def t_l_soft (T : Txt K mg) : TS := (tSeq (tAsg (tC (.int 0)) (gName 1))
    (tSeq (tWhile (tTest (tOp rLtI (tVar 1) (tCB (rLenU K) (tCons (tVar 0) tNil)))) (tSeq (tIfS (tAnd (tTest (tOp (rEqU K) (tOp (rIx K) (tVar 0) (tVar 1)) (tC (.str (Str.ofString "="))))) (tTest (tOp (rEqU K) (tVar 1) (tOp rSubI (tCB (rLenU K) (tCons (tVar 0) tNil)) (tC (.int 1)))))) (tRet (tC (.bl true))) tNext)
    (tAsg (tOp (rAddU K) (tVar 1) (tIf (tTest (tOp (rEqU K) (tOp (rIx K) (tVar 0) (tVar 1)) (tC (.str (Str.ofString "="))))) (tC (.int 3)) (tC (.int 1)))) (gName 1))))
    (tRet (tC (.bl false)))))

theorem pure_l_soft (T : Txt K mg) (vs : List V) (H : Hp) (Q : VK) (E : XK) (h : sp_l_soft T vs H Q E) : t_l_soft T { nx := fun _ H' => Q .non H', rt := Q } (start ["_law_row", "_law_at"] vs) H := by
  obtain ⟨l, rfl, hl, q⟩ := h
  have zl : (tx l).length ≤ sizeLine := smallS (by rw [tx_len]; omega)
  unfold t_l_soft
  walk_at "rd"
  refine r_while (fun σ G => ∃ n : Nat, σ = [some (.str (tx l)), some (.int n)] ∧ G = H ∧ softR (l.drop n) = softR l)
    (fun σ _ => match σ with | [_, some (.int n)] => l.length - n.toNat | _ => 0)
    (fun σ G => ∃ n : Nat, σ = [some (.str (tx l)), some (.int n)] ∧ G = H ∧ softR l = false)
    ⟨0, rfl, rfl, rfl⟩ ?_ ?_
  · rintro σ G ⟨n, rfl, rfl, e⟩
    rw [e] at q
    walk_at "rd"
    exact q
  · rintro σ G ⟨n, rfl, rfl, e⟩ ex
    walk_at "rd"
    refine r_lenUS zl ?_
    walk_at "rd"
    rw [tx_len]
    refine r_iteD (fun h => ?_) (fun h => ?_)
    · have hn : n < l.length := by omega
      have hg : l[n]? = some l[n] := List.getElem?_eq_getElem hn
      have hd : l.drop n = l[n] :: l.drop (n + 1) := List.drop_eq_getElem_cons hn
      have ha : atI (tx l).cps.toList (n : Int) = some l[n] := by rw [tx_list]; exact atI_nat hg
      generalize l[n] = ch at hg hd ha
      rw [hd] at e
      refine r_turn ?_
      have step : ∀ k : Nat, 0 < k → softR (l.drop (n + k)) = softR l → (∃ m : Nat, ([some (.str (tx l)), some (.int ((n : Int) + (k : Int)))] : S) = [some (.str (tx l)), some (.int m)] ∧ G = G ∧ softR (l.drop m) = softR l) ∧ l.length - ((n : Int) + (k : Int)).toNat < l.length - (n : Int).toNat := fun k hk es =>
        ⟨⟨n + k, rfl, rfl, es⟩, by omega⟩
      by_cases hc : ch = 61
      · subst hc
        walk_at "rd"
        refine r_ixS zl ha ?_
        walk_at "rd"
        rw [show decide ((⟨#[61]⟩ : Str) = Str.ofString "=") = true from decide_eq_true rfl]
        walk_at "rd"
        refine r_lenUS zl ?_
        walk_at "rd"
        rw [tx_len]
        refine r_iteD (fun h2 => ?_) (fun h2 => ?_)
        · have : l.drop (n + 1) = [] := List.drop_eq_nil_of_le (by omega)
          rw [this] at e
          rw [← e] at q
          walk_at "rd"
          exact q
        · have hne : l.drop (n + 1) ≠ [] := fun z => by
            have := congrArg List.length z
            rw [List.length_drop] at this
            simp at this
            omega
          rw [soft_esc hne, List.drop_drop] at e
          walk_at "rd"
          refine r_ixS zl ha ?_
          walk_at "rd"
          rw [show decide ((⟨#[61]⟩ : Str) = Str.ofString "=") = true from decide_eq_true rfl]
          walk_at "rd"
          exact step 3 (by decide) e
      · have ne : decide ((⟨#[ch]⟩ : Str) = Str.ofString "=") = false := decide_eq_false fun z => hc (by cases tx_inj (show tx [ch] = tx [61] from z); rfl)
        rw [soft_plain hc] at e
        walk_at "rd"
        refine r_ixS zl ha ?_
        walk_at "rd"
        rw [ne]
        walk_at "rd"
        refine r_ixS zl ha ?_
        walk_at "rd"
        rw [ne]
        walk_at "rd"
        exact step 1 (by decide) e
    · have : l.drop n = [] := List.drop_eq_nil_of_le (by omega)
      rw [this] at e
      exact ex _ _ ⟨n, rfl, rfl, e.symm⟩
theorem ok_l_soft (T : Txt K mg) : FnOk P w K mg base CX0 1 T.l_soft_a T.l_soft_d ["_law_row"] (sp_l_soft T) := by
  refine T.l_soft_f.ok sc_l_soft (fun vs H Q E h => len_l_soft T vs H Q E h) (fun cdv A outer s H vs Q E hr h => ⟨t_l_soft T, PSs.nox ?_, pure_l_soft T vs H Q E h⟩)
  have hu := hu64 hr
  exact (pss_cons (ps_set (i := 1) sc_l_soft.nd rfl (.inl rfl) pe_int)
      (pss_cons (ps_while PassesOwn.never (pt_cmpR op_lt (pv 1) (pe_callB c_lenU (by rfl) T.n_len (by decide +kernel) (pa_cons (pv 0) pa_nil)) (nomark _)) (pss_cons (ps_if (PW.pt (pw_and (pt_cmpR (op_eqU hu) (pe_ix ix_seq (pv 0) (pv 1) (fun _ _ => rfl)) pe_str (nomark _)) (pw_and1 (pt_cmpR (op_eqU hu) (pv 1) (pe_op op_sub (pe_callB c_lenU (by rfl) T.n_len (by decide +kernel) (pa_cons (pv 0) pa_nil)) pe_int) (nomark _))))) (pss_one (ps_ret pe_bl)) pss_nil)
      (pss_one (ps_set (i := 1) sc_l_soft.nd rfl (.inl rfl) (pe_op op_addU (pv 1) (pe_ifExp (pt_cmpR (op_eqU hu) (pe_ix ix_seq (pv 0) (pv 1) (fun _ _ => rfl)) pe_str (nomark _)) pe_int pe_int))))))
      (pss_one (ps_ret pe_bl))))


end
section
variable {w : World} {K : PySem.W.Frag} {mg : Str → Option Value} {base : Heap}
local macro_rules | `(tactic| walk_at "hcq") => `(tactic| first
  | assumption
  | ((refine WaysAt.same (H := ?xH) ?xb ?xa); (case xa => assumption); (case xb => walk_at "hcq")))
local macro_rules | `(tactic| walk_at "rd0") => `(tactic| first
  | ((with_reducible refine r_getQ (a := ?xa) (c := ?xc) ?x1 ?x2 ?_); (case x1 => rfl); (case x2 => walk_at "hcq"))
  | ((with_reducible refine r_methQ (a := ?xa) (c := ?xc) ?x1 ?x2 ?x3 ?_); (case x1 => rfl); (case x2 => walk_at "hcq"); (case x3 => exact ⟨fun _ => rfl, fun _ _ => rfl⟩))
  | (with_reducible refine r_fmtB ?_)
  | (with_reducible refine r_dget ?_)
  | (with_reducible refine r_m0 ?_)
  | (with_reducible refine r_makeK ?_)
  | (with_reducible refine r_cval ?_)
  | (with_reducible refine r_sfld ?_)
  | (with_reducible refine r_isiI ?_)
  | (with_reducible refine r_isiIB ?_)
  | (with_reducible refine r_isiBB ?_)
  | (with_reducible refine r_isiS ?_)
  | (with_reducible refine r_int1I ?_)
  | (with_reducible refine r_int1B ?_))

local macro_rules | `(tactic| walk_at "hcr") => `(tactic| first
  | assumption
  | ((refine RulesAt.same (H := ?xH) ?xb ?xa); (case xa => assumption); (case xb => walk_at "hcr")))
local macro_rules | `(tactic| walk_at "rd0") => `(tactic| first
  | ((with_reducible refine r_getR (a := ?xa) (r := ?xr) ?x1 ?x2 ?_); (case x1 => rfl); (case x2 => walk_at "hcr")))

set_option hygiene false in
local macro_rules | `(tactic| walk_at "n1") => `(tactic| (refine And.intro (by walk_at "sz") ?_; intro p1 np1; generalize hg : upd _ p1 _ = H1; have s1 := same_of hg np1; have v1 := at_of hg; clear hg))
set_option hygiene false in
local macro_rules | `(tactic| walk_at "n2") => `(tactic| (refine And.intro (by walk_at "sz") ?_; intro p2 np2; generalize hg : upd _ p2 _ = H2; have s2 := same_of hg np2; have v2 := at_of hg; clear hg))
set_option hygiene false in
local macro_rules | `(tactic| walk_at "n3") => `(tactic| (refine And.intro (by walk_at "sz") ?_; intro p3 np3; generalize hg : upd _ p3 _ = H3; have s3 := same_of hg np3; have v3 := at_of hg; clear hg))
set_option hygiene false in
local macro_rules | `(tactic| walk_at "n4") => `(tactic| (refine And.intro (by walk_at "sz") ?_; intro p4 np4; generalize hg : upd _ p4 _ = H4; have s4 := same_of hg np4; have v4 := at_of hg; clear hg))

/-! ### the law's data of a row -/
/-- the law's rules: a tuple of three switches -/
def LrAt (H : Hp) (p : Addr) (r : RD) : Prop := H p = some (.tup [.bl r.lines, .bl r.loose, .bl r.fold])
theorem data_esc1 {r : RD} {t : List Nat} (h : t.length < 2) : dataR r (61 :: t) = none := by
  match t, h with
  | [], _ => rfl
  | [d], _ => rfl
theorem data_esc (r : RD) (d e : Nat) (t : List Nat) : dataR r (61 :: d :: e :: t) = if (dgt r d && dgt r e) = true then (dataR r t).map fun l => Hx.hexNum [d, e] :: l else none := rfl
def digs (r : RD) : List Nat := if r.fold = true then hexes ++ List.range' 97 6 else hexes
theorem digs_dgt (r : RD) (d : Nat) : decide (d ∈ digs r) = dgt r d := by
  unfold digs dgt
  cases r.fold with
  | false => simp
  | true =>
    rw [if_pos rfl, Bool.true_and, ← Bool.decide_or]
    refine decide_eq_decide.mpr ?_
    rw [List.mem_append, List.mem_range'_1]
    exact or_congr Iff.rfl (by omega)
theorem dgt_hex {r : RD} {d : Nat} (h : dgt r d = true) : Hx.IsHex d := by
  unfold dgt at h
  simp only [Bool.or_eq_true, Bool.and_eq_true, decide_eq_true_eq] at h
  unfold Hx.IsHex
  rcases h with h | h
  · have := (hexes_iff d).mp h
    omega
  · omega
theorem cut_both {l : List Nat} {a b : Nat} (h1 : a ≤ b) (h2 : b ≤ l.length) : cutS (tx l) (some (a : Int)) (some (b : Int)) = tx ((l.drop a).take (b - a)) := by
  unfold cutS
  rw [tx_len, HT.sIx_nat, HT.sIx_nat, tx_list, Nat.min_eq_left (show a ≤ l.length by omega), Nat.min_eq_left h2]
  rfl
theorem cut_last (l : List Nat) : cutS (tx l) (some (-1)) none = tx (l.drop (l.length - 1)) := by
  unfold cutS
  rw [tx_len, HT.sIx_none, tx_list]
  have e : HT.sIx l.length 0 (some (-1)) = l.length - 1 := by
    show (if (-1 : Int) < 0 then ((-1 : Int) + (l.length : Int)).toNat else min (-1 : Int).toNat l.length) = _
    rw [if_pos (by decide)]
    omega
  rw [e]
  show tx ((l.drop (l.length - 1)).take (l.length - (l.length - 1))) = _
  rw [List.take_of_length_le (by rw [List.length_drop]; exact Nat.le_refl _)]
theorem last_dec (l : List Nat) : decide (tx (l.drop (l.length - 1)) = tx [32]) = decide (l.getLast? = some 32) := by
  refine decide_eq_decide.mpr ?_
  cases h : l.getLast? with
  | none =>
    rw [List.getLast?_eq_none_iff.mp h]
    exact ⟨(fun z => by cases tx_inj z), fun z => nomatch z⟩
  | some x =>
    obtain ⟨ys, rfl⟩ := List.getLast?_eq_some_iff.mp h
    have e : (ys ++ [x]).drop ((ys ++ [x]).length - 1) = [x] := by
      rw [List.length_append]
      show (ys ++ [x]).drop (ys.length + 1 - 1) = [x]
      rw [Nat.add_sub_cancel, List.drop_left]
    rw [e]
    exact ⟨(fun z => by cases tx_inj z; rfl), (fun z => by cases z; rfl)⟩
def sp_l_row_data (T : Txt K mg) : Sp := fun vs H Q _ => ∃ p r l, ∃ sf : Bool, vs = [.ref p, .str (tx l), .bl sf] ∧ LrAt H p r ∧ l.length ≤ 5000 ∧
  (rowD r l sf = none → ∀ H', Same H H' → Q .non H') ∧ ∀ ds, rowD r l sf = some ds → ∀ D H', Same H H' → H D = none → H' D = some (.lst (ds.map nv)) → Q (.ref D) H'
theorem len_l_row_data (T : Txt K mg) (vs : List V) (H : Hp) (Q : VK) (E : XK) (h : sp_l_row_data T vs H Q E) : vs.length = 3 := by
  obtain ⟨_, _, _, _, rfl, _⟩ := h
  rfl
def t_l_row_data (T : Txt K mg) : TS := (tSeq (tAsg (tOp (rAddU K) (tC (.str (Str.ofString "0123456789ABCDEF"))) (tOp rMulT (tC (.str (Str.ofString "abcdef"))) (tCB rInt1 (tCons (tOp (rIx K) (tVar 0) (tC (.int 2))) tNil)))) (gName 3))
    (tSeq (tPar 4 5 (tCons (tLst tNil) (tCons (tC (.int 0)) tNil)))
    (tSeq (tWhile (tTest (tOp rLtI (tVar 5) (tCB (rLenU K) (tCons (tVar 1) tNil)))) (tIfS (tTest (tOp (rNeU K) (tOp (rIx K) (tVar 1) (tVar 5)) (tC (.str (Str.ofString "="))))) (tSeq (tDrop (tBM K "list" rAppend (tVar 4) (tCons (tCB (fun xs H Q => ∃ x : Str, xs = [V.str x] ∧ x.length = 1 ∧ Q (V.int (x.cps.getD 0 0 : Nat)) H) (tCons (tOp (rIx K) (tVar 1) (tVar 5)) tNil)) tNil)))
    (tAsg (tOp (rAddU K) (tVar 5) (tC (.int 1))) (gName 5))) (tSeq (tIfS (tOr (tTest (tOp rLtI (tCB (rLenU K) (tCons (tVar 1) tNil)) (tOp (rAddU K) (tVar 5) (tC (.int 3))))) (tOr (tTest (tOp (rNinU K) (tOp (rIx K) (tVar 1) (tOp (rAddU K) (tVar 5) (tC (.int 1)))) (tVar 3))) (tTest (tOp (rNinU K) (tOp (rIx K) (tVar 1) (tOp (rAddU K) (tVar 5) (tC (.int 2)))) (tVar 3))))) (tRet (tC .non)) tNext)
    (tSeq (tDrop (tBM K "list" rAppend (tVar 4) (tCons (tCB rIntHex (tCons (tSl (rSlU K) (tVar 1) (tPart (tOp (rAddU K) (tVar 5) (tC (.int 1)))) (tPart (tOp (rAddU K) (tVar 5) (tC (.int 3))))) (tCons (tC (.int 16)) tNil))) tNil)))
    (tAsg (tOp (rAddU K) (tVar 5) (tC (.int 3))) (gName 5))))))
    (tSeq (tIfS (tAnd (tNot (tB (tOp (rIx K) (tVar 0) (tC (.int 1))))) (tAnd (tNot (tB (tVar 2))) (tTest (tOp (rEqU K) (tSl (rSlU K) (tVar 1) (tPart (tUn rNegI (tC (.int 1)))) tNoPart) (tC (.str (Str.ofString " "))))))) (tRet (tC .non)) tNext)
    (tRet (tVar 4))))))

theorem pure_l_row_data (T : Txt K mg) (vs : List V) (H : Hp) (Q : VK) (E : XK) (h : sp_l_row_data T vs H Q E) : t_l_row_data T { nx := fun _ H' => Q .non H', rt := Q } (start ["_law_rules_here", "_law_row", "_law_is_soft", "_law_digits", "_law_found", "_law_at"] vs) H := by
  obtain ⟨p, r, l, sf, rfl, hp, hl, qn, qs⟩ := h
  unfold LrAt at hp
  have zl : (tx l).length ≤ sizeLine := smallS (by rw [tx_len]; omega)
  unfold t_l_row_data
  walk_at "rx"
  refine r_seqC (fun σ G => σ = [some (.ref p), some (.str (tx l)), some (.bl sf), some (.str (tx (digs r))), none, none] ∧ G = H) ?_ fun N tail => ?_
  rotate_left
  · walk_at "rd"
    rw [show (if r.fold = true then (1 : Int) else 0) = ((if r.fold = true then 1 else 0 : Nat) : Int) by split <;> rfl]
    refine ⟨Str.ofString "abcdef", _, rfl, rfl, by decide, by split <;> decide, ?_⟩
    have e1 : (Str.ofString "0123456789ABCDEF").length + (strRep (Str.ofString "abcdef") (if r.fold = true then 1 else 0)).length ≤ 100000 := by
      cases r.fold <;> decide +kernel
    have e2 : Str.ofString "0123456789ABCDEF" ++ strRep (Str.ofString "abcdef") (if r.fold = true then 1 else 0) = tx (digs r) := by
      unfold digs
      cases r.fold <;> decide +kernel
    refine r_addUS (smallS e1) ?_
    rw [e2]
    walk_at "rd"
    exact tail _ _ ⟨rfl, rfl⟩
  rintro σ G ⟨rfl, rfl⟩
  walk_at "rd"
  refine And.intro (Nat.zero_le _) fun F nF => ?_
  generalize hg : upd G F _ = G1
  have s1 := same_of hg nF
  have v1 : G1 F = some (.lst (([] : List Nat).map nv)) := at_of hg
  clear hg
  walk_at "rd"
  refine r_while (fun σ G' => ∃ n : Nat, ∃ acc : List Nat, σ = [some (.ref p), some (.str (tx l)), some (.bl sf), some (.str (tx (digs r))), some (.ref F), some (.int n)] ∧ Same G G' ∧ G' F = some (.lst (acc.map nv)) ∧ acc.length ≤ n ∧ (dataR r (l.drop n)).map (fun t => acc ++ t) = dataR r l)
    (fun σ _ => match σ with | [_, _, _, _, _, some (.int n)] => l.length - n.toNat | _ => 0)
    (fun σ G' => ∃ n : Nat, ∃ acc : List Nat, σ = [some (.ref p), some (.str (tx l)), some (.bl sf), some (.str (tx (digs r))), some (.ref F), some (.int n)] ∧ Same G G' ∧ G' F = some (.lst (acc.map nv)) ∧ dataR r l = some acc)
    ⟨0, [], rfl, s1, v1, Nat.le_refl _, by rw [List.drop_zero]; cases dataR r l <;> rfl⟩ ?_ ?_
  · rintro σ G2 ⟨n, acc, rfl, sG, hF, e⟩
    have hp2 := sG _ _ hp
    unfold rowD at qn qs
    rw [e] at qn qs
    have qn' : (if r.loose = false ∧ sf = false ∧ l.getLast? = some 32 then none else some acc) = none → ∀ H', Same G H' → Q .non H' := qn
    have qs' : ∀ ds, (if r.loose = false ∧ sf = false ∧ l.getLast? = some 32 then none else some acc) = some ds → ∀ D H', Same G H' → G D = none → H' D = some (.lst (ds.map nv)) → Q (.ref D) H' := qs
    walk_at "rd"
    cases hlo : r.loose with
    | true =>
      walk_at "rd"
      exact qs' acc (if_neg fun z => by rw [hlo] at z; cases z.1) F G2 sG nF hF
    | false =>
      walk_at "rd"
      cases sf with
      | true =>
        walk_at "rd"
        exact qs' acc (if_neg fun z => by cases z.2.1) F G2 sG nF hF
      | false =>
        walk_at "rd"
        refine r_negI ?_
        walk_at "rd"
        refine r_slUS zl ?_
        rw [cut_last]
        walk_at "rd"
        rw [sp_tx, last_dec]
        refine r_iteD (fun h => ?_) (fun h => ?_)
        · walk_at "rd"
          exact qn' (if_pos ⟨hlo, rfl, h⟩) G2 sG
        · walk_at "rd"
          exact qs' acc (if_neg fun z => h z.2.2) F G2 sG nF hF
  · rintro σ G2 ⟨n, acc, rfl, sG, hF, la, e⟩ ex
    walk_at "rd"
    refine r_lenUS zl ?_
    walk_at "rd"
    rw [tx_len]
    refine r_iteD (fun h => ?_) (fun h => ?_)
    · have hn : n < l.length := by omega
      have hg : l[n]? = some l[n] := List.getElem?_eq_getElem hn
      have hd : l.drop n = l[n] :: l.drop (n + 1) := List.drop_eq_getElem_cons hn
      have ha : atI (tx l).cps.toList (n : Int) = some l[n] := by rw [tx_list]; exact atI_nat hg
      generalize l[n] = ch at hg hd ha
      rw [hd] at e
      have lacc : (acc.map nv).length < sizeLine := by
        rw [List.length_map]
        exact Nat.lt_of_le_of_lt (show acc.length ≤ 5000 by omega) (by rw [sizeLine_eq]; decide)
      have bad : dataR r l = none → ∀ H', Same G H' → Q .non H' := fun z => qn (by unfold rowD; rw [z]; rfl)
      refine r_turn ?_
      by_cases hc : ch = 61
      · subst hc
        walk_at "rd"
        refine r_ixS zl ha ?_
        walk_at "rd"
        rw [show decide ((⟨#[61]⟩ : Str) = Str.ofString "=") = true from decide_eq_true rfl]
        walk_at "rd"
        refine r_lenUS zl ?_
        walk_at "rd"
        rw [tx_len]
        refine r_iteD (fun h2 => ?_) (fun h2 => ?_)
        · rw [data_esc1 (by rw [List.length_drop]; omega)] at e
          walk_at "rd"
          exact bad e.symm G2 sG
        have hn1 : n + 1 < l.length := by omega
        have hn2 : n + 2 < l.length := by omega
        have hg1 : l[n + 1]? = some l[n + 1] := List.getElem?_eq_getElem hn1
        have hg2 : l[n + 2]? = some l[n + 2] := List.getElem?_eq_getElem hn2
        have hd1 : l.drop (n + 1) = l[n + 1] :: l[n + 2] :: l.drop (n + 3) := by
          rw [List.drop_eq_getElem_cons hn1, List.drop_eq_getElem_cons hn2]
        have ha1 : atI (tx l).cps.toList ((n : Int) + 1) = some l[n + 1] := by rw [tx_list]; exact atI_nat hg1
        have ha2 : atI (tx l).cps.toList ((n : Int) + 2) = some l[n + 2] := by rw [tx_list]; exact atI_nat hg2
        generalize l[n + 1] = d at hg1 hd1 ha1
        generalize l[n + 2] = x at hg2 hd1 ha2
        rw [hd1, data_esc] at e
        walk_at "rd"
        refine r_ixS zl ha1 ?_
        walk_at "rd"
        refine r_notInS ?_
        rw [tx_list, digs_dgt]
        cases h3 : dgt r d with
        | false =>
          rw [h3] at e
          walk_at "rd"
          exact bad e.symm G2 sG
        | true =>
        walk_at "rd"
        refine r_ixS zl ha2 ?_
        walk_at "rd"
        refine r_notInS ?_
        rw [tx_list, digs_dgt]
        cases h4 : dgt r x with
        | false =>
          rw [h3, h4] at e
          walk_at "rd"
          exact bad e.symm G2 sG
        | true =>
        rw [h3, h4, if_pos (show (true && true) = true from rfl), Option.map_map] at e
        walk_at "rd"
        refine ⟨r_tyL (ql hF), ?_⟩
        walk_at "rd"
        refine r_slUS zl ?_
        rw [show (n : Int) + 1 = ((n + 1 : Nat) : Int) from rfl, show (n : Int) + 3 = ((n + 3 : Nat) : Int) from rfl, cut_both (by omega) (by omega), hd1, show n + 3 - (n + 1) = 2 by omega]
        walk_at "rd"
        refine r_intHex (l := [d, x]) (by simp) (by show 2 ≤ 640; decide) (fun y hy => ?_) ?_
        · rcases List.mem_cons.mp hy with rfl | hy
          · exact dgt_hex h3
          · rw [List.mem_singleton.mp hy]
            exact dgt_hex h4
        walk_at "rd"
        refine r_append hF lacc ?_
        walk_at "rd"
        refine ⟨⟨n + 3, acc ++ [Hx.hexNum [d, x]], rfl, same_mut sG nF, by rw [upd_same, List.map_append]; rfl, by rw [List.length_append]; show acc.length + 1 ≤ n + 3; omega, ?_⟩, by show l.length - ((n : Int) + 3).toNat < l.length - (n : Int).toNat; omega⟩
        rw [← e]
        cases dataR r (l.drop (n + 3)) with
        | none => rfl
        | some t => simp
      · have ne : decide ((⟨#[ch]⟩ : Str) = Str.ofString "=") = false := decide_eq_false fun z => hc (by cases tx_inj (show tx [ch] = tx [61] from z); rfl)
        rw [data_plain r hc, Option.map_map] at e
        walk_at "rd"
        refine r_ixS zl ha ?_
        walk_at "rd"
        rw [ne]
        walk_at "rd"
        refine ⟨r_tyL (ql hF), ?_⟩
        walk_at "rd"
        refine r_ixS zl ha ?_
        walk_at "rd"
        refine ⟨⟨#[ch]⟩, rfl, rfl, ?_⟩
        walk_at "rd"
        refine r_append hF lacc ?_
        walk_at "rd"
        refine ⟨⟨n + 1, acc ++ [ch], rfl, same_mut sG nF, by rw [upd_same, List.map_append]; rfl, by rw [List.length_append]; show acc.length + 1 ≤ n + 1; omega, ?_⟩, by show l.length - ((n : Int) + 1).toNat < l.length - (n : Int).toNat; omega⟩
        rw [← e]
        cases dataR r (l.drop (n + 1)) with
        | none => rfl
        | some t => simp
    · have : l.drop n = [] := List.drop_eq_nil_of_le (by omega)
      rw [this] at e
      exact ex _ _ ⟨n, acc, rfl, sG, hF, by rw [← e]; show some (acc ++ []) = _; rw [List.append_nil]⟩
theorem ok_l_row_data (T : Txt K mg) : FnOk P w K mg base CX0 1 T.l_row_data_a T.l_row_data_d ["_law_rules_here", "_law_row", "_law_is_soft"] (sp_l_row_data T) := by
  refine T.l_row_data_f.ok sc_l_row_data (fun vs H Q E h => len_l_row_data T vs H Q E h) (fun cdv A outer s H vs Q E hr h => ⟨t_l_row_data T, PSs.nox ?_, pure_l_row_data T vs H Q E h⟩)
  have hu := hu64 hr
  exact (pss_cons (ps_set (i := 3) sc_l_row_data.nd rfl (.inl rfl) (pe_op op_addU pe_str (pe_op op_mulT pe_str (pe_callTy call_int1 (by rfl) T.n_int (by decide +kernel) (pa_cons (pe_ix ix_seq (pv 0) pe_int (fun _ _ => rfl)) pa_nil)))))
      (pss_cons (ps_par (i := 4) (j := 5) (by rfl) sc_l_row_data.nd rfl rfl (by decide) rfl rfl (pa_cons (pe_lst pa_nil) (pa_cons pe_int pa_nil)) (by rfl))
      (pss_cons (ps_while PassesOwn.never (pt_cmpR op_lt (pv 5) (pe_callB c_lenU (by rfl) T.n_len (by decide +kernel) (pa_cons (pv 1) pa_nil)) (nomark _)) (pss_one (ps_if (pt_cmpR (op_neU hu) (pe_ix ix_seq (pv 1) (pv 5) (fun _ _ => rfl)) pe_str (nomark _)) (pss_cons (ps_expr (pe_bm PySem.F.plainAttrs_list PySem.F.slot_list_append PySem.F.type_list_append mt_append (pv 4) (pa_cons (pe_callB call_ord (by rfl) T.n_ord (by decide +kernel) (pa_cons (pe_ix ix_seq (pv 1) (pv 5) (fun _ _ => rfl)) pa_nil)) pa_nil)))
      (pss_one (ps_set (i := 5) sc_l_row_data.nd rfl (.inl rfl) (pe_op op_addU (pv 5) pe_int)))) (pss_cons (ps_if (PW.pt (pw_or (pt_cmpR op_lt (pe_callB c_lenU (by rfl) T.n_len (by decide +kernel) (pa_cons (pv 1) pa_nil)) (pe_op op_addU (pv 5) pe_int) (nomark _)) (pw_or (pt_cmpR op_ninU (pe_ix ix_seq (pv 1) (pe_op op_addU (pv 5) pe_int) (fun _ _ => rfl)) (pv 3) (by rfl)) (pw_or1 (pt_cmpR op_ninU (pe_ix ix_seq (pv 1) (pe_op op_addU (pv 5) pe_int) (fun _ _ => rfl)) (pv 3) (by rfl)))))) (pss_one (ps_ret pe_non)) pss_nil)
      (pss_cons (ps_expr (pe_bm PySem.F.plainAttrs_list PySem.F.slot_list_append PySem.F.type_list_append mt_append (pv 4) (pa_cons (pe_callTy call_int_hex (by rfl) T.n_int (by decide +kernel) (pa_cons (pe_slice sl_U (pv 1) (po_some (pe_op op_addU (pv 5) pe_int)) (po_some (pe_op op_addU (pv 5) pe_int))) (pa_cons pe_int pa_nil))) pa_nil)))
      (pss_one (ps_set (i := 5) sc_l_row_data.nd rfl (.inl rfl) (pe_op op_addU (pv 5) pe_int))))))))
      (pss_cons (ps_if (PW.pt (pw_and (pt_not (pt_val (pe_ix ix_seq (pv 0) pe_int (fun _ _ => rfl)))) (pw_and (pt_not (pt_val (pv 2))) (pw_and1 (pt_cmpR (op_eqU hu) (pe_slice sl_U (pv 1) (po_some (pe_un un_neg pe_int)) po_none) pe_str (nomark _)))))) (pss_one (ps_ret pe_non)) pss_nil)
      (pss_one (ps_ret (pv 4)))))))


end
section
variable {w : World} {K : PySem.W.Frag} {mg : Str → Option Value} {base : Heap}
local macro_rules | `(tactic| walk_at "hcq") => `(tactic| first
  | assumption
  | ((refine WaysAt.same (H := ?xH) ?xb ?xa); (case xa => assumption); (case xb => walk_at "hcq")))
local macro_rules | `(tactic| walk_at "rd0") => `(tactic| first
  | ((with_reducible refine r_getQ (a := ?xa) (c := ?xc) ?x1 ?x2 ?_); (case x1 => rfl); (case x2 => walk_at "hcq"))
  | ((with_reducible refine r_methQ (a := ?xa) (c := ?xc) ?x1 ?x2 ?x3 ?_); (case x1 => rfl); (case x2 => walk_at "hcq"); (case x3 => exact ⟨fun _ => rfl, fun _ _ => rfl⟩))
  | (with_reducible refine r_fmtB ?_)
  | (with_reducible refine r_dget ?_)
  | (with_reducible refine r_m0 ?_)
  | (with_reducible refine r_makeK ?_)
  | (with_reducible refine r_cval ?_)
  | (with_reducible refine r_sfld ?_)
  | (with_reducible refine r_isiI ?_)
  | (with_reducible refine r_isiIB ?_)
  | (with_reducible refine r_isiBB ?_)
  | (with_reducible refine r_isiS ?_)
  | (with_reducible refine r_int1I ?_)
  | (with_reducible refine r_int1B ?_))

local macro_rules | `(tactic| walk_at "hcr") => `(tactic| first
  | assumption
  | ((refine RulesAt.same (H := ?xH) ?xb ?xa); (case xa => assumption); (case xb => walk_at "hcr")))
local macro_rules | `(tactic| walk_at "rd0") => `(tactic| first
  | ((with_reducible refine r_getR (a := ?xa) (r := ?xr) ?x1 ?x2 ?_); (case x1 => rfl); (case x2 => walk_at "hcr")))

set_option hygiene false in
local macro_rules | `(tactic| walk_at "n1") => `(tactic| (refine And.intro (by walk_at "sz") ?_; intro p1 np1; generalize hg : upd _ p1 _ = H1; have s1 := same_of hg np1; have v1 := at_of hg; clear hg))
set_option hygiene false in
local macro_rules | `(tactic| walk_at "n2") => `(tactic| (refine And.intro (by walk_at "sz") ?_; intro p2 np2; generalize hg : upd _ p2 _ = H2; have s2 := same_of hg np2; have v2 := at_of hg; clear hg))
set_option hygiene false in
local macro_rules | `(tactic| walk_at "n3") => `(tactic| (refine And.intro (by walk_at "sz") ?_; intro p3 np3; generalize hg : upd _ p3 _ = H3; have s3 := same_of hg np3; have v3 := at_of hg; clear hg))
set_option hygiene false in
local macro_rules | `(tactic| walk_at "n4") => `(tactic| (refine And.intro (by walk_at "sz") ?_; intro p4 np4; generalize hg : upd _ p4 _ = H4; have s4 := same_of hg np4; have v4 := at_of hg; clear hg))

/-! ### the rows of a text -/
def rowsT (l : List Nat) : List (List Nat) := (Txt.split (tx l) (tx [10])).map fun z => z.cps.toList
theorem join_nl : ∀ l : List (List Nat), Str.join (tx [10]) (l.map tx) = tx (jnl l)
  | [] => rfl
  | [a] => by
    show Str.join (tx [10]) [tx a] = tx a
    rfl
  | a :: b :: r => by
    have ih := join_nl (b :: r)
    have e : Str.join (tx [10]) (tx a :: tx b :: r.map tx) = tx a ++ tx [10] ++ Str.join (tx [10]) (tx b :: r.map tx) := by
      first | rfl | exact Str.join_cons_cons ..
    show Str.join (tx [10]) (tx a :: tx b :: r.map tx) = tx (a ++ 10 :: jnl (b :: r))
    rw [e]
    have ih' : Str.join (tx [10]) (tx b :: r.map tx) = tx (jnl (b :: r)) := ih
    rw [ih', tx_app, tx_app, List.append_assoc]
    rfl
theorem rowsT_split (l : List Nat) : Txt.split (tx l) (tx [10]) = (rowsT l).map tx := by
  unfold rowsT
  rw [List.map_map]
  exact (List.map_id _).symm.trans (List.map_congr_left fun z _ => tx_of z)
theorem rowsT_jnl (l : List Nat) : jnl (rowsT l) = l := by
  have h := StrLaws.join_split (tx l) (tx [10])
  rw [rowsT_split, join_nl] at h
  exact tx_inj h
theorem rowsT_free (l : List Nat) : ∀ row ∈ rowsT l, ∀ x ∈ row, x ≠ 10 := by
  intro row hr x hx e
  obtain ⟨z, hz, rfl⟩ := List.mem_map.mp hr
  exact StrLaws.split_free (tx l) 10 z hz (e ▸ hx)
theorem rowsT_ne (l : List Nat) : rowsT l ≠ [] := fun h => by
  have e := rowsT_jnl l
  rw [h] at e
  have e2 : l = [] := e.symm
  subst e2
  revert h
  decide +kernel
theorem jnl_len : ∀ rows : List (List Nat), rows.length ≤ (jnl rows).length + 1 ∧ ∀ row ∈ rows, row.length ≤ (jnl rows).length
  | [] => ⟨Nat.zero_le _, fun _ h => nomatch h⟩
  | [a] => ⟨by show 1 ≤ a.length + 1; omega, fun row h => by rw [List.mem_singleton.mp h]; exact Nat.le_refl _⟩
  | a :: b :: r => by
    obtain ⟨i1, i2⟩ := jnl_len (b :: r)
    have e : (jnl (a :: b :: r)).length = a.length + ((jnl (b :: r)).length + 1) := by
      show (a ++ 10 :: jnl (b :: r)).length = _
      rw [List.length_append, List.length_cons]
    rw [e]
    refine ⟨by rw [List.length_cons]; omega, fun row h => ?_⟩
    rcases List.mem_cons.mp h with rfl | h
    · omega
    · have := i2 row h
      omega
theorem finQ_rows (c : QD) (r : RD) (l : List Nat) : finQ c r opnQ l = lawQ c r (rowsT l) := by
  have h := read_law c r (rowsT_ne l) (rowsT_free l)
  rw [rowsT_jnl] at h
  exact h

end
section
variable {w : World} {K : PySem.W.Frag} {mg : Str → Option Value} {base : Heap}
local macro_rules | `(tactic| walk_at "hcq") => `(tactic| first
  | assumption
  | ((refine WaysAt.same (H := ?xH) ?xb ?xa); (case xa => assumption); (case xb => walk_at "hcq")))
local macro_rules | `(tactic| walk_at "rd0") => `(tactic| first
  | ((with_reducible refine r_getQ (a := ?xa) (c := ?xc) ?x1 ?x2 ?_); (case x1 => rfl); (case x2 => walk_at "hcq"))
  | ((with_reducible refine r_methQ (a := ?xa) (c := ?xc) ?x1 ?x2 ?x3 ?_); (case x1 => rfl); (case x2 => walk_at "hcq"); (case x3 => exact ⟨fun _ => rfl, fun _ _ => rfl⟩))
  | (with_reducible refine r_fmtB ?_)
  | (with_reducible refine r_dget ?_)
  | (with_reducible refine r_m0 ?_)
  | (with_reducible refine r_makeK ?_)
  | (with_reducible refine r_cval ?_)
  | (with_reducible refine r_sfld ?_)
  | (with_reducible refine r_isiI ?_)
  | (with_reducible refine r_isiIB ?_)
  | (with_reducible refine r_isiBB ?_)
  | (with_reducible refine r_isiS ?_)
  | (with_reducible refine r_int1I ?_)
  | (with_reducible refine r_int1B ?_))

local macro_rules | `(tactic| walk_at "hcr") => `(tactic| first
  | assumption
  | ((refine RulesAt.same (H := ?xH) ?xb ?xa); (case xa => assumption); (case xb => walk_at "hcr")))
local macro_rules | `(tactic| walk_at "rd0") => `(tactic| first
  | ((with_reducible refine r_getR (a := ?xa) (r := ?xr) ?x1 ?x2 ?_); (case x1 => rfl); (case x2 => walk_at "hcr")))

set_option hygiene false in
local macro_rules | `(tactic| walk_at "n1") => `(tactic| (refine And.intro (by walk_at "sz") ?_; intro p1 np1; generalize hg : upd _ p1 _ = H1; have s1 := same_of hg np1; have v1 := at_of hg; clear hg))
set_option hygiene false in
local macro_rules | `(tactic| walk_at "n2") => `(tactic| (refine And.intro (by walk_at "sz") ?_; intro p2 np2; generalize hg : upd _ p2 _ = H2; have s2 := same_of hg np2; have v2 := at_of hg; clear hg))
set_option hygiene false in
local macro_rules | `(tactic| walk_at "n3") => `(tactic| (refine And.intro (by walk_at "sz") ?_; intro p3 np3; generalize hg : upd _ p3 _ = H3; have s3 := same_of hg np3; have v3 := at_of hg; clear hg))
set_option hygiene false in
local macro_rules | `(tactic| walk_at "n4") => `(tactic| (refine And.intro (by walk_at "sz") ?_; intro p4 np4; generalize hg : upd _ p4 _ = H4; have s4 := same_of hg np4; have v4 := at_of hg; clear hg))

/-! ### the law reads a text -/
theorem data_len (r : RD) : ∀ (m : Nat) (row ds : List Nat), row.length ≤ m → dataR r row = some ds → ds.length ≤ row.length := by
  intro m
  induction m with
  | zero =>
    intro row ds hl h
    match row, hl with
    | [], _ => cases h; exact Nat.le_refl _
  | succ m ih =>
    intro row ds hl h
    match row, hl with
    | [], _ => cases h; exact Nat.le_refl _
    | c :: t, hl =>
      have hl2 : t.length ≤ m := by rw [List.length_cons] at hl; omega
      by_cases e : c = 61
      · subst e
        match t, hl2 with
        | [], _ => cases h
        | [d], _ => cases h
        | d :: e :: t, hl2 =>
          have ht : t.length ≤ m := by rw [List.length_cons, List.length_cons] at hl2; omega
          rw [data_esc] at h
          by_cases g : (dgt r d && dgt r e) = true
          · rw [if_pos g] at h
            obtain ⟨u, hu, rfl⟩ := Option.map_eq_some_iff.mp h
            have := ih t u ht hu
            simp only [List.length_cons]
            omega
          · rw [if_neg g] at h
            cases h
      · rw [data_plain r e] at h
        obtain ⟨u, hu, rfl⟩ := Option.map_eq_some_iff.mp h
        have := ih t u hl2 hu
        simp only [List.length_cons]
        omega
theorem rowD_len {r : RD} {row ds : List Nat} {s : Bool} (h : rowD r row s = some ds) : ds.length ≤ row.length := by
  unfold rowD at h
  cases e : dataR r row with
  | none => rw [e] at h; cases h
  | some u =>
    rw [e] at h
    have h : (if r.loose = false ∧ s = false ∧ row.getLast? = some 32 then none else some u) = some ds := h
    split at h
    · cases h
    · cases h
      exact data_len r row.length row _ (Nat.le_refl _) e
theorem cutR_len (row : List Nat) : (cutR row).length ≤ row.length := by
  unfold cutR
  split
  · rw [List.length_dropLast]; omega
  · exact Nat.le_refl _
theorem lawQ_cons (c : QD) (r : RD) (row : List Nat) (rest : List (List Nat)) : lawQ c r (row :: rest) =
    if fitN c r row.length = false ∨ (softR row = true ∧ rest = []) then none else
    if softR row = true ∧ r.loose = false ∧ rest.head? = some [] then none else
    (rowD r (cutR row) (softR row)).bind fun ds =>
      if softR row = false ∧ rest ≠ [] ∧ c.bin = true then none else (lawQ c r rest).map fun t => ds ++ (if softR row = false ∧ rest ≠ [] then [10] else []) ++ t := rfl
section
variable {c : QD} {r : RD} {row : List Nat} {rest : List (List Nat)}
theorem lawQ_b1 (h : fitN c r row.length = false ∨ (softR row = true ∧ rest = [])) : lawQ c r (row :: rest) = none := by rw [lawQ_cons, if_pos h]
theorem lawQ_b2 (h : softR row = true ∧ r.loose = false ∧ rest.head? = some []) : lawQ c r (row :: rest) = none := by
  rw [lawQ_cons]
  by_cases a : fitN c r row.length = false ∨ (softR row = true ∧ rest = [])
  · rw [if_pos a]
  · rw [if_neg a, if_pos h]
theorem lawQ_b3 (h : rowD r (cutR row) (softR row) = none) : lawQ c r (row :: rest) = none := by
  rw [lawQ_cons]
  by_cases a : fitN c r row.length = false ∨ (softR row = true ∧ rest = [])
  · rw [if_pos a]
  · rw [if_neg a]
    by_cases b : softR row = true ∧ r.loose = false ∧ rest.head? = some []
    · rw [if_pos b]
    · rw [if_neg b, h]
      rfl
theorem lawQ_b4 (h : softR row = false ∧ rest ≠ [] ∧ c.bin = true) : lawQ c r (row :: rest) = none := by
  rw [lawQ_cons]
  by_cases a : fitN c r row.length = false ∨ (softR row = true ∧ rest = [])
  · rw [if_pos a]
  · rw [if_neg a]
    by_cases b : softR row = true ∧ r.loose = false ∧ rest.head? = some []
    · rw [if_pos b]
    · rw [if_neg b]
      cases rowD r (cutR row) (softR row) with
      | none => rfl
      | some ds =>
        show (if softR row = false ∧ rest ≠ [] ∧ c.bin = true then none else _) = none
        rw [if_pos h]
theorem lawQ_ok {ds : List Nat} (h1 : ¬ (fitN c r row.length = false ∨ (softR row = true ∧ rest = []))) (h2 : ¬ (softR row = true ∧ r.loose = false ∧ rest.head? = some [])) (h3 : rowD r (cutR row) (softR row) = some ds) (h4 : ¬ (softR row = false ∧ rest ≠ [] ∧ c.bin = true)) :
    lawQ c r (row :: rest) = (lawQ c r rest).map fun t => ds ++ (if softR row = false ∧ rest ≠ [] then [10] else []) ++ t := by
  rw [lawQ_cons, if_neg h1, if_neg h2, h3]
  show (if softR row = false ∧ rest ≠ [] ∧ c.bin = true then none else _) = _
  rw [if_neg h4]
end
/-- the law's code: a tuple -/
def TupQ (H : Hp) (p : Addr) (c : QD) : Prop := H p = some (.tup [.int c.wd, .bl c.bin, .str (tx c.also)])
def sp_l_quoted_data (T : Txt K mg) : Sp := fun vs H Q _ => ∃ pc p c r l, vs = [.ref pc, .ref p, .str (tx l)] ∧ TupQ H pc c ∧ LrAt H p r ∧ l.length ≤ 300 ∧
  (finQ c r opnQ l = none → ∀ H', Same H H' → Q .non H') ∧ ∀ ds, finQ c r opnQ l = some ds → ds.length ≤ 100000 → ∀ D H', Same H H' → H D = none → H' D = some (.lst (ds.map nv)) → Q (.ref D) H'
theorem len_l_quoted_data (T : Txt K mg) (vs : List V) (H : Hp) (Q : VK) (E : XK) (h : sp_l_quoted_data T vs H Q E) : vs.length = 3 := by
  obtain ⟨_, _, _, _, _, rfl, _⟩ := h
  rfl
def t_l_quoted_data (T : Txt K mg) : TS := (tSeq (tPar 3 4 (tCons (tLst tNil) (tCons (tBM K "str" rSplit (tVar 2) (tCons (tC (.str (Str.ofString "\n"))) tNil)) tNil)))
    (tSeq (tFor (iEnumU K (tCons (tVar 4) tNil)) (gTup K 2 (gCons (gName 5) (gCons (gName 6) gNil))) (tSeq (tPar 7 8 (tCons (tCall (sp_l_soft T) [] E0 (tCons (tVar 6) tNil)) (tCons (tOp (rEqU K) (tVar 5) (tOp rSubI (tCB (rLenU K) (tCons (tVar 4) tNil)) (tC (.int 1)))) tNil)))
    (tSeq (tIfS (tOr (tAnd (tB (tOp (rIx K) (tVar 1) (tC (.int 0)))) (tAnd (tTest (tOp rGtI (tOp (rIx K) (tVar 0) (tC (.int 0))) (tC (.int 0)))) (tTest (tOp rGtI (tCB (rLenU K) (tCons (tVar 6) tNil)) (tOp (rIx K) (tVar 0) (tC (.int 0))))))) (tAnd (tB (tVar 7)) (tB (tVar 8)))) (tRet (tC .non)) tNext)
    (tSeq (tIfS (tAnd (tB (tVar 7)) (tAnd (tNot (tB (tOp (rIx K) (tVar 1) (tC (.int 1))))) (tTest (tOp (rEqU K) (tOp (rIx K) (tVar 4) (tOp (rAddU K) (tVar 5) (tC (.int 1)))) (tC (.str (Str.ofString ""))))))) (tRet (tC .non)) tNext)
    (tSeq (tAsg (tCall (sp_l_row_data T) [] E0 (tCons (tVar 1) (tCons (tSl (rSlU K) (tVar 6) tNoPart (tPart (tOp rSubI (tCB (rLenU K) (tCons (tVar 6) tNil)) (tCB rInt1 (tCons (tVar 7) tNil))))) (tCons (tVar 7) tNil)))) (gName 9))
    (tSeq (tIfS (tOr (tTest (tOp rIsNN (tVar 9) (tC .non))) (tAnd (tNot (tB (tVar 7))) (tAnd (tNot (tB (tVar 8))) (tB (tOp (rIx K) (tVar 0) (tC (.int 1))))))) (tRet (tC .non)) tNext)
    (tAsg (tOp (rAddU K) (tOp (rAddU K) (tVar 3) (tVar 9)) (tOp (rMulU K) (tLst (tCons (tC (.int 10)) tNil)) (tCB rInt1 (tCons (tAndV (tNotV (tVar 7)) (tNotV (tVar 8))) tNil)))) (gName 3))))))))
    (tRet (tVar 3))))

theorem pure_l_quoted_data (T : Txt K mg) (vs : List V) (H : Hp) (Q : VK) (E : XK) (h : sp_l_quoted_data T vs H Q E) : t_l_quoted_data T { nx := fun _ H' => Q .non H', rt := Q } (start ["_law_code", "_law_rules_here", "_law_text", "_law_found", "_law_rows", "_law_place", "_law_row", "_law_is_soft", "_law_is_end", "_law_more"] vs) H := by
  obtain ⟨pc, p, c, r, l, rfl, hpc, hp, hl, qn, qs⟩ := h
  rw [finQ_rows] at qn qs
  unfold TupQ at hpc
  have hp0 := hp
  unfold LrAt at hp
  obtain ⟨jl, jr⟩ := jnl_len (rowsT l)
  rw [rowsT_jnl] at jl jr
  unfold t_l_quoted_data
  walk_at "rd"
  refine And.intro (Nat.zero_le _) fun F nF => ?_
  generalize hg : upd H F _ = H1
  have s1 := same_of hg nF
  have v1 : H1 F = some (.lst (([] : List Nat).map nv)) := at_of hg
  clear hg
  walk_at "rd"
  refine ⟨rfl, ?_⟩
  walk_at "rd"
  refine ⟨tx l, tx [10], rfl, rfl, by decide, by rw [tx_len]; exact smallS (by omega), ?_⟩
  rw [rowsT_split]
  have rne := rowsT_ne l
  generalize rowsT l = rows at qn qs jl jr rne ⊢
  intro R nR
  generalize hg : upd H1 R _ = H2
  have s2 := same_of hg nR
  have v2 : H2 R = some (.lst ((rows.map tx).map V.str)) := at_of hg
  clear hg
  walk_at "rd"
  refine r_enumL ?_
  walk_at "rd"
  refine ⟨R, _, rfl, ql v2, ?_⟩
  refine f_it (walk_enum (K := K) (a := R) (xs := (rows.map tx).map V.str)) (fun i σ G => ∃ (F : Addr) (acc : List Nat) (v5 v6 v7 v8 v9 : Option V), σ = [some (.ref pc), some (.ref p), some (.str (tx l)), some (.ref F), some (.ref R), v5, v6, v7, v8, v9] ∧ Same H2 G ∧ H F = none ∧ G F = some (.lst (acc.map nv)) ∧ acc.length ≤ 301 * i ∧ (lawQ c r (rows.drop i)).map (fun t => acc ++ t) = lawQ c r rows)
    ⟨F, [], none, none, none, none, none, rfl, Same.refl H2, nF, s2 _ _ v1, Nat.zero_le _, by rw [List.drop_zero]; cases lawQ c r rows <;> rfl⟩ (fun i σ G _ h => by
      obtain ⟨_, _, _, _, _, _, _, _, s, _⟩ := h
      exact ql (s _ _ v2)) ?_ ?_
  rotate_left
  · rintro σ G ⟨F, acc, v5, v6, v7, v8, v9, rfl, sG, nF, hF, la, he⟩
    rw [List.length_map, List.length_map] at he la
    rw [List.drop_of_length_le (Nat.le_refl _)] at he
    have he : some (acc ++ []) = lawQ c r rows := he
    rw [List.append_nil] at he
    walk_at "rd"
    exact qs acc he.symm (by omega) F G ((s1.trans s2).trans sG) nF hF
  rintro i x σ G G' hi ⟨F, acc, v5, v6, v7, v8, v9, rfl, sG, nF, hF, la, he⟩ ⟨Tp, a, b, rfl, nT, hG', ea, eb⟩
  have hsT := same_of hG'.symm nT
  have hvT := at_of hG'.symm
  clear hG'
  cases ea
  have eb : ((rows.map tx).map V.str)[i]? = some b := eb
  rw [List.map_map, List.getElem?_map] at eb
  obtain ⟨row, hrow, rfl⟩ := Option.map_eq_some_iff.mp eb
  have hi' : i < rows.length := by rw [List.length_map, List.length_map] at hi; exact hi
  have hd : rows.drop i = row :: rows.drop (i + 1) := by
    rw [List.drop_eq_getElem_cons hi']
    congr 1
    exact Option.some.inj ((List.getElem?_eq_getElem hi').symm.trans hrow)
  rw [hd] at he
  have lr := jr row (List.mem_of_getElem? hrow)
  have zr : (tx row).length ≤ sizeLine := smallS (by rw [tx_len]; omega)
  have SG : Same H G' := (s1.trans s2).trans (sG.trans hsT)
  have hF' : G' F = some (.lst (acc.map nv)) := hsT _ _ hF
  have hpc' := SG _ _ hpc
  have hp' := SG _ _ hp
  have hR' := hsT _ _ (sG _ _ v2)
  have hEnd : rows.drop (i + 1) = [] ↔ i + 1 = rows.length := by rw [List.drop_eq_nil_iff]; omega
  have bad : lawQ c r (row :: rows.drop (i + 1)) = none → ∀ H', Same H H' → Q .non H' := fun z => qn (by rw [← he, z]; rfl)
  walk_at "rx"
  refine r_seqC (fun σ G2 => σ = [some (.ref pc), some (.ref p), some (.str (tx l)), some (.ref F), some (.ref R), some (.int (i : Nat)), some (.str (tx row)), some (.bl (softR row)), some (.bl (decide (i + 1 = rows.length))), v9] ∧ G2 = G') ?_ fun N tail => ?_
  rotate_left
  · walk_at "rd"
    refine ⟨row, rfl, by omega, ?_⟩
    walk_at "rd"
    rw [List.length_map, List.length_map, show decide (((i : Nat) : Int) = ((rows.length : Nat) : Int) - 1) = decide (i + 1 = rows.length) from decide_eq_decide.mpr (by omega)]
    exact tail _ _ ⟨rfl, rfl⟩
  rintro σ G2 ⟨rfl, rfl⟩
  generalize hsf : softR row = sf at bad he
  refine r_seqC (fun σ G3 => σ = [some (.ref pc), some (.ref p), some (.str (tx l)), some (.ref F), some (.ref R), some (.int (i : Nat)), some (.str (tx row)), some (.bl sf), some (.bl (decide (i + 1 = rows.length))), v9] ∧ G3 = G2 ∧ ¬ (fitN c r row.length = false ∨ (softR row = true ∧ rows.drop (i + 1) = []))) ?_ fun N tail => ?_
  rotate_left
  · walk_at "rd"
    cases hli : r.lines with
    | false =>
      have hf : fitN c r row.length = true := by unfold fitN limQ; rw [hli]; rfl
      walk_at "rd"
      cases sf with
      | false =>
        walk_at "rd"
        exact tail _ _ ⟨rfl, rfl, fun z => z.elim (fun z => by rw [hf] at z; cases z) fun z => by rw [hsf] at z; cases z.1⟩
      | true =>
        walk_at "rd"
        refine r_iteD (fun h => ?_) (fun h => ?_)
        · walk_at "rd"
          exact bad (lawQ_b1 (.inr ⟨hsf, hEnd.mpr h⟩)) G2 SG
        · walk_at "rd"
          exact tail _ _ ⟨rfl, rfl, fun z => z.elim (fun z => by rw [hf] at z; cases z) fun z => h (hEnd.mp z.2)⟩
    | true =>
      walk_at "rd"
      refine r_iteD (fun h0 => ?_) (fun h0 => ?_)
      · walk_at "rd"
        refine r_lenUS zr ?_
        rw [tx_len]
        walk_at "rd"
        refine r_iteD (fun h1 => ?_) (fun h1 => ?_)
        · have hf : fitN c r row.length = false := by
            unfold fitN limQ
            rw [hli, decide_eq_true (show 0 < c.wd by omega), decide_eq_false (show ¬ row.length ≤ c.wd by omega)]
            rfl
          walk_at "rd"
          exact bad (lawQ_b1 (.inl hf)) G2 SG
        · have hf : fitN c r row.length = true := by
            unfold fitN limQ
            rw [decide_eq_true (show row.length ≤ c.wd by omega), Bool.or_true]
          walk_at "rd"
          cases sf with
          | false =>
            walk_at "rd"
            exact tail _ _ ⟨rfl, rfl, fun z => z.elim (fun z => by rw [hf] at z; cases z) fun z => by rw [hsf] at z; cases z.1⟩
          | true =>
            walk_at "rd"
            refine r_iteD (fun h => ?_) (fun h => ?_)
            · walk_at "rd"
              exact bad (lawQ_b1 (.inr ⟨hsf, hEnd.mpr h⟩)) G2 SG
            · walk_at "rd"
              exact tail _ _ ⟨rfl, rfl, fun z => z.elim (fun z => by rw [hf] at z; cases z) fun z => h (hEnd.mp z.2)⟩
      · have hf : fitN c r row.length = true := by
          unfold fitN limQ
          rw [decide_eq_false (show ¬ 0 < c.wd by omega), Bool.and_false]
          rfl
        walk_at "rd"
        cases sf with
        | false =>
          walk_at "rd"
          exact tail _ _ ⟨rfl, rfl, fun z => z.elim (fun z => by rw [hf] at z; cases z) fun z => by rw [hsf] at z; cases z.1⟩
        | true =>
          walk_at "rd"
          refine r_iteD (fun h => ?_) (fun h => ?_)
          · walk_at "rd"
            exact bad (lawQ_b1 (.inr ⟨hsf, hEnd.mpr h⟩)) G2 SG
          · walk_at "rd"
            exact tail _ _ ⟨rfl, rfl, fun z => z.elim (fun z => by rw [hf] at z; cases z) fun z => h (hEnd.mp z.2)⟩
  rintro σ G3 ⟨rfl, rfl, hn1⟩
  refine r_seqC (fun σ G4 => σ = [some (.ref pc), some (.ref p), some (.str (tx l)), some (.ref F), some (.ref R), some (.int (i : Nat)), some (.str (tx row)), some (.bl sf), some (.bl (decide (i + 1 = rows.length))), v9] ∧ G4 = G3 ∧ ¬ (softR row = true ∧ r.loose = false ∧ (rows.drop (i + 1)).head? = some [])) ?_ fun N tail => ?_
  rotate_left
  · cases sf with
    | false =>
      walk_at "rd"
      exact tail _ _ ⟨rfl, rfl, fun z => by rw [hsf] at z; cases z.1⟩
    | true =>
      have hne : i + 1 < rows.length := by
        have h1 : rows.drop (i + 1) ≠ [] := fun z => hn1 (.inr ⟨hsf, z⟩)
        have h2 : ¬ i + 1 = rows.length := fun z => h1 (hEnd.mpr z)
        omega
      walk_at "rd"
      cases hlo : r.loose with
      | true =>
        walk_at "rd"
        exact tail _ _ ⟨rfl, rfl, fun z => by rw [hlo] at z; cases z.2.1⟩
      | false =>
        have h2 : rows[i + 1]? = some rows[i + 1] := List.getElem?_eq_getElem hne
        generalize rows[i + 1] = nrow at h2
        walk_at "rd"
        refine r_ixL (ql hR') (show atI _ (((i + 1 : Nat)) : Int) = some (.str (tx nrow)) from atI_nat (by rw [List.map_map, List.getElem?_map, h2]; rfl)) ?_
        walk_at "rd"
        rw [e_tx, tx_dec]
        refine r_iteD (fun h => ?_) (fun h => ?_)
        · walk_at "rd"
          exact bad (lawQ_b2 ⟨hsf, hlo, by rw [List.head?_drop, h2, h]⟩) G3 SG
        · walk_at "rd"
          exact tail _ _ ⟨rfl, rfl, fun z => h (by have z2 := z.2.2; rw [List.head?_drop, h2] at z2; exact Option.some.inj z2)⟩
  rintro σ G4 ⟨rfl, rfl, hn2⟩
  have hcut : cutR row = row.take (row.length - if sf = true then 1 else 0) := by
    unfold cutR
    rw [hsf]
    cases sf with
    | true => rw [if_pos rfl, if_pos rfl, List.dropLast_eq_take]
    | false => rw [if_neg (by decide), if_neg (by decide), Nat.sub_zero, List.take_of_length_le (Nat.le_refl _)]
  have hone : sf = true → 0 < row.length := fun z => List.length_pos_iff.mpr (soft_ne (by rw [hsf]; exact z))
  have hint : ((row.length : Int) - if sf = true then 1 else 0) = ((row.length - if sf = true then 1 else 0 : Nat) : Int) := by
    cases sf with
    | true => have := hone rfl; rw [if_pos rfl, if_pos rfl]; omega
    | false => rw [if_neg (by decide), if_neg (by decide)]; omega
  walk_at "rd"
  refine r_lenUS zr ?_
  rw [tx_len]
  walk_at "rd"
  rw [hint]
  refine r_slUS zr ?_
  rw [cut_take (by omega), ← hcut]
  walk_at "rd"
  refine ⟨p, r, cutR row, sf, rfl, hp', Nat.le_trans (cutR_len row) (by omega), fun e H5 s5 => ?_, fun ds e D H5 s5 nD hD => ?_⟩
  · walk_at "rd"
    refine r_isNNn ?_
    walk_at "rd"
    exact bad (lawQ_b3 (by rw [hsf]; exact e)) H5 (SG.trans s5)
  have lds := Nat.le_trans (rowD_len e) (cutR_len row)
  have hpc5 := s5 _ _ hpc'
  walk_at "rx"
  refine r_seqC (fun σ G6 => σ = [some (.ref pc), some (.ref p), some (.str (tx l)), some (.ref F), some (.ref R), some (.int (i : Nat)), some (.str (tx row)), some (.bl sf), some (.bl (decide (i + 1 = rows.length))), some (.ref D)] ∧ G6 = H5 ∧ ¬ (softR row = false ∧ rows.drop (i + 1) ≠ [] ∧ c.bin = true)) ?_ fun N tail => ?_
  rotate_left
  · walk_at "rd"
    refine r_isNNr ?_
    walk_at "rd"
    cases sf with
    | true =>
      walk_at "rd"
      exact tail _ _ ⟨rfl, rfl, fun z => by rw [hsf] at z; cases z.1⟩
    | false =>
      walk_at "rd"
      by_cases h : i + 1 = rows.length
      · rw [decide_eq_true h] at tail ⊢
        walk_at "rd"
        exact tail _ _ ⟨rfl, rfl, fun z => z.2.1 (hEnd.mpr h)⟩
      · rw [decide_eq_false h] at tail ⊢
        walk_at "rd"
        cases hb : c.bin with
        | true =>
          walk_at "rd"
          exact bad (lawQ_b4 ⟨hsf, fun z => h (hEnd.mp z), hb⟩) H5 (SG.trans s5)
        | false =>
          walk_at "rd"
          exact tail _ _ ⟨rfl, rfl, fun z => by rw [hb] at z; cases z.2.2⟩
  rintro σ G6 ⟨rfl, rfl, hn3⟩
  have hok := lawQ_ok hn1 hn2 (by rw [hsf]; exact e) hn3
  have hF6 := s5 _ _ hF'
  walk_at "rd"
  refine r_addUL hF6 hD (by rw [List.length_map, List.length_map]; exact smallS (by omega)) fun P1 nP1 => ?_
  generalize hg : upd _ P1 _ = H7
  have s7 := same_of hg nP1
  have v7 := at_of hg
  clear hg
  walk_at "rd"
  refine And.intro (by show 1 ≤ sizeLine; decide) fun P2 nP2 => ?_
  generalize hg : upd _ P2 _ = H8
  have s8 := same_of hg nP2
  have v8 := at_of hg
  clear hg
  have v78 := s8 _ _ v7
  have S8 := s5.trans (s7.trans s8)
  have fin : ∀ (k : Int) (nl : List Nat), -(2 ^ 63) ≤ k ∧ k < 2 ^ 63 → k.toNat ≤ 1 → (List.replicate k.toNat [V.int 10]).flatten = nl.map nv → nl.length ≤ 1 → nl = (if softR row = false ∧ rows.drop (i + 1) ≠ [] then [10] else []) → ∀ (W : VK), (∀ o Go, Same H8 Go → H8 o = none → Go o = some (.lst ((acc ++ ds ++ nl).map nv)) → W (.ref o) Go) → rMulU K (.ref P2) (.int k) H8 fun y H2 => rAddU K (.ref P1) y H2 W := by
    intro k nl hk hk1 hr hnl _ W hW
    refine r_mulUL v8 hk (by show 1 * k.toNat ≤ sizeLine; rw [Nat.one_mul]; exact smallS (by omega)) fun P3 nP3 => ?_
    rw [hr]
    generalize hg : upd _ P3 _ = H9
    have s9 := same_of hg nP3
    have v9 := at_of hg
    clear hg
    refine r_addUL (s9 _ _ v78) v9 (by simp only [List.length_append, List.length_map]; exact smallS (by omega)) fun P4 nP4 => ?_
    refine hW P4 _ (s9.trans (same_new nP4)) (s9.free nP4) ?_
    rw [upd_same, List.map_append, List.map_append]
  have done : ∀ (nl : List Nat), nl.length ≤ 1 → nl = (if softR row = false ∧ rows.drop (i + 1) ≠ [] then [10] else []) → ∀ o Go, Same H8 Go → H8 o = none → Go o = some (.lst ((acc ++ ds ++ nl).map nv)) → ∃ (F : Addr) (acc : List Nat) (v5 v6 v7 v8 v9 : Option V), ([some (.ref pc), some (.ref p), some (.str (tx l)), some (.ref o), some (.ref R), some (.int (i : Nat)), some (.str (tx row)), some (.bl sf), some (.bl (decide (i + 1 = rows.length))), some (.ref D)] : S) = [some (.ref pc), some (.ref p), some (.str (tx l)), some (.ref F), some (.ref R), v5, v6, v7, v8, v9] ∧ Same H2 Go ∧ H F = none ∧ Go F = some (.lst (acc.map nv)) ∧ acc.length ≤ 301 * (i + 1) ∧ (lawQ c r (rows.drop (i + 1))).map (fun t => acc ++ t) = lawQ c r rows := by
    intro nl hnl enl o Go so no ho
    refine ⟨o, acc ++ ds ++ nl, _, _, _, _, _, rfl, sG.trans (hsT.trans (S8.trans so)), SG.free (S8.free no), ho, ?_, ?_⟩
    · simp only [List.length_append]
      omega
    · rw [← he, hok, ← enl, Option.map_map]
      cases lawQ c r (rows.drop (i + 1)) with
      | none => rfl
      | some t => simp
  cases sf with
  | true =>
    walk_at "rd"
    have en : ([] : List Nat) = (if softR row = false ∧ rows.drop (i + 1) ≠ [] then [10] else []) := (if_neg fun z => by rw [hsf] at z; cases z.1).symm
    refine fin _ [] (by decide) (by decide) rfl (Nat.zero_le _) en _ fun o Go so no ho => ?_
    walk_at "rd"
    exact done [] (Nat.zero_le _) en o Go so no ho
  | false =>
    by_cases h : i + 1 = rows.length
    · rw [decide_eq_true h] at done ⊢
      walk_at "rd"
      have en : ([] : List Nat) = (if softR row = false ∧ rows.drop (i + 1) ≠ [] then [10] else []) := (if_neg fun z => z.2 (hEnd.mpr h)).symm
      refine fin _ [] (by decide) (by decide) rfl (Nat.zero_le _) en _ fun o Go so no ho => ?_
      walk_at "rd"
      exact done [] (Nat.zero_le _) en o Go so no ho
    · rw [decide_eq_false h] at done ⊢
      walk_at "rd"
      have en : ([10] : List Nat) = (if softR row = false ∧ rows.drop (i + 1) ≠ [] then [10] else []) := (if_pos ⟨hsf, fun z => h (hEnd.mp z)⟩).symm
      refine fin _ [10] (by decide) (by decide) rfl (Nat.le_refl _) en _ fun o Go so no ho => ?_
      walk_at "rd"
      exact done [10] (Nat.le_refl _) en o Go so no ho
theorem ok_l_quoted_data (T : Txt K mg) : FnOk P w K mg base CX0 2 T.l_quoted_data_a T.l_quoted_data_d ["_law_code", "_law_rules_here", "_law_text"] (sp_l_quoted_data T) := by
  refine T.l_quoted_data_f.ok sc_l_quoted_data (fun vs H Q E h => len_l_quoted_data T vs H Q E h) (fun cdv A outer s H vs Q E hr h => ⟨t_l_quoted_data T, PSs.nox ?_, pure_l_quoted_data T vs H Q E h⟩)
  have hu := hu64 hr
  exact (pss_cons (ps_par (i := 3) (j := 4) (by rfl) sc_l_quoted_data.nd rfl rfl (by decide) rfl rfl (pa_cons (pe_lst pa_nil) (pa_cons (pe_bm PySem.F.plainAttrs_str PySem.F.slot_str_split PySem.F.type_str_split mt_split (pv 2) (pa_cons pe_str pa_nil)) pa_nil)) (by rfl))
      (pss_cons (ps_for PassesOwn.never rfl (pi_enumU (by rfl) T.n_enumerate (pa_cons (pv 4) pa_nil)) (pg_tup (by rfl) (pgs_cons (pg_name (i := 5) sc_l_quoted_data.nd rfl (.inl rfl)) (pgs_cons (pg_name (i := 6) sc_l_quoted_data.nd rfl (.inl rfl)) pgs_nil))) (pss_cons (ps_par (i := 7) (j := 8) (by rfl) sc_l_quoted_data.nd rfl rfl (by decide) rfl rfl (pa_cons (pe_call (ok_l_soft T) (hr.mono (by decide)) (by rfl) T.l_soft_g T.l_soft_f.kp T.l_soft_b .nil pass0 (pa_cons (pv 6) pa_nil)) (pa_cons (pe_cmpR (op_eqU hu) (pv 5) (pe_op op_sub (pe_callB c_lenU (by rfl) T.n_len (by decide +kernel) (pa_cons (pv 4) pa_nil)) pe_int) (nomark _)) pa_nil)) (by rfl))
      (pss_cons (ps_if (PW.pt (pw_or (PW.pt (pw_and (pt_val (pe_ix ix_seq (pv 1) pe_int (fun _ _ => rfl))) (pw_and (pt_cmpR op_gt (pe_ix ix_seq (pv 0) pe_int (fun _ _ => rfl)) pe_int (nomark _)) (pw_and1 (pt_cmpR op_gt (pe_callB c_lenU (by rfl) T.n_len (by decide +kernel) (pa_cons (pv 6) pa_nil)) (pe_ix ix_seq (pv 0) pe_int (fun _ _ => rfl)) (nomark _)))))) (pw_or1 (PW.pt (pw_and (pt_val (pv 7)) (pw_and1 (pt_val (pv 8)))))))) (pss_one (ps_ret pe_non)) pss_nil)
      (pss_cons (ps_if (PW.pt (pw_and (pt_val (pv 7)) (pw_and (pt_not (pt_val (pe_ix ix_seq (pv 1) pe_int (fun _ _ => rfl)))) (pw_and1 (pt_cmpR (op_eqU hu) (pe_ix ix_seq (pv 4) (pe_op op_addU (pv 5) pe_int) (fun _ _ => rfl)) pe_str (nomark _)))))) (pss_one (ps_ret pe_non)) pss_nil)
      (pss_cons (ps_set (i := 9) sc_l_quoted_data.nd rfl (.inl rfl) (pe_call (ok_l_row_data T) (hr.mono (by decide)) (by rfl) T.l_row_data_g T.l_row_data_f.kp T.l_row_data_b .nil pass0 (pa_cons (pv 1) (pa_cons (pe_slice sl_U (pv 6) po_none (po_some (pe_op op_sub (pe_callB c_lenU (by rfl) T.n_len (by decide +kernel) (pa_cons (pv 6) pa_nil)) (pe_callTy call_int1 (by rfl) T.n_int (by decide +kernel) (pa_cons (pv 7) pa_nil))))) (pa_cons (pv 7) pa_nil)))))
      (pss_cons (ps_if (PW.pt (pw_or (pt_cmpR op_isN (pv 9) pe_non (nomark _)) (pw_or1 (PW.pt (pw_and (pt_not (pt_val (pv 7))) (pw_and (pt_not (pt_val (pv 8))) (pw_and1 (pt_val (pe_ix ix_seq (pv 0) pe_int (fun _ _ => rfl)))))))))) (pss_one (ps_ret pe_non)) pss_nil)
      (pss_one (ps_set (i := 3) sc_l_quoted_data.nd rfl (.inl rfl) (pe_op op_addU (pe_op op_addU (pv 3) (pv 9)) (pe_op op_mulU (pe_lst (pa_cons pe_int pa_nil)) (pe_callTy call_int1 (by rfl) T.n_int (by decide +kernel) (pa_cons (pe_and (pe_not (pv 7)) (pe_one (pe_not (pv 8)))) pa_nil))))))))))))
      (pss_one (ps_ret (pv 3)))))


end
section
variable {w : World} {K : PySem.W.Frag} {mg : Str → Option Value} {base : Heap}
local macro_rules | `(tactic| walk_at "hcq") => `(tactic| first
  | assumption
  | ((refine WaysAt.same (H := ?xH) ?xb ?xa); (case xa => assumption); (case xb => walk_at "hcq")))
local macro_rules | `(tactic| walk_at "rd0") => `(tactic| first
  | ((with_reducible refine r_getQ (a := ?xa) (c := ?xc) ?x1 ?x2 ?_); (case x1 => rfl); (case x2 => walk_at "hcq"))
  | ((with_reducible refine r_methQ (a := ?xa) (c := ?xc) ?x1 ?x2 ?x3 ?_); (case x1 => rfl); (case x2 => walk_at "hcq"); (case x3 => exact ⟨fun _ => rfl, fun _ _ => rfl⟩))
  | (with_reducible refine r_fmtB ?_)
  | (with_reducible refine r_dget ?_)
  | (with_reducible refine r_m0 ?_)
  | (with_reducible refine r_makeK ?_)
  | (with_reducible refine r_cval ?_)
  | (with_reducible refine r_sfld ?_)
  | (with_reducible refine r_isiI ?_)
  | (with_reducible refine r_isiIB ?_)
  | (with_reducible refine r_isiBB ?_)
  | (with_reducible refine r_isiS ?_)
  | (with_reducible refine r_int1I ?_)
  | (with_reducible refine r_int1B ?_))

local macro_rules | `(tactic| walk_at "hcr") => `(tactic| first
  | assumption
  | ((refine RulesAt.same (H := ?xH) ?xb ?xa); (case xa => assumption); (case xb => walk_at "hcr")))
local macro_rules | `(tactic| walk_at "rd0") => `(tactic| first
  | ((with_reducible refine r_getR (a := ?xa) (r := ?xr) ?x1 ?x2 ?_); (case x1 => rfl); (case x2 => walk_at "hcr")))

set_option hygiene false in
local macro_rules | `(tactic| walk_at "n1") => `(tactic| (refine And.intro (by walk_at "sz") ?_; intro p1 np1; generalize hg : upd _ p1 _ = H1; have s1 := same_of hg np1; have v1 := at_of hg; clear hg))
set_option hygiene false in
local macro_rules | `(tactic| walk_at "n2") => `(tactic| (refine And.intro (by walk_at "sz") ?_; intro p2 np2; generalize hg : upd _ p2 _ = H2; have s2 := same_of hg np2; have v2 := at_of hg; clear hg))
set_option hygiene false in
local macro_rules | `(tactic| walk_at "n3") => `(tactic| (refine And.intro (by walk_at "sz") ?_; intro p3 np3; generalize hg : upd _ p3 _ = H3; have s3 := same_of hg np3; have v3 := at_of hg; clear hg))
set_option hygiene false in
local macro_rules | `(tactic| walk_at "n4") => `(tactic| (refine And.intro (by walk_at "sz") ?_; intro p4 np4; generalize hg : upd _ p4 _ = H4; have s4 := same_of hg np4; have v4 := at_of hg; clear hg))

def Byts (xs : List Int) : Prop := ∀ x ∈ xs, 0 ≤ x ∧ x ≤ 255
theorem at_int {xs : List Int} {i : Nat} {x : V} (h : (xs.map V.int)[i]? = some x) : ∃ z, xs[i]? = some z ∧ x = .int z := by
  rw [List.getElem?_map] at h
  cases e : xs[i]? with
  | none => rw [e] at h; cases h
  | some a => rw [e] at h; exact ⟨a, rfl, (Option.some.inj h).symm⟩
theorem two_l {xs : List V} (h : xs.length = 2) : xs.length ≤ sizeLine := by rw [h]; decide
/-! ### what the law draws -/
def alls : List Nat := List.range' 33 4 ++ List.range' 38 89
def sp_l_all_signs (T : Txt K mg) : Sp := fun vs H Q _ => vs = [] ∧ Q (.str (tx alls)) H
theorem len_l_all_signs (T : Txt K mg) (vs : List V) (H : Hp) (Q : VK) (E : XK) (h : sp_l_all_signs T vs H Q E) : vs.length = 0 := by
  obtain ⟨rfl, _⟩ := h
  rfl
theorem alls_eq : Str.ofString "!\"#$&'()*+,-./0123456789:;<=>?@" ++ Str.ofString "ABCDEFGHIJKLMNOPQRSTUVWXYZ" ++ Str.ofString "[\\]^_`" ++ Txt.lower (Str.ofString "ABCDEFGHIJKLMNOPQRSTUVWXYZ") ++ Str.ofString "{|}~" = tx alls := by decide +kernel
def t_l_all_signs (T : Txt K mg) : TS := (tSeq (tAsg (tC (.str (Str.ofString "ABCDEFGHIJKLMNOPQRSTUVWXYZ"))) (gName 0))
    (tRet (tOp (rAddU K) (tOp (rAddU K) (tOp (rAddU K) (tOp (rAddU K) (tC (.str (Str.ofString "!\"#$&'()*+,-./0123456789:;<=>?@"))) (tVar 0)) (tC (.str (Str.ofString "[\\]^_`")))) (tM0 rLower (tVar 0))) (tC (.str (Str.ofString "{|}~"))))))

theorem pure_l_all_signs (T : Txt K mg) (vs : List V) (H : Hp) (Q : VK) (E : XK) (h : sp_l_all_signs T vs H Q E) : t_l_all_signs T { nx := fun _ H' => Q .non H', rt := Q } (start ["_law_capitals_here"] vs) H := by
  obtain ⟨rfl, q⟩ := h
  unfold t_l_all_signs
  walk_at "rd"
  refine r_addUS (by decide +kernel) ?_
  walk_at "rd"
  refine r_addUS (by decide +kernel) ?_
  walk_at "rd"
  refine ⟨⟨_, rfl⟩, _, rfl, rfl, by decide +kernel, ?_⟩
  refine r_addUS (by decide +kernel) ?_
  walk_at "rd"
  refine r_addUS (by decide +kernel) ?_
  rw [alls_eq]
  exact q
theorem ok_l_all_signs (T : Txt K mg) : FnOk P w K mg base CX0 1 T.l_all_signs_a T.l_all_signs_d [] (sp_l_all_signs T) := by
  refine T.l_all_signs_f.ok sc_l_all_signs (fun vs H Q E h => len_l_all_signs T vs H Q E h) (fun cdv A outer s H vs Q E hr h => ⟨t_l_all_signs T, PSs.nox ?_, pure_l_all_signs T vs H Q E h⟩)
  have hu := hu64 hr
  exact (pss_cons (ps_set (i := 0) sc_l_all_signs.nd rfl (.inl rfl) pe_str)
      (pss_one (ps_ret (pe_op op_addU (pe_op op_addU (pe_op op_addU (pe_op op_addU pe_str (pv 0)) pe_str) (pe_lower (pv 0))) pe_str))))

theorem alls_len : alls.length = 93 := by decide
theorem alls_nd : alls.Nodup := by decide
def dch (f k : Nat) : Nat := alls.getD ((f + 7 * k) % 93) 0
def drow (f k : Nat) : List Nat := (List.range k).map (dch f)
theorem drow_len (f k : Nat) : (drow f k).length = k := by simp [drow]
theorem drow_succ (f k : Nat) : drow f (k + 1) = drow f k ++ [dch f k] := by simp [drow, List.range_succ]
theorem dch_sg (f k : Nat) : Sg (dch f k) := by
  have lt : (f + 7 * k) % 93 < alls.length := by rw [alls_len]; exact Nat.mod_lt _ (by decide)
  have m : dch f k ∈ alls := by
    unfold dch
    rw [List.getD_eq_getElem?_getD, List.getElem?_eq_getElem lt]
    exact List.getElem_mem lt
  unfold alls at m
  rw [List.mem_append, List.mem_range'_1, List.mem_range'_1] at m
  unfold Sg
  omega
theorem dch_ne {f i j : Nat} (h : i < j) (hj : j < 93) : dch f i ≠ dch f j := by
  have l1 : (f + 7 * i) % 93 < alls.length := by rw [alls_len]; exact Nat.mod_lt _ (by decide)
  have l2 : (f + 7 * j) % 93 < alls.length := by rw [alls_len]; exact Nat.mod_lt _ (by decide)
  intro e
  unfold dch at e
  rw [List.getD_eq_getElem?_getD, List.getElem?_eq_getElem l1, List.getD_eq_getElem?_getD, List.getElem?_eq_getElem l2] at e
  have e2 := (List.getElem_inj alls_nd).mp (show alls[(f + 7 * i) % 93] = alls[(f + 7 * j) % 93] from e)
  omega
theorem drow_nd {f k : Nat} (h : k ≤ 93) : (drow f k).Nodup := by
  unfold drow
  rw [List.nodup_iff_pairwise_ne, List.pairwise_map]
  refine List.Pairwise.imp_of_mem ?_ (List.pairwise_lt_range (n := k))
  intro a b _ hb hab
  exact dch_ne hab (by have := List.mem_range.mp hb; omega)
theorem sum_one : ∀ l : List Nat, ((l.map fun c => tx [c]).map (·.length)).sum = l.length
  | [] => rfl
  | x :: r => by
    have ih := sum_one r
    simp only [List.map_cons, List.sum_cons, List.length_cons, tx_len, List.length_nil] at ih ⊢
    omega
theorem join_one (l : List Nat) : Txt.join (Str.ofString "") (l.map fun c => tx [c]) = tx l := by
  have := txt_join_tx (l.map fun c => [c])
  rw [List.map_map] at this
  have e : (tx ∘ fun c => [c]) = fun c : Nat => tx [c] := rfl
  rw [e] at this
  rw [this]
  clear this
  congr 1
  induction l with
  | nil => rfl
  | cons y r ih => rw [List.map_cons, List.flatten_cons, ih]; rfl
def sp_l_quoted (T : Txt K mg) : Sp := fun vs H Q _ => ∃ (b : Addr) (n : Nat), vs = [.ref b] ∧ BagAt H b (n + 10) ∧
  ∀ p c H', SameB b H H' → BagAt H' b n → H p = none → H' p = some (.tup [.int (QD.wd c), .bl c.bin, .str (tx c.also)]) → c.Ok → Q (.ref p) H'
theorem len_l_quoted (T : Txt K mg) (vs : List V) (H : Hp) (Q : VK) (E : XK) (h : sp_l_quoted T vs H Q E) : vs.length = 1 := by
  obtain ⟨_, _, rfl, _⟩ := h
  rfl
def t_l_quoted (T : Txt K mg) : TS := (tSeq (tAsg (tTup (tCons (tCall (sp_l_all_signs T) [] E0 tNil) (tCons (tCall (sp_l_of T) [] E0 (tCons (tVar 0) (tCons (tLst (tCons (tC (.int 0)) (tCons (tC (.int 4)) (tCons (tC (.int 4)) (tCons (tC (.int 5)) (tCons (tC (.int 6)) (tCons (tC (.int 7)) (tCons (tC (.int 8)) (tCons (tC (.int 12)) (tCons (tC (.int 20)) (tCons (tC (.int 76)) (tCons (tOp (rAddU K) (tC (.int 4)) (tCall (sp_l_take T) [] E0 (tCons (tVar 0) (tCons (tC (.int 73)) tNil)))) tNil)))))))))))) tNil))) tNil))) (gTup K 2 (gCons (gName 1) (gCons (gName 2) gNil))))
    (tSeq (tAsg (tCall (sp_l_take T) [] E0 (tCons (tVar 0) (tCons (tC (.int 93)) tNil))) (gName 3))
    (tSeq (tAsg (tLc (iRng1 (tCons (tCall (sp_l_of T) [] E0 (tCons (tVar 0) (tCons (tLst (tCons (tC (.int 0)) (tCons (tC (.int 0)) (tCons (tC (.int 1)) (tCons (tC (.int 3)) (tCons (tC (.int 93)) tNil)))))) tNil))) tNil)) (gName 5) tYes (tOp (rIx K) (tVar 1) (tOp rModI (tOp (rAddU K) (tVar 3) (tOp (rMulU K) (tC (.int 7)) (tVar 5))) (tC (.int 93)))) [5]) (gName 4))
    (tRet (tTup (tCons (tVar 2) (tCons (tOp (rEqU K) (tCall (sp_l_take T) [] E0 (tCons (tVar 0) (tCons (tC (.int 3)) tNil))) (tC (.int 0))) (tCons (tJoinU K (tC (.str (Str.ofString ""))) (tVar 4)) tNil))))))))

theorem pure_l_quoted (T : Txt K mg) (vs : List V) (H : Hp) (Q : VK) (E : XK) (h : sp_l_quoted T vs H Q E) : t_l_quoted T { nx := fun _ H' => Q .non H', rt := Q } (start ["_law_bag_here", "_law_some", "_law_wide", "_law_first", "_law_more", "_law_k"] vs) H := by
  obtain ⟨b, n, rfl, hB, q⟩ := h
  unfold t_l_quoted
  walk_at "rd"
  refine ⟨rfl, ?_⟩
  walk_at "rd"
  refine ⟨b, 73, n + 9, rfl, hB, by decide, by decide, fun r0 H1 r00 r01 hB1 s1 => ?_⟩
  obtain ⟨w1, rfl⟩ : ∃ j : Nat, r0 = j := ⟨r0.toNat, by omega⟩
  walk_at "rd"
  refine And.intro (by show 11 ≤ sizeLine; decide) ?_
  intro p np
  generalize hg : upd _ p _ = H2
  have s2 := same_of hg np
  have v2 := at_of hg
  clear hg
  walk_at "rd"
  refine ⟨b, p, _, n + 8, rfl, ql v2, hB1.ne np, (hB1.same s2).mono (by omega), (by show 0 < 11; decide), (by show 11 < 1000000; decide), fun j x H3 hx hB3 s3 => ?_⟩
  obtain ⟨wd, rfl, hw0, hw76⟩ : ∃ wd : Nat, x = .int (wd : Nat) ∧ (wd = 0 ∨ 4 ≤ wd) ∧ wd ≤ 76 := by
    match j, hx with
    | 0, hx => exact ⟨0, (Option.some.inj hx).symm, by decide, by decide⟩
    | 1, hx => exact ⟨4, (Option.some.inj hx).symm, by decide, by decide⟩
    | 2, hx => exact ⟨4, (Option.some.inj hx).symm, by decide, by decide⟩
    | 3, hx => exact ⟨5, (Option.some.inj hx).symm, by decide, by decide⟩
    | 4, hx => exact ⟨6, (Option.some.inj hx).symm, by decide, by decide⟩
    | 5, hx => exact ⟨7, (Option.some.inj hx).symm, by decide, by decide⟩
    | 6, hx => exact ⟨8, (Option.some.inj hx).symm, by decide, by decide⟩
    | 7, hx => exact ⟨12, (Option.some.inj hx).symm, by decide, by decide⟩
    | 8, hx => exact ⟨20, (Option.some.inj hx).symm, by decide, by decide⟩
    | 9, hx => exact ⟨76, (Option.some.inj hx).symm, by decide, by decide⟩
    | 10, hx => exact ⟨4 + w1, (Option.some.inj hx).symm, .inr (by omega), by omega⟩
    | j + 11, hx => cases hx
  walk_at "rd"
  refine And.intro (two_l rfl) ?_
  intro t1 nt1
  generalize hg1 : upd _ t1 _ = H4
  have s4 := same_of hg1 nt1
  have v4 := at_of hg1
  clear hg1
  have S4 : SameB b H H4 := s1.trans ((toB s2).trans (s3.trans (toB s4)))
  walk_at "rd"
  refine ⟨b, 93, n + 7, rfl, hB3.same s4, by decide, by decide, fun r H5 r0 r1 hB5 s5 => ?_⟩
  obtain ⟨f, rfl⟩ : ∃ f : Nat, r = f := ⟨r.toNat, by omega⟩
  walk_at "rd"
  refine And.intro (by show 5 ≤ sizeLine; decide) ?_
  intro l2 nl2
  generalize hg2 : upd _ l2 _ = H6
  have s6 := same_of hg2 nl2
  have v6 := at_of hg2
  clear hg2
  walk_at "rd"
  refine ⟨b, l2, _, n + 6, rfl, ql v6, hB5.ne nl2, hB5.same s6, by decide, by decide, fun j2 x2 H7 hx2 hB7 s7 => ?_⟩
  obtain ⟨k, rfl, hk⟩ : ∃ k : Nat, x2 = .int (k : Nat) ∧ k ≤ 93 := by
    match j2, hx2 with
    | 0, hx => exact ⟨0, (Option.some.inj hx).symm, by decide⟩
    | 1, hx => exact ⟨0, (Option.some.inj hx).symm, by decide⟩
    | 2, hx => exact ⟨1, (Option.some.inj hx).symm, by decide⟩
    | 3, hx => exact ⟨3, (Option.some.inj hx).symm, by decide⟩
    | 4, hx => exact ⟨93, (Option.some.inj hx).symm, by decide⟩
    | j + 5, hx => cases hx
  have S7 : SameB b H H7 := S4.trans (s5.trans ((toB s6).trans s7))
  walk_at "rd"
  refine r_one ⟨by omega, by omega⟩ fun D nD => ?_
  have nDb : D ≠ b := hB7.ne nD
  refine c_it (walk_range (lo := 0) (n := ((k : Nat) : Int).toNat)) (fun i G => G D = some (.lst ((drow f i).map fun c => V.str (tx [c]))) ∧ Same H7 G) ⟨upd_same, same_new nD⟩ (fun _ _ _ _ => trivial) ?_ ?_
  · rintro i x G G' hi ⟨hD, sG⟩ ⟨rfl, rfl⟩
    have hi' : i < 93 := by omega
    walk_at "rd"
    refine ⟨rfl, ?_⟩
    walk_at "rd"
    have em1 : ((f : Int) + 7 * (0 + (i : Int))).fmod 93 = (((f + 7 * i) % 93 : Nat) : Int) := by
      rw [Int.fmod_eq_emod_of_nonneg _ (by decide), Int.zero_add, Int.natCast_emod, Int.natCast_add, Int.natCast_mul]
      rfl
    rw [em1]
    have lt93 : (f + 7 * i) % 93 < alls.length := by rw [alls_len]; exact Nat.mod_lt _ (by decide)
    refine r_ixS (c := dch f i) (smallS (by rw [tx_len, alls_len]; decide)) ?_ ?_
    · rw [tx_list]
      refine atI_nat ?_
      unfold dch
      rw [List.getD_eq_getElem?_getD, List.getElem?_eq_getElem lt93]
      rfl
    refine ⟨_, hD, ?_, ?_, same_mut sG nD⟩
    · rw [List.length_map, drow_len]
      exact Nat.lt_of_le_of_lt (Nat.le_of_lt hi') (by rw [sizeLine_eq]; decide)
    · rw [upd_same, drow_succ, List.map_append]
      rfl
  rintro G ⟨hD, sG⟩
  rw [Int.toNat_natCast] at hD
  walk_at "rd"
  refine ⟨b, 3, n + 5, rfl, hB7.same sG, by decide, by decide, fun r3 H8 r30 r31 hB8 s8 => ?_⟩
  have hD8 := s8 _ _ nDb hD
  walk_at "rd"
  refine r_join ?_ rfl
  walk_at "rd"
  refine ⟨_, D, (drow f k).map fun c => tx [c], rfl, rfl, .inl (ql (by rw [List.map_map]; exact hD8)), ?_, ?_⟩
  · have e0 : (Str.ofString "").length = 0 := rfl
    rw [e0, Nat.mul_zero, Nat.add_zero, sum_one, drow_len]
    omega
  rw [join_one]
  walk_at "rd"
  refine And.intro (three_l rfl) ?_
  intro t5 nt5
  generalize hg5 : upd _ t5 _ = H9
  have s9 := same_of hg5 nt5
  have v9 := at_of hg5
  clear hg5
  have S8 := S7.trans ((toB sG).trans s8)
  exact q t5 ⟨wd, _, drow f k⟩ H9 (S8.trans (toB s9)) ((hB8.same s9).mono (by omega)) (S8.free (hB8.ne nt5) nt5) v9 ⟨hw0, hw76, fun c hc => by
    obtain ⟨j, _, rfl⟩ := List.mem_map.mp hc
    exact dch_sg f j, drow_nd hk, by rw [drow_len]; omega⟩
theorem ok_l_quoted (T : Txt K mg) : FnOk P w K mg base CX0 3 T.l_quoted_a T.l_quoted_d ["_law_bag_here"] (sp_l_quoted T) := by
  refine T.l_quoted_f.ok sc_l_quoted (fun vs H Q E h => len_l_quoted T vs H Q E h) (fun cdv A outer s H vs Q E hr h => ⟨t_l_quoted T, PSs.nox ?_, pure_l_quoted T vs H Q E h⟩)
  have hu := hu64 hr
  exact (pss_cons (ps_asg (pe_tup (pa_cons (pe_call0 (ok_l_all_signs T) (hr.mono (by decide)) (by rfl) T.l_all_signs_g T.l_all_signs_f.kp T.l_all_signs_b .nil pass0) (pa_cons (pe_call (ok_l_of T) (hr.mono (by decide)) (by rfl) T.l_of_g T.l_of_f.kp T.l_of_b .nil pass0 (pa_cons (pv 0) (pa_cons (pe_lst (pa_cons pe_int (pa_cons pe_int (pa_cons pe_int (pa_cons pe_int (pa_cons pe_int (pa_cons pe_int (pa_cons pe_int (pa_cons pe_int (pa_cons pe_int (pa_cons pe_int (pa_cons (pe_op op_addU pe_int (pe_call (ok_l_take T) (hr.mono (by decide)) (by rfl) T.l_take_g T.l_take_f.kp T.l_take_b .nil pass0 (pa_cons (pv 0) (pa_cons pe_int pa_nil)))) pa_nil)))))))))))) pa_nil))) pa_nil))) (pg_tup (by rfl) (pgs_cons (pg_name (i := 1) sc_l_quoted.nd rfl (.inr rfl)) (pgs_cons (pg_name (i := 2) sc_l_quoted.nd rfl (.inl rfl)) pgs_nil))))
      (pss_cons (ps_set (i := 3) sc_l_quoted.nd rfl (.inr rfl) (pe_call (ok_l_take T) (hr.mono (by decide)) (by rfl) T.l_take_g T.l_take_f.kp T.l_take_b .nil pass0 (pa_cons (pv 0) (pa_cons pe_int pa_nil))))
      (pss_cons (ps_setLc (i := 4) (own := [("_law_k", 5)]) (g := (gName 5)) (tt := tYes) rfl sc_l_quoted.nd rfl rfl (sw_true rfl rfl rfl (by decide +kernel)) (pi_range1 (by rfl) T.n_range (pa_cons (pe_call (ok_l_of T) (hr.mono (by decide)) (by rfl) T.l_of_g T.l_of_f.kp T.l_of_b .nil pass0 (pa_cons (pv 0) (pa_cons (pe_lst (pa_cons pe_int (pa_cons pe_int (pa_cons pe_int (pa_cons pe_int (pa_cons pe_int pa_nil)))))) pa_nil))) pa_nil)) (blkOk_by (own := [("_law_k", 5)]) (N := ["_law_bag_here", "_law_some", "_law_wide", "_law_first", "_law_more", "_law_k"]) (sc := defScope s_l_quoted) (by decide +kernel)) (fun _ _ _ _ _ => (pg_name (i := 5) sc_l_quoted.nd rfl (.inl rfl))) (fun _ _ _ _ _ => pts_nil) (fun _ _ _ _ _ => (pe_ix ix_seq (pv 1) (pe_op op_modN (pe_op op_addU (pv 3) (pe_op op_mulU pe_int (pv 5))) pe_int) (fun _ _ => rfl))))
      (pss_one (ps_ret (pe_tup (pa_cons (pv 2) (pa_cons (pe_cmpR (op_eqU hu) (pe_call (ok_l_take T) (hr.mono (by decide)) (by rfl) T.l_take_g T.l_take_f.kp T.l_take_b .nil pass0 (pa_cons (pv 0) (pa_cons pe_int pa_nil))) pe_int (nomark _)) (pa_cons (pe_join pe_str (pv 4)) pa_nil)))))))))

def sp_l_quoting (T : Txt K mg) : Sp := fun vs H Q _ => ∃ p c, vs = [.ref p] ∧ TupQ H p c ∧ c.Ok ∧ ∀ a H', Same H H' → H a = none → QuotAt T H' a c → Q (.ref a) H'
theorem len_l_quoting (T : Txt K mg) (vs : List V) (H : Hp) (Q : VK) (E : XK) (h : sp_l_quoting T vs H Q E) : vs.length = 1 := by
  obtain ⟨_, _, rfl, _⟩ := h
  rfl
def t_l_quoting (T : Txt K mg) : TS := (tRet (tMakeK T.C_Quoted 0 (["width", "binary", "also"] : List Str).length (sp_Quoted___init__ T) (fun vs zs => vs ++ zs) E0 tNil (tCons (tOp (rIx K) (tVar 0) (tC (.int 0))) (tCons (tOp (rIx K) (tVar 0) (tC (.int 1))) (tCons (tOp (rIx K) (tVar 0) (tC (.int 2))) tNil)))))

theorem pure_l_quoting (T : Txt K mg) (vs : List V) (H : Hp) (Q : VK) (E : XK) (h : sp_l_quoting T vs H Q E) : t_l_quoting T { nx := fun _ H' => Q .non H', rt := Q } (start ["_law_code"] vs) H := by
  obtain ⟨p, c, rfl, hp, ok, q⟩ := h
  unfold TupQ at hp
  unfold t_l_quoting
  walk_at "rd"
  refine ⟨rfl, rfl, fun x dx nx ndx hne => ?_⟩
  generalize hg1 : upd H dx _ = H1
  have s1 := same_of hg1 ndx
  have nx1 : H1 x = none := by rw [← hg1, upd_ne (Ne.symm hne)]; exact nx
  clear hg1
  generalize hg2 : upd H1 x _ = H2
  have s2 := same_of hg2 nx1
  have v2 := at_of hg2
  clear hg2
  refine ⟨x, dx, c, rfl, v2, ok, fun H3 s3 h3 => ⟨rfl, ?_⟩⟩
  exact q x H3 (same_mutB nx (s1.trans s2) s3) nx h3
theorem ok_l_quoting (T : Txt K mg) : FnOk P w K mg base CX0 7 T.l_quoting_a T.l_quoting_d ["_law_code"] (sp_l_quoting T) := by
  refine T.l_quoting_f.ok sc_l_quoting (fun vs H Q E h => len_l_quoting T vs H Q E h) (fun cdv A outer s H vs Q E hr h => ⟨t_l_quoting T, PSs.nox ?_, pure_l_quoting T vs H Q E h⟩)
  have hu := hu64 hr
  exact (pss_one (ps_ret (pe_makeK0 T.C_Quoted_m (ok_Quoted___init__ T) (hr.mono (by decide)) (by rfl) T.C_Quoted_g T.Quoted___init___k0_width_binary_also.choose_spec pass0 (pk_cons (pe_ix ix_seq (pv 0) pe_int (fun _ _ => rfl)) (pk_cons (pe_ix ix_seq (pv 0) pe_int (fun _ _ => rfl)) (pk_cons (pe_ix ix_seq (pv 0) pe_int (fun _ _ => rfl)) pk_nil))))))

def sp_l_bytes (T : Txt K mg) : Sp := fun vs H Q _ => ∃ (b : Addr) (k n : Nat), vs = [.ref b, .int k] ∧ BagAt H b (n + 1000) ∧ k ≤ 500 ∧
  ∀ p xs H', Byts xs → xs.length ≤ k → H p = none → H' p = some (.lst (xs.map V.int)) → SameB b H H' → BagAt H' b n → Q (.ref p) H'
theorem len_l_bytes (T : Txt K mg) (vs : List V) (H : Hp) (Q : VK) (E : XK) (h : sp_l_bytes T vs H Q E) : vs.length = 2 := by
  obtain ⟨_, _, _, rfl, _⟩ := h
  rfl
def few : List Int := [65, 98, 32, 32, 10, 61, 33, 126, 0, 255, 37, 9, 13, 46]
theorem few_byts : Byts few := by
  intro x hx
  have h : ∀ x ∈ few, 0 ≤ x ∧ x ≤ 255 := by decide
  exact h x hx
theorem cutV_drop {l : List V} {k : Nat} (h : k ≤ l.length) : cutV l (some (k : Int)) none = l.drop k := by
  unfold cutV
  rw [HT.sIx_none, sIx_le_nat rfl h]
  rw [List.take_of_length_le (by rw [List.length_drop]; exact Nat.le_refl _)]
def t_l_bytes (T : Txt K mg) : TS := (tSeq (tAsg (tLst (tCons (tC (.int 65)) (tCons (tC (.int 98)) (tCons (tC (.int 32)) (tCons (tC (.int 32)) (tCons (tC (.int 10)) (tCons (tC (.int 61)) (tCons (tC (.int 33)) (tCons (tC (.int 126)) (tCons (tC (.int 0)) (tCons (tC (.int 255)) (tCons (tC (.int 37)) (tCons (tC (.int 9)) (tCons (tC (.int 13)) (tCons (tC (.int 46)) tNil))))))))))))))) (gName 2))
    (tSeq (tAsg (tTup (tCons (tCall (sp_l_take T) [] E0 (tCons (tVar 0) (tCons (tC (.int 4)) tNil))) (tCons (tSl (rSlU K) (tVar 2) (tPart (tCall (sp_l_take T) [] E0 (tCons (tVar 0) (tCons (tC (.int 10)) tNil)))) tNoPart) tNil))) (gTup K 2 (gCons (gName 3) (gCons (gName 4) gNil))))
    (tRet (tLc (iRng1 (tCons (tCall (sp_l_take T) [] E0 (tCons (tVar 0) (tCons (tOp (rAddU K) (tVar 1) (tC (.int 1))) tNil))) tNil)) (gName 5) tYes (tIf (tTest (tOp (rEqU K) (tVar 3) (tC (.int 0)))) (tCall (sp_l_take T) [] E0 (tCons (tVar 0) (tCons (tC (.int 256)) tNil))) (tCall (sp_l_of T) [] E0 (tCons (tVar 0) (tCons (tVar 4) tNil)))) [5]))))

theorem pure_l_bytes (T : Txt K mg) (vs : List V) (H : Hp) (Q : VK) (E : XK) (h : sp_l_bytes T vs H Q E) : t_l_bytes T { nx := fun _ H' => Q .non H', rt := Q } (start ["_law_bag_here", "_law_most", "_law_few", "_law_way", "_law_some", "_law_k"] vs) H := by
  obtain ⟨b, k, n, rfl, hB, hk, q⟩ := h
  unfold t_l_bytes
  walk_at "rd"
  refine And.intro (by show 14 ≤ sizeLine; decide) ?_
  intro p np
  generalize hg : upd _ p _ = H1
  have s1 := same_of hg np
  have v1 := at_of hg
  clear hg
  have hB1 := hB.same s1
  have npb : p ≠ b := hB.ne np
  walk_at "rd"
  refine ⟨b, 4, n + 999, rfl, hB1, by decide, by decide, fun way H2 r0 r1 hB2 s2 => ?_⟩
  have v2 := s2 _ _ npb v1
  walk_at "rd"
  refine ⟨b, 10, n + 998, rfl, hB2, by decide, by decide, fun r H3 r0 r1 hB3 s3 => ?_⟩
  obtain ⟨m, rfl⟩ : ∃ m : Nat, r = m := ⟨r.toNat, by omega⟩
  have v3 : H3 p = some (.lst (few.map V.int)) := s3 _ _ npb v2
  walk_at "rd"
  refine r_slUL (ql v3) fun l nl => ?_
  rw [cutV_drop (k := m) (by show m ≤ 14; omega), ← List.map_drop]
  generalize hg4 : upd _ l _ = H4
  have s4 := same_of hg4 nl
  have v4 := at_of hg4
  clear hg4
  have nlb : l ≠ b := hB3.ne nl
  walk_at "rd"
  refine And.intro (two_l rfl) ?_
  intro t nt
  generalize hg5 : upd _ t _ = H5
  have s5 := same_of hg5 nt
  have v5 := at_of hg5
  clear hg5
  have hB5 := (hB3.same s4).same s5
  have S5 : SameB b H H5 := (toB s1).trans (s2.trans (s3.trans (toB (s4.trans s5))))
  have vl5 := s5 _ _ v4
  walk_at "rd"
  refine ⟨b, (k : Int) + 1, n + 997, rfl, hB5.mono (by omega), by omega, by omega, fun r2 H6 r20 r21 hB6 s6 => ?_⟩
  obtain ⟨cnt, rfl⟩ : ∃ j : Nat, r2 = j := ⟨r2.toNat, by omega⟩
  have vl6 := s6 _ _ nlb vl5
  walk_at "rd"
  refine r_one ⟨by omega, by omega⟩ fun D hD => ?_
  have nD : D ≠ b := hB6.ne hD
  have lD : l ≠ D := ne_of_none vl6 hD
  refine c_it (walk_range (lo := 0) (n := cnt)) (fun i G => ∃ acc : List Int, acc.length = i ∧ Byts acc ∧ G D = some (.lst (acc.map V.int)) ∧ SameB b H6 G ∧ BagAt G b (n + (997 - i)) ∧ G l = some (.lst ((few.drop m).map V.int)))
    ⟨[], rfl, fun x hx => absurd hx List.not_mem_nil, upd_same, toB (same_new hD), hB6.same (same_new hD), (same_new hD) _ _ vl6⟩ (fun _ _ _ _ => trivial) ?_ ?_
  · rintro i x G G' hi ⟨acc, el, hd, hG, hsb, hb, hl⟩ ⟨rfl, rfl⟩
    have fin : ∀ (z : Int) (G2 : Hp), 0 ≤ z → z ≤ 255 → BagAt G2 b (n + (997 - (i + 1))) → SameB b G' G2 → ∃ acc0, G2 D = some (.lst acc0) ∧ acc0.length < sizeLine ∧
        ∃ acc : List Int, acc.length = i + 1 ∧ Byts acc ∧ upd G2 D (.lst (acc0 ++ [.int z])) D = some (.lst (acc.map V.int)) ∧ SameB b H6 (upd G2 D (.lst (acc0 ++ [.int z]))) ∧ BagAt (upd G2 D (.lst (acc0 ++ [.int z]))) b (n + (997 - (i + 1))) ∧ upd G2 D (.lst (acc0 ++ [.int z])) l = some (.lst ((few.drop m).map V.int)) := by
      intro z G2 z0 z1 hb3 hs3
      refine ⟨_, hs3 _ _ nD hG, by rw [List.length_map, el]; exact Nat.lt_of_lt_of_le hi (smallS (by omega)), acc ++ [z], by simp [el], ?_, by rw [upd_same, List.map_append]; rfl, ?_, hb3.upd nD, ?_⟩
      · intro y hy
        rcases List.mem_append.mp hy with h | h
        · exact hd y h
        · rw [List.mem_singleton.mp h]; exact ⟨z0, z1⟩
      · exact sameB_mut (hsb.trans hs3) hD
      · rw [upd_ne lD]
        exact hs3 _ _ nlb hl
    walk_at "rd"
    refine ⟨rfl, ?_⟩
    walk_at "rd"
    refine r_iteD (fun h => ?_) (fun h => ?_)
    · walk_at "rd"
      refine ⟨b, 256, n + (997 - (i + 1)), rfl, hb.mono (by omega), by decide, by decide, fun z G2 z0 z1 hb3 hs3 => ?_⟩
      exact fin z G2 z0 (by omega) hb3 hs3
    · walk_at "rd"
      have fl : (few.drop m).length = 14 - m := by rw [List.length_drop]; rfl
      refine ⟨b, l, _, n + (997 - (i + 1)), rfl, ql hl, nlb, hb.mono (by omega), by rw [List.length_map, fl]; omega, by rw [List.length_map, fl]; omega, fun j x G2 hx hb3 hs3 => ?_⟩
      obtain ⟨z, hz, rfl⟩ := at_int hx
      have bz := few_byts z (List.mem_of_mem_drop (List.mem_of_getElem? hz))
      exact fin z G2 bz.1 bz.2 hb3 hs3
  · rintro G ⟨acc, el, hd, hG, hs, hb, _⟩
    have S6 := S5.trans s6
    exact q D acc G hd (by omega) (S6.free nD hD) hG (S6.trans hs) (hb.mono (by omega))
theorem ok_l_bytes (T : Txt K mg) : FnOk P w K mg base CX0 3 T.l_bytes_a T.l_bytes_d ["_law_bag_here", "_law_most"] (sp_l_bytes T) := by
  refine T.l_bytes_f.ok sc_l_bytes (fun vs H Q E h => len_l_bytes T vs H Q E h) (fun cdv A outer s H vs Q E hr h => ⟨t_l_bytes T, PSs.nox ?_, pure_l_bytes T vs H Q E h⟩)
  have hu := hu64 hr
  exact (pss_cons (ps_set (i := 2) sc_l_bytes.nd rfl (.inl rfl) (pe_lst (pa_cons pe_int (pa_cons pe_int (pa_cons pe_int (pa_cons pe_int (pa_cons pe_int (pa_cons pe_int (pa_cons pe_int (pa_cons pe_int (pa_cons pe_int (pa_cons pe_int (pa_cons pe_int (pa_cons pe_int (pa_cons pe_int (pa_cons pe_int pa_nil))))))))))))))))
      (pss_cons (ps_asg (pe_tup (pa_cons (pe_call (ok_l_take T) (hr.mono (by decide)) (by rfl) T.l_take_g T.l_take_f.kp T.l_take_b .nil pass0 (pa_cons (pv 0) (pa_cons pe_int pa_nil))) (pa_cons (pe_slice sl_U (pv 2) (po_some (pe_call (ok_l_take T) (hr.mono (by decide)) (by rfl) T.l_take_g T.l_take_f.kp T.l_take_b .nil pass0 (pa_cons (pv 0) (pa_cons pe_int pa_nil)))) po_none) pa_nil))) (pg_tup (by rfl) (pgs_cons (pg_name (i := 3) sc_l_bytes.nd rfl (.inr rfl)) (pgs_cons (pg_name (i := 4) sc_l_bytes.nd rfl (.inr rfl)) pgs_nil))))
      (pss_one (ps_ret (pe_lc (own := [("_law_k", 5)]) (g := (gName 5)) (tt := tYes) rfl sc_l_bytes.nd (pi_range1 (by rfl) T.n_range (pa_cons (pe_call (ok_l_take T) (hr.mono (by decide)) (by rfl) T.l_take_g T.l_take_f.kp T.l_take_b .nil pass0 (pa_cons (pv 0) (pa_cons (pe_op op_addU (pv 1) pe_int) pa_nil))) pa_nil)) (blkOk_by (own := [("_law_k", 5)]) (N := ["_law_bag_here", "_law_most", "_law_few", "_law_way", "_law_some", "_law_k"]) (sc := defScope s_l_bytes) (by decide +kernel)) (fun _ _ _ _ _ => (pg_name (i := 5) sc_l_bytes.nd rfl (.inl rfl))) (fun _ _ _ _ _ => pts_nil) (fun _ _ _ _ _ => (pe_ifExp (pt_cmpR (op_eqU hu) (pv 3) pe_int (nomark _)) (pe_call (ok_l_take T) (hr.mono (by decide)) (by rfl) T.l_take_g T.l_take_f.kp T.l_take_b .nil pass0 (pa_cons (pv 0) (pa_cons pe_int pa_nil))) (pe_call (ok_l_of T) (hr.mono (by decide)) (by rfl) T.l_of_g T.l_of_f.kp T.l_of_b .nil pass0 (pa_cons (pv 0) (pa_cons (pv 4) pa_nil))))))))))


end
section
variable {w : World} {K : PySem.W.Frag} {mg : Str → Option Value} {base : Heap}
local macro_rules | `(tactic| walk_at "hcq") => `(tactic| first
  | assumption
  | ((refine WaysAt.same (H := ?xH) ?xb ?xa); (case xa => assumption); (case xb => walk_at "hcq")))
local macro_rules | `(tactic| walk_at "rd0") => `(tactic| first
  | ((with_reducible refine r_getQ (a := ?xa) (c := ?xc) ?x1 ?x2 ?_); (case x1 => rfl); (case x2 => walk_at "hcq"))
  | ((with_reducible refine r_methQ (a := ?xa) (c := ?xc) ?x1 ?x2 ?x3 ?_); (case x1 => rfl); (case x2 => walk_at "hcq"); (case x3 => exact ⟨fun _ => rfl, fun _ _ => rfl⟩))
  | (with_reducible refine r_fmtB ?_)
  | (with_reducible refine r_dget ?_)
  | (with_reducible refine r_m0 ?_)
  | (with_reducible refine r_makeK ?_)
  | (with_reducible refine r_cval ?_)
  | (with_reducible refine r_sfld ?_)
  | (with_reducible refine r_isiI ?_)
  | (with_reducible refine r_isiIB ?_)
  | (with_reducible refine r_isiBB ?_)
  | (with_reducible refine r_isiS ?_)
  | (with_reducible refine r_int1I ?_)
  | (with_reducible refine r_int1B ?_))

local macro_rules | `(tactic| walk_at "hcr") => `(tactic| first
  | assumption
  | ((refine RulesAt.same (H := ?xH) ?xb ?xa); (case xa => assumption); (case xb => walk_at "hcr")))
local macro_rules | `(tactic| walk_at "rd0") => `(tactic| first
  | ((with_reducible refine r_getR (a := ?xa) (r := ?xr) ?x1 ?x2 ?_); (case x1 => rfl); (case x2 => walk_at "hcr")))

set_option hygiene false in
local macro_rules | `(tactic| walk_at "n1") => `(tactic| (refine And.intro (by walk_at "sz") ?_; intro p1 np1; generalize hg : upd _ p1 _ = H1; have s1 := same_of hg np1; have v1 := at_of hg; clear hg))
set_option hygiene false in
local macro_rules | `(tactic| walk_at "n2") => `(tactic| (refine And.intro (by walk_at "sz") ?_; intro p2 np2; generalize hg : upd _ p2 _ = H2; have s2 := same_of hg np2; have v2 := at_of hg; clear hg))
set_option hygiene false in
local macro_rules | `(tactic| walk_at "n3") => `(tactic| (refine And.intro (by walk_at "sz") ?_; intro p3 np3; generalize hg : upd _ p3 _ = H3; have s3 := same_of hg np3; have v3 := at_of hg; clear hg))
set_option hygiene false in
local macro_rules | `(tactic| walk_at "n4") => `(tactic| (refine And.intro (by walk_at "sz") ?_; intro p4 np4; generalize hg : upd _ p4 _ = H4; have s4 := same_of hg np4; have v4 := at_of hg; clear hg))

/-! ### items as the law reckons them -/
theorem hexD_at {k : Nat} (h : k < 16) : atI (Str.ofString "0123456789ABCDEF").cps.toList (k : Int) = some (hexSign k) := by
  have h : ∀ k : Nat, k < 16 → (Str.ofString "0123456789ABCDEF").cps.toList[k]? = some (hexSign k) := by decide +kernel
  exact atI_nat (h k ‹_›)
def sp_l_capitals (T : Txt K mg) : Sp := fun vs H Q _ => ∃ n : Nat, vs = [.int n] ∧ n < 256 ∧ Q (.str (tx [hexSign (n / 16), hexSign (n % 16)])) H
theorem len_l_capitals (T : Txt K mg) (vs : List V) (H : Hp) (Q : VK) (E : XK) (h : sp_l_capitals T vs H Q E) : vs.length = 1 := by
  obtain ⟨_, rfl, _⟩ := h
  rfl
def t_l_capitals (T : Txt K mg) : TS := (tRet (tOp (rAddU K) (tOp (rIx K) (tC (.str (Str.ofString "0123456789ABCDEF"))) (tOp rFdivI (tVar 0) (tC (.int 16)))) (tOp (rIx K) (tC (.str (Str.ofString "0123456789ABCDEF"))) (tOp rModI (tVar 0) (tC (.int 16))))))

theorem pure_l_capitals (T : Txt K mg) (vs : List V) (H : Hp) (Q : VK) (E : XK) (h : sp_l_capitals T vs H Q E) : t_l_capitals T { nx := fun _ H' => Q .non H', rt := Q } (start ["_law_byte"] vs) H := by
  obtain ⟨n, rfl, hn, q⟩ := h
  unfold t_l_capitals
  walk_at "rd"
  have e1 : (n : Int).fdiv 16 = ((n / 16 : Nat) : Int) := by
    rw [Int.fdiv_eq_ediv_of_nonneg _ (by decide), Int.natCast_ediv]; rfl
  have e2 : (n : Int).fmod 16 = ((n % 16 : Nat) : Int) := by
    rw [Int.fmod_eq_emod_of_nonneg _ (by decide), Int.natCast_emod]; rfl
  rw [e1]
  refine r_ixS (smallS (by decide)) (hexD_at (by omega)) ?_
  walk_at "rd"
  rw [e2]
  refine r_ixS (smallS (by decide)) (hexD_at (by omega)) ?_
  refine r_addUS (smallS (by show 1 + 1 ≤ 100000; decide)) ?_
  exact q
theorem ok_l_capitals (T : Txt K mg) : FnOk P w K mg base CX0 1 T.l_capitals_a T.l_capitals_d ["_law_byte"] (sp_l_capitals T) := by
  refine T.l_capitals_f.ok sc_l_capitals (fun vs H Q E h => len_l_capitals T vs H Q E h) (fun cdv A outer s H vs Q E hr h => ⟨t_l_capitals T, PSs.nox ?_, pure_l_capitals T vs H Q E h⟩)
  have hu := hu64 hr
  exact (pss_one (ps_ret (pe_op op_addU (pe_ix ix_seq pe_str (pe_op op_fdivN (pv 0) pe_int) (fun _ _ => rfl)) (pe_ix ix_seq pe_str (pe_op op_modN (pv 0) pe_int) (fun _ _ => rfl)))))

theorem alls_at {n : Nat} (h : Sg n) : alls[n - 33 - if 37 < n then 1 else 0]? = some n := by
  have h' : ∀ m : Nat, m < 127 → 33 ≤ m → m ≠ 37 → alls[m - 33 - if 37 < m then 1 else 0]? = some m := by decide +kernel
  unfold Sg at h
  exact h' n (by omega) h.1 h.2.2
def sp_l_item (T : Txt K mg) : Sp := fun vs H Q _ => ∃ p c, ∃ n : Nat, vs = [.ref p, .int n] ∧ TupQ H p c ∧ c.Ok ∧ n < 256 ∧ c.isNl n = false ∧ Q (.str (tx (c.item n))) H
theorem len_l_item (T : Txt K mg) (vs : List V) (H : Hp) (Q : VK) (E : XK) (h : sp_l_item T vs H Q E) : vs.length = 2 := by
  obtain ⟨_, _, _, rfl, _⟩ := h
  rfl
def t_l_item (T : Txt K mg) : TS := (tSeq (tAsg (tCall (sp_l_all_signs T) [] E0 tNil) (gName 2))
    (tSeq (tIfS (tTest (tOp (rEqU K) (tVar 1) (tC (.int 32)))) (tRet (tC (.str (Str.ofString " ")))) tNext)
    (tSeq (tIfS (tOr (tTest (tOp rLtI (tVar 1) (tC (.int 33)))) (tOr (tTest (tOp rGtI (tVar 1) (tC (.int 126)))) (tOr (tTest (tOp (rEqU K) (tVar 1) (tC (.int 37)))) (tTest (tOp (rEqU K) (tVar 1) (tC (.int 61))))))) (tRet (tOp (rAddU K) (tC (.str (Str.ofString "="))) (tCall (sp_l_capitals T) [] E0 (tCons (tVar 1) tNil)))) tNext)
    (tSeq (tAsg (tOp (rIx K) (tVar 2) (tOp rSubI (tOp rSubI (tVar 1) (tC (.int 33))) (tCB rInt1 (tCons (tOp rGtI (tVar 1) (tC (.int 37))) tNil)))) (gName 3))
    (tRet (tIf (tTest (tOp (rInU K) (tVar 3) (tOp (rIx K) (tVar 0) (tC (.int 2))))) (tOp (rAddU K) (tC (.str (Str.ofString "="))) (tCall (sp_l_capitals T) [] E0 (tCons (tVar 1) tNil))) (tVar 3)))))))

theorem pure_l_item (T : Txt K mg) (vs : List V) (H : Hp) (Q : VK) (E : XK) (h : sp_l_item T vs H Q E) : t_l_item T { nx := fun _ H' => Q .non H', rt := Q } (start ["_law_code", "_law_byte", "_law_signs", "_law_sign"] vs) H := by
  obtain ⟨p, c, n, rfl, hp, ok, hn, hN, q⟩ := h
  unfold TupQ at hp
  unfold t_l_item
  unfold QD.item at q
  rw [if_neg (by rw [hN]; exact Bool.false_ne_true)] at q
  walk_at "rd"
  refine ⟨rfl, ?_⟩
  walk_at "rd"
  refine r_iteD (fun h1 => ?_) (fun h1 => ?_)
  · rw [if_pos (.inl (by omega))] at q
    walk_at "rd"
    rw [show n = 32 by omega] at q
    exact q
  have esc : ¬ c.plain n → Q (.str (tx (hx n))) H := fun hp => by rw [if_neg hp] at q; exact q
  have esc2 : (n < 33 ∨ 126 < n ∨ n = 37 ∨ n = 61) → Q (.str (tx (hx n))) H := fun z => esc fun w => by
    rcases w with w | w
    · omega
    · have := w.1
      have := w.2.1
      unfold Sg at *
      omega
  have cap : (n < 33 ∨ 126 < n ∨ n = 37 ∨ n = 61) → ∀ v3, tRet (tOp (rAddU K) (tC (.str (Str.ofString "="))) (tCall (sp_l_capitals T) [] E0 (tCons (tVar 1) tNil))) { nx := fun _ H' => Q .non H', rt := Q } [some (.ref p), some (.int (n : Nat)), some (.str (tx alls)), v3] H := by
    intro z v3
    walk_at "rd"
    refine ⟨n, rfl, hn, ?_⟩
    refine r_addUS (smallS (by rw [esc_tx, tx_len, tx_len]; show 1 + 2 ≤ 100000; decide)) ?_
    rw [esc_tx, tx_app]
    exact esc2 z
  walk_at "rd"
  refine r_iteD (fun h2 => ?_) (fun h2 => ?_)
  · refine r_iteT ?_
    exact cap (.inl (by omega)) _
  walk_at "rd"
  refine r_iteD (fun h3 => ?_) (fun h3 => ?_)
  · refine r_iteT ?_
    exact cap (.inr (.inl (by omega))) _
  walk_at "rd"
  refine r_iteD (fun h4 => ?_) (fun h4 => ?_)
  · refine r_iteT ?_
    exact cap (.inr (.inr (.inl (by omega)))) _
  walk_at "rd"
  refine r_iteD (fun h5 => ?_) (fun h5 => ?_)
  · exact cap (.inr (.inr (.inr (by omega)))) _
  have hs : Sg n := by unfold Sg; omega
  walk_at "rd"
  have e : ((n : Int) - 33 - if decide (37 < (n : Int)) = true then 1 else 0) = ((n - 33 - if 37 < n then 1 else 0 : Nat) : Int) := by
    unfold Sg at hs
    by_cases g : 37 < n
    · rw [if_pos (by simp; omega), if_pos g]
      omega
    · rw [if_neg (by simp; omega), if_neg g]
      omega
  rw [e]
  refine r_ixS (c := n) (smallS (by rw [tx_len, alls_len]; decide)) (by rw [tx_list]; exact atI_nat (alls_at hs)) ?_
  walk_at "rd"
  refine r_inS ⟨n, tx c.also, rfl, rfl, ?_⟩
  rw [tx_list]
  walk_at "rd"
  refine r_iteD (fun h6 => ?_) (fun h6 => ?_)
  · walk_at "rd"
    refine ⟨n, rfl, hn, ?_⟩
    refine r_addUS (smallS (by rw [esc_tx, tx_len, tx_len]; show 1 + 2 ≤ 100000; decide)) ?_
    rw [esc_tx, tx_app]
    exact esc fun z => by
      rcases z with z | z
      · omega
      · exact z.2.2 h6
  · rw [if_pos (.inr ⟨hs, by omega, h6⟩)] at q
    walk_at "rd"
    exact q
theorem ok_l_item (T : Txt K mg) : FnOk P w K mg base CX0 2 T.l_item_a T.l_item_d ["_law_code", "_law_byte"] (sp_l_item T) := by
  refine T.l_item_f.ok sc_l_item (fun vs H Q E h => len_l_item T vs H Q E h) (fun cdv A outer s H vs Q E hr h => ⟨t_l_item T, PSs.nox ?_, pure_l_item T vs H Q E h⟩)
  have hu := hu64 hr
  exact (pss_cons (ps_set (i := 2) sc_l_item.nd rfl (.inl rfl) (pe_call0 (ok_l_all_signs T) (hr.mono (by decide)) (by rfl) T.l_all_signs_g T.l_all_signs_f.kp T.l_all_signs_b .nil pass0))
      (pss_cons (ps_if (pt_cmpR (op_eqU hu) (pv 1) pe_int (nomark _)) (pss_one (ps_ret pe_str)) pss_nil)
      (pss_cons (ps_if (PW.pt (pw_or (pt_cmpR op_lt (pv 1) pe_int (nomark _)) (pw_or (pt_cmpR op_gt (pv 1) pe_int (nomark _)) (pw_or (pt_cmpR (op_eqU hu) (pv 1) pe_int (nomark _)) (pw_or1 (pt_cmpR (op_eqU hu) (pv 1) pe_int (nomark _))))))) (pss_one (ps_ret (pe_op op_addU pe_str (pe_call (ok_l_capitals T) (hr.mono (by decide)) (by rfl) T.l_capitals_g T.l_capitals_f.kp T.l_capitals_b .nil pass0 (pa_cons (pv 1) pa_nil))))) pss_nil)
      (pss_cons (ps_set (i := 3) sc_l_item.nd rfl (.inl rfl) (pe_ix ix_seq (pv 2) (pe_op op_sub (pe_op op_sub (pv 1) pe_int) (pe_callTy call_int1 (by rfl) T.n_int (by decide +kernel) (pa_cons (pe_cmpR op_gt (pv 1) pe_int (nomark _)) pa_nil))) (fun _ _ => rfl)))
      (pss_one (ps_ret (pe_ifExp (pt_cmpR op_inU (pv 3) (pe_ix ix_seq (pv 0) pe_int (fun _ _ => rfl)) (by rfl)) (pe_op op_addU pe_str (pe_call (ok_l_capitals T) (hr.mono (by decide)) (by rfl) T.l_capitals_g T.l_capitals_f.kp T.l_capitals_b .nil pass0 (pa_cons (pv 1) pa_nil))) (pv 3))))))))

def TxL (H : Hp) (r : Addr) (l : List (List Nat)) : Prop := H r = some (.lst ((l.map tx).map V.str))
def LnsAt (H : Hp) : List Addr → List (List Nat) → Prop
  | [], [] => True
  | a :: as, l :: ls => H a = some (.lst (l.map nv)) ∧ LnsAt H as ls
  | _, _ => False
theorem LnsAt.same {H H' : Hp} (s : ∀ a o, H a = some o → H' a = some o) : ∀ {as ls}, LnsAt H as ls → LnsAt H' as ls
  | [], [], _ => trivial
  | _ :: _, _ :: _, ⟨h1, h2⟩ => ⟨s _ _ h1, LnsAt.same s h2⟩
theorem LnsAt.upd {H : Hp} {p : Addr} {o : HO} : ∀ {as ls}, p ∉ as → LnsAt H as ls → LnsAt (upd H p o) as ls
  | [], [], _, _ => trivial
  | a :: as, _ :: _, n, ⟨h1, h2⟩ => ⟨(upd_ne fun z => n (by rw [z]; exact List.mem_cons_self ..)).trans h1, LnsAt.upd (fun z => n (List.mem_cons_of_mem _ z)) h2⟩
theorem LnsAt.snoc {H : Hp} {a : Addr} {l : List Nat} (h : H a = some (.lst (l.map nv))) : ∀ {as ls}, LnsAt H as ls → LnsAt H (as ++ [a]) (ls ++ [l])
  | [], [], _ => ⟨h, trivial⟩
  | _ :: _, _ :: _, ⟨h1, h2⟩ => ⟨h1, LnsAt.snoc h h2⟩
theorem LnsAt.mem {H : Hp} {a : Addr} : ∀ {as ls}, LnsAt H as ls → a ∈ as → ∃ o, H a = some o
  | b :: _, _ :: _, ⟨h1, h2⟩, hm => by
    rcases List.mem_cons.mp hm with rfl | hm
    · exact ⟨_, h1⟩
    · exact LnsAt.mem h2 hm
theorem LnsAt.len {H : Hp} : ∀ {as ls}, LnsAt H as ls → as.length = ls.length
  | [], [], _ => rfl
  | _ :: _, _ :: _, ⟨_, h2⟩ => by rw [List.length_cons, List.length_cons, LnsAt.len h2]
theorem LnsAt.get {H : Hp} : ∀ {as ls} {i : Nat} {a : Addr}, LnsAt H as ls → as[i]? = some a → ∃ l, ls[i]? = some l ∧ H a = some (.lst (l.map nv))
  | _ :: _, l :: _, 0, a, ⟨h1, _⟩, e => ⟨l, rfl, by rw [← Option.some.inj e]; exact h1⟩
  | _ :: _, _ :: _, i + 1, a, ⟨_, h2⟩, e => LnsAt.get (i := i) h2 e
/-- lines done and the line under way, and what comes -/
def glue (done : List (List Nat)) (cur : List Nat) (r : List (List Nat)) : List (List Nat) := done ++ (cur ++ r.headD []) :: r.tail
theorem glue_nl {nl : Nat → Bool} {done : List (List Nat)} {cur : List Nat} {n : Nat} {r : List Nat} (h : nl n = true) : glue done cur (QT.lns nl (n :: r)) = glue (done ++ [cur]) [] (QT.lns nl r) := by
  obtain ⟨l, ls, e⟩ := List.exists_cons_of_ne_nil (QT.lns_ne (nl := nl) r)
  unfold glue
  simp only [QT.lns]
  rw [if_pos h, e]
  simp
theorem glue_on {nl : Nat → Bool} {done : List (List Nat)} {cur : List Nat} {n : Nat} {r : List Nat} (h : ¬ nl n = true) : glue done cur (QT.lns nl (n :: r)) = glue done (cur ++ [n]) (QT.lns nl r) := by
  obtain ⟨l, ls, e⟩ := List.exists_cons_of_ne_nil (QT.lns_ne (nl := nl) r)
  unfold glue
  simp only [QT.lns]
  rw [if_neg h, e]
  simp
def nats (xs : List Int) : List Nat := xs.map Int.toNat
def sp_l_lines (T : Txt K mg) : Sp := fun vs H Q _ => ∃ p d c, ∃ xs : List Int, vs = [.ref p, .ref d] ∧ TupQ H p c ∧ H d = some (.lst (xs.map V.int)) ∧ xs.length ≤ 600 ∧ Byts xs ∧
  ∀ r as H', Same H H' → H' r = some (.lst (as.map V.ref)) → LnsAt H' as (QT.lns c.isNl (nats xs)) → as.length ≤ 601 → Q (.ref r) H'
theorem len_l_lines (T : Txt K mg) (vs : List V) (H : Hp) (Q : VK) (E : XK) (h : sp_l_lines T vs H Q E) : vs.length = 2 := by
  obtain ⟨_, _, _, _, rfl, _⟩ := h
  rfl
def t_l_lines (T : Txt K mg) : TS := (tSeq (tAsg (tLst (tCons (tLst tNil) tNil)) (gName 2))
    (tSeq (tFor (iSeqU K (tVar 1)) (gName 3) (tIfS (tAnd (tTest (tOp (rEqU K) (tVar 3) (tC (.int 10)))) (tNot (tB (tOp (rIx K) (tVar 0) (tC (.int 1)))))) (tDrop (tBM K "list" rAppend (tVar 2) (tCons (tLst tNil) tNil))) (tDrop (tBM K "list" rAppend (tOp (rIx K) (tVar 2) (tUn rNegI (tC (.int 1)))) (tCons (tVar 3) tNil)))))
    (tRet (tVar 2))))

theorem pure_l_lines (T : Txt K mg) (vs : List V) (H : Hp) (Q : VK) (E : XK) (h : sp_l_lines T vs H Q E) : t_l_lines T { nx := fun _ H' => Q .non H', rt := Q } (start ["_law_code", "_law_data", "_law_found", "_law_byte"] vs) H := by
  obtain ⟨p, d, c, xs, rfl, hp, hd, hl, hx, q⟩ := h
  unfold TupQ at hp
  unfold t_l_lines
  walk_at "rd"
  refine And.intro (Nat.zero_le _) ?_
  intro a0 na0
  generalize hg : upd _ a0 _ = H1
  have s1 := same_of hg na0
  have v1 := at_of hg
  clear hg
  walk_at "rd"
  refine And.intro (by show 1 ≤ sizeLine; decide) ?_
  intro r nr
  generalize hg2 : upd _ r _ = H2
  have s2 := same_of hg2 nr
  have v2 := at_of hg2
  clear hg2
  have ra0 : a0 ≠ r := ne_of_none v1 nr
  have hd2 := s2 _ _ (s1 _ _ hd)
  have nr0 : H r = none := s1.free nr
  walk_at "rd"
  refine r_iseqL ?_
  walk_at "rd"
  refine ⟨d, rfl, ⟨_, ql hd2⟩, ?_⟩
  refine f_it (walk_list (K := K) (a := d) (xs := xs.map V.int)) (fun i σ G => ∃ (das : List Addr) (ca : Addr) (done : List (List Nat)) (cur : List Nat), ∃ v3, σ = [some (.ref p), some (.ref d), some (.ref r), v3] ∧ Same H G ∧ H ca = none ∧
      G r = some (.lst ((das ++ [ca]).map V.ref)) ∧ r ≠ ca ∧ ca ∉ das ∧ r ∉ das ∧ LnsAt G das done ∧ G ca = some (.lst (cur.map nv)) ∧ glue done cur (QT.lns c.isNl (nats (xs.drop i))) = QT.lns c.isNl (nats xs) ∧ das.length ≤ i ∧ cur.length ≤ i)
    ⟨[], a0, [], [], none, rfl, s1.trans s2, na0, v2, ra0.symm, List.not_mem_nil, List.not_mem_nil, trivial, s2 _ _ v1, by
      obtain ⟨l, ls, e⟩ := List.exists_cons_of_ne_nil (QT.lns_ne (nl := c.isNl) (nats xs))
      rw [List.drop_zero, e]
      rfl, Nat.le_refl _, Nat.le_refl _⟩ (fun i σ G _ h => by
      obtain ⟨_, _, _, _, _, _, s, _⟩ := h
      exact ql (s _ _ hd)) ?_ ?_
  · rintro i x σ G0 G hi ⟨das, ca, done, cur, v3, rfl, sG, nca, hr, rca, cd, rd, hL, hc, he, hdl, hcl⟩ ⟨rfl, hx'⟩
    obtain ⟨z, hz, rfl⟩ := at_int hx'
    have bz := hx z (List.mem_of_getElem? hz)
    obtain ⟨n, rfl⟩ : ∃ n : Nat, z = n := ⟨z.toNat, by omega⟩
    have hi' : i < xs.length := by rw [List.length_map] at hi; exact hi
    have ed : nats (xs.drop i) = n :: nats (xs.drop (i + 1)) := by
      rw [List.drop_eq_getElem_cons hi']
      unfold nats
      rw [List.map_cons]
      congr 1
      rw [Option.some.inj ((List.getElem?_eq_getElem hi').symm.trans hz), Int.toNat_natCast]
    rw [ed] at he
    have hpG := sG _ _ hp
    have more : ¬ c.isNl n = true → tDrop (tBM K "list" rAppend (tOp (rIx K) (tVar 2) (tUn rNegI (tC (.int 1)))) (tCons (tVar 3) tNil))
        { nx := fun σ' G' => ∃ (das : List Addr) (ca : Addr) (done : List (List Nat)) (cur : List Nat), ∃ v3, σ' = [some (.ref p), some (.ref d), some (.ref r), v3] ∧ Same H G' ∧ H ca = none ∧
            G' r = some (.lst ((das ++ [ca]).map V.ref)) ∧ r ≠ ca ∧ ca ∉ das ∧ r ∉ das ∧ LnsAt G' das done ∧ G' ca = some (.lst (cur.map nv)) ∧ glue done cur (QT.lns c.isNl (nats (xs.drop (i + 1)))) = QT.lns c.isNl (nats xs) ∧ das.length ≤ i + 1 ∧ cur.length ≤ i + 1, rt := Q }
        [some (.ref p), some (.ref d), some (.ref r), some (.int (n : Nat))] G := by
      intro hn
      rw [glue_on hn] at he
      have hr' : G r = some (.lst (das.map V.ref ++ [.ref ca])) := by rw [hr, List.map_append]; rfl
      walk_at "rd"
      refine ⟨1, rfl, ?_⟩
      refine r_ixL (ql hr') (atI_last _ _) ?_
      refine ⟨r_tyL (ql hc), ?_⟩
      walk_at "rd"
      refine r_append hc (by rw [List.length_map]; exact Nat.lt_of_le_of_lt (show cur.length ≤ 600 by omega) (by rw [sizeLine_eq]; decide)) ?_
      walk_at "rd"
      refine ⟨das, ca, done, cur ++ [n], _, rfl, same_mut sG nca, nca, ?_, rca, cd, rd, hL.upd cd, ?_, he, by omega, by rw [List.length_append]; show cur.length + 1 ≤ _; omega⟩
      · rw [upd_ne rca]; exact hr
      · rw [upd_same, List.map_append]; rfl
    walk_at "rd"
    refine r_iteD (fun h10 => ?_) (fun h10 => ?_)
    · walk_at "rd"
      refine r_iteB (fun hb => ?_) (fun hb => ?_)
      · have hn : c.isNl n = true := by
          unfold QD.isNl
          rw [decide_eq_true (show n = 10 by omega), Bool.true_and]
          exact hb
        rw [glue_nl hn] at he
        walk_at "rd"
        refine ⟨r_tyL (ql hr), ?_⟩
        walk_at "rd"
        refine And.intro (Nat.zero_le _) ?_
        intro b nb
        generalize hg3 : upd _ b _ = H3
        have s3 := same_of hg3 nb
        have v3 := at_of hg3
        clear hg3
        have hr3 := s3 _ _ hr
        have rb : r ≠ b := ne_of_none hr nb
        have cb : ca ≠ b := ne_of_none hc nb
        have bd : b ∉ das := fun z => by
          obtain ⟨o, ho⟩ := hL.mem z
          rw [nb] at ho
          cases ho
        walk_at "rd"
        refine r_append hr3 (by rw [List.length_map, List.length_append]; exact Nat.lt_of_le_of_lt (show das.length + 1 ≤ 601 by omega) (by rw [sizeLine_eq]; decide)) ?_
        walk_at "rd"
        refine ⟨das ++ [ca], b, done ++ [cur], [], _, rfl, same_mut (sG.trans s3) nr0, sG.free nb, ?_, rb, ?_, ?_, ?_, ?_, he, by rw [List.length_append]; show das.length + 1 ≤ _; omega, Nat.zero_le _⟩
        · rw [upd_same, List.map_append (l₂ := [b])]; rfl
        · intro z
          rcases List.mem_append.mp z with z | z
          · exact bd z
          · exact cb (List.mem_singleton.mp z).symm
        · intro z
          rcases List.mem_append.mp z with z | z
          · exact rd z
          · exact rca (List.mem_singleton.mp z)
        · refine LnsAt.upd ?_ (LnsAt.snoc (s3 _ _ hc) (hL.same s3))
          intro z
          rcases List.mem_append.mp z with z | z
          · exact rd z
          · exact rca (List.mem_singleton.mp z)
        · rw [upd_ne (Ne.symm rb)]; exact v3
      · refine more fun z => ?_
        unfold QD.isNl at z
        rw [hb, Bool.and_false] at z
        cases z
    · refine more fun z => ?_
      unfold QD.isNl at z
      rw [decide_eq_false (show ¬ n = 10 by omega), Bool.false_and] at z
      cases z
  · rintro σ G ⟨das, ca, done, cur, v3, rfl, sG, nca, hr, rca, cd, rd, hL, hc, he, hdl, hcl⟩
    rw [List.length_map] at he hdl
    rw [List.drop_of_length_le (Nat.le_refl _)] at he
    have e2 : done ++ [cur] = QT.lns c.isNl (nats xs) := by
      rw [← he]
      unfold glue
      simp [nats, QT.lns]
    walk_at "rd"
    refine q r (das ++ [ca]) G sG hr ?_ (by rw [List.length_append]; show das.length + 1 ≤ _; omega)
    rw [← e2]
    exact hL.snoc hc
theorem ok_l_lines (T : Txt K mg) : FnOk P w K mg base CX0 1 T.l_lines_a T.l_lines_d ["_law_code", "_law_data"] (sp_l_lines T) := by
  refine T.l_lines_f.ok sc_l_lines (fun vs H Q E h => len_l_lines T vs H Q E h) (fun cdv A outer s H vs Q E hr h => ⟨t_l_lines T, PSs.nox ?_, pure_l_lines T vs H Q E h⟩)
  have hu := hu64 hr
  exact (pss_cons (ps_set (i := 2) sc_l_lines.nd rfl (.inl rfl) (pe_lst (pa_cons (pe_lst pa_nil) pa_nil)))
      (pss_cons (ps_for PassesOwn.never rfl (pi_seqU (pv 1)) (pg_name (i := 3) sc_l_lines.nd rfl (.inl rfl)) (pss_one (ps_if (PW.pt (pw_and (pt_cmpR (op_eqU hu) (pv 3) pe_int (nomark _)) (pw_and1 (pt_not (pt_val (pe_ix ix_seq (pv 0) pe_int (fun _ _ => rfl))))))) (pss_one (ps_expr (pe_bm PySem.F.plainAttrs_list PySem.F.slot_list_append PySem.F.type_list_append mt_append (pv 2) (pa_cons (pe_lst pa_nil) pa_nil)))) (pss_one (ps_expr (pe_bm PySem.F.plainAttrs_list PySem.F.slot_list_append PySem.F.type_list_append mt_append (pe_ix ix_seq (pv 2) (pe_un un_neg pe_int) (fun _ _ => rfl)) (pa_cons (pv 3) pa_nil)))))))
      (pss_one (ps_ret (pv 2)))))


end
section
variable {w : World} {K : PySem.W.Frag} {mg : Str → Option Value} {base : Heap}
local macro_rules | `(tactic| walk_at "hcq") => `(tactic| first
  | assumption
  | ((refine WaysAt.same (H := ?xH) ?xb ?xa); (case xa => assumption); (case xb => walk_at "hcq")))
local macro_rules | `(tactic| walk_at "rd0") => `(tactic| first
  | ((with_reducible refine r_getQ (a := ?xa) (c := ?xc) ?x1 ?x2 ?_); (case x1 => rfl); (case x2 => walk_at "hcq"))
  | ((with_reducible refine r_methQ (a := ?xa) (c := ?xc) ?x1 ?x2 ?x3 ?_); (case x1 => rfl); (case x2 => walk_at "hcq"); (case x3 => exact ⟨fun _ => rfl, fun _ _ => rfl⟩))
  | (with_reducible refine r_fmtB ?_)
  | (with_reducible refine r_dget ?_)
  | (with_reducible refine r_m0 ?_)
  | (with_reducible refine r_makeK ?_)
  | (with_reducible refine r_cval ?_)
  | (with_reducible refine r_sfld ?_)
  | (with_reducible refine r_isiI ?_)
  | (with_reducible refine r_isiIB ?_)
  | (with_reducible refine r_isiBB ?_)
  | (with_reducible refine r_isiS ?_)
  | (with_reducible refine r_int1I ?_)
  | (with_reducible refine r_int1B ?_))

local macro_rules | `(tactic| walk_at "hcr") => `(tactic| first
  | assumption
  | ((refine RulesAt.same (H := ?xH) ?xb ?xa); (case xa => assumption); (case xb => walk_at "hcr")))
local macro_rules | `(tactic| walk_at "rd0") => `(tactic| first
  | ((with_reducible refine r_getR (a := ?xa) (r := ?xr) ?x1 ?x2 ?_); (case x1 => rfl); (case x2 => walk_at "hcr")))

set_option hygiene false in
local macro_rules | `(tactic| walk_at "n1") => `(tactic| (refine And.intro (by walk_at "sz") ?_; intro p1 np1; generalize hg : upd _ p1 _ = H1; have s1 := same_of hg np1; have v1 := at_of hg; clear hg))
set_option hygiene false in
local macro_rules | `(tactic| walk_at "n2") => `(tactic| (refine And.intro (by walk_at "sz") ?_; intro p2 np2; generalize hg : upd _ p2 _ = H2; have s2 := same_of hg np2; have v2 := at_of hg; clear hg))
set_option hygiene false in
local macro_rules | `(tactic| walk_at "n3") => `(tactic| (refine And.intro (by walk_at "sz") ?_; intro p3 np3; generalize hg : upd _ p3 _ = H3; have s3 := same_of hg np3; have v3 := at_of hg; clear hg))
set_option hygiene false in
local macro_rules | `(tactic| walk_at "n4") => `(tactic| (refine And.intro (by walk_at "sz") ?_; intro p4 np4; generalize hg : upd _ p4 _ = H4; have s4 := same_of hg np4; have v4 := at_of hg; clear hg))

/-! ### rows as the law reckons them -/
theorem jn_split : ∀ (F : List (List Nat)) (a b : List Nat), KR.jn (F ++ [a ++ 10 :: b]) = KR.jn (F ++ [a, b])
  | [], a, b => by
    show a ++ 10 :: b = KR.jn [a, b]
    rw [KR.jn_cons (by simp)]
    rfl
  | x :: r, a, b => by
    have ih := jn_split r a b
    rw [List.cons_append, KR.jn_cons (by simp), ih, List.cons_append, KR.jn_cons (by simp)]
theorem item32 (c : QD) {n : Nat} (hN : c.isNl n = false) : c.item n = [32] ↔ n = 32 := by
  unfold QD.item
  rw [if_neg (by rw [hN]; exact Bool.false_ne_true)]
  by_cases h : c.plain n
  · rw [if_pos h]
    simp
  · rw [if_neg h]
    constructor
    · intro z
      have := congrArg List.length z
      simp [hx] at this
    · intro z
      exact absurd (.inl z) h
theorem item_it (c : QD) {n : Nat} (h : n < 256) (hN : c.isNl n = false) : QT.It (c.item n) := by
  unfold QD.item
  rw [if_neg (by rw [hN]; exact Bool.false_ne_true)]
  split
  · rename_i z
    refine .inl ⟨n, rfl, ?_, ?_⟩
    · rcases z with z | z
      · omega
      · exact z.2.1
    · rcases z with z | z
      · omega
      · have := z.1
        unfold Sg at this
        omega
  · refine .inr ⟨hexSign (n / 16), hexSign (n % 16), rfl, ?_, ?_, ?_⟩ <;> (unfold hexSign; split <;> omega)
theorem fixl_len : ∀ l : List (List Nat), (QT.fixl l).length = l.length
  | [] => rfl
  | [x] => rfl
  | x :: y :: r => by rw [QT.fixl_cons (by simp), List.length_cons, fixl_len (y :: r), List.length_cons (as := y :: r)]
/-- the item at a place -/
theorem fixl_at : ∀ (l : List (List Nat)) (i : Nat) (x : List Nat), l[i]? = some x → (QT.fixl l)[i]? = some (if i + 1 = l.length ∧ x = [32] then QT.h32 else x)
  | [], i, x, h => by simp at h
  | [y], 0, x, h => by
    have e : y = x := Option.some.inj h
    subst e
    simp [QT.fixl]
  | [y], i + 1, x, h => by simp at h
  | y :: z :: r, 0, x, h => by
    have e : y = x := Option.some.inj h
    subst e
    rw [QT.fixl_cons (by simp)]
    simp
  | y :: z :: r, i + 1, x, h => by
    rw [QT.fixl_cons (by simp)]
    have := fixl_at (z :: r) i x h
    rw [List.getElem?_cons_succ, this]
    simp
def sp_l_line_rows (T : Txt K mg) : Sp := fun vs H Q _ => ∃ p c d, ∃ line : List Nat, vs = [.ref p, .ref d] ∧ TupQ H p c ∧ c.Ok ∧ H d = some (.lst (line.map nv)) ∧ (∀ n ∈ line, n < 256 ∧ c.isNl n = false) ∧ line.length ≤ 600 ∧
  ∀ r R H', Same H H' → H r = none → TxL H' r R → R ≠ [] → KR.jn R = QT.lin c.wd c.item line → R.length ≤ line.length + 1 → (∀ x ∈ R, x.length ≤ 2000) → Q (.ref r) H'
theorem len_l_line_rows (T : Txt K mg) (vs : List V) (H : Hp) (Q : VK) (E : XK) (h : sp_l_line_rows T vs H Q E) : vs.length = 2 := by
  obtain ⟨_, _, _, _, rfl, _⟩ := h
  rfl
def t_l_line_rows (T : Txt K mg) : TS := (tSeq (tPar 2 3 (tCons (tLst tNil) (tCons (tC (.str (Str.ofString ""))) tNil)))
    (tSeq (tFor (iEnumU K (tCons (tVar 1) tNil)) (gTup K 2 (gCons (gName 4) (gCons (gName 5) gNil))) (tSeq (tAsg (tOp (rEqU K) (tVar 4) (tOp rSubI (tCB (rLenU K) (tCons (tVar 1) tNil)) (tC (.int 1)))) (gName 6))
    (tSeq (tAsg (tIf (tAnd (tB (tVar 6)) (tTest (tOp (rEqU K) (tVar 5) (tC (.int 32))))) (tC (.str (Str.ofString "=20"))) (tCall (sp_l_item T) [] E0 (tCons (tVar 0) (tCons (tVar 5) tNil)))) (gName 7))
    (tSeq (tIfS (tAnd (tTest (tOp rGtI (tOp (rIx K) (tVar 0) (tC (.int 0))) (tC (.int 0)))) (tTest (tOp rGtI (tOp (rAddU K) (tOp (rAddU K) (tCB (rLenU K) (tCons (tVar 3) tNil)) (tCB (rLenU K) (tCons (tVar 7) tNil))) (tCB rInt1 (tCons (tNotV (tVar 6)) tNil))) (tOp (rIx K) (tVar 0) (tC (.int 0)))))) (tSeq (tDrop (tBM K "list" rAppend (tVar 2) (tCons (tOp (rAddU K) (tVar 3) (tC (.str (Str.ofString "=")))) tNil)))
    (tAsg (tC (.str (Str.ofString ""))) (gName 3))) tNext)
    (tAsg (tOp (rAddU K) (tVar 3) (tVar 7)) (gName 3))))))
    (tRet (tOp (rAddU K) (tVar 2) (tLst (tCons (tVar 3) tNil))))))

theorem pure_l_line_rows (T : Txt K mg) (vs : List V) (H : Hp) (Q : VK) (E : XK) (h : sp_l_line_rows T vs H Q E) : t_l_line_rows T { nx := fun _ H' => Q .non H', rt := Q } (start ["_law_code", "_law_line", "_law_found", "_law_row", "_law_place", "_law_byte", "_law_is_last", "_law_item_here"] vs) H := by
  obtain ⟨p, c, d, line, rfl, hp, ok, hd, hn, hl, q⟩ := h
  have hpT := hp
  unfold TupQ at hp
  unfold t_l_line_rows
  walk_at "rd"
  refine And.intro (Nat.zero_le _) ?_
  intro r nr
  generalize hg : upd _ r _ = H1
  have s1 := same_of hg nr
  have v1 := at_of hg
  clear hg
  have hd1 := s1 _ _ hd
  walk_at "rd"
  refine r_enumL ?_
  walk_at "rd"
  refine ⟨d, _, rfl, ql hd1, ?_⟩
  have hlin : QT.lin c.wd c.item line = QT.lineW c.wd 0 (QT.fixl (line.map c.item)) := rfl
  have hil : (QT.fixl (line.map c.item)).length = line.length := by rw [fixl_len, List.length_map]
  have hat : ∀ i n, line[i]? = some n → (QT.fixl (line.map c.item))[i]? = some (if i + 1 = line.length ∧ n = 32 then QT.h32 else c.item n) := by
    intro i n hn'
    have hnn := hn n (List.mem_of_getElem? hn')
    rw [fixl_at (line.map c.item) i (c.item n) (by rw [List.getElem?_map, hn']; rfl), List.length_map]
    congr 1
    by_cases h : i + 1 = line.length ∧ n = 32
    · rw [if_pos h, if_pos ⟨h.1, (item32 c hnn.2).mpr h.2⟩]
    · rw [if_neg h, if_neg fun z => h ⟨z.1, (item32 c hnn.2).mp z.2⟩]
  generalize hits : QT.fixl (line.map c.item) = its at hlin hil hat
  refine f_it (walk_enum (K := K) (a := d) (xs := line.map nv)) (fun i σ G => ∃ (F : List (List Nat)) (ro : List Nat), ∃ v4 v5 v6 v7, σ = [some (.ref p), some (.ref d), some (.ref r), some (.str (tx ro)), v4, v5, v6, v7] ∧ Same H G ∧ TxL G r F ∧
     KR.jn (F ++ [ro ++ QT.lineW c.wd (QT.cb c.wd 0 ro.length) (its.drop i)]) = QT.lin c.wd c.item line ∧ F.length ≤ i ∧ (∀ x ∈ F, x.length ≤ 2000) ∧ ro.length ≤ 3 * i)
    ⟨[], [], none, none, none, none, rfl, s1, v1, ?_, Nat.le_refl _, (fun x hx => absurd hx List.not_mem_nil), Nat.le_refl _⟩ (fun i σ G _ h => by
      obtain ⟨_, _, _, _, _, _, _, s, _⟩ := h
      exact ql (s _ _ hd)) ?_ ?_
  · have e : QT.cb c.wd 0 ([] : List Nat).length = 0 := by unfold QT.cb; split <;> rfl
    rw [e, hlin]
    rfl
  · rintro i x σ G G' hi ⟨F, ro, v4, v5, v6, v7, rfl, sG, hF, he, hFl, hFs, hro⟩ ⟨Tp, a, b, rfl, nT, hG', ea, eb⟩
    have hsT := same_of hG'.symm nT
    have hvT := at_of hG'.symm
    clear hG'
    cases ea
    have eb : (line.map nv)[i]? = some b := eb
    rw [List.getElem?_map] at eb
    obtain ⟨n, hn', rfl⟩ := Option.map_eq_some_iff.mp eb
    have hnn := hn n (List.mem_of_getElem? hn')
    have hi' : i < line.length := by rw [List.length_map] at hi; exact hi
    have hpG := hsT _ _ (sG _ _ hp)
    have hdG := hsT _ _ (sG _ _ hd)
    have hFG : G' r = some (.lst ((F.map tx).map V.str)) := hsT _ _ hF
    have hx := hat i n hn'
    have hdr : its.drop i = (if i + 1 = line.length ∧ n = 32 then QT.h32 else c.item n) :: its.drop (i + 1) := by
      rw [List.drop_eq_getElem_cons (by omega)]
      congr 1
      exact Option.some.inj ((List.getElem?_eq_getElem (by omega)).symm.trans hx)
    walk_at "rx"
    refine r_seq ?_
    walk_at "rx"
    rw [List.length_map, show decide (((i : Nat) : Int) = ((line.length : Nat) : Int) - 1) = decide (i + 1 = line.length) from decide_eq_decide.mpr (by omega)]
    refine r_seqC (fun σ G2 => ∃ x : List Nat, σ = [some (.ref p), some (.ref d), some (.ref r), some (.str (tx ro)), some (.int (i : Nat)), some (.int (n : Nat)), some (.bl (decide (i + 1 = line.length))), some (.str (tx x))] ∧ G2 = G' ∧ x = (if i + 1 = line.length ∧ n = 32 then QT.h32 else c.item n) ∧ QT.It x) ?_ fun N tail => ?_
    · rintro σ G2 ⟨x, rfl, rfl, ex, ix⟩
      rw [← ex] at hdr
      have xl := ix.len
      have dn : its.drop (i + 1) = [] ↔ i + 1 = line.length := by
        rw [List.drop_eq_nil_iff]
        omega
      have rs : ro.length ≤ 1800 := by omega
      have cbb : QT.cb c.wd (QT.cb c.wd 0 ro.length) x.length = QT.cb c.wd 0 (ro ++ x).length := by
        unfold QT.cb
        rw [List.length_append]
        split <;> omega
      have fitE : QT.fit c.wd (QT.cb c.wd 0 ro.length) (x.length + if its.drop (i + 1) = [] then 0 else 1) = true ↔ ¬ (0 < c.wd ∧ c.wd < ro.length + x.length + if i + 1 = line.length then 0 else 1) := by
        unfold QT.fit QT.cb
        by_cases h : i + 1 = line.length
        · rw [if_pos (dn.mpr h), if_pos h]
          simp only [Bool.or_eq_true, decide_eq_true_eq]
          split <;> omega
        · rw [if_neg fun z => h (dn.mp z), if_neg h]
          simp only [Bool.or_eq_true, decide_eq_true_eq]
          split <;> omega
      have stayE : ¬ (0 < c.wd ∧ c.wd < ro.length + x.length + if i + 1 = line.length then 0 else 1) → KR.jn (F ++ [(ro ++ x) ++ QT.lineW c.wd (QT.cb c.wd 0 (ro ++ x).length) (its.drop (i + 1))]) = QT.lin c.wd c.item line := by
        intro hno
        rw [hdr, QT.lineW_cons, if_pos (fitE.mpr hno), cbb] at he
        rw [← he, List.append_assoc]
      walk_at "rd"
      refine r_iteD (fun h0 => ?_) (fun h0 => ?_)
      · walk_at "rd"
        refine r_lenUS (smallS (by rw [tx_len]; omega)) ?_
        rw [tx_len]
        walk_at "rd"
        refine r_lenUS (smallS (by rw [tx_len]; omega)) ?_
        rw [tx_len]
        walk_at "rd"
        refine r_iteD (fun h1 => ?_) (fun h1 => ?_)
        · have hb : 0 < c.wd ∧ c.wd < ro.length + x.length + if i + 1 = line.length then 0 else 1 := by
            refine ⟨by omega, ?_⟩
            by_cases h : i + 1 = line.length
            · rw [if_pos h]
              rw [decide_eq_true h] at h1
              simp at h1
              omega
            · rw [if_neg h]
              rw [decide_eq_false h] at h1
              simp at h1
              omega
          walk_at "rd"
          refine ⟨r_tyL (ql hFG), ?_⟩
          walk_at "rd"
          refine r_addUS (smallS (by rw [tx_len, esc_tx, tx_len]; show ro.length + 1 ≤ 100000; omega)) ?_
          rw [esc_tx, tx_app]
          walk_at "rd"
          refine r_append hFG (by rw [List.length_map, List.length_map]; exact Nat.lt_of_le_of_lt (show F.length ≤ 600 by omega) (by rw [sizeLine_eq]; decide)) ?_
          walk_at "rd"
          refine r_addUS (smallS (by rw [e_tx, tx_len, tx_len]; show 0 + x.length ≤ 100000; omega)) ?_
          rw [e_tx, tx_app, List.nil_append]
          walk_at "rd"
          refine ⟨F ++ [ro ++ [61]], x, _, _, _, _, rfl, same_mut (sG.trans hsT) nr, ?_, ?_, by rw [List.length_append]; show F.length + 1 ≤ _; omega, ?_, by omega⟩
          · unfold TxL
            rw [upd_same, List.map_append, List.map_append]
            rfl
          · rw [hdr, QT.lineW_cons, if_neg fun z => (fitE.mp z) hb] at he
            rw [← he]
            have e1 : QT.cb c.wd 0 x.length = x.length := by unfold QT.cb; rw [if_pos hb.1, Nat.zero_add]
            rw [e1]
            have e2 : ro ++ 61 :: 10 :: (x ++ QT.lineW c.wd x.length (its.drop (i + 1))) = (ro ++ [61]) ++ 10 :: (x ++ QT.lineW c.wd x.length (its.drop (i + 1))) := by simp
            rw [e2, jn_split]
            simp
          · intro y hy
            rcases List.mem_append.mp hy with h | h
            · exact hFs y h
            · rw [List.mem_singleton.mp h, List.length_append]
              show ro.length + 1 ≤ 2000
              omega
        · walk_at "rd"
          refine r_addUS (smallS (by rw [tx_len, tx_len]; omega)) ?_
          rw [tx_app]
          walk_at "rd"
          refine ⟨F, ro ++ x, _, _, _, _, rfl, sG.trans hsT, hFG, stayE ?_, by omega, hFs, by rw [List.length_append]; omega⟩
          intro hb
          refine h1 ?_
          have hb := hb.2
          by_cases h : i + 1 = line.length
          · rw [if_pos h] at hb
            rw [decide_eq_true h]
            simp
            omega
          · rw [if_neg h] at hb
            rw [decide_eq_false h]
            simp
            omega
      · walk_at "rd"
        refine r_addUS (smallS (by rw [tx_len, tx_len]; omega)) ?_
        rw [tx_app]
        walk_at "rd"
        refine ⟨F, ro ++ x, _, _, _, _, rfl, sG.trans hsT, hFG, stayE ?_, by omega, hFs, by rw [List.length_append]; omega⟩
        exact fun hb => h0 (by omega)
    · walk_at "rx"
      have gx : ∀ x : List Nat, x = (if i + 1 = line.length ∧ n = 32 then QT.h32 else c.item n) → QT.It x := by
        intro x e
        rw [e]
        split
        · exact QT.h32_it
        · exact item_it c hnn.1 hnn.2
      have plain : ¬ (i + 1 = line.length ∧ n = 32) → c.item n = (if i + 1 = line.length ∧ n = 32 then QT.h32 else c.item n) := fun h => (if_neg h).symm
      refine r_iteD (fun h1 => ?_) (fun h1 => ?_)
      · unfold nv
        walk_at "rx"
        refine r_iteD (fun h2 => ?_) (fun h2 => ?_)
        · have e : QT.h32 = (if i + 1 = line.length ∧ n = 32 then QT.h32 else c.item n) := (if_pos ⟨h1, by omega⟩).symm
          walk_at "rx"
          exact tail _ _ ⟨QT.h32, rfl, rfl, e, gx _ e⟩
        · have e := plain fun z => h2 (by omega)
          walk_at "rx"
          refine ⟨p, c, n, rfl, hpG, ok, hnn.1, hnn.2, ?_⟩
          walk_at "rx"
          exact tail _ _ ⟨c.item n, rfl, rfl, e, gx _ e⟩
      · have e := plain fun z => h1 z.1
        unfold nv
        walk_at "rx"
        refine ⟨p, c, n, rfl, hpG, ok, hnn.1, hnn.2, ?_⟩
        walk_at "rx"
        exact tail _ _ ⟨c.item n, rfl, rfl, e, gx _ e⟩
  · rintro σ G ⟨F, ro, v4, v5, v6, v7, rfl, sG, hF, he, hFl, hFs, hro⟩
    rw [List.length_map] at he hFl hro
    rw [List.drop_of_length_le (by omega)] at he
    have hFG : G r = some (.lst ((F.map tx).map V.str)) := hF
    walk_at "rd"
    refine And.intro (by show 1 ≤ sizeLine; decide) ?_
    intro l nl
    generalize hg : upd _ l _ = H2
    have s2 := same_of hg nl
    have v2 := at_of hg
    clear hg
    refine r_addUL (s2 _ _ hFG) v2 (by rw [List.length_map, List.length_map]; show F.length + 1 ≤ sizeLine; exact smallS (by omega)) fun o no => ?_
    walk_at "rd"
    refine q o (F ++ [ro]) _ ((sG.trans s2).trans (same_new no)) ((sG.trans s2).free no) ?_ (by simp) ?_ (by rw [List.length_append]; show F.length + 1 ≤ _; omega) ?_
    · unfold TxL
      rw [upd_same, List.map_append, List.map_append]
      rfl
    · rw [← he]
      show KR.jn (F ++ [ro]) = KR.jn (F ++ [ro ++ []])
      rw [List.append_nil]
    · intro y hy
      rcases List.mem_append.mp hy with h | h
      · exact hFs y h
      · rw [List.mem_singleton.mp h]
        omega
theorem ok_l_line_rows (T : Txt K mg) : FnOk P w K mg base CX0 3 T.l_line_rows_a T.l_line_rows_d ["_law_code", "_law_line"] (sp_l_line_rows T) := by
  refine T.l_line_rows_f.ok sc_l_line_rows (fun vs H Q E h => len_l_line_rows T vs H Q E h) (fun cdv A outer s H vs Q E hr h => ⟨t_l_line_rows T, PSs.nox ?_, pure_l_line_rows T vs H Q E h⟩)
  have hu := hu64 hr
  exact (pss_cons (ps_par (i := 2) (j := 3) (by rfl) sc_l_line_rows.nd rfl rfl (by decide) rfl rfl (pa_cons (pe_lst pa_nil) (pa_cons pe_str pa_nil)) (by rfl))
      (pss_cons (ps_for PassesOwn.never rfl (pi_enumU (by rfl) T.n_enumerate (pa_cons (pv 1) pa_nil)) (pg_tup (by rfl) (pgs_cons (pg_name (i := 4) sc_l_line_rows.nd rfl (.inl rfl)) (pgs_cons (pg_name (i := 5) sc_l_line_rows.nd rfl (.inl rfl)) pgs_nil))) (pss_cons (ps_set (i := 6) sc_l_line_rows.nd rfl (.inl rfl) (pe_cmpR (op_eqU hu) (pv 4) (pe_op op_sub (pe_callB c_lenU (by rfl) T.n_len (by decide +kernel) (pa_cons (pv 1) pa_nil)) pe_int) (nomark _)))
      (pss_cons (ps_set (i := 7) sc_l_line_rows.nd rfl (.inl rfl) (pe_ifExp (PW.pt (pw_and (pt_val (pv 6)) (pw_and1 (pt_cmpR (op_eqU hu) (pv 5) pe_int (nomark _))))) pe_str (pe_call (ok_l_item T) (hr.mono (by decide)) (by rfl) T.l_item_g T.l_item_f.kp T.l_item_b .nil pass0 (pa_cons (pv 0) (pa_cons (pv 5) pa_nil)))))
      (pss_cons (ps_if (PW.pt (pw_and (pt_cmpR op_gt (pe_ix ix_seq (pv 0) pe_int (fun _ _ => rfl)) pe_int (nomark _)) (pw_and1 (pt_cmpR op_gt (pe_op op_addU (pe_op op_addU (pe_callB c_lenU (by rfl) T.n_len (by decide +kernel) (pa_cons (pv 3) pa_nil)) (pe_callB c_lenU (by rfl) T.n_len (by decide +kernel) (pa_cons (pv 7) pa_nil))) (pe_callTy call_int1 (by rfl) T.n_int (by decide +kernel) (pa_cons (pe_not (pv 6)) pa_nil))) (pe_ix ix_seq (pv 0) pe_int (fun _ _ => rfl)) (nomark _))))) (pss_cons (ps_expr (pe_bm PySem.F.plainAttrs_list PySem.F.slot_list_append PySem.F.type_list_append mt_append (pv 2) (pa_cons (pe_op op_addU (pv 3) pe_str) pa_nil)))
      (pss_one (ps_set (i := 3) sc_l_line_rows.nd rfl (.inl rfl) pe_str))) pss_nil)
      (pss_one (ps_set (i := 3) sc_l_line_rows.nd rfl (.inl rfl) (pe_op op_addU (pv 3) (pv 7))))))))
      (pss_one (ps_ret (pe_op op_addU (pv 2) (pe_lst (pa_cons (pv 3) pa_nil)))))))


end
section
variable {w : World} {K : PySem.W.Frag} {mg : Str → Option Value} {base : Heap}
local macro_rules | `(tactic| walk_at "hcq") => `(tactic| first
  | assumption
  | ((refine WaysAt.same (H := ?xH) ?xb ?xa); (case xa => assumption); (case xb => walk_at "hcq")))
local macro_rules | `(tactic| walk_at "rd0") => `(tactic| first
  | ((with_reducible refine r_getQ (a := ?xa) (c := ?xc) ?x1 ?x2 ?_); (case x1 => rfl); (case x2 => walk_at "hcq"))
  | ((with_reducible refine r_methQ (a := ?xa) (c := ?xc) ?x1 ?x2 ?x3 ?_); (case x1 => rfl); (case x2 => walk_at "hcq"); (case x3 => exact ⟨fun _ => rfl, fun _ _ => rfl⟩))
  | (with_reducible refine r_fmtB ?_)
  | (with_reducible refine r_dget ?_)
  | (with_reducible refine r_m0 ?_)
  | (with_reducible refine r_makeK ?_)
  | (with_reducible refine r_cval ?_)
  | (with_reducible refine r_sfld ?_)
  | (with_reducible refine r_isiI ?_)
  | (with_reducible refine r_isiIB ?_)
  | (with_reducible refine r_isiBB ?_)
  | (with_reducible refine r_isiS ?_)
  | (with_reducible refine r_int1I ?_)
  | (with_reducible refine r_int1B ?_))

local macro_rules | `(tactic| walk_at "hcr") => `(tactic| first
  | assumption
  | ((refine RulesAt.same (H := ?xH) ?xb ?xa); (case xa => assumption); (case xb => walk_at "hcr")))
local macro_rules | `(tactic| walk_at "rd0") => `(tactic| first
  | ((with_reducible refine r_getR (a := ?xa) (r := ?xr) ?x1 ?x2 ?_); (case x1 => rfl); (case x2 => walk_at "hcr")))

set_option hygiene false in
local macro_rules | `(tactic| walk_at "n1") => `(tactic| (refine And.intro (by walk_at "sz") ?_; intro p1 np1; generalize hg : upd _ p1 _ = H1; have s1 := same_of hg np1; have v1 := at_of hg; clear hg))
set_option hygiene false in
local macro_rules | `(tactic| walk_at "n2") => `(tactic| (refine And.intro (by walk_at "sz") ?_; intro p2 np2; generalize hg : upd _ p2 _ = H2; have s2 := same_of hg np2; have v2 := at_of hg; clear hg))
set_option hygiene false in
local macro_rules | `(tactic| walk_at "n3") => `(tactic| (refine And.intro (by walk_at "sz") ?_; intro p3 np3; generalize hg : upd _ p3 _ = H3; have s3 := same_of hg np3; have v3 := at_of hg; clear hg))
set_option hygiene false in
local macro_rules | `(tactic| walk_at "n4") => `(tactic| (refine And.intro (by walk_at "sz") ?_; intro p4 np4; generalize hg : upd _ p4 _ = H4; have s4 := same_of hg np4; have v4 := at_of hg; clear hg))

def textQ (c : QD) (xs : List Int) : List Nat := QT.run c.wd c.isNl c.item 0 [] (xs.map Int.toNat)
/-! ### the text as the law reckons it -/
theorem lns_sum (nl : Nat → Bool) : ∀ d : List Nat, ((QT.lns nl d).map (·.length)).sum + (QT.lns nl d).length = d.length + 1
  | [] => rfl
  | n :: r => by
    have ih := lns_sum nl r
    obtain ⟨l, ls, e⟩ := List.exists_cons_of_ne_nil (QT.lns_ne (nl := nl) r)
    simp only [QT.lns]
    split
    · simp only [List.map_cons, List.sum_cons, List.length_cons, List.length_nil] at ih ⊢
      omega
    · rw [e] at ih ⊢
      simp only [List.map_cons, List.sum_cons, List.length_cons, List.length_nil] at ih ⊢
      omega
theorem sum_take (l : List Nat) (i : Nat) : (l.take i).sum ≤ l.sum := by
  conv => rhs; rw [← List.take_append_drop i l]
  rw [List.sum_append]
  exact Nat.le_add_right _ _
theorem lns_mem {nl : Nat → Bool} {d l : List Nat} (hl : l ∈ QT.lns nl d) : ∀ m ∈ l, m ∈ d ∧ nl m = false := QT.run_lines.in_lns d l hl
theorem tyS {K : PySem.W.Frag} {z : Str} {H : Hp} : tyV K "str" (V.str z) H := rfl
theorem join_jn : ∀ ps : List (List Nat), Str.join (tx [10]) (ps.map tx) = tx (KR.jn ps)
  | [] => rfl
  | [x] => rfl
  | x :: y :: r => by
    have ih := join_jn (y :: r)
    rw [List.map_cons, List.map_cons, join_cons_cons]
    rw [List.map_cons] at ih
    rw [ih, tx_app, tx_app, List.append_assoc]
    rfl
theorem tjoin_jn (R : List (List Nat)) : Txt.join (Str.ofString "\n") (R.map tx) = tx (KR.jn R) := by
  rw [← join_jn, nl_tx]
  exact PySem.StrLaws.glued_eq_join _ _
def sp_l_quoted_text (T : Txt K mg) : Sp := fun vs H Q _ => ∃ p d c, ∃ xs : List Int, vs = [.ref p, .ref d] ∧ TupQ H p c ∧ c.Ok ∧ H d = some (.lst (xs.map V.int)) ∧ xs.length ≤ 600 ∧ Byts xs ∧
  ∀ H', Same H H' → Q (.str (tx (textQ c xs))) H'
theorem len_l_quoted_text (T : Txt K mg) (vs : List V) (H : Hp) (Q : VK) (E : XK) (h : sp_l_quoted_text T vs H Q E) : vs.length = 2 := by
  obtain ⟨_, _, _, _, rfl, _⟩ := h
  rfl
def t_l_quoted_text (T : Txt K mg) : TS := (tSeq (tAsg (tLst tNil) (gName 2))
    (tSeq (tFor (iSeqU K (tCall (sp_l_lines T) [] E0 (tCons (tVar 0) (tCons (tVar 1) tNil)))) (gName 3) (tAsg (tOp (rAddU K) (tVar 2) (tCall (sp_l_line_rows T) [] E0 (tCons (tVar 0) (tCons (tVar 3) tNil)))) (gName 2)))
    (tRet (tJoinU K (tC (.str (Str.ofString "\n"))) (tVar 2)))))

theorem pure_l_quoted_text (T : Txt K mg) (vs : List V) (H : Hp) (Q : VK) (E : XK) (h : sp_l_quoted_text T vs H Q E) : t_l_quoted_text T { nx := fun _ H' => Q .non H', rt := Q } (start ["_law_code", "_law_data", "_law_rows", "_law_line"] vs) H := by
  obtain ⟨p, d, c, xs, rfl, hp, ok, hd, hl, hx, q⟩ := h
  have nx : (nats xs).length ≤ 600 := by unfold nats; rw [List.length_map]; exact hl
  have bnd : ∀ m ∈ nats xs, m < 256 := by
    intro m hm
    unfold nats at hm
    obtain ⟨z, hz, rfl⟩ := List.mem_map.mp hm
    have := hx z hz
    omega
  unfold t_l_quoted_text
  walk_at "rd"
  refine And.intro (Nat.zero_le _) ?_
  intro f0 nf0
  generalize hg : upd _ f0 _ = H1
  have s1 := same_of hg nf0
  have v1 := at_of hg
  clear hg
  walk_at "rd"
  refine r_iseqL ?_
  walk_at "rd"
  refine ⟨p, d, c, xs, rfl, s1 _ _ hp, s1 _ _ hd, hl, hx, fun r as H2 s2 hr hL hal => ?_⟩
  have all : ∀ l ∈ QT.lns c.isNl (nats xs), ∀ m ∈ l, m ∈ nats xs ∧ c.isNl m = false := fun l hl => lns_mem (l := l) hl
  have ln := hL.len
  have sm := lns_sum c.isNl (nats xs)
  have eT : textQ c xs = KR.jn ((QT.lns c.isNl (nats xs)).map (QT.lin c.wd c.item)) := QT.run_jn ok.w0 (nats xs) fun n hn hN => item_it c (bnd n hn) hN
  have neL := QT.lns_ne (nl := c.isNl) (nats xs)
  generalize hLs : QT.lns c.isNl (nats xs) = Ls at hL all ln sm eT neL
  have st := sum_take (Ls.map (·.length))
  refine ⟨r, rfl, ⟨_, ql hr⟩, ?_⟩
  refine f_it (walk_list (K := K) (a := r) (xs := as.map V.ref)) (fun i σ G => ∃ f v3, ∃ R : List (List Nat), σ = [some (.ref p), some (.ref d), some (.ref f), v3] ∧ Same H2 G ∧ TxL G f R ∧ (R = [] ↔ i = 0) ∧ KR.jn R = KR.jn ((Ls.take i).map (QT.lin c.wd c.item)) ∧
      R.length ≤ ((Ls.take i).map (·.length)).sum + i ∧ (∀ x ∈ R, x.length ≤ 2000))
    ⟨f0, none, [], rfl, Same.refl H2, s2 _ _ v1, by simp, rfl, Nat.zero_le _, fun x hx => absurd hx List.not_mem_nil⟩ (fun i σ G _ h => by
      obtain ⟨_, _, _, _, s, _⟩ := h
      exact ql (s _ _ hr)) ?_ ?_
  · rintro i x σ G0 G hi ⟨f, v3, R, rfl, sG, hf, hz, hj, hRl, hRs⟩ ⟨rfl, hx'⟩
    rw [List.getElem?_map] at hx'
    obtain ⟨a, ha, rfl⟩ := Option.map_eq_some_iff.mp hx'
    obtain ⟨l, hLi, hal2⟩ := (hL.same sG).get ha
    have lm := all l (List.mem_of_getElem? hLi)
    have hi' : i < Ls.length := by rw [List.length_map] at hi; omega
    have etk : Ls.take (i + 1) = Ls.take i ++ [l] := by rw [List.take_add_one, hLi]; rfl
    have st1 := st (i + 1)
    rw [← List.map_take, etk] at st1
    simp only [List.map_append, List.sum_append, List.map_cons, List.map_nil, List.sum_cons, List.sum_nil] at st1
    have l600 : l.length ≤ 600 := by omega
    walk_at "rd"
    refine ⟨p, c, a, l, rfl, sG _ _ (s2 _ _ (s1 _ _ hp)), ok, hal2, fun n hn => ⟨bnd n (lm n hn).1, (lm n hn).2⟩, l600, fun rr R2 H3 s3 nrr hrr hR2 hj2 hl2 hs2 => ?_⟩
    have hf3 : H3 f = some (.lst ((R.map tx).map V.str)) := s3 _ _ hf
    have hrr' : H3 rr = some (.lst ((R2.map tx).map V.str)) := hrr
    refine r_addUL hf3 hrr' (by rw [List.length_map, List.length_map, List.length_map, List.length_map]; exact smallS (by omega)) fun o no => ?_
    walk_at "rd"
    refine ⟨o, _, R ++ R2, rfl, (sG.trans s3).trans (same_new no), ?_, ?_, ?_, ?_, ?_⟩
    · unfold TxL
      rw [upd_same, List.map_append, List.map_append]
    · simp [hR2]
    · rw [etk, List.map_append, List.map_cons, List.map_nil]
      by_cases h0 : R = []
      · have hi0 := hz.mp h0
        subst hi0 h0
        rw [List.nil_append, hj2]
        rfl
      · have hi0 : i ≠ 0 := fun z => h0 (hz.mpr z)
        rw [← QT.all_rows.jn_app h0 hR2, hj, hj2]
        have hne : (Ls.take i).map (QT.lin c.wd c.item) ≠ [] := by
          intro z
          have := congrArg List.length z
          rw [List.length_map, List.length_take] at this
          simp only [List.length_nil] at this
          omega
        have := QT.all_rows.jn_app hne (q := [QT.lin c.wd c.item l]) (by simp)
        rw [← this]
        rfl
    · rw [etk, List.length_append]
      simp only [List.map_append, List.sum_append, List.map_cons, List.map_nil, List.sum_cons, List.sum_nil]
      omega
    · intro y hy
      rcases List.mem_append.mp hy with h | h
      · exact hRs y h
      · exact hs2 y h
  · rintro σ G ⟨f, v3, R, rfl, sG, hf, hz, hj, hRl, hRs⟩
    rw [List.length_map, ln] at hz hj hRl
    rw [List.take_of_length_le (Nat.le_refl _)] at hj hRl
    have hR601 : R.length ≤ 601 := by omega
    have sl := sum_le _ hRs
    walk_at "rd"
    refine r_join ?_ rfl
    walk_at "rd"
    refine ⟨_, f, R.map tx, rfl, rfl, .inl (ql hf), ?_, ?_⟩
    · rw [List.length_map]
      have e1 : (Str.ofString "\n").length = 1 := rfl
      rw [e1]
      refine Nat.le_trans (Nat.add_le_add sl (Nat.le_refl _)) ?_
      omega
    rw [tjoin_jn, hj, ← eT]
    exact q G ((s1.trans s2).trans sG)
theorem ok_l_quoted_text (T : Txt K mg) : FnOk P w K mg base CX0 4 T.l_quoted_text_a T.l_quoted_text_d ["_law_code", "_law_data"] (sp_l_quoted_text T) := by
  refine T.l_quoted_text_f.ok sc_l_quoted_text (fun vs H Q E h => len_l_quoted_text T vs H Q E h) (fun cdv A outer s H vs Q E hr h => ⟨t_l_quoted_text T, PSs.nox ?_, pure_l_quoted_text T vs H Q E h⟩)
  have hu := hu64 hr
  exact (pss_cons (ps_set (i := 2) sc_l_quoted_text.nd rfl (.inl rfl) (pe_lst pa_nil))
      (pss_cons (ps_for PassesOwn.never rfl (pi_seqU (pe_call (ok_l_lines T) (hr.mono (by decide)) (by rfl) T.l_lines_g T.l_lines_f.kp T.l_lines_b .nil pass0 (pa_cons (pv 0) (pa_cons (pv 1) pa_nil)))) (pg_name (i := 3) sc_l_quoted_text.nd rfl (.inl rfl)) (pss_one (ps_set (i := 2) sc_l_quoted_text.nd rfl (.inl rfl) (pe_op op_addU (pv 2) (pe_call (ok_l_line_rows T) (hr.mono (by decide)) (by rfl) T.l_line_rows_g T.l_line_rows_f.kp T.l_line_rows_b .nil pass0 (pa_cons (pv 0) (pa_cons (pv 3) pa_nil)))))))
      (pss_one (ps_ret (pe_join pe_str (pv 2))))))


end
section
variable {w : World} {K : PySem.W.Frag} {mg : Str → Option Value} {base : Heap}
local macro_rules | `(tactic| walk_at "hcq") => `(tactic| first
  | assumption
  | ((refine WaysAt.same (H := ?xH) ?xb ?xa); (case xa => assumption); (case xb => walk_at "hcq")))
local macro_rules | `(tactic| walk_at "rd0") => `(tactic| first
  | ((with_reducible refine r_getQ (a := ?xa) (c := ?xc) ?x1 ?x2 ?_); (case x1 => rfl); (case x2 => walk_at "hcq"))
  | ((with_reducible refine r_methQ (a := ?xa) (c := ?xc) ?x1 ?x2 ?x3 ?_); (case x1 => rfl); (case x2 => walk_at "hcq"); (case x3 => exact ⟨fun _ => rfl, fun _ _ => rfl⟩))
  | (with_reducible refine r_fmtB ?_)
  | (with_reducible refine r_dget ?_)
  | (with_reducible refine r_m0 ?_)
  | (with_reducible refine r_makeK ?_)
  | (with_reducible refine r_cval ?_)
  | (with_reducible refine r_sfld ?_)
  | (with_reducible refine r_isiI ?_)
  | (with_reducible refine r_isiIB ?_)
  | (with_reducible refine r_isiBB ?_)
  | (with_reducible refine r_isiS ?_)
  | (with_reducible refine r_int1I ?_)
  | (with_reducible refine r_int1B ?_))

local macro_rules | `(tactic| walk_at "hcr") => `(tactic| first
  | assumption
  | ((refine RulesAt.same (H := ?xH) ?xb ?xa); (case xa => assumption); (case xb => walk_at "hcr")))
local macro_rules | `(tactic| walk_at "rd0") => `(tactic| first
  | ((with_reducible refine r_getR (a := ?xa) (r := ?xr) ?x1 ?x2 ?_); (case x1 => rfl); (case x2 => walk_at "hcr")))

set_option hygiene false in
local macro_rules | `(tactic| walk_at "n1") => `(tactic| (refine And.intro (by walk_at "sz") ?_; intro p1 np1; generalize hg : upd _ p1 _ = H1; have s1 := same_of hg np1; have v1 := at_of hg; clear hg))
set_option hygiene false in
local macro_rules | `(tactic| walk_at "n2") => `(tactic| (refine And.intro (by walk_at "sz") ?_; intro p2 np2; generalize hg : upd _ p2 _ = H2; have s2 := same_of hg np2; have v2 := at_of hg; clear hg))
set_option hygiene false in
local macro_rules | `(tactic| walk_at "n3") => `(tactic| (refine And.intro (by walk_at "sz") ?_; intro p3 np3; generalize hg : upd _ p3 _ = H3; have s3 := same_of hg np3; have v3 := at_of hg; clear hg))
set_option hygiene false in
local macro_rules | `(tactic| walk_at "n4") => `(tactic| (refine And.intro (by walk_at "sz") ?_; intro p4 np4; generalize hg : upd _ p4 _ = H4; have s4 := same_of hg np4; have v4 := at_of hg; clear hg))

/-! ### the law's rules and random texts -/
def sp_l_rules (T : Txt K mg) : Sp := fun vs H Q _ => ∃ (b : Addr) (n : Nat), vs = [.ref b] ∧ BagAt H b (n + 3) ∧
  ∀ p (l o f : Bool) H', SameB b H H' → BagAt H' b n → H p = none → H' p = some (.tup [.bl l, .bl o, .bl f]) → Q (.ref p) H'
theorem len_l_rules (T : Txt K mg) (vs : List V) (H : Hp) (Q : VK) (E : XK) (h : sp_l_rules T vs H Q E) : vs.length = 1 := by
  obtain ⟨_, _, rfl, _⟩ := h
  rfl
def t_l_rules (T : Txt K mg) : TS := (tRet (tTup (tCons (tOp rGtI (tCall (sp_l_take T) [] E0 (tCons (tVar 0) (tCons (tC (.int 3)) tNil))) (tC (.int 0))) (tCons (tOp (rEqU K) (tCall (sp_l_take T) [] E0 (tCons (tVar 0) (tCons (tC (.int 3)) tNil))) (tC (.int 0))) (tCons (tOp (rEqU K) (tCall (sp_l_take T) [] E0 (tCons (tVar 0) (tCons (tC (.int 3)) tNil))) (tC (.int 0))) tNil)))))

theorem pure_l_rules (T : Txt K mg) (vs : List V) (H : Hp) (Q : VK) (E : XK) (h : sp_l_rules T vs H Q E) : t_l_rules T { nx := fun _ H' => Q .non H', rt := Q } (start ["_law_bag_here"] vs) H := by
  obtain ⟨b, n, rfl, hB, q⟩ := h
  unfold t_l_rules
  walk_at "rd"
  refine ⟨b, 3, n + 2, rfl, hB, by decide, by decide, fun r1 H1 _ _ hB1 s1 => ?_⟩
  walk_at "rd"
  refine ⟨b, 3, n + 1, rfl, hB1, by decide, by decide, fun r2 H2 _ _ hB2 s2 => ?_⟩
  walk_at "rd"
  refine ⟨b, 3, n, rfl, hB2, by decide, by decide, fun r3 H3 _ _ hB3 s3 => ?_⟩
  walk_at "rd"
  refine And.intro (three_l rfl) ?_
  intro t nt
  generalize hg : upd _ t _ = H4
  have s4 := same_of hg nt
  have v4 := at_of hg
  clear hg
  have S3 := s1.trans (s2.trans s3)
  exact q t _ _ _ H4 (S3.trans (toB s4)) (hB3.same s4) (S3.free (hB3.ne nt) nt) v4
theorem ok_l_rules (T : Txt K mg) : FnOk P w K mg base CX0 2 T.l_rules_a T.l_rules_d ["_law_bag_here"] (sp_l_rules T) := by
  refine T.l_rules_f.ok sc_l_rules (fun vs H Q E h => len_l_rules T vs H Q E h) (fun cdv A outer s H vs Q E hr h => ⟨t_l_rules T, PSs.nox ?_, pure_l_rules T vs H Q E h⟩)
  have hu := hu64 hr
  exact (pss_one (ps_ret (pe_tup (pa_cons (pe_cmpR op_gt (pe_call (ok_l_take T) (hr.mono (by decide)) (by rfl) T.l_take_g T.l_take_f.kp T.l_take_b .nil pass0 (pa_cons (pv 0) (pa_cons pe_int pa_nil))) pe_int (nomark _)) (pa_cons (pe_cmpR (op_eqU hu) (pe_call (ok_l_take T) (hr.mono (by decide)) (by rfl) T.l_take_g T.l_take_f.kp T.l_take_b .nil pass0 (pa_cons (pv 0) (pa_cons pe_int pa_nil))) pe_int (nomark _)) (pa_cons (pe_cmpR (op_eqU hu) (pe_call (ok_l_take T) (hr.mono (by decide)) (by rfl) T.l_take_g T.l_take_f.kp T.l_take_b .nil pass0 (pa_cons (pv 0) (pa_cons pe_int pa_nil))) pe_int (nomark _)) pa_nil))))))

def sp_l_ruling (T : Txt K mg) : Sp := fun vs H Q _ => ∃ (b : Addr) (n : Nat) (p : Addr) (l o f : Bool), vs = [.ref b, .ref p] ∧ BagAt H b (n + 1) ∧ p ≠ b ∧ H p = some (.tup [.bl l, .bl o, .bl f]) ∧
  ∀ rr (r : RD) H', SameB b H H' → BagAt H' b n → H rr = none → RulesAt T H' rr r → r.skip = [] → r.lines = l → r.loose = o → r.fold = f → Q (.ref rr) H'
theorem len_l_ruling (T : Txt K mg) (vs : List V) (H : Hp) (Q : VK) (E : XK) (h : sp_l_ruling T vs H Q E) : vs.length = 2 := by
  obtain ⟨_, _, _, _, _, _, rfl, _⟩ := h
  rfl
def t_l_ruling (T : Txt K mg) : TS := (tSeq (tAsg (tCall (sp_l_of T) [] E0 (tCons (tVar 0) (tCons (tLst (tCons (tC (.str (Str.ofString "full"))) (tCons (tC (.str (Str.ofString "none"))) (tCons (tC (.str (Str.ofString "optional"))) (tCons (tC (.str (Str.ofString "any"))) tNil))))) tNil))) (gName 2))
    (tRet (tMakeK T.C_Rules 0 (["pads", "lines", "loose", "fold"] : List Str).length (sp_Rules___init__ T) (fun vs zs => vs ++ (zs.take 1 ++ ([.str (Str.ofString "")] ++ zs.drop 1))) E0 tNil (tCons (tVar 2) (tCons (tOp (rIx K) (tVar 1) (tC (.int 0))) (tCons (tOp (rIx K) (tVar 1) (tC (.int 1))) (tCons (tOp (rIx K) (tVar 1) (tC (.int 2))) tNil)))))))

theorem pure_l_ruling (T : Txt K mg) (vs : List V) (H : Hp) (Q : VK) (E : XK) (h : sp_l_ruling T vs H Q E) : t_l_ruling T { nx := fun _ H' => Q .non H', rt := Q } (start ["_law_bag_here", "_law_rules_here", "_law_way"] vs) H := by
  obtain ⟨b, n, p, l, o, f, rfl, hB, npb, hp, q⟩ := h
  unfold t_l_ruling
  walk_at "rd"
  refine And.intro (by show 4 ≤ sizeLine; decide) ?_
  intro L nL
  generalize hg : upd _ L _ = H1
  have s1 := same_of hg nL
  have v1 := at_of hg
  clear hg
  walk_at "rd"
  refine ⟨b, L, _, n, rfl, ql v1, hB.ne nL, hB.same s1, by show 0 < 4; decide, by show 4 < 1000000; decide, fun j x H2 hx hB2 s2 => ?_⟩
  obtain ⟨z, rfl, hz⟩ : ∃ z : Str, x = .str z ∧ padsOk z := by
    match j, hx with
    | 0, hx => exact ⟨_, (Option.some.inj hx).symm, .inl rfl⟩
    | 1, hx => exact ⟨_, (Option.some.inj hx).symm, .inr (.inl rfl)⟩
    | 2, hx => exact ⟨_, (Option.some.inj hx).symm, .inr (.inr (.inl rfl))⟩
    | 3, hx => exact ⟨_, (Option.some.inj hx).symm, .inr (.inr (.inr rfl))⟩
    | j + 4, hx => cases hx
  have S2 : SameB b H H2 := (toB s1).trans s2
  have hp2 := S2 _ _ npb hp
  walk_at "rd"
  refine ⟨rfl, rfl, fun x dx nx ndx nex => ⟨x, dx, ⟨z, [], l, o, f⟩, rfl, upd_same, ⟨hz, fun c h => (nomatch h), List.nodup_nil, Nat.zero_le _⟩, fun H3 b3 h3 => ⟨rfl, ?_⟩⟩⟩
  have s3 : Same H2 H3 := same_mutB nx (same_mut (same_new ndx) nx) b3
  exact q x _ H3 (S2.trans (toB s3)) (hB2.same s3) (S2.free (hB2.ne nx) nx) h3 rfl rfl rfl rfl
theorem ok_l_ruling (T : Txt K mg) : FnOk P w K mg base CX0 5 T.l_ruling_a T.l_ruling_d ["_law_bag_here", "_law_rules_here"] (sp_l_ruling T) := by
  refine T.l_ruling_f.ok sc_l_ruling (fun vs H Q E h => len_l_ruling T vs H Q E h) (fun cdv A outer s H vs Q E hr h => ⟨t_l_ruling T, PSs.nox ?_, pure_l_ruling T vs H Q E h⟩)
  have hu := hu64 hr
  exact (pss_cons (ps_set (i := 2) sc_l_ruling.nd rfl (.inl rfl) (pe_call (ok_l_of T) (hr.mono (by decide)) (by rfl) T.l_of_g T.l_of_f.kp T.l_of_b .nil pass0 (pa_cons (pv 0) (pa_cons (pe_lst (pa_cons pe_str (pa_cons pe_str (pa_cons pe_str (pa_cons pe_str pa_nil))))) pa_nil))))
      (pss_one (ps_ret (pe_makeK0 T.C_Rules_m (ok_Rules___init__ T) (hr.mono (by decide)) (by rfl) T.C_Rules_g T.Rules___init___k0_pads_lines_loose_fold.choose_spec pass0 (pk_cons (pv 2) (pk_cons (pe_ix ix_seq (pv 1) pe_int (fun _ _ => rfl)) (pk_cons (pe_ix ix_seq (pv 1) pe_int (fun _ _ => rfl)) (pk_cons (pe_ix ix_seq (pv 1) pe_int (fun _ _ => rfl)) pk_nil))))))))

/-- tokens -/
def toks : List (List Nat) := [[65], [98], [32], [61, 52, 49], [61, 51, 68], [61, 48, 65], [61, 10], [65], [126], [10], [61, 50, 48], [33], [65], [122, 122], [32, 32], [61, 101, 57], [61], [61, 52], [61, 103, 48], [61, 32]]
def Txs (m : Nat) (l : List Nat) : Prop := l.length ≤ m ∧ ∀ c ∈ l, Ch c
instance (c : Nat) : Decidable (Ch c) := inferInstanceAs (Decidable (c = 10 ∨ (32 ≤ c ∧ c ≤ 126 ∧ c ≠ 37)))
instance (m : Nat) (l : List Nat) : Decidable (Txs m l) := inferInstanceAs (Decidable (l.length ≤ m ∧ ∀ c ∈ l, Ch c))
theorem Txs.app {m n : Nat} {a b : List Nat} (h1 : Txs m a) (h2 : Txs n b) : Txs (m + n) (a ++ b) :=
  ⟨by rw [List.length_append]; have := h1.1; have := h2.1; omega, fun c hc => (List.mem_append.mp hc).elim (h1.2 c) (h2.2 c)⟩
theorem Txs.mono {m n : Nat} {a : List Nat} (h : Txs m a) (l : m ≤ n) : Txs n a := ⟨Nat.le_trans h.1 l, h.2⟩
theorem toks_ok : ∀ x ∈ toks, Txs 3 x := by decide
theorem flat_txs {m : Nat} : ∀ L : List (List Nat), (∀ x ∈ L, Txs m x) → Txs (L.length * m) L.flatten
  | [], _ => ⟨Nat.zero_le _, fun c h => nomatch h⟩
  | x :: r, h => by
    have ih := flat_txs r fun y hy => h y (List.mem_cons_of_mem _ hy)
    rw [List.flatten_cons, List.length_cons]
    exact ((h x (List.mem_cons_self ..)).app ih).mono (by rw [Nat.add_mul, Nat.one_mul]; omega)
def sp_l_tokens (T : Txt K mg) : Sp := fun vs H Q _ => ∃ (b : Addr) (v : V) (k n : Nat), vs = [.ref b, v, .int k] ∧ BagAt H b (n + 100) ∧ k ≤ 50 ∧
  ∀ l H', SameB b H H' → BagAt H' b n → Txs (k * 3) l → Q (.str (tx l)) H'
theorem len_l_tokens (T : Txt K mg) (vs : List V) (H : Hp) (Q : VK) (E : XK) (h : sp_l_tokens T vs H Q E) : vs.length = 3 := by
  obtain ⟨_, _, _, _, rfl, _⟩ := h
  rfl
def t_l_tokens (T : Txt K mg) : TS := (tSeq (tAsg (tLst (tCons (tC (.str (Str.ofString "A"))) (tCons (tC (.str (Str.ofString "b"))) (tCons (tC (.str (Str.ofString " "))) (tCons (tC (.str (Str.ofString "=41"))) (tCons (tC (.str (Str.ofString "=3D"))) (tCons (tC (.str (Str.ofString "=0A"))) (tCons (tC (.str (Str.ofString "=\n"))) (tCons (tC (.str (Str.ofString "A"))) (tCons (tC (.str (Str.ofString "~"))) (tCons (tC (.str (Str.ofString "\n"))) (tCons (tC (.str (Str.ofString "=20"))) (tCons (tC (.str (Str.ofString "!"))) (tCons (tC (.str (Str.ofString "A"))) tNil)))))))))))))) (gName 3))
    (tSeq (tAsg (tOp (rAddU K) (tVar 3) (tLst (tCons (tC (.str (Str.ofString "zz"))) (tCons (tC (.str (Str.ofString "  "))) (tCons (tC (.str (Str.ofString "=e9"))) (tCons (tC (.str (Str.ofString "="))) (tCons (tC (.str (Str.ofString "=4"))) (tCons (tC (.str (Str.ofString "=g0"))) (tCons (tC (.str (Str.ofString "= "))) tNil))))))))) (gName 3))
    (tSeq (tAsg (tCall (sp_l_of T) [] E0 (tCons (tVar 0) (tCons (tLst (tCons (tC (.int 8)) (tCons (tC (.int 13)) (tCons (tC (.int 16)) (tCons (tC (.int 20)) tNil))))) tNil))) (gName 4))
    (tRet (tJoinU K (tC (.str (Str.ofString ""))) (tLc (iRng1 (tCons (tCall (sp_l_take T) [] E0 (tCons (tVar 0) (tCons (tOp (rAddU K) (tVar 2) (tC (.int 1))) tNil))) tNil)) (gName 5) tYes (tOp (rIx K) (tVar 3) (tCall (sp_l_take T) [] E0 (tCons (tVar 0) (tCons (tVar 4) tNil)))) [5]))))))

theorem pure_l_tokens (T : Txt K mg) (vs : List V) (H : Hp) (Q : VK) (E : XK) (h : sp_l_tokens T vs H Q E) : t_l_tokens T { nx := fun _ H' => Q .non H', rt := Q } (start ["_law_bag_here", "_law_code", "_law_many", "_law_some", "_law_most", "_law_k"] vs) H := by
  obtain ⟨b, v, k, n, rfl, hB, hk, q⟩ := h
  unfold t_l_tokens
  walk_at "rd"
  refine And.intro (by show 13 ≤ sizeLine; decide) ?_
  intro p1 np1
  generalize hg : upd _ p1 _ = H1
  have s1 := same_of hg np1
  have v1 := at_of hg
  clear hg
  walk_at "rd"
  refine And.intro (by show 7 ≤ sizeLine; decide) ?_
  intro p2 np2
  generalize hg : upd _ p2 _ = H2
  have s2 := same_of hg np2
  have v2 := at_of hg
  clear hg
  refine r_addUL (s2 _ _ v1) v2 (by decide) fun p np => ?_
  generalize hg : upd _ p _ = H3
  have s3 := same_of hg np
  have v3 : H3 p = some (.lst ((toks.map tx).map V.str)) := at_of hg
  clear hg
  walk_at "rd"
  refine And.intro (by show 4 ≤ sizeLine; decide) ?_
  intro p4 np4
  generalize hg : upd _ p4 _ = H4
  have s4 := same_of hg np4
  have v4 := at_of hg
  clear hg
  have S4 := s1.trans (s2.trans (s3.trans s4))
  have hB4 := hB.same S4
  have npb : p ≠ b := ((hB.same s1).same s2).ne np
  have np4b : p4 ≠ b := (((hB.same s1).same s2).same s3).ne np4
  walk_at "rd"
  refine ⟨b, p4, _, n + 99, rfl, ql v4, np4b, hB4, by show 0 < 4; decide, by show 4 < 1000000; decide, fun j x H5 hx hB5 s5 => ?_⟩
  obtain ⟨m, rfl, hm0, hm⟩ : ∃ m : Nat, x = .int (m : Nat) ∧ 0 < m ∧ m ≤ 20 := by
    match j, hx with
    | 0, hx => exact ⟨8, (Option.some.inj hx).symm, by decide, by decide⟩
    | 1, hx => exact ⟨13, (Option.some.inj hx).symm, by decide, by decide⟩
    | 2, hx => exact ⟨16, (Option.some.inj hx).symm, by decide, by decide⟩
    | 3, hx => exact ⟨20, (Option.some.inj hx).symm, by decide, by decide⟩
    | j + 4, hx => cases hx
  have v5 := s5 _ _ npb (s4 _ _ v3)
  walk_at "rd"
  refine ⟨⟨_, rfl⟩, ?_⟩
  walk_at "rd"
  refine ⟨b, (k : Int) + 1, n + 98, rfl, hB5, by omega, by omega, fun r H6 r0 r1 hB6 s6 => ?_⟩
  obtain ⟨cnt, rfl⟩ : ∃ j : Nat, r = j := ⟨r.toNat, by omega⟩
  have v6 := s6 _ _ npb v5
  walk_at "rd"
  refine r_one ⟨by omega, by omega⟩ fun D nD => ?_
  have nDb : D ≠ b := hB6.ne nD
  have npD : p ≠ D := ne_of_none v6 nD
  refine c_it (walk_range (lo := 0) (n := cnt)) (fun i G => ∃ L : List (List Nat), L.length = i ∧ (∀ x ∈ L, Txs 3 x) ∧ G D = some (.lst ((L.map tx).map V.str)) ∧ SameB b H6 G ∧ BagAt G b (n + (98 - i)))
    ⟨[], rfl, fun x hx => (nomatch hx), upd_same, toB (same_new nD), hB6.same (same_new nD)⟩ (fun _ _ _ _ => trivial) ?_ ?_
  · rintro i x G G' hi ⟨L, el, hL, hD, sb, hb⟩ ⟨rfl, rfl⟩
    have hp' := sb _ _ npb v6
    walk_at "rd"
    refine ⟨rfl, ?_⟩
    walk_at "rd"
    refine ⟨b, (m : Int), n + (98 - (i + 1)), rfl, hb.mono (by omega), by omega, by omega, fun z G2 z0 z1 hb2 sb2 => ?_⟩
    obtain ⟨zn, rfl⟩ : ∃ j : Nat, z = j := ⟨z.toNat, by omega⟩
    have hz : zn < toks.length := by show zn < 20; omega
    refine r_ixL (ql (sb2 _ _ npb hp')) (atI_nat (by rw [List.map_map, List.getElem?_map, List.getElem?_eq_getElem hz]; rfl)) ?_
    have hk := toks_ok _ (List.getElem_mem hz)
    generalize toks[zn] = tk at hk
    refine ⟨_, sb2 _ _ nDb hD, by rw [List.length_map, List.length_map, el]; exact Nat.lt_of_lt_of_le hi (smallS (by omega)), L ++ [tk], by simp [el], ?_, ?_, sameB_mut (sb.trans sb2) nD, hb2.upd nDb⟩
    · intro y hy
      rcases List.mem_append.mp hy with h | h
      · exact hL y h
      · rw [List.mem_singleton.mp h]; exact hk
    · rw [upd_same, List.map_append, List.map_append]
      rfl
  rintro G ⟨L, el, hL, hD, sb, hb⟩
  walk_at "rd"
  refine ⟨_, D, L.map tx, rfl, rfl, .inl (ql hD), ?_, ?_⟩
  · have e0 : (Str.ofString "").length = 0 := rfl
    rw [e0, Nat.mul_zero, Nat.add_zero]
    have := sum_le (m := 3) L fun x hx => (hL x hx).1
    omega
  rw [txt_join_tx]
  have S6 := (toB S4).trans (s5.trans s6)
  exact q _ G (S6.trans sb) (hb.mono (by omega)) ((flat_txs L hL).mono (by rw [el]; exact Nat.mul_le_mul_right 3 (by omega)))
theorem ok_l_tokens (T : Txt K mg) : FnOk P w K mg base CX0 3 T.l_tokens_a T.l_tokens_d ["_law_bag_here", "_law_code", "_law_many"] (sp_l_tokens T) := by
  refine T.l_tokens_f.ok sc_l_tokens (fun vs H Q E h => len_l_tokens T vs H Q E h) (fun cdv A outer s H vs Q E hr h => ⟨t_l_tokens T, PSs.nox ?_, pure_l_tokens T vs H Q E h⟩)
  have hu := hu64 hr
  exact (pss_cons (ps_set (i := 3) sc_l_tokens.nd rfl (.inr rfl) (pe_lst (pa_cons pe_str (pa_cons pe_str (pa_cons pe_str (pa_cons pe_str (pa_cons pe_str (pa_cons pe_str (pa_cons pe_str (pa_cons pe_str (pa_cons pe_str (pa_cons pe_str (pa_cons pe_str (pa_cons pe_str (pa_cons pe_str pa_nil)))))))))))))))
      (pss_cons (ps_set (i := 3) sc_l_tokens.nd rfl (.inr rfl) (pe_op op_addU (pv 3) (pe_lst (pa_cons pe_str (pa_cons pe_str (pa_cons pe_str (pa_cons pe_str (pa_cons pe_str (pa_cons pe_str (pa_cons pe_str pa_nil))))))))))
      (pss_cons (ps_set (i := 4) sc_l_tokens.nd rfl (.inr rfl) (pe_call (ok_l_of T) (hr.mono (by decide)) (by rfl) T.l_of_g T.l_of_f.kp T.l_of_b .nil pass0 (pa_cons (pv 0) (pa_cons (pe_lst (pa_cons pe_int (pa_cons pe_int (pa_cons pe_int (pa_cons pe_int pa_nil))))) pa_nil))))
      (pss_one (ps_ret (pe_join pe_str (pe_lc (own := [("_law_k", 5)]) (g := (gName 5)) (tt := tYes) rfl sc_l_tokens.nd (pi_range1 (by rfl) T.n_range (pa_cons (pe_call (ok_l_take T) (hr.mono (by decide)) (by rfl) T.l_take_g T.l_take_f.kp T.l_take_b .nil pass0 (pa_cons (pv 0) (pa_cons (pe_op op_addU (pv 2) pe_int) pa_nil))) pa_nil)) (blkOk_by (own := [("_law_k", 5)]) (N := ["_law_bag_here", "_law_code", "_law_many", "_law_some", "_law_most", "_law_k"]) (sc := defScope s_l_tokens) (by decide +kernel)) (fun _ _ _ _ _ => (pg_name (i := 5) sc_l_tokens.nd rfl (.inl rfl))) (fun _ _ _ _ _ => pts_nil) (fun _ _ _ _ _ => (pe_ix ix_seq (pv 3) (pe_call (ok_l_take T) (hr.mono (by decide)) (by rfl) T.l_take_g T.l_take_f.kp T.l_take_b .nil pass0 (pa_cons (pv 0) (pa_cons (pv 4) pa_nil))) (fun _ _ => rfl))))))))))


end
section
variable {w : World} {K : PySem.W.Frag} {mg : Str → Option Value} {base : Heap}
local macro_rules | `(tactic| walk_at "hcq") => `(tactic| first
  | assumption
  | ((refine WaysAt.same (H := ?xH) ?xb ?xa); (case xa => assumption); (case xb => walk_at "hcq")))
local macro_rules | `(tactic| walk_at "rd0") => `(tactic| first
  | ((with_reducible refine r_getQ (a := ?xa) (c := ?xc) ?x1 ?x2 ?_); (case x1 => rfl); (case x2 => walk_at "hcq"))
  | ((with_reducible refine r_methQ (a := ?xa) (c := ?xc) ?x1 ?x2 ?x3 ?_); (case x1 => rfl); (case x2 => walk_at "hcq"); (case x3 => exact ⟨fun _ => rfl, fun _ _ => rfl⟩))
  | (with_reducible refine r_fmtB ?_)
  | (with_reducible refine r_dget ?_)
  | (with_reducible refine r_m0 ?_)
  | (with_reducible refine r_makeK ?_)
  | (with_reducible refine r_cval ?_)
  | (with_reducible refine r_sfld ?_)
  | (with_reducible refine r_isiI ?_)
  | (with_reducible refine r_isiIB ?_)
  | (with_reducible refine r_isiBB ?_)
  | (with_reducible refine r_isiS ?_)
  | (with_reducible refine r_int1I ?_)
  | (with_reducible refine r_int1B ?_))

local macro_rules | `(tactic| walk_at "hcr") => `(tactic| first
  | assumption
  | ((refine RulesAt.same (H := ?xH) ?xb ?xa); (case xa => assumption); (case xb => walk_at "hcr")))
local macro_rules | `(tactic| walk_at "rd0") => `(tactic| first
  | ((with_reducible refine r_getR (a := ?xa) (r := ?xr) ?x1 ?x2 ?_); (case x1 => rfl); (case x2 => walk_at "hcr")))

set_option hygiene false in
local macro_rules | `(tactic| walk_at "n1") => `(tactic| (refine And.intro (by walk_at "sz") ?_; intro p1 np1; generalize hg : upd _ p1 _ = H1; have s1 := same_of hg np1; have v1 := at_of hg; clear hg))
set_option hygiene false in
local macro_rules | `(tactic| walk_at "n2") => `(tactic| (refine And.intro (by walk_at "sz") ?_; intro p2 np2; generalize hg : upd _ p2 _ = H2; have s2 := same_of hg np2; have v2 := at_of hg; clear hg))
set_option hygiene false in
local macro_rules | `(tactic| walk_at "n3") => `(tactic| (refine And.intro (by walk_at "sz") ?_; intro p3 np3; generalize hg : upd _ p3 _ = H3; have s3 := same_of hg np3; have v3 := at_of hg; clear hg))
set_option hygiene false in
local macro_rules | `(tactic| walk_at "n4") => `(tactic| (refine And.intro (by walk_at "sz") ?_; intro p4 np4; generalize hg : upd _ p4 _ = H4; have s4 := same_of hg np4; have v4 := at_of hg; clear hg))

/-! ### the texts that the law takes -/
theorem hexSign_ch {k : Nat} (h : k < 16) : Ch (hexSign k) := by
  have : ∀ k : Nat, k < 16 → Ch (hexSign k) := by decide
  exact this k h
theorem QD.item_txs (c : QD) {n : Nat} (h : n < 256) : Txs 3 (c.item n) := by
  have h1 := hexSign_ch (k := n / 16) (by omega)
  have h2 := hexSign_ch (k := n % 16) (by omega)
  unfold QD.item
  split
  · decide
  · split
    · rename_i z
      refine ⟨by show 1 ≤ 3; decide, fun x hm => ?_⟩
      rw [List.mem_singleton.mp hm]
      rcases z with z | z
      · subst z; decide
      · have := z.1
        unfold Sg at this
        unfold Ch
        omega
    · refine ⟨Nat.le_refl _, fun x hm => ?_⟩
      unfold hx at hm
      simp only [List.mem_cons, List.not_mem_nil, or_false] at hm
      rcases hm with rfl | rfl | rfl
      · decide
      · exact h1
      · exact h2
theorem fixl_snoc (l : List (List Nat)) (x : List Nat) : QT.fixl (l ++ [x]) = l ++ [if x = [32] then QT.h32 else x] := by
  induction l with
  | nil => rfl
  | cons y r ih => rw [List.cons_append, QT.fixl_cons (by simp), ih]; rfl
theorem fixl_txs {l : List (List Nat)} (h : ∀ x ∈ l, Txs 3 x) : ∀ x ∈ QT.fixl l, Txs 3 x := by
  rcases List.eq_nil_or_concat l with rfl | ⟨k, y, rfl⟩
  · exact h
  · rw [List.concat_eq_append, fixl_snoc]
    intro x hx
    rcases List.mem_append.mp hx with hx | hx
    · exact h x (by rw [List.concat_eq_append]; exact List.mem_append_left _ hx)
    · rw [List.mem_singleton.mp hx]
      split
      · decide
      · exact h y (by rw [List.concat_eq_append]; simp)
theorem lineW_txs {w : Nat} : ∀ (L : List (List Nat)) (col : Nat), (∀ x ∈ L, Txs 3 x) → Txs (5 * L.length) (QT.lineW w col L)
  | [], _, _ => ⟨Nat.zero_le _, fun c hc => absurd hc List.not_mem_nil⟩
  | x :: r, col, h => by
    have hx := h x (List.mem_cons_self ..)
    have ih := fun col => lineW_txs (w := w) r col fun y hy => h y (List.mem_cons_of_mem _ hy)
    rw [QT.lineW_cons, List.length_cons]
    by_cases hf : QT.fit w col (x.length + if r = [] then 0 else 1) = true
    · rw [if_pos hf]
      exact (hx.app (ih _)).mono (by omega)
    · rw [if_neg hf]
      have h2 : Txs 2 ([61, 10] : List Nat) := by decide
      exact (h2.app (hx.app (ih _))).mono (by omega)
theorem jn_map {f : List Nat → List Nat} : ∀ ls : List (List Nat), (∀ l ∈ ls, Txs (5 * l.length) (f l)) → Txs (5 * (ls.map (·.length)).sum + ls.length) (KR.jn (ls.map f))
  | [], _ => ⟨Nat.zero_le _, fun c hc => absurd hc List.not_mem_nil⟩
  | [x], h => (h x (List.mem_cons_self ..)).mono (by simp only [List.map_cons, List.map_nil, List.sum_cons, List.sum_nil, List.length_cons, List.length_nil]; omega)
  | x :: y :: r, h => by
    have ih := jn_map (y :: r) fun l hl => h l (List.mem_cons_of_mem _ hl)
    show Txs _ (KR.jn (f x :: (y :: r).map f))
    rw [KR.jn_cons (by simp)]
    have h1 : Txs 1 ([10] : List Nat) := by decide
    refine ((h x (List.mem_cons_self ..)).app (h1.app ih)).mono ?_
    simp only [List.map_cons, List.sum_cons, List.length_cons]
    omega
theorem textQ_txs {c : QD} (ok : c.Ok) {xs : List Int} (hx : Byts xs) : Txs (6 * (xs.length + 1)) (textQ c xs) := by
  have bnd : ∀ m ∈ nats xs, m < 256 := by
    intro m hm
    unfold nats at hm
    obtain ⟨z, hz, rfl⟩ := List.mem_map.mp hm
    have := hx z hz
    omega
  have eT : textQ c xs = KR.jn ((QT.lns c.isNl (nats xs)).map (QT.lin c.wd c.item)) := QT.run_jn ok.w0 (nats xs) fun n hn hN => item_it c (bnd n hn) hN
  rw [eT]
  have sm := lns_sum c.isNl (nats xs)
  have ln : (nats xs).length = xs.length := by unfold nats; rw [List.length_map]
  refine (jn_map (QT.lns c.isNl (nats xs)) ?_).mono (by omega)
  intro l hl
  have := lineW_txs (w := c.wd) (QT.fixl (l.map c.item)) 0 (fixl_txs ?_)
  · rw [fixl_len, List.length_map] at this
    exact this
  · intro y hy
    obtain ⟨n, hn, rfl⟩ := List.mem_map.mp hy
    exact c.item_txs (bnd n (lns_mem hl n hn).1)
theorem Txs.take {m : Nat} {l : List Nat} (h : Txs m l) (k : Nat) : ∀ c ∈ l.take k, Ch c := fun c hc => h.2 c (List.mem_of_mem_take hc)
theorem Txs.drop {m : Nat} {l : List Nat} (h : Txs m l) (k : Nat) : ∀ c ∈ l.drop k, Ch c := fun c hc => h.2 c (List.mem_of_mem_drop hc)
def bends : List (List Nat) := [[61], [32], [10], [65], [52], [102], [103], [61, 52], [61, 10], [126]]
theorem bends_ok : ∀ x ∈ bends, Txs 2 x := by decide
theorem rep01 (l : List Nat) : strRep (tx l) 0 = tx [] ∧ strRep (tx l) 1 = tx l := ⟨rfl, by
  show _ = _
  first | rfl | (simp [strRep, tx])⟩
theorem Txs.bent {m : Nat} {l s : List Nat} {i j : Nat} (h : Txs m l) (hs : Txs 2 s) (hij : i ≤ j) : Txs (m + 2) (l.take i ++ s ++ l.drop j) := by
  refine ⟨?_, fun c hc => ?_⟩
  · have h1 := h.1
    have h2 := hs.1
    rw [List.length_append, List.length_append, List.length_take, List.length_drop]
    omega
  · rcases List.mem_append.mp hc with hc | hc
    · rcases List.mem_append.mp hc with hc | hc
      · exact h.take i c hc
      · exact hs.2 c hc
    · exact h.drop j c hc
theorem cut_dropL (l : List Nat) (k : Nat) : cutS (tx l) (some (k : Int)) none = tx (l.drop k) := by
  unfold cutS
  rw [tx_len, HT.sIx_none, HT.sIx_nat, tx_list]
  show tx ((l.drop (min k l.length)).take (l.length - min k l.length)) = _
  rw [List.take_of_length_le (by rw [List.length_drop]; exact Nat.le_refl _)]
  by_cases h : k ≤ l.length
  · rw [Nat.min_eq_left h]
  · rw [Nat.min_eq_right (by omega), List.drop_of_length_le (Nat.le_refl _), List.drop_of_length_le (by omega)]
def sp_l_bent (T : Txt K mg) : Sp := fun vs H Q _ => ∃ (b : Addr) (l : List Nat) (m n : Nat), vs = [.ref b, .str (tx l)] ∧ BagAt H b (n + 3) ∧ Txs m l ∧ m ≤ 1000 ∧
  ∀ l' H', SameB b H H' → BagAt H' b n → Txs (m + 2) l' → Q (.str (tx l')) H'
theorem len_l_bent (T : Txt K mg) (vs : List V) (H : Hp) (Q : VK) (E : XK) (h : sp_l_bent T vs H Q E) : vs.length = 2 := by
  obtain ⟨_, _, _, _, rfl, _⟩ := h
  rfl
def t_l_bent (T : Txt K mg) : TS := (tSeq (tPar 2 3 (tCons (tCall (sp_l_take T) [] E0 (tCons (tVar 0) (tCons (tOp (rAddU K) (tCB (rLenU K) (tCons (tVar 1) tNil)) (tC (.int 1))) tNil))) (tCons (tCall (sp_l_take T) [] E0 (tCons (tVar 0) (tCons (tC (.int 4)) tNil))) tNil)))
    (tSeq (tAsg (tCall (sp_l_of T) [] E0 (tCons (tVar 0) (tCons (tLst (tCons (tC (.str (Str.ofString "="))) (tCons (tC (.str (Str.ofString " "))) (tCons (tC (.str (Str.ofString "\n"))) (tCons (tC (.str (Str.ofString "A"))) (tCons (tC (.str (Str.ofString "4"))) (tCons (tC (.str (Str.ofString "f"))) (tCons (tC (.str (Str.ofString "g"))) (tCons (tC (.str (Str.ofString "=4"))) (tCons (tC (.str (Str.ofString "=\n"))) (tCons (tC (.str (Str.ofString "~"))) tNil))))))))))) tNil))) (gName 4))
    (tRet (tOp (rAddU K) (tOp (rAddU K) (tSl (rSlU K) (tVar 1) tNoPart (tPart (tVar 2))) (tOp rMulT (tVar 4) (tCB rInt1 (tCons (tOp rLtI (tVar 3) (tC (.int 3))) tNil)))) (tSl (rSlU K) (tVar 1) (tPart (tOp (rAddU K) (tVar 2) (tCB rInt1 (tCons (tOp rGtI (tVar 3) (tC (.int 1))) tNil)))) tNoPart)))))

theorem pure_l_bent (T : Txt K mg) (vs : List V) (H : Hp) (Q : VK) (E : XK) (h : sp_l_bent T vs H Q E) : t_l_bent T { nx := fun _ H' => Q .non H', rt := Q } (start ["_law_bag_here", "_law_text", "_law_spot", "_law_way", "_law_sign"] vs) H := by
  obtain ⟨b, l, m, n, rfl, hB, hT, hm, q⟩ := h
  have ll : l.length ≤ 1000 := Nat.le_trans hT.1 hm
  have zl : (tx l).length ≤ sizeLine := smallS (by rw [tx_len]; omega)
  unfold t_l_bent
  walk_at "rd"
  refine r_lenUS zl ?_
  rw [tx_len]
  walk_at "rd"
  refine ⟨b, (l.length : Int) + 1, n + 2, rfl, hB, by omega, by omega, fun r H1 r0 r1 hB1 s1 => ?_⟩
  obtain ⟨i, rfl⟩ : ∃ j : Nat, r = j := ⟨r.toNat, by omega⟩
  walk_at "rd"
  refine ⟨b, 4, n + 1, rfl, hB1, by decide, by decide, fun w H2 w0 w1 hB2 s2 => ?_⟩
  walk_at "rd"
  refine And.intro (by show 10 ≤ sizeLine; decide) ?_
  intro p np
  generalize hg : upd _ p _ = H3
  have s3 := same_of hg np
  have v3 : H3 p = some (.lst ((bends.map tx).map V.str)) := at_of hg
  clear hg
  walk_at "rd"
  refine ⟨b, p, _, n, rfl, ql v3, hB2.ne np, hB2.same s3, by show 0 < 10; decide, by show 10 < 1000000; decide, fun j x H4 hx hB4 s4 => ?_⟩
  rw [List.map_map, List.getElem?_map] at hx
  obtain ⟨s, hs, rfl⟩ := Option.map_eq_some_iff.mp hx
  have ts := bends_ok s (List.mem_of_getElem? hs)
  walk_at "rd"
  refine r_slUS zl ?_
  rw [cut_take (by omega)]
  walk_at "rd"
  obtain ⟨a, ha, ha1⟩ : ∃ a : Nat, (if decide (w < 3) = true then (1 : Int) else 0) = a ∧ a ≤ 1 := by
    by_cases h : w < 3
    · exact ⟨1, by rw [if_pos (decide_eq_true h)]; rfl, Nat.le_refl _⟩
    · exact ⟨0, by rw [if_neg (by simpa using h)]; rfl, Nat.zero_le _⟩
  rw [ha]
  obtain ⟨u, hu, hu2⟩ : ∃ u : List Nat, strRep (tx s) a = tx u ∧ Txs 2 u := by
    match a, ha1 with
    | 0, _ => exact ⟨[], (rep01 s).1, by decide⟩
    | 1, _ => exact ⟨s, (rep01 s).2, ts⟩
  refine ⟨tx s, a, rfl, rfl, by rw [tx_len]; exact Nat.le_trans ts.1 (by decide), by omega, ?_⟩
  rw [hu]
  have t1 : (l.take i).length ≤ 1000 := by rw [List.length_take]; omega
  have t2 := hu2.1
  refine r_addUS (smallS (by rw [tx_len, tx_len]; omega)) ?_
  rw [tx_app]
  walk_at "rd"
  obtain ⟨z, hz, hz1⟩ : ∃ z : Nat, (i : Int) + (if decide (1 < w) = true then (1 : Int) else 0) = z ∧ i ≤ z := by
    by_cases h : 1 < w
    · exact ⟨i + 1, by rw [if_pos (decide_eq_true h)]; rfl, by omega⟩
    · exact ⟨i, by rw [if_neg (by simpa using h)]; omega, Nat.le_refl _⟩
  rw [hz]
  refine r_slUS zl ?_
  rw [cut_dropL]
  have t3 : (l.drop z).length ≤ 1000 := by rw [List.length_drop]; omega
  refine r_addUS (smallS (by rw [tx_len, tx_len, List.length_append]; omega)) ?_
  rw [tx_app]
  exact q _ H4 (s1.trans (s2.trans ((toB s3).trans s4))) hB4 (hT.bent hu2 hz1)
theorem ok_l_bent (T : Txt K mg) : FnOk P w K mg base CX0 3 T.l_bent_a T.l_bent_d ["_law_bag_here", "_law_text"] (sp_l_bent T) := by
  refine T.l_bent_f.ok sc_l_bent (fun vs H Q E h => len_l_bent T vs H Q E h) (fun cdv A outer s H vs Q E hr h => ⟨t_l_bent T, PSs.nox ?_, pure_l_bent T vs H Q E h⟩)
  have hu := hu64 hr
  exact (pss_cons (ps_par (i := 2) (j := 3) (by rfl) sc_l_bent.nd rfl rfl (by decide) rfl rfl (pa_cons (pe_call (ok_l_take T) (hr.mono (by decide)) (by rfl) T.l_take_g T.l_take_f.kp T.l_take_b .nil pass0 (pa_cons (pv 0) (pa_cons (pe_op op_addU (pe_callB c_lenU (by rfl) T.n_len (by decide +kernel) (pa_cons (pv 1) pa_nil)) pe_int) pa_nil))) (pa_cons (pe_call (ok_l_take T) (hr.mono (by decide)) (by rfl) T.l_take_g T.l_take_f.kp T.l_take_b .nil pass0 (pa_cons (pv 0) (pa_cons pe_int pa_nil))) pa_nil)) (by rfl))
      (pss_cons (ps_set (i := 4) sc_l_bent.nd rfl (.inl rfl) (pe_call (ok_l_of T) (hr.mono (by decide)) (by rfl) T.l_of_g T.l_of_f.kp T.l_of_b .nil pass0 (pa_cons (pv 0) (pa_cons (pe_lst (pa_cons pe_str (pa_cons pe_str (pa_cons pe_str (pa_cons pe_str (pa_cons pe_str (pa_cons pe_str (pa_cons pe_str (pa_cons pe_str (pa_cons pe_str (pa_cons pe_str pa_nil))))))))))) pa_nil))))
      (pss_one (ps_ret (pe_op op_addU (pe_op op_addU (pe_slice sl_U (pv 1) po_none (po_some (pv 2))) (pe_op op_mulT (pv 4) (pe_callTy call_int1 (by rfl) T.n_int (by decide +kernel) (pa_cons (pe_cmpR op_lt (pv 3) pe_int (nomark _)) pa_nil)))) (pe_slice sl_U (pv 1) (po_some (pe_op op_addU (pv 2) (pe_callTy call_int1 (by rfl) T.n_int (by decide +kernel) (pa_cons (pe_cmpR op_gt (pv 3) pe_int (nomark _)) pa_nil)))) po_none))))))

def sp_l_some_text (T : Txt K mg) : Sp := fun vs H Q _ => ∃ (b p : Addr) (c : QD) (n : Nat), vs = [.ref b, .ref p] ∧ TupQ H p c ∧ c.Ok ∧ p ≠ b ∧ BagAt H b (n + 1200) ∧
  ∀ l H', SameB b H H' → BagAt H' b n → Txs 100 l → Q (.str (tx l)) H'
theorem len_l_some_text (T : Txt K mg) (vs : List V) (H : Hp) (Q : VK) (E : XK) (h : sp_l_some_text T vs H Q E) : vs.length = 2 := by
  obtain ⟨_, _, _, _, rfl, _⟩ := h
  rfl
def t_l_some_text (T : Txt K mg) : TS := (tSeq (tAsg (tCall (sp_l_take T) [] E0 (tCons (tVar 0) (tCons (tC (.int 4)) tNil))) (gName 2))
    (tSeq (tIfS (tTest (tOp (rEqU K) (tVar 2) (tC (.int 0)))) (tRet (tCall (sp_l_tokens T) [] E0 (tCons (tVar 0) (tCons (tVar 1) (tCons (tC (.int 8)) tNil))))) tNext)
    (tSeq (tAsg (tCall (sp_l_quoted_text T) [] E0 (tCons (tVar 1) (tCons (tCall (sp_l_bytes T) [] E0 (tCons (tVar 0) (tCons (tC (.int 12)) tNil))) tNil))) (gName 3))
    (tSeq (tFor (iRng1 (tCons (tOp rSubI (tVar 2) (tC (.int 1))) tNil)) (gName 4) (tAsg (tCall (sp_l_bent T) [] E0 (tCons (tVar 0) (tCons (tVar 3) tNil))) (gName 3)))
    (tRet (tVar 3))))))

theorem pure_l_some_text (T : Txt K mg) (vs : List V) (H : Hp) (Q : VK) (E : XK) (h : sp_l_some_text T vs H Q E) : t_l_some_text T { nx := fun _ H' => Q .non H', rt := Q } (start ["_law_bag_here", "_law_code", "_law_way", "_law_text", "_law_turn"] vs) H := by
  obtain ⟨b, p, c, n, rfl, hp, ok, pb, hB, q⟩ := h
  unfold t_l_some_text
  walk_at "rd"
  refine ⟨b, 4, n + 1199, rfl, hB, by decide, by decide, fun w H1 w0 w1 hB1 s1 => ?_⟩
  obtain ⟨way, rfl⟩ : ∃ j : Nat, w = j := ⟨w.toNat, by omega⟩
  have hp1 : TupQ H1 p c := s1 _ _ pb hp
  walk_at "rd"
  refine r_iteD (fun h => ?_) (fun h => ?_)
  · walk_at "rd"
    exact ⟨b, .ref p, 8, n, rfl, hB1.mono (by omega), by decide, fun l H2 s2 hB2 ht => q l H2 (s1.trans s2) hB2 (ht.mono (by decide))⟩
  walk_at "rd"
  refine ⟨b, 12, n + 100, rfl, hB1.mono (by omega), by decide, fun pd xs H2 hx hxl npd hpd s2 hB2 => ?_⟩
  have hp2 : TupQ H2 p c := s2 _ _ pb hp1
  walk_at "rd"
  refine ⟨p, pd, c, xs, rfl, hp2, ok, hpd, by omega, hx, fun H3 s3 => ?_⟩
  have ht := (textQ_txs ok hx).mono (show 6 * (xs.length + 1) ≤ 78 by omega)
  generalize textQ c xs = l0 at ht
  walk_at "rd"
  refine r_one ⟨by omega, by omega⟩ ?_
  refine f_it (walk_range (lo := 0) (n := ((way : Int) - 1).toNat)) (fun j σ G => ∃ (l : List Nat) (v4 : Option V), σ = [some (.ref b), some (.ref p), some (.int (way : Nat)), some (.str (tx l)), v4] ∧ Txs (78 + 2 * j) l ∧ SameB b H G ∧ BagAt G b (n + (100 - 3 * j)))
    ⟨l0, none, rfl, ht, (s1.trans s2).trans (toB s3), hB2.same s3⟩ (fun _ _ _ _ _ => trivial) ?_ ?_
  · rintro j x σ G G' hj ⟨l, v4, rfl, hl, sG, hG⟩ ⟨rfl, rfl⟩
    walk_at "rd"
    refine ⟨b, l, 78 + 2 * j, n + (100 - 3 * (j + 1)), rfl, hG.mono (by omega), hl, by omega, fun l' G2 s2 hB2 ht2 => ?_⟩
    walk_at "rd"
    exact ⟨l', _, rfl, ht2.mono (by omega), sG.trans s2, hB2⟩
  · rintro σ G ⟨l, v4, rfl, hl, sG, hG⟩
    walk_at "rd"
    exact q l G sG (hG.mono (by omega)) (hl.mono (by omega))
theorem ok_l_some_text (T : Txt K mg) : FnOk P w K mg base CX0 5 T.l_some_text_a T.l_some_text_d ["_law_bag_here", "_law_code"] (sp_l_some_text T) := by
  refine T.l_some_text_f.ok sc_l_some_text (fun vs H Q E h => len_l_some_text T vs H Q E h) (fun cdv A outer s H vs Q E hr h => ⟨t_l_some_text T, PSs.nox ?_, pure_l_some_text T vs H Q E h⟩)
  have hu := hu64 hr
  exact (pss_cons (ps_set (i := 2) sc_l_some_text.nd rfl (.inl rfl) (pe_call (ok_l_take T) (hr.mono (by decide)) (by rfl) T.l_take_g T.l_take_f.kp T.l_take_b .nil pass0 (pa_cons (pv 0) (pa_cons pe_int pa_nil))))
      (pss_cons (ps_if (pt_cmpR (op_eqU hu) (pv 2) pe_int (nomark _)) (pss_one (ps_ret (pe_call (ok_l_tokens T) (hr.mono (by decide)) (by rfl) T.l_tokens_g T.l_tokens_f.kp T.l_tokens_b .nil pass0 (pa_cons (pv 0) (pa_cons (pv 1) (pa_cons pe_int pa_nil)))))) pss_nil)
      (pss_cons (ps_set (i := 3) sc_l_some_text.nd rfl (.inl rfl) (pe_call (ok_l_quoted_text T) (hr.mono (by decide)) (by rfl) T.l_quoted_text_g T.l_quoted_text_f.kp T.l_quoted_text_b .nil pass0 (pa_cons (pv 1) (pa_cons (pe_call (ok_l_bytes T) (hr.mono (by decide)) (by rfl) T.l_bytes_g T.l_bytes_f.kp T.l_bytes_b .nil pass0 (pa_cons (pv 0) (pa_cons pe_int pa_nil))) pa_nil))))
      (pss_cons (ps_for PassesOwn.never rfl (pi_range1 (by rfl) T.n_range (pa_cons (pe_op op_sub (pv 2) pe_int) pa_nil)) (pg_name (i := 4) sc_l_some_text.nd rfl (.inl rfl)) (pss_one (ps_set (i := 3) sc_l_some_text.nd rfl (.inl rfl) (pe_call (ok_l_bent T) (hr.mono (by decide)) (by rfl) T.l_bent_g T.l_bent_f.kp T.l_bent_b .nil pass0 (pa_cons (pv 0) (pa_cons (pv 3) pa_nil))))))
      (pss_one (ps_ret (pv 3)))))))


end
section
variable {w : World} {K : PySem.W.Frag} {mg : Str → Option Value} {base : Heap}
/-! ### beginnings of right texts -/
theorem room_iff {c : QD} {r : RD} {n k : Nat} : roomQ c r n k = true ↔ (r.lines = true → 0 < c.wd → n + k ≤ c.wd) := by
  unfold roomQ QD.fit
  cases r.lines with
  | false => simp
  | true =>
    simp only [Bool.not_true, Bool.false_or, Bool.or_eq_true, decide_eq_true_eq, true_implies]
    omega
theorem next_eq (c : QD) (r : RD) (n : Nat) : nextQ c r n = if r.lines = true ∧ 0 < c.wd then n + 1 else 0 := by
  unfold nextQ
  cases r.lines with
  | false => rfl
  | true =>
    by_cases h : 0 < c.wd
    · rw [if_pos rfl, if_pos h, if_pos ⟨rfl, h⟩]
    · rw [if_pos rfl, if_neg h, if_neg fun z => h z.2]
theorem room_next {c : QD} {r : RD} {n : Nat} (h : roomQ c r n 2 = true) : roomQ c r (nextQ c r n) 1 = true := by
  rw [room_iff] at h ⊢
  intro h1 h2
  rw [next_eq, if_pos ⟨h1, h2⟩]
  have := h h1 h2
  omega
def FitW (c : QD) (r : RD) (s : RQ) : Prop := FitQ s ∧ (s.beg = [32] → roomQ c r s.col 1 = true) ∧ (s.beg = [61, 10] → s.col = 0)
theorem digQ_w {c : QD} {r : RD} {s s' : RQ} {ch : Nat} {ds : List Nat} (h : digQ c r s ch = some (ds, s')) : (s'.beg = [32] → roomQ c r s'.col 1 = true) ∧ (s'.beg = [61, 10] → s'.col = 0) := by
  unfold digQ at h
  by_cases h1 : ch = 10 ∧ s.beg = [61]
  · rw [if_pos h1] at h
    cases h
    refine ⟨fun z => ?_, fun _ => rfl⟩
    have z : (if r.loose = true then [] else [61, 10] : List Nat) = [32] := z
    split at z <;> cases z
  rw [if_neg h1] at h
  cases hd : hexQ r ch with
  | none => rw [hd] at h; cases h
  | some d =>
    rw [hd] at h
    have h' : (if s.beg ≠ [61] then some ([Hx.hexNum (s.beg.drop 1 ++ [d])], ⟨nextQ c r s.col, []⟩) else if roomQ c r s.col 2 = true then some ([], ⟨nextQ c r s.col, [61, d]⟩) else none : Option (List Nat × RQ)) = some (ds, s') := h
    split at h'
    · cases h'
      exact ⟨(fun z => nomatch z), fun z => nomatch z⟩
    · split at h'
      · cases h'
        refine ⟨fun z => ?_, fun z => ?_⟩
        · cases z
        · have : d = 10 := by
            have z : ([61, d] : List Nat) = [61, 10] := z
            cases z
            rfl
          have h16 := (hexes_iff d).mp (hexQ_in hd)
          omega
      · cases h'
theorem takeQ_w {c : QD} {r : RD} {s s' : RQ} {ch : Nat} {ds : List Nat} (h : takeQ c r s ch = some (ds, s')) : FitW c r s' := by
  refine ⟨FitQ.take h, ?_⟩
  unfold takeQ at h
  split at h
  · exact digQ_w h
  split at h
  · split at h
    · cases h
    · cases h
      exact ⟨(fun z => nomatch z), fun z => nomatch z⟩
  split at h
  · split at h
    · rename_i hr
      cases h
      exact ⟨fun _ => room_next hr, fun z => nomatch z⟩
    · cases h
  split at h
  · cases h
  split at h
  · cases h
    exact ⟨(fun z => nomatch z), fun z => nomatch z⟩
  · cases h
    exact ⟨(fun z => nomatch z), fun z => nomatch z⟩
theorem FitW.opn (c : QD) (r : RD) : FitW c r opnQ := ⟨.inl rfl, (fun z => nomatch z), fun _ => rfl⟩
theorem folQ_w {c : QD} {r : RD} : ∀ (l : List Nat) (s s' : RQ) (ds : List Nat), FitW c r s → folQ c r s l = some (ds, s') → FitW c r s'
  | [], s, s', ds, F, h => by cases h; exact F
  | ch :: t, s, s', ds, F, h => by
    have h : (takeQ c r s ch).bind (fun p => (folQ c r p.2 t).map fun q => (p.1 ++ q.1, q.2)) = some (ds, s') := h
    cases e : takeQ c r s ch with
    | none => rw [e] at h; cases h
    | some p =>
      rw [e] at h
      obtain ⟨q, hq, e2⟩ := Option.map_eq_some_iff.mp (show (folQ c r p.2 t).map (fun q => (p.1 ++ q.1, q.2)) = some (ds, s') from h)
      cases e2
      exact folQ_w t p.2 q.2 q.1 (takeQ_w (ds := p.1) (s' := p.2) e) hq
theorem finQ_app (c : QD) (r : RD) (s : RQ) (a b : List Nat) : finQ c r s (a ++ b) = (folQ c r s a).bind fun p => (finQ c r p.2 b).map fun t => p.1 ++ t := by
  unfold finQ
  rw [folQ_app]
  cases folQ c r s a with
  | none => rfl
  | some p =>
    show ((folQ c r p.2 b).map fun q => (p.1 ++ q.1, q.2)).bind (fun p => if p.2.beg = [] then some p.1 else none) = ((folQ c r p.2 b).bind fun p => if p.2.beg = [] then some p.1 else none).map fun t => p.1 ++ t
    cases folQ c r p.2 b with
    | none => rfl
    | some q =>
      show (if q.2.beg = [] then some (p.1 ++ q.1) else none) = (if q.2.beg = [] then some q.1 else none).map fun t => p.1 ++ t
      by_cases h : q.2.beg = []
      · rw [if_pos h, if_pos h]; rfl
      · rw [if_neg h, if_neg h]; rfl
theorem take_A {c : QD} {r : RD} {s : RQ} (h : ¬ (s.beg.take 1 = [61] ∧ s.beg ≠ [61, 10])) (hr : roomQ c r s.col 1 = true) : takeQ c r s 65 = some ([65], ⟨nextQ c r s.col, []⟩) := by
  unfold takeQ
  rw [if_neg h, if_neg (by decide), if_neg (by intro z; exact absurd z.1 (by decide)), if_neg (by rw [hr]; decide), if_neg (by decide)]
theorem fin_cons (c : QD) (r : RD) (s : RQ) (ch : Nat) (t : List Nat) : finQ c r s (ch :: t) = (takeQ c r s ch).bind fun p => (finQ c r p.2 t).map fun u => p.1 ++ u := by
  have := finQ_app c r s [ch] t
  rw [List.singleton_append] at this
  rw [this]
  show ((takeQ c r s ch).bind fun p => (folQ c r p.2 []).map fun q => (p.1 ++ q.1, q.2)).bind _ = _
  cases takeQ c r s ch with
  | none => rfl
  | some p =>
    show (finQ c r p.2 t).map (fun u => (p.1 ++ []) ++ u) = _
    rw [List.append_nil]
    rfl
theorem fin_nil {c : QD} {r : RD} {s : RQ} (h : s.beg = []) : finQ c r s [] = some [] := if_pos h
theorem fin_A {c : QD} {r : RD} {s : RQ} (h : ¬ (s.beg.take 1 = [61] ∧ s.beg ≠ [61, 10])) (hr : roomQ c r s.col 1 = true) : (finQ c r s [65]).isSome = true := by
  rw [fin_cons, take_A h hr]
  show ((finQ c r ⟨nextQ c r s.col, []⟩ []).map _).isSome = true
  rw [fin_nil rfl]
  rfl
def moreQ : List (List Nat) := [[], [65], [48], [48, 48], [10], [10, 65], [61, 10, 65]]
theorem alive_of {c : QD} (ok : c.Ok) {r : RD} {s : RQ} (F : FitW c r s) : ∃ m ∈ moreQ, (finQ c r s m).isSome = true := by
  obtain ⟨F, F1, F2⟩ := F
  have r0 : roomQ c r 0 1 = true := room_iff.mpr fun _ h => by rcases ok.w0 with z | z <;> omega
  rcases F with h | h | h | h | ⟨d, hd, h⟩
  · exact ⟨[], by decide, by rw [fin_nil h]; rfl⟩
  · exact ⟨[65], by decide, fin_A (by rw [h]; decide) (F1 h)⟩
  · refine ⟨[10, 65], by decide, ?_⟩
    have e : takeQ c r s 10 = some ([], ⟨0, if r.loose = true then [] else [61, 10]⟩) := by
      unfold takeQ
      rw [if_pos (by rw [h]; decide)]
      unfold digQ
      rw [if_pos ⟨rfl, h⟩]
    rw [fin_cons, e]
    show ((finQ c r ⟨0, if r.loose = true then [] else [61, 10]⟩ [65]).map _).isSome = true
    rw [Option.isSome_map]
    refine fin_A ?_ r0
    show ¬ ((if r.loose = true then [] else [61, 10] : List Nat).take 1 = [61] ∧ (if r.loose = true then [] else [61, 10] : List Nat) ≠ [61, 10])
    split
    · decide
    · decide
  · exact ⟨[65], by decide, fin_A (by rw [h]; decide) (by rw [F2 h]; exact r0)⟩
  · refine ⟨[48], by decide, ?_⟩
    have e16 := (hexes_iff d).mp hd
    have e : takeQ c r s 48 = some ([Hx.hexNum (s.beg.drop 1 ++ [48])], ⟨nextQ c r s.col, []⟩) := by
      unfold takeQ
      rw [if_pos (by rw [h]; exact ⟨rfl, fun z => by cases z; omega⟩)]
      unfold digQ
      rw [if_neg (fun z => by cases z.1)]
      have e48 : hexQ r 48 = some 48 := by
        rw [hexQ_dgt]
        have : dgt r 48 = true := by unfold dgt; rw [decide_eq_true (show 48 ∈ hexes from (hexes_iff 48).mpr (by omega)), Bool.true_or]
        rw [if_pos this]
        rfl
      rw [e48]
      show (if s.beg ≠ [61] then _ else _) = _
      rw [if_pos (by rw [h]; simp)]
    rw [fin_cons, e]
    show ((finQ c r ⟨nextQ c r s.col, []⟩ []).map _).isSome = true
    rw [fin_nil rfl]
    rfl
/-- whether a text is the beginning of a right text, as the law asks it -/
def aliveB (c : QD) (r : RD) (l : List Nat) : Bool := moreQ.any fun m => (finQ c r opnQ (l ++ m)).isSome
theorem alive_fol {c : QD} (ok : c.Ok) (r : RD) (l : List Nat) : aliveB c r l = (folQ c r opnQ l).isSome := by
  unfold aliveB
  cases e : folQ c r opnQ l with
  | none =>
    rw [List.any_eq_false.mpr]
    · rfl
    · intro m _
      rw [finQ_app, e]
      exact Bool.false_ne_true
  | some p =>
    obtain ⟨m, hm, h⟩ := alive_of ok (folQ_w (r := r) l opnQ p.2 p.1 (FitW.opn c r) e)
    rw [List.any_eq_true.mpr ⟨m, hm, ?_⟩]
    · rfl
    · rw [finQ_app, e]
      show ((finQ c r p.2 m).map _).isSome = true
      rw [Option.isSome_map]
      exact h
/-- how far a text goes on -/
def goQ (c : QD) (r : RD) : RQ → List Nat → Nat
  | _, [] => 0
  | s, ch :: t => match takeQ c r s ch with
    | none => 0
    | some p => goQ c r p.2 t + 1
theorem goQ_le (c : QD) (r : RD) : ∀ (l : List Nat) (s : RQ), goQ c r s l ≤ l.length
  | [], _ => Nat.le_refl _
  | ch :: t, s => by
    unfold goQ
    cases takeQ c r s ch with
    | none => exact Nat.zero_le _
    | some p => exact Nat.succ_le_succ (goQ_le c r t p.2)
theorem fol_cons (c : QD) (r : RD) (s : RQ) (ch : Nat) (t : List Nat) : folQ c r s (ch :: t) = (takeQ c r s ch).bind fun p => (folQ c r p.2 t).map fun q => (p.1 ++ q.1, q.2) := rfl
theorem fol_take (c : QD) (r : RD) : ∀ (l : List Nat) (s : RQ) (k : Nat), k ≤ l.length → (folQ c r s (l.take k)).isSome = decide (k ≤ goQ c r s l)
  | l, s, 0, _ => by rw [List.take_zero, decide_eq_true (Nat.zero_le _)]; rfl
  | ch :: t, s, k + 1, h => by
    rw [List.take_succ_cons, fol_cons]
    unfold goQ
    cases takeQ c r s ch with
    | none =>
      rw [decide_eq_false (by simp)]
      rfl
    | some p =>
      show ((folQ c r p.2 (t.take k)).map _).isSome = decide (k + 1 ≤ goQ c r p.2 t + 1)
      rw [Option.isSome_map, fol_take c r t p.2 k (Nat.le_of_succ_le_succ h)]
      exact decide_eq_decide.mpr ⟨fun z => Nat.succ_le_succ z, fun z => Nat.le_of_succ_le_succ z⟩
theorem alive_take {c : QD} (ok : c.Ok) (r : RD) {l : List Nat} {k : Nat} (h : k ≤ l.length) : aliveB c r (l.take k) = decide (k ≤ goQ c r opnQ l) := by
  rw [alive_fol ok, fol_take c r l opnQ k h]

end
section
variable {w : World} {K : PySem.W.Frag} {mg : Str → Option Value} {base : Heap}
local macro_rules | `(tactic| walk_at "hcq") => `(tactic| first
  | assumption
  | ((refine WaysAt.same (H := ?xH) ?xb ?xa); (case xa => assumption); (case xb => walk_at "hcq")))
local macro_rules | `(tactic| walk_at "rd0") => `(tactic| first
  | ((with_reducible refine r_getQ (a := ?xa) (c := ?xc) ?x1 ?x2 ?_); (case x1 => rfl); (case x2 => walk_at "hcq"))
  | ((with_reducible refine r_methQ (a := ?xa) (c := ?xc) ?x1 ?x2 ?x3 ?_); (case x1 => rfl); (case x2 => walk_at "hcq"); (case x3 => exact ⟨fun _ => rfl, fun _ _ => rfl⟩))
  | (with_reducible refine r_fmtB ?_)
  | (with_reducible refine r_dget ?_)
  | (with_reducible refine r_m0 ?_)
  | (with_reducible refine r_makeK ?_)
  | (with_reducible refine r_cval ?_)
  | (with_reducible refine r_sfld ?_)
  | (with_reducible refine r_isiI ?_)
  | (with_reducible refine r_isiIB ?_)
  | (with_reducible refine r_isiBB ?_)
  | (with_reducible refine r_isiS ?_)
  | (with_reducible refine r_int1I ?_)
  | (with_reducible refine r_int1B ?_))

local macro_rules | `(tactic| walk_at "hcr") => `(tactic| first
  | assumption
  | ((refine RulesAt.same (H := ?xH) ?xb ?xa); (case xa => assumption); (case xb => walk_at "hcr")))
local macro_rules | `(tactic| walk_at "rd0") => `(tactic| first
  | ((with_reducible refine r_getR (a := ?xa) (r := ?xr) ?x1 ?x2 ?_); (case x1 => rfl); (case x2 => walk_at "hcr")))

set_option hygiene false in
local macro_rules | `(tactic| walk_at "n1") => `(tactic| (refine And.intro (by walk_at "sz") ?_; intro p1 np1; generalize hg : upd _ p1 _ = H1; have s1 := same_of hg np1; have v1 := at_of hg; clear hg))
set_option hygiene false in
local macro_rules | `(tactic| walk_at "n2") => `(tactic| (refine And.intro (by walk_at "sz") ?_; intro p2 np2; generalize hg : upd _ p2 _ = H2; have s2 := same_of hg np2; have v2 := at_of hg; clear hg))
set_option hygiene false in
local macro_rules | `(tactic| walk_at "n3") => `(tactic| (refine And.intro (by walk_at "sz") ?_; intro p3 np3; generalize hg : upd _ p3 _ = H3; have s3 := same_of hg np3; have v3 := at_of hg; clear hg))
set_option hygiene false in
local macro_rules | `(tactic| walk_at "n4") => `(tactic| (refine And.intro (by walk_at "sz") ?_; intro p4 np4; generalize hg : upd _ p4 _ = H4; have s4 := same_of hg np4; have v4 := at_of hg; clear hg))

/-! ### the law's wrong place -/
theorem r_any {H : Hp} {Q : VK} {a : Addr} {bs : List Bool} (h : SqL K H a (bs.map V.bl)) (q : Q (.bl (bs.any id)) H) : rAny K [.ref a] H Q := ⟨a, bs, rfl, h, q⟩
theorem r_notNNr {a : Addr} {H : Hp} {Q : VK} (h : Q (.bl true) H) : rNotNN (.ref a) .non H Q := ⟨rfl, h⟩
theorem r_notNNn {H : Hp} {Q : VK} (h : Q (.bl false) H) : rNotNN .non .non H Q := ⟨rfl, h⟩
def sp_l_alive (T : Txt K mg) : Sp := fun vs H Q _ => ∃ pc p c r l, vs = [.ref pc, .ref p, .str (tx l)] ∧ TupQ H pc c ∧ LrAt H p r ∧ l.length ≤ 250 ∧ ∀ H', Same H H' → Q (.bl (aliveB c r l)) H'
theorem len_l_alive (T : Txt K mg) (vs : List V) (H : Hp) (Q : VK) (E : XK) (h : sp_l_alive T vs H Q E) : vs.length = 3 := by
  obtain ⟨_, _, _, _, _, rfl, _⟩ := h
  rfl
theorem more_len : ∀ m ∈ moreQ, m.length ≤ 3 := by decide
def t_l_alive (T : Txt K mg) : TS := (tSeq (tAsg (tLst (tCons (tC (.str (Str.ofString ""))) (tCons (tC (.str (Str.ofString "A"))) (tCons (tC (.str (Str.ofString "0"))) (tCons (tC (.str (Str.ofString "00"))) (tCons (tC (.str (Str.ofString "\n"))) (tCons (tC (.str (Str.ofString "\nA"))) (tCons (tC (.str (Str.ofString "=\nA"))) tNil)))))))) (gName 3))
    (tRet (tCB (rAny K) (tCons (tLc (iSeqU K (tVar 3)) (gName 4) tYes (tOp rNotNN (tCall (sp_l_quoted_data T) [] E0 (tCons (tVar 0) (tCons (tVar 1) (tCons (tOp (rAddU K) (tVar 2) (tVar 4)) tNil)))) (tC .non)) [4]) tNil))))

theorem pure_l_alive (T : Txt K mg) (vs : List V) (H : Hp) (Q : VK) (E : XK) (h : sp_l_alive T vs H Q E) : t_l_alive T { nx := fun _ H' => Q .non H', rt := Q } (start ["_law_code", "_law_rules_here", "_law_text", "_law_more", "_law_some"] vs) H := by
  obtain ⟨pc, p, c, r, l, rfl, hpc, hp, hl, q⟩ := h
  unfold t_l_alive
  walk_at "rd"
  refine And.intro (by show 7 ≤ sizeLine; decide) fun M nM => ?_
  generalize hg : upd _ M _ = H1
  have s1 := same_of hg nM
  have v1 : H1 M = some (.lst ((moreQ.map tx).map V.str)) := at_of hg
  clear hg
  walk_at "rd"
  refine r_iseqL ?_
  walk_at "rd"
  refine ⟨M, rfl, ⟨_, ql v1⟩, fun D nD => ?_⟩
  refine c_it (walk_list (K := K) (a := M) (xs := (moreQ.map tx).map V.str)) (fun i G => G D = some (.lst (((moreQ.take i).map fun m => (finQ c r opnQ (l ++ m)).isSome).map V.bl)) ∧ Same H1 G) ⟨upd_same, same_new nD⟩ (fun i G _ h => ql (h.2 _ _ v1)) ?_ ?_
  · rintro i x G0 G hi ⟨hD, sG⟩ ⟨rfl, hx'⟩
    rw [List.map_map, List.getElem?_map] at hx'
    obtain ⟨m, hm, rfl⟩ := Option.map_eq_some_iff.mp hx'
    have lm := more_len m (List.mem_of_getElem? hm)
    have hi7 : i < 7 := hi
    have fin : ∀ (G2 : Hp), Same G G2 → ∃ acc, G2 D = some (.lst acc) ∧ acc.length < sizeLine ∧ upd G2 D (.lst (acc ++ [.bl (finQ c r opnQ (l ++ m)).isSome])) D = some (.lst (((moreQ.take (i + 1)).map fun m => (finQ c r opnQ (l ++ m)).isSome).map V.bl)) ∧ Same H1 (upd G2 D (.lst (acc ++ [.bl (finQ c r opnQ (l ++ m)).isSome]))) := by
      intro G2 s2
      refine ⟨_, s2 _ _ hD, ?_, ?_, same_mut (sG.trans s2) nD⟩
      · simp only [List.length_map, List.length_take]
        exact Nat.lt_of_le_of_lt (show min i _ ≤ 7 by omega) (by rw [sizeLine_eq]; decide)
      · rw [upd_same, List.take_add_one, hm, List.map_append, List.map_append]
        rfl
    have sH := s1.trans sG
    walk_at "rd"
    refine ⟨rfl, ?_⟩
    walk_at "rd"
    simp only [Function.comp]
    refine r_addUS (smallS (by rw [tx_len, tx_len]; omega)) ?_
    rw [tx_app]
    walk_at "rd"
    refine ⟨pc, p, c, r, l ++ m, rfl, sH _ _ hpc, sH _ _ hp, by rw [List.length_append]; omega, fun e H2 s2 => ?_, fun ds e _ D2 H2 s2 nD2 hD2 => ?_⟩
    · walk_at "rd"
      refine r_notNNn ?_
      have k := fin H2 s2
      rw [e] at k
      exact k
    · walk_at "rd"
      refine r_notNNr ?_
      have k := fin H2 s2
      rw [e] at k
      exact k
  rintro G ⟨hD, sG⟩
  walk_at "rd"
  refine r_any (ql hD) ?_
  rw [show ((moreQ.take ((moreQ.map tx).map V.str).length).map fun m => (finQ c r opnQ (l ++ m)).isSome).any id = aliveB c r l from by
    unfold aliveB
    rw [List.any_map]
    rfl]
  exact q G (s1.trans sG)
theorem ok_l_alive (T : Txt K mg) : FnOk P w K mg base CX0 3 T.l_alive_a T.l_alive_d ["_law_code", "_law_rules_here", "_law_text"] (sp_l_alive T) := by
  refine T.l_alive_f.ok sc_l_alive (fun vs H Q E h => len_l_alive T vs H Q E h) (fun cdv A outer s H vs Q E hr h => ⟨t_l_alive T, PSs.nox ?_, pure_l_alive T vs H Q E h⟩)
  have hu := hu64 hr
  exact (pss_cons (ps_set (i := 3) sc_l_alive.nd rfl (.inl rfl) (pe_lst (pa_cons pe_str (pa_cons pe_str (pa_cons pe_str (pa_cons pe_str (pa_cons pe_str (pa_cons pe_str (pa_cons pe_str pa_nil)))))))))
      (pss_one (ps_ret (pe_callB (cr_any rfl) (by rfl) T.n_any (by decide +kernel) (pa_cons (pe_lc (own := [("_law_some", 4)]) (g := (gName 4)) (tt := tYes) rfl sc_l_alive.nd (pi_seqU (pv 3)) (blkOk_by (own := [("_law_some", 4)]) (N := ["_law_code", "_law_rules_here", "_law_text", "_law_more", "_law_some"]) (sc := defScope s_l_alive) (by decide +kernel)) (fun _ _ _ _ _ => (pg_name (i := 4) sc_l_alive.nd rfl (.inl rfl))) (fun _ _ _ _ _ => pts_nil) (fun _ _ _ _ _ => (pe_cmpR op_notN (pe_call (ok_l_quoted_data T) (hr.mono (by decide)) (by rfl) T.l_quoted_data_g T.l_quoted_data_f.kp T.l_quoted_data_b .nil pass0 (pa_cons (pv 0) (pa_cons (pv 1) (pa_cons (pe_op op_addU (pv 2) (pv 4)) pa_nil)))) pe_non (nomark _)))) pa_nil)))))

def endK (c : QD) (r : RD) (l : List Nat) : Str := if goQ c r opnQ l = l.length then Str.ofString "end" else kindQ (l.getD (goQ c r opnQ l) 0)
def sp_l_wrong (T : Txt K mg) : Sp := fun vs H Q _ => ∃ pc p c r l, vs = [.ref pc, .ref p, .str (tx l)] ∧ c.Ok ∧ TupQ H pc c ∧ LrAt H p r ∧ l.length ≤ 200 ∧ ((finQ c r opnQ l).isSome = true → ∀ H', Same H H' → Q .non H') ∧
  ((finQ c r opnQ l).isSome = false → ∀ D H', Same H H' → H D = none → H' D = some (.tup [.int (goQ c r opnQ l : Nat), .str (endK c r l)]) → Q (.ref D) H')
theorem len_l_wrong (T : Txt K mg) (vs : List V) (H : Hp) (Q : VK) (E : XK) (h : sp_l_wrong T vs H Q E) : vs.length = 3 := by
  obtain ⟨_, _, _, _, _, rfl, _⟩ := h
  rfl
def t_l_wrong (T : Txt K mg) : TS := (tSeq (tIfS (tTest (tOp rNotNN (tCall (sp_l_quoted_data T) [] E0 (tCons (tVar 0) (tCons (tVar 1) (tCons (tVar 2) tNil)))) (tC .non))) (tRet (tC .non)) tNext)
    (tSeq (tAsg (tCB (rMax K) (tCons (tLc (iRng1 (tCons (tOp (rAddU K) (tCB (rLenU K) (tCons (tVar 2) tNil)) (tC (.int 1))) tNil)) (gName 4) ((tB (tCall (sp_l_alive T) [] E0 (tCons (tVar 0) (tCons (tVar 1) (tCons (tSl (rSlU K) (tVar 2) tNoPart (tPart (tVar 4))) tNil)))))) (tVar 4) [4]) tNil)) (gName 3))
    (tSeq (tIfS (tTest (tOp (rEqU K) (tVar 3) (tCB (rLenU K) (tCons (tVar 2) tNil)))) (tRet (tTup (tCons (tVar 3) (tCons (tC (.str (Str.ofString "end"))) tNil)))) tNext)
    (tRet (tTup (tCons (tVar 3) (tCons (tIf (tTest (tOp (rEqU K) (tOp (rIx K) (tVar 2) (tVar 3)) (tC (.str (Str.ofString "\n"))))) (tC (.str (Str.ofString "line"))) (tC (.str (Str.ofString "sign")))) tNil)))))))

theorem pure_l_wrong (T : Txt K mg) (vs : List V) (H : Hp) (Q : VK) (E : XK) (h : sp_l_wrong T vs H Q E) : t_l_wrong T { nx := fun _ H' => Q .non H', rt := Q } (start ["_law_code", "_law_rules_here", "_law_text", "_law_place", "_law_many"] vs) H := by
  obtain ⟨pc, p, c, r, l, rfl, ok, hpc, hp, hl, qn, qs⟩ := h
  have zl : (tx l).length ≤ sizeLine := smallS (by rw [tx_len]; omega)
  have gl := goQ_le c r l opnQ
  unfold t_l_wrong
  walk_at "rd"
  refine ⟨pc, p, c, r, l, rfl, hpc, hp, by omega, fun e H1 s1 => ?_, fun ds e _ D1 H1 s1 nD1 hD1 => ?_⟩
  rotate_left
  · walk_at "rd"
    refine r_notNNr ?_
    walk_at "rd"
    exact qn (by rw [e]; rfl) H1 s1
  walk_at "rd"
  refine r_notNNn ?_
  walk_at "rd"
  refine r_lenUS zl ?_
  rw [tx_len]
  walk_at "rd"
  refine r_one ⟨by omega, by omega⟩ fun D nD => ?_
  have nD0 := s1.free nD
  refine c_it (walk_range (lo := 0) (n := ((l.length : Int) + 1).toNat)) (fun i G => G D = some (.lst ((List.range (min i (goQ c r opnQ l + 1))).map nv)) ∧ Same H1 G) ⟨upd_same, same_new nD⟩ (fun _ _ _ _ => trivial) ?_ ?_
  · rintro i x G0 G hi ⟨hD, sG⟩ ⟨rfl, rfl⟩
    have hi' : i ≤ l.length := by omega
    have S := s1.trans sG
    walk_at "rd"
    refine ⟨rfl, ?_⟩
    walk_at "rd"
    rw [Int.zero_add]
    refine r_slUS zl ?_
    rw [cut_take hi']
    walk_at "rd"
    refine ⟨pc, p, c, r, l.take i, rfl, S _ _ hpc, S _ _ hp, by rw [List.length_take]; omega, fun H2 s2 => ?_⟩
    rw [alive_take ok r hi']
    walk_at "rd"
    by_cases h : i ≤ goQ c r opnQ l
    · rw [decide_eq_true h]
      walk_at "rd"
      have ev : (fun i : Nat => V.int (0 + (i : Int))) i = nv i := by
        show V.int (0 + (i : Int)) = _
        rw [Int.zero_add]
      rw [ev]
      refine ⟨_, s2 _ _ hD, ?_, ?_, same_mut (sG.trans s2) nD⟩
      · simp only [List.length_map, List.length_range]
        exact Nat.lt_of_le_of_lt (show min i _ ≤ 300 by omega) (by rw [sizeLine_eq]; decide)
      · rw [upd_same, show min (i + 1) (goQ c r opnQ l + 1) = i + 1 by omega, show min i (goQ c r opnQ l + 1) = i by omega, List.range_succ, List.map_append]
        rfl
    · rw [decide_eq_false h]
      walk_at "rd"
      refine ⟨?_, sG.trans s2⟩
      rw [show min (i + 1) (goQ c r opnQ l + 1) = min i (goQ c r opnQ l + 1) by omega]
      exact s2 _ _ hD
  rintro G ⟨hD, sG⟩
  rw [show min ((l.length : Int) + 1).toNat (goQ c r opnQ l + 1) = goQ c r opnQ l + 1 by omega] at hD
  walk_at "rd"
  have hD' : G D = some (.lst (((List.range (goQ c r opnQ l + 1)).map fun n : Nat => (n : Int)).map V.int)) := by rw [hD, List.map_map]; rfl
  refine ⟨D, _, rfl, ql hD', by rw [List.length_map, List.length_range]; omega, fun m hm hmax => ?_⟩
  obtain ⟨n, hn, rfl⟩ := List.mem_map.mp hm
  have e1 : n = goQ c r opnQ l := by
    have h1 := List.mem_range.mp hn
    have h2 := hmax (goQ c r opnQ l : Nat) (List.mem_map.mpr ⟨_, List.mem_range.mpr (Nat.lt_succ_self _), rfl⟩)
    omega
  subst e1
  have S := s1.trans sG
  have qs := qs (by rw [e]; rfl)
  walk_at "rd"
  refine r_lenUS zl ?_
  rw [tx_len]
  walk_at "rd"
  unfold endK at qs
  refine r_iteD (fun h => ?_) (fun h => ?_)
  · rw [if_pos (by omega)] at qs
    walk_at "rd"
    refine And.intro (two_l rfl) fun o no => ?_
    exact qs o _ (S.trans (same_new no)) (S.free no) upd_same
  · rw [if_neg (by omega)] at qs
    have hlt : goQ c r opnQ l < l.length := by omega
    have hgt : l[goQ c r opnQ l]? = some (l.getD (goQ c r opnQ l) 0) := by rw [List.getD_eq_getElem?_getD, List.getElem?_eq_getElem hlt]; rfl
    generalize l.getD (goQ c r opnQ l) 0 = ch at hgt qs
    have hat : atI (tx l).cps.toList ((goQ c r opnQ l : Nat) : Int) = some ch := by rw [tx_list]; exact atI_nat hgt
    generalize goQ c r opnQ l = g at *
    unfold kindQ at qs
    walk_at "rd"
    refine r_ixS zl hat ?_
    walk_at "rd"
    rw [show decide ((⟨#[ch]⟩ : Str) = Str.ofString "\n") = decide (ch = 10) from by rw [nl_tx]; exact (tx_dec [ch] [10]).trans (decide_eq_decide.mpr ⟨fun z => by cases z; rfl, fun z => by rw [z]⟩)]
    refine r_iteD (fun h2 => ?_) (fun h2 => ?_)
    · rw [if_pos h2] at qs
      walk_at "rd"
      refine And.intro (two_l rfl) fun o no => ?_
      exact qs o _ (S.trans (same_new no)) (S.free no) upd_same
    · rw [if_neg h2] at qs
      walk_at "rd"
      refine And.intro (two_l rfl) fun o no => ?_
      exact qs o _ (S.trans (same_new no)) (S.free no) upd_same
theorem ok_l_wrong (T : Txt K mg) : FnOk P w K mg base CX0 4 T.l_wrong_a T.l_wrong_d ["_law_code", "_law_rules_here", "_law_text"] (sp_l_wrong T) := by
  refine T.l_wrong_f.ok sc_l_wrong (fun vs H Q E h => len_l_wrong T vs H Q E h) (fun cdv A outer s H vs Q E hr h => ⟨t_l_wrong T, PSs.nox ?_, pure_l_wrong T vs H Q E h⟩)
  have hu := hu64 hr
  exact (pss_cons (ps_if (pt_cmpR op_notN (pe_call (ok_l_quoted_data T) (hr.mono (by decide)) (by rfl) T.l_quoted_data_g T.l_quoted_data_f.kp T.l_quoted_data_b .nil pass0 (pa_cons (pv 0) (pa_cons (pv 1) (pa_cons (pv 2) pa_nil)))) pe_non (nomark _)) (pss_one (ps_ret pe_non)) pss_nil)
      (pss_cons (ps_set (i := 3) sc_l_wrong.nd rfl (.inl rfl) (pe_callB (cr_max rfl) (by rfl) T.n_max (by decide +kernel) (pa_cons (pe_lc (own := [("_law_many", 4)]) (g := (gName 4)) (tt := ((tB (tCall (sp_l_alive T) [] E0 (tCons (tVar 0) (tCons (tVar 1) (tCons (tSl (rSlU K) (tVar 2) tNoPart (tPart (tVar 4))) tNil))))))) rfl sc_l_wrong.nd (pi_range1 (by rfl) T.n_range (pa_cons (pe_op op_addU (pe_callB c_lenU (by rfl) T.n_len (by decide +kernel) (pa_cons (pv 2) pa_nil)) pe_int) pa_nil)) (blkOk_by (own := [("_law_many", 4)]) (N := ["_law_code", "_law_rules_here", "_law_text", "_law_place", "_law_many"]) (sc := defScope s_l_wrong) (by decide +kernel)) (fun _ _ _ _ _ => (pg_name (i := 4) sc_l_wrong.nd rfl (.inl rfl))) (fun _ _ _ _ _ => pts_one (pt_val (pe_call (ok_l_alive T) (hr.mono (by decide)) (by rfl) T.l_alive_g T.l_alive_f.kp T.l_alive_b .nil pass0 (pa_cons (pv 0) (pa_cons (pv 1) (pa_cons (pe_slice sl_U (pv 2) po_none (po_some (pv 4))) pa_nil)))))) (fun _ _ _ _ _ => (pv 4))) pa_nil)))
      (pss_cons (ps_if (pt_cmpR (op_eqU hu) (pv 3) (pe_callB c_lenU (by rfl) T.n_len (by decide +kernel) (pa_cons (pv 2) pa_nil)) (nomark _)) (pss_one (ps_ret (pe_tup (pa_cons (pv 3) (pa_cons pe_str pa_nil))))) pss_nil)
      (pss_one (ps_ret (pe_tup (pa_cons (pv 3) (pa_cons (pe_ifExp (pt_cmpR (op_eqU hu) (pe_ix ix_seq (pv 2) (pv 3) (fun _ _ => rfl)) pe_str (nomark _)) pe_str pe_str) pa_nil))))))))


end
section
variable {w : World} {K : PySem.W.Frag} {mg : Str → Option Value} {base : Heap}
local macro_rules | `(tactic| walk_at "hcq") => `(tactic| first
  | assumption
  | ((refine WaysAt.same (H := ?xH) ?xb ?xa); (case xa => assumption); (case xb => walk_at "hcq")))
local macro_rules | `(tactic| walk_at "rd0") => `(tactic| first
  | ((with_reducible refine r_getQ (a := ?xa) (c := ?xc) ?x1 ?x2 ?_); (case x1 => rfl); (case x2 => walk_at "hcq"))
  | ((with_reducible refine r_methQ (a := ?xa) (c := ?xc) ?x1 ?x2 ?x3 ?_); (case x1 => rfl); (case x2 => walk_at "hcq"); (case x3 => exact ⟨fun _ => rfl, fun _ _ => rfl⟩))
  | (with_reducible refine r_fmtB ?_)
  | (with_reducible refine r_dget ?_)
  | (with_reducible refine r_m0 ?_)
  | (with_reducible refine r_makeK ?_)
  | (with_reducible refine r_cval ?_)
  | (with_reducible refine r_sfld ?_)
  | (with_reducible refine r_isiI ?_)
  | (with_reducible refine r_isiIB ?_)
  | (with_reducible refine r_isiBB ?_)
  | (with_reducible refine r_isiS ?_)
  | (with_reducible refine r_int1I ?_)
  | (with_reducible refine r_int1B ?_))

local macro_rules | `(tactic| walk_at "hcr") => `(tactic| first
  | assumption
  | ((refine RulesAt.same (H := ?xH) ?xb ?xa); (case xa => assumption); (case xb => walk_at "hcr")))
local macro_rules | `(tactic| walk_at "rd0") => `(tactic| first
  | ((with_reducible refine r_getR (a := ?xa) (r := ?xr) ?x1 ?x2 ?_); (case x1 => rfl); (case x2 => walk_at "hcr")))

set_option hygiene false in
local macro_rules | `(tactic| walk_at "n1") => `(tactic| (refine And.intro (by walk_at "sz") ?_; intro p1 np1; generalize hg : upd _ p1 _ = H1; have s1 := same_of hg np1; have v1 := at_of hg; clear hg))
set_option hygiene false in
local macro_rules | `(tactic| walk_at "n2") => `(tactic| (refine And.intro (by walk_at "sz") ?_; intro p2 np2; generalize hg : upd _ p2 _ = H2; have s2 := same_of hg np2; have v2 := at_of hg; clear hg))
set_option hygiene false in
local macro_rules | `(tactic| walk_at "n3") => `(tactic| (refine And.intro (by walk_at "sz") ?_; intro p3 np3; generalize hg : upd _ p3 _ = H3; have s3 := same_of hg np3; have v3 := at_of hg; clear hg))
set_option hygiene false in
local macro_rules | `(tactic| walk_at "n4") => `(tactic| (refine And.intro (by walk_at "sz") ?_; intro p4 np4; generalize hg : upd _ p4 _ = H4; have s4 := same_of hg np4; have v4 := at_of hg; clear hg))

/-! ### readers -/
theorem QRStAt.ex {H : Hp} {st : Addr} {n : Nat} {b : List Nat} (h : QRStAt H st n b) : ∃ xs, H st = some (.tup xs) := ⟨_, h⟩
theorem QRStAt.move {H H' : Hp} {st : Addr} {n : Nat} {b : List Nat} (h : QRStAt H st n b) (k : ∀ o, H st = some o → H' st = some o) : QRStAt H' st n b := k _ h
theorem QuotAt.sameI {T : Txt K mg} {H H' : Hp} {a w C dx : Addr} {fs : List (Str × V)} {c : QD} (h : QuotAt T H a c) (s : SameB w H H') (hw : H w = some (.ins C dx fs)) (h2 : fs.lookup ("ways" : Str) = none) : QuotAt T H' a c := by
  obtain ⟨o, kp, ⟨dx2, wp, g1, g2⟩, g3⟩ := h
  exact ⟨o, kp, ⟨dx2, wp, s _ _ (ne_ob g1 hw (ins_ne (n := "ways") (v := .ref wp) rfl h2)) g1, s _ _ (ne_ob g2 hw fun z => nomatch z) g2⟩, s _ _ (ne_ob g3 hw fun z => nomatch z) g3⟩
theorem takeQ_len {c : QD} {r : RD} {s s' : RQ} {ch : Nat} {ds : List Nat} (h : takeQ c r s ch = some (ds, s')) : ds.length ≤ 1 := by
  unfold takeQ digQ at h
  repeat' split at h
  all_goals first | (cases h; done) | (cases h; simp)
theorem folQ_len {c : QD} {r : RD} : ∀ (l : List Nat) (s s' : RQ) (ds : List Nat), folQ c r s l = some (ds, s') → ds.length ≤ l.length
  | [], s, s', ds, h => by cases h; exact Nat.le_refl _
  | ch :: t, s, s', ds, h => by
    rw [fol_cons] at h
    cases e : takeQ c r s ch with
    | none => rw [e] at h; cases h
    | some p =>
      rw [e] at h
      obtain ⟨q, hq, e2⟩ := Option.map_eq_some_iff.mp (show (folQ c r p.2 t).map (fun q => (p.1 ++ q.1, q.2)) = some (ds, s') from h)
      cases e2
      have h1 := takeQ_len (ds := p.1) (s' := p.2) e
      have h2 := folQ_len t p.2 q.2 q.1 hq
      rw [List.length_append, List.length_cons]
      omega
theorem fol_one (c : QD) (r : RD) (s : RQ) (ch : Nat) : folQ c r s [ch] = takeQ c r s ch := by
  rw [fol_cons]
  cases takeQ c r s ch with
  | none => rfl
  | some p =>
    show some (p.1 ++ [], p.2) = some p
    rw [List.append_nil]
theorem folQ_snoc {c : QD} {r : RD} {s s' : RQ} {l ds : List Nat} {i ch : Nat} (hli : l[i]? = some ch) (h : folQ c r s (l.take i) = some (ds, s')) :
    (takeQ c r s' ch = none → folQ c r s l = none) ∧ ∀ d2 t2, takeQ c r s' ch = some (d2, t2) → folQ c r s (l.take (i + 1)) = some (ds ++ d2, t2) := by
  have e1 : l.take (i + 1) = l.take i ++ [ch] := by rw [List.take_add_one, hli]; rfl
  have e2 : folQ c r s (l.take (i + 1)) = (takeQ c r s' ch).map fun q => (ds ++ q.1, q.2) := by
    rw [e1, folQ_app, h]
    show (folQ c r s' [ch]).map _ = _
    rw [fol_one]
  refine ⟨fun z => ?_, fun d2 t2 z => ?_⟩
  · rw [← List.take_append_drop (i + 1) l, folQ_app, e2, z]
    rfl
  · rw [e2, z]
    rfl
def sp_followed (T : Txt K mg) : Sp := fun vs H Q E => ∃ a rr st c r s l, ∃ pl : Int, vs = [.ref a, .ref rr, .ref st, .int pl, .str (tx l)] ∧ QuotAt T H a c ∧ RulesAt T H rr r ∧ QRStAt H st s.col s.beg ∧ FitQ s ∧ l.length ≤ 1000 ∧
  (folQ c r s l = none → WrE T E H) ∧
  ∀ ds s', folQ c r s l = some (ds, s') → ∀ p D st' H', Same H H' → H p = none → H D = none → (st' = st ∨ H st' = none) → H' p = some (.tup [.ref D, .ref st']) → H' D = some (.lst (ds.map nv)) → QRStAt H' st' s'.col s'.beg → Q (.ref p) H'
theorem len_followed (T : Txt K mg) (vs : List V) (H : Hp) (Q : VK) (E : XK) (h : sp_followed T vs H Q E) : vs.length = 5 := by
  obtain ⟨_, _, _, _, _, _, _, _, rfl, _⟩ := h
  rfl
def t_followed (T : Txt K mg) (E : XK) : TS := (tSeq (tAsg (tLst tNil) (gName 5))
    (tSeq (tFor (iEnumA K (tCons (tVar 4) tNil)) (gTup K 2 (gCons (gName 6) (gCons (gName 7) gNil))) (tSeq (tAsg (tMeth T.C_Quoted "take" (sp_Quoted_take T) [] E0 (tVar 0) (tCons (tVar 1) (tCons (tVar 2) (tCons (tVar 7) tNil)))) (gName 8))
    (tSeq (tIfS (tTest (tOp rIsNN (tVar 8) (tC .non))) (tRaiseE E (tMkN T.X_Wrong ["place", "kind"] (tCons (tOp (rAddU K) (tVar 3) (tVar 6)) (tCons (tMeth T.C_Quoted "kind_of" (sp_Quoted_kind_of T) [] E0 (tVar 0) (tCons (tVar 1) (tCons (tVar 7) tNil))) tNil)))) tNext)
    (tSeq (tAsg (tVar 8) (gTup K 2 (gCons (gName 9) (gCons (gName 2) gNil))))
    (tAug 5 (tVar 9) rExt2)))))
    (tRet (tTup (tCons (tVar 5) (tCons (tVar 2) tNil))))))

theorem pure_followed (T : Txt K mg) (vs : List V) (H : Hp) (Q : VK) (E : XK) (h : sp_followed T vs H Q E) : t_followed T E { nx := fun _ H' => Q .non H', rt := Q } (start ["code", "rules", "state", "place", "text", "data", "step", "character", "found", "more"] vs) H := by
  obtain ⟨a, rr, st, c, r, s, l, pl, rfl, hc, hr, hst, F, hl, qn, qs⟩ := h
  unfold t_followed
  walk_at "rd"
  refine And.intro (Nat.zero_le _) fun D nD => ?_
  generalize hg : upd H D _ = H1
  have s1 := same_of hg nD
  have v1 := at_of hg
  clear hg
  walk_at "rd"
  refine r_enumAS ?_
  walk_at "rd"
  refine ⟨tx l, rfl, ?_⟩
  refine f_it walk_pairs (fun i σ G => ∃ v6 v7 v8 v9 st' ds s', σ = [some (.ref a), some (.ref rr), some (.ref st'), some (.int pl), some (.str (tx l)), some (.ref D), v6, v7, v8, v9] ∧ Same H G ∧ (st' = st ∨ H st' = none) ∧ G D = some (.lst (ds.map nv)) ∧ QRStAt G st' s'.col s'.beg ∧ FitQ s' ∧ folQ c r s (l.take i) = some (ds, s'))
    ⟨none, none, none, none, st, [], s, rfl, s1, .inl rfl, v1, hst.move fun o e => s1 _ _ e, F, rfl⟩ (fun _ _ _ _ _ => trivial) ?_ ?_
  · rintro i x σ G G' hi ⟨v6, v7, v8, v9, st', ds, s', rfl, sG, hor, hD, hst', F', hfo⟩ ⟨Tp, u, w, rfl, nT, hG', ea, eb⟩
    have hsT := same_of hG'.symm nT
    have hvT := at_of hG'.symm
    clear hG'
    cases ea
    unfold sgn at eb
    obtain ⟨ch, hch, rfl⟩ := Option.map_eq_some_iff.mp eb
    have hli : l[i]? = some ch := by
      have e : (tx l).cps[i]? = l[i]? := by simp [tx]
      rw [← e]
      exact hch
    have sn := folQ_snoc hli hfo
    have sG' := sG.trans hsT
    have hc' := hc.same sG'
    have hr' := hr.same sG'
    have hD' := hsT _ _ hD
    walk_at "rd"
    have hw' := hc'.ways
    walk_at "rd"
    refine ⟨a, rr, c, r, st', s', ch, rfl, hc'.ways, hr', hsT _ _ hst', F', trivial, fun en G2 s2 => ?_, fun d2 t2 es p L st2 G2 s2 np nL hor2 hp hL hst2 => ?_⟩
    · walk_at "rd"
      have hw2 := hc'.ways.same s2
      refine r_isNNn ?_
      walk_at "rd"
      refine r_raise (r_mkN (r_cons ?_))
      walk_at "rd"
      refine ⟨_, _, ch, rfl, ?_⟩
      walk_at "rd"
      refine ⟨rfl, fun z => (nomatch z), fun _ d nd => ?_⟩
      exact qn (sn.1 en) d _ _ (sG'.trans (s2.trans (same_new nd))) upd_same
    · have e2 := sn.2 _ _ es
      walk_at "rd"
      refine r_isNNr ?_
      walk_at "rd"
      have hD2 := s2 _ _ hD'
      have ll := folQ_len _ _ _ _ e2
      rw [List.length_append] at ll
      have lt := List.length_take_le (i + 1) l
      have lt2 : (l.take (i + 1)).length ≤ l.length := by rw [List.length_take]; omega
      refine r_ext hD2 hL (by rw [List.length_map, List.length_map]; exact smallS (by omega)) ?_
      rw [← List.map_append]
      have nst : st2 ≠ D := by
        obtain ⟨xs, e⟩ := hst2.ex
        exact ne_ob e hD2 fun z => nomatch z
      refine ⟨_, _, _, _, st2, ds ++ d2, t2, rfl, same_mut (sG'.trans s2) nD, hor2.elim (fun z => z ▸ hor) fun z => .inr (sG'.free z), upd_same, hst2.move fun o e => ?_, FitQ.take es, e2⟩
      rw [upd_ne nst]
      exact e
  · rintro σ G ⟨v6, v7, v8, v9, st', ds, s', rfl, sG, hor, hD, hst', F', hfo⟩
    walk_at "rd"
    refine And.intro (by show 2 ≤ sizeLine; decide) fun p np => ?_
    generalize hg : upd G p _ = H3
    have s3 := same_of hg np
    have v3 := at_of hg
    clear hg
    rw [show (tx l).cps.size = l.length by simp [tx], List.take_length] at hfo
    exact qs ds s' hfo p D st' H3 (sG.trans s3) (sG.free np) nD hor v3 (s3 _ _ hD) (hst'.move fun o e => s3 _ _ e)
theorem ok_followed (T : Txt K mg) : FnOk P w K mg base (L2.CX P w) 7 T.followed_a T.followed_d ["code", "rules", "state", "place", "text"] (sp_followed T) := by
  refine T.followed_f.ok sc_followed (fun vs H Q E h => len_followed T vs H Q E h) (fun cdv A outer s H vs Q E hr h => ⟨t_followed T E, ?_, pure_followed T vs H Q E h⟩)
  have hu := hu64 hr
  exact (pss_cons (ps_set (i := 5) sc_followed.nd rfl (.inl rfl) (pe_lst pa_nil))
      (pss_cons (ps_for (passes_of rfl) rfl (pi_enumA (by rfl) T.n_enumerate (pa_cons (pv 4) pa_nil)) (pg_tup (by rfl) (pgs_cons (pg_name (i := 6) sc_followed.nd rfl (.inl rfl)) (pgs_cons (pg_name (i := 7) sc_followed.nd rfl (.inl rfl)) pgs_nil))) (pss_cons (ps_set (i := 8) sc_followed.nd rfl (.inl rfl) (pe_meth (pv 0) T.C_Quoted_c T.Quoted_take_m (ok_Quoted_take T) (hr.mono (by decide)) T.Quoted_take_b .nil pass0 (pa_cons (pv 1) (pa_cons (pv 2) (pa_cons (pv 7) pa_nil)))))
      (pss_cons (ps_if (pt_cmpR op_isN (pv 8) pe_non (nomark _)) (pss_one (ps_raise rfl (takes_of rfl rfl rfl rfl) (pmk_errN (k := 0) (fls := ["place", "kind"]) PySem.PxE.bas_ValueError T.X_Wrong_F.oex T.X_Wrong_F.iC T.X_Wrong_F.tI (xi_Wrong T w) (hr.mono (by decide)) (by rfl) T.X_Wrong_g (pa_cons (pe_op op_addU (pv 3) (pv 6)) (pa_cons (pe_meth (pv 0) T.C_Quoted_c T.Quoted_kind_of_m (ok_Quoted_kind_of T) (hr.mono (by decide)) T.Quoted_kind_of_b .nil pass0 (pa_cons (pv 1) (pa_cons (pv 7) pa_nil))) pa_nil)) (by decide)))) pss_nil)
      (pss_cons (ps_asg (pv 8) (pg_tup (by rfl) (pgs_cons (pg_name (i := 9) sc_followed.nd rfl (.inl rfl)) (pgs_cons (pg_name (i := 2) sc_followed.nd rfl (.inl rfl)) pgs_nil))))
      (pss_one (ps_aug (i := 5) sc_followed.nd rfl (.inl rfl) (pv 9) ip_ext))))))
      (pss_one (ps_ret (pe_tup (pa_cons (pv 5) (pa_cons (pv 2) pa_nil)))))))

def ReAt (T : Txt K mg) (H : Hp) (w ca ra st fo : Addr) (m : Nat) (cl : Bool) : Prop := ∃ dx, H w = some (.ins T.C_Reader dx [("own_code", .ref ca), ("rules_now", .ref ra), ("now", .ref st), ("found", .ref fo), ("many", .int m), ("is_closed", .bl cl)])
theorem ReAt.move {T : Txt K mg} {H H' : Hp} {w ca ra st fo : Addr} {m : Nat} {cl : Bool} (h : ReAt T H w ca ra st fo m cl) (k : ∀ o, H w = some o → H' w = some o) : ReAt T H' w ca ra st fo m cl := by
  obtain ⟨dx, e⟩ := h
  exact ⟨dx, k _ e⟩
theorem ReAt.same {T : Txt K mg} {H H' : Hp} {w ca ra st fo : Addr} {m : Nat} {cl : Bool} (h : ReAt T H w ca ra st fo m cl) (s : Same H H') : ReAt T H' w ca ra st fo m cl := h.move fun o e => s _ _ e
def FoAt (H : Hp) (fo : Addr) (f : List Nat) : Prop := H fo = some (.lst (f.map nv))
def ClE (T : Txt K mg) (E : XK) (H : Hp) : Prop := ∀ H', Same H H' → E (.ref T.X_Closed) none H'
def sp_Reader_need_open (T : Txt K mg) : Sp := fun vs H Q E => ∃ w ca ra st fo m cl, vs = [.ref w] ∧ ReAt T H w ca ra st fo m cl ∧ (cl = true → ClE T E H) ∧ (cl = false → Q .non H)
theorem len_Reader_need_open (T : Txt K mg) (vs : List V) (H : Hp) (Q : VK) (E : XK) (h : sp_Reader_need_open T vs H Q E) : vs.length = 1 := by
  obtain ⟨_, _, _, _, _, _, _, rfl, _⟩ := h
  rfl
def t_Reader_need_open (T : Txt K mg) (E : XK) : TS := (tIfS (tB (tFld K (tVar 0) "is_closed")) (tRaiseE E (tMkN T.X_Closed [] tNil)) tNext)

theorem pure_Reader_need_open (T : Txt K mg) (vs : List V) (H : Hp) (Q : VK) (E : XK) (h : sp_Reader_need_open T vs H Q E) : t_Reader_need_open T E { nx := fun _ H' => Q .non H', rt := Q } (start ["self"] vs) H := by
  obtain ⟨w, ca, ra, st, fo, m, cl, rfl, ⟨dx, hw⟩, qe, q⟩ := h
  unfold t_Reader_need_open
  walk_at "rd"
  refine r_fldI rfl hw T.C_Reader_c T.C_Reader_n_is_closed rfl ?_
  cases cl with
  | true =>
    walk_at "rd"
    refine r_raise (r_mkN (r_nil ⟨rfl, fun _ => qe rfl H (Same.refl H), fun z => absurd rfl z⟩))
  | false =>
    walk_at "rd"
    exact q rfl
theorem ok_Reader_need_open (T : Txt K mg) : FnOk P w K mg base (L2.CX P w) 2 T.Reader_need_open_a T.Reader_need_open_d ["self"] (sp_Reader_need_open T) := by
  refine T.Reader_need_open_f.ok sc_Reader_need_open (fun vs H Q E h => len_Reader_need_open T vs H Q E h) (fun cdv A outer s H vs Q E hr h => ⟨t_Reader_need_open T E, ?_, pure_Reader_need_open T vs H Q E h⟩)
  have hu := hu64 hr
  exact (pss_one (ps_if (pt_val (pe_fld (pv 0) rfl)) (pss_one (ps_raise rfl (takes_of rfl rfl rfl rfl) (pmk_errN0 (k := 0) PySem.PxE.bas_RuntimeError T.X_Closed_F.oex T.X_Closed_F.iC T.X_Closed_F.tI (xi_Closed T w) (hr.mono (by decide)) (by rfl) T.X_Closed_g))) pss_nil))

def sp_Reader___init__ (T : Txt K mg) : Sp := fun vs H Q E => ∃ w a rr dx c r, vs = [.ref w, .ref a, .ref rr] ∧ H w = some (.ins T.C_Reader dx []) ∧ QuotAt T H a c ∧ RulesAt T H rr r ∧ r.skip = [] ∧
  ∀ H' st fo, SameB w H H' → ReAt T H' w a rr st fo 0 false → QRStAt H' st 0 [] → FoAt H' fo [] → H st = none → H fo = none → Q .non H'
theorem len_Reader___init__ (T : Txt K mg) (vs : List V) (H : Hp) (Q : VK) (E : XK) (h : sp_Reader___init__ T vs H Q E) : vs.length = 3 := by
  obtain ⟨_, _, _, _, _, _, rfl, _⟩ := h
  rfl
def t_Reader___init__ (T : Txt K mg) : TS := (tSeq (sFld K (tVar 0) (tVar 1) "own_code")
    (tSeq (sFld K (tVar 0) (tCall (sp_rules_for T) [] E0 (tCons (tVar 1) (tCons (tVar 2) tNil))) "rules_now")
    (tSeq (sFld K (tVar 0) (tMeth T.C_Quoted "opening" (sp_Quoted_opening T) [] E0 (tVar 1) tNil) "now")
    (tSeq (sFld K (tVar 0) (tLst tNil) "found")
    (tSeq (sFld K (tVar 0) (tC (.int 0)) "many")
    (sFld K (tVar 0) (tC (.bl false)) "is_closed"))))))

theorem pure_Reader___init__ (T : Txt K mg) (vs : List V) (H : Hp) (Q : VK) (E : XK) (h : sp_Reader___init__ T vs H Q E) : t_Reader___init__ T { nx := fun _ H' => Q .non H', rt := Q } (start ["self", "code", "rules"] vs) H := by
  obtain ⟨w, a, rr, dx, c, r, rfl, hw, hc, hr, hsu, q⟩ := h
  unfold t_Reader___init__
  walk_at "rd"
  refine ⟨w, T.C_Reader, dx, [], rfl, hw, T.C_Reader_c, T.C_Reader_n_own_code, by decide, ?_⟩
  generalize hg1 : upd H w _ = H1
  have b1 : SameB w H H1 := sameB_of hg1
  have h1w : H1 w = some (.ins T.C_Reader dx [("own_code", .ref a)]) := at_of hg1
  have hc1 := hc.sameI b1 hw rfl
  have hr1 := hr.sameI b1 hw rfl
  clear hg1
  walk_at "rd"
  refine ⟨a, rr, c, r, rfl, hc1, hr1, hsu, ?_⟩
  have s2 := Same.refl H1
  have h2w := h1w
  have hc2 := hc1
  walk_at "rd"
  refine ⟨w, T.C_Reader, dx, _, rfl, h2w, T.C_Reader_c, T.C_Reader_n_rules_now, (by show 1 < 1000; decide), ?_⟩
  generalize hg3 : upd H1 w _ = H3
  have b3 : SameB w H1 H3 := sameB_of hg3
  have h3w : H3 w = some (.ins T.C_Reader dx [("own_code", .ref a), ("rules_now", .ref rr)]) := at_of hg3
  have hc3 := hc2.sameI b3 h2w rfl
  clear hg3
  walk_at "rd"
  have hw3 := hc3.ways
  walk_at "rd"
  refine ⟨a, c, rfl, hc3, fun st H4 s4 nst hst => ?_⟩
  have h4w := s4 _ _ h3w
  walk_at "rd"
  refine ⟨w, T.C_Reader, dx, _, rfl, h4w, T.C_Reader_c, T.C_Reader_n_now, (by show 2 < 1000; decide), ?_⟩
  generalize hg5 : upd H4 w _ = H5
  have b5 : SameB w H4 H5 := sameB_of hg5
  have h5w : H5 w = some (.ins T.C_Reader dx [("own_code", .ref a), ("rules_now", .ref rr), ("now", .ref st)]) := at_of hg5
  clear hg5
  walk_at "rd"
  refine And.intro (Nat.zero_le _) fun fo nfo => ?_
  generalize hg6 : upd H5 fo _ = H6
  have s6 := same_of hg6 nfo
  have v6 := at_of hg6
  clear hg6
  have h6w := s6 _ _ h5w
  walk_at "rd"
  refine ⟨w, T.C_Reader, dx, _, rfl, h6w, T.C_Reader_c, T.C_Reader_n_found, (by show 3 < 1000; decide), ?_⟩
  generalize hg7 : upd H6 w _ = H7
  have b7 : SameB w H6 H7 := sameB_of hg7
  have h7w : H7 w = some (.ins T.C_Reader dx [("own_code", .ref a), ("rules_now", .ref rr), ("now", .ref st), ("found", .ref fo)]) := at_of hg7
  clear hg7
  walk_at "rd"
  refine ⟨w, T.C_Reader, dx, _, rfl, h7w, T.C_Reader_c, T.C_Reader_n_many, (by show 4 < 1000; decide), ?_⟩
  generalize hg8 : upd H7 w _ = H8
  have b8 : SameB w H7 H8 := sameB_of hg8
  have h8w : H8 w = some (.ins T.C_Reader dx [("own_code", .ref a), ("rules_now", .ref rr), ("now", .ref st), ("found", .ref fo), ("many", .int 0)]) := at_of hg8
  clear hg8
  walk_at "rd"
  refine ⟨w, T.C_Reader, dx, _, rfl, h8w, T.C_Reader_c, T.C_Reader_n_is_closed, (by show 5 < 1000; decide), ?_⟩
  generalize hg9 : upd H8 w _ = H9
  have b9 : SameB w H8 H9 := sameB_of hg9
  have h9w : H9 w = some (.ins T.C_Reader dx [("own_code", .ref a), ("rules_now", .ref rr), ("now", .ref st), ("found", .ref fo), ("many", .int 0), ("is_closed", .bl false)]) := at_of hg9
  clear hg9
  have nw : st ≠ w := (ne_of_none h3w nst).symm
  have nf : fo ≠ w := (ne_of_none h5w nfo).symm
  have B5 : SameB w H H5 := b1.trans ((toB s2).trans (b3.trans ((toB s4).trans b5)))
  exact q H9 st fo (B5.trans ((toB s6).trans (b7.trans (b8.trans b9)))) ⟨dx, h9w⟩ (hst.move fun o e => b9 _ _ nw (b8 _ _ nw (b7 _ _ nw (s6 _ _ (b5 _ _ nw e))))) (b9 _ _ nf (b8 _ _ nf (b7 _ _ nf v6))) ((b1.trans ((toB s2).trans b3)).free nw nst) (B5.free nf nfo)
theorem ok_Reader___init__ (T : Txt K mg) : FnOk P w K mg base CX0 7 T.Reader___init___a T.Reader___init___d ["self", "code", "rules"] (sp_Reader___init__ T) := by
  refine T.Reader___init___f.ok sc_Reader___init__ (fun vs H Q E h => len_Reader___init__ T vs H Q E h) (fun cdv A outer s H vs Q E hr h => ⟨t_Reader___init__ T, PSs.nox ?_, pure_Reader___init__ T vs H Q E h⟩)
  have hu := hu64 hr
  exact (pss_cons (ps_fld (pv 0) (pv 1) rfl)
      (pss_cons (ps_fld (pv 0) (pe_call (ok_rules_for T) (hr.mono (by decide)) (by rfl) T.rules_for_g T.rules_for_f.kp T.rules_for_b .nil pass0 (pa_cons (pv 1) (pa_cons (pv 2) pa_nil))) rfl)
      (pss_cons (ps_fld (pv 0) (pe_meth0 (pv 1) T.C_Quoted_c T.Quoted_opening_m (ok_Quoted_opening T) (hr.mono (by decide)) T.Quoted_opening_b .nil pass0) rfl)
      (pss_cons (ps_fld (pv 0) (pe_lst pa_nil) rfl)
      (pss_cons (ps_fld (pv 0) pe_int rfl)
      (pss_one (ps_fld (pv 0) pe_bl rfl)))))))

theorem r_star {te : TE} {t : TA} {σ : S} {H : Hp} {Q : List V → Hp → Prop} (h : te σ H fun x H1 => ∃ p xs, x = V.ref p ∧ (SqT K H1 p xs ∨ SqL K H1 p xs) ∧ t σ H1 fun ys H2 => Q (xs ++ ys) H2) : StX.tStar K te t σ H Q := h
def sp_Reader___call__ (T : Txt K mg) : Sp := fun vs H Q E => ∃ w ca ra st fo c r s f m cl v, vs = [.ref w, v] ∧ ReAt T H w ca ra st fo m cl ∧ QuotAt T H ca c ∧ RulesAt T H ra r ∧ QRStAt H st s.col s.beg ∧ FitQ s ∧ FoAt H fo f ∧ f.length ≤ 10000 ∧
  (cl = true → ClE T E H) ∧ (cl = false → (∃ l, v = .str (tx l) ∧ l.length ≤ 1000 ∧ (∀ c ∈ l, Ch c) ∧ (folQ c r s l = none → WrE T E H) ∧
  ∀ ds s', folQ c r s l = some (ds, s') → ∀ H' D st' fo', SameB w H H' → ReAt T H' w ca ra st' fo' (m + l.length) false → QRStAt H' st' s'.col s'.beg → FoAt H' fo' (f ++ ds) → FoAt H' D ds → H D = none → H fo' = none → (st' = st ∨ H st' = none) → D ≠ fo' → Q (.ref D) H') ∨ ∃ i, Odd H v i ∧ NoCh T E H i)
theorem len_Reader___call__ (T : Txt K mg) (vs : List V) (H : Hp) (Q : VK) (E : XK) (h : sp_Reader___call__ T vs H Q E) : vs.length = 2 := by
  obtain ⟨_, _, _, _, _, _, _, _, _, _, _, _, rfl, _⟩ := h
  rfl
def t_Reader___call__ (T : Txt K mg) (E : XK) : TS := (tSeq (tDrop (tMethS T.C_Reader "need_open" (sp_Reader_need_open T) (WE (fun cls d _ H => E cls d H)) (tVar 0) tNil))
    (tSeq (tDrop (tCallS (sp_check_text T) (WE (fun cls d _ H => E cls d H)) (tCons (tVar 1) tNil)))
    (tSeq (tAsg (tCallS (sp_followed T) (WE (fun cls d _ H => E cls d H)) (tCons (tFld K (tVar 0) "own_code") (tCons (tFld K (tVar 0) "rules_now") (tCons (tFld K (tVar 0) "now") (tCons (tFld K (tVar 0) "many") (tCons (tVar 1) tNil)))))) (gTup K 2 (gCons (gName 2) (gCons (gFld K (tVar 0) "now") gNil))))
    (tSeq (sFldAug K (tVar 0) (tCB (rLenU K) (tCons (tVar 1) tNil)) (rIaddU K) "many")
    (tSeq (sFld K (tVar 0) (tLst (StX.tStar K (tFld K (tVar 0) "found") (StX.tStar K (tVar 2) tNil))) "found")
    (tRet (tVar 2)))))))

theorem pure_Reader___call__ (T : Txt K mg) (vs : List V) (H : Hp) (Q : VK) (E : XK) (h : sp_Reader___call__ T vs H Q E) : t_Reader___call__ T E { nx := fun _ H' => Q .non H', rt := Q } (start ["self", "piece", "data"] vs) H := by
  obtain ⟨w, ca, ra, st, fo, c, r, s, f, m, cl, v, rfl, hW, hc, hr, hst, hF, hfo, hfl, qc, qq⟩ := h
  have hW0 := hW
  obtain ⟨dx, hw⟩ := hW
  unfold t_Reader___call__
  walk_at "rd"
  refine r_methS rfl hw rfl ?_
  walk_at "rd"
  refine ⟨w, ca, ra, st, fo, m, cl, rfl, hW0, fun e => qc e, fun e => ?_⟩
  subst e
  walk_at "rd"
  refine r_callS ?_
  walk_at "rd"
  refine ⟨v, rfl, ?_⟩
  rcases qq rfl with ⟨l, rfl, hl, hch, qn, qs⟩ | ⟨i, odd, qo⟩
  rotate_left
  · exact .inr ⟨i, odd, qo⟩
  refine .inl ⟨l, rfl, by omega, hch, fun H1 s1 => ?_⟩
  have hw1 := s1 _ _ hw
  walk_at "rd"
  refine r_callS ?_
  walk_at "rd"
  refine r_fldI rfl hw1 T.C_Reader_c T.C_Reader_n_own_code rfl ?_
  walk_at "rd"
  refine r_fldI rfl hw1 T.C_Reader_c T.C_Reader_n_rules_now rfl ?_
  walk_at "rd"
  refine r_fldI rfl hw1 T.C_Reader_c T.C_Reader_n_now rfl ?_
  walk_at "rd"
  refine r_fldI rfl hw1 T.C_Reader_c T.C_Reader_n_many rfl ?_
  walk_at "rd"
  refine ⟨ca, ra, st, c, r, s, l, m, rfl, hc.same s1, hr.same s1, hst.move fun o e => s1 _ _ e, hF, hl, fun e => (qn e).same s1, fun ds s' e p D st' H2 s2 np nD hor hp hD hst' => ?_⟩
  have hw2 := s2 _ _ hw1
  have hf2 := s2 _ _ (s1 _ _ hfo)
  walk_at "rd"
  refine r_gFld rfl hw2 T.C_Reader_c T.C_Reader_n_now (by show 6 < 1000; decide) ?_
  generalize hg3 : upd H2 w _ = H3
  have b3 : SameB w H2 H3 := sameB_of hg3
  have h3w : H3 w = some (.ins T.C_Reader dx [("own_code", .ref ca), ("rules_now", .ref ra), ("now", .ref st'), ("found", .ref fo), ("many", .int m), ("is_closed", .bl false)]) := at_of hg3
  clear hg3
  have nDw : D ≠ w := (ne_of_none hw1 nD).symm
  have nfw : fo ≠ w := ne_ob hfo hw fun z => nomatch z
  have nsw : st' ≠ w := by
    obtain ⟨xs, e⟩ := hst'.ex
    exact ne_ob e hw2 fun z => nomatch z
  have hD3 := b3 _ _ nDw hD
  have hf3 := b3 _ _ nfw hf2
  walk_at "rd"
  refine ⟨_, rfl, w, T.C_Reader, dx, _, .int m, rfl, h3w, T.C_Reader_c, T.C_Reader_n_many, rfl, ?_⟩
  walk_at "rd"
  refine r_lenUS (smallS (by rw [tx_len]; omega)) ?_
  rw [tx_len]
  walk_at "rd"
  refine ⟨dx, _, h3w, (by show 6 < 1000; decide), ?_⟩
  generalize hg4 : upd H3 w _ = H4
  have b4 : SameB w H3 H4 := sameB_of hg4
  have h4w : H4 w = some (.ins T.C_Reader dx [("own_code", .ref ca), ("rules_now", .ref ra), ("now", .ref st'), ("found", .ref fo), ("many", .int ((m : Int) + (l.length : Nat))), ("is_closed", .bl false)]) := at_of hg4
  clear hg4
  have hD4 := b4 _ _ nDw hD3
  have hf4 := b4 _ _ nfw hf3
  have dl := folQ_len _ _ _ _ e
  walk_at "rd"
  refine r_star ?_
  refine r_fldI rfl h4w T.C_Reader_c T.C_Reader_n_found rfl ?_
  refine ⟨fo, _, rfl, .inr (ql hf4), ?_⟩
  refine r_star ?_
  walk_at "rd"
  refine ⟨D, _, rfl, .inr (ql hD4), ?_⟩
  walk_at "rd"
  rw [List.append_nil, ← List.map_append]
  refine And.intro (smallS (by rw [List.length_map, List.length_append]; omega)) fun fo' nfo' => ?_
  generalize hg5 : upd H4 fo' _ = H5
  have s5 := same_of hg5 nfo'
  have v5 := at_of hg5
  clear hg5
  have h5w := s5 _ _ h4w
  walk_at "rd"
  refine ⟨w, T.C_Reader, dx, _, rfl, h5w, T.C_Reader_c, T.C_Reader_n_found, (by show 6 < 1000; decide), ?_⟩
  generalize hg6 : upd H5 w _ = H6
  have b6 : SameB w H5 H6 := sameB_of hg6
  have h6w : H6 w = some (.ins T.C_Reader dx [("own_code", .ref ca), ("rules_now", .ref ra), ("now", .ref st'), ("found", .ref fo'), ("many", .int ((m : Int) + (l.length : Nat))), ("is_closed", .bl false)]) := at_of hg6
  clear hg6
  have nf' : fo' ≠ w := (ne_of_none h4w nfo').symm
  walk_at "rd"
  have B4 : SameB w H H4 := (toB (s1.trans s2)).trans (b3.trans b4)
  refine qs ds s' e H6 D st' fo' (B4.trans ((toB s5).trans b6)) ⟨dx, ?_⟩ (hst'.move fun o q => b6 _ _ nsw (s5 _ _ (b4 _ _ nsw (b3 _ _ nsw q)))) (b6 _ _ nf' v5) (b6 _ _ nDw (s5 _ _ hD4)) (s1.free nD) (B4.free nf' nfo') (hor.imp id fun z => s1.free z) (ne_of_none hD4 nfo')
  rw [h6w, ← Int.natCast_add]
theorem ok_Reader___call__ (T : Txt K mg) : FnOk P w K mg base (L2.CX P w) 8 T.Reader___call___a T.Reader___call___d ["self", "piece"] (sp_Reader___call__ T) := by
  refine T.Reader___call___f.ok sc_Reader___call__ (fun vs H Q E h => len_Reader___call__ T vs H Q E h) (fun cdv A outer s H vs Q E hr h => ⟨t_Reader___call__ T E, ?_, pure_Reader___call__ T vs H Q E h⟩)
  have hu := hu64 hr
  exact (pss_cons (ps_expr (pe_methS0 (pv 0) T.C_Reader_c T.Reader_need_open_m (ok_Reader_need_open T) (hr.mono (by decide)) T.Reader_need_open_b (fun σ => passAt (takes_of rfl rfl rfl rfl) σ)))
      (pss_cons (ps_expr (pe_callS (ok_check_text T) (hr.mono (by decide)) (by rfl) T.check_text_g T.check_text_f.kp T.check_text_b (fun σ => passAt (takes_of rfl rfl rfl rfl) σ) (pa_cons (pv 1) pa_nil)))
      (pss_cons (ps_asg (pe_callS (ok_followed T) (hr.mono (by decide)) (by rfl) T.followed_g T.followed_f.kp T.followed_b (fun σ => passAt (takes_of rfl rfl rfl rfl) σ) (pa_cons (pe_fld (pv 0) rfl) (pa_cons (pe_fld (pv 0) rfl) (pa_cons (pe_fld (pv 0) rfl) (pa_cons (pe_fld (pv 0) rfl) (pa_cons (pv 1) pa_nil)))))) (pg_tup (by rfl) (pgs_cons (pg_name (i := 2) sc_Reader___call__.nd rfl (.inl rfl)) (pgs_cons (pg_fld (pv 0)) pgs_nil))))
      (pss_cons (ps_fldaug (pv 0) (pe_callB c_lenU (by rfl) T.n_len (by decide +kernel) (pa_cons (pv 1) pa_nil)) ip_addU)
      (pss_cons (ps_fld (pv 0) (pe_lst (StX.pa_star (pe_fld (pv 0) rfl) (StX.pa_star (pv 2) pa_nil))) rfl)
      (pss_one (ps_ret (pv 2))))))))

def spRd (T : Txt K mg) (g : Addr → Addr → Nat → Bool → V) : Sp := fun vs H Q _ => ∃ w ca ra st fo m cl, vs = [.ref w] ∧ ReAt T H w ca ra st fo m cl ∧ Q (g st fo m cl) H
theorem len_spRd (T : Txt K mg) (g) (vs : List V) (H : Hp) (Q : VK) (E : XK) (h : spRd T g vs H Q E) : vs.length = 1 := by
  obtain ⟨_, _, _, _, _, _, _, rfl, _⟩ := h
  rfl
abbrev sp_Reader_state (T : Txt K mg) : Sp := spRd T fun st _ _ _ => .ref st
abbrev sp_Reader_position (T : Txt K mg) : Sp := spRd T fun _ _ m _ => .int m
abbrev sp_Reader_closed (T : Txt K mg) : Sp := spRd T fun _ _ _ cl => .bl cl
theorem len_Reader_state (T : Txt K mg) (vs : List V) (H : Hp) (Q : VK) (E : XK) (h : sp_Reader_state T vs H Q E) : vs.length = 1 := len_spRd T _ vs H Q E h
theorem len_Reader_position (T : Txt K mg) (vs : List V) (H : Hp) (Q : VK) (E : XK) (h : sp_Reader_position T vs H Q E) : vs.length = 1 := len_spRd T _ vs H Q E h
theorem len_Reader_closed (T : Txt K mg) (vs : List V) (H : Hp) (Q : VK) (E : XK) (h : sp_Reader_closed T vs H Q E) : vs.length = 1 := len_spRd T _ vs H Q E h
def t_Reader_position (T : Txt K mg) : TS := (tRet (tFld K (tVar 0) "many"))

theorem pure_Reader_position (T : Txt K mg) (vs : List V) (H : Hp) (Q : VK) (E : XK) (h : sp_Reader_position T vs H Q E) : t_Reader_position T { nx := fun _ H' => Q .non H', rt := Q } (start ["self"] vs) H := by
  obtain ⟨w, ca, ra, st, fo, m, cl, rfl, ⟨dx, hw⟩, q⟩ := h
  unfold t_Reader_position
  walk_at "rd"
  exact r_fldI rfl hw T.C_Reader_c T.C_Reader_n_many rfl q
theorem ok_Reader_position (T : Txt K mg) : FnOk P w K mg base CX0 1 T.Reader_position_a T.Reader_position_d ["self"] (sp_Reader_position T) := by
  refine T.Reader_position_f.ok sc_Reader_position (fun vs H Q E h => len_Reader_position T vs H Q E h) (fun cdv A outer s H vs Q E hr h => ⟨t_Reader_position T, PSs.nox ?_, pure_Reader_position T vs H Q E h⟩)
  have hu := hu64 hr
  exact (pss_one (ps_ret (pe_fld (pv 0) rfl)))

def sp_Reader_given (T : Txt K mg) : Sp := fun vs H Q _ => ∃ w ca ra st fo m cl f, vs = [.ref w] ∧ ReAt T H w ca ra st fo m cl ∧ FoAt H fo f ∧ ∀ D H', Same H H' → H D = none → FoAt H' D f → Q (.ref D) H'
theorem len_Reader_given (T : Txt K mg) (vs : List V) (H : Hp) (Q : VK) (E : XK) (h : sp_Reader_given T vs H Q E) : vs.length = 1 := by
  obtain ⟨_, _, _, _, _, _, _, _, rfl, _⟩ := h
  rfl
def t_Reader_given (T : Txt K mg) : TS := (tRet (tCB (rListOf K) (tCons (tFld K (tVar 0) "found") tNil)))

theorem pure_Reader_given (T : Txt K mg) (vs : List V) (H : Hp) (Q : VK) (E : XK) (h : sp_Reader_given T vs H Q E) : t_Reader_given T { nx := fun _ H' => Q .non H', rt := Q } (start ["self"] vs) H := by
  obtain ⟨w, ca, ra, st, fo, m, cl, f, rfl, ⟨dx, hw⟩, hfo, q⟩ := h
  unfold t_Reader_given
  walk_at "rd"
  refine r_fldI rfl hw T.C_Reader_c T.C_Reader_n_found rfl ?_
  walk_at "rd"
  intro D nD
  exact q D _ (same_new nD) nD upd_same
theorem ok_Reader_given (T : Txt K mg) : FnOk P w K mg base CX0 1 T.Reader_given_a T.Reader_given_d ["self"] (sp_Reader_given T) := by
  refine T.Reader_given_f.ok sc_Reader_given (fun vs H Q E h => len_Reader_given T vs H Q E h) (fun cdv A outer s H vs Q E hr h => ⟨t_Reader_given T, PSs.nox ?_, pure_Reader_given T vs H Q E h⟩)
  have hu := hu64 hr
  exact (pss_one (ps_ret (pe_callTy call_list_of (by rfl) T.n_list (by decide +kernel) (pa_cons (pe_fld (pv 0) rfl) pa_nil))))


end
section
variable {w : World} {K : PySem.W.Frag} {mg : Str → Option Value} {base : Heap}
local macro_rules | `(tactic| walk_at "hcq") => `(tactic| first
  | assumption
  | ((refine WaysAt.same (H := ?xH) ?xb ?xa); (case xa => assumption); (case xb => walk_at "hcq")))
local macro_rules | `(tactic| walk_at "rd0") => `(tactic| first
  | ((with_reducible refine r_getQ (a := ?xa) (c := ?xc) ?x1 ?x2 ?_); (case x1 => rfl); (case x2 => walk_at "hcq"))
  | ((with_reducible refine r_methQ (a := ?xa) (c := ?xc) ?x1 ?x2 ?x3 ?_); (case x1 => rfl); (case x2 => walk_at "hcq"); (case x3 => exact ⟨fun _ => rfl, fun _ _ => rfl⟩))
  | (with_reducible refine r_fmtB ?_)
  | (with_reducible refine r_dget ?_)
  | (with_reducible refine r_m0 ?_)
  | (with_reducible refine r_makeK ?_)
  | (with_reducible refine r_cval ?_)
  | (with_reducible refine r_sfld ?_)
  | (with_reducible refine r_isiI ?_)
  | (with_reducible refine r_isiIB ?_)
  | (with_reducible refine r_isiBB ?_)
  | (with_reducible refine r_isiS ?_)
  | (with_reducible refine r_int1I ?_)
  | (with_reducible refine r_int1B ?_))

local macro_rules | `(tactic| walk_at "hcr") => `(tactic| first
  | assumption
  | ((refine RulesAt.same (H := ?xH) ?xb ?xa); (case xa => assumption); (case xb => walk_at "hcr")))
local macro_rules | `(tactic| walk_at "rd0") => `(tactic| first
  | ((with_reducible refine r_getR (a := ?xa) (r := ?xr) ?x1 ?x2 ?_); (case x1 => rfl); (case x2 => walk_at "hcr")))

set_option hygiene false in
local macro_rules | `(tactic| walk_at "n1") => `(tactic| (refine And.intro (by walk_at "sz") ?_; intro p1 np1; generalize hg : upd _ p1 _ = H1; have s1 := same_of hg np1; have v1 := at_of hg; clear hg))
set_option hygiene false in
local macro_rules | `(tactic| walk_at "n2") => `(tactic| (refine And.intro (by walk_at "sz") ?_; intro p2 np2; generalize hg : upd _ p2 _ = H2; have s2 := same_of hg np2; have v2 := at_of hg; clear hg))
set_option hygiene false in
local macro_rules | `(tactic| walk_at "n3") => `(tactic| (refine And.intro (by walk_at "sz") ?_; intro p3 np3; generalize hg : upd _ p3 _ = H3; have s3 := same_of hg np3; have v3 := at_of hg; clear hg))
set_option hygiene false in
local macro_rules | `(tactic| walk_at "n4") => `(tactic| (refine And.intro (by walk_at "sz") ?_; intro p4 np4; generalize hg : upd _ p4 _ = H4; have s4 := same_of hg np4; have v4 := at_of hg; clear hg))

/-! ### what is common to lists -/
def cpre : List Nat → List Nat → List Nat
  | x :: a, y :: b => if x = y then x :: cpre a b else []
  | _, _ => []
theorem cpre_l : ∀ a b, ∃ t, cpre a b ++ t = a
  | [], _ => ⟨[], by unfold cpre; rfl⟩
  | x :: a, [] => ⟨x :: a, by unfold cpre; rfl⟩
  | x :: a, y :: b => by
    unfold cpre
    by_cases h : x = y
    · rw [if_pos h]
      obtain ⟨t, ht⟩ := cpre_l a b
      exact ⟨t, by rw [List.cons_append, ht]⟩
    · rw [if_neg h]
      exact ⟨x :: a, rfl⟩
theorem cpre_r : ∀ a b, ∃ t, cpre a b ++ t = b
  | [], b => ⟨b, by unfold cpre; rfl⟩
  | x :: a, [] => ⟨[], by unfold cpre; rfl⟩
  | x :: a, y :: b => by
    unfold cpre
    by_cases h : x = y
    · rw [if_pos h]
      obtain ⟨t, ht⟩ := cpre_r a b
      exact ⟨t, by rw [List.cons_append, ht, h]⟩
    · rw [if_neg h]
      exact ⟨y :: b, rfl⟩
theorem cpre_app (g : List Nat) : ∀ a b, cpre (g ++ a) (g ++ b) = g ++ cpre a b := by
  induction g with
  | nil => intro a b; rfl
  | cons x g ih =>
    intro a b
    rw [List.cons_append, List.cons_append, List.cons_append, ← ih]
    conv => lhs; unfold cpre
    rw [if_pos rfl]
theorem cpre_at {a b : List Nat} {n : Nat} (h : a.take n = b.take n) : cpre a b = a.take n ++ cpre (a.drop n) (b.drop n) := by
  conv => lhs; rw [← List.take_append_drop n a, ← List.take_append_drop n b, ← h]
  exact cpre_app _ _ _
theorem cpre_nil (b : List Nat) : cpre [] b = [] := by unfold cpre; rfl
theorem cpre_nil2 (a : List Nat) : cpre a [] = [] := by cases a <;> (unfold cpre; rfl)
theorem cpre_ne {x y : Nat} (h : x ≠ y) (a b : List Nat) : cpre (x :: a) (y :: b) = [] := by unfold cpre; exact if_neg h
def comm (x : List Nat) (r : List (List Nat)) : List Nat := r.foldl cpre x
theorem comm_pre : ∀ (r : List (List Nat)) (x : List Nat), (∃ t, comm x r ++ t = x) ∧ ∀ y ∈ r, ∃ t, comm x r ++ t = y
  | [], x => ⟨⟨[], List.append_nil _⟩, fun y h => nomatch h⟩
  | z :: r, x => by
    obtain ⟨⟨t, ht⟩, h2⟩ := comm_pre r (cpre x z)
    obtain ⟨u, hu⟩ := cpre_l x z
    obtain ⟨v, hv⟩ := cpre_r x z
    refine ⟨⟨t ++ u, by show comm (cpre x z) r ++ (t ++ u) = x; rw [← List.append_assoc, ht, hu]⟩, fun y hy => ?_⟩
    rcases List.mem_cons.mp hy with rfl | hy
    · exact ⟨t ++ v, by show comm (cpre x y) r ++ (t ++ v) = y; rw [← List.append_assoc, ht, hv]⟩
    · exact h2 y hy
theorem comm_app (g : List Nat) : ∀ (r : List (List Nat)) (x : List Nat), (∃ t, x = g ++ t) → (∀ y ∈ r, ∃ t, y = g ++ t) → ∃ t, comm x r = g ++ t
  | [], x, h, _ => h
  | z :: r, x, ⟨t, h⟩, h2 => by
    obtain ⟨u, hu⟩ := h2 z (List.mem_cons_self ..)
    refine comm_app g r (cpre x z) ⟨cpre t u, by rw [h, hu, cpre_app]⟩ fun y hy => h2 y (List.mem_cons_of_mem _ hy)
/-- all begin with g, and one is g, or two go on otherwise -/
theorem comm_is {g x : List Nat} {r : List (List Nat)} (h1 : ∀ y ∈ x :: r, ∃ t, y = g ++ t) (h2 : g ∈ x :: r ∨ ∃ y z t1 t2, y ≠ z ∧ g ++ y :: t1 ∈ x :: r ∧ g ++ z :: t2 ∈ x :: r) : comm x r = g := by
  obtain ⟨t, ht⟩ := comm_app g r x (h1 x (List.mem_cons_self ..)) fun y hy => h1 y (List.mem_cons_of_mem _ hy)
  obtain ⟨p1, p2⟩ := comm_pre r x
  have pre : ∀ y ∈ x :: r, ∃ u, comm x r ++ u = y := fun y hy => by
    rcases List.mem_cons.mp hy with rfl | hy
    · exact p1
    · exact p2 y hy
  rw [ht] at pre ⊢
  rcases h2 with h | ⟨y, z, t1, t2, ne, m1, m2⟩
  · obtain ⟨u, hu⟩ := pre g h
    rw [List.append_assoc] at hu
    have := List.append_right_eq_self.mp hu
    have t0 := (List.append_eq_nil_iff.mp this).1
    rw [t0, List.append_nil]
  · obtain ⟨u1, e1⟩ := pre _ m1
    obtain ⟨u2, e2⟩ := pre _ m2
    rw [List.append_assoc] at e1 e2
    have e1 := List.append_cancel_left e1
    have e2 := List.append_cancel_left e2
    cases t with
    | nil => rw [List.append_nil]
    | cons v t =>
      rw [List.cons_append] at e1 e2
      exact absurd ((List.cons.inj e1).1.symm.trans (List.cons.inj e2).1) ne
theorem cutV_from {l : List V} {a : Nat} : cutV l (some (a : Int)) none = l.drop a := by
  unfold cutV
  rw [HT.sIx_none, HT.sIx_nat]
  by_cases e : a ≤ l.length
  · rw [show min a l.length = a by omega, List.take_of_length_le (by rw [List.length_drop]; exact Nat.le_refl _)]
  · rw [List.drop_of_length_le (show l.length ≤ min a l.length by omega), List.drop_of_length_le (by omega)]
    simp
theorem cutV_to {l : List V} {a : Nat} : cutV l none (some (a : Int)) = l.take a := by
  unfold cutV
  rw [HT.sIx_none, HT.sIx_nat]
  show (l.drop 0).take (min a l.length - 0) = _
  rw [List.drop_zero, Nat.sub_zero]
  by_cases e : a ≤ l.length
  · rw [show min a l.length = a by omega]
  · rw [show min a l.length = l.length by omega, List.take_of_length_le (Nat.le_refl _), List.take_of_length_le (by omega)]
def sp_l_common (T : Txt K mg) : Sp := fun vs H Q _ => ∃ L as x r, vs = [.ref L] ∧ H L = some (.lst (as.map V.ref)) ∧ LnsAt H as (x :: r) ∧ r.length ≤ 100 ∧ (∀ y ∈ x :: r, y.length ≤ 100000) ∧
  ∀ o H', Same H H' → H' o = some (.lst ((comm x r).map nv)) → Q (.ref o) H'
theorem len_l_common (T : Txt K mg) (vs : List V) (H : Hp) (Q : VK) (E : XK) (h : sp_l_common T vs H Q E) : vs.length = 1 := by
  obtain ⟨_, _, _, _, rfl, _⟩ := h
  rfl
def t_l_common (T : Txt K mg) : TS := (tSeq (tAsg (tOp (rIx K) (tVar 0) (tC (.int 0))) (gName 1))
    (tSeq (tFor (iSeqU K (tSl (rSlU K) (tVar 0) (tPart (tC (.int 1))) tNoPart)) (gName 2) (tSeq (tAsg (tC (.int 0)) (gName 3))
    (tSeq (tWhile (tAnd (tTest (tOp rLtI (tVar 3) (tCB (rLenU K) (tCons (tVar 1) tNil)))) (tAnd (tTest (tOp rLtI (tVar 3) (tCB (rLenU K) (tCons (tVar 2) tNil)))) (tTest (tOp (rEqU K) (tOp (rIx K) (tVar 1) (tVar 3)) (tOp (rIx K) (tVar 2) (tVar 3)))))) (tAsg (tOp (rAddU K) (tVar 3) (tC (.int 1))) (gName 3)))
    (tAsg (tSl (rSlU K) (tVar 1) tNoPart (tPart (tVar 3))) (gName 1)))))
    (tRet (tVar 1))))

theorem pure_l_common (T : Txt K mg) (vs : List V) (H : Hp) (Q : VK) (E : XK) (h : sp_l_common T vs H Q E) : t_l_common T { nx := fun _ H' => Q .non H', rt := Q } (start ["_law_texts", "_law_found", "_law_one", "_law_at"] vs) H := by
  obtain ⟨L, as, x, r, rfl, hL, hA, hr, hy, q⟩ := h
  unfold t_l_common
  match as, hL, hA with
  | a0 :: as, hL, hA =>
  obtain ⟨h0, hA⟩ := hA
  have lA := hA.len
  walk_at "rd"
  refine r_ixL (ql hL) (show atI _ ((0 : Nat) : Int) = some (.ref a0) from atI_nat rfl) ?_
  walk_at "rd"
  refine r_iseqL ?_
  walk_at "rd"
  refine r_slUL (ql hL) fun S nS => ?_
  rw [show (1 : Int) = ((1 : Nat) : Int) from rfl, cutV_from]
  generalize hg : upd H S _ = H1
  have s1 := same_of hg nS
  have v1 : H1 S = some (.lst (as.map V.ref)) := at_of hg
  clear hg
  refine ⟨S, rfl, ⟨_, ql v1⟩, ?_⟩
  have hA1 : LnsAt H1 as r := hA.same s1
  refine f_it (walk_list (K := K) (a := S) (xs := as.map V.ref)) (fun i σ G => ∃ F v2 v3, σ = [some (.ref L), some (.ref F), v2, v3] ∧ Same H1 G ∧ G F = some (.lst ((comm x (r.take i)).map nv)) ∧ (comm x (r.take i)).length ≤ 100000)
    ⟨a0, _, _, rfl, Same.refl _, s1 _ _ h0, hy x (List.mem_cons_self ..)⟩ (fun i σ G _ h => by
      obtain ⟨_, _, _, _, s, _⟩ := h
      exact ql (s _ _ v1)) ?_ ?_
  · rintro i x' σ G0 G hi ⟨F, v2, v3, rfl, sG, hF, hl⟩ ⟨rfl, hx'⟩
    rw [List.getElem?_map] at hx'
    obtain ⟨a, ha, rfl⟩ := Option.map_eq_some_iff.mp hx'
    obtain ⟨y, hyi, hya⟩ := (hA1.same sG).get ha
    have ly := hy y (List.mem_cons_of_mem _ (List.mem_of_getElem? hyi))
    have etk : comm x (r.take (i + 1)) = cpre (comm x (r.take i)) y := by
      unfold comm
      rw [List.take_add_one, hyi, List.foldl_append]
      rfl
    rw [etk]
    generalize comm x (r.take i) = z at hF hl
    walk_at "rd"
    refine r_while (fun σ G' => ∃ n : Nat, σ = [some (.ref L), some (.ref F), some (.ref a), some (.int (n : Nat))] ∧ G' = G ∧ z.take n = y.take n)
      (fun σ _ => match σ with | [_, _, _, some (.int n)] => z.length - n.toNat | _ => 0)
      (fun σ G' => ∃ n : Nat, σ = [some (.ref L), some (.ref F), some (.ref a), some (.int (n : Nat))] ∧ G' = G ∧ z.take n = cpre z y)
      ⟨0, rfl, rfl, by rw [List.take_zero, List.take_zero]⟩ ?_ ?_
    · rintro σ G2 ⟨n, rfl, rfl, e⟩
      walk_at "rd"
      refine r_slUL (ql hF) fun o no => ?_
      rw [cutV_to, ← List.map_take, e]
      walk_at "rd"
      refine ⟨o, _, _, rfl, sG.trans (same_new no), upd_same, ?_⟩
      obtain ⟨t, ht⟩ := cpre_l z y
      have := congrArg List.length ht
      rw [List.length_append] at this
      omega
    · rintro σ G2 ⟨n, rfl, rfl, e⟩ ex
      walk_at "rd"
      rw [List.length_map]
      refine r_iteD (fun h1 => ?_) (fun h1 => ?_)
      · walk_at "rd"
        rw [List.length_map]
        refine r_iteD (fun h2 => ?_) (fun h2 => ?_)
        · have hz : z[n]? = some z[n] := List.getElem?_eq_getElem (by omega)
          have hy' : y[n]? = some y[n] := List.getElem?_eq_getElem (by omega)
          have dz : z.drop n = z[n] :: z.drop (n + 1) := List.drop_eq_getElem_cons (by omega)
          have dy : y.drop n = y[n] :: y.drop (n + 1) := List.drop_eq_getElem_cons (by omega)
          generalize z[n] = u at hz dz
          generalize y[n] = w at hy' dy
          walk_at "rd"
          refine r_ixL (ql hF) (atI_nat (by rw [List.getElem?_map, hz]; rfl)) ?_
          walk_at "rd"
          refine r_ixL (ql hya) (atI_nat (by rw [List.getElem?_map, hy']; rfl)) ?_
          walk_at "rd"
          refine r_iteD (fun h3 => ?_) (fun h3 => ?_)
          · have e3 : u = w := by omega
            refine r_turn ?_
            walk_at "rd"
            refine ⟨⟨n + 1, rfl, rfl, ?_⟩, by show z.length - ((n : Int) + 1).toNat < z.length - (n : Int).toNat; omega⟩
            rw [List.take_add_one, List.take_add_one, hz, hy', e, e3]
          · refine ex _ _ ⟨n, rfl, rfl, ?_⟩
            rw [cpre_at e, dz, dy, cpre_ne (fun e => h3 (by rw [e])), List.append_nil]
        · refine ex _ _ ⟨n, rfl, rfl, ?_⟩
          rw [cpre_at e, List.drop_of_length_le (show y.length ≤ n by omega), cpre_nil2, List.append_nil]
      · refine ex _ _ ⟨n, rfl, rfl, ?_⟩
        rw [cpre_at e, List.drop_of_length_le (show z.length ≤ n by omega), cpre_nil, List.append_nil]
  · rintro σ G ⟨F, v2, v3, rfl, sG, hF, hl⟩
    rw [List.length_map, lA, List.take_length] at hF
    walk_at "rd"
    exact q F G (s1.trans sG) hF
theorem ok_l_common (T : Txt K mg) : FnOk P w K mg base CX0 1 T.l_common_a T.l_common_d ["_law_texts"] (sp_l_common T) := by
  refine T.l_common_f.ok sc_l_common (fun vs H Q E h => len_l_common T vs H Q E h) (fun cdv A outer s H vs Q E hr h => ⟨t_l_common T, PSs.nox ?_, pure_l_common T vs H Q E h⟩)
  have hu := hu64 hr
  exact (pss_cons (ps_set (i := 1) sc_l_common.nd rfl (.inl rfl) (pe_ix ix_seq (pv 0) pe_int (fun _ _ => rfl)))
      (pss_cons (ps_for PassesOwn.never rfl (pi_seqU (pe_slice sl_U (pv 0) (po_some pe_int) po_none)) (pg_name (i := 2) sc_l_common.nd rfl (.inl rfl)) (pss_cons (ps_set (i := 3) sc_l_common.nd rfl (.inl rfl) pe_int)
      (pss_cons (ps_while PassesOwn.never (PW.pt (pw_and (pt_cmpR op_lt (pv 3) (pe_callB c_lenU (by rfl) T.n_len (by decide +kernel) (pa_cons (pv 1) pa_nil)) (nomark _)) (pw_and (pt_cmpR op_lt (pv 3) (pe_callB c_lenU (by rfl) T.n_len (by decide +kernel) (pa_cons (pv 2) pa_nil)) (nomark _)) (pw_and1 (pt_cmpR (op_eqU hu) (pe_ix ix_seq (pv 1) (pv 3) (fun _ _ => rfl)) (pe_ix ix_seq (pv 2) (pv 3) (fun _ _ => rfl)) (nomark _)))))) (pss_one (ps_set (i := 3) sc_l_common.nd rfl (.inl rfl) (pe_op op_addU (pv 3) pe_int))))
      (pss_one (ps_set (i := 1) sc_l_common.nd rfl (.inl rfl) (pe_slice sl_U (pv 1) po_none (po_some (pv 3))))))))
      (pss_one (ps_ret (pv 1)))))


end
section
variable {w : World} {K : PySem.W.Frag} {mg : Str → Option Value} {base : Heap}
local macro_rules | `(tactic| walk_at "hcq") => `(tactic| first
  | assumption
  | ((refine WaysAt.same (H := ?xH) ?xb ?xa); (case xa => assumption); (case xb => walk_at "hcq")))
local macro_rules | `(tactic| walk_at "rd0") => `(tactic| first
  | ((with_reducible refine r_getQ (a := ?xa) (c := ?xc) ?x1 ?x2 ?_); (case x1 => rfl); (case x2 => walk_at "hcq"))
  | ((with_reducible refine r_methQ (a := ?xa) (c := ?xc) ?x1 ?x2 ?x3 ?_); (case x1 => rfl); (case x2 => walk_at "hcq"); (case x3 => exact ⟨fun _ => rfl, fun _ _ => rfl⟩))
  | (with_reducible refine r_fmtB ?_)
  | (with_reducible refine r_dget ?_)
  | (with_reducible refine r_m0 ?_)
  | (with_reducible refine r_makeK ?_)
  | (with_reducible refine r_cval ?_)
  | (with_reducible refine r_sfld ?_)
  | (with_reducible refine r_isiI ?_)
  | (with_reducible refine r_isiIB ?_)
  | (with_reducible refine r_isiBB ?_)
  | (with_reducible refine r_isiS ?_)
  | (with_reducible refine r_int1I ?_)
  | (with_reducible refine r_int1B ?_))

local macro_rules | `(tactic| walk_at "hcr") => `(tactic| first
  | assumption
  | ((refine RulesAt.same (H := ?xH) ?xb ?xa); (case xa => assumption); (case xb => walk_at "hcr")))
local macro_rules | `(tactic| walk_at "rd0") => `(tactic| first
  | ((with_reducible refine r_getR (a := ?xa) (r := ?xr) ?x1 ?x2 ?_); (case x1 => rfl); (case x2 => walk_at "hcr")))

set_option hygiene false in
local macro_rules | `(tactic| walk_at "n1") => `(tactic| (refine And.intro (by walk_at "sz") ?_; intro p1 np1; generalize hg : upd _ p1 _ = H1; have s1 := same_of hg np1; have v1 := at_of hg; clear hg))
set_option hygiene false in
local macro_rules | `(tactic| walk_at "n2") => `(tactic| (refine And.intro (by walk_at "sz") ?_; intro p2 np2; generalize hg : upd _ p2 _ = H2; have s2 := same_of hg np2; have v2 := at_of hg; clear hg))
set_option hygiene false in
local macro_rules | `(tactic| walk_at "n3") => `(tactic| (refine And.intro (by walk_at "sz") ?_; intro p3 np3; generalize hg : upd _ p3 _ = H3; have s3 := same_of hg np3; have v3 := at_of hg; clear hg))
set_option hygiene false in
local macro_rules | `(tactic| walk_at "n4") => `(tactic| (refine And.intro (by walk_at "sz") ?_; intro p4 np4; generalize hg : upd _ p4 _ = H4; have s4 := same_of hg np4; have v4 := at_of hg; clear hg))

/-! ### what all right texts behind a beginning have in common -/
def more16 : List (List Nat) := [[], [65], [66], [32, 65], [48], [49], [48, 48], [70, 70], [10], [10, 65], [10, 66], [61, 10, 65], [61, 10, 66], [10, 61, 52, 49], [61, 52, 49], [61, 52, 50]]
theorem more16_len : ∀ m ∈ more16, m.length ≤ 4 := by decide
theorem take_C {c : QD} {r : RD} {s : RQ} {ch : Nat} (n1 : ch ≠ 10) (n2 : ch ≠ 32) (n3 : ch ≠ 61) (h : ¬ (s.beg.take 1 = [61] ∧ s.beg ≠ [61, 10])) (hr : roomQ c r s.col 1 = true) : takeQ c r s ch = some ([ch], ⟨nextQ c r s.col, []⟩) := by
  unfold takeQ
  rw [if_neg h, if_neg n1, if_neg (fun z => n2 z.1), if_neg (by rw [hr]; decide), if_neg n3]
theorem fin_C {c : QD} {r : RD} {s : RQ} {ch : Nat} (n1 : ch ≠ 10) (n2 : ch ≠ 32) (n3 : ch ≠ 61) (h : ¬ (s.beg.take 1 = [61] ∧ s.beg ≠ [61, 10])) (hr : roomQ c r s.col 1 = true) : finQ c r s [ch] = some [ch] := by
  rw [fin_cons, take_C n1 n2 n3 h hr]
  show (finQ c r ⟨nextQ c r s.col, []⟩ []).map _ = _
  rw [fin_nil rfl]
  rfl
/-- a beginning is right as it is, or goes on in two ways that tell different bytes -/
theorem two_ways {c : QD} (ok : c.Ok) {r : RD} {s : RQ} (F : FitW c r s) : finQ c r s [] = some [] ∨ ∃ m1 ∈ more16, ∃ m2 ∈ more16, ∃ y z t1 t2, y ≠ z ∧ finQ c r s m1 = some (y :: t1) ∧ finQ c r s m2 = some (z :: t2) := by
  obtain ⟨F, F1, F2⟩ := F
  have r0 : roomQ c r 0 1 = true := room_iff.mpr fun _ h => by rcases ok.w0 with z | z <;> omega
  have ab : ¬ (s.beg.take 1 = [61] ∧ s.beg ≠ [61, 10]) → roomQ c r s.col 1 = true → ∃ m1 ∈ more16, ∃ m2 ∈ more16, ∃ y z t1 t2, y ≠ z ∧ finQ c r s m1 = some (y :: t1) ∧ finQ c r s m2 = some (z :: t2) := fun h hr =>
    ⟨[65], by decide, [66], by decide, 65, 66, [], [], by decide, fin_C (by decide) (by decide) (by decide) h hr, fin_C (by decide) (by decide) (by decide) h hr⟩
  rcases F with h | h | h | h | ⟨d, hd, h⟩
  · exact .inl (fin_nil h)
  · exact .inr (ab (by rw [h]; decide) (F1 h))
  · have e : takeQ c r s 10 = some ([], ⟨0, if r.loose = true then [] else [61, 10]⟩) := by
      unfold takeQ
      rw [if_pos (by rw [h]; decide)]
      unfold digQ
      rw [if_pos ⟨rfl, h⟩]
    have two : ∀ ch, ch ≠ 10 → ch ≠ 32 → ch ≠ 61 → finQ c r s [10, ch] = some [ch] := by
      intro ch n1 n2 n3
      rw [fin_cons, e]
      show (finQ c r ⟨0, if r.loose = true then [] else [61, 10]⟩ [ch]).map (fun u => [] ++ u) = _
      rw [fin_C n1 n2 n3 ?_ r0]
      · rfl
      · show ¬ ((if r.loose = true then [] else [61, 10] : List Nat).take 1 = [61] ∧ (if r.loose = true then [] else [61, 10] : List Nat) ≠ [61, 10])
        split
        · decide
        · decide
    exact .inr ⟨[10, 65], by decide, [10, 66], by decide, 65, 66, [], [], by decide, two 65 (by decide) (by decide) (by decide), two 66 (by decide) (by decide) (by decide)⟩
  · exact .inr (ab (by rw [h]; decide) (by rw [F2 h]; exact r0))
  · have e16 := (hexes_iff d).mp hd
    have one : ∀ x, x = 48 ∨ x = 49 → finQ c r s [x] = some [Hx.hexNum [d, x]] := by
      intro x hx
      have e : takeQ c r s x = some ([Hx.hexNum (s.beg.drop 1 ++ [x])], ⟨nextQ c r s.col, []⟩) := by
        unfold takeQ
        rw [if_pos (by rw [h]; exact ⟨rfl, fun z => by cases z; omega⟩)]
        unfold digQ
        rw [if_neg (fun z => by rcases hx with rfl | rfl <;> cases z.1)]
        have e48 : hexQ r x = some x := by
          rw [hexQ_dgt]
          have : dgt r x = true := by unfold dgt; rw [decide_eq_true (show x ∈ hexes from (hexes_iff x).mpr (by omega)), Bool.true_or]
          rw [if_pos this]
          unfold upx
          rw [if_neg (by omega)]
        rw [e48]
        show (if s.beg ≠ [61] then _ else _) = _
        rw [if_pos (by rw [h]; simp)]
      rw [fin_cons, e, h]
      show (finQ c r ⟨nextQ c r s.col, []⟩ []).map _ = _
      rw [fin_nil rfl]
      rfl
    refine .inr ⟨[48], by decide, [49], by decide, Hx.hexNum [d, 48], Hx.hexNum [d, 49], [], [], ?_, one 48 (.inl rfl), one 49 (.inr rfl)⟩
    show (0 * 16 + Hx.hv d) * 16 + Hx.hv 48 ≠ (0 * 16 + Hx.hv d) * 16 + Hx.hv 49
    have h1 : Hx.hv 48 = 0 := rfl
    have h2 : Hx.hv 49 = 1 := rfl
    omega
def outs (c : QD) (r : RD) (l : List Nat) : List (List Nat) := more16.filterMap fun m => finQ c r opnQ (l ++ m)
theorem outs_comm {c : QD} (ok : c.Ok) {r : RD} {l f : List Nat} {s : RQ} (h : folQ c r opnQ l = some (f, s)) : ∃ x rest, outs c r l = x :: rest ∧ comm x rest = f := by
  have app : ∀ m, finQ c r opnQ (l ++ m) = (finQ c r s m).map fun t => f ++ t := fun m => by rw [finQ_app, h]; rfl
  have mem : ∀ m ∈ more16, ∀ t, finQ c r s m = some t → f ++ t ∈ outs c r l := fun m hm t ht => List.mem_filterMap.mpr ⟨m, hm, by rw [app, ht]; rfl⟩
  have ex : ∃ y, y ∈ outs c r l := by
    rcases two_ways ok (folQ_w (r := r) l opnQ s f (FitW.opn c r) h) with e | ⟨m1, h1, _, _, y, _, t1, _, _, e, _⟩
    · exact ⟨_, mem [] (by decide) [] e⟩
    · exact ⟨_, mem m1 h1 _ e⟩
  obtain ⟨y0, hy0⟩ := ex
  cases ho : outs c r l with
  | nil => rw [ho] at hy0; cases hy0
  | cons x rest =>
    refine ⟨x, rest, rfl, comm_is ?_ ?_⟩
    · rw [← ho]
      intro y hy
      obtain ⟨m, _, hm⟩ := List.mem_filterMap.mp hy
      rw [app] at hm
      obtain ⟨t, _, rfl⟩ := Option.map_eq_some_iff.mp hm
      exact ⟨t, rfl⟩
    · rw [← ho]
      rcases two_ways ok (folQ_w (r := r) l opnQ s f (FitW.opn c r) h) with e | ⟨m1, h1, m2, h2, y, z, t1, t2, ne, e1, e2⟩
      · refine .inl ?_
        have := mem [] (by decide) [] e
        rwa [List.append_nil] at this
      · exact .inr ⟨y, z, t1, t2, ne, mem m1 h1 _ e1, mem m2 h2 _ e2⟩
/-- data or None, told apart -/
def OV (H : Hp) (X : Addr) (v : V) : Option (List Nat) → Prop
  | none => v = .non
  | some ds => ∃ D, v = .ref D ∧ D ≠ X ∧ H D = some (.lst (ds.map nv)) ∧ ds.length ≤ 100000
theorem OV.move {H H' : Hp} {X : Addr} {v : V} {o : Option (List Nat)} (h : OV H X v o) (k : ∀ D u, D ≠ X → H D = some u → H' D = some u) : OV H' X v o := by
  cases o with
  | none => exact h
  | some ds =>
    obtain ⟨D, e, n, hd, l⟩ := h
    exact ⟨D, e, n, k _ _ n hd, l⟩
structure OVs (H : Hp) (X : Addr) (vs : List V) (os : List (Option (List Nat))) : Prop where
  ln : vs.length = os.length
  at_ : ∀ (i : Nat) v o, vs[i]? = some v → os[i]? = some o → OV H X v o
theorem OVs.move {H H' : Hp} {X : Addr} {vs : List V} {os : List (Option (List Nat))} (h : OVs H X vs os) (k : ∀ D u, D ≠ X → H D = some u → H' D = some u) : OVs H' X vs os := ⟨h.ln, fun i v o h1 h2 => (h.at_ i v o h1 h2).move k⟩
theorem OVs.snoc {H : Hp} {X : Addr} {vs : List V} {os : List (Option (List Nat))} {v : V} {o : Option (List Nat)} (h : OVs H X vs os) (hv : OV H X v o) : OVs H X (vs ++ [v]) (os ++ [o]) := by
  refine ⟨by rw [List.length_append, List.length_append, h.ln]; rfl, fun i b zs h1 h2 => ?_⟩
  by_cases e : i < vs.length
  · rw [List.getElem?_append_left e] at h1
    rw [List.getElem?_append_left (by rw [← h.ln]; exact e)] at h2
    exact h.at_ i b zs h1 h2
  · rw [List.getElem?_append_right (by omega)] at h1
    rw [List.getElem?_append_right (by rw [← h.ln]; omega), ← h.ln] at h2
    have e0 : i - vs.length = 0 := by
      by_cases z : i - vs.length = 0
      · exact z
      · rw [List.getElem?_eq_none (by show 1 ≤ _; omega)] at h1
        cases h1
    rw [e0] at h1 h2
    cases h1
    cases h2
    exact hv
theorem r_notNNr2 {a : Addr} {H : Hp} {Q : VK} (h : Q (.bl true) H) : rNotNN (.ref a) .non H Q := ⟨rfl, h⟩
def sp_l_begun_data (T : Txt K mg) : Sp := fun vs H Q _ => ∃ pc p c r l f s, vs = [.ref pc, .ref p, .str (tx l)] ∧ c.Ok ∧ TupQ H pc c ∧ LrAt H p r ∧ l.length ≤ 250 ∧ folQ c r opnQ l = some (f, s) ∧ ∀ o H', Same H H' → H' o = some (.lst (f.map nv)) → Q (.ref o) H'
theorem len_l_begun_data (T : Txt K mg) (vs : List V) (H : Hp) (Q : VK) (E : XK) (h : sp_l_begun_data T vs H Q E) : vs.length = 3 := by
  obtain ⟨_, _, _, _, _, _, _, rfl, _⟩ := h
  rfl
def t_l_begun_data (T : Txt K mg) : TS := (tSeq (tAsg (tLst (tCons (tC (.str (Str.ofString ""))) (tCons (tC (.str (Str.ofString "A"))) (tCons (tC (.str (Str.ofString "B"))) (tCons (tC (.str (Str.ofString " A"))) (tCons (tC (.str (Str.ofString "0"))) (tCons (tC (.str (Str.ofString "1"))) (tCons (tC (.str (Str.ofString "00"))) (tCons (tC (.str (Str.ofString "FF"))) (tCons (tC (.str (Str.ofString "\n"))) (tCons (tC (.str (Str.ofString "\nA"))) (tCons (tC (.str (Str.ofString "\nB"))) (tCons (tC (.str (Str.ofString "=\nA"))) (tCons (tC (.str (Str.ofString "=\nB"))) (tCons (tC (.str (Str.ofString "\n=41"))) (tCons (tC (.str (Str.ofString "=41"))) (tCons (tC (.str (Str.ofString "=42"))) tNil))))))))))))))))) (gName 3))
    (tSeq (tAsg (tLc (iSeqU K (tVar 3)) (gName 5) tYes (tCall (sp_l_quoted_data T) [] E0 (tCons (tVar 0) (tCons (tVar 1) (tCons (tOp (rAddU K) (tVar 2) (tVar 5)) tNil)))) [5]) (gName 4))
    (tRet (tCall (sp_l_common T) [] E0 (tCons (tLc (iSeqU K (tVar 4)) (gName 5) ((tTest (tOp rNotNN (tVar 5) (tC .non)))) (tVar 5) [5]) tNil)))))

theorem pure_l_begun_data (T : Txt K mg) (vs : List V) (H : Hp) (Q : VK) (E : XK) (h : sp_l_begun_data T vs H Q E) : t_l_begun_data T { nx := fun _ H' => Q .non H', rt := Q } (start ["_law_code", "_law_rules_here", "_law_text", "_law_more", "_law_some", "_law_one"] vs) H := by
  obtain ⟨pc, p, c, r, l, f, s, rfl, ok, hpc, hp, hl, ef, q⟩ := h
  obtain ⟨x0, rest, eo, ecm⟩ := outs_comm ok ef
  unfold t_l_begun_data
  walk_at "rd"
  refine And.intro (by show 16 ≤ sizeLine; decide) fun M nM => ?_
  generalize hg : upd _ M _ = H1
  have s1 := same_of hg nM
  have v1 : H1 M = some (.lst ((more16.map tx).map V.str)) := at_of hg
  clear hg
  walk_at "rd"
  refine r_iseqL ?_
  walk_at "rd"
  refine ⟨M, rfl, ⟨_, ql v1⟩, fun D nD => ?_⟩
  refine c_it (walk_list (K := K) (a := M) (xs := (more16.map tx).map V.str)) (fun i G => ∃ vs, G D = some (.lst vs) ∧ Same H1 G ∧ OVs G D vs ((more16.take i).map fun m => finQ c r opnQ (l ++ m))) ⟨[], upd_same, same_new nD, ⟨rfl, fun i v o h => nomatch h⟩⟩ (fun i G _ h => by
      obtain ⟨_, _, s, _⟩ := h
      exact ql (s _ _ v1)) ?_ ?_
  · rintro i x G0 G hi ⟨vs, hD, sG, hO⟩ ⟨rfl, hx'⟩
    rw [List.map_map, List.getElem?_map] at hx'
    obtain ⟨m, hm, rfl⟩ := Option.map_eq_some_iff.mp hx'
    have lm := more16_len m (List.mem_of_getElem? hm)
    have hi16 : i < 16 := hi
    have lvs : vs.length ≤ 16 := by
      rw [hO.ln, List.length_map, List.length_take]
      show min i 16 ≤ 16
      omega
    have etk : (more16.take (i + 1)).map (fun m => finQ c r opnQ (l ++ m)) = (more16.take i).map (fun m => finQ c r opnQ (l ++ m)) ++ [finQ c r opnQ (l ++ m)] := by
      rw [List.take_add_one, hm, List.map_append]
      rfl
    have fin : ∀ (v : V) (G2 : Hp), Same G G2 → OV G2 D v (finQ c r opnQ (l ++ m)) → ∃ acc, G2 D = some (.lst acc) ∧ acc.length < sizeLine ∧ ∃ vs, upd G2 D (.lst (acc ++ [v])) D = some (.lst vs) ∧ Same H1 (upd G2 D (.lst (acc ++ [v]))) ∧ OVs (upd G2 D (.lst (acc ++ [v]))) D vs ((more16.take (i + 1)).map fun m => finQ c r opnQ (l ++ m)) := by
      intro v G2 s2 hv
      refine ⟨vs, s2 _ _ hD, Nat.lt_of_le_of_lt lvs (by rw [sizeLine_eq]; decide), vs ++ [v], upd_same, same_mut (sG.trans s2) nD, ?_⟩
      rw [etk]
      exact ((hO.move fun D u _ h => s2 _ _ h).snoc hv).move fun D2 u n h => by rw [upd_ne n]; exact h
    have sH := s1.trans sG
    walk_at "rd"
    refine ⟨rfl, ?_⟩
    walk_at "rd"
    simp only [Function.comp]
    refine r_addUS (smallS (by rw [tx_len, tx_len]; omega)) ?_
    rw [tx_app]
    walk_at "rd"
    refine ⟨pc, p, c, r, l ++ m, rfl, sH _ _ hpc, sH _ _ hp, by rw [List.length_append]; omega, fun e H2 s2 => ?_, fun ds e hds D2 H2 s2 nD2 hD2 => ?_⟩
    · exact fin _ H2 s2 (by rw [e]; rfl)
    · refine fin _ H2 s2 ?_
      rw [e]
      exact ⟨D2, rfl, (ne_of_none hD nD2).symm, hD2, hds⟩
  rintro G ⟨vs, hD, sG, hO⟩
  have hO : OVs G D vs (more16.map fun m => finQ c r opnQ (l ++ m)) := hO
  have lvs : vs.length = 16 := by rw [hO.ln, List.length_map]; rfl
  walk_at "rd"
  refine r_iseqL ?_
  walk_at "rd"
  refine ⟨D, rfl, ⟨_, ql hD⟩, fun D2 nD2 => ?_⟩
  refine c_it (walk_list (K := K) (a := D) (xs := vs)) (fun i G' => ∃ as, G' D2 = some (.lst (as.map V.ref)) ∧ Same G G' ∧ LnsAt G as (((more16.map fun m => finQ c r opnQ (l ++ m)).take i).filterMap id) ∧ (∀ y ∈ ((more16.map fun m => finQ c r opnQ (l ++ m)).take i).filterMap id, y.length ≤ 100000)) ⟨[], upd_same, same_new nD2, trivial, fun y h => nomatch h⟩ (fun i G' _ h => by
      obtain ⟨_, _, s, _⟩ := h
      exact ql (s _ _ hD)) ?_ ?_
  · rintro i x G0 G1 hi ⟨as, hD2, sG1, hA, hy⟩ ⟨rfl, hx'⟩
    have hi16 : i < 16 := by omega
    obtain ⟨o, ho⟩ : ∃ o, (more16.map fun m => finQ c r opnQ (l ++ m))[i]? = some o := ⟨_, List.getElem?_eq_getElem (by rw [← hO.ln]; exact hi)⟩
    have hov := hO.at_ i x o hx' ho
    have etk : ((more16.map fun m => finQ c r opnQ (l ++ m)).take (i + 1)).filterMap id = ((more16.map fun m => finQ c r opnQ (l ++ m)).take i).filterMap id ++ o.toList := by
      rw [List.take_add_one, ho, List.filterMap_append]
      congr 1
    have lA := hA.len
    have lle : (((more16.map fun m => finQ c r opnQ (l ++ m)).take i).filterMap id).length ≤ 16 := by
      refine Nat.le_trans (List.length_filterMap_le _ _) ?_
      rw [List.length_take]
      omega
    rw [etk]
    generalize ((more16.map fun m => finQ c r opnQ (l ++ m)).take i).filterMap id = F at *
    walk_at "rd"
    refine ⟨rfl, ?_⟩
    walk_at "rd"
    cases o with
    | none =>
      have hov : x = .non := hov
      subst hov
      refine r_notNNn ?_
      walk_at "rd"
      exact ⟨as, hD2, sG1, by show LnsAt G as (F ++ []); rw [List.append_nil]; exact hA, by show ∀ y ∈ F ++ [], _; rw [List.append_nil]; exact hy⟩
    | some ds =>
      obtain ⟨Dd, rfl, nDd, hDd, lds⟩ := hov
      refine r_notNNr ?_
      walk_at "rd"
      refine ⟨_, hD2, ?_, as ++ [Dd], by rw [upd_same, List.map_append]; rfl, same_mut sG1 nD2, hA.snoc hDd, ?_⟩
      · rw [List.length_map, lA]
        exact Nat.lt_of_le_of_lt lle (by rw [sizeLine_eq]; decide)
      · intro y hm
        rcases List.mem_append.mp hm with hm | hm
        · exact hy y hm
        · rw [List.mem_singleton.mp hm]; exact lds
  rintro G' ⟨as, hD2, sG', hA, hy⟩
  have eo2 : ((more16.map fun m => finQ c r opnQ (l ++ m)).take vs.length).filterMap id = x0 :: rest := by
    rw [List.take_of_length_le (by rw [hO.ln]; exact Nat.le_refl _), List.filterMap_map, ← eo]
    rfl
  rw [eo2] at hA hy
  have lr : rest.length ≤ 100 := by
    have := List.length_filterMap_le (fun m => finQ c r opnQ (l ++ m)) more16
    have e : (outs c r l).length ≤ 16 := this
    rw [eo, List.length_cons] at e
    omega
  walk_at "rd"
  refine ⟨D2, as, x0, rest, rfl, hD2, hA.same sG', lr, hy, fun o H' s' ho => ?_⟩
  rw [ecm] at ho
  exact q o H' (s1.trans (sG.trans (sG'.trans s'))) ho
theorem ok_l_begun_data (T : Txt K mg) : FnOk P w K mg base CX0 3 T.l_begun_data_a T.l_begun_data_d ["_law_code", "_law_rules_here", "_law_text"] (sp_l_begun_data T) := by
  refine T.l_begun_data_f.ok sc_l_begun_data (fun vs H Q E h => len_l_begun_data T vs H Q E h) (fun cdv A outer s H vs Q E hr h => ⟨t_l_begun_data T, PSs.nox ?_, pure_l_begun_data T vs H Q E h⟩)
  have hu := hu64 hr
  exact (pss_cons (ps_set (i := 3) sc_l_begun_data.nd rfl (.inl rfl) (pe_lst (pa_cons pe_str (pa_cons pe_str (pa_cons pe_str (pa_cons pe_str (pa_cons pe_str (pa_cons pe_str (pa_cons pe_str (pa_cons pe_str (pa_cons pe_str (pa_cons pe_str (pa_cons pe_str (pa_cons pe_str (pa_cons pe_str (pa_cons pe_str (pa_cons pe_str (pa_cons pe_str pa_nil))))))))))))))))))
      (pss_cons (ps_setLc (i := 4) (own := [("_law_one", 5)]) (g := (gName 5)) (tt := tYes) rfl sc_l_begun_data.nd rfl rfl (sw_true rfl rfl rfl (by decide +kernel)) (pi_seqU (pv 3)) (blkOk_by (own := [("_law_one", 5)]) (N := ["_law_code", "_law_rules_here", "_law_text", "_law_more", "_law_some", "_law_one"]) (sc := defScope s_l_begun_data) (by decide +kernel)) (fun _ _ _ _ _ => (pg_name (i := 5) sc_l_begun_data.nd rfl (.inl rfl))) (fun _ _ _ _ _ => pts_nil) (fun _ _ _ _ _ => (pe_call (ok_l_quoted_data T) (hr.mono (by decide)) (by rfl) T.l_quoted_data_g T.l_quoted_data_f.kp T.l_quoted_data_b .nil pass0 (pa_cons (pv 0) (pa_cons (pv 1) (pa_cons (pe_op op_addU (pv 2) (pv 5)) pa_nil))))))
      (pss_one (ps_ret (pe_call (ok_l_common T) (hr.mono (by decide)) (by rfl) T.l_common_g T.l_common_f.kp T.l_common_b .nil pass0 (pa_cons (pe_lc (own := [("_law_one", 5)]) (g := (gName 5)) (tt := ((tTest (tOp rNotNN (tVar 5) (tC .non))))) rfl sc_l_begun_data.nd (pi_seqU (pv 4)) (blkOk_by (own := [("_law_one", 5)]) (N := ["_law_code", "_law_rules_here", "_law_text", "_law_more", "_law_some", "_law_one"]) (sc := defScope s_l_begun_data) (by decide +kernel)) (fun _ _ _ _ _ => (pg_name (i := 5) sc_l_begun_data.nd rfl (.inl rfl))) (fun _ _ _ _ _ => pts_one (pt_cmpR op_notN (pv 5) pe_non (nomark _))) (fun _ _ _ _ _ => (pv 5))) pa_nil))))))


end
section
variable {w : World} {K : PySem.W.Frag} {mg : Str → Option Value} {base : Heap}
local macro_rules | `(tactic| walk_at "hcq") => `(tactic| first
  | assumption
  | ((refine WaysAt.same (H := ?xH) ?xb ?xa); (case xa => assumption); (case xb => walk_at "hcq")))
local macro_rules | `(tactic| walk_at "rd0") => `(tactic| first
  | ((with_reducible refine r_getQ (a := ?xa) (c := ?xc) ?x1 ?x2 ?_); (case x1 => rfl); (case x2 => walk_at "hcq"))
  | ((with_reducible refine r_methQ (a := ?xa) (c := ?xc) ?x1 ?x2 ?x3 ?_); (case x1 => rfl); (case x2 => walk_at "hcq"); (case x3 => exact ⟨fun _ => rfl, fun _ _ => rfl⟩))
  | (with_reducible refine r_fmtB ?_)
  | (with_reducible refine r_dget ?_)
  | (with_reducible refine r_m0 ?_)
  | (with_reducible refine r_makeK ?_)
  | (with_reducible refine r_cval ?_)
  | (with_reducible refine r_sfld ?_)
  | (with_reducible refine r_isiI ?_)
  | (with_reducible refine r_isiIB ?_)
  | (with_reducible refine r_isiBB ?_)
  | (with_reducible refine r_isiS ?_)
  | (with_reducible refine r_int1I ?_)
  | (with_reducible refine r_int1B ?_))

local macro_rules | `(tactic| walk_at "hcr") => `(tactic| first
  | assumption
  | ((refine RulesAt.same (H := ?xH) ?xb ?xa); (case xa => assumption); (case xb => walk_at "hcr")))
local macro_rules | `(tactic| walk_at "rd0") => `(tactic| first
  | ((with_reducible refine r_getR (a := ?xa) (r := ?xr) ?x1 ?x2 ?_); (case x1 => rfl); (case x2 => walk_at "hcr")))

set_option hygiene false in
local macro_rules | `(tactic| walk_at "n1") => `(tactic| (refine And.intro (by walk_at "sz") ?_; intro p1 np1; generalize hg : upd _ p1 _ = H1; have s1 := same_of hg np1; have v1 := at_of hg; clear hg))
set_option hygiene false in
local macro_rules | `(tactic| walk_at "n2") => `(tactic| (refine And.intro (by walk_at "sz") ?_; intro p2 np2; generalize hg : upd _ p2 _ = H2; have s2 := same_of hg np2; have v2 := at_of hg; clear hg))
set_option hygiene false in
local macro_rules | `(tactic| walk_at "n3") => `(tactic| (refine And.intro (by walk_at "sz") ?_; intro p3 np3; generalize hg : upd _ p3 _ = H3; have s3 := same_of hg np3; have v3 := at_of hg; clear hg))
set_option hygiene false in
local macro_rules | `(tactic| walk_at "n4") => `(tactic| (refine And.intro (by walk_at "sz") ?_; intro p4 np4; generalize hg : upd _ p4 _ = H4; have s4 := same_of hg np4; have v4 := at_of hg; clear hg))

structure RdAt (T : Txt K mg) (H : Hp) (w ca ra st fo : Addr) (c : QD) (r : RD) (s : RQ) (f : List Nat) (m : Nat) (cl : Bool) : Prop where
  re : ReAt T H w ca ra st fo m cl
  qa : QuotAt T H ca c
  ru : RulesAt T H ra r
  sk : r.skip = []
  sa : QRStAt H st s.col s.beg
  ft : FitQ s
  fa : FoAt H fo f
  fl : f.length ≤ 10000
theorem RdAt.same {T : Txt K mg} {H H' : Hp} {w ca ra st fo : Addr} {c : QD} {r : RD} {s : RQ} {f : List Nat} {m : Nat} {cl : Bool} (h : RdAt T H w ca ra st fo c r s f m cl) (e : Same H H') : RdAt T H' w ca ra st fo c r s f m cl :=
  ⟨h.re.same e, h.qa.same e, h.ru.same e, h.sk, e _ _ h.sa, h.ft, e _ _ h.fa, h.fl⟩
theorem quot_sameB {T : Txt K mg} {H H' : Hp} {r b : Addr} {c : QD} {n : Nat} (h : QuotAt T H r c) (hb : BagAt H b n) (sb : SameB b H H') : QuotAt T H' r c := by
  obtain ⟨o, kp, ⟨dx, wp, h1, h2⟩, h3⟩ := h
  obtain ⟨dB, mB, cB, BB, eB⟩ := hb
  refine ⟨o, kp, ⟨dx, wp, sb _ _ ?_ h1, sb _ _ ?_ h2⟩, sb _ _ ?_ h3⟩
  · intro z
    rw [z, eB] at h1
    cases h1
  · intro z
    rw [z, eB] at h2
    cases h2
  · intro z
    rw [z, eB] at h3
    have := congrArg (fun o : Option HO => match o with | some (.lst l) => l.length | _ => 0) h3
    simp at this
theorem rules_sameB {T : Txt K mg} {H H' : Hp} {r b : Addr} {c : RD} {n : Nat} (h : RulesAt T H r c) (hb : BagAt H b n) (sb : SameB b H H') : RulesAt T H' r c := by
  obtain ⟨o, dx, D, h1, h2⟩ := h
  obtain ⟨dB, mB, cB, BB, eB⟩ := hb
  exact ⟨o, dx, D, sb _ _ (ne_ob h1 eB fun z => nomatch z) h1, sb _ _ (ne_ob h2 eB fun z => nomatch z) h2⟩
theorem r_assoc {A B C : TS} {D : Ends} {σ : S} {H : Hp} (h : tSeq (tSeq A B) C D σ H) : tSeq A (tSeq B C) D σ H := h
theorem bag_sameR {H H' : Hp} {b w C dx : Addr} {fs : List (Str × V)} {n : Nat} (h : BagAt H b n) (hw : H w = some (.ins C dx fs)) (sb : SameB w H H') : BagAt H' b n := by
  obtain ⟨d, x, c, B, e⟩ := h
  exact ⟨d, x, c, B, sb _ _ (ne_ob e hw fun z => nomatch z) e⟩
theorem fol_left {c : QD} {r : RD} {s : RQ} {a b : List Nat} (h : (folQ c r s (a ++ b)).isSome = true) : (folQ c r s a).isSome = true := by
  rw [folQ_app] at h
  cases e : folQ c r s a with
  | none => rw [e] at h; cases h
  | some p => rfl
def sp_law (T : Txt K mg) : Sp := fun vs H Q _ => ∃ (a : Addr) (ns : List Int), vs = [.ref a] ∧ SqL K H a (ns.map V.int) ∧ ns.length ≤ 63 ∧ ∀ H', Q (.bl true) H'
theorem len_law (T : Txt K mg) (vs : List V) (H : Hp) (Q : VK) (E : XK) (h : sp_law T vs H Q E) : vs.length = 1 := by
  obtain ⟨_, _, rfl, _⟩ := h
  rfl
def t_law (T : Txt K mg) : TS := (tSeq (tFor (iRng1 (tCons (tCB rMax2 (tCons (tC (.int 1)) (tCons (tCB rMin2 (tCons (tC (.int 4)) (tCons (tCB (rLenU K) (tCons (tVar 0) tNil)) tNil))) tNil))) tNil)) (gName 1) (tSeq (tAsg (tCall (sp_l_bag T) [] E0 (tCons (tVar 0) (tCons (tVar 1) tNil))) (gName 2))
    (tSeq (tPar 3 4 (tCons (tCall (sp_l_quoted T) [] E0 (tCons (tVar 2) tNil)) (tCons (tCall (sp_l_rules T) [] E0 (tCons (tVar 2) tNil)) tNil)))
    (tSeq (tPar 5 6 (tCons (tCall (sp_l_quoting T) [] E0 (tCons (tVar 3) tNil)) (tCons (tCall (sp_l_ruling T) [] E0 (tCons (tVar 2) (tCons (tVar 4) tNil))) tNil)))
    (tFor (iRng1 (tCons (tC (.int 6)) tNil)) (gName 7) (tSeq (tAsg (tCall (sp_l_some_text T) [] E0 (tCons (tVar 2) (tCons (tVar 3) tNil))) (gName 8))
    (tSeq (tAsg (tCall (sp_l_wrong T) [] E0 (tCons (tVar 3) (tCons (tVar 4) (tCons (tVar 8) tNil)))) (gName 9))
    (tSeq (tAsg (tIf (tTest (tOp rIsNN (tVar 9) (tC .non))) (tVar 8) (tSl (rSlU K) (tVar 8) tNoPart (tPart (tOp (rIx K) (tVar 9) (tC (.int 0)))))) (gName 8))
    (tSeq (tPar 10 11 (tCons (tMakeK T.C_Reader 2 ([] : List Str).length (sp_Reader___init__ T) (fun vs zs => vs ++ zs) E0 (tCons (tVar 5) (tCons (tVar 6) tNil)) tNil) (tCons (tLst tNil) tNil)))
    (tSeq (tFor (iEnumU K (tCons (tVar 8) tNil)) (gTup K 2 (gCons (gName 12) (gCons (gName 13) gNil))) (tSeq (tAsg (tOp (rAddU K) (tVar 11) (tCallOS T.C_Reader (sp_Reader___call__ T) (fun _ => E0) (tVar 10) (tCons (tVar 13) tNil))) (gName 11))
    (tIfS (tTest (tOp (rNeU K) (tVar 11) (tCall (sp_l_begun_data T) [] E0 (tCons (tVar 3) (tCons (tVar 4) (tCons (tSl (rSlU K) (tVar 8) tNoPart (tPart (tOp (rAddU K) (tVar 12) (tC (.int 1))))) tNil)))))) (tRet (tC (.bl false))) tNext)))
    (tIfS (tOr (tTest (tOp (rNeU K) (tProp T.C_Reader (sp_Reader_given T) [] E0 (tVar 10)) (tVar 11))) (tTest (tOp (rNeU K) (tProp T.C_Reader (sp_Reader_position T) [] E0 (tVar 10)) (tCB (rLenU K) (tCons (tVar 8) tNil))))) (tRet (tC (.bl false))) tNext)))))))))))
    (tRet (tC (.bl true))))

theorem pure_law (T : Txt K mg) (vs : List V) (H : Hp) (Q : VK) (E : XK) (h : sp_law T vs H Q E) : t_law T { nx := fun _ H' => Q .non H', rt := Q } (start ["_law_script", "_law_at", "_law_bag_here", "_law_code", "_law_rules_here", "_law_real", "_law_own", "_law_turn", "_law_text", "_law_wrong_here", "_law_reader", "_law_given", "_law_many", "_law_sign"] vs) H := by
  obtain ⟨a, ns, rfl, hS, hn, q⟩ := h
  unfold t_law
  walk_at "rd"
  generalize hc : (if (if ((List.map V.int ns).length : Int) < 4 then ((List.map V.int ns).length : Int) else 4) > 1 then (if ((List.map V.int ns).length : Int) < 4 then ((List.map V.int ns).length : Int) else 4) else 1) = cnt
  obtain ⟨cn, rfl, hcn⟩ : ∃ m : Nat, cnt = m ∧ m ≤ 4 := by
    refine ⟨cnt.toNat, ?_, ?_⟩
    · rw [← hc]; split <;> split <;> omega
    · rw [← hc]; split <;> split <;> omega
  refine r_one ⟨by omega, by omega⟩ ?_
  refine f_it (walk_range (lo := 0) (n := cn)) (fun i σ G => ∃ v1 v2 v3 v4 v5 v6 v7 v8 v9 v10 v11 v12 v13, σ = [some (.ref a), v1, v2, v3, v4, v5, v6, v7, v8, v9, v10, v11, v12, v13] ∧ Same H G)
    ⟨_, _, _, _, _, _, _, _, _, _, _, _, _, rfl, Same.refl H⟩ (fun _ _ _ _ _ => trivial) ?_ ?_
  rotate_left
  · rintro σ G ⟨v1, v2, v3, v4, v5, v6, v7, v8, v9, v10, v11, v12, v13, rfl, s⟩
    walk_at "rd"
    exact q G
  rintro i x σ G G' hi ⟨v1, v2, v3, v4, v5, v6, v7, v8, v9, v10, v11, v12, v13, rfl, s⟩ ⟨rfl, rfl⟩
  walk_at "rd"
  refine ⟨a, ns, i, by simp, s.seq hS, hn, by omega, fun b H0 s0 nb hb0 => ?_⟩
  walk_at "rd"
  refine ⟨b, 999990, rfl, hb0, fun p c H1 sb1 hb1 np hp ok => ?_⟩
  have pb : p ≠ b := hb0.ne np
  walk_at "rd"
  refine ⟨b, 999987, rfl, hb1, fun lr ll lo lf H2 sb2 hb2 nlr hlr => ?_⟩
  have lrb : lr ≠ b := hb1.ne nlr
  have hp2 : TupQ H2 p c := sb2 _ _ pb hp
  walk_at "rd"
  refine ⟨p, c, rfl, hp2, ok, fun u H3 s3 nu hu => ?_⟩
  have hb3 := hb2.same s3
  walk_at "rd"
  refine ⟨b, 999986, lr, ll, lo, lf, rfl, hb3, lrb, s3 _ _ hlr, fun rr r H4 sb4 hb4 nrr hrr hsk e1 e2 e3 => ?_⟩
  subst e1 e2 e3
  have hu4 := quot_sameB hu hb3 sb4
  have hp4 : TupQ H4 p c := sb4 _ _ pb (s3 _ _ hp2)
  have hlr4 : LrAt H4 lr r := sb4 _ _ lrb (s3 _ _ hlr)
  have S4 : Same G' H4 := same_mutB nb s0 (sb1.trans (sb2.trans ((toB s3).trans sb4)))
  walk_at "rd"
  refine r_one ⟨by decide, by decide⟩ ?_
  refine f_it (walk_range (lo := 0) (n := (6 : Int).toNat)) (fun j σ G => ∃ v7 v8 v9 v10 v11 v12 v13, σ = [some (.ref a), some (.int (0 + (i : Int))), some (.ref b), some (.ref p), some (.ref lr), some (.ref u), some (.ref rr), v7, v8, v9, v10, v11, v12, v13] ∧ Same G' G ∧ TupQ G p c ∧ LrAt G lr r ∧ QuotAt T G u c ∧ RulesAt T G rr r ∧ BagAt G b (999986 - 2000 * j))
    ⟨_, _, _, _, _, _, _, rfl, S4, hp4, hlr4, hu4, hrr, hb4⟩ (fun _ _ _ _ _ => trivial) ?_ ?_
  rotate_left
  · rintro σ G5 ⟨w7, w8, w9, w10, w11, w12, w13, rfl, sG, _⟩
    walk_at "rd"
    exact ⟨_, _, _, _, _, _, _, _, _, _, _, _, _, rfl, s.trans sG⟩
  rintro j x σ G5 G6 hj ⟨w7, w8, w9, w10, w11, w12, w13, rfl, sG, hp5, hlr5, hu5, hrr5, hb5⟩ ⟨rfl, rfl⟩
  have hj8 : j < 6 := hj
  walk_at "rd"
  refine ⟨b, p, c, 998786 - 2000 * j, rfl, hp5, ok, pb, hb5.mono (by omega), fun l0 H7 sb7 hb7 ht0 => ?_⟩
  have hp7 : TupQ H7 p c := sb7 _ _ pb hp5
  have hlr7 : LrAt H7 lr r := sb7 _ _ lrb hlr5
  have hu7 := quot_sameB hu5 hb5 sb7
  have hrr7 := rules_sameB hrr5 hb5 sb7
  have S7 : Same G' H7 := same_mutB nb sG sb7
  have zl0 : (tx l0).length ≤ sizeLine := smallS (by rw [tx_len]; have := ht0.1; omega)
  walk_at "rx"
  refine r_assoc ?_
  refine r_seqC (fun σ G8 => ∃ v9 l, σ = [some (.ref a), some (.int (0 + (i : Int))), some (.ref b), some (.ref p), some (.ref lr), some (.ref u), some (.ref rr), some (.int (0 + (j : Int))), some (.str (tx l)), v9, w10, w11, w12, w13] ∧ Same H7 G8 ∧ Txs 100 l ∧ (folQ c r opnQ l).isSome = true) ?_ fun N tail => ?_
  rotate_left
  · walk_at "rd"
    refine ⟨p, lr, c, r, l0, rfl, ok, hp7, hlr7, by have := ht0.1; omega, fun e H8 s8 => ?_, fun e D H8 s8 nD hD => ?_⟩
    · walk_at "rd"
      refine r_isNNn ?_
      walk_at "rd"
      refine tail _ _ ⟨_, l0, rfl, s8, ht0, ?_⟩
      unfold finQ at e
      cases h : folQ c r opnQ l0 with
      | none => rw [h] at e; cases e
      | some p => rfl
    · walk_at "rd"
      refine r_isNNr ?_
      walk_at "rd"
      have gl := goQ_le c r l0 opnQ
      refine r_slUS zl0 ?_
      rw [cut_take gl]
      walk_at "rd"
      refine tail _ _ ⟨_, l0.take (goQ c r opnQ l0), rfl, s8, ⟨?_, ht0.take _⟩, ?_⟩
      · rw [List.length_take]
        have := ht0.1
        omega
      · rw [fol_take c r l0 opnQ _ gl, decide_eq_true (Nat.le_refl _)]
  rintro σ G8 ⟨v9, l, rfl, s8, ht, hl⟩
  have hp8 : TupQ G8 p c := s8 _ _ hp7
  have hlr8 : LrAt G8 lr r := s8 _ _ hlr7
  have hu8 := hu7.same s8
  have hrr8 := hrr7.same s8
  have hb8 := hb7.same s8
  have S8 := S7.trans s8
  walk_at "rd"
  refine ⟨rfl, rfl, fun W dx nW ndx nex => ?_⟩
  have e1 := same_mut (o := .ins T.C_Reader dx []) (same_new (o := .own W) ndx) nW
  refine ⟨W, u, rr, dx, c, r, rfl, upd_same, hu8.same e1, hrr8.same e1, hsk, fun H9 st1 fo1 b1 hW1 hst1 hfo1 nst1 nfo1 => ⟨rfl, ?_⟩⟩
  have s9 : Same G8 H9 := same_mutB nW e1 b1
  have hb9 := hb8.same s9
  obtain ⟨dxW, hwW⟩ := id hW1
  have zl : (tx l).length ≤ sizeLine := smallS (by rw [tx_len]; have := ht.1; omega)
  have hu9 := hu8.same s9
  have hrr9 := hrr8.same s9
  have hp9 : TupQ H9 p c := s9 _ _ hp8
  have hlr9 : LrAt H9 lr r := s9 _ _ hlr8
  walk_at "rd"
  refine And.intro (Nat.zero_le _) fun F0 nF0 => ?_
  generalize hg : upd H9 F0 _ = HA
  have sA := same_of hg nF0
  have vA : HA F0 = some (.lst (([] : List Nat).map nv)) := at_of hg
  clear hg
  have RA : RdAt T HA W u rr st1 fo1 c r opnQ [] 0 false := ⟨hW1.same sA, hu9.same sA, hrr9.same sA, hsk, sA _ _ hst1, .inl rfl, sA _ _ hfo1, Nat.zero_le _⟩
  obtain ⟨dxA, hwA⟩ := id RA.re
  have hpA : TupQ HA p c := sA _ _ hp9
  have hlrA : LrAt HA lr r := sA _ _ hlr9
  have hbA := hb9.same sA
  have SA : Same G' HA := (S8.trans s9).trans sA
  walk_at "rd"
  refine r_enumS ?_
  walk_at "rd"
  refine ⟨tx l, rfl, ?_⟩
  refine f_it walk_pairs (fun k σ G => ∃ F v12 v13 st fo s f, σ = [some (.ref a), some (.int (0 + (i : Int))), some (.ref b), some (.ref p), some (.ref lr), some (.ref u), some (.ref rr), some (.int (0 + (j : Int))), some (.str (tx l)), v9, some (.ref W), some (.ref F), v12, v13] ∧ SameB W HA G ∧ RdAt T G W u rr st fo c r s f k false ∧ folQ c r opnQ (l.take k) = some (f, s) ∧ G F = some (.lst (f.map nv)))
    ⟨F0, _, _, st1, fo1, opnQ, [], rfl, (fun _ _ _ h => h), RA, rfl, vA⟩ (fun _ _ _ _ _ => trivial) ?_ ?_
  · rintro k x σ GB GC hk ⟨F, v12, v13, st, fo, s, f, rfl, sbk, Rk0, ek, hF0⟩ ⟨Tp, u0, w0, rfl, nT, hG', ea, eb⟩
    have hsT := same_of hG'.symm nT
    have hvT := at_of hG'.symm
    clear hG'
    cases ea
    unfold sgn at eb
    obtain ⟨ch, hch, rfl⟩ := Option.map_eq_some_iff.mp eb
    have hli : l[k]? = some ch := by
      have e : (tx l).cps[k]? = l[k]? := by simp [tx]
      rw [← e]
      exact hch
    have hkl : k < l.length := (List.getElem?_eq_some_iff.mp hli).1
    have Rk := Rk0.same hsT
    have hF := hsT _ _ hF0
    have sbC : SameB W HA GC := sbk.trans (toB hsT)
    obtain ⟨dxk, hwk⟩ := id Rk.re
    have etk : l.take (k + 1) = l.take k ++ [ch] := by rw [List.take_add_one, hli]; rfl
    have hsome : (folQ c r opnQ (l.take k ++ [ch])).isSome = true := by
      rw [← etk]
      refine fol_left (b := l.drop (k + 1)) ?_
      rw [List.take_append_drop]
      exact hl
    obtain ⟨⟨ds, s'⟩, e⟩ : ∃ q, folQ c r s [ch] = some q := by
      rw [folQ_app, ek] at hsome
      cases h : folQ c r s [ch] with
      | some q => exact ⟨q, rfl⟩
      | none =>
        exfalso
        have hsome : ((folQ c r s [ch]).map fun q => (f ++ q.1, q.2)).isSome = true := hsome
        rw [h] at hsome
        cases hsome
    have e01 : folQ c r opnQ (l.take (k + 1)) = some (f ++ ds, s') := by
      rw [etk, folQ_app, ek]
      show (folQ c r s [ch]).map _ = _
      rw [e]
      rfl
    have hfl0 := folQ_len _ _ _ _ ek
    have hfl1 := folQ_len _ _ _ _ e01
    rw [List.length_take] at hfl0 hfl1
    have hl100 := ht.1
    walk_at "rd"
    refine r_callOS rfl ?_
    walk_at "rd"
    refine ⟨⟨_, _, hwk⟩, W, u, rr, st, fo, c, r, s, f, k, false, _, rfl, Rk.re, Rk.qa, Rk.ru, Rk.sa, Rk.ft, Rk.fa, Rk.fl, (fun z => nomatch z), fun _ => .inl ⟨[ch], rfl, by show 1 ≤ 1000; decide, (fun x hx => ht.2 x (by rw [List.mem_singleton.mp hx]; exact List.mem_of_getElem? hli)), (fun z => nomatch (e.symm.trans z)), fun ds2 s2 e2 H2 D st2 fo2 b2 hW2 hst2 hfo2 hD2 nD nfo2 hor nDf => ?_⟩⟩
    cases Option.some.inj (e.symm.trans e2)
    have sb2 : SameB W HA H2 := sbC.trans b2
    have hF2 := b2 _ _ (ne_ob hF hwk fun z => nomatch z) hF
    unfold FoAt at hD2
    refine r_addUL hF2 hD2 (by rw [List.length_map, List.length_map, ← List.length_append]; exact smallS (by omega)) fun F' nF' => ?_
    generalize hg : upd _ F' _ = H3
    have s3 := same_of hg nF'
    have v3 : H3 F' = some (.lst ((f ++ ds).map nv)) := by rw [List.map_append]; exact at_of hg
    clear hg
    have sb3 : SameB W HA H3 := sb2.trans (toB s3)
    walk_at "rd"
    rw [show (k : Int) + 1 = ((k + 1 : Nat) : Int) from rfl]
    refine r_slUS zl ?_
    rw [cut_take (by omega)]
    walk_at "rd"
    refine ⟨p, lr, c, r, l.take (k + 1), f ++ ds, s', rfl, ok, sb3 _ _ (ne_ob hpA hwA fun z => nomatch z) hpA, sb3 _ _ (ne_ob hlrA hwA fun z => nomatch z) hlrA, by rw [List.length_take]; omega, e01, fun o H4 s4 ho => ?_⟩
    have v4 := s4 _ _ v3
    refine r_neN (ql v4) (ql ho) ?_
    rw [decide_eq_true rfl]
    walk_at "rd"
    have s34 := s3.trans s4
    have sb4 : SameB W HA H4 := sb3.trans (toB s4)
    have F' := (FitQ.len (s := s'))
    refine ⟨_, _, _, st2, fo2, s', f ++ ds, rfl, sb4, ⟨hW2.same s34, RA.qa.sameI sb4 hwA rfl, RA.ru.sameI sb4 hwA rfl, hsk, s34 _ _ hst2, (folQ_w _ _ _ _ (FitW.opn c r) e01).1, s34 _ _ hfo2, by omega⟩, e01, v4⟩
  · rintro σ GB ⟨F, v12, v13, st, fo, s, f, rfl, sbk, Rk, ek, hF⟩
    rw [show (tx l).cps.size = l.length by simp [tx]] at Rk ek
    rw [List.take_length] at ek
    obtain ⟨dxk, hwk⟩ := id Rk.re
    have hpB : TupQ GB p c := sbk _ _ (ne_ob hpA hwA fun z => nomatch z) hpA
    walk_at "rd"
    refine r_propI rfl hwk ?_
    refine ⟨W, u, rr, st, fo, l.length, false, f, rfl, Rk.re, Rk.fa, fun DA H3 s3 nDA hDA => ?_⟩
    unfold FoAt at hDA
    walk_at "rd"
    refine r_neN (ql hDA) (ql (s3 _ _ hF)) ?_
    rw [decide_eq_true rfl]
    walk_at "rd"
    refine r_propI rfl (s3 _ _ hwk) ?_
    refine ⟨W, u, rr, st, fo, l.length, false, rfl, Rk.re.same s3, ?_⟩
    walk_at "rd"
    refine r_lenUS zl ?_
    rw [tx_len]
    walk_at "rd"
    rw [decide_eq_true rfl]
    walk_at "rd"
    have sb3 : SameB W HA H3 := sbk.trans (toB s3)
    exact ⟨_, _, _, _, _, _, _, rfl, same_mutB (S8.free nW) SA sb3, sb3 _ _ (ne_ob hpA hwA fun z => nomatch z) hpA, sb3 _ _ (ne_ob hlrA hwA fun z => nomatch z) hlrA, RA.qa.sameI sb3 hwA rfl, RA.ru.sameI sb3 hwA rfl, (bag_sameR hbA hwA sb3).mono (by omega)⟩
theorem ok_law (T : Txt K mg) : FnOk P w K mg base CX0 9 T.law_a T.law_d ["_law_script"] (sp_law T) := by
  refine T.law_f.ok sc_law (fun vs H Q E h => len_law T vs H Q E h) (fun cdv A outer s H vs Q E hr h => ⟨t_law T, PSs.nox ?_, pure_law T vs H Q E h⟩)
  have hu := hu64 hr
  exact (pss_cons (ps_for PassesOwn.never rfl (pi_range1 (by rfl) T.n_range (pa_cons (pe_callB (call_max2 rfl) (by rfl) T.n_max (by decide +kernel) (pa_cons pe_int (pa_cons (pe_callB (call_min2 rfl) (by rfl) T.n_min (by decide +kernel) (pa_cons pe_int (pa_cons (pe_callB c_lenU (by rfl) T.n_len (by decide +kernel) (pa_cons (pv 0) pa_nil)) pa_nil))) pa_nil))) pa_nil)) (pg_name (i := 1) sc_law.nd rfl (.inl rfl)) (pss_cons (ps_set (i := 2) sc_law.nd rfl (.inl rfl) (pe_call (ok_l_bag T) (hr.mono (by decide)) (by rfl) T.l_bag_g T.l_bag_f.kp T.l_bag_b .nil pass0 (pa_cons (pv 0) (pa_cons (pv 1) pa_nil))))
      (pss_cons (ps_par (i := 3) (j := 4) (by rfl) sc_law.nd rfl rfl (by decide) rfl rfl (pa_cons (pe_call (ok_l_quoted T) (hr.mono (by decide)) (by rfl) T.l_quoted_g T.l_quoted_f.kp T.l_quoted_b .nil pass0 (pa_cons (pv 2) pa_nil)) (pa_cons (pe_call (ok_l_rules T) (hr.mono (by decide)) (by rfl) T.l_rules_g T.l_rules_f.kp T.l_rules_b .nil pass0 (pa_cons (pv 2) pa_nil)) pa_nil)) (by rfl))
      (pss_cons (ps_par (i := 5) (j := 6) (by rfl) sc_law.nd rfl rfl (by decide) rfl rfl (pa_cons (pe_call (ok_l_quoting T) (hr.mono (by decide)) (by rfl) T.l_quoting_g T.l_quoting_f.kp T.l_quoting_b .nil pass0 (pa_cons (pv 3) pa_nil)) (pa_cons (pe_call (ok_l_ruling T) (hr.mono (by decide)) (by rfl) T.l_ruling_g T.l_ruling_f.kp T.l_ruling_b .nil pass0 (pa_cons (pv 2) (pa_cons (pv 4) pa_nil))) pa_nil)) (by rfl))
      (pss_one (ps_for PassesOwn.never rfl (pi_range1 (by rfl) T.n_range (pa_cons pe_int pa_nil)) (pg_name (i := 7) sc_law.nd rfl (.inl rfl)) (pss_cons (ps_set (i := 8) sc_law.nd rfl (.inl rfl) (pe_call (ok_l_some_text T) (hr.mono (by decide)) (by rfl) T.l_some_text_g T.l_some_text_f.kp T.l_some_text_b .nil pass0 (pa_cons (pv 2) (pa_cons (pv 3) pa_nil))))
      (pss_cons (ps_set (i := 9) sc_law.nd rfl (.inl rfl) (pe_call (ok_l_wrong T) (hr.mono (by decide)) (by rfl) T.l_wrong_g T.l_wrong_f.kp T.l_wrong_b .nil pass0 (pa_cons (pv 3) (pa_cons (pv 4) (pa_cons (pv 8) pa_nil)))))
      (pss_cons (ps_set (i := 8) sc_law.nd rfl (.inl rfl) (pe_ifExp (pt_cmpR op_isN (pv 9) pe_non (nomark _)) (pv 8) (pe_slice sl_U (pv 8) po_none (po_some (pe_ix ix_seq (pv 9) pe_int (fun _ _ => rfl))))))
      (pss_cons (ps_par (i := 10) (j := 11) (by rfl) sc_law.nd rfl rfl (by decide) rfl rfl (pa_cons (pe_makeK T.C_Reader_m (ok_Reader___init__ T) (hr.mono (by decide)) (by rfl) T.C_Reader_g T.Reader___init___k2_.choose_spec pass0 (pa_cons (pv 5) (pa_cons (pv 6) pa_nil)) pk_nil) (pa_cons (pe_lst pa_nil) pa_nil)) (by rfl))
      (pss_cons (ps_for PassesOwn.never rfl (pi_enumU (by rfl) T.n_enumerate (pa_cons (pv 8) pa_nil)) (pg_tup (by rfl) (pgs_cons (pg_name (i := 12) sc_law.nd rfl (.inl rfl)) (pgs_cons (pg_name (i := 13) sc_law.nd rfl (.inl rfl)) pgs_nil))) (pss_cons (ps_set (i := 11) sc_law.nd rfl (.inl rfl) (pe_op op_addU (pv 11) (pe_callOS (pv 10) (callO_of T.Reader___call___m T.Reader___call___f) (ok_Reader___call__ T) (hr.mono (by decide)) T.Reader___call___b passLS (pa_cons (pv 13) pa_nil))))
      (pss_one (ps_if (pt_cmpR (op_neU hu) (pv 11) (pe_call (ok_l_begun_data T) (hr.mono (by decide)) (by rfl) T.l_begun_data_g T.l_begun_data_f.kp T.l_begun_data_b .nil pass0 (pa_cons (pv 3) (pa_cons (pv 4) (pa_cons (pe_slice sl_U (pv 8) po_none (po_some (pe_op op_addU (pv 12) pe_int))) pa_nil)))) (nomark _)) (pss_one (ps_ret pe_bl)) pss_nil))))
      (pss_one (ps_if (PW.pt (pw_or (pt_cmpR (op_neU hu) (pe_prop (pv 10) T.C_Reader_c T.Reader_given_p (ok_Reader_given T) (hr.mono (by decide)) T.Reader_given_b .nil pass0 rfl) (pv 11) (nomark _)) (pw_or1 (pt_cmpR (op_neU hu) (pe_prop (pv 10) T.C_Reader_c T.Reader_position_p (ok_Reader_position T) (hr.mono (by decide)) T.Reader_position_b .nil pass0 rfl) (pe_callB c_lenU (by rfl) T.n_len (by decide +kernel) (pa_cons (pv 8) pa_nil)) (nomark _))))) (pss_one (ps_ret pe_bl)) pss_nil)))))))))))))
      (pss_one (ps_ret pe_bl)))


end
section
variable {w : World} {K : PySem.W.Frag} {mg : Str → Option Value} {base : Heap}
theorem kb_Rules___init___ {fd : FuncData} {a : Addr} (F : FunD K "__init__" "Rules.__init__" (defArgs s_Rules___init__) (defBody s_Rules___init__) (defScope s_Rules___init__) [] [("pads", .str (Str.ofString "full")), ("skip", .str (Str.ofString "")), ("lines", .bl true), ("loose", .bl false), ("fold", .bl false)] a fd) :
    ∃ g, KBn K fd ["self", "pads", "skip", "lines", "loose", "fold"] 1 [] g (fun vs zs => vs ++ (zs ++ [.str (Str.ofString "full"), .str (Str.ofString ""), .bl true, .bl false, .bl false])) := by
  obtain ⟨mv, h⟩ := FunD.kbinds0 (ps := ["self", "pads", "skip", "lines", "loose", "fold"]) F 1 [] [("pads", .str (Str.ofString "full")), ("skip", .str (Str.ofString "")), ("lines", .bl true), ("loose", .bl false), ("fold", .bl false)] (fun a m z => a ++ (z ++ m)) (by simp) (by simp) (fun r1 r2 r3 => r1.append (r3.append r2))
    (fun D doc pm an cdv ct us mv ws l1 l2 l3 => match us, mv, ws, l1, l2, l3 with | [_], [_, _, _, _, _], [], _, _, _ => ⟨_, _, _, _, _, _, rfl, rfl, ⟨_, _, _, _, _, _, rfl, rfl, ⟨_, _, _, _, _, _, rfl, rfl, ⟨_, _, _, _, _, _, rfl, rfl, ⟨_, _, _, _, _, _, rfl, rfl, rfl⟩⟩⟩⟩⟩)
  exact ⟨_, h⟩
theorem kb_Quoted___init___width_binary_also {fd : FuncData} {a : Addr} (F : FunD K "__init__" "Quoted.__init__" (defArgs s_Quoted___init__) (defBody s_Quoted___init__) (defScope s_Quoted___init__) [] [("width", .int 0), ("binary", .bl false), ("also", .str (Str.ofString ""))] a fd) :
    ∃ g, KBn K fd ["self", "width", "binary", "also"] 1 ["width", "binary", "also"] g (fun vs zs => vs ++ zs) := by
  obtain ⟨mv, h⟩ := FunD.kbinds0 (ps := ["self", "width", "binary", "also"]) F 1 ["width", "binary", "also"] [] (fun a m z => a ++ z) (by simp) (by simp) (fun r1 r2 r3 => r1.append r3)
    (fun D doc pm an cdv ct us mv ws l1 l2 l3 => match us, mv, ws, l1, l2, l3 with | [_], [], [_, _, _], _, _, _ => rfl)
  exact ⟨_, h⟩
theorem kb_Rules___init___pads_lines_loose_fold {fd : FuncData} {a : Addr} (F : FunD K "__init__" "Rules.__init__" (defArgs s_Rules___init__) (defBody s_Rules___init__) (defScope s_Rules___init__) [] [("pads", .str (Str.ofString "full")), ("skip", .str (Str.ofString "")), ("lines", .bl true), ("loose", .bl false), ("fold", .bl false)] a fd) :
    ∃ g, KBn K fd ["self", "pads", "skip", "lines", "loose", "fold"] 1 ["pads", "lines", "loose", "fold"] g (fun vs zs => vs ++ (zs.take 1 ++ ([.str (Str.ofString "")] ++ zs.drop 1))) := by
  obtain ⟨mv, h⟩ := FunD.kbinds0 (ps := ["self", "pads", "skip", "lines", "loose", "fold"]) F 1 ["pads", "lines", "loose", "fold"] [("skip", .str (Str.ofString ""))] (fun a m z => a ++ (z.take 1 ++ (m ++ z.drop 1))) (by simp) (by simp) (fun r1 r2 r3 => r1.append ((vals_take 1 r3).append (r2.append (vals_drop 1 r3))))
    (fun D doc pm an cdv ct us mv ws l1 l2 l3 => match us, mv, ws, l1, l2, l3 with | [_], [_], [_, _, _, _], _, _, _ => ⟨_, _, _, _, _, _, rfl, rfl, rfl⟩)
  exact ⟨_, h⟩
theorem kb_Reader___init___ {fd : FuncData} {a : Addr} (F : FunD K "__init__" "Reader.__init__" (defArgs s_Reader___init__) (defBody s_Reader___init__) (defScope s_Reader___init__) [.non] [] a fd) :
    ∃ g, KBn K fd ["self", "code", "rules"] 3 [] g (fun vs zs => vs ++ zs) := by
  have hb : Binds K fd ["self", "code", "rules"] [] := binds_all (ps := ["self", "code", "rules"]) (dvs := [.non]) F (List.cons_ne_nil _ _) fun _ _ _ _ _ _ _ us its h1 h2 => match us, its, h1, h2 with | [_, _, _], [_], _, _ => ⟨_, rfl, rfl⟩
  refine ⟨fun us ws => us ++ ws, ⟨fun s us ws X l1 l2 => ?_, fun r1 r2 => r1.append r2⟩⟩
  cases ws with
  | cons _ _ => cases l2
  | nil =>
    have := hb s us X (by rw [List.append_nil]; exact l1)
    exact this

theorem htxt {K : PySem.W.Frag} {h : Heap} {mg : Str → Option Value} {f : Addr} (X : K.In h) (G : h.Ns mainGlobals mg) (hfa : mg ("law" : Str) = some (.ref f)) (c : SaysN hfacts hdefs herrs K) :
    ∃ T : Txt K mg, T.law_a = f ∧ ∀ (s : Shared) (v : Value), BindsTo s T.law_d ⟨[v], []⟩ [("_law_script", v)] := by
  obtain ⟨fd_is_integer, F_is_integer⟩ := c.def_ 0 (d := d_is_integer) rfl
  obtain ⟨fd_is_within, F_is_within⟩ := c.def_ 1 (d := d_is_within) rfl
  obtain ⟨fd_is_byte, F_is_byte⟩ := c.def_ 2 (d := d_is_byte) rfl
  obtain ⟨fd_is_sign, F_is_sign⟩ := c.def_ 3 (d := d_is_sign) rfl
  obtain ⟨fd_are_signs, F_are_signs⟩ := c.def_ 4 (d := d_are_signs) rfl
  obtain ⟨fd_are_characters, F_are_characters⟩ := c.def_ 5 (d := d_are_characters) rfl
  obtain ⟨fd_character_of, F_character_of⟩ := c.def_ 6 (d := d_character_of) rfl
  obtain ⟨fd_byte_of, F_byte_of⟩ := c.def_ 7 (d := d_byte_of) rfl
  obtain ⟨fd_check_text, F_check_text⟩ := c.def_ 8 (d := d_check_text) rfl
  obtain ⟨fd_other_case, F_other_case⟩ := c.def_ 9 (d := d_other_case) rfl
  obtain ⟨fd_is_option, F_is_option⟩ := c.def_ 10 (d := d_is_option) rfl
  obtain ⟨fd_Rules___init__, F_Rules___init__⟩ := c.def_ 11 (d := d_Rules___init__) rfl
  obtain ⟨fd_Rules_pads, F_Rules_pads⟩ := c.def_ 12 (d := d_Rules_pads) rfl
  obtain ⟨fd_Rules_skip, F_Rules_skip⟩ := c.def_ 13 (d := d_Rules_skip) rfl
  obtain ⟨fd_Rules_lines, F_Rules_lines⟩ := c.def_ 14 (d := d_Rules_lines) rfl
  obtain ⟨fd_Rules_loose, F_Rules_loose⟩ := c.def_ 15 (d := d_Rules_loose) rfl
  obtain ⟨fd_Rules_fold, F_Rules_fold⟩ := c.def_ 16 (d := d_Rules_fold) rfl
  obtain ⟨fd_hex_digit, F_hex_digit⟩ := c.def_ 17 (d := d_hex_digit) rfl
  obtain ⟨fd_Quoted_width, F_Quoted_width⟩ := c.def_ 18 (d := d_Quoted_width) rfl
  obtain ⟨fd_Quoted_binary, F_Quoted_binary⟩ := c.def_ 19 (d := d_Quoted_binary) rfl
  obtain ⟨fd_Quoted_also, F_Quoted_also⟩ := c.def_ 20 (d := d_Quoted_also) rfl
  obtain ⟨fd_Quoted_is_newline, F_Quoted_is_newline⟩ := c.def_ 21 (d := d_Quoted_is_newline) rfl
  obtain ⟨fd_Quoted_item_of, F_Quoted_item_of⟩ := c.def_ 22 (d := d_Quoted_item_of) rfl
  obtain ⟨fd_Quoted___init__, F_Quoted___init__⟩ := c.def_ 23 (d := d_Quoted___init__) rfl
  obtain ⟨fd_Quoted_column_behind, F_Quoted_column_behind⟩ := c.def_ 24 (d := d_Quoted_column_behind) rfl
  obtain ⟨fd_Quoted_fits, F_Quoted_fits⟩ := c.def_ 25 (d := d_Quoted_fits) rfl
  obtain ⟨fd_Quoted_suits, F_Quoted_suits⟩ := c.def_ 26 (d := d_Quoted_suits) rfl
  obtain ⟨fd_Quoted_kind_of, F_Quoted_kind_of⟩ := c.def_ 27 (d := d_Quoted_kind_of) rfl
  obtain ⟨fd_Quoted_opening, F_Quoted_opening⟩ := c.def_ 28 (d := d_Quoted_opening) rfl
  obtain ⟨fd_Quoted_has_room, F_Quoted_has_room⟩ := c.def_ 29 (d := d_Quoted_has_room) rfl
  obtain ⟨fd_Quoted_next_place, F_Quoted_next_place⟩ := c.def_ 30 (d := d_Quoted_next_place) rfl
  obtain ⟨fd_Quoted_take_digit, F_Quoted_take_digit⟩ := c.def_ 31 (d := d_Quoted_take_digit) rfl
  obtain ⟨fd_Quoted_take, F_Quoted_take⟩ := c.def_ 32 (d := d_Quoted_take) rfl
  obtain ⟨fd_Rules_suit, F_Rules_suit⟩ := c.def_ 33 (d := d_Rules_suit) rfl
  obtain ⟨fd_Machine_usual, F_Machine_usual⟩ := c.def_ 34 (d := d_Machine_usual) rfl
  obtain ⟨fd_rules_for, F_rules_for⟩ := c.def_ 35 (d := d_rules_for) rfl
  obtain ⟨fd_followed, F_followed⟩ := c.def_ 36 (d := d_followed) rfl
  obtain ⟨fd_Reader_need_open, F_Reader_need_open⟩ := c.def_ 37 (d := d_Reader_need_open) rfl
  obtain ⟨fd_Reader___init__, F_Reader___init__⟩ := c.def_ 38 (d := d_Reader___init__) rfl
  obtain ⟨fd_Reader___call__, F_Reader___call__⟩ := c.def_ 39 (d := d_Reader___call__) rfl
  obtain ⟨fd_Reader_given, F_Reader_given⟩ := c.def_ 40 (d := d_Reader_given) rfl
  obtain ⟨fd_Reader_position, F_Reader_position⟩ := c.def_ 41 (d := d_Reader_position) rfl
  obtain ⟨fd_l_bag, F_l_bag⟩ := c.def_ 42 (d := d_l_bag) rfl
  obtain ⟨fd_l_take, F_l_take⟩ := c.def_ 43 (d := d_l_take) rfl
  obtain ⟨fd_l_of, F_l_of⟩ := c.def_ 44 (d := d_l_of) rfl
  obtain ⟨fd_l_all_signs, F_l_all_signs⟩ := c.def_ 45 (d := d_l_all_signs) rfl
  obtain ⟨fd_l_quoted, F_l_quoted⟩ := c.def_ 46 (d := d_l_quoted) rfl
  obtain ⟨fd_l_quoting, F_l_quoting⟩ := c.def_ 47 (d := d_l_quoting) rfl
  obtain ⟨fd_l_bytes, F_l_bytes⟩ := c.def_ 48 (d := d_l_bytes) rfl
  obtain ⟨fd_l_capitals, F_l_capitals⟩ := c.def_ 49 (d := d_l_capitals) rfl
  obtain ⟨fd_l_item, F_l_item⟩ := c.def_ 50 (d := d_l_item) rfl
  obtain ⟨fd_l_lines, F_l_lines⟩ := c.def_ 51 (d := d_l_lines) rfl
  obtain ⟨fd_l_line_rows, F_l_line_rows⟩ := c.def_ 52 (d := d_l_line_rows) rfl
  obtain ⟨fd_l_quoted_text, F_l_quoted_text⟩ := c.def_ 53 (d := d_l_quoted_text) rfl
  obtain ⟨fd_l_row_data, F_l_row_data⟩ := c.def_ 54 (d := d_l_row_data) rfl
  obtain ⟨fd_l_soft, F_l_soft⟩ := c.def_ 55 (d := d_l_soft) rfl
  obtain ⟨fd_l_quoted_data, F_l_quoted_data⟩ := c.def_ 56 (d := d_l_quoted_data) rfl
  obtain ⟨fd_l_rules, F_l_rules⟩ := c.def_ 57 (d := d_l_rules) rfl
  obtain ⟨fd_l_ruling, F_l_ruling⟩ := c.def_ 58 (d := d_l_ruling) rfl
  obtain ⟨fd_l_tokens, F_l_tokens⟩ := c.def_ 59 (d := d_l_tokens) rfl
  obtain ⟨fd_l_bent, F_l_bent⟩ := c.def_ 60 (d := d_l_bent) rfl
  obtain ⟨fd_l_some_text, F_l_some_text⟩ := c.def_ 61 (d := d_l_some_text) rfl
  obtain ⟨fd_l_alive, F_l_alive⟩ := c.def_ 62 (d := d_l_alive) rfl
  obtain ⟨fd_l_wrong, F_l_wrong⟩ := c.def_ 63 (d := d_l_wrong) rfl
  obtain ⟨fd_l_common, F_l_common⟩ := c.def_ 64 (d := d_l_common) rfl
  obtain ⟨fd_l_begun_data, F_l_begun_data⟩ := c.def_ 65 (d := d_l_begun_data) rfl
  obtain ⟨fd_law, F_law⟩ := c.def_ 66 (d := d_law) rfl
  have XF_NoCharacter := c.err 0 (d := eN_NoCharacter) rfl
  have XF_Wrong := c.err 1 (d := eN_Wrong) rfl
  have XF_Closed := c.err 2 (d := eN_Closed) rfl
  have g_law := He.glo_ok X G (c.fact 72 (f := fFa (.glo "law")) rfl)
  have e := hfa.symm.trans g_law
  cases e
  obtain ⟨t_PRINTED, h_PRINTED⟩ := He.str_ok X G (c.fact 82 (f := fFa (.str "PRINTED" " !\"#$&'()*+,-./0123456789:;<=>?@ABCDEFGHIJKLMNOPQRSTUVWXYZ[\\]^_`abcdefghijklmnopqrstuvwxyz{|}~")) rfl)
  obtain ⟨t_CHARACTERS, h_CHARACTERS⟩ := He.str_ok X G (c.fact 83 (f := fFa (.str "CHARACTERS" "\n !\"#$&'()*+,-./0123456789:;<=>?@ABCDEFGHIJKLMNOPQRSTUVWXYZ[\\]^_`abcdefghijklmnopqrstuvwxyz{|}~")) rfl)
  obtain ⟨t_SPACE, h_SPACE⟩ := He.int_ok X G (c.fact 84 (f := fFa (.int "SPACE" 32)) rfl)
  obtain ⟨t_GAP, h_GAP⟩ := He.int_ok X G (c.fact 85 (f := fFa (.int "GAP" 37)) rfl)
  obtain ⟨t_LINE_FEED, h_LINE_FEED⟩ := He.int_ok X G (c.fact 86 (f := fFa (.int "LINE_FEED" 10)) rfl)
  obtain ⟨t_MOST_CHARACTERS, h_MOST_CHARACTERS⟩ := He.int_ok X G (c.fact 87 (f := fFa (.int "MOST_CHARACTERS" 12000)) rfl)
  obtain ⟨t_SMALLS, h_SMALLS⟩ := He.str_ok X G (c.fact 88 (f := fFa (.str "SMALLS" "abcdefghijklmnopqrstuvwxyz")) rfl)
  obtain ⟨t_CAPITALS, h_CAPITALS⟩ := He.str_ok X G (c.fact 89 (f := fFa (.str "CAPITALS" "ABCDEFGHIJKLMNOPQRSTUVWXYZ")) rfl)
  obtain ⟨t_HEX_DIGITS, h_HEX_DIGITS⟩ := He.str_ok X G (c.fact 94 (f := fFa (.str "HEX_DIGITS" "0123456789ABCDEF")) rfl)
  obtain ⟨t_BLANK, h_BLANK⟩ := He.str_ok X G (c.fact 95 (f := fFa (.str "BLANK" " ")) rfl)
  obtain ⟨t_ESCAPE, h_ESCAPE⟩ := He.str_ok X G (c.fact 96 (f := fFa (.str "ESCAPE" "=")) rfl)
  obtain ⟨t_NEWLINE, h_NEWLINE⟩ := He.str_ok X G (c.fact 97 (f := fFa (.str "NEWLINE" "\n")) rfl)
  obtain ⟨t_WIDEST, h_WIDEST⟩ := He.int_ok X G (c.fact 98 (f := fFa (.int "WIDEST" 76)) rfl)
  obtain ⟨t_LEAST_WIDTH, h_LEAST_WIDTH⟩ := He.int_ok X G (c.fact 99 (f := fFa (.int "LEAST_WIDTH" 4)) rfl)
  obtain ⟨t_SOFT_BREAK, h_SOFT_BREAK⟩ := He.str_ok X G (c.fact 100 (f := fFa (.str "SOFT_BREAK" "=\n")) rfl)
  refine ⟨{
    C_Rules := He.ga K "Rules"
    C_Rules_g := He.glo_ok X G (c.fact 0 (f := fFa (.glo "Rules")) rfl)
    C_Rules_c := He.cls_ok (c.fact 1 (f := fFa (.cls "Rules")) rfl)
    C_Quoted := He.ga K "Quoted"
    C_Quoted_g := He.glo_ok X G (c.fact 2 (f := fFa (.glo "Quoted")) rfl)
    C_Quoted_c := He.cls_ok (c.fact 3 (f := fFa (.cls "Quoted")) rfl)
    C_Reader := He.ga K "Reader"
    C_Reader_g := He.glo_ok X G (c.fact 4 (f := fFa (.glo "Reader")) rfl)
    C_Reader_c := He.cls_ok (c.fact 5 (f := fFa (.cls "Reader")) rfl)
    is_integer_a := _
    is_integer_d := fd_is_integer
    is_integer_f := F_is_integer
    is_integer_g := He.glo_ok X G (c.fact 6 (f := fFa (.glo "is_integer")) rfl)
    is_integer_b := FunD.bindsN (ps := ["value"]) F_is_integer fun _ _ _ _ _ _ us hl => match us, hl with | [_], _ => rfl
    is_within_a := _
    is_within_d := fd_is_within
    is_within_f := F_is_within
    is_within_g := He.glo_ok X G (c.fact 7 (f := fFa (.glo "is_within")) rfl)
    is_within_b := FunD.bindsN (ps := ["value", "low", "high"]) F_is_within fun _ _ _ _ _ _ us hl => match us, hl with | [_, _, _], _ => rfl
    is_byte_a := _
    is_byte_d := fd_is_byte
    is_byte_f := F_is_byte
    is_byte_g := He.glo_ok X G (c.fact 8 (f := fFa (.glo "is_byte")) rfl)
    is_byte_b := FunD.bindsN (ps := ["value"]) F_is_byte fun _ _ _ _ _ _ us hl => match us, hl with | [_], _ => rfl
    is_sign_a := _
    is_sign_d := fd_is_sign
    is_sign_f := F_is_sign
    is_sign_g := He.glo_ok X G (c.fact 9 (f := fFa (.glo "is_sign")) rfl)
    is_sign_b := FunD.bindsN (ps := ["value"]) F_is_sign fun _ _ _ _ _ _ us hl => match us, hl with | [_], _ => rfl
    are_signs_a := _
    are_signs_d := fd_are_signs
    are_signs_f := F_are_signs
    are_signs_g := He.glo_ok X G (c.fact 10 (f := fFa (.glo "are_signs")) rfl)
    are_signs_b := FunD.bindsN (ps := ["value"]) F_are_signs fun _ _ _ _ _ _ us hl => match us, hl with | [_], _ => rfl
    are_characters_a := _
    are_characters_d := fd_are_characters
    are_characters_f := F_are_characters
    are_characters_g := He.glo_ok X G (c.fact 11 (f := fFa (.glo "are_characters")) rfl)
    are_characters_b := FunD.bindsN (ps := ["value"]) F_are_characters fun _ _ _ _ _ _ us hl => match us, hl with | [_], _ => rfl
    character_of_a := _
    character_of_d := fd_character_of
    character_of_f := F_character_of
    character_of_g := He.glo_ok X G (c.fact 12 (f := fFa (.glo "character_of")) rfl)
    character_of_b := FunD.bindsN (ps := ["byte"]) F_character_of fun _ _ _ _ _ _ us hl => match us, hl with | [_], _ => rfl
    byte_of_a := _
    byte_of_d := fd_byte_of
    byte_of_f := F_byte_of
    byte_of_g := He.glo_ok X G (c.fact 13 (f := fFa (.glo "byte_of")) rfl)
    byte_of_b := FunD.bindsN (ps := ["character"]) F_byte_of fun _ _ _ _ _ _ us hl => match us, hl with | [_], _ => rfl
    check_text_a := _
    check_text_d := fd_check_text
    check_text_f := F_check_text
    check_text_g := He.glo_ok X G (c.fact 14 (f := fFa (.glo "check_text")) rfl)
    check_text_b := FunD.bindsN (ps := ["value"]) F_check_text fun _ _ _ _ _ _ us hl => match us, hl with | [_], _ => rfl
    other_case_a := _
    other_case_d := fd_other_case
    other_case_f := F_other_case
    other_case_g := He.glo_ok X G (c.fact 15 (f := fFa (.glo "other_case")) rfl)
    other_case_b := FunD.bindsN (ps := ["letter"]) F_other_case fun _ _ _ _ _ _ us hl => match us, hl with | [_], _ => rfl
    is_option_a := _
    is_option_d := fd_is_option
    is_option_f := F_is_option
    is_option_g := He.glo_ok X G (c.fact 16 (f := fFa (.glo "is_option")) rfl)
    is_option_b := FunD.bindsN (ps := ["name", "value"]) F_is_option fun _ _ _ _ _ _ us hl => match us, hl with | [_, _], _ => rfl
    Rules___init___a := _
    Rules___init___d := fd_Rules___init__
    Rules___init___f := F_Rules___init__
    C_Rules_m := He.mkr_ok (c.fact 17 (f := fFa (.mkr "Rules")) rfl)
    Rules_pads_a := _
    Rules_pads_d := fd_Rules_pads
    Rules_pads_f := F_Rules_pads
    Rules_pads_q := _
    Rules_pads_p := fProp_ok (c.fact 18 (f := fProp "Rules" "pads") rfl)
    Rules_pads_b := FunD.bindsN (ps := ["self"]) F_Rules_pads fun _ _ _ _ _ _ us hl => match us, hl with | [_], _ => rfl
    Rules_skip_a := _
    Rules_skip_d := fd_Rules_skip
    Rules_skip_f := F_Rules_skip
    Rules_skip_q := _
    Rules_skip_p := fProp_ok (c.fact 19 (f := fProp "Rules" "skip") rfl)
    Rules_skip_b := FunD.bindsN (ps := ["self"]) F_Rules_skip fun _ _ _ _ _ _ us hl => match us, hl with | [_], _ => rfl
    Rules_lines_a := _
    Rules_lines_d := fd_Rules_lines
    Rules_lines_f := F_Rules_lines
    Rules_lines_q := _
    Rules_lines_p := fProp_ok (c.fact 20 (f := fProp "Rules" "lines") rfl)
    Rules_lines_b := FunD.bindsN (ps := ["self"]) F_Rules_lines fun _ _ _ _ _ _ us hl => match us, hl with | [_], _ => rfl
    Rules_loose_a := _
    Rules_loose_d := fd_Rules_loose
    Rules_loose_f := F_Rules_loose
    Rules_loose_q := _
    Rules_loose_p := fProp_ok (c.fact 21 (f := fProp "Rules" "loose") rfl)
    Rules_loose_b := FunD.bindsN (ps := ["self"]) F_Rules_loose fun _ _ _ _ _ _ us hl => match us, hl with | [_], _ => rfl
    Rules_fold_a := _
    Rules_fold_d := fd_Rules_fold
    Rules_fold_f := F_Rules_fold
    Rules_fold_q := _
    Rules_fold_p := fProp_ok (c.fact 22 (f := fProp "Rules" "fold") rfl)
    Rules_fold_b := FunD.bindsN (ps := ["self"]) F_Rules_fold fun _ _ _ _ _ _ us hl => match us, hl with | [_], _ => rfl
    hex_digit_a := _
    hex_digit_d := fd_hex_digit
    hex_digit_f := F_hex_digit
    hex_digit_g := He.glo_ok X G (c.fact 23 (f := fFa (.glo "hex_digit")) rfl)
    hex_digit_b := FunD.bindsN (ps := ["rules", "character"]) F_hex_digit fun _ _ _ _ _ _ us hl => match us, hl with | [_, _], _ => rfl
    Quoted_width_a := _
    Quoted_width_d := fd_Quoted_width
    Quoted_width_f := F_Quoted_width
    Quoted_width_q := _
    Quoted_width_p := fProp_ok (c.fact 24 (f := fProp "Quoted" "width") rfl)
    Quoted_width_b := FunD.bindsN (ps := ["self"]) F_Quoted_width fun _ _ _ _ _ _ us hl => match us, hl with | [_], _ => rfl
    Quoted_binary_a := _
    Quoted_binary_d := fd_Quoted_binary
    Quoted_binary_f := F_Quoted_binary
    Quoted_binary_q := _
    Quoted_binary_p := fProp_ok (c.fact 25 (f := fProp "Quoted" "binary") rfl)
    Quoted_binary_b := FunD.bindsN (ps := ["self"]) F_Quoted_binary fun _ _ _ _ _ _ us hl => match us, hl with | [_], _ => rfl
    Quoted_also_a := _
    Quoted_also_d := fd_Quoted_also
    Quoted_also_f := F_Quoted_also
    Quoted_also_q := _
    Quoted_also_p := fProp_ok (c.fact 26 (f := fProp "Quoted" "also") rfl)
    Quoted_also_b := FunD.bindsN (ps := ["self"]) F_Quoted_also fun _ _ _ _ _ _ us hl => match us, hl with | [_], _ => rfl
    Quoted_is_newline_a := _
    Quoted_is_newline_d := fd_Quoted_is_newline
    Quoted_is_newline_f := F_Quoted_is_newline
    Quoted_is_newline_m := He.meth_ok (c.fact 27 (f := fFa (.meth "Quoted" "is_newline")) rfl)
    Quoted_is_newline_b := FunD.bindsN (ps := ["self", "byte"]) F_Quoted_is_newline fun _ _ _ _ _ _ us hl => match us, hl with | [_, _], _ => rfl
    Quoted_item_of_a := _
    Quoted_item_of_d := fd_Quoted_item_of
    Quoted_item_of_f := F_Quoted_item_of
    Quoted_item_of_m := He.meth_ok (c.fact 28 (f := fFa (.meth "Quoted" "item_of")) rfl)
    Quoted_item_of_b := FunD.bindsN (ps := ["self", "byte"]) F_Quoted_item_of fun _ _ _ _ _ _ us hl => match us, hl with | [_, _], _ => rfl
    Quoted___init___a := _
    Quoted___init___d := fd_Quoted___init__
    Quoted___init___f := F_Quoted___init__
    C_Quoted_m := He.mkr_ok (c.fact 29 (f := fFa (.mkr "Quoted")) rfl)
    Quoted_column_behind_a := _
    Quoted_column_behind_d := fd_Quoted_column_behind
    Quoted_column_behind_f := F_Quoted_column_behind
    Quoted_column_behind_m := He.meth_ok (c.fact 30 (f := fFa (.meth "Quoted" "column_behind")) rfl)
    Quoted_column_behind_b := FunD.bindsN (ps := ["self", "column", "size"]) F_Quoted_column_behind fun _ _ _ _ _ _ us hl => match us, hl with | [_, _, _], _ => rfl
    Quoted_fits_a := _
    Quoted_fits_d := fd_Quoted_fits
    Quoted_fits_f := F_Quoted_fits
    Quoted_fits_m := He.meth_ok (c.fact 31 (f := fFa (.meth "Quoted" "fits")) rfl)
    Quoted_fits_b := FunD.bindsN (ps := ["self", "column", "size"]) F_Quoted_fits fun _ _ _ _ _ _ us hl => match us, hl with | [_, _, _], _ => rfl
    Quoted_suits_a := _
    Quoted_suits_d := fd_Quoted_suits
    Quoted_suits_f := F_Quoted_suits
    Quoted_suits_m := He.meth_ok (c.fact 32 (f := fFa (.meth "Quoted" "suits")) rfl)
    Quoted_suits_b := FunD.bindsN (ps := ["self", "rules"]) F_Quoted_suits fun _ _ _ _ _ _ us hl => match us, hl with | [_, _], _ => rfl
    Quoted_kind_of_a := _
    Quoted_kind_of_d := fd_Quoted_kind_of
    Quoted_kind_of_f := F_Quoted_kind_of
    Quoted_kind_of_m := He.meth_ok (c.fact 33 (f := fFa (.meth "Quoted" "kind_of")) rfl)
    Quoted_kind_of_b := FunD.bindsN (ps := ["self", "rules", "character"]) F_Quoted_kind_of fun _ _ _ _ _ _ us hl => match us, hl with | [_, _, _], _ => rfl
    Quoted_opening_a := _
    Quoted_opening_d := fd_Quoted_opening
    Quoted_opening_f := F_Quoted_opening
    Quoted_opening_m := He.meth_ok (c.fact 34 (f := fFa (.meth "Quoted" "opening")) rfl)
    Quoted_opening_b := FunD.bindsN (ps := ["self"]) F_Quoted_opening fun _ _ _ _ _ _ us hl => match us, hl with | [_], _ => rfl
    Quoted_has_room_a := _
    Quoted_has_room_d := fd_Quoted_has_room
    Quoted_has_room_f := F_Quoted_has_room
    Quoted_has_room_m := He.meth_ok (c.fact 35 (f := fFa (.meth "Quoted" "has_room")) rfl)
    Quoted_has_room_b := FunD.bindsN (ps := ["self", "rules", "column", "size"]) F_Quoted_has_room fun _ _ _ _ _ _ us hl => match us, hl with | [_, _, _, _], _ => rfl
    Quoted_next_place_a := _
    Quoted_next_place_d := fd_Quoted_next_place
    Quoted_next_place_f := F_Quoted_next_place
    Quoted_next_place_m := He.meth_ok (c.fact 36 (f := fFa (.meth "Quoted" "next_place")) rfl)
    Quoted_next_place_b := FunD.bindsN (ps := ["self", "rules", "column"]) F_Quoted_next_place fun _ _ _ _ _ _ us hl => match us, hl with | [_, _, _], _ => rfl
    Quoted_take_digit_a := _
    Quoted_take_digit_d := fd_Quoted_take_digit
    Quoted_take_digit_f := F_Quoted_take_digit
    Quoted_take_digit_m := He.meth_ok (c.fact 37 (f := fFa (.meth "Quoted" "take_digit")) rfl)
    Quoted_take_digit_b := FunD.bindsN (ps := ["self", "rules", "state", "character"]) F_Quoted_take_digit fun _ _ _ _ _ _ us hl => match us, hl with | [_, _, _, _], _ => rfl
    Quoted_take_a := _
    Quoted_take_d := fd_Quoted_take
    Quoted_take_f := F_Quoted_take
    Quoted_take_m := He.meth_ok (c.fact 38 (f := fFa (.meth "Quoted" "take")) rfl)
    Quoted_take_b := FunD.bindsN (ps := ["self", "rules", "state", "character"]) F_Quoted_take fun _ _ _ _ _ _ us hl => match us, hl with | [_, _, _, _], _ => rfl
    Rules_suit_a := _
    Rules_suit_d := fd_Rules_suit
    Rules_suit_f := F_Rules_suit
    Rules_suit_m := He.meth_ok (c.fact 39 (f := fFa (.meth "Rules" "suit")) rfl)
    Rules_suit_b := FunD.bindsN (ps := ["self", "code"]) F_Rules_suit fun _ _ _ _ _ _ us hl => match us, hl with | [_, _], _ => rfl
    Machine_usual_a := _
    Machine_usual_d := fd_Machine_usual
    Machine_usual_f := F_Machine_usual
    Machine_usual_m := He.meth_ok (c.fact 40 (f := fFa (.meth "Quoted" "usual")) rfl)
    Machine_usual_b := FunD.bindsN (ps := ["self"]) F_Machine_usual fun _ _ _ _ _ _ us hl => match us, hl with | [_], _ => rfl
    rules_for_a := _
    rules_for_d := fd_rules_for
    rules_for_f := F_rules_for
    rules_for_g := He.glo_ok X G (c.fact 41 (f := fFa (.glo "rules_for")) rfl)
    rules_for_b := FunD.bindsN (ps := ["code", "rules"]) F_rules_for fun _ _ _ _ _ _ us hl => match us, hl with | [_, _], _ => rfl
    followed_a := _
    followed_d := fd_followed
    followed_f := F_followed
    followed_g := He.glo_ok X G (c.fact 42 (f := fFa (.glo "followed")) rfl)
    followed_b := FunD.bindsN (ps := ["code", "rules", "state", "place", "text"]) F_followed fun _ _ _ _ _ _ us hl => match us, hl with | [_, _, _, _, _], _ => rfl
    Reader_need_open_a := _
    Reader_need_open_d := fd_Reader_need_open
    Reader_need_open_f := F_Reader_need_open
    Reader_need_open_m := He.meth_ok (c.fact 43 (f := fFa (.meth "Reader" "need_open")) rfl)
    Reader_need_open_b := FunD.bindsN (ps := ["self"]) F_Reader_need_open fun _ _ _ _ _ _ us hl => match us, hl with | [_], _ => rfl
    Reader___init___a := _
    Reader___init___d := fd_Reader___init__
    Reader___init___f := F_Reader___init__
    C_Reader_m := He.mkr_ok (c.fact 44 (f := fFa (.mkr "Reader")) rfl)
    Reader___init___b := binds_all (ps := ["self", "code", "rules"]) (dvs := [.non]) F_Reader___init__ (List.cons_ne_nil _ _) fun _ _ _ _ _ _ _ us its h1 h2 => match us, its, h1, h2 with | [_, _, _], [_], _, _ => ⟨_, rfl, rfl⟩
    Reader___call___a := _
    Reader___call___d := fd_Reader___call__
    Reader___call___f := F_Reader___call__
    Reader___call___m := He.meth_ok (c.fact 45 (f := fFa (.meth "Reader" "__call__")) rfl)
    Reader___call___b := FunD.bindsN (ps := ["self", "piece"]) F_Reader___call__ fun _ _ _ _ _ _ us hl => match us, hl with | [_, _], _ => rfl
    Reader_given_a := _
    Reader_given_d := fd_Reader_given
    Reader_given_f := F_Reader_given
    Reader_given_q := _
    Reader_given_p := fProp_ok (c.fact 46 (f := fProp "Reader" "given") rfl)
    Reader_given_b := FunD.bindsN (ps := ["self"]) F_Reader_given fun _ _ _ _ _ _ us hl => match us, hl with | [_], _ => rfl
    Reader_position_a := _
    Reader_position_d := fd_Reader_position
    Reader_position_f := F_Reader_position
    Reader_position_q := _
    Reader_position_p := fProp_ok (c.fact 47 (f := fProp "Reader" "position") rfl)
    Reader_position_b := FunD.bindsN (ps := ["self"]) F_Reader_position fun _ _ _ _ _ _ us hl => match us, hl with | [_], _ => rfl
    l_bag_a := _
    l_bag_d := fd_l_bag
    l_bag_f := F_l_bag
    l_bag_g := He.glo_ok X G (c.fact 48 (f := fFa (.glo "_law_bag")) rfl)
    l_bag_b := FunD.bindsN (ps := ["_law_script", "_law_at"]) F_l_bag fun _ _ _ _ _ _ us hl => match us, hl with | [_, _], _ => rfl
    l_take_a := _
    l_take_d := fd_l_take
    l_take_f := F_l_take
    l_take_g := He.glo_ok X G (c.fact 49 (f := fFa (.glo "_law_take")) rfl)
    l_take_b := FunD.bindsN (ps := ["_law_bag_here", "_law_many"]) F_l_take fun _ _ _ _ _ _ us hl => match us, hl with | [_, _], _ => rfl
    l_of_a := _
    l_of_d := fd_l_of
    l_of_f := F_l_of
    l_of_g := He.glo_ok X G (c.fact 50 (f := fFa (.glo "_law_of")) rfl)
    l_of_b := FunD.bindsN (ps := ["_law_bag_here", "_law_some"]) F_l_of fun _ _ _ _ _ _ us hl => match us, hl with | [_, _], _ => rfl
    l_all_signs_a := _
    l_all_signs_d := fd_l_all_signs
    l_all_signs_f := F_l_all_signs
    l_all_signs_g := He.glo_ok X G (c.fact 51 (f := fFa (.glo "_law_all_signs")) rfl)
    l_all_signs_b := FunD.bindsN (ps := []) F_l_all_signs fun _ _ _ _ _ _ us hl => match us, hl with | [], _ => rfl
    l_quoted_a := _
    l_quoted_d := fd_l_quoted
    l_quoted_f := F_l_quoted
    l_quoted_g := He.glo_ok X G (c.fact 52 (f := fFa (.glo "_law_quoted")) rfl)
    l_quoted_b := FunD.bindsN (ps := ["_law_bag_here"]) F_l_quoted fun _ _ _ _ _ _ us hl => match us, hl with | [_], _ => rfl
    l_quoting_a := _
    l_quoting_d := fd_l_quoting
    l_quoting_f := F_l_quoting
    l_quoting_g := He.glo_ok X G (c.fact 53 (f := fFa (.glo "_law_quoting")) rfl)
    l_quoting_b := FunD.bindsN (ps := ["_law_code"]) F_l_quoting fun _ _ _ _ _ _ us hl => match us, hl with | [_], _ => rfl
    l_bytes_a := _
    l_bytes_d := fd_l_bytes
    l_bytes_f := F_l_bytes
    l_bytes_g := He.glo_ok X G (c.fact 54 (f := fFa (.glo "_law_bytes")) rfl)
    l_bytes_b := FunD.bindsN (ps := ["_law_bag_here", "_law_most"]) F_l_bytes fun _ _ _ _ _ _ us hl => match us, hl with | [_, _], _ => rfl
    l_capitals_a := _
    l_capitals_d := fd_l_capitals
    l_capitals_f := F_l_capitals
    l_capitals_g := He.glo_ok X G (c.fact 55 (f := fFa (.glo "_law_capitals")) rfl)
    l_capitals_b := FunD.bindsN (ps := ["_law_byte"]) F_l_capitals fun _ _ _ _ _ _ us hl => match us, hl with | [_], _ => rfl
    l_item_a := _
    l_item_d := fd_l_item
    l_item_f := F_l_item
    l_item_g := He.glo_ok X G (c.fact 56 (f := fFa (.glo "_law_item")) rfl)
    l_item_b := FunD.bindsN (ps := ["_law_code", "_law_byte"]) F_l_item fun _ _ _ _ _ _ us hl => match us, hl with | [_, _], _ => rfl
    l_lines_a := _
    l_lines_d := fd_l_lines
    l_lines_f := F_l_lines
    l_lines_g := He.glo_ok X G (c.fact 57 (f := fFa (.glo "_law_lines")) rfl)
    l_lines_b := FunD.bindsN (ps := ["_law_code", "_law_data"]) F_l_lines fun _ _ _ _ _ _ us hl => match us, hl with | [_, _], _ => rfl
    l_line_rows_a := _
    l_line_rows_d := fd_l_line_rows
    l_line_rows_f := F_l_line_rows
    l_line_rows_g := He.glo_ok X G (c.fact 58 (f := fFa (.glo "_law_line_rows")) rfl)
    l_line_rows_b := FunD.bindsN (ps := ["_law_code", "_law_line"]) F_l_line_rows fun _ _ _ _ _ _ us hl => match us, hl with | [_, _], _ => rfl
    l_quoted_text_a := _
    l_quoted_text_d := fd_l_quoted_text
    l_quoted_text_f := F_l_quoted_text
    l_quoted_text_g := He.glo_ok X G (c.fact 59 (f := fFa (.glo "_law_quoted_text")) rfl)
    l_quoted_text_b := FunD.bindsN (ps := ["_law_code", "_law_data"]) F_l_quoted_text fun _ _ _ _ _ _ us hl => match us, hl with | [_, _], _ => rfl
    l_row_data_a := _
    l_row_data_d := fd_l_row_data
    l_row_data_f := F_l_row_data
    l_row_data_g := He.glo_ok X G (c.fact 60 (f := fFa (.glo "_law_row_data")) rfl)
    l_row_data_b := FunD.bindsN (ps := ["_law_rules_here", "_law_row", "_law_is_soft"]) F_l_row_data fun _ _ _ _ _ _ us hl => match us, hl with | [_, _, _], _ => rfl
    l_soft_a := _
    l_soft_d := fd_l_soft
    l_soft_f := F_l_soft
    l_soft_g := He.glo_ok X G (c.fact 61 (f := fFa (.glo "_law_soft")) rfl)
    l_soft_b := FunD.bindsN (ps := ["_law_row"]) F_l_soft fun _ _ _ _ _ _ us hl => match us, hl with | [_], _ => rfl
    l_quoted_data_a := _
    l_quoted_data_d := fd_l_quoted_data
    l_quoted_data_f := F_l_quoted_data
    l_quoted_data_g := He.glo_ok X G (c.fact 62 (f := fFa (.glo "_law_quoted_data")) rfl)
    l_quoted_data_b := FunD.bindsN (ps := ["_law_code", "_law_rules_here", "_law_text"]) F_l_quoted_data fun _ _ _ _ _ _ us hl => match us, hl with | [_, _, _], _ => rfl
    l_rules_a := _
    l_rules_d := fd_l_rules
    l_rules_f := F_l_rules
    l_rules_g := He.glo_ok X G (c.fact 63 (f := fFa (.glo "_law_rules")) rfl)
    l_rules_b := FunD.bindsN (ps := ["_law_bag_here"]) F_l_rules fun _ _ _ _ _ _ us hl => match us, hl with | [_], _ => rfl
    l_ruling_a := _
    l_ruling_d := fd_l_ruling
    l_ruling_f := F_l_ruling
    l_ruling_g := He.glo_ok X G (c.fact 64 (f := fFa (.glo "_law_ruling")) rfl)
    l_ruling_b := FunD.bindsN (ps := ["_law_bag_here", "_law_rules_here"]) F_l_ruling fun _ _ _ _ _ _ us hl => match us, hl with | [_, _], _ => rfl
    l_tokens_a := _
    l_tokens_d := fd_l_tokens
    l_tokens_f := F_l_tokens
    l_tokens_g := He.glo_ok X G (c.fact 65 (f := fFa (.glo "_law_tokens")) rfl)
    l_tokens_b := FunD.bindsN (ps := ["_law_bag_here", "_law_code", "_law_many"]) F_l_tokens fun _ _ _ _ _ _ us hl => match us, hl with | [_, _, _], _ => rfl
    l_bent_a := _
    l_bent_d := fd_l_bent
    l_bent_f := F_l_bent
    l_bent_g := He.glo_ok X G (c.fact 66 (f := fFa (.glo "_law_bent")) rfl)
    l_bent_b := FunD.bindsN (ps := ["_law_bag_here", "_law_text"]) F_l_bent fun _ _ _ _ _ _ us hl => match us, hl with | [_, _], _ => rfl
    l_some_text_a := _
    l_some_text_d := fd_l_some_text
    l_some_text_f := F_l_some_text
    l_some_text_g := He.glo_ok X G (c.fact 67 (f := fFa (.glo "_law_some_text")) rfl)
    l_some_text_b := FunD.bindsN (ps := ["_law_bag_here", "_law_code"]) F_l_some_text fun _ _ _ _ _ _ us hl => match us, hl with | [_, _], _ => rfl
    l_alive_a := _
    l_alive_d := fd_l_alive
    l_alive_f := F_l_alive
    l_alive_g := He.glo_ok X G (c.fact 68 (f := fFa (.glo "_law_alive")) rfl)
    l_alive_b := FunD.bindsN (ps := ["_law_code", "_law_rules_here", "_law_text"]) F_l_alive fun _ _ _ _ _ _ us hl => match us, hl with | [_, _, _], _ => rfl
    l_wrong_a := _
    l_wrong_d := fd_l_wrong
    l_wrong_f := F_l_wrong
    l_wrong_g := He.glo_ok X G (c.fact 69 (f := fFa (.glo "_law_wrong")) rfl)
    l_wrong_b := FunD.bindsN (ps := ["_law_code", "_law_rules_here", "_law_text"]) F_l_wrong fun _ _ _ _ _ _ us hl => match us, hl with | [_, _, _], _ => rfl
    l_common_a := _
    l_common_d := fd_l_common
    l_common_f := F_l_common
    l_common_g := He.glo_ok X G (c.fact 70 (f := fFa (.glo "_law_common")) rfl)
    l_common_b := FunD.bindsN (ps := ["_law_texts"]) F_l_common fun _ _ _ _ _ _ us hl => match us, hl with | [_], _ => rfl
    l_begun_data_a := _
    l_begun_data_d := fd_l_begun_data
    l_begun_data_f := F_l_begun_data
    l_begun_data_g := He.glo_ok X G (c.fact 71 (f := fFa (.glo "_law_begun_data")) rfl)
    l_begun_data_b := FunD.bindsN (ps := ["_law_code", "_law_rules_here", "_law_text"]) F_l_begun_data fun _ _ _ _ _ _ us hl => match us, hl with | [_, _, _], _ => rfl
    law_a := _
    law_d := fd_law
    law_f := F_law
    law_g := He.glo_ok X G (c.fact 72 (f := fFa (.glo "law")) rfl)
    law_b := FunD.bindsN (ps := ["_law_script"]) F_law fun _ _ _ _ _ _ us hl => match us, hl with | [_], _ => rfl
    Rules___init___k0_ := kb_Rules___init___ F_Rules___init__
    Quoted___init___k0_width_binary_also := kb_Quoted___init___width_binary_also F_Quoted___init__
    Rules___init___k0_pads_lines_loose_fold := kb_Rules___init___pads_lines_loose_fold F_Rules___init__
    Reader___init___k2_ := kb_Reader___init___ F_Reader___init__
    C_Rules_n_options := He.noat_ok (c.fact 73 (f := fFa (.noat "Rules" "options")) rfl)
    C_Quoted_n_ways := He.noat_ok (c.fact 74 (f := fFa (.noat "Quoted" "ways")) rfl)
    C_Quoted_n_known_items := He.noat_ok (c.fact 75 (f := fFa (.noat "Quoted" "known_items")) rfl)
    C_Reader_n_is_closed := He.noat_ok (c.fact 76 (f := fFa (.noat "Reader" "is_closed")) rfl)
    C_Reader_n_many := He.noat_ok (c.fact 77 (f := fFa (.noat "Reader" "many")) rfl)
    C_Reader_n_found := He.noat_ok (c.fact 78 (f := fFa (.noat "Reader" "found")) rfl)
    C_Reader_n_now := He.noat_ok (c.fact 79 (f := fFa (.noat "Reader" "now")) rfl)
    C_Reader_n_rules_now := He.noat_ok (c.fact 80 (f := fFa (.noat "Reader" "rules_now")) rfl)
    C_Reader_n_own_code := He.noat_ok (c.fact 81 (f := fFa (.noat "Reader" "own_code")) rfl)
    k_PRINTED_u := _
    k_PRINTED_g := h_PRINTED
    k_PRINTED_r := ⟨t_PRINTED, rfl⟩
    k_CHARACTERS_u := _
    k_CHARACTERS_g := h_CHARACTERS
    k_CHARACTERS_r := ⟨t_CHARACTERS, rfl⟩
    k_SPACE_u := _
    k_SPACE_g := h_SPACE
    k_SPACE_r := ⟨t_SPACE, rfl⟩
    k_GAP_u := _
    k_GAP_g := h_GAP
    k_GAP_r := ⟨t_GAP, rfl⟩
    k_LINE_FEED_u := _
    k_LINE_FEED_g := h_LINE_FEED
    k_LINE_FEED_r := ⟨t_LINE_FEED, rfl⟩
    k_MOST_CHARACTERS_u := _
    k_MOST_CHARACTERS_g := h_MOST_CHARACTERS
    k_MOST_CHARACTERS_r := ⟨t_MOST_CHARACTERS, rfl⟩
    k_SMALLS_u := _
    k_SMALLS_g := h_SMALLS
    k_SMALLS_r := ⟨t_SMALLS, rfl⟩
    k_CAPITALS_u := _
    k_CAPITALS_g := h_CAPITALS
    k_CAPITALS_r := ⟨t_CAPITALS, rfl⟩
    k_PADS_a := He.ga K "PADS"
    k_PADS_g := He.glo_ok X G (c.fact 90 (f := fFa (.glo "PADS")) rfl)
    k_PADS_t := fun H => He.tupB_ok (c.fact 91 (f := fTup "PADS" [.str "full", .str "none", .str "optional", .str "any"]) rfl) H
    k_OPTIONS_a := He.ga K "OPTIONS"
    k_OPTIONS_g := He.glo_ok X G (c.fact 92 (f := fFa (.glo "OPTIONS")) rfl)
    k_OPTIONS_t := fun H => He.tupB_ok (c.fact 93 (f := fTup "OPTIONS" [.str "pads", .str "skip", .str "lines", .str "loose", .str "fold"]) rfl) H
    k_HEX_DIGITS_u := _
    k_HEX_DIGITS_g := h_HEX_DIGITS
    k_HEX_DIGITS_r := ⟨t_HEX_DIGITS, rfl⟩
    k_BLANK_u := _
    k_BLANK_g := h_BLANK
    k_BLANK_r := ⟨t_BLANK, rfl⟩
    k_ESCAPE_u := _
    k_ESCAPE_g := h_ESCAPE
    k_ESCAPE_r := ⟨t_ESCAPE, rfl⟩
    k_NEWLINE_u := _
    k_NEWLINE_g := h_NEWLINE
    k_NEWLINE_r := ⟨t_NEWLINE, rfl⟩
    k_WIDEST_u := _
    k_WIDEST_g := h_WIDEST
    k_WIDEST_r := ⟨t_WIDEST, rfl⟩
    k_LEAST_WIDTH_u := _
    k_LEAST_WIDTH_g := h_LEAST_WIDTH
    k_LEAST_WIDTH_r := ⟨t_LEAST_WIDTH, rfl⟩
    k_SOFT_BREAK_u := _
    k_SOFT_BREAK_g := h_SOFT_BREAK
    k_SOFT_BREAK_r := ⟨t_SOFT_BREAK, rfl⟩
    n_abs := He.free_ok X G (c.fact 101 (f := fFa (.free "abs")) rfl)
    n_all := He.free_ok X G (c.fact 102 (f := fFa (.free "all")) rfl)
    n_any := He.free_ok X G (c.fact 103 (f := fFa (.free "any")) rfl)
    n_bool := He.free_ok X G (c.fact 104 (f := fFa (.free "bool")) rfl)
    n_enumerate := He.free_ok X G (c.fact 105 (f := fFa (.free "enumerate")) rfl)
    n_int := He.free_ok X G (c.fact 106 (f := fFa (.free "int")) rfl)
    n_isinstance := He.free_ok X G (c.fact 107 (f := fFa (.free "isinstance")) rfl)
    n_len := He.free_ok X G (c.fact 108 (f := fFa (.free "len")) rfl)
    n_list := He.free_ok X G (c.fact 109 (f := fFa (.free "list")) rfl)
    n_max := He.free_ok X G (c.fact 110 (f := fFa (.free "max")) rfl)
    n_min := He.free_ok X G (c.fact 111 (f := fFa (.free "min")) rfl)
    n_ord := He.free_ok X G (c.fact 112 (f := fFa (.free "ord")) rfl)
    n_range := He.free_ok X G (c.fact 113 (f := fFa (.free "range")) rfl)
    n_str := He.free_ok X G (c.fact 114 (f := fFa (.free "str")) rfl)
    n_super := He.free_ok X G (c.fact 115 (f := fFa (.free "super")) rfl)
    X_NoCharacter := _
    X_NoCharacter_f := _
    X_NoCharacter_F := XF_NoCharacter
    X_NoCharacter_g := He.glo_ok X G XF_NoCharacter.glo
    X_Wrong := _
    X_Wrong_f := _
    X_Wrong_F := XF_Wrong
    X_Wrong_g := He.glo_ok X G XF_Wrong.glo
    X_Closed := _
    X_Closed_f := _
    X_Closed_F := XF_Closed
    X_Closed_g := He.glo_ok X G XF_Closed.glo
    C_Rules_is := fIns_ok (c.fact 116 (f := fIns "Rules") rfl)
    }, rfl, fun s v => FunD.bindsA (ps := ["_law_script"]) F_law (fun _ _ _ _ _ _ us hl => match us, hl with | [_], _ => rfl) s [v] rfl⟩
end
end Px
open PySem PySem.W PySem.Calls PyProof.Rows
set_option maxHeartbeats 0 in
theorem PySem.Challenge.cw_piecetexts_k43_whole_quoted_readers_give_holds : PySem.Challenge.rw_piecetexts_k43_whole_quoted_readers_give.Holds := by
  w_on; o_law
  refine HandSHeadRun.head_any (r := OpenLaw.row PySem.Challenge.rw_piecetexts_k43_whole_quoted_readers_give) (q := view (OpenLaw.row PySem.Challenge.rw_piecetexts_k43_whole_quoted_readers_give).prog [75]) (H := Px.hhook) (ob := Px.hob) (M := 9000) (loose := Px.hloose) (d := HandSHeadRun.topDef (OpenLaw.row PySem.Challenge.rw_piecetexts_k43_whole_quoted_readers_give).prog 75) (kwd := []) Px.hob_eq
    (by kernel_rfl) (fun s => by kernel_rfl) Px.hrun (by kernel_rfl) (by kernel_rfl) (by kernel_rfl) (by rfl) (by first | assumption | decide +kernel) (by decide +kernel) ⟨rfl, rfl, rfl, rfl, rfl, by decide +kernel⟩ ?hw ?hc
  case hw => w_witness2
  case hc =>
    refine L2.walk_ofE (l := PySem.Challenge.rw_piecetexts_k43_whole_quoted_readers_give) (n := 63) (k := 9) (x := "_law_script") (CX := L2.CX0) rfl (by decide) (by kernel_rfl) ⟨rfl, by decide, by decide⟩ ?F (fun _ _ _ _ z => z)
    intro w mg fa h Y G hmg0
    obtain ⟨K, KX, c⟩ := Y
    have hmg : mg ("law" : PySem.Str) = some (.ref fa) := by
      have e : (HandSHeadRun.topDef (OpenLaw.row PySem.Challenge.rw_piecetexts_k43_whole_quoted_readers_give).prog 75).name = ("law" : PySem.Str) := by kernel_rfl
      rw [← e]
      exact hmg0
    obtain ⟨T, rfl, hb⟩ := Px.htxt KX G hmg c
    exact ⟨K, T.law_d, Px.sp_law T, KX, hb, fun H a ns hl _ hS => ⟨a, ns, rfl, hS, hl, fun _ => rfl⟩, fun base _ _ => Px.P_eq ▸ Px.ok_law T⟩


