import PyProof.Rows.All
import Wide.All
import OpenK.AllK
import Wide.FinOn
import HandS.ForMost
import HandS.Wide
import HandS.Style
import HandS.StrMore
import HandS.Evl
import PySem.Challenge.RW_anypasses_k25_whole_pure_ops_and_rules_h
set_option Elab.async false
set_option linter.all false
set_option maxRecDepth 100000
set_option maxHeartbeats 4000000
namespace K25
open PySem L2
/-! ### the text -/
def top (i : Nat) : Stmt := PySem.Challenge.pw_anypasses_k25_whole_pure_ops_and_rules_h.main.body.getD i (.Pass ⟨0, 0, 0, 0⟩)
abbrev sWrapped : Stmt := top 2
abbrev NWrapped : List Str := ["number", "width"]
abbrev pWrapped : List Str := ["number", "width"]
theorem scWrapped : FnScope NWrapped pWrapped (defScope sWrapped) := ⟨rfl, rfl, rfl, by decide +kernel, rfl, by decide +kernel, by decide +kernel⟩
abbrev sSigned : Stmt := top 3
abbrev NSigned : List Str := ["number", "width"]
abbrev pSigned : List Str := ["number", "width"]
theorem scSigned : FnScope NSigned pSigned (defScope sSigned) := ⟨rfl, rfl, rfl, by decide +kernel, rfl, by decide +kernel, by decide +kernel⟩
abbrev sQuotient : Stmt := top 4
abbrev NQuotient : List Str := ["one", "other", "found"]
abbrev pQuotient : List Str := ["one", "other"]
theorem scQuotient : FnScope NQuotient pQuotient (defScope sQuotient) := ⟨rfl, rfl, rfl, by decide +kernel, rfl, by decide +kernel, by decide +kernel⟩
abbrev sDivided : Stmt := top 5
abbrev NDivided : List Str := ["op", "width", "one", "other", "whole", "first", "second"]
abbrev pDivided : List Str := ["op", "width", "one", "other"]
theorem scDivided : FnScope NDivided pDivided (defScope sDivided) := ⟨rfl, rfl, rfl, by decide +kernel, rfl, by decide +kernel, by decide +kernel⟩
abbrev sShifted : Stmt := top 6
abbrev NShifted : List Str := ["op", "width", "one", "other", "by"]
abbrev pShifted : List Str := ["op", "width", "one", "other"]
theorem scShifted : FnScope NShifted pShifted (defScope sShifted) := ⟨rfl, rfl, rfl, by decide +kernel, rfl, by decide +kernel, by decide +kernel⟩
abbrev sBinTold : Stmt := top 7
abbrev NBinTold : List Str := ["op", "width", "one", "other"]
abbrev pBinTold : List Str := ["op", "width", "one", "other"]
theorem scBinTold : FnScope NBinTold pBinTold (defScope sBinTold) := ⟨rfl, rfl, rfl, by decide +kernel, rfl, by decide +kernel, by decide +kernel⟩
abbrev sCmpTold : Stmt := top 8
abbrev NCmpTold : List Str := ["pred", "width", "one", "other", "first", "second"]
abbrev pCmpTold : List Str := ["pred", "width", "one", "other"]
theorem scCmpTold : FnScope NCmpTold pCmpTold (defScope sCmpTold) := ⟨rfl, rfl, rfl, by decide +kernel, rfl, by decide +kernel, by decide +kernel⟩
abbrev sCastTold : Stmt := top 9
abbrev NCastTold : List Str := ["kind", "width", "to", "number"]
abbrev pCastTold : List Str := ["kind", "width", "to", "number"]
theorem scCastTold : FnScope NCastTold pCastTold (defScope sCastTold) := ⟨rfl, rfl, rfl, by decide +kernel, rfl, by decide +kernel, by decide +kernel⟩
abbrev sIsPure : Stmt := top 12
abbrev NIsPure : List Str := ["op"]
abbrev pIsPure : List Str := ["op"]
theorem scIsPure : FnScope NIsPure pIsPure (defScope sIsPure) := ⟨rfl, rfl, rfl, by decide +kernel, rfl, by decide +kernel, by decide +kernel⟩
abbrev sFolded : Stmt := top 13
abbrev NFolded : List Str := ["op", "numbers", "info", "arg"]
abbrev pFolded : List Str := ["op"]
theorem scFolded : FnScope NFolded pFolded (defScope sFolded) := ⟨rfl, rfl, rfl, by decide +kernel, rfl, by decide +kernel, by decide +kernel⟩
abbrev sLDraw : Stmt := top 16
abbrev NLDraw : List Str := ["_law_script", "_law_salt", "_law_cells", "_law_blend", "_law_cell"]
abbrev pLDraw : List Str := ["_law_script", "_law_salt"]
theorem scLDraw : FnScope NLDraw pLDraw (defScope sLDraw) := ⟨rfl, rfl, rfl, by decide +kernel, rfl, by decide +kernel, by decide +kernel⟩
abbrev sLAny : Stmt := top 17
abbrev NLAny : List Str := ["_law_deal", "_law_bound", "_law_rest"]
abbrev pLAny : List Str := ["_law_deal", "_law_bound"]
theorem scLAny : FnScope NLAny pLAny (defScope sLAny) := ⟨rfl, rfl, rfl, by decide +kernel, rfl, by decide +kernel, by decide +kernel⟩
abbrev sLOf : Stmt := top 18
abbrev NLOf : List Str := ["_law_deal", "_law_some"]
abbrev pLOf : List Str := ["_law_deal", "_law_some"]
theorem scLOf : FnScope NLOf pLOf (defScope sLOf) := ⟨rfl, rfl, rfl, by decide +kernel, rfl, by decide +kernel, by decide +kernel⟩
abbrev sLPower : Stmt := top 19
abbrev NLPower : List Str := ["_law_many"]
abbrev pLPower : List Str := ["_law_many"]
theorem scLPower : FnScope NLPower pLPower (defScope sLPower) := ⟨rfl, rfl, rfl, by decide +kernel, rfl, by decide +kernel, by decide +kernel⟩
abbrev sLNumber : Stmt := top 20
abbrev NLNumber : List Str := ["_law_deal", "_law_width", "_law_top", "_law_form_here"]
abbrev pLNumber : List Str := ["_law_deal", "_law_width"]
theorem scLNumber : FnScope NLNumber pLNumber (defScope sLNumber) := ⟨rfl, rfl, rfl, by decide +kernel, rfl, by decide +kernel, by decide +kernel⟩
abbrev sLForm : Stmt := top 21
abbrev NLForm : List Str := ["_law_deal", "_law_headers", "_law_w", "_law_form_here", "_law_near", "_law_header", "_law_op", "_law_sort", "_law_kind", "_law_told_here", "_law_low", "_law_high"]
abbrev pLForm : List Str := ["_law_deal", "_law_headers"]
theorem scLForm : FnScope NLForm pLForm (defScope sLForm) := ⟨rfl, rfl, rfl, by decide +kernel, rfl, by decide +kernel, by decide +kernel⟩
abbrev sLSigned : Stmt := top 22
abbrev NLSigned : List Str := ["_law_number_here", "_law_width"]
abbrev pLSigned : List Str := ["_law_number_here", "_law_width"]
theorem scLSigned : FnScope NLSigned pLSigned (defScope sLSigned) := ⟨rfl, rfl, rfl, by decide +kernel, rfl, by decide +kernel, by decide +kernel⟩
abbrev sLShift : Stmt := top 23
abbrev NLShift : List Str := ["_law_op", "_law_w", "_law_a", "_law_k"]
abbrev pLShift : List Str := ["_law_op", "_law_w", "_law_a", "_law_k"]
theorem scLShift : FnScope NLShift pLShift (defScope sLShift) := ⟨rfl, rfl, rfl, by decide +kernel, rfl, by decide +kernel, by decide +kernel⟩
abbrev sLTold : Stmt := top 24
abbrev NLTold : List Str := ["_law_op", "_law_w", "_law_a", "_law_b", "_law_top", "_law_ratio", "_law_x", "_law_y"]
abbrev pLTold : List Str := ["_law_op", "_law_w", "_law_a", "_law_b"]
theorem scLTold : FnScope NLTold pLTold (defScope sLTold) := ⟨rfl, rfl, rfl, by decide +kernel, rfl, by decide +kernel, by decide +kernel⟩
abbrev sLCompared : Stmt := top 25
abbrev NLCompared : List Str := ["_law_pred", "_law_w", "_law_a", "_law_b", "_law_right", "_law_x", "_law_y"]
abbrev pLCompared : List Str := ["_law_pred", "_law_w", "_law_a", "_law_b"]
theorem scLCompared : FnScope NLCompared pLCompared (defScope sLCompared) := ⟨rfl, rfl, rfl, by decide +kernel, rfl, by decide +kernel, by decide +kernel⟩
abbrev sLCast : Stmt := top 26
abbrev NLCast : List Str := ["_law_kind", "_law_low", "_law_high", "_law_a"]
abbrev pLCast : List Str := ["_law_kind", "_law_low", "_law_high", "_law_a"]
theorem scLCast : FnScope NLCast pLCast (defScope sLCast) := ⟨rfl, rfl, rfl, by decide +kernel, rfl, by decide +kernel, by decide +kernel⟩
abbrev sLPure : Stmt := top 27
abbrev NLPure : List Str := ["_law_op"]
abbrev pLPure : List Str := ["_law_op"]
theorem scLPure : FnScope NLPure pLPure (defScope sLPure) := ⟨rfl, rfl, rfl, by decide +kernel, rfl, by decide +kernel, by decide +kernel⟩
abbrev sLTable : Stmt := top 28
abbrev NLTable : List Str := ["_law_some", "_law_one"]
abbrev pLTable : List Str := []
theorem scLTable : FnScope NLTable pLTable (defScope sLTable) := ⟨rfl, rfl, rfl, by decide +kernel, rfl, by decide +kernel, by decide +kernel⟩
abbrev sLRead : Stmt := top 29
abbrev NLRead : List Str := ["_law_words", "_law_held", "_law_word", "_law_many", "_law_args", "_law_turn"]
abbrev pLRead : List Str := ["_law_words"]
theorem scLRead : FnScope NLRead pLRead (defScope sLRead) := ⟨rfl, rfl, rfl, by decide +kernel, rfl, by decide +kernel, by decide +kernel⟩
abbrev sLMadeNumber : Stmt := top 30
abbrev NLMadeNumber : List Str := ["_law_form_here", "_law_width", "_law_letters", "_law_some", "_law_word", "_law_args", "_law_arg", "_law_k"]
abbrev pLMadeNumber : List Str := ["_law_form_here", "_law_width", "_law_letters"]
theorem scLMadeNumber : FnScope NLMadeNumber pLMadeNumber (defScope sLMadeNumber) := ⟨rfl, rfl, rfl, by decide +kernel, rfl, by decide +kernel, by decide +kernel⟩
abbrev sLOpDrawn : Stmt := top 31
abbrev NLOpDrawn : List Str := ["_law_deal", "_law_one", "_law_kind", "_law_info", "_law_wanted", "_law_sort", "_law_args", "_law_share"]
abbrev pLOpDrawn : List Str := ["_law_deal"]
theorem scLOpDrawn : FnScope NLOpDrawn pLOpDrawn (defScope sLOpDrawn) := ⟨rfl, rfl, rfl, by decide +kernel, rfl, by decide +kernel, by decide +kernel⟩
abbrev sLFolded : Stmt := top 32
abbrev NLFolded : List Str := ["_law_op", "_law_numbers", "_law_kind", "_law_info", "_law_arg"]
abbrev pLFolded : List Str := ["_law_op"]
theorem scLFolded : FnScope NLFolded pLFolded (defScope sLFolded) := ⟨rfl, rfl, rfl, by decide +kernel, rfl, by decide +kernel, by decide +kernel⟩
abbrev sLLettersWidth : Stmt := top 33
abbrev NLLettersWidth : List Str := ["_law_form_here", "_law_letters", "_law_arg"]
abbrev pLLettersWidth : List Str := ["_law_form_here", "_law_letters"]
theorem scLLettersWidth : FnScope NLLettersWidth pLLettersWidth (defScope sLLettersWidth) := ⟨rfl, rfl, rfl, by decide +kernel, rfl, by decide +kernel, by decide +kernel⟩
abbrev sLSide : Stmt := top 34
abbrev NLSide : List Str := ["_law_form_here", "_law_width", "_law_middle", "_law_letters", "_law_told_here", "_law_word", "_law_args", "_law_plain", "_law_letter", "_law_first", "_law_wide", "_law_arg", "_law_at"]
abbrev pLSide : List Str := ["_law_form_here", "_law_width", "_law_middle", "_law_letters"]
theorem scLSide : FnScope NLSide pLSide (defScope sLSide) := ⟨rfl, rfl, rfl, by decide +kernel, rfl, by decide +kernel, by decide +kernel⟩
abbrev sLLettersDrawn : Stmt := top 35
abbrev NLLettersDrawn : List Str := ["_law_deal", "_law_left", "_law_right", "_law_letters", "_law_word", "_law_words", "_law_width", "_law_middle", "_law_low", "_law_number_here"]
abbrev pLLettersDrawn : List Str := ["_law_deal", "_law_left", "_law_right"]
theorem scLLettersDrawn : FnScope NLLettersDrawn pLLettersDrawn (defScope sLLettersDrawn) := ⟨rfl, rfl, rfl, by decide +kernel, rfl, by decide +kernel, by decide +kernel⟩
abbrev sLOpsRight : Stmt := top 36
abbrev NLOpsRight : List Str := ["_law_deal", "_law_turn", "_law_op"]
abbrev pLOpsRight : List Str := ["_law_deal"]
theorem scLOpsRight : FnScope NLOpsRight pLOpsRight (defScope sLOpsRight) := ⟨rfl, rfl, rfl, by decide +kernel, rfl, by decide +kernel, by decide +kernel⟩
abbrev sLaw : Stmt := top 37
abbrev NLaw : List Str := ["_law_script", "_law_deal", "_law_table_here", "_law_turn", "_law_other", "_law_left", "_law_right", "_law_letters", "_law_width", "_law_middle", "_law_one"]
abbrev pLaw : List Str := ["_law_script"]
theorem scLaw : FnScope NLaw pLaw (defScope sLaw) := ⟨rfl, rfl, rfl, by decide +kernel, rfl, by decide +kernel, by decide +kernel⟩

/-! ### a def that keeps its promise, as its callers want it -/
structure Cal (P : Program) (w : World) (K : PySem.W.Frag) (mg : Str → Option Value) (base : Heap) (k : Nat) (x : Str) (ps : List Str) (sp : Sp) : Prop where
  ex : ∃ (f : Addr) (fd : FuncData), FnOk P w K mg base CX0 k f fd ps sp ∧ Binds K fd ps [] ∧ PySem.W.keepIn K (.ref f) = true ∧ mg x = some (.ref f)
/-- a def of the text as it stands behind the top, with its binding and its name -/
structure Def (K : PySem.W.Frag) (mg : Str → Option Value) (x : Str) (ps : List Str) (st : Stmt) (f : Addr) (fd : FuncData) : Prop where
  F : Fun K x x st f fd
  b : Binds K fd ps []
  m : mg x = some (.ref f)
section
variable {P : Program} {w : World} {K : PySem.W.Frag} {mg : Str → Option Value} {base : Heap}
theorem Def.cal {k : Nat} {x : Str} {ps : List Str} {st : Stmt} {f : Addr} {fd : FuncData} {sp : Sp} (D : Def K mg x ps st f fd) (h : FnOk P w K mg base CX0 k f fd ps sp) : Cal P w K mg base k x ps sp :=
  ⟨f, fd, h, D.b, D.F.kp, D.m⟩
end
section
variable {X : Cx} {x : Str} {ps : List Str} {sp : Sp} {j k : Nat} {p pos : Pos} {e : Expr} {es : List Expr} {t : TA}
theorem pe_cal (C : Cal X.prog X.w X.K X.mg X.base k x ps sp) (hr : Room j X.A) (hk : k ≤ j) (hg : Gl X x) (ha : PA X (e :: es) t) (hdb : (x == ("__debug__" : Str)) = false := by decide)
    (he : starEach (e :: es) X.env = (false, eval e X.env) :: starEach es X.env := by rfl) (hpl : (backTo pos (starEach es X.env)).any (·.1) = false := by rfl) : PE X (.Call (.Name x p) (e :: es) [] pos) (tCall sp [] E0 t) := by
  obtain ⟨f, fd, h, hb, kp, hm⟩ := C.ex
  exact pe_call h (hr.mono hk) hg hm kp hb .nil pass0 ha hdb he hpl
theorem pe_cal0 (C : Cal X.prog X.w X.K X.mg X.base k x [] sp) (hr : Room j X.A) (hk : k ≤ j) (hg : Gl X x) (hdb : (x == ("__debug__" : Str)) = false := by decide) : PE X (.Call (.Name x p) [] [] pos) (tCall sp [] E0 tNil) := by
  obtain ⟨f, fd, h, hb, kp, hm⟩ := C.ex
  exact pe_call0 h (hr.mono hk) hg hm kp hb .nil pass0 hdb
end
theorem ite_p {c A B : Prop} [Decidable c] (h : c) (a : A) : if c then A else B := by rw [if_pos h]; exact a
theorem ite_n {c A B : Prop} [Decidable c] (h : ¬ c) (b : B) : if c then A else B := by rw [if_neg h]; exact b
theorem ite_bl {k : Bool} {A B : Prop} : (if k = false then A else B) = if k = true then B else A := by cases k <;> rfl
theorem same_new {H : Hp} {p : Addr} (h : H p = none) (o : HO) : Same H (upd H p o) := fun b u q => by rw [upd_ne (ne_of_none q h)]; exact q
theorem same_tup {K : PySem.W.Frag} {H H' : Hp} {a : Addr} {xs : List V} (e : Same H H') (h : SqT K H a xs) : SqT K H' a xs := by
  rcases h with (h | ⟨u, h⟩) | h
  · exact .inl (.inl (e _ _ h))
  · exact .inl (.inr ⟨u, e _ _ h⟩)
  · exact .inr h
theorem scal_ii {i j : Int} : scal (.int i) (.int j) = true := rfl
theorem scal_ss {i j : Str} : scal (.str i) (.str j) = true := rfl
theorem scal_bb {i j : Bool} : scal (.bl i) (.bl j) = true := rfl
/-! ### x in (constants) -/
section
variable {K : PySem.W.Frag} {neg : Bool} {x : V} {cs : List V} {H : Hp} {Q : VK} {n : Nat}
theorem in_tup (hx : flatV x = true) (hc : cs.all flatV = true) (hz : n ≤ sizeLine) (q : ∀ H2, Same H H2 → Q (.bl (if neg then !inV x cs else inV x cs)) H2) : n ≤ sizeLine ∧ ∀ p, H p = none → rIn K neg x (.ref p) (upd H p (.tup cs)) Q :=
  ⟨hz, fun p hp => ⟨p, cs, rfl, .inr (SqT.of upd_same), hx, hc, q _ (same_new hp _)⟩⟩
theorem in_lst (hx : flatV x = true) (hc : cs.all flatV = true) (hz : n ≤ sizeLine) (q : ∀ H2, Same H H2 → Q (.bl (if neg then !inV x cs else inV x cs)) H2) : n ≤ sizeLine ∧ ∀ p, H p = none → rIn K neg x (.ref p) (upd H p (.lst cs)) Q :=
  ⟨hz, fun p hp => ⟨p, cs, rfl, .inl (SqL.of upd_same), hx, hc, q _ (same_new hp _)⟩⟩
theorem in_got {a : Addr} (h : SqT K H a cs) (hx : flatV x = true) (hc : cs.all flatV = true) (q : Q (.bl (if neg then !inV x cs else inV x cs)) H) : rIn K neg x (.ref a) H Q :=
  ⟨a, cs, rfl, .inr h, hx, hc, q⟩
end
theorem ix_s {z : Str} {i : Int} {c : Nat} {H : Hp} {Q : VK} (hz : z.length ≤ 1000) (h : atI z.cps.toList i = some c) (q : Q (.str ⟨#[c]⟩) H) : rIxS (.str z) (.int i) H Q :=
  ⟨z, i, c, rfl, rfl, Nat.le_of_lt (small1000 hz), h, q⟩
/-! ### int(n) -/
theorem call_intI {X : Cx} : CallR X (.type "int") (fun xs H Q => ∃ i, xs = [.int i] ∧ Q (.int i) H) := by
  intro pins s σ H xs us
  intro Q I r h
  obtain ⟨i, rfl, q⟩ := h
  exact call_int1 pins s σ H _ us Q I r (.inl ⟨i, rfl, q⟩)
/-! ### rules whose reading names the written part -/
section
variable {X : Cx} {K : PySem.W.Frag}
theorem pe_popK (hK : X.K = K) {o : Expr} {to : TE} {apos cpos : Pos} (ho : PE X o to) (hbase : attributeBase o "pop" X.env (eval o X.env) = eval o X.env := by rfl) (hline : (apos.endLine == cpos.line) = true := by rfl) :
    PE X (.Call (.Attribute o "pop" apos) [] [] cpos) (tBM0 K "list" rPop to) := by
  subst hK
  exact pe_bm0 PySem.F.plainAttrs_list PySem.F.slot_list_pop PySem.F.type_list_pop mt_pop ho hbase hline
def rTup (K : PySem.W.Frag) : List V → Hp → VK → Prop := fun xs H Q => ∃ p ys, xs = [.ref p] ∧ SqL K H p ys ∧ ∀ l, H l = none → Q (.ref l) (upd H l (.tup ys))
theorem call_tupleK (hK : X.K = K) : CallR X (.type "tuple") (rTup K) := by
  subst hK
  intro pins s σ H xs us
  intro Q I r h
  obtain ⟨p, ys, e, hq, q⟩ := h
  exact call_tuple_of pins s σ H xs us Q I r ⟨p, ys, e, .inl ⟨hq, q⟩⟩
end
/-! ### lists -/
section
variable {K : PySem.W.Frag} {H : Hp} {Q : VK} {a : Addr} {xs : List V} {i : Int} {v y : V}
theorem ixl (h : SqL K H a xs) (e : atI xs i = some v) (q : Q v H) : rIxL K (.ref a) (.int i) H Q := ⟨a, xs, i, v, rfl, rfl, h, e, q⟩
theorem ixt (h : SqT K H a xs) (e : atI xs i = some v) (q : Q v H) : rIxT K (.ref a) (.int i) H Q := ⟨a, xs, i, v, rfl, rfl, h, e, q⟩
theorem setl {R : Hp → Prop} {j : Nat} (h : H a = some (.lst xs)) (e : ixN xs.length i = some j) (q : R (upd H a (.lst (xs.set j v)))) : rSetL (.ref a) (.int i) v H R := ⟨a, xs, i, j, rfl, rfl, h, e, q⟩
theorem tyl (h : H a = some (.lst xs)) : tyV K "list" (.ref a) H := .inl ⟨rfl, _, SqL.of h⟩
theorem popl (h : H a = some (.lst (xs ++ [y]))) (q : Q y (upd H a (.lst xs))) : rPop (.ref a) [] H Q :=
  ⟨a, xs ++ [y], y, rfl, rfl, h, by simp, by rw [List.dropLast_concat]; exact q⟩
theorem appl (h : H a = some (.lst xs)) (hz : xs.length < 1000) (q : Q .non (upd H a (.lst (xs ++ [y])))) : rAppend (.ref a) [y] H Q :=
  ⟨a, xs, y, rfl, rfl, h, Nat.lt_trans hz (by decide), q⟩
/-- xs != [] -/
theorem ne_nil {ds : List PyData} (hd : ∀ p, H p = none → Dp K (upd H p (.lst [])) (.ref a) (.list ds)) (hs : SeqAt.shaped (.list ds) = true) (q : ∀ H2, Same H H2 → Q (.bl (!ds.isEmpty)) H2) :
    0 ≤ sizeLine ∧ ∀ p, H p = none → rNeD K (.ref a) (.ref p) (upd H p (.lst [])) Q := by
  refine ⟨Nat.zero_le _, fun p hp => ⟨.list ds, .list [], hd p hp, .lst (SqL.of upd_same) .nil, hs, rfl, ?_⟩⟩
  have e : PyData.eqv (.list ds) (.list []) = ds.isEmpty := by cases ds <;> rfl
  rw [e]
  exact q _ (same_new hp _)
theorem dp_ints {H : Hp} : ∀ ns : List Int, DpAll K H (ns.map V.int) (ns.map PyData.int)
  | [] => .nil
  | n :: ns => .cons (.int n) (dp_ints ns)
theorem lay_ints : ∀ ns : List Int, PyData.canLayAll0 (ns.map PyData.int) = true
  | [] => by simp only [List.map_nil, PyData.canLayAll0]
  | n :: ns => by simp [PyData.canLayAll0, PyData.canLay0, lay_ints ns]
theorem deep_ints : ∀ ns : List Int, PyData.depthAll (ns.map PyData.int) ≤ 1
  | [] => by simp only [List.map_nil, PyData.depthAll]; omega
  | n :: ns => by
    have := deep_ints ns
    simp only [PyData.depthAll, PyData.depth, List.map_cons]
    omega
theorem shaped_ints (ns : List Int) : SeqAt.shaped (.list (ns.map PyData.int)) = true := by
  have := deep_ints ns
  simp [SeqAt.shaped, PyData.canLay0, lay_ints, PyData.depth]
  omega
theorem ne_nil_ints {ns : List Int} (h : H a = some (.lst (ns.map V.int))) (q : ∀ H2, Same H H2 → Q (.bl (!ns.isEmpty)) H2) :
    0 ≤ sizeLine ∧ ∀ p, H p = none → rNeD K (.ref a) (.ref p) (upd H p (.lst [])) Q :=
  ne_nil (ds := ns.map PyData.int) (fun p hp => .lst (SqL.of (same_new hp _ _ _ h)) (dp_ints ns)) (shaped_ints ns) (by cases ns <;> exact q)
end
/-! ### comprehensions -/
/-- the tuples stand -/
def Tups (H H' : Hp) : Prop := ∀ b xs, H b = some (.tup xs) → H' b = some (.tup xs)
theorem Tups.of {H H' : Hp} (s : Same H H') : Tups H H' := fun b xs h => s b _ h
section
variable {K : PySem.W.Frag} {H : Hp} {Q : VK} {a : Addr} {xs : List V} {g : TG} {te : TE} {vs : List Nat} {σ : L2.St}
/-- what stands at D in the turns -/
structure LcW (P : Nat → V → Hp → Prop) (H : Hp) (D : Addr) (i : Nat) (H' : Hp) : Prop where
  free : H D = none
  same : Same H H'
  ex : ∃ ys, H' D = some (.lst ys) ∧ ys.length = i ∧ ∀ j y, ys[j]? = some y → P j y H'
theorem LcW.start {P : Nat → V → Hp → Prop} {D : Addr} (h : H D = none) : LcW P H D 0 (upd H D (.lst [])) :=
  ⟨h, same_new h _, [], upd_same, rfl, fun j y e => by simp at e⟩
theorem LcW.more {P : Nat → V → Hp → Prop} {D : Addr} {i : Nat} {H1 H2 : Hp} {y : V} (w : LcW P H D i H1) (mono : ∀ i y H1 H2, Tups H1 H2 → P i y H1 → P i y H2) (s : Same H1 H2) (p : P i y H2) (hi : i < 1000) :
    ∃ acc, H2 D = some (.lst acc) ∧ acc.length < sizeLine ∧ LcW P H D (i + 1) (upd H2 D (.lst (acc ++ [y]))) := by
  obtain ⟨f, sm, ys, h1, h2, h3⟩ := w
  have t : Tups H2 (upd H2 D (.lst (ys ++ [y]))) := fun b xs h => by
    rw [upd_ne (by rintro rfl; rw [s _ _ h1] at h; cases h)]
    exact h
  refine ⟨ys, s _ _ h1, Nat.lt_trans (by omega : ys.length < 1000) (by decide), f, fun b o h => ?_, ys ++ [y], upd_same, by simp [h2], fun j z e => ?_⟩
  · rw [upd_ne (ne_of_none h f)]
    exact s _ _ (sm _ _ h)
  · by_cases hj : j < ys.length
    · rw [List.getElem?_append_left hj] at e
      exact mono _ _ _ _ (fun b xs h => t b xs (s _ _ h)) (h3 j z e)
    · rw [List.getElem?_append_right (by omega)] at e
      have e0 : j - ys.length = 0 := by
        cases hz : j - ys.length with
        | zero => rfl
        | succ k => rw [hz] at e; simp at e
      rw [e0] at e
      have ej : j = i := by omega
      have ez : y = z := by simpa using e
      subst ej ez
      exact mono _ _ _ _ t p
theorem lcA {wi : TI} (P : Nat → V → Hp → Prop) (mono : ∀ i y H1 H2, Tups H1 H2 → P i y H1 → P i y H2) (hw : ∀ R : It → Hp → Prop, (∀ a H1, Same H H1 → SqL K H1 a xs → R (Itl K a) H1) → wi σ H R) (hl : xs.length ≤ 1000)
    (he : ∀ i x H2, xs[i]? = some x → Same H H2 → ∀ R : VK, (∀ y H3, Same H2 H3 → P i y H3 → R y H3) → g x (wipe σ vs) H2 fun σ2 H2' => wipe σ2 vs = wipe σ vs ∧ te σ2 H2' R)
    (q : ∀ D ys H2, H D = none → Same H H2 → H2 D = some (.lst ys) → ys.length = xs.length → (∀ i y, ys[i]? = some y → P i y H2) → Q (.ref D) H2) : tLc wi g tYes te vs σ H Q := by
  refine hw _ fun a H1 s1 hx D hD => ?_
  refine lc_list (xs := xs) (LcW P H1 D) (LcW.start hD) (fun i H' _ w => w.same.seq hx) (fun i x H' hi w => ?_) (fun H' w => ?_)
  · have hn := (List.getElem?_eq_some_iff.mp hi).1
    refine he i x H' hi (s1.trans w.same) _ fun y H3 s p => ?_
    exact w.more mono s p (by omega)
  · obtain ⟨f, sm, ys, h1, h2, h3⟩ := w
    exact q D ys H' (s1.free f) (s1.trans sm) h1 h2 h3
theorem lcT {wi : TI} (P : Nat → V → Hp → Prop) (mono : ∀ i y H1 H2, Tups H1 H2 → P i y H1 → P i y H2) (hw : ∀ R : It → Hp → Prop, (∀ a H1, Same H H1 → SqT K H1 a xs → R (Itt K a) H1) → wi σ H R) (hl : xs.length ≤ 1000)
    (he : ∀ i x H2, xs[i]? = some x → Same H H2 → ∀ R : VK, (∀ y H3, Same H2 H3 → P i y H3 → R y H3) → g x (wipe σ vs) H2 fun σ2 H2' => wipe σ2 vs = wipe σ vs ∧ te σ2 H2' R)
    (q : ∀ D ys H2, H D = none → Same H H2 → H2 D = some (.lst ys) → ys.length = xs.length → (∀ i y, ys[i]? = some y → P i y H2) → Q (.ref D) H2) : tLc wi g tYes te vs σ H Q := by
  refine hw _ fun a H1 s1 hx D hD => ?_
  refine lc_tup (xs := xs) (LcW P H1 D) (LcW.start hD) (fun i H' _ w => same_tup w.same hx) (fun i x H' hi w => ?_) (fun H' w => ?_)
  · have hn := (List.getElem?_eq_some_iff.mp hi).1
    refine he i x H' hi (s1.trans w.same) _ fun y H3 s p => ?_
    exact w.more mono s p (by omega)
  · obtain ⟨f, sm, ys, h1, h2, h3⟩ := w
    exact q D ys H' (s1.free f) (s1.trans sm) h1 h2 h3
end
/-! ### a, b = a tuple -/
theorem gcons {t : TG} {u : TGs} {v : V} {r : List V} {σ : L2.St} {H : Hp} {Q : L2.St → Hp → Prop} : gCons t u (v :: r) σ H Q = t v σ H fun σ' H' => u r σ' H' Q :=
  propext ⟨fun ⟨_, _, e, q⟩ => by cases e; exact q, fun q => ⟨_, _, rfl, q⟩⟩
theorem gnil {σ : L2.St} {H : Hp} {Q : L2.St → Hp → Prop} : gNil [] σ H Q = Q σ H := propext ⟨fun h => h.2, fun q => ⟨rfl, q⟩⟩
section
variable {K : PySem.W.Frag} {xs : List V} {H : Hp} {n m : Nat} {t : TGs} {σ : L2.St} {Q : L2.St → Hp → Prop}
theorem unp_new (hz : m ≤ sizeLine) (hl : xs.length = n) (q : ∀ H2, Same H H2 → t xs σ H2 Q) : m ≤ sizeLine ∧ ∀ p, H p = none → gTup K n t (.ref p) σ (upd H p (.tup xs)) Q :=
  ⟨hz, fun p hp => ⟨p, xs, rfl, SqT.of upd_same, hl, q _ (same_new hp _)⟩⟩
theorem unp_got {a : Addr} (h : SqT K H a xs) (hl : xs.length = n) (q : t xs σ H Q) : gTup K n t (.ref a) σ H Q := ⟨a, xs, rfl, h, hl, q⟩
end
/-! ### numbers of a width -/
def p2 (w : Int) : Int := 2 ^ w.toNat
def ab (n : Int) : Int := if n < 0 then -n else n
theorem p2f (w : Int) : (2 : Int) ^ w.toNat = p2 w := rfl
theorem abf (n : Int) : (if n < 0 then -n else n) = ab n := rfl
end K25

set_option Elab.async false
set_option linter.all false
set_option maxRecDepth 100000
set_option maxHeartbeats 4000000
namespace K25
open PySem L2
def sg (n w : Int) : Int := if p2 w ≤ n + n then n - p2 w else n
def quo (a b : Int) : Int := if decide (a < 0) = decide (b < 0) then ab a / ab b else -(ab a / ab b)
theorem p2_pos (w : Int) : 0 < p2 w := by unfold p2; exact Int.pow_pos (by decide)
theorem p2_one {w : Int} (h0 : 1 ≤ w) : p2 w = 2 * p2 (w - 1) := by
  unfold p2
  have e : w.toNat = (w - 1).toNat + 1 := by omega
  rw [e, Int.pow_succ]
  omega
theorem p2_nat (w : Int) : p2 w = ((2 ^ w.toNat : Nat) : Int) := by
  unfold p2
  rw [Int.natCast_pow]
  rfl
theorem p2_le {w : Int} (h : w ≤ 64) : p2 w ≤ 18446744073709551616 := by
  rw [p2_nat]
  have h2 : w.toNat ≤ 64 := by omega
  have := Nat.pow_le_pow_right (n := 2) (by decide) h2
  omega
theorem p2_lt {w : Int} (h : w ≤ 63) : p2 w ≤ 9223372036854775808 := by
  rw [p2_nat]
  have h2 : w.toNat ≤ 63 := by omega
  have := Nat.pow_le_pow_right (n := 2) (by decide) h2
  omega
def Wd (w : Int) : Prop := 1 ≤ w ∧ w ≤ 64
def In (w n : Int) : Prop := 0 ≤ n ∧ n < p2 w
theorem cpow {j : Int} (h0 : 0 ≤ j) (h1 : j ≤ 64) : CPow 1 j := ⟨h0, by omega, by decide⟩
theorem ab_nn (n : Int) : 0 ≤ ab n := by unfold ab; split <;> omega
theorem ab_pos {n : Int} (h : n ≠ 0) : 0 < ab n := by unfold ab; split <;> omega
theorem sg_in {n w : Int} (hw : Wd w) (h : In w n) : -(p2 w) ≤ sg n w ∧ sg n w < p2 w ∧ -9223372036854775808 ≤ sg n w ∧ sg n w ≤ 9223372036854775808 := by
  have e := p2_one hw.1
  have l := p2_lt (w := w - 1) (by have := hw.2; omega)
  have p := p2_pos w
  obtain ⟨a, b⟩ := h
  unfold sg
  split <;> omega
theorem sg_zero {n w : Int} (h : In w n) : sg n w = 0 ↔ n = 0 := by
  obtain ⟨a, b⟩ := h
  have p := p2_pos w
  unfold sg
  split <;> omega
theorem divw {b : Int} (h : b ≠ 0) (h1 : -18446744073709551616 ≤ b) (h2 : b ≤ 18446744073709551616) : CDivW 0 (ab b) :=
  wide_div (b := 65) (ab_pos h) (by unfold ab; split <;> omega) (by decide) (by decide)

/-! ### the operations -/
inductive BOp where
  | add | sub | mul | udiv | sdiv | urem | srem | and | or | xor | shl | lshr | ashr
  deriving DecidableEq
def BOp.s : BOp → Str
  | .add => "add" | .sub => "sub" | .mul => "mul" | .udiv => "udiv" | .sdiv => "sdiv" | .urem => "urem" | .srem => "srem"
  | .and => "and" | .or => "or" | .xor => "xor" | .shl => "shl" | .lshr => "lshr" | .ashr => "ashr"
inductive CP where
  | eq | ne | ult | ule | slt | sle
  deriving DecidableEq
def CP.s : CP → Str
  | .eq => "eq" | .ne => "ne" | .ult => "ult" | .ule => "ule" | .slt => "slt" | .sle => "sle"
inductive Cs where
  | zext | sext | trunc
  deriving DecidableEq
def Cs.s : Cs → Str
  | .zext => "zext" | .sext => "sext" | .trunc => "trunc"
def BOp.isDiv : BOp → Bool
  | .udiv | .sdiv | .urem | .srem => true
  | _ => false
def BOp.isSh : BOp → Bool
  | .shl | .lshr | .ashr => true
  | _ => false
/-- what an operation tells of two numbers of the width; none: a division by 0 -/
def told (o : BOp) (w a b : Int) : Option Int :=
  match o with
  | .add => some ((a + b) % p2 w)
  | .sub => some ((a - b) % p2 w)
  | .mul => some ((a * b) % p2 w)
  | .udiv => if b = 0 then none else some (a / b)
  | .urem => if b = 0 then none else some (a % b)
  | .sdiv => if b = 0 then none else some (quo (sg a w) (sg b w) % p2 w)
  | .srem => if b = 0 then none else some ((sg a w - sg b w * quo (sg a w) (sg b w)) % p2 w)
  | .and => some (Builtin.bitAnd a b)
  | .or => some (Builtin.bitOr a b)
  | .xor => some (Builtin.bitXor a b)
  | .shl => some ((a * p2 (b % w)) % p2 w)
  | .lshr => some (a / p2 (b % w))
  | .ashr => some ((sg a w / p2 (b % w)) % p2 w)
def comp (c : CP) (w a b : Int) : Bool :=
  match c with
  | .eq => decide (a = b)
  | .ne => decide (¬ a = b)
  | .ult => decide (a < b)
  | .ule => decide (a ≤ b)
  | .slt => decide (sg a w < sg b w)
  | .sle => decide (sg a w ≤ sg b w)
def cst (c : Cs) (w t a : Int) : Int :=
  match c with
  | .sext => sg a w % p2 t
  | _ => a % p2 t
def oV : Option Int → V
  | none => .non
  | some i => .int i
def b2n (b : Bool) : Int := if b then 1 else 0

def spWrapped : Sp := fun vs H Q _ => ∃ n w : Int, vs = [.int n, .int w] ∧ (0 ≤ w ∧ w ≤ 64) ∧ Q (.int (n % p2 w)) H
def spSigned : Sp := fun vs H Q _ => ∃ n w : Int, vs = [.int n, .int w] ∧ Wd w ∧ Q (.int (sg n w)) H
def spQuo : Sp := fun vs H Q _ => ∃ a b : Int, vs = [.int a, .int b] ∧ (b ≠ 0 ∧ -18446744073709551616 ≤ b ∧ b ≤ 18446744073709551616) ∧ Q (.int (quo a b)) H
def spDivided : Sp := fun vs H Q _ => ∃ (o : BOp) (w a b : Int), vs = [.str o.s, .int w, .int a, .int b] ∧ o.isDiv = true ∧ Wd w ∧ In w a ∧ In w b ∧ Q (oV (told o w a b)) H
def spShifted : Sp := fun vs H Q _ => ∃ (o : BOp) (w a b : Int), vs = [.str o.s, .int w, .int a, .int b] ∧ o.isSh = true ∧ Wd w ∧ In w a ∧ In w b ∧ Q (oV (told o w a b)) H
def spBin : Sp := fun vs H Q _ => ∃ (o : BOp) (w a b : Int), vs = [.str o.s, .int w, .int a, .int b] ∧ Wd w ∧ In w a ∧ In w b ∧ ∀ H', Same H H' → Q (oV (told o w a b)) H'
def spCmp : Sp := fun vs H Q _ => ∃ (c : CP) (w a b : Int), vs = [.str c.s, .int w, .int a, .int b] ∧ Wd w ∧ In w a ∧ In w b ∧ ∀ H', Same H H' → Q (.int (b2n (comp c w a b))) H'
def spCast : Sp := fun vs H Q _ => ∃ (c : Cs) (w t a : Int), vs = [.str c.s, .int w, .int t, .int a] ∧ Wd w ∧ Wd t ∧ Q (.int (cst c w t a)) H

local macro_rules | `(tactic| walk_at "ev") => `(tactic| try simp only [wipe, iTup, iList, tBM, tBM0, gSub, tSl, tPart, tNoPart, rSlS, tAndV, tOrV, tNotV, tM0, tM1, tPar3, reduceCtorEq, false_and, exists_false, or_false, false_or, gcons, gnil, gName, tTup, tLst, tRet, tRetN, tIf, tTest, tOp, tUn, rI0, rI, rU, tVar, tC, tCall, tCons, tNil, tCB, tSeq, tIfS, tAsg, gName, tNext, tDrop, tPar, tB, tAnd, tOr, tNot, tIsN, tNotN, rEq, rNe, L2.start, List.map_cons, List.map_nil, List.length_cons, List.length_nil, List.replicate_succ, List.replicate_zero, List.cons_append, List.nil_append, List.append_nil, List.set_cons_zero, List.set_cons_succ, List.set_nil, Nat.reduceAdd, Nat.reduceSub, Nat.zero_add, Nat.sub_self, Nat.add_zero, Nat.succ_eq_add_one, List.getElem?_cons_zero, List.getElem?_cons_succ, Option.some.injEq, V.int.injEq, V.str.injEq, V.bl.injEq, V.ref.injEq, List.cons.injEq, and_assoc, exists_eq_left', exists_eq_left, exists_and_left, exists_eq', exists_eq_right, exists_eq_right', exists_const, and_true, true_and, and_self, scal_ii, scal_ss, scal_bb, decide_eq_true_eq, ite_bl, Int.one_mul, p2f, abf, reduceIte, Bool.false_eq_true, decide_true, decide_false, Bool.not_true, Bool.not_false, NWrapped, NSigned, NQuotient, NDivided, NShifted, NBinTold, NCmpTold, NCastTold, NIsPure, NFolded, NLDraw, NLAny, NLOf, NLPower, NLNumber, NLForm, NLSigned, NLShift, NLTold, NLCompared, NLCast, NLPure, NLTable, NLRead, NLMadeNumber, NLOpDrawn, NLFolded, NLLettersWidth, NLSide, NLLettersDrawn, NLOpsRight, NLaw])
local macro_rules | `(tactic| walk_at "if") => `(tactic| first | refine ite_p (by decide +kernel) ?_ | refine ite_n (by decide +kernel) ?_)
def divV : List V := [.str "udiv", .str "sdiv", .str "urem", .str "srem"]

section
variable {P : Program} {w : World} {K : PySem.W.Frag} {mg : Str → Option Value} {base : Heap}
theorem ok_wrapped {f : Addr} {fd : FuncData} (D : Def K mg "wrapped" pWrapped sWrapped f fd) : Cal P w K mg base 1 "wrapped" pWrapped spWrapped := by
  refine D.cal (D.F.ok scWrapped (fun vs H Q E h => ?_) (fun cdv A outer s H vs Q E hr h => ?_))
  · obtain ⟨n, w, rfl, _⟩ := h
    rfl
  obtain ⟨n, w, rfl, hw, q⟩ := h
  have nd := scWrapped.nd
  refine ⟨_, (pss_one (ps_ret (pe_op op_mod (pv 0) (pe_op op_shl pe_int (pv 1))))), ?_⟩
  walk_at "ev"
  exact ⟨cpow hw.1 hw.2, p2_pos _, q⟩
theorem ok_signed {f : Addr} {fd : FuncData} (D : Def K mg "signed" pSigned sSigned f fd) : Cal P w K mg base 1 "signed" pSigned spSigned := by
  refine D.cal (D.F.ok scSigned (fun vs H Q E h => ?_) (fun cdv A outer s H vs Q E hr h => ?_))
  · obtain ⟨n, w, rfl, _⟩ := h
    rfl
  obtain ⟨n, w, rfl, hw, q⟩ := h
  have nd := scSigned.nd
  refine ⟨_, (pss_one (ps_ret (pe_ifExp (pt_cmpR op_ge (pv 0) (pe_op op_shl pe_int (pe_op op_sub (pv 1) pe_int)) (nomark _)) (pe_op op_sub (pv 0) (pe_op op_shl pe_int (pv 1))) (pv 0)))), ?_⟩
  walk_at "ev"
  refine ⟨cpow (by have := hw.1; omega) (by have := hw.2; omega), ?_⟩
  have e := p2_one hw.1
  unfold sg at q
  split
  · rw [if_pos (by omega)] at q
    exact ⟨cpow (by have := hw.1; omega) hw.2, q⟩
  · rw [if_neg (by omega)] at q
    exact q
theorem ok_quotient {f : Addr} {fd : FuncData} (D : Def K mg "quotient" pQuotient sQuotient f fd) (m_abs : mg "abs" = none) : Cal P w K mg base 1 "quotient" pQuotient spQuo := by
  refine D.cal (D.F.ok scQuotient (fun vs H Q E h => ?_) (fun cdv A outer s H vs Q E hr h => ?_))
  · obtain ⟨n, w, rfl, _⟩ := h
    rfl
  obtain ⟨a, b, rfl, hb, q⟩ := h
  have nd := scQuotient.nd
  refine ⟨_, (pss_cons (ps_set (i := 2) nd rfl (by first | exact Or.inl rfl | exact Or.inr rfl) (pe_op op_fdivW (pe_callB call_abs (by rfl) m_abs (by decide +kernel) (pa_cons (pv 0) pa_nil)) (pe_callB call_abs (by rfl) m_abs (by decide +kernel) (pa_cons (pv 1) pa_nil))))
    (pss_one (ps_ret (pe_ifExp (pt_cmpR op_eq (pe_cmpR op_lt (pv 0) pe_int (nomark _)) (pe_cmpR op_lt (pv 1) pe_int (nomark _)) (nomark _)) (pv 2) (pe_un un_neg (pv 2)))))), ?_⟩
  walk_at "ev"
  refine ⟨divw hb.1 hb.2.1 hb.2.2, ?_⟩
  unfold quo at q
  split
  · rename_i h
    rw [if_pos h] at q
    exact q
  · rename_i h
    rw [if_neg h] at q
    exact q
theorem ok_divided {f : Addr} {fd : FuncData} (D : Def K mg "divided" pDivided sDivided f fd) (C_wrapped : Cal P w K mg base 1 "wrapped" pWrapped spWrapped) (C_signed : Cal P w K mg base 1 "signed" pSigned spSigned) (C_quotient : Cal P w K mg base 1 "quotient" pQuotient spQuo) :
    Cal P w K mg base 2 "divided" pDivided spDivided := by
  refine D.cal (D.F.ok scDivided (fun vs H Q E h => ?_) (fun cdv A outer s H vs Q E hr h => ?_))
  · obtain ⟨_, _, _, _, rfl, _⟩ := h
    rfl
  obtain ⟨o, w, a, b, rfl, ho, hw, ha, hb, q⟩ := h
  have nd := scDivided.nd
  refine ⟨_, (pss_cons (ps_if (pt_cmpR op_eq (pv 3) pe_int (nomark _)) (pss_one (ps_ret pe_non)) pss_nil)
    (pss_cons (ps_if (pt_cmpR op_eq (pv 0) pe_str (nomark _)) (pss_one (ps_ret (pe_op op_fdivW (pv 2) (pv 3)))) pss_nil)
    (pss_cons (ps_if (pt_cmpR op_eq (pv 0) pe_str (nomark _)) (pss_one (ps_ret (pe_op op_mod (pv 2) (pv 3)))) pss_nil)
    (pss_cons (ps_par (i := 5) (j := 6) (by rfl) nd rfl rfl (by decide) rfl rfl (pa_cons (pe_cal C_signed hr (by omega) (by rfl) (pa_cons (pv 2) (pa_cons (pv 1) pa_nil))) (pa_cons (pe_cal C_signed hr (by omega) (by rfl) (pa_cons (pv 3) (pa_cons (pv 1) pa_nil))) pa_nil)) (by rfl))
    (pss_cons (ps_set (i := 4) nd rfl (by first | exact Or.inl rfl | exact Or.inr rfl) (pe_cal C_quotient hr (by omega) (by rfl) (pa_cons (pv 5) (pa_cons (pv 6) pa_nil))))
    (pss_one (ps_ret (pe_cal C_wrapped hr (by omega) (by rfl) (pa_cons (pe_ifExp (pt_cmpR op_eq (pv 0) pe_str (nomark _)) (pv 4) (pe_op op_sub (pv 5) (pe_op op_mul (pv 6) (pv 4)))) (pa_cons (pv 1) pa_nil)))))))))), ?_⟩
  walk_at "ev"
  have gb := sg_in hw hb
  have zb := sg_zero hb
  have pb := p2_le hw.2
  have hb' := hb
  obtain ⟨b0, b1⟩ := hb'
  refine ite2 (fun h => ?_) (fun h => ?_)
  · subst h
    cases o <;> first | exact q | cases ho
  have mid : ∀ v, (o = .sdiv ∧ v = quo (sg a w) (sg b w)) ∨ (o = .srem ∧ v = sg a w - sg b w * quo (sg a w) (sg b w)) → Q (.int (v % p2 w)) H := by
    intro v hv
    rcases hv with ⟨rfl, rfl⟩ | ⟨rfl, rfl⟩
    · simp only [told, if_neg h, oV] at q
      exact q
    · simp only [told, if_neg h, oV] at q
      exact q
  cases o <;> first | cases ho | skip
  · walk_at "if"
    simp only [told, if_neg h, oV] at q
    exact ⟨wide_div (b := 65) (by omega) (by omega) (by decide) (by decide), q⟩
  · walk_at "if"; walk_at "if"
    refine ⟨_, _, rfl, hw, _, _, rfl, hw, _, _, rfl, ⟨fun z => h (zb.mp z), by omega, by omega⟩, ?_⟩
    walk_at "if"
    exact ⟨_, _, rfl, ⟨by have := hw.1; omega, hw.2⟩, mid _ (.inl ⟨rfl, rfl⟩)⟩
  · walk_at "if"; walk_at "if"
    simp only [told, if_neg h, oV] at q
    exact ⟨by omega, q⟩
  · walk_at "if"; walk_at "if"
    refine ⟨_, _, rfl, hw, _, _, rfl, hw, _, _, rfl, ⟨fun z => h (zb.mp z), by omega, by omega⟩, ?_⟩
    walk_at "if"
    exact ⟨_, rfl, _, rfl, .inl ⟨by omega, by omega⟩, _, rfl, _, _, rfl, ⟨by have := hw.1; omega, hw.2⟩, mid _ (.inr ⟨rfl, rfl⟩)⟩
theorem sh_in {b w : Int} (hw : Wd w) : 0 ≤ b % w ∧ b % w < w ∧ b % w ≤ 64 := by
  have h0 := hw.1
  have h1 := hw.2
  have e1 := Int.emod_nonneg b (show w ≠ 0 by omega)
  have e2 := Int.emod_lt_of_pos b (show 0 < w by omega)
  omega
theorem ok_shifted {f : Addr} {fd : FuncData} (D : Def K mg "shifted" pShifted sShifted f fd) (C_wrapped : Cal P w K mg base 1 "wrapped" pWrapped spWrapped) (C_signed : Cal P w K mg base 1 "signed" pSigned spSigned) :
    Cal P w K mg base 2 "shifted" pShifted spShifted := by
  refine D.cal (D.F.ok scShifted (fun vs H Q E h => ?_) (fun cdv A outer s H vs Q E hr h => ?_))
  · obtain ⟨_, _, _, _, rfl, _⟩ := h
    rfl
  obtain ⟨o, w, a, b, rfl, ho, hw, ha, hb, q⟩ := h
  have nd := scShifted.nd
  refine ⟨_, (pss_cons (ps_set (i := 4) nd rfl (by first | exact Or.inl rfl | exact Or.inr rfl) (pe_op op_mod (pv 3) (pv 1)))
    (pss_cons (ps_if (pt_cmpR op_eq (pv 0) pe_str (nomark _)) (pss_one (ps_ret (pe_cal C_wrapped hr (by omega) (by rfl) (pa_cons (pe_op op_shl (pv 2) (pv 4)) (pa_cons (pv 1) pa_nil))))) pss_nil)
    (pss_cons (ps_if (pt_cmpR op_eq (pv 0) pe_str (nomark _)) (pss_one (ps_ret (pe_op op_shr (pv 2) (pv 4)))) pss_nil)
    (pss_one (ps_ret (pe_cal C_wrapped hr (by omega) (by rfl) (pa_cons (pe_op op_shr (pe_cal C_signed hr (by omega) (by rfl) (pa_cons (pv 2) (pa_cons (pv 1) pa_nil))) (pv 4)) (pa_cons (pv 1) pa_nil)))))))), ?_⟩
  walk_at "ev"
  have pb := p2_le hw.2
  have hs := sh_in (b := b) hw
  obtain ⟨a0, a1⟩ := id ha
  have hw' : 0 ≤ w ∧ w ≤ 64 := ⟨by have := hw.1; omega, hw.2⟩
  refine ⟨by have := hw.1; omega, ?_⟩
  cases o <;> first | cases ho | skip
  · walk_at "if"
    exact ⟨⟨hs.1, by omega, by omega⟩, _, _, rfl, hw', q⟩
  · walk_at "if"; walk_at "if"
    exact ⟨hs.1, q⟩
  · walk_at "if"; walk_at "if"
    exact ⟨_, _, rfl, hw, _, rfl, hs.1, _, _, rfl, hw', q⟩
theorem ok_bin {f a_DIVISIONS_numbers : Addr} {fd : FuncData} (D : Def K mg "bin_told" pBinTold sBinTold f fd) (m_DIVISIONS_numbers : mg "DIVISIONS_numbers" = some (.ref a_DIVISIONS_numbers)) (hT : ∀ H, SqT K H a_DIVISIONS_numbers divV)
    (C_wrapped : Cal P w K mg base 1 "wrapped" pWrapped spWrapped) (C_divided : Cal P w K mg base 2 "divided" pDivided spDivided) (C_shifted : Cal P w K mg base 2 "shifted" pShifted spShifted) :
    Cal P w K mg base 3 "bin_told" pBinTold spBin := by
  refine D.cal (D.F.ok scBinTold (fun vs H Q E h => ?_) (fun cdv A outer s H vs Q E hr h => ?_))
  · obtain ⟨_, _, _, _, rfl, _⟩ := h
    rfl
  obtain ⟨o, w, a, b, rfl, hw, ha, hb, q⟩ := h
  have nd := scBinTold.nd
  refine ⟨_, (pss_cons (ps_if (pt_cmpR (r := rIn K false) op_in_seq (pv 0) (pe_glob (v := .ref a_DIVISIONS_numbers) (by rfl) m_DIVISIONS_numbers rfl) (by rfl)) (pss_one (ps_ret (pe_cal C_divided hr (by omega) (by rfl) (pa_cons (pv 0) (pa_cons (pv 1) (pa_cons (pv 2) (pa_cons (pv 3) pa_nil))))))) pss_nil)
    (pss_cons (ps_if (pt_cmpR (r := rIn K false) op_in_seq (pv 0) (pe_tup (pa_cons pe_str (pa_cons pe_str (pa_cons pe_str pa_nil)))) (by rfl)) (pss_one (ps_ret (pe_cal C_shifted hr (by omega) (by rfl) (pa_cons (pv 0) (pa_cons (pv 1) (pa_cons (pv 2) (pa_cons (pv 3) pa_nil))))))) pss_nil)
    (pss_cons (ps_if (pt_cmpR op_eq (pv 0) pe_str (nomark _)) (pss_one (ps_ret (pe_op op_and (pv 2) (pv 3)))) pss_nil)
    (pss_cons (ps_if (pt_cmpR op_eq (pv 0) pe_str (nomark _)) (pss_one (ps_ret (pe_op op_or (pv 2) (pv 3)))) pss_nil)
    (pss_cons (ps_if (pt_cmpR op_eq (pv 0) pe_str (nomark _)) (pss_one (ps_ret (pe_op op_xor (pv 2) (pv 3)))) pss_nil)
    (pss_cons (ps_if (pt_cmpR op_eq (pv 0) pe_str (nomark _)) (pss_one (ps_ret (pe_cal C_wrapped hr (by omega) (by rfl) (pa_cons (pe_op op_add (pv 2) (pv 3)) (pa_cons (pv 1) pa_nil))))) pss_nil)
    (pss_one (ps_ret (pe_cal C_wrapped hr (by omega) (by rfl) (pa_cons (pe_ifExp (pt_cmpR op_eq (pv 0) pe_str (nomark _)) (pe_op op_sub (pv 2) (pv 3)) (pe_op op_mul (pv 2) (pv 3))) (pa_cons (pv 1) pa_nil))))))))))), ?_⟩
  walk_at "ev"
  have hw' : 0 ≤ w ∧ w ≤ 64 := ⟨by have := hw.1; omega, hw.2⟩
  have pb := p2_le hw.2
  obtain ⟨a0, a1⟩ := id ha
  obtain ⟨b0, b1⟩ := id hb
  refine in_got (hT H) rfl rfl ?_
  walk_at "ev"
  have sh : (BOp.isSh o = true ∨ BOp.isSh o = false ∧ BOp.isDiv o = false) → inV (.str o.s) divV = false := by cases o <;> first | (intro _; rfl) | (intro z; rcases z with z | ⟨_, z⟩ <;> cases z)
  by_cases hd : o.isDiv = true
  · refine ite_p (by cases o <;> first | rfl | cases hd) ⟨o, w, a, b, rfl, hd, hw, ha, hb, q _ (Same.refl _)⟩
  refine ite_n (by cases o <;> first | exact Bool.false_ne_true | exact (hd rfl).elim) ?_
  refine in_tup rfl rfl (by decide) fun H2 h2 => ?_
  walk_at "ev"
  by_cases hs : o.isSh = true
  · refine ite_p (by cases o <;> first | rfl | cases hs) ⟨o, w, a, b, rfl, hs, hw, ha, hb, q _ h2⟩
  refine ite_n (by cases o <;> first | exact Bool.false_ne_true | exact (hs rfl).elim) ?_
  have q2 := q H2 h2
  cases o <;> first | exact (hd rfl).elim | exact (hs rfl).elim | skip
  · walk_at "if"; walk_at "if"; walk_at "if"; walk_at "if"
    exact ⟨_, _, rfl, hw', q2⟩
  · walk_at "if"; walk_at "if"; walk_at "if"; walk_at "if"; walk_at "if"
    exact ⟨_, _, rfl, hw', q2⟩
  · walk_at "if"; walk_at "if"; walk_at "if"; walk_at "if"; walk_at "if"
    exact ⟨.inl ⟨by omega, by omega⟩, _, _, rfl, hw', q2⟩
  · walk_at "if"
    exact q2
  · walk_at "if"; walk_at "if"
    exact q2
  · walk_at "if"; walk_at "if"; walk_at "if"
    exact q2
theorem ok_cmp {f : Addr} {fd : FuncData} (D : Def K mg "cmp_told" pCmpTold sCmpTold f fd) (C_signed : Cal P w K mg base 1 "signed" pSigned spSigned) : Cal P w K mg base 2 "cmp_told" pCmpTold spCmp := by
  refine D.cal (D.F.ok scCmpTold (fun vs H Q E h => ?_) (fun cdv A outer s H vs Q E hr h => ?_))
  · obtain ⟨_, _, _, _, rfl, _⟩ := h
    rfl
  obtain ⟨c, w, a, b, rfl, hw, ha, hb, q⟩ := h
  have nd := scCmpTold.nd
  refine ⟨_, (pss_cons (ps_asg (pe_ifExp (pt_cmpR (r := rIn K false) op_in_seq (pv 0) (pe_tup (pa_cons pe_str (pa_cons pe_str pa_nil))) (by rfl)) (pe_tup (pa_cons (pe_cal C_signed hr (by omega) (by rfl) (pa_cons (pv 2) (pa_cons (pv 1) pa_nil))) (pa_cons (pe_cal C_signed hr (by omega) (by rfl) (pa_cons (pv 3) (pa_cons (pv 1) pa_nil))) pa_nil))) (pe_tup (pa_cons (pv 2) (pa_cons (pv 3) pa_nil)))) (pg_tup (n := 2) (by rfl) (pgs_cons (pg_name (i := 4) nd rfl (by first | exact Or.inl rfl | exact Or.inr rfl)) (pgs_cons (pg_name (i := 5) nd rfl (by first | exact Or.inl rfl | exact Or.inr rfl)) pgs_nil))))
    (pss_cons (ps_if (pt_cmpR op_eq (pv 0) pe_str (nomark _)) (pss_one (ps_ret (pe_ifExp (pt_cmpR op_eq (pv 4) (pv 5) (nomark _)) pe_int pe_int))) pss_nil)
    (pss_cons (ps_if (pt_cmpR op_eq (pv 0) pe_str (nomark _)) (pss_one (ps_ret (pe_ifExp (pt_cmpR op_ne (pv 4) (pv 5) (nomark _)) pe_int pe_int))) pss_nil)
    (pss_cons (ps_if (pt_cmpR (r := rIn K false) op_in_seq (pv 0) (pe_tup (pa_cons pe_str (pa_cons pe_str pa_nil))) (by rfl)) (pss_one (ps_ret (pe_ifExp (pt_cmpR op_lt (pv 4) (pv 5) (nomark _)) pe_int pe_int))) pss_nil)
    (pss_one (ps_ret (pe_ifExp (pt_cmpR op_le (pv 4) (pv 5) (nomark _)) pe_int pe_int))))))), ?_⟩
  walk_at "ev"
  cases c
  all_goals
    refine in_tup rfl rfl (by decide) fun H2 h2 => ?_
    walk_at "ev"
    walk_at "if"
  iterate 4
    refine unp_new (by decide) rfl fun H3 h3 => ?_
    walk_at "ev"
    have q3 := q H3 (h2.trans h3)
    repeat walk_at "if"
    try (refine in_tup rfl rfl (by decide) fun H4 h4 => ?_
         walk_at "ev"
         replace q3 := q H4 ((h2.trans h3).trans h4)
         walk_at "if")
    unfold comp b2n at q3
    refine ite2 (fun h => ?_) (fun h => ?_)
    · simpa [h] using q3
    · simpa [h] using q3
  all_goals
    refine ⟨_, _, rfl, hw, _, _, rfl, hw, ?_⟩
    refine unp_new (by decide) rfl fun H3 h3 => ?_
    walk_at "ev"
    repeat walk_at "if"
    refine in_tup rfl rfl (by decide) fun H4 h4 => ?_
    walk_at "ev"
    have q3 := q H4 ((h2.trans h3).trans h4)
    walk_at "if"
    unfold comp b2n at q3
    refine ite2 (fun h => ?_) (fun h => ?_)
    · simpa [h] using q3
    · simpa [h] using q3
theorem ok_cast {f : Addr} {fd : FuncData} (D : Def K mg "cast_told" pCastTold sCastTold f fd) (C_wrapped : Cal P w K mg base 1 "wrapped" pWrapped spWrapped) (C_signed : Cal P w K mg base 1 "signed" pSigned spSigned) : Cal P w K mg base 2 "cast_told" pCastTold spCast := by
  refine D.cal (D.F.ok scCastTold (fun vs H Q E h => ?_) (fun cdv A outer s H vs Q E hr h => ?_))
  · obtain ⟨_, _, _, _, rfl, _⟩ := h
    rfl
  obtain ⟨c, w, t, a, rfl, hw, ht, q⟩ := h
  have nd := scCastTold.nd
  refine ⟨_, (pss_one (ps_ret (pe_cal C_wrapped hr (by omega) (by rfl) (pa_cons (pe_ifExp (pt_cmpR op_eq (pv 0) pe_str (nomark _)) (pe_cal C_signed hr (by omega) (by rfl) (pa_cons (pv 3) (pa_cons (pv 1) pa_nil))) (pv 3)) (pa_cons (pv 2) pa_nil))))), ?_⟩
  walk_at "ev"
  have ht' : 0 ≤ t ∧ t ≤ 64 := ⟨by have := ht.1; omega, ht.2⟩
  cases c
  · walk_at "if"
    exact ⟨_, _, rfl, ht', q⟩
  · walk_at "if"
    exact ⟨_, _, rfl, hw, _, _, rfl, ht', q⟩
  · walk_at "if"
    exact ⟨_, _, rfl, ht', q⟩
end
end K25

set_option Elab.async false
set_option linter.all false
set_option maxRecDepth 100000
set_option maxHeartbeats 4000000
namespace K25
open PySem L2
def spPower : Sp := fun vs H Q _ => ∃ n : Int, vs = [.int n] ∧ (0 ≤ n ∧ n ≤ 64) ∧ Q (.int (p2 n)) H
def shv (o : BOp) (w a k : Int) : Int := match o with | .shl => a * p2 k | .ashr => sg a w / p2 k | _ => a / p2 k
def spShift : Sp := fun vs H Q _ => ∃ (o : BOp) (w a k : Int), vs = [.str o.s, .int w, .int a, .int k] ∧ o.isSh = true ∧ Wd w ∧ (0 ≤ k ∧ k ≤ 63) ∧ Q (.int (shv o w a k)) H
local macro_rules | `(tactic| walk_at "ev") => `(tactic| try simp only [wipe, iTup, iList, tBM, tBM0, gSub, tSl, tPart, tNoPart, rSlS, tAndV, tOrV, tNotV, tM0, tM1, tPar3, reduceCtorEq, false_and, exists_false, or_false, false_or, gcons, gnil, gName, tTup, tLst, tRet, tRetN, tIf, tTest, tOp, tUn, rI0, rI, rU, tVar, tC, tCall, tCons, tNil, tCB, tSeq, tIfS, tAsg, gName, tNext, tDrop, tPar, tB, tAnd, tOr, tNot, tIsN, tNotN, rEq, rNe, L2.start, List.map_cons, List.map_nil, List.length_cons, List.length_nil, List.replicate_succ, List.replicate_zero, List.cons_append, List.nil_append, List.append_nil, List.set_cons_zero, List.set_cons_succ, List.set_nil, Nat.reduceAdd, Nat.reduceSub, Nat.zero_add, Nat.sub_self, Nat.add_zero, Nat.succ_eq_add_one, List.getElem?_cons_zero, List.getElem?_cons_succ, Option.some.injEq, V.int.injEq, V.str.injEq, V.bl.injEq, V.ref.injEq, List.cons.injEq, and_assoc, exists_eq_left', exists_eq_left, exists_and_left, exists_eq', exists_eq_right, exists_eq_right', exists_const, and_true, true_and, and_self, scal_ii, scal_ss, scal_bb, decide_eq_true_eq, ite_bl, Int.one_mul, p2f, abf, reduceIte, Bool.false_eq_true, decide_true, decide_false, Bool.not_true, Bool.not_false, NWrapped, NSigned, NQuotient, NDivided, NShifted, NBinTold, NCmpTold, NCastTold, NIsPure, NFolded, NLDraw, NLAny, NLOf, NLPower, NLNumber, NLForm, NLSigned, NLShift, NLTold, NLCompared, NLCast, NLPure, NLTable, NLRead, NLMadeNumber, NLOpDrawn, NLFolded, NLLettersWidth, NLSide, NLLettersDrawn, NLOpsRight, NLaw])
local macro_rules | `(tactic| walk_at "if") => `(tactic| first | refine ite_p (by decide +kernel) ?_ | refine ite_n (by decide +kernel) ?_)

section
variable {P : Program} {w : World} {K : PySem.W.Frag} {mg : Str → Option Value} {base : Heap}
theorem ok_power {f : Addr} {fd : FuncData} (D : Def K mg "_law_power" pLPower sLPower f fd) : Cal P w K mg base 1 "_law_power" pLPower spPower := by
  refine D.cal (D.F.ok scLPower (fun vs H Q E h => ?_) (fun cdv A outer s H vs Q E hr h => ?_))
  · obtain ⟨n, rfl, _⟩ := h
    rfl
  obtain ⟨n, rfl, hw, q⟩ := h
  have nd := scLPower.nd
  refine ⟨_, (pss_one (ps_ret (pe_op op_shl pe_int (pv 0)))), ?_⟩
  walk_at "ev"
  exact ⟨cpow hw.1 hw.2, q⟩
theorem ok_lsigned {f : Addr} {fd : FuncData} (D : Def K mg "_law_signed" pLSigned sLSigned f fd) (C__law_power : Cal P w K mg base 1 "_law_power" pLPower spPower) : Cal P w K mg base 2 "_law_signed" pLSigned spSigned := by
  refine D.cal (D.F.ok scLSigned (fun vs H Q E h => ?_) (fun cdv A outer s H vs Q E hr h => ?_))
  · obtain ⟨n, w, rfl, _⟩ := h
    rfl
  obtain ⟨n, w, rfl, hw, q⟩ := h
  have nd := scLSigned.nd
  have hw' : 0 ≤ w ∧ w ≤ 64 := ⟨by have := hw.1; omega, hw.2⟩
  refine ⟨_, (pss_one (ps_ret (pe_ifExp (pt_cmpR op_ge (pe_op op_add (pv 0) (pv 0)) (pe_cal C__law_power hr (by omega) (by rfl) (pa_cons (pv 1) pa_nil)) (nomark _)) (pe_op op_sub (pv 0) (pe_cal C__law_power hr (by omega) (by rfl) (pa_cons (pv 1) pa_nil))) (pv 0)))), ?_⟩
  walk_at "ev"
  refine ⟨_, rfl, hw', ?_⟩
  walk_at "ev"
  unfold sg at q
  refine ite2 (fun h => ?_) (fun h => ?_)
  · rw [if_pos h] at q
    refine ⟨_, rfl, hw', ?_⟩
    walk_at "ev"
    exact q
  · rw [if_neg h] at q
    exact q
theorem ok_shift {f : Addr} {fd : FuncData} (D : Def K mg "_law_shift" pLShift sLShift f fd) (C__law_power : Cal P w K mg base 1 "_law_power" pLPower spPower) (C__law_signed : Cal P w K mg base 2 "_law_signed" pLSigned spSigned) :
    Cal P w K mg base 3 "_law_shift" pLShift spShift := by
  refine D.cal (D.F.ok scLShift (fun vs H Q E h => ?_) (fun cdv A outer s H vs Q E hr h => ?_))
  · obtain ⟨_, _, _, _, rfl, _⟩ := h
    rfl
  obtain ⟨o, w, a, k, rfl, ho, hw, hk, q⟩ := h
  have nd := scLShift.nd
  have hk' : 0 ≤ k ∧ k ≤ 64 := ⟨hk.1, by omega⟩
  have k1 := p2_pos k
  have k2 := p2_lt hk.2
  refine ⟨_, (pss_cons (ps_if (pt_cmpR op_eq (pv 0) pe_str (nomark _)) (pss_one (ps_ret (pe_op op_mul (pv 2) (pe_cal C__law_power hr (by omega) (by rfl) (pa_cons (pv 3) pa_nil))))) pss_nil)
    (pss_one (ps_ret (pe_op op_fdivW (pe_ifExp (pt_cmpR op_eq (pv 0) pe_str (nomark _)) (pe_cal C__law_signed hr (by omega) (by rfl) (pa_cons (pv 2) (pa_cons (pv 1) pa_nil))) (pv 2)) (pe_cal C__law_power hr (by omega) (by rfl) (pa_cons (pv 3) pa_nil)))))), ?_⟩
  walk_at "ev"
  have dv : ∀ i : Int, CDivW i (p2 k) := fun i => wide_div (b := 65) k1 (by omega) (by decide) (by decide)
  cases o <;> first | cases ho | skip
  · walk_at "if"
    refine ⟨_, rfl, hk', ?_⟩
    walk_at "ev"
    exact ⟨.inr ⟨by omega, by omega⟩, q⟩
  · walk_at "if"; walk_at "if"
    refine ⟨_, rfl, hk', ?_⟩
    walk_at "ev"
    exact ⟨dv _, q⟩
  · walk_at "if"; walk_at "if"
    refine ⟨_, _, rfl, hw, _, rfl, hk', ?_⟩
    walk_at "ev"
    exact ⟨dv _, q⟩
theorem ok_lcast {f : Addr} {fd : FuncData} (D : Def K mg "_law_cast" pLCast sLCast f fd) (C__law_power : Cal P w K mg base 1 "_law_power" pLPower spPower) (C__law_signed : Cal P w K mg base 2 "_law_signed" pLSigned spSigned) (m_int : mg "int" = none) :
    Cal P w K mg base 3 "_law_cast" pLCast spCast := by
  refine D.cal (D.F.ok scLCast (fun vs H Q E h => ?_) (fun cdv A outer s H vs Q E hr h => ?_))
  · obtain ⟨_, _, _, _, rfl, _⟩ := h
    rfl
  obtain ⟨c, w, t, a, rfl, hw, ht, q⟩ := h
  have nd := scLCast.nd
  have ht' : 0 ≤ t ∧ t ≤ 64 := ⟨by have := ht.1; omega, ht.2⟩
  refine ⟨_, (pss_one (ps_ret (pe_op op_mod (pe_callTy call_intI (by rfl) m_int (by decide +kernel) (pa_cons (pe_ifExp (pt_cmpR op_eq (pv 0) pe_str (nomark _)) (pe_cal C__law_signed hr (by omega) (by rfl) (pa_cons (pv 3) (pa_cons (pv 1) pa_nil))) (pv 3)) pa_nil)) (pe_cal C__law_power hr (by omega) (by rfl) (pa_cons (pv 2) pa_nil))))), ?_⟩
  walk_at "ev"
  cases c
  all_goals walk_at "if"
  · refine ⟨_, rfl, ht', ?_⟩
    walk_at "ev"
    exact ⟨p2_pos _, q⟩
  · refine ⟨_, _, rfl, hw, ?_⟩
    walk_at "ev"
    refine ⟨_, rfl, ht', ?_⟩
    walk_at "ev"
    exact ⟨p2_pos _, q⟩
  · refine ⟨_, rfl, ht', ?_⟩
    walk_at "ev"
    exact ⟨p2_pos _, q⟩
theorem ok_compared {f : Addr} {fd : FuncData} (D : Def K mg "_law_compared" pLCompared sLCompared f fd) (C__law_signed : Cal P w K mg base 2 "_law_signed" pLSigned spSigned) : Cal P w K mg base 3 "_law_compared" pLCompared spCmp := by
  refine D.cal (D.F.ok scLCompared (fun vs H Q E h => ?_) (fun cdv A outer s H vs Q E hr h => ?_))
  · obtain ⟨_, _, _, _, rfl, _⟩ := h
    rfl
  obtain ⟨c, w, a, b, rfl, hw, ha, hb, q⟩ := h
  have nd := scLCompared.nd
  refine ⟨_, (pss_cons (ps_asg (pe_ifExp (pt_cmpR op_eq (pe_ix ix_str (pv 0) pe_int (fun _ _ => rfl)) pe_str (nomark _)) (pe_tup (pa_cons (pe_cal C__law_signed hr (by omega) (by rfl) (pa_cons (pv 2) (pa_cons (pv 1) pa_nil))) (pa_cons (pe_cal C__law_signed hr (by omega) (by rfl) (pa_cons (pv 3) (pa_cons (pv 1) pa_nil))) pa_nil))) (pe_tup (pa_cons (pv 2) (pa_cons (pv 3) pa_nil)))) (pg_tup (n := 2) (by rfl) (pgs_cons (pg_name (i := 5) nd rfl (by first | exact Or.inl rfl | exact Or.inr rfl)) (pgs_cons (pg_name (i := 6) nd rfl (by first | exact Or.inl rfl | exact Or.inr rfl)) pgs_nil))))
    (pss_cons (ps_set (i := 4) nd rfl (by first | exact Or.inl rfl | exact Or.inr rfl) (pe_ifExp (pt_cmpR op_eq (pv 0) pe_str (nomark _)) (pe_cmpR op_eq (pv 5) (pv 6) (nomark _)) (pe_ifExp (pt_cmpR op_eq (pv 0) pe_str (nomark _)) (pe_cmpR op_ne (pv 5) (pv 6) (nomark _)) (pe_ifExp (pt_cmpR op_eq (pe_slice sl_str (pv 0) (po_some pe_int) po_none) pe_str (nomark _)) (pe_cmpR op_lt (pv 5) (pv 6) (nomark _)) (pe_cmpR op_le (pv 5) (pv 6) (nomark _))))))
    (pss_one (ps_ret (pe_ifExp (pt_val (pv 4)) pe_int pe_int))))), ?_⟩
  walk_at "ev"
  cases c
  all_goals
    refine ix_s (by decide) rfl ?_
    walk_at "ev"
    walk_at "if"
  iterate 4
    refine unp_new (by decide) rfl fun H3 h3 => ?_
    walk_at "ev"
    have q3 := q H3 h3
    repeat walk_at "if"
    try (refine ⟨by decide, ?_⟩; walk_at "if")
    unfold comp b2n at q3
    refine ite2 (fun h => ?_) (fun h => ?_)
    · simpa [h] using q3
    · simpa [h] using q3
  all_goals
    refine ⟨_, _, rfl, hw, _, _, rfl, hw, ?_⟩
    refine unp_new (by decide) rfl fun H3 h3 => ?_
    walk_at "ev"
    have q3 := q H3 h3
    repeat walk_at "if"
    refine ⟨by decide, ?_⟩
    walk_at "if"
    unfold comp b2n at q3
    refine ite2 (fun h => ?_) (fun h => ?_)
    · simpa [h] using q3
    · simpa [h] using q3
theorem ok_ltold {f : Addr} {fd : FuncData} (D : Def K mg "_law_told" pLTold sLTold f fd) (C__law_power : Cal P w K mg base 1 "_law_power" pLPower spPower) (C__law_signed : Cal P w K mg base 2 "_law_signed" pLSigned spSigned)
    (C__law_shift : Cal P w K mg base 3 "_law_shift" pLShift spShift) (m_int : mg "int" = none) (m_abs : mg "abs" = none) : Cal P w K mg base 4 "_law_told" pLTold spBin := by
  refine D.cal (D.F.ok scLTold (fun vs H Q E h => ?_) (fun cdv A outer s H vs Q E hr h => ?_))
  · obtain ⟨_, _, _, _, rfl, _⟩ := h
    rfl
  obtain ⟨o, w, a, b, rfl, hw, ha, hb, q⟩ := h
  have nd := scLTold.nd
  refine ⟨_, (pss_cons (ps_set (i := 4) nd rfl (by first | exact Or.inl rfl | exact Or.inr rfl) (pe_cal C__law_power hr (by omega) (by rfl) (pa_cons (pv 1) pa_nil)))
    (pss_cons (ps_if (pt_cmpR (r := rIn K false) op_in_seq (pv 0) (pe_lst (pa_cons pe_str (pa_cons pe_str (pa_cons pe_str pa_nil)))) (by rfl)) (pss_one (ps_ret (pe_op op_mod (pe_callTy call_intI (by rfl) m_int (by decide +kernel) (pa_cons (pe_ifExp (pt_cmpR op_eq (pv 0) pe_str (nomark _)) (pe_op op_add (pv 2) (pv 3)) (pe_ifExp (pt_cmpR op_eq (pv 0) pe_str (nomark _)) (pe_op op_sub (pv 2) (pv 3)) (pe_op op_mul (pv 2) (pv 3)))) pa_nil)) (pv 4)))) pss_nil)
    (pss_cons (ps_if (pt_cmpR (r := rIn K false) op_in_seq (pv 0) (pe_lst (pa_cons pe_str (pa_cons pe_str (pa_cons pe_str pa_nil)))) (by rfl)) (pss_one (ps_ret (pe_ifExp (pt_cmpR op_eq (pv 0) pe_str (nomark _)) (pe_op op_and (pv 2) (pv 3)) (pe_ifExp (pt_cmpR op_eq (pv 0) pe_str (nomark _)) (pe_op op_or (pv 2) (pv 3)) (pe_op op_xor (pv 2) (pv 3)))))) pss_nil)
    (pss_cons (ps_if (pt_cmpR (r := rIn K false) op_in_seq (pv 0) (pe_lst (pa_cons pe_str (pa_cons pe_str (pa_cons pe_str pa_nil)))) (by rfl)) (pss_one (ps_ret (pe_op op_mod (pe_callTy call_intI (by rfl) m_int (by decide +kernel) (pa_cons (pe_cal C__law_shift hr (by omega) (by rfl) (pa_cons (pv 0) (pa_cons (pv 1) (pa_cons (pv 2) (pa_cons (pe_op op_mod (pe_callTy call_intI (by rfl) m_int (by decide +kernel) (pa_cons (pv 3) pa_nil)) (pv 1)) pa_nil))))) pa_nil)) (pv 4)))) pss_nil)
    (pss_cons (ps_if (pt_cmpR op_eq (pv 3) pe_int (nomark _)) (pss_one (ps_ret pe_non)) pss_nil)
    (pss_cons (ps_asg (pe_ifExp (pt_cmpR op_eq (pe_ix ix_str (pv 0) pe_int (fun _ _ => rfl)) pe_str (nomark _)) (pe_tup (pa_cons (pv 2) (pa_cons (pv 3) pa_nil))) (pe_tup (pa_cons (pe_cal C__law_signed hr (by omega) (by rfl) (pa_cons (pv 2) (pa_cons (pv 1) pa_nil))) (pa_cons (pe_cal C__law_signed hr (by omega) (by rfl) (pa_cons (pv 3) (pa_cons (pv 1) pa_nil))) pa_nil)))) (pg_tup (n := 2) (by rfl) (pgs_cons (pg_name (i := 6) nd rfl (by first | exact Or.inl rfl | exact Or.inr rfl)) (pgs_cons (pg_name (i := 7) nd rfl (by first | exact Or.inl rfl | exact Or.inr rfl)) pgs_nil))))
    (pss_cons (ps_set (i := 5) nd rfl (by first | exact Or.inl rfl | exact Or.inr rfl) (pe_ifExp (pt_cmpR op_eq (pe_cmpR op_lt (pv 6) pe_int (nomark _)) (pe_cmpR op_lt (pv 7) pe_int (nomark _)) (nomark _)) (pe_op op_fdivW (pe_callB call_abs (by rfl) m_abs (by decide +kernel) (pa_cons (pv 6) pa_nil)) (pe_callB call_abs (by rfl) m_abs (by decide +kernel) (pa_cons (pv 7) pa_nil))) (pe_op op_sub pe_int (pe_op op_fdivW (pe_callB call_abs (by rfl) m_abs (by decide +kernel) (pa_cons (pv 6) pa_nil)) (pe_callB call_abs (by rfl) m_abs (by decide +kernel) (pa_cons (pv 7) pa_nil))))))
    (pss_one (ps_ret (pe_op op_mod (pe_callTy call_intI (by rfl) m_int (by decide +kernel) (pa_cons (pe_ifExp (pt_cmpR op_eq (pe_slice sl_str (pv 0) (po_some pe_int) po_none) pe_str (nomark _)) (pv 5) (pe_op op_sub (pv 6) (pe_op op_mul (pv 5) (pv 7)))) pa_nil)) (pv 4))))))))))), ?_⟩
  walk_at "ev"
  have hw' : 0 ≤ w ∧ w ≤ 64 := ⟨by have := hw.1; omega, hw.2⟩
  have pb := p2_le hw.2
  have pp := p2_pos w
  obtain ⟨a0, a1⟩ := id ha
  obtain ⟨b0, b1⟩ := id hb
  refine ⟨_, rfl, hw', ?_⟩
  walk_at "ev"
  refine in_lst rfl rfl (by decide) fun H2 h2 => ?_
  walk_at "ev"
  by_cases h3 : o = .add ∨ o = .sub ∨ o = .mul
  · have q2 := q H2 h2
    rcases h3 with rfl | rfl | rfl
    · walk_at "if"; walk_at "if"
      exact ⟨pp, q2⟩
    · walk_at "if"; walk_at "if"; walk_at "if"
      exact ⟨pp, q2⟩
    · walk_at "if"; walk_at "if"; walk_at "if"
      exact ⟨.inl ⟨by omega, by omega⟩, pp, q2⟩
  refine ite_n (by cases o <;> first | exact Bool.false_ne_true | exact (h3 (by decide)).elim) ?_
  refine in_lst rfl rfl (by decide) fun H4 h4 => ?_
  walk_at "ev"
  by_cases h5 : o = .and ∨ o = .or ∨ o = .xor
  · have q2 := q H4 (h2.trans h4)
    rcases h5 with rfl | rfl | rfl
    · walk_at "if"; walk_at "if"
      exact q2
    · walk_at "if"; walk_at "if"; walk_at "if"
      exact q2
    · walk_at "if"; walk_at "if"; walk_at "if"
      exact q2
  refine ite_n (by cases o <;> first | exact Bool.false_ne_true | exact (h5 (by decide)).elim) ?_
  refine in_lst rfl rfl (by decide) fun H6 h6 => ?_
  walk_at "ev"
  have q2 := q H6 ((h2.trans h4).trans h6)
  by_cases hs : o.isSh = true
  · refine ite_p (by cases o <;> first | rfl | cases hs) ?_
    have hb2 := sh_in (b := b) hw
    refine ⟨by omega, o, w, a, b % w, rfl, hs, hw, ⟨hb2.1, by omega⟩, ?_⟩
    walk_at "ev"
    refine ⟨pp, ?_⟩
    cases o <;> first | cases hs | skip
    · exact q2
    · have e : (a / p2 (b % w)) % p2 w = a / p2 (b % w) := Int.emod_eq_of_lt (Int.ediv_nonneg a0 (Int.le_of_lt (p2_pos _))) (Int.lt_of_le_of_lt (Int.ediv_le_self _ a0) a1)
      show Q (.int (a / p2 (b % w) % p2 w)) H6
      rw [e]
      exact q2
    · exact q2
  refine ite_n (by cases o <;> first | exact Bool.false_ne_true | exact (hs rfl).elim) ?_
  have hd : o.isDiv = true := by cases o <;> first | rfl | exact (h3 (by decide)).elim | exact (h5 (by decide)).elim | exact (hs rfl).elim
  refine ite2 (fun h => ?_) (fun h => ?_)
  · subst h
    cases o <;> first | exact q2 | cases hd
  have gb := sg_in hw hb
  have zb := sg_zero hb
  have nz : sg b w ≠ 0 := fun z => h (zb.mp z)
  have du : CDivW (ab a) (ab b) := divw h (by omega) (by omega)
  have ds : CDivW (ab (sg a w)) (ab (sg b w)) := divw nz (by omega) (by omega)
  have qu : quo a b = a / b := by
    unfold quo ab
    rw [if_pos (by rw [decide_eq_false (by omega), decide_eq_false (by omega)]), if_neg (by omega), if_neg (by omega)]
  have ed : (a / b) % p2 w = a / b := Int.emod_eq_of_lt (Int.ediv_nonneg a0 b0) (Int.lt_of_le_of_lt (Int.ediv_le_self _ a0) a1)
  have em : (a - a / b * b) % p2 w = a % b := by
    have e1 := Int.emod_nonneg a h
    have e2 := Int.emod_lt_of_pos a (show 0 < b by omega)
    have e3 := Int.emod_add_mul_ediv a b
    have e4 : a - a / b * b = a % b := by rw [Int.mul_comm]; omega
    rw [e4]
    exact Int.emod_eq_of_lt e1 (by omega)
  cases o <;> first | cases hd | skip
  all_goals
    refine ix_s (by decide) rfl ?_
    walk_at "ev"
    walk_at "if"
  all_goals have q3 : ∀ H7, Same H6 H7 → _ := fun H7 h7 => q H7 (((h2.trans h4).trans h6).trans h7)
  · refine unp_new (by decide) rfl fun H7 h7 => ?_
    walk_at "ev"
    have q4 := q3 H7 h7
    simp only [told, if_neg h, oV] at q4
    have c1 : decide (a < 0) = decide (b < 0) := by rw [decide_eq_false (by omega), decide_eq_false (by omega)]
    refine ite_p c1 ⟨du, by decide, ?_⟩
    walk_at "if"
    unfold quo at qu
    rw [if_pos c1] at qu
    rw [qu, ed]
    exact ⟨pp, q4⟩
  · refine ⟨_, _, rfl, hw, _, _, rfl, hw, ?_⟩
    refine unp_new (by decide) rfl fun H7 h7 => ?_
    walk_at "ev"
    have q4 := q3 H7 h7
    simp only [told, if_neg h, oV, quo] at q4
    refine ite2 (fun c => ?_) (fun c => ?_)
    · rw [if_pos c] at q4
      refine ⟨ds, by decide, ?_⟩
      walk_at "if"
      exact ⟨pp, q4⟩
    · rw [if_neg c] at q4
      refine ⟨ds, by decide, ?_⟩
      walk_at "if"
      rw [Int.zero_sub]
      exact ⟨pp, q4⟩
  · refine unp_new (by decide) rfl fun H7 h7 => ?_
    walk_at "ev"
    have q4 := q3 H7 h7
    simp only [told, if_neg h, oV] at q4
    have c1 : decide (a < 0) = decide (b < 0) := by rw [decide_eq_false (by omega), decide_eq_false (by omega)]
    refine ite_p c1 ⟨du, by decide, ?_⟩
    walk_at "if"
    unfold quo at qu
    rw [if_pos c1] at qu
    rw [qu, em]
    exact ⟨.inr ⟨by omega, by omega⟩, pp, q4⟩
  · refine ⟨_, _, rfl, hw, _, _, rfl, hw, ?_⟩
    refine unp_new (by decide) rfl fun H7 h7 => ?_
    walk_at "ev"
    have q4 := q3 H7 h7
    simp only [told, if_neg h, oV, quo] at q4
    rw [Int.mul_comm] at q4
    refine ite2 (fun c => ?_) (fun c => ?_)
    · rw [if_pos c] at q4
      refine ⟨ds, by decide, ?_⟩
      walk_at "if"
      exact ⟨.inr ⟨by omega, by omega⟩, pp, q4⟩
    · rw [if_neg c] at q4
      refine ⟨ds, by decide, ?_⟩
      walk_at "if"
      rw [Int.zero_sub]
      exact ⟨.inr ⟨by omega, by omega⟩, pp, q4⟩
end
end K25

set_option Elab.async false
set_option linter.all false
set_option maxRecDepth 100000
set_option maxHeartbeats 4000000
namespace K25
open PySem L2
/-! ### the deal: a list of a list of numbers and a number -/
structure Deal (d g : Addr) (H : Hp) : Prop where
  ne : d ≠ g
  ex : ∃ (xs : List Int) (b : Int), H d = some (.lst [.ref g, .int b]) ∧ H g = some (.lst (xs.map V.int)) ∧ xs.length ≤ 48 ∧ (∀ x ∈ xs, 0 ≤ x) ∧ 0 ≤ b
/-- all but the deal is as it was -/
def But (d g : Addr) (H H' : Hp) : Prop := ∀ a o, a ≠ d → a ≠ g → H a = some o → H' a = some o
theorem But.refl (d g : Addr) (H : Hp) : But d g H H := fun _ _ _ _ h => h
theorem But.trans {d g : Addr} {H H1 H2 : Hp} (a : But d g H H1) (b : But d g H1 H2) : But d g H H2 := fun x o h1 h2 h => b x o h1 h2 (a x o h1 h2 h)
theorem But.of {d g : Addr} {H H1 : Hp} (a : Same H H1) : But d g H H1 := fun x o _ _ h => a x o h
theorem But.same {d g : Addr} {H H1 H2 : Hp} (a : But d g H H1) (b : Same H1 H2) : But d g H H2 := fun x o h1 h2 h => b x o (a x o h1 h2 h)
theorem But.upd {d g p : Addr} {o : HO} {H H1 : Hp} (a : But d g H H1) (hp : p = d ∨ p = g) : But d g H (upd H1 p o) := fun x u h1 h2 h => by
  rw [upd_ne (by rcases hp with rfl | rfl <;> assumption)]
  exact a x u h1 h2 h
theorem Deal.same {d g : Addr} {H H' : Hp} (D : Deal d g H) (s : Same H H') : Deal d g H' := by
  obtain ⟨ne, xs, b, h1, h2, h3⟩ := D
  exact ⟨ne, xs, b, s _ _ h1, s _ _ h2, h3⟩
/-- the loop of _law_any -/
def WAny (d g : Addr) (n : Int) (H : Hp) (m : Nat) (σ : L2.St) (H' : Hp) : Prop :=
  ∃ (xs : List Int) (b : Int), σ = [some (.ref d), some (.int n), none] ∧ m = xs.length ∧ H' d = some (.lst [.ref g, .int b]) ∧ H' g = some (.lst (xs.map V.int)) ∧ xs.length ≤ 48 ∧ (∀ x ∈ xs, 0 ≤ x) ∧ 0 ≤ b ∧ But d g H H'
def spAny : Sp := fun vs H Q _ => ∃ (d g : Addr) (n : Int), vs = [.ref d, .int n] ∧ Deal d g H ∧ (0 < n ∧ n ≤ 18446744073709551616) ∧ ∀ r H', 0 ≤ r → r < n → Deal d g H' → But d g H H' → Q (.int r) H'
def spOf (K : PySem.W.Frag) : Sp := fun vs H Q _ => ∃ (d g l : Addr) (xs : List V), vs = [.ref d, .ref l] ∧ Deal d g H ∧ SqL K H l xs ∧ (l ≠ d ∧ l ≠ g) ∧ 0 < xs.length ∧ xs.length ≤ 1000 ∧ ∀ x ∈ xs, ∀ H', Deal d g H' → But d g H H' → Q x H'
def spNumber : Sp := fun vs H Q _ => ∃ (d g : Addr) (w : Int), vs = [.ref d, .int w] ∧ Deal d g H ∧ Wd w ∧ ∀ r H', In w r → Deal d g H' → But d g H H' → Q (.int r) H'
def spDraw (K : PySem.W.Frag) : Sp := fun vs H Q _ => ∃ (a : Addr) (ns : List Int), vs = [.ref a, .int 25] ∧ SqL K H a (ns.map V.int) ∧ ns.length ≤ 63 ∧ ∀ d g H', Same H H' → H d = none → H g = none → Deal d g H' → Q (.ref d) H'
local macro_rules | `(tactic| walk_at "ev") => `(tactic| try simp only [wipe, iTup, iList, tBM, tBM0, gSub, tSl, tPart, tNoPart, rSlS, tAndV, tOrV, tNotV, tM0, tM1, tPar3, reduceCtorEq, false_and, exists_false, or_false, false_or, gcons, gnil, gName, tTup, tLst, tRet, tRetN, tIf, tTest, tOp, tUn, rI0, rI, rU, tVar, tC, tCall, tCons, tNil, tCB, tSeq, tIfS, tAsg, gName, tNext, tDrop, tPar, tB, tAnd, tOr, tNot, tIsN, tNotN, rEq, rNe, L2.start, List.map_cons, List.map_nil, List.length_cons, List.length_nil, List.replicate_succ, List.replicate_zero, List.cons_append, List.nil_append, List.append_nil, List.set_cons_zero, List.set_cons_succ, List.set_nil, Nat.reduceAdd, Nat.reduceSub, Nat.zero_add, Nat.sub_self, Nat.add_zero, Nat.succ_eq_add_one, List.getElem?_cons_zero, List.getElem?_cons_succ, Option.some.injEq, V.int.injEq, V.str.injEq, V.bl.injEq, V.ref.injEq, List.cons.injEq, and_assoc, exists_eq_left', exists_eq_left, exists_and_left, exists_eq', exists_eq_right, exists_eq_right', exists_const, and_true, true_and, and_self, scal_ii, scal_ss, scal_bb, decide_eq_true_eq, ite_bl, Int.one_mul, p2f, abf, reduceIte, Bool.false_eq_true, decide_true, decide_false, Bool.not_true, Bool.not_false, NWrapped, NSigned, NQuotient, NDivided, NShifted, NBinTold, NCmpTold, NCastTold, NIsPure, NFolded, NLDraw, NLAny, NLOf, NLPower, NLNumber, NLForm, NLSigned, NLShift, NLTold, NLCompared, NLCast, NLPure, NLTable, NLRead, NLMadeNumber, NLOpDrawn, NLFolded, NLLettersWidth, NLSide, NLLettersDrawn, NLOpsRight, NLaw])
local macro_rules | `(tactic| walk_at "if") => `(tactic| first | refine ite_p (by decide +kernel) ?_ | refine ite_n (by decide +kernel) ?_)

theorem ints_of : ∀ ys : List V, (∀ (i : Nat) (y : V), ys[i]? = some y → ∃ n : Int, y = .int n ∧ 0 ≤ n) → ∃ ms : List Int, ys = ms.map V.int ∧ ∀ m ∈ ms, 0 ≤ m
  | [], _ => ⟨[], rfl, fun m h => absurd h (by simp)⟩
  | y :: ys, h => by
    obtain ⟨n, rfl, h0⟩ := h 0 y rfl
    obtain ⟨ms, rfl, hm⟩ := ints_of ys fun i z e => h (i + 1) z e
    refine ⟨n :: ms, rfl, fun m hm' => ?_⟩
    rcases List.mem_cons.mp hm' with rfl | q
    · exact h0
    · exact hm m q
section
variable {P : Program} {w : World} {K : PySem.W.Frag} {mg : Str → Option Value} {base : Heap}
theorem ok_any {f : Addr} {fd : FuncData} (D : Def K mg "_law_any" pLAny sLAny f fd) (m_int : mg "int" = none) : Cal P w K mg base 1 "_law_any" pLAny spAny := by
  refine D.cal (D.F.ok scLAny (fun vs H Q E h => ?_) (fun cdv A outer s H vs Q E hr h => ?_))
  · obtain ⟨_, _, _, rfl, _⟩ := h
    rfl
  obtain ⟨d, g, n, rfl, hd, hn, q⟩ := h
  have nd := scLAny.nd
  refine ⟨_, (Evl.pss_cut (ps_while PassesOwn.never (PW.pt (pw_and (pt_cmpR (r := rNeD K) (op_neD hr.units) (pe_ix (r := rIxL K) ix_list (pv 0) pe_int (fun _ _ => rfl)) (pe_lst pa_nil) (nomark _)) (pw_and1 (pt_cmpR op_eq (pe_ix (r := rIxL K) ix_list (pe_ix (r := rIxL K) ix_list (pv 0) pe_int (fun _ _ => rfl)) (pe_un un_neg pe_int) (fun _ _ => rfl)) pe_int (nomark _))))) (pss_one (ps_expr (pe_popK (K := K) rfl (pe_ix (r := rIxL K) ix_list (pv 0) pe_int (fun _ _ => rfl))))))
    (pss_cons (ps_if (pt_cmpR (r := rNeD K) (op_neD hr.units) (pe_ix (r := rIxL K) ix_list (pv 0) pe_int (fun _ _ => rfl)) (pe_lst pa_nil) (nomark _)) (pss_cons (ps_set (i := 2) nd rfl (by first | exact Or.inl rfl | exact Or.inr rfl) (pe_callTy call_intI (by rfl) m_int (by decide +kernel) (pa_cons (pe_popK (K := K) rfl (pe_ix (r := rIxL K) ix_list (pv 0) pe_int (fun _ _ => rfl))) pa_nil)))
    (pss_cons (ps_expr (pe_bm PySem.F.plainAttrs_list PySem.F.slot_list_append PySem.F.type_list_append mt_append (pe_ix (r := rIxL K) ix_list (pv 0) pe_int (fun _ _ => rfl)) (pa_cons (pe_op op_fdivW (pv 2) (pv 1)) pa_nil)))
    (pss_one (ps_ret (pe_op op_mod (pv 2) (pv 1)))))) pss_nil)
    (pss_cons (ps_asg (pe_op op_mod (pe_callTy call_intI (by rfl) m_int (by decide +kernel) (pa_cons (pe_op op_add (pe_op op_mul (pe_ix (r := rIxL K) ix_list (pv 0) pe_int (fun _ _ => rfl)) pe_int) pe_int) pa_nil)) pe_int) (pg_sub (pv 0) pe_int set_list))
    (pss_one (ps_ret (pe_op op_mod (pe_callTy call_intI (by rfl) m_int (by decide +kernel) (pa_cons (pe_op op_fdivW (pe_ix (r := rIxL K) ix_list (pv 0) pe_int (fun _ _ => rfl)) pe_int) pa_nil)) (pv 1))))))), ?_⟩
  walk_at "ev"
  obtain ⟨ne, xs0, b0, hd0, hg0, hl0, hx0, hb0⟩ := hd
  have wi : WAny d g n H xs0.length [some (.ref d), some (.int n), none] H := ⟨xs0, b0, rfl, rfl, hd0, hg0, hl0, hx0, hb0, But.refl d g H⟩
  refine ⟨fun σ H' => ∃ m, WAny d g n H m σ H', ⟨WAny d g n H, ⟨_, wi⟩, ?_⟩, ?_⟩
  · rintro m σ H1 ⟨xs, b, rfl, rfl, h1, h2, hl, hx, hb, hbut⟩
    walk_at "ev"
    refine ixl (SqL.of h1) rfl ?_
    refine ne_nil_ints h2 fun H2 s2 => ?_
    walk_at "ev"
    have k1 := s2 _ _ h1
    have k2 := s2 _ _ h2
    have kb := hbut.same s2
    refine ite2 (fun c => ?_) (fun c => ?_)
    · rcases List.eq_nil_or_concat xs with rfl | ⟨ys, y, rfl⟩
      · simp at c
      refine ixl (SqL.of k1) rfl (ixl (SqL.of k2) (v := .int y) ?_ ?_)
      · rw [List.concat_eq_append, List.map_append]
        exact atI_last _ _
      walk_at "ev"
      rw [List.concat_eq_append, List.map_append] at k2
      refine ite2 (fun c2 => ?_) (fun c2 => ?_)
      · refine ⟨fun σ' H' => WAny d g n H ys.length σ' H', fun σ' H' w => ⟨_, by simp, w⟩, ?_⟩
        refine ixl (SqL.of k1) rfl ⟨tyl k2, popl k2 ?_⟩
        exact ⟨ys, b, rfl, rfl, by rw [upd_ne ne]; exact k1, upd_same, by simp at hl; omega, fun x hm => hx x (by simp [hm]), hb, kb.upd (.inr rfl)⟩
      · exact ⟨_, _, b, rfl, rfl, k1, by rw [k2, List.concat_eq_append, List.map_append], hl, hx, hb, kb⟩
    · exact ⟨_, xs, b, rfl, rfl, k1, k2, hl, hx, hb, kb⟩
  · rintro σ H1 ⟨m, xs, b, rfl, rfl, h1, h2, hl, hx, hb, hbut⟩
    walk_at "ev"
    refine ixl (SqL.of h1) rfl ?_
    refine ne_nil_ints h2 fun H2 s2 => ?_
    walk_at "ev"
    have k1 := s2 _ _ h1
    have k2 := s2 _ _ h2
    have kb := hbut.same s2
    refine ite2 (fun c => ?_) (fun c => ?_)
    · rcases List.eq_nil_or_concat xs with rfl | ⟨ys, y, rfl⟩
      · simp at c
      rw [List.concat_eq_append] at hx hl
      rw [List.concat_eq_append, List.map_append] at k2
      have y0 : 0 ≤ y := hx y (by simp)
      refine ixl (SqL.of k1) rfl ⟨tyl k2, popl k2 ?_⟩
      walk_at "ev"
      have j1 : (upd H2 g (.lst (ys.map V.int))) d = some (.lst [.ref g, .int b]) := by rw [upd_ne ne]; exact k1
      refine ixl (SqL.of j1) rfl ⟨tyl upd_same, ⟨wide_div (b := 65) hn.1 (by omega) (by decide) (by decide), ?_⟩⟩
      have lz : ys.length ≤ 47 := by simp at hl; omega
      refine appl upd_same (by rw [List.length_map]; omega) ?_
      rw [upd_upd]
      have gq := Int.ediv_nonneg y0 (Int.le_of_lt hn.1)
      refine ⟨hn.1, q _ _ (Int.emod_nonneg _ (by omega)) (Int.emod_lt_of_pos _ hn.1) ⟨ne, ys ++ [y / n], b, by rw [upd_ne ne]; exact k1, by rw [upd_same, List.map_append]; rfl, by simp; omega, fun x hm => ?_, hb⟩ (kb.upd (.inr rfl))⟩
      rcases List.mem_append.mp hm with hm | hm
      · exact hx x (by simp [hm])
      · rw [List.mem_singleton.mp hm]
        exact gq
    · refine ixl (SqL.of k1) rfl ?_
      walk_at "ev"
      refine ⟨.inr ⟨by omega, by omega⟩, by omega, setl (j := 1) k1 rfl (ixl (SqL.of upd_same) (v := .int ((b * 40693 + 71) % 2147483647)) rfl ?_)⟩
      walk_at "ev"
      refine ⟨⟨by omega, by decide⟩, hn.1, q _ _ (Int.emod_nonneg _ (by omega)) (Int.emod_lt_of_pos _ hn.1) ⟨ne, xs, (b * 40693 + 71) % 2147483647, upd_same, by rw [upd_ne (Ne.symm ne)]; exact k2, hl, hx, by omega⟩ (kb.upd (.inl rfl))⟩
theorem ok_of {f : Addr} {fd : FuncData} (D : Def K mg "_law_of" pLOf sLOf f fd) (C__law_any : Cal P w K mg base 1 "_law_any" pLAny spAny) (m_len : mg "len" = none) : Cal P w K mg base 2 "_law_of" pLOf (spOf K) := by
  refine D.cal (D.F.ok scLOf (fun vs H Q E h => ?_) (fun cdv A outer s H vs Q E hr h => ?_))
  · obtain ⟨_, _, _, _, rfl, _⟩ := h
    rfl
  obtain ⟨d, g, l, xs, rfl, hd, hx, hl, h0, h1, q⟩ := h
  have nd := scLOf.nd
  refine ⟨_, (pss_one (ps_ret (pe_ix (r := rIxL K) ix_list (pv 1) (pe_cal C__law_any hr (by omega) (by rfl) (pa_cons (pv 0) (pa_cons (pe_callB call_len_seq (by rfl) m_len (by decide +kernel) (pa_cons (pv 1) pa_nil)) pa_nil))) (fun _ _ => rfl)))), ?_⟩
  walk_at "ev"
  refine ⟨_, .inl hx, d, g, _, rfl, hd, ⟨by omega, by omega⟩, fun r H' r0 r1 D' B' => ?_⟩
  have hx' : SqL K H' l xs := by
    rcases hx with (h | ⟨o, h⟩) | h
    · exact .inl (.inl (B' _ _ hl.1 hl.2 h))
    · exact .inl (.inr ⟨o, B' _ _ hl.1 hl.2 h⟩)
    · exact .inr h
  have hr : r.toNat < xs.length := by omega
  have e : r = ((r.toNat : Nat) : Int) := by omega
  refine ixl (v := xs[r.toNat]) hx' (at_of e (List.getElem?_eq_getElem hr)) (q _ (List.getElem_mem hr) H' D' B')
theorem of_new {d g : Addr} {H : Hp} {Q : VK} {E : XK} {n : Nat} {xs : List V} (hd : Deal d g H) (hz : n ≤ sizeLine) (h0 : 0 < xs.length) (h1 : xs.length ≤ 1000) (q : ∀ x ∈ xs, ∀ H', Deal d g H' → But d g H H' → Q x H') :
    n ≤ sizeLine ∧ ∀ p, H p = none → spOf K [.ref d, .ref p] (upd H p (.lst xs)) Q E := by
  refine ⟨hz, fun p hp => ?_⟩
  obtain ⟨ne, ys, b, e1, e2, r⟩ := id hd
  refine ⟨d, g, p, xs, rfl, hd.same (same_new hp _), SqL.of upd_same, ⟨?_, ?_⟩, h0, h1, fun x hx H' D' B' => q x hx H' D' ((But.of (same_new hp _)).trans B')⟩
  · rintro rfl
    rw [e1] at hp
    cases hp
  · rintro rfl
    rw [e2] at hp
    cases hp
theorem ok_number {f : Addr} {fd : FuncData} (D : Def K mg "_law_number" pLNumber sLNumber f fd) (C__law_any : Cal P w K mg base 1 "_law_any" pLAny spAny) (C__law_of : Cal P w K mg base 2 "_law_of" pLOf (spOf K)) (C__law_power : Cal P w K mg base 1 "_law_power" pLPower spPower) (m_int : mg "int" = none) :
    Cal P w K mg base 3 "_law_number" pLNumber spNumber := by
  refine D.cal (D.F.ok scLNumber (fun vs H Q E h => ?_) (fun cdv A outer s H vs Q E hr h => ?_))
  · obtain ⟨_, _, _, rfl, _⟩ := h
    rfl
  obtain ⟨d, g, w, rfl, hd, hw, q⟩ := h
  have nd := scLNumber.nd
  have hw' : 0 ≤ w ∧ w ≤ 64 := ⟨by have := hw.1; omega, hw.2⟩
  have pp := p2_pos w
  have pl := p2_le hw.2
  have p1 := p2_one hw.1
  have p3 := p2_pos (w - 1)
  refine ⟨_, (pss_cons (ps_set (i := 2) nd rfl (by first | exact Or.inl rfl | exact Or.inr rfl) (pe_cal C__law_power hr (by omega) (by rfl) (pa_cons (pv 1) pa_nil)))
    (pss_cons (ps_set (i := 3) nd rfl (by first | exact Or.inl rfl | exact Or.inr rfl) (pe_cal C__law_any hr (by omega) (by rfl) (pa_cons (pv 0) (pa_cons pe_int pa_nil))))
    (pss_cons (ps_if (pt_cmpR op_lt (pv 3) pe_int (nomark _)) (pss_one (ps_ret (pe_op op_mod (pe_callTy call_intI (by rfl) m_int (by decide +kernel) (pa_cons (pe_cal C__law_any hr (by omega) (by rfl) (pa_cons (pv 0) (pa_cons pe_int pa_nil))) pa_nil)) (pv 2)))) pss_nil)
    (pss_one (ps_ret (pe_ifExp (pt_cmpR op_eq (pv 3) pe_int (nomark _)) (pe_cal C__law_of hr (by omega) (by rfl) (pa_cons (pv 0) (pa_cons (pe_lst (pa_cons pe_int (pa_cons pe_int (pa_cons (pe_op op_sub (pv 2) pe_int) (pa_cons (pe_op op_fdivW (pv 2) pe_int) (pa_cons (pe_op op_sub (pe_op op_fdivW (pv 2) pe_int) pe_int) pa_nil)))))) pa_nil))) (pe_cal C__law_any hr (by omega) (by rfl) (pa_cons (pv 0) (pa_cons (pv 2) pa_nil))))))))), ?_⟩
  walk_at "ev"
  refine ⟨_, rfl, hw', d, g, _, rfl, hd, by decide, fun r H1 r0 r1 D1 B1 => ?_⟩
  walk_at "ev"
  refine ite2 (fun c => ?_) (fun c => ?_)
  · refine ⟨d, g, _, rfl, D1, by decide, fun r' H2 r0' r1' D2 B2 => ?_⟩
    walk_at "ev"
    exact ⟨pp, q _ _ ⟨Int.emod_nonneg _ (by omega), Int.emod_lt_of_pos _ pp⟩ D2 (B1.trans B2)⟩
  · refine ite2 (fun c => ?_) (fun c => ?_)
    · refine ⟨⟨by omega, by decide⟩, ?_⟩
      refine ⟨⟨by omega, by decide⟩, ?_⟩
      refine of_new D1 (by decide) (Nat.zero_lt_succ _) (by show 5 ≤ 1000; decide) fun x hx H2 D2 B2 => ?_
      have fin : ∀ i, In w i → Q (.int i) H2 := fun i hi => q i H2 hi D2 (B1.trans B2)
      simp only [List.mem_cons, List.not_mem_nil, or_false] at hx
      rcases hx with rfl | rfl | rfl | rfl | rfl <;> exact fin _ ⟨by omega, by omega⟩
    · exact ⟨d, g, _, rfl, D1, ⟨pp, pl⟩, fun r' H2 r0' r1' D2 B2 => q _ _ ⟨r0', r1'⟩ D2 (B1.trans B2)⟩
theorem ok_draw {f : Addr} {fd : FuncData} (D : Def K mg "_law_draw" pLDraw sLDraw f fd) (m_int : mg "int" = none) (m_abs : mg "abs" = none) : Cal P w K mg base 1 "_law_draw" pLDraw (spDraw K) := by
  refine D.cal (D.F.ok scLDraw (fun vs H Q E h => ?_) (fun cdv A outer s H vs Q E hr h => ?_))
  · obtain ⟨_, _, rfl, _⟩ := h
    rfl
  obtain ⟨a, ns, rfl, hx, hl, q⟩ := h
  have nd := scLDraw.nd
  refine ⟨_, (pss_cons (ps_setLc (i := 2) (own := [("_law_cell", 4)]) (g := gName 4) (tt := tYes) (by rfl) nd rfl rfl (sw_true rfl rfl rfl (by decide +kernel)) (pi_list (pe_slice sl_list (pv 0) po_none (po_some pe_int))) (blkOk_by (own := [("_law_cell", 4)]) (N := NLDraw) (sc := defScope sLDraw) (by decide +kernel)) (fun _ _ _ _ _ => (pg_name (i := 4) nd rfl (by first | exact Or.inl rfl | exact Or.inr rfl))) (fun _ _ _ _ _ => pts_nil) (fun _ _ _ _ _ => (pe_callB call_abs (by rfl) m_abs (by decide +kernel) (pa_cons (pe_callTy call_intI (by rfl) m_int (by decide +kernel) (pa_cons (pv 4) pa_nil)) pa_nil))))
    (pss_cons (ps_set (i := 3) nd rfl (by first | exact Or.inl rfl | exact Or.inr rfl) (pe_op op_add pe_int (pe_op op_mul pe_int (pv 1))))
    (pss_cons (ps_for PassesOwn.never rfl (pi_list (pv 2)) (pg_name (i := 4) nd rfl (by first | exact Or.inl rfl | exact Or.inr rfl)) (pss_one (ps_set (i := 3) nd rfl (by first | exact Or.inl rfl | exact Or.inr rfl) (pe_op op_mod (pe_callTy call_intI (by rfl) m_int (by decide +kernel) (pa_cons (pe_op op_add (pe_op op_add (pe_op op_mul (pv 3) pe_int) (pe_op op_mod (pv 4) pe_int)) pe_int) pa_nil)) pe_int))))
    (pss_one (ps_ret (pe_lst (pa_cons (pe_revL (pe_lc (own := [("_law_cell", 4)]) (g := gName 4)  (by rfl) nd (pi_list (pv 2)) (blkOk_by (own := [("_law_cell", 4)]) (N := NLDraw) (sc := defScope sLDraw) (by decide +kernel)) (fun _ _ _ _ _ => (pg_name (i := 4) nd rfl (by first | exact Or.inl rfl | exact Or.inr rfl))) (fun _ _ _ _ _ => (pts_one (pt_cmpR op_ge (pv 4) (pe_op op_pow pe_int pe_int) (nomark _)))) (fun _ _ _ _ _ => (pv 4)))) (pa_cons (pv 3) pa_nil)))))))), ?_⟩
  walk_at "ev"
  refine lcA (K := K) (xs := (ns.take 48).map V.int) (fun i y _ => ∃ n : Int, y = .int n ∧ 0 ≤ n) (fun _ _ _ _ _ h => h) (fun R k => ?_) (by rw [List.length_map, List.length_take]; omega) (fun i x H2 hi s2 R k => ?_) (fun c ys H1 hc s1 e1 l1 p1 => ?_)
  · -- script[:48]
    refine ⟨_, rfl, ?_⟩
    walk_at "ev"
    refine ⟨_, _, rfl, hx, fun p hp => ⟨p, rfl, ?_⟩⟩
    have e : cutV (ns.map V.int) none (some 48) = (ns.take 48).map V.int := by
      unfold cutV
      rw [HT.sIx_none, show HT.sIx (ns.map V.int).length (ns.map V.int).length (some 48) = min 48 (ns.map V.int).length from HT.sIx_nat _ _ 48, List.drop_zero, List.map_take, Nat.sub_zero]
      rw [List.take_eq_take_iff]
      omega
    rw [e]
    exact ⟨⟨_, SqL.of upd_same⟩, k p _ (same_new hp _) (SqL.of upd_same)⟩
  · rw [List.getElem?_map] at hi
    cases hn : (ns.take 48)[i]? with
    | none => rw [hn] at hi; cases hi
    | some n =>
      rw [hn] at hi
      obtain rfl : V.int n = x := Option.some.inj hi
      simp only [wipe]
      walk_at "ev"
      exact k _ _ (Same.refl _) ⟨_, rfl, ab_nn _⟩
  -- the numbers
  obtain ⟨ms, rfl, hm⟩ : ∃ ms : List Int, ys = ms.map V.int ∧ ∀ m ∈ ms, 0 ≤ m := ints_of ys fun i y e => p1 i y e
  walk_at "ev"
  refine ⟨.inl ⟨by omega, by omega⟩, ?_⟩
  have lm : ms.length ≤ 48 := by
    rw [List.length_map, List.length_map, List.length_take] at l1
    omega
  refine Evl.s_forLn (K := K) (a := c) (xs := ms.map V.int) (Evl.ev_var rfl) (SqL.of e1) (fun i σ H2 => ∃ (b : Int) (v : Option V), σ = [some (.ref a), some (.int 25), some (.ref c), some (.int b), v] ∧ 0 ≤ b ∧ Same H1 H2)
    (fun H2 s2 => ⟨_, _, rfl, by omega, s2⟩) (fun i σ H2 _ w => ?_) (fun i x σ H2 hi w => ?_) (fun σ H2 w => ?_)
  · obtain ⟨b, v, rfl, hb, s2⟩ := w
    exact SqL.of (s2 _ _ e1)
  · obtain ⟨b, v, rfl, hb, s2⟩ := w
    rw [List.getElem?_map] at hi
    cases hn : ms[i]? with
    | none => rw [hn] at hi; cases hi
    | some n =>
      rw [hn] at hi
      obtain rfl : V.int n = x := Option.some.inj hi
      walk_at "ev"
      exact ⟨.inr ⟨by omega, by omega⟩, by omega, by omega, by omega, s2⟩
  · obtain ⟨b, v, rfl, hb, s2⟩ := w
    walk_at "ev"
    unfold tRevL
    have at_ : ∀ (i : Nat) (x : V), (ms.map V.int)[i]? = some x → ∃ n : Int, ms[i]? = some n ∧ x = .int n := fun i x e => by
      rw [List.getElem?_map] at e
      cases hn : ms[i]? with
      | none => rw [hn] at e; cases e
      | some n => rw [hn] at e; exact ⟨n, rfl, (Option.some.inj e).symm⟩
    refine Evl.el_lcL (K := K) (a := c) (xs := ms.map V.int) (fun i => decide (1000000000000000000 ≤ ms.getD i 0)) (fun i => .int (ms.getD i 0)) (Evl.ev_var rfl) (SqL.of (s2 _ _ e1)) (by rw [List.length_map]; omega) (fun x => rfl) (fun i x H3 e3 hi => ?_) (fun i x H3 e3 hi _ => ?_) H2 (Same.refl _) _
      (fun p H3 hp s3 e3 => ?_)
    · obtain ⟨n, hn, rfl⟩ := at_ i x hi
      have eg : ms.getD i 0 = n := by rw [List.getD_eq_getElem?_getD, hn]; rfl
      rw [eg]
      intro H4 e4 Q' q'
      simp only [wipe]
      walk_at "ev"
      exact ⟨⟨by decide, by decide, by decide⟩, q' H4 (Same.refl _)⟩
    · obtain ⟨n, hn, rfl⟩ := at_ i x hi
      have eg : ms.getD i 0 = n := by rw [List.getD_eq_getElem?_getD, hn]; rfl
      rw [eg]
      exact Evl.ev_var rfl
    · obtain ⟨gs, eg, hg⟩ : ∃ gs : List Int, Evl.given (ms.map V.int).length (fun i => decide (1000000000000000000 ≤ ms.getD i 0)) (fun i => .int (ms.getD i 0)) = gs.map V.int ∧ ∀ m ∈ gs, 0 ≤ m := by
        refine ints_of _ fun i y e => ?_
        have hm' := List.mem_of_getElem? e
        unfold Evl.given at hm'
        obtain ⟨j, _, rfl⟩ := List.mem_map.mp hm'
        refine ⟨_, rfl, ?_⟩
        rw [List.getD_eq_getElem?_getD]
        cases hj : ms[j]? with
        | none => exact Int.le_refl 0
        | some m => exact hm m (List.mem_of_getElem? hj)
      have lg : gs.length ≤ 48 := by
        have h1 := Evl.given_len (ms.map V.int).length (fun i => decide (1000000000000000000 ≤ ms.getD i 0)) (fun i => .int (ms.getD i 0))
        rw [eg, List.length_map, List.length_map] at h1
        omega
      rw [eg] at e3
      refine ⟨p, _, rfl, SqL.of e3, fun g hg' => ⟨by decide, fun d hd => ?_⟩⟩
      have dg : d ≠ g := by
        rintro rfl
        rw [upd_same] at hd
        cases hd
      have sA : Same H (upd H3 g (.lst (gs.map V.int).reverse)) := ((s1.trans s2).trans s3).trans (same_new hg' _)
      refine q d g _ (sA.trans (same_new hd _)) (sA.free hd) (((s1.trans s2).trans s3).free hg') ⟨dg, gs.reverse, b, upd_same, ?_, by rw [List.length_reverse]; exact lg, fun m hm' => hg m (List.mem_reverse.mp hm'), hb⟩
      rw [upd_ne (Ne.symm dg), upd_same, List.map_reverse]
end
end K25

set_option Elab.async false
set_option linter.all false
set_option maxRecDepth 100000
set_option maxHeartbeats 4000000
namespace K25
open PySem L2
/-! ### ops -/
inductive Arg where
  | n (k : Int) | v (k : Int) | g
def Arg.vs : Arg → List V
  | .n k => [.str "n", .int k]
  | .v k => [.str "v", .int k]
  | .g => [.str "g", .str "a"]
def Arg.isN : Arg → Bool
  | .n _ => true
  | _ => false
def Arg.tag : Arg → Str
  | .n _ => "n"
  | .v _ => "v"
  | .g => "g"
def Arg.x : Arg → V
  | .n k => .int k
  | .v k => .int k
  | .g => .str "a"
theorem Arg.vs_eq (a : Arg) : a.vs = [.str a.tag, a.x] := by cases a <;> rfl
theorem Arg.tag_n (a : Arg) : decide (a.tag = "n") = a.isN := by cases a <;> rfl
inductive Op where
  | bin (o : BOp) (w : Int) (a b : Arg)
  | cmp (c : CP) (w : Int) (a b : Arg)
  | select (sort : V) (c a b : Arg)
  | cast (c : Cs) (w t : Int) (a : Arg)
  | at (w : Int) (p i : Arg)
  | other (kind : Str) (info : List V) (args : List Arg)
def Op.kind : Op → Str
  | .bin .. => "bin" | .cmp .. => "cmp" | .select .. => "select" | .cast .. => "cast" | .at .. => "at" | .other k _ _ => k
def Op.info : Op → List V
  | .bin o w _ _ => [.str o.s, .int w]
  | .cmp c w _ _ => [.str c.s, .int w]
  | .select s _ _ _ => [s]
  | .cast c w t _ => [.str c.s, .int w, .int t]
  | .at w _ _ => [.int w]
  | .other _ i _ => i
def Op.args : Op → List Arg
  | .bin _ _ a b => [a, b]
  | .cmp _ _ a b => [a, b]
  | .select _ c a b => [c, a, b]
  | .cast _ _ _ a => [a]
  | .at _ p i => [p, i]
  | .other _ _ as => as
/-- an arg of a width -/
def Arg.ok (w : Int) : Arg → Prop
  | .n k => In w k
  | _ => True
def Arg.bd : Arg → Prop
  | .n k => 0 ≤ k ∧ k < 18446744073709551616
  | _ => True
def others : List Str := ["alloca", "load", "store", "print", "input", "call"]
def Op.ok : Op → Prop
  | .bin _ w a b => Wd w ∧ a.ok w ∧ b.ok w
  | .cmp _ w a b => Wd w ∧ a.ok w ∧ b.ok w
  | .select _ _ a b => a.bd ∧ b.bd
  | .cast _ w t a => Wd w ∧ Wd t ∧ a.ok w
  | .at _ p _ => p.isN = false
  | .other k _ as => k ∈ others ∧ as.length ≤ 2
def Op.pure : Op → Bool
  | .bin o _ _ b => if o.isDiv then (match b with | .n k => decide (0 < k) | _ => false) else true
  | .other .. => false
  | _ => true
def Op.fold : Op → Option Int
  | .bin o w (.n a) (.n b) => told o w a b
  | .cmp c w (.n a) (.n b) => some (b2n (comp c w a b))
  | .select _ (.n c) (.n a) (.n b) => some (if c = 1 then a else b)
  | .cast c w t (.n a) => some (cst c w t a)
  | _ => none
/-- the args stand: their addresses -/
def ArgsAt (K : PySem.W.Frag) (H : Hp) : List V → List Arg → Prop
  | [], [] => True
  | q :: qs, a :: as => (∃ b, q = .ref b ∧ SqT K H b a.vs) ∧ ArgsAt K H qs as
  | _, _ => False
structure OpAt (K : PySem.W.Frag) (H : Hp) (p : Addr) (op : Op) : Prop where
  ex : ∃ (v : V) (pi pa : Addr) (qs : List V), SqT K H p [v, .str op.kind, .ref pi, .ref pa] ∧ SqT K H pi op.info ∧ SqT K H pa qs ∧ ArgsAt K H qs op.args
theorem ArgsAt.same {K : PySem.W.Frag} {H H' : Hp} (s : Same H H') : ∀ {qs : List V} {as : List Arg}, ArgsAt K H qs as → ArgsAt K H' qs as
  | [], [], _ => trivial
  | _ :: _, _ :: _, ⟨⟨b, e, h⟩, r⟩ => ⟨⟨b, e, same_tup s h⟩, r.same s⟩
  | [], _ :: _, h => h.elim
  | _ :: _, [], h => h.elim
theorem OpAt.same {K : PySem.W.Frag} {H H' : Hp} {p : Addr} {op : Op} (h : OpAt K H p op) (s : Same H H') : OpAt K H' p op := by
  obtain ⟨v, pi, pa, qs, h1, h2, h3, h4⟩ := h
  exact ⟨v, pi, pa, qs, same_tup s h1, same_tup s h2, same_tup s h3, h4.same s⟩
theorem ArgsAt.len {K : PySem.W.Frag} {H : Hp} : ∀ {qs : List V} {as : List Arg}, ArgsAt K H qs as → qs.length = as.length
  | [], [], _ => rfl
  | _ :: _, _ :: _, ⟨_, r⟩ => by simp [r.len]
  | [], _ :: _, h => h.elim
  | _ :: _, [], h => h.elim
theorem ArgsAt.get {K : PySem.W.Frag} {H : Hp} : ∀ {qs : List V} {as : List Arg} {i : Nat} {q : V}, ArgsAt K H qs as → qs[i]? = some q → ∃ a b, as[i]? = some a ∧ q = .ref b ∧ SqT K H b a.vs
  | [], [], i, q, _, e => by simp at e
  | q :: qs, a :: as, 0, _, ⟨⟨b, e, h⟩, r⟩, z => ⟨a, b, rfl, by rw [← e]; exact (Option.some.inj z).symm, h⟩
  | q :: qs, a :: as, i + 1, _, ⟨_, r⟩, z => r.get (i := i) (by simpa using z)
  | [], _ :: _, _, _, h, _ => h.elim
  | _ :: _, [], _, _, h, _ => h.elim

def spPure (K : PySem.W.Frag) : Sp := fun vs H Q _ => ∃ (p : Addr) (op : Op), vs = [.ref p] ∧ OpAt K H p op ∧ op.ok ∧ ∀ H', Same H H' → Q (.bl op.pure) H'
def spFold (K : PySem.W.Frag) : Sp := fun vs H Q _ => ∃ (p : Addr) (op : Op), vs = [.ref p] ∧ OpAt K H p op ∧ op.ok ∧ ∀ H', Same H H' → Q (oV op.fold) H'
local macro_rules | `(tactic| walk_at "ev") => `(tactic| try simp only [wipe, iTup, iList, tBM, tBM0, gSub, tSl, tPart, tNoPart, rSlS, tAndV, tOrV, tNotV, tM0, tM1, tPar3, reduceCtorEq, false_and, exists_false, or_false, false_or, gcons, gnil, gName, tTup, tLst, tRet, tRetN, tIf, tTest, tOp, tUn, rI0, rI, rU, tVar, tC, tCall, tCons, tNil, tCB, tSeq, tIfS, tAsg, gName, tNext, tDrop, tPar, tB, tAnd, tOr, tNot, tIsN, tNotN, rEq, rNe, L2.start, List.map_cons, List.map_nil, List.length_cons, List.length_nil, List.replicate_succ, List.replicate_zero, List.cons_append, List.nil_append, List.append_nil, List.set_cons_zero, List.set_cons_succ, List.set_nil, Nat.reduceAdd, Nat.reduceSub, Nat.zero_add, Nat.sub_self, Nat.add_zero, Nat.succ_eq_add_one, List.getElem?_cons_zero, List.getElem?_cons_succ, Option.some.injEq, V.int.injEq, V.str.injEq, V.bl.injEq, V.ref.injEq, List.cons.injEq, and_assoc, exists_eq_left', exists_eq_left, exists_and_left, exists_eq', exists_eq_right, exists_eq_right', exists_const, and_true, true_and, and_self, scal_ii, scal_ss, scal_bb, decide_eq_true_eq, ite_bl, Int.one_mul, p2f, abf, reduceIte, Bool.false_eq_true, decide_true, decide_false, Bool.not_true, Bool.not_false, NWrapped, NSigned, NQuotient, NDivided, NShifted, NBinTold, NCmpTold, NCastTold, NIsPure, NFolded, NLDraw, NLAny, NLOf, NLPower, NLNumber, NLForm, NLSigned, NLShift, NLTold, NLCompared, NLCast, NLPure, NLTable, NLRead, NLMadeNumber, NLOpDrawn, NLFolded, NLLettersWidth, NLSide, NLLettersDrawn, NLOpsRight, NLaw])
local macro_rules | `(tactic| walk_at "if") => `(tactic| first | refine ite_p (by decide +kernel) ?_ | refine ite_n (by decide +kernel) ?_)

theorem ArgsAt.nil {K : PySem.W.Frag} {H : Hp} {qs : List V} (h : ArgsAt K H qs []) : qs = [] := by
  cases qs with
  | nil => rfl
  | cons q r => exact h.elim
theorem ArgsAt.cons {K : PySem.W.Frag} {H : Hp} {qs : List V} {a : Arg} {as : List Arg} (h : ArgsAt K H qs (a :: as)) : ∃ b r, qs = .ref b :: r ∧ SqT K H b a.vs ∧ ArgsAt K H r as := by
  cases qs with
  | nil => exact h.elim
  | cons q r =>
    obtain ⟨⟨b, e, hb⟩, hr⟩ := h
    exact ⟨b, r, by rw [e], hb, hr⟩
theorem ArgsAt.two {K : PySem.W.Frag} {H : Hp} {qs : List V} {a b : Arg} (h : ArgsAt K H qs [a, b]) : ∃ b0 b1, qs = [.ref b0, .ref b1] ∧ SqT K H b0 a.vs ∧ SqT K H b1 b.vs := by
  obtain ⟨b0, r, rfl, h0, hr⟩ := h.cons
  obtain ⟨b1, r, rfl, h1, hr⟩ := hr.cons
  rw [hr.nil]
  exact ⟨b0, b1, rfl, h0, h1⟩
/-- a bin, or the kinds' list tells it -/
theorem pure_cut {op : Op} {C : Prop} (hok : op.ok) (h1 : (¬ op.kind = "bin") ∧ inV (.str op.kind) [.str "bin", .str "cmp", .str "select", .str "cast", .str "at"] = op.pure → C) (h2 : ∀ o w a b, op = .bin o w a b → C) : C := by
  cases op with
  | bin o w a b => exact h2 _ _ _ _ rfl
  | cmp c w a b => exact h1 ⟨by show ¬ ("cmp" : Str) = "bin"; decide +kernel, rfl⟩
  | select s c a b => exact h1 ⟨by show ¬ ("select" : Str) = "bin"; decide +kernel, rfl⟩
  | cast c w t a => exact h1 ⟨by show ¬ ("cast" : Str) = "bin"; decide +kernel, rfl⟩
  | «at» w p i => exact h1 ⟨by show ¬ ("at" : Str) = "bin"; decide +kernel, rfl⟩
  | other k i as =>
    have hk : k ∈ others := hok.1
    simp only [others, List.mem_cons, List.not_mem_nil, or_false] at hk
    rcases hk with rfl | rfl | rfl | rfl | rfl | rfl
    · exact h1 ⟨by show ¬ ("alloca" : Str) = "bin"; decide +kernel, rfl⟩
    · exact h1 ⟨by show ¬ ("load" : Str) = "bin"; decide +kernel, rfl⟩
    · exact h1 ⟨by show ¬ ("store" : Str) = "bin"; decide +kernel, rfl⟩
    · exact h1 ⟨by show ¬ ("print" : Str) = "bin"; decide +kernel, rfl⟩
    · exact h1 ⟨by show ¬ ("input" : Str) = "bin"; decide +kernel, rfl⟩
    · exact h1 ⟨by show ¬ ("call" : Str) = "bin"; decide +kernel, rfl⟩
section
variable {P : Program} {w : World} {K : PySem.W.Frag} {mg : Str → Option Value} {base : Heap}
theorem fn_is_pure {f a_DIVISIONS_pureness : Addr} {fd : FuncData} (D : Def K mg "is_pure" pIsPure sIsPure f fd) (m_DIVISIONS_pureness : mg "DIVISIONS_pureness" = some (.ref a_DIVISIONS_pureness)) (hT : ∀ H, SqT K H a_DIVISIONS_pureness divV) :
    FnOk P w K mg base CX0 1 f fd pIsPure (spPure K) := by
  refine D.F.ok scIsPure (fun vs H Q E h => ?_) (fun cdv A outer s H vs Q E hr h => ?_)
  · obtain ⟨_, _, rfl, _⟩ := h
    rfl
  obtain ⟨p, op, rfl, ⟨v, pi, pa, qs, h1, h2, h3, h4⟩, hok, q⟩ := h
  have nd := scIsPure.nd
  refine ⟨_, (pss_cons (ps_if (PW.pt (pw_and (pt_cmpR op_eq (pe_ix (r := rIxT K) ix_tup (pv 0) pe_int (fun _ _ => rfl)) pe_str (nomark _)) (pw_and1 (pt_cmpR (r := rIn K false) op_in_seq (pe_ix (r := rIxT K) ix_tup (pe_ix (r := rIxT K) ix_tup (pv 0) pe_int (fun _ _ => rfl)) pe_int (fun _ _ => rfl)) (pe_glob (v := .ref a_DIVISIONS_pureness) (by rfl) m_DIVISIONS_pureness rfl) (by rfl))))) (pss_one (ps_ret (pe_and (pe_cmpR op_eq (pe_ix (r := rIxT K) ix_tup (pe_ix (r := rIxT K) ix_tup (pe_ix (r := rIxT K) ix_tup (pv 0) pe_int (fun _ _ => rfl)) pe_int (fun _ _ => rfl)) pe_int (fun _ _ => rfl)) pe_str (nomark _)) (pe_one (pe_cmpR op_gt (pe_ix (r := rIxT K) ix_tup (pe_ix (r := rIxT K) ix_tup (pe_ix (r := rIxT K) ix_tup (pv 0) pe_int (fun _ _ => rfl)) pe_int (fun _ _ => rfl)) pe_int (fun _ _ => rfl)) pe_int (nomark _)))))) pss_nil)
    (pss_one (ps_ret (pe_cmpR (r := rIn K false) op_in_seq (pe_ix (r := rIxT K) ix_tup (pv 0) pe_int (fun _ _ => rfl)) (pe_tup (pa_cons pe_str (pa_cons pe_str (pa_cons pe_str (pa_cons pe_str (pa_cons pe_str pa_nil)))))) (by rfl))))), ?_⟩
  walk_at "ev"
  refine ixt h1 rfl ?_
  walk_at "ev"
  refine pure_cut hok (fun hk => ?_) (fun o w a b e => ?_)
  · refine ite_n hk.1 ?_
    refine ixt h1 rfl (in_tup rfl rfl (by decide) fun H2 h2 => ?_)
    rw [if_neg Bool.false_ne_true, hk.2]
    exact q H2 h2
  · subst e
    refine ite_p rfl ?_
    obtain ⟨b0, b1, rfl, g0, g1⟩ := h4.two
    refine ixt h1 rfl (ixt h2 rfl (in_got (hT H) rfl rfl ?_))
    walk_at "ev"
    by_cases hd : o.isDiv = true
    · refine ite_p (by cases o <;> first | rfl | cases hd) ?_
      refine ixt h1 rfl (ixt h3 rfl (ixt g1 (v := .str b.tag) (by cases b <;> rfl) ?_))
      walk_at "ev"
      have q2 := q H (Same.refl H)
      simp only [Op.pure, hd, if_true] at q2
      refine ite2 (fun c => ?_) (fun c => ?_)
      · cases b with
        | n k => exact ixt h1 rfl (ixt h3 rfl (ixt g1 rfl ⟨_, rfl, q2⟩))
        | v k => exact absurd c (by show ¬ ("v" : Str) = "n"; decide +kernel)
        | g => exact absurd c (by show ¬ ("g" : Str) = "n"; decide +kernel)
      · cases b with
        | n k => exact absurd rfl c
        | v k => exact q2
        | g => exact q2
    · refine ite_n (by cases o <;> first | exact Bool.false_ne_true | exact (hd rfl).elim) ?_
      refine ixt h1 rfl (in_tup rfl rfl (by decide) fun H2 h2 => ?_)
      have q2 := q H2 h2
      simp only [Op.pure, hd, if_false] at q2
      exact q2
theorem ok_lpure {f : Addr} {fd : FuncData} (D : Def K mg "_law_pure" pLPure sLPure f fd) : Cal P w K mg base 1 "_law_pure" pLPure (spPure K) := by
  refine D.cal (D.F.ok scLPure (fun vs H Q E h => ?_) (fun cdv A outer s H vs Q E hr h => ?_))
  · obtain ⟨_, _, rfl, _⟩ := h
    rfl
  obtain ⟨p, op, rfl, ⟨v, pi, pa, qs, h1, h2, h3, h4⟩, hok, q⟩ := h
  have nd := scLPure.nd
  refine ⟨_, (pss_cons (ps_if (PW.pt (pw_and (pt_cmpR op_eq (pe_ix (r := rIxT K) ix_tup (pv 0) pe_int (fun _ _ => rfl)) pe_str (nomark _)) (pw_and1 (pt_cmpR (r := rIn K false) op_in_seq (pe_ix (r := rIxT K) ix_tup (pe_ix (r := rIxT K) ix_tup (pv 0) pe_int (fun _ _ => rfl)) pe_int (fun _ _ => rfl)) (pe_lst (pa_cons pe_str (pa_cons pe_str (pa_cons pe_str (pa_cons pe_str pa_nil))))) (by rfl))))) (pss_one (ps_ret (pe_and (pe_cmpR op_eq (pe_ix (r := rIxT K) ix_tup (pe_ix (r := rIxT K) ix_tup (pe_ix (r := rIxT K) ix_tup (pv 0) pe_int (fun _ _ => rfl)) pe_int (fun _ _ => rfl)) pe_int (fun _ _ => rfl)) pe_str (nomark _)) (pe_one (pe_cmpR op_gt (pe_ix (r := rIxT K) ix_tup (pe_ix (r := rIxT K) ix_tup (pe_ix (r := rIxT K) ix_tup (pv 0) pe_int (fun _ _ => rfl)) pe_int (fun _ _ => rfl)) pe_int (fun _ _ => rfl)) pe_int (nomark _)))))) pss_nil)
    (pss_one (ps_ret (pe_cmpR (r := rIn K false) op_in_seq (pe_ix (r := rIxT K) ix_tup (pv 0) pe_int (fun _ _ => rfl)) (pe_lst (pa_cons pe_str (pa_cons pe_str (pa_cons pe_str (pa_cons pe_str (pa_cons pe_str pa_nil)))))) (by rfl))))), ?_⟩
  walk_at "ev"
  refine ixt h1 rfl ?_
  walk_at "ev"
  refine pure_cut hok (fun hk => ?_) (fun o w a b e => ?_)
  · refine ite_n hk.1 ?_
    refine ixt h1 rfl ?_
    refine in_lst rfl rfl (by decide) fun H2 h2 => ?_
    rw [if_neg Bool.false_ne_true, hk.2]
    exact q H2 h2
  · subst e
    refine ite_p rfl ?_
    obtain ⟨b0, b1, rfl, g0, g1⟩ := h4.two
    refine ixt h1 rfl (ixt h2 rfl (in_lst rfl rfl (by decide) fun H2 s2 => ?_))
    walk_at "ev"
    replace h1 := same_tup s2 h1
    replace h3 := same_tup s2 h3
    replace g1 := same_tup s2 g1
    by_cases hd : o.isDiv = true
    · refine ite_p (by cases o <;> first | rfl | cases hd) ?_
      refine ixt h1 rfl (ixt h3 rfl (ixt g1 (v := .str b.tag) (by cases b <;> rfl) ?_))
      walk_at "ev"
      have q2 := q H2 s2
      simp only [Op.pure, hd, if_true] at q2
      refine ite2 (fun c => ?_) (fun c => ?_)
      · cases b with
        | n k => exact ixt h1 rfl (ixt h3 rfl (ixt g1 rfl ⟨_, rfl, q2⟩))
        | v k => exact absurd c (by show ¬ ("v" : Str) = "n"; decide +kernel)
        | g => exact absurd c (by show ¬ ("g" : Str) = "n"; decide +kernel)
      · cases b with
        | n k => exact absurd rfl c
        | v k => exact q2
        | g => exact q2
    · refine ite_n (by cases o <;> first | exact Bool.false_ne_true | exact (hd rfl).elim) ?_
      refine ixt h1 rfl ?_
      refine in_lst rfl rfl (by decide) fun H3 h3 => ?_
      have q2 := q H3 (s2.trans h3)
      simp only [Op.pure, hd, if_false] at q2
      exact q2
end
end K25

set_option Elab.async false
set_option linter.all false
set_option maxRecDepth 100000
set_option maxHeartbeats 4000000
namespace K25
open PySem L2
def Arg.data : Arg → PyData
  | .n k => .tuple [.str "n", .int k]
  | .v k => .tuple [.str "v", .int k]
  | .g => .tuple [.str "g", .str "a"]
theorem Arg.dp {K : PySem.W.Frag} {H : Hp} {b : Addr} (a : Arg) (h : SqT K H b a.vs) : Dp K H (.ref b) a.data := by
  cases a with
  | n k => exact .tup h (.cons (.str _) (.cons (.int _) .nil))
  | v k => exact .tup h (.cons (.str _) (.cons (.int _) .nil))
  | g => exact .tup h (.cons (.str _) (.cons (.str _) .nil))
theorem dp_args {K : PySem.W.Frag} {H : Hp} : ∀ {bs : List (Addr × Arg)}, (∀ p ∈ bs, SqT K H p.1 p.2.vs) → DpAll K H (bs.map fun p => .ref p.1) (bs.map fun p => p.2.data)
  | [], _ => .nil
  | p :: bs, h => .cons (p.2.dp (h p (by simp))) (dp_args fun x hx => h x (by simp [hx]))
theorem Arg.lay (a : Arg) : a.data.canLay0 = true ∧ a.data.depth ≤ 3 := by
  cases a <;> simp [Arg.data, PyData.canLay0, PyData.canLayAll0, PyData.depth, PyData.depthAll] <;> decide +kernel
theorem shaped_args (bs : List (Addr × Arg)) : SeqAt.shaped (.list (bs.map fun p => p.2.data)) = true := by
  have h : PyData.canLayAll0 (bs.map fun p => p.2.data) = true ∧ PyData.depthAll (bs.map fun p => p.2.data) ≤ 3 := by
    induction bs with
    | nil => simp [PyData.canLayAll0, PyData.depthAll]
    | cons p r ih =>
      have q := p.2.lay
      simp only [List.map_cons, PyData.canLayAll0, PyData.depthAll]
      exact ⟨by rw [q.1, ih.1]; rfl, by omega⟩
  simp [SeqAt.shaped, PyData.canLay0, h.1, PyData.depth]
  omega
theorem Op.args_le (op : Op) (h : op.ok) : op.args.length ≤ 3 := by
  cases op with
  | other k i as => exact Nat.le_trans h.2 (by decide)
  | select s c a b => exact Nat.le_refl _
  | _ => first | exact Nat.le_succ _ | exact Nat.le_of_lt (by show 1 < 3; decide)
theorem Op.fold_impure (op : Op) (h : op.ok) (hp : op.pure = false) : op.fold = none := by
  cases op with
  | bin o w a b =>
    cases b with
    | n k =>
      cases a with
      | n j =>
        have hb : In w k := h.2.2
        cases o <;> first | cases hp | skip
        all_goals
          have k0 : k = 0 := by
            have h1 := of_decide_eq_false (show decide (0 < k) = false from hp)
            have h2 := hb.1
            omega
          subst k0
          rfl
      | _ => rfl
    | _ => cases a <;> rfl
  | other k i as => rfl
  | «at» w p i => rfl
  | _ => cases hp
theorem Op.fold_mixed (op : Op) (h : op.args.all Arg.isN = false) : op.fold = none := by
  cases op with
  | bin o w a b => cases a <;> cases b <;> first | rfl | cases h
  | cmp c w a b => cases a <;> cases b <;> first | rfl | cases h
  | select s c a b => cases c <;> cases a <;> cases b <;> first | rfl | cases h
  | cast c w t a => cases a <;> first | rfl | cases h
  | _ => rfl
section
variable {K : PySem.W.Frag} {H : Hp} {Q : VK} {te : TE} {vs : List Nat} {σ : L2.St} {wi : TI} {pa : Addr} {qs : List V} {as : List Arg} {j : Nat}
theorem map_of {F : Arg → V} {ys : List V} (hl : ys.length = as.length) (h : ∀ (i : Nat) (y : V), ys[i]? = some y → ∃ a, as[i]? = some a ∧ y = F a) : ys = as.map F := by
  refine List.ext_getElem? fun i => ?_
  rw [List.getElem?_map]
  by_cases hi : i < ys.length
  · rw [List.getElem?_eq_getElem hi]
    obtain ⟨a, ha, e⟩ := h i _ (List.getElem?_eq_getElem hi)
    rw [ha, e] <;> rfl
  · rw [List.getElem?_eq_none (by omega), List.getElem?_eq_none (by omega)] <;> rfl
/-- a comprehension over the args -/
theorem lc_args {F : Arg → V} (h3 : SqT K H pa qs) (h4 : ArgsAt K H qs as) (hl : as.length ≤ 3) (hw : ∀ H2 (R : It → Hp → Prop), Same H H2 → R (Itt K pa) H2 → wi σ H2 R)
    (he : ∀ a b H2, SqT K H2 b a.vs → Same H H2 → ∀ R : VK, R (F a) H2 → te ((wipe σ [j]).set j (some (.ref b))) H2 R)
    (q : ∀ D H2, H D = none → Same H H2 → H2 D = some (.lst (as.map F)) → Q (.ref D) H2) : tLc wi (gName j) tYes te [j] σ H Q := by
  refine lcT (K := K) (xs := qs) (fun i y _ => ∃ a, as[i]? = some a ∧ y = F a) (fun _ _ _ _ _ h => h) (fun R k => hw H R (Same.refl _) (k pa H (Same.refl _) h3)) (by rw [h4.len]; omega) (fun i x H2 hi s2 R k => ?_) (fun D ys H2 hD s2 e2 l2 p2 => ?_)
  · obtain ⟨a, b, ha, rfl, hb⟩ := h4.get hi
    refine ⟨?_, he a b H2 (same_tup s2 hb) s2 _ (k _ _ (Same.refl _) ⟨a, ha, rfl⟩)⟩
    simp [wipe]
  · refine q D H2 hD s2 ?_
    rw [e2, map_of (l2.trans h4.len) p2]
end
local macro_rules | `(tactic| walk_at "ev") => `(tactic| try simp only [wipe, iTup, iList, tBM, tBM0, gSub, tSl, tPart, tNoPart, rSlS, tAndV, tOrV, tNotV, tM0, tM1, tPar3, reduceCtorEq, false_and, exists_false, or_false, false_or, gcons, gnil, gName, tTup, tLst, tRet, tRetN, tIf, tTest, tOp, tUn, rI0, rI, rU, tVar, tC, tCall, tCons, tNil, tCB, tSeq, tIfS, tAsg, gName, tNext, tDrop, tPar, tB, tAnd, tOr, tNot, tIsN, tNotN, rEq, rNe, L2.start, List.map_cons, List.map_nil, List.length_cons, List.length_nil, List.replicate_succ, List.replicate_zero, List.cons_append, List.nil_append, List.append_nil, List.set_cons_zero, List.set_cons_succ, List.set_nil, Nat.reduceAdd, Nat.reduceSub, Nat.zero_add, Nat.sub_self, Nat.add_zero, Nat.succ_eq_add_one, List.getElem?_cons_zero, List.getElem?_cons_succ, Option.some.injEq, V.int.injEq, V.str.injEq, V.bl.injEq, V.ref.injEq, List.cons.injEq, and_assoc, exists_eq_left', exists_eq_left, exists_and_left, exists_eq', exists_eq_right, exists_eq_right', exists_const, and_true, true_and, and_self, scal_ii, scal_ss, scal_bb, decide_eq_true_eq, ite_bl, Int.one_mul, p2f, abf, reduceIte, Bool.false_eq_true, decide_true, decide_false, Bool.not_true, Bool.not_false, NWrapped, NSigned, NQuotient, NDivided, NShifted, NBinTold, NCmpTold, NCastTold, NIsPure, NFolded, NLDraw, NLAny, NLOf, NLPower, NLNumber, NLForm, NLSigned, NLShift, NLTold, NLCompared, NLCast, NLPure, NLTable, NLRead, NLMadeNumber, NLOpDrawn, NLFolded, NLLettersWidth, NLSide, NLLettersDrawn, NLOpsRight, NLaw])
local macro_rules | `(tactic| walk_at "if") => `(tactic| first | refine ite_p (by decide +kernel) ?_ | refine ite_n (by decide +kernel) ?_)
section
variable {P : Program} {w : World} {K : PySem.W.Frag} {mg : Str → Option Value} {base : Heap}
theorem fn_folded {f : Addr} {fd : FuncData} (D : Def K mg "folded" pFolded sFolded f fd) (C_is_pure : Cal P w K mg base 1 "is_pure" pIsPure (spPure K)) (C_bin_told : Cal P w K mg base 3 "bin_told" pBinTold spBin) (C_cmp_told : Cal P w K mg base 2 "cmp_told" pCmpTold spCmp)
    (C_cast_told : Cal P w K mg base 2 "cast_told" pCastTold spCast) (m_all : mg "all" = none) : FnOk P w K mg base CX0 4 f fd pFolded (spFold K) := by
  refine D.F.ok scFolded (fun vs H Q E h => ?_) (fun cdv A outer s H vs Q E hr h => ?_)
  · obtain ⟨_, _, rfl, _⟩ := h
    rfl
  obtain ⟨p, op, rfl, hop, hok, q⟩ := h
  have nd := scFolded.nd
  refine ⟨_, (pss_cons (ps_if (PW.pt (pw_or (pt_not (pt_val (pe_cal C_is_pure hr (by omega) (by rfl) (pa_cons (pv 0) pa_nil)))) (pw_or1 (pt_not (pt_val (pe_callB (cr_all rfl) (by rfl) m_all (by decide +kernel) (pa_cons (pe_lc (own := [("arg", 3)]) (g := gName 3) (tt := tYes) (by rfl) nd (pi_tup (pe_ix (r := rIxT K) ix_tup (pv 0) pe_int (fun _ _ => rfl))) (blkOk_by (own := [("arg", 3)]) (N := NFolded) (sc := defScope sFolded) (by decide +kernel)) (fun _ _ _ _ _ => (pg_name (i := 3) nd rfl (by first | exact Or.inl rfl | exact Or.inr rfl))) (fun _ _ _ _ _ => pts_nil) (fun _ _ _ _ _ => (pe_cmpR op_eq (pe_ix (r := rIxT K) ix_tup (pv 3) pe_int (fun _ _ => rfl)) pe_str (nomark _)))) pa_nil))))))) (pss_one (ps_ret pe_non)) pss_nil)
    (pss_cons (ps_par (i := 1) (j := 2) (by rfl) nd rfl rfl (by decide) rfl rfl (pa_cons (pe_lc (own := [("arg", 3)]) (g := gName 3) (tt := tYes) (by rfl) nd (pi_tup (pe_ix (r := rIxT K) ix_tup (pv 0) pe_int (fun _ _ => rfl))) (blkOk_by (own := [("arg", 3)]) (N := NFolded) (sc := defScope sFolded) (by decide +kernel)) (fun _ _ _ _ _ => (pg_name (i := 3) nd rfl (by first | exact Or.inl rfl | exact Or.inr rfl))) (fun _ _ _ _ _ => pts_nil) (fun _ _ _ _ _ => (pe_ix (r := rIxT K) ix_tup (pv 3) pe_int (fun _ _ => rfl)))) (pa_cons (pe_ix (r := rIxT K) ix_tup (pv 0) pe_int (fun _ _ => rfl)) pa_nil)) (by rfl))
    (pss_cons (ps_if (pt_cmpR op_eq (pe_ix (r := rIxT K) ix_tup (pv 0) pe_int (fun _ _ => rfl)) pe_str (nomark _)) (pss_one (ps_ret (pe_cal C_bin_told hr (by omega) (by rfl) (pa_cons (pe_ix (r := rIxT K) ix_tup (pv 2) pe_int (fun _ _ => rfl)) (pa_cons (pe_ix (r := rIxT K) ix_tup (pv 2) pe_int (fun _ _ => rfl)) (pa_cons (pe_ix (r := rIxL K) ix_list (pv 1) pe_int (fun _ _ => rfl)) (pa_cons (pe_ix (r := rIxL K) ix_list (pv 1) pe_int (fun _ _ => rfl)) pa_nil))))))) pss_nil)
    (pss_cons (ps_if (pt_cmpR op_eq (pe_ix (r := rIxT K) ix_tup (pv 0) pe_int (fun _ _ => rfl)) pe_str (nomark _)) (pss_one (ps_ret (pe_cal C_cmp_told hr (by omega) (by rfl) (pa_cons (pe_ix (r := rIxT K) ix_tup (pv 2) pe_int (fun _ _ => rfl)) (pa_cons (pe_ix (r := rIxT K) ix_tup (pv 2) pe_int (fun _ _ => rfl)) (pa_cons (pe_ix (r := rIxL K) ix_list (pv 1) pe_int (fun _ _ => rfl)) (pa_cons (pe_ix (r := rIxL K) ix_list (pv 1) pe_int (fun _ _ => rfl)) pa_nil))))))) pss_nil)
    (pss_cons (ps_if (pt_cmpR op_eq (pe_ix (r := rIxT K) ix_tup (pv 0) pe_int (fun _ _ => rfl)) pe_str (nomark _)) (pss_one (ps_ret (pe_ifExp (pt_cmpR op_eq (pe_ix (r := rIxL K) ix_list (pv 1) pe_int (fun _ _ => rfl)) pe_int (nomark _)) (pe_ix (r := rIxL K) ix_list (pv 1) pe_int (fun _ _ => rfl)) (pe_ix (r := rIxL K) ix_list (pv 1) pe_int (fun _ _ => rfl))))) pss_nil)
    (pss_one (ps_ret (pe_cal C_cast_told hr (by omega) (by rfl) (pa_cons (pe_ix (r := rIxT K) ix_tup (pv 2) pe_int (fun _ _ => rfl)) (pa_cons (pe_ix (r := rIxT K) ix_tup (pv 2) pe_int (fun _ _ => rfl)) (pa_cons (pe_ix (r := rIxT K) ix_tup (pv 2) pe_int (fun _ _ => rfl)) (pa_cons (pe_ix (r := rIxL K) ix_list (pv 1) pe_int (fun _ _ => rfl)) pa_nil)))))))))))), ?_⟩
  walk_at "ev"
  refine ⟨p, op, rfl, hop, hok, fun H1 s1 => ?_⟩
  walk_at "ev"
  obtain ⟨v, pi, pa, qs, h1, h2, h3, h4⟩ := hop.same s1
  have la := op.args_le hok
  cases hp : op.pure with
  | false =>
    refine iteT ?_
    have e := op.fold_impure hok hp
    rw [e] at q
    exact q H1 s1
  | true =>
    refine iteF ?_
    refine lc_args (F := fun a => .bl a.isN) h3 h4 la (fun H2 R s k => by
      walk_at "ev"
      exact ixt (same_tup s h1) rfl ⟨_, rfl, ⟨_, same_tup s h3⟩, k⟩) (fun a b H2 hb s R k => ?_) (fun D1 H2 hD s2 e2 => ?_)
    · walk_at "ev"
      refine ixt hb (v := .str a.tag) (by cases a <;> rfl) ?_
      walk_at "ev"
      rw [a.tag_n]
      exact k
    refine ⟨D1, op.args.map Arg.isN, rfl, SqL.of (by rw [e2, List.map_map]; rfl), ?_⟩
    walk_at "ev"
    refine ite2 (fun c => ?_) (fun c => ?_)
    · have e := op.fold_mixed (by
        rw [List.all_map] at c
        simpa using c)
      rw [e] at q
      exact q H2 (s1.trans s2)
    · replace h1 := same_tup s2 h1
      replace h2 := same_tup s2 h2
      replace h3 := same_tup s2 h3
      replace h4 := h4.same s2
      refine lc_args (F := Arg.x) h3 h4 la (fun H2 R s k => by
      walk_at "ev"
      exact ixt (same_tup s h1) rfl ⟨_, rfl, ⟨_, same_tup s h3⟩, k⟩) (fun a b H2 hb s R k => ?_) (fun D2 H3 hD s3 e3 => ?_)
      · walk_at "ev"
        exact ixt hb (v := a.x) (by cases a <;> rfl) k
      replace h1 := same_tup s3 h1
      replace h2 := same_tup s3 h2
      have sz := (s1.trans s2).trans s3
      refine ixt h1 rfl (ixt h1 rfl ?_)
      walk_at "ev"
      have fin := q H3 sz
      clear hop h3 h4 C_is_pure
      cases op with
      | bin o w a b =>
        refine ite_p rfl ?_
        cases a with
        | n ka =>
          cases b with
          | n kb =>
            refine ixt h2 rfl (ixt h2 rfl (ixl (SqL.of e3) rfl (ixl (SqL.of e3) rfl ?_)))
            exact ⟨o, w, ka, kb, rfl, hok.1, hok.2.1, hok.2.2, fun H4 s4 => q H4 (sz.trans s4)⟩
          | _ => exact absurd rfl c
        | _ => exact absurd rfl c
      | cmp c' w a b =>
        refine ite_n (by show ¬ ("cmp" : Str) = "bin"; decide +kernel) (ixt h1 rfl ⟨rfl, ite_p rfl ?_⟩)
        cases a with
        | n ka =>
          cases b with
          | n kb =>
            refine ixt h2 rfl (ixt h2 rfl (ixl (SqL.of e3) rfl (ixl (SqL.of e3) rfl ?_)))
            exact ⟨c', w, ka, kb, rfl, hok.1, hok.2.1, hok.2.2, fun H4 s4 => q H4 (sz.trans s4)⟩
          | _ => exact absurd rfl c
        | _ => exact absurd rfl c
      | select st c' a b =>
        refine ite_n (by show ¬ ("select" : Str) = "bin"; decide +kernel) (ixt h1 rfl ⟨rfl, ite_n (by show ¬ V.str "select" = V.str "cmp"; decide +kernel) (ixt h1 rfl ⟨rfl, ite_p rfl ?_⟩)⟩)
        cases c' with
        | n kc =>
          cases a with
          | n ka =>
            cases b with
            | n kb =>
              refine ixl (SqL.of e3) rfl ⟨rfl, ?_⟩
              simp only [Op.fold, oV] at fin
              refine ite2 (fun z => ?_) (fun z => ?_)
              · have z' : kc = 1 := V.int.inj z
                rw [if_pos z'] at fin
                exact ixl (SqL.of e3) rfl fin
              · have z' : ¬ kc = 1 := fun y => z (congrArg V.int y)
                rw [if_neg z'] at fin
                exact ixl (SqL.of e3) rfl fin
            | _ => exact absurd rfl c
          | _ => exact absurd rfl c
        | _ => exact absurd rfl c
      | cast c' w t a =>
        refine ite_n (by show ¬ ("cast" : Str) = "bin"; decide +kernel) (ixt h1 rfl ⟨rfl, ite_n (by show ¬ V.str "cast" = V.str "cmp"; decide +kernel) (ixt h1 rfl ⟨rfl, ite_n (by show ¬ V.str "cast" = V.str "select"; decide +kernel) ?_⟩)⟩)
        cases a with
        | n ka =>
          refine ixt h2 rfl (ixt h2 rfl (ixt h2 rfl (ixl (SqL.of e3) rfl ?_)))
          exact ⟨c', w, t, ka, rfl, hok.1, hok.2.1, fin⟩
        | _ => exact absurd rfl c
      | «at» w p' i =>
        have z : p'.isN = false := hok
        refine absurd ?_ c
        show (!(p'.isN && (i.isN && true))) = true
        rw [z] <;> rfl
      | other k i as => cases hp
theorem el_lcTup {K : PySem.W.Frag} {H : Hp} {σ : L2.St} {a : Addr} {xs : List V} {tl te : TE} {j : Nat} {tt : TT} {bad : Arg → Bool} {as : List Arg} {Q : VK} (hs : Evl.Ev tl σ H (.ref a)) (hx : SqT K H a xs) (h4 : ArgsAt K H xs as) (hl : as.length ≤ 3)
    (ht : ∀ (x : Arg) b H2, SqT K H2 b x.vs → Same H H2 → ∀ R : Bool → Hp → Prop, R (bad x) H2 → tt ((wipe σ [j]).set j (some (.ref b))) H2 R)
    (he : ∀ (x : Arg) b H2, SqT K H2 b x.vs → Same H H2 → ∀ R : VK, R (.ref b) H2 → te ((wipe σ [j]).set j (some (.ref b))) H2 R)
    (q : ∀ D H2 (bs : List (Addr × Arg)), H D = none → Same H H2 → H2 D = some (.lst (bs.map fun p => .ref p.1)) → (∀ p ∈ bs, SqT K H2 p.1 p.2.vs) → bs.isEmpty = as.all (fun x => !bad x) → bs.length ≤ 3 → Q (.ref D) H2) : tLc (iTup K tl) (gName j) tt te [j] σ H Q := by
  refine hs H (Same.refl H) _ fun H1 s1 => ⟨a, rfl, ⟨xs, same_tup s1 hx⟩, fun D hD => ?_⟩
  have h4' := h4.same s1
  refine lc_tup (xs := xs) (fun i H' => Same H1 H' ∧ ∃ bs : List (Addr × Arg), H' D = some (.lst (bs.map fun p => .ref p.1)) ∧ (∀ p ∈ bs, SqT K H' p.1 p.2.vs) ∧ bs.isEmpty = (as.take i).all (fun x => !bad x) ∧ bs.length ≤ i)
    ⟨same_new hD _, [], upd_same, fun p hp => absurd hp (by simp), rfl, Nat.le_refl _⟩ (fun i H' _ w => same_tup (Same.trans s1 w.1) hx) (fun i x H' hi w => ?_) (fun H' w => ?_)
  · obtain ⟨s2, bs, e1, e2, e3, e4⟩ := w
    obtain ⟨y, b, hy, rfl, hb⟩ := h4.get hi
    have hb' := same_tup (Same.trans s1 s2) hb
    have ht' : (as.take (i + 1)).all (fun x => !bad x) = ((as.take i).all (fun x => !bad x) && !bad y) := by
      rw [List.take_add_one, hy, List.all_append]
      simp
    have hi' := (List.getElem?_eq_some_iff.mp hi).1
    rw [h4.len] at hi'
    refine ⟨?_, ht y b H' hb' (Same.trans s1 s2) _ ?_⟩
    · simp [wipe]
    · cases hbad : bad y with
      | true =>
        rw [if_pos rfl]
        refine he y b H' hb' (Same.trans s1 s2) _ ⟨_, e1, Nat.lt_of_le_of_lt (by rw [List.length_map]; omega : _ ≤ 3) (by decide), ?_, bs ++ [(b, y)], ?_, ?_, ?_, ?_⟩
        · intro c o hc
          rw [upd_ne (ne_of_none hc hD)]
          exact s2 _ _ hc
        · rw [upd_same, List.map_append] <;> rfl
        · have st : ∀ {p : Addr} {xs : List V}, SqT K H' p xs → SqT K (upd H' D (.lst (bs.map (fun p => V.ref p.1) ++ [.ref b]))) p xs := fun {p xs} h => by
            have ne : ∀ {o : HO}, H' p = some o → (∀ l, o ≠ .lst l) → p ≠ D := fun {o} hp hn e => by
              rw [e, e1] at hp
              exact hn _ (Option.some.inj hp).symm
            rcases h with (h | ⟨u, h⟩) | h
            · exact .inl (.inl (by rw [upd_ne (ne h (fun l z => by cases z))]; exact h))
            · exact .inl (.inr ⟨u, by rw [upd_ne (ne h (fun l z => by cases z))]; exact h⟩)
            · exact .inr h
          intro p hp
          rcases List.mem_append.mp hp with hp | hp
          · exact st (e2 p hp)
          · rw [List.mem_singleton.mp hp]
            exact st hb'
        · rw [ht', hbad]
          cases bs <;> simp
        · simp
          omega
      | false =>
        rw [if_neg Bool.false_ne_true]
        refine ⟨s2, bs, e1, e2, ?_, by omega⟩
        rw [ht', hbad, e3]
        simp
  · obtain ⟨s2, bs, e1, e2, e3, e4⟩ := w
    rw [h4.len] at e3 e4
    rw [List.take_of_length_le (Nat.le_refl _)] at e3
    exact q D H' bs (Same.free s1 hD) (Same.trans s1 s2) e1 e2 e3 (by omega)
theorem ok_lfolded {f : Addr} {fd : FuncData} (D : Def K mg "_law_folded" pLFolded sLFolded f fd) (C__law_pure : Cal P w K mg base 1 "_law_pure" pLPure (spPure K)) (C__law_told : Cal P w K mg base 4 "_law_told" pLTold spBin) (C__law_compared : Cal P w K mg base 3 "_law_compared" pLCompared spCmp)
    (C__law_cast : Cal P w K mg base 3 "_law_cast" pLCast spCast) : Cal P w K mg base 5 "_law_folded" pLFolded (spFold K) := by
  refine D.cal (D.F.ok scLFolded (fun vs H Q E h => ?_) (fun cdv A outer s H vs Q E hr h => ?_))
  · obtain ⟨_, _, rfl, _⟩ := h
    rfl
  obtain ⟨p, op, rfl, hop, hok, q⟩ := h
  have nd := scLFolded.nd
  refine ⟨_, (pss_cons (ps_par3 (i := 1) (j := 2) (l := 3) (by rfl) nd rfl rfl rfl (by decide) (by decide) (by decide) rfl rfl rfl (pa_cons (pe_lc (own := [("_law_arg", 4)]) (g := gName 4) (tt := tYes) (by rfl) nd (pi_tup (pe_ix (r := rIxT K) ix_tup (pv 0) pe_int (fun _ _ => rfl))) (blkOk_by (own := [("_law_arg", 4)]) (N := NLFolded) (sc := defScope sLFolded) (by decide +kernel)) (fun _ _ _ _ _ => (pg_name (i := 4) nd rfl (by first | exact Or.inl rfl | exact Or.inr rfl))) (fun _ _ _ _ _ => pts_nil) (fun _ _ _ _ _ => (pe_ix (r := rIxT K) ix_tup (pv 4) pe_int (fun _ _ => rfl)))) (pa_cons (pe_ix (r := rIxT K) ix_tup (pv 0) pe_int (fun _ _ => rfl)) (pa_cons (pe_ix (r := rIxT K) ix_tup (pv 0) pe_int (fun _ _ => rfl)) pa_nil))) (by rfl))
    (pss_cons (ps_if (PW.pt (pw_or (pt_not (pt_val (pe_cal C__law_pure hr (by omega) (by rfl) (pa_cons (pv 0) pa_nil)))) (pw_or1 (pt_cmpR (r := rNeD K) (op_neD hr.units) (pe_lc (own := [("_law_arg", 4)]) (g := gName 4)  (by rfl) nd (pi_tup (pe_ix (r := rIxT K) ix_tup (pv 0) pe_int (fun _ _ => rfl))) (blkOk_by (own := [("_law_arg", 4)]) (N := NLFolded) (sc := defScope sLFolded) (by decide +kernel)) (fun _ _ _ _ _ => (pg_name (i := 4) nd rfl (by first | exact Or.inl rfl | exact Or.inr rfl))) (fun _ _ _ _ _ => (pts_one (pt_cmpR op_ne (pe_ix (r := rIxT K) ix_tup (pv 4) pe_int (fun _ _ => rfl)) pe_str (nomark _)))) (fun _ _ _ _ _ => (pv 4))) (pe_lst pa_nil) (nomark _))))) (pss_one (ps_ret pe_non)) pss_nil)
    (pss_cons (ps_if (pt_cmpR op_eq (pv 2) pe_str (nomark _)) (pss_one (ps_ret (pe_cal C__law_told hr (by omega) (by rfl) (pa_cons (pe_ix (r := rIxT K) ix_tup (pv 3) pe_int (fun _ _ => rfl)) (pa_cons (pe_ix (r := rIxT K) ix_tup (pv 3) pe_int (fun _ _ => rfl)) (pa_cons (pe_ix (r := rIxL K) ix_list (pv 1) pe_int (fun _ _ => rfl)) (pa_cons (pe_ix (r := rIxL K) ix_list (pv 1) pe_int (fun _ _ => rfl)) pa_nil))))))) pss_nil)
    (pss_cons (ps_if (pt_cmpR op_eq (pv 2) pe_str (nomark _)) (pss_one (ps_ret (pe_cal C__law_compared hr (by omega) (by rfl) (pa_cons (pe_ix (r := rIxT K) ix_tup (pv 3) pe_int (fun _ _ => rfl)) (pa_cons (pe_ix (r := rIxT K) ix_tup (pv 3) pe_int (fun _ _ => rfl)) (pa_cons (pe_ix (r := rIxL K) ix_list (pv 1) pe_int (fun _ _ => rfl)) (pa_cons (pe_ix (r := rIxL K) ix_list (pv 1) pe_int (fun _ _ => rfl)) pa_nil))))))) pss_nil)
    (pss_cons (ps_if (pt_cmpR op_eq (pv 2) pe_str (nomark _)) (pss_one (ps_ret (pe_ifExp (pt_cmpR op_eq (pe_ix (r := rIxL K) ix_list (pv 1) pe_int (fun _ _ => rfl)) pe_int (nomark _)) (pe_ix (r := rIxL K) ix_list (pv 1) pe_int (fun _ _ => rfl)) (pe_ix (r := rIxL K) ix_list (pv 1) pe_int (fun _ _ => rfl))))) pss_nil)
    (pss_one (ps_ret (pe_cal C__law_cast hr (by omega) (by rfl) (pa_cons (pe_ix (r := rIxT K) ix_tup (pv 3) pe_int (fun _ _ => rfl)) (pa_cons (pe_ix (r := rIxT K) ix_tup (pv 3) pe_int (fun _ _ => rfl)) (pa_cons (pe_ix (r := rIxT K) ix_tup (pv 3) pe_int (fun _ _ => rfl)) (pa_cons (pe_ix (r := rIxL K) ix_list (pv 1) pe_int (fun _ _ => rfl)) pa_nil)))))))))))), ?_⟩
  walk_at "ev"
  obtain ⟨v, pi, pa, qs, h1, h2, h3, h4⟩ := id hop
  have la := op.args_le hok
  refine lc_args (F := Arg.x) h3 h4 la (fun H2 R s k => by
    walk_at "ev"
    exact ixt (same_tup s h1) rfl ⟨_, rfl, ⟨_, same_tup s h3⟩, k⟩) (fun a b H2 hb s R k => ?_) (fun D1 H1 hD s1 e1 => ?_)
  · walk_at "ev"
    exact ixt hb (v := a.x) (by cases a <;> rfl) k
  refine ixt (same_tup s1 h1) rfl (ixt (same_tup s1 h1) rfl ⟨p, op, rfl, hop.same s1, hok, fun H2 s2 => ?_⟩)
  walk_at "ev"
  cases hp : op.pure with
  | false =>
    refine iteT ?_
    have e := op.fold_impure hok hp
    rw [e] at q
    exact q H2 (s1.trans s2)
  | true =>
    refine iteF ?_
    have s12 := s1.trans s2
    have g1 := same_tup s12 h1
    have g3 := same_tup s12 h3
    refine el_lcTup (bad := fun x => !x.isN) (a := pa) (xs := qs) (as := op.args) (fun H3 s3 Q' q' => ?_) g3 (h4.same s12) la (fun a b H3 hb s3 R k => ?_) (fun a b H3 hb s3 R k => ⟨_, rfl, k⟩) (fun D2 H3 bs hD2 s3 e3 hbs eb lb => ?_)
    · walk_at "ev"
      exact ixt (same_tup s3 g1) rfl (q' _ (Same.refl _))
    · walk_at "ev"
      refine ixt hb (v := .str a.tag) (by cases a <;> rfl) ?_
      walk_at "ev"
      have z := a.tag_n
      refine Eq.mp (congrArg (fun t => R t H3) ?_) k
      show (!a.isN) = _
      rw [← z]
    have hbs' : ∀ p ∈ bs, SqT K H3 p.1 p.2.vs := hbs
    refine ne_nil (K := K) (ds := bs.map fun (p : Addr × Arg) => p.2.data) (fun p' hp' => .lst (SqL.of (same_new hp' _ _ _ e3)) (dp_args fun x hx => same_tup (same_new hp' _) (hbs' x hx))) (shaped_args _) fun H4 s4 => ?_
    walk_at "ev"
    have sz := (s12.trans s3).trans s4
    have ee : (bs.map fun p => p.2.data).isEmpty = op.args.all Arg.isN := by
      have e0 : (bs.map fun p => p.2.data).isEmpty = bs.isEmpty := by cases bs <;> rfl
      rw [e0, eb]
      congr 1
      funext x
      simp
    rw [ee]
    refine ite2 (fun c => ?_) (fun c => ?_)
    · have e := op.fold_mixed (by simpa using c)
      rw [e] at q
      exact q H4 sz
    · have fin := q H4 sz
      replace h1 := same_tup sz h1
      replace h2 := same_tup sz h2
      have e3 : H4 D1 = some (.lst (op.args.map Arg.x)) := s4 _ _ (s3 _ _ (s2 _ _ e1))
      clear hop h3 h4 C__law_pure
      cases op with
      | bin o w a b =>
        refine ite_p rfl ?_
        cases a with
        | n ka =>
          cases b with
          | n kb =>
            refine ixt h2 rfl (ixt h2 rfl (ixl (SqL.of e3) rfl (ixl (SqL.of e3) rfl ?_)))
            exact ⟨o, w, ka, kb, rfl, hok.1, hok.2.1, hok.2.2, fun H5 s5 => q H5 (sz.trans s5)⟩
          | _ => exact absurd rfl c
        | _ => exact absurd rfl c
      | cmp c' w a b =>
        refine ite_n (by show ¬ ("cmp" : Str) = "bin"; decide +kernel) (ite_p rfl ?_)
        cases a with
        | n ka =>
          cases b with
          | n kb =>
            refine ixt h2 rfl (ixt h2 rfl (ixl (SqL.of e3) rfl (ixl (SqL.of e3) rfl ?_)))
            exact ⟨c', w, ka, kb, rfl, hok.1, hok.2.1, hok.2.2, fun H5 s5 => q H5 (sz.trans s5)⟩
          | _ => exact absurd rfl c
        | _ => exact absurd rfl c
      | select st c' a b =>
        refine ite_n (by show ¬ ("select" : Str) = "bin"; decide +kernel) (ite_n (by show ¬ ("select" : Str) = "cmp"; decide +kernel) (ite_p rfl ?_))
        cases c' with
        | n kc =>
          cases a with
          | n ka =>
            cases b with
            | n kb =>
              refine ixl (SqL.of e3) rfl ⟨rfl, ?_⟩
              simp only [Op.fold, oV] at fin
              refine ite2 (fun z => ?_) (fun z => ?_)
              · have z' : kc = 1 := V.int.inj z
                rw [if_pos z'] at fin
                exact ixl (SqL.of e3) rfl fin
              · have z' : ¬ kc = 1 := fun y => z (congrArg V.int y)
                rw [if_neg z'] at fin
                exact ixl (SqL.of e3) rfl fin
            | _ => exact absurd rfl c
          | _ => exact absurd rfl c
        | _ => exact absurd rfl c
      | cast c' w t a =>
        refine ite_n (by show ¬ ("cast" : Str) = "bin"; decide +kernel) (ite_n (by show ¬ ("cast" : Str) = "cmp"; decide +kernel) (ite_n (by show ¬ ("cast" : Str) = "select"; decide +kernel) ?_))
        cases a with
        | n ka =>
          refine ixt h2 rfl (ixt h2 rfl (ixt h2 rfl (ixl (SqL.of e3) rfl ?_)))
          exact ⟨c', w, t, ka, rfl, hok.1, hok.2.1, fin⟩
        | _ => exact absurd rfl c
      | «at» w p' i =>
        have z : p'.isN = false := hok
        refine absurd ?_ c
        show (!(p'.isN && (i.isN && true))) = true
        rw [z] <;> rfl
      | other k i as => cases hp
end
end K25

set_option Elab.async false
set_option linter.all false
set_option maxRecDepth 100000
set_option maxHeartbeats 4000000
namespace K25
open PySem L2
/-! ### a new tuple, a new list, the heap behind it not told -/
def newT (Q : VK) (xs : List V) (H : Hp) : Prop := xs.length ≤ sizeLine ∧ ∀ p, H p = none → Q (.ref p) (upd H p (.tup xs))
def newL (Q : VK) (xs : List V) (H : Hp) : Prop := xs.length ≤ sizeLine ∧ ∀ p, H p = none → Q (.ref p) (upd H p (.lst xs))
theorem tup_n {t : TA} {σ : L2.St} {H : Hp} {Q : VK} : tTup t σ H Q = t σ H (newT Q) := rfl
theorem lst_n {t : TA} {σ : L2.St} {H : Hp} {Q : VK} : tLst t σ H Q = t σ H (newL Q) := rfl
section
variable {K : PySem.W.Frag} {H : Hp} {Q : VK} {xs : List V}
theorem new_t (hz : xs.length ≤ 1000) (q : ∀ p H2, H p = none → Same H H2 → H2 p = some (.tup xs) → Q (.ref p) H2) : newT Q xs H :=
  ⟨Nat.le_of_lt (small1000 hz), fun p hp => q p _ hp (same_new hp _) upd_same⟩
theorem new_l (hz : xs.length ≤ 1000) (q : ∀ p H2, H p = none → Same H H2 → H2 p = some (.lst xs) → Q (.ref p) H2) : newL Q xs H :=
  ⟨Nat.le_of_lt (small1000 hz), fun p hp => q p _ hp (same_new hp _) upd_same⟩
end
/-! ### drawn forms of ops -/
def WantV (v : V) : Prop := v = .str "ptr" ∨ ∃ w, v = .int w ∧ Wd w
inductive Fm where
  | bin (o : BOp) (w : Int)
  | cmp (c : CP) (w : Int)
  | select (sort : V)
  | cast (c : Cs) (w t : Int)
  | at (w : Int)
  | other (kind : Str) (info wanted : List V) (sort : V)
def Fm.kind : Fm → Str
  | .bin .. => "bin" | .cmp .. => "cmp" | .select .. => "select" | .cast .. => "cast" | .at .. => "at" | .other k .. => k
def Fm.info : Fm → List V
  | .bin o w => [.str o.s, .int w]
  | .cmp c w => [.str c.s, .int w]
  | .select s => [s]
  | .cast c w t => [.str c.s, .int w, .int t]
  | .at w => [.int w]
  | .other _ i _ _ => i
def Fm.wanted : Fm → List V
  | .bin _ w => [.int w, .int w]
  | .cmp _ w => [.int w, .int w]
  | .select s => [.int 1, s, s]
  | .cast _ w _ => [.int w]
  | .at w => [.str "ptr", .int w]
  | .other _ _ ws _ => ws
def Fm.sort : Fm → V
  | .bin _ w => .int w
  | .cmp _ _ => .int 1
  | .select s => s
  | .cast _ _ t => .int t
  | .at _ => .str "ptr"
  | .other _ _ _ s => s
def Fm.ok : Fm → Prop
  | .bin _ w => Wd w
  | .cmp _ w => Wd w
  | .select s => WantV s
  | .cast _ w t => Wd w ∧ Wd t
  | .at w => Wd w
  | .other k _ ws _ => k ∈ others ∧ (∀ v ∈ ws, WantV v) ∧ ws.length ≤ 2
structure FmAt (K : PySem.W.Frag) (H : Hp) (p : Addr) (f : Fm) : Prop where
  ex : ∃ pi pw, SqT K H p [.str f.kind, .ref pi, .ref pw, f.sort] ∧ SqT K H pi f.info ∧ SqT K H pw f.wanted
theorem bop_of {x : V} (h : x ∈ [V.str "add", .str "sub", .str "mul", .str "udiv", .str "sdiv", .str "urem", .str "srem", .str "and", .str "or", .str "xor", .str "shl", .str "lshr", .str "ashr"]) : ∃ o : BOp, x = .str o.s := by
  simp only [List.mem_cons, List.not_mem_nil, or_false] at h
  rcases h with h | h | h | h | h | h | h | h | h | h | h | h | h
  · exact ⟨.add, h⟩
  · exact ⟨.sub, h⟩
  · exact ⟨.mul, h⟩
  · exact ⟨.udiv, h⟩
  · exact ⟨.sdiv, h⟩
  · exact ⟨.urem, h⟩
  · exact ⟨.srem, h⟩
  · exact ⟨.and, h⟩
  · exact ⟨.or, h⟩
  · exact ⟨.xor, h⟩
  · exact ⟨.shl, h⟩
  · exact ⟨.lshr, h⟩
  · exact ⟨.ashr, h⟩
theorem cp_of {x : V} (h : x ∈ [V.str "eq", .str "ne", .str "ult", .str "ule", .str "slt", .str "sle"]) : ∃ o : CP, x = .str o.s := by
  simp only [List.mem_cons, List.not_mem_nil, or_false] at h
  rcases h with h | h | h | h | h | h
  · exact ⟨.eq, h⟩
  · exact ⟨.ne, h⟩
  · exact ⟨.ult, h⟩
  · exact ⟨.ule, h⟩
  · exact ⟨.slt, h⟩
  · exact ⟨.sle, h⟩
theorem cs_of {x : V} (h : x ∈ [V.str "zext", .str "sext", .str "trunc"]) : ∃ o : Cs, x = .str o.s := by
  simp only [List.mem_cons, List.not_mem_nil, or_false] at h
  rcases h with h | h | h
  · exact ⟨.zext, h⟩
  · exact ⟨.sext, h⟩
  · exact ⟨.trunc, h⟩
theorem But.tup {K : PySem.W.Frag} {d g a : Addr} {H H' : Hp} {xs : List V} (b : But d g H H') (D : Deal d g H) (h : SqT K H a xs) : SqT K H' a xs := by
  obtain ⟨_, ys, c, e1, e2, _⟩ := D
  rcases h with (h | ⟨u, h⟩) | h
  · exact .inl (.inl (b _ _ (ne_of h e1 (fun z => by cases z)) (ne_of h e2 (fun z => by cases z)) h))
  · exact .inl (.inr ⟨u, b _ _ (ne_of h e1 (fun z => by cases z)) (ne_of h e2 (fun z => by cases z)) h⟩)
  · exact .inr h
theorem But.lst {K : PySem.W.Frag} {d g a : Addr} {H H' : Hp} {xs : List V} (b : But d g H H') (n : a ≠ d ∧ a ≠ g) (h : SqL K H a xs) : SqL K H' a xs := by
  rcases h with (h | ⟨u, h⟩) | h
  · exact .inl (.inl (b _ _ n.1 n.2 h))
  · exact .inl (.inr ⟨u, b _ _ n.1 n.2 h⟩)
  · exact .inr h
structure Heads (K : PySem.W.Frag) (H : Hp) (l : Addr) : Prop where
  ex : ∃ h1 h2 w1 w2, SqL K H l [.ref h1, .ref h2] ∧ SqT K H h1 [.str "f", .ref w1, .int 8] ∧ SqT K H w1 [.int 8, .int 8] ∧ SqT K H h2 [.str "go", .ref w2, .non] ∧ SqT K H w2 []
theorem Heads.but {K : PySem.W.Frag} {d g l : Addr} {H H' : Hp} (h : Heads K H l) (b : But d g H H') (D : Deal d g H) (n : l ≠ d ∧ l ≠ g) : Heads K H' l := by
  obtain ⟨h1, h2, w1, w2, a, b1, b2, b3, b4⟩ := h
  exact ⟨h1, h2, w1, w2, b.lst n a, b.tup D b1, b.tup D b2, b.tup D b3, b.tup D b4⟩
def spForm (K : PySem.W.Frag) : Sp := fun vs H Q _ => ∃ (d g l : Addr), vs = [.ref d, .ref l] ∧ Deal d g H ∧ Heads K H l ∧ (l ≠ d ∧ l ≠ g) ∧ ∀ p f H', FmAt K H' p f → f.ok → Deal d g H' → But d g H H' → Q (.ref p) H'
local macro_rules | `(tactic| walk_at "ev") => `(tactic| try simp only [wipe, iTup, iList, tBM, tBM0, gSub, tSl, tPart, tNoPart, rSlS, tAndV, tOrV, tNotV, tM0, tM1, tPar3, reduceCtorEq, false_and, exists_false, or_false, false_or, gcons, gnil, gName, tRet, tRetN, tIf, tTest, tOp, tUn, rI0, rI, rU, tVar, tC, tCall, tCons, tNil, tCB, tSeq, tIfS, tAsg, gName, tNext, tDrop, tPar, tB, tAnd, tOr, tNot, tIsN, tNotN, rEq, rNe, L2.start, List.map_cons, List.map_nil, List.length_cons, List.length_nil, List.replicate_succ, List.replicate_zero, List.cons_append, List.nil_append, List.append_nil, List.set_cons_zero, List.set_cons_succ, List.set_nil, Nat.reduceAdd, Nat.reduceSub, Nat.zero_add, Nat.sub_self, Nat.add_zero, Nat.succ_eq_add_one, List.getElem?_cons_zero, List.getElem?_cons_succ, Option.some.injEq, V.int.injEq, V.str.injEq, V.bl.injEq, V.ref.injEq, List.cons.injEq, and_assoc, exists_eq_left', exists_eq_left, exists_and_left, exists_eq', exists_eq_right, exists_eq_right', exists_const, and_true, true_and, and_self, scal_ii, scal_ss, scal_bb, decide_eq_true_eq, ite_bl, Int.one_mul, p2f, abf, reduceIte, Bool.false_eq_true, decide_true, decide_false, Bool.not_true, Bool.not_false, tup_n, lst_n, NWrapped, NSigned, NQuotient, NDivided, NShifted, NBinTold, NCmpTold, NCastTold, NIsPure, NFolded, NLDraw, NLAny, NLOf, NLPower, NLNumber, NLForm, NLSigned, NLShift, NLTold, NLCompared, NLCast, NLPure, NLTable, NLRead, NLMadeNumber, NLOpDrawn, NLFolded, NLLettersWidth, NLSide, NLLettersDrawn, NLOpsRight, NLaw])
local macro_rules | `(tactic| walk_at "if") => `(tactic| first | refine ite_p (by decide +kernel) ?_ | refine ite_n (by decide +kernel) ?_)
/-- an arg for what is wanted -/
def ArgFor (v : V) (a : Arg) : Prop := (v = .str "ptr" → a.isN = false) ∧ ∀ w, v = .int w → a.ok w
theorem Fm.want (f : Fm) (h : f.ok) (v : V) (hv : v ∈ f.wanted) : WantV v := by
  cases f with
  | other k i ws st => exact h.2.1 v hv
  | bin o w =>
    simp only [Fm.wanted, List.mem_cons, List.not_mem_nil, or_false] at hv
    rcases hv with rfl | rfl <;> exact .inr ⟨_, rfl, h⟩
  | cmp o w =>
    simp only [Fm.wanted, List.mem_cons, List.not_mem_nil, or_false] at hv
    rcases hv with rfl | rfl <;> exact .inr ⟨_, rfl, h⟩
  | select s =>
    simp only [Fm.wanted, List.mem_cons, List.not_mem_nil, or_false] at hv
    rcases hv with rfl | rfl | rfl
    · exact .inr ⟨_, rfl, by decide, by decide⟩
    · exact h
    · exact h
  | cast c w t =>
    simp only [Fm.wanted, List.mem_cons, List.not_mem_nil, or_false] at hv
    subst hv
    exact .inr ⟨_, rfl, h.1⟩
  | «at» w =>
    simp only [Fm.wanted, List.mem_cons, List.not_mem_nil, or_false] at hv
    rcases hv with rfl | rfl
    · exact .inl rfl
    · exact .inr ⟨_, rfl, h⟩
theorem sqT_upd {K : PySem.W.Frag} {H : Hp} {L q : Addr} {ys : List V} {o : HO} {xs : List V} (hL : H L = some (.lst ys)) (h : SqT K H q xs) : SqT K (upd H L o) q xs := by
  rcases h with (h | ⟨u, h⟩) | h
  · exact .inl (.inl (by rw [upd_ne (ne_of h hL (fun z => by cases z))]; exact h))
  · exact .inl (.inr ⟨u, by rw [upd_ne (ne_of h hL (fun z => by cases z))]; exact h⟩)
  · exact .inr h
theorem ArgsAt.imp {K : PySem.W.Frag} {H H' : Hp} (s : ∀ {b : Addr} {xs : List V}, SqT K H b xs → SqT K H' b xs) : ∀ {qs : List V} {as : List Arg}, ArgsAt K H qs as → ArgsAt K H' qs as
  | [], [], _ => trivial
  | _ :: _, _ :: _, ⟨⟨b, e, h⟩, r⟩ => ⟨⟨b, e, s h⟩, ArgsAt.imp s r⟩
  | [], _ :: _, h => h.elim
  | _ :: _, [], h => h.elim
theorem ArgsAt.snoc {K : PySem.W.Frag} {H : Hp} {b : Addr} {a : Arg} : ∀ {qs : List V} {as : List Arg}, ArgsAt K H qs as → SqT K H b a.vs → ArgsAt K H (qs ++ [.ref b]) (as ++ [a])
  | [], [], _, hb => ⟨⟨b, rfl, hb⟩, trivial⟩
  | _ :: _, _ :: _, ⟨h, r⟩, hb => ⟨h, ArgsAt.snoc r hb⟩
  | [], _ :: _, h, _ => h.elim
  | _ :: _, [], h, _ => h.elim
theorem len2 {α : Type} : ∀ {l : List α}, l.length = 2 → ∃ a b, l = [a, b]
  | [a, b], _ => ⟨a, b, rfl⟩
  | [], h => by simp at h
  | [_], h => by simp at h
  | _ :: _ :: _ :: _, h => by simp at h
theorem len3 {α : Type} : ∀ {l : List α}, l.length = 3 → ∃ a b c, l = [a, b, c]
  | [a, b, c], _ => ⟨a, b, c, rfl⟩
  | [], h => by simp at h
  | [_], h => by simp at h
  | [_, _], h => by simp at h
  | _ :: _ :: _ :: _ :: _, h => by simp at h
theorem op_of (f : Fm) (as : List Arg) (hok : f.ok) (hl : as.length = f.wanted.length) (hfit : ∀ (j : Nat) v a, f.wanted[j]? = some v → as[j]? = some a → ArgFor v a) : ∃ op : Op, op.kind = f.kind ∧ op.info = f.info ∧ op.args = as ∧ op.ok := by
  cases f with
  | bin o w =>
    obtain ⟨a, b, rfl⟩ := len2 hl
    exact ⟨.bin o w a b, rfl, rfl, rfl, hok, (hfit 0 _ _ rfl rfl).2 w rfl, (hfit 1 _ _ rfl rfl).2 w rfl⟩
  | cmp o w =>
    obtain ⟨a, b, rfl⟩ := len2 hl
    exact ⟨.cmp o w a b, rfl, rfl, rfl, hok, (hfit 0 _ _ rfl rfl).2 w rfl, (hfit 1 _ _ rfl rfl).2 w rfl⟩
  | select s =>
    obtain ⟨c, a, b, rfl⟩ := len3 hl
    have bd : ∀ x : Arg, ArgFor s x → x.bd := fun x hx => by
      rcases hok with rfl | ⟨w, rfl, hw⟩
      · cases x with
        | n k => exact absurd (hx.1 rfl) (by intro z; cases z)
        | _ => trivial
      · cases x with
        | n k =>
          have h1 : In w k := hx.2 w rfl
          have h2 := p2_le hw.2
          exact ⟨h1.1, Int.lt_of_lt_of_le h1.2 h2⟩
        | _ => trivial
    exact ⟨.select s c a b, rfl, rfl, rfl, bd a (hfit 1 _ _ rfl rfl), bd b (hfit 2 _ _ rfl rfl)⟩
  | cast c w t =>
    obtain ⟨a, rfl⟩ := List.length_eq_one_iff.mp hl
    exact ⟨.cast c w t a, rfl, rfl, rfl, hok.1, hok.2, (hfit 0 _ _ rfl rfl).2 w rfl⟩
  | «at» w =>
    obtain ⟨a, b, rfl⟩ := len2 hl
    exact ⟨.at w a b, rfl, rfl, rfl, (hfit 0 _ _ rfl rfl).1 rfl⟩
  | other k i ws st => exact ⟨.other k i as, rfl, rfl, rfl, hok.1, by rw [hl]; exact hok.2.2⟩
/-- the loop over what is wanted -/
def WOp (K : PySem.W.Frag) (d g : Addr) (H : Hp) (fm : Fm) (pi pw L : Addr) (sh : Int) (i : Nat) (σ : L2.St) (H' : Hp) : Prop :=
  ∃ (last : Option V) (qs : List V) (as : List Arg), σ = [some (.ref d), last, some (.str fm.kind), some (.ref pi), some (.ref pw), some fm.sort, some (.ref L), some (.int sh)] ∧ H' L = some (.lst qs) ∧ ArgsAt K H' qs as ∧ as.length = i ∧
    (∀ (j : Nat) v a, fm.wanted[j]? = some v → as[j]? = some a → ArgFor v a) ∧ Deal d g H' ∧ But d g H H' ∧ SqT K H' pw fm.wanted ∧ SqT K H' pi fm.info
section
variable {P : Program} {w : World} {K : PySem.W.Frag} {mg : Str → Option Value} {base : Heap}
theorem of_n {d g : Addr} {H : Hp} {Q : VK} {E : XK} {xs : List V} (hd : Deal d g H) (h0 : 0 < xs.length) (h1 : xs.length ≤ 1000) (q : ∀ x ∈ xs, ∀ H', Deal d g H' → But d g H H' → Q x H') :
    newL (fun x H1 => spOf K [.ref d, x] H1 Q E) xs H :=
  of_new hd (Nat.le_of_lt (small1000 h1)) h0 h1 q
theorem of_w {d g : Addr} {H : Hp} {Q : VK} {E : XK} {xs : List V} (hd : Deal d g H) (h0 : 0 < xs.length) (h1 : xs.length ≤ 1000) (hx : ∀ x ∈ xs, ∃ w, x = .int w ∧ Wd w) (q : ∀ w H', Wd w → Deal d g H' → But d g H H' → Q (.int w) H') :
    newL (fun x H1 => spOf K [.ref d, x] H1 Q E) xs H :=
  of_n hd h0 h1 fun x h H' D B => by
    obtain ⟨w, rfl, hw⟩ := hx x h
    exact q w H' hw D B
theorem ok_form {f : Addr} {fd : FuncData} (D : Def K mg "_law_form" pLForm sLForm f fd) (C__law_any : Cal P w K mg base 1 "_law_any" pLAny spAny) (C__law_of : Cal P w K mg base 2 "_law_of" pLOf (spOf K)) :
    Cal P w K mg base 3 "_law_form" pLForm (spForm K) := by
  refine D.cal (D.F.ok scLForm (fun vs H Q E h => ?_) (fun cdv A outer s H vs Q E hr h => ?_))
  · obtain ⟨_, _, _, rfl, _⟩ := h
    rfl
  obtain ⟨d, g, l, rfl, hd, hh, hl, q⟩ := h
  have nd := scLForm.nd
  refine ⟨_, (pss_cons (ps_set (i := 2) nd rfl (by first | exact Or.inl rfl | exact Or.inr rfl) (pe_cal C__law_of hr (by omega) (by rfl) (pa_cons (pv 0) (pa_cons (pe_lst (pa_cons pe_int (pa_cons pe_int (pa_cons pe_int (pa_cons pe_int (pa_cons pe_int (pa_cons pe_int (pa_cons pe_int pa_nil)))))))) pa_nil))))
    (pss_cons (ps_set (i := 3) nd rfl (by first | exact Or.inl rfl | exact Or.inr rfl) (pe_cal C__law_any hr (by omega) (by rfl) (pa_cons (pv 0) (pa_cons pe_int pa_nil))))
    (pss_cons (ps_if (pt_cmpR op_lt (pv 3) pe_int (nomark _)) (pss_cons (ps_set (i := 6) nd rfl (by first | exact Or.inl rfl | exact Or.inr rfl) (pe_cal C__law_of hr (by omega) (by rfl) (pa_cons (pv 0) (pa_cons (pe_lst (pa_cons pe_str (pa_cons pe_str (pa_cons pe_str (pa_cons pe_str (pa_cons pe_str (pa_cons pe_str (pa_cons pe_str (pa_cons pe_str (pa_cons pe_str (pa_cons pe_str (pa_cons pe_str (pa_cons pe_str (pa_cons pe_str pa_nil)))))))))))))) pa_nil))))
    (pss_one (ps_ret (pe_tup (pa_cons pe_str (pa_cons (pe_tup (pa_cons (pv 6) (pa_cons (pv 2) pa_nil))) (pa_cons (pe_tup (pa_cons (pv 2) (pa_cons (pv 2) pa_nil))) (pa_cons (pv 2) pa_nil)))))))) pss_nil)
    (pss_cons (ps_if (pt_cmpR op_eq (pv 3) pe_int (nomark _)) (pss_one (ps_ret (pe_tup (pa_cons pe_str (pa_cons (pe_tup (pa_cons (pe_cal C__law_of hr (by omega) (by rfl) (pa_cons (pv 0) (pa_cons (pe_lst (pa_cons pe_str (pa_cons pe_str (pa_cons pe_str (pa_cons pe_str (pa_cons pe_str (pa_cons pe_str pa_nil))))))) pa_nil))) (pa_cons (pv 2) pa_nil))) (pa_cons (pe_tup (pa_cons (pv 2) (pa_cons (pv 2) pa_nil))) (pa_cons pe_int pa_nil))))))) pss_nil)
    (pss_cons (ps_if (pt_cmpR op_eq (pv 3) pe_int (nomark _)) (pss_cons (ps_set (i := 7) nd rfl (by first | exact Or.inl rfl | exact Or.inr rfl) (pe_cal C__law_of hr (by omega) (by rfl) (pa_cons (pv 0) (pa_cons (pe_lst (pa_cons (pv 2) (pa_cons (pv 2) (pa_cons pe_str pa_nil)))) pa_nil))))
    (pss_one (ps_ret (pe_tup (pa_cons pe_str (pa_cons (pe_tup (pa_cons (pv 7) pa_nil)) (pa_cons (pe_tup (pa_cons pe_int (pa_cons (pv 7) (pa_cons (pv 7) pa_nil)))) (pa_cons (pv 7) pa_nil)))))))) pss_nil)
    (pss_cons (ps_if (pt_cmpR op_eq (pv 3) pe_int (nomark _)) (pss_cons (ps_asg (pe_cal C__law_of hr (by omega) (by rfl) (pa_cons (pv 0) (pa_cons (pe_lst (pa_cons (pe_tup (pa_cons pe_int (pa_cons pe_int pa_nil))) (pa_cons (pe_tup (pa_cons pe_int (pa_cons pe_int pa_nil))) (pa_cons (pe_tup (pa_cons pe_int (pa_cons pe_int pa_nil))) (pa_cons (pe_tup (pa_cons pe_int (pa_cons pe_int pa_nil))) (pa_cons (pe_tup (pa_cons pe_int (pa_cons pe_int pa_nil))) (pa_cons (pe_tup (pa_cons pe_int (pa_cons pe_int pa_nil))) pa_nil))))))) pa_nil))) (pg_tup (n := 2) (by rfl) (pgs_cons (pg_name (i := 10) nd rfl (by first | exact Or.inl rfl | exact Or.inr rfl)) (pgs_cons (pg_name (i := 11) nd rfl (by first | exact Or.inl rfl | exact Or.inr rfl)) pgs_nil))))
    (pss_cons (ps_set (i := 8) nd rfl (by first | exact Or.inl rfl | exact Or.inr rfl) (pe_cal C__law_of hr (by omega) (by rfl) (pa_cons (pv 0) (pa_cons (pe_lst (pa_cons pe_str (pa_cons pe_str (pa_cons pe_str pa_nil)))) pa_nil))))
    (pss_cons (ps_set (i := 9) nd rfl (by first | exact Or.inl rfl | exact Or.inr rfl) (pe_ifExp (pt_cmpR op_eq (pv 8) pe_str (nomark _)) (pe_tup (pa_cons (pv 11) (pa_cons (pv 10) pa_nil))) (pe_tup (pa_cons (pv 10) (pa_cons (pv 11) pa_nil)))))
    (pss_one (ps_ret (pe_tup (pa_cons pe_str (pa_cons (pe_tup (pa_cons (pv 8) (pa_cons (pe_ix (r := rIxT K) ix_tup (pv 9) pe_int (fun _ _ => rfl)) (pa_cons (pe_ix (r := rIxT K) ix_tup (pv 9) pe_int (fun _ _ => rfl)) pa_nil)))) (pa_cons (pe_tup (pa_cons (pe_ix (r := rIxT K) ix_tup (pv 9) pe_int (fun _ _ => rfl)) pa_nil)) (pa_cons (pe_ix (r := rIxT K) ix_tup (pv 9) pe_int (fun _ _ => rfl)) pa_nil)))))))))) pss_nil)
    (pss_cons (ps_set (i := 4) nd rfl (by first | exact Or.inl rfl | exact Or.inr rfl) (pe_cal C__law_of hr (by omega) (by rfl) (pa_cons (pv 0) (pa_cons (pe_lst (pa_cons pe_int (pa_cons pe_int (pa_cons pe_int (pa_cons (pv 2) pa_nil))))) pa_nil))))
    (pss_cons (ps_if (pt_cmpR op_eq (pv 3) pe_int (nomark _)) (pss_one (ps_ret (pe_tup (pa_cons pe_str (pa_cons (pe_tup (pa_cons (pv 4) (pa_cons (pe_op op_add pe_int (pe_cal C__law_any hr (by omega) (by rfl) (pa_cons (pv 0) (pa_cons pe_int pa_nil)))) pa_nil))) (pa_cons (pe_tup pa_nil) (pa_cons pe_str pa_nil))))))) pss_nil)
    (pss_cons (ps_if (pt_cmpR op_eq (pv 3) pe_int (nomark _)) (pss_one (ps_ret (pe_tup (pa_cons pe_str (pa_cons (pe_tup (pa_cons (pv 2) pa_nil)) (pa_cons (pe_tup (pa_cons pe_str (pa_cons (pv 2) pa_nil))) (pa_cons pe_str pa_nil))))))) pss_nil)
    (pss_cons (ps_if (pt_cmpR op_lt (pv 3) pe_int (nomark _)) (pss_one (ps_ret (pe_ifExp (pt_cmpR op_eq (pv 3) pe_int (nomark _)) (pe_tup (pa_cons pe_str (pa_cons (pe_tup (pa_cons (pv 4) pa_nil)) (pa_cons (pe_tup (pa_cons pe_str pa_nil)) (pa_cons (pv 4) pa_nil))))) (pe_tup (pa_cons pe_str (pa_cons (pe_tup (pa_cons (pv 4) pa_nil)) (pa_cons (pe_tup (pa_cons (pv 4) (pa_cons pe_str pa_nil))) (pa_cons pe_non pa_nil)))))))) pss_nil)
    (pss_cons (ps_if (pt_cmpR op_lt (pv 3) pe_int (nomark _)) (pss_one (ps_ret (pe_ifExp (pt_cmpR op_eq (pv 3) pe_int (nomark _)) (pe_tup (pa_cons pe_str (pa_cons (pe_tup (pa_cons (pv 2) pa_nil)) (pa_cons (pe_tup (pa_cons (pv 2) pa_nil)) (pa_cons pe_non pa_nil))))) (pe_tup (pa_cons pe_str (pa_cons (pe_tup (pa_cons (pv 2) pa_nil)) (pa_cons (pe_tup pa_nil) (pa_cons (pv 2) pa_nil)))))))) pss_nil)
    (pss_cons (ps_set (i := 5) nd rfl (by first | exact Or.inl rfl | exact Or.inr rfl) (pe_cal C__law_of hr (by omega) (by rfl) (pa_cons (pv 0) (pa_cons (pv 1) pa_nil))))
    (pss_one (ps_ret (pe_tup (pa_cons pe_str (pa_cons (pe_tup (pa_cons (pe_ix (r := rIxT K) ix_tup (pv 5) pe_int (fun _ _ => rfl)) pa_nil)) (pa_cons (pe_ix (r := rIxT K) ix_tup (pv 5) pe_int (fun _ _ => rfl)) (pa_cons (pe_ix (r := rIxT K) ix_tup (pv 5) pe_int (fun _ _ => rfl)) pa_nil))))))))))))))))))), ?_⟩
  walk_at "ev"
  -- w
  refine of_w hd (Nat.zero_lt_succ _) (by show 7 ≤ 1000; decide) (fun x hx => ?_) fun w H1 hw D1 B1 => ?_
  · simp only [List.mem_cons, List.not_mem_nil, or_false] at hx
    rcases hx with rfl | rfl | rfl | rfl | rfl | rfl | rfl <;> exact ⟨_, rfl, by decide, by decide⟩
  refine ⟨d, g, _, rfl, D1, by decide, fun k H2 k0 k1 D2 B2 => ?_⟩
  replace B2 := B1.trans B2
  walk_at "ev"
  -- bin
  refine ite2 (fun c => ?_) (fun c => ?_)
  · refine of_n D2 (Nat.zero_lt_succ _) (by show 13 ≤ 1000; decide) fun x hx H3 D3 B3 => ?_
    obtain ⟨o, rfl⟩ : ∃ o : BOp, x = .str o.s := bop_of hx
    refine new_t (by show 2 ≤ 1000; decide) fun p1 H4 n1 s4 e1 => new_t (by show 2 ≤ 1000; decide) fun p2 H5 n2 s5 e2 => new_t (by show 4 ≤ 1000; decide) fun p3 H6 n3 s6 e3 => ?_
    refine q p3 (.bin o w) H6 ⟨p1, p2, SqT.of e3, SqT.of (s6 _ _ (s5 _ _ e1)), SqT.of (s6 _ _ e2)⟩ hw (((D3.same s4).same s5).same s6) ((((B2.trans B3).same s4).same s5).same s6)
  -- cmp
  refine ite2 (fun c => ?_) (fun c => ?_)
  · refine of_n D2 (Nat.zero_lt_succ _) (by show 6 ≤ 1000; decide) fun x hx H3 D3 B3 => ?_
    obtain ⟨o, rfl⟩ : ∃ o : CP, x = .str o.s := cp_of hx
    refine new_t (by show 2 ≤ 1000; decide) fun p1 H4 n1 s4 e1 => new_t (by show 2 ≤ 1000; decide) fun p2 H5 n2 s5 e2 => new_t (by show 4 ≤ 1000; decide) fun p3 H6 n3 s6 e3 => ?_
    refine q p3 (.cmp o w) H6 ⟨p1, p2, SqT.of e3, SqT.of (s6 _ _ (s5 _ _ e1)), SqT.of (s6 _ _ e2)⟩ hw (((D3.same s4).same s5).same s6) ((((B2.trans B3).same s4).same s5).same s6)
  -- select
  refine ite2 (fun c => ?_) (fun c => ?_)
  · refine of_n D2 (Nat.zero_lt_succ _) (by show 3 ≤ 1000; decide) fun x hx H3 D3 B3 => ?_
    have hx' : WantV x := by
      simp only [List.mem_cons, List.not_mem_nil, or_false] at hx
      rcases hx with rfl | rfl | rfl
      · exact .inr ⟨_, rfl, hw⟩
      · exact .inr ⟨_, rfl, hw⟩
      · exact .inl rfl
    refine new_t (by show 1 ≤ 1000; decide) fun p1 H4 n1 s4 e1 => new_t (by show 3 ≤ 1000; decide) fun p2 H5 n2 s5 e2 => new_t (by show 4 ≤ 1000; decide) fun p3 H6 n3 s6 e3 => ?_
    refine q p3 (.select x) H6 ⟨p1, p2, SqT.of e3, SqT.of (s6 _ _ (s5 _ _ e1)), SqT.of (s6 _ _ e2)⟩ hx' (((D3.same s4).same s5).same s6) ((((B2.trans B3).same s4).same s5).same s6)
  -- cast
  refine ite2 (fun c => ?_) (fun c => ?_)
  · refine new_t (by show 2 ≤ 1000; decide) fun t1 H3 _ s3 e1 => new_t (by show 2 ≤ 1000; decide) fun t2 H4 _ s4 e2 => new_t (by show 2 ≤ 1000; decide) fun t3 H5 _ s5 e3 => new_t (by show 2 ≤ 1000; decide) fun t4 H6 _ s6 e4 =>
      new_t (by show 2 ≤ 1000; decide) fun t5 H7 _ s7 e5 => new_t (by show 2 ≤ 1000; decide) fun t6 H8 _ s8 e6 => ?_
    have s38 : Same H2 H8 := ((((s3.trans s4).trans s5).trans s6).trans s7).trans s8
    refine of_n (D2.same s38) (Nat.zero_lt_succ _) (by show 6 ≤ 1000; decide) fun x hx H9 D9 B9 => ?_
    obtain ⟨t, lo, hi, rfl, ht, hlo, hhi⟩ : ∃ (t : Addr) (lo hi : Int), x = .ref t ∧ SqT K H9 t [.int lo, .int hi] ∧ Wd lo ∧ Wd hi := by
      have st : ∀ {t : Addr} {xs : List V}, H8 t = some (.tup xs) → SqT K H9 t xs := fun h => B9.tup (D2.same s38) (SqT.of h)
      simp only [List.mem_cons, List.not_mem_nil, or_false] at hx
      rcases hx with rfl | rfl | rfl | rfl | rfl | rfl
      · exact ⟨_, _, _, rfl, st (s8 _ _ (s7 _ _ (s6 _ _ (s5 _ _ (s4 _ _ e1))))), ⟨by decide, by decide⟩, ⟨by decide, by decide⟩⟩
      · exact ⟨_, _, _, rfl, st (s8 _ _ (s7 _ _ (s6 _ _ (s5 _ _ e2)))), ⟨by decide, by decide⟩, ⟨by decide, by decide⟩⟩
      · exact ⟨_, _, _, rfl, st (s8 _ _ (s7 _ _ (s6 _ _ e3))), ⟨by decide, by decide⟩, ⟨by decide, by decide⟩⟩
      · exact ⟨_, _, _, rfl, st (s8 _ _ (s7 _ _ e4)), ⟨by decide, by decide⟩, ⟨by decide, by decide⟩⟩
      · exact ⟨_, _, _, rfl, st (s8 _ _ e5), ⟨by decide, by decide⟩, ⟨by decide, by decide⟩⟩
      · exact ⟨_, _, _, rfl, st e6, ⟨by decide, by decide⟩, ⟨by decide, by decide⟩⟩
    refine unp_got ht rfl ?_
    walk_at "ev"
    have B := (B2.same s38).trans B9
    refine of_n D9 (Nat.zero_lt_succ _) (by show 3 ≤ 1000; decide) fun x hx H10 D10 B10 => ?_
    obtain ⟨o, rfl⟩ : ∃ o : Cs, x = .str o.s := cs_of hx
    replace B := B.trans B10
    walk_at "ev"
    have fin : ∀ (a b : Int) (p : Addr) (H11 : Hp), Same H10 H11 → H11 p = some (.tup [.int a, .int b]) → Wd a → Wd b → ∀ p1 p2 p3 H14, H14 p3 = some (.tup [.str "cast", .ref p1, .ref p2, .int b]) → H14 p1 = some (.tup [.str o.s, .int a, .int b]) → H14 p2 = some (.tup [.int a]) → Same H11 H14 → Q (.ref p3) H14 :=
      fun a b p H11 s11 ep ha hb p1 p2 p3 H14 e3 e1 e2 s14 => q p3 (.cast o a b) H14 ⟨p1, p2, SqT.of e3, SqT.of e1, SqT.of e2⟩ ⟨ha, hb⟩ ((D10.same s11).same s14) ((B.same s11).same s14)
    refine ite2 (fun c => ?_) (fun c => ?_)
    · refine new_t (by show 2 ≤ 1000; decide) fun p H11 _ s11 ep => ?_
      refine ixt (SqT.of ep) rfl (ixt (SqT.of ep) rfl (new_t (by show 3 ≤ 1000; decide) fun p1 H12 _ s12 e1 => ?_))
      refine ixt (SqT.of (s12 _ _ ep)) rfl (new_t (by show 1 ≤ 1000; decide) fun p2 H13 _ s13 e2 => ?_)
      refine ixt (SqT.of (s13 _ _ (s12 _ _ ep))) rfl (new_t (by show 4 ≤ 1000; decide) fun p3 H14 _ s14 e3 => ?_)
      exact fin _ _ p H11 s11 ep hhi hlo p1 p2 p3 H14 e3 (s14 _ _ (s13 _ _ e1)) (s14 _ _ e2) ((s12.trans s13).trans s14)
    · refine new_t (by show 2 ≤ 1000; decide) fun p H11 _ s11 ep => ?_
      refine ixt (SqT.of ep) rfl (ixt (SqT.of ep) rfl (new_t (by show 3 ≤ 1000; decide) fun p1 H12 _ s12 e1 => ?_))
      refine ixt (SqT.of (s12 _ _ ep)) rfl (new_t (by show 1 ≤ 1000; decide) fun p2 H13 _ s13 e2 => ?_)
      refine ixt (SqT.of (s13 _ _ (s12 _ _ ep))) rfl (new_t (by show 4 ≤ 1000; decide) fun p3 H14 _ s14 e3 => ?_)
      exact fin _ _ p H11 s11 ep hlo hhi p1 p2 p3 H14 e3 (s14 _ _ (s13 _ _ e1)) (s14 _ _ e2) ((s12.trans s13).trans s14)
  -- near
  refine of_w D2 (Nat.zero_lt_succ _) (by show 4 ≤ 1000; decide) (fun x hx => ?_) fun nr H3 hnr D3 B3 => ?_
  · simp only [List.mem_cons, List.not_mem_nil, or_false] at hx
    rcases hx with rfl | rfl | rfl | rfl
    · exact ⟨_, rfl, by decide, by decide⟩
    · exact ⟨_, rfl, by decide, by decide⟩
    · exact ⟨_, rfl, by decide, by decide⟩
    · exact ⟨_, rfl, hw⟩
  replace B3 := B2.trans B3
  walk_at "ev"
  have mk : ∀ (f : Fm) (Hs : Hp), Deal d g Hs → But d g H Hs → f.ok → f.info.length ≤ 1000 → f.wanted.length ≤ 1000 → newT (fun x H1 => newT (fun y H1 => newT Q [.str f.kind, x, y, f.sort] H1) f.wanted H1) f.info Hs :=
    fun f Hs Ds Bs hok l1 l2 => new_t l1 fun p1 H4 n1 s4 e1 => new_t l2 fun p2 H5 n2 s5 e2 => new_t (by show 4 ≤ 1000; decide) fun p3 H6 n3 s6 e3 =>
      q p3 f H6 ⟨p1, p2, SqT.of e3, SqT.of (s6 _ _ (s5 _ _ e1)), SqT.of (s6 _ _ e2)⟩ hok (((Ds.same s4).same s5).same s6) (((Bs.same s4).same s5).same s6)
  have wn : WantV (.int nr) := .inr ⟨_, rfl, hnr⟩
  have ww : WantV (.int w) := .inr ⟨_, rfl, hw⟩
  have wp : WantV (.str "ptr") := .inl rfl
  have nowant : ∀ v ∈ ([] : List V), WantV v := fun v h => absurd h (by simp)
  have one : ∀ {x : V}, WantV x → ∀ v ∈ [x], WantV v := fun h v hv => by rw [List.mem_singleton.mp hv]; exact h
  have two : ∀ {x y : V}, WantV x → WantV y → ∀ v ∈ [x, y], WantV v := fun h h' v hv => by
    simp only [List.mem_cons, List.not_mem_nil, or_false] at hv
    rcases hv with rfl | rfl <;> assumption
  refine ite2 (fun c => ?_) (fun c => ?_)
  · refine ⟨d, g, _, rfl, D3, by decide, fun r H4 r0 r1 D4 B4 => ?_⟩
    walk_at "ev"
    exact mk (.other "alloca" [.int nr, .int (1 + r)] [] (.str "ptr")) H4 D4 (B3.trans B4) ⟨by decide +kernel, nowant, by decide⟩ (by show 2 ≤ 1000; decide) (by show 0 ≤ 1000; decide)
  refine ite2 (fun c => ?_) (fun c => ?_)
  · exact mk (.at w) H3 D3 B3 hw (by show 1 ≤ 1000; decide) (by show 2 ≤ 1000; decide)
  refine ite2 (fun c => ?_) (fun c => ?_)
  · refine ite2 (fun c => ?_) (fun c => ?_)
    · exact mk (.other "load" [.int nr] [.str "ptr"] (.int nr)) H3 D3 B3 ⟨by decide +kernel, one wp, by show 1 ≤ 2; decide⟩ (by show 1 ≤ 1000; decide) (by show 1 ≤ 1000; decide)
    · exact mk (.other "store" [.int nr] [.int nr, .str "ptr"] .non) H3 D3 B3 ⟨by decide +kernel, two wn wp, by show 2 ≤ 2; decide⟩ (by show 1 ≤ 1000; decide) (by show 2 ≤ 1000; decide)
  refine ite2 (fun c => ?_) (fun c => ?_)
  · refine ite2 (fun c => ?_) (fun c => ?_)
    · exact mk (.other "print" [.int w] [.int w] .non) H3 D3 B3 ⟨by decide +kernel, one ww, by show 1 ≤ 2; decide⟩ (by show 1 ≤ 1000; decide) (by show 1 ≤ 1000; decide)
    · exact mk (.other "input" [.int w] [] (.int w)) H3 D3 B3 ⟨by decide +kernel, nowant, by show 0 ≤ 2; decide⟩ (by show 1 ≤ 1000; decide) (by show 0 ≤ 1000; decide)
  · obtain ⟨h1, h2, w1, w2, a, b1, b2, b3, b4⟩ := hh.but B3 hd hl
    refine ⟨d, g, l, _, rfl, D3, a, hl, Nat.zero_lt_succ _, by show 2 ≤ 1000; decide, fun x hx H4 D4 B4 => ?_⟩
    have b1' := B4.tup D3 b1
    have b2' := B4.tup D3 b2
    have b3' := B4.tup D3 b3
    have b4' := B4.tup D3 b4
    have B := B3.trans B4
    simp only [List.mem_cons, List.not_mem_nil, or_false] at hx
    rcases hx with rfl | rfl
    · refine ixt b1' rfl (new_t (by show 1 ≤ 1000; decide) fun p1 H5 n1 s5 e1 => ?_)
      refine ixt (same_tup s5 b1') rfl (ixt (same_tup s5 b1') rfl (new_t (by show 4 ≤ 1000; decide) fun p3 H6 n3 s6 e3 => ?_))
      have w8 : WantV (.int 8) := .inr ⟨_, rfl, by decide, by decide⟩
      exact q p3 (.other "call" [.str "f"] [.int 8, .int 8] (.int 8)) H6 ⟨p1, w1, SqT.of e3, SqT.of (s6 _ _ e1), same_tup s6 (same_tup s5 b2')⟩ ⟨by decide +kernel, two w8 w8, by show 2 ≤ 2; decide⟩ ((D4.same s5).same s6) ((B.same s5).same s6)
    · refine ixt b3' rfl (new_t (by show 1 ≤ 1000; decide) fun p1 H5 n1 s5 e1 => ?_)
      refine ixt (same_tup s5 b3') rfl (ixt (same_tup s5 b3') rfl (new_t (by show 4 ≤ 1000; decide) fun p3 H6 n3 s6 e3 => ?_))
      exact q p3 (.other "call" [.str "go"] [] .non) H6 ⟨p1, w2, SqT.of e3, SqT.of (s6 _ _ e1), same_tup s6 (same_tup s5 b4')⟩ ⟨by decide +kernel, nowant, by show 0 ≤ 2; decide⟩ ((D4.same s5).same s6) ((B.same s5).same s6)
def spOp (K : PySem.W.Frag) : Sp := fun vs H Q _ => ∃ (d g : Addr), vs = [.ref d] ∧ Deal d g H ∧ ∀ p op H', OpAt K H' p op → op.ok → Deal d g H' → But d g H H' → Q (.ref p) H'
theorem ok_op_drawn {f : Addr} {fd : FuncData} (D : Def K mg "_law_op_drawn" pLOpDrawn sLOpDrawn f fd) (C__law_any : Cal P w K mg base 1 "_law_any" pLAny spAny) (C__law_of : Cal P w K mg base 2 "_law_of" pLOf (spOf K)) (C__law_number : Cal P w K mg base 3 "_law_number" pLNumber spNumber)
    (C__law_form : Cal P w K mg base 3 "_law_form" pLForm (spForm K)) (m_tuple : mg "tuple" = none) : Cal P w K mg base 4 "_law_op_drawn" pLOpDrawn (spOp K) := by
  refine D.cal (D.F.ok scLOpDrawn (fun vs H Q E h => ?_) (fun cdv A outer s H vs Q E hr h => ?_))
  · obtain ⟨_, _, rfl, _⟩ := h
    rfl
  obtain ⟨d, g, rfl, hd, q⟩ := h
  have nd := scLOpDrawn.nd
  refine ⟨_, (pss_cons (ps_asg (pe_cal C__law_form hr (by omega) (by rfl) (pa_cons (pv 0) (pa_cons (pe_lst (pa_cons (pe_tup (pa_cons pe_str (pa_cons (pe_tup (pa_cons pe_int (pa_cons pe_int pa_nil))) (pa_cons pe_int pa_nil)))) (pa_cons (pe_tup (pa_cons pe_str (pa_cons (pe_tup pa_nil) (pa_cons pe_non pa_nil)))) pa_nil))) pa_nil))) (pg_tup (n := 4) (by rfl) (pgs_cons (pg_name (i := 2) nd rfl (by first | exact Or.inl rfl | exact Or.inr rfl)) (pgs_cons (pg_name (i := 3) nd rfl (by first | exact Or.inl rfl | exact Or.inr rfl)) (pgs_cons (pg_name (i := 4) nd rfl (by first | exact Or.inl rfl | exact Or.inr rfl)) (pgs_cons (pg_name (i := 5) nd rfl (by first | exact Or.inl rfl | exact Or.inr rfl)) pgs_nil))))))
    (pss_cons (ps_par (i := 6) (j := 7) (by rfl) nd rfl rfl (by decide) rfl rfl (pa_cons (pe_lst pa_nil) (pa_cons (pe_cal C__law_any hr (by omega) (by rfl) (pa_cons (pv 0) (pa_cons pe_int pa_nil))) pa_nil)) (by rfl))
    (pss_cons (ps_for PassesOwn.never rfl (pi_tup (pv 4)) (pg_name (i := 1) nd rfl (by first | exact Or.inl rfl | exact Or.inr rfl)) (pss_one (ps_if (pt_cmpR op_eq (pv 1) pe_str (nomark _)) (pss_one (ps_expr (pe_bm PySem.F.plainAttrs_list PySem.F.slot_list_append PySem.F.type_list_append mt_append (pv 6) (pa_cons (pe_cal C__law_of hr (by omega) (by rfl) (pa_cons (pv 0) (pa_cons (pe_lst (pa_cons (pe_tup (pa_cons pe_str (pa_cons pe_int pa_nil))) (pa_cons (pe_tup (pa_cons pe_str (pa_cons pe_str pa_nil))) pa_nil))) pa_nil))) pa_nil)))) (pss_one (ps_expr (pe_bm PySem.F.plainAttrs_list PySem.F.slot_list_append PySem.F.type_list_append mt_append (pv 6) (pa_cons (pe_ifExp (PW.pt (pw_or (pt_cmpR op_gt (pv 7) pe_int (nomark _)) (pw_or1 (pt_cmpR op_gt (pe_cal C__law_any hr (by omega) (by rfl) (pa_cons (pv 0) (pa_cons pe_int pa_nil))) pe_int (nomark _))))) (pe_tup (pa_cons pe_str (pa_cons (pe_cal C__law_number hr (by omega) (by rfl) (pa_cons (pv 0) (pa_cons (pv 1) pa_nil))) pa_nil))) (pe_tup (pa_cons pe_str (pa_cons (pe_cal C__law_any hr (by omega) (by rfl) (pa_cons (pv 0) (pa_cons pe_int pa_nil))) pa_nil)))) pa_nil)))))))
    (pss_one (ps_ret (pe_tup (pa_cons (pe_ifExp (pt_cmpR op_isN (pv 5) pe_non (nomark _)) pe_non pe_int) (pa_cons (pv 2) (pa_cons (pv 3) (pa_cons (pe_callTy (call_tupleK (K := K) rfl) (by rfl) m_tuple (by decide +kernel) (pa_cons (pv 6) pa_nil)) pa_nil)))))))))), ?_⟩
  walk_at "ev"
  -- the headers
  refine new_t (by show 2 ≤ 1000; decide) fun a1 H1 _ s1 e1 => new_t (by show 3 ≤ 1000; decide) fun a2 H2 _ s2 e2 => new_t (by show 0 ≤ 1000; decide) fun a3 H3 _ s3 e3 => new_t (by show 3 ≤ 1000; decide) fun a4 H4 _ s4 e4 => new_l (by show 2 ≤ 1000; decide) fun l H5 nl s5 e5 => ?_
  have s05 : Same H H5 := (((s1.trans s2).trans s3).trans s4).trans s5
  have D5 := hd.same s05
  refine ⟨d, g, l, rfl, D5, ⟨a2, a4, a1, a3, SqL.of e5, SqT.of (s5 _ _ (s4 _ _ (s3 _ _ e2))), SqT.of (s5 _ _ (s4 _ _ (s3 _ _ (s2 _ _ e1)))), SqT.of (s5 _ _ e4), SqT.of (s5 _ _ (s4 _ _ e3))⟩, ?_, fun p fm H6 hfm hok D6 B6 => ?_⟩
  · have D4 := hd.same (((s1.trans s2).trans s3).trans s4)
    obtain ⟨ne, ys, b, x1, x2, _⟩ := D4
    exact ⟨fun e => (by rw [e, x1] at nl; cases nl), fun e => (by rw [e, x2] at nl; cases nl)⟩
  replace B6 := (But.of (d := d) (g := g) s05).trans B6
  obtain ⟨pi, pw, f1, f2, f3⟩ := hfm
  refine unp_got f1 rfl ?_
  walk_at "ev"
  refine new_l (by show 0 ≤ 1000; decide) fun L H7 nL s7 e7 => ⟨d, g, _, rfl, D6.same s7, by decide, fun sh H8 r0 r1 D8 B8 => ?_⟩
  walk_at "ev"
  have D7 := D6.same s7
  have nLd : L ≠ d ∧ L ≠ g := by
    obtain ⟨ne, ys, b, x1, x2, _⟩ := D6
    exact ⟨fun e => (by rw [e, x1] at nL; cases nL), fun e => (by rw [e, x2] at nL; cases nL)⟩
  have HL : H L = none := by
    cases z : H L with
    | none => rfl
    | some o => rw [B6 _ _ nLd.1 nLd.2 z] at nL; cases nL
  have g2 := B8.tup D7 (same_tup s7 f2)
  have g3 := B8.tup D7 (same_tup s7 f3)
  have g0 : H8 L = some (.lst []) := B8 _ _ nLd.1 nLd.2 e7
  have B08 := (B6.same s7).trans B8
  have wl : fm.wanted.length ≤ 3 := by
    cases fm with
    | other k i ws st => exact Nat.le_trans hok.2.2 (by decide)
    | _ => first | exact Nat.le_refl _ | exact Nat.le_succ _ | exact Nat.le_of_lt (by show 1 < 3; decide)
  refine Evl.s_forT (K := K) (a := pw) (xs := fm.wanted) (Evl.ev_var rfl) g3 (fun i σ H' => WOp K d g H fm pi pw L sh i σ H') (fun H9 s9 => ?_) (fun i σ H' _ w => ?_) (fun i x σ H' hi w => ?_) (fun σ H' w => ?_)
  · exact ⟨none, [], [], rfl, s9 _ _ g0, trivial, rfl, fun j v a _ h => by simp at h, D8.same s9, B08.same s9, same_tup s9 g3, same_tup s9 g2⟩
  · obtain ⟨_, _, _, _, _, _, _, _, _, _, h, _⟩ := w
    exact h
  · obtain ⟨last, qs, as, rfl, hL, hA, hn, hfit, D9, B9, t3, t2⟩ := w
    have il : i < 3 := Nat.lt_of_lt_of_le (List.getElem?_eq_some_iff.mp hi).1 wl
    -- one more arg
    have more : ∀ (a : Arg) (b : Addr) (H10 : Hp), Deal d g H10 → But d g H' H10 → SqT K H10 b a.vs → ArgFor x a → rAppend (.ref L) [.ref b] H10 fun _ H11 => WOp K d g H fm pi pw L sh (i + 1) [some (.ref d), some x, some (.str fm.kind), some (.ref pi), some (.ref pw), some fm.sort, some (.ref L), some (.int sh)] H11 := by
      intro a b H10 D10 B10 hb hfa
      have hL' := B10 _ _ nLd.1 nLd.2 hL
      have tt : ∀ {q : Addr} {xs : List V}, SqT K H10 q xs → SqT K (upd H10 L (.lst (qs ++ [.ref b]))) q xs := fun h => sqT_upd hL' h
      refine appl hL' (by rw [hA.len, hn]; omega) ⟨some x, _, as ++ [a], rfl, upd_same, ?_, by simp [hn], ?_, ?_, ?_, tt (B10.tup D9 t3), tt (B10.tup D9 t2)⟩
      · exact ArgsAt.snoc (ArgsAt.imp (fun h => tt (B10.tup D9 h)) hA) (tt hb)
      · intro j v c hv hc
        by_cases hj : j < as.length
        · rw [List.getElem?_append_left hj] at hc
          exact hfit j v c hv hc
        · have ej : j = as.length := by
            have := (List.getElem?_eq_some_iff.mp hc).1
            simp at this
            omega
          subst ej
          rw [List.getElem?_append_right (Nat.le_refl _), Nat.sub_self] at hc
          have e1 : a = c := by simpa using hc
          rw [hn, hi] at hv
          rw [← e1, ← Option.some.inj hv]
          exact hfa
      · obtain ⟨ne, ys, bb, x1, x2, x3⟩ := D10
        exact ⟨ne, ys, bb, by rw [upd_ne (Ne.symm nLd.1)]; exact x1, by rw [upd_ne (Ne.symm nLd.2)]; exact x2, x3⟩
      · intro q o h1 h2 h
        rw [upd_ne (ne_of_none h HL)]
        exact B10 _ _ h1 h2 (B9 _ _ h1 h2 h)
    have hx : WantV x := fm.want hok x (List.mem_of_getElem? hi)
    walk_at "ev"
    refine ⟨by rcases hx with rfl | ⟨w, rfl, _⟩ <;> rfl, ite2 (fun c => ?_) (fun c => ?_)⟩
    · refine ⟨tyl hL, new_t (by show 2 ≤ 1000; decide) fun a1 H10 _ s10 e10 => new_t (by show 2 ≤ 1000; decide) fun a2 H11 _ s11 e11 => ?_⟩
      refine of_n ((D9.same s10).same s11) (Nat.zero_lt_succ _) (by show 2 ≤ 1000; decide) fun y hy H12 D12 B12 => ?_
      have Da := (D9.same s10).same s11
      have Bx := (But.of (d := d) (g := g) (s10.trans s11)).trans B12
      simp only [List.mem_cons, List.not_mem_nil, or_false] at hy
      rcases hy with rfl | rfl
      · exact more (.v 3) a1 H12 D12 Bx (B12.tup Da (SqT.of (s11 _ _ e10))) ⟨fun _ => rfl, fun _ _ => trivial⟩
      · exact more .g a2 H12 D12 Bx (B12.tup Da (SqT.of e11)) ⟨fun _ => rfl, fun _ _ => trivial⟩
    · rcases hx with rfl | ⟨wx, rfl, hwx⟩
      · exact absurd rfl c
      refine ⟨tyl hL, ?_⟩
      have num : spNumber [.ref d, .int wx] H' (fun x_1 H1 => newT (fun x_2 H1 => rAppend (.ref L) [x_2] H1 fun _ H11 => WOp K d g H fm pi pw L sh (i + 1) [some (.ref d), some (.int wx), some (.str fm.kind), some (.ref pi), some (.ref pw), some fm.sort, some (.ref L), some (.int sh)] H11) [.str "n", x_1] H1) E0 := by
        refine ⟨d, g, _, rfl, D9, hwx, fun r H10 hr D10 B10 => new_t (by show 2 ≤ 1000; decide) fun a1 H11 _ s11 e11 => ?_⟩
        refine more (.n r) a1 H11 (D10.same s11) (B10.same s11) (SqT.of e11) ⟨fun z => absurd z c, fun w' e => ?_⟩
        rw [← V.int.inj e]
        exact hr
      refine ite2 (fun c => num) (fun c => ?_)
      refine ⟨d, g, _, rfl, D9, by decide, fun r H10 r0 r1 D10 B10 => ?_⟩
      walk_at "ev"
      refine ite2 (fun c => ?_) (fun c => ?_)
      · refine ⟨d, g, _, rfl, D10, hwx, fun r H11 hr D11 B11 => new_t (by show 2 ≤ 1000; decide) fun a1 H12 _ s12 e12 => ?_⟩
        refine more (.n r) a1 H12 (D11.same s12) ((B10.trans B11).same s12) (SqT.of e12) ⟨fun z => absurd z (by intro z; cases z), fun w' e => ?_⟩
        rw [← V.int.inj e]
        exact hr
      · refine ⟨d, g, _, rfl, D10, by decide, fun r H11 r0 r1 D11 B11 => new_t (by show 2 ≤ 1000; decide) fun a1 H12 _ s12 e12 => ?_⟩
        exact more (.v r) a1 H12 (D11.same s12) ((B10.trans B11).same s12) (SqT.of e12) ⟨fun z => absurd z (by intro z; cases z), fun _ _ => trivial⟩
  · obtain ⟨last, qs, as, rfl, hL, hA, hn, hfit, D9, B9, t3, t2⟩ := w
    walk_at "ev"
    obtain ⟨op, ek, ei, ea, hop⟩ := op_of fm as hok hn hfit
    have fin : ∀ v : V, rTup K [.ref L] H' fun x H1 => newT Q [v, .str fm.kind, .ref pi, x] H1 := fun v => by
      refine ⟨L, qs, rfl, SqL.of hL, fun pa ha => ?_⟩
      have s10 : Same H' (upd H' pa (.tup qs)) := same_new ha _
      refine new_t (by show 4 ≤ 1000; decide) fun p H11 _ s11 e11 => ?_
      refine q p op H11 ⟨v, pi, pa, qs, SqT.of (by rw [ek]; exact e11), ?_, SqT.of (s11 _ _ upd_same), ?_⟩ hop ((D9.same s10).same s11) ((B9.same s10).same s11)
      · rw [ei]
        exact same_tup s11 (same_tup s10 t2)
      · rw [ea]
        exact (hA.same s10).same s11
    exact ite2 (fun _ => fin _) (fun _ => fin _)
end
end K25

set_option Elab.async false
set_option linter.all false
set_option maxRecDepth 100000
set_option maxHeartbeats 4000000
namespace K25
open PySem L2
/-! ### the results stay within the width -/
theorem nat_in {w : Int} {n : Nat} (h : n < 2 ^ w.toNat) : In w (n : Int) := ⟨by omega, by rw [p2_nat]; omega⟩
theorem in_nat {w a : Int} (h : In w a) : a.toNat < 2 ^ w.toNat := by
  obtain ⟨h0, h1⟩ := h
  rw [p2_nat] at h1
  omega
theorem mod_in (w a : Int) : In w (a % p2 w) := ⟨Int.emod_nonneg _ (by have := p2_pos w; omega), Int.emod_lt_of_pos _ (p2_pos w)⟩
theorem and_in {w a b : Int} (ha : In w a) (hb : In w b) : In w (Builtin.bitAnd a b) := by
  rw [PyProof.Rows.bitAnd_pp ha.1 hb.1]
  exact nat_in (Nat.lt_of_le_of_lt Nat.and_le_left (in_nat ha))
theorem or_in {w a b : Int} (ha : In w a) (hb : In w b) : In w (Builtin.bitOr a b) := by
  rw [Bits.bitOr_pp ha.1 hb.1]
  exact nat_in (Nat.or_lt_two_pow (in_nat ha) (in_nat hb))
theorem xor_in {w a b : Int} (ha : In w a) (hb : In w b) : In w (Builtin.bitXor a b) := by
  rw [Bits.bitXor_pp ha.1 hb.1]
  exact nat_in (Nat.xor_lt_two_pow (in_nat ha) (in_nat hb))
theorem told_in {o : BOp} {w a b r : Int} (ha : In w a) (hb : In w b) (h : told o w a b = some r) : In w r := by
  have cutS : ∀ {c : Prop} [Decidable c] {x : Int}, (if c then none else some x) = some r → x = r := fun {c} _ {x} h => by
    by_cases hc : c
    · rw [if_pos hc] at h; cases h
    · rw [if_neg hc] at h; exact Option.some.inj h
  cases o
  case udiv =>
    rw [← cutS h]
    exact ⟨Int.ediv_nonneg ha.1 hb.1, Int.lt_of_le_of_lt (Int.ediv_le_self _ ha.1) ha.2⟩
  case urem =>
    have e := cutS h
    have nz : b ≠ 0 := fun z => by subst z; cases h
    rw [← e]
    have h1 := Int.emod_nonneg a nz
    have h2 := Int.emod_lt_of_pos a (show 0 < b by have := hb.1; omega)
    exact ⟨h1, Int.lt_trans h2 hb.2⟩
  case sdiv => rw [← cutS h]; exact mod_in _ _
  case srem => rw [← cutS h]; exact mod_in _ _
  case and => rw [← Option.some.inj h]; exact and_in ha hb
  case or => rw [← Option.some.inj h]; exact or_in ha hb
  case xor => rw [← Option.some.inj h]; exact xor_in ha hb
  case lshr =>
    rw [← Option.some.inj h]
    exact ⟨Int.ediv_nonneg ha.1 (Int.le_of_lt (p2_pos _)), Int.lt_of_le_of_lt (Int.ediv_le_self _ ha.1) ha.2⟩
  all_goals rw [← Option.some.inj h]; exact mod_in _ _
theorem fold_bd {op : Op} (hok : op.ok) {r : Int} (h : op.fold = some r) : 0 ≤ r ∧ r < 18446744073709551616 := by
  have wide : ∀ {w : Int}, Wd w → In w r → 0 ≤ r ∧ r < 18446744073709551616 := fun hw hi => ⟨hi.1, Int.lt_of_lt_of_le hi.2 (p2_le hw.2)⟩
  cases op with
  | bin o w a b =>
    cases a with
    | n ka => cases b with
      | n kb => exact wide hok.1 (told_in hok.2.1 hok.2.2 h)
      | _ => cases h
    | _ => cases h
  | cmp c w a b =>
    cases a with
    | n ka => cases b with
      | n kb =>
        rw [← Option.some.inj h]
        unfold b2n
        split <;> omega
      | _ => cases h
    | _ => cases h
  | select s c a b =>
    cases c with
    | n kc => cases a with
      | n ka => cases b with
        | n kb =>
          rw [← Option.some.inj h]
          have h1 : 0 ≤ ka ∧ ka < 18446744073709551616 := hok.1
          have h2 : 0 ≤ kb ∧ kb < 18446744073709551616 := hok.2
          split
          · exact h1
          · exact h2
        | _ => cases h
      | _ => cases h
    | _ => cases h
  | cast c w t a =>
    cases a with
    | n ka =>
      have e := Option.some.inj h
      refine wide hok.2.1 ?_
      rw [← e]
      cases c <;> exact mod_in _ _
    | _ => cases h
  | _ => cases h
/-! ### repr of None, bools, ints -/
def rtext : V → Str
  | .bl b => if b then "True" else "False"
  | .int i => toString i
  | _ => "None"
def rok : V → Prop
  | .non => True
  | .bl _ => True
  | .int i => 0 ≤ i ∧ i < 18446744073709551616
  | _ => False
section
variable {X : Cx}
theorem call_reprV : CallR X (.builtin "repr") (fun xs H Q => ∃ x, xs = [x] ∧ rok x ∧ Q (.str (rtext x)) H) := by
  intro pins s σ H xs us
  intro Q I r h
  obtain ⟨x, rfl, hx, q⟩ := h
  obtain ⟨z, rfl, ru⟩ := vals1 r
  cases x with
  | non => cases ru; exact PySem.P.repr_of_none ⟨.str "None", H, I.tok _, ⟨_, rfl⟩, q⟩
  | bl b => cases ru; exact PySem.P.repr_of_bool ⟨.str (if b then "True" else "False"), H, I.tok _, ⟨_, rfl⟩, q⟩
  | int i =>
    obtain ⟨t, rfl⟩ := ru
    refine PySem.P.repr_of_int ?_ ⟨.str (toString i), H, I.tok _, ⟨_, rfl⟩, q⟩
    have h1 : 0 ≤ i ∧ i < 18446744073709551616 := hx
    have h2 : i.natAbs < 2 ^ 64 := by omega
    have h3 := PySem.Flt.log2_lt_of (by decide : 0 < 64) h2
    omega
  | _ => exact hx.elim
end
/-! ### f(k = e): one keyword -/
def tCalK (sp : Sp) (tk : TA) : TE := fun σ H Q => tk σ H fun zs H1 => sp zs H1 Q E0
structure CalK (P : Program) (w : World) (K : PySem.W.Frag) (mg : Str → Option Value) (base : Heap) (k : Nat) (x : Str) (ps : List Str) (sp : Sp) : Prop where
  ex : ∃ (f : Addr) (fd : FuncData), FnOk P w K mg base CX0 k f fd ps sp ∧ KBinds K fd ps ps (fun us ws => us ++ ws) (fun vs zs => vs ++ zs) ∧ PySem.W.keepIn K (.ref f) = true ∧ mg x = some (.ref f)
section
variable {X : Cx} {x : Str} {ps : List Str} {sp : Sp} {j k : Nat} {p pos : Pos} {kws : List Keyword} {tk : TA}
theorem pe_calK (C : CalK X.prog X.w X.K X.mg X.base k x ps sp) (hr : Room j X.A) (hk : k ≤ j) (hg : Gl X x) (hkw : PK X kws tk) (hdb : (x == ("__debug__" : Str)) = false := by decide) (hall : (backToKw pos (keywordEach kws X.env)).all (·.1.isSome) = true := by rfl)
    (hks : (backToKw pos (keywordEach kws X.env)).filterMap (·.1) = ps := by rfl) (hpl : ((backTo pos (starEach [] X.env)).any (·.1) || (backToKw pos (keywordEach kws X.env)).any (·.1.isNone)) = false := by rfl) : PE X (.Call (.Name x p) [] kws pos) (tCalK sp tk) := by
  obtain ⟨f, fd, h, hb, kp, hm⟩ := C.ex
  refine ⟨fun pins s σ H Q I hq => wpAny_Call_Name_kw (ld_glob I hg hm ?_ hdb)⟩
  refine PySem.W.callWith_KW0 (h₀ := X.base) (first := []) I.ok.mod.kin kp hall (thn (hkw.run pos pins s σ H _ I hq) fun ws s1 ⟨zs, H1, I1, rz, q1⟩ => ⟨I1.kIn, ?_⟩) hpl
  rw [hks]
  exact run_fnk (us := []) (vs := []) h (hr.mono hk) hb pass0 I1 .nil rz q1
end
theorem kb_one {K : PySem.W.Frag} {x qual y : Str} {st : Stmt} {f : Addr} {fd : FuncData} (F : Fun K x qual st f fd)
    (h0 : ∀ (kV doc pm : Value) (an : Option Addr) (cdv ct v : Value), bindArgs (PySem.W.fnOf x qual (defArgs st) (defBody st) (defScope st) .none kV doc pm an cdv ct) ⟨[v], []⟩ = pure [(y, v)])
    (h1 : ∀ (kV doc pm : Value) (an : Option Addr) (cdv ct v : Value), bindArgs (PySem.W.fnOf x qual (defArgs st) (defBody st) (defScope st) .none kV doc pm an cdv ct) ⟨[], [(y, v)]⟩ = pure [(y, v)]) :
    KBinds K fd [y] [y] (fun us ws => us ++ ws) (fun vs zs => vs ++ zs) := by
  obtain ⟨_, _, kV, doc, pm, an, cdv, ct, _, rfl, _, _⟩ := F.ex
  refine ⟨fun s us ws _ hl => ?_, fun r z => r.append z⟩
  match us, ws, hl with
  | [u], [], _ => exact .of_eq (h0 kV doc pm an cdv ct u)
  | [], [v], _ => exact .of_eq (h1 kV doc pm an cdv ct v)
  | [], [], h => simp at h
  | [], _ :: _ :: _, h => simp at h
  | [_], _ :: _, h => simp at h
  | _ :: _ :: _, _, h => simp at h
def spOps : Sp := fun vs H Q _ => ∃ (d g : Addr), vs = [.ref d] ∧ Deal d g H ∧ ∀ H', Deal d g H' → But d g H H' → Q (.bl true) H'
local macro_rules | `(tactic| walk_at "ev") => `(tactic| try simp only [wipe, iTup, iList, tBM, tBM0, gSub, tSl, tPart, tNoPart, rSlS, tAndV, tOrV, tNotV, tM0, tM1, tPar3, reduceCtorEq, false_and, exists_false, or_false, false_or, gcons, gnil, gName, tRet, tRetN, tIf, tTest, tOp, tUn, rI0, rI, rU, tVar, tC, tCall, tCons, tNil, tCB, tSeq, tIfS, tAsg, gName, tNext, tDrop, tPar, tB, tAnd, tOr, tNot, tIsN, tNotN, rEq, rNe, L2.start, List.map_cons, List.map_nil, List.length_cons, List.length_nil, List.replicate_succ, List.replicate_zero, List.cons_append, List.nil_append, List.append_nil, List.set_cons_zero, List.set_cons_succ, List.set_nil, Nat.reduceAdd, Nat.reduceSub, Nat.zero_add, Nat.sub_self, Nat.add_zero, Nat.succ_eq_add_one, List.getElem?_cons_zero, List.getElem?_cons_succ, Option.some.injEq, V.int.injEq, V.str.injEq, V.bl.injEq, V.ref.injEq, List.cons.injEq, and_assoc, exists_eq_left', exists_eq_left, exists_and_left, exists_eq', exists_eq_right, exists_eq_right', exists_const, and_true, true_and, and_self, scal_ii, scal_ss, scal_bb, decide_eq_true_eq, ite_bl, Int.one_mul, p2f, abf, reduceIte, Bool.false_eq_true, decide_true, decide_false, Bool.not_true, Bool.not_false, tCalK, tup_n, lst_n, NWrapped, NSigned, NQuotient, NDivided, NShifted, NBinTold, NCmpTold, NCastTold, NIsPure, NFolded, NLDraw, NLAny, NLOf, NLPower, NLNumber, NLForm, NLSigned, NLShift, NLTold, NLCompared, NLCast, NLPure, NLTable, NLRead, NLMadeNumber, NLOpDrawn, NLFolded, NLLettersWidth, NLSide, NLLettersDrawn, NLOpsRight, NLaw])
section
variable {P : Program} {w : World} {K : PySem.W.Frag} {mg : Str → Option Value} {base : Heap}
theorem ok_ops {f : Addr} {fd : FuncData} (D : Def K mg "_law_ops_right" pLOpsRight sLOpsRight f fd) (C__law_op_drawn : Cal P w K mg base 4 "_law_op_drawn" pLOpDrawn (spOp K)) (C_is_pure : Cal P w K mg base 1 "is_pure" pIsPure (spPure K)) (K_is_pure : CalK P w K mg base 1 "is_pure" pIsPure (spPure K))
    (C_folded : Cal P w K mg base 4 "folded" pFolded (spFold K)) (K_folded : CalK P w K mg base 4 "folded" pFolded (spFold K)) (C__law_pure : Cal P w K mg base 1 "_law_pure" pLPure (spPure K)) (C__law_folded : Cal P w K mg base 5 "_law_folded" pLFolded (spFold K))
    (m_range : mg "range" = none) (m_repr : mg "repr" = none) : Cal P w K mg base 6 "_law_ops_right" pLOpsRight spOps := by
  refine D.cal (D.F.ok scLOpsRight (fun vs H Q E h => ?_) (fun cdv A outer s H vs Q E hr h => ?_))
  · obtain ⟨_, _, rfl, _⟩ := h
    rfl
  obtain ⟨d, g, rfl, hd, q⟩ := h
  have nd := scLOpsRight.nd
  refine ⟨_, (pss_cons (ps_for PassesOwn.never rfl (pi_range1 (by rfl) m_range (pa_cons pe_int pa_nil)) (pg_name (i := 1) nd rfl (by first | exact Or.inl rfl | exact Or.inr rfl)) (pss_cons (ps_set (i := 2) nd rfl (by first | exact Or.inl rfl | exact Or.inr rfl) (pe_cal C__law_op_drawn hr (by omega) (by rfl) (pa_cons (pv 0) pa_nil)))
    (pss_cons (ps_if (PW.pt (pw_or (pt_cmpR op_ne (pe_callB call_reprV (by rfl) m_repr (by decide +kernel) (pa_cons (pe_cal C_is_pure hr (by omega) (by rfl) (pa_cons (pv 2) pa_nil)) pa_nil)) (pe_callB call_reprV (by rfl) m_repr (by decide +kernel) (pa_cons (pe_cal C__law_pure hr (by omega) (by rfl) (pa_cons (pv 2) pa_nil)) pa_nil)) (nomark _)) (pw_or1 (pt_cmpR op_ne (pe_callB call_reprV (by rfl) m_repr (by decide +kernel) (pa_cons (pe_calK K_is_pure hr (by omega) (by rfl) (pk_cons (pv 2) pk_nil)) pa_nil)) (pe_callB call_reprV (by rfl) m_repr (by decide +kernel) (pa_cons (pe_cal C__law_pure hr (by omega) (by rfl) (pa_cons (pv 2) pa_nil)) pa_nil)) (nomark _))))) (pss_one (ps_ret pe_bl)) pss_nil)
    (pss_one (ps_if (PW.pt (pw_or (pt_cmpR op_ne (pe_callB call_reprV (by rfl) m_repr (by decide +kernel) (pa_cons (pe_cal C_folded hr (by omega) (by rfl) (pa_cons (pv 2) pa_nil)) pa_nil)) (pe_callB call_reprV (by rfl) m_repr (by decide +kernel) (pa_cons (pe_cal C__law_folded hr (by omega) (by rfl) (pa_cons (pv 2) pa_nil)) pa_nil)) (nomark _)) (pw_or1 (pt_cmpR op_ne (pe_callB call_reprV (by rfl) m_repr (by decide +kernel) (pa_cons (pe_calK K_folded hr (by omega) (by rfl) (pk_cons (pv 2) pk_nil)) pa_nil)) (pe_callB call_reprV (by rfl) m_repr (by decide +kernel) (pa_cons (pe_cal C__law_folded hr (by omega) (by rfl) (pa_cons (pv 2) pa_nil)) pa_nil)) (nomark _))))) (pss_one (ps_ret pe_bl)) pss_nil)))))
    (pss_one (ps_ret pe_bl))), ?_⟩
  walk_at "ev"
  refine Evl.s_forR1 (n := 8) (fun H1 _ R k => k H1 (Same.refl _)) (by decide) (fun _ σ H' => ∃ x y : Option V, σ = [some (.ref d), x, y] ∧ Deal d g H' ∧ But d g H H') (fun H1 s1 => ⟨_, _, rfl, hd.same s1, But.of s1⟩) (fun i σ H' _ w => ?_) (fun σ H' w => ?_)
  · obtain ⟨x, y, rfl, D1, B1⟩ := w
    walk_at "ev"
    refine ⟨d, g, rfl, D1, fun p op H2 hop hok D2 B2 => ?_⟩
    replace B2 := B1.trans B2
    walk_at "ev"
    have fb : rok (oV op.fold) := by
      cases hf : op.fold with
      | none => trivial
      | some r => exact fold_bd hok hf
    refine ⟨p, op, rfl, hop, hok, fun H3 s3 => ?_⟩
    walk_at "ev"
    refine ⟨trivial, p, op, rfl, hop.same s3, hok, fun H4 s4 => ?_⟩
    walk_at "ev"
    have s34 := Same.trans s3 s4
    refine ⟨trivial, ?_⟩
    refine ⟨p, op, rfl, hop.same s34, hok, fun H5 s5 => ⟨trivial, p, op, rfl, hop.same (Same.trans s34 s5), hok, fun H6 s6 => ⟨trivial, ?_⟩⟩⟩
    have s36 := Same.trans (Same.trans s34 s5) s6
    refine ite_n (by simp) ?_
    refine ⟨p, op, rfl, hop.same s36, hok, fun H7 s7 => ⟨fb, p, op, rfl, hop.same (Same.trans s36 s7), hok, fun H8 s8 => ⟨fb, ?_⟩⟩⟩
    have s38 := Same.trans (Same.trans s36 s7) s8
    refine ite_n (by simp) ?_
    refine ⟨p, op, rfl, hop.same s38, hok, fun H9 s9 => ⟨fb, p, op, rfl, hop.same (Same.trans s38 s9), hok, fun H10 s10 => ⟨fb, ?_⟩⟩⟩
    have s310 := Same.trans (Same.trans s38 s9) s10
    exact ite_n (by simp) ⟨D2.same s310, B2.same s310⟩
  · obtain ⟨x, y, rfl, D1, B1⟩ := w
    exact q H' D1 B1
end
end K25

set_option Elab.async false
set_option linter.all false
set_option maxRecDepth 100000
set_option maxHeartbeats 4000000
namespace K25
open PySem L2
/-! ### the table of the rules -/
def lines : List Str := (["add a 0 = a", "sub a 0 = a", "sub a a = 0", "mul a 0 = 0", "mul a 1 = a", "udiv a 1 = a", "urem a 1 = 0", "and a 0 = 0", "and a -1 = a", "and a a = a", "or a 0 = a", "or a -1 = -1", "or a a = a", "xor a 0 = a", "xor a a = 0", "shl a 0 = a", "lshr a 0 = a", "ashr a 0 = a", "eq a a = 1", "ne a a = 0", "ult a a = 0", "ule a a = 1", "slt a a = 0", "sle a a = 1", "select 1 a b = a", "select 0 a b = b", "select c a a = a", "select c 1 0 = c", "ne a 0 = a", "eq a 1 = a", "add m a = add a m", "mul m a = mul a m", "and m a = and a m", "or m a = or a m", "xor m a = xor a m", "eq m a = eq a m", "ne m a = ne a m", "sub a m = add a SUB 0 m", "mul a p = shl a LOG p", "udiv a p = lshr a LOG p", "urem a p = and a SUB p 1", "add add a m n = add a ADD m n", "mul mul a m n = mul a MUL m n", "and and a m n = and a AND m n", "or or a m n = or a OR m n", "xor xor a m n = xor a XOR m n", "sub add a b b = a", "add sub a b b = a", "xor xor a b b = a", "and a or a b = a", "or a and a b = a", "eq add a m n = eq a SUB n m", "xor eq a b 1 = ne a b", "xor ne a b 1 = eq a b", "xor ult a b 1 = ule b a", "xor ule a b 1 = ult b a", "xor slt a b 1 = sle b a", "xor sle a b 1 = slt b a", "trunc zext a = a", "trunc sext a = a", "trunc trunc a = trunc a", "zext zext a = zext a", "sext sext a = sext a"] : List String).map Str.ofString
def rules : List (Str × Str) := ([("add a 0", "a"), ("sub a 0", "a"), ("sub a a", "0"), ("mul a 0", "0"), ("mul a 1", "a"), ("udiv a 1", "a"), ("urem a 1", "0"), ("and a 0", "0"), ("and a -1", "a"), ("and a a", "a"), ("or a 0", "a"), ("or a -1", "-1"), ("or a a", "a"), ("xor a 0", "a"), ("xor a a", "0"), ("shl a 0", "a"), ("lshr a 0", "a"), ("ashr a 0", "a"), ("eq a a", "1"), ("ne a a", "0"), ("ult a a", "0"), ("ule a a", "1"), ("slt a a", "0"), ("sle a a", "1"), ("select 1 a b", "a"), ("select 0 a b", "b"), ("select c a a", "a"), ("select c 1 0", "c"), ("ne a 0", "a"), ("eq a 1", "a"), ("add m a", "add a m"), ("mul m a", "mul a m"), ("and m a", "and a m"), ("or m a", "or a m"), ("xor m a", "xor a m"), ("eq m a", "eq a m"), ("ne m a", "ne a m"), ("sub a m", "add a SUB 0 m"), ("mul a p", "shl a LOG p"), ("udiv a p", "lshr a LOG p"), ("urem a p", "and a SUB p 1"), ("add add a m n", "add a ADD m n"), ("mul mul a m n", "mul a MUL m n"), ("and and a m n", "and a AND m n"), ("or or a m n", "or a OR m n"), ("xor xor a m n", "xor a XOR m n"), ("sub add a b b", "a"), ("add sub a b b", "a"), ("xor xor a b b", "a"), ("and a or a b", "a"), ("or a and a b", "a"), ("eq add a m n", "eq a SUB n m"), ("xor eq a b 1", "ne a b"), ("xor ne a b 1", "eq a b"), ("xor ult a b 1", "ule b a"), ("xor ule a b 1", "ult b a"), ("xor slt a b 1", "sle b a"), ("xor sle a b 1", "slt b a"), ("trunc zext a", "a"), ("trunc sext a", "a"), ("trunc trunc a", "trunc a"), ("zext zext a", "zext a"), ("sext sext a", "sext a")] : List (String × String)).map fun p => (Str.ofString p.1, Str.ofString p.2)
theorem lines_split : lines.map (fun s => Txt.split s " = ") = rules.map fun p => [p.1, p.2] := by decide +kernel
theorem lines_len : ∀ s ∈ lines, s.length + 2 ≤ 1000 := by decide +kernel
/-! ### many written texts -/
def strC : Expr → Option Str
  | .Constant (.str x) _ _ => some x
  | _ => none
theorem strC_of {e : Expr} {c : Str} (h : strC e = some c) : ∃ j p, e = .Constant (.str c) j p := by
  unfold strC at h
  split at h
  · cases h
    exact ⟨_, _, rfl⟩
  · cases h
def tStrs (cs : List Str) : TA := fun _ H Q => Q (cs.map V.str) H
theorem pa_strs {X : Cx} : ∀ {es : List Expr} {cs : List Str}, es.map strC = cs.map some → PA X es (tStrs cs)
  | [], [], _ => pa_nil
  | [], _ :: _, h => by cases h
  | _ :: _, [], h => by cases h
  | e :: es, c :: cs, h => by
    rw [List.map_cons, List.map_cons] at h
    injection h with h1 h2
    obtain ⟨j, p, rfl⟩ := strC_of h1
    have t : PA X (.Constant (.str c) j p :: es) (tCons (tC (.str c)) (tStrs cs)) := pa_cons pe_str (pa_strs h2)
    exact t
local macro_rules | `(tactic| walk_at "ev") => `(tactic| try simp only [wipe, iTup, iList, tBM, tBM0, gSub, tSl, tPart, tNoPart, rSlS, tAndV, tOrV, tNotV, tM0, tM1, tPar3, reduceCtorEq, false_and, exists_false, or_false, false_or, gcons, gnil, gName, tRet, tRetN, tIf, tTest, tOp, tUn, rI0, rI, rU, tVar, tC, tCall, tCons, tNil, tCB, tSeq, tIfS, tAsg, gName, tNext, tDrop, tPar, tB, tAnd, tOr, tNot, tIsN, tNotN, rEq, rNe, L2.start, List.map_cons, List.map_nil, List.length_cons, List.length_nil, List.replicate_succ, List.replicate_zero, List.cons_append, List.nil_append, List.append_nil, List.set_cons_zero, List.set_cons_succ, List.set_nil, Nat.reduceAdd, Nat.reduceSub, Nat.zero_add, Nat.sub_self, Nat.add_zero, Nat.succ_eq_add_one, List.getElem?_cons_zero, List.getElem?_cons_succ, Option.some.injEq, V.int.injEq, V.str.injEq, V.bl.injEq, V.ref.injEq, List.cons.injEq, and_assoc, exists_eq_left', exists_eq_left, exists_and_left, exists_eq', exists_eq_right, exists_eq_right', exists_const, and_true, true_and, and_self, scal_ii, scal_ss, scal_bb, decide_eq_true_eq, ite_bl, Int.one_mul, p2f, abf, reduceIte, Bool.false_eq_true, decide_true, decide_false, Bool.not_true, Bool.not_false, tCalK, tup_n, lst_n, NWrapped, NSigned, NQuotient, NDivided, NShifted, NBinTold, NCmpTold, NCastTold, NIsPure, NFolded, NLDraw, NLAny, NLOf, NLPower, NLNumber, NLForm, NLSigned, NLShift, NLTold, NLCompared, NLCast, NLPure, NLTable, NLRead, NLMadeNumber, NLOpDrawn, NLFolded, NLLettersWidth, NLSide, NLLettersDrawn, NLOpsRight, NLaw])
section
variable {P : Program} {w : World} {K : PySem.W.Frag} {mg : Str → Option Value} {base : Heap}
def RulesAt (K : PySem.W.Frag) (H : Hp) (rs : List V) : Prop := rs.length = rules.length ∧ ∀ (i : Nat) (r : V), rs[i]? = some r → ∃ b l x, r = .ref b ∧ rules[i]? = some (l, x) ∧ SqT K H b [.str l, .str x]
def spTable (K : PySem.W.Frag) : Sp := fun vs H Q _ => vs = [] ∧ ∀ D rs H', Same H H' → H D = none → H' D = some (.lst rs) → RulesAt K H' rs → Q (.ref D) H'
theorem ok_table {f : Addr} {fd : FuncData} (D : Def K mg "_law_table" pLTable sLTable f fd) (m_tuple : mg "tuple" = none) : Cal P w K mg base 1 "_law_table" pLTable (spTable K) := by
  refine D.cal (D.F.ok scLTable (fun vs H Q E h => ?_) (fun cdv A outer s H vs Q E hr h => ?_))
  · obtain ⟨rfl, _⟩ := h
    rfl
  obtain ⟨rfl, q⟩ := h
  have nd := scLTable.nd
  refine ⟨_, (pss_cons (ps_set (i := 0) nd rfl (by first | exact Or.inl rfl | exact Or.inr rfl) (pe_lst (pa_strs (cs := lines) rfl)))
    (pss_one (ps_ret (pe_lc (own := [("_law_one", 1)]) (g := gName 1) (tt := tYes) (by rfl) nd (pi_list (pv 0)) (blkOk_by (own := [("_law_one", 1)]) (N := NLTable) (sc := defScope sLTable) (by decide +kernel)) (fun _ _ _ _ _ => (pg_name (i := 1) nd rfl (by first | exact Or.inl rfl | exact Or.inr rfl))) (fun _ _ _ _ _ => pts_nil) (fun _ _ _ _ _ => (pe_callTy (call_tupleK (K := K) rfl) (by rfl) m_tuple (by decide +kernel) (pa_cons (pe_split (pv 1) pe_str) pa_nil))))))), ?_⟩
  walk_at "ev"
  refine new_l (by rw [List.length_map]; decide +kernel) fun a H1 na s1 e1 => ?_
  refine lcA (K := K) (xs := lines.map V.str) (fun i y H' => ∃ b l x, y = .ref b ∧ rules[i]? = some (l, x) ∧ H' b = some (.tup [.str l, .str x])) (fun i y H2 H3 t ⟨b, l, x, e, r, h⟩ => ⟨b, l, x, e, r, t _ _ h⟩) (fun R k => ⟨_, rfl, a, rfl, ⟨_, SqL.of e1⟩, k a H1 (Same.refl _) (SqL.of e1)⟩)
    (by rw [List.length_map]; decide +kernel) (fun i x H2 hi s2 R k => ?_) (fun D' ys H2 hD s2 e2 l2 p2 => ?_)
  · rw [List.getElem?_map] at hi
    cases hl : lines[i]? with
    | none => rw [hl] at hi; cases hi
    | some c =>
      rw [hl] at hi
      obtain rfl : V.str c = x := Option.some.inj hi
      have hsp : (rules.map fun p => [p.1, p.2])[i]? = some (Txt.split c " = ") := by rw [← lines_split, List.getElem?_map, hl] <;> rfl
      rw [List.getElem?_map] at hsp
      cases hr : rules[i]? with
      | none => rw [hr] at hsp; cases hsp
      | some p =>
        rw [hr] at hsp
        have es : Txt.split c " = " = [p.1, p.2] := (Option.some.inj hsp).symm
        have hz := lines_len c (List.mem_of_getElem? hl)
        walk_at "ev"
        refine ⟨by decide +kernel, Nat.le_of_lt (small1000 hz), fun q1 hq1 => ?_⟩
        rw [es]
        refine ⟨q1, _, rfl, SqL.of upd_same, fun q2 hq2 => ?_⟩
        exact k _ _ ((same_new hq1 _).trans (same_new hq2 _)) ⟨q2, p.1, p.2, rfl, hr, upd_same⟩
  · refine q D' ys H2 (s1.trans s2) (s1.free hD) e2 ⟨by rw [l2, List.length_map]; decide +kernel, fun i r hr => ?_⟩
    obtain ⟨b, l, x, e, r', h⟩ := p2 i r hr
    exact ⟨b, l, x, e, r', SqT.of h⟩
end
end K25

set_option Elab.async false
set_option linter.all false
set_option maxRecDepth 100000
set_option maxHeartbeats 4000000
namespace K25
open PySem L2
/-! ### forms: a word and the forms of its args -/
inductive Form where
  | leaf (w : Str)
  | one (w : Str) (a : Form)
  | two (w : Str) (a b : Form)
  | three (w : Str) (a b c : Form)
  deriving DecidableEq
def Form.w : Form → Str
  | .leaf w => w | .one w _ => w | .two w _ _ => w | .three w _ _ _ => w
def Form.args : Form → List Form
  | .leaf _ => [] | .one _ a => [a] | .two _ a b => [a, b] | .three _ a b c => [a, b, c]
def mkF (w : Str) : List Form → Form
  | [] => .leaf w
  | [a] => .one w a
  | [a, b] => .two w a b
  | a :: b :: c :: _ => .three w a b c
def leafs : List V := [.str "a", .str "b", .str "c", .str "m", .str "n", .str "p", .str "0", .str "1", .str "-1"]
def ones : List V := [.str "zext", .str "sext", .str "trunc", .str "LOG"]
def many (w : Str) : Nat := if inV (.str w) leafs then 0 else if inV (.str w) ones then 1 else if w = "select" then 3 else 2
theorem many_le (w : Str) : many w ≤ 3 := by
  unfold many
  split
  · omega
  · split
    · omega
    · split <;> omega
/-- one word more, from the last one on -/
def push (st : List Form) (w : Str) : Option (List Form) := if many w ≤ st.length then some (mkF w (st.take (many w)) :: st.drop (many w)) else none
def pushAll (st : List Form) : List Str → Option (List Form)
  | [] => some st
  | w :: ws => match push st w with
    | none => none
    | some st' => pushAll st' ws
def readF (ws : List Str) : Option Form := match pushAll [] ws.reverse with
  | some [f] => some f
  | _ => none
/-! how a form stands (its lists apart from the one at L) -/
section
variable (K : PySem.W.Frag) (H : Hp) (L : Addr)
def FormAt : V → Form → Prop
  | v, .leaf w => ∃ p l, v = .ref p ∧ SqT K H p [.str w, .ref l] ∧ SqL K H l [] ∧ l ≠ L
  | v, .one w a => ∃ p l q, v = .ref p ∧ SqT K H p [.str w, .ref l] ∧ SqL K H l [q] ∧ l ≠ L ∧ FormAt q a
  | v, .two w a b => ∃ p l q r, v = .ref p ∧ SqT K H p [.str w, .ref l] ∧ SqL K H l [q, r] ∧ l ≠ L ∧ FormAt q a ∧ FormAt r b
  | v, .three w a b c => ∃ p l q r s, v = .ref p ∧ SqT K H p [.str w, .ref l] ∧ SqL K H l [q, r, s] ∧ l ≠ L ∧ FormAt q a ∧ FormAt r b ∧ FormAt s c
def StAt : List V → List Form → Prop
  | [], [] => True
  | q :: qs, f :: fs => FormAt K H L q f ∧ StAt qs fs
  | _, _ => False
end
section
variable {K : PySem.W.Frag} {H H' : Hp} {L : Addr}
theorem FormAt.imp (ht : ∀ {b : Addr} {xs : List V}, SqT K H b xs → SqT K H' b xs) (hl : ∀ {b : Addr} {xs : List V}, b ≠ L → SqL K H b xs → SqL K H' b xs) : ∀ {f : Form} {v : V}, FormAt K H L v f → FormAt K H' L v f
  | .leaf w, v, ⟨p, l, e, h1, h2, n⟩ => ⟨p, l, e, ht h1, hl n h2, n⟩
  | .one w a, v, ⟨p, l, q, e, h1, h2, n, ha⟩ => ⟨p, l, q, e, ht h1, hl n h2, n, ha.imp ht hl⟩
  | .two w a b, v, ⟨p, l, q, r, e, h1, h2, n, ha, hb⟩ => ⟨p, l, q, r, e, ht h1, hl n h2, n, ha.imp ht hl, hb.imp ht hl⟩
  | .three w a b c, v, ⟨p, l, q, r, s, e, h1, h2, n, ha, hb, hc⟩ => ⟨p, l, q, r, s, e, ht h1, hl n h2, n, ha.imp ht hl, hb.imp ht hl, hc.imp ht hl⟩
theorem FormAt.same {f : Form} {v : V} (s : Same H H') (h : FormAt K H L v f) : FormAt K H' L v f := h.imp (fun h => same_tup s h) (fun _ h => Same.seq s h)
theorem StAt.imp (ht : ∀ {b : Addr} {xs : List V}, SqT K H b xs → SqT K H' b xs) (hl : ∀ {b : Addr} {xs : List V}, b ≠ L → SqL K H b xs → SqL K H' b xs) : ∀ {qs : List V} {fs : List Form}, StAt K H L qs fs → StAt K H' L qs fs
  | [], [], _ => trivial
  | _ :: _, _ :: _, ⟨h, r⟩ => ⟨h.imp ht hl, r.imp ht hl⟩
  | [], _ :: _, h => h.elim
  | _ :: _, [], h => h.elim
theorem StAt.same {qs : List V} {fs : List Form} (s : Same H H') (h : StAt K H L qs fs) : StAt K H' L qs fs := h.imp (fun h => same_tup s h) (fun _ h => Same.seq s h)
theorem StAt.len : ∀ {qs : List V} {fs : List Form}, StAt K H L qs fs → qs.length = fs.length
  | [], [], _ => rfl
  | _ :: _, _ :: _, ⟨_, r⟩ => by simp [r.len]
  | [], _ :: _, h => h.elim
  | _ :: _, [], h => h.elim
theorem StAt.take : ∀ {qs : List V} {fs : List Form} (n : Nat), StAt K H L qs fs → StAt K H L (qs.take n) (fs.take n)
  | _, _, 0, _ => by simp [StAt]
  | [], [], n + 1, h => trivial
  | _ :: _, _ :: _, n + 1, ⟨h, r⟩ => ⟨h, r.take n⟩
  | [], _ :: _, _ + 1, h => h.elim
  | _ :: _, [], _ + 1, h => h.elim
theorem StAt.drop : ∀ {qs : List V} {fs : List Form} (n : Nat), StAt K H L qs fs → StAt K H L (qs.drop n) (fs.drop n)
  | _, _, 0, h => h
  | [], [], n + 1, h => trivial
  | _ :: _, _ :: _, n + 1, ⟨h, r⟩ => r.drop n
  | [], _ :: _, _ + 1, h => h.elim
  | _ :: _, [], _ + 1, h => h.elim
theorem StAt.cons {qs : List V} {f : Form} {fs : List Form} (h : StAt K H L qs (f :: fs)) : ∃ q r, qs = q :: r ∧ FormAt K H L q f ∧ StAt K H L r fs := by
  cases qs with
  | nil => exact h.elim
  | cons q r => exact ⟨q, r, rfl, h.1, h.2⟩
theorem StAt.nil {qs : List V} (h : StAt K H L qs []) : qs = [] := by
  cases qs with
  | nil => rfl
  | cons q r => exact h.elim
theorem StAt.get : ∀ {qs : List V} {fs : List Form} {i : Nat} {q : V}, StAt K H L qs fs → qs[i]? = some q → ∃ g, fs[i]? = some g ∧ FormAt K H L q g
  | [], [], i, q, _, e => by simp at e
  | q :: qs, f :: fs, 0, _, ⟨h, r⟩, z => ⟨f, rfl, by rw [← Option.some.inj z]; exact h⟩
  | q :: qs, f :: fs, i + 1, _, ⟨_, r⟩, z => r.get (i := i) (by simpa using z)
  | [], _ :: _, _, _, h, _ => h.elim
  | _ :: _, [], _, _, h, _ => h.elim
theorem FormAt.mk {p l : Addr} {w : Str} {qs : List V} {fs : List Form} (hp : SqT K H p [.str w, .ref l]) (hl : SqL K H l qs) (n : l ≠ L) (hs : StAt K H L qs fs) (h3 : fs.length ≤ 3) : FormAt K H L (.ref p) (mkF w fs) := by
  match fs, hs, h3 with
  | [], hs, _ =>
    rw [hs.nil] at hl
    exact ⟨p, l, rfl, hp, hl, n⟩
  | [a], hs, _ =>
    obtain ⟨q, r, rfl, ha, hs⟩ := hs.cons
    rw [hs.nil] at hl
    exact ⟨p, l, q, rfl, hp, hl, n, ha⟩
  | [a, b], hs, _ =>
    obtain ⟨q, r, rfl, ha, hs⟩ := hs.cons
    obtain ⟨q', r, rfl, hb, hs⟩ := hs.cons
    rw [hs.nil] at hl
    exact ⟨p, l, q, q', rfl, hp, hl, n, ha, hb⟩
  | [a, b, c], hs, _ =>
    obtain ⟨q, r, rfl, ha, hs⟩ := hs.cons
    obtain ⟨q', r, rfl, hb, hs⟩ := hs.cons
    obtain ⟨q'', r, rfl, hc, hs⟩ := hs.cons
    rw [hs.nil] at hl
    exact ⟨p, l, q, q', q'', rfl, hp, hl, n, ha, hb, hc⟩
  | _ :: _ :: _ :: _ :: _, _, h3 => exact absurd h3 (by simp)
theorem FormAt.un {v : V} : ∀ {f : Form}, FormAt K H L v f → ∃ p l qs, v = .ref p ∧ SqT K H p [.str f.w, .ref l] ∧ SqL K H l qs ∧ StAt K H L qs f.args
  | .leaf w, ⟨p, l, e, h1, h2, n⟩ => ⟨p, l, _, e, h1, h2, trivial⟩
  | .one w a, ⟨p, l, q, e, h1, h2, n, ha⟩ => ⟨p, l, _, e, h1, h2, ha, trivial⟩
  | .two w a b, ⟨p, l, q, r, e, h1, h2, n, ha, hb⟩ => ⟨p, l, _, e, h1, h2, ha, hb, trivial⟩
  | .three w a b c, ⟨p, l, q, r, s, e, h1, h2, n, ha, hb, hc⟩ => ⟨p, l, _, e, h1, h2, ha, hb, hc, trivial⟩
end
def spRead (K : PySem.W.Frag) : Sp := fun vs H Q _ => ∃ (a : Addr) (ws : List Str) (f : Form), vs = [.ref a] ∧ SqL K H a (ws.map V.str) ∧ ws.length ≤ 20 ∧ readF ws = some f ∧ ∀ v L H', Same H H' → FormAt K H' L v f → Q v H'
/-- the loop of _law_read -/
def WRead (K : PySem.W.Frag) (ws : List Str) (fm : Form) (a L : Addr) (H : Hp) (p : Addr) (i : Nat) (σ : L2.St) (H' : Hp) : Prop :=
  ∃ (st : List Form) (qs : List V) (c2 c3 c4 c5 : Option V), σ = [some (.ref a), some (.ref L), c2, c3, c4, c5] ∧ pushAll st (ws.reverse.drop i) = some [fm] ∧ H' L = some (.lst qs.reverse) ∧ StAt K H' L qs st ∧ qs.length ≤ i ∧
    H' p = some (.lst (ws.map V.str).reverse) ∧ p ≠ L ∧ Same H H'
local macro_rules | `(tactic| walk_at "ev") => `(tactic| try simp only [wipe, iTup, iList, tBM, tBM0, gSub, tSl, tPart, tNoPart, rSlS, tAndV, tOrV, tNotV, tM0, tM1, tPar3, reduceCtorEq, false_and, exists_false, or_false, false_or, gcons, gnil, gName, tRet, tRetN, tIf, tTest, tOp, tUn, rI0, rI, rU, tVar, tC, tCall, tCons, tNil, tCB, tSeq, tIfS, tAsg, gName, tNext, tDrop, tPar, tB, tAnd, tOr, tNot, tIsN, tNotN, rEq, rNe, L2.start, List.map_cons, List.map_nil, List.length_cons, List.length_nil, List.replicate_succ, List.replicate_zero, List.cons_append, List.nil_append, List.append_nil, List.set_cons_zero, List.set_cons_succ, List.set_nil, Nat.reduceAdd, Nat.reduceSub, Nat.zero_add, Nat.sub_self, Nat.add_zero, Nat.succ_eq_add_one, List.getElem?_cons_zero, List.getElem?_cons_succ, Option.some.injEq, V.int.injEq, V.str.injEq, V.bl.injEq, V.ref.injEq, List.cons.injEq, and_assoc, exists_eq_left', exists_eq_left, exists_and_left, exists_eq', exists_eq_right, exists_eq_right', exists_const, and_true, true_and, and_self, scal_ii, scal_ss, scal_bb, decide_eq_true_eq, ite_bl, Int.one_mul, p2f, abf, reduceIte, Bool.false_eq_true, decide_true, decide_false, Bool.not_true, Bool.not_false, tCalK, tup_n, lst_n, NWrapped, NSigned, NQuotient, NDivided, NShifted, NBinTold, NCmpTold, NCastTold, NIsPure, NFolded, NLDraw, NLAny, NLOf, NLPower, NLNumber, NLForm, NLSigned, NLShift, NLTold, NLCompared, NLCast, NLPure, NLTable, NLRead, NLMadeNumber, NLOpDrawn, NLFolded, NLLettersWidth, NLSide, NLLettersDrawn, NLOpsRight, NLaw])
section
variable {P : Program} {w : World} {K : PySem.W.Frag} {mg : Str → Option Value} {base : Heap}
theorem in_newL {x : V} {cs : List V} {H : Hp} {neg : Bool} {Q : VK} (hx : flatV x = true) (hc : cs.all flatV = true) (hz : cs.length ≤ 1000) (q : ∀ H2, Same H H2 → Q (.bl (if neg then !inV x cs else inV x cs)) H2) : newL (fun y H1 => rIn K neg x y H1 Q) cs H :=
  in_lst hx hc (Nat.le_of_lt (small1000 hz)) q
theorem ok_read {f : Addr} {fd : FuncData} (D : Def K mg "_law_read" pLRead sLRead f fd) (m_range : mg "range" = none) : Cal P w K mg base 1 "_law_read" pLRead (spRead K) := by
  refine D.cal (D.F.ok scLRead (fun vs H Q E h => ?_) (fun cdv A outer s H vs Q E hr h => ?_))
  · obtain ⟨_, _, _, rfl, _⟩ := h
    rfl
  obtain ⟨a, ws, fm, rfl, hx, hl, hf, q⟩ := h
  have nd := scLRead.nd
  refine ⟨_, (pss_cons (ps_set (i := 1) nd rfl (by first | exact Or.inl rfl | exact Or.inr rfl) (pe_lst pa_nil))
    (pss_cons (ps_for PassesOwn.never rfl (pi_list (pe_revL (pv 0))) (pg_name (i := 2) nd rfl (by first | exact Or.inl rfl | exact Or.inr rfl)) (pss_cons (ps_set (i := 3) nd rfl (by first | exact Or.inl rfl | exact Or.inr rfl) (pe_ifExp (pt_cmpR (r := rIn K false) op_in_seq (pv 2) (pe_lst (pa_cons pe_str (pa_cons pe_str (pa_cons pe_str (pa_cons pe_str (pa_cons pe_str (pa_cons pe_str (pa_cons pe_str (pa_cons pe_str (pa_cons pe_str pa_nil)))))))))) (by rfl)) pe_int (pe_ifExp (pt_cmpR (r := rIn K false) op_in_seq (pv 2) (pe_lst (pa_cons pe_str (pa_cons pe_str (pa_cons pe_str (pa_cons pe_str pa_nil))))) (by rfl)) pe_int (pe_ifExp (pt_cmpR op_eq (pv 2) pe_str (nomark _)) pe_int pe_int))))
    (pss_cons (ps_setLc (i := 4) (own := [("_law_turn", 5)]) (g := gName 5) (tt := tYes) (by rfl) nd rfl rfl (sw_true rfl rfl rfl (by decide +kernel)) (pi_range1 (by rfl) m_range (pa_cons (pv 3) pa_nil)) (blkOk_by (own := [("_law_turn", 5)]) (N := NLRead) (sc := defScope sLRead) (by decide +kernel)) (fun _ _ _ _ _ => (pg_name (i := 5) nd rfl (by first | exact Or.inl rfl | exact Or.inr rfl))) (fun _ _ _ _ _ => pts_nil) (fun _ _ _ _ _ => (pe_popK (K := K) rfl (pv 1))))
    (pss_one (ps_expr (pe_bm PySem.F.plainAttrs_list PySem.F.slot_list_append PySem.F.type_list_append mt_append (pv 1) (pa_cons (pe_tup (pa_cons (pv 2) (pa_cons (pv 4) pa_nil))) pa_nil)))))))
    (pss_one (ps_ret (pe_ix (r := rIxL K) ix_list (pv 1) pe_int (fun _ _ => rfl)))))), ?_⟩
  walk_at "ev"
  have hp0 : pushAll [] ws.reverse = some [fm] := by
    unfold readF at hf
    split at hf
    · rename_i f' e
      rw [e, Option.some.inj hf]
    · cases hf
  refine new_l (by show 0 ≤ 1000; decide) fun L H1 nL s1 e1 => ?_
  refine Evl.s_forNL (K := K) (xs := (ws.map V.str).reverse) (fun H2 e R k => ⟨_, rfl, a, _, rfl, Same.seq (Same.trans s1 e) hx, fun p hp => k p _ hp (same_new hp _) upd_same⟩)
    (fun p i σ H' => WRead K ws fm a L H p i σ H') (fun p H2 np s2 e2 => ?_) (fun p i σ H' _ w => ?_) (fun p i x σ H' hi w => ?_) (fun p σ H' w => ?_)
  · refine ⟨[], [], none, none, none, none, rfl, hp0, s2 _ _ e1, trivial, Nat.le_refl _, e2, ?_, s1.trans s2⟩
    rintro rfl
    rw [e1] at np
    cases np
  · obtain ⟨_, _, _, _, _, _, _, _, _, _, _, h, _⟩ := w
    exact SqL.of h
  · obtain ⟨st, qs, c2, c3, c4, c5, rfl, hp, hL, hS, hq, hpl, npL', sm⟩ := w
    rw [← List.map_reverse, List.getElem?_map] at hi
    cases hw : ws.reverse[i]? with
    | none => rw [hw] at hi; cases hi
    | some wd =>
      rw [hw] at hi
      obtain rfl : V.str wd = x := Option.some.inj hi
      have hi20 : i < 20 := by
        have := (List.getElem?_eq_some_iff.mp hw).1
        rw [List.length_reverse] at this
        omega
      have hdr : ws.reverse.drop i = wd :: ws.reverse.drop (i + 1) := by
        obtain ⟨h1, h2⟩ := List.getElem?_eq_some_iff.mp hw
        rw [List.drop_eq_getElem_cons h1]; rw [h2]
      rw [hdr] at hp
      have m3 := many_le wd
      obtain ⟨st', hpu, hp'⟩ : ∃ st', push st wd = some st' ∧ pushAll st' (ws.reverse.drop (i + 1)) = some [fm] := by
        unfold pushAll at hp
        cases hpu : push st wd with
        | none => rw [hpu] at hp; cases hp
        | some st' => rw [hpu] at hp; exact ⟨st', rfl, hp⟩
      have hm : many wd ≤ st.length ∧ st' = mkF wd (st.take (many wd)) :: st.drop (many wd) := by
        unfold push at hpu
        by_cases h : many wd ≤ st.length
        · rw [if_pos h] at hpu
          exact ⟨h, (Option.some.inj hpu).symm⟩
        · rw [if_neg h] at hpu
          cases hpu
      have hql : qs.length = st.length := hS.len
      -- how many args
      refine Evl.q_asg (v := .int (many wd : Nat)) (fun H2 e R k => ?_) fun H2 e2 => ?_
      · walk_at "ev"
        refine in_newL rfl rfl (by show 9 ≤ 1000; decide) fun H3 s3 => ?_
        walk_at "ev"
        refine ite2 (fun c => ?_) (fun c => ?_)
        · have z : many wd = 0 := by unfold many leafs ones; rw [if_pos c]
          rw [z] at k
          exact k H3 s3
        · refine in_newL rfl rfl (by show 4 ≤ 1000; decide) fun H4 s4 => ?_
          walk_at "ev"
          refine ite2 (fun c2 => ?_) (fun c2 => ?_)
          · have z : many wd = 1 := by unfold many leafs ones; rw [if_neg c, if_pos c2]
            rw [z] at k
            exact k H4 (Same.trans s3 s4)
          · refine ite2 (fun c3 => ?_) (fun c3 => ?_)
            · have z : many wd = 3 := by unfold many leafs ones; rw [if_neg c, if_neg c2, if_pos c3]
              rw [z] at k
              exact k H4 (Same.trans s3 s4)
            · have z : many wd = 2 := by unfold many leafs ones; rw [if_neg c, if_neg c2, if_neg c3]
              rw [z] at k
              exact k H4 (Same.trans s3 s4)
      replace hL := e2 _ _ hL
      replace hS := hS.same e2
      replace hpl := e2 _ _ hpl
      replace sm := Same.trans sm e2
      walk_at "ev"
      -- the args are popped
      refine ⟨_, rfl, (many wd : Nat), rfl, by omega, by omega, fun Dl hD => ?_⟩
      have nDL : Dl ≠ L := fun e => by rw [e, hL] at hD; cases hD
      have hDp : Dl ≠ p := fun e => by rw [e, hpl] at hD; cases hD
      refine lc_range (lo := 0) (n := ((many wd : Nat) : Int).toNat) (fun j H3 => H3 L = some (.lst (qs.drop j).reverse) ∧ H3 Dl = some (.lst (qs.take j)) ∧ ∀ b o, b ≠ L → H2 b = some o → H3 b = some o) ⟨?_, ?_, ?_⟩ (fun j H3 hj w => ?_) (fun H3 w => ?_)
      · rw [upd_ne (Ne.symm nDL)]
        exact hL
      · exact upd_same
      · intro b o hb h
        rw [upd_ne (ne_of_none h hD)]
        exact h
      · obtain ⟨w1, w2, w3⟩ := w
        have hjl : j < qs.length := by omega
        walk_at "ev"
        have ed : qs.drop j = qs[j] :: qs.drop (j + 1) := List.drop_eq_getElem_cons hjl
        rw [ed, List.reverse_cons] at w1
        refine ⟨tyl w1, popl w1 ?_⟩
        have et : qs.take (j + 1) = qs.take j ++ [qs[j]] := by rw [List.take_succ_eq_append_getElem hjl]
        refine ⟨qs.take j, ?_, ?_, ?_, ?_, ?_⟩
        · rw [upd_ne nDL]
          exact w2
        · rw [List.length_take]
          exact Nat.lt_of_le_of_lt (by omega : _ ≤ 3) (by decide)
        · rw [upd_ne (Ne.symm nDL), upd_same]
        · rw [upd_same, et]
        · intro b o hb h
          rw [upd_ne (ne_of_none h hD), upd_ne hb]
          exact w3 b o hb h
      · obtain ⟨w1, w2, w3⟩ := w
        rw [Int.toNat_natCast] at w1 w2
        refine ⟨tyl w1, new_t (by show 2 ≤ 1000; decide) fun pt H4 npt s4 e4 => ?_⟩
        have hL4 := s4 _ _ w1
        have npL : pt ≠ L := fun e => by rw [e, w1] at npt; cases npt
        refine appl hL4 (by rw [List.length_reverse, List.length_drop]; omega) ?_
        have keepT : ∀ {b : Addr} {xs : List V}, SqT K H2 b xs → SqT K (upd H4 L (.lst ((qs.drop (many wd)).reverse ++ [.ref pt]))) b xs := fun {b xs} h => by
          rcases h with (h | ⟨o, h⟩) | h
          · have ne := ne_of h hL (fun z => by cases z)
            exact .inl (.inl (by rw [upd_ne ne]; exact s4 _ _ (w3 _ _ ne h)))
          · have ne := ne_of h hL (fun z => by cases z)
            exact .inl (.inr ⟨o, by rw [upd_ne ne]; exact s4 _ _ (w3 _ _ ne h)⟩)
          · exact .inr h
        have keepL : ∀ {b : Addr} {xs : List V}, b ≠ L → SqL K H2 b xs → SqL K (upd H4 L (.lst ((qs.drop (many wd)).reverse ++ [.ref pt]))) b xs := fun {b xs} ne h => by
          rcases h with (h | ⟨o, h⟩) | h
          · exact .inl (.inl (by rw [upd_ne ne]; exact s4 _ _ (w3 _ _ ne h)))
          · exact .inl (.inr ⟨o, by rw [upd_ne ne]; exact s4 _ _ (w3 _ _ ne h)⟩)
          · exact .inr h
        refine ⟨st', .ref pt :: qs.drop (many wd), _, _, _, _, rfl, hp', ?_, ?_, ?_, ?_, npL', ?_⟩
        · rw [upd_same, List.reverse_cons]
        · rw [hm.2]
          refine ⟨FormAt.mk (SqT.of (by rw [upd_ne npL]; exact e4)) (SqL.of (by rw [upd_ne nDL]; exact s4 _ _ w2)) nDL ((hS.take (many wd)).imp keepT keepL) (by rw [List.length_take]; omega), (hS.drop (many wd)).imp keepT keepL⟩
        · rw [List.length_cons, List.length_drop]
          omega
        · rw [upd_ne npL']
          exact s4 _ _ (w3 _ _ npL' hpl)
        · intro b o h
          have hb : b ≠ L := fun e => by
            rw [e] at h
            rw [nL] at h
            cases h
          rw [upd_ne hb]
          exact s4 _ _ (w3 _ _ hb (sm _ _ h))
  · obtain ⟨st, qs, c2, c3, c4, c5, rfl, hp, hL, hS, hq, hpl, npL, sm⟩ := w
    rw [List.length_reverse, List.length_map, List.drop_of_length_le (by rw [List.length_reverse]; exact Nat.le_refl _)] at hp
    have e0 : st = [fm] := Option.some.inj hp
    subst e0
    obtain ⟨q0, r, rfl, hq0, hr'⟩ := hS.cons
    rw [hr'.nil] at hL
    walk_at "ev"
    exact ixl (SqL.of hL) rfl (q q0 L H' sm hq0)
end
end K25

set_option Elab.async false
set_option linter.all false
set_option maxRecDepth 100000
set_option maxHeartbeats 4000000
namespace K25
open PySem L2
/-! ### letters: a dict of pairs -/
abbrev Lets := List (Str × V × Int)
def KvAt (K : PySem.W.Frag) (H : Hp) : List (Key × V) → Lets → Prop
  | [], [] => True
  | (k, v) :: r, (s, x, n) :: l => k = Sum.inr s ∧ (∃ q, v = .ref q ∧ H q = some (.tup [x, .int n])) ∧ KvAt K H r l
  | _, _ => False
def LetAt (K : PySem.W.Frag) (H : Hp) (p : Addr) (ls : Lets) : Prop := ∃ kvs, H p = some (.dK kvs) ∧ KvAt K H kvs ls
def lk : Lets → Str → Option (V × Int)
  | [], _ => none
  | (s, x, n) :: r, y => if s = y then some (x, n) else lk r y
def letterWords : List Str := ["a", "b", "c", "m", "n", "p"]
def LetOk (ls : Lets) : Prop := (∀ e ∈ ls, e.1 ∈ letterWords) ∧ (ls.map (·.1)).Nodup
section
variable {K : PySem.W.Frag} {H H' : Hp}
theorem KvAt.imp (ht : Tups H H') : ∀ {kvs : List (Key × V)} {ls : Lets}, KvAt K H kvs ls → KvAt K H' kvs ls
  | [], [], _ => trivial
  | (_, _) :: _, (_, _, _) :: _, ⟨h1, ⟨q, e, h2⟩, h3⟩ => ⟨h1, ⟨q, e, ht _ _ h2⟩, h3.imp ht⟩
  | [], _ :: _, h => h.elim
  | _ :: _, [], h => h.elim
theorem LetAt.same {p : Addr} {ls : Lets} (s : Same H H') (h : LetAt K H p ls) : LetAt K H' p ls := by
  obtain ⟨kvs, h1, h2⟩ := h
  exact ⟨kvs, s _ _ h1, h2.imp (Tups.of s)⟩
theorem KvAt.look {y : Str} : ∀ {kvs : List (Key × V)} {ls : Lets}, KvAt K H kvs ls → (lk ls y = none ∧ valV kvs (Sum.inr y) = none) ∨ ∃ x n q, lk ls y = some (x, n) ∧ valV kvs (Sum.inr y) = some (.ref q) ∧ H q = some (.tup [x, .int n])
  | [], [], _ => .inl ⟨rfl, rfl⟩
  | (k, v) :: r, (s, x, n) :: l, ⟨h1, ⟨q, e, h2⟩, h3⟩ => by
    subst h1 e
    by_cases hs : s = y
    · exact .inr ⟨x, n, q, by unfold lk; rw [if_pos hs], valV_pos (by rw [hs]), h2⟩
    · have hk : ¬ (Sum.inr s : Key) = Sum.inr y := fun z => hs (Sum.inr.inj z)
      rcases h3.look (y := y) with ⟨a, b⟩ | ⟨x', n', q', a, b, c⟩
      · exact .inl ⟨by unfold lk; rw [if_neg hs, a], by rw [valV_neg hk, b]⟩
      · exact .inr ⟨x', n', q', by unfold lk; rw [if_neg hs, a], by rw [valV_neg hk, b], c⟩
  | [], _ :: _, h => h.elim
  | _ :: _, [], h => h.elim
end
theorem lk_mem : ∀ {ls : Lets} {y : Str} {r : V × Int}, lk ls y = some r → ∃ e ∈ ls, e.1 = y
  | [], _, _, h => by cases h
  | (s, x, n) :: r, y, _, h => by
    by_cases hs : s = y
    · exact ⟨_, List.mem_cons_self, hs⟩
    · unfold lk at h
      rw [if_neg hs] at h
      obtain ⟨e, h1, h2⟩ := lk_mem h
      exact ⟨e, List.mem_cons_of_mem _ h1, h2⟩
theorem lk_word {ls : Lets} (ok : LetOk ls) {y : Str} (h : y ∉ letterWords) : lk ls y = none := by
  cases e : lk ls y with
  | none => rfl
  | some r =>
    obtain ⟨z, h1, h2⟩ := lk_mem e
    exact absurd (h2 ▸ ok.1 z h1) h
/-! ### readings of a dict, by its letters -/
def dIn (x y : V) (H : Hp) (Q : VK) : Prop := ∃ a o, x = .ref a ∧ DGet H a y o ∧ Q (.bl o.isSome) H
def dNotIn (x y : V) (H : Hp) (Q : VK) : Prop := ∃ a o, x = .ref a ∧ DGet H a y o ∧ Q (.bl (!o.isSome)) H
def dGet (x y : V) (H : Hp) (Q : VK) : Prop := ∃ a v, x = .ref a ∧ DGet H a y (some v) ∧ Q v H
theorem dIn_n {ty td : TE} {σ : L2.St} {H : Hp} {Q : VK} : tDIn ty td σ H Q = ty σ H fun y H1 => td σ H1 fun x H2 => dIn x y H2 Q := rfl
theorem dNotIn_n {ty td : TE} {σ : L2.St} {H : Hp} {Q : VK} : tDNotIn ty td σ H Q = ty σ H fun y H1 => td σ H1 fun x H2 => dNotIn x y H2 Q := rfl
theorem dGet_n {ty td : TE} {σ : L2.St} {H : Hp} {Q : VK} : tDGet td ty σ H Q = td σ H fun x H1 => ty σ H1 fun y H2 => dGet x y H2 Q := rfl
section
variable {K : PySem.W.Frag} {H : Hp} {p : Addr} {ls : Lets} {y : Str} {Q : VK}
theorem LetAt.get (h : LetAt K H p ls) : (lk ls y = none ∧ DGet H p (.str y) none) ∨ ∃ x n q, lk ls y = some (x, n) ∧ DGet H p (.str y) (some (.ref q)) ∧ H q = some (.tup [x, .int n]) := by
  obtain ⟨kvs, h1, h2⟩ := h
  rcases h2.look (y := y) with ⟨a, b⟩ | ⟨x, n, q, a, b, c⟩
  · exact .inl ⟨a, by rw [← b]; exact DGet.k (k := Sum.inr y) h1⟩
  · exact .inr ⟨x, n, q, a, by rw [← b]; exact DGet.k (k := Sum.inr y) h1, c⟩
theorem dIn_s (h : LetAt K H p ls) (q : Q (.bl (lk ls y).isSome) H) : dIn (.ref p) (.str y) H Q := by
  rcases h.get (y := y) with ⟨a, b⟩ | ⟨x, n, t, a, b, c⟩ <;> (rw [a] at q; exact ⟨p, _, rfl, b, q⟩)
theorem dNotIn_s (h : LetAt K H p ls) (q : Q (.bl (!(lk ls y).isSome)) H) : dNotIn (.ref p) (.str y) H Q := by
  rcases h.get (y := y) with ⟨a, b⟩ | ⟨x, n, t, a, b, c⟩ <;> (rw [a] at q; exact ⟨p, _, rfl, b, q⟩)
theorem dGet_s (h : LetAt K H p ls) {r : V × Int} (e : lk ls y = some r) (q : ∀ t, H t = some (.tup [r.1, .int r.2]) → Q (.ref t) H) : dGet (.ref p) (.str y) H Q := by
  rcases h.get (y := y) with ⟨a, b⟩ | ⟨x, n, t, a, b, c⟩
  · rw [a] at e
    cases e
  · rw [a] at e
    cases e
    exact ⟨p, _, rfl, b, q t c⟩
end
/-! ### the number that a form of numbers makes -/
def upOp (x : Str) : Option BOp :=
  if x = "ADD" then some .add else if x = "SUB" then some .sub else if x = "MUL" then some .mul else if x = "AND" then some .and else if x = "OR" then some .or else if x = "XOR" then some .xor else none
def logP (n : Int) : Option Int := ((List.range 65).find? fun (k : Nat) => decide (p2 (k : Int) = n)).map fun (k : Nat) => (k : Int)
def num (w : Int) (L : Str → Option (V × Int)) : Form → Option Int
  | .leaf x => if x = "0" then some 0 else if x = "1" then some 1 else if x = "-1" then some (p2 w - 1) else (L x).map (·.2)
  | .one x a => if x = "LOG" then (num w L a).bind logP else none
  | .two x a b => match upOp x, num w L a, num w L b with
    | some o, some m, some n => if (0 ≤ m ∧ m < p2 w) ∧ 0 ≤ n ∧ n < p2 w then told o w m n else none
    | _, _, _ => none
  | .three _ _ _ _ => none
def Form.depth : Form → Nat
  | .leaf _ => 1
  | .one _ a => a.depth + 1
  | .two _ a b => max a.depth b.depth + 1
  | .three _ a b c => max a.depth (max b.depth c.depth) + 1
def spNum (K : PySem.W.Frag) (d : Nat) : Sp := fun vs H Q _ => ∃ (f lp L : Addr) (w n : Int) (fm : Form) (ls : Lets), vs = [.ref f, .int w, .ref lp] ∧ FormAt K H L (.ref f) fm ∧ LetAt K H lp ls ∧ LetOk ls ∧ Wd w ∧ num w (lk ls) fm = some n ∧ fm.depth ≤ d ∧ ∀ H', Same H H' → Q (.int n) H'
local macro_rules | `(tactic| walk_at "ev") => `(tactic| try simp only [wipe, iTup, iList, tBM, tBM0, gSub, tSl, tPart, tNoPart, rSlS, tAndV, tOrV, tNotV, tM0, tM1, tPar3, reduceCtorEq, false_and, exists_false, or_false, false_or, gcons, gnil, gName, tRet, tRetN, tIf, tTest, tOp, tUn, rI0, rI, rU, tVar, tC, tCall, tCons, tNil, tCB, tSeq, tIfS, tAsg, gName, tNext, tDrop, tPar, tB, tAnd, tOr, tNot, tIsN, tNotN, rEq, rNe, L2.start, List.map_cons, List.map_nil, List.length_cons, List.length_nil, List.replicate_succ, List.replicate_zero, List.cons_append, List.nil_append, List.append_nil, List.set_cons_zero, List.set_cons_succ, List.set_nil, Nat.reduceAdd, Nat.reduceSub, Nat.zero_add, Nat.sub_self, Nat.add_zero, Nat.succ_eq_add_one, List.getElem?_cons_zero, List.getElem?_cons_succ, Option.some.injEq, V.int.injEq, V.str.injEq, V.bl.injEq, V.ref.injEq, List.cons.injEq, and_assoc, exists_eq_left', exists_eq_left, exists_and_left, exists_eq', exists_eq_right, exists_eq_right', exists_const, and_true, true_and, and_self, scal_ii, scal_ss, scal_bb, decide_eq_true_eq, ite_bl, Int.one_mul, p2f, abf, reduceIte, Bool.false_eq_true, decide_true, decide_false, Bool.not_true, Bool.not_false, tCalK, dIn_n, dNotIn_n, dGet_n, tup_n, lst_n, NWrapped, NSigned, NQuotient, NDivided, NShifted, NBinTold, NCmpTold, NCastTold, NIsPure, NFolded, NLDraw, NLAny, NLOf, NLPower, NLNumber, NLForm, NLSigned, NLShift, NLTold, NLCompared, NLCast, NLPure, NLTable, NLRead, NLMadeNumber, NLOpDrawn, NLFolded, NLLettersWidth, NLSide, NLLettersDrawn, NLOpsRight, NLaw])
section
variable {P : Program} {w : World} {K : PySem.W.Frag} {mg : Str → Option Value} {base : Heap}
theorem inV_strs (x : Str) : ∀ cs : List Str, inV (.str x) (cs.map V.str) = decide (x ∈ cs)
  | [] => by simp [inV]
  | c :: cs => by
    have ih := inV_strs x cs
    unfold inV at ih ⊢
    rw [List.map_cons, List.any_cons, ih]
    show (c == x || decide (x ∈ cs)) = decide (x ∈ c :: cs)
    by_cases e : c = x
    · subst e
      simp
    · have e2 : (c == x) = false := beq_eq_false_iff_ne.mpr e
      rw [e2]
      simp [Ne.symm e]
theorem nums_no {x : Str} (h0 : ¬ x = "0") (h1 : ¬ x = "1") (h2 : ¬ x = "-1") : ¬ inV (.str x) [.str "0", .str "1", .str "-1"] = true := by
  have e : inV (.str x) [.str "0", .str "1", .str "-1"] = decide (x ∈ (["0", "1", "-1"] : List Str)) := inV_strs x ["0", "1", "-1"]
  rw [e]
  simp [h0, h1, h2]
theorem log_given {m n : Int} (h : logP m = some n) : atI (Evl.given 65 (fun k => decide (p2 (k : Int) = m)) (fun k => .int (k : Int))) 0 = some (.int n) := by
  refine atI_nat (j := 0) ?_
  unfold Evl.given
  rw [List.getElem?_map, ← List.head?_eq_getElem?, List.head?_filter]
  unfold logP at h
  cases hf : (List.range 65).find? (fun (k : Nat) => decide (p2 (k : Int) = m)) with
  | none => rw [hf] at h; cases h
  | some k =>
    rw [hf] at h
    have e : (k : Int) = n := Option.some.inj h
    rw [← e] <;> rfl
theorem upOp_of {x : Str} {o : BOp} (h : upOp x = some o) : inV (.str x) [.str "0", .str "1", .str "-1"] = false ∧ x ∉ letterWords ∧ (¬ x = "LOG") ∧ Txt.lower x = o.s ∧ x.length ≤ 5592405 := by
  unfold upOp at h
  by_cases h1 : x = "ADD"
  · subst h1; rw [if_pos rfl] at h; cases h; decide +kernel
  rw [if_neg h1] at h
  by_cases h1 : x = "SUB"
  · subst h1; rw [if_pos rfl] at h; cases h; decide +kernel
  rw [if_neg h1] at h
  by_cases h1 : x = "MUL"
  · subst h1; rw [if_pos rfl] at h; cases h; decide +kernel
  rw [if_neg h1] at h
  by_cases h1 : x = "AND"
  · subst h1; rw [if_pos rfl] at h; cases h; decide +kernel
  rw [if_neg h1] at h
  by_cases h1 : x = "OR"
  · subst h1; rw [if_pos rfl] at h; cases h; decide +kernel
  rw [if_neg h1] at h
  by_cases h1 : x = "XOR"
  · subst h1; rw [if_pos rfl] at h; cases h; decide +kernel
  rw [if_neg h1] at h
  cases h
/-- the numbers of the args -/
theorem forms_num {l lp Lx : Addr} {qs : List V} {fs : List Form} {ns : List Int} {d j : Nat} {w : Int} {ls : Lets} {wi : TI} {te : TE} {σ : L2.St} {H : Hp} {Q : VK} (h2 : SqL K H l qs) (hs : StAt K H Lx qs fs) (hl : LetAt K H lp ls) (hok : LetOk ls) (hw : Wd w)
    (hn : fs.map (num w (lk ls)) = ns.map some) (hd : ∀ g ∈ fs, g.depth ≤ d) (h3 : fs.length ≤ 3) (hwi : ∀ R : It → Hp → Prop, R (Itl K l) H → wi σ H R)
    (he : ∀ (q' : V) (H' : Hp) (R : VK), spNum K d [q', .int w, .ref lp] H' R E0 → te ((wipe σ [j]).set j (some q')) H' R)
    (q : ∀ D H2, H D = none → Same H H2 → H2 D = some (.lst (ns.map V.int)) → Q (.ref D) H2) : tLc wi (gName j) tYes te [j] σ H Q := by
  refine lcA (K := K) (xs := qs) (fun i y _ => ∃ m, ns[i]? = some m ∧ y = .int m) (fun _ _ _ _ _ h => h) (fun R k => hwi R (k l H (Same.refl _) h2)) (by rw [hs.len]; omega) (fun i x H2 hi s2 R k => ?_) (fun D ys H2 hD s2 e2 l2 p2 => ?_)
  · obtain ⟨g, hg, hat⟩ := hs.get hi
    have hm : (fs.map (num w (lk ls)))[i]? = (ns.map some)[i]? := by rw [hn]
    rw [List.getElem?_map, List.getElem?_map, hg] at hm
    cases hni : ns[i]? with
    | none => rw [hni] at hm; cases hm
    | some m =>
      rw [hni] at hm
      have hm' : num w (lk ls) g = some m := Option.some.inj hm
      obtain ⟨p, lx, qx, rfl, _⟩ := hat.un
      refine ⟨by simp [wipe], he _ _ _ ⟨p, lp, Lx, w, m, g, ls, rfl, hat.same s2, hl.same s2, hok, hw, hm', hd g (List.mem_of_getElem? hg), fun H' s' => k _ _ s' ⟨m, hni, rfl⟩⟩⟩
  · refine q D H2 hD s2 ?_
    have en : ns.length = ys.length := by
      have := congrArg List.length hn
      rw [List.length_map, List.length_map] at this
      rw [l2, hs.len, this]
    have ey : ys = ns.map V.int := by
      refine List.ext_getElem? fun i => ?_
      rw [List.getElem?_map]
      by_cases hi : i < ys.length
      · rw [List.getElem?_eq_getElem hi]
        obtain ⟨m, hm, e⟩ := p2 i _ (List.getElem?_eq_getElem hi)
        rw [hm, e] <;> rfl
      · rw [List.getElem?_eq_none (by omega), List.getElem?_eq_none (by omega)] <;> rfl
    rw [e2, ey]
theorem ok_num_step {f : Addr} {fd : FuncData} {d : Nat} (D : Def K mg "_law_made_number" pLMadeNumber sLMadeNumber f fd) (C__law_made_number : Cal P w K mg base (d + 4) "_law_made_number" pLMadeNumber (spNum K d)) (C__law_told : Cal P w K mg base 4 "_law_told" pLTold spBin)
    (C__law_power : Cal P w K mg base 1 "_law_power" pLPower spPower) (m_int : mg "int" = none) (m_range : mg "range" = none) : FnOk P w K mg base CX0 (d + 1 + 4) f fd pLMadeNumber (spNum K (d + 1)) := by
  refine D.F.ok scLMadeNumber (fun vs H Q E h => ?_) (fun cdv A outer s H vs Q E hr h => ?_)
  · obtain ⟨_, _, _, _, _, _, _, rfl, _⟩ := h
    rfl
  obtain ⟨f, lp, L, w, n, fm, ls, rfl, hf, hl, hok, hw, hn, hd, q⟩ := h
  have nd := scLMadeNumber.nd
  refine ⟨_, (pss_cons (ps_asg (pv 0) (pg_tup (n := 2) (by rfl) (pgs_cons (pg_name (i := 4) nd rfl (by first | exact Or.inl rfl | exact Or.inr rfl)) (pgs_cons (pg_name (i := 5) nd rfl (by first | exact Or.inl rfl | exact Or.inr rfl)) pgs_nil))))
    (pss_cons (ps_if (pt_cmpR (r := rIn K false) op_in_seq (pv 4) (pe_lst (pa_cons pe_str (pa_cons pe_str (pa_cons pe_str pa_nil)))) (by rfl)) (pss_one (ps_ret (pe_ifExp (pt_cmpR op_eq (pv 4) pe_str (nomark _)) (pe_op op_sub (pe_cal C__law_power hr (by omega) (by rfl) (pa_cons (pv 1) pa_nil)) pe_int) (pe_callTy call_int_str (by rfl) m_int (by decide +kernel) (pa_cons (pv 4) pa_nil))))) pss_nil)
    (pss_cons (ps_if (pt_cmp (pc_din (hu_of hr) (pv 4) (pv 2))) (pss_one (ps_ret (pe_ix (r := rIxT K) ix_tup (pe_dget (hu_of hr) (pv 2) (pv 4) (fun _ _ => rfl)) pe_int (fun _ _ => rfl)))) pss_nil)
    (pss_cons (ps_set (i := 3) nd rfl (by first | exact Or.inl rfl | exact Or.inr rfl) (pe_lc (own := [("_law_arg", 6)]) (g := gName 6) (tt := tYes) (by rfl) nd (pi_list (pv 5)) (blkOk_by (own := [("_law_arg", 6)]) (N := NLMadeNumber) (sc := defScope sLMadeNumber) (by decide +kernel)) (fun _ _ _ _ _ => (pg_name (i := 6) nd rfl (by first | exact Or.inl rfl | exact Or.inr rfl))) (fun _ _ _ _ _ => pts_nil) (fun _ _ _ _ _ => (pe_cal C__law_made_number hr (by omega) (by rfl) (pa_cons (pv 6) (pa_cons (pv 1) (pa_cons (pv 2) pa_nil)))))))
    (pss_cons (ps_if (pt_cmpR op_eq (pv 4) pe_str (nomark _)) (pss_one (ps_ret (pe_ix (r := rIxL K) ix_list (pe_lc (own := [("_law_k", 7)]) (g := gName 7)  (by rfl) nd (pi_range1 (by rfl) m_range (pa_cons pe_int pa_nil)) (blkOk_by (own := [("_law_k", 7)]) (N := NLMadeNumber) (sc := defScope sLMadeNumber) (by decide +kernel)) (fun _ _ _ _ _ => (pg_name (i := 7) nd rfl (by first | exact Or.inl rfl | exact Or.inr rfl))) (fun _ _ _ _ _ => (pts_one (pt_cmpR op_eq (pe_cal C__law_power hr (by omega) (by rfl) (pa_cons (pv 7) pa_nil)) (pe_ix (r := rIxL K) ix_list (pv 3) pe_int (fun _ _ => rfl)) (nomark _)))) (fun _ _ _ _ _ => (pv 7))) pe_int (fun _ _ => rfl)))) pss_nil)
    (pss_one (ps_ret (pe_cal C__law_told hr (by omega) (by rfl) (pa_cons (pe_lower (pv 4)) (pa_cons (pv 1) (pa_cons (pe_ix (r := rIxL K) ix_list (pv 3) pe_int (fun _ _ => rfl)) (pa_cons (pe_ix (r := rIxL K) ix_list (pv 3) pe_int (fun _ _ => rfl)) pa_nil)))))))))))), ?_⟩
  walk_at "ev"
  obtain ⟨p, l, qs, e, h1, h2, h3⟩ := hf.un
  obtain rfl : f = p := V.ref.inj e
  have hw' : 0 ≤ w ∧ w ≤ 64 := ⟨by have := hw.1; omega, hw.2⟩
  refine unp_got h1 rfl ?_
  walk_at "ev"
  refine in_newL rfl rfl (by show 3 ≤ 1000; decide) fun H1 s1 => ?_
  walk_at "ev"
  replace hl := hl.same s1
  -- behind the first two tests
  cases fm with
  | leaf x =>
    simp only [num] at hn
    by_cases x0 : x = "0"
    · subst x0
      rw [if_pos rfl] at hn
      obtain rfl : (0 : Int) = n := Option.some.inj hn
      refine ite_p rfl (ite_n (by show ¬ ("0" : Str) = "-1"; decide +kernel) ⟨0, by decide +kernel, by decide +kernel, q H1 s1⟩)
    rw [if_neg x0] at hn
    by_cases x1 : x = "1"
    · subst x1
      rw [if_pos rfl] at hn
      obtain rfl : (1 : Int) = n := Option.some.inj hn
      refine ite_p rfl (ite_n (by show ¬ ("1" : Str) = "-1"; decide +kernel) ⟨1, by decide +kernel, by decide +kernel, q H1 s1⟩)
    rw [if_neg x1] at hn
    by_cases x2 : x = "-1"
    · subst x2
      rw [if_pos rfl] at hn
      obtain rfl : p2 w - 1 = n := Option.some.inj hn
      refine ite_p rfl (ite_p rfl ⟨_, rfl, hw', ?_⟩)
      walk_at "ev"
      exact q H1 s1
    rw [if_neg x2] at hn
    refine ite_n (nums_no x0 x1 x2) (dIn_s hl ?_)
    walk_at "ev"
    show if (lk ls x).isSome = true then _ else _
    cases hx : lk ls x with
    | none => rw [hx] at hn; cases hn
    | some r =>
      rw [hx] at hn
      obtain rfl : r.2 = n := Option.some.inj hn
      refine iteT (dGet_s hl hx fun t ht => ixt (SqT.of ht) rfl (q H1 s1))
  | one x a =>
    simp only [num] at hn
    by_cases hx : x = "LOG"
    · subst hx
      rw [if_pos rfl] at hn
      cases ha : num w (lk ls) a with
      | none => rw [ha] at hn; cases hn
      | some m =>
        rw [ha] at hn
        refine ite_n (by show ¬ inV (.str "LOG") _ = true; decide +kernel) (dIn_s hl ?_)
        have e0 : lk ls (Form.one "LOG" a).w = none := lk_word hok (by show ("LOG" : Str) ∉ letterWords; decide +kernel)
        rw [e0]
        walk_at "ev"
        refine iteF ?_
        refine forms_num (K := K) (lp := lp) (Lx := L) (d := d) (w := w) (ls := ls) (h2 := Same.seq s1 h2) (hs := h3.same s1) hl hok hw (ns := [m]) (by simp [Form.args, ha]) (fun g hg => by
          simp only [Form.args, List.mem_singleton] at hg
          subst hg
          simp only [Form.depth] at hd
          omega) (by show 1 ≤ 3; decide) (fun R k => by exact ⟨_, rfl, l, rfl, ⟨_, Same.seq s1 h2⟩, k⟩) (fun q' H' R k => by walk_at "ev"; exact k) fun D1 H2 hD1 s2 e2 => ?_
        refine ite_p rfl ?_
        have sz := s1.trans s2
        refine Evl.el_lcR1 (n := 65) (fun k => decide (p2 (k : Int) = m)) (fun k => .int (k : Int)) (fun H3 _ Q' q' => q' H3 (Same.refl _)) (by decide) (fun x => rfl) (fun k H3 e3 hk => ?_) (fun k H3 e3 hk _ => Evl.ev_var rfl) H2 (Same.refl _) _ (fun D2 H3 hD2 s3 e3 => ?_)
        · intro H4 e4 Q' q'
          walk_at "ev"
          refine ⟨_, rfl, by omega, ?_⟩
          walk_at "ev"
          refine ixl (SqL.of (e4 _ _ (e3 _ _ e2))) (v := .int m) rfl ⟨rfl, ?_⟩
          have z : decide (V.int (p2 (k : Int)) = V.int m) = decide (p2 (k : Int) = m) := by
            by_cases c : p2 (k : Int) = m
            · rw [decide_eq_true c, decide_eq_true (by rw [c])]
            · rw [decide_eq_false c, decide_eq_false (fun y => c (V.int.inj y))]
          rw [z]
          exact q' _ (Same.refl _)
        · exact ixl (SqL.of e3) (v := .int n) (log_given hn) (q H3 (sz.trans s3))
    · rw [if_neg hx] at hn
      cases hn
  | two x a b =>
    simp only [num] at hn
    cases ho : upOp x with
    | none => rw [ho] at hn; cases hn
    | some o =>
      cases hma : num w (lk ls) a with
      | none => rw [ho, hma] at hn; cases hn
      | some m =>
        cases hnb : num w (lk ls) b with
        | none => rw [ho, hma, hnb] at hn; cases hn
        | some k =>
          rw [ho, hma, hnb] at hn
          simp only at hn
          have hin : (0 ≤ m ∧ m < p2 w) ∧ 0 ≤ k ∧ k < p2 w := by
            by_cases c : (0 ≤ m ∧ m < p2 w) ∧ 0 ≤ k ∧ k < p2 w
            · exact c
            · rw [if_neg c] at hn; cases hn
          rw [if_pos hin] at hn
          obtain ⟨hx1, hx2, hx3, hx4, hx5⟩ := upOp_of ho
          refine ite_n (by rw [show (Form.two x a b).w = x from rfl, hx1]; exact Bool.false_ne_true) (dIn_s hl ?_)
          have e0 : lk ls (Form.two x a b).w = none := lk_word hok hx2
          rw [e0]
          walk_at "ev"
          refine iteF ?_
          refine forms_num (K := K) (lp := lp) (Lx := L) (d := d) (w := w) (ls := ls) (h2 := Same.seq s1 h2) (hs := h3.same s1) hl hok hw (ns := [m, k]) (by simp [Form.args, hma, hnb]) (fun g hg => by
            simp only [Form.args, List.mem_cons, List.not_mem_nil, or_false] at hg
            simp only [Form.depth] at hd
            rcases hg with rfl | rfl <;> omega) (by show 2 ≤ 3; decide) (fun R k => by exact ⟨_, rfl, l, rfl, ⟨_, Same.seq s1 h2⟩, k⟩) (fun q' H' R k => by walk_at "ev"; exact k) fun D1 H2 hD1 s2 e2 => ?_
          refine ite_n hx3 ⟨hx5, ixl (SqL.of e2) rfl (ixl (SqL.of e2) rfl ⟨o, w, m, k, ?_, hw, hin.1, hin.2, fun H3 s3 => ?_⟩)⟩
          · rw [show (Form.two x a b).w = x from rfl, hx4]
          · rw [hn]
            exact q H3 ((s1.trans s2).trans s3)
  | three x a b c => cases hn
theorem ok_num {f : Addr} {fd : FuncData} (D : Def K mg "_law_made_number" pLMadeNumber sLMadeNumber f fd) (C__law_told : Cal P w K mg base 4 "_law_told" pLTold spBin)
    (C__law_power : Cal P w K mg base 1 "_law_power" pLPower spPower) (m_int : mg "int" = none) (m_range : mg "range" = none) : ∀ d : Nat, FnOk P w K mg base CX0 (d + 4) f fd pLMadeNumber (spNum K d)
  | 0 => by
    have no : ∀ vs H Q E, ¬ spNum K 0 vs H Q E := fun vs H Q E h => by
      obtain ⟨_, _, _, _, _, fm, _, _, _, _, _, _, _, hd, _⟩ := h
      cases fm <;> simp [Form.depth] at hd
    exact ⟨fun vs H Q E h => absurd h (no vs H Q E), fun A outer s H args us vs Q E _ _ _ _ h => absurd h (no vs H Q E)⟩
  | d + 1 => ok_num_step D (D.cal (ok_num D C__law_told C__law_power m_int m_range d)) C__law_told C__law_power m_int m_range
end
end K25

set_option Elab.async false
set_option linter.all false
set_option maxRecDepth 100000
set_option maxHeartbeats 4000000
namespace K25
open PySem L2
/-! ### the width of the letters -/
def isNumW (x : Str) : Bool := decide (x = "0") || decide (x = "1") || decide (x = "-1")
def isLet (x : Str) : Bool := decide (x ∈ letterWords)
def lw (L : Str → Option (V × Int)) : Form → Option V
  | .leaf x => (L x).map (·.1)
  | .one x a => if isLet x then none else if isNumW a.w then none else lw L a
  | .two x a b => if isLet x then none else if isNumW a.w then (if isNumW b.w then none else lw L b) else lw L a
  | .three _ _ _ _ => none
theorem given0 {n : Nat} {f : Nat → Bool} {v : Nat → V} : (Evl.given n f v)[0]? = ((List.range n).find? f).map v := by
  unfold Evl.given
  rw [List.getElem?_map, ← List.head?_eq_getElem?, List.head?_filter]
theorem num_words (x : Str) : inV (.str x) [.str "0", .str "1", .str "-1"] = isNumW x := by
  have e : inV (.str x) [.str "0", .str "1", .str "-1"] = decide (x ∈ (["0", "1", "-1"] : List Str)) := inV_strs x ["0", "1", "-1"]
  rw [e]
  unfold isNumW
  simp [Bool.decide_or, Bool.or_assoc]
theorem not_let {x : Str} {ls : Lets} (ok : LetOk ls) (h : isLet x = false) : lk ls x = none := lk_word ok (of_decide_eq_false h)
theorem lw_some {ls : Lets} {fm : Form} {r : V × Int} {v : V} (ok : LetOk ls) (h1 : lk ls fm.w = some r) (h2 : lw (lk ls) fm = some v) : r.1 = v := by
  have nl : ∀ x, lk ls x = some r → isLet x = true := fun x hx => by
    cases e : isLet x with
    | true => rfl
    | false => rw [not_let ok e] at hx; cases hx
  cases fm with
  | leaf x =>
    simp only [lw] at h2
    rw [show lk ls x = some r from h1] at h2
    exact Option.some.inj h2
  | one x a =>
    simp only [lw] at h2
    rw [if_pos (nl x h1)] at h2
    cases h2
  | two x a b =>
    simp only [lw] at h2
    rw [if_pos (nl x h1)] at h2
    cases h2
  | three x a b c => cases h2
theorem Form.args_le (f : Form) : f.args.length ≤ 3 := by cases f <;> simp [Form.args]
theorem lw_step {ls : Lets} {fm : Form} {v : V} (ok : LetOk ls) (h1 : lk ls fm.w = none) (h2 : lw (lk ls) fm = some v) :
    ∃ i g, (List.range fm.args.length).find? (fun i => !isNumW (fm.args.getD i fm).w) = some i ∧ fm.args[i]? = some g ∧ lw (lk ls) g = some v ∧ g.depth < fm.depth := by
  cases fm with
  | leaf x =>
    simp only [lw] at h2
    rw [show lk ls x = none from h1] at h2
    cases h2
  | one x a =>
    simp only [lw] at h2
    split at h2
    · cases h2
    · split at h2
      · cases h2
      · rename_i c
        refine ⟨0, a, ?_, rfl, h2, by simp [Form.depth]⟩
        show ([0].find? _) = some 0
        rw [List.find?_cons_of_pos (by simpa [Form.args] using c)]
  | two x a b =>
    simp only [lw] at h2
    split at h2
    · cases h2
    · split at h2
      · rename_i c
        split at h2
        · cases h2
        · rename_i c2
          refine ⟨1, b, ?_, rfl, h2, by simp [Form.depth]; omega⟩
          show ([0, 1].find? _) = some 1
          rw [List.find?_cons_of_neg (by simpa [Form.args] using c), List.find?_cons_of_pos (by simpa [Form.args] using c2)]
      · rename_i c
        refine ⟨0, a, ?_, rfl, h2, by simp [Form.depth]; omega⟩
        show ([0, 1].find? _) = some 0
        rw [List.find?_cons_of_pos (by simpa [Form.args] using c)]
  | three x a b c => cases h2
def spLW (K : PySem.W.Frag) : Sp := fun vs H Q _ => ∃ (f lp L : Addr) (fm : Form) (ls : Lets) (v : V), vs = [.ref f, .ref lp] ∧ FormAt K H L (.ref f) fm ∧ LetAt K H lp ls ∧ LetOk ls ∧ lw (lk ls) fm = some v ∧ ∀ H', Same H H' → Q v H'
/-- the loop of _law_letters_width -/
def WLW (K : PySem.W.Frag) (H : Hp) (L lp : Addr) (ls : Lets) (v : V) (m : Nat) (σ : L2.St) (H' : Hp) : Prop :=
  ∃ (f : Addr) (fm : Form) (o : Option V), σ = [some (.ref f), some (.ref lp), o] ∧ m = fm.depth ∧ FormAt K H' L (.ref f) fm ∧ lw (lk ls) fm = some v ∧ Same H H'
local macro_rules | `(tactic| walk_at "ev") => `(tactic| try simp only [wipe, iTup, iList, tBM, tBM0, gSub, tSl, tPart, tNoPart, rSlS, tAndV, tOrV, tNotV, tM0, tM1, tPar3, reduceCtorEq, false_and, exists_false, or_false, false_or, gcons, gnil, gName, tRet, tRetN, tIf, tTest, tOp, tUn, rI0, rI, rU, tVar, tC, tCall, tCons, tNil, tCB, tSeq, tIfS, tAsg, gName, tNext, tDrop, tPar, tB, tAnd, tOr, tNot, tIsN, tNotN, rEq, rNe, L2.start, List.map_cons, List.map_nil, List.length_cons, List.length_nil, List.replicate_succ, List.replicate_zero, List.cons_append, List.nil_append, List.append_nil, List.set_cons_zero, List.set_cons_succ, List.set_nil, Nat.reduceAdd, Nat.reduceSub, Nat.zero_add, Nat.sub_self, Nat.add_zero, Nat.succ_eq_add_one, List.getElem?_cons_zero, List.getElem?_cons_succ, Option.some.injEq, V.int.injEq, V.str.injEq, V.bl.injEq, V.ref.injEq, List.cons.injEq, and_assoc, exists_eq_left', exists_eq_left, exists_and_left, exists_eq', exists_eq_right, exists_eq_right', exists_const, and_true, true_and, and_self, scal_ii, scal_ss, scal_bb, decide_eq_true_eq, ite_bl, Int.one_mul, p2f, abf, reduceIte, Bool.false_eq_true, decide_true, decide_false, Bool.not_true, Bool.not_false, tCalK, dIn_n, dNotIn_n, dGet_n, tup_n, lst_n, NWrapped, NSigned, NQuotient, NDivided, NShifted, NBinTold, NCmpTold, NCastTold, NIsPure, NFolded, NLDraw, NLAny, NLOf, NLPower, NLNumber, NLForm, NLSigned, NLShift, NLTold, NLCompared, NLCast, NLPure, NLTable, NLRead, NLMadeNumber, NLOpDrawn, NLFolded, NLLettersWidth, NLSide, NLLettersDrawn, NLOpsRight, NLaw])
section
variable {P : Program} {w : World} {K : PySem.W.Frag} {mg : Str → Option Value} {base : Heap}
theorem ok_lw {f : Addr} {fd : FuncData} (D : Def K mg "_law_letters_width" pLLettersWidth sLLettersWidth f fd) : Cal P w K mg base 1 "_law_letters_width" pLLettersWidth (spLW K) := by
  refine D.cal (D.F.ok scLLettersWidth (fun vs H Q E h => ?_) (fun cdv A outer s H vs Q E hr h => ?_))
  · obtain ⟨_, _, _, _, _, _, rfl, _⟩ := h
    rfl
  obtain ⟨f, lp, L, fm, ls, v, rfl, hf, hl, hok, hlw, q⟩ := h
  have nd := scLLettersWidth.nd
  refine ⟨_, (Evl.pss_cut (ps_while PassesOwn.never (pt_cmp (pc_dnotin (hu_of hr) (pe_ix (r := rIxT K) ix_tup (pv 0) pe_int (fun _ _ => rfl)) (pv 1))) (pss_one (ps_set (i := 0) nd rfl (by first | exact Or.inl rfl | exact Or.inr rfl) (pe_ix (r := rIxL K) ix_list (pe_lc (own := [("_law_arg", 2)]) (g := gName 2)  (by rfl) nd (pi_list (pe_ix (r := rIxT K) ix_tup (pv 0) pe_int (fun _ _ => rfl))) (blkOk_by (own := [("_law_arg", 2)]) (N := NLLettersWidth) (sc := defScope sLLettersWidth) (by decide +kernel)) (fun _ _ _ _ _ => (pg_name (i := 2) nd rfl (by first | exact Or.inl rfl | exact Or.inr rfl))) (fun _ _ _ _ _ => (pts_one (pt_cmpR (r := rIn K true) op_notIn_seq (pe_ix (r := rIxT K) ix_tup (pv 2) pe_int (fun _ _ => rfl)) (pe_lst (pa_cons pe_str (pa_cons pe_str (pa_cons pe_str pa_nil)))) (by rfl)))) (fun _ _ _ _ _ => (pv 2))) pe_int (fun _ _ => rfl)))))
    (pss_one (ps_ret (pe_ix (r := rIxT K) ix_tup (pe_dget (hu_of hr) (pv 1) (pe_ix (r := rIxT K) ix_tup (pv 0) pe_int (fun _ _ => rfl)) (fun _ _ => rfl)) pe_int (fun _ _ => rfl))))), ?_⟩
  refine ⟨fun σ H' => ∃ f fm o r, σ = [some (.ref f), some (.ref lp), o] ∧ FormAt K H' L (.ref f) fm ∧ lk ls fm.w = some r ∧ r.1 = v ∧ Same H H', ⟨fun m σ H' => WLW K H L lp ls v m σ H', ⟨_, f, fm, none, rfl, rfl, hf, hlw, Same.refl H⟩, ?_⟩, ?_⟩
  · rintro m σ H1 ⟨f, fm, o, rfl, rfl, hf, hlw, s1⟩
    obtain ⟨p, l, qs, e, h1, h2, h3⟩ := hf.un
    obtain rfl : f = p := V.ref.inj e
    walk_at "ev"
    refine ixt h1 rfl (dNotIn_s (hl.same s1) ?_)
    walk_at "ev"
    cases hlk : lk ls fm.w with
    | some r =>
      refine iteF ?_
      exact ⟨fm, hf, r, hlk, lw_some hok hlk hlw, s1⟩
    | none =>
      refine iteT ?_
      obtain ⟨i, g, hfi, hgi, hg, hgd⟩ := lw_step hok hlk hlw
      have hlen : qs.length = fm.args.length := h3.len
      have a3 := fm.args_le
      refine ⟨fun σ' H' => WLW K H L lp ls v g.depth σ' H', fun σ' H' w => ⟨_, hgd, w⟩, ?_⟩
      refine Evl.el_lcL (K := K) (a := l) (xs := qs) (fun i => !isNumW (fm.args.getD i fm).w) (fun i => qs.getD i .non) (fun H2 e2 Q' q' => ?_) h2 (by omega) (fun x => rfl) (fun j x H2 e2 hj => ?_) (fun j x H2 e2 hj _ => ?_) H1 (Same.refl _) _ (fun D2 H2 hD2 s2 e2 => ?_)
      · walk_at "ev"
        exact ixt (same_tup e2 h1) rfl (q' H2 (Same.refl _))
      · intro H3 e3 Q' q'
        obtain ⟨g', hg', hat⟩ := h3.get hj
        have eg : fm.args.getD j fm = g' := by rw [List.getD_eq_getElem?_getD, hg'] <;> rfl
        rw [eg] at q'
        obtain ⟨p', l', qs', e', k1, k2, k3⟩ := hat.un
        subst e'
        walk_at "ev"
        refine ixt (same_tup (Same.trans e2 e3) k1) rfl (in_newL rfl rfl (by show 3 ≤ 1000; decide) fun H4 s4 => ?_)
        walk_at "ev"
        rw [num_words]
        exact q' H4 s4
      · have ex : qs.getD j .non = x := by rw [List.getD_eq_getElem?_getD, hj] <;> rfl
        rw [ex]
        exact Evl.ev_var rfl
      · have e0 : (Evl.given qs.length (fun i => !isNumW (fm.args.getD i fm).w) (fun i => qs.getD i .non))[0]? = some (qs.getD i .non) := by
          rw [given0, hlen, hfi] <;> rfl
        have hi : i < qs.length := by
          have := (List.getElem?_eq_some_iff.mp hgi).1
          omega
        obtain ⟨g', hg', hat⟩ := h3.get (List.getElem?_eq_getElem hi)
        rw [hgi] at hg'
        obtain rfl : g = g' := Option.some.inj hg'
        have ei : qs.getD i .non = qs[i] := by rw [List.getD_eq_getElem?_getD, List.getElem?_eq_getElem hi] <;> rfl
        rw [ei] at e0
        obtain ⟨p', l', qs', e', _⟩ := hat.un
        refine ixl (SqL.of e2) (v := qs[i]) (atI_nat (j := 0) e0) ?_
        rw [e'] at hat ⊢
        exact ⟨p', g, o, rfl, rfl, hat.same s2, hg, s1.trans s2⟩
  · rintro σ H1 ⟨f, fm, o, r, rfl, hf, hlk, er, s1⟩
    obtain ⟨p, l, qs, e, h1, h2, h3⟩ := hf.un
    obtain rfl : f = p := V.ref.inj e
    walk_at "ev"
    refine ixt h1 rfl (dGet_s (hl.same s1) hlk fun t ht => ixt (SqT.of ht) rfl ?_)
    rw [er]
    exact q H1 s1
end
end K25

set_option Elab.async false
set_option linter.all false
set_option maxRecDepth 100000
set_option maxHeartbeats 4000000
namespace K25
open PySem L2
/-! ### what a side tells -/
def csOf (x : Str) : Option Cs := if x = "zext" then some .zext else if x = "sext" then some .sext else if x = "trunc" then some .trunc else none
def cpOf (x : Str) : Option CP := if x = "eq" then some .eq else if x = "ne" then some .ne else if x = "ult" then some .ult else if x = "ule" then some .ule else if x = "slt" then some .slt else if x = "sle" then some .sle else none
def boOf (x : Str) : Option BOp :=
  if x = "add" then some .add else if x = "sub" then some .sub else if x = "mul" then some .mul else if x = "udiv" then some .udiv else if x = "urem" then some .urem else if x = "and" then some .and else if x = "or" then some .or else if x = "xor" then some .xor
  else if x = "shl" then some .shl else if x = "lshr" then some .lshr else if x = "ashr" then some .ashr else none
def wdb (w : Int) : Bool := decide (1 ≤ w ∧ w ≤ 64)
def inb (w n : Int) : Bool := decide (0 ≤ n ∧ n < p2 w)
def side (mid : Int) (L : Str → Option (V × Int)) : Form → Int → Option (Int × Int)
  | .leaf x, w => match L x with
    | some (.int v, n) => some (v, n)
    | some _ => none
    | none => if isNumW x then (num w L (.leaf x)).map fun n => (w, n) else none
  | .one x a, w => if x = "LOG" then (num w L (.one x a)).map fun n => (w, n) else match csOf x, side mid L a mid with
    | some c, some r => if wdb r.1 then some (w, cst c r.1 w r.2) else none
    | _, _ => none
  | .two x a b, w => match upOp x with
    | some _ => (num w L (.two x a b)).map fun n => (w, n)
    | none => match cpOf x with
      | some c => match lw L (.two x a b) with
        | some (.int ww) => match side mid L a ww, side mid L b ww with
          | some r, some s => if wdb ww && inb ww r.2 && inb ww s.2 then some (1, b2n (comp c ww r.2 s.2)) else none
          | _, _ => none
        | _ => none
      | none => match boOf x, side mid L a w, side mid L b w with
        | some o, some r, some s => if inb w r.2 && inb w s.2 then (told o w r.2 s.2).map fun n => (w, n) else none
        | _, _, _ => none
  | .three x c a b, w => if x = "select" then match side mid L c 1, side mid L a w, side mid L b w with
      | some r, some s, some t => some (if r.2 = 1 then s else t)
      | _, _, _ => none
    else none
def spSide (K : PySem.W.Frag) (d : Nat) : Sp := fun vs H Q _ => ∃ (f lp L : Addr) (w mid rw rn : Int) (fm : Form) (ls : Lets), vs = [.ref f, .int w, .int mid, .ref lp] ∧ FormAt K H L (.ref f) fm ∧ LetAt K H lp ls ∧ LetOk ls ∧ ls.length ≤ 10 ∧ Wd w ∧ Wd mid ∧ side mid (lk ls) fm w = some (rw, rn) ∧ fm.depth ≤ d ∧ d ≤ 5 ∧
  ∀ p H', Same H H' → H' p = some (.tup [.int rw, .int rn]) → Q (.ref p) H'
/-! ### the numbers alone of some letters -/
def plain (ls : Lets) : Lets := ls.map fun e => (e.1, .str "n", e.2.2)
theorem lk_plain (y : Str) : ∀ ls : Lets, (lk (plain ls) y).map (·.2) = (lk ls y).map (·.2)
  | [] => rfl
  | (s, x, n) :: r => by
    have ih := lk_plain y r
    show (if s = y then some (V.str "n", n) else lk (plain r) y).map (·.2) = (if s = y then some (x, n) else lk r y).map (·.2)
    by_cases e : s = y
    · rw [if_pos e, if_pos e] <;> rfl
    · rw [if_neg e, if_neg e]
      exact ih
theorem num_congr {w : Int} {L L' : Str → Option (V × Int)} (h : ∀ x, (L x).map (·.2) = (L' x).map (·.2)) : ∀ f : Form, num w L f = num w L' f
  | .leaf x => by simp only [num, h]
  | .one x a => by simp only [num, num_congr h a]
  | .two x a b => by simp only [num, num_congr h a, num_congr h b]
  | .three x a b c => rfl
theorem plain_ok {ls : Lets} (h : LetOk ls) : LetOk (plain ls) := by
  refine ⟨fun e he => ?_, ?_⟩
  · obtain ⟨z, hz, rfl⟩ := List.mem_map.mp he
    exact h.1 z hz
  · have e : (plain ls).map (·.1) = ls.map (·.1) := by
      unfold plain
      rw [List.map_map] <;> rfl
    rw [e]
    exact h.2
theorem KvAt.at {K : PySem.W.Frag} {H : Hp} : ∀ {kvs : List (Key × V)} {ls : Lets} {i : Nat} {k : Key} {v : V}, KvAt K H kvs ls → kvs[i]? = some (k, v) → ∃ s x n q, ls[i]? = some (s, x, n) ∧ k = Sum.inr s ∧ v = .ref q ∧ H q = some (.tup [x, .int n])
  | [], [], _, _, _, _, h => by simp at h
  | (k, v) :: r, (s, x, n) :: l, 0, _, _, ⟨h1, ⟨q, e, h2⟩, h3⟩, h => by
    cases h
    exact ⟨s, x, n, q, rfl, h1, e, h2⟩
  | (k, v) :: r, (s, x, n) :: l, i + 1, _, _, ⟨_, _, h3⟩, h => h3.at (i := i) (by simpa using h)
  | [], _ :: _, _, _, _, h, _ => h.elim
  | _ :: _, [], _, _, _, h, _ => h.elim
theorem KvAt.len {K : PySem.W.Frag} {H : Hp} : ∀ {kvs : List (Key × V)} {ls : Lets}, KvAt K H kvs ls → kvs.length = ls.length
  | [], [], _ => rfl
  | (_, _) :: _, (_, _, _) :: _, ⟨_, _, h⟩ => by simp [h.len]
  | [], _ :: _, h => h.elim
  | _ :: _, [], h => h.elim
theorem KvAt.snoc {K : PySem.W.Frag} {H : Hp} {s : Str} {x : V} {n : Int} {q : Addr} : ∀ {kvs : List (Key × V)} {ls : Lets}, KvAt K H kvs ls → H q = some (.tup [x, .int n]) → KvAt K H (kvs ++ [(Sum.inr s, .ref q)]) (ls ++ [(s, x, n)])
  | [], [], _, h => ⟨rfl, ⟨q, rfl, h⟩, trivial⟩
  | (_, _) :: _, (_, _, _) :: _, ⟨h1, h2, h3⟩, h => ⟨h1, h2, h3.snoc h⟩
  | [], _ :: _, h, _ => h.elim
  | _ :: _, [], h, _ => h.elim
theorem lk_at : ∀ {ls : Lets} {i : Nat} {s : Str} {x : V} {n : Int}, (ls.map (·.1)).Nodup → ls[i]? = some (s, x, n) → lk ls s = some (x, n)
  | [], _, _, _, _, _, h => by simp at h
  | (s', x', n') :: r, 0, s, x, n, _, h => by
    cases h
    unfold lk
    rw [if_pos rfl]
  | (s', x', n') :: r, i + 1, s, x, n, nd, h => by
    have h' : r[i]? = some (s, x, n) := by simpa using h
    have nd' := List.nodup_cons.mp nd
    have ne : ¬ s' = s := fun e => nd'.1 (List.mem_map.mpr ⟨_, List.mem_of_getElem? h', e.symm⟩)
    unfold lk
    rw [if_neg ne]
    exact lk_at nd'.2 h'
theorem lk_no : ∀ {ls : Lets} {s : Str}, s ∉ ls.map (·.1) → lk ls s = none
  | [], _, _ => rfl
  | (s', x, n) :: r, s, h => by
    unfold lk
    have ne : ¬ s' = s := fun e => h (by simp [e])
    rw [if_neg ne]
    exact lk_no fun m => h (by simp only [List.map_cons, List.mem_cons]; exact .inr m)
local macro_rules | `(tactic| walk_at "ev") => `(tactic| try simp only [wipe, iTup, iList, tBM, tBM0, gSub, tSl, tPart, tNoPart, rSlS, tAndV, tOrV, tNotV, tM0, tM1, tPar3, reduceCtorEq, false_and, exists_false, or_false, false_or, gcons, gnil, gName, tRet, tRetN, tIf, tTest, tOp, tUn, rI0, rI, rU, tVar, tC, tCall, tCons, tNil, tCB, tSeq, tIfS, tAsg, gName, tNext, tDrop, tPar, tB, tAnd, tOr, tNot, tIsN, tNotN, rEq, rNe, L2.start, List.map_cons, List.map_nil, List.length_cons, List.length_nil, List.replicate_succ, List.replicate_zero, List.cons_append, List.nil_append, List.append_nil, List.set_cons_zero, List.set_cons_succ, List.set_nil, Nat.reduceAdd, Nat.reduceSub, Nat.zero_add, Nat.sub_self, Nat.add_zero, Nat.succ_eq_add_one, List.getElem?_cons_zero, List.getElem?_cons_succ, Option.some.injEq, V.int.injEq, V.str.injEq, V.bl.injEq, V.ref.injEq, List.cons.injEq, and_assoc, exists_eq_left', exists_eq_left, exists_and_left, exists_eq', exists_eq_right, exists_eq_right', exists_const, and_true, true_and, and_self, scal_ii, scal_ss, scal_bb, decide_eq_true_eq, ite_bl, Int.one_mul, p2f, abf, reduceIte, Bool.false_eq_true, decide_true, decide_false, Bool.not_true, Bool.not_false, tCalK, dIn_n, dNotIn_n, dGet_n, sDPut, tup_n, lst_n, NWrapped, NSigned, NQuotient, NDivided, NShifted, NBinTold, NCmpTold, NCastTold, NIsPure, NFolded, NLDraw, NLAny, NLOf, NLPower, NLNumber, NLForm, NLSigned, NLShift, NLTold, NLCompared, NLCast, NLPure, NLTable, NLRead, NLMadeNumber, NLOpDrawn, NLFolded, NLLettersWidth, NLSide, NLLettersDrawn, NLOpsRight, NLaw])
theorem not_ahead : ∀ {ls : Lets} {i : Nat} {s : Str} {x : V} {n : Int}, (ls.map (·.1)).Nodup → ls[i]? = some (s, x, n) → s ∉ (ls.take i).map (·.1)
  | [], _, _, _, _, _, h => by simp at h
  | e :: r, 0, s, x, n, _, h => by simp
  | (s', x', n') :: r, i + 1, s, x, n, nd, h => by
    have h' : r[i]? = some (s, x, n) := by simpa using h
    have nd' := List.nodup_cons.mp nd
    intro m
    simp only [List.take_succ_cons, List.map_cons, List.mem_cons] at m
    rcases m with m | m
    · exact nd'.1 (List.mem_map.mpr ⟨_, List.mem_of_getElem? h', m⟩)
    · exact not_ahead nd'.2 h' m
/-- the block that reckons with numbers alone -/
abbrev tNums (K : PySem.W.Frag) : TS := tSeq (tAsg tDNewK (gName 7)) (tSeq (tLock (tFor (iKeys (tVar 3)) (gName 8) (sDPut (tVar 7) (tVar 8) (tTup (tCons (tC (.str "n")) (tCons (tOp (rIxT K) (tDGet (tVar 3) (tVar 8)) (tC (.int 1))) tNil))))))
  (tRet (tTup (tCons (tVar 1) (tCons (tCall (spNum K 6) [] E0 (tCons (tVar 0) (tCons (tVar 1) (tCons (tVar 7) tNil)))) tNil)))))
theorem nums_block {K : PySem.W.Frag} {f lp L l : Addr} {w mid n : Int} {x : Str} {fm : Form} {ls : Lets} {D : Ends} {H : Hp} (hf : FormAt K H L (.ref f) fm) (hl : LetAt K H lp ls) (hok : LetOk ls) (hls : ls.length ≤ 10) (hw : Wd w) (hn : num w (lk ls) fm = some n) (hd : fm.depth ≤ 6)
    (q : ∀ p H', Same H H' → H' p = some (.tup [.int w, .int n]) → D.rt (.ref p) H') :
    tNums K D [some (.ref f), some (.int w), some (.int mid), some (.ref lp), none, some (.str x), some (.ref l), none, none, none, none, none, none] H := by
  obtain ⟨kvs, hk, hkv⟩ := hl
  show ∀ P, H P = none → _
  intro P hP
  have nPl : P ≠ lp := fun e => by rw [e, hk] at hP; cases hP
  refine ⟨lp, .dK kvs, by rw [upd_ne (Ne.symm nPl)]; exact hk, trivial, fun od => ?_⟩
  refine ⟨_, rfl, lp, od, rfl, .inl ⟨kvs, upd_same, fun i m σ H' => m = kvs.length - i ∧ i ≤ kvs.length ∧ (∃ o : Option V, σ = [some (.ref f), some (.int w), some (.int mid), some (.ref lp), none, some (.str x), some (.ref l), some (.ref P), o, none, none, none, none]) ∧
    H' lp = some (.frz od (.dK kvs)) ∧ (∃ done, H' P = some (.dK done) ∧ KvAt K H' done (plain (ls.take i))) ∧ ∀ b o, b ≠ lp → b ≠ P → H b = some o → H' b = some o, ⟨kvs.length, by simp, Nat.zero_le _, ⟨none, rfl⟩, upd_same, ⟨[], by rw [upd_ne nPl]; exact upd_same, trivial⟩, fun b o h1 h2 h => ?_⟩, ?_⟩⟩
  · rw [upd_ne h1, upd_ne h2]
    exact h
  rintro i m σ H1 ⟨rfl, hi, ⟨o, rfl⟩, g1, ⟨done, g2, g3⟩, g4⟩
  by_cases hlt : i < kvs.length
  · refine .inr ⟨⟨g1, hlt⟩, fun σ H' => (∃ o : Option V, σ = [some (.ref f), some (.int w), some (.int mid), some (.ref lp), none, some (.str x), some (.ref l), some (.ref P), o, none, none, none, none]) ∧
      H' lp = some (.frz od (.dK kvs)) ∧ (∃ done, H' P = some (.dK done) ∧ KvAt K H' done (plain (ls.take (i + 1)))) ∧ ∀ b o, b ≠ lp → b ≠ P → H b = some o → H' b = some o, fun σ' H' h => ⟨kvs.length - (i + 1), by omega, rfl, by omega, h⟩, fun y H' hy => ?_⟩
    obtain ⟨rfl, k, v, hki, rfl⟩ := hy
    obtain ⟨s, xx, nn, q0, hsi, rfl, rfl, _⟩ := hkv.at hki
    have hlk := lk_at hok.2 hsi
    rcases hkv.look (y := s) with ⟨a, _⟩ | ⟨x', n', q', a, b, c⟩
    · rw [hlk] at a
      cases a
    rw [hlk] at a
    cases a
    have c1 : H' q' = some (.tup [xx, .int nn]) := g4 _ _ (ne_of c hk (fun z => by cases z)) (ne_of_none c hP) c
    walk_at "ev"
    refine ⟨lp, .ref q', rfl, .inl ⟨kvs, Sum.inr s, .inr ⟨od, g1⟩, rfl, b.symm⟩, ixt (SqT.of c1) rfl (new_t (by show 2 ≤ 1000; decide) fun tq H2 ntq s2 e2 => ?_)⟩
    have hno : lk (plain (ls.take i)) s = none := lk_no (by
      have e : (plain (ls.take i)).map (·.1) = (ls.take i).map (·.1) := by
        unfold plain
        rw [List.map_map] <;> rfl
      rw [e]
      exact not_ahead hok.2 hsi)
    have hv : valV done (Sum.inr s) = none := by
      rcases g3.look (y := s) with ⟨_, z⟩ | ⟨_, _, _, z, _⟩
      · exact z
      · rw [hno] at z
        cases z
    have dl : done.length ≤ 10 := by
      rw [g3.len]
      unfold plain
      rw [List.length_map, List.length_take]
      omega
    have g2' := s2 _ _ g2
    refine ⟨_, DPut.k (k := Sum.inr s) g2' (Nat.lt_of_le_of_lt dl (by decide)), ?_⟩
    rw [putK_new _ hv]
    have et : plain (ls.take (i + 1)) = plain (ls.take i) ++ [(s, .str "n", nn)] := by
      unfold plain
      rw [List.take_add_one, hsi, List.map_append] <;> rfl
    refine ⟨by rw [upd_ne (Ne.symm nPl)]; exact s2 _ _ g1, ⟨_, upd_same, ?_⟩, fun b o h1 h2 h => by rw [upd_ne h2]; exact s2 _ _ (g4 b o h1 h2 h)⟩
    rw [et]
    refine KvAt.snoc (g3.imp fun b xs h => ?_) ?_
    · have h' := s2 _ _ h
      rw [upd_ne (ne_of h' g2' (fun z => by cases z))]
      exact h'
    · rw [upd_ne (ne_of e2 g2' (fun z => by cases z))]
      exact e2
  · refine .inl ⟨⟨g1, by omega⟩, g1, ?_⟩
    have eL : ls.take i = ls := List.take_of_length_le (by rw [← hkv.len]; omega)
    rw [eL] at g3
    have sA : Same H (upd H1 lp (.dK kvs)) := fun b o h => by
      by_cases e : b = lp
      · subst e
        rw [hk] at h
        rw [← h, upd_same]
      · rw [upd_ne e]
        exact g4 _ _ e (ne_of_none h hP) h
    walk_at "ev"
    refine ⟨f, P, L, w, n, fm, plain ls, rfl, hf.same sA, ⟨done, by rw [upd_ne nPl]; exact g2, g3.imp fun b xs h => ?_⟩, plain_ok hok, hw, ?_, hd, fun H2 s2 => new_t (by show 2 ≤ 1000; decide) fun p H3 np s3 e3 => q p H3 ((sA.trans s2).trans s3) e3⟩
    · rw [upd_ne (ne_of h g1 (fun z => by cases z))]
      exact h
    · rw [num_congr (fun x => lk_plain x ls) fm]
      exact hn
theorem csOf_s {x : Str} {c : Cs} (h : csOf x = some c) : x = c.s := by
  unfold csOf at h
  by_cases h1 : x = "zext"
  · subst h1; rw [if_pos rfl] at h; cases h; rfl
  rw [if_neg h1] at h
  by_cases h1 : x = "sext"
  · subst h1; rw [if_pos rfl] at h; cases h; rfl
  rw [if_neg h1] at h
  by_cases h1 : x = "trunc"
  · subst h1; rw [if_pos rfl] at h; cases h; rfl
  rw [if_neg h1] at h
  cases h
theorem cpOf_s {x : Str} {c : CP} (h : cpOf x = some c) : x = c.s := by
  unfold cpOf at h
  by_cases h1 : x = "eq"
  · subst h1; rw [if_pos rfl] at h; cases h; rfl
  rw [if_neg h1] at h
  by_cases h1 : x = "ne"
  · subst h1; rw [if_pos rfl] at h; cases h; rfl
  rw [if_neg h1] at h
  by_cases h1 : x = "ult"
  · subst h1; rw [if_pos rfl] at h; cases h; rfl
  rw [if_neg h1] at h
  by_cases h1 : x = "ule"
  · subst h1; rw [if_pos rfl] at h; cases h; rfl
  rw [if_neg h1] at h
  by_cases h1 : x = "slt"
  · subst h1; rw [if_pos rfl] at h; cases h; rfl
  rw [if_neg h1] at h
  by_cases h1 : x = "sle"
  · subst h1; rw [if_pos rfl] at h; cases h; rfl
  rw [if_neg h1] at h
  cases h
theorem boOf_s {x : Str} {o : BOp} (h : boOf x = some o) : x = o.s := by
  unfold boOf at h
  by_cases h1 : x = "add"
  · subst h1; rw [if_pos rfl] at h; cases h; rfl
  rw [if_neg h1] at h
  by_cases h1 : x = "sub"
  · subst h1; rw [if_pos rfl] at h; cases h; rfl
  rw [if_neg h1] at h
  by_cases h1 : x = "mul"
  · subst h1; rw [if_pos rfl] at h; cases h; rfl
  rw [if_neg h1] at h
  by_cases h1 : x = "udiv"
  · subst h1; rw [if_pos rfl] at h; cases h; rfl
  rw [if_neg h1] at h
  by_cases h1 : x = "urem"
  · subst h1; rw [if_pos rfl] at h; cases h; rfl
  rw [if_neg h1] at h
  by_cases h1 : x = "and"
  · subst h1; rw [if_pos rfl] at h; cases h; rfl
  rw [if_neg h1] at h
  by_cases h1 : x = "or"
  · subst h1; rw [if_pos rfl] at h; cases h; rfl
  rw [if_neg h1] at h
  by_cases h1 : x = "xor"
  · subst h1; rw [if_pos rfl] at h; cases h; rfl
  rw [if_neg h1] at h
  by_cases h1 : x = "shl"
  · subst h1; rw [if_pos rfl] at h; cases h; rfl
  rw [if_neg h1] at h
  by_cases h1 : x = "lshr"
  · subst h1; rw [if_pos rfl] at h; cases h; rfl
  rw [if_neg h1] at h
  by_cases h1 : x = "ashr"
  · subst h1; rw [if_pos rfl] at h; cases h; rfl
  rw [if_neg h1] at h
  cases h
theorem wdb_ok {w : Int} (h : wdb w = true) : Wd w := (of_decide_eq_true h : 1 ≤ w ∧ w ≤ 64)
theorem inb_ok {w n : Int} (h : inb w n = true) : In w n := (of_decide_eq_true h : 0 ≤ n ∧ n < p2 w)
theorem nt {b : Bool} (h : b = false) : ¬ b = true := by rw [h]; exact Bool.false_ne_true
def logs : List V := [.str "0", .str "1", .str "-1", .str "LOG"]
def casts : List V := [.str "zext", .str "sext", .str "trunc"]
def preds : List V := [.str "eq", .str "ne", .str "ult", .str "ule", .str "slt", .str "sle"]
theorem cs_facts (c : Cs) : c.s ∉ letterWords ∧ inV (.str c.s) logs = false ∧ Txt.isupper c.s = false ∧ inV (.str c.s) casts = true := by cases c <;> decide +kernel
theorem cp_facts (c : CP) : c.s ∉ letterWords ∧ inV (.str c.s) logs = false ∧ Txt.isupper c.s = false ∧ inV (.str c.s) casts = false ∧ (¬ c.s = "select") ∧ inV (.str c.s) preds = true := by cases c <;> decide +kernel
theorem bo_facts (o : BOp) : o.s ∉ letterWords ∧ inV (.str o.s) logs = false ∧ Txt.isupper o.s = false ∧ inV (.str o.s) casts = false ∧ (¬ o.s = "select") ∧ inV (.str o.s) preds = false := by cases o <;> decide +kernel
theorem sel_facts : ("select" : Str) ∉ letterWords ∧ inV (.str "select") logs = false ∧ Txt.isupper "select" = false ∧ inV (.str "select") casts = false := by decide +kernel
theorem up_facts {x : Str} {o : BOp} (h : upOp x = some o) : inV (.str x) logs = false ∧ Txt.isupper x = true := by
  unfold upOp at h
  by_cases h1 : x = "ADD"
  · subst h1; decide +kernel
  rw [if_neg h1] at h
  by_cases h1 : x = "SUB"
  · subst h1; decide +kernel
  rw [if_neg h1] at h
  by_cases h1 : x = "MUL"
  · subst h1; decide +kernel
  rw [if_neg h1] at h
  by_cases h1 : x = "AND"
  · subst h1; decide +kernel
  rw [if_neg h1] at h
  by_cases h1 : x = "OR"
  · subst h1; decide +kernel
  rw [if_neg h1] at h
  by_cases h1 : x = "XOR"
  · subst h1; decide +kernel
  rw [if_neg h1] at h
  cases h
/-- what the args tell -/
theorem forms_side {K : PySem.W.Frag} {l lp Lx : Addr} {qs : List V} {fs : List Form} {rs : List (Int × Int)} {d j : Nat} {w mid : Int} {ls : Lets} {wi : TI} {te : TE} {σ : L2.St} {H : Hp} {Q : VK} (h2 : SqL K H l qs) (hs : StAt K H Lx qs fs) (hl : LetAt K H lp ls) (hok : LetOk ls) (hls : ls.length ≤ 10) (hw : Wd w) (hmid : Wd mid)
    (hn : fs.map (fun g => side mid (lk ls) g w) = rs.map some) (hd : ∀ g ∈ fs, g.depth ≤ d) (hd5 : d ≤ 5) (h3 : fs.length ≤ 3) (hwi : ∀ R : It → Hp → Prop, R (Itl K l) H → wi σ H R)
    (he : ∀ (q' : V) (H' : Hp) (R : VK), spSide K d [q', .int w, .int mid, .ref lp] H' R E0 → te ((wipe σ [j]).set j (some q')) H' R)
    (q : ∀ D ys H2, H D = none → Same H H2 → H2 D = some (.lst ys) → ys.length = rs.length → (∀ (i : Nat) (y : V), ys[i]? = some y → ∃ (r : Int × Int) (p : Addr), rs[i]? = some r ∧ y = .ref p ∧ H2 p = some (.tup [.int r.1, .int r.2])) → Q (.ref D) H2) : tLc wi (gName j) tYes te [j] σ H Q := by
  refine lcA (K := K) (xs := qs) (fun i y H' => ∃ (r : Int × Int) (p : Addr), rs[i]? = some r ∧ y = .ref p ∧ H' p = some (.tup [.int r.1, .int r.2])) (fun i y H1 H2 t ⟨r, p, a, b, c⟩ => ⟨r, p, a, b, t _ _ c⟩) (fun R k => hwi R (k l H (Same.refl _) h2)) (by rw [hs.len]; omega) (fun i x H2 hi s2 R k => ?_) (fun D ys H2 hD s2 e2 l2 p2 => ?_)
  · obtain ⟨g, hg, hat⟩ := hs.get hi
    have hm : (fs.map (fun g => side mid (lk ls) g w))[i]? = (rs.map some)[i]? := by rw [hn]
    rw [List.getElem?_map, List.getElem?_map, hg] at hm
    cases hni : rs[i]? with
    | none => rw [hni] at hm; cases hm
    | some m =>
      rw [hni] at hm
      have hm' : side mid (lk ls) g w = some m := Option.some.inj hm
      obtain ⟨p, lx, qx, rfl, _⟩ := hat.un
      refine ⟨by simp [wipe], he _ _ _ ⟨p, lp, Lx, w, mid, m.1, m.2, g, ls, rfl, hat.same s2, hl.same s2, hok, hls, hw, hmid, hm', hd g (List.mem_of_getElem? hg), hd5, fun p' H' s' e' => k _ _ s' ⟨m, p', hni, rfl, e'⟩⟩⟩
  · refine q D ys H2 hD s2 e2 ?_ p2
    have := congrArg List.length hn
    rw [List.length_map, List.length_map] at this
    rw [l2, hs.len, this]
/-- a comprehension over enumerate of a list of forms' places -/
theorem lcE {K : PySem.W.Frag} {l : Addr} {xs : List V} {rs : List (Int × Int)} {g : TG} {te : TE} {vs : List Nat} {σ : L2.St} {wi : TI} {H : Hp} {Q : VK} (hx : SqL K H l xs) (h3 : xs.length ≤ 3) (hn : xs.length = rs.length) (hwi : ∀ R : It → Hp → Prop, R (Ite K l) H → wi σ H R)
    (he : ∀ (i : Nat) (x : V) (T : Addr) (H2 : Hp), xs[i]? = some x → Same H H2 → H2 T = some (.tup [.int (i : Nat), x]) → ∀ R : VK, (∀ (r : Int × Int) (p : Addr) (H3 : Hp), rs[i]? = some r → Same H2 H3 → H3 p = some (.tup [.int r.1, .int r.2]) → R (.ref p) H3) →
      g (.ref T) (wipe σ vs) H2 fun σ2 H2' => wipe σ2 vs = wipe σ vs ∧ te σ2 H2' R)
    (q : ∀ D ys H2, H D = none → Same H H2 → H2 D = some (.lst ys) → ys.length = rs.length → (∀ (i : Nat) (y : V), ys[i]? = some y → ∃ (r : Int × Int) (p : Addr), rs[i]? = some r ∧ y = .ref p ∧ H2 p = some (.tup [.int r.1, .int r.2])) → Q (.ref D) H2) : tLc wi g tYes te vs σ H Q := by
  refine hwi _ fun D hD => ?_
  let P : Nat → V → Hp → Prop := fun i y H' => ∃ (r : Int × Int) (p : Addr), rs[i]? = some r ∧ y = .ref p ∧ H' p = some (.tup [.int r.1, .int r.2])
  have mono : ∀ i y H1 H2, Tups H1 H2 → P i y H1 → P i y H2 := fun i y H1 H2 t ⟨r, p, a, b, c⟩ => ⟨r, p, a, b, t _ _ c⟩
  refine ⟨fun i m H' => m = xs.length - i ∧ i ≤ xs.length ∧ LcW P H D i H', ⟨xs.length, by simp, Nat.zero_le _, LcW.start hD⟩, ?_⟩
  rintro i m H1 ⟨rfl, hi, w⟩
  by_cases hlt : i < xs.length
  · refine .inr ⟨⟨xs, xs[i], w.same.seq hx, List.getElem?_eq_getElem hlt⟩, fun H' => LcW P H D (i + 1) H', fun H' h => ⟨xs.length - (i + 1), by omega, rfl, by omega, h⟩, fun y H' hy => ?_⟩
    obtain ⟨T, x, rfl, nT, rfl, hT⟩ := hy
    have ex : xs[i]? = some x := hT xs (w.same.seq hx)
    refine he i x T _ ex (Same.trans w.same (same_new nT _)) upd_same _ fun r p H3 hr s3 e3 => ?_
    exact w.more mono (Same.trans (same_new nT _) s3) ⟨r, p, hr, rfl, e3⟩ (by omega)
  · refine .inl ⟨⟨xs, w.same.seq hx, by omega⟩, ?_⟩
    obtain ⟨f, sm, ys, h1, h2, h4⟩ := w
    exact q D ys H1 f sm h1 (by omega) h4
theorem numLog {x : Str} (h : isNumW x = true) : inV (.str x) [.str "0", .str "1", .str "-1", .str "LOG"] = true := by
  have e : inV (.str x) [.str "0", .str "1", .str "-1", .str "LOG"] = decide (x ∈ (["0", "1", "-1", "LOG"] : List Str)) := inV_strs x ["0", "1", "-1", "LOG"]
  rw [e]
  unfold isNumW at h
  simp only [Bool.or_eq_true, decide_eq_true_eq] at h
  rcases h with (h | h) | h <;> simp [h]
section
variable {P : Program} {w : World} {K : PySem.W.Frag} {mg : Str → Option Value} {base : Heap}
theorem ok_side_step {f : Addr} {fd : FuncData} {d : Nat} (D : Def K mg "_law_side" pLSide sLSide f fd) (C__law_side : Cal P w K mg base (d + 10) "_law_side" pLSide (spSide K d)) (C__law_made_number : Cal P w K mg base 10 "_law_made_number" pLMadeNumber (spNum K 6)) (C__law_told : Cal P w K mg base 4 "_law_told" pLTold spBin)
    (C__law_cast : Cal P w K mg base 3 "_law_cast" pLCast spCast) (C__law_compared : Cal P w K mg base 3 "_law_compared" pLCompared spCmp) (C__law_letters_width : Cal P w K mg base 1 "_law_letters_width" pLLettersWidth (spLW K)) (m_enumerate : mg "enumerate" = none) :
    FnOk P w K mg base CX0 (d + 1 + 10) f fd pLSide (spSide K (d + 1)) := by
  refine D.F.ok scLSide (fun vs H Q E h => ?_) (fun cdv A outer s H vs Q E hr h => ?_)
  · obtain ⟨_, _, _, _, _, _, _, _, _, rfl, _⟩ := h
    rfl
  obtain ⟨f, lp, L, w, mid, rw', rn, fm, ls, rfl, hf, hl, hok, hls, hw, hmid, hs, hd, hd5, q⟩ := h
  have nd := scLSide.nd
  refine ⟨_, (pss_cons (ps_asg (pv 0) (pg_tup (n := 2) (by rfl) (pgs_cons (pg_name (i := 5) nd rfl (by first | exact Or.inl rfl | exact Or.inr rfl)) (pgs_cons (pg_name (i := 6) nd rfl (by first | exact Or.inl rfl | exact Or.inr rfl)) pgs_nil))))
    (pss_cons (ps_if (pt_cmp (pc_din (hu_of hr) (pv 5) (pv 3))) (pss_one (ps_ret (pe_dget (hu_of hr) (pv 3) (pv 5) (fun _ _ => rfl)))) pss_nil)
    (pss_cons (ps_if (PW.pt (pw_or (pt_cmpR (r := rIn K false) op_in_seq (pv 5) (pe_lst (pa_cons pe_str (pa_cons pe_str (pa_cons pe_str (pa_cons pe_str pa_nil))))) (by rfl)) (pw_or1 (pt_val (pe_bm0 PySem.F.plainAttrs_str PySem.F.slot_str_isupper PySem.F.type_str_isupper mt_isupper (pv 5)))))) (pss_cons (ps_set (i := 7) nd rfl (by first | exact Or.inl rfl | exact Or.inr rfl) pe_dnewK)
    (pss_cons (ps_lock (ps_for PassesOwn.never rfl (pi_keys (pv 3)) (pg_name (i := 8) nd rfl (by first | exact Or.inl rfl | exact Or.inr rfl)) (pss_one (ps_dput (hu_of hr) (pv 7) (pv 8) (pe_tup (pa_cons pe_str (pa_cons (pe_ix (r := rIxT K) ix_tup (pe_dget (hu_of hr) (pv 3) (pv 8) (fun _ _ => rfl)) pe_int (fun _ _ => rfl)) pa_nil))) rfl))))
    (pss_one (ps_ret (pe_tup (pa_cons (pv 1) (pa_cons (pe_cal C__law_made_number hr (by omega) (by rfl) (pa_cons (pv 0) (pa_cons (pv 1) (pa_cons (pv 7) pa_nil)))) pa_nil))))))) pss_nil)
    (pss_cons (ps_if (pt_cmpR (r := rIn K false) op_in_seq (pv 5) (pe_lst (pa_cons pe_str (pa_cons pe_str (pa_cons pe_str pa_nil)))) (by rfl)) (pss_cons (ps_set (i := 9) nd rfl (by first | exact Or.inl rfl | exact Or.inr rfl) (pe_cal C__law_side hr (by omega) (by rfl) (pa_cons (pe_ix (r := rIxL K) ix_list (pv 6) pe_int (fun _ _ => rfl)) (pa_cons (pv 2) (pa_cons (pv 2) (pa_cons (pv 3) pa_nil))))))
    (pss_one (ps_ret (pe_tup (pa_cons (pv 1) (pa_cons (pe_cal C__law_cast hr (by omega) (by rfl) (pa_cons (pv 5) (pa_cons (pe_ix (r := rIxT K) ix_tup (pv 9) pe_int (fun _ _ => rfl)) (pa_cons (pv 1) (pa_cons (pe_ix (r := rIxT K) ix_tup (pv 9) pe_int (fun _ _ => rfl)) pa_nil))))) pa_nil)))))) pss_nil)
    (pss_cons (ps_if (pt_cmpR op_eq (pv 5) pe_str (nomark _)) (pss_cons (ps_setLc (i := 4) (own := [("_law_at", 12), ("_law_arg", 11)]) (g := gTup K 2 (gCons (gName 12) (gCons (gName 11) gNil))) (tt := tYes) (by rfl) nd rfl rfl (sw_true rfl rfl rfl (by decide +kernel)) (pi_enum (by rfl) m_enumerate (pa_cons (pv 6) pa_nil)) (blkOk_by (own := [("_law_at", 12), ("_law_arg", 11)]) (N := NLSide) (sc := defScope sLSide) (by decide +kernel)) (fun _ _ _ _ _ => (pg_tup (n := 2) (by rfl) (pgs_cons (pg_name (i := 12) nd rfl (by first | exact Or.inl rfl | exact Or.inr rfl)) (pgs_cons (pg_name (i := 11) nd rfl (by first | exact Or.inl rfl | exact Or.inr rfl)) pgs_nil)))) (fun _ _ _ _ _ => pts_nil) (fun _ _ _ _ _ => (pe_cal C__law_side hr (by omega) (by rfl) (pa_cons (pv 11) (pa_cons (pe_ifExp (pt_cmpR op_eq (pv 12) pe_int (nomark _)) pe_int (pv 1)) (pa_cons (pv 2) (pa_cons (pv 3) pa_nil)))))))
    (pss_one (ps_ret (pe_ifExp (pt_cmpR op_eq (pe_ix (r := rIxT K) ix_tup (pe_ix (r := rIxL K) ix_list (pv 4) pe_int (fun _ _ => rfl)) pe_int (fun _ _ => rfl)) pe_int (nomark _)) (pe_ix (r := rIxL K) ix_list (pv 4) pe_int (fun _ _ => rfl)) (pe_ix (r := rIxL K) ix_list (pv 4) pe_int (fun _ _ => rfl)))))) pss_nil)
    (pss_cons (ps_if (pt_cmpR (r := rIn K false) op_in_seq (pv 5) (pe_lst (pa_cons pe_str (pa_cons pe_str (pa_cons pe_str (pa_cons pe_str (pa_cons pe_str (pa_cons pe_str pa_nil))))))) (by rfl)) (pss_cons (ps_set (i := 10) nd rfl (by first | exact Or.inl rfl | exact Or.inr rfl) (pe_cal C__law_letters_width hr (by omega) (by rfl) (pa_cons (pv 0) (pa_cons (pv 3) pa_nil))))
    (pss_cons (ps_setLc (i := 4) (own := [("_law_arg", 11)]) (g := gName 11) (tt := tYes) (by rfl) nd rfl rfl (sw_true rfl rfl rfl (by decide +kernel)) (pi_list (pv 6)) (blkOk_by (own := [("_law_arg", 11)]) (N := NLSide) (sc := defScope sLSide) (by decide +kernel)) (fun _ _ _ _ _ => (pg_name (i := 11) nd rfl (by first | exact Or.inl rfl | exact Or.inr rfl))) (fun _ _ _ _ _ => pts_nil) (fun _ _ _ _ _ => (pe_cal C__law_side hr (by omega) (by rfl) (pa_cons (pv 11) (pa_cons (pv 10) (pa_cons (pv 2) (pa_cons (pv 3) pa_nil)))))))
    (pss_one (ps_ret (pe_tup (pa_cons pe_int (pa_cons (pe_cal C__law_compared hr (by omega) (by rfl) (pa_cons (pv 5) (pa_cons (pv 10) (pa_cons (pe_ix (r := rIxT K) ix_tup (pe_ix (r := rIxL K) ix_list (pv 4) pe_int (fun _ _ => rfl)) pe_int (fun _ _ => rfl)) (pa_cons (pe_ix (r := rIxT K) ix_tup (pe_ix (r := rIxL K) ix_list (pv 4) pe_int (fun _ _ => rfl)) pe_int (fun _ _ => rfl)) pa_nil))))) pa_nil))))))) pss_nil)
    (pss_cons (ps_setLc (i := 4) (own := [("_law_arg", 11)]) (g := gName 11) (tt := tYes) (by rfl) nd rfl rfl (sw_true rfl rfl rfl (by decide +kernel)) (pi_list (pv 6)) (blkOk_by (own := [("_law_arg", 11)]) (N := NLSide) (sc := defScope sLSide) (by decide +kernel)) (fun _ _ _ _ _ => (pg_name (i := 11) nd rfl (by first | exact Or.inl rfl | exact Or.inr rfl))) (fun _ _ _ _ _ => pts_nil) (fun _ _ _ _ _ => (pe_cal C__law_side hr (by omega) (by rfl) (pa_cons (pv 11) (pa_cons (pv 1) (pa_cons (pv 2) (pa_cons (pv 3) pa_nil)))))))
    (pss_one (ps_ret (pe_tup (pa_cons (pv 1) (pa_cons (pe_cal C__law_told hr (by omega) (by rfl) (pa_cons (pv 5) (pa_cons (pv 1) (pa_cons (pe_ix (r := rIxT K) ix_tup (pe_ix (r := rIxL K) ix_list (pv 4) pe_int (fun _ _ => rfl)) pe_int (fun _ _ => rfl)) (pa_cons (pe_ix (r := rIxT K) ix_tup (pe_ix (r := rIxL K) ix_list (pv 4) pe_int (fun _ _ => rfl)) pe_int (fun _ _ => rfl)) pa_nil))))) pa_nil)))))))))))), ?_⟩
  obtain ⟨p, l, qs, e, h1, h2, h3⟩ := hf.un
  obtain rfl : f = p := V.ref.inj e
  walk_at "ev"
  refine unp_got h1 rfl ?_
  walk_at "ev"
  refine dIn_s hl ?_
  walk_at "ev"
  -- a word that is no letter
  cases fm with
  | leaf x =>
    simp only [side] at hs
    cases hlk : lk ls x with
    | some r =>
      obtain ⟨v, n⟩ := r
      rw [hlk] at hs
      cases v with
      | int i =>
        simp only [Option.some.injEq, Prod.mk.injEq] at hs
        obtain ⟨rfl, rfl⟩ := hs
        have e0 : lk ls (Form.leaf x).w = some (.int i, n) := hlk
        rw [e0]
        exact iteT (dGet_s hl e0 fun t ht => q t H (Same.refl H) ht)
      | _ => cases hs
    | none =>
      rw [hlk] at hs
      simp only at hs
      by_cases hnw : isNumW x = true
      · rw [if_pos hnw] at hs
        cases hn : num w (lk ls) (.leaf x) with
        | none => rw [hn] at hs; cases hs
        | some n =>
          rw [hn] at hs
          simp only [Option.map_some, Option.some.injEq, Prod.mk.injEq] at hs
          obtain ⟨rfl, rfl⟩ := hs
          have e0 : lk ls (Form.leaf x).w = none := hlk
          rw [e0]
          refine iteF ?_
          refine in_newL rfl rfl (by show 4 ≤ 1000; decide) fun H1 s1 => ?_
          walk_at "ev"
          refine ite_p (numLog hnw) ?_
          exact nums_block (hf.same s1) (hl.same s1) hok hls hw hn (by omega) fun p H' s' e' => q p H' (s1.trans s') e'
      · rw [if_neg hnw] at hs
        cases hs
  | one x a =>
    simp only [side] at hs
    by_cases hx : x = "LOG"
    · rw [if_pos hx] at hs
      cases hn : num w (lk ls) (.one x a) with
      | none => rw [hn] at hs; cases hs
      | some n =>
        rw [hn] at hs
        simp only [Option.map_some, Option.some.injEq, Prod.mk.injEq] at hs
        obtain ⟨rfl, rfl⟩ := hs
        have e0 : lk ls (Form.one x a).w = none := lk_word hok (by rw [show (Form.one x a).w = x from rfl, hx]; decide +kernel)
        rw [e0]
        refine iteF ?_
        refine in_newL rfl rfl (by show 4 ≤ 1000; decide) fun H1 s1 => ?_
        walk_at "ev"
        refine ite_p (by rw [show (Form.one x a).w = x from rfl, hx]; decide +kernel) ?_
        exact nums_block (hf.same s1) (hl.same s1) hok hls hw hn (by omega) fun p H' s' e' => q p H' (s1.trans s') e'
    · rw [if_neg hx] at hs
      cases hc : csOf x with
      | none => rw [hc] at hs; cases hs
      | some c =>
        cases ha : side mid (lk ls) a mid with
        | none => rw [hc, ha] at hs; cases hs
        | some r =>
          rw [hc, ha] at hs
          simp only at hs
          by_cases hwd : wdb r.1 = true
          · rw [if_pos hwd] at hs
            simp only [Option.some.injEq, Prod.mk.injEq] at hs
            obtain ⟨rfl, rfl⟩ := hs
            obtain rfl := csOf_s hc
            have e0 : lk ls (Form.one c.s a).w = none := lk_word hok (cs_facts c).1
            rw [e0]
            refine iteF ?_
            refine in_newL rfl rfl (by show 4 ≤ 1000; decide) fun H1 s1 => ?_
            walk_at "ev"
            refine ite_n (nt (cs_facts c).2.1) ⟨rfl, ite_n (nt (cs_facts c).2.2.1) ?_⟩
            refine in_newL rfl rfl (by show 3 ≤ 1000; decide) fun H2 s2 => ?_
            walk_at "ev"
            have s12 := s1.trans s2
            refine ite_p (cs_facts c).2.2.2 ?_
            obtain ⟨q0, r0, rfl, hat, hr0⟩ := h3.cons
            rw [hr0.nil] at h2
            obtain ⟨p', l', qs', e', _⟩ := hat.un
            subst e'
            refine ixl (Same.seq s12 h2) rfl ?_
            refine ⟨p', lp, L, mid, mid, r.1, r.2, a, ls, rfl, hat.same s12, hl.same s12, hok, hls, hmid, hmid, ha, by simp only [Form.depth] at hd; omega, by omega, fun p H3 s3 e3 => ?_⟩
            walk_at "ev"
            refine ixt (SqT.of e3) rfl (ixt (SqT.of e3) rfl ⟨c, r.1, w, r.2, rfl, wdb_ok hwd, hw, new_t (by show 2 ≤ 1000; decide) fun p2 H4 _ s4 e4 => ?_⟩)
            exact q p2 H4 ((s12.trans s3).trans s4) e4
          · rw [if_neg hwd] at hs
            cases hs
  | two x a b =>
    simp only [side] at hs
    cases hu : upOp x with
    | some o =>
      rw [hu] at hs
      simp only at hs
      cases hn : num w (lk ls) (.two x a b) with
      | none => rw [hn] at hs; cases hs
      | some n =>
        rw [hn] at hs
        simp only [Option.map_some, Option.some.injEq, Prod.mk.injEq] at hs
        obtain ⟨rfl, rfl⟩ := hs
        have e0 : lk ls (Form.two x a b).w = none := lk_word hok (upOp_of hu).2.1
        rw [e0]
        refine iteF ?_
        refine in_newL rfl rfl (by show 4 ≤ 1000; decide) fun H1 s1 => ?_
        walk_at "ev"
        refine ite_n (nt (up_facts hu).1) ⟨rfl, ite_p (up_facts hu).2 ?_⟩
        exact nums_block (hf.same s1) (hl.same s1) hok hls hw hn (by omega) fun p H' s' e' => q p H' (s1.trans s') e'
    | none =>
      rw [hu] at hs
      simp only at hs
      cases hc : cpOf x with
      | some c =>
        rw [hc] at hs
        simp only at hs
        cases hlw : lw (lk ls) (.two x a b) with
        | none => rw [hlw] at hs; cases hs
        | some vw =>
          rw [hlw] at hs
          cases vw with
          | int ww =>
            simp only at hs
            cases hra : side mid (lk ls) a ww with
            | none => rw [hra] at hs; cases hs
            | some r =>
              cases hrb : side mid (lk ls) b ww with
              | none => rw [hra, hrb] at hs; cases hs
              | some t =>
                rw [hra, hrb] at hs
                simp only at hs
                by_cases hin : (wdb ww && inb ww r.2 && inb ww t.2) = true
                · rw [if_pos hin] at hs
                  rw [Bool.and_eq_true, Bool.and_eq_true] at hin
                  simp only [Option.some.injEq, Prod.mk.injEq] at hs
                  obtain ⟨rfl, rfl⟩ := hs
                  obtain rfl := cpOf_s hc
                  have hww := wdb_ok hin.1.1
                  have e0 : lk ls (Form.two c.s a b).w = none := lk_word hok (cp_facts c).1
                  rw [e0]
                  refine iteF ?_
                  refine in_newL rfl rfl (by show 4 ≤ 1000; decide) fun H1 s1 => ?_
                  walk_at "ev"
                  refine ite_n (nt (cp_facts c).2.1) ⟨rfl, ite_n (nt (cp_facts c).2.2.1) ?_⟩
                  refine in_newL rfl rfl (by show 3 ≤ 1000; decide) fun H2 s2 => ?_
                  walk_at "ev"
                  refine ite_n (nt (cp_facts c).2.2.2.1) (ite_n (cp_facts c).2.2.2.2.1 ?_)
                  refine in_newL rfl rfl (by show 6 ≤ 1000; decide) fun H3 s3 => ?_
                  walk_at "ev"
                  refine ite_p (cp_facts c).2.2.2.2.2 ?_
                  have s13 := (s1.trans s2).trans s3
                  refine ⟨f, lp, L, _, ls, _, rfl, hf.same s13, hl.same s13, hok, hlw, fun H3' s3' => ?_⟩
                  walk_at "ev"
                  replace s13 := s13.trans s3'
                  refine forms_side (K := K) (lp := lp) (Lx := L) (d := d) (w := ww) (mid := mid) (ls := ls) (rs := [r, t]) (h2 := Same.seq s13 h2) (hs := h3.same s13) (hl.same s13) hok hls hww hmid (by simp [Form.args, hra, hrb]) (fun g hg => by
                    simp only [Form.args, List.mem_cons, List.not_mem_nil, or_false] at hg
                    simp only [Form.depth] at hd
                    rcases hg with rfl | rfl <;> omega) (by omega) (by show 2 ≤ 3; decide) (fun R k => by exact ⟨_, rfl, l, rfl, ⟨_, Same.seq s13 h2⟩, k⟩) (fun q' H' R k => by walk_at "ev"; exact k) fun D1 ys H4 hD1 s4 e4 l4 p4 => ?_
                  obtain ⟨y0, y1, rfl⟩ := len2 l4
                  obtain ⟨r0, p0, hr0, rfl, g0⟩ := p4 0 _ rfl
                  obtain ⟨r1, p1, hr1, rfl, g1⟩ := p4 1 _ rfl
                  cases hr0
                  cases hr1
                  refine ixl (SqL.of e4) rfl (ixt (SqT.of g0) rfl (ixl (SqL.of e4) rfl (ixt (SqT.of g1) rfl ⟨c, ww, r.2, t.2, rfl, hww, inb_ok hin.1.2, inb_ok hin.2, fun H5 s5 => ?_⟩)))
                  exact new_t (by show 2 ≤ 1000; decide) fun p2 H6 _ s6 e6 => q p2 H6 (((s13.trans s4).trans s5).trans s6) e6
                · rw [if_neg hin] at hs
                  cases hs
          | _ => cases hs
      | none =>
        rw [hc] at hs
        simp only at hs
        cases ho : boOf x with
        | none => rw [ho] at hs; cases hs
        | some o =>
          cases hra : side mid (lk ls) a w with
          | none => rw [ho, hra] at hs; cases hs
          | some r =>
            cases hrb : side mid (lk ls) b w with
            | none => rw [ho, hra, hrb] at hs; cases hs
            | some t =>
              rw [ho, hra, hrb] at hs
              simp only at hs
              by_cases hin : (inb w r.2 && inb w t.2) = true
              · rw [if_pos hin] at hs
                rw [Bool.and_eq_true] at hin
                cases ht : told o w r.2 t.2 with
                | none => rw [ht] at hs; cases hs
                | some n =>
                  rw [ht] at hs
                  simp only [Option.map_some, Option.some.injEq, Prod.mk.injEq] at hs
                  obtain ⟨rfl, rfl⟩ := hs
                  obtain rfl := boOf_s ho
                  have e0 : lk ls (Form.two o.s a b).w = none := lk_word hok (bo_facts o).1
                  rw [e0]
                  refine iteF ?_
                  refine in_newL rfl rfl (by show 4 ≤ 1000; decide) fun H1 s1 => ?_
                  walk_at "ev"
                  refine ite_n (nt (bo_facts o).2.1) ⟨rfl, ite_n (nt (bo_facts o).2.2.1) ?_⟩
                  refine in_newL rfl rfl (by show 3 ≤ 1000; decide) fun H2 s2 => ?_
                  walk_at "ev"
                  refine ite_n (nt (bo_facts o).2.2.2.1) (ite_n (bo_facts o).2.2.2.2.1 ?_)
                  refine in_newL rfl rfl (by show 6 ≤ 1000; decide) fun H3 s3 => ?_
                  walk_at "ev"
                  refine ite_n (nt (bo_facts o).2.2.2.2.2) ?_
                  have s13 := (s1.trans s2).trans s3
                  refine forms_side (K := K) (lp := lp) (Lx := L) (d := d) (w := w) (mid := mid) (ls := ls) (rs := [r, t]) (h2 := Same.seq s13 h2) (hs := h3.same s13) (hl.same s13) hok hls hw hmid (by simp [Form.args, hra, hrb]) (fun g hg => by
                    simp only [Form.args, List.mem_cons, List.not_mem_nil, or_false] at hg
                    simp only [Form.depth] at hd
                    rcases hg with rfl | rfl <;> omega) (by omega) (by show 2 ≤ 3; decide) (fun R k => by exact ⟨_, rfl, l, rfl, ⟨_, Same.seq s13 h2⟩, k⟩) (fun q' H' R k => by walk_at "ev"; exact k) fun D1 ys H4 hD1 s4 e4 l4 p4 => ?_
                  obtain ⟨y0, y1, rfl⟩ := len2 l4
                  obtain ⟨r0, p0, hr0, rfl, g0⟩ := p4 0 _ rfl
                  obtain ⟨r1, p1, hr1, rfl, g1⟩ := p4 1 _ rfl
                  cases hr0
                  cases hr1
                  refine ixl (SqL.of e4) rfl (ixt (SqT.of g0) rfl (ixl (SqL.of e4) rfl (ixt (SqT.of g1) rfl ⟨o, w, r.2, t.2, rfl, hw, inb_ok hin.1, inb_ok hin.2, fun H5 s5 => ?_⟩)))
                  rw [ht]
                  exact new_t (by show 2 ≤ 1000; decide) fun p2 H6 _ s6 e6 => q p2 H6 (((s13.trans s4).trans s5).trans s6) e6
              · rw [if_neg hin] at hs
                cases hs
  | three x c a b =>
    simp only [side] at hs
    by_cases hx : x = "select"
    · subst hx
      rw [if_pos rfl] at hs
      cases hrc : side mid (lk ls) c 1 with
      | none => rw [hrc] at hs; cases hs
      | some r =>
        cases hra : side mid (lk ls) a w with
        | none => rw [hrc, hra] at hs; cases hs
        | some t =>
          cases hrb : side mid (lk ls) b w with
          | none => rw [hrc, hra, hrb] at hs; cases hs
          | some u =>
            rw [hrc, hra, hrb] at hs
            simp only at hs
            have e0 : lk ls (Form.three "select" c a b).w = none := lk_word hok sel_facts.1
            rw [e0]
            refine iteF ?_
            refine in_newL rfl rfl (by show 4 ≤ 1000; decide) fun H1 s1 => ?_
            walk_at "ev"
            refine ite_n (nt sel_facts.2.1) ⟨rfl, ite_n (nt sel_facts.2.2.1) ?_⟩
            refine in_newL rfl rfl (by show 3 ≤ 1000; decide) fun H2 s2 => ?_
            walk_at "ev"
            refine ite_n (nt sel_facts.2.2.2) (ite_p rfl ?_)
            have s12 := s1.trans s2
            have hz := h3.same s12
            refine lcE (K := K) (xs := qs) (rs := [r, t, u]) (Same.seq s12 h2) (by rw [h3.len]; show 3 ≤ 3; decide) (by rw [h3.len]; rfl) (fun R k => by exact ⟨_, rfl, l, _, rfl, Same.seq s12 h2, k⟩) (fun i y T H3 hi s3 eT R k => ?_) (fun D1 ys H4 hD1 s4 e4 l4 p4 => ?_)
            · obtain ⟨g, hg, hat⟩ := (hz.same s3).get hi
              refine unp_got (SqT.of eT) rfl ?_
              walk_at "ev"
              have hdep : ∀ (g : Form), g.depth ≤ max c.depth (max a.depth b.depth) → g.depth ≤ d := fun g hg => by
                simp only [Form.depth] at hd
                omega
              have hl3 : i < 3 := by
                have := (List.getElem?_eq_some_iff.mp hg).1
                exact this
              obtain rfl | rfl | rfl : i = 0 ∨ i = 1 ∨ i = 2 := by omega
              · obtain rfl : c = g := Option.some.inj hg
                obtain ⟨p', _, _, e', _⟩ := hat.un
                subst e'
                rw [if_pos (show ((0 : Nat) : Int) = 0 from rfl)]
                exact ⟨p', lp, L, 1, mid, r.1, r.2, c, ls, rfl, hat, hl.same (s12.trans s3), hok, hls, ⟨by decide, by decide⟩, hmid, hrc, hdep _ (by omega), by omega, fun p H' s' e' => k r p H' rfl s' e'⟩
              · obtain rfl : a = g := Option.some.inj hg
                obtain ⟨p', _, _, e', _⟩ := hat.un
                subst e'
                rw [if_neg (by decide)]
                exact ⟨p', lp, L, w, mid, t.1, t.2, a, ls, rfl, hat, hl.same (s12.trans s3), hok, hls, hw, hmid, hra, hdep _ (by omega), by omega, fun p H' s' e' => k t p H' rfl s' e'⟩
              · obtain rfl : b = g := Option.some.inj hg
                obtain ⟨p', _, _, e', _⟩ := hat.un
                subst e'
                rw [if_neg (by decide)]
                exact ⟨p', lp, L, w, mid, u.1, u.2, b, ls, rfl, hat, hl.same (s12.trans s3), hok, hls, hw, hmid, hrb, hdep _ (by omega), by omega, fun p H' s' e' => k u p H' rfl s' e'⟩
            · obtain ⟨y0, y1, y2, rfl⟩ := len3 l4
              obtain ⟨r0, p0, hr0, rfl, g0⟩ := p4 0 _ rfl
              obtain ⟨r1, p1, hr1, rfl, g1⟩ := p4 1 _ rfl
              obtain ⟨r2, p2, hr2, rfl, g2⟩ := p4 2 _ rfl
              cases hr0
              cases hr1
              cases hr2
              refine ixl (SqL.of e4) rfl (ixt (SqT.of g0) rfl ?_)
              walk_at "ev"
              by_cases hr1 : r.2 = 1
              · rw [if_pos hr1] at hs ⊢
                cases Option.some.inj hs
                exact ixl (SqL.of e4) rfl (q p1 H4 (s12.trans s4) g1)
              · rw [if_neg hr1] at hs ⊢
                cases Option.some.inj hs
                exact ixl (SqL.of e4) rfl (q p2 H4 (s12.trans s4) g2)
    · rw [if_neg hx] at hs
      cases hs
theorem ok_side {f : Addr} {fd : FuncData} (D : Def K mg "_law_side" pLSide sLSide f fd) (C__law_made_number : Cal P w K mg base 10 "_law_made_number" pLMadeNumber (spNum K 6)) (C__law_told : Cal P w K mg base 4 "_law_told" pLTold spBin)
    (C__law_cast : Cal P w K mg base 3 "_law_cast" pLCast spCast) (C__law_compared : Cal P w K mg base 3 "_law_compared" pLCompared spCmp) (C__law_letters_width : Cal P w K mg base 1 "_law_letters_width" pLLettersWidth (spLW K)) (m_enumerate : mg "enumerate" = none) :
    ∀ d : Nat, FnOk P w K mg base CX0 (d + 10) f fd pLSide (spSide K d)
  | 0 => by
    have no : ∀ vs H Q E, ¬ spSide K 0 vs H Q E := fun vs H Q E h => by
      obtain ⟨_, _, _, _, _, _, _, fm, _, _, _, _, _, _, _, _, _, hd, _⟩ := h
      cases fm <;> simp [Form.depth] at hd
    exact ⟨fun vs H Q E h => absurd h (no vs H Q E), fun A outer s H args us vs Q E _ _ _ _ h => absurd h (no vs H Q E)⟩
  | d + 1 => by
    have := ok_side_step D (D.cal (ok_side D C__law_made_number C__law_told C__law_cast C__law_compared C__law_letters_width m_enumerate d)) C__law_made_number C__law_told C__law_cast C__law_compared C__law_letters_width m_enumerate
    exact this
end
end K25

set_option Elab.async false
set_option linter.all false
set_option maxRecDepth 100000
set_option maxHeartbeats 4000000
namespace K25
open PySem L2
/-! ### letters drawn for a rule -/
def heads : List Str := ["zext", "sext", "trunc"]
def lows : List Str := ["ne a 0", "eq a 1", "select c 1 0"]
def widths : List Int := [1, 8, 16, 32, 64]
def triples : List (Int × Int × Int) := [(1, 8, 16), (8, 16, 32), (1, 32, 64), (8, 32, 64)]
/-- the low width, the middle one, the width -/
def wids1 (l : Str) : List (Int × Int × Int) :=
  if (Txt.split l " ").getD 0 "" ∈ heads then triples.map fun t => if (Txt.split l " ").getD 0 "" = "trunc" then (if (Txt.split l " ").getD 1 "" = "trunc" then (t.2.2, t.2.1, t.1) else (t.1, t.2.1, t.1)) else t
  else widths.map fun w => (w, w, w)
def wids (l : Str) : List (Int × Int × Int) := if l ∈ lows then (wids1 l).map fun t => (1, t.2.1, 1) else wids1 l
def Good (low : Int) (ls : Lets) : Prop := ∀ e ∈ ls, (e.1 ∈ (["a", "b", "m", "n"] : List Str) ∧ e.2.1 = .int low ∧ In low e.2.2) ∨ (e.1 = "p" ∧ e.2.1 = .int low ∧ ∃ k, 0 ≤ k ∧ k < low ∧ e.2.2 = p2 k) ∨ (e.1 = "c" ∧ e.2.1 = .int 1 ∧ (e.2.2 = 0 ∨ e.2.2 = 1))
def Drawn (l : Str) (ls : Lets) (w mid : Int) : Prop := ∃ low, (low, mid, w) ∈ wids l ∧ Good low ls ∧ (ls.map (·.1)).Nodup ∧ ls.length ≤ 10 ∧ ∀ s ∈ Txt.split l " ", s ∈ letterWords → lk ls s ≠ none
def fitL (l : Str) : Bool := decide (l.length ≤ 30) && decide (2 ≤ (Txt.split l " ").length) && decide ((Txt.split l " ").length ≤ 10) && (List.range 10).all fun i => decide ((Txt.split l " ")[i]? = some ("c" : Str) → ("c" : Str) ∉ (Txt.split l " ").take i)
def spLet (K : PySem.W.Frag) : Sp := fun vs H Q _ => ∃ (d g : Addr) (l r : Str), vs = [.ref d, .str l, .str r] ∧ Deal d g H ∧ fitL l = true ∧ ∀ p L ls w mid H', Deal d g H' → But d g H H' → LetAt K H' L ls → Drawn l ls w mid → H' p = some (.tup [.ref L, .int w, .int mid]) → Q (.ref p) H'
def five : List Str := ["a", "b", "m", "n", "p"]
/-- what stands after the words ahead of i -/
structure InvL (K : PySem.W.Frag) (d g L p : Addr) (low : Int) (ws : List Str) (H : Hp) (i : Nat) (kvs : List (Key × V)) (ls : Lets) (H' : Hp) : Prop where
  deal : Deal d g H'
  but : But d g H H'
  np : p ≠ d ∧ p ≠ g
  p : H' p = some (.lst (ws.map V.str))
  L : H' L = some (.dK kvs)
  kv : KvAt K H' kvs ls
  good : Good low ls
  nd : (ls.map (·.1)).Nodup
  len : ls.length ≤ i
  sub : ∀ e ∈ ls, e.1 ∈ ws.take i
  all : ∀ s ∈ ws.take i, s ∈ letterWords → lk ls s ≠ none
theorem wids1_wd {l : Str} : ∀ t ∈ wids1 l, Wd t.1 ∧ Wd t.2.1 ∧ Wd t.2.2 := by
  have h1 : ∀ t ∈ triples, Wd t.1 ∧ Wd t.2.1 ∧ Wd t.2.2 := by unfold Wd; decide
  have h2 : ∀ t ∈ widths, Wd t := by unfold Wd; decide
  intro t ht
  unfold wids1 at ht
  split at ht
  · obtain ⟨z, hz, rfl⟩ := List.mem_map.mp ht
    obtain ⟨a, b, c⟩ := h1 z hz
    split
    · split
      · exact ⟨c, b, a⟩
      · exact ⟨a, b, a⟩
    · exact ⟨a, b, c⟩
  · obtain ⟨z, hz, rfl⟩ := List.mem_map.mp ht
    exact ⟨h2 z hz, h2 z hz, h2 z hz⟩
theorem wids_wd {l : Str} : ∀ t ∈ wids l, Wd t.1 ∧ Wd t.2.1 ∧ Wd t.2.2 := by
  intro t ht
  unfold wids at ht
  split at ht
  · obtain ⟨z, hz, rfl⟩ := List.mem_map.mp ht
    have w1 : Wd 1 := ⟨by decide, by decide⟩
    exact ⟨w1, (wids1_wd z hz).2.1, w1⟩
  · exact wids1_wd t ht
theorem Deal.dict {d g L : Addr} {H : Hp} {kvs : List (Key × V)} {o : HO} (D : Deal d g H) (h : H L = some (.dK kvs)) : Deal d g (upd H L o) := by
  obtain ⟨ne, xs, b, h1, h2, h3⟩ := D
  exact ⟨ne, xs, b, by rw [upd_ne (ne_of h1 h (fun z => by cases z))]; exact h1, by rw [upd_ne (ne_of h2 h (fun z => by cases z))]; exact h2, h3⟩
theorem But.mut {d g L : Addr} {H H1 : Hp} {o : HO} (B : But d g H H1) (h : H L = none) : But d g H (L2.upd H1 L o) := fun x u h1 h2 e => by
  rw [upd_ne (ne_of_none e h)]
  exact B x u h1 h2 e
theorem But.free {d g L : Addr} {H H1 : Hp} (B : But d g H H1) (D : Deal d g H1) (h : H1 L = none) : H L = none := by
  obtain ⟨ne, xs, b, h1, h2, h3⟩ := D
  cases e : H L with
  | none => rfl
  | some o =>
    rw [B L o (ne_of_none h1 h).symm (ne_of_none h2 h).symm e] at h
    cases h
theorem But.tupH {d g q : Addr} {H H1 : Hp} {xs : List V} (B : But d g H H1) (D : Deal d g H) (h : H q = some (.tup xs)) : H1 q = some (.tup xs) := by
  obtain ⟨ne, ys, b, h1, h2, h3⟩ := D
  exact B q _ (ne_of h h1 (fun z => by cases z)) (ne_of h h2 (fun z => by cases z)) h
theorem But.dict {d g q : Addr} {H H1 : Hp} {xs : List (Key × V)} (B : But d g H H1) (D : Deal d g H) (h : H q = some (.dK xs)) : H1 q = some (.dK xs) := by
  obtain ⟨ne, ys, b, h1, h2, h3⟩ := D
  exact B q _ (ne_of h h1 (fun z => by cases z)) (ne_of h h2 (fun z => by cases z)) h
section
variable {K : PySem.W.Frag} {d g L p : Addr} {low : Int} {ws : List Str} {H H1 H2 : Hp} {i : Nat} {kvs : List (Key × V)} {ls : Lets}
theorem InvL.next (v : InvL K d g L p low ws H i kvs ls H1) (D : Deal d g H2) (B : But d g H1 H2) : InvL K d g L p low ws H i kvs ls H2 := by
  exact ⟨D, v.but.trans B, v.np, B _ _ v.np.1 v.np.2 v.p, B.dict v.deal v.L, v.kv.imp (fun b xs h => B.tupH v.deal h), v.good, v.nd, v.len, v.sub, v.all⟩
theorem take_next {s : Str} (e : ws[i]? = some s) : ws.take (i + 1) = ws.take i ++ [s] := by rw [List.take_add_one, e] <;> rfl
theorem InvL.skip {s : Str} (v : InvL K d g L p low ws H i kvs ls H1) (e : ws[i]? = some s) (hs : s ∈ letterWords → lk ls s ≠ none) : InvL K d g L p low ws H (i + 1) kvs ls H1 := by
  refine ⟨v.deal, v.but, v.np, v.p, v.L, v.kv, v.good, v.nd, Nat.le_succ_of_le v.len, fun z hz => ?_, fun z hz hw => ?_⟩
  · rw [take_next e]
    exact List.mem_append_left _ (v.sub z hz)
  · rw [take_next e] at hz
    rcases List.mem_append.mp hz with hz | hz
    · exact v.all z hz hw
    · rw [List.mem_singleton.mp hz] at hw ⊢
      exact hs hw
theorem lk_snoc {s : Str} {x : V} {n : Int} {y : Str} : ∀ ls : Lets, lk (ls ++ [(s, x, n)]) y = match lk ls y with
    | some r => some r
    | none => if s = y then some (x, n) else none
  | [] => rfl
  | (s', x', n') :: r => by
    show (if s' = y then some (x', n') else lk (r ++ [(s, x, n)]) y) = match (if s' = y then some (x', n') else lk r y) with
      | some r => some r
      | none => if s = y then some (x, n) else none
    by_cases c : s' = y
    · rw [if_pos c, if_pos c]
    · rw [if_neg c, if_neg c]
      exact lk_snoc r
theorem lk_none {s : Str} : ∀ {ls : Lets}, lk ls s = none → s ∉ ls.map (·.1)
  | [], _ => by simp
  | (s', x', n') :: r, h => by
    unfold lk at h
    by_cases c : s' = s
    · rw [if_pos c] at h
      cases h
    · rw [if_neg c] at h
      intro m
      simp only [List.map_cons, List.mem_cons] at m
      rcases m with m | m
      · exact c m.symm
      · exact lk_none h m
theorem InvL.add {s : Str} {q : Addr} {x : V} {n : Int} (v : InvL K d g L p low ws H i kvs ls H1) (e : ws[i]? = some s) (hno : lk ls s = none) (hq : H1 q = some (.tup [x, .int n])) (hL : H L = none) (hg : Good low [(s, x, n)]) :
    InvL K d g L p low ws H (i + 1) (kvs ++ [(Sum.inr s, .ref q)]) (ls ++ [(s, x, n)]) (upd H1 L (.dK (kvs ++ [(Sum.inr s, .ref q)]))) := by
  have tu : Tups H1 (upd H1 L (.dK (kvs ++ [(Sum.inr s, .ref q)]))) := fun b xs h => by
    rw [upd_ne (ne_of h v.L (fun z => by cases z))]
    exact h
  refine ⟨v.deal.dict v.L, v.but.mut hL, v.np, by rw [upd_ne (ne_of v.p v.L (fun z => by cases z))]; exact v.p, upd_same, (v.kv.imp tu).snoc (tu _ _ hq), fun z hz => ?_, ?_, ?_, fun z hz => ?_, fun z hz hw => ?_⟩
  · rcases List.mem_append.mp hz with hz | hz
    · exact v.good z hz
    · exact hg z hz
  · rw [List.map_append]
    refine List.nodup_append.mpr ⟨v.nd, by simp, fun a ha b hb => ?_⟩
    rw [List.map_cons, List.map_nil, List.mem_singleton] at hb
    rintro rfl
    rw [hb] at ha
    exact lk_none hno ha
  · have := v.len
    simp
    omega
  · rw [take_next e]
    rcases List.mem_append.mp hz with hz | hz
    · exact List.mem_append_left _ (v.sub z hz)
    · rw [List.mem_singleton.mp hz]
      simp
  · rw [lk_snoc]
    rw [take_next e] at hz
    cases hl : lk ls z with
    | some r => simp
    | none =>
      rcases List.mem_append.mp hz with hz | hz
      · exact absurd hl (v.all z hz hw)
      · rw [List.mem_singleton.mp hz]
        simp
theorem InvL.same (v : InvL K d g L p low ws H i kvs ls H1) (s : Same H1 H2) : InvL K d g L p low ws H i kvs ls H2 := v.next (v.deal.same s) (But.of s)
theorem InvL.put {s : Str} {x : V} {n : Int} (v : InvL K d g L p low ws H i kvs ls H1) (e : ws[i]? = some s) (hno : lk ls s = none) (hi : i ≤ 10) (hL : H L = none) (hg : Good low [(s, x, n)]) :
    newT (fun y H2 => ∃ H3, DPut H2 L (.str s) y H3 ∧ ∃ kvs ls, InvL K d g L p low ws H (i + 1) kvs ls H3) [x, .int n] H1 :=
  new_t (by show 2 ≤ 1000; decide) fun q H2 _ s2 e2 => by
    have v2 := v.same s2
    have hv : valV kvs (Sum.inr s) = none := by
      rcases v2.kv.look (y := s) with ⟨_, z⟩ | ⟨_, _, _, z, _⟩
      · exact z
      · rw [hno] at z
        cases z
    refine ⟨_, DPut.k (k := Sum.inr s) v2.L (Nat.lt_of_le_of_lt (m := 10) (by rw [v2.kv.len]; have := v2.len; omega) (by decide)), ?_⟩
    rw [putK_new _ hv]
    exact ⟨_, _, v2.add e hno e2 hL hg⟩
theorem InvL.let {H1 : Hp} (v : InvL K d g L p low ws H i kvs ls H1) : LetAt K H1 L ls := ⟨kvs, v.L, v.kv⟩
end
theorem heads_eq (x : Str) : inV (.str x) [.str "zext", .str "sext", .str "trunc"] = decide (x ∈ heads) := inV_strs x heads
theorem five_eq (x : Str) : inV (.str x) [.str "a", .str "b", .str "m", .str "n", .str "p"] = decide (x ∈ five) := inV_strs x five
theorem lows_eq (x : Str) : inV (.str x) [.str "ne a 0", .str "eq a 1", .str "select c 1 0"] = decide (x ∈ lows) := inV_strs x lows
local macro_rules | `(tactic| walk_at "ev") => `(tactic| try simp only [wipe, iTup, iList, tBM, tBM0, gSub, tSl, tPart, tNoPart, rSlS, tAndV, tOrV, tNotV, tM0, tM1, tPar3, reduceCtorEq, false_and, exists_false, or_false, false_or, gcons, gnil, gName, tRet, tRetN, tIf, tTest, tOp, tUn, rI0, rI, rU, tVar, tC, tCall, tCons, tNil, tCB, tSeq, tIfS, tAsg, gName, tNext, tDrop, tPar, tB, tAnd, tOr, tNot, tIsN, tNotN, rEq, rNe, L2.start, List.map_cons, List.map_nil, List.length_cons, List.length_nil, List.replicate_succ, List.replicate_zero, List.cons_append, List.nil_append, List.append_nil, List.set_cons_zero, List.set_cons_succ, List.set_nil, Nat.reduceAdd, Nat.reduceSub, Nat.zero_add, Nat.sub_self, Nat.add_zero, Nat.succ_eq_add_one, List.getElem?_cons_zero, List.getElem?_cons_succ, Option.some.injEq, V.int.injEq, V.str.injEq, V.bl.injEq, V.ref.injEq, List.cons.injEq, and_assoc, exists_eq_left', exists_eq_left, exists_and_left, exists_eq', exists_eq_right, exists_eq_right', exists_const, and_true, true_and, and_self, scal_ii, scal_ss, scal_bb, decide_eq_true_eq, ite_bl, Int.one_mul, p2f, abf, reduceIte, Bool.false_eq_true, decide_true, decide_false, Bool.not_true, Bool.not_false, tCalK, dIn_n, dNotIn_n, dGet_n, sDPut, tup_n, lst_n, NWrapped, NSigned, NQuotient, NDivided, NShifted, NBinTold, NCmpTold, NCastTold, NIsPure, NFolded, NLDraw, NLAny, NLOf, NLPower, NLNumber, NLForm, NLSigned, NLShift, NLTold, NLCompared, NLCast, NLPure, NLTable, NLRead, NLMadeNumber, NLOpDrawn, NLFolded, NLLettersWidth, NLSide, NLLettersDrawn, NLOpsRight, NLaw])
section
variable {P : Program} {w : World} {K : PySem.W.Frag} {mg : Str → Option Value} {base : Heap}
theorem ok_letters {f : Addr} {fd : FuncData} (D : Def K mg "_law_letters_drawn" pLLettersDrawn sLLettersDrawn f fd) (C__law_any : Cal P w K mg base 1 "_law_any" pLAny spAny) (C__law_of : Cal P w K mg base 2 "_law_of" pLOf (spOf K)) (C__law_power : Cal P w K mg base 1 "_law_power" pLPower spPower)
    (C__law_number : Cal P w K mg base 3 "_law_number" pLNumber spNumber) : Cal P w K mg base 4 "_law_letters_drawn" pLLettersDrawn (spLet K) := by
  refine D.cal (D.F.ok scLLettersDrawn (fun vs H Q E h => ?_) (fun cdv A outer s H vs Q E hr h => ?_))
  · obtain ⟨_, _, _, _, rfl, _⟩ := h
    rfl
  obtain ⟨d, g, l, r, rfl, hd, hfit, q⟩ := h
  have nd := scLLettersDrawn.nd
  unfold fitL at hfit
  simp only [Bool.and_eq_true, decide_eq_true_eq] at hfit
  obtain ⟨⟨⟨hl30, h2⟩, h10⟩, hc1⟩ := hfit
  refine ⟨_, (pss_cons (ps_par (i := 5) (j := 6) (by rfl) nd rfl rfl (by decide) rfl rfl (pa_cons (pe_split (pv 1) pe_str) (pa_cons (pe_cal C__law_of hr (by omega) (by rfl) (pa_cons (pv 0) (pa_cons (pe_lst (pa_cons pe_int (pa_cons pe_int (pa_cons pe_int (pa_cons pe_int (pa_cons pe_int pa_nil)))))) pa_nil))) pa_nil)) (by rfl))
    (pss_cons (ps_par (i := 7) (j := 8) (by rfl) nd rfl rfl (by decide) rfl rfl (pa_cons (pv 6) (pa_cons (pv 6) pa_nil)) (by rfl))
    (Evl.pss_cut (ps_if (pt_cmpR (r := rIn K false) op_in_seq (pe_ix (r := rIxL K) ix_list (pv 5) pe_int (fun _ _ => rfl)) (pe_lst (pa_cons pe_str (pa_cons pe_str (pa_cons pe_str pa_nil)))) (by rfl)) (pss_cons (ps_asg (pe_cal C__law_of hr (by omega) (by rfl) (pa_cons (pv 0) (pa_cons (pe_lst (pa_cons (pe_tup (pa_cons pe_int (pa_cons pe_int (pa_cons pe_int pa_nil)))) (pa_cons (pe_tup (pa_cons pe_int (pa_cons pe_int (pa_cons pe_int pa_nil)))) (pa_cons (pe_tup (pa_cons pe_int (pa_cons pe_int (pa_cons pe_int pa_nil)))) (pa_cons (pe_tup (pa_cons pe_int (pa_cons pe_int (pa_cons pe_int pa_nil)))) pa_nil))))) pa_nil))) (pg_tup (n := 3) (by rfl) (pgs_cons (pg_name (i := 8) nd rfl (by first | exact Or.inl rfl | exact Or.inr rfl)) (pgs_cons (pg_name (i := 7) nd rfl (by first | exact Or.inl rfl | exact Or.inr rfl)) (pgs_cons (pg_name (i := 6) nd rfl (by first | exact Or.inl rfl | exact Or.inr rfl)) pgs_nil)))))
    (pss_one (ps_if (pt_cmpR op_eq (pe_ix (r := rIxL K) ix_list (pv 5) pe_int (fun _ _ => rfl)) pe_str (nomark _)) (pss_one (ps_asg (pe_ifExp (pt_cmpR op_ne (pe_ix (r := rIxL K) ix_list (pv 5) pe_int (fun _ _ => rfl)) pe_str (nomark _)) (pe_tup (pa_cons (pv 8) (pa_cons (pv 7) (pa_cons (pv 8) pa_nil)))) (pe_tup (pa_cons (pv 6) (pa_cons (pv 7) (pa_cons (pv 8) pa_nil))))) (pg_tup (n := 3) (by rfl) (pgs_cons (pg_name (i := 8) nd rfl (by first | exact Or.inl rfl | exact Or.inr rfl)) (pgs_cons (pg_name (i := 7) nd rfl (by first | exact Or.inl rfl | exact Or.inr rfl)) (pgs_cons (pg_name (i := 6) nd rfl (by first | exact Or.inl rfl | exact Or.inr rfl)) pgs_nil)))))) pss_nil))) pss_nil)
    (Evl.pss_cut (ps_if (pt_cmpR (r := rIn K false) op_in_seq (pv 1) (pe_lst (pa_cons pe_str (pa_cons pe_str (pa_cons pe_str pa_nil)))) (by rfl)) (pss_one (ps_asg (pe_tup (pa_cons pe_int (pa_cons pe_int pa_nil))) (pg_tup (n := 2) (by rfl) (pgs_cons (pg_name (i := 6) nd rfl (by first | exact Or.inl rfl | exact Or.inr rfl)) (pgs_cons (pg_name (i := 8) nd rfl (by first | exact Or.inl rfl | exact Or.inr rfl)) pgs_nil))))) pss_nil)
    (pss_cons (ps_set (i := 3) nd rfl (by first | exact Or.inl rfl | exact Or.inr rfl) pe_dnewK)
    (pss_cons (ps_for PassesOwn.never rfl (pi_list (pv 5)) (pg_name (i := 4) nd rfl (by first | exact Or.inl rfl | exact Or.inr rfl)) (Evl.pss_cut (ps_if (PW.pt (pw_and (pt_cmpR (r := rIn K false) op_in_seq (pv 4) (pe_lst (pa_cons pe_str (pa_cons pe_str (pa_cons pe_str (pa_cons pe_str (pa_cons pe_str pa_nil)))))) (by rfl)) (pw_and1 (pt_cmp (pc_dnotin (hu_of hr) (pv 4) (pv 3)))))) (pss_cons (ps_set (i := 9) nd rfl (by first | exact Or.inl rfl | exact Or.inr rfl) (pe_ifExp (pt_cmpR op_eq (pv 4) pe_str (nomark _)) (pe_cal C__law_power hr (by omega) (by rfl) (pa_cons (pe_cal C__law_any hr (by omega) (by rfl) (pa_cons (pv 0) (pa_cons (pv 8) pa_nil))) pa_nil)) (pe_cal C__law_number hr (by omega) (by rfl) (pa_cons (pv 0) (pa_cons (pv 8) pa_nil)))))
    (pss_one (ps_dput (hu_of hr) (pv 3) (pv 4) (pe_tup (pa_cons (pv 8) (pa_cons (pv 9) pa_nil))) rfl))) pss_nil)
    (pss_one (ps_if (pt_cmpR op_eq (pv 4) pe_str (nomark _)) (pss_one (ps_dput (hu_of hr) (pv 3) (pv 4) (pe_tup (pa_cons pe_int (pa_cons (pe_cal C__law_any hr (by omega) (by rfl) (pa_cons (pv 0) (pa_cons pe_int pa_nil))) pa_nil))) rfl)) pss_nil))))
    (pss_one (ps_ret (pe_tup (pa_cons (pv 3) (pa_cons (pv 6) (pa_cons (pv 7) pa_nil)))))))))))), ?_⟩
  walk_at "ev"
  refine ⟨by decide +kernel, Nat.le_of_lt (small1000 (by omega)), fun p hp => ?_⟩
  have s0 : Same H (upd H p (.lst ((Txt.split l " ").map V.str))) := same_new hp _
  refine of_n (hd.same s0) (by decide) (by decide) fun x hx H1 D1 B1 => ?_
  obtain ⟨w0, rfl, hw0⟩ : ∃ w0, x = .int w0 ∧ w0 ∈ widths := by
    simp only [List.mem_cons, List.not_mem_nil, or_false] at hx
    rcases hx with rfl | rfl | rfl | rfl | rfl <;> exact ⟨_, rfl, by decide⟩
  have ep : H1 p = some (.lst ((Txt.split l " ").map V.str)) := by
    obtain ⟨ne, ys, b, e1, e2, _⟩ := id hd
    exact B1 _ _ (ne_of_none e1 hp).symm (ne_of_none e2 hp).symm upd_same
  replace B1 := (But.of s0).trans B1
  generalize hws : Txt.split l " " = ws at *
  have hg0 : ws[0]? = some (ws.getD 0 "") := by
    rw [List.getD_eq_getElem?_getD, List.getElem?_eq_getElem (by omega)]
    rfl
  have hg1 : ws[1]? = some (ws.getD 1 "") := by
    rw [List.getD_eq_getElem?_getD, List.getElem?_eq_getElem (by omega)]
    rfl
  have ix0 : atI (ws.map V.str) 0 = some (.str (ws.getD 0 "")) := by
    refine at_of (j := 0) rfl ?_
    rw [List.getElem?_map, hg0] <;> rfl
  have ix1 : atI (ws.map V.str) 1 = some (.str (ws.getD 1 "")) := by
    refine at_of (j := 1) rfl ?_
    rw [List.getElem?_map, hg1] <;> rfl
  refine ⟨fun σ H' => ∃ low mid w : Int, σ = [some (.ref d), some (.str l), some (.str r), none, none, some (.ref p), some (.int w), some (.int mid), some (.int low), none] ∧ (low, mid, w) ∈ wids1 l ∧ Deal d g H' ∧ But d g H H' ∧ H' p = some (.lst (ws.map V.str)), ?_, ?_⟩
  · walk_at "ev"
    refine ixl (SqL.of ep) ix0 ?_
    refine in_newL rfl rfl (by show 3 ≤ 1000; decide) fun H2 s2 => ?_
    walk_at "ev"
    rw [heads_eq]
    replace D1 := D1.same s2
    replace B1 := B1.same s2
    replace ep := s2 _ _ ep
    clear s2 H1
    refine ite2 (fun c => ?_) (fun c => ?_)
    · rw [decide_eq_true_eq] at c
      refine new_t (by show 3 ≤ 1000; decide) fun q1 H3 _ s3 e3 => new_t (by show 3 ≤ 1000; decide) fun q2 H4 _ s4 e4 => new_t (by show 3 ≤ 1000; decide) fun q3 H5 _ s5 e5 => new_t (by show 3 ≤ 1000; decide) fun q4 H6 _ s6 e6 => ?_
      have sA := ((s3.trans s4).trans s5).trans s6
      have D6 := D1.same sA
      refine of_n D6 (Nat.zero_lt_succ _) (by show 4 ≤ 1000; decide) fun x hx H7 D7 B7 => ?_
      obtain ⟨t, q0, rfl, ht, et⟩ : ∃ (t : Int × Int × Int) (q0 : Addr), x = .ref q0 ∧ t ∈ triples ∧ H7 q0 = some (.tup [.int t.1, .int t.2.1, .int t.2.2]) := by
        simp only [List.mem_cons, List.not_mem_nil, or_false] at hx
        rcases hx with rfl | rfl | rfl | rfl
        · exact ⟨(1, 8, 16), _, rfl, by decide, B7.tupH D6 (s6 _ _ (s5 _ _ (s4 _ _ e3)))⟩
        · exact ⟨(8, 16, 32), _, rfl, by decide, B7.tupH D6 (s6 _ _ (s5 _ _ e4))⟩
        · exact ⟨(1, 32, 64), _, rfl, by decide, B7.tupH D6 (s6 _ _ e5)⟩
        · exact ⟨(8, 32, 64), _, rfl, by decide, B7.tupH D6 e6⟩
      have ep7 : H7 p = some (.lst (ws.map V.str)) := by
        obtain ⟨ne, ys, b, z1, z2, _⟩ := id hd
        exact B7 _ _ (ne_of_none z1 hp).symm (ne_of_none z2 hp).symm (sA _ _ ep)
      replace B7 := (B1.same sA).trans B7
      refine unp_got (SqT.of et) rfl ?_
      walk_at "ev"
      refine ixl (SqL.of ep7) ix0 ?_
      walk_at "ev"
      have em : ∀ z ∈ triples, (if ws.getD 0 "" = "trunc" then (if ws.getD 1 "" = "trunc" then (z.2.2, z.2.1, z.1) else (z.1, z.2.1, z.1)) else z) ∈ wids1 l := fun z hz => by
        unfold wids1
        rw [hws, if_pos c]
        exact List.mem_map.mpr ⟨z, hz, rfl⟩
      have em := em t ht
      refine ite2 (fun c2 => ?_) (fun c2 => ?_)
      · rw [if_pos c2] at em
        refine ixl (SqL.of ep7) ix1 ?_
        walk_at "ev"
        refine ite2 (fun c3 => ?_) (fun c3 => ?_)
        · rw [if_neg (by simpa using c3)] at em
          refine new_t (by show 3 ≤ 1000; decide) fun q5 H8 _ s8 e8 => unp_got (SqT.of e8) rfl ?_
          walk_at "ev"
          exact ⟨em, D7.same s8, B7.same s8, s8 _ _ ep7⟩
        · rw [if_pos (by simpa using c3)] at em
          refine new_t (by show 3 ≤ 1000; decide) fun q5 H8 _ s8 e8 => unp_got (SqT.of e8) rfl ?_
          walk_at "ev"
          exact ⟨em, D7.same s8, B7.same s8, s8 _ _ ep7⟩
      · rw [if_neg c2] at em
        exact ⟨em, D7, B7, ep7⟩
    · rw [decide_eq_true_eq] at c
      refine ⟨?_, D1, B1, ep⟩
      unfold wids1
      rw [hws, if_neg c]
      exact List.mem_map.mpr ⟨w0, hw0, rfl⟩
  · rintro σ H2 ⟨low, mid, w, rfl, hwi, D2, B2, e2⟩
    refine ⟨fun σ H' => ∃ low mid w : Int, σ = [some (.ref d), some (.str l), some (.str r), none, none, some (.ref p), some (.int w), some (.int mid), some (.int low), none] ∧ (low, mid, w) ∈ wids l ∧ Deal d g H' ∧ But d g H H' ∧ H' p = some (.lst (ws.map V.str)), ?_, ?_⟩
    · walk_at "ev"
      refine in_newL rfl rfl (by show 3 ≤ 1000; decide) fun H3 s3 => ?_
      walk_at "ev"
      rw [lows_eq]
      refine ite2 (fun c => ?_) (fun c => ?_)
      · rw [decide_eq_true_eq] at c
        refine new_t (by show 2 ≤ 1000; decide) fun q1 H4 _ s4 e4 => ?_
        refine unp_got (SqT.of e4) rfl ?_
        walk_at "ev"
        refine ⟨?_, D2.same (s3.trans s4), B2.same (s3.trans s4), s4 _ _ (s3 _ _ e2)⟩
        unfold wids
        rw [if_pos c]
        exact List.mem_map.mpr ⟨_, hwi, rfl⟩
      · rw [decide_eq_true_eq] at c
        refine ⟨?_, D2.same s3, B2.same s3, s3 _ _ e2⟩
        unfold wids
        rw [if_neg c]
        exact hwi
    rintro σ H3 ⟨low, mid, w, rfl, hwi, D3, B3, e3⟩
    walk_at "ev"
    have wd := wids_wd _ hwi
    show ∀ L, H3 L = none → _
    intro L hL
    have np : p ≠ d ∧ p ≠ g := by
      obtain ⟨ne, ys, b, z1, z2, _⟩ := id hd
      exact ⟨(ne_of_none z1 hp).symm, (ne_of_none z2 hp).symm⟩
    have nL : H L = none := B3.free D3 hL
    have sL : Same H3 (upd H3 L (.dK [])) := same_new hL _
    refine Evl.s_forLn (K := K) (a := p) (xs := ws.map V.str) (Evl.ev_var rfl) (SqL.of (sL _ _ e3)) (fun i σ H' => ∃ c4 c9 kvs ls, σ = [some (.ref d), some (.str l), some (.str r), some (.ref L), c4, some (.ref p), some (.int w), some (.int mid), some (.int low), c9] ∧ InvL K d g L p low ws H i kvs ls H')
      (fun H4 s4 => ⟨_, _, [], [], rfl, D3.same (sL.trans s4), B3.same (sL.trans s4), np, s4 _ _ (sL _ _ e3), s4 _ _ upd_same, trivial, fun e he => by simp at he, by simp, by simp, fun e he => by simp at he, fun s hs => by simp at hs⟩) (fun i σ H4 _ v => ?_) (fun i x σ H4 hi v => ?_) (fun σ H4 v => ?_)
    · obtain ⟨_, _, _, _, _, v⟩ := v
      exact SqL.of v.p
    · obtain ⟨c4, c9, kvs, ls, rfl, v⟩ := v
      rw [List.getElem?_map] at hi
      cases hn : ws[i]? with
      | none => rw [hn] at hi; cases hi
      | some s =>
        rw [hn] at hi
        obtain rfl : V.str s = x := Option.some.inj hi
        by_cases h5 : s ∈ five
        · refine ⟨fun σ H' => ∃ c9 kvs ls, σ = [some (.ref d), some (.str l), some (.str r), some (.ref L), some (.str s), some (.ref p), some (.int w), some (.int mid), some (.int low), c9] ∧ InvL K d g L p low ws H (i + 1) kvs ls H', ?_, ?_⟩
          · walk_at "ev"
            refine in_newL rfl rfl (by show 5 ≤ 1000; decide) fun H5 s5 => ?_
            walk_at "ev"
            have v5 := v.same s5
            refine ite_p (by rw [five_eq]; exact decide_eq_true h5) (dNotIn_s v5.let ?_)
            walk_at "ev"
            have hi10 : i ≤ 10 := by
              have := (List.getElem?_eq_some_iff.mp hn).1
              omega
            cases hlk : lk ls s with
            | some r =>
              refine iteF ?_
              exact ⟨_, _, v5.skip hn fun _ => by rw [hlk]; exact fun z => by cases z⟩
            | none =>
              refine iteT ?_
              refine ite2 (fun c => ?_) (fun c => ?_)
              · refine ⟨d, g, low, rfl, v5.deal, ⟨by have := wd.1.1; omega, by have := wd.1.2; omega⟩, fun k H6 k0 k1 D6 B6 => ?_⟩
                refine ⟨k, rfl, ⟨k0, by have := wd.1.2; omega⟩, ?_⟩
                exact (v5.next D6 B6).put hn hlk hi10 nL fun z hz => by
                  rw [List.mem_singleton.mp hz]
                  exact .inr (.inl ⟨c, rfl, k, k0, k1, rfl⟩)
              · refine ⟨d, g, low, rfl, v5.deal, wd.1, fun k H6 hk D6 B6 => ?_⟩
                exact (v5.next D6 B6).put hn hlk hi10 nL fun z hz => by
                  rw [List.mem_singleton.mp hz]
                  refine .inl ⟨?_, rfl, hk⟩
                  simp only [five, List.mem_cons, List.not_mem_nil, or_false] at h5
                  simp only [List.mem_cons, List.not_mem_nil, or_false]
                  rcases h5 with z | z | z | z | z
                  · exact .inl z
                  · exact .inr (.inl z)
                  · exact .inr (.inr (.inl z))
                  · exact .inr (.inr (.inr z))
                  · exact absurd z c
          · rintro σ H5 ⟨c9', kvs', ls', rfl, v'⟩
            walk_at "ev"
            refine ite_n (fun z => ?_) ⟨_, _, v'⟩
            subst z
            exact absurd h5 (by decide +kernel)
        · refine ⟨fun σ H' => ∃ c9 kvs ls, σ = [some (.ref d), some (.str l), some (.str r), some (.ref L), some (.str s), some (.ref p), some (.int w), some (.int mid), some (.int low), c9] ∧ InvL K d g L p low ws H i kvs ls H', ?_, ?_⟩
          · walk_at "ev"
            refine in_newL rfl rfl (by show 5 ≤ 1000; decide) fun H5 s5 => ?_
            walk_at "ev"
            have v5 := v.same s5
            exact ite_n (by rw [five_eq, decide_eq_true_eq]; exact h5) ⟨_, _, v5⟩
          · rintro σ H5 ⟨c9', kvs', ls', rfl, v'⟩
            walk_at "ev"
            have hi10 : i < 10 := by
              have := (List.getElem?_eq_some_iff.mp hn).1
              omega
            refine ite2 (fun c => ?_) (fun c => ?_)
            · subst c
              refine ⟨d, g, 2, rfl, v'.deal, ⟨by decide, by decide⟩, fun k H6 k0 k1 D6 B6 => ?_⟩
              have hc := List.all_eq_true.mp hc1 i (List.mem_range.mpr hi10)
              rw [decide_eq_true_eq] at hc
              have hno : lk ls' "c" = none := lk_no fun m => by
                obtain ⟨z, hz, ez⟩ := List.mem_map.mp m
                exact hc hn (ez ▸ v'.sub z hz)
              exact (v'.next D6 B6).put hn hno (by omega) nL fun z hz => by
                rw [List.mem_singleton.mp hz]
                exact .inr (.inr ⟨rfl, rfl, by show k = 0 ∨ k = 1; omega⟩)
            · refine ⟨_, _, v'.skip hn fun z => ?_⟩
              simp only [letterWords, List.mem_cons, List.not_mem_nil, or_false] at z
              simp only [five, List.mem_cons, List.not_mem_nil, or_false] at h5
              refine absurd ?_ h5
              rcases z with z | z | z | z | z | z
              · exact .inl z
              · exact .inr (.inl z)
              · exact absurd z c
              · exact .inr (.inr (.inl z))
              · exact .inr (.inr (.inr (.inl z)))
              · exact .inr (.inr (.inr (.inr z)))
    · obtain ⟨c4, c9, kvs, ls, rfl, v⟩ := v
      walk_at "ev"
      rw [List.length_map] at v
      refine new_t (by show 3 ≤ 1000; decide) fun p2 H5 _ s5 e5 => ?_
      have v5 := v.same s5
      refine q p2 L ls w mid H5 v5.deal v5.but v5.let ⟨low, hwi, v5.good, v5.nd, by have := v5.len; omega, fun s hs => ?_⟩ e5
      rw [hws] at hs
      exact v5.all s (by rw [List.take_length]; exact hs)
end
end K25

set_option Elab.async false
set_option linter.all false
set_option maxRecDepth 100000
set_option maxHeartbeats 4000000
namespace K25
open PySem L2
/-! ### the rules, in plain numbers -/
theorem band (a b : Nat) : Builtin.bitAnd (a : Int) (b : Int) = ((a &&& b : Nat) : Int) := by rw [PyProof.Rows.bitAnd_pp (by omega) (by omega)] <;> simp
theorem bor (a b : Nat) : Builtin.bitOr (a : Int) (b : Int) = ((a ||| b : Nat) : Int) := by rw [Bits.bitOr_pp (by omega) (by omega)] <;> simp
theorem bxor (a b : Nat) : Builtin.bitXor (a : Int) (b : Int) = ((a ^^^ b : Nat) : Int) := by rw [Bits.bitXor_pp (by omega) (by omega)] <;> simp
theorem in_ex {w x : Int} (h : In w x) : ∃ n : Nat, x = n ∧ n < 2 ^ w.toNat := by
  obtain ⟨h0, h1⟩ := h
  rw [p2_nat] at h1
  exact ⟨x.toNat, by omega, by omega⟩
theorem one_in {w : Int} (hw : Wd w) : In w 1 := by
  have := p2_one hw.1
  have := p2_pos (w - 1)
  exact ⟨by omega, by omega⟩
theorem zero_in {w : Int} : In w 0 := ⟨by omega, p2_pos w⟩
theorem top_in {w : Int} : In w (p2 w - 1) := by
  have := p2_pos w
  exact ⟨by omega, by omega⟩
theorem mod_id {w x : Int} (h : In w x) : x % p2 w = x := Int.emod_eq_of_lt h.1 h.2
section
variable {w x y u v k : Int}
theorem q_add0 (hx : In w x) : (x + 0) % p2 w = x := by rw [Int.add_zero, mod_id hx]
theorem q_sub0 (hx : In w x) : (x - 0) % p2 w = x := by rw [Int.sub_zero, mod_id hx]
theorem q_subs : (x - x) % p2 w = 0 := by rw [Int.sub_self, Int.zero_emod]
theorem q_mul0 : (x * 0) % p2 w = 0 := by rw [Int.mul_zero, Int.zero_emod]
theorem q_mul1 (hx : In w x) : (x * 1) % p2 w = x := by rw [Int.mul_one, mod_id hx]
theorem q_div1 : x / 1 = x := Int.ediv_one x
theorem q_rem1 : x % 1 = 0 := Int.emod_one x
theorem q_and0 (hx : In w x) : Builtin.bitAnd x 0 = 0 := by
  obtain ⟨n, rfl, _⟩ := in_ex hx
  rw [show (0 : Int) = ((0 : Nat) : Int) from rfl, band, Nat.and_zero]
theorem top_nat (w : Int) : p2 w - 1 = ((2 ^ w.toNat - 1 : Nat) : Int) := by
  have := Nat.two_pow_pos w.toNat
  rw [p2_nat]
  omega
theorem q_andm (hx : In w x) : Builtin.bitAnd x (p2 w - 1) = x := by
  obtain ⟨n, rfl, h⟩ := in_ex hx
  rw [top_nat, band, Nat.and_two_pow_sub_one_eq_mod, Nat.mod_eq_of_lt h]
theorem q_ands (hx : In w x) : Builtin.bitAnd x x = x := by
  obtain ⟨n, rfl, h⟩ := in_ex hx
  rw [band, Nat.and_self]
theorem q_or0 (hx : In w x) : Builtin.bitOr x 0 = x := by
  obtain ⟨n, rfl, _⟩ := in_ex hx
  rw [show (0 : Int) = ((0 : Nat) : Int) from rfl, bor, Nat.or_zero]
theorem q_orm (hx : In w x) : Builtin.bitOr x (p2 w - 1) = p2 w - 1 := by
  obtain ⟨n, rfl, h⟩ := in_ex hx
  rw [top_nat, bor]
  congr 1
  refine Nat.eq_of_testBit_eq fun i => ?_
  rw [Nat.testBit_or, Nat.testBit_two_pow_sub_one]
  by_cases hi : i < w.toNat
  · simp [hi]
  · have : n.testBit i = false := Nat.testBit_lt_two_pow (Nat.lt_of_lt_of_le h (Nat.pow_le_pow_right (by decide) (by omega)))
    simp [this]
theorem q_ors (hx : In w x) : Builtin.bitOr x x = x := by
  obtain ⟨n, rfl, h⟩ := in_ex hx
  rw [bor, Nat.or_self]
theorem q_xor0 (hx : In w x) : Builtin.bitXor x 0 = x := by
  obtain ⟨n, rfl, _⟩ := in_ex hx
  rw [show (0 : Int) = ((0 : Nat) : Int) from rfl, bxor, Nat.xor_zero]
theorem q_xors (hx : In w x) : Builtin.bitXor x x = 0 := by
  obtain ⟨n, rfl, h⟩ := in_ex hx
  rw [bxor, Nat.xor_self] <;> rfl
theorem p2_0 : p2 0 = 1 := rfl
theorem q_shl0 (hx : In w x) : (x * p2 (0 % w)) % p2 w = x := by rw [Int.zero_emod, p2_0, Int.mul_one, mod_id hx]
theorem q_lshr0 : x / p2 (0 % w) = x := by rw [Int.zero_emod, p2_0, Int.ediv_one]
theorem sg_mod (hx : In w x) : sg x w % p2 w = x := by
  unfold sg
  split
  · rw [Int.sub_emod_right, mod_id hx]
  · exact mod_id hx
theorem q_ashr0 (hx : In w x) : (sg x w / p2 (0 % w)) % p2 w = x := by rw [Int.zero_emod, p2_0, Int.ediv_one, sg_mod hx]
theorem q_addc : (u + x) % p2 w = (x + u) % p2 w := by rw [Int.add_comm]
theorem q_mulc : (u * x) % p2 w = (x * u) % p2 w := by rw [Int.mul_comm]
theorem q_andc (hu : In w u) (hx : In w x) : Builtin.bitAnd u x = Builtin.bitAnd x u := by
  obtain ⟨a, rfl, _⟩ := in_ex hu
  obtain ⟨b, rfl, _⟩ := in_ex hx
  rw [band, band, Nat.and_comm]
theorem q_orc (hu : In w u) (hx : In w x) : Builtin.bitOr u x = Builtin.bitOr x u := by
  obtain ⟨a, rfl, _⟩ := in_ex hu
  obtain ⟨b, rfl, _⟩ := in_ex hx
  rw [bor, bor, Nat.or_comm]
theorem q_xorc (hu : In w u) (hx : In w x) : Builtin.bitXor u x = Builtin.bitXor x u := by
  obtain ⟨a, rfl, _⟩ := in_ex hu
  obtain ⟨b, rfl, _⟩ := in_ex hx
  rw [bxor, bxor, Nat.xor_comm]
theorem q_addm : (x + y % p2 w) % p2 w = (x + y) % p2 w := by rw [Int.add_emod, Int.emod_emod, ← Int.add_emod]
theorem q_madd : (x % p2 w + y) % p2 w = (x + y) % p2 w := by rw [Int.add_emod, Int.emod_emod, ← Int.add_emod]
theorem q_msub : (x % p2 w - y) % p2 w = (x - y) % p2 w := by rw [Int.sub_emod, Int.emod_emod, ← Int.sub_emod]
theorem q_mulm : (x * (y % p2 w)) % p2 w = (x * y) % p2 w := by rw [Int.mul_emod, Int.emod_emod, ← Int.mul_emod]
theorem q_mmul : ((x % p2 w) * y) % p2 w = (x * y) % p2 w := by rw [Int.mul_emod, Int.emod_emod, ← Int.mul_emod]
theorem q_subn : (x + (0 - u) % p2 w) % p2 w = (x - u) % p2 w := by
  rw [q_addm]
  congr 1
  omega
theorem q_adda : (x + (u + v) % p2 w) % p2 w = ((x + u) % p2 w + v) % p2 w := by rw [q_addm, q_madd, Int.add_assoc]
theorem q_mula : (x * ((u * v) % p2 w)) % p2 w = (((x * u) % p2 w) * v) % p2 w := by rw [q_mulm, q_mmul, Int.mul_assoc]
theorem q_anda (hx : In w x) (hu : In w u) (hv : In w v) : Builtin.bitAnd x (Builtin.bitAnd u v) = Builtin.bitAnd (Builtin.bitAnd x u) v := by
  obtain ⟨a, rfl, _⟩ := in_ex hx
  obtain ⟨b, rfl, _⟩ := in_ex hu
  obtain ⟨c, rfl, _⟩ := in_ex hv
  rw [band, band, band, band, Nat.and_assoc]
theorem q_ora (hx : In w x) (hu : In w u) (hv : In w v) : Builtin.bitOr x (Builtin.bitOr u v) = Builtin.bitOr (Builtin.bitOr x u) v := by
  obtain ⟨a, rfl, _⟩ := in_ex hx
  obtain ⟨b, rfl, _⟩ := in_ex hu
  obtain ⟨c, rfl, _⟩ := in_ex hv
  rw [bor, bor, bor, bor, Nat.or_assoc]
theorem q_xora (hx : In w x) (hu : In w u) (hv : In w v) : Builtin.bitXor x (Builtin.bitXor u v) = Builtin.bitXor (Builtin.bitXor x u) v := by
  obtain ⟨a, rfl, _⟩ := in_ex hx
  obtain ⟨b, rfl, _⟩ := in_ex hu
  obtain ⟨c, rfl, _⟩ := in_ex hv
  rw [bxor, bxor, bxor, bxor, Nat.xor_assoc]
theorem q_subadd (hx : In w x) : ((x + y) % p2 w - y) % p2 w = x := by rw [q_msub, Int.add_sub_cancel, mod_id hx]
theorem q_addsub (hx : In w x) : ((x - y) % p2 w + y) % p2 w = x := by rw [q_madd, Int.sub_add_cancel, mod_id hx]
theorem q_xorxor (hx : In w x) (hy : In w y) : Builtin.bitXor (Builtin.bitXor x y) y = x := by
  obtain ⟨a, rfl, _⟩ := in_ex hx
  obtain ⟨b, rfl, _⟩ := in_ex hy
  rw [bxor, bxor, Nat.xor_assoc, Nat.xor_self, Nat.xor_zero]
theorem q_andor (hx : In w x) (hy : In w y) : Builtin.bitAnd x (Builtin.bitOr x y) = x := by
  obtain ⟨a, rfl, _⟩ := in_ex hx
  obtain ⟨b, rfl, _⟩ := in_ex hy
  rw [bor, band]
  congr 1
  refine Nat.eq_of_testBit_eq fun i => ?_
  rw [Nat.testBit_and, Nat.testBit_or]
  cases a.testBit i <;> simp
theorem q_orand (hx : In w x) (hy : In w y) : Builtin.bitOr x (Builtin.bitAnd x y) = x := by
  obtain ⟨a, rfl, _⟩ := in_ex hx
  obtain ⟨b, rfl, _⟩ := in_ex hy
  rw [band, bor]
  congr 1
  refine Nat.eq_of_testBit_eq fun i => ?_
  rw [Nat.testBit_or, Nat.testBit_and]
  cases a.testBit i <;> simp
theorem b2n_congr {p q : Prop} [Decidable p] [Decidable q] (h : p ↔ q) : b2n (decide p) = b2n (decide q) := by
  by_cases c : p
  · rw [decide_eq_true c, decide_eq_true (h.mp c)]
  · rw [decide_eq_false c, decide_eq_false fun z => c (h.mpr z)]
theorem q_eqsub (hx : In w x) (hu : In w u) (hv : In w v) : b2n (decide (x = (v - u) % p2 w)) = b2n (decide ((x + u) % p2 w = v)) := by
  refine b2n_congr ⟨fun h => ?_, fun h => ?_⟩
  · rw [h, q_madd, Int.sub_add_cancel, mod_id hv]
  · rw [← h, q_msub, Int.add_sub_cancel, mod_id hx]
theorem q_xor1 (b : Bool) : Builtin.bitXor (b2n b) 1 = b2n (!b) := by cases b <;> decide +kernel
theorem q_not {p q : Prop} [Decidable p] [Decidable q] (h : q ↔ ¬ p) : b2n (decide q) = Builtin.bitXor (b2n (decide p)) 1 := by
  rw [q_xor1]
  by_cases c : p
  · rw [decide_eq_true c, decide_eq_false fun z => h.mp z c] <;> rfl
  · rw [decide_eq_false c, decide_eq_true (h.mpr c)] <;> rfl
theorem b2n_in {w : Int} (hw : Wd w) (b : Bool) : In w (b2n b) := by
  cases b
  · exact zero_in
  · exact one_in hw
theorem p2_lt_p2 {j : Int} (h0 : 0 ≤ j) (h : j < w) : p2 j < p2 w := by
  rw [p2_nat, p2_nat]
  have : j.toNat < w.toNat := by omega
  have := Nat.pow_lt_pow_right (a := 2) (by decide) this
  omega
theorem k_in (hk : 0 ≤ k ∧ k < w) : In w k := by
  refine ⟨hk.1, ?_⟩
  rw [p2_nat]
  have : w.toNat < 2 ^ w.toNat := Nat.lt_two_pow_self
  omega
theorem pk_in (hk : 0 ≤ k ∧ k < w) : In w (p2 k) := ⟨Int.le_of_lt (p2_pos k), p2_lt_p2 hk.1 hk.2⟩
theorem q_shlk (hk : 0 ≤ k ∧ k < w) : (x * p2 (k % w)) % p2 w = (x * p2 k) % p2 w := by rw [Int.emod_eq_of_lt hk.1 hk.2]
theorem q_lshrk (hk : 0 ≤ k ∧ k < w) : x / p2 (k % w) = x / p2 k := by rw [Int.emod_eq_of_lt hk.1 hk.2]
theorem q_remk (hx : In w x) (hk : 0 ≤ k ∧ k < w) : Builtin.bitAnd x ((p2 k - 1) % p2 w) = x % p2 k := by
  have h := p2_pos k
  have h2 := p2_lt_p2 hk.1 hk.2
  rw [Int.emod_eq_of_lt (by omega) (by omega), top_nat, p2_nat]
  obtain ⟨n, rfl, _⟩ := in_ex hx
  rw [band, Nat.and_two_pow_sub_one_eq_mod] <;> rfl
theorem logP_all : ∀ k < 65, logP (p2 ((k : Nat) : Int)) = some (k : Int) := by decide +kernel
theorem logP_k (hk : 0 ≤ k ∧ k ≤ 64) : logP (p2 k) = some k := by
  have h := logP_all k.toNat (by omega)
  rw [show ((k.toNat : Nat) : Int) = k by omega] at h
  exact h
theorem q_p2 : p2 1 = 2 ∧ p2 8 = 256 ∧ p2 16 = 65536 ∧ p2 32 = 4294967296 ∧ p2 64 = 18446744073709551616 := by decide +kernel
end
end K25

set_option Elab.async false
set_option linter.all false
set_option maxRecDepth 100000
set_option maxHeartbeats 4000000
namespace K25
open PySem L2
/-! ### the sides of a rule, part by part -/
abbrev Lk := Str → Option (V × Int)
structure Fx (ws : List Str) (low : Int) (L : Lk) : Prop where
  no : ∀ x, x ∉ letterWords → L x = none
  l : ∀ s ∈ ws, s ∈ (["a", "b", "m", "n"] : List Str) → ∃ n, L s = some (.int low, n) ∧ In low n
  p : ("p" : Str) ∈ ws → ∃ k, L "p" = some (.int low, p2 k) ∧ 0 ≤ k ∧ k < low
  c : ("c" : Str) ∈ ws → ∃ n, L "c" = some (.int 1, n) ∧ (n = 0 ∨ n = 1)
theorem lk_good {low : Int} {ls : Lets} {s : Str} (hg : Good low ls) (h : lk ls s ≠ none) : ∃ x n, lk ls s = some (x, n) ∧ Good low [(s, x, n)] := by
  cases e : lk ls s with
  | none => exact absurd e h
  | some r =>
    obtain ⟨x, n⟩ := r
    refine ⟨x, n, rfl, ?_⟩
    obtain ⟨z, hz, hs⟩ : ∃ z ∈ ls, z = (s, x, n) := by
      clear hg h
      induction ls with
      | nil => cases e
      | cons a r ih =>
        obtain ⟨s', x', n'⟩ := a
        unfold lk at e
        by_cases c : s' = s
        · rw [if_pos c] at e
          cases e
          exact ⟨_, List.mem_cons_self, by rw [c]⟩
        · rw [if_neg c] at e
          obtain ⟨z, hz, q⟩ := ih e
          exact ⟨z, List.mem_cons_of_mem _ hz, q⟩
    intro y hy
    rw [List.mem_singleton.mp hy, ← hs]
    exact hg z hz
theorem Drawn.ok {l : Str} {ls : Lets} {w mid : Int} (h : Drawn l ls w mid) : LetOk ls := by
  obtain ⟨low, _, hg, nd, _, _⟩ := h
  refine ⟨fun e he => ?_, nd⟩
  have h4 : ∀ s ∈ (["a", "b", "m", "n"] : List Str), s ∈ letterWords := by decide +kernel
  rcases hg e he with ⟨h, _⟩ | ⟨h, _⟩ | ⟨h, _⟩
  · exact h4 _ h
  · rw [h]; decide +kernel
  · rw [h]; decide +kernel
theorem Drawn.fx {l : Str} {ls : Lets} {w mid : Int} (h : Drawn l ls w mid) : ∃ low, (low, mid, w) ∈ wids l ∧ Fx (Txt.split l " ") low (lk ls) := by
  have ok := h.ok
  obtain ⟨low, h1, hg, nd, _, ha⟩ := h
  refine ⟨low, h1, fun x hx => lk_word ok hx, fun s hs h4 => ?_, fun hs => ?_, fun hs => ?_⟩
  · have hl : ∀ s ∈ (["a", "b", "m", "n"] : List Str), s ∈ letterWords ∧ s ≠ "p" ∧ s ≠ "c" := by decide +kernel
    obtain ⟨z1, z2, z3⟩ := hl s h4
    obtain ⟨x, n, e, g⟩ := lk_good hg (ha s hs z1)
    rcases g _ List.mem_cons_self with ⟨_, a, b⟩ | ⟨a, _⟩ | ⟨a, _⟩
    · exact ⟨n, by rw [e, show x = V.int low from a], b⟩
    · exact absurd a z2
    · exact absurd a z3
  · obtain ⟨x, n, e, g⟩ := lk_good hg (ha _ hs (by decide +kernel))
    rcases g _ List.mem_cons_self with ⟨a, _⟩ | ⟨_, a, k, k0, k1, b⟩ | ⟨a, _⟩
    · exact absurd a (show ¬ ("p" : Str) ∈ (["a", "b", "m", "n"] : List Str) by decide +kernel)
    · exact ⟨k, by rw [e, show x = V.int low from a, show n = p2 k from b], k0, k1⟩
    · exact absurd a (show ¬ ("p" : Str) = "c" by decide +kernel)
  · obtain ⟨x, n, e, g⟩ := lk_good hg (ha _ hs (by decide +kernel))
    rcases g _ List.mem_cons_self with ⟨a, _⟩ | ⟨a, _⟩ | ⟨_, a, b⟩
    · exact absurd a (show ¬ ("c" : Str) ∈ (["a", "b", "m", "n"] : List Str) by decide +kernel)
    · exact absurd a (show ¬ ("c" : Str) = "p" by decide +kernel)
    · exact ⟨n, by rw [e, show x = V.int 1 from a], b⟩
section
variable {L : Lk} {w mid : Int} {a b c : Form} {r s t : Int × Int}
theorem sd_l {x : Str} {v n : Int} (h : L x = some (.int v, n)) : side mid L (.leaf x) w = some (v, n) := by simp only [side, h]
theorem sd_0 {ws : List Str} {low : Int} (F : Fx ws low L) : side mid L (.leaf "0") w = some (w, 0) := by
  simp only [side, F.no "0" (by decide +kernel)]
  rw [if_pos (by decide +kernel)]
  rfl
theorem sd_1 {ws : List Str} {low : Int} (F : Fx ws low L) : side mid L (.leaf "1") w = some (w, 1) := by
  simp only [side, F.no "1" (by decide +kernel)]
  rw [if_pos (by decide +kernel)]
  rfl
theorem sd_m {ws : List Str} {low : Int} (F : Fx ws low L) : side mid L (.leaf "-1") w = some (w, p2 w - 1) := by
  simp only [side, F.no "-1" (by decide +kernel)]
  rw [if_pos (by decide +kernel)]
  rfl
theorem inb_of {w n : Int} (h : In w n) : inb w n = true := decide_eq_true h
theorem wdb_of {w : Int} (h : Wd w) : wdb w = true := decide_eq_true h
theorem sd_bo (o : BOp) {n : Int} (ho : upOp o.s = none ∧ cpOf o.s = none ∧ boOf o.s = some o) (ha : side mid L a w = some r) (hb : side mid L b w = some s) (i1 : In w r.2) (i2 : In w s.2) (ht : told o w r.2 s.2 = some n) : side mid L (.two o.s a b) w = some (w, n) := by
  simp only [side, ho.1, ho.2.1, ho.2.2, ha, hb, inb_of i1, inb_of i2, ht, Bool.and_self, if_true] <;> rfl
theorem sd_cp (c : CP) {ww : Int} (hc : upOp c.s = none ∧ cpOf c.s = some c) (hl : lw L (.two c.s a b) = some (.int ww)) (hw : Wd ww) (ha : side mid L a ww = some r) (hb : side mid L b ww = some s) (i1 : In ww r.2) (i2 : In ww s.2) :
    side mid L (.two c.s a b) w = some (1, b2n (comp c ww r.2 s.2)) := by
  simp only [side, hc.1, hc.2, hl, ha, hb, inb_of i1, inb_of i2, wdb_of hw, Bool.and_self, if_true]
theorem sd_cs (c : Cs) (hc : ¬ c.s = "LOG" ∧ csOf c.s = some c) (ha : side mid L a mid = some r) (hw : Wd r.1) : side mid L (.one c.s a) w = some (w, cst c r.1 w r.2) := by
  simp only [side, if_neg hc.1, hc.2, ha, wdb_of hw, if_true]
theorem sd_sel (hc : side mid L c 1 = some r) (ha : side mid L a w = some s) (hb : side mid L b w = some t) : side mid L (.three "select" c a b) w = some (if r.2 = 1 then s else t) := by
  simp only [side, hc, ha, hb, if_true]
theorem sd_up {x : Str} (o : BOp) {n : Int} (hu : upOp x = some o) (hn : num w L (.two x a b) = some n) : side mid L (.two x a b) w = some (w, n) := by
  simp only [side, hu, hn] <;> rfl
theorem sd_log {n : Int} (hn : num w L (.one "LOG" a) = some n) : side mid L (.one "LOG" a) w = some (w, n) := by
  simp only [side, if_true, hn] <;> rfl
theorem nm_0 : num w L (.leaf "0") = some 0 := by rw [num, if_pos rfl]
theorem nm_1 : num w L (.leaf "1") = some 1 := by rw [num, if_neg (by decide +kernel), if_pos rfl]
theorem nm_l {x : Str} {v n : Int} (hx : ¬ x = "0" ∧ ¬ x = "1" ∧ ¬ x = "-1") (h : L x = some (.int v, n)) : num w L (.leaf x) = some n := by
  rw [num, if_neg hx.1, if_neg hx.2.1, if_neg hx.2.2, h] <;> rfl
theorem nm_log {m n : Int} (ha : num w L a = some m) (h : logP m = some n) : num w L (.one "LOG" a) = some n := by
  rw [num, if_pos rfl, ha, ← h] <;> rfl
theorem nm_up {x : Str} (o : BOp) {m k n : Int} (hu : upOp x = some o) (ha : num w L a = some m) (hb : num w L b = some k) (i1 : In w m) (i2 : In w k) (ht : told o w m k = some n) : num w L (.two x a b) = some n := by
  simp only [num, hu, ha, hb]
  rw [if_pos ⟨i1, i2⟩, ht]
theorem lw_l {x : Str} {v n : Int} (h : L x = some (.int v, n)) : lw L (.leaf x) = some (.int v) := by rw [lw, h] <;> rfl
theorem lw_2 {x : Str} {v : V} (hx : isLet x = false ∧ isNumW a.w = false) (h : lw L a = some v) : lw L (.two x a b) = some v := by
  rw [lw, hx.1, hx.2, h] <;> rfl
variable {x y : Int}
theorem t_add : told .add w x y = some ((x + y) % p2 w) := rfl
theorem t_sub : told .sub w x y = some ((x - y) % p2 w) := rfl
theorem t_mul : told .mul w x y = some ((x * y) % p2 w) := rfl
theorem t_udiv1 : told .udiv w x 1 = some (x / 1) := rfl
theorem t_urem1 : told .urem w x 1 = some (x % 1) := rfl
theorem t_udiv (h : y ≠ 0) : told .udiv w x y = some (x / y) := by unfold told; exact if_neg h
theorem t_urem (h : y ≠ 0) : told .urem w x y = some (x % y) := by unfold told; exact if_neg h
theorem t_and : told .and w x y = some (Builtin.bitAnd x y) := rfl
theorem t_or : told .or w x y = some (Builtin.bitOr x y) := rfl
theorem t_xor : told .xor w x y = some (Builtin.bitXor x y) := rfl
theorem t_shl : told .shl w x y = some ((x * p2 (y % w)) % p2 w) := rfl
theorem t_lshr : told .lshr w x y = some (x / p2 (y % w)) := rfl
theorem t_ashr : told .ashr w x y = some ((sg x w / p2 (y % w)) % p2 w) := rfl
end
/-- both sides tell the same -/
def Eqv (L : Lk) (mid : Int) (l r : Form) (w : Int) : Prop := ∃ q, side mid L l w = some q ∧ side mid L r q.1 = some q ∧ Wd q.1
theorem eqv {L : Lk} {mid w v n m : Int} {l r : Form} (h1 : side mid L l w = some (v, n)) (h2 : side mid L r v = some (v, m)) (e : m = n) (hv : Wd v) : Eqv L mid l r w := ⟨(v, n), h1, by rw [← e]; exact h2, hv⟩
def cpW : List Str := ["eq", "ne", "ult", "ule", "slt", "sle"]
def cpxW : List Str := ["eq", "ne", "ult", "ule", "slt", "sle", "xor"]
/-- the width that the left side is told with -/
def w0 (l r : Str) (w : Int) : Int := if (Txt.split l " ").getD 0 "" ∈ cpxW ∧ (Txt.split r " ").getD 0 "" ∈ cpW then 1 else w
structure RuleOk (l r : Str) : Prop where
  fit : fitL l = true ∧ (2 ≤ l.length ∧ l.length ≤ 30) ∧ (r.length ≤ 30) ∧ (Txt.split l " ").length ≤ 20 ∧ (Txt.split r " ").length ≤ 20 ∧ 0 < (Txt.split r " ").length
  ok : ∀ ls w mid, Drawn l ls w mid → ∃ fl fr, readF (Txt.split l " ") = some fl ∧ readF (Txt.split r " ") = some fr ∧ fl.depth ≤ 5 ∧ fr.depth ≤ 5 ∧ Wd w ∧ Wd mid ∧ Eqv (lk ls) mid fl fr (w0 l r w)
structure Chk (l r : Str) (ws : List Str) (fl fr : Form) (b : Bool) (z : List (Int × Int × Int)) : Prop where
  of ::
  h : (fitL l = true ∧ (2 ≤ l.length ∧ l.length ≤ 30) ∧ (r.length ≤ 30) ∧ (Txt.split l " ").length ≤ 20 ∧ (Txt.split r " ").length ≤ 20 ∧ 0 < (Txt.split r " ").length) ∧ Txt.split l " " = ws ∧ readF (Txt.split l " ") = some fl ∧ readF (Txt.split r " ") = some fr ∧
    (fl.depth ≤ 5 ∧ fr.depth ≤ 5) ∧ decide ((Txt.split l " ").getD 0 "" ∈ cpxW ∧ (Txt.split r " ").getD 0 "" ∈ cpW) = b ∧ wids l = z
theorem rule_of {l r : Str} {ws : List Str} {fl fr : Form} {b : Bool} {z : List (Int × Int × Int)} (C : Chk l r ws fl fr b z) (h : ∀ L low mid w, (low, mid, w) ∈ z → Wd low → Wd mid → Wd w → Fx ws low L → Eqv L mid fl fr (if b then 1 else w)) : RuleOk l r := by
  obtain ⟨⟨fit, Cws, Cl, Cr, Cd, Cp, Cz⟩⟩ := C
  refine ⟨fit, fun ls w mid D => ?_⟩
  obtain ⟨low, hw, F⟩ := D.fx
  have wd := wids_wd _ hw
  rw [Cz] at hw
  rw [Cws] at F
  refine ⟨fl, fr, Cl, Cr, Cd.1, Cd.2, wd.2.2, wd.2.1, ?_⟩
  have e : w0 l r w = if b then 1 else w := by
    unfold w0
    by_cases c : (Txt.split l " ").getD 0 "" ∈ cpxW ∧ (Txt.split r " ").getD 0 "" ∈ cpW
    · rw [if_pos c, ← Cp, decide_eq_true c] <;> rfl
    · rw [if_neg c, ← Cp, decide_eq_false c] <;> rfl
  rw [e]
  exact h (lk ls) low mid w hw wd.1 wd.2.1 wd.2.2 F
/-- all of one width -/
theorem rule_u {l r : Str} {ws : List Str} {fl fr : Form} {b : Bool} (C : Chk l r ws fl fr b (widths.map fun w => (w, w, w))) (h : ∀ L w mid, Wd w → Fx ws w L → Eqv L mid fl fr (if b then 1 else w)) : RuleOk l r :=
  rule_of C fun L low mid w hz wl _ _ F => by
    obtain ⟨v, _, e⟩ := List.mem_map.mp hz
    obtain ⟨rfl, rfl, rfl⟩ : v = low ∧ v = mid ∧ v = w := by simpa using e
    exact h L v v wl F
end K25

set_option Elab.async false
set_option linter.all false
set_option maxRecDepth 100000
set_option maxHeartbeats 4000000
namespace K25
open PySem L2
/-! ### the rules, one by one -/
theorem Wd1 : Wd 1 := ⟨by decide, by decide⟩
section
variable {L : Lk} {w mid : Int} {a b c : Form} {r s t : Int × Int}
theorem sel_pos (hc : side mid L c 1 = some r) (ha : side mid L a w = some s) (hb : side mid L b w = some t) (h : r.2 = 1) : side mid L (.three "select" c a b) w = some s := by rw [sd_sel hc ha hb, if_pos h]
theorem sel_neg (hc : side mid L c 1 = some r) (ha : side mid L a w = some s) (hb : side mid L b w = some t) (h : ¬ r.2 = 1) : side mid L (.three "select" c a b) w = some t := by rw [sd_sel hc ha hb, if_neg h]
theorem sel_same (hc : side mid L c 1 = some r) (ha : side mid L a w = some s) : side mid L (.three "select" c a a) w = some s := by
  rw [sd_sel hc ha ha]
  split <;> rfl
theorem eqv_c {v' n m : Int} {l r : Form} (h1 : side mid L l w = some (w, n)) (h2 : side mid L r w = some (v', m)) (e : v' = w ∧ m = n) (hv : Wd w) : Eqv L mid l r w := ⟨(w, n), h1, by rw [h2, e.1, e.2], hv⟩
end
section
variable {w x y low mid : Int}
theorem q_xeq : b2n (comp .ne w x y) = Builtin.bitXor (b2n (comp .eq w x y)) 1 := q_not (p := x = y) (q := ¬ x = y) Iff.rfl
theorem q_xne : b2n (comp .eq w x y) = Builtin.bitXor (b2n (comp .ne w x y)) 1 := q_not (p := ¬ x = y) (q := x = y) (by omega)
theorem q_xult : b2n (comp .ule w y x) = Builtin.bitXor (b2n (comp .ult w x y)) 1 := q_not (p := x < y) (q := y ≤ x) (by omega)
theorem q_xule : b2n (comp .ult w y x) = Builtin.bitXor (b2n (comp .ule w x y)) 1 := q_not (p := x ≤ y) (q := y < x) (by omega)
theorem q_xslt : b2n (comp .sle w y x) = Builtin.bitXor (b2n (comp .slt w x y)) 1 := q_not (p := sg x w < sg y w) (q := sg y w ≤ sg x w) (by omega)
theorem q_xsle : b2n (comp .slt w y x) = Builtin.bitXor (b2n (comp .sle w x y)) 1 := q_not (p := sg x w ≤ sg y w) (q := sg y w < sg x w) (by omega)
theorem bit_in (h : In 1 x) : x = 0 ∨ x = 1 := by
  obtain ⟨h0, h1⟩ := h
  rw [q_p2.1] at h1
  omega
theorem q_ne0 (h : In 1 x) : x = b2n (comp .ne 1 x 0) := by rcases bit_in h with rfl | rfl <;> rfl
theorem q_eq1 (h : In 1 x) : x = b2n (comp .eq 1 x 1) := by rcases bit_in h with rfl | rfl <;> rfl
theorem low1 (h : (low, mid, w) ∈ ((widths.map fun w => (w, w, w)).map fun t => (1, t.2.1, 1))) : low = 1 ∧ w = 1 := by
  obtain ⟨t, _, e⟩ := List.mem_map.mp h
  simp only [Prod.mk.injEq] at e
  omega
theorem tri_zz (h : (low, mid, w) ∈ triples) : (low = 1 ∧ mid = 8 ∧ w = 16) ∨ (low = 8 ∧ mid = 16 ∧ w = 32) ∨ (low = 1 ∧ mid = 32 ∧ w = 64) ∨ (low = 8 ∧ mid = 32 ∧ w = 64) := by
  simpa [triples] using h
theorem tri_t (h : (low, mid, w) ∈ (triples.map fun t => (t.1, t.2.1, t.1))) : (low = 1 ∧ mid = 8 ∧ w = 1) ∨ (low = 8 ∧ mid = 16 ∧ w = 8) ∨ (low = 1 ∧ mid = 32 ∧ w = 1) ∨ (low = 8 ∧ mid = 32 ∧ w = 8) := by
  simpa [triples] using h
theorem tri_tt (h : (low, mid, w) ∈ (triples.map fun t => (t.2.2, t.2.1, t.1))) : (low = 16 ∧ mid = 8 ∧ w = 1) ∨ (low = 32 ∧ mid = 16 ∧ w = 8) ∨ (low = 64 ∧ mid = 32 ∧ w = 1) ∨ (low = 64 ∧ mid = 32 ∧ w = 8) := by
  simpa [triples] using h
theorem m_trunc_zext (h : (low, mid, w) ∈ (triples.map fun t => (t.1, t.2.1, t.1))) (hx : In low x) : low = w ∧ x = cst .trunc mid w (cst .zext low mid x) := by
  obtain ⟨e1, e8, e16, e32, e64⟩ := q_p2
  obtain ⟨h0, h1⟩ := hx
  rcases tri_t h with ⟨rfl, rfl, rfl⟩ | ⟨rfl, rfl, rfl⟩ | ⟨rfl, rfl, rfl⟩ | ⟨rfl, rfl, rfl⟩ <;> (refine ⟨rfl, ?_⟩; simp only [cst, e1, e8, e16, e32, e64] at h1 ⊢; omega)
theorem m_trunc_sext (h : (low, mid, w) ∈ (triples.map fun t => (t.1, t.2.1, t.1))) (hx : In low x) : low = w ∧ x = cst .trunc mid w (cst .sext low mid x) := by
  obtain ⟨e1, e8, e16, e32, e64⟩ := q_p2
  obtain ⟨h0, h1⟩ := hx
  rcases tri_t h with ⟨rfl, rfl, rfl⟩ | ⟨rfl, rfl, rfl⟩ | ⟨rfl, rfl, rfl⟩ | ⟨rfl, rfl, rfl⟩ <;> (refine ⟨rfl, ?_⟩; simp only [cst, sg, e1, e8, e16, e32, e64] at h1 ⊢; split <;> omega)
theorem m_trunc_trunc (h : (low, mid, w) ∈ (triples.map fun t => (t.2.2, t.2.1, t.1))) (hx : In low x) : w = w ∧ cst .trunc low w x = cst .trunc mid w (cst .trunc low mid x) := by
  obtain ⟨e1, e8, e16, e32, e64⟩ := q_p2
  obtain ⟨h0, h1⟩ := hx
  rcases tri_tt h with ⟨rfl, rfl, rfl⟩ | ⟨rfl, rfl, rfl⟩ | ⟨rfl, rfl, rfl⟩ | ⟨rfl, rfl, rfl⟩ <;> (refine ⟨rfl, ?_⟩; simp only [cst, e1, e8, e16, e32, e64] at h1 ⊢; omega)
theorem m_zext_zext (h : (low, mid, w) ∈ triples) (hx : In low x) : w = w ∧ cst .zext low w x = cst .zext mid w (cst .zext low mid x) := by
  obtain ⟨e1, e8, e16, e32, e64⟩ := q_p2
  obtain ⟨h0, h1⟩ := hx
  rcases tri_zz h with ⟨rfl, rfl, rfl⟩ | ⟨rfl, rfl, rfl⟩ | ⟨rfl, rfl, rfl⟩ | ⟨rfl, rfl, rfl⟩ <;> (refine ⟨rfl, ?_⟩; simp only [cst, e1, e8, e16, e32, e64] at h1 ⊢; omega)
theorem m_sext_sext (h : (low, mid, w) ∈ triples) (hx : In low x) : w = w ∧ cst .sext low w x = cst .sext mid w (cst .sext low mid x) := by
  obtain ⟨e1, e8, e16, e32, e64⟩ := q_p2
  obtain ⟨h0, h1⟩ := hx
  rcases tri_zz h with ⟨rfl, rfl, rfl⟩ | ⟨rfl, rfl, rfl⟩ | ⟨rfl, rfl, rfl⟩ | ⟨rfl, rfl, rfl⟩ <;> (refine ⟨rfl, ?_⟩; simp only [cst, sg, e1, e8, e16, e32, e64] at h1 ⊢; repeat' (first | omega | split))
end
theorem c_add_a_0 : Chk "add a 0" "a" ["add", "a", "0"] (.two "add" (.leaf "a") (.leaf "0")) (.leaf "a") false (widths.map fun w => (w, w, w)) := ⟨by decide +kernel⟩
theorem r_add_a_0 : RuleOk "add a 0" "a" := rule_u c_add_a_0 fun L w mid hw F => by
  obtain ⟨xa, ha, ia⟩ := F.l "a" (by decide +kernel) (by decide +kernel)
  show Eqv L mid _ _ w
  exact eqv (sd_bo .add (by decide +kernel) (sd_l ha) (sd_0 F) ia zero_in t_add) (sd_l ha) (q_add0 ia).symm hw
theorem c_sub_a_0 : Chk "sub a 0" "a" ["sub", "a", "0"] (.two "sub" (.leaf "a") (.leaf "0")) (.leaf "a") false (widths.map fun w => (w, w, w)) := ⟨by decide +kernel⟩
theorem r_sub_a_0 : RuleOk "sub a 0" "a" := rule_u c_sub_a_0 fun L w mid hw F => by
  obtain ⟨xa, ha, ia⟩ := F.l "a" (by decide +kernel) (by decide +kernel)
  show Eqv L mid _ _ w
  exact eqv (sd_bo .sub (by decide +kernel) (sd_l ha) (sd_0 F) ia zero_in t_sub) (sd_l ha) (q_sub0 ia).symm hw
theorem c_sub_a_a : Chk "sub a a" "0" ["sub", "a", "a"] (.two "sub" (.leaf "a") (.leaf "a")) (.leaf "0") false (widths.map fun w => (w, w, w)) := ⟨by decide +kernel⟩
theorem r_sub_a_a : RuleOk "sub a a" "0" := rule_u c_sub_a_a fun L w mid hw F => by
  obtain ⟨xa, ha, ia⟩ := F.l "a" (by decide +kernel) (by decide +kernel)
  show Eqv L mid _ _ w
  exact eqv (sd_bo .sub (by decide +kernel) (sd_l ha) (sd_l ha) ia ia t_sub) (sd_0 F) q_subs.symm hw
theorem c_mul_a_0 : Chk "mul a 0" "0" ["mul", "a", "0"] (.two "mul" (.leaf "a") (.leaf "0")) (.leaf "0") false (widths.map fun w => (w, w, w)) := ⟨by decide +kernel⟩
theorem r_mul_a_0 : RuleOk "mul a 0" "0" := rule_u c_mul_a_0 fun L w mid hw F => by
  obtain ⟨xa, ha, ia⟩ := F.l "a" (by decide +kernel) (by decide +kernel)
  show Eqv L mid _ _ w
  exact eqv (sd_bo .mul (by decide +kernel) (sd_l ha) (sd_0 F) ia zero_in t_mul) (sd_0 F) q_mul0.symm hw
theorem c_mul_a_1 : Chk "mul a 1" "a" ["mul", "a", "1"] (.two "mul" (.leaf "a") (.leaf "1")) (.leaf "a") false (widths.map fun w => (w, w, w)) := ⟨by decide +kernel⟩
theorem r_mul_a_1 : RuleOk "mul a 1" "a" := rule_u c_mul_a_1 fun L w mid hw F => by
  obtain ⟨xa, ha, ia⟩ := F.l "a" (by decide +kernel) (by decide +kernel)
  show Eqv L mid _ _ w
  exact eqv (sd_bo .mul (by decide +kernel) (sd_l ha) (sd_1 F) ia (one_in hw) t_mul) (sd_l ha) (q_mul1 ia).symm hw
theorem c_udiv_a_1 : Chk "udiv a 1" "a" ["udiv", "a", "1"] (.two "udiv" (.leaf "a") (.leaf "1")) (.leaf "a") false (widths.map fun w => (w, w, w)) := ⟨by decide +kernel⟩
theorem r_udiv_a_1 : RuleOk "udiv a 1" "a" := rule_u c_udiv_a_1 fun L w mid hw F => by
  obtain ⟨xa, ha, ia⟩ := F.l "a" (by decide +kernel) (by decide +kernel)
  show Eqv L mid _ _ w
  exact eqv (sd_bo .udiv (by decide +kernel) (sd_l ha) (sd_1 F) ia (one_in hw) t_udiv1) (sd_l ha) q_div1.symm hw
theorem c_urem_a_1 : Chk "urem a 1" "0" ["urem", "a", "1"] (.two "urem" (.leaf "a") (.leaf "1")) (.leaf "0") false (widths.map fun w => (w, w, w)) := ⟨by decide +kernel⟩
theorem r_urem_a_1 : RuleOk "urem a 1" "0" := rule_u c_urem_a_1 fun L w mid hw F => by
  obtain ⟨xa, ha, ia⟩ := F.l "a" (by decide +kernel) (by decide +kernel)
  show Eqv L mid _ _ w
  exact eqv (sd_bo .urem (by decide +kernel) (sd_l ha) (sd_1 F) ia (one_in hw) t_urem1) (sd_0 F) q_rem1.symm hw
theorem c_and_a_0 : Chk "and a 0" "0" ["and", "a", "0"] (.two "and" (.leaf "a") (.leaf "0")) (.leaf "0") false (widths.map fun w => (w, w, w)) := ⟨by decide +kernel⟩
theorem r_and_a_0 : RuleOk "and a 0" "0" := rule_u c_and_a_0 fun L w mid hw F => by
  obtain ⟨xa, ha, ia⟩ := F.l "a" (by decide +kernel) (by decide +kernel)
  show Eqv L mid _ _ w
  exact eqv (sd_bo .and (by decide +kernel) (sd_l ha) (sd_0 F) ia zero_in t_and) (sd_0 F) (q_and0 ia).symm hw
theorem c_and_a_M : Chk "and a -1" "a" ["and", "a", "-1"] (.two "and" (.leaf "a") (.leaf "-1")) (.leaf "a") false (widths.map fun w => (w, w, w)) := ⟨by decide +kernel⟩
theorem r_and_a_M : RuleOk "and a -1" "a" := rule_u c_and_a_M fun L w mid hw F => by
  obtain ⟨xa, ha, ia⟩ := F.l "a" (by decide +kernel) (by decide +kernel)
  show Eqv L mid _ _ w
  exact eqv (sd_bo .and (by decide +kernel) (sd_l ha) (sd_m F) ia top_in t_and) (sd_l ha) (q_andm ia).symm hw
theorem c_and_a_a : Chk "and a a" "a" ["and", "a", "a"] (.two "and" (.leaf "a") (.leaf "a")) (.leaf "a") false (widths.map fun w => (w, w, w)) := ⟨by decide +kernel⟩
theorem r_and_a_a : RuleOk "and a a" "a" := rule_u c_and_a_a fun L w mid hw F => by
  obtain ⟨xa, ha, ia⟩ := F.l "a" (by decide +kernel) (by decide +kernel)
  show Eqv L mid _ _ w
  exact eqv (sd_bo .and (by decide +kernel) (sd_l ha) (sd_l ha) ia ia t_and) (sd_l ha) (q_ands ia).symm hw
theorem c_or_a_0 : Chk "or a 0" "a" ["or", "a", "0"] (.two "or" (.leaf "a") (.leaf "0")) (.leaf "a") false (widths.map fun w => (w, w, w)) := ⟨by decide +kernel⟩
theorem r_or_a_0 : RuleOk "or a 0" "a" := rule_u c_or_a_0 fun L w mid hw F => by
  obtain ⟨xa, ha, ia⟩ := F.l "a" (by decide +kernel) (by decide +kernel)
  show Eqv L mid _ _ w
  exact eqv (sd_bo .or (by decide +kernel) (sd_l ha) (sd_0 F) ia zero_in t_or) (sd_l ha) (q_or0 ia).symm hw
theorem c_or_a_M : Chk "or a -1" "-1" ["or", "a", "-1"] (.two "or" (.leaf "a") (.leaf "-1")) (.leaf "-1") false (widths.map fun w => (w, w, w)) := ⟨by decide +kernel⟩
theorem r_or_a_M : RuleOk "or a -1" "-1" := rule_u c_or_a_M fun L w mid hw F => by
  obtain ⟨xa, ha, ia⟩ := F.l "a" (by decide +kernel) (by decide +kernel)
  show Eqv L mid _ _ w
  exact eqv (sd_bo .or (by decide +kernel) (sd_l ha) (sd_m F) ia top_in t_or) (sd_m F) (q_orm ia).symm hw
theorem c_or_a_a : Chk "or a a" "a" ["or", "a", "a"] (.two "or" (.leaf "a") (.leaf "a")) (.leaf "a") false (widths.map fun w => (w, w, w)) := ⟨by decide +kernel⟩
theorem r_or_a_a : RuleOk "or a a" "a" := rule_u c_or_a_a fun L w mid hw F => by
  obtain ⟨xa, ha, ia⟩ := F.l "a" (by decide +kernel) (by decide +kernel)
  show Eqv L mid _ _ w
  exact eqv (sd_bo .or (by decide +kernel) (sd_l ha) (sd_l ha) ia ia t_or) (sd_l ha) (q_ors ia).symm hw
theorem c_xor_a_0 : Chk "xor a 0" "a" ["xor", "a", "0"] (.two "xor" (.leaf "a") (.leaf "0")) (.leaf "a") false (widths.map fun w => (w, w, w)) := ⟨by decide +kernel⟩
theorem r_xor_a_0 : RuleOk "xor a 0" "a" := rule_u c_xor_a_0 fun L w mid hw F => by
  obtain ⟨xa, ha, ia⟩ := F.l "a" (by decide +kernel) (by decide +kernel)
  show Eqv L mid _ _ w
  exact eqv (sd_bo .xor (by decide +kernel) (sd_l ha) (sd_0 F) ia zero_in t_xor) (sd_l ha) (q_xor0 ia).symm hw
theorem c_xor_a_a : Chk "xor a a" "0" ["xor", "a", "a"] (.two "xor" (.leaf "a") (.leaf "a")) (.leaf "0") false (widths.map fun w => (w, w, w)) := ⟨by decide +kernel⟩
theorem r_xor_a_a : RuleOk "xor a a" "0" := rule_u c_xor_a_a fun L w mid hw F => by
  obtain ⟨xa, ha, ia⟩ := F.l "a" (by decide +kernel) (by decide +kernel)
  show Eqv L mid _ _ w
  exact eqv (sd_bo .xor (by decide +kernel) (sd_l ha) (sd_l ha) ia ia t_xor) (sd_0 F) (q_xors ia).symm hw
theorem c_shl_a_0 : Chk "shl a 0" "a" ["shl", "a", "0"] (.two "shl" (.leaf "a") (.leaf "0")) (.leaf "a") false (widths.map fun w => (w, w, w)) := ⟨by decide +kernel⟩
theorem r_shl_a_0 : RuleOk "shl a 0" "a" := rule_u c_shl_a_0 fun L w mid hw F => by
  obtain ⟨xa, ha, ia⟩ := F.l "a" (by decide +kernel) (by decide +kernel)
  show Eqv L mid _ _ w
  exact eqv (sd_bo .shl (by decide +kernel) (sd_l ha) (sd_0 F) ia zero_in t_shl) (sd_l ha) (q_shl0 ia).symm hw
theorem c_lshr_a_0 : Chk "lshr a 0" "a" ["lshr", "a", "0"] (.two "lshr" (.leaf "a") (.leaf "0")) (.leaf "a") false (widths.map fun w => (w, w, w)) := ⟨by decide +kernel⟩
theorem r_lshr_a_0 : RuleOk "lshr a 0" "a" := rule_u c_lshr_a_0 fun L w mid hw F => by
  obtain ⟨xa, ha, ia⟩ := F.l "a" (by decide +kernel) (by decide +kernel)
  show Eqv L mid _ _ w
  exact eqv (sd_bo .lshr (by decide +kernel) (sd_l ha) (sd_0 F) ia zero_in t_lshr) (sd_l ha) q_lshr0.symm hw
theorem c_ashr_a_0 : Chk "ashr a 0" "a" ["ashr", "a", "0"] (.two "ashr" (.leaf "a") (.leaf "0")) (.leaf "a") false (widths.map fun w => (w, w, w)) := ⟨by decide +kernel⟩
theorem r_ashr_a_0 : RuleOk "ashr a 0" "a" := rule_u c_ashr_a_0 fun L w mid hw F => by
  obtain ⟨xa, ha, ia⟩ := F.l "a" (by decide +kernel) (by decide +kernel)
  show Eqv L mid _ _ w
  exact eqv (sd_bo .ashr (by decide +kernel) (sd_l ha) (sd_0 F) ia zero_in t_ashr) (sd_l ha) (q_ashr0 ia).symm hw
theorem c_eq_a_a : Chk "eq a a" "1" ["eq", "a", "a"] (.two "eq" (.leaf "a") (.leaf "a")) (.leaf "1") false (widths.map fun w => (w, w, w)) := ⟨by decide +kernel⟩
theorem r_eq_a_a : RuleOk "eq a a" "1" := rule_u c_eq_a_a fun L w mid hw F => by
  obtain ⟨xa, ha, ia⟩ := F.l "a" (by decide +kernel) (by decide +kernel)
  show Eqv L mid _ _ w
  exact eqv (sd_cp .eq (by decide +kernel) (lw_2 (by decide +kernel) (lw_l ha)) hw (sd_l ha) (sd_l ha) ia ia) (sd_1 F) (by simp [comp, b2n]) Wd1
theorem c_ne_a_a : Chk "ne a a" "0" ["ne", "a", "a"] (.two "ne" (.leaf "a") (.leaf "a")) (.leaf "0") false (widths.map fun w => (w, w, w)) := ⟨by decide +kernel⟩
theorem r_ne_a_a : RuleOk "ne a a" "0" := rule_u c_ne_a_a fun L w mid hw F => by
  obtain ⟨xa, ha, ia⟩ := F.l "a" (by decide +kernel) (by decide +kernel)
  show Eqv L mid _ _ w
  exact eqv (sd_cp .ne (by decide +kernel) (lw_2 (by decide +kernel) (lw_l ha)) hw (sd_l ha) (sd_l ha) ia ia) (sd_0 F) (by simp [comp, b2n]) Wd1
theorem c_ult_a_a : Chk "ult a a" "0" ["ult", "a", "a"] (.two "ult" (.leaf "a") (.leaf "a")) (.leaf "0") false (widths.map fun w => (w, w, w)) := ⟨by decide +kernel⟩
theorem r_ult_a_a : RuleOk "ult a a" "0" := rule_u c_ult_a_a fun L w mid hw F => by
  obtain ⟨xa, ha, ia⟩ := F.l "a" (by decide +kernel) (by decide +kernel)
  show Eqv L mid _ _ w
  exact eqv (sd_cp .ult (by decide +kernel) (lw_2 (by decide +kernel) (lw_l ha)) hw (sd_l ha) (sd_l ha) ia ia) (sd_0 F) (by simp [comp, b2n]) Wd1
theorem c_ule_a_a : Chk "ule a a" "1" ["ule", "a", "a"] (.two "ule" (.leaf "a") (.leaf "a")) (.leaf "1") false (widths.map fun w => (w, w, w)) := ⟨by decide +kernel⟩
theorem r_ule_a_a : RuleOk "ule a a" "1" := rule_u c_ule_a_a fun L w mid hw F => by
  obtain ⟨xa, ha, ia⟩ := F.l "a" (by decide +kernel) (by decide +kernel)
  show Eqv L mid _ _ w
  exact eqv (sd_cp .ule (by decide +kernel) (lw_2 (by decide +kernel) (lw_l ha)) hw (sd_l ha) (sd_l ha) ia ia) (sd_1 F) (by simp [comp, b2n]) Wd1
theorem c_slt_a_a : Chk "slt a a" "0" ["slt", "a", "a"] (.two "slt" (.leaf "a") (.leaf "a")) (.leaf "0") false (widths.map fun w => (w, w, w)) := ⟨by decide +kernel⟩
theorem r_slt_a_a : RuleOk "slt a a" "0" := rule_u c_slt_a_a fun L w mid hw F => by
  obtain ⟨xa, ha, ia⟩ := F.l "a" (by decide +kernel) (by decide +kernel)
  show Eqv L mid _ _ w
  exact eqv (sd_cp .slt (by decide +kernel) (lw_2 (by decide +kernel) (lw_l ha)) hw (sd_l ha) (sd_l ha) ia ia) (sd_0 F) (by simp [comp, b2n]) Wd1
theorem c_sle_a_a : Chk "sle a a" "1" ["sle", "a", "a"] (.two "sle" (.leaf "a") (.leaf "a")) (.leaf "1") false (widths.map fun w => (w, w, w)) := ⟨by decide +kernel⟩
theorem r_sle_a_a : RuleOk "sle a a" "1" := rule_u c_sle_a_a fun L w mid hw F => by
  obtain ⟨xa, ha, ia⟩ := F.l "a" (by decide +kernel) (by decide +kernel)
  show Eqv L mid _ _ w
  exact eqv (sd_cp .sle (by decide +kernel) (lw_2 (by decide +kernel) (lw_l ha)) hw (sd_l ha) (sd_l ha) ia ia) (sd_1 F) (by simp [comp, b2n]) Wd1
theorem c_select_1_a_b : Chk "select 1 a b" "a" ["select", "1", "a", "b"] (.three "select" (.leaf "1") (.leaf "a") (.leaf "b")) (.leaf "a") false (widths.map fun w => (w, w, w)) := ⟨by decide +kernel⟩
theorem r_select_1_a_b : RuleOk "select 1 a b" "a" := rule_u c_select_1_a_b fun L w mid hw F => by
  obtain ⟨xa, ha, ia⟩ := F.l "a" (by decide +kernel) (by decide +kernel)
  obtain ⟨xb, hb, ib⟩ := F.l "b" (by decide +kernel) (by decide +kernel)
  show Eqv L mid _ _ w
  exact eqv (sel_pos (sd_1 F) (sd_l ha) (sd_l hb) rfl) (sd_l ha) rfl hw
theorem c_select_0_a_b : Chk "select 0 a b" "b" ["select", "0", "a", "b"] (.three "select" (.leaf "0") (.leaf "a") (.leaf "b")) (.leaf "b") false (widths.map fun w => (w, w, w)) := ⟨by decide +kernel⟩
theorem r_select_0_a_b : RuleOk "select 0 a b" "b" := rule_u c_select_0_a_b fun L w mid hw F => by
  obtain ⟨xa, ha, ia⟩ := F.l "a" (by decide +kernel) (by decide +kernel)
  obtain ⟨xb, hb, ib⟩ := F.l "b" (by decide +kernel) (by decide +kernel)
  show Eqv L mid _ _ w
  exact eqv (sel_neg (sd_0 F) (sd_l ha) (sd_l hb) (by decide)) (sd_l hb) rfl hw
theorem c_select_c_a_a : Chk "select c a a" "a" ["select", "c", "a", "a"] (.three "select" (.leaf "c") (.leaf "a") (.leaf "a")) (.leaf "a") false (widths.map fun w => (w, w, w)) := ⟨by decide +kernel⟩
theorem r_select_c_a_a : RuleOk "select c a a" "a" := rule_u c_select_c_a_a fun L w mid hw F => by
  obtain ⟨xa, ha, ia⟩ := F.l "a" (by decide +kernel) (by decide +kernel)
  obtain ⟨xc, hc, ic⟩ := F.c (by decide +kernel)
  show Eqv L mid _ _ w
  exact eqv (sel_same (sd_l hc) (sd_l ha)) (sd_l ha) rfl hw
theorem c_select_c_1_0 : Chk "select c 1 0" "c" ["select", "c", "1", "0"] (.three "select" (.leaf "c") (.leaf "1") (.leaf "0")) (.leaf "c") false ((widths.map fun w => (w, w, w)).map fun t => (1, t.2.1, 1)) := ⟨by decide +kernel⟩
theorem r_select_c_1_0 : RuleOk "select c 1 0" "c" := rule_of c_select_c_1_0 fun L low mid w hz wl wm ww F => by
  obtain ⟨xc, hc, ic⟩ := F.c (by decide +kernel)
  show Eqv L mid _ _ w
  obtain ⟨rfl, rfl⟩ := low1 hz
  rcases ic with rfl | rfl
  · exact eqv (sel_neg (sd_l hc) (sd_1 F) (sd_0 F) (by decide)) (sd_l hc) rfl Wd1
  · exact eqv (sel_pos (sd_l hc) (sd_1 F) (sd_0 F) rfl) (sd_l hc) rfl Wd1
theorem c_ne_a_0 : Chk "ne a 0" "a" ["ne", "a", "0"] (.two "ne" (.leaf "a") (.leaf "0")) (.leaf "a") false ((widths.map fun w => (w, w, w)).map fun t => (1, t.2.1, 1)) := ⟨by decide +kernel⟩
theorem r_ne_a_0 : RuleOk "ne a 0" "a" := rule_of c_ne_a_0 fun L low mid w hz wl wm ww F => by
  obtain ⟨xa, ha, ia⟩ := F.l "a" (by decide +kernel) (by decide +kernel)
  show Eqv L mid _ _ w
  obtain ⟨rfl, rfl⟩ := low1 hz
  exact eqv (sd_cp .ne (by decide +kernel) (lw_2 (by decide +kernel) (lw_l ha)) Wd1 (sd_l ha) (sd_0 F) ia zero_in) (sd_l ha) (q_ne0 ia) Wd1
theorem c_eq_a_1 : Chk "eq a 1" "a" ["eq", "a", "1"] (.two "eq" (.leaf "a") (.leaf "1")) (.leaf "a") false ((widths.map fun w => (w, w, w)).map fun t => (1, t.2.1, 1)) := ⟨by decide +kernel⟩
theorem r_eq_a_1 : RuleOk "eq a 1" "a" := rule_of c_eq_a_1 fun L low mid w hz wl wm ww F => by
  obtain ⟨xa, ha, ia⟩ := F.l "a" (by decide +kernel) (by decide +kernel)
  show Eqv L mid _ _ w
  obtain ⟨rfl, rfl⟩ := low1 hz
  exact eqv (sd_cp .eq (by decide +kernel) (lw_2 (by decide +kernel) (lw_l ha)) Wd1 (sd_l ha) (sd_1 F) ia (one_in Wd1)) (sd_l ha) (q_eq1 ia) Wd1
theorem c_add_m_a : Chk "add m a" "add a m" ["add", "m", "a"] (.two "add" (.leaf "m") (.leaf "a")) (.two "add" (.leaf "a") (.leaf "m")) false (widths.map fun w => (w, w, w)) := ⟨by decide +kernel⟩
theorem r_add_m_a : RuleOk "add m a" "add a m" := rule_u c_add_m_a fun L w mid hw F => by
  obtain ⟨xa, ha, ia⟩ := F.l "a" (by decide +kernel) (by decide +kernel)
  obtain ⟨xm, hm, im⟩ := F.l "m" (by decide +kernel) (by decide +kernel)
  show Eqv L mid _ _ w
  exact eqv (sd_bo .add (by decide +kernel) (sd_l hm) (sd_l ha) im ia t_add) (sd_bo .add (by decide +kernel) (sd_l ha) (sd_l hm) ia im t_add) q_addc.symm hw
theorem c_mul_m_a : Chk "mul m a" "mul a m" ["mul", "m", "a"] (.two "mul" (.leaf "m") (.leaf "a")) (.two "mul" (.leaf "a") (.leaf "m")) false (widths.map fun w => (w, w, w)) := ⟨by decide +kernel⟩
theorem r_mul_m_a : RuleOk "mul m a" "mul a m" := rule_u c_mul_m_a fun L w mid hw F => by
  obtain ⟨xa, ha, ia⟩ := F.l "a" (by decide +kernel) (by decide +kernel)
  obtain ⟨xm, hm, im⟩ := F.l "m" (by decide +kernel) (by decide +kernel)
  show Eqv L mid _ _ w
  exact eqv (sd_bo .mul (by decide +kernel) (sd_l hm) (sd_l ha) im ia t_mul) (sd_bo .mul (by decide +kernel) (sd_l ha) (sd_l hm) ia im t_mul) q_mulc.symm hw
theorem c_and_m_a : Chk "and m a" "and a m" ["and", "m", "a"] (.two "and" (.leaf "m") (.leaf "a")) (.two "and" (.leaf "a") (.leaf "m")) false (widths.map fun w => (w, w, w)) := ⟨by decide +kernel⟩
theorem r_and_m_a : RuleOk "and m a" "and a m" := rule_u c_and_m_a fun L w mid hw F => by
  obtain ⟨xa, ha, ia⟩ := F.l "a" (by decide +kernel) (by decide +kernel)
  obtain ⟨xm, hm, im⟩ := F.l "m" (by decide +kernel) (by decide +kernel)
  show Eqv L mid _ _ w
  exact eqv (sd_bo .and (by decide +kernel) (sd_l hm) (sd_l ha) im ia t_and) (sd_bo .and (by decide +kernel) (sd_l ha) (sd_l hm) ia im t_and) (q_andc ia im) hw
theorem c_or_m_a : Chk "or m a" "or a m" ["or", "m", "a"] (.two "or" (.leaf "m") (.leaf "a")) (.two "or" (.leaf "a") (.leaf "m")) false (widths.map fun w => (w, w, w)) := ⟨by decide +kernel⟩
theorem r_or_m_a : RuleOk "or m a" "or a m" := rule_u c_or_m_a fun L w mid hw F => by
  obtain ⟨xa, ha, ia⟩ := F.l "a" (by decide +kernel) (by decide +kernel)
  obtain ⟨xm, hm, im⟩ := F.l "m" (by decide +kernel) (by decide +kernel)
  show Eqv L mid _ _ w
  exact eqv (sd_bo .or (by decide +kernel) (sd_l hm) (sd_l ha) im ia t_or) (sd_bo .or (by decide +kernel) (sd_l ha) (sd_l hm) ia im t_or) (q_orc ia im) hw
theorem c_xor_m_a : Chk "xor m a" "xor a m" ["xor", "m", "a"] (.two "xor" (.leaf "m") (.leaf "a")) (.two "xor" (.leaf "a") (.leaf "m")) false (widths.map fun w => (w, w, w)) := ⟨by decide +kernel⟩
theorem r_xor_m_a : RuleOk "xor m a" "xor a m" := rule_u c_xor_m_a fun L w mid hw F => by
  obtain ⟨xa, ha, ia⟩ := F.l "a" (by decide +kernel) (by decide +kernel)
  obtain ⟨xm, hm, im⟩ := F.l "m" (by decide +kernel) (by decide +kernel)
  show Eqv L mid _ _ w
  exact eqv (sd_bo .xor (by decide +kernel) (sd_l hm) (sd_l ha) im ia t_xor) (sd_bo .xor (by decide +kernel) (sd_l ha) (sd_l hm) ia im t_xor) (q_xorc ia im) hw
theorem c_eq_m_a : Chk "eq m a" "eq a m" ["eq", "m", "a"] (.two "eq" (.leaf "m") (.leaf "a")) (.two "eq" (.leaf "a") (.leaf "m")) true (widths.map fun w => (w, w, w)) := ⟨by decide +kernel⟩
theorem r_eq_m_a : RuleOk "eq m a" "eq a m" := rule_u c_eq_m_a fun L w mid hw F => by
  obtain ⟨xa, ha, ia⟩ := F.l "a" (by decide +kernel) (by decide +kernel)
  obtain ⟨xm, hm, im⟩ := F.l "m" (by decide +kernel) (by decide +kernel)
  show Eqv L mid _ _ 1
  exact eqv (sd_cp .eq (by decide +kernel) (lw_2 (by decide +kernel) (lw_l hm)) hw (sd_l hm) (sd_l ha) im ia) (sd_cp .eq (by decide +kernel) (lw_2 (by decide +kernel) (lw_l ha)) hw (sd_l ha) (sd_l hm) ia im) (b2n_congr ⟨Eq.symm, Eq.symm⟩) Wd1
theorem c_ne_m_a : Chk "ne m a" "ne a m" ["ne", "m", "a"] (.two "ne" (.leaf "m") (.leaf "a")) (.two "ne" (.leaf "a") (.leaf "m")) true (widths.map fun w => (w, w, w)) := ⟨by decide +kernel⟩
theorem r_ne_m_a : RuleOk "ne m a" "ne a m" := rule_u c_ne_m_a fun L w mid hw F => by
  obtain ⟨xa, ha, ia⟩ := F.l "a" (by decide +kernel) (by decide +kernel)
  obtain ⟨xm, hm, im⟩ := F.l "m" (by decide +kernel) (by decide +kernel)
  show Eqv L mid _ _ 1
  exact eqv (sd_cp .ne (by decide +kernel) (lw_2 (by decide +kernel) (lw_l hm)) hw (sd_l hm) (sd_l ha) im ia) (sd_cp .ne (by decide +kernel) (lw_2 (by decide +kernel) (lw_l ha)) hw (sd_l ha) (sd_l hm) ia im) (b2n_congr ⟨Ne.symm, Ne.symm⟩) Wd1
theorem c_sub_a_m : Chk "sub a m" "add a SUB 0 m" ["sub", "a", "m"] (.two "sub" (.leaf "a") (.leaf "m")) (.two "add" (.leaf "a") (.two "SUB" (.leaf "0") (.leaf "m"))) false (widths.map fun w => (w, w, w)) := ⟨by decide +kernel⟩
theorem r_sub_a_m : RuleOk "sub a m" "add a SUB 0 m" := rule_u c_sub_a_m fun L w mid hw F => by
  obtain ⟨xa, ha, ia⟩ := F.l "a" (by decide +kernel) (by decide +kernel)
  obtain ⟨xm, hm, im⟩ := F.l "m" (by decide +kernel) (by decide +kernel)
  show Eqv L mid _ _ w
  exact eqv (sd_bo .sub (by decide +kernel) (sd_l ha) (sd_l hm) ia im t_sub) (sd_bo .add (by decide +kernel) (sd_l ha) (sd_up .sub (by decide +kernel) (nm_up .sub (by decide +kernel) nm_0 (nm_l (by decide +kernel) hm) zero_in im t_sub)) ia (told_in zero_in im t_sub) t_add) q_subn hw
theorem c_mul_a_p : Chk "mul a p" "shl a LOG p" ["mul", "a", "p"] (.two "mul" (.leaf "a") (.leaf "p")) (.two "shl" (.leaf "a") (.one "LOG" (.leaf "p"))) false (widths.map fun w => (w, w, w)) := ⟨by decide +kernel⟩
theorem r_mul_a_p : RuleOk "mul a p" "shl a LOG p" := rule_u c_mul_a_p fun L w mid hw F => by
  obtain ⟨xa, ha, ia⟩ := F.l "a" (by decide +kernel) (by decide +kernel)
  obtain ⟨k, hp, hk⟩ := F.p (by decide +kernel)
  show Eqv L mid _ _ w
  exact eqv (sd_bo .mul (by decide +kernel) (sd_l ha) (sd_l hp) ia (pk_in hk) t_mul) (sd_bo .shl (by decide +kernel) (sd_l ha) (sd_log (nm_log (nm_l (by decide +kernel) hp) (logP_k ⟨hk.1, by have := hw.2; omega⟩))) ia (k_in hk) t_shl) (q_shlk hk) hw
theorem c_udiv_a_p : Chk "udiv a p" "lshr a LOG p" ["udiv", "a", "p"] (.two "udiv" (.leaf "a") (.leaf "p")) (.two "lshr" (.leaf "a") (.one "LOG" (.leaf "p"))) false (widths.map fun w => (w, w, w)) := ⟨by decide +kernel⟩
theorem r_udiv_a_p : RuleOk "udiv a p" "lshr a LOG p" := rule_u c_udiv_a_p fun L w mid hw F => by
  obtain ⟨xa, ha, ia⟩ := F.l "a" (by decide +kernel) (by decide +kernel)
  obtain ⟨k, hp, hk⟩ := F.p (by decide +kernel)
  show Eqv L mid _ _ w
  exact eqv (sd_bo .udiv (by decide +kernel) (sd_l ha) (sd_l hp) ia (pk_in hk) (t_udiv (Int.ne_of_gt (p2_pos k)))) (sd_bo .lshr (by decide +kernel) (sd_l ha) (sd_log (nm_log (nm_l (by decide +kernel) hp) (logP_k ⟨hk.1, by have := hw.2; omega⟩))) ia (k_in hk) t_lshr) (q_lshrk hk) hw
theorem c_urem_a_p : Chk "urem a p" "and a SUB p 1" ["urem", "a", "p"] (.two "urem" (.leaf "a") (.leaf "p")) (.two "and" (.leaf "a") (.two "SUB" (.leaf "p") (.leaf "1"))) false (widths.map fun w => (w, w, w)) := ⟨by decide +kernel⟩
theorem r_urem_a_p : RuleOk "urem a p" "and a SUB p 1" := rule_u c_urem_a_p fun L w mid hw F => by
  obtain ⟨xa, ha, ia⟩ := F.l "a" (by decide +kernel) (by decide +kernel)
  obtain ⟨k, hp, hk⟩ := F.p (by decide +kernel)
  show Eqv L mid _ _ w
  exact eqv (sd_bo .urem (by decide +kernel) (sd_l ha) (sd_l hp) ia (pk_in hk) (t_urem (Int.ne_of_gt (p2_pos k)))) (sd_bo .and (by decide +kernel) (sd_l ha) (sd_up .sub (by decide +kernel) (nm_up .sub (by decide +kernel) (nm_l (by decide +kernel) hp) nm_1 (pk_in hk) (one_in hw) t_sub)) ia (told_in (pk_in hk) (one_in hw) t_sub) t_and) (q_remk ia hk) hw
theorem c_add_add_a_m_n : Chk "add add a m n" "add a ADD m n" ["add", "add", "a", "m", "n"] (.two "add" (.two "add" (.leaf "a") (.leaf "m")) (.leaf "n")) (.two "add" (.leaf "a") (.two "ADD" (.leaf "m") (.leaf "n"))) false (widths.map fun w => (w, w, w)) := ⟨by decide +kernel⟩
theorem r_add_add_a_m_n : RuleOk "add add a m n" "add a ADD m n" := rule_u c_add_add_a_m_n fun L w mid hw F => by
  obtain ⟨xa, ha, ia⟩ := F.l "a" (by decide +kernel) (by decide +kernel)
  obtain ⟨xm, hm, im⟩ := F.l "m" (by decide +kernel) (by decide +kernel)
  obtain ⟨xn, hn, iN⟩ := F.l "n" (by decide +kernel) (by decide +kernel)
  show Eqv L mid _ _ w
  exact eqv (sd_bo .add (by decide +kernel) (sd_bo .add (by decide +kernel) (sd_l ha) (sd_l hm) ia im t_add) (sd_l hn) (told_in ia im t_add) iN t_add) (sd_bo .add (by decide +kernel) (sd_l ha) (sd_up .add (by decide +kernel) (nm_up .add (by decide +kernel) (nm_l (by decide +kernel) hm) (nm_l (by decide +kernel) hn) im iN t_add)) ia (told_in im iN t_add) t_add) q_adda hw
theorem c_mul_mul_a_m_n : Chk "mul mul a m n" "mul a MUL m n" ["mul", "mul", "a", "m", "n"] (.two "mul" (.two "mul" (.leaf "a") (.leaf "m")) (.leaf "n")) (.two "mul" (.leaf "a") (.two "MUL" (.leaf "m") (.leaf "n"))) false (widths.map fun w => (w, w, w)) := ⟨by decide +kernel⟩
theorem r_mul_mul_a_m_n : RuleOk "mul mul a m n" "mul a MUL m n" := rule_u c_mul_mul_a_m_n fun L w mid hw F => by
  obtain ⟨xa, ha, ia⟩ := F.l "a" (by decide +kernel) (by decide +kernel)
  obtain ⟨xm, hm, im⟩ := F.l "m" (by decide +kernel) (by decide +kernel)
  obtain ⟨xn, hn, iN⟩ := F.l "n" (by decide +kernel) (by decide +kernel)
  show Eqv L mid _ _ w
  exact eqv (sd_bo .mul (by decide +kernel) (sd_bo .mul (by decide +kernel) (sd_l ha) (sd_l hm) ia im t_mul) (sd_l hn) (told_in ia im t_mul) iN t_mul) (sd_bo .mul (by decide +kernel) (sd_l ha) (sd_up .mul (by decide +kernel) (nm_up .mul (by decide +kernel) (nm_l (by decide +kernel) hm) (nm_l (by decide +kernel) hn) im iN t_mul)) ia (told_in im iN t_mul) t_mul) q_mula hw
theorem c_and_and_a_m_n : Chk "and and a m n" "and a AND m n" ["and", "and", "a", "m", "n"] (.two "and" (.two "and" (.leaf "a") (.leaf "m")) (.leaf "n")) (.two "and" (.leaf "a") (.two "AND" (.leaf "m") (.leaf "n"))) false (widths.map fun w => (w, w, w)) := ⟨by decide +kernel⟩
theorem r_and_and_a_m_n : RuleOk "and and a m n" "and a AND m n" := rule_u c_and_and_a_m_n fun L w mid hw F => by
  obtain ⟨xa, ha, ia⟩ := F.l "a" (by decide +kernel) (by decide +kernel)
  obtain ⟨xm, hm, im⟩ := F.l "m" (by decide +kernel) (by decide +kernel)
  obtain ⟨xn, hn, iN⟩ := F.l "n" (by decide +kernel) (by decide +kernel)
  show Eqv L mid _ _ w
  exact eqv (sd_bo .and (by decide +kernel) (sd_bo .and (by decide +kernel) (sd_l ha) (sd_l hm) ia im t_and) (sd_l hn) (told_in ia im t_and) iN t_and) (sd_bo .and (by decide +kernel) (sd_l ha) (sd_up .and (by decide +kernel) (nm_up .and (by decide +kernel) (nm_l (by decide +kernel) hm) (nm_l (by decide +kernel) hn) im iN t_and)) ia (told_in im iN t_and) t_and) (q_anda ia im iN) hw
theorem c_or_or_a_m_n : Chk "or or a m n" "or a OR m n" ["or", "or", "a", "m", "n"] (.two "or" (.two "or" (.leaf "a") (.leaf "m")) (.leaf "n")) (.two "or" (.leaf "a") (.two "OR" (.leaf "m") (.leaf "n"))) false (widths.map fun w => (w, w, w)) := ⟨by decide +kernel⟩
theorem r_or_or_a_m_n : RuleOk "or or a m n" "or a OR m n" := rule_u c_or_or_a_m_n fun L w mid hw F => by
  obtain ⟨xa, ha, ia⟩ := F.l "a" (by decide +kernel) (by decide +kernel)
  obtain ⟨xm, hm, im⟩ := F.l "m" (by decide +kernel) (by decide +kernel)
  obtain ⟨xn, hn, iN⟩ := F.l "n" (by decide +kernel) (by decide +kernel)
  show Eqv L mid _ _ w
  exact eqv (sd_bo .or (by decide +kernel) (sd_bo .or (by decide +kernel) (sd_l ha) (sd_l hm) ia im t_or) (sd_l hn) (told_in ia im t_or) iN t_or) (sd_bo .or (by decide +kernel) (sd_l ha) (sd_up .or (by decide +kernel) (nm_up .or (by decide +kernel) (nm_l (by decide +kernel) hm) (nm_l (by decide +kernel) hn) im iN t_or)) ia (told_in im iN t_or) t_or) (q_ora ia im iN) hw
theorem c_xor_xor_a_m_n : Chk "xor xor a m n" "xor a XOR m n" ["xor", "xor", "a", "m", "n"] (.two "xor" (.two "xor" (.leaf "a") (.leaf "m")) (.leaf "n")) (.two "xor" (.leaf "a") (.two "XOR" (.leaf "m") (.leaf "n"))) false (widths.map fun w => (w, w, w)) := ⟨by decide +kernel⟩
theorem r_xor_xor_a_m_n : RuleOk "xor xor a m n" "xor a XOR m n" := rule_u c_xor_xor_a_m_n fun L w mid hw F => by
  obtain ⟨xa, ha, ia⟩ := F.l "a" (by decide +kernel) (by decide +kernel)
  obtain ⟨xm, hm, im⟩ := F.l "m" (by decide +kernel) (by decide +kernel)
  obtain ⟨xn, hn, iN⟩ := F.l "n" (by decide +kernel) (by decide +kernel)
  show Eqv L mid _ _ w
  exact eqv (sd_bo .xor (by decide +kernel) (sd_bo .xor (by decide +kernel) (sd_l ha) (sd_l hm) ia im t_xor) (sd_l hn) (told_in ia im t_xor) iN t_xor) (sd_bo .xor (by decide +kernel) (sd_l ha) (sd_up .xor (by decide +kernel) (nm_up .xor (by decide +kernel) (nm_l (by decide +kernel) hm) (nm_l (by decide +kernel) hn) im iN t_xor)) ia (told_in im iN t_xor) t_xor) (q_xora ia im iN) hw
theorem c_sub_add_a_b_b : Chk "sub add a b b" "a" ["sub", "add", "a", "b", "b"] (.two "sub" (.two "add" (.leaf "a") (.leaf "b")) (.leaf "b")) (.leaf "a") false (widths.map fun w => (w, w, w)) := ⟨by decide +kernel⟩
theorem r_sub_add_a_b_b : RuleOk "sub add a b b" "a" := rule_u c_sub_add_a_b_b fun L w mid hw F => by
  obtain ⟨xa, ha, ia⟩ := F.l "a" (by decide +kernel) (by decide +kernel)
  obtain ⟨xb, hb, ib⟩ := F.l "b" (by decide +kernel) (by decide +kernel)
  show Eqv L mid _ _ w
  exact eqv (sd_bo .sub (by decide +kernel) (sd_bo .add (by decide +kernel) (sd_l ha) (sd_l hb) ia ib t_add) (sd_l hb) (told_in ia ib t_add) ib t_sub) (sd_l ha) (q_subadd ia).symm hw
theorem c_add_sub_a_b_b : Chk "add sub a b b" "a" ["add", "sub", "a", "b", "b"] (.two "add" (.two "sub" (.leaf "a") (.leaf "b")) (.leaf "b")) (.leaf "a") false (widths.map fun w => (w, w, w)) := ⟨by decide +kernel⟩
theorem r_add_sub_a_b_b : RuleOk "add sub a b b" "a" := rule_u c_add_sub_a_b_b fun L w mid hw F => by
  obtain ⟨xa, ha, ia⟩ := F.l "a" (by decide +kernel) (by decide +kernel)
  obtain ⟨xb, hb, ib⟩ := F.l "b" (by decide +kernel) (by decide +kernel)
  show Eqv L mid _ _ w
  exact eqv (sd_bo .add (by decide +kernel) (sd_bo .sub (by decide +kernel) (sd_l ha) (sd_l hb) ia ib t_sub) (sd_l hb) (told_in ia ib t_sub) ib t_add) (sd_l ha) (q_addsub ia).symm hw
theorem c_xor_xor_a_b_b : Chk "xor xor a b b" "a" ["xor", "xor", "a", "b", "b"] (.two "xor" (.two "xor" (.leaf "a") (.leaf "b")) (.leaf "b")) (.leaf "a") false (widths.map fun w => (w, w, w)) := ⟨by decide +kernel⟩
theorem r_xor_xor_a_b_b : RuleOk "xor xor a b b" "a" := rule_u c_xor_xor_a_b_b fun L w mid hw F => by
  obtain ⟨xa, ha, ia⟩ := F.l "a" (by decide +kernel) (by decide +kernel)
  obtain ⟨xb, hb, ib⟩ := F.l "b" (by decide +kernel) (by decide +kernel)
  show Eqv L mid _ _ w
  exact eqv (sd_bo .xor (by decide +kernel) (sd_bo .xor (by decide +kernel) (sd_l ha) (sd_l hb) ia ib t_xor) (sd_l hb) (told_in ia ib t_xor) ib t_xor) (sd_l ha) (q_xorxor ia ib).symm hw
theorem c_and_a_or_a_b : Chk "and a or a b" "a" ["and", "a", "or", "a", "b"] (.two "and" (.leaf "a") (.two "or" (.leaf "a") (.leaf "b"))) (.leaf "a") false (widths.map fun w => (w, w, w)) := ⟨by decide +kernel⟩
theorem r_and_a_or_a_b : RuleOk "and a or a b" "a" := rule_u c_and_a_or_a_b fun L w mid hw F => by
  obtain ⟨xa, ha, ia⟩ := F.l "a" (by decide +kernel) (by decide +kernel)
  obtain ⟨xb, hb, ib⟩ := F.l "b" (by decide +kernel) (by decide +kernel)
  show Eqv L mid _ _ w
  exact eqv (sd_bo .and (by decide +kernel) (sd_l ha) (sd_bo .or (by decide +kernel) (sd_l ha) (sd_l hb) ia ib t_or) ia (told_in ia ib t_or) t_and) (sd_l ha) (q_andor ia ib).symm hw
theorem c_or_a_and_a_b : Chk "or a and a b" "a" ["or", "a", "and", "a", "b"] (.two "or" (.leaf "a") (.two "and" (.leaf "a") (.leaf "b"))) (.leaf "a") false (widths.map fun w => (w, w, w)) := ⟨by decide +kernel⟩
theorem r_or_a_and_a_b : RuleOk "or a and a b" "a" := rule_u c_or_a_and_a_b fun L w mid hw F => by
  obtain ⟨xa, ha, ia⟩ := F.l "a" (by decide +kernel) (by decide +kernel)
  obtain ⟨xb, hb, ib⟩ := F.l "b" (by decide +kernel) (by decide +kernel)
  show Eqv L mid _ _ w
  exact eqv (sd_bo .or (by decide +kernel) (sd_l ha) (sd_bo .and (by decide +kernel) (sd_l ha) (sd_l hb) ia ib t_and) ia (told_in ia ib t_and) t_or) (sd_l ha) (q_orand ia ib).symm hw
theorem c_eq_add_a_m_n : Chk "eq add a m n" "eq a SUB n m" ["eq", "add", "a", "m", "n"] (.two "eq" (.two "add" (.leaf "a") (.leaf "m")) (.leaf "n")) (.two "eq" (.leaf "a") (.two "SUB" (.leaf "n") (.leaf "m"))) true (widths.map fun w => (w, w, w)) := ⟨by decide +kernel⟩
theorem r_eq_add_a_m_n : RuleOk "eq add a m n" "eq a SUB n m" := rule_u c_eq_add_a_m_n fun L w mid hw F => by
  obtain ⟨xa, ha, ia⟩ := F.l "a" (by decide +kernel) (by decide +kernel)
  obtain ⟨xm, hm, im⟩ := F.l "m" (by decide +kernel) (by decide +kernel)
  obtain ⟨xn, hn, iN⟩ := F.l "n" (by decide +kernel) (by decide +kernel)
  show Eqv L mid _ _ 1
  exact eqv (sd_cp .eq (by decide +kernel) (lw_2 (by decide +kernel) (lw_2 (by decide +kernel) (lw_l ha))) hw (sd_bo .add (by decide +kernel) (sd_l ha) (sd_l hm) ia im t_add) (sd_l hn) (told_in ia im t_add) iN) (sd_cp .eq (by decide +kernel) (lw_2 (by decide +kernel) (lw_l ha)) hw (sd_l ha) (sd_up .sub (by decide +kernel) (nm_up .sub (by decide +kernel) (nm_l (by decide +kernel) hn) (nm_l (by decide +kernel) hm) iN im t_sub)) ia (told_in iN im t_sub)) (q_eqsub ia im iN) Wd1
theorem c_xor_eq_a_b_1 : Chk "xor eq a b 1" "ne a b" ["xor", "eq", "a", "b", "1"] (.two "xor" (.two "eq" (.leaf "a") (.leaf "b")) (.leaf "1")) (.two "ne" (.leaf "a") (.leaf "b")) true (widths.map fun w => (w, w, w)) := ⟨by decide +kernel⟩
theorem r_xor_eq_a_b_1 : RuleOk "xor eq a b 1" "ne a b" := rule_u c_xor_eq_a_b_1 fun L w mid hw F => by
  obtain ⟨xa, ha, ia⟩ := F.l "a" (by decide +kernel) (by decide +kernel)
  obtain ⟨xb, hb, ib⟩ := F.l "b" (by decide +kernel) (by decide +kernel)
  show Eqv L mid _ _ 1
  exact eqv (sd_bo .xor (by decide +kernel) (sd_cp .eq (by decide +kernel) (lw_2 (by decide +kernel) (lw_l ha)) hw (sd_l ha) (sd_l hb) ia ib) (sd_1 F) (b2n_in Wd1 _) (one_in Wd1) t_xor) (sd_cp .ne (by decide +kernel) (lw_2 (by decide +kernel) (lw_l ha)) hw (sd_l ha) (sd_l hb) ia ib) q_xeq Wd1
theorem c_xor_ne_a_b_1 : Chk "xor ne a b 1" "eq a b" ["xor", "ne", "a", "b", "1"] (.two "xor" (.two "ne" (.leaf "a") (.leaf "b")) (.leaf "1")) (.two "eq" (.leaf "a") (.leaf "b")) true (widths.map fun w => (w, w, w)) := ⟨by decide +kernel⟩
theorem r_xor_ne_a_b_1 : RuleOk "xor ne a b 1" "eq a b" := rule_u c_xor_ne_a_b_1 fun L w mid hw F => by
  obtain ⟨xa, ha, ia⟩ := F.l "a" (by decide +kernel) (by decide +kernel)
  obtain ⟨xb, hb, ib⟩ := F.l "b" (by decide +kernel) (by decide +kernel)
  show Eqv L mid _ _ 1
  exact eqv (sd_bo .xor (by decide +kernel) (sd_cp .ne (by decide +kernel) (lw_2 (by decide +kernel) (lw_l ha)) hw (sd_l ha) (sd_l hb) ia ib) (sd_1 F) (b2n_in Wd1 _) (one_in Wd1) t_xor) (sd_cp .eq (by decide +kernel) (lw_2 (by decide +kernel) (lw_l ha)) hw (sd_l ha) (sd_l hb) ia ib) q_xne Wd1
theorem c_xor_ult_a_b_1 : Chk "xor ult a b 1" "ule b a" ["xor", "ult", "a", "b", "1"] (.two "xor" (.two "ult" (.leaf "a") (.leaf "b")) (.leaf "1")) (.two "ule" (.leaf "b") (.leaf "a")) true (widths.map fun w => (w, w, w)) := ⟨by decide +kernel⟩
theorem r_xor_ult_a_b_1 : RuleOk "xor ult a b 1" "ule b a" := rule_u c_xor_ult_a_b_1 fun L w mid hw F => by
  obtain ⟨xa, ha, ia⟩ := F.l "a" (by decide +kernel) (by decide +kernel)
  obtain ⟨xb, hb, ib⟩ := F.l "b" (by decide +kernel) (by decide +kernel)
  show Eqv L mid _ _ 1
  exact eqv (sd_bo .xor (by decide +kernel) (sd_cp .ult (by decide +kernel) (lw_2 (by decide +kernel) (lw_l ha)) hw (sd_l ha) (sd_l hb) ia ib) (sd_1 F) (b2n_in Wd1 _) (one_in Wd1) t_xor) (sd_cp .ule (by decide +kernel) (lw_2 (by decide +kernel) (lw_l hb)) hw (sd_l hb) (sd_l ha) ib ia) q_xult Wd1
theorem c_xor_ule_a_b_1 : Chk "xor ule a b 1" "ult b a" ["xor", "ule", "a", "b", "1"] (.two "xor" (.two "ule" (.leaf "a") (.leaf "b")) (.leaf "1")) (.two "ult" (.leaf "b") (.leaf "a")) true (widths.map fun w => (w, w, w)) := ⟨by decide +kernel⟩
theorem r_xor_ule_a_b_1 : RuleOk "xor ule a b 1" "ult b a" := rule_u c_xor_ule_a_b_1 fun L w mid hw F => by
  obtain ⟨xa, ha, ia⟩ := F.l "a" (by decide +kernel) (by decide +kernel)
  obtain ⟨xb, hb, ib⟩ := F.l "b" (by decide +kernel) (by decide +kernel)
  show Eqv L mid _ _ 1
  exact eqv (sd_bo .xor (by decide +kernel) (sd_cp .ule (by decide +kernel) (lw_2 (by decide +kernel) (lw_l ha)) hw (sd_l ha) (sd_l hb) ia ib) (sd_1 F) (b2n_in Wd1 _) (one_in Wd1) t_xor) (sd_cp .ult (by decide +kernel) (lw_2 (by decide +kernel) (lw_l hb)) hw (sd_l hb) (sd_l ha) ib ia) q_xule Wd1
theorem c_xor_slt_a_b_1 : Chk "xor slt a b 1" "sle b a" ["xor", "slt", "a", "b", "1"] (.two "xor" (.two "slt" (.leaf "a") (.leaf "b")) (.leaf "1")) (.two "sle" (.leaf "b") (.leaf "a")) true (widths.map fun w => (w, w, w)) := ⟨by decide +kernel⟩
theorem r_xor_slt_a_b_1 : RuleOk "xor slt a b 1" "sle b a" := rule_u c_xor_slt_a_b_1 fun L w mid hw F => by
  obtain ⟨xa, ha, ia⟩ := F.l "a" (by decide +kernel) (by decide +kernel)
  obtain ⟨xb, hb, ib⟩ := F.l "b" (by decide +kernel) (by decide +kernel)
  show Eqv L mid _ _ 1
  exact eqv (sd_bo .xor (by decide +kernel) (sd_cp .slt (by decide +kernel) (lw_2 (by decide +kernel) (lw_l ha)) hw (sd_l ha) (sd_l hb) ia ib) (sd_1 F) (b2n_in Wd1 _) (one_in Wd1) t_xor) (sd_cp .sle (by decide +kernel) (lw_2 (by decide +kernel) (lw_l hb)) hw (sd_l hb) (sd_l ha) ib ia) q_xslt Wd1
theorem c_xor_sle_a_b_1 : Chk "xor sle a b 1" "slt b a" ["xor", "sle", "a", "b", "1"] (.two "xor" (.two "sle" (.leaf "a") (.leaf "b")) (.leaf "1")) (.two "slt" (.leaf "b") (.leaf "a")) true (widths.map fun w => (w, w, w)) := ⟨by decide +kernel⟩
theorem r_xor_sle_a_b_1 : RuleOk "xor sle a b 1" "slt b a" := rule_u c_xor_sle_a_b_1 fun L w mid hw F => by
  obtain ⟨xa, ha, ia⟩ := F.l "a" (by decide +kernel) (by decide +kernel)
  obtain ⟨xb, hb, ib⟩ := F.l "b" (by decide +kernel) (by decide +kernel)
  show Eqv L mid _ _ 1
  exact eqv (sd_bo .xor (by decide +kernel) (sd_cp .sle (by decide +kernel) (lw_2 (by decide +kernel) (lw_l ha)) hw (sd_l ha) (sd_l hb) ia ib) (sd_1 F) (b2n_in Wd1 _) (one_in Wd1) t_xor) (sd_cp .slt (by decide +kernel) (lw_2 (by decide +kernel) (lw_l hb)) hw (sd_l hb) (sd_l ha) ib ia) q_xsle Wd1
theorem c_trunc_zext_a : Chk "trunc zext a" "a" ["trunc", "zext", "a"] (.one "trunc" (.one "zext" (.leaf "a"))) (.leaf "a") false (triples.map fun t => (t.1, t.2.1, t.1)) := ⟨by decide +kernel⟩
theorem r_trunc_zext_a : RuleOk "trunc zext a" "a" := rule_of c_trunc_zext_a fun L low mid w hz wl wm ww F => by
  obtain ⟨xa, ha, ia⟩ := F.l "a" (by decide +kernel) (by decide +kernel)
  show Eqv L mid _ _ w
  refine eqv_c (sd_cs .trunc (by decide +kernel) (sd_cs .zext (by decide +kernel) (sd_l ha) wl) wm) (sd_l ha) ?_ ww
  exact m_trunc_zext hz ia
theorem c_trunc_sext_a : Chk "trunc sext a" "a" ["trunc", "sext", "a"] (.one "trunc" (.one "sext" (.leaf "a"))) (.leaf "a") false (triples.map fun t => (t.1, t.2.1, t.1)) := ⟨by decide +kernel⟩
theorem r_trunc_sext_a : RuleOk "trunc sext a" "a" := rule_of c_trunc_sext_a fun L low mid w hz wl wm ww F => by
  obtain ⟨xa, ha, ia⟩ := F.l "a" (by decide +kernel) (by decide +kernel)
  show Eqv L mid _ _ w
  refine eqv_c (sd_cs .trunc (by decide +kernel) (sd_cs .sext (by decide +kernel) (sd_l ha) wl) wm) (sd_l ha) ?_ ww
  exact m_trunc_sext hz ia
theorem c_trunc_trunc_a : Chk "trunc trunc a" "trunc a" ["trunc", "trunc", "a"] (.one "trunc" (.one "trunc" (.leaf "a"))) (.one "trunc" (.leaf "a")) false (triples.map fun t => (t.2.2, t.2.1, t.1)) := ⟨by decide +kernel⟩
theorem r_trunc_trunc_a : RuleOk "trunc trunc a" "trunc a" := rule_of c_trunc_trunc_a fun L low mid w hz wl wm ww F => by
  obtain ⟨xa, ha, ia⟩ := F.l "a" (by decide +kernel) (by decide +kernel)
  show Eqv L mid _ _ w
  refine eqv_c (sd_cs .trunc (by decide +kernel) (sd_cs .trunc (by decide +kernel) (sd_l ha) wl) wm) (sd_cs .trunc (by decide +kernel) (sd_l ha) wl) ?_ ww
  exact m_trunc_trunc hz ia
theorem c_zext_zext_a : Chk "zext zext a" "zext a" ["zext", "zext", "a"] (.one "zext" (.one "zext" (.leaf "a"))) (.one "zext" (.leaf "a")) false triples := ⟨by decide +kernel⟩
theorem r_zext_zext_a : RuleOk "zext zext a" "zext a" := rule_of c_zext_zext_a fun L low mid w hz wl wm ww F => by
  obtain ⟨xa, ha, ia⟩ := F.l "a" (by decide +kernel) (by decide +kernel)
  show Eqv L mid _ _ w
  refine eqv_c (sd_cs .zext (by decide +kernel) (sd_cs .zext (by decide +kernel) (sd_l ha) wl) wm) (sd_cs .zext (by decide +kernel) (sd_l ha) wl) ?_ ww
  exact m_zext_zext hz ia
theorem c_sext_sext_a : Chk "sext sext a" "sext a" ["sext", "sext", "a"] (.one "sext" (.one "sext" (.leaf "a"))) (.one "sext" (.leaf "a")) false triples := ⟨by decide +kernel⟩
theorem r_sext_sext_a : RuleOk "sext sext a" "sext a" := rule_of c_sext_sext_a fun L low mid w hz wl wm ww F => by
  obtain ⟨xa, ha, ia⟩ := F.l "a" (by decide +kernel) (by decide +kernel)
  show Eqv L mid _ _ w
  refine eqv_c (sd_cs .sext (by decide +kernel) (sd_cs .sext (by decide +kernel) (sd_l ha) wl) wm) (sd_cs .sext (by decide +kernel) (sd_l ha) wl) ?_ ww
  exact m_sext_sext hz ia
def ruleL0 : List (Str × Str) := [("add a 0", "a"), ("sub a 0", "a"), ("sub a a", "0"), ("mul a 0", "0"), ("mul a 1", "a"), ("udiv a 1", "a"), ("urem a 1", "0"), ("and a 0", "0"), ("and a -1", "a"), ("and a a", "a"), ("or a 0", "a"), ("or a -1", "-1"), ("or a a", "a"), ("xor a 0", "a"), ("xor a a", "0"), ("shl a 0", "a")]
theorem ruleL0_ok : ∀ e ∈ ruleL0, RuleOk e.1 e.2 := by
  unfold ruleL0
  simp only [List.forall_mem_cons, List.not_mem_nil, false_implies, implies_true, and_true]
  exact ⟨r_add_a_0, r_sub_a_0, r_sub_a_a, r_mul_a_0, r_mul_a_1, r_udiv_a_1, r_urem_a_1, r_and_a_0, r_and_a_M, r_and_a_a, r_or_a_0, r_or_a_M, r_or_a_a, r_xor_a_0, r_xor_a_a, r_shl_a_0⟩
def ruleL1 : List (Str × Str) := [("lshr a 0", "a"), ("ashr a 0", "a"), ("eq a a", "1"), ("ne a a", "0"), ("ult a a", "0"), ("ule a a", "1"), ("slt a a", "0"), ("sle a a", "1"), ("select 1 a b", "a"), ("select 0 a b", "b"), ("select c a a", "a"), ("select c 1 0", "c"), ("ne a 0", "a"), ("eq a 1", "a"), ("add m a", "add a m"), ("mul m a", "mul a m")]
theorem ruleL1_ok : ∀ e ∈ ruleL1, RuleOk e.1 e.2 := by
  unfold ruleL1
  simp only [List.forall_mem_cons, List.not_mem_nil, false_implies, implies_true, and_true]
  exact ⟨r_lshr_a_0, r_ashr_a_0, r_eq_a_a, r_ne_a_a, r_ult_a_a, r_ule_a_a, r_slt_a_a, r_sle_a_a, r_select_1_a_b, r_select_0_a_b, r_select_c_a_a, r_select_c_1_0, r_ne_a_0, r_eq_a_1, r_add_m_a, r_mul_m_a⟩
def ruleL2 : List (Str × Str) := [("and m a", "and a m"), ("or m a", "or a m"), ("xor m a", "xor a m"), ("eq m a", "eq a m"), ("ne m a", "ne a m"), ("sub a m", "add a SUB 0 m"), ("mul a p", "shl a LOG p"), ("udiv a p", "lshr a LOG p"), ("urem a p", "and a SUB p 1"), ("add add a m n", "add a ADD m n"), ("mul mul a m n", "mul a MUL m n"), ("and and a m n", "and a AND m n"), ("or or a m n", "or a OR m n"), ("xor xor a m n", "xor a XOR m n"), ("sub add a b b", "a"), ("add sub a b b", "a")]
theorem ruleL2_ok : ∀ e ∈ ruleL2, RuleOk e.1 e.2 := by
  unfold ruleL2
  simp only [List.forall_mem_cons, List.not_mem_nil, false_implies, implies_true, and_true]
  exact ⟨r_and_m_a, r_or_m_a, r_xor_m_a, r_eq_m_a, r_ne_m_a, r_sub_a_m, r_mul_a_p, r_udiv_a_p, r_urem_a_p, r_add_add_a_m_n, r_mul_mul_a_m_n, r_and_and_a_m_n, r_or_or_a_m_n, r_xor_xor_a_m_n, r_sub_add_a_b_b, r_add_sub_a_b_b⟩
def ruleL3 : List (Str × Str) := [("xor xor a b b", "a"), ("and a or a b", "a"), ("or a and a b", "a"), ("eq add a m n", "eq a SUB n m"), ("xor eq a b 1", "ne a b"), ("xor ne a b 1", "eq a b"), ("xor ult a b 1", "ule b a"), ("xor ule a b 1", "ult b a"), ("xor slt a b 1", "sle b a"), ("xor sle a b 1", "slt b a"), ("trunc zext a", "a"), ("trunc sext a", "a"), ("trunc trunc a", "trunc a"), ("zext zext a", "zext a"), ("sext sext a", "sext a")]
theorem ruleL3_ok : ∀ e ∈ ruleL3, RuleOk e.1 e.2 := by
  unfold ruleL3
  simp only [List.forall_mem_cons, List.not_mem_nil, false_implies, implies_true, and_true]
  exact ⟨r_xor_xor_a_b_b, r_and_a_or_a_b, r_or_a_and_a_b, r_eq_add_a_m_n, r_xor_eq_a_b_1, r_xor_ne_a_b_1, r_xor_ult_a_b_1, r_xor_ule_a_b_1, r_xor_slt_a_b_1, r_xor_sle_a_b_1, r_trunc_zext_a, r_trunc_sext_a, r_trunc_trunc_a, r_zext_zext_a, r_sext_sext_a⟩
theorem rules_eq : rules = ruleL0 ++ ruleL1 ++ ruleL2 ++ ruleL3 := by decide +kernel
theorem rules_ok : ∀ e ∈ rules, RuleOk e.1 e.2 := by
  rw [rules_eq]
  intro e he
  simp only [List.mem_append] at he
  rcases he with ((h | h) | h) | h
  · exact ruleL0_ok e h
  · exact ruleL1_ok e h
  · exact ruleL2_ok e h
  · exact ruleL3_ok e h

end K25

set_option Elab.async false
set_option linter.all false
set_option maxRecDepth 100000
set_option maxHeartbeats 4000000
namespace K25
open PySem L2 PySem.Spec
/-! ### the law's own def: called by the caller alone, no text of an object is being made -/
structure TopOk (P : Program) (w : World) (K : PySem.W.Frag) (mg : Str → Option Value) (base : Heap) (f : Addr) (fd : FuncData) (x : Str) (sp : Sp) : Prop where
  go : ∀ (s : Shared) (H : Hp) (u : Value) (v : V) (Q : VK), Env0 P w K mg base callerA [] s H → BindsTo s fd ⟨[u], []⟩ [(x, u)] → RelV v u → sp [v] H Q (fun _ _ _ => False) →
    codeAny (model P w) callerA (.call (.ref f) ⟨[u], []⟩) (fun r z => ∃ t, r = .ok (.ret t) ∧ CE [] P w H s Q t z) s
theorem top_of {P : Program} {w : World} {K : PySem.W.Frag} {mg : Str → Option Value} {base : Heap} {k : Nat} {y qual x : Str} {st : Stmt} {f : Addr} {fd : FuncData} {N : List Str} {sp : Sp} (F : Fun K y qual st f fd) (S : FnScope N [x] (defScope st)) (hr : Room (k + 1) callerA)
    (body : ∀ (cdv : Value) (s : Shared) (H : Hp) (v : V) (Q : VK) (E : XK), Room k (callerA.deeper (PyProof.Rows.envOfC qual (defScope st) s.heap.objs.size f cdv)) → sp [v] H Q E →
      ∃ t, PSs (cxOf CX0 P w K mg base N qual (defScope st) f cdv callerA [] s H E).nox (defBody st) t ∧ t { nx := fun _ H1 => Q .non H1, rt := Q } (L2.start N [v]) H) : TopOk P w K mg base f fd x sp := by
  obtain ⟨oc, od, kV, doc, pm, an, cdv, ct, osl, rfl, look, code⟩ := F.ex
  refine ⟨fun s H u v Q e0 hbind rv hsp => ?_⟩
  have up : ∀ b o, base.get? b = some o → s.heap.get? b = some o := fun b o e => (e0.bs b o e).1
  have KX : K.In s.heap := e0.mod.kin.keeps up
  refine codeAny_call_function hr.depth (KX _ _ look) rfl S.co S.gen rfl (PySem.W.codeRec_of KX code) (hbind _ _ _ _ ?_)
  refine wpAny_newFunctionEnv_cells S.kind (fun z hz => ?_) fun env he s1 y1 => ?_
  · obtain rfl : z = (x, u) := by simpa using hz
    rcases S.par x (by simp) with q | q
    · exact .inl q
    · exact Or.inr ⟨q, PySem.W.cellsFrom_some _ _ _ (Or.inl q)⟩
  subst he
  refine ⟨(e0.mod.nolimit.keeps up).keeps y1.toInCall.keep, codeAny_func ?_⟩
  obtain ⟨t, ht, hq⟩ := body cdv s H v Q _ (hr.deeper _) hsp
  have I0 : Inv (cxOf CX0 P w K mg base N qual (defScope st) f cdv callerA [] s H fun _ _ _ => False) [] (L2.start N [v]) H s1 := inv_start S hr.hd e0 rfl (.cons rv .nil) y1
  refine wpAny_mono (ht.nox.run [] s1 (L2.start N [v]) H _ I0 hq) (fun fl s2 hs => ?_) fun e s2 hs => wpAny_mono hs (fun _ _ z => False.elim z) fun _ _ z => False.elim z
  cases fl with
  | ret t1 =>
    obtain ⟨v1, σ1, H1, J, rv1, q1⟩ := hs
    exact ⟨t1, rfl, v1, H1, J.os, J.bare, J.base, J.hok, rv1, q1⟩
  | next =>
    obtain ⟨σ1, H1, J, q1⟩ := hs
    exact ⟨.none, rfl, V.non, H1, J.os, J.bare, J.base, J.hok, rfl, q1⟩
  | brk => exact absurd hs fun ⟨_, _, _, z⟩ => z
  | cont => exact absurd hs fun ⟨_, _, _, z⟩ => z
theorem top_walk {l : PySem.W.OpenLaw} {n : Nat} {q : Program} {loose : List Str} {XP : (Str → Option Value) → Heap → Prop} {YP : World → Heap → Prop} {d : DefRec} {K : Params → PySem.W.Frag} {x : Str} {sp : PySem.W.Frag → Sp}
    (hn : l.most = some n) (hn2 : n ≤ sizeLine) (hdf : d.params.defaults = []) (hY : ∀ w h, YP w h → (K w.params).In h)
    (F : ∀ (w : World) (mg : Str → Option Value) (fa : Addr) (h : Heap), (K w.params).In h → h.Ns mainGlobals mg → mg d.name = some (.ref fa) →
      ∃ fd : FuncData, (∀ s u, BindsTo s fd ⟨[u], []⟩ [(x, u)]) ∧ ∀ base : Heap, (K w.params).In base → base.Ns mainGlobals mg → TopOk l.prog w (K w.params) mg base fa fd x (sp (K w.params)))
    (hsp : ∀ (K : PySem.W.Frag) (H : Hp) (a : Addr) (ns : List Int), ns.length ≤ n → SqL K H a (ns.map V.int) → sp K [.ref a] H (fun v _ => v = .bl true) fun _ _ _ => False) :
    PySem.W.WalkO q loose XP YP l.row.toRowW d [] fun f vs => PySem.call f vs := by
  refine Att.attach_call hn hdf fun w s₀ s1 mg mb fa o pm cd doc a us ns G Y _ _ _ hmg hob hin hlen hgen => ?_
  have KX := hY w _ Y
  obtain ⟨fd, hbind, hF⟩ := F w mg fa _ KX G.T.g hmg
  have hz : ns.length ≤ sizeLine := Nat.le_trans hlen hn2
  -- the script is tracked, where the written part does not hold it
  let so : Obj := { cls := .type "list", data := .seq us.toArray }
  let H : Hp := fun b => if b = a ∧ (K w.params).lookup a = none then some (.frz so (.lst (ns.map V.int))) else none
  have hH : ∀ b u, H b = some u → b = a ∧ (K w.params).lookup a = none ∧ u = .frz so (.lst (ns.map V.int)) := fun b u e => by
    by_cases c : b = a ∧ (K w.params).lookup a = none
    · have e1 : H b = some (.frz so (.lst (ns.map V.int))) := if_pos c
      rw [e1] at e
      exact ⟨c.1, c.2, (Option.some.inj e).symm⟩
    · have e1 : H b = none := if_neg c
      rw [e1] at e
      cases e
  have hs : SqL (K w.params) H a (ns.map V.int) := by
    cases hk : (K w.params).lookup a with
    | none => exact .inl (.inr ⟨so, if_pos ⟨rfl, hk⟩⟩)
    | some u =>
      have e := KX a u hk
      rw [hob] at e
      cases e
      exact .inr ⟨_, us.toArray, _, hk, rfl, rfl, rfl, by rw [List.size_toArray, hin.length]; exact hz, by simpa using vals_ints hin⟩
  have free : ∀ {b : Addr} {u : Obj} {es : Array DictEntry} {ep : Nat}, s1.heap.get? b = some u → u.data = .dict es ep → H b = none := fun {b u es ep} e1 e2 => by
    cases c : H b with
    | none => rfl
    | some z =>
      obtain ⟨rfl, _⟩ := hH _ _ c
      rw [hob] at e1
      cases e1
      cases e2
  have sub : ∀ {b : Addr} {m : Str → Option Value}, s1.heap.Ns b m → (hidT s1.heap H).Ns b m := fun {b m} z => by
    obtain ⟨u, es, ep, e1, e2, r⟩ := z
    exact ⟨u, es, ep, hidT_get e1 (free e1 e2), e2, r⟩
  have KB : (K w.params).In (hidT s1.heap H) := fun b u e => hidT_get (KX b u e) (by
    cases c : H b with
    | none => rfl
    | some z =>
      obtain ⟨rfl, z1, _⟩ := hH _ _ c
      rw [z1] at e
      cases e)
  have ok : HOk l.prog w H s1.heap := fun b u e => by
    obtain ⟨rfl, _, rfl⟩ := hH b u e
    exact ⟨hob, by rw [List.length_map]; exact hz, us, _, vals_ints hin, hob⟩
  have lim : (hidT s1.heap H).NoLimit := by
    obtain ⟨mc, z1, z2⟩ := G.T.nolimit
    exact ⟨mc, sub z1, z2⟩
  have e0 : Env0 l.prog w (K w.params) mg (hidT s1.heap H) callerA [] s1 H :=
    ⟨rfl, ⟨KB, sub G.T.g, ⟨mb, sub G.T.b, G.T.builtins⟩, lim⟩, fun b u e => of_hidT e, Nat.le_of_eq (hidT_size _ _), trivial, fun b z => absurd (show b ∈ ([] : List Addr) from z) (by simp), ok, .of_eq hgen⟩
  refine codeAny_mono ((hF _ KB (sub G.T.g)).go s1 H (.ref a) (.ref a) _ e0 (hbind s1 _) rfl (hsp _ H a ns hlen hs)) fun r z hr => ?_
  obtain ⟨t, rfl, v, H1, os, bare, un, ok1, rv, e⟩ := hr
  have e' : v = .bl true := e
  subst e'
  obtain rfl : t = .bool true := rv
  refine ⟨rfl, OldK.of_keep fun b u e1 => ?_, os, bare⟩
  cases c : H b with
  | none => exact un.keep b u e1 c (fun z => absurd (show b ∈ ([] : List Addr) from z) (by simp)) (by simp)
  | some y =>
    obtain ⟨rfl, _, rfl⟩ := hH b y c
    obtain ⟨e2, _⟩ := ok1 _ _ (un.frzs _ _ _ c)
    rw [hob] at e1
    cases e1
    exact e2
/-! ### repr of a tuple, of a list -/
section
variable {X : Cx}
def rRepr (K : PySem.W.Frag) : List V → Hp → VK → Prop := fun xs H Q => ∃ (a : Addr) (d : PyData), xs = [.ref a] ∧ Dp K H (.ref a) d ∧ (d.showable = true ∧ d.hasDict = false ∧ d.depth ≤ 40 ∧ d.shown.length ≤ sizeLine) ∧ Q (.str d.shown) H
theorem call_reprD (hg : X.A.guards = some []) (hu : X.A.units + 64 < cLine) : CallR X (.builtin "repr") (rRepr X.K) := by
  intro pins s σ H xs us
  intro Q I r h
  obtain ⟨a, d, rfl, hd, ⟨hs, hn, hp, hz⟩, q⟩ := h
  obtain ⟨z, rfl, rz⟩ := vals1 r
  obtain rfl : z = .ref a := rz
  obtain ⟨as, rd⟩ := Dp.reads I d _ _ hd rfl
  exact PySem.repr_of_reads' rd hs (PyData.noDict_hsm hn) hg (by omega) (fun _ _ e => e) (fun h1 t tk hk => ⟨.str d.shown, H, I.kept hk, ⟨t, rfl⟩, q⟩) hz
end
end K25

set_option Elab.async false
set_option linter.all false
set_option maxRecDepth 100000
set_option maxHeartbeats 4000000
namespace K25
open PySem L2
/-! ### the law -/
def rulesD : PyData := .tuple (rules.map fun p => .tuple [.str p.1, .str p.2])
def spLaw (K : PySem.W.Frag) : Sp := fun vs H Q _ => ∃ (a : Addr) (ns : List Int), vs = [.ref a] ∧ SqL K H a (ns.map V.int) ∧ ns.length ≤ 63 ∧ ∀ H', Q (.bl true) H'
theorem rules_lay : rulesD.layable0 = true := by decide +kernel
theorem rules_short : rulesD.intsShort 13 = true := by decide +kernel
theorem rules_fit : rulesD.showable = true ∧ rulesD.hasDict = false ∧ rulesD.depth ≤ 40 ∧ rulesD.shown.length ≤ sizeLine := ⟨by decide +kernel, by decide +kernel, by decide +kernel, Nat.le_trans (PyProof.Rows.shown_le13 rules_lay rules_short) (by decide)⟩
theorem dp_rules {K : PySem.W.Frag} {H : Hp} : ∀ (rs : List V) (ps : List (Str × Str)), rs.length = ps.length → (∀ (i : Nat) (r : V), rs[i]? = some r → ∃ b l x, r = .ref b ∧ ps[i]? = some (l, x) ∧ SqT K H b [.str l, .str x]) → DpAll K H rs (ps.map fun p => .tuple [.str p.1, .str p.2])
  | [], [], _, _ => .nil
  | [], _ :: _, h, _ => by simp at h
  | _ :: _, [], h, _ => by simp at h
  | r :: rs, p :: ps, h, q => by
    obtain ⟨b, l, x, rfl, e, hs⟩ := q 0 r rfl
    obtain rfl : p = (l, x) := by simpa using e
    exact .cons (.tup hs (.cons (.str l) (.cons (.str x) .nil))) (dp_rules rs ps (by simpa using h) fun i r hi => q (i + 1) r hi)
local macro_rules | `(tactic| walk_at "ev") => `(tactic| try simp only [wipe, iTup, iList, tBM, tBM0, gSub, tSl, tPart, tNoPart, rSlS, tAndV, tOrV, tNotV, tM0, tM1, tPar3, reduceCtorEq, false_and, exists_false, or_false, false_or, gcons, gnil, gName, tRet, tRetN, tIf, tTest, tOp, tUn, rI0, rI, rU, tVar, tC, tCall, tCons, tNil, tCB, tSeq, tIfS, tAsg, gName, tNext, tDrop, tPar, tB, tAnd, tOr, tNot, tIsN, tNotN, rEq, rNe, L2.start, List.map_cons, List.map_nil, List.length_cons, List.length_nil, List.replicate_succ, List.replicate_zero, List.cons_append, List.nil_append, List.append_nil, List.set_cons_zero, List.set_cons_succ, List.set_nil, Nat.reduceAdd, Nat.reduceSub, Nat.zero_add, Nat.sub_self, Nat.add_zero, Nat.succ_eq_add_one, List.getElem?_cons_zero, List.getElem?_cons_succ, Option.some.injEq, V.int.injEq, V.str.injEq, V.bl.injEq, V.ref.injEq, List.cons.injEq, and_assoc, exists_eq_left', exists_eq_left, exists_and_left, exists_eq', exists_eq_right, exists_eq_right', exists_const, and_true, true_and, and_self, scal_ii, scal_ss, scal_bb, decide_eq_true_eq, ite_bl, Int.one_mul, p2f, abf, reduceIte, Bool.false_eq_true, decide_true, decide_false, Bool.not_true, Bool.not_false, tCalK, tup_n, lst_n, NWrapped, NSigned, NQuotient, NDivided, NShifted, NBinTold, NCmpTold, NCastTold, NIsPure, NFolded, NLDraw, NLAny, NLOf, NLPower, NLNumber, NLForm, NLSigned, NLShift, NLTold, NLCompared, NLCast, NLPure, NLTable, NLRead, NLMadeNumber, NLOpDrawn, NLFolded, NLLettersWidth, NLSide, NLLettersDrawn, NLOpsRight, NLaw])
section
variable {K : PySem.W.Frag} {H : Hp} {Q : VK} {z : Str}
/-- the first of the words -/
theorem head_block (hz : z.length ≤ 30) (h0 : 0 < (Txt.split z " ").length) (q : ∀ H1, Same H H1 → Q (.str ((Txt.split z " ").getD 0 "")) H1) :
    ((" " : Str).length == 0) = false ∧ z.length + 2 ≤ sizeLine ∧ rNewStrs (Txt.split z " ") H fun x H1 => rIxL K x (.int 0) H1 Q := by
  refine ⟨by decide +kernel, Nat.le_of_lt (small1000 (by omega)), fun p hp => ?_⟩
  refine ixl (SqL.of upd_same) (at_of (j := 0) rfl ?_) (q _ (same_new hp _))
  rw [List.getElem?_map, List.getD_eq_getElem?_getD, List.getElem?_eq_getElem h0] <;> rfl
/-- what the words of a rule's side tell -/
theorem side_block {fm : Form} {L : Addr} {ls : Lets} {w mid rw' rn : Int} (hz : z.length ≤ 30) (hn : (Txt.split z " ").length ≤ 20) (hf : readF (Txt.split z " ") = some fm) (hd : fm.depth ≤ 5) (hL : LetAt K H L ls) (ok : LetOk ls) (hl : ls.length ≤ 10) (hw : Wd w) (hm : Wd mid)
    (hs : side mid (lk ls) fm w = some (rw', rn)) (q : ∀ p H1, Same H H1 → H1 p = some (.tup [.int rw', .int rn]) → Q (.ref p) H1) :
    ((" " : Str).length == 0) = false ∧ z.length + 2 ≤ sizeLine ∧ rNewStrs (Txt.split z " ") H fun x H1 => spRead K [x] H1 (fun y H2 => spSide K 5 [y, .int w, .int mid, .ref L] H2 Q E0) E0 := by
  refine ⟨by decide +kernel, Nat.le_of_lt (small1000 (by omega)), fun p hp => ?_⟩
  have s1 := same_new hp (.lst ((Txt.split z " ").map V.str))
  refine ⟨p, Txt.split z " ", fm, rfl, SqL.of upd_same, hn, hf, fun v L1 H2 s2 hat => ?_⟩
  obtain ⟨b, _, _, rfl, _⟩ := hat.un
  exact ⟨b, L, L1, w, mid, rw', rn, fm, ls, rfl, hat, hL.same (s1.trans s2), ok, hl, hw, hm, hs, hd, Nat.le_refl 5, fun p2 H3 s3 e3 => q p2 H3 ((s1.trans s2).trans s3) e3⟩
theorem cpx_eq (x : Str) : inV (.str x) [.str "eq", .str "ne", .str "ult", .str "ule", .str "slt", .str "sle", .str "xor"] = decide (x ∈ cpxW) := inV_strs x cpxW
theorem cp_eq (x : Str) : inV (.str x) [.str "eq", .str "ne", .str "ult", .str "ule", .str "slt", .str "sle"] = decide (x ∈ cpW) := inV_strs x cpW
end
section
variable {P : Program} {w : World} {K : PySem.W.Frag} {mg : Str → Option Value} {base : Heap}
theorem ok_law {f a_RULES : Addr} {fd : FuncData} (D : Def K mg "law" pLaw sLaw f fd) (m_RULES : mg "RULES" = some (.ref a_RULES)) (hR : ∀ H, Dp K H (.ref a_RULES) rulesD) (m_repr : mg "repr" = none) (m_tuple : mg "tuple" = none) (m_range : mg "range" = none)
    (C__law_draw : Cal P w K mg base 1 "_law_draw" pLDraw (spDraw K)) (C__law_table : Cal P w K mg base 1 "_law_table" pLTable (spTable K)) (C__law_ops_right : Cal P w K mg base 6 "_law_ops_right" pLOpsRight spOps) (C__law_of : Cal P w K mg base 2 "_law_of" pLOf (spOf K))
    (C__law_letters_drawn : Cal P w K mg base 4 "_law_letters_drawn" pLLettersDrawn (spLet K)) (C__law_read : Cal P w K mg base 1 "_law_read" pLRead (spRead K)) (C__law_side : Cal P w K mg base 15 "_law_side" pLSide (spSide K 5)) : TopOk P w K mg base f fd "_law_script" (spLaw K) := by
  refine top_of (k := 15) D.F scLaw ⟨rfl, by decide, by decide⟩ fun cdv s H v Q E hr h => ?_
  obtain ⟨a, ns, e, ha, hl, q⟩ := h
  obtain rfl : v = .ref a := by simpa using e
  have nd := scLaw.nd
  refine ⟨_, (pss_cons (ps_set (i := 1) nd rfl (by first | exact Or.inl rfl | exact Or.inr rfl) (pe_cal C__law_draw hr (by omega) (by rfl) (pa_cons (pv 0) (pa_cons pe_int pa_nil))))
    (pss_cons (ps_set (i := 2) nd rfl (by first | exact Or.inl rfl | exact Or.inr rfl) (pe_cal0 C__law_table hr (by omega) (by rfl)))
    (pss_cons (ps_if (pt_cmpR op_ne (pe_callB (call_reprD rfl hr.units) (by rfl) m_repr (by decide +kernel) (pa_cons (pe_glob (v := .ref a_RULES) (by rfl) m_RULES rfl) pa_nil)) (pe_callB (call_reprD rfl hr.units) (by rfl) m_repr (by decide +kernel) (pa_cons (pe_callTy (call_tupleK (K := K) rfl) (by rfl) m_tuple (by decide +kernel) (pa_cons (pv 2) pa_nil)) pa_nil)) (nomark _)) (pss_one (ps_ret pe_bl)) pss_nil)
    (pss_cons (ps_if (pt_not (pt_val (pe_cal C__law_ops_right hr (by omega) (by rfl) (pa_cons (pv 1) pa_nil)))) (pss_one (ps_ret pe_bl)) pss_nil)
    (pss_cons (ps_for PassesOwn.never rfl (pi_range1 (by rfl) m_range (pa_cons pe_int pa_nil)) (pg_name (i := 3) nd rfl (by first | exact Or.inl rfl | exact Or.inr rfl)) (pss_cons (ps_asg (pe_cal C__law_of hr (by omega) (by rfl) (pa_cons (pv 1) (pa_cons (pv 2) pa_nil))) (pg_tup (n := 2) (by rfl) (pgs_cons (pg_name (i := 5) nd rfl (by first | exact Or.inl rfl | exact Or.inr rfl)) (pgs_cons (pg_name (i := 6) nd rfl (by first | exact Or.inl rfl | exact Or.inr rfl)) pgs_nil))))
    (pss_cons (ps_asg (pe_cal C__law_letters_drawn hr (by omega) (by rfl) (pa_cons (pv 1) (pa_cons (pv 5) (pa_cons (pv 6) pa_nil)))) (pg_tup (n := 3) (by rfl) (pgs_cons (pg_name (i := 7) nd rfl (by first | exact Or.inl rfl | exact Or.inr rfl)) (pgs_cons (pg_name (i := 8) nd rfl (by first | exact Or.inl rfl | exact Or.inr rfl)) (pgs_cons (pg_name (i := 9) nd rfl (by first | exact Or.inl rfl | exact Or.inr rfl)) pgs_nil)))))
    (Evl.pss_cut (ps_if (PW.pt (pw_and (pt_cmpR (r := rIn K false) op_in_seq (pe_ix (r := rIxL K) ix_list (pe_split (pv 5) pe_str) pe_int (fun _ _ => rfl)) (pe_lst (pa_cons pe_str (pa_cons pe_str (pa_cons pe_str (pa_cons pe_str (pa_cons pe_str (pa_cons pe_str (pa_cons pe_str pa_nil)))))))) (by rfl)) (pw_and1 (pt_cmpR (r := rIn K false) op_in_seq (pe_ix (r := rIxL K) ix_list (pe_split (pv 6) pe_str) pe_int (fun _ _ => rfl)) (pe_lst (pa_cons pe_str (pa_cons pe_str (pa_cons pe_str (pa_cons pe_str (pa_cons pe_str (pa_cons pe_str pa_nil))))))) (by rfl))))) (pss_one (ps_set (i := 10) nd rfl (by first | exact Or.inl rfl | exact Or.inr rfl) (pe_cal C__law_side hr (by omega) (by rfl) (pa_cons (pe_cal C__law_read hr (by omega) (by rfl) (pa_cons (pe_split (pv 5) pe_str) pa_nil)) (pa_cons pe_int (pa_cons (pv 9) (pa_cons (pv 7) pa_nil))))))) (pss_one (ps_set (i := 10) nd rfl (by first | exact Or.inl rfl | exact Or.inr rfl) (pe_cal C__law_side hr (by omega) (by rfl) (pa_cons (pe_cal C__law_read hr (by omega) (by rfl) (pa_cons (pe_split (pv 5) pe_str) pa_nil)) (pa_cons (pv 8) (pa_cons (pv 9) (pa_cons (pv 7) pa_nil))))))))
    (pss_cons (ps_set (i := 4) nd rfl (by first | exact Or.inl rfl | exact Or.inr rfl) (pe_cal C__law_side hr (by omega) (by rfl) (pa_cons (pe_cal C__law_read hr (by omega) (by rfl) (pa_cons (pe_split (pv 6) pe_str) pa_nil)) (pa_cons (pe_ix (r := rIxT K) ix_tup (pv 10) pe_int (fun _ _ => rfl)) (pa_cons (pv 9) (pa_cons (pv 7) pa_nil))))))
    (pss_one (ps_if (pt_cmpR (r := rNeD K) (op_neD hr.units) (pv 10) (pv 4) (nomark _)) (pss_one (ps_ret pe_bl)) pss_nil)))))))
    (pss_one (ps_ret pe_bl))))))), ?_⟩
  walk_at "ev"
  refine ⟨a, ns, rfl, ha, hl, fun d g H1 s1 nd1 ng1 D1 => ?_⟩
  refine ⟨rfl, fun T rs H2 s2 nT e2 hT => ?_⟩
  refine ⟨a_RULES, rulesD, rfl, hR H2, rules_fit, T, rs, rfl, SqL.of e2, fun t ht => ?_⟩
  have s3 : Same H2 (upd H2 t (.tup rs)) := same_new ht _
  refine ⟨t, rulesD, rfl, .tup (SqT.of upd_same) (dp_rules rs rules hT.1 fun i r hi => ?_), rules_fit, rfl, ?_⟩
  · obtain ⟨b, l, x, e1, e3, hs⟩ := hT.2 i r hi
    exact ⟨b, l, x, e1, e3, same_tup s3 hs⟩
  refine ite_n (by simp) ?_
  have D3 := (D1.same s2).same s3
  refine ⟨d, g, rfl, D3, fun H4 D4 B4 => ⟨true, rfl, ?_⟩⟩
  refine ite_n (by simp) ?_
  have e3 := s3 _ _ e2
  have nTd : T ≠ d ∧ T ≠ g := by
    obtain ⟨ne, xs, b, z1, z2, _⟩ := id D1
    exact ⟨(ne_of_none z1 nT).symm, (ne_of_none z2 nT).symm⟩
  have e4 : H4 T = some (.lst rs) := B4 _ _ nTd.1 nTd.2 e3
  have h4 : RulesAt K H4 rs := ⟨hT.1, fun i r hi => by
    obtain ⟨b, l, x, z1, z2, hs⟩ := hT.2 i r hi
    exact ⟨b, l, x, z1, z2, B4.tup D3 (same_tup s3 hs)⟩⟩
  clear hT e3 D3 B4
  refine Evl.s_forR1 (n := 6) (fun H5 _ R k => k H5 (Same.refl _)) (by decide) (fun _ σ H5 => ∃ c3 c4 c5 c6 c7 c8 c9 c10 : Option V, σ = [some (.ref a), some (.ref d), some (.ref T), c3, c4, c5, c6, c7, c8, c9, c10] ∧ Deal d g H5 ∧ H5 T = some (.lst rs) ∧ RulesAt K H5 rs)
    (fun H5 s5 => ⟨_, _, _, _, _, _, _, _, rfl, D4.same s5, s5 _ _ e4, h4.1, fun i r hi => ?_⟩) (fun i σ H5 _ v => ?_) (fun σ H5 v => ?_)
  · obtain ⟨b, l, x, z1, z2, hs⟩ := h4.2 i r hi
    exact ⟨b, l, x, z1, z2, same_tup s5 hs⟩
  · obtain ⟨c3, c4, c5, c6, c7, c8, c9, c10, rfl, D5, e5, h5⟩ := v
    walk_at "ev"
    refine ⟨d, g, T, rs, rfl, D5, SqL.of e5, nTd, by rw [h5.1]; decide +kernel, by rw [h5.1]; decide +kernel, fun x hx H6 D6 B6 => ?_⟩
    obtain ⟨j, hj⟩ := List.getElem?_of_mem hx
    obtain ⟨b, l, r, rfl, hjr, hb⟩ := h5.2 j x hj
    have hb6 := B6.tup D5 hb
    refine unp_got hb6 rfl ?_
    walk_at "ev"
    have R := rules_ok _ (List.mem_of_getElem? hjr)
    refine ⟨d, g, l, r, rfl, D6, R.fit.1, fun p L ls w mid H7 D7 B7 hL hdr ep => ?_⟩
    refine unp_got (SqT.of ep) rfl ?_
    walk_at "ev"
    obtain ⟨fl, fr, hfl, hfr, dl, dr, ww, wm, ⟨rw', rn⟩, hs1, hs2, hrw⟩ := R.ok ls w mid hdr
    obtain ⟨-, ⟨l2, l30⟩, r30, lw20, rw20, r0⟩ := R.fit
    have lok := hdr.ok
    have ll : ls.length ≤ 10 := by
      obtain ⟨_, _, _, _, z, _⟩ := hdr
      exact z
    have l0 : 0 < (Txt.split l " ").length := by
      have z := R.fit.1
      unfold fitL at z
      simp only [Bool.and_eq_true, decide_eq_true_eq] at z
      omega
    have one : ∀ {w1 : Int} {H8 : Hp}, w1 = w0 l r w → Same H7 H8 → ∀ Q1 : VK, (∀ p H9, Same H7 H9 → H9 p = some (.tup [.int rw', .int rn]) → Q1 (.ref p) H9) →
        ((" " : Str).length == 0) = false ∧ l.length + 2 ≤ sizeLine ∧ rNewStrs (Txt.split l " ") H8 fun x H1 => spRead K [x] H1 (fun y H2 => spSide K 5 [y, .int w1, .int mid, .ref L] H2 Q1 E0) E0 := fun {w1 H8} e s Q1 k => by
      subst e
      have hw0 : Wd (w0 l r w) := by
        unfold w0
        split
        · exact Wd1
        · exact ww
      exact side_block l30 lw20 hfl dl (hL.same s) lok ll hw0 wm hs1 fun p H9 s9 e9 => k p H9 (s.trans s9) e9
    refine ⟨fun σ H8 => ∃ p1, σ = [some (.ref a), some (.ref d), some (.ref T), some (.int i), c4, some (.str l), some (.str r), some (.ref L), some (.int w), some (.int mid), some (.ref p1)] ∧ Same H7 H8 ∧ H8 p1 = some (.tup [.int rw', .int rn]), ?_, ?_⟩
    · walk_at "ev"
      refine head_block l30 l0 fun H8 s8 => ?_
      refine in_newL rfl rfl (by show 7 ≤ 1000; decide) fun H9 s9 => ?_
      walk_at "ev"
      have s79 := s8.trans s9
      rw [cpx_eq]
      refine ite2 (fun c => ?_) (fun c => ?_)
      · rw [decide_eq_true_eq] at c
        refine head_block r30 r0 fun H10 s10 => ?_
        refine in_newL rfl rfl (by show 6 ≤ 1000; decide) fun H11 s11 => ?_
        walk_at "ev"
        have s711 := (s79.trans s10).trans s11
        rw [cp_eq]
        refine ite2 (fun c2 => ?_) (fun c2 => ?_)
        · rw [decide_eq_true_eq] at c2
          exact one (by unfold w0; rw [if_pos ⟨c, c2⟩]) s711 _ fun p1 H12 s12 e12 => ⟨p1, rfl, s12, e12⟩
        · rw [decide_eq_true_eq] at c2
          exact one (by unfold w0; rw [if_neg fun z => c2 z.2]) s711 _ fun p1 H12 s12 e12 => ⟨p1, rfl, s12, e12⟩
      · rw [decide_eq_true_eq] at c
        exact one (by unfold w0; rw [if_neg fun z => c z.1]) s79 _ fun p1 H12 s12 e12 => ⟨p1, rfl, s12, e12⟩
    · rintro σ H8 ⟨p1, rfl, s8, e8⟩
      walk_at "ev"
      refine ⟨by decide +kernel, Nat.le_of_lt (small1000 (by have z : r.length ≤ 30 := r30; omega)), fun p2 hp2 => ?_⟩
      have s9 := same_new hp2 (.lst ((Txt.split r " ").map V.str))
      refine ⟨p2, Txt.split r " ", fr, rfl, SqL.of upd_same, rw20, hfr, fun v L1 H10 s10 hat => ?_⟩
      obtain ⟨b1, _, _, rfl, _⟩ := hat.un
      have sA := (s8.trans s9).trans s10
      refine ixt (SqT.of (s10 _ _ (s9 _ _ e8))) rfl ?_
      refine ⟨b1, L, L1, rw', mid, rw', rn, fr, ls, rfl, hat, hL.same sA, lok, ll, hrw, wm, hs2, dr, Nat.le_refl 5, fun p3 H11 s11 e11 => ?_⟩
      have sB := sA.trans s11
      have e1' := s11 _ _ (s10 _ _ (s9 _ _ e8))
      refine ⟨.tuple [.int rw', .int rn], .tuple [.int rw', .int rn], .tup (SqT.of e1') (dp_ints [rw', rn]), .tup (SqT.of e11) (dp_ints [rw', rn]), rfl, rfl, ?_⟩
      refine ⟨_, rfl, ite_n (by simp [PyData.eqv, PyData.eqvAll]) ?_⟩
      have B := B6.trans (B7.same sB)
      refine ⟨D7.same sB, B _ _ nTd.1 nTd.2 e5, h5.1, fun i x hi => ?_⟩
      obtain ⟨b2, l', r', z1, z2, hs⟩ := h5.2 i x hi
      exact ⟨b2, l', r', z1, z2, B.tup D5 hs⟩
  · obtain ⟨c3, c4, c5, c6, c7, c8, c9, c10, rfl, D5, e5, h5⟩ := v
    walk_at "ev"
    exact q H5
end
end K25

set_option Elab.async false
set_option linter.all false
set_option maxRecDepth 100000
set_option maxHeartbeats 4000000
namespace K25
open PySem L2
/-! ### tuples of texts that the top has written, by a look at the written part -/
def textsB : List Value → List Str → Bool
  | [], [] => true
  | .str y _ :: vs, x :: xs => decide (y = x) && textsB vs xs
  | _, _ => false
def tupB (K : PySem.W.Frag) (a : Addr) : Option (List Value) := match K.lookup a with
  | some u => match u.cls, u.data with
    | .type t, .seq its _ => if t = "tuple" ∧ its.size ≤ sizeLine then some its.toList else none
    | _, _ => none
  | _ => none
def strsB (K : PySem.W.Frag) (a : Addr) (xs : List Str) : Bool := match tupB K a with
  | some vs => textsB vs xs
  | _ => false
def pairsB (K : PySem.W.Frag) : List Value → List (Str × Str) → Bool
  | [], [] => true
  | .ref b :: vs, p :: ps => strsB K b [p.1, p.2] && pairsB K vs ps
  | _, _ => false
def rulesB (K : PySem.W.Frag) (a : Addr) : Bool := match tupB K a with
  | some vs => pairsB K vs rules
  | _ => false
section
variable {K : PySem.W.Frag} {H : Hp}
theorem texts_of : ∀ {vs : List Value} {xs : List Str}, textsB vs xs = true → Vals (xs.map V.str) vs
  | [], [], _ => .nil
  | [], _ :: _, h => by cases h
  | v :: vs, [], h => by cases v <;> cases h
  | v :: vs, x :: xs, h => by
    cases v with
    | str y t =>
      unfold textsB at h
      rw [Bool.and_eq_true] at h; rw [decide_eq_true_eq] at h
      exact .cons ⟨t, by rw [h.1]⟩ (texts_of h.2)
    | _ => cases h
theorem tup_of {a : Addr} {vs : List Value} (h : tupB K a = some vs) {xs : List V} (hv : Vals xs vs) : SqT K H a xs := by
  unfold tupB at h
  split at h
  · rename_i o hl
    split at h
    · rename_i t its n hc hd
      split at h
      · rename_i c
        cases h
        exact .inr ⟨o, its, n, hl, by rw [hc, c.1], hd, c.2, hv⟩
      · cases h
    · cases h
  · cases h
theorem strs_of {a : Addr} {xs : List Str} (h : strsB K a xs = true) : SqT K H a (xs.map V.str) := by
  unfold strsB at h
  cases e : tupB K a with
  | none => rw [e] at h; cases h
  | some vs =>
    rw [e] at h
    exact tup_of e (texts_of h)
theorem pairs_of : ∀ {vs : List Value} {ps : List (Str × Str)}, pairsB K vs ps = true → ∃ rs, Vals rs vs ∧ DpAll K H rs (ps.map fun p => .tuple [.str p.1, .str p.2])
  | [], [], _ => ⟨[], .nil, .nil⟩
  | [], _ :: _, h => by cases h
  | v :: vs, [], h => by cases v <;> cases h
  | v :: vs, p :: ps, h => by
    cases v with
    | ref b =>
      unfold pairsB at h
      rw [Bool.and_eq_true] at h
      obtain ⟨rs, h1, h2⟩ := pairs_of h.2
      exact ⟨.ref b :: rs, .cons rfl h1, .cons (.tup (strs_of h.1) (.cons (.str p.1) (.cons (.str p.2) .nil))) h2⟩
    | _ => cases h
theorem rules_at {a : Addr} (h : rulesB K a = true) : Dp K H (.ref a) rulesD := by
  unfold rulesB at h
  cases e : tupB K a with
  | none => rw [e] at h; cases h
  | some vs =>
    rw [e] at h
    obtain ⟨rs, h1, h2⟩ := pairs_of (H := H) h
    exact .tup (tup_of e h1) h2
end
/-! ### the defs that the top has written -/
theorem def_mk {K : PySem.W.Frag} {mg : Str → Option Value} {h : Heap} (KX : K.In h) (G : h.Ns mainGlobals mg) {x : Str} {ps : List Str} {st : Stmt} {f : Addr} {od an : Option Addr} {sl : Array (Option Value)} {oc kV dc pm cd ct : Value}
    (hb : ∀ (kV doc pm : Value) (an : Option Addr) (cdv ct : Value) (us : List Value), us.length = ps.length → bindArgs (PySem.W.fnOf x x (defArgs st) (defBody st) (defScope st) .none kV doc pm an cdv ct) ⟨us, []⟩ = pure (ps.zip us))
    (a : PySem.W.nsIn K mainGlobals x = some (some (.ref f))) (l : K.lookup f = some ⟨oc, od, .func (PySem.W.fnOf x x (defArgs st) (defBody st) (defScope st) .none kV dc pm an cd ct), sl⟩) (c : PySem.W.codeIn K cd x = true) (k : PySem.W.keepIn K (.ref f) = true) :
    ∃ f fd, Def K mg x ps st f fd := ⟨f, _, fun_mk l c k, (fun_mk l c k).binds hb, PySem.W.mg_of KX G a⟩
theorem hbWrapped (kV doc pm : Value) (an : Option Addr) (cdv ct : Value) (us : List Value) (hl : us.length = pWrapped.length) : bindArgs (PySem.W.fnOf "wrapped" "wrapped" (defArgs sWrapped) (defBody sWrapped) (defScope sWrapped) .none kV doc pm an cdv ct) ⟨us, []⟩ = pure (pWrapped.zip us) := match us, hl with | [_, _], _ => rfl
theorem hbSigned (kV doc pm : Value) (an : Option Addr) (cdv ct : Value) (us : List Value) (hl : us.length = pSigned.length) : bindArgs (PySem.W.fnOf "signed" "signed" (defArgs sSigned) (defBody sSigned) (defScope sSigned) .none kV doc pm an cdv ct) ⟨us, []⟩ = pure (pSigned.zip us) := match us, hl with | [_, _], _ => rfl
theorem hbQuotient (kV doc pm : Value) (an : Option Addr) (cdv ct : Value) (us : List Value) (hl : us.length = pQuotient.length) : bindArgs (PySem.W.fnOf "quotient" "quotient" (defArgs sQuotient) (defBody sQuotient) (defScope sQuotient) .none kV doc pm an cdv ct) ⟨us, []⟩ = pure (pQuotient.zip us) := match us, hl with | [_, _], _ => rfl
theorem hbDivided (kV doc pm : Value) (an : Option Addr) (cdv ct : Value) (us : List Value) (hl : us.length = pDivided.length) : bindArgs (PySem.W.fnOf "divided" "divided" (defArgs sDivided) (defBody sDivided) (defScope sDivided) .none kV doc pm an cdv ct) ⟨us, []⟩ = pure (pDivided.zip us) := match us, hl with | [_, _, _, _], _ => rfl
theorem hbShifted (kV doc pm : Value) (an : Option Addr) (cdv ct : Value) (us : List Value) (hl : us.length = pShifted.length) : bindArgs (PySem.W.fnOf "shifted" "shifted" (defArgs sShifted) (defBody sShifted) (defScope sShifted) .none kV doc pm an cdv ct) ⟨us, []⟩ = pure (pShifted.zip us) := match us, hl with | [_, _, _, _], _ => rfl
theorem hbBinTold (kV doc pm : Value) (an : Option Addr) (cdv ct : Value) (us : List Value) (hl : us.length = pBinTold.length) : bindArgs (PySem.W.fnOf "bin_told" "bin_told" (defArgs sBinTold) (defBody sBinTold) (defScope sBinTold) .none kV doc pm an cdv ct) ⟨us, []⟩ = pure (pBinTold.zip us) := match us, hl with | [_, _, _, _], _ => rfl
theorem hbCmpTold (kV doc pm : Value) (an : Option Addr) (cdv ct : Value) (us : List Value) (hl : us.length = pCmpTold.length) : bindArgs (PySem.W.fnOf "cmp_told" "cmp_told" (defArgs sCmpTold) (defBody sCmpTold) (defScope sCmpTold) .none kV doc pm an cdv ct) ⟨us, []⟩ = pure (pCmpTold.zip us) := match us, hl with | [_, _, _, _], _ => rfl
theorem hbCastTold (kV doc pm : Value) (an : Option Addr) (cdv ct : Value) (us : List Value) (hl : us.length = pCastTold.length) : bindArgs (PySem.W.fnOf "cast_told" "cast_told" (defArgs sCastTold) (defBody sCastTold) (defScope sCastTold) .none kV doc pm an cdv ct) ⟨us, []⟩ = pure (pCastTold.zip us) := match us, hl with | [_, _, _, _], _ => rfl
theorem hbIsPure (kV doc pm : Value) (an : Option Addr) (cdv ct : Value) (us : List Value) (hl : us.length = pIsPure.length) : bindArgs (PySem.W.fnOf "is_pure" "is_pure" (defArgs sIsPure) (defBody sIsPure) (defScope sIsPure) .none kV doc pm an cdv ct) ⟨us, []⟩ = pure (pIsPure.zip us) := match us, hl with | [_], _ => rfl
theorem hbFolded (kV doc pm : Value) (an : Option Addr) (cdv ct : Value) (us : List Value) (hl : us.length = pFolded.length) : bindArgs (PySem.W.fnOf "folded" "folded" (defArgs sFolded) (defBody sFolded) (defScope sFolded) .none kV doc pm an cdv ct) ⟨us, []⟩ = pure (pFolded.zip us) := match us, hl with | [_], _ => rfl
theorem hbLDraw (kV doc pm : Value) (an : Option Addr) (cdv ct : Value) (us : List Value) (hl : us.length = pLDraw.length) : bindArgs (PySem.W.fnOf "_law_draw" "_law_draw" (defArgs sLDraw) (defBody sLDraw) (defScope sLDraw) .none kV doc pm an cdv ct) ⟨us, []⟩ = pure (pLDraw.zip us) := match us, hl with | [_, _], _ => rfl
theorem hbLAny (kV doc pm : Value) (an : Option Addr) (cdv ct : Value) (us : List Value) (hl : us.length = pLAny.length) : bindArgs (PySem.W.fnOf "_law_any" "_law_any" (defArgs sLAny) (defBody sLAny) (defScope sLAny) .none kV doc pm an cdv ct) ⟨us, []⟩ = pure (pLAny.zip us) := match us, hl with | [_, _], _ => rfl
theorem hbLOf (kV doc pm : Value) (an : Option Addr) (cdv ct : Value) (us : List Value) (hl : us.length = pLOf.length) : bindArgs (PySem.W.fnOf "_law_of" "_law_of" (defArgs sLOf) (defBody sLOf) (defScope sLOf) .none kV doc pm an cdv ct) ⟨us, []⟩ = pure (pLOf.zip us) := match us, hl with | [_, _], _ => rfl
theorem hbLPower (kV doc pm : Value) (an : Option Addr) (cdv ct : Value) (us : List Value) (hl : us.length = pLPower.length) : bindArgs (PySem.W.fnOf "_law_power" "_law_power" (defArgs sLPower) (defBody sLPower) (defScope sLPower) .none kV doc pm an cdv ct) ⟨us, []⟩ = pure (pLPower.zip us) := match us, hl with | [_], _ => rfl
theorem hbLNumber (kV doc pm : Value) (an : Option Addr) (cdv ct : Value) (us : List Value) (hl : us.length = pLNumber.length) : bindArgs (PySem.W.fnOf "_law_number" "_law_number" (defArgs sLNumber) (defBody sLNumber) (defScope sLNumber) .none kV doc pm an cdv ct) ⟨us, []⟩ = pure (pLNumber.zip us) := match us, hl with | [_, _], _ => rfl
theorem hbLForm (kV doc pm : Value) (an : Option Addr) (cdv ct : Value) (us : List Value) (hl : us.length = pLForm.length) : bindArgs (PySem.W.fnOf "_law_form" "_law_form" (defArgs sLForm) (defBody sLForm) (defScope sLForm) .none kV doc pm an cdv ct) ⟨us, []⟩ = pure (pLForm.zip us) := match us, hl with | [_, _], _ => rfl
theorem hbLSigned (kV doc pm : Value) (an : Option Addr) (cdv ct : Value) (us : List Value) (hl : us.length = pLSigned.length) : bindArgs (PySem.W.fnOf "_law_signed" "_law_signed" (defArgs sLSigned) (defBody sLSigned) (defScope sLSigned) .none kV doc pm an cdv ct) ⟨us, []⟩ = pure (pLSigned.zip us) := match us, hl with | [_, _], _ => rfl
theorem hbLShift (kV doc pm : Value) (an : Option Addr) (cdv ct : Value) (us : List Value) (hl : us.length = pLShift.length) : bindArgs (PySem.W.fnOf "_law_shift" "_law_shift" (defArgs sLShift) (defBody sLShift) (defScope sLShift) .none kV doc pm an cdv ct) ⟨us, []⟩ = pure (pLShift.zip us) := match us, hl with | [_, _, _, _], _ => rfl
theorem hbLTold (kV doc pm : Value) (an : Option Addr) (cdv ct : Value) (us : List Value) (hl : us.length = pLTold.length) : bindArgs (PySem.W.fnOf "_law_told" "_law_told" (defArgs sLTold) (defBody sLTold) (defScope sLTold) .none kV doc pm an cdv ct) ⟨us, []⟩ = pure (pLTold.zip us) := match us, hl with | [_, _, _, _], _ => rfl
theorem hbLCompared (kV doc pm : Value) (an : Option Addr) (cdv ct : Value) (us : List Value) (hl : us.length = pLCompared.length) : bindArgs (PySem.W.fnOf "_law_compared" "_law_compared" (defArgs sLCompared) (defBody sLCompared) (defScope sLCompared) .none kV doc pm an cdv ct) ⟨us, []⟩ = pure (pLCompared.zip us) := match us, hl with | [_, _, _, _], _ => rfl
theorem hbLCast (kV doc pm : Value) (an : Option Addr) (cdv ct : Value) (us : List Value) (hl : us.length = pLCast.length) : bindArgs (PySem.W.fnOf "_law_cast" "_law_cast" (defArgs sLCast) (defBody sLCast) (defScope sLCast) .none kV doc pm an cdv ct) ⟨us, []⟩ = pure (pLCast.zip us) := match us, hl with | [_, _, _, _], _ => rfl
theorem hbLPure (kV doc pm : Value) (an : Option Addr) (cdv ct : Value) (us : List Value) (hl : us.length = pLPure.length) : bindArgs (PySem.W.fnOf "_law_pure" "_law_pure" (defArgs sLPure) (defBody sLPure) (defScope sLPure) .none kV doc pm an cdv ct) ⟨us, []⟩ = pure (pLPure.zip us) := match us, hl with | [_], _ => rfl
theorem hbLTable (kV doc pm : Value) (an : Option Addr) (cdv ct : Value) (us : List Value) (hl : us.length = pLTable.length) : bindArgs (PySem.W.fnOf "_law_table" "_law_table" (defArgs sLTable) (defBody sLTable) (defScope sLTable) .none kV doc pm an cdv ct) ⟨us, []⟩ = pure (pLTable.zip us) := match us, hl with | [], _ => rfl
theorem hbLRead (kV doc pm : Value) (an : Option Addr) (cdv ct : Value) (us : List Value) (hl : us.length = pLRead.length) : bindArgs (PySem.W.fnOf "_law_read" "_law_read" (defArgs sLRead) (defBody sLRead) (defScope sLRead) .none kV doc pm an cdv ct) ⟨us, []⟩ = pure (pLRead.zip us) := match us, hl with | [_], _ => rfl
theorem hbLMadeNumber (kV doc pm : Value) (an : Option Addr) (cdv ct : Value) (us : List Value) (hl : us.length = pLMadeNumber.length) : bindArgs (PySem.W.fnOf "_law_made_number" "_law_made_number" (defArgs sLMadeNumber) (defBody sLMadeNumber) (defScope sLMadeNumber) .none kV doc pm an cdv ct) ⟨us, []⟩ = pure (pLMadeNumber.zip us) := match us, hl with | [_, _, _], _ => rfl
theorem hbLOpDrawn (kV doc pm : Value) (an : Option Addr) (cdv ct : Value) (us : List Value) (hl : us.length = pLOpDrawn.length) : bindArgs (PySem.W.fnOf "_law_op_drawn" "_law_op_drawn" (defArgs sLOpDrawn) (defBody sLOpDrawn) (defScope sLOpDrawn) .none kV doc pm an cdv ct) ⟨us, []⟩ = pure (pLOpDrawn.zip us) := match us, hl with | [_], _ => rfl
theorem hbLFolded (kV doc pm : Value) (an : Option Addr) (cdv ct : Value) (us : List Value) (hl : us.length = pLFolded.length) : bindArgs (PySem.W.fnOf "_law_folded" "_law_folded" (defArgs sLFolded) (defBody sLFolded) (defScope sLFolded) .none kV doc pm an cdv ct) ⟨us, []⟩ = pure (pLFolded.zip us) := match us, hl with | [_], _ => rfl
theorem hbLLettersWidth (kV doc pm : Value) (an : Option Addr) (cdv ct : Value) (us : List Value) (hl : us.length = pLLettersWidth.length) : bindArgs (PySem.W.fnOf "_law_letters_width" "_law_letters_width" (defArgs sLLettersWidth) (defBody sLLettersWidth) (defScope sLLettersWidth) .none kV doc pm an cdv ct) ⟨us, []⟩ = pure (pLLettersWidth.zip us) := match us, hl with | [_, _], _ => rfl
theorem hbLSide (kV doc pm : Value) (an : Option Addr) (cdv ct : Value) (us : List Value) (hl : us.length = pLSide.length) : bindArgs (PySem.W.fnOf "_law_side" "_law_side" (defArgs sLSide) (defBody sLSide) (defScope sLSide) .none kV doc pm an cdv ct) ⟨us, []⟩ = pure (pLSide.zip us) := match us, hl with | [_, _, _, _], _ => rfl
theorem hbLLettersDrawn (kV doc pm : Value) (an : Option Addr) (cdv ct : Value) (us : List Value) (hl : us.length = pLLettersDrawn.length) : bindArgs (PySem.W.fnOf "_law_letters_drawn" "_law_letters_drawn" (defArgs sLLettersDrawn) (defBody sLLettersDrawn) (defScope sLLettersDrawn) .none kV doc pm an cdv ct) ⟨us, []⟩ = pure (pLLettersDrawn.zip us) := match us, hl with | [_, _, _], _ => rfl
theorem hbLOpsRight (kV doc pm : Value) (an : Option Addr) (cdv ct : Value) (us : List Value) (hl : us.length = pLOpsRight.length) : bindArgs (PySem.W.fnOf "_law_ops_right" "_law_ops_right" (defArgs sLOpsRight) (defBody sLOpsRight) (defScope sLOpsRight) .none kV doc pm an cdv ct) ⟨us, []⟩ = pure (pLOpsRight.zip us) := match us, hl with | [_], _ => rfl
theorem hbLaw (kV doc pm : Value) (an : Option Addr) (cdv ct : Value) (us : List Value) (hl : us.length = pLaw.length) : bindArgs (PySem.W.fnOf "law" "law" (defArgs sLaw) (defBody sLaw) (defScope sLaw) .none kV doc pm an cdv ct) ⟨us, []⟩ = pure (pLaw.zip us) := match us, hl with | [_], _ => rfl
theorem all_ok {P : Program} {w : World} {K : PySem.W.Frag} {mg : Str → Option Value} {fa : Addr}
    (DWrapped : ∃ f fd, Def K mg "wrapped" pWrapped sWrapped f fd)
    (DSigned : ∃ f fd, Def K mg "signed" pSigned sSigned f fd)
    (DQuotient : ∃ f fd, Def K mg "quotient" pQuotient sQuotient f fd)
    (DDivided : ∃ f fd, Def K mg "divided" pDivided sDivided f fd)
    (DShifted : ∃ f fd, Def K mg "shifted" pShifted sShifted f fd)
    (DBinTold : ∃ f fd, Def K mg "bin_told" pBinTold sBinTold f fd)
    (DCmpTold : ∃ f fd, Def K mg "cmp_told" pCmpTold sCmpTold f fd)
    (DCastTold : ∃ f fd, Def K mg "cast_told" pCastTold sCastTold f fd)
    (DIsPure : ∃ f fd, Def K mg "is_pure" pIsPure sIsPure f fd)
    (DFolded : ∃ f fd, Def K mg "folded" pFolded sFolded f fd)
    (DLDraw : ∃ f fd, Def K mg "_law_draw" pLDraw sLDraw f fd)
    (DLAny : ∃ f fd, Def K mg "_law_any" pLAny sLAny f fd)
    (DLOf : ∃ f fd, Def K mg "_law_of" pLOf sLOf f fd)
    (DLPower : ∃ f fd, Def K mg "_law_power" pLPower sLPower f fd)
    (DLNumber : ∃ f fd, Def K mg "_law_number" pLNumber sLNumber f fd)
    (DLForm : ∃ f fd, Def K mg "_law_form" pLForm sLForm f fd)
    (DLSigned : ∃ f fd, Def K mg "_law_signed" pLSigned sLSigned f fd)
    (DLShift : ∃ f fd, Def K mg "_law_shift" pLShift sLShift f fd)
    (DLTold : ∃ f fd, Def K mg "_law_told" pLTold sLTold f fd)
    (DLCompared : ∃ f fd, Def K mg "_law_compared" pLCompared sLCompared f fd)
    (DLCast : ∃ f fd, Def K mg "_law_cast" pLCast sLCast f fd)
    (DLPure : ∃ f fd, Def K mg "_law_pure" pLPure sLPure f fd)
    (DLTable : ∃ f fd, Def K mg "_law_table" pLTable sLTable f fd)
    (DLRead : ∃ f fd, Def K mg "_law_read" pLRead sLRead f fd)
    (DLMadeNumber : ∃ f fd, Def K mg "_law_made_number" pLMadeNumber sLMadeNumber f fd)
    (DLOpDrawn : ∃ f fd, Def K mg "_law_op_drawn" pLOpDrawn sLOpDrawn f fd)
    (DLFolded : ∃ f fd, Def K mg "_law_folded" pLFolded sLFolded f fd)
    (DLLettersWidth : ∃ f fd, Def K mg "_law_letters_width" pLLettersWidth sLLettersWidth f fd)
    (DLSide : ∃ f fd, Def K mg "_law_side" pLSide sLSide f fd)
    (DLLettersDrawn : ∃ f fd, Def K mg "_law_letters_drawn" pLLettersDrawn sLLettersDrawn f fd)
    (DLOpsRight : ∃ f fd, Def K mg "_law_ops_right" pLOpsRight sLOpsRight f fd)
    (DLaw : ∃ f fd, Def K mg "law" pLaw sLaw f fd)
    (m_abs : mg "abs" = none)
    (m_int : mg "int" = none)
    (m_len : mg "len" = none)
    (m_all : mg "all" = none)
    (m_range : mg "range" = none)
    (m_tuple : mg "tuple" = none)
    (m_repr : mg "repr" = none)
    (m_enumerate : mg "enumerate" = none)
    (g_DIVISIONS_numbers : ∃ a, mg "DIVISIONS_numbers" = some (.ref a) ∧ ∀ H, SqT K H a divV)
    (g_DIVISIONS_pureness : ∃ a, mg "DIVISIONS_pureness" = some (.ref a) ∧ ∀ H, SqT K H a divV)
    (g_RULES : ∃ a, mg "RULES" = some (.ref a) ∧ ∀ H, Dp K H (.ref a) rulesD)
    (hfa : mg "law" = some (.ref fa)) :
    ∃ fd : FuncData, (∀ s u, BindsTo s fd ⟨[u], []⟩ [("_law_script", u)]) ∧ ∀ base : Heap, TopOk P w K mg base fa fd "_law_script" (spLaw K) := by
  obtain ⟨f_wrapped, fd_wrapped, DWrapped⟩ := DWrapped
  obtain ⟨f_signed, fd_signed, DSigned⟩ := DSigned
  obtain ⟨f_quotient, fd_quotient, DQuotient⟩ := DQuotient
  obtain ⟨f_divided, fd_divided, DDivided⟩ := DDivided
  obtain ⟨f_shifted, fd_shifted, DShifted⟩ := DShifted
  obtain ⟨f_bin_told, fd_bin_told, DBinTold⟩ := DBinTold
  obtain ⟨f_cmp_told, fd_cmp_told, DCmpTold⟩ := DCmpTold
  obtain ⟨f_cast_told, fd_cast_told, DCastTold⟩ := DCastTold
  obtain ⟨f_is_pure, fd_is_pure, DIsPure⟩ := DIsPure
  obtain ⟨f_folded, fd_folded, DFolded⟩ := DFolded
  obtain ⟨f__law_draw, fd__law_draw, DLDraw⟩ := DLDraw
  obtain ⟨f__law_any, fd__law_any, DLAny⟩ := DLAny
  obtain ⟨f__law_of, fd__law_of, DLOf⟩ := DLOf
  obtain ⟨f__law_power, fd__law_power, DLPower⟩ := DLPower
  obtain ⟨f__law_number, fd__law_number, DLNumber⟩ := DLNumber
  obtain ⟨f__law_form, fd__law_form, DLForm⟩ := DLForm
  obtain ⟨f__law_signed, fd__law_signed, DLSigned⟩ := DLSigned
  obtain ⟨f__law_shift, fd__law_shift, DLShift⟩ := DLShift
  obtain ⟨f__law_told, fd__law_told, DLTold⟩ := DLTold
  obtain ⟨f__law_compared, fd__law_compared, DLCompared⟩ := DLCompared
  obtain ⟨f__law_cast, fd__law_cast, DLCast⟩ := DLCast
  obtain ⟨f__law_pure, fd__law_pure, DLPure⟩ := DLPure
  obtain ⟨f__law_table, fd__law_table, DLTable⟩ := DLTable
  obtain ⟨f__law_read, fd__law_read, DLRead⟩ := DLRead
  obtain ⟨f__law_made_number, fd__law_made_number, DLMadeNumber⟩ := DLMadeNumber
  obtain ⟨f__law_op_drawn, fd__law_op_drawn, DLOpDrawn⟩ := DLOpDrawn
  obtain ⟨f__law_folded, fd__law_folded, DLFolded⟩ := DLFolded
  obtain ⟨f__law_letters_width, fd__law_letters_width, DLLettersWidth⟩ := DLLettersWidth
  obtain ⟨f__law_side, fd__law_side, DLSide⟩ := DLSide
  obtain ⟨f__law_letters_drawn, fd__law_letters_drawn, DLLettersDrawn⟩ := DLLettersDrawn
  obtain ⟨f__law_ops_right, fd__law_ops_right, DLOpsRight⟩ := DLOpsRight
  obtain ⟨f_law, fd_law, DLaw⟩ := DLaw
  obtain ⟨a_DIVISIONS_numbers, m_DIVISIONS_numbers, h_DIVISIONS_numbers⟩ := g_DIVISIONS_numbers
  obtain ⟨a_DIVISIONS_pureness, m_DIVISIONS_pureness, h_DIVISIONS_pureness⟩ := g_DIVISIONS_pureness
  obtain ⟨a_RULES, m_RULES, h_RULES⟩ := g_RULES
  obtain rfl : f_law = fa := by
    have e := DLaw.m.symm.trans hfa
    cases e
    rfl
  refine ⟨fd_law, fun s u => ?_, fun base => ?_⟩
  · obtain ⟨oc, od, kV, doc, pm, an, cdv, ct, osl, rfl, look, code⟩ := DLaw.F.ex
    exact .of_eq (hbLaw kV doc pm an cdv ct [u] rfl)
  have C_wrapped := ok_wrapped (P := P) (w := w) (base := base) DWrapped
  have C_signed := ok_signed (P := P) (w := w) (base := base) DSigned
  have C_quotient := ok_quotient (P := P) (w := w) (base := base) DQuotient m_abs
  have C_divided := ok_divided (P := P) (w := w) (base := base) DDivided C_wrapped C_signed C_quotient
  have C_shifted := ok_shifted (P := P) (w := w) (base := base) DShifted C_wrapped C_signed
  have C_bin_told := ok_bin (P := P) (w := w) (base := base) DBinTold m_DIVISIONS_numbers h_DIVISIONS_numbers C_wrapped C_divided C_shifted
  have C_cmp_told := ok_cmp (P := P) (w := w) (base := base) DCmpTold C_signed
  have C_cast_told := ok_cast (P := P) (w := w) (base := base) DCastTold C_wrapped C_signed
  have C__law_power := ok_power (P := P) (w := w) (base := base) DLPower
  have C__law_signed := ok_lsigned (P := P) (w := w) (base := base) DLSigned C__law_power
  have C__law_shift := ok_shift (P := P) (w := w) (base := base) DLShift C__law_power C__law_signed
  have C__law_cast := ok_lcast (P := P) (w := w) (base := base) DLCast C__law_power C__law_signed m_int
  have C__law_compared := ok_compared (P := P) (w := w) (base := base) DLCompared C__law_signed
  have C__law_told := ok_ltold (P := P) (w := w) (base := base) DLTold C__law_power C__law_signed C__law_shift m_int m_abs
  have C__law_any := ok_any (P := P) (w := w) (base := base) DLAny m_int
  have C__law_of := ok_of (P := P) (w := w) (base := base) DLOf C__law_any m_len
  have C__law_number := ok_number (P := P) (w := w) (base := base) DLNumber C__law_any C__law_of C__law_power m_int
  have C__law_draw := ok_draw (P := P) (w := w) (base := base) DLDraw m_int m_abs
  have C__law_pure := ok_lpure (P := P) (w := w) (base := base) DLPure
  have F_is_pure := fn_is_pure (P := P) (w := w) (base := base) DIsPure m_DIVISIONS_pureness h_DIVISIONS_pureness
  have C_is_pure := DIsPure.cal F_is_pure
  have K_is_pure : CalK P w K mg base 1 "is_pure" pIsPure (spPure K) := ⟨f_is_pure, fd_is_pure, F_is_pure, kb_one DIsPure.F (fun _ _ _ _ _ _ _ => rfl) (fun _ _ _ _ _ _ _ => rfl), DIsPure.F.kp, DIsPure.m⟩
  have F_folded := fn_folded (P := P) (w := w) (base := base) DFolded C_is_pure C_bin_told C_cmp_told C_cast_told m_all
  have C_folded := DFolded.cal F_folded
  have K_folded : CalK P w K mg base 4 "folded" pFolded (spFold K) := ⟨f_folded, fd_folded, F_folded, kb_one DFolded.F (fun _ _ _ _ _ _ _ => rfl) (fun _ _ _ _ _ _ _ => rfl), DFolded.F.kp, DFolded.m⟩
  have C__law_folded := ok_lfolded (P := P) (w := w) (base := base) DLFolded C__law_pure C__law_told C__law_compared C__law_cast
  have C__law_form := ok_form (P := P) (w := w) (base := base) DLForm C__law_any C__law_of
  have C__law_op_drawn := ok_op_drawn (P := P) (w := w) (base := base) DLOpDrawn C__law_any C__law_of C__law_number C__law_form m_tuple
  have C__law_ops_right := ok_ops (P := P) (w := w) (base := base) DLOpsRight C__law_op_drawn C_is_pure K_is_pure C_folded K_folded C__law_pure C__law_folded m_range m_repr
  have C__law_table := ok_table (P := P) (w := w) (base := base) DLTable m_tuple
  have C__law_read := ok_read (P := P) (w := w) (base := base) DLRead m_range
  have C__law_made_number := DLMadeNumber.cal (ok_num (P := P) (w := w) (base := base) DLMadeNumber C__law_told C__law_power m_int m_range 6)
  have C__law_letters_width := ok_lw (P := P) (w := w) (base := base) DLLettersWidth
  have C__law_side := DLSide.cal (ok_side (P := P) (w := w) (base := base) DLSide C__law_made_number C__law_told C__law_cast C__law_compared C__law_letters_width m_enumerate 5)
  have C__law_letters_drawn := ok_letters (P := P) (w := w) (base := base) DLLettersDrawn C__law_any C__law_of C__law_power C__law_number
  exact ok_law DLaw m_RULES h_RULES m_repr m_tuple m_range C__law_draw C__law_table C__law_ops_right C__law_of C__law_letters_drawn C__law_read C__law_side

theorem all_mk {P : Program} {w : World} {K : PySem.W.Frag} {mg : Str → Option Value} {h : Heap} {fa : Addr} (KX : K.In h) (G : h.Ns mainGlobals mg) (hfa : mg "law" = some (.ref fa))
    (DWrapped : ∃ f fd, Def K mg "wrapped" pWrapped sWrapped f fd)
    (DSigned : ∃ f fd, Def K mg "signed" pSigned sSigned f fd)
    (DQuotient : ∃ f fd, Def K mg "quotient" pQuotient sQuotient f fd)
    (DDivided : ∃ f fd, Def K mg "divided" pDivided sDivided f fd)
    (DShifted : ∃ f fd, Def K mg "shifted" pShifted sShifted f fd)
    (DBinTold : ∃ f fd, Def K mg "bin_told" pBinTold sBinTold f fd)
    (DCmpTold : ∃ f fd, Def K mg "cmp_told" pCmpTold sCmpTold f fd)
    (DCastTold : ∃ f fd, Def K mg "cast_told" pCastTold sCastTold f fd)
    (DIsPure : ∃ f fd, Def K mg "is_pure" pIsPure sIsPure f fd)
    (DFolded : ∃ f fd, Def K mg "folded" pFolded sFolded f fd)
    (DLDraw : ∃ f fd, Def K mg "_law_draw" pLDraw sLDraw f fd)
    (DLAny : ∃ f fd, Def K mg "_law_any" pLAny sLAny f fd)
    (DLOf : ∃ f fd, Def K mg "_law_of" pLOf sLOf f fd)
    (DLPower : ∃ f fd, Def K mg "_law_power" pLPower sLPower f fd)
    (DLNumber : ∃ f fd, Def K mg "_law_number" pLNumber sLNumber f fd)
    (DLForm : ∃ f fd, Def K mg "_law_form" pLForm sLForm f fd)
    (DLSigned : ∃ f fd, Def K mg "_law_signed" pLSigned sLSigned f fd)
    (DLShift : ∃ f fd, Def K mg "_law_shift" pLShift sLShift f fd)
    (DLTold : ∃ f fd, Def K mg "_law_told" pLTold sLTold f fd)
    (DLCompared : ∃ f fd, Def K mg "_law_compared" pLCompared sLCompared f fd)
    (DLCast : ∃ f fd, Def K mg "_law_cast" pLCast sLCast f fd)
    (DLPure : ∃ f fd, Def K mg "_law_pure" pLPure sLPure f fd)
    (DLTable : ∃ f fd, Def K mg "_law_table" pLTable sLTable f fd)
    (DLRead : ∃ f fd, Def K mg "_law_read" pLRead sLRead f fd)
    (DLMadeNumber : ∃ f fd, Def K mg "_law_made_number" pLMadeNumber sLMadeNumber f fd)
    (DLOpDrawn : ∃ f fd, Def K mg "_law_op_drawn" pLOpDrawn sLOpDrawn f fd)
    (DLFolded : ∃ f fd, Def K mg "_law_folded" pLFolded sLFolded f fd)
    (DLLettersWidth : ∃ f fd, Def K mg "_law_letters_width" pLLettersWidth sLLettersWidth f fd)
    (DLSide : ∃ f fd, Def K mg "_law_side" pLSide sLSide f fd)
    (DLLettersDrawn : ∃ f fd, Def K mg "_law_letters_drawn" pLLettersDrawn sLLettersDrawn f fd)
    (DLOpsRight : ∃ f fd, Def K mg "_law_ops_right" pLOpsRight sLOpsRight f fd)
    (DLaw : ∃ f fd, Def K mg "law" pLaw sLaw f fd)
    (m_abs : mg "abs" = none)
    (m_int : mg "int" = none)
    (m_len : mg "len" = none)
    (m_all : mg "all" = none)
    (m_range : mg "range" = none)
    (m_tuple : mg "tuple" = none)
    (m_repr : mg "repr" = none)
    (m_enumerate : mg "enumerate" = none)
    (g_DIVISIONS_numbers : ∃ a, mg "DIVISIONS_numbers" = some (.ref a) ∧ ∀ H, SqT K H a divV)
    (g_DIVISIONS_pureness : ∃ a, mg "DIVISIONS_pureness" = some (.ref a) ∧ ∀ H, SqT K H a divV)
    (g_RULES : ∃ a, mg "RULES" = some (.ref a) ∧ ∀ H, Dp K H (.ref a) rulesD) :
    ∃ fd : FuncData, (∀ s u, BindsTo s fd ⟨[u], []⟩ [("_law_script", u)]) ∧ ∀ base : Heap, K.In base → base.Ns mainGlobals mg → TopOk P w K mg base fa fd "_law_script" (spLaw K) := by
  obtain ⟨fd, h1, h2⟩ := all_ok (P := P) (w := w) DWrapped DSigned DQuotient DDivided DShifted DBinTold DCmpTold DCastTold DIsPure DFolded DLDraw DLAny DLOf DLPower DLNumber DLForm DLSigned DLShift DLTold DLCompared DLCast DLPure DLTable DLRead DLMadeNumber DLOpDrawn DLFolded DLLettersWidth DLSide DLLettersDrawn DLOpsRight DLaw m_abs m_int m_len m_all m_range m_tuple m_repr m_enumerate g_DIVISIONS_numbers g_DIVISIONS_pureness g_RULES hfa
  exact ⟨fd, h1, fun base _ _ => h2 base⟩
end K25

open PySem PySem.W PyProof.Rows in
set_option maxRecDepth 100000 in
set_option maxHeartbeats 0 in
theorem PySem.Challenge.cw_anypasses_k25_whole_pure_ops_and_rules_h_holds : PySem.Challenge.rw_anypasses_k25_whole_pure_ops_and_rules_h.Holds := by
  w_on; o_law; k_head; (case hw => w_witness2)
  k_fill
  refine K25.top_walk (n := 63) (x := "_law_script") (sp := K25.spLaw) rfl (by decide) rfl (fun w h Y => PySem.W.kIn_of Y) ?F (fun K H a ns hl hs => ⟨a, ns, rfl, hs, hl, fun _ => rfl⟩)
  case F =>
    intro w mg fa h KX G hmg
    refine' K25.all_mk KX G hmg ?DWrapped ?DSigned ?DQuotient ?DDivided ?DShifted ?DBinTold ?DCmpTold ?DCastTold ?DIsPure ?DFolded ?DLDraw ?DLAny ?DLOf ?DLPower ?DLNumber ?DLForm ?DLSigned ?DLShift ?DLTold ?DLCompared ?DLCast ?DLPure ?DLTable ?DLRead ?DLMadeNumber ?DLOpDrawn ?DLFolded ?DLLettersWidth ?DLSide ?DLLettersDrawn ?DLOpsRight ?DLaw ?m_abs ?m_int ?m_len ?m_all ?m_range ?m_tuple ?m_repr ?m_enumerate ?g_DIVISIONS_numbers ?g_DIVISIONS_pureness ?g_RULES
    case DWrapped =>
      refine' K25.def_mk KX G K25.hbWrapped ?a ?l ?c ?k
      (case a => k_is)
      (case l => k_is)
      (case c => k_is)
      (case k => k_is)
    case DSigned =>
      refine' K25.def_mk KX G K25.hbSigned ?a ?l ?c ?k
      (case a => k_is)
      (case l => k_is)
      (case c => k_is)
      (case k => k_is)
    case DQuotient =>
      refine' K25.def_mk KX G K25.hbQuotient ?a ?l ?c ?k
      (case a => k_is)
      (case l => k_is)
      (case c => k_is)
      (case k => k_is)
    case DDivided =>
      refine' K25.def_mk KX G K25.hbDivided ?a ?l ?c ?k
      (case a => k_is)
      (case l => k_is)
      (case c => k_is)
      (case k => k_is)
    case DShifted =>
      refine' K25.def_mk KX G K25.hbShifted ?a ?l ?c ?k
      (case a => k_is)
      (case l => k_is)
      (case c => k_is)
      (case k => k_is)
    case DBinTold =>
      refine' K25.def_mk KX G K25.hbBinTold ?a ?l ?c ?k
      (case a => k_is)
      (case l => k_is)
      (case c => k_is)
      (case k => k_is)
    case DCmpTold =>
      refine' K25.def_mk KX G K25.hbCmpTold ?a ?l ?c ?k
      (case a => k_is)
      (case l => k_is)
      (case c => k_is)
      (case k => k_is)
    case DCastTold =>
      refine' K25.def_mk KX G K25.hbCastTold ?a ?l ?c ?k
      (case a => k_is)
      (case l => k_is)
      (case c => k_is)
      (case k => k_is)
    case DIsPure =>
      refine' K25.def_mk KX G K25.hbIsPure ?a ?l ?c ?k
      (case a => k_is)
      (case l => k_is)
      (case c => k_is)
      (case k => k_is)
    case DFolded =>
      refine' K25.def_mk KX G K25.hbFolded ?a ?l ?c ?k
      (case a => k_is)
      (case l => k_is)
      (case c => k_is)
      (case k => k_is)
    case DLDraw =>
      refine' K25.def_mk KX G K25.hbLDraw ?a ?l ?c ?k
      (case a => k_is)
      (case l => k_is)
      (case c => k_is)
      (case k => k_is)
    case DLAny =>
      refine' K25.def_mk KX G K25.hbLAny ?a ?l ?c ?k
      (case a => k_is)
      (case l => k_is)
      (case c => k_is)
      (case k => k_is)
    case DLOf =>
      refine' K25.def_mk KX G K25.hbLOf ?a ?l ?c ?k
      (case a => k_is)
      (case l => k_is)
      (case c => k_is)
      (case k => k_is)
    case DLPower =>
      refine' K25.def_mk KX G K25.hbLPower ?a ?l ?c ?k
      (case a => k_is)
      (case l => k_is)
      (case c => k_is)
      (case k => k_is)
    case DLNumber =>
      refine' K25.def_mk KX G K25.hbLNumber ?a ?l ?c ?k
      (case a => k_is)
      (case l => k_is)
      (case c => k_is)
      (case k => k_is)
    case DLForm =>
      refine' K25.def_mk KX G K25.hbLForm ?a ?l ?c ?k
      (case a => k_is)
      (case l => k_is)
      (case c => k_is)
      (case k => k_is)
    case DLSigned =>
      refine' K25.def_mk KX G K25.hbLSigned ?a ?l ?c ?k
      (case a => k_is)
      (case l => k_is)
      (case c => k_is)
      (case k => k_is)
    case DLShift =>
      refine' K25.def_mk KX G K25.hbLShift ?a ?l ?c ?k
      (case a => k_is)
      (case l => k_is)
      (case c => k_is)
      (case k => k_is)
    case DLTold =>
      refine' K25.def_mk KX G K25.hbLTold ?a ?l ?c ?k
      (case a => k_is)
      (case l => k_is)
      (case c => k_is)
      (case k => k_is)
    case DLCompared =>
      refine' K25.def_mk KX G K25.hbLCompared ?a ?l ?c ?k
      (case a => k_is)
      (case l => k_is)
      (case c => k_is)
      (case k => k_is)
    case DLCast =>
      refine' K25.def_mk KX G K25.hbLCast ?a ?l ?c ?k
      (case a => k_is)
      (case l => k_is)
      (case c => k_is)
      (case k => k_is)
    case DLPure =>
      refine' K25.def_mk KX G K25.hbLPure ?a ?l ?c ?k
      (case a => k_is)
      (case l => k_is)
      (case c => k_is)
      (case k => k_is)
    case DLTable =>
      refine' K25.def_mk KX G K25.hbLTable ?a ?l ?c ?k
      (case a => k_is)
      (case l => k_is)
      (case c => k_is)
      (case k => k_is)
    case DLRead =>
      refine' K25.def_mk KX G K25.hbLRead ?a ?l ?c ?k
      (case a => k_is)
      (case l => k_is)
      (case c => k_is)
      (case k => k_is)
    case DLMadeNumber =>
      refine' K25.def_mk KX G K25.hbLMadeNumber ?a ?l ?c ?k
      (case a => k_is)
      (case l => k_is)
      (case c => k_is)
      (case k => k_is)
    case DLOpDrawn =>
      refine' K25.def_mk KX G K25.hbLOpDrawn ?a ?l ?c ?k
      (case a => k_is)
      (case l => k_is)
      (case c => k_is)
      (case k => k_is)
    case DLFolded =>
      refine' K25.def_mk KX G K25.hbLFolded ?a ?l ?c ?k
      (case a => k_is)
      (case l => k_is)
      (case c => k_is)
      (case k => k_is)
    case DLLettersWidth =>
      refine' K25.def_mk KX G K25.hbLLettersWidth ?a ?l ?c ?k
      (case a => k_is)
      (case l => k_is)
      (case c => k_is)
      (case k => k_is)
    case DLSide =>
      refine' K25.def_mk KX G K25.hbLSide ?a ?l ?c ?k
      (case a => k_is)
      (case l => k_is)
      (case c => k_is)
      (case k => k_is)
    case DLLettersDrawn =>
      refine' K25.def_mk KX G K25.hbLLettersDrawn ?a ?l ?c ?k
      (case a => k_is)
      (case l => k_is)
      (case c => k_is)
      (case k => k_is)
    case DLOpsRight =>
      refine' K25.def_mk KX G K25.hbLOpsRight ?a ?l ?c ?k
      (case a => k_is)
      (case l => k_is)
      (case c => k_is)
      (case k => k_is)
    case DLaw =>
      refine' K25.def_mk KX G K25.hbLaw ?a ?l ?c ?k
      (case a => k_is)
      (case l => k_is)
      (case c => k_is)
      (case k => k_is)
    case m_abs =>
      refine PySem.W.mg_none_of KX G ?a
      (case a => k_is)
    case m_int =>
      refine PySem.W.mg_none_of KX G ?a
      (case a => k_is)
    case m_len =>
      refine PySem.W.mg_none_of KX G ?a
      (case a => k_is)
    case m_all =>
      refine PySem.W.mg_none_of KX G ?a
      (case a => k_is)
    case m_range =>
      refine PySem.W.mg_none_of KX G ?a
      (case a => k_is)
    case m_tuple =>
      refine PySem.W.mg_none_of KX G ?a
      (case a => k_is)
    case m_repr =>
      refine PySem.W.mg_none_of KX G ?a
      (case a => k_is)
    case m_enumerate =>
      refine PySem.W.mg_none_of KX G ?a
      (case a => k_is)
    case g_DIVISIONS_numbers =>
      refine' ⟨_, PySem.W.mg_of KX G ?a, fun H => K25.strs_of (xs := ["udiv", "sdiv", "urem", "srem"]) ?b⟩
      (case a => k_is)
      (case b => kernel_rfl)
    case g_DIVISIONS_pureness =>
      refine' ⟨_, PySem.W.mg_of KX G ?a, fun H => K25.strs_of (xs := ["udiv", "sdiv", "urem", "srem"]) ?b⟩
      (case a => k_is)
      (case b => kernel_rfl)
    case g_RULES =>
      refine' ⟨_, PySem.W.mg_of KX G ?a, fun H => K25.rules_at ?b⟩
      (case a => k_is)
      (case b => kernel_rfl)

