import PyProof.Rows.All
import Wide.All
import OpenK.AllK
import Wide.FinOn
import PySem.Challenge.RW_faxhouse_k10_whole_relays_judged
import HandS.ForMost
import HandS.ForExc
import HandS.Conv
import HandS.TupAny
import HandS.TupMul
import HandS.SortInts
import HandS.SortKw
import HandS.IsInst
import HandS.Walk
import HandS.Zip
import HandS.Style
import HandS.TryMany
import HandS.ExcInit
import HandS.RaiseMore
import HandS.Wide
import HandS.Lambda
import HandS.EndTab
import HandS.HeadHook4
import HandS.HeadWalk
import HandS.Head2
import KE.KExcSuper
import KE.SortKeyHeap
import KE.GoesZip
import KE.GoesEnum
import KE.GoesMore
import KE.KSortedM
import HandS.Defaults
import HandS.HeadHook1
import HandS.HeadHook2
import HandS.HeadHook3
set_option Elab.async false
set_option linter.all false
set_option maxRecDepth 100000
set_option maxHeartbeats 4000000
namespace K10
open PySem PySem.Spec PyProof.Rows L2
def topS (i : Nat) : Stmt := PySem.Challenge.pw_faxhouse_k10_whole_relays_judged.main.body.getD i (.Pass ⟨0, 0, 0, 0⟩)
abbrev s_is_whole : Stmt := topS 5
abbrev s_need_tree : Stmt := topS 8
abbrev s_called_by : Stmt := topS 9
abbrev s_needs_of : Stmt := topS 10
abbrev s_least_time : Stmt := topS 11
abbrev s_is_order : Stmt := topS 12
abbrev s_time_in : Stmt := topS 13
abbrev s_time_of : Stmt := topS 14
abbrev s_order_in : Stmt := topS 15
abbrev s_order : Stmt := topS 16
abbrev s_picks_of : Stmt := topS 17
abbrev s_relay_paper : Stmt := topS 18
abbrev s_are_picks : Stmt := topS 19
abbrev s_need_by : Stmt := topS 20
abbrev s_check_relay : Stmt := topS 21
abbrev s_L_begun : Stmt := topS 23
abbrev s_L_next : Stmt := topS 24
abbrev s_L_tree : Stmt := topS 25
abbrev s_L_called : Stmt := topS 26
abbrev s_L_time : Stmt := topS 27
abbrev s_L_is_whole : Stmt := topS 28
abbrev s_L_is_order : Stmt := topS 29
abbrev s_L_need : Stmt := topS 30
abbrev s_L_due : Stmt := topS 31
abbrev s_L_outcome : Stmt := topS 32
abbrev s_L_bent : Stmt := topS 33
abbrev s_L_refused_right : Stmt := topS 34
abbrev s_Law : Stmt := topS 35
abbrev n_is_whole : List Str := ["thing", "least", "most"]
theorem sc_is_whole : FnScope n_is_whole ["thing", "least", "most"] (defScope s_is_whole) := ⟨rfl, rfl, rfl, by decide +kernel, rfl, by decide +kernel, by decide +kernel⟩
abbrev n_need_tree : List Str := ["thing", "number", "caller"]
theorem sc_need_tree : FnScope n_need_tree ["thing"] (defScope s_need_tree) := ⟨rfl, rfl, rfl, by decide +kernel, rfl, by decide +kernel, by decide +kernel⟩
abbrev n_called_by : List Str := ["tree", "found", "number", "caller"]
theorem sc_called_by : FnScope n_called_by ["tree"] (defScope s_called_by) := ⟨rfl, rfl, rfl, by decide +kernel, rfl, by decide +kernel, by decide +kernel⟩
abbrev n_needs_of : List Str := ["tree", "found", "calls", "number", "some", "one", "turn", "need"]
theorem sc_needs_of : FnScope n_needs_of ["tree"] (defScope s_needs_of) := ⟨rfl, rfl, rfl, by decide +kernel, rfl, by decide +kernel, by decide +kernel⟩
abbrev n_least_time : List Str := ["tree"]
theorem sc_least_time : FnScope n_least_time ["tree"] (defScope s_least_time) := ⟨rfl, rfl, rfl, by decide +kernel, rfl, by decide +kernel, by decide +kernel⟩
abbrev n_is_order : List Str := ["tree", "thing", "some", "due", "one"]
theorem sc_is_order : FnScope n_is_order ["tree", "thing"] (defScope s_is_order) := ⟨rfl, rfl, rfl, by decide +kernel, rfl, by decide +kernel, by decide +kernel⟩
abbrev n_time_in : List Str := ["tree", "order", "moments", "number", "some", "turn", "one"]
theorem sc_time_in : FnScope n_time_in ["tree", "order"] (defScope s_time_in) := ⟨rfl, rfl, rfl, by decide +kernel, rfl, by decide +kernel, by decide +kernel⟩
abbrev n_time_of : List Str := ["tree", "order"]
theorem sc_time_of : FnScope n_time_of ["tree", "order"] (defScope s_time_of) := ⟨rfl, rfl, rfl, by decide +kernel, rfl, by decide +kernel, by decide +kernel⟩
abbrev n_order_in : List Str := ["tree", "needs", "one", "some"]
theorem sc_order_in : FnScope n_order_in ["tree"] (defScope s_order_in) := ⟨rfl, rfl, rfl, by decide +kernel, rfl, by decide +kernel, by decide +kernel⟩
abbrev n_order : List Str := ["tree"]
theorem sc_order : FnScope n_order ["tree"] (defScope s_order) := ⟨rfl, rfl, rfl, by decide +kernel, rfl, by decide +kernel, by decide +kernel⟩
abbrev n_picks_of : List Str := ["tree", "needs", "found", "some", "rest", "sums", "one", "turn", "need"]
theorem sc_picks_of : FnScope n_picks_of ["tree"] (defScope s_picks_of) := ⟨rfl, rfl, rfl, by decide +kernel, rfl, by decide +kernel, by decide +kernel⟩
abbrev n_relay_paper : List Str := ["tree"]
theorem sc_relay_paper : FnScope n_relay_paper ["tree"] (defScope s_relay_paper) := ⟨rfl, rfl, rfl, by decide +kernel, rfl, by decide +kernel, by decide +kernel⟩
abbrev n_are_picks : List Str := ["tree", "thing", "pick", "some"]
theorem sc_are_picks : FnScope n_are_picks ["tree", "thing"] (defScope s_are_picks) := ⟨rfl, rfl, rfl, by decide +kernel, rfl, by decide +kernel, by decide +kernel⟩
abbrev n_need_by : List Str := ["tree", "picks", "found", "calls", "number", "some", "one"]
theorem sc_need_by : FnScope n_need_by ["tree", "picks"] (defScope s_need_by) := ⟨rfl, rfl, rfl, by decide +kernel, rfl, by decide +kernel, by decide +kernel⟩
abbrev n_check_relay : List Str := ["tree", "paper", "whole"]
theorem sc_check_relay : FnScope n_check_relay ["tree", "paper"] (defScope s_check_relay) := ⟨rfl, rfl, rfl, by decide +kernel, rfl, by decide +kernel, by decide +kernel⟩
abbrev n_L_begun : List Str := ["_law_script", "_law_cell"]
theorem sc_L_begun : FnScope n_L_begun ["_law_script"] (defScope s_L_begun) := ⟨rfl, rfl, rfl, by decide +kernel, rfl, by decide +kernel, by decide +kernel⟩
abbrev n_L_next : List Str := ["_law_m", "_law_total", "_law_rest", "_law_k", "_law_cell", "_law_mixed"]
theorem sc_L_next : FnScope n_L_next ["_law_m", "_law_total"] (defScope s_L_next) := ⟨rfl, rfl, rfl, by decide +kernel, rfl, by decide +kernel, by decide +kernel⟩
abbrev n_L_tree : List Str := ["_law_m", "_law_top", "_law_found", "_law_k"]
theorem sc_L_tree : FnScope n_L_tree ["_law_m", "_law_top"] (defScope s_L_tree) := ⟨rfl, rfl, rfl, by decide +kernel, rfl, by decide +kernel, by decide +kernel⟩
abbrev n_L_called : List Str := ["_law_tree_here", "_law_k", "_law_one"]
theorem sc_L_called : FnScope n_L_called ["_law_tree_here"] (defScope s_L_called) := ⟨rfl, rfl, rfl, by decide +kernel, rfl, by decide +kernel, by decide +kernel⟩
abbrev n_L_time : List Str := ["_law_tree_here", "_law_some", "_law_moments", "_law_one", "_law_turn", "_law_place"]
theorem sc_L_time : FnScope n_L_time ["_law_tree_here", "_law_some"] (defScope s_L_time) := ⟨rfl, rfl, rfl, by decide +kernel, rfl, by decide +kernel, by decide +kernel⟩
abbrev n_L_is_whole : List Str := ["_law_thing", "_law_bottom", "_law_top"]
theorem sc_L_is_whole : FnScope n_L_is_whole ["_law_thing", "_law_bottom", "_law_top"] (defScope s_L_is_whole) := ⟨rfl, rfl, rfl, by decide +kernel, rfl, by decide +kernel, by decide +kernel⟩
abbrev n_L_is_order : List Str := ["_law_tree_here", "_law_thing", "_law_some", "_law_due_here", "_law_one"]
theorem sc_L_is_order : FnScope n_L_is_order ["_law_tree_here", "_law_thing"] (defScope s_L_is_order) := ⟨rfl, rfl, rfl, by decide +kernel, rfl, by decide +kernel, by decide +kernel⟩
abbrev n_L_need : List Str := ["_law_tree_here", "_law_picks", "_law_needs", "_law_calls", "_law_one", "_law_some", "_law_place"]
theorem sc_L_need : FnScope n_L_need ["_law_tree_here", "_law_picks"] (defScope s_L_need) := ⟨rfl, rfl, rfl, by decide +kernel, rfl, by decide +kernel, by decide +kernel⟩
abbrev n_L_due : List Str := ["_law_tree_here", "_law_sheet", "_law_whole"]
theorem sc_L_due : FnScope n_L_due ["_law_tree_here", "_law_sheet"] (defScope s_L_due) := ⟨rfl, rfl, rfl, by decide +kernel, rfl, by decide +kernel, by decide +kernel⟩
abbrev n_L_outcome : List Str := ["_law_way", "_law_tree_here", "_law_thing", "_law_found", "e"]
theorem sc_L_outcome : FnScope n_L_outcome ["_law_way", "_law_tree_here", "_law_thing"] (defScope s_L_outcome) := ⟨rfl, rfl, rfl, by decide +kernel, rfl, by decide +kernel, by decide +kernel⟩
abbrev n_L_bent : List Str := ["_law_m", "_law_sheet", "_law_some", "_law_picks", "_law_place", "_law_odd", "_law_bent_here", "_law_row", "_law_found"]
theorem sc_L_bent : FnScope n_L_bent ["_law_m", "_law_sheet"] (defScope s_L_bent) := ⟨rfl, rfl, rfl, by decide +kernel, rfl, by decide +kernel, by decide +kernel⟩
abbrev n_L_refused_right : List Str := ["_law_m", "_law_tree_here", "_law_odd", "_law_place", "_law_bad", "_law_way"]
theorem sc_L_refused_right : FnScope n_L_refused_right ["_law_m", "_law_tree_here"] (defScope s_L_refused_right) := ⟨rfl, rfl, rfl, by decide +kernel, rfl, by decide +kernel, by decide +kernel⟩
abbrev n_Law : List Str := ["_law_script", "_law_m", "_law_turn", "_law_tree_here", "_law_told", "_law_some", "_law_sheet", "_law_k"]
theorem sc_Law : FnScope n_Law ["_law_script"] (defScope s_Law) := ⟨rfl, rfl, rfl, by decide +kernel, rfl, by decide +kernel, by decide +kernel⟩
end K10
set_option Elab.async false
set_option linter.all false
set_option maxRecDepth 100000
set_option maxHeartbeats 4000000
/-! the three error classes: super().__init__(..) in an own __init__ over ValueError, with or without one field behind it -/
namespace K10
open PySem PySem.W PySem.Calls PyProof.Rows PySem.HandSPX
def veB : List Value := [.type "ValueError", .type "Exception", .type "BaseException", .type "object"]
theorem veB_refs : refsVE veB = true := by decide +kernel
theorem along_ve (K : Frag) : alongIn K "__init__" veB = some (some (.builtin "ValueError.__init__")) := by kernel_rfl
theorem drop_self (C : Addr) (l : List Value) : ((Value.ref C :: l).dropWhile (· != .ref C)).drop 1 = l := by simp [List.dropWhile_cons]
/-! ### the text of such an __init__ -/
def supArgs (fld : Str) (p1 p2 : Pos) : Arguments :=
  { posonlyargs := [], args := [{ arg := "self", annotation := none, pos := p1 }, { arg := fld, annotation := none, pos := p2 }], vararg := none, kwonlyargs := [], kw_defaults := [], kwarg := none, defaults := [] }
def supStmt (a : Expr) (q1 q2 q3 q4 q5 : Pos) : Stmt := .Expr (.Call (.Attribute (.Call (.Name "super" q1) [] [] q2) "__init__" q3) [a] [] q4) q5
def setStmt (fld : Str) (q1 q2 q3 q4 : Pos) : Stmt := .Assign [.Attribute (.Name "self" q1) fld q2] (.Name fld q3) q4
def supScope (fld : Str) : Scope :=
  { kind := .function, names := [(PySem.Str.ofString "self", .local), (fld, .local), (PySem.Str.ofString "__class__", .free), (PySem.Str.ofString "super", .globalImplicit)], isGenerator := false, isCoroutine := false, more := [] }
/-- what the written part says of the class at C with the __init__ at fI: its cell, its code -/
structure SupC (P : Program) (K : Frag) (C fI cc cda : Addr) (qual fld : Str) (body : List Stmt) : Prop where
  cls : ∃ nm q N bs sn sub ab col dd k0 k1 k2 k3 k5, K.lookup C = some (excClassObj nm q C N bs veB true sn sub ab col dd k0 k1 k2 k3 k5 "ValueError.__new__")
  sa : findIn K (.ref C) "__setattr__" = some (some (.builtin "object.__setattr__"))
  ga : findIn K (.ref C) "__getattribute__" = some (some (.builtin "BaseException.__getattribute__"))
  noN : findIn K (.ref C) fld = some none
  iC : findIn K (.ref C) "__init__" = some (some (.ref fI))
  tC : typeIn K (.ref fI) = some (.type "function")
  kC : keepIn K (.ref C) = true
  exC : subIn K (.ref C) (.type "BaseException") = some true
  veC : subIn K (.ref C) (.type "ValueError") = some true
  self : mroIn K C (.ref C) = some true
  tyC : typeIn K (.ref C) = some (.type "type")
  hdC : hasDictIn K C = true
  opq : nsIn K cStatics "thirdparty.any" = some none
  cell : ∃ cl cld csl, K.lookup cc = some ⟨cl, cld, .cell (some (.ref C)), csl⟩
  code : ∃ ccl cdd vs ccs file tf, K.lookup cda = some ⟨ccl, cdd, .fields vs, ccs⟩ ∧ vs[2]? = some (.str file tf) ∧ ((P.main.file : Str) == file) = true
  top : (P.main.scope.names.lookup ("super" : Str)).isSome = false
  fn : ∃ (oc : Value) (od : Option Addr) (kV doc pm : Value) (an : Option Addr) (ct : Value) (osl : Array (Option Value)) (p1 p2 : Pos),
    K.lookup fI = some ⟨oc, od, .func (ksFn "__init__" qual (supArgs fld p1 p2) body (supScope fld) .none kV doc pm an (.ref cda) ct cc), osl⟩ ∧ codeIn K (.ref cda) qual = true
section
variable {prog : Program} {w : World} {A : Around} {E : Value → Shared → Prop} {R : Result → Shared → Prop} {s : Shared} {K : Frag} {mg : Str → Option Value} {C fI cc cda : Addr} {qual fld : Str} {body : List Stmt}
theorem SupC.ci (T : SupC prog K C fI cc cda qual fld body) : ∃ cd, clsIn K C = some cd ∧ cd.mro = .ref C :: veB ∧ cd.hasDict = true := by
  obtain ⟨nm, q, N, bs, sn, sub, ab, col, dd, k0, k1, k2, k3, k5, hC⟩ := T.cls
  exact ⟨{ name := nm, bases := bs, mro := .ref C :: veB, ns := N, qualname := q, hasDict := true, slotNames := sn, subclasses := sub, abstract := ab, collection := col, hasDel := false }, by unfold clsIn; rw [hC] <;> rfl, rfl, rfl⟩
/-- the bound ValueError.__init__ called -/
theorem mw_call {u e t0 : Addr} {rest : List Value} {Q : Value → Shared → Prop} (T : SupC prog K C fI cc cda qual fld body) (X : K.In s.heap) (hu : s.heap.get? u = some (kxs_mw "ValueError.__init__" e)) (he : s.heap.get? e = some (excO C t0)) (hz : rest.length ≤ sizeLine)
    (hq : ∀ h' t1, (∀ b o, b ≠ e → s.heap.get? b = some o → h'.get? b = some o) → h'.get? e = some (excO C t1) → Q .none { s with heap := h' }) :
    wpAny (model prog w) A (call (.ref u) rest) Q E s := by
  obtain ⟨nm, q, N, bs, sn, sub, ab, col, dd, k0, k1, k2, k3, k5, hC⟩ := T.cls
  have hC' := X _ _ hC
  obtain ⟨hh, g, d, tk, os⟩ := s
  refine wpAny_call (codeAny_of_tree ?_)
  show wpAny _ A.in1 (callAny (.ref u) ⟨rest, []⟩) _ _ _
  simp only [callAny]
  refine wpAny_bind (wpAny_load hu ?_)
  have ht : (Value.type "method-wrapper" == Value.type "method" || Value.type "method-wrapper" == Value.type "builtin_function_or_method" || Value.type "method-wrapper" == Value.type "method-wrapper") = true := by decide
  simp only [kxs_mw, ht, if_true]
  refine KFB.if_so (by decide) ?_
  refine wpAny_bind (check_bound_init F.excBase_ValueError.toExcCallFacts hC' he rfl ?_)
  refine wpAny_bind (wpAny_pure (wpAny_pure ?_))
  refine ⟨plainId_quiet F.excBase_ValueError.init.plain _, codeAny_builtin F.excBase_ValueError.initEntry ?_⟩
  exact exc_init_tree (cls := .ref C) (t0 := t0) (dv := none) (c2 := .none) (c3 := .none) (b4 := .bool false) he hz fun h' k e1 _ => hq h' _ k e1
/-- super().__init__(a) -/
theorem sup_run {L x t0 : Addr} {a : Expr} {q1 q2 q3 q4 q5 : Pos} {m mb : Str → Option Value} {Q : Flow → Shared → Prop} (T : SupC prog K C fI cc cda qual fld body) (X : K.In s.heap) (hn : s.heap.Ns L m) (hv : m "self" = some (.ref x)) (hx : s.heap.get? x = some (excO C t0))
    (hg : s.heap.Ns mainGlobals mg) (hgs : mg "super" = none) (hb : s.heap.Ns builtinsNs mb) (hbs : mb "super" = some (.type "super"))
    (ha : ∀ (s1 : Shared) (Q1 : Value → Shared → Prop), (∀ b o, s.heap.get? b = some o → s1.heap.get? b = some o) → (∀ v tk, Q1 v { s1 with toks := tk }) → wpAny (model prog w) A (eval a (ksEnv qual (supScope fld) L fI (.ref cda) cc)) Q1 E s1)
    (hf1 : (fld == ("super" : Str)) = false) (hf2 : (fld == ("__class__" : Str)) = false) (hf3 : (fld == ("self" : Str)) = false)
    (he : starEach [a] (ksEnv qual (supScope fld) L fI (.ref cda) cc) = [(false, eval a (ksEnv qual (supScope fld) L fI (.ref cda) cc))])
    (hev : ∃ pl, eval (.Call (.Attribute (.Call (.Name "super" q1) [] [] q2) "__init__" q3) [a] [] q4) (ksEnv qual (supScope fld) L fI (.ref cda) cc) = (do
      let ov ← attributeBase (.Call (.Name "super" q1) [] [] q2) "__init__" (ksEnv qual (supScope fld) L fI (.ref cda) cc) (eval (.Call (.Name "super" q1) [] [] q2) (ksEnv qual (supScope fld) L fI (.ref cda) cc))
      standAt q3.atName
      let (f, first) ← holding [ov] (getMethod ov "__init__" pl)
      callWith q4 f first (backTo q4 (starEach [a] (ksEnv qual (supScope fld) L fI (.ref cda) cc))) []))
    (hq : ∀ h' tk' t1, (∀ b o, b ≠ x → s.heap.get? b = some o → h'.get? b = some o) → h'.get? x = some (excO C t1) → Q .next { s with heap := h', toks := tk' }) :
    _root_.PySem.wpAt (model prog w) A (.func body (ksEnv qual (supScope fld) L fI (.ref cda) cc)) (exec (supStmt a q1 q2 q3 q4 q5) (ksEnv qual (supScope fld) L fI (.ref cda) cc)) Q E s := by
  obtain ⟨cd, hcd, hmro, hhd⟩ := T.ci
  obtain ⟨cl, cld, csl, hcell⟩ := T.cell
  obtain ⟨ccl, cdd, vs, ccs, file, tf, hcode, hvs, hfile⟩ := T.code
  obtain ⟨oc, od, kV, doc, pm, an, ct, osl, p1, p2, hfn, _⟩ := T.fn
  have lS : (supScope fld).names.lookup ("super" : Str) = some .globalImplicit := by
    have q1 : (("super" : Str) == fld) = false := by
      rw [BEq.comm]
      exact hf1
    show List.lookup ("super" : Str) [(PySem.Str.ofString "self", NameKind.local), (fld, .local), (PySem.Str.ofString "__class__", .free), (PySem.Str.ofString "super", .globalImplicit)] = _
    simp [List.lookup, q1]
    rfl
  have lC : (supScope fld).names.lookup ("__class__" : Str) = some .free := by
    have q1 : (("__class__" : Str) == fld) = false := by
      rw [BEq.comm]
      exact hf2
    show List.lookup ("__class__" : Str) [(PySem.Str.ofString "self", NameKind.local), (fld, .local), (PySem.Str.ofString "__class__", .free), (PySem.Str.ofString "super", .globalImplicit)] = _
    simp [List.lookup, q1]
    rfl
  have lself : (supScope fld).names.lookup ("self" : Str) = some .local := rfl
  obtain ⟨oD, hD1, hD2⟩ : ∃ oD, s.heap.get? C = some oD ∧ oD.data = .cls cd := by
    unfold clsIn at hcd
    split at hcd
    · rename_i c d cd' sl ho
      cases hcd
      exact ⟨_, X _ _ ho, rfl⟩
    · cases hcd
  have hxC : x ≠ C := fun z => by
    rw [z, hD1] at hx
    have e1 := Option.some.inj hx
    rw [e1] at hD2
    cases hD2
  have hI : Looks (model prog w) s.heap (isInstance (.ref x) (.type "ValueError")) true :=
    (InstAt.type (⟨hx, rfl, rfl, trivial⟩ : InstAt s.heap x (excO C t0) C none)).andThen (looks_subIn X T.veC)
  obtain ⟨pl, hev⟩ := hev
  refine ks_wpAt_Expr_any (ks_wpAt_MethodCall (pl := pl) ?_ hev)
  refine ks_wpAt_super_base (env := ksEnv qual (supScope fld) L fI (.ref cda) cc) lS lC (by decide) rfl (X _ _ hfn) rfl rfl rfl (X _ _ hcode) rfl hvs hfile T.top ?_
  refine ks_loadName_global rfl lS (loadGlobal_builtin (env := ksEnv qual (supScope fld) L fI (.ref cda) cc) hg hgs hb hbs ⟨rfl, ?_⟩)
  refine wpAny_loadName_free rfl lC rfl ⟨_, X _ _ hcell, rfl⟩ ?_
  refine wpAny_loadName_local rfl lself hn hv ?_
  refine ks_wpAny_isType_cls hD1 hD2 ⟨rfl, ?_⟩
  obtain ⟨hh, g, d, tk, os⟩ := s
  refine ks_wpAny_call_super hD1 hD2 hx rfl (fun c e => by cases e) (looks_mroIn X T.self) (fun h1 e1 k1 => ?_)
  have X1 : K.In h1 := X.keeps k1
  refine kxs_getMethod kxs_ValueError e1 (looks_opaque X1 T.opq) (l₀ := cd.mro) (fun A Q E s k q => wpAny_bind ((looks_clsIn X1 hcd) A _ E s k (wpAny_pure q))) (l := veB) (by rw [hmro]; exact drop_self C veB) X1 (along_ve K) (hI.keeps k1) hxC (by decide) ?_
  have k2 : ∀ b o, hh.get? b = some o → (h1.push (kxs_mw "ValueError.__init__" x)).get? b = some o := fun b o e => Heap.get?_push_of_some _ (k1 b o e)
  have hu : (h1.push (kxs_mw "ValueError.__init__" x)).get? h1.objs.size = some (kxs_mw "ValueError.__init__" x) := Heap.get?_push_at rfl rfl
  refine kxs_callWith (i := "ValueError.__init__") (x := x) (by rw [he]; rfl) ?_
  rw [he]
  refine evalArgs_plain (spliced_cons (ha _ _ k2 fun v tk1 => spliced_nil ⟨hu, ?_⟩))
  refine mw_call T (X.keeps k2) hu (k2 _ _ hx) (by rw [sizeLine_eq]; exact (by decide : 1 ≤ 16777216)) fun h2 t1 k3 e3 => ?_
  exact hq h2 tk1 t1 (fun b o nb e => k3 b o nb (k2 b o e)) e3
/-- what a made error is: at e, its own dict (if any) at d with one field -/
structure MadeA (h h' : Heap) (e C d : Addr) (fld : Str) (v : Value) : Prop where
  keep : ∀ b o, h.get? b = some o → h'.get? b = some o
  new : h.objs.size ≤ e
  obj : ∃ t : Addr, h'.get? e = some { cls := .ref C, dict := some d, data := .fields #[.ref t, .none, .none, .none, .bool false, .none] }
  dbig : h.objs.size ≤ d
  dne : d ≠ e
  ns : h'.Ns1 d (fun y => if y = fld then some v else none)
structure MadeN (h h' : Heap) (e C : Addr) : Prop where
  keep : ∀ b o, h.get? b = some o → h'.get? b = some o
  new : h.objs.size ≤ e
  obj : ∃ t : Addr, h'.get? e = some (excO C t)
/-- the module's names in a heap -/
structure Names2 (mg : Str → Option Value) (h : Heap) : Prop where
  g : h.Ns mainGlobals mg
  sup : mg "super" = none
  b : ∃ mb, h.Ns builtinsNs mb ∧ mb "super" = some (.type "super")
theorem Names2.keeps {h h' : Heap} (N : Names2 mg h) (k : ∀ b o, h.get? b = some o → h'.get? b = some o) : Names2 mg h' := by
  obtain ⟨mb, h1, h2⟩ := N.b
  exact ⟨N.g.keeps k, N.sup, mb, h1.keeps k, h2⟩
/-- __init__ entered: frame, then the one or two rows -/
theorem sup_enter {x t0 : Addr} {v : Value} {a : Expr} {q1 q2 q3 q4 q5 : Pos} {rest : List Stmt} (T : SupC prog K C fI cc cda qual fld (supStmt a q1 q2 q3 q4 q5 :: rest)) (N : Names2 mg s.heap) (X : K.In s.heap) (hlim : s.heap.NoLimit) (hx : s.heap.get? x = some (excO C t0)) (hroom : A.depth < recursionLimit)
    (hf1 : (fld == ("super" : Str)) = false) (hf2 : (fld == ("__class__" : Str)) = false) (hf3 : (fld == ("self" : Str)) = false)
    (hbind : ∀ kV doc pm an ct p1 p2, BindsTo s (ksFn "__init__" qual (supArgs fld p1 p2) (supStmt a q1 q2 q3 q4 q5 :: rest) (supScope fld) .none kV doc pm an (.ref cda) ct cc) ⟨[.ref x, v], []⟩ [(("self" : Str), Value.ref x), (fld, v)])
    (ha : ∀ (L : Addr) (M : Model) (A : Around) (E : Value → Shared → Prop) (s1 : Shared) (Q1 : Value → Shared → Prop), s1.heap.Ns L (fun y => [(("self" : Str), Value.ref x), (fld, v)].reverse.lookup y) → (∀ v tk, Q1 v { s1 with toks := tk }) → wpAny M A (eval a (ksEnv qual (supScope fld) L fI (.ref cda) cc)) Q1 E s1)
    (he : ∀ env, starEach [a] env = [(false, eval a env)])
    (hev : ∀ env, ∃ pl, eval (.Call (.Attribute (.Call (.Name "super" q1) [] [] q2) "__init__" q3) [a] [] q4) env = (do
      let ov ← attributeBase (.Call (.Name "super" q1) [] [] q2) "__init__" env (eval (.Call (.Name "super" q1) [] [] q2) env)
      standAt q3.atName
      let (f, first) ← holding [ov] (getMethod ov "__init__" pl)
      callWith q4 f first (backTo q4 (starEach [a] env)) []))
    (hrest : ∀ (L : Addr) (h1 : Heap) (tk t1 : Nat), L = s.heap.objs.size → h1.Ns L (fun y => [(("self" : Str), Value.ref x), (fld, v)].reverse.lookup y) → (∀ b o, b ≠ x → s.heap.get? b = some o → h1.get? b = some o) → s.heap.objs.size < h1.objs.size → h1.get? x = some (excO C t1) →
      wpAny (model prog w) (A.deeper (ksEnv qual (supScope fld) L fI (.ref cda) cc)) (execs rest (ksEnv qual (supScope fld) L fI (.ref cda) cc)) (fun fl s' => R (.ok (.ret (match fl with | .ret v => v | _ => .none))) s')
        (fun e s' => wpAny (model prog w) (A.deeper (ksEnv qual (supScope fld) L fI (.ref cda) cc)) (leaving (ksEnv qual (supScope fld) L fI (.ref cda) cc) e) (fun _ s'' => R (.error e) s'') (fun e' s'' => R (.error e') s'') s') { s with heap := h1, toks := tk }) :
    codeAny (model prog w) A (.call (.ref fI) ⟨[.ref x, v], []⟩) R s := by
  obtain ⟨oc, od, kV, doc, pm, an, ct, osl, p1, p2, hfn, hcd⟩ := T.fn
  obtain ⟨mb, hb1, hb2⟩ := N.b
  have lself : (supScope fld).names.lookup ("self" : Str) = some .local := rfl
  have lfld : (supScope fld).names.lookup fld = some .local := by
    show List.lookup fld [(PySem.Str.ofString "self", NameKind.local), (fld, .local), (PySem.Str.ofString "__class__", .free), (PySem.Str.ofString "super", .globalImplicit)] = _
    have z : (fld == PySem.Str.ofString "self") = false := hf3
    simp [List.lookup, z]
  refine ks_codeAny_call_defAt (fd := ksFn "__init__" qual (supArgs fld p1 p2) (supStmt a q1 q2 q3 q4 q5 :: rest) (supScope fld) .none kV doc pm an (.ref cda) ct cc) (body := supStmt a q1 q2 q3 q4 q5 :: rest) (binds := [(("self" : Str), Value.ref x), (fld, v)]) hroom (X _ _ hfn) rfl hlim (codeRec_of X hcd) rfl (hbind _ _ _ _ _ _ _) ?_ ?_ (fun h0 hn k0 => ?_) rfl rfl rfl
  · intro y hy
    have hy' : y ∈ [(PySem.Str.ofString "self", NameKind.local), (fld, .local), (PySem.Str.ofString "__class__", .free), (PySem.Str.ofString "super", .globalImplicit)] := hy
    simp only [List.mem_cons, List.not_mem_nil, or_false] at hy'
    rcases hy' with rfl | rfl | rfl | rfl <;> exact fun z => by cases z
  · intro y hy
    simp only [List.mem_cons, List.not_mem_nil, or_false] at hy
    rcases hy with rfl | rfl
    · exact lself
    · exact lfld
  · have hx0 := k0 _ _ hx
    have hv : (fun y => [(("self" : Str), Value.ref x), (fld, v)].reverse.lookup y) "self" = some (.ref x) := by
      have z : (("self" : Str) == fld) = false := by
        rw [BEq.comm]
        exact hf3
      show List.lookup ("self" : Str) [(fld, v), (("self" : Str), Value.ref x)] = _
      simp [List.lookup, z]
    have hsz : s.heap.objs.size ≠ x := Nat.ne_of_gt (Heap.lt_size hx)
    refine ks_wpAt_execs_cons (sup_run (s := { s with heap := h0, toks := s.toks + [(("self" : Str), Value.ref x), (fld, v)].length }) T (X.keeps k0) hn hv hx0 (N.g.keeps k0) N.sup (hb1.keeps k0) hb2 (fun s1 Q1 k1 q => ha _ _ _ _ s1 Q1 (hn.keeps k1) q) hf1 hf2 hf3 (he _) (hev _) fun h' tk' t1 k e1 => ?_)
    refine wpAt_of_wpAny (hrest s.heap.objs.size h' tk' t1 rfl ?_ (fun b o nb e => k b o nb (k0 b o e)) ?_ e1)
    · obtain ⟨oL, es, ep, hL, r⟩ := hn
      exact ⟨oL, es, ep, k _ _ hsz hL, r⟩
    · obtain ⟨oL, es, ep, hL, r⟩ := hn
      exact Heap.lt_size (k _ _ hsz hL)
theorem lk_self {fld : Str} {x : Addr} {v : Value} (hf3 : (fld == ("self" : Str)) = false) : [(("self" : Str), Value.ref x), (fld, v)].reverse.lookup ("self" : Str) = some (.ref x) := by
  have z : (("self" : Str) == fld) = false := by
    rw [BEq.comm]
    exact hf3
  show List.lookup ("self" : Str) [(fld, v), (("self" : Str), Value.ref x)] = _
  simp [List.lookup, z]
theorem lk_fld {fld : Str} {x : Addr} {v : Value} : [(("self" : Str), Value.ref x), (fld, v)].reverse.lookup fld = some v := by
  show List.lookup fld [(fld, v), (("self" : Str), Value.ref x)] = _
  simp [List.lookup]
theorem scope_self (fld : Str) : (supScope fld).names.lookup ("self" : Str) = some .local := rfl
theorem scope_fld {fld : Str} (hf3 : (fld == ("self" : Str)) = false) : (supScope fld).names.lookup fld = some .local := by
  show List.lookup fld [(PySem.Str.ofString "self", NameKind.local), (fld, .local), (PySem.Str.ofString "__class__", .free), (PySem.Str.ofString "super", .globalImplicit)] = _
  have z : (fld == PySem.Str.ofString "self") = false := hf3
  simp [List.lookup, z]
theorem nm_loc {M : Model} {A : Around} {E : Value → Shared → Prop} {s : Shared} {env : Env} {m : Str → Option Value} {y : Str} {pos : Pos} {v : Value} {Q : Value → Shared → Prop} (hn : s.heap.Ns env.locals m) (hv : m y = some v) (hk : env.scope.kind = .function)
    (hl : env.kindOf y = some .local) (hd : (y == ("__debug__" : Str)) = false) (h : Q v s) : wpAny M A (eval (.Name y pos) env) Q E s := wpAny_Name (wpAny_loadName_local hk hl hn hv h) hd
/-- C(v), an error with one field -/
theorem att_made {v : Value} {txt : Str} {j : Nat} {q0 q1 q2 q3 q4 q5 r1 r2 r3 r4 : Pos} (T : SupC prog K C fI cc cda qual fld [supStmt (.Constant (.str txt) j q0) q1 q2 q3 q4 q5, setStmt fld r1 r2 r3 r4]) (N : Names2 mg s.heap) (X : K.In s.heap) (hlim : s.heap.NoLimit) (hroom : A.depth + 1 < recursionLimit)
    (hf1 : (fld == ("super" : Str)) = false) (hf2 : (fld == ("__class__" : Str)) = false) (hf3 : (fld == ("self" : Str)) = false) (hf4 : (fld == ("__debug__" : Str)) = false)
    (hbind : ∀ (s : Shared) (x : Addr) kV doc pm an ct p1 p2, BindsTo s (ksFn "__init__" qual (supArgs fld p1 p2) [supStmt (.Constant (.str txt) j q0) q1 q2 q3 q4 q5, setStmt fld r1 r2 r3 r4] (supScope fld) .none kV doc pm an (.ref cda) ct cc) ⟨[.ref x, v], []⟩ [("self", .ref x), (fld, v)])
    (hev : ∀ env, ∃ pl, eval (.Call (.Attribute (.Call (.Name "super" q1) [] [] q2) "__init__" q3) [.Constant (.str txt) j q0] [] q4) env = (do
      let ov ← attributeBase (.Call (.Name "super" q1) [] [] q2) "__init__" env (eval (.Call (.Name "super" q1) [] [] q2) env)
      standAt q3.atName
      let (f, first) ← holding [ov] (getMethod ov "__init__" pl)
      callWith q4 f first (backTo q4 (starEach [.Constant (.str txt) j q0] env)) []))
    (hsw : ∀ env : Env, swapsWith (.Name fld r3) (some (.Attribute (.Name "self" r1) fld r2)) r4.line env = pure false)
    (hq : ∀ h' tk e d, MadeA s.heap h' e C d fld v → R (.ok (.ret (.ref e))) { s with heap := h', toks := tk }) :
    codeAny (model prog w) A (.call (.ref C) ⟨[v], []⟩) R s := by
  obtain ⟨cd, hcd, hmro, hhd⟩ := T.ci
  obtain ⟨nm, q, Nn, bs, sn, sub, ab, col, dd, k0, k1, k2, k3, k5, hC⟩ := T.cls
  obtain ⟨hp, g, d, tk, os⟩ := s
  have k : ∀ b o, hp.get? b = some o → ((hp.push (kdv_tup [v])).push (excO C hp.objs.size)).get? b = some o := fun b o e => Heap.get?_push_of_some _ (Heap.get?_push_of_some _ e)
  have hget : ((hp.push (kdv_tup [v])).push (excO C hp.objs.size)).get? (hp.objs.size + 1) = some (excO C hp.objs.size) := by heap_get
  refine call_own F.excBase_ValueError (fun _ => rfl) (X _ _ hC) (looks_findIn X T.iC) (fun self => bind_fn X self T.tC) (by rw [sizeLine_eq]; exact (by decide : 1 ≤ 16777216)) ?_
  refine sup_enter (s := ⟨(hp.push (kdv_tup [v])).push (excO C hp.objs.size), g, d, tk, os⟩) T (N.keeps k) (X.keeps k) (hlim.keeps k) hget hroom hf1 hf2 hf3 (fun _ _ _ _ _ _ _ => hbind _ _ _ _ _ _ _ _ _) (fun L M A E s1 Q1 _ hq1 => ?_) (fun env => rfl) hev fun L h1 tk1 t1 hL hn kk hlt e1 => ?_
  · exact wpAny_Constant_str (hq1 _ _)
  · have old : ∀ b o, hp.get? b = some o → h1.get? b = some o := fun b o e => kk b o (Nat.ne_of_lt (Nat.lt_succ_of_lt (Heap.lt_size e))) (k b o e)
    have X1 : K.In h1 := X.keeps old
    refine wpAny_execs_cons (plainObj_wpAny_Assign_Attribute ?_ (hsw _))
    refine nm_loc (v := v) hn lk_fld rfl (scope_fld hf3) hf4 (nm_loc (v := .ref (hp.objs.size + 1)) hn (lk_self hf3) rfl (scope_self fld) (by decide) ?_)
    refine set_plain X1 (ox := excO C t1) (od := none) ⟨e1, rfl, rfl, trivial⟩ T.sa ?_
    refine exc_osa X1 e1 hcd (by rw [hmro]; exact veB_refs) hhd T.noN fun h3 tk3 dx k3 dn dne hx3 hn3 => ?_
    have hz : hp.objs.size + 1 + 1 ≤ dx := by
      have z : ((hp.push (kdv_tup [v])).push (excO C hp.objs.size)).objs.size = hp.objs.size + 1 + 1 := by rw [Heap.size_push, Heap.size_push]
      have hlt' : hp.objs.size + 1 + 1 < h1.objs.size := by
        rw [← z]
        exact hlt
      exact Nat.le_of_lt (Nat.lt_of_lt_of_le hlt' dn)
    refine wpAny_execs_nil ⟨rfl, hq h3 tk3 (hp.objs.size + 1) dx ⟨fun b o e => k3 b o (Nat.ne_of_lt (Nat.lt_succ_of_lt (Heap.lt_size e))) (old b o e), Nat.le_succ _, ⟨t1, hx3⟩, Nat.le_trans (Nat.le_add_right _ 2) hz, dne, hn3⟩⟩
/-- C(v), an error without a field: the text handed on -/
theorem non_made {v : Value} {q0 q1 q2 q3 q4 q5 : Pos} (T : SupC prog K C fI cc cda qual fld [supStmt (.Name fld q0) q1 q2 q3 q4 q5]) (N : Names2 mg s.heap) (X : K.In s.heap) (hlim : s.heap.NoLimit) (hroom : A.depth + 1 < recursionLimit)
    (hf1 : (fld == ("super" : Str)) = false) (hf2 : (fld == ("__class__" : Str)) = false) (hf3 : (fld == ("self" : Str)) = false) (hf4 : (fld == ("__debug__" : Str)) = false)
    (hbind : ∀ (s : Shared) (x : Addr) kV doc pm an ct p1 p2, BindsTo s (ksFn "__init__" qual (supArgs fld p1 p2) [supStmt (.Name fld q0) q1 q2 q3 q4 q5] (supScope fld) .none kV doc pm an (.ref cda) ct cc) ⟨[.ref x, v], []⟩ [("self", .ref x), (fld, v)])
    (hev : ∀ env, ∃ pl, eval (.Call (.Attribute (.Call (.Name "super" q1) [] [] q2) "__init__" q3) [.Name fld q0] [] q4) env = (do
      let ov ← attributeBase (.Call (.Name "super" q1) [] [] q2) "__init__" env (eval (.Call (.Name "super" q1) [] [] q2) env)
      standAt q3.atName
      let (f, first) ← holding [ov] (getMethod ov "__init__" pl)
      callWith q4 f first (backTo q4 (starEach [.Name fld q0] env)) []))
    (hq : ∀ h' tk e, MadeN s.heap h' e C → R (.ok (.ret (.ref e))) { s with heap := h', toks := tk }) :
    codeAny (model prog w) A (.call (.ref C) ⟨[v], []⟩) R s := by
  obtain ⟨nm, q, Nn, bs, sn, sub, ab, col, dd, k0, k1, k2, k3, k5, hC⟩ := T.cls
  obtain ⟨hp, g, d, tk, os⟩ := s
  have k : ∀ b o, hp.get? b = some o → ((hp.push (kdv_tup [v])).push (excO C hp.objs.size)).get? b = some o := fun b o e => Heap.get?_push_of_some _ (Heap.get?_push_of_some _ e)
  have hget : ((hp.push (kdv_tup [v])).push (excO C hp.objs.size)).get? (hp.objs.size + 1) = some (excO C hp.objs.size) := by heap_get
  refine call_own F.excBase_ValueError (fun _ => rfl) (X _ _ hC) (looks_findIn X T.iC) (fun self => bind_fn X self T.tC) (by rw [sizeLine_eq]; exact (by decide : 1 ≤ 16777216)) ?_
  refine sup_enter (s := ⟨(hp.push (kdv_tup [v])).push (excO C hp.objs.size), g, d, tk, os⟩) T (N.keeps k) (X.keeps k) (hlim.keeps k) hget hroom hf1 hf2 hf3 (fun _ _ _ _ _ _ _ => hbind _ _ _ _ _ _ _ _ _) (fun L M A E s1 Q1 hn hq1 => ?_) (fun env => rfl) hev fun L h1 tk1 t1 hL hn kk hlt e1 => ?_
  · exact nm_loc (v := v) hn lk_fld rfl (scope_fld hf3) hf4 (hq1 v s1.toks)
  · have old : ∀ b o, hp.get? b = some o → h1.get? b = some o := fun b o e => kk b o (Nat.ne_of_lt (Nat.lt_succ_of_lt (Heap.lt_size e))) (k b o e)
    exact wpAny_execs_nil ⟨rfl, hq h1 tk1 (hp.objs.size + 1) ⟨old, Nat.le_succ _, t1, e1⟩⟩
end
end K10
set_option Elab.async false
set_option linter.all false
set_option maxRecDepth 100000
set_option maxHeartbeats 4000000
/-! the error classes as rules of the layer: made, raised, their field read in a suite -/
namespace K10
open PySem PySem.Spec PyProof.Rows L2
/-- an error class with one field -/
structure ErrA (P : Program) (K : PySem.W.Frag) (mg : Str → Option Value) (x fld : Str) (C : Addr) : Prop where
  gC : mg x = some (.ref C)
  sup : mg "super" = none
  kC : PySem.W.keepIn K (.ref C) = true
  exC : PySem.W.subIn K (.ref C) (.type "BaseException") = some true
  tyC : PySem.W.typeIn K (.ref C) = some (.type "type")
  hdC : PySem.W.hasDictIn K C = true
  ga : PySem.W.findIn K (.ref C) "__getattribute__" = some (some (.builtin "BaseException.__getattribute__"))
  gg : PySem.W.findIn K (.ref C) "__getattr__" = some none
  noN : PySem.W.findIn K (.ref C) fld = some none
  made : ∀ (w : World) (A : Around) (R : Result → Shared → Prop) (s : Shared) (v : Value), Names2 mg s.heap → K.In s.heap → s.heap.NoLimit → A.depth + 1 < recursionLimit →
    (∀ h' tk e d, MadeA s.heap h' e C d fld v → R (.ok (.ret (.ref e))) { s with heap := h', toks := tk }) → codeAny (model P w) A (.call (.ref C) ⟨[v], []⟩) R s
/-- an error class without a field -/
structure ErrN (P : Program) (K : PySem.W.Frag) (mg : Str → Option Value) (x : Str) (C : Addr) : Prop where
  gC : mg x = some (.ref C)
  sup : mg "super" = none
  kC : PySem.W.keepIn K (.ref C) = true
  exC : PySem.W.subIn K (.ref C) (.type "BaseException") = some true
  tyC : PySem.W.typeIn K (.ref C) = some (.type "type")
  made : ∀ (w : World) (A : Around) (R : Result → Shared → Prop) (s : Shared) (v : Value), Names2 mg s.heap → K.In s.heap → s.heap.NoLimit → A.depth + 1 < recursionLimit →
    (∀ h' tk e, MadeN s.heap h' e C → R (.ok (.ret (.ref e))) { s with heap := h', toks := tk }) → codeAny (model P w) A (.call (.ref C) ⟨[v], []⟩) R s
theorem one_fld {v : V} {v' : Value} (r : RelV v v') (fld f : Str) : RelO (List.lookup f [(fld, v)]) (if f = fld then some v' else none) := by
  by_cases hw : f = fld
  · rw [if_pos hw, hw]
    have q : List.lookup fld [(fld, v)] = some v := by simp [List.lookup]
    rw [q]
    exact r
  · rw [if_neg hw]
    have qw : (f == fld) = false := by simpa using hw
    have q2 : List.lookup f [(fld, v)] = none := by simp [List.lookup, qw]
    rw [q2]
    trivial
section
variable {X : Cx} {C : Addr} {fld : Str}
theorem names2_of {pins : List (Addr × Obj)} {σ : L2.St} {H : Hp} {s : Shared} (I : L2.Inv X pins σ H s) (hs : X.mg "super" = none) : Names2 X.mg s.heap := by
  obtain ⟨mb, h1, h2⟩ := I.mod.blt
  exact ⟨I.mod.glob.keeps I.bk, hs, mb, h1.keeps I.bk, (h2 "super" (by decide)).trans (by decide +kernel)⟩
def tMkA (C : Addr) (fld : Str) (ta : TA) : L2.St → Hp → XK → Prop := fun σ H Q => ta σ H fun vs H1 => ∃ v, vs = [v] ∧ ∀ d, H1 d = none → Q (.ref C) (some d) (upd H1 d (.xd [(fld, v)]))
theorem pmk_att {x : Str} {a : Expr} {ta : TA} {p pos : Pos} {k : Nat} (T : ErrA X.prog X.K X.mg x fld C) (hr : Room k X.A) (ha : PA X [a] ta) (hg : Gl X x) (hdb : (x == ("__debug__" : Str)) = false := by decide)
    (he : starEach (a :: []) X.env = (false, eval a X.env) :: starEach [] X.env := by rfl) (hpl : (backTo pos (starEach [] X.env)).any (·.1) = false := by rfl) :
    PMk X (.Call (.Name x p) [a] [] pos) (tMkA C fld ta) := by
  intro pins s σ H Q I h
  refine wpAny_Call_Name_kw (ld_glob I hg T.gC ?_ hdb)
  refine PySem.W.callWith_K (h₀ := X.base) I.ok.mod.kin T.kC (thn (ha.run pos pins s σ H _ I h) fun us s1 hh => ?_) he hpl
  obtain ⟨vs, H1, I1, r1, v, ev, q1⟩ := hh
  subst ev
  refine ⟨I1.kIn, ?_⟩
  cases r1 with
  | cons rv rn =>
    rename_i v' us'
    cases rn
    show wpAny _ _ (call (.ref C) [v']) _ _ _
    have hlim := I1.nolimit
    have hN := names2_of I1 T.sup
    obtain ⟨hp, g, dr, tk, os⟩ := s1
    refine wpAny_call (T.made _ _ _ _ _ hN I1.kIn hlim (by have := hr.dp; omega) fun h' tk' e d M => ?_)
    show MkP X pins σ Q (.ref e) ⟨h', g, dr, tk', os⟩
    obtain ⟨t, hoe⟩ := M.obj
    obtain ⟨G', g1, g2⟩ := restrict h' fun b => decide (b ≠ e)
    have gk : ∀ b, b ≠ e → G'.get? b = h'.get? b := fun b hb => g1 b (decide_eq_true hb)
    have ge : G'.get? e = none := g2 e (by simp)
    have old : ∀ b o, hp.get? b = some o → G'.get? b = some o := fun b o q => (gk b (Nat.ne_of_lt (Nat.lt_of_lt_of_le (Heap.lt_size q) M.new))).trans (M.keep b o q)
    have ob : ObjOk X.prog X.w (upd H1 d (.xd [(fld, v)])) G' d (.xd [(fld, v)]) :=
      ⟨_, M.ns.at (fun o q => (gk d M.dne).trans q), fun f => one_fld rv fld f⟩
    have J : L2.Inv X pins σ (upd H1 d (.xd [(fld, v)])) ⟨G', g, dr, tk', os⟩ := I1.laid (t' := tk') old M.dbig ob
    refine ⟨e, _, _, ⟨G', g, dr, tk', os⟩, _, .ref C, some d, rfl, J, fun b o q => ?_, ge, hoe, ⟨rfl, rfl⟩, rfl, rfl, ?_, rfl, I1.bare, raises_own T.exC T.tyC, q1 d (I1.hok.fresh M.dbig)⟩
    · by_cases hb : b = e
      · have q' : G'.get? b = some o := q
        rw [hb, ge] at q'
        cases q'
      · exact (gk b hb).symm.trans q
    · rw [upd_ne (Ne.symm M.dne)]
      exact I1.hok.fresh M.new
def tMkN (C : Addr) (ta : TA) : L2.St → Hp → XK → Prop := fun σ H Q => ta σ H fun vs H1 => ∃ v, vs = [v] ∧ Q (.ref C) none H1
theorem pmk_non {x : Str} {a : Expr} {ta : TA} {p pos : Pos} {k : Nat} (T : ErrN X.prog X.K X.mg x C) (hr : Room k X.A) (ha : PA X [a] ta) (hg : Gl X x) (hdb : (x == ("__debug__" : Str)) = false := by decide)
    (he : starEach (a :: []) X.env = (false, eval a X.env) :: starEach [] X.env := by rfl) (hpl : (backTo pos (starEach [] X.env)).any (·.1) = false := by rfl) :
    PMk X (.Call (.Name x p) [a] [] pos) (tMkN C ta) := by
  intro pins s σ H Q I h
  refine wpAny_Call_Name_kw (ld_glob I hg T.gC ?_ hdb)
  refine PySem.W.callWith_K (h₀ := X.base) I.ok.mod.kin T.kC (thn (ha.run pos pins s σ H _ I h) fun us s1 hh => ?_) he hpl
  obtain ⟨vs, H1, I1, r1, v, ev, q1⟩ := hh
  subst ev
  refine ⟨I1.kIn, ?_⟩
  cases r1 with
  | cons rv rn =>
    rename_i v' us'
    cases rn
    show wpAny _ _ (call (.ref C) [v']) _ _ _
    have hlim := I1.nolimit
    have hN := names2_of I1 T.sup
    obtain ⟨hp, g, dr, tk, os⟩ := s1
    refine wpAny_call (T.made _ _ _ _ _ hN I1.kIn hlim (by have := hr.dp; omega) fun h' tk' e M => ?_)
    show MkP X pins σ Q (.ref e) ⟨h', g, dr, tk', os⟩
    obtain ⟨t, hoe⟩ := M.obj
    obtain ⟨G', g1, g2⟩ := restrict h' fun b => decide (b ≠ e)
    have gk : ∀ b, b ≠ e → G'.get? b = h'.get? b := fun b hb => g1 b (decide_eq_true hb)
    have ge : G'.get? e = none := g2 e (by simp)
    have old : ∀ b o, hp.get? b = some o → G'.get? b = some o := fun b o q => (gk b (Nat.ne_of_lt (Nat.lt_of_lt_of_le (Heap.lt_size q) M.new))).trans (M.keep b o q)
    have J : L2.Inv X pins σ H1 ⟨G', g, dr, tk', os⟩ := I1.kept (t' := tk') old
    refine ⟨e, _, _, ⟨G', g, dr, tk', os⟩, _, .ref C, none, rfl, J, fun b o q => ?_, ge, hoe, ⟨rfl, rfl⟩, rfl, rfl, I1.hok.fresh M.new, rfl, I1.bare, raises_own T.exC T.tyC, q1⟩
    by_cases hb : b = e
    · have q' : G'.get? b = some o := q
      rw [hb, ge] at q'
      cases q'
    · exact (gk b hb).symm.trans q
/-- e.fld, e the error that the suite holds -/
def tFldA (C : Addr) (fld : Str) (a : Addr) (cls : Value) (d : Option Addr) (te : TE) : TE := fun σ H Q => te σ H fun x H1 => x = .ref a ∧ cls = .ref C ∧ ∃ (dd : Addr) (v : V), d = some dd ∧ H1 dd = some (.xd [(fld, v)]) ∧ Q v H1
theorem pe_att {x : Str} {a : Addr} {oe : Obj} {cls : Value} {d : Option Addr} {pn : List (Addr × Obj)} {e : Expr} {te : TE} {pos : Pos} (T : ErrA X.prog X.K X.mg x fld C) (hz : Zc cls d oe) (hf : ∃ vs, oe.data = .fields vs) (he : PE (X.suite a ((a, oe) :: pn)) e te)
    (hb : attributeBase e fld X.env (eval e X.env) = eval e X.env := by rfl) :
    PE (X.suite a ((a, oe) :: pn)) (.Attribute e fld pos) (tFldA C fld a cls d te) := by
  refine ⟨fun pins s σ H Q I h => ?_⟩
  refine attr_of hb (thn (he.run pins s σ H _ I h) fun u s1 hh => ?_)
  obtain ⟨y, H1, I1, rx, ex, ec, dd, v, ed, ea, q⟩ := hh
  subst ex
  obtain rfl : u = Value.ref a := rx
  subst ec
  subst ed
  obtain ⟨ha, _⟩ := I1.pin (a, oe) (List.mem_append_left _ List.mem_cons_self)
  obtain ⟨vs, hd⟩ := hf
  have hx : ObjOk X.prog X.w H1 s1.heap dd (.xd [(fld, v)]) := I1.hok dd _ ea
  obtain ⟨mA, hns, hr⟩ := hx
  obtain ⟨od, ho, hl⟩ := lookIn_ns hns
  have l : List.lookup fld [(fld, v)] = some v := by simp [List.lookup]
  obtain ⟨u, hu, ru⟩ := RelO.some_of (v := v) (o := mA fld) (by rw [← l]; exact hr fld)
  have J : PySem.W.InstAt s1.heap a oe C (some od) := ⟨ha, hz.1, by unfold PySem.W.notCls; rw [hd] <;> rfl, by rw [hz.2]; exact ho⟩
  exact HandSPX.exc_get I1.kIn J T.ga (by exact T.gg) T.exC (PySem.W.findObj_own T.hdC T.noN rfl (by rw [hl, hu])) (handed_of ru) ⟨v, H1, I1.tok _, ru, q⟩
end
end K10
set_option Elab.async false
set_option linter.all false
set_option maxRecDepth 100000
set_option maxHeartbeats 4000000
/-! try: body, then several except clauses, some of which name the error -/
namespace K10
open PySem PySem.Spec PyProof.Rows L2
/-- a clause: its class, the slot of its name (if it has one), its suite -/
abbrev Clause : Type := Value × Option Nat × (Addr → Value → Option Addr → TS)
/-- what follows a suite whose name stood in slot i -/
def offName (i : Nat) (D : Ends) : Ends := { nx := fun z G => D.nx (z.set i none) G, rt := D.rt, bk := fun z G => D.bk (z.set i none) G, ct := fun z G => D.ct (z.set i none) G }
def sWish (i : Option Nat) (ts : Addr → Value → Option Addr → TS) (a : Addr) (cls : Value) (d : Option Addr) (D : Ends) (z : L2.St) (G : Hp) : Prop :=
  match i with
  | none => ts a cls d D z G
  | some j => ts a cls d (offName j D) (z.set j (some (.ref a))) G
/-- what the clauses wish of an error of the body, one after the other -/
def wCl (K : PySem.W.Frag) (Wout : WX) (D : Ends) : List Clause → WX
  | [] => Wout
  | (c, i, ts) :: r => fun cls d z G => ∃ b, PySem.W.exmOne K cls c = some b ∧ (b = true → ∀ a, G a = none → sWish i ts a cls d D z G) ∧ (b = false → wCl K Wout D r cls d z G)
/-- the clauses of the text and these -/
inductive ClOk (X : Cx) : List ExceptHandler → List Clause → Prop
  | nil : ClOk X [] []
  | bare {x : Str} {c : Value} {ts : Addr → Value → Option Addr → TS} {b0 : Stmt} {bs : List Stmt} {p1 p2 : Pos} {hds : List ExceptHandler} {l : List Clause} (nm : Names X x c)
      (su : ∀ (a : Addr) (oe : Obj) (cls : Value) (d : Option Addr) (pn : List (Addr × Obj)), Zc cls d oe → (∃ vs, oe.data = .fields vs) → PSs (X.suite a ((a, oe) :: pn)) (b0 :: bs) (ts a cls d)) (r : ClOk X hds l) :
      ClOk X (.ExceptHandler (some (.Name x p1)) none (b0 :: bs) p2 :: hds) ((c, none, ts) :: l)
  | named {x n : Str} {i : Nat} {c : Value} {ts : Addr → Value → Option Addr → TS} {b0 : Stmt} {bs : List Stmt} {p1 p2 : Pos} {hds : List ExceptHandler} {l : List Clause} (nm : Names X x c) (hi : X.N[i]? = some n) (hl : X.env.kindOf n = some .local)
      (su : ∀ (a : Addr) (oe : Obj) (cls : Value) (d : Option Addr) (pn : List (Addr × Obj)), Zc cls d oe → (∃ vs, oe.data = .fields vs) → PSs (X.suite a ((a, oe) :: pn)) (b0 :: bs) (ts a cls d)) (r : ClOk X hds l) :
      ClOk X (.ExceptHandler (some (.Name x p1)) (some n) (b0 :: bs) p2 :: hds) ((c, some i, ts) :: l)
section
variable {X : Cx} {body : List Stmt} {h0 : ExceptHandler} {hds : List ExceptHandler} {l : List Clause} {pos : Pos} {tb : WX → TS} {Wout : WX}
theorem ps_tryCl (hs : X.stack = X.env :: X.outer) (hf : X.env.frame = some X.env.locals) (hN : X.N.Nodup) (tk : Takes X Wout)
    (hb : ∀ (W : WX) (pn : List (Addr × Obj)) (xe : Value → Shared → Prop), Takes (X.tr pn xe) W → PassesOwn (model X.prog X.w) X.A X.env xe → PSs (X.tr pn xe) body (tb W))
    (hh : ClOk X (h0 :: hds) l) : PS X (.Try body (h0 :: hds) [] [] pos) (fun D σ H => tb (wCl X.K Wout D l) D σ H) := by
  refine ⟨fun pins s σ H D I h => ?_⟩
  have ok := I.ok
  have hfr : X.A.frames = some (X.env :: X.outer) := by rw [ok.frames, hs]
  refine wpAny_Try_except (wpAny_mono ((hb (wCl X.K Wout D l) (X.pn ++ pins) (fun e s₁ => wpAny (model X.prog X.w) X.A (noteFrame e X.env) (fun _ s₂ => wpAny (model X.prog X.w) X.A (setFlight e none) (fun _ s₃ =>
    wpAny (model X.prog X.w) X.A (handleBy e X.env (h0 :: hds)) (SP X pins D) X.xe s₃) X.xe s₂) X.xe s₁) (fun u s' xx => ?_) PassesOwn.looking).run [] s σ H D (I.toTry _) h) (fun f s1 hsp => ?_) (fun e s1 he => he))
  · obtain ⟨a, B, sI, pins', σ', H', cls, d, rfl, J', nb, up, sky, na, os, ag, w⟩ := xx
    have J : L2.Inv X pins σ' H' sI := J'.ofTry ok
    have sky' : Sky B (X.env :: X.outer) a (Zc cls d) X.env.locals s'.heap := hs ▸ sky
    show wpAny (model X.prog X.w) X.A (noteFrame (.ref a) X.env) _ _ _
    refine Sky.land Zc.steady hfr hf sky' fun h3 fl3 up3 => ?_
    have J3 : L2.Inv X pins σ' H' { s' with heap := h3 } := J.landed nb fl3.1 (up.trans up3) os ag
    obtain ⟨oe3, vs3, he3, hz3, hd3⟩ := fl3.there
    have nfr : a ∉ frs (X.env :: X.outer) := fun hm => by
      obtain ⟨_, o', e', hnf⟩ := fl3.2.2.1.mem hm
      rw [he3] at e'
      cases e'
      exact hnf _ hd3
    have nL : a ≠ X.env.locals := fun z => nfr (List.mem_filterMap.mpr ⟨X.env, List.mem_cons_self, by rw [hf, z]⟩)
    have nF : a ∉ X.fs := fun hm => by
      obtain ⟨e, he, q⟩ := List.mem_filterMap.mp hm
      exact nfr (List.mem_filterMap.mpr ⟨e, List.mem_cons_of_mem _ he, q⟩)
    have S3 := J3.suite he3 hd3 na nL nF
    have test : ∀ {x : Str} {c : Value} {np : Pos} {Q : Value → Shared → Prop} {E : Value → Shared → Prop}, Names X x c → Q c { s' with heap := h3 } → wpAny (model X.prog X.w) (X.A.mark (some (.ref a))) (eval (.Name x np) X.env) Q E { s' with heap := h3 } := by
      intro x c np Q E hc q
      obtain ⟨hg, hdbg, hm | ⟨hm, hv, hnn⟩⟩ := hc
      · exact ld_glob (X := X.suite a ((a, oe3) :: (X.pn ++ pins))) S3 hg hm q hdbg
      · exact ld_blt (X := X.suite a ((a, oe3) :: (X.pn ++ pins))) S3 hg hm hv q hnn hdbg
    have LT : PySem.W.Looks (model X.prog X.w) h3 (typeOf (.ref a)) cls := fun A Q E s k q => wpAny_typeOf_ref (k _ _ he3) (by rw [hz3.1]; exact q)
    have go : ∀ {hds' : List ExceptHandler} {l' : List Clause}, ClOk X hds' l' → wCl X.K Wout D l' cls d σ' H' → wpAny (model X.prog X.w) X.A (handleBy (.ref a) X.env hds') (SP X pins D) X.xe { s' with heap := h3 } := by
      intro hds' l' hk
      induction hk with
      | nil =>
        intro w
        refine wpAny_handleBy_nil ?_
        obtain ⟨k1, k2, k3, oe, vs, T, oT, ts', he, hz, hd, h1, hr⟩ := id fl3
        unfold PySem.passOn
        refine wpAny_bind (wpAny_field he hd h1 ?_)
        rw [if_neg (show ¬ ((Value.ref T == Value.none) = true) from by simp)]
        have fin : wpAny (model X.prog X.w) X.A (setFlight (.ref a) X.env.frame) (fun _ s4 => wpAny (model X.prog X.w) X.A (throw (.ref a) : Sem Flow) (SP X pins D) X.xe s4) X.xe { s' with heap := h3 } := by
          rw [hf]
          refine HandSPX.setFlight_upZ fl3 fun h4 hh4 up4 => wpAny_throw (tk _ _ ?_)
          exact ⟨a, B, sI, pins, σ', H', cls, d, rfl, J, nb, (up.trans up3).trans up4, .inr (.inr (by rw [hs]; exact hh4)), na, os, ag, w⟩
        first
          | exact wpAny_bind (wpAny_pure (wpAny_bind fin))
          | exact wpAny_bind fin
      | bare nm su r ih =>
        intro w
        obtain ⟨b, hb1, hyes, hno⟩ := w
        refine wpAny_handleBy_cons (codeAny_handlers_test ?_) (by intro q; cases q)
        refine test nm ((PySem.W.exm_one (M := model X.prog X.w) J3.kIn LT hb1).here ?_)
        cases b with
        | false => exact ih (hno rfl)
        | true =>
          refine codeAny_handlers_suite (HandSPX.lands_againZ fl3 fun h4 fl4 up4 => ?_)
          have J4 : L2.Inv X pins σ' H' { s' with heap := h4 } := J.landed nb fl4.1 ((up.trans up3).trans up4) os ag
          obtain ⟨oe4, vs4, he4, hz4, hd4⟩ := fl4.there
          refine wpAny_mono ((su a oe4 cls d (X.pn ++ pins) hz4 ⟨_, hd4⟩).run [] _ _ H' _ (J4.suite he4 hd4 na nL nF) (hyes rfl a na)) (fun f s6 hsp => ?_) (fun _ _ z => False.elim z)
          cases f with
          | ret u =>
            obtain ⟨v6, σ6, H6, S6, q6⟩ := hsp
            exact ⟨_, _, _, S6.unsuite ok, q6⟩
          | _ =>
            obtain ⟨σ6, H6, S6, q6⟩ := hsp
            exact ⟨_, _, S6.unsuite ok, q6⟩
      | @named x n i c ts b0 bs p1 p2 hds2 l2 nm hi hl su r ih =>
        intro w
        obtain ⟨b, hb1, hyes, hno⟩ := w
        refine wpAny_handleBy_cons (codeAny_handlers_test ?_) (by intro q; cases q)
        refine test nm ((PySem.W.exm_one (M := model X.prog X.w) J3.kIn LT hb1).here ?_)
        cases b with
        | false => exact ih (hno rfl)
        | true =>
          refine codeAny_handlers_suite_as (HandSPX.lands_againZ fl3 fun h4 fl4 up4 => ?_)
          have J4 : L2.Inv X pins σ' H' { s' with heap := h4 } := J.landed nb fl4.1 ((up.trans up3).trans up4) os ag
          obtain ⟨oe4, vs4, he4, hz4, hd4⟩ := fl4.there
          refine store_ok (X := X.suite a ((a, oe4) :: (X.pn ++ pins))) (v := .ref a) (J4.suite he4 hd4 na nL nF) hN hi (.inl hl) rfl (fun s5 S5 => ?_) (.inr hl)
          refine wpAny_mono ((su a oe4 cls d (X.pn ++ pins) hz4 ⟨_, hd4⟩).run [] s5 _ H' _ S5 (hyes rfl a na)) (fun f s6 hsp => ?_) (fun _ _ z => False.elim z)
          have gone : ∀ {σ6 : L2.St} {H6 : Hp} {Q : Shared → Prop}, L2.Inv (X.suite a ((a, oe4) :: (X.pn ++ pins))) [] σ6 H6 s6 → (∀ s7, L2.Inv X pins (σ6.set i none) H6 s7 → Q s7) →
              wpAny (model X.prog X.w) X.A (do bindName X.env n .none; unbindBehindTheSuite X.env n p2) (fun _ s7 => Q s7) X.xe s6 := fun S6 hq => gone_ok (S6.unsuite ok) hN hi hl hq
          cases f with
          | ret u =>
            obtain ⟨v6, σ6, H6, S6, q6⟩ := hsp
            exact gone S6 fun s7 J7 => ⟨_, _, _, J7, q6⟩
          | next =>
            obtain ⟨σ6, H6, S6, q6⟩ := hsp
            exact gone S6 fun s7 J7 => ⟨_, _, J7, q6⟩
          | brk =>
            obtain ⟨σ6, H6, S6, q6⟩ := hsp
            exact gone S6 fun s7 J7 => ⟨_, _, J7, q6⟩
          | cont =>
            obtain ⟨σ6, H6, S6, q6⟩ := hsp
            exact gone S6 fun s7 J7 => ⟨_, _, J7, q6⟩
    exact go hh w
  · cases f with
    | next =>
      obtain ⟨σ', H', J', q⟩ := hsp
      exact wpAny_execs_nil ⟨σ', H', J'.ofTry ok, q⟩
    | ret u =>
      obtain ⟨v, σ', H', J', q⟩ := hsp
      exact ⟨v, σ', H', J'.ofTry ok, q⟩
    | _ =>
      obtain ⟨σ', H', J', q⟩ := hsp
      exact ⟨σ', H', J'.ofTry ok, q⟩
end
end K10
set_option Elab.async false
set_option linter.all false
set_option maxRecDepth 100000
set_option maxHeartbeats 4000000
/-! enumerate of a tuple; zip of a tuple and a list -/
namespace K10
open PySem PySem.Spec PyProof.Rows L2
/-! ### enumerate(v) of one argument begins -/
theorem meets_enum1 {v : Value} {o : Obj} {H : Heap → Prop} (B : Begins v o H) :
    Meets (Builtin.«enumerate.__new__» ⟨[.type "enumerate", v], []⟩) (fun _ R s => H s.heap ∧
      R (.ok (.ret (.ref (s.heap.push o).objs.size))) { s with heap := (s.heap.push o).push { cls := .type "enumerate", data := .fields #[.none, .bool false, .ref s.heap.objs.size, rawInt 0, .none, .none] } }) :=
  .of_wp fun prog w A R s h => by
    obtain ⟨hp, g, d, tk, os⟩ := s
    obtain ⟨h1, h⟩ := h
    have hsub := sub_enumerate
    have it1 : ∀ {A' : Around} {E : Value → Shared → Prop} {Q : Value → Shared → Prop}, Q (.ref hp.objs.size) ⟨hp.push o, g, d, tk, os⟩ → wpAny (model prog w) A' (pyIter v) Q E ⟨hp, g, d, tk, os⟩ := fun q => B.iter prog w _ _ _ _ h1 q
    wp_walk using it1
    refine wpAny_stack_any fun st => wpAny_pure ?_
    split
    · rename_i c _ _ _ _ _
      cases (c == Value.type "enumerate")
      · wp_walk using it1
        exact ⟨_, rfl, h⟩
      · wp_walk using it1
        exact ⟨_, rfl, h⟩
    · wp_walk using it1
      exact ⟨_, rfl, h⟩
section
variable {prog : Program} {w : World} {A : Around} {E : Value → Shared → Prop} {s : Shared}
theorem enum1_begins {v : Value} {o : Obj} {H : Heap → Prop} {Q : Value → Shared → Prop} (B : Begins v o H) (h1 : H s.heap)
    (h : ∀ h', IsEnum h' (s.heap.objs.size + 1) s.heap.objs.size 0 .none → h'.get? s.heap.objs.size = some o → h'.objs.size = s.heap.objs.size + 2 → (∀ b u, s.heap.get? b = some u → h'.get? b = some u) → Q (.ref (s.heap.objs.size + 1)) { s with heap := h' }) :
    wpAny (model prog w) A (call (.type "enumerate") [v]) Q E s := by
  refine callType_new F.called_enumerate (by decide) (F.typeCall_enumerate_1 _) (F.newCall_enumerate_1 _) (fun obj => F.args_object_init_2 obj _) F.entry_enumerate_new (meets_enum1 B) ⟨h1, ?_⟩
  have hz : (s.heap.push o).objs.size = s.heap.objs.size + 1 := Heap.size_push ..
  show _ ∧ _
  rw [hz]
  have he : IsEnum ((s.heap.push o).push { cls := .type "enumerate", data := .fields #[.none, .bool false, .ref s.heap.objs.size, rawInt 0, .none, .none] }) (s.heap.objs.size + 1) s.heap.objs.size 0 .none := by
    have q := Heap.get?_push_size (s.heap.push o) (o := { cls := .type "enumerate", data := .fields #[.none, .bool false, .ref s.heap.objs.size, rawInt 0, .none, .none] }) rfl
    rw [hz] at q
    exact q
  exact ⟨⟨_, he, rfl⟩, h _ he (Heap.get?_push_of_some _ (Heap.get?_push_size _ B.free)) (by rw [Heap.size_push, hz]) fun b u x => Heap.get?_push_of_some _ (Heap.get?_push_of_some _ x)⟩
end
theorem tup_ne_iter {h : Heap} {a it : Addr} {i : Nat} {its : Array Value} (p : IsTup h a its) (q : h.IsTupleIter it a i) : a ≠ it := fun z => by
  obtain ⟨o, e1, e2, _⟩ := p
  obtain ⟨o', e3, e4, _⟩ := q
  rw [z, e3] at e1
  cases e1
  rw [e4] at e2
  exact absurd e2 (by decide)
/-! ### enumerate(tuple) -/
/-- the tuple at a, each item in a new pair with its number -/
def ItEnT (K : PySem.W.Frag) (a : Addr) : It :=
  ⟨fun i H => ∃ (xs : List V) (x : V), SqT K H a xs ∧ xs[i]? = some x, fun i H v H' => ∃ T x, v = .ref T ∧ H T = none ∧ H' = upd H T (.tup [.int (i : Nat), x]) ∧ ∀ xs, SqT K H a xs → xs[i]? = some x, fun i H => ∃ xs : List V, SqT K H a xs ∧ i = xs.length⟩
theorem turn_enT {P : Program} {w : World} {K : PySem.W.Frag} {elts : List Expr} {kk : Nat} {tpos : Pos} (a e it : Addr) :
    Turn P w K (.Tuple elts kk tpos) (ItEnT K a) [e, it] e (fun i h => (∃ old, IsEnum h e it ((i : Nat) : Int) old) ∧ h.IsTupleIter it a i ∧ e ≠ it ∧ e ≠ a) where
  mem := by simp
  obj := fun i h st b hb => by
    obtain ⟨⟨old, he⟩, ⟨o, ho, hc, hd⟩, _⟩ := st
    rcases (show b = e ∨ b = it by simpa using hb) with z | z
    · rw [z]
      exact ⟨_, he, fun v q => nomatch q⟩
    · rw [z]
      exact ⟨o, ho, fun v q => by rw [hd] at q; cases q⟩
  keep := fun i h h' st k => by
    obtain ⟨⟨old, he⟩, hi, hne, hea⟩ := st
    exact ⟨⟨old, k e (by simp) _ he⟩, hi.at fun o q => k it (by simp) o q, hne, hea⟩
  item := by
    intro X hP hw hK hc i pins s σ H E I hf st hg
    subst hP hw hK
    obtain ⟨⟨old, he⟩, hit, hne, hea⟩ := st
    obtain ⟨xs, x, hq, hx⟩ := hg
    obtain ⟨its, rv, p, hz⟩ := I.tuple hq
    obtain ⟨u, hu, ru⟩ := rv.get hx
    have hel : e < s.heap.objs.size := Heap.lt_size he
    have hil : it < s.heap.objs.size := by
      obtain ⟨_, q, _⟩ := hit
      exact Heap.lt_size q
    have hlt : i < its.toArray.size := by
      have q := (List.getElem?_eq_some_iff.mp hu).1
      simpa using q
    have D := Draws.tuple (prog := X.prog) (w := X.w) (A := X.A.in1) (show X.A.in1.handled = none from I.ok.hd hc) it a (tup_ne_iter p hit) its.toArray
    refine wpAny_pyNext_enum_itemD D he ⟨hit, p⟩ hlt hne (by simp [hne, hea]) fun y h' tk hy ho hst hT hsz hk => ?_
    have ey : y = u := by
      have q1 : its.toArray[i]? = some y := hy
      rw [List.getElem?_toArray, hu] at q1
      exact (Option.some.inj q1).symm
    subst ey
    refine ⟨_, rfl, wpAny_letOwnedTupleGo_enum (s := { s with heap := h', toks := tk + 1 }) ho fun h'' he' sb => ?_⟩
    have hT2 : h''.get? s.heap.objs.size = some { cls := .type "tuple", data := .seq #[.int i tk, y] } := (sb.2 _ (Nat.ne_of_gt hel)).trans hT
    have new : ObjOk X.prog X.w (upd H s.heap.objs.size (.tup [.int (i : Nat), x])) h'' s.heap.objs.size (.tup [.int (i : Nat), x]) :=
      ⟨by show 2 ≤ sizeLine; decide, [.int i tk, y], .cons ⟨_, rfl⟩ (.cons ru .nil), ⟨_, hT2, rfl, _, rfl⟩⟩
    have I1 : L2.Inv X pins σ (upd H s.heap.objs.size (.tup [.int (i : Nat), x])) { s with heap := h'', toks := tk + 1 } :=
      I.turnedNew (ch := [e, it]) (fun b ob hb q => (sb.2 b (fun z => hb (by simp [z]))).trans (hk b ob (fun z => hb (by simp [z])) (fun z => hb (by simp [z])) q)) hf (Nat.le_refl _) new
    refine ⟨.ref s.heap.objs.size, _, I1, rfl, ⟨_, x, rfl, I.hok.fresh (Nat.le_refl _), rfl, fun ys hy => by rw [I.tuple_inj hy hq]; exact hx⟩, ⟨⟨y, ?_⟩, hst.1.at fun o q => (sb.2 it (Ne.symm hne)).trans q, hne, hea⟩, fun b hb => ?_⟩
    · have e1 : ((i + 1 : Nat) : Int) = (i : Int) + 1 := by omega
      rw [e1]
      exact he'
    · have hb' : b < s.heap.objs.size := by
        rcases (show b = e ∨ b = it by simpa using hb) with z | z
        · rw [z]
          exact hel
        · rw [z]
          exact hil
      rw [upd_ne (Nat.ne_of_lt hb')]
      exact (hf b hb).1
  done := by
    intro X hP hw hK hc i pins s σ H E I hf st hg
    subst hP hw hK
    obtain ⟨⟨old, he⟩, hit, hne, hea⟩ := st
    obtain ⟨xs, hq, hx⟩ := hg
    obtain ⟨its, rv, p, hz⟩ := I.tuple hq
    obtain ⟨f0, f1, f2, f3, f4, f5⟩ := hf it (by simp)
    have hl : i = its.toArray.size := by
      rw [hx, rv.length]
      simp
    subst hl
    have D := Draws.tuple (prog := X.prog) (w := X.w) (A := X.A.in1) (show X.A.in1.handled = none from I.ok.hd hc) it a (tup_ne_iter p hit) its.toArray
    exact wpAny_pyNext_enum_endD D he ⟨hit, p⟩ fun h' eb => ⟨rfl, I.turned (t' := s.toks) (fun b o hb q => eb b o hb q) f0 f1 f3 f4 f5⟩
  self := fun A i s Q E st h => let ⟨⟨_, he⟩, _⟩ := st; wpAny_pyIter_enum he h
def iEnT (K : PySem.W.Frag) (ta : TA) : TI := fun σ H R => ta σ H fun vs H1 => ∃ a xs, vs = [.ref a] ∧ SqT K H1 a xs ∧ R (ItEnT K a) H1
theorem pi_enT {X : Cx} {e : Expr} {ta : TA} {p pos tpos : Pos} {elts : List Expr} {kk : Nat} (hg : Gl X "enumerate") (hm : X.mg "enumerate" = none) (ha : PA X [e] ta) (hs : starEach [e] X.env = [(false, eval e X.env)] := by rfl) :
    PI X (.Tuple elts kk tpos) (.Call (.Name "enumerate" p) [e] [] pos) (iEnT X.K ta) := by
  refine ⟨fun pins s σ H R I h => ?_⟩
  refine Call_ (ld_blt I hg hm boot_enumerate (PyProof.Rows.callWith_type1 (thn (ha.run pos pins s σ H _ I h) fun us s1 ⟨vs, H1, I1, r1, q1⟩ => ?_) hs rfl))
  obtain ⟨a, xs, ex, hq, q⟩ := q1
  subst ex
  cases r1 with
  | cons r rr =>
    cases rr
    cases r
    obtain ⟨its, rv, p', hz⟩ := I1.tuple hq
    have hal : a < s1.heap.objs.size := by
      obtain ⟨_, e1, _⟩ := p'
      exact Heap.lt_size e1
    refine enum1_begins (begins_tuple a its.toArray) p' fun h' he hit hsz hk => wpAny_pyIter_enum he ?_
    have I2 : L2.Inv X pins σ H1 { s1 with heap := h' } := I1.kept (t' := s1.toks) hk
    refine ⟨s1.heap.objs.size + 1, [s1.heap.objs.size + 1, s1.heap.objs.size], _, _, H1, rfl, I2, turn_enT a (s1.heap.objs.size + 1) s1.heap.objs.size, ⟨⟨.none, he⟩, ⟨_, hit, rfl, rfl⟩, Nat.succ_ne_self _, Nat.ne_of_gt (Nat.lt_succ_of_lt hal)⟩, fun b hb => ?_, q⟩
    have hle : s1.heap.objs.size ≤ b := by
      rcases (show b = s1.heap.objs.size + 1 ∨ b = s1.heap.objs.size by simpa using hb) with z | z
      · rw [z]
        exact Nat.le_add_right _ _
      · rw [z]
        exact Nat.le_refl _
    exact I1.fpOk hle (I1.hok.fresh hle)
theorem walk_enT {K : PySem.W.Frag} {a : Addr} {xs : List V} : Walk (ItEnT K a) xs.length (fun H => SqT K H a xs) (YPair (fun i => some (.int (i : Nat))) (fun i => xs[i]?)) := by
  refine ⟨fun i _ hi q => ⟨xs, xs[i], q, by simp [hi]⟩, fun _ q => ⟨xs, q, rfl⟩, fun i H v H' _ q y => ?_⟩
  obtain ⟨T, x, h1, h2, h3, h4⟩ := y
  exact ⟨T, .int (i : Nat), x, h1, h2, h3, rfl, h4 xs q⟩
/-! ### zip(tuple, list) -/
def ItZm (K : PySem.W.Frag) (a b : Addr) : It :=
  ⟨fun i H => ∃ (xs ys : List V) (x y : V), SqT K H a xs ∧ SqL K H b ys ∧ xs[i]? = some x ∧ ys[i]? = some y,
    fun i H v H' => ∃ T x y, v = .ref T ∧ H T = none ∧ H' = upd H T (.tup [x, y]) ∧ (∀ xs, SqT K H a xs → xs[i]? = some x) ∧ ∀ ys, SqL K H b ys → ys[i]? = some y,
    fun i H => ∃ xs ys : List V, SqT K H a xs ∧ SqL K H b ys ∧ i ≤ xs.length ∧ i ≤ ys.length ∧ (i = xs.length ∨ i = ys.length)⟩
theorem sep_of {z TI TO i1 i2 a b : Addr} (D : ZipApart z TI TO i1 i2 a b) : ZipSep2 z TI TO i1 i2 [i1, a] [i2, b] where
  TIz := D.TIz
  TOz := D.TOz
  TITO := D.TITO
  TIi1 := D.TIi1
  mem1 := by simp
  zf1 := by simp [D.i1z.symm, D.l1z.symm]
  Tf1 := by simp [D.TOi1, D.l1TO.symm]
  TIi2 := D.TIi2
  mem2 := by simp
  zf2 := by simp [D.i2z.symm, D.l2z.symm]
  Tf2 := by simp [D.TOi2, D.l2TO.symm]
  sep1_2 := by simp [D.i12, D.l2i1.symm]
  sep2_1 := by simp [D.i12.symm, D.l1i2.symm]
theorem turn_zm {P : Program} {w : World} {K : PySem.W.Frag} {elts : List Expr} {kk : Nat} {tpos : Pos} {a b z TI TO i1 i2 : Addr} (D : ZipApart z TI TO i1 i2 a b) :
    Turn P w K (.Tuple elts kk tpos) (ItZm K a b) [z, TI, TO, i1, i2] z (fun i h => IsZip h z TI TO .none ∧ IsPair h TI (.ref i1) (.ref i2) ∧ (∃ x y, IsPair h TO x y) ∧ h.IsTupleIter i1 a i ∧ h.IsListIter i2 b i) where
  mem := by simp
  obj := fun i h st c hc => by
    obtain ⟨hz, hTI, ⟨x, y, hTO⟩, ⟨o1, e1, _, d1⟩, ⟨o2, e2, _, d2⟩⟩ := st
    rcases (show c = z ∨ c = TI ∨ c = TO ∨ c = i1 ∨ c = i2 by simpa using hc) with q | q | q | q | q
    · rw [q]
      exact ⟨_, hz, fun v q => nomatch q⟩
    · rw [q]
      exact ⟨_, hTI, fun v q => nomatch q⟩
    · rw [q]
      exact ⟨_, hTO, fun v q => nomatch q⟩
    · exact ⟨o1, q ▸ e1, fun v q => by rw [d1] at q; cases q⟩
    · exact ⟨o2, q ▸ e2, fun v q => by rw [d2] at q; cases q⟩
  keep := fun i h h' st k => by
    obtain ⟨hz, hTI, ⟨x, y, hTO⟩, h1, h2⟩ := st
    exact ⟨k z (by simp) _ hz, k TI (by simp) _ hTI, ⟨x, y, k TO (by simp) _ hTO⟩, h1.at fun o q => k i1 (by simp) o q, h2.at fun o q => k i2 (by simp) o q⟩
  item := by
    intro X hP hw hK hc i pins s σ H E I hf st hg
    subst hP hw hK
    obtain ⟨hz, hTI, ⟨x0, y0, hTO⟩, h1, h2⟩ := st
    obtain ⟨xs, ys, x, y, hqx, hqy, hx, hy⟩ := hg
    obtain ⟨its, rv, p, _⟩ := I.tuple hqx
    obtain ⟨its2, rv2, p2, _⟩ := I.list hqy
    obtain ⟨u, hu, ru⟩ := rv.get hx
    obtain ⟨u2, hu2, ru2⟩ := rv2.get hy
    have hzl : z < s.heap.objs.size := Heap.lt_size hz
    have hh : X.A.in1.handled = none := I.ok.hd hc
    have D1 := Draws.tuple (prog := X.prog) (w := X.w) (A := X.A.in1) hh i1 a D.l1i1 its.toArray
    have D2 := Draws.list (prog := X.prog) (w := X.w) (A := X.A.in1) hh i2 b D.l2i2 its2.toArray
    refine wpAny_pyNext_zipD2_item (sep_of D) D1 D2 hz hTI hTO ⟨h1, p⟩ ⟨h2, p2.isList⟩ (by simpa using (List.getElem?_eq_some_iff.mp hu).1) (by simpa using (List.getElem?_eq_some_iff.mp hu2).1) fun x1 x2 h' tk e1 e2 z' TO' st1 st2 hT hsz hk => ?_
    have ex1 : x1 = u := by
      have q1 : its.toArray[i]? = some x1 := e1
      rw [List.getElem?_toArray, hu] at q1
      exact (Option.some.inj q1).symm
    have ex2 : x2 = u2 := by
      have q1 : its2.toArray[i]? = some x2 := e2
      rw [List.getElem?_toArray, hu2] at q1
      exact (Option.some.inj q1).symm
    subst ex1 ex2
    refine ⟨_, rfl, wpAny_letOwnedTupleGo_zip (s := { s with heap := h', toks := tk }) z' fun h'' z'' sb => ?_⟩
    have hT2 : h''.get? s.heap.objs.size = some { cls := .type "tuple", data := .seq #[x1, x2] } := (sb.2 _ (Nat.ne_of_gt hzl)).trans hT
    have new : ObjOk X.prog X.w (upd H s.heap.objs.size (.tup [x, y])) h'' s.heap.objs.size (.tup [x, y]) :=
      ⟨by show 2 ≤ sizeLine; decide, [x1, x2], .cons ru (.cons ru2 .nil), ⟨_, hT2, rfl, _, rfl⟩⟩
    have I1 : L2.Inv X pins σ (upd H s.heap.objs.size (.tup [x, y])) { s with heap := h'', toks := tk } :=
      I.turnedNew (ch := [z, TI, TO, i1, i2]) (fun c o hb q => (sb.2 c (fun q' => hb (by simp [q']))).trans (hk c o (fun q' => hb (by simp [q'])) (fun q' => hb (by simp [q'])) (fun q' => hb (by simp [q'])) (fun q' => hb (by simp [q'])) q)) hf (Nat.le_refl _) new
    refine ⟨.ref s.heap.objs.size, _, I1, rfl, ⟨_, x, y, rfl, I.hok.fresh (Nat.le_refl _), rfl, fun l hl => by rw [I.tuple_inj hl hqx]; exact hx, fun l hl => by rw [I.list_inj hl hqy]; exact hy⟩, ⟨z'', ?_, ⟨x1, x2, ?_⟩, ?_, ?_⟩, fun c hcm => ?_⟩
    · exact (sb.2 _ D.TIz).trans (hk _ _ D.TIz D.TITO D.TIi1 D.TIi2 hTI)
    · exact (sb.2 _ D.TOz).trans TO'
    · exact st1.1.at fun o q => (sb.2 _ D.i1z).trans q
    · exact st2.1.at fun o q => (sb.2 _ D.i2z).trans q
    · have hlt : c < s.heap.objs.size := by
        rcases (show c = z ∨ c = TI ∨ c = TO ∨ c = i1 ∨ c = i2 by simpa using hcm) with q | q | q | q | q
        · exact q ▸ hzl
        · exact q ▸ Heap.lt_size hTI
        · exact q ▸ Heap.lt_size hTO
        · obtain ⟨_, e1, _⟩ := h1
          exact q ▸ Heap.lt_size e1
        · obtain ⟨_, e2, _⟩ := h2
          exact q ▸ Heap.lt_size e2
      rw [upd_ne (Nat.ne_of_lt hlt)]
      exact (hf c hcm).1
  done := by
    intro X hP hw hK hc i pins s σ H E I hf st hg
    subst hP hw hK
    obtain ⟨hz, hTI, ⟨x0, y0, hTO⟩, h1, h2⟩ := st
    obtain ⟨xs, ys, hqx, hqy, hi1, hi2, hend⟩ := hg
    obtain ⟨its, rv, p, _⟩ := I.tuple hqx
    obtain ⟨its2, rv2, p2, _⟩ := I.list hqy
    have l1 := rv.length
    have l2 := rv2.length
    have hh : X.A.in1.handled = none := I.ok.hd hc
    have D1 := Draws.tuple (prog := X.prog) (w := X.w) (A := X.A.in1) hh i1 a D.l1i1 its.toArray
    have D2 := Draws.list (prog := X.prog) (w := X.w) (A := X.A.in1) hh i2 b D.l2i2 its2.toArray
    exact wpAny_pyNext_zipD2_end (sep_of D) D1 D2 hz hTI hTO ⟨h1, p⟩ ⟨h2, p2.isList⟩ (by simp; omega) (by simp; omega) (by simp; omega) fun h' tk hk => ⟨rfl, I.turnedL (t' := tk) (ch := [z, TI, TO, i1, i2]) (fun c o hb q =>
      hk c o (fun q' => hb (by simp [q'])) (fun q' => hb (by simp [q'])) (fun q' => hb (by simp [q'])) (fun q' => hb (by simp [q'])) q) hf⟩
  self := fun A i s Q E st h => wpAny_pyIter_zip st.1 h
def iZm (K : PySem.W.Frag) (ta : TA) : TI := fun σ H R => ta σ H fun vs H1 => ∃ a b xs ys, vs = [.ref a, .ref b] ∧ SqT K H1 a xs ∧ SqL K H1 b ys ∧ R (ItZm K a b) H1
theorem pi_zm {X : Cx} {e e2 : Expr} {ta : TA} {p pos tpos : Pos} {elts : List Expr} {kk : Nat} (hg : Gl X "zip") (hm : X.mg "zip" = none) (ha : PA X [e, e2] ta)
    (hs : starEach [e, e2] X.env = (false, eval e X.env) :: starEach [e2] X.env := by rfl) (hpl : (backTo pos (starEach [e2] X.env)).any (·.1) = false := by rfl) :
    PI X (.Tuple elts kk tpos) (.Call (.Name "zip" p) [e, e2] [] pos) (iZm X.K ta) := by
  refine ⟨fun pins s σ H R I h => ?_⟩
  refine Call_ (ld_blt I hg hm PyProof.Rows.boot_zip (PyProof.Rows.callWith_type1 (thn (ha.run pos pins s σ H _ I h) fun us s1 ⟨vs, H1, I1, r1, q1⟩ => ?_) hs hpl))
  obtain ⟨a, b, xs, ys, ex, hqx, hqy, q⟩ := q1
  subst ex
  cases r1 with
  | cons r rr =>
    cases rr with
    | cons r' rr =>
      cases rr
      cases r
      cases r'
      have fresh5 : ∀ c, c ∈ [s1.heap.objs.size + 4, s1.heap.objs.size + 2, s1.heap.objs.size + 3, s1.heap.objs.size, s1.heap.objs.size + 1] → FpOk X pins H1 c := fun c hcm => by
        have hle : s1.heap.objs.size ≤ c := by
          rcases (show c = s1.heap.objs.size + 4 ∨ c = s1.heap.objs.size + 2 ∨ c = s1.heap.objs.size + 3 ∨ c = s1.heap.objs.size ∨ c = s1.heap.objs.size + 1 by simpa using hcm) with z | z | z | z | z
          · exact z ▸ Nat.le_add_right _ _
          · exact z ▸ Nat.le_add_right _ _
          · exact z ▸ Nat.le_add_right _ _
          · exact z ▸ Nat.le_refl _
          · exact z ▸ Nat.le_add_right _ _
        exact I1.fpOk hle (I1.hok.fresh hle)
      obtain ⟨its, rv, p1, _⟩ := I1.tuple hqx
      obtain ⟨its2, rv2, p2, _⟩ := I1.list hqy
      have hal : a < s1.heap.objs.size := by
        obtain ⟨_, e1, _⟩ := p1
        exact Heap.lt_size e1
      refine zip_begins2 (begins_tuple a its.toArray) (begins_list b its2.toArray) p1 p2.isList fun h' hz hTI hTO h1 h2 hsz hk => wpAny_pyIter_zip hz ?_
      have I2 : L2.Inv X pins σ H1 { s1 with heap := h' } := I1.kept (t' := s1.toks) hk
      exact ⟨s1.heap.objs.size + 4, [s1.heap.objs.size + 4, s1.heap.objs.size + 2, s1.heap.objs.size + 3, s1.heap.objs.size, s1.heap.objs.size + 1], _, _, H1, rfl, I2, turn_zm (PySem.W.ktu_apart s1.heap.objs.size a b hal p2.lt), ⟨hz, hTI, ⟨_, _, hTO⟩, ⟨_, h1, rfl, rfl⟩, ⟨_, h2, rfl, rfl⟩⟩, fresh5, q⟩
theorem walk_zm {K : PySem.W.Frag} {a b : Addr} {xs ys : List V} (hl : xs.length = ys.length) : Walk (ItZm K a b) xs.length (fun H => SqT K H a xs ∧ SqL K H b ys) (YPair (fun i => xs[i]?) (fun i => ys[i]?)) := by
  refine ⟨fun i _ hi q => ?_, fun _ q => ⟨xs, ys, q.1, q.2, Nat.le_refl _, by omega, .inl rfl⟩, fun i H v H' _ q y => ?_⟩
  · have h2 : i < ys.length := by omega
    exact ⟨xs, ys, xs[i], ys[i], q.1, q.2, by simp [hi], by simp [h2]⟩
  · obtain ⟨T, x, z, h1, h2, h3, h4, h5⟩ := y
    exact ⟨T, x, z, h1, h2, h3, h4 xs q.1, h5 ys q.2⟩
end K10
set_option Elab.async false
set_option linter.all false
set_option maxRecDepth 100000
set_option maxHeartbeats 4000000
/-! sorted of a tuple of ints; t[::-1] of a tuple; repr of a text -/
namespace K10
open PySem PySem.Spec PyProof.Rows L2
section
variable {prog : Program} {w : World} {A : Around} {E : Value → Shared → Prop} {s : Shared}
/-! ### collect(tuple) -/
theorem collect_tup {l : Addr} {vs : List Value} {Q : List Value → Shared → Prop} (hl : IsTup s.heap l vs.toArray)
    (h : Q vs { s with heap := (s.heap.push (seqObj "list" #[] 0)).update s.heap.objs.size (Obj.mapSeq (· ++ vs.toArray)) }) (hsz : vs.length ≤ sizeLine) :
    wpAny (model prog w) A (collect (.ref l)) Q E s := by
  obtain ⟨o, ho, hc, n, hd⟩ := id hl
  unfold collect
  refine wpAny_bind (wpAny_runValue (codeAny_builtin entry_proto_collect' ?_))
  show wpAny _ _ (do again (.builtin "list.__iadd__" ⟨[← newList [], .ref l], []⟩)) _ _ s
  refine wpAny_bind (wpAny_newList (wpAny_pure ⟨Code.quiet_builtin _ (by decide +kernel), codeAny_builtin entry_list_iadd' ?_⟩))
  show wpAny _ _ (Builtin.List.listExtendWith (.ref s.heap.objs.size) (.ref l) (.ref s.heap.objs.size)) _ _ { s with heap := s.heap.push (seqObj "list" #[] 0) }
  unfold Builtin.List.listExtendWith
  have ho1 : (s.heap.push (seqObj "list" #[] 0)).get? l = some o := Heap.get?_push_of_some _ ho
  have hn1 : (s.heap.push (seqObj "list" #[] 0)).get? s.heap.objs.size = some (seqObj "list" #[] 0) := Heap.get?_push_size _ rfl
  refine wpAny_bind (wpAny_typeOf (T := "tuple") ⟨o, ho1, hc⟩ ?_)
  have ht : (Value.type "tuple" == Value.type "tuple") = true := by rfl
  rw [if_pos (by rw [ht]; simp)]
  refine wpAny_bind (listItems_at ho1 hd (wpAny_bind (listItems_at (xs := #[]) (n := 0) hn1 rfl ?_)))
  rw [if_neg (by simp)]
  refine wpAny_bind (listUpdate_at (xs := #[]) (n := 0) hn1 rfl (wpAny_pure ?_) (Nat.zero_le _) (by show (#[] ++ vs.toArray).size ≤ sizeLine + 1; simp only [Array.size_append, List.size_toArray, List.length_nil]; omega))
  have hfin : ((#[] : Array Value) ++ vs.toArray).toList = vs := by simp
  refine wpAny_bind (m := load s.heap.objs.size) (wpAny_load (get?_update_seq hn1 _) ?_)
  show wpAny _ _ (pure ((#[] : Array Value) ++ vs.toArray).toList) Q E _
  rw [hfin]
  exact wpAny_pure h
open Srt SrtO in
theorem sortedT_ord {l : Addr} {vs : List Value} {ltv : Value → Value → Bool} {Q : Value → Shared → Prop} (O : Swo ltv) (hl : IsTup s.heap l vs.toArray) (hz : vs.length ≤ sizeLine)
    (hS : 2 ≤ vs.length → ∀ (h1 : Heap) (a : Addr), h1.get? a = some (seqObj "list" vs.toArray 0) → (∀ b o, s.heap.get? b = some o → b ≠ a ∧ h1.get? b = some o) → SortableO prog w A.in1.in1 { s with heap := h1 } a vs ltv)
    (h : ∀ out : List Value, Srtd ltv out → Stb ltv out vs → Q (.ref (s.heap.objs.size + 1)) { s with heap := sortedAll s.heap vs out.toArray }) :
    wpAny (model prog w) A (call (.builtin "sorted") [.ref l]) Q E s := by
  refine Calls.call_function_entry kind_sorted plain_sorted entry_sorted (args_sorted1 _) ?_
  unfold Builtin.«sorted»
  refine wpAny_bind (m := checkCount "sorted" 1 1 _) (wpAny_pure ?_)
  refine wpAny_bind (collect_tup hl (wpAny_bind (wpAny_newList ?_ hz)) hz)
  have hsz : ((s.heap.push (seqObj "list" #[] 0)).update s.heap.objs.size (Obj.mapSeq (· ++ vs.toArray))).objs.size = s.heap.objs.size + 1 := by
    rw [Heap.size_update, size_push']
  have hoL : (((s.heap.push (seqObj "list" #[] 0)).update s.heap.objs.size (Obj.mapSeq (· ++ vs.toArray))).push (seqObj "list" vs.toArray 0)).get? (s.heap.objs.size + 1) = some (seqObj "list" vs.toArray 0) := by
    have z := Heap.get?_push_size ((s.heap.push (seqObj "list" #[] 0)).update s.heap.objs.size (Obj.mapSeq (· ++ vs.toArray))) (o := seqObj "list" vs.toArray 0) rfl
    rw [hsz] at z
    exact z
  have keep : ∀ b o, s.heap.get? b = some o → b ≠ s.heap.objs.size + 1 ∧ (((s.heap.push (seqObj "list" #[] 0)).update s.heap.objs.size (Obj.mapSeq (· ++ vs.toArray))).push (seqObj "list" vs.toArray 0)).get? b = some o := fun b o q => by
    have hlt : b < s.heap.objs.size := Heap.lt_size q
    refine ⟨Nat.ne_of_lt (Nat.lt_succ_of_lt hlt), Heap.get?_push_of_some _ ((Heap.get?_update_ne _ _ _ _ (Nat.ne_of_lt hlt)).trans (Heap.get?_push_of_some _ q))⟩
  show wpAny _ _ _ _ _ { s with heap := ((s.heap.push (seqObj "list" #[] 0)).update s.heap.objs.size (Obj.mapSeq (· ++ vs.toArray))).push (seqObj "list" vs.toArray 0) }
  rw [hsz]
  refine wpAny_bind (wpAny_holding (wpAny_call_entry slot_list_sort ⟨_, hoL, rfl⟩ entry_list_sort (list_sort_ord O hoL hz (fun h2 => hS h2 _ _ hoL keep) fun out hs hb => ⟨_, rfl, ?_⟩) (args_list_sort _)))
  exact wpAny_pure ⟨_, rfl, h out hs hb⟩
/-! ### a tuple turned round -/
theorem places_rev (n : Nat) : Builtin.Slice.slicePlaces ((n : Int) - 1) (-1) (-1) = n := by
  unfold Builtin.Slice.slicePlaces
  have h1 : ¬ ((-1 : Int) > 0) := by omega
  simp only [h1, if_false]
  split
  · have e : ((n : Int) - 1 - -1 - 1) / - -1 + 1 = n := by
      rw [show (- -1 : Int) = 1 by omega, Int.ediv_one]
      omega
    rw [e]
    omega
  · omega
theorem pick_rev (xs : Array Value) : ((List.range xs.size).filterMap fun (k : Nat) => xs[(((xs.size : Int) - 1) + (k : Int) * (-1)).toNat]?).toArray = xs.toList.reverse.toArray := by
  have e : ∀ k, k ∈ List.range xs.size → xs[(((xs.size : Int) - 1) + (k : Int) * (-1)).toNat]? = xs.toList.reverse[k]? := fun k hk => by
    have hk' : k < xs.size := List.mem_range.mp hk
    have z : (((xs.size : Int) - 1) + (k : Int) * (-1)).toNat = xs.size - 1 - k := by omega
    rw [z, List.getElem?_reverse (by simpa using hk')]
    simp
  have cong : ∀ (l : List Nat) (f g : Nat → Option Value), (∀ k, k ∈ l → f k = g k) → l.filterMap f = l.filterMap g := fun l f g hfg => by
    induction l with
    | nil => rfl
    | cons a r ih =>
      rw [List.filterMap_cons, List.filterMap_cons, hfg a List.mem_cons_self, ih fun k hk => hfg k (List.mem_cons_of_mem _ hk)]
  rw [cong _ _ _ e]
  have gen : ∀ l : List Value, (List.range l.length).filterMap (fun k => l[k]?) = l := fun l => by
    induction l with
    | nil => rfl
    | cons a r ih =>
      rw [List.length_cons, List.range_succ_eq_map, List.filterMap_cons, List.filterMap_map]
      show a :: _ = a :: r
      refine congrArg (List.cons a) ?_
      exact ih
  have g := gen xs.toList.reverse
  rw [List.length_reverse, Array.length_toList] at g
  rw [g]
theorem sliceApplied_rev {sl : Addr} {vs : Value} {n : Nat} {Q : Int × Int × Nat → Shared → Prop} (hs : s.heap.IsSliceOf sl .none .none vs) (ps : IsPart vs (some (-1)))
    (h : Q ((n : Int) - 1, -1, n) s) : wpAny (model prog w) A (Builtin.Slice.sliceApplied (.ref sl) (pure (n : Int))) Q E s := by
  obtain ⟨os, hos, hcs, hds⟩ := id hs
  unfold Builtin.Slice.sliceApplied Builtin.Slice.sliceFields
  refine wpAny_bind (wpAny_bind (wpAny_field hos hds (x := .none) rfl (wpAny_bind (wpAny_field hos hds (x := .none) rfl (wpAny_bind (wpAny_field hos hds (x := vs) rfl (wpAny_pure ?_)))))))
  refine wpAny_bind (HT.slicePart_ ps ?_)
  show wpAny _ _ (if ((-1 : Int) == 0) = true then _ else _) _ _ s
  rw [if_neg (by decide)]
  refine wpAny_bind (slicePart_none (wpAny_bind (slicePart_none (wpAny_bind (wpAny_pure ?_)))))
  have ea : Builtin.Slice.sliceAdjust none none (-1) (n : Int) = ((n : Int) - 1, -1) := rfl
  show wpAny _ _ (match Builtin.Slice.sliceAdjust none none (-1) (n : Int) with | (lo, hi) => pure (lo, (-1 : Int), Builtin.Slice.slicePlaces lo hi (-1))) _ _ s
  rw [ea]
  show wpAny _ _ (pure ((n : Int) - 1, (-1 : Int), Builtin.Slice.slicePlaces ((n : Int) - 1) (-1) (-1))) _ _ s
  rw [places_rev]
  exact wpAny_pure h
theorem getItem_tuple_rev {t sl : Addr} {items : Array Value} {vs : Value} {Q : Value → Shared → Prop} (ht : IsTup s.heap t items) (hs : s.heap.IsSliceOf sl .none .none vs) (ps : IsPart vs (some (-1)))
    (h : Q (.ref s.heap.objs.size) { s with heap := s.heap.push { cls := .type "tuple", data := .seq items.toList.reverse.toArray } }) (hsz : items.size ≤ sizeLine) : wpAny (model prog w) A (getItem (.ref t) (.ref sl)) Q E s := by
  have htake : sizeOk (.seq items.toList.reverse.toArray) := by
    show items.toList.reverse.toArray.size ≤ sizeLine
    rw [List.size_toArray, List.length_reverse, Array.length_toList]
    exact hsz
  obtain ⟨os, hos, hcs, hds⟩ := id hs
  have hTs : s.TypeIs (.ref sl) "slice" := ⟨os, hos, hcs⟩
  unfold getItem
  try with_reducible refine wpAny_holding ?_
  first | refine wpAny_bind (wpAny_pure ?_) | skip
  refine wpAny_bind (wpAny_sequenceKey ht.typeIs (by decide) ?_)
  refine wpAny_bind (wpAny_callSpecial?_slot (name := Str.ofString "__getitem__") ht.typeIs PyProof.Rows.slot_tuple_getitem
    (wpAny_call_entry PyProof.Rows.slot_tuple_getitem ht.typeIs entry_tuple_getitem ?_ (args_tuple_getitem _ _)))
  show wpAny _ _ (Builtin.Tuple.tupleItemsOf (.ref t) >>= _) _ _ s
  refine wpAny_bind (tupleItemsOf_ ht (wpAny_bind (wpAny_typeOf hTs ?_)))
  rw [if_pos (by decide)]
  refine wpAny_bind (sliceApplied_rev hs ps ?_)
  have hno : ¬ ((((items.size : Int) - 1) == 0 && (-1 : Int) == 1 && items.size == items.size) = true) := by simp
  show wpAny _ _ (if (((items.size : Int) - 1) == 0 && (-1 : Int) == 1 && items.size == items.size) = true then _ else _) _ _ s
  rw [if_neg hno, pick_rev]
  first
    | exact wpAny_bind (m := Builtin.Tuple.tupleExact _) (wpAny_newObj_type (wpAny_pure ⟨_, rfl, wpAny_pure h⟩) htake)
    | exact wpAny_bind (m := Builtin.Tuple.tupleExact _) (wpAny_newObj_type (wpAny_bind (wpAny_pure (wpAny_pure ⟨_, rfl, wpAny_pure h⟩))) htake)
    | exact wpAny_bind (wpAny_bind (m := Builtin.Tuple.tupleExact _) (wpAny_newObj_type (wpAny_pure (wpAny_pure ⟨_, rfl, wpAny_pure h⟩)) htake))
end
section
variable {X : Cx}
/-- sorted(t), t a tuple of ints -/
def rSortT (K : PySem.W.Frag) : List V → Hp → VK → Prop := fun vs H Q => ∃ (a : Addr) (ns : List Int), vs = [V.ref a] ∧ SqT K H a (ns.map V.int) ∧
  ∀ (ns' : List Int) (p : Addr), ns'.Perm ns → ns'.Pairwise (· ≤ ·) → H p = none → Q (.ref p) (upd H p (.lst (ns'.map V.int)))
theorem cr_sortT : CallR X (.builtin "sorted") (rSortT X.K) := by
  intro pins s σ H vs us Q I r h
  obtain ⟨a, ns, rfl, hs, q⟩ := h
  obtain ⟨its, rv, hl, hz⟩ := I.tuple hs
  rw [Vals.ref1 r]
  have hi := rv.ints
  refine sortedT_ord SrtO.swo_int hl (by rw [← rv.length]; exact hz) (fun h2 h1 a' _ _ => SrtO.ints_sortable hi h2) fun out h1 h2 => ?_
  obtain ⟨k1, k2, k3⟩ := SrtO.ints_out hi h1 h2
  obtain ⟨ep, he'⟩ := PyProof.Rows.sortedAll_at s.heap its out.toArray
  have hlen : ((out.map SrtO.iv).map V.int).length ≤ sizeLine := by
    rw [List.length_map, k2.length_eq]
    rw [List.length_map] at hz
    exact hz
  exact ⟨.ref _, upd H (s.heap.objs.size + 1) (.lst ((out.map SrtO.iv).map V.int)), I.laid (t' := s.toks) (fun _ _ => PyProof.Rows.sortedAll_old) (Nat.le_succ _) ⟨hlen, out, ep, vals_of_ints k1, he'⟩, rfl, q _ _ k2 k3 (I.hok.fresh (Nat.le_succ _))⟩
/-- t[::-1], t a tuple -/
def tRevT (K : PySem.W.Frag) (te : TE) : TE := fun σ H Q => te σ H fun x H1 => ∃ a xs, x = .ref a ∧ SqT K H1 a xs ∧ ∀ p, H1 p = none → Q (.ref p) (upd H1 p (.tup xs.reverse))
theorem pe_revT {e : Expr} {te : TE} {k : Nat} {p1 p2 p3 pos : Pos} (he : PE X e te) : PE X (.Subscript e (.Slice none none (some (.UnaryOp .USub (.Constant (.int 1) k p1) p2)) p3) pos) (tRevT X.K te) := by
  refine ⟨fun pins s σ H Q I h => ?_⟩
  refine Subscript_ (thn (he.run pins s σ H _ I h) fun v s1 ⟨x, H1, I1, r1, q1⟩ => ?_)
  obtain ⟨a, xs, ex, hx, q⟩ := q1
  subst ex
  cases r1
  have hst : PO X (some (.UnaryOp .USub (.Constant (.int 1) k p1) p2)) (tPart (tUn (rU fun i => .int (-i)) (tC (.int 1)))) := po_some (pe_un un_neg pe_int)
  refine wpAny_Slice (thn (po_none.run pins s1 σ H1 (fun o H2 => o = none ∧ H2 = H1) I1 ⟨rfl, rfl⟩) fun vl s2 ⟨l, H2, I2, pl, el, e2⟩ => ?_)
  subst el e2
  refine thn (po_none.run pins s2 σ H2 (fun o H3 => o = none ∧ H3 = H2) I2 ⟨rfl, rfl⟩) fun vu s3 ⟨u, H3, I3, pu, eu, e3⟩ => ?_
  subst eu e3
  refine thn (hst.run pins s3 σ H3 (fun o H4 => o = some (-1) ∧ H4 = H3) I3 ⟨1, rfl, -1, rfl, rfl, rfl⟩) fun vs s4 ⟨o, H4, I4, ps, eo, e4⟩ => ?_
  subst eo e4
  cases pl
  cases pu
  have I5 : L2.Inv X pins σ H4 { s4 with heap := s4.heap.push { cls := .type "slice", data := .fields #[.none, .none, vs] } } := I4.kept (t' := s4.toks) fun b ob q => Heap.get?_push_of_some _ q
  obtain ⟨its, r, ht, hz⟩ := I5.tuple hx
  show wpAny (model X.prog X.w) X.A (subscriptTail e (.Slice none none (some (.UnaryOp .USub (.Constant (.int 1) k p1) p2)) p3) (.ref a) (.ref s4.heap.objs.size)) (EP X pins σ Q) X.xe { s4 with heap := s4.heap.push { cls := .type "slice", data := .fields #[.none, .none, vs] } }
  refine tail_any (ops := [.ref a, .ref s4.heap.objs.size]) ht.typeIs (PyProof.Rows.slot_tuple_getitem.lookup) ?_ (by with_unfolding_all rfl)
  refine getItem_tuple_rev ht (Heap.IsSliceOf.new _ .none .none vs) ps ?_ (by rw [List.size_toArray, ← r.length]; exact hz)
  refine ⟨.ref _, _, I5.laid (t' := s4.toks) (o := .tup xs.reverse) (fun b ob q => Heap.get?_push_of_some _ q) (Nat.le_refl _) ?_, rfl, q _ (I5.hok.fresh (Nat.le_refl _))⟩
  exact ⟨by rw [List.length_reverse]; exact hz, _, r.reverse, IsTup.new _ _⟩
/-- repr of a text -/
theorem call_repr_txt : CallR X (.builtin "repr") (fun xs H Q => ∃ z : Str, xs = [.str z] ∧ (reprText z).length ≤ sizeLine ∧ Q (.str (reprText z)) H) := by
  intro pins s σ H xs us Q I r h
  obtain ⟨z, rfl, hz, q⟩ := h
  obtain ⟨u, rfl, t, rfl⟩ := vals1 r
  exact PySem.P.repr_of_str (hsz := hz) ⟨.str _, H, I.tok _, ⟨_, rfl⟩, q⟩
end
end K10
set_option Elab.async false
set_option linter.all false
set_option maxRecDepth 100000
set_option maxHeartbeats 4000000
/-! sorted(xs, key=lambda one: (0 - needs[one], one)), within a comprehension or not -/
namespace K10
open PySem PySem.Spec PyProof.Rows L2 LamX
open PySem.W (KeyPure EachIs kla_obj kla_fn)
def lamScope : Scope := { kind := .function, names := [(PySem.Str.ofString "one", .local), (PySem.Str.ofString "needs", .free)], isGenerator := false, isCoroutine := false, more := [] }
def lamArgs (p : Pos) : Arguments := { posonlyargs := [], args := [{ arg := "one", annotation := none, pos := p }], vararg := none, kwonlyargs := [], kw_defaults := [], kwarg := none, defaults := [] }
def lamBody (j k : Nat) (p1 p2 p3 p4 p5 p6 p7 : Pos) : Expr := .Tuple [.BinOp (.Constant (.int 0) j p1) .Sub (.Subscript (.Name "needs" p2) (.Name "one" p3) p4) p5, .Name "one" p6] k p7
section
variable {prog : Program} {w : World} {A : Around} {s : Shared}
/-- the lambda called -/
theorem lam_turn {f c' cN L : Addr} {qual : Str} {j k : Nat} {p0 p1 p2 p3 p4 p5 p6 p7 : Pos} {clo : List (Str × Addr)} {pm ctv : Value} {its : Array Value} {i z : Int} {t tz : Tok}
    (hf : s.heap.get? f = some (kla_obj "<lambda>" qual (lamArgs p0) (lamBody j k p1 p2 p3 p4 p5 p6 p7) lamScope clo pm c' ctv)) (hc : s.heap.CodeRec (.ref c') qual) (hclo : clo.lookup ("needs" : Str) = some cN) (hcell : s.heap.IsCell cN (some (.ref L)))
    (hL : s.heap.IsList L its) (hx : its[i.toNat]? = some (.int z tz)) (h0 : 0 ≤ i) (h63 : i < 2 ^ 63) (hlim : s.heap.NoLimit) (hroom : A.depth < recursionLimit) :
    wpAny (model prog w) A (call (.ref f) [.int i t]) (KeyPure (.tuple [.int (0 - z), .int i]) s) (fun _ _ => False) s := by
  refine wpAny_call (PySem.W.kla_callFunE hroom hf rfl rfl rfl rfl hc ?_)
  have hb : bindArgs (kla_fn "<lambda>" qual (lamArgs p0) (lamBody j k p1 p2 p3 p4 p5 p6 p7) lamScope clo pm (.ref c') ctv) ⟨[.int i t], []⟩ = pure [(PySem.Str.ofString "one", Value.int i t)] := rfl
  rw [hb]
  refine wpAny_pure (wpAny_newFunctionEnv (fun y hy => ?_) (fun y hy => ?_) (fun h1 hns hsb => ⟨hlim.fresh _ hsb, ?_⟩) rfl)
  · have hy' : y ∈ [(PySem.Str.ofString "one", NameKind.local), (PySem.Str.ofString "needs", NameKind.free)] := hy
    simp only [List.mem_cons, List.not_mem_nil, or_false] at hy'
    rcases hy' with rfl | rfl <;> exact fun z => by cases z
  · simp only [List.mem_cons, List.not_mem_nil, or_false] at hy
    subst hy
    rfl
  · show codeAny _ _ (.expr (lamBody j k p1 p2 p3 p4 p5 p6 p7) (PySem.W.envX qual lamScope s.heap.objs.size f (.ref c') clo)) _ _
    have kp : ∀ b o, s.heap.get? b = some o → h1.get? b = some o := fun b o e => hsb.extBut b o (Nat.ne_of_lt (Heap.lt_size e)) (Heap.get?_push_of_some _ e)
    have l1 : (PySem.W.envX qual lamScope s.heap.objs.size f (.ref c') clo).kindOf "one" = some .local := rfl
    have l2 : (PySem.W.envX qual lamScope s.heap.objs.size f (.ref c') clo).kindOf "needs" = some .free := rfl
    have hn : h1.Ns (PySem.W.envX qual lamScope s.heap.objs.size f (.ref c') clo).locals (fun x => [(PySem.Str.ofString "one", Value.int i t)].reverse.lookup x) := hns
    have v1 : (fun x => [(PySem.Str.ofString "one", Value.int i t)].reverse.lookup x) "one" = some (.int i t) := rfl
    have one : ∀ {A' : Around} {pos : Pos} {Q : Value → Shared → Prop} {E : Value → Shared → Prop} {tk : Nat}, Q (.int i t) { s with heap := h1, toks := tk } → wpAny (model prog w) A' (eval (.Name "one" pos) (PySem.W.envX qual lamScope s.heap.objs.size f (.ref c') clo)) Q E { s with heap := h1, toks := tk } :=
      fun q => wpAny_Name (wpAny_loadName_local rfl l1 hn v1 q)
    refine PySem.W.kla_codeExpr (wpAny_Tuple_spliced (Calls.spliced_cons (wpAny_BinOp ?_)))
    refine wpAny_Constant_int (Subscript_ (wpAny_Name (wpAny_loadName_free rfl l2 hclo (hcell.keeps kp) (one ?_))))
    refine item_listR (hL.at fun o e => kp _ _ e) h0 h63 hx (SiftDown.sub_int ?_)
    show wpAny _ _ (spliced [(false, eval (.Name "one" p6) (PySem.W.envX qual lamScope s.heap.objs.size f (.ref c') clo))]) _ _ _
    refine Calls.spliced_cons (wpAny_Name (wpAny_loadName_local rfl l1 hn v1 ?_))
    refine Calls.spliced_nil ⟨by show 2 ≤ sizeLine; decide, ?_⟩
    refine ⟨_, _, rfl, fun b o e => Heap.get?_push_of_some _ (kp b o e), ?_⟩
    exact Reads.tuple (Heap.get?_push_size _ rfl) rfl rfl (ReadsAll.cons (Reads.int _ _) (ReadsAll.cons (Reads.int _ _) ReadsAll.nil))
end
theorem Vals_each : ∀ {ns : List Int} {us : List Value}, Vals (ns.map V.int) us → EachIs (fun v (x : Int) => ∃ t, v = Value.int x t) us ns
  | [], _, .nil => .nil
  | _ :: _, _, .cons r t => .cons r (Vals_each t)
theorem each_vals : ∀ {us : List Value} {ns : List Int}, EachIs (fun v (x : Int) => ∃ t, v = Value.int x t) us ns → Vals (ns.map V.int) us
  | _, _, .nil => .nil
  | _, _, .cons r t => .cons r (each_vals t)
theorem extN_sqL {K : PySem.W.Frag} {H H' : Hp} {a : Addr} {xs : List V} (e : ExtN H H') (h : SqL K H a xs) : SqL K H' a xs := by
  rcases h with (h | ⟨o, h⟩) | h
  · exact .inl (.inl (e _ _ h fun ps z => by cases z))
  · exact .inl (.inr ⟨o, e _ _ h fun ps z => by cases z⟩)
  · exact .inr h
def keyD (zs : List Int) (x : Int) : PyData := .tuple [.int (0 - zs.getD x.toNat 0), .int x]
def tSortLam (K : PySem.W.Frag) (T : List (Addr × Str)) (i j : Nat) : TE := fun σ H Q => ∃ (a L : Addr) (ns zs : List Int), σ[i]? = some (some (V.ref a)) ∧ σ[j]? = some (some (V.ref L)) ∧ SqL K H a (ns.map V.int) ∧ SqL K H L (zs.map V.int) ∧
  (∀ x ∈ ns, 0 ≤ x ∧ x < zs.length) ∧ Tabs T H ∧ ∀ (H' : Hp) (ns' : List Int) (p : Addr), ExtN H H' → Tabs T H' → ns'.Perm ns → H' p = none → Q (.ref p) (upd H' p (.lst (ns'.map V.int)))
theorem pe_sortLam {X : Cx} {T : List (Addr × Str)} {c P : Addr} {i jn j k : Nat} {y : Str} {p0 p1 p2 p3 p4 p5 p6 p7 q1 q2 lpos kpos pos : Pos} (hg : Gl X "sorted") (hm : X.mg "sorted" = none) (hN : X.N[i]? = some y) (hv : Vis X.env.scope y) (hd : (y == ("__debug__" : Str)) = false) (hcd : (y == ("__classdict__" : Str)) = false)
    (hNj : X.N[jn]? = some ("needs" : Str)) (hcap : X.env.kindOf "needs" = some .cell ∨ X.env.kindOf "needs" = some .free)
    (TB : TabB X.base X.mg c P) (hcode : X.env.code = .ref c) (hmT : (P, X.env.qual ++ "<lambda>") ∈ T) (hu : ∀ p ∈ T, p.1 = P → p.2 = X.env.qual ++ "<lambda>") (hr : Room 2 X.A)
    (hall : (backToKw pos (keywordEach [⟨some "key", .Lambda (lamArgs p0) (lamBody j k p1 p2 p3 p4 p5 p6 p7) lamScope lpos, kpos⟩] X.env)).all (·.1.isSome) = true := by rfl)
    (hnone : (backToKw pos (keywordEach [⟨some "key", .Lambda (lamArgs p0) (lamBody j k p1 p2 p3 p4 p5 p6 p7) lamScope lpos, kpos⟩] X.env)).any (·.1.isNone) = false := by rfl) :
    PE X (.Call (.Name "sorted" q1) [.Name y q2] [⟨some "key", .Lambda (lamArgs p0) (lamBody j k p1 p2 p3 p4 p5 p6 p7) lamScope lpos, kpos⟩] pos) (tSortLam X.K T i jn) := by
  refine ⟨fun pins s σ H Q I h => ?_⟩
  obtain ⟨a, L, ns, zs, e1, e2, hS, hZ, hin, hT, q⟩ := h
  refine wpAny_Call_Name_kw (ld_blt I hg hm boot_sorted ?_)
  have pa : PA X [.Name y q2] (tCons (tVar i) tNil) := pa_cons (pe_var hN hv hd hcd) pa_nil
  refine PyProof.Rows.callWith_kw (thn (pa.run pos pins s σ H (fun vs H1 => vs = [.ref a] ∧ H1 = H) I ⟨_, e1, rfl, rfl⟩) fun us s1 ⟨vs, H1, I1, r1, ev, eH⟩ => ?_) rfl rfl hall hnone
  subst ev eH
  obtain rfl := Vals.ref1 r1
  show wpAny _ _ (evalAll [(do let v ← eval (.Lambda (lamArgs p0) (lamBody j k p1 p2 p3 p4 p5 p6 p7) lamScope lpos) X.env; standAt pos; pure v)]) _ _ s1
  have hfree : ∀ z ∈ lamScope.names, z.2 = .free → ∃ c, X.env.cells.lookup z.1 = some c := fun z hz e => by
    have hz' : z ∈ [(PySem.Str.ofString "one", NameKind.local), (PySem.Str.ofString "needs", NameKind.free)] := hz
    simp only [List.mem_cons, List.not_mem_nil, or_false] at hz'
    rcases hz' with rfl | rfl
    · cases e
    · exact I1.ok.has _ hcap
  refine wpAny_evalAll_cons (wpAny_bind (lam_make2 I1 TB hcode hmT hu hT rfl hfree fun f c' pm ctv H2 s2 I2 eN T2 hf hfn hfr hco => wpAny_bind (wpAny_standAt (wpAny_pure (wpAny_evalAll_nil ?_)))))
  show wpAny _ _ (call (.builtin "sorted") [.ref a] [(PySem.Str.ofString "key", .ref f)]) _ _ s2
  obtain ⟨its, rv, pl, hz⟩ := I2.list (extN_sqL eN hS)
  obtain ⟨its2, rv2, pl2, hz2⟩ := I2.list (extN_sqL eN hZ)
  -- the cell of needs
  obtain ⟨cN, hcN, hcell⟩ : ∃ cN, X.env.cells.lookup ("needs" : Str) = some cN ∧ s2.heap.IsCell cN (some (.ref L)) := by
    obtain ⟨m, hn, hl⟩ := I2.loc
    have hvis : Vis X.env.scope "needs" := hcap.elim (fun k => .inr (.inl k)) (fun k => .inr (.inr k))
    obtain ⟨w', r, z⟩ := hl jn "needs" (.ref L) hNj e2 hvis
    cases r
    rcases z with ⟨k1, _⟩ | ⟨_, c1, k2, k3⟩
    · rcases hcap with z | z
      · rw [z] at k1
        cases k1
      · rw [z] at k1
        cases k1
    · exact ⟨c1, k2, k3⟩
  have hclo : (cloFrom X.env.cells lamScope.names []).lookup ("needs" : Str) = some cN := by
    show List.lookup ("needs" : Str) [(PySem.Str.ofString "needs", (X.env.cells.lookup (PySem.Str.ofString "needs")).getD 0)] = some cN
    have z : X.env.cells.lookup (PySem.Str.ofString "needs") = some cN := hcN
    rw [z]
    rfl
  have hcr : s2.heap.CodeRec (.ref c') (X.env.qual ++ "<lambda>") := by
    obtain ⟨⟨oc, vs, t, a1, a2, a3⟩, _, _⟩ := I2.hok c' _ hco
    exact ⟨c', oc, vs, t, rfl, a1, a2, a3⟩
  have lZ := rv2.length
  rw [List.length_map] at lZ
  have hlen := rv.length
  rw [List.length_map] at hlen
  have hal : PySem.W.AllAlike (ns.map (keyD zs)) := PySem.W.AllAlike.of fun b b' => rfl
  have hso : PySem.W.Sortable (ns.map (keyD zs)) := PySem.W.Sortable.tuples fun b => ⟨_, _, rfl⟩
  have hroom : X.A.in1.in1.depth < recursionLimit := by
    have z := hr.dp
    show X.A.depth < recursionLimit
    omega
  refine PySem.W.sorted_key_data (R := fun v (x : Int) => ∃ t, v = Value.int x t) (bs := ns) (b := false) (f := .ref f) (keyD zs) pl.isList (Vals_each rv) hal hso (by rw [List.length_map] at hz; exact hz) (fun x hx => ?_) (PyProof.Rows.ksk_s1 _ _) (fun _ => PyProof.Rows.ksk_l1 _ _) (fun x => PyProof.Rows.ksk_t1 _ x) (fun v x hR hx h tk kp => ?_) fun out cc h' tk kp hn hout hlo e => ?_
  · have z := hr.un
    show X.A.units + 2 + (keyD zs x).depth < cLine
    have zz : (keyD zs x).depth ≤ 2 := by show PyData.depth (.tuple [.int _, .int _]) ≤ 2; simp [PyData.depth, PyData.depthAll]
    omega
  · obtain ⟨t, rfl⟩ := hR
    obtain ⟨h0, h1⟩ := hin x hx
    have hxn : x.toNat < zs.length := by omega
    obtain ⟨u, hu1, ru⟩ := rv2.get (i := x.toNat) (x := V.int zs[x.toNat]) (by rw [List.getElem?_map, List.getElem?_eq_getElem hxn]; rfl)
    obtain ⟨tz, rfl⟩ := ru
    have ez : zs.getD x.toNat 0 = zs[x.toNat] := by
      rw [List.getD_eq_getElem?_getD, List.getElem?_eq_getElem hxn]
      rfl
    have hbig : x < 2 ^ 63 := by
      have z1 : zs.length ≤ sizeLine := by
        rw [List.length_map] at hz2
        exact hz2
      rw [sizeLine_eq] at z1
      omega
    have g := lam_turn (prog := X.prog) (w := X.w) (A := X.A.in1.in1) (s := { s2 with heap := h, toks := tk }) (its := its2.toArray) (i := x) (z := zs[x.toNat]) (t := t) (tz := tz) (kp _ _ hf)
      (by obtain ⟨c0, oc, vs, t0, a0, a1, a2, a3⟩ := hcr; exact ⟨c0, oc, vs, t0, a0, kp _ _ a1, a2, a3⟩) hclo (hcell.keeps kp) (pl2.isList.at fun o e => kp _ _ e) (by rw [List.getElem?_toArray]; exact hu1) h0 hbig (I2.nolimit.keeps kp) hroom
    unfold keyD
    rw [ez]
    exact g
  · have hp : (ns.mergeSort (PySem.W.dataLe false (keyD zs))).Perm ns := List.mergeSort_perm _ _
    have hsz : ((ns.mergeSort (PySem.W.dataLe false (keyD zs))).map V.int).length ≤ sizeLine := by
      rw [List.length_map, hp.length_eq]
      rw [List.length_map] at hz
      exact hz
    exact ⟨.ref _, upd H2 (s2.heap.objs.size + 1) (.lst ((ns.mergeSort (PySem.W.dataLe false (keyD zs))).map V.int)), I2.laid (t' := tk) kp (Nat.le_succ _) ⟨hsz, out, cc, each_vals e, hout⟩, rfl, q _ _ _ eN T2 hp (I2.hok.fresh (Nat.le_succ _))⟩
end K10
set_option Elab.async false
set_option linter.all false
set_option maxRecDepth 100000
set_option maxHeartbeats 4000000
/-! the plain functions and their laws; no program in sight -/
namespace K10
open PySem PySem.Spec PyProof.Rows L2
def iv : PyData → Int
  | .int i => i
  | _ => 0
def isW (d : PyData) (lo : Int) (hi : Option Int) : Bool :=
  match d with
  | .int i => decide (lo ≤ i) && (match hi with | none => true | some h => decide (i ≤ h))
  | _ => false
/-! ### trees -/
def placeBad (k : Nat) : PyData → Bool
  | .int c => (decide (k = 0) && decide (c ≠ -1)) || (decide (0 < k) && !(decide (0 ≤ c) && decide (c < k)))
  | _ => true
def firstBad : Nat → List PyData → Option Nat
  | _, [] => none
  | k, d :: r => if placeBad k d = true then some k else firstBad (k + 1) r
def treeBad : PyData → Option V
  | .tuple ds => if 1 ≤ ds.length ∧ ds.length ≤ 40 then (firstBad 0 ds).map (fun k => V.int (k : Nat)) else some .non
  | _ => some .non
structure Good (T : List Int) : Prop where
  pos : 1 ≤ T.length
  le : T.length ≤ 40
  zero : T.getD 0 0 = -1
  low : ∀ k, 0 < k → k < T.length → 0 ≤ T.getD k 0 ∧ T.getD k 0 < k
def tD (T : List Int) : PyData := .tuple (T.map PyData.int)
theorem firstBad_none : ∀ (k : Nat) (ds : List PyData), firstBad k ds = none → ∃ T : List Int, ds = T.map PyData.int ∧ ∀ j, j < T.length → placeBad (k + j) (.int (T.getD j 0)) = false
  | _, [], _ => ⟨[], rfl, fun j h => absurd h (Nat.not_lt_zero _)⟩
  | k, d :: r, h => by
    unfold firstBad at h
    by_cases hb : placeBad k d = true
    · rw [if_pos hb] at h
      cases h
    · rw [if_neg hb] at h
      obtain ⟨T, e, hT⟩ := firstBad_none (k + 1) r h
      have hb' : placeBad k d = false := by simpa using hb
      cases d with
      | int c =>
        refine ⟨c :: T, by rw [e]; rfl, fun j hj => ?_⟩
        cases j with
        | zero => exact hb'
        | succ j =>
          have z := hT j (by simpa using hj)
          rw [show k + (j + 1) = k + 1 + j by omega]
          exact z
      | none => cases hb'
      | bool _ => cases hb'
      | str _ => cases hb'
      | list _ => cases hb'
      | tuple _ => cases hb'
      | dict _ => cases hb'
theorem firstBad_good : ∀ (k : Nat) (T : List Int), (∀ j, j < T.length → placeBad (k + j) (.int (T.getD j 0)) = false) → firstBad k (T.map PyData.int) = none
  | _, [], _ => rfl
  | k, c :: r, h => by
    show (if placeBad k (.int c) = true then some k else firstBad (k + 1) (r.map PyData.int)) = none
    have h0 : placeBad k (.int c) = false := h 0 (by simp)
    rw [if_neg (by rw [h0]; decide)]
    refine firstBad_good (k + 1) r fun j hj => ?_
    have z := h (j + 1) (by simpa using hj)
    rw [show k + (j + 1) = k + 1 + j by omega] at z
    exact z
theorem good_of_bad {d : PyData} (h : treeBad d = none) : ∃ T, d = tD T ∧ Good T := by
  cases d with
  | tuple ds =>
    simp only [treeBad] at h
    by_cases hl : 1 ≤ ds.length ∧ ds.length ≤ 40
    · rw [if_pos hl] at h
      obtain ⟨T, e, hT⟩ := firstBad_none 0 ds (by simpa using h)
      subst e
      rw [List.length_map] at hl
      refine ⟨T, rfl, hl.1, hl.2, ?_, fun k h0 hk => ?_⟩
      · have z := hT 0 (by omega)
        simp only [placeBad, Nat.zero_add] at z
        simpa using z
      · have z := hT k hk
        simp only [placeBad, Nat.zero_add] at z
        simp only [Bool.or_eq_false_iff, Bool.and_eq_false_iff, Bool.not_eq_false', Bool.and_eq_true, decide_eq_true_eq, decide_eq_false_iff_not] at z
        rcases z.2 with z | z
        · omega
        · exact z
    · rw [if_neg hl] at h
      cases h
  | none => cases h
  | bool _ => cases h
  | str _ => cases h
  | list _ => cases h
  | int _ => cases h
  | dict _ => cases h
theorem bad_of_good {T : List Int} (g : Good T) : treeBad (tD T) = none := by
  simp only [tD, treeBad]
  rw [List.length_map, if_pos ⟨g.pos, g.le⟩]
  rw [firstBad_good 0 T fun j hj => ?_]
  · rfl
  · simp only [placeBad, Nat.zero_add]
    by_cases h0 : j = 0
    · subst h0
      have z := g.zero
      simp only [z]
      decide
    · have z := g.low j (by omega) hj
      rw [List.getD_eq_getElem?_getD] at z
      simp [h0]
      exact fun _ => z
theorem firstBad_at : ∀ (k : Nat) (ds : List PyData) (p : Nat), p < ds.length → (∀ j, j < p → placeBad (k + j) (ds.getD j .none) = false) → placeBad (k + p) (ds.getD p .none) = true → firstBad k ds = some (k + p)
  | _, [], p, h, _, _ => absurd h (Nat.not_lt_zero _)
  | k, d :: r, 0, _, _, hb => by
    show (if placeBad k d = true then some k else firstBad (k + 1) r) = some k
    have hb' : placeBad k d = true := hb
    rw [if_pos hb']
  | k, d :: r, p + 1, h, hj, hb => by
    show (if placeBad k d = true then some k else firstBad (k + 1) r) = _
    have h0 : placeBad k d = false := hj 0 (by omega)
    rw [if_neg (by rw [h0]; decide)]
    rw [show k + (p + 1) = k + 1 + p by omega]
    refine firstBad_at (k + 1) r p (by simpa using h) (fun j hj' => ?_) ?_
    · have z := hj (j + 1) (by omega)
      rw [show k + (j + 1) = k + 1 + j by omega] at z
      exact z
    · rw [show k + (p + 1) = k + 1 + p by omega] at hb
      exact hb
/-! ### who is called by whom -/
def calledTo (T : List Int) (n i : Nat) : List Int := ((List.range n).filter fun k => decide (0 < k) && decide (T.getD k 0 = (i : Int))).map fun (k : Nat) => (k : Int)
def called (T : List Int) (i : Nat) : List Int := calledTo T T.length i
theorem calledTo_succ (T : List Int) (n i : Nat) : calledTo T (n + 1) i = calledTo T n i ++ (if 0 < n ∧ T.getD n 0 = (i : Int) then [(n : Int)] else []) := by
  unfold calledTo
  rw [List.range_succ, List.filter_append, List.map_append]
  congr 1
  by_cases h : 0 < n ∧ T.getD n 0 = (i : Int)
  · rw [if_pos h]
    simp only [List.filter_cons, h.1, h.2, decide_true, Bool.and_self, if_true, List.filter_nil, List.map_cons, List.map_nil]
  · rw [if_neg h]
    have z : (decide (0 < n) && decide (T.getD n 0 = (i : Int))) = false := by
      rw [Bool.and_eq_false_iff]
      by_cases h1 : 0 < n
      · right
        simpa using fun h2 => h ⟨h1, h2⟩
      · left
        simpa using h1
    simp only [List.filter_cons, z, List.filter_nil, Bool.false_eq_true, if_false, List.map_nil]
theorem calledTo_one (T : List Int) (i : Nat) : calledTo T 1 i = [] := by
  unfold calledTo
  rfl
theorem mem_calledTo {T : List Int} {n i : Nat} {x : Int} (h : x ∈ calledTo T n i) : ∃ k : Nat, x = (k : Int) ∧ k < n ∧ 0 < k ∧ T.getD k 0 = (i : Int) := by
  unfold calledTo at h
  obtain ⟨k, hk, e⟩ := List.mem_map.mp h
  rw [List.mem_filter] at hk
  obtain ⟨h1, h2⟩ := hk
  simp only [Bool.and_eq_true, decide_eq_true_eq] at h2
  exact ⟨k, e.symm, List.mem_range.mp h1, h2.1, h2.2⟩
theorem called_lt {T : List Int} {i : Nat} {x : Int} (h : x ∈ called T i) : 0 ≤ x ∧ x < T.length := by
  obtain ⟨k, e, h1, _⟩ := mem_calledTo h
  omega
theorem calledTo_length (T : List Int) (n i : Nat) : (calledTo T n i).length ≤ n := by
  unfold calledTo
  rw [List.length_map]
  exact Nat.le_trans (List.length_filter_le _ _) (Nat.le_of_eq List.length_range)
theorem called_length (T : List Int) (i : Nat) : (called T i).length ≤ T.length := calledTo_length T _ i
theorem called_sorted (T : List Int) (i : Nat) : (called T i).Pairwise (· ≤ ·) := by
  unfold called calledTo
  rw [List.pairwise_map]
  refine List.Pairwise.filter _ ?_
  exact List.Pairwise.imp (fun h => by omega) List.pairwise_lt_range
/-! ### sorting -/
def asc (xs : List Int) : List Int := xs.mergeSort (fun a b => decide (a ≤ b))
theorem asc_perm (xs : List Int) : (asc xs).Perm xs := List.mergeSort_perm _ _
theorem asc_sorted (xs : List Int) : (asc xs).Pairwise (· ≤ ·) := by
  have z := List.pairwise_mergeSort (le := fun (a b : Int) => decide (a ≤ b)) (fun a b c h1 h2 => by simp only [decide_eq_true_eq] at *; omega) (fun a b => by simp only [Bool.or_eq_true, decide_eq_true_eq]; omega) xs
  exact List.Pairwise.imp (fun h => by simpa using h) z
theorem asc_uniq {xs ys : List Int} (hp : ys.Perm xs) (hs : ys.Pairwise (· ≤ ·)) : ys = asc xs := PySem.W.ksm_same (hp.trans (asc_perm xs).symm) hs (asc_sorted xs)
def dsc (xs : List Int) : List Int := (asc xs).reverse
theorem dsc_perm (xs : List Int) : (dsc xs).Perm xs := (List.reverse_perm _).trans (asc_perm xs)
theorem dsc_length (xs : List Int) : (dsc xs).length = xs.length := (dsc_perm xs).length_eq
theorem dsc_uniq {xs ys : List Int} (hp : ys.Perm xs) (hs : ys.Pairwise (fun a b => b ≤ a)) : ys = dsc xs := by
  have z : ys.reverse = asc xs := asc_uniq ((List.reverse_perm _).trans hp) (by rw [List.pairwise_reverse]; exact hs)
  unfold dsc
  rw [← z, List.reverse_reverse]
theorem map_int_inj {xs ys : List Int} (h : xs.map V.int = ys.map V.int) : xs = ys := by
  induction xs generalizing ys with
  | nil => cases ys with
    | nil => rfl
    | cons => cases h
  | cons x r ih => cases ys with
    | nil => cases h
    | cons y s =>
      simp only [List.map_cons, List.cons.injEq, V.int.injEq] at h
      rw [h.1, ih h.2]
/-! ### orders -/
def rowOk (due : List Int) : PyData → Bool
  | .tuple es => (es.all fun e => isW e 0 none) && decide (asc (es.map iv) = due)
  | _ => false
def isOrd (T : List Int) : PyData → Bool
  | .tuple ds => decide (ds.length = T.length) && (List.range T.length).all fun i => rowOk (called T i) (ds.getD i .none)
  | _ => false
def rowOf : PyData → List Int
  | .tuple es => es.map iv
  | _ => []
def rowsOf : PyData → List (List Int)
  | .tuple ds => ds.map rowOf
  | _ => []
def rD (r : List Int) : PyData := .tuple (r.map PyData.int)
def oD (R : List (List Int)) : PyData := .tuple (R.map rD)
structure OrdOk (T : List Int) (R : List (List Int)) : Prop where
  len : R.length = T.length
  row : ∀ i, i < R.length → ((R.getD i []).Perm (called T i))
theorem iv_map (xs : List Int) : (xs.map PyData.int).map iv = xs := by
  rw [List.map_map]
  have z : (iv ∘ PyData.int) = id := rfl
  rw [z, List.map_id]
theorem ints_of_whole {lo : Int} {hi : Option Int} : ∀ {es : List PyData}, (es.all fun e => isW e lo hi) = true → es = (es.map iv).map PyData.int
  | [], _ => rfl
  | e :: r, h => by
    rw [List.all_cons, Bool.and_eq_true] at h
    have z := ints_of_whole h.2
    simp only [List.map_cons]
    rw [← z]
    cases e with
    | int i => rfl
    | _ => cases h.1
theorem rowOk_perm {due : List Int} {d : PyData} (h : rowOk due d = true) : d = rD (rowOf d) ∧ (rowOf d).Perm due := by
  cases d with
  | tuple es =>
    unfold rowOk at h
    rw [Bool.and_eq_true, decide_eq_true_eq] at h
    refine ⟨?_, ?_⟩
    · show PyData.tuple es = PyData.tuple ((es.map iv).map PyData.int)
      rw [← ints_of_whole h.1]
    · show (es.map iv).Perm due
      rw [← h.2]
      exact (asc_perm _).symm
  | _ => cases h
theorem ord_of {T : List Int} {d : PyData} (h : isOrd T d = true) : d = oD (rowsOf d) ∧ OrdOk T (rowsOf d) := by
  cases d with
  | tuple ds =>
    unfold isOrd at h
    rw [Bool.and_eq_true, decide_eq_true_eq, List.all_eq_true] at h
    obtain ⟨hl, hr⟩ := h
    have row : ∀ i, (hi : i < ds.length) → ds[i] = rD (rowOf ds[i]) ∧ (rowOf ds[i]).Perm (called T i) := fun i hi => by
      have z := hr i (List.mem_range.mpr (by omega))
      rw [List.getD_eq_getElem?_getD, List.getElem?_eq_getElem hi] at z
      exact rowOk_perm z
    refine ⟨?_, ?_, fun i hi => ?_⟩
    · show PyData.tuple ds = PyData.tuple ((ds.map rowOf).map rD)
      congr 1
      rw [List.map_map]
      refine List.ext_getElem (by rw [List.length_map]) fun i h1 h2 => ?_
      rw [List.getElem_map]
      exact (row i h1).1
    · show (ds.map rowOf).length = _
      rw [List.length_map, hl]
    · have hi' : i < (ds.map rowOf).length := hi
      have hi2 := hi'
      rw [List.length_map] at hi2
      show ((ds.map rowOf).getD i []).Perm _
      rw [List.getD_eq_getElem?_getD, List.getElem?_eq_getElem hi', List.getElem_map]
      exact (row i hi2).2
  | _ => cases h
theorem ord_to {T : List Int} {R : List (List Int)} (h : OrdOk T R) : isOrd T (oD R) = true := by
  unfold oD isOrd
  rw [Bool.and_eq_true, decide_eq_true_eq, List.all_eq_true, List.length_map]
  refine ⟨h.len, fun i hi => ?_⟩
  have hi' : i < R.length := by rw [h.len]; exact List.mem_range.mp hi
  have p := h.row i hi'
  rw [List.getD_eq_getElem?_getD, List.getElem?_eq_getElem hi'] at p
  rw [List.getD_eq_getElem?_getD, List.getElem?_map, List.getElem?_eq_getElem hi']
  show rowOk (called T i) (rD R[i]) = true
  have p' : R[i].Perm (called T i) := p
  unfold rD rowOk
  rw [Bool.and_eq_true, decide_eq_true_eq, iv_map]
  refine ⟨?_, (asc_uniq p'.symm (called_sorted T i)).symm⟩
  rw [List.all_eq_true]
  intro e he
  obtain ⟨x, hx, rfl⟩ := List.mem_map.mp he
  have z := (called_lt (p'.mem_iff.mp hx)).1
  simp [isW, z]
theorem OrdOk.place {T : List Int} {R : List (List Int)} (h : OrdOk T R) {i : Nat} (hi : i < R.length) {x : Int} (hx : x ∈ R.getD i []) : 0 ≤ x ∧ x < T.length := called_lt ((h.row i hi).mem_iff.mp hx)
theorem OrdOk.short {T : List Int} {R : List (List Int)} (h : OrdOk T R) {i : Nat} (hi : i < R.length) : (R.getD i []).length ≤ T.length := by
  rw [(h.row i hi).length_eq]
  exact called_length T i
/-- the law's own bound of 99 changes nothing -/
def rowOk99 (due : List Int) : PyData → Bool
  | .tuple es => (es.all fun e => isW e 0 (some 99)) && decide (asc (es.map iv) = due)
  | _ => false
theorem rowOk99_eq {T : List Int} (g : Good T) (i : Nat) (d : PyData) : rowOk99 (called T i) d = rowOk (called T i) d := by
  cases d with
  | tuple es =>
    simp only [rowOk99, rowOk]
    by_cases hs : asc (es.map iv) = called T i
    · rw [decide_eq_true hs, Bool.and_true, Bool.and_true]
      have mem : ∀ e ∈ es, 0 ≤ iv e ∧ iv e < 40 := fun e he => by
        have z : iv e ∈ called T i := by
          rw [← hs]
          exact (asc_perm _).mem_iff.mpr (List.mem_map.mpr ⟨e, he, rfl⟩)
        have := called_lt z
        have := g.le
        omega
      rw [Bool.eq_iff_iff, List.all_eq_true, List.all_eq_true]
      refine forall_congr' fun e => forall_congr' fun he => ?_
      have z := mem e he
      cases e with
      | int c =>
        simp only [isW, iv] at z ⊢
        simp
        intro
        omega
      | _ => exact Iff.rfl
    · rw [decide_eq_false hs, Bool.and_false, Bool.and_false]
  | _ => rfl
/-! ### the time -/
def rowGo (number : Nat) : Nat → List Int → List Int → List Int
  | _, [], m => m
  | t, x :: r, m => rowGo number (t + 1) r (m.set x.toNat (m.getD number 0 + t + 1))
def rowsGo : Nat → List (List Int) → List Int → List Int
  | _, [], m => m
  | n, r :: rs, m => rowsGo (n + 1) rs (rowGo n 0 r m)
def maxL (xs : List Int) : Int := (xs.max?).getD 0
theorem maxL_of {xs : List Int} {m : Int} (h1 : m ∈ xs) (h2 : ∀ x ∈ xs, x ≤ m) : m = maxL xs := by
  unfold maxL
  have z : xs.max? = some m := List.max?_eq_some_iff.mpr ⟨h1, h2⟩
  rw [z]
  rfl
def timeIn (T : List Int) (R : List (List Int)) : Int := maxL (rowsGo 0 R (List.replicate T.length 0))
theorem rowGo_length (n : Nat) : ∀ (t : Nat) (r m : List Int), (rowGo n t r m).length = m.length
  | _, [], _ => rfl
  | t, x :: r, m => by
    unfold rowGo
    rw [rowGo_length n (t + 1) r, List.length_set]
theorem rowsGo_length : ∀ (n : Nat) (R : List (List Int)) (m : List Int), (rowsGo n R m).length = m.length
  | _, [], _ => rfl
  | n, r :: rs, m => by
    unfold rowsGo
    rw [rowsGo_length (n + 1) rs, rowGo_length]
def Within (B : Int) (m : List Int) : Prop := ∀ x ∈ m, 0 ≤ x ∧ x ≤ B
theorem Within.getD {B : Int} {m : List Int} (h : Within B m) (hB : 0 ≤ B) (i : Nat) : 0 ≤ m.getD i 0 ∧ m.getD i 0 ≤ B := by
  rw [List.getD_eq_getElem?_getD]
  cases e : m[i]? with
  | none => exact ⟨Int.le_refl _, hB⟩
  | some x => exact h x (List.mem_of_getElem? e)
theorem rowGo_within (n : Nat) : ∀ (t : Nat) (r m : List Int) (B : Int), 0 ≤ B → Within B m → Within (B + r.length * (t + r.length)) (rowGo n t r m)
  | _, [], m, B, _, h => by
    simpa [rowGo] using h
  | t, x :: r, m, B, hB, h => by
    unfold rowGo
    have g := h.getD hB n
    have z := rowGo_within n (t + 1) r (m.set x.toNat (m.getD n 0 + t + 1)) (B + (t + 1)) (by omega) fun y hy => by
      rcases List.mem_or_eq_of_mem_set hy with q | q
      · have := h y q
        omega
      · subst q
        omega
    intro y hy
    have q := z y hy
    refine ⟨q.1, Int.le_trans q.2 ?_⟩
    simp only [List.length_cons, Int.natCast_add, Int.natCast_one]
    have hl : (0 : Int) ≤ r.length := Int.natCast_nonneg _
    generalize (r.length : Int) = l at hl ⊢
    rw [Int.add_mul, Int.one_mul]
    rw [show (t : Int) + 1 + l = (t : Int) + (l + 1) by omega]
    generalize l * ((t : Int) + (l + 1)) = u
    omega
theorem rowsGo_within : ∀ (n : Nat) (R : List (List Int)) (m : List Int) (B : Int), 0 ≤ B → (∀ r ∈ R, r.length ≤ 40) → Within B m → Within (B + R.length * 1600) (rowsGo n R m)
  | _, [], m, B, _, _, h => by
    simpa [rowsGo] using h
  | n, r :: rs, m, B, hB, hR, h => by
    unfold rowsGo
    have hr := hR r List.mem_cons_self
    have q := rowGo_within n 0 r m B hB h
    have sq : (r.length : Int) * (0 + r.length) ≤ 1600 := by
      have z : r.length * r.length ≤ 40 * 40 := Nat.mul_le_mul hr hr
      have z2 : ((r.length * r.length : Nat) : Int) ≤ ((40 * 40 : Nat) : Int) := by exact_mod_cast z
      simpa using z2
    have z := rowsGo_within (n + 1) rs (rowGo n 0 r m) (B + 1600) (by omega) (fun r' h' => hR r' (List.mem_cons_of_mem _ h')) fun y hy => by
      have := q y hy
      simp only [Int.natCast_zero] at this
      omega
    intro y hy
    have := z y hy
    simp only [List.length_cons]
    omega
theorem timeIn_bound {T : List Int} {R : List (List Int)} (g : Good T) (h : OrdOk T R) : 0 ≤ timeIn T R ∧ timeIn T R ≤ 64000 := by
  have w := rowsGo_within 0 R (List.replicate T.length 0) 0 (Int.le_refl _) (fun r hr => by
    obtain ⟨i, hi, e⟩ := List.getElem_of_mem hr
    have z := h.short hi
    rw [List.getD_eq_getElem?_getD, List.getElem?_eq_getElem hi] at z
    have z' : R[i].length ≤ T.length := z
    rw [e] at z'
    exact Nat.le_trans z' g.le) (fun x hx => by
    rw [List.mem_replicate] at hx
    rw [hx.2]
    exact ⟨Int.le_refl _, Int.le_refl _⟩)
  have hl : (R.length : Int) ≤ 40 := by
    have := h.len
    have := g.le
    omega
  unfold timeIn maxL
  cases e : (rowsGo 0 R (List.replicate T.length 0)).max? with
  | none => exact ⟨Int.le_refl _, by decide⟩
  | some m =>
    have q := w m (List.max?_eq_some_iff.mp e).1
    exact ⟨q.1, Int.le_trans q.2 (by omega)⟩
/-! ### the picks -/
def arePk (T : List Int) : PyData → Bool
  | .tuple ds => decide (ds.length = T.length) && (List.range T.length).all fun i => isW (ds.getD i .none) (if called T i = [] then 0 else 1) (some (called T i).length)
  | _ => false
def picksOf : PyData → List Int
  | .tuple ds => ds.map iv
  | _ => []
def nStep (T P found : List Int) (n : Nat) : List Int :=
  if 0 < P.getD n 0 then found.set n (P.getD n 0 + (dsc ((called T n).map fun x => found.getD x.toNat 0)).getD (P.getD n 0 - 1).toNat 0) else found
def needTo (T P : List Int) : Nat → List Int
  | 0 => List.replicate T.length 0
  | j + 1 => nStep T P (needTo T P j) (T.length - 1 - j)
def needBy (T P : List Int) : Int := (needTo T P T.length).getD 0 0
theorem nStep_length (T P found : List Int) (n : Nat) : (nStep T P found n).length = found.length := by
  unfold nStep
  split
  · rw [List.length_set]
  · rfl
theorem needTo_length (T P : List Int) : ∀ j, (needTo T P j).length = T.length
  | 0 => List.length_replicate
  | j + 1 => by
    unfold needTo
    rw [nStep_length, needTo_length T P j]
/-- what is not yet walked is 0 -/
theorem needTo_zero (T P : List Int) : ∀ j n, n + j < T.length → (needTo T P j).getD n 0 = 0
  | 0, n, h => by
    unfold needTo
    rw [List.getD_eq_getElem?_getD, List.getElem?_replicate]
    split <;> rfl
  | j + 1, n, h => by
    unfold needTo nStep
    split
    · have ne : T.length - 1 - j ≠ n := by omega
      rw [List.getD_eq_getElem?_getD, List.getElem?_set_ne ne, ← List.getD_eq_getElem?_getD]
      exact needTo_zero T P j n (by omega)
    · exact needTo_zero T P j n (by omega)
theorem pk_of {T : List Int} {d : PyData} (h : arePk T d = true) : d = rD (picksOf d) ∧ (picksOf d).length = T.length ∧ ∀ i, i < T.length → (if called T i = [] then (0 : Int) else 1) ≤ (picksOf d).getD i 0 ∧ (picksOf d).getD i 0 ≤ (called T i).length := by
  cases d with
  | tuple ds =>
    unfold arePk at h
    rw [Bool.and_eq_true, decide_eq_true_eq, List.all_eq_true] at h
    obtain ⟨hl, hr⟩ := h
    have row : ∀ i, (hi : i < ds.length) → ds[i] = .int (iv ds[i]) ∧ (if called T i = [] then (0 : Int) else 1) ≤ iv ds[i] ∧ iv ds[i] ≤ (called T i).length := fun i hi => by
      have z := hr i (List.mem_range.mpr (by omega))
      rw [List.getD_eq_getElem?_getD, List.getElem?_eq_getElem hi] at z
      have z' : isW ds[i] (if called T i = [] then 0 else 1) (some (called T i).length) = true := z
      revert z'
      cases ds[i] with
      | int c =>
        intro z'
        simp only [isW, Bool.and_eq_true, decide_eq_true_eq] at z'
        exact ⟨rfl, z'⟩
      | _ => intro z'; cases z'
    refine ⟨?_, ?_, fun i hi => ?_⟩
    · show PyData.tuple ds = PyData.tuple ((ds.map iv).map PyData.int)
      congr 1
      rw [List.map_map]
      refine List.ext_getElem (by rw [List.length_map]) fun i h1 h2 => ?_
      rw [List.getElem_map]
      exact (row i h1).1
    · show (ds.map iv).length = _
      rw [List.length_map, hl]
    · have hi' : i < ds.length := by omega
      show _ ≤ (ds.map iv).getD i 0 ∧ (ds.map iv).getD i 0 ≤ _
      rw [List.getD_eq_getElem?_getD, List.getElem?_map, List.getElem?_eq_getElem hi']
      exact (row i hi').2
  | _ => cases h
/-! ### the paper -/
def chk (T : List Int) : PyData → Str ⊕ Int
  | .tuple [o, p] => if isOrd T o = true then (if arePk T p = true ∧ needBy T (picksOf p) = timeIn T (rowsOf o) then .inr (timeIn T (rowsOf o)) else .inl "picks") else .inl "order"
  | _ => .inl "form"
def chkV : Str ⊕ Int → V
  | .inl x => .str x
  | .inr i => .int i
theorem chk_form {T : List Int} {d : PyData} (h : ∀ o p, d ≠ .tuple [o, p]) : chk T d = .inl "form" := by
  unfold chk
  split
  · rename_i o p
    exact absurd rfl (h o p)
  · rfl
theorem chk_small {T : List Int} {d : PyData} {i : Int} (g : Good T) (h : chk T d = .inr i) : 0 ≤ i ∧ i ≤ 64000 := by
  unfold chk at h
  split at h
  · rename_i o p
    by_cases ho : isOrd T o = true
    · rw [if_pos ho] at h
      split at h
      · cases h
        exact timeIn_bound g (ord_of ho).2
      · cases h
    · rw [if_neg ho] at h
      cases h
  · cases h
end K10
set_option Elab.async false
set_option linter.all false
set_option maxRecDepth 100000
set_option maxHeartbeats 4000000
/-! data in the heap -/
namespace L2
open PySem PySem.Spec PyProof.Rows LamX K10
theorem extN_sqT {K : PySem.W.Frag} {H H' : Hp} {a : Addr} {xs : List V} (e : ExtN H H') (h : SqT K H a xs) : SqT K H' a xs := by
  rcases h with (h | ⟨o, h⟩) | h
  · exact .inl (.inl (e _ _ h fun ps z => by cases z))
  · exact .inl (.inr ⟨o, e _ _ h fun ps z => by cases z⟩)
  · exact .inr h
mutual
theorem Dp.ext {K : PySem.W.Frag} {A B : Hp} (e : ExtN A B) : ∀ (d : PyData) (v : V), Dp K A v d → Dp K B v d
  | .none, _, h => by cases h; exact .non
  | .bool _, _, h => by cases h; exact .bl _
  | .int _, _, h => by cases h; exact .int _
  | .str _, _, h => by cases h; exact .str _
  | .list ds, _, h => by
    cases h with
    | lst hs ha => exact .lst (K10.extN_sqL e hs) (DpAll.ext e ds _ ha)
  | .tuple ds, _, h => by
    cases h with
    | tup hs ha => exact .tup (extN_sqT e hs) (DpAll.ext e ds _ ha)
  | .dict _, _, h => by cases h
theorem DpAll.ext {K : PySem.W.Frag} {A B : Hp} (e : ExtN A B) : ∀ (ds : List PyData) (vs : List V), DpAll K A vs ds → DpAll K B vs ds
  | [], _, h => by cases h; exact .nil
  | d :: ds, _, h => by
    cases h with
    | cons h1 h2 => exact .cons (Dp.ext e d _ h1) (DpAll.ext e ds _ h2)
end
theorem Dp.same {K : PySem.W.Frag} {A B : Hp} {d : PyData} {v : V} (h : Dp K A v d) (e : Same A B) : Dp K B v d := Dp.ext (ExtN.of e) d v h
theorem Dp.extN {K : PySem.W.Frag} {A B : Hp} {d : PyData} {v : V} (h : Dp K A v d) (e : ExtN A B) : Dp K B v d := Dp.ext e d v h
theorem DpAll.same {K : PySem.W.Frag} {A B : Hp} {d : List PyData} {v : List V} (h : DpAll K A v d) (e : Same A B) : DpAll K B v d := DpAll.ext (ExtN.of e) d v h
theorem DpAll.extN {K : PySem.W.Frag} {A B : Hp} {d : List PyData} {v : List V} (h : DpAll K A v d) (e : ExtN A B) : DpAll K B v d := DpAll.ext e d v h
theorem Same.tup {K : PySem.W.Frag} {H H' : Hp} {a : Addr} {xs : List V} (e : Same H H') (h : SqT K H a xs) : SqT K H' a xs := extN_sqT (ExtN.of e) h
/-- a new object is laid -/
theorem Same.upd {H : Hp} {p : Addr} {o : HO} (h : H p = none) : Same H (upd H p o) := fun b u e => by rw [upd_ne (ne_of_none e h)]; exact e
theorem Same.updR {H H' : Hp} {p : Addr} {o : HO} (e : Same H H') (h : H p = none) : Same H (L2.upd H' p o) := fun b u q => by rw [upd_ne (ne_of_none q h)]; exact e b u q
section
variable {K : PySem.W.Frag} {H : Hp} {v : V}
theorem dp_tup {ds : List PyData} (h : Dp K H v (.tuple ds)) : ∃ a xs, v = .ref a ∧ SqT K H a xs ∧ DpAll K H xs ds := by
  cases h with
  | tup hs ha => exact ⟨_, _, rfl, hs, ha⟩
theorem dp_lst {ds : List PyData} (h : Dp K H v (.list ds)) : ∃ a xs, v = .ref a ∧ SqL K H a xs ∧ DpAll K H xs ds := by
  cases h with
  | lst hs ha => exact ⟨_, _, rfl, hs, ha⟩
theorem DpAll.len : ∀ {xs : List V} {ds : List PyData}, DpAll K H xs ds → xs.length = ds.length
  | _, _, .nil => rfl
  | _, _, .cons _ t => by rw [List.length_cons, List.length_cons, DpAll.len t]
theorem DpAll.at : ∀ {xs : List V} {ds : List PyData} {i : Nat} {x : V}, DpAll K H xs ds → xs[i]? = some x → i < ds.length ∧ Dp K H x (ds.getD i .none)
  | _, _, _, _, .nil, e => by simp at e
  | _, _, 0, _, .cons r _, e => by
    simp at e
    subst e
    exact ⟨by simp, r⟩
  | _, _, i + 1, x, .cons _ t, e => by
    obtain ⟨h1, h2⟩ := DpAll.at (i := i) (x := x) t (by simpa using e)
    exact ⟨by simpa using h1, by simpa using h2⟩
theorem DpAll.get : ∀ {xs : List V} {ds : List PyData} {i : Nat}, DpAll K H xs ds → i < ds.length → ∃ x, xs[i]? = some x ∧ Dp K H x (ds.getD i .none)
  | _, _, _, .nil, e => by simp at e
  | _, _, 0, .cons r _, e => ⟨_, rfl, r⟩
  | _, _, i + 1, .cons _ t, e => by
    obtain ⟨x, h1, h2⟩ := DpAll.get (i := i) t (by simpa using e)
    exact ⟨x, by simpa using h1, by simpa using h2⟩
theorem DpAll.append : ∀ {xs ys : List V} {ds es : List PyData}, DpAll K H xs ds → DpAll K H ys es → DpAll K H (xs ++ ys) (ds ++ es)
  | _, _, _, _, .nil, s => s
  | _, _, _, _, .cons r t, s => .cons r (DpAll.append t s)
theorem DpAll.take : ∀ {xs : List V} {ds : List PyData} (n : Nat), DpAll K H xs ds → DpAll K H (xs.take n) (ds.take n)
  | _, _, 0, _ => .nil
  | _, _, _ + 1, .nil => .nil
  | _, _, n + 1, .cons r t => .cons r (DpAll.take n t)
theorem DpAll.drop : ∀ {xs : List V} {ds : List PyData} (n : Nat), DpAll K H xs ds → DpAll K H (xs.drop n) (ds.drop n)
  | _, _, 0, r => r
  | _, _, _ + 1, .nil => .nil
  | _, _, n + 1, .cons _ t => DpAll.drop n t
theorem DpAll.rev : ∀ {xs : List V} {ds : List PyData}, DpAll K H xs ds → DpAll K H xs.reverse ds.reverse
  | _, _, .nil => .nil
  | _, _, .cons r t => by
    rw [List.reverse_cons, List.reverse_cons]
    exact DpAll.append (DpAll.rev t) (.cons r .nil)
theorem dp_int {i : Int} (h : Dp K H v (.int i)) : v = .int i := by cases h; rfl
theorem dpAll_ints : ∀ {xs : List V} {T : List Int}, DpAll K H xs (T.map PyData.int) → xs = T.map V.int
  | _, [], h => by cases h; rfl
  | _, c :: r, h => by
    cases h with
    | cons h1 h2 =>
      rw [dp_int h1, dpAll_ints h2]
      rfl
theorem ints_dpAll : ∀ (T : List Int), DpAll K H (T.map V.int) (T.map PyData.int)
  | [] => .nil
  | c :: r => .cons (.int c) (ints_dpAll r)
theorem dp_rD {r : List Int} (h : Dp K H v (rD r)) : ∃ a, v = .ref a ∧ SqT K H a (r.map V.int) := by
  obtain ⟨a, xs, e, hs, ha⟩ := dp_tup h
  rw [dpAll_ints ha] at hs
  exact ⟨a, e, hs⟩
theorem dp_tD {T : List Int} (h : Dp K H v (tD T)) : ∃ a, v = .ref a ∧ SqT K H a (T.map V.int) := dp_rD h
theorem tD_dp {a : Addr} {T : List Int} (h : SqT K H a (T.map V.int)) : Dp K H (.ref a) (tD T) := .tup h (ints_dpAll T)
theorem lD_dp {a : Addr} {T : List Int} (h : SqL K H a (T.map V.int)) : Dp K H (.ref a) (.list (T.map PyData.int)) := .lst h (ints_dpAll T)
/-- the type's name -/
def tyN : PyData → String
  | .none => "NoneType"
  | .bool _ => "bool"
  | .int _ => "int"
  | .str _ => "str"
  | .list _ => "list"
  | .tuple _ => "tuple"
  | .dict _ => "dict"
theorem Dp.ty {d : PyData} (h : Dp K H v d) : TyX K H v (.type (tyN d)) := by
  cases h with
  | non => exact .base .non
  | bl => exact .base (.bl _)
  | int => exact .base (.int _)
  | str => exact .base (.str _)
  | lst hs _ =>
    rcases hs with (h | ⟨o, h⟩) | ⟨o, _, _, h, c, _⟩
    · exact .base (.lst h)
    · exact .base (.frz h)
    · exact .kList h c
  | tup hs _ =>
    rcases hs with (h | ⟨o, h⟩) | ⟨o, _, _, h, c, _⟩
    · exact .base (.tup h)
    · exact .fTuple h
    · exact .kTuple h c
end
end L2
namespace K10
open PySem PySem.Spec PyProof.Rows L2 LamX
section
variable {K : PySem.W.Frag} {H : Hp} {v : V}
/-- isinstance(v, a built-in class) -/
theorem isi_dp {d : PyData} {nm : String} {b : Bool} {Q : VK} (h : Dp K H v d) (hb : kitB (tyN d) nm = some b) (q : Q (.bl b) H) : rIsi K [v, .ty nm] H Q := ⟨v, .ty nm, _, _, b, rfl, .ty nm, h.ty, kit_ty hb, q⟩
def isTup : PyData → Bool
  | .tuple _ => true
  | _ => false
def isInt : PyData → Bool
  | .int _ => true
  | .bool _ => true
  | _ => false
def isBool : PyData → Bool
  | .bool _ => true
  | _ => false
theorem kit_tup : ∀ {d : PyData}, kitB (tyN d) "tuple" = some (isTup d)
  | .none => (by decide +kernel : kitB "NoneType" "tuple" = some false)
  | .bool _ => (by decide +kernel : kitB "bool" "tuple" = some false)
  | .int _ => (by decide +kernel : kitB "int" "tuple" = some false)
  | .str _ => (by decide +kernel : kitB "str" "tuple" = some false)
  | .list _ => (by decide +kernel : kitB "list" "tuple" = some false)
  | .tuple _ => (by decide +kernel : kitB "tuple" "tuple" = some true)
  | .dict _ => (by decide +kernel : kitB "dict" "tuple" = some false)
theorem kit_int : ∀ {d : PyData}, kitB (tyN d) "int" = some (isInt d)
  | .none => (by decide +kernel : kitB "NoneType" "int" = some false)
  | .bool _ => (by decide +kernel : kitB "bool" "int" = some true)
  | .int _ => (by decide +kernel : kitB "int" "int" = some true)
  | .str _ => (by decide +kernel : kitB "str" "int" = some false)
  | .list _ => (by decide +kernel : kitB "list" "int" = some false)
  | .tuple _ => (by decide +kernel : kitB "tuple" "int" = some false)
  | .dict _ => (by decide +kernel : kitB "dict" "int" = some false)
theorem kit_bool : ∀ {d : PyData}, kitB (tyN d) "bool" = some (isBool d)
  | .none => (by decide +kernel : kitB "NoneType" "bool" = some false)
  | .bool _ => (by decide +kernel : kitB "bool" "bool" = some true)
  | .int _ => (by decide +kernel : kitB "int" "bool" = some false)
  | .str _ => (by decide +kernel : kitB "str" "bool" = some false)
  | .list _ => (by decide +kernel : kitB "list" "bool" = some false)
  | .tuple _ => (by decide +kernel : kitB "tuple" "bool" = some false)
  | .dict _ => (by decide +kernel : kitB "dict" "bool" = some false)
end
theorem eqvAll_ints : ∀ a b : List Int, PyData.eqvAll (a.map PyData.int) (b.map PyData.int) = decide (a = b)
  | [], [] => rfl
  | [], _ :: _ => rfl
  | _ :: _, [] => rfl
  | x :: r, y :: s => by
    simp only [List.map_cons, PyData.eqvAll, eqvAll_ints r s, PyData.eqv]
    by_cases h1 : x = y <;> by_cases h2 : r = s <;> simp [h1, h2]
theorem eqv_ints (a b : List Int) : PyData.eqv (.list (a.map PyData.int)) (.list (b.map PyData.int)) = decide (a = b) := by
  rw [PyData.eqv]
  exact eqvAll_ints a b
theorem sh_ints (a : List Int) : SeqAt.shaped (.list (a.map PyData.int)) = true := PySem.W.ke_shaped_ints a
/-! ### what is new between two heaps -/
/-- the part of B that A has not, without tables -/
def nu (A B : Hp) : Hp := fun b => match A b with | none => B b | some _ => none
theorem nu_ext {A B C : Hp} (e : ExtN B C) : ExtN (nu A B) (nu A C) := fun b o h n => by
  unfold nu at h ⊢
  cases q : A b with
  | none =>
    rw [q] at h
    simp only at h ⊢
    exact e b o h n
  | some u =>
    rw [q] at h
    cases h
theorem nu_sub {A B : Hp} : ExtN (nu A B) B := fun b o h n => by
  unfold nu at h
  cases q : A b with
  | none =>
    rw [q] at h
    exact h
  | some u =>
    rw [q] at h
    cases h
theorem nu_same {A B : Hp} : Same (nu A B) B := fun b o h => by
  unfold nu at h
  cases q : A b with
  | none =>
    rw [q] at h
    exact h
  | some u =>
    rw [q] at h
    cases h
theorem nu_old {A B : Hp} {b : Addr} (h : A b ≠ none) : nu A B b = none := by
  unfold nu
  cases q : A b with
  | none => exact absurd q h
  | some u => rfl
theorem nu_at {A B : Hp} {b : Addr} (h : A b = none) : nu A B b = B b := by
  unfold nu
  rw [h]
/-- what is new since later is new since earlier -/
theorem nu_less {A B C : Hp} (e : ∀ b, B b = none → A b = none) : ExtN (nu B C) (nu A C) := fun b o h n => by
  unfold nu at h ⊢
  cases q : B b with
  | none =>
    rw [q] at h
    rw [e b q]
    exact h
  | some u =>
    rw [q] at h
    cases h
theorem nu_tup {A B : Hp} {K : PySem.W.Frag} {p : Addr} {xs : List V} (h : A p = none) (q : B p = some (.tup xs)) : SqT K (nu A B) p xs := .of (by rw [nu_at h]; exact q)
theorem Same_isNone {A B : Hp} (e : Same A B) : ∀ b, B b = none → A b = none := fun b h => e.free h
end K10
set_option Elab.async false
set_option linter.all false
set_option maxRecDepth 100000
set_option maxHeartbeats 4000000
/-! the first defs: is_whole, need_tree, called_by -/
namespace K10
open PySem PySem.Spec PyProof.Rows L2 LamX
/-- built-in names that the module does not shadow -/
structure Nm (mg : Str → Option Value) : Prop where
  len : mg "len" = none
  isinst : mg "isinstance" = none
  tup : mg "tuple" = none
  int : mg "int" = none
  bool : mg "bool" = none
  range : mg "range" = none
  enum : mg "enumerate" = none
  zip : mg "zip" = none
  sorted : mg "sorted" = none
  max : mg "max" = none
  min : mg "min" = none
  all : mg "all" = none
  list : mg "list" = none
  repr : mg "repr" = none
  most : ∃ t, mg "MOST_PLACES" = some (.int 40 t)
def hiV : Option Int → V
  | none => .non
  | some h => .int h
def hiOk : Option Int → Int → Bool
  | none, _ => true
  | some h, i => decide (i ≤ h)
theorem isW_int (i lo : Int) (hi : Option Int) : isW (.int i) lo hi = (decide (lo ≤ i) && hiOk hi i) := by cases hi <;> rfl
/-- isinstance(e, a built-in class) -/
def tIsi (K : PySem.W.Frag) (ns : String) (te : TE) : TE := fun σ H Q => te σ H fun x H1 => rIsi K [x, .ty ns] H1 Q
section
variable {X : Cx}
theorem pe_isi {a : Expr} {ta : TE} {nm : Str} {ns : String} {p1 p2 pos : Pos} (hg : Gl X "isinstance") (hm : X.mg "isinstance" = none) (hg2 : Gl X nm) (hn : X.mg nm = none) (hb : bootBuiltins nm = some (.type ns)) (ha : PE X a ta)
    (h1 : nm ≠ "__name__" := by decide) (h2 : (nm == ("__debug__" : Str)) = false := by decide)
    (he : starEach (a :: [.Name nm p2]) X.env = (false, eval a X.env) :: starEach [.Name nm p2] X.env := by rfl) (hpl : (backTo pos (starEach [.Name nm p2] X.env)).any (·.1) = false := by rfl)
    (he2 : starEach ([.Name nm p2]) X.env = (false, eval (.Name nm p2) X.env) :: starEach [] X.env := by rfl) :
    PE X (.Call (.Name "isinstance" p1) [a, .Name nm p2] [] pos) (tIsi X.K ns ta) :=
  pe_callB call_isi hg hm (by decide +kernel) (pa_cons (hs := he) ha (pa_cons (hs := he2) (pe_bltn (v := .ty ns) hg2 hn hb rfl h1 h2) pa_nil)) (by decide) (by decide) he hpl
end
theorem if_b {b : Bool} {A B : Prop} (h1 : b = true → A) (h2 : b = false → B) : if b = true then A else B := by
  cases b with
  | true => exact iteT (h1 rfl)
  | false => exact iteF (h2 rfl)
theorem getElem?_getD {ds : List PyData} {i : Nat} (h : i < ds.length) : ds.drop i = ds.getD i .none :: ds.drop (i + 1) := by
  rw [List.getD_eq_getElem?_getD, List.getElem?_eq_getElem h]
  exact List.drop_eq_getElem_cons h
section
variable {P : Program} {w : World} {K : PySem.W.Frag} {mg : Str → Option Value} {base : Heap} (T : Nm mg)
include T
def spW (K : PySem.W.Frag) : Sp := fun vs H Q E => ∃ v d lo hi, vs = [v, .int lo, hiV hi] ∧ Dp K H v d ∧ Q (.bl (isW d lo hi)) H
theorem ok_is_whole {f : Addr} {fd : FuncData} (F : Fun K "is_whole" "is_whole" s_is_whole f fd) : FnOk P w K mg base CX0 1 f fd ["thing", "least", "most"] (spW K) := by
  refine F.ok sc_is_whole (by rintro _ _ _ _ ⟨v, d, lo, hi, rfl, _⟩; rfl) fun cdv A outer s H vs Q E hr hsp => ?_
  obtain ⟨v, d, lo, hi, rfl, hd, q⟩ := hsp
  refine ⟨_, pss_cons (ps_if (PW.pt (pw_or (pt_not (pt_val (pe_isi (ns := "int") (by rfl) T.isinst (by rfl) T.int (by decide +kernel) (pv 0))))
    (pw_or (pt_val (pe_isi (ns := "bool") (by rfl) T.isinst (by rfl) T.bool (by decide +kernel) (pv 0)))
    (pw_or1 (pt_cmpR op_lt (pv 0) (pv 1) (nomark _)))))) (pss_one (ps_ret pe_bl)) pss_nil) (pss_one (ps_ret (pe_or (pe_cmpR op_isN (pv 2) pe_non (nomark _)) (pe_one (pe_cmpR op_le (pv 0) (pv 2) (nomark _)))))), ?_⟩
  refine ⟨_, rfl, ?_⟩
  refine isi_dp hd kit_int ?_
  refine ⟨_, rfl, ?_⟩
  cases d with
  | int i =>
    refine iteF ?_
    refine ⟨_, rfl, ?_⟩
    refine isi_dp hd kit_bool ?_
    refine ⟨_, rfl, ?_⟩
    refine iteF ?_
    cases dp_int hd
    refine ⟨_, rfl, _, rfl, _, _, rfl, rfl, _, rfl, ?_⟩
    rw [isW_int] at q
    refine ite2 (fun h => ?_) fun h => ?_
    · have h' := of_decide_eq_true h
      have z : decide (lo ≤ i) = false := by simpa using h'
      rw [z] at q
      exact q
    · have h' : ¬ (i < lo) := by simpa using h
      have z : decide (lo ≤ i) = true := by simpa using h'
      rw [z, Bool.true_and] at q
      refine ⟨_, rfl, rfl, _, rfl, ?_⟩
      cases hi with
      | none => exact iteT q
      | some hh => exact iteF ⟨_, rfl, _, rfl, _, _, rfl, rfl, q⟩
  | bool b =>
    refine iteF ?_
    refine ⟨_, rfl, ?_⟩
    refine isi_dp hd kit_bool ?_
    refine ⟨_, rfl, ?_⟩
    exact iteT q
  | _ => exact iteT q
/-- need_tree: the tree itself, or BadTree with the place -/
def spNT (K : PySem.W.Frag) (CT : Addr) : Sp := fun vs H Q E => ∃ v d, vs = [v] ∧ Dp K H v d ∧ (treeBad d = none → ∀ H', Same H H' → Q v H') ∧
  ∀ x, treeBad d = some x → ∀ (H' : Hp) (dd : Addr), Same H H' → H' dd = some (.xd [("number", x)]) → E (.ref CT) (some dd) H'
theorem ok_need_tree {CT : Addr} (eT : ErrA P K mg "BadTree" "number" CT) {f : Addr} {fd : FuncData} (F : Fun K "need_tree" "need_tree" s_need_tree f fd) : FnOk P w K mg base (L2.CX P w) 2 f fd ["thing"] (spNT K CT) := by
  refine F.okX sc_need_tree (by rintro _ _ _ _ ⟨v, d, rfl, _⟩; rfl) fun cdv A outer s H vs Q E hr hsp => ?_
  obtain ⟨v, d, rfl, hd, q, qE⟩ := hsp
  obtain ⟨tm, hmost⟩ := T.most
  have nd := sc_need_tree.nd
  refine ⟨_, pss_cons (ps_if (PW.pt (pw_or (pt_not (pt_val (pe_isi (ns := "tuple") (by rfl) T.isinst (by rfl) T.tup (by decide +kernel) (pv 0))))
      (pw_or1 (pt_not (pt_chain op_le op_le pe_int (pe_callB call_len_seq (by rfl) T.len PySem.boot_len (pa_cons (pv 0) pa_nil)) (pe_glob (v := .int 40) (by rfl) hmost ⟨_, rfl⟩))))))
      (pss_one (ps_raise rfl (takes_of rfl rfl rfl rfl) (pmk_att eT hr (pa_cons pe_non pa_nil) (by rfl)))) pss_nil)
    (pss_cons (ps_for (passes_of rfl) rfl (pi_enT (by rfl) T.enum (pa_cons (pv 0) pa_nil)) (pg_tup (by rfl) (pgs_cons (pg_name (i := 1) nd rfl (Or.inl rfl)) (pgs_cons (pg_name (i := 2) nd rfl (Or.inl rfl)) pgs_nil)))
      (pss_cons (ps_if (PW.pt (pw_or (pt_not (pt_val (pe_isi (ns := "int") (by rfl) T.isinst (by rfl) T.int (by decide +kernel) (pv 2)))) (pw_or1 (pt_val (pe_isi (ns := "bool") (by rfl) T.isinst (by rfl) T.bool (by decide +kernel) (pv 2))))))
        (pss_one (ps_raise rfl (takes_of rfl rfl rfl rfl) (pmk_att eT hr (pa_cons (pv 1) pa_nil) (by rfl)))) pss_nil)
      (pss_one (ps_if (PW.pt (pw_or (PW.pt (pw_and (pt_cmpR op_eq (pv 1) pe_int (nomark _)) (pw_and1 (pt_cmpR op_ne (pv 2) (pe_un un_neg pe_int) (nomark _)))))
          (pw_or1 (PW.pt (pw_and (pt_cmpR op_gt (pv 1) pe_int (nomark _)) (pw_and1 (pt_not (pt_chain op_le op_lt pe_int (pv 2) (pv 1)))))))))
        (pss_one (ps_raise rfl (takes_of rfl rfl rfl rfl) (pmk_att eT hr (pa_cons (pv 1) pa_nil) (by rfl)))) pss_nil))))
    (pss_one (ps_ret (pv 0)))), ?_⟩
  refine ⟨_, rfl, ?_⟩
  refine isi_dp hd kit_tup ?_
  refine ⟨_, rfl, ?_⟩
  have none_bad : ∀ d', isTup d' = false → treeBad d' = some .non := fun d' h => by
    cases d' with
    | tuple _ => cases h
    | _ => rfl
  refine if_b (fun ht => iteT ⟨_, rfl, fun dd hdd => qE .non (none_bad d (by simpa using ht)) _ dd (Same.upd hdd) upd_same⟩) fun ht => ?_
  cases d with
  | tuple ds =>
    obtain ⟨a, xs, rfl, hs, ha⟩ := dp_tup hd
    have hl := ha.len
    refine ⟨_, rfl, _, _, rfl, .inr hs, _, _, rfl, rfl, _, rfl, ?_⟩
    have eB : treeBad (.tuple ds) = if 1 ≤ ds.length ∧ ds.length ≤ 40 then (firstBad 0 ds).map (fun k => V.int (k : Nat)) else some .non := rfl
    have bad0 : ¬ (1 ≤ ds.length ∧ ds.length ≤ 40) → ∀ dd, H dd = none → E (.ref CT) (some dd) (upd H dd (.xd [("number", .non)])) := fun h dd hdd => qE .non (by rw [eB, if_neg h]) _ dd (Same.upd hdd) upd_same
    refine if_b (fun h1 => ?_) fun h1 => ?_
    · refine ⟨_, _, rfl, rfl, _, rfl, ?_⟩
      have h1' := of_decide_eq_true h1
      refine if_b (fun h2 => ⟨_, rfl, bad0 fun z => ?_⟩) fun h2 => ?_
      · have h2' : decide ((xs.length : Int) ≤ 40) = false := by simpa using h2
        have := of_decide_eq_false h2'
        omega
      have h2' : decide ((xs.length : Int) ≤ 40) = true := by simpa using h2
      have h3 := of_decide_eq_true h2'
      rw [if_pos (by omega)] at eB
      refine ⟨_, rfl, a, xs, rfl, hs, ?_⟩
      refine for_it (walk_enT (xs := xs)) (Pv := fun i σ G => ∃ o1 o2, σ = [some (.ref a), o1, o2] ∧ Same H G ∧ firstBad 0 ds = firstBad i (ds.drop i)) ⟨none, none, rfl, Same.refl H, rfl⟩ (fun i σ G _ h => ?_) (fun i x σ G G' hi hp hy => ?_) fun σ G hp => ?_
      · obtain ⟨_, _, _, sm, _⟩ := h
        exact sm.tup hs
      · obtain ⟨o1, o2, rfl, sm, fb⟩ := hp
        obtain ⟨Tp, x1, x2, rfl, hT, rfl, e1, hx⟩ := hy
        cases e1
        have sm' : Same H (upd G Tp (.tup [.int (i : Nat), x2])) := sm.updR (sm.free hT)
        obtain ⟨hlt, hdx⟩ := ha.at hx
        have hdx' := hdx.same sm'
        refine ⟨Tp, _, rfl, SqT.of upd_same, rfl, ?_⟩
        refine ⟨_, _, rfl, _, _, rfl, rfl, ?_⟩
        have unf : firstBad i (ds.drop i) = if placeBad i (ds.getD i .none) = true then some i else firstBad (i + 1) (ds.drop (i + 1)) := by
          rw [getElem?_getD hlt]
          rfl
        have bad : placeBad i (ds.getD i .none) = true → ∀ dd, (upd G Tp (.tup [.int (i : Nat), x2])) dd = none → E (.ref CT) (some dd) (upd (upd G Tp (.tup [.int (i : Nat), x2])) dd (.xd [("number", .int (i : Nat))])) := fun h dd hdd =>
          qE (.int (i : Nat)) (by rw [eB, fb, unf, if_pos h]; rfl) _ dd (sm'.updR (sm'.free hdd)) upd_same
        generalize hde : ds.getD i .none = de at *
        refine ⟨_, rfl, ?_⟩
        refine isi_dp hdx' kit_int ?_
        refine ⟨_, rfl, ?_⟩
        refine if_b (fun ht => iteT ⟨_, rfl, _, rfl, bad ?_⟩) fun ht => ?_
        · cases de with
          | int _ => cases ht
          | bool _ => cases ht
          | _ => rfl
        refine ⟨_, rfl, ?_⟩
        refine isi_dp hdx' kit_bool ?_
        refine ⟨_, rfl, ?_⟩
        refine if_b (fun ht => ?_) fun ht2 => ?_
        · refine ⟨_, rfl, _, rfl, bad ?_⟩
          cases de with
          | bool _ => rfl
          | _ => cases ht
        cases de with
        | int c =>
          cases dp_int hdx'
          have good : placeBad i (.int c) = false → ∃ o3 o4, (([some (V.ref a), o1, o2].set 1 (some (V.int (i : Nat)))).set 2 (some (V.int c))) = [some (V.ref a), o3, o4] ∧ Same H (upd G Tp (.tup [.int (i : Nat), .int c])) ∧ firstBad 0 ds = firstBad (i + 1) (ds.drop (i + 1)) := fun h => by
            refine ⟨_, _, rfl, sm', ?_⟩
            rw [fb, unf, if_neg (by rw [h]; decide)]
          refine ⟨_, rfl, rfl, _, rfl, ?_⟩
          refine if_b (fun h4 => ?_) fun h4 => ?_
          · have i0 : i = 0 := by
              have z := of_decide_eq_true h4
              have z2 : (i : Int) = 0 := by injection z
              omega
            subst i0
            refine ⟨_, rfl, _, rfl, rfl, _, rfl, ?_⟩
            refine if_b (fun h5 => ?_) fun h5 => ?_
            · refine iteT ?_
              refine ⟨_, rfl, _, rfl, bad ?_⟩
              have z : V.int c ≠ V.int (-1) := by simpa using h5
              have z2 : c ≠ -1 := fun q => z (by rw [q])
              simp [placeBad, z2]
            · refine ⟨_, rfl, _, _, rfl, rfl, _, rfl, ?_⟩
              refine if_b (fun h8 => absurd (of_decide_eq_true h8) (by decide)) fun _ => ?_
              refine iteF ?_
              have z : V.int c = V.int (-1) := by simpa using h5
              injection z with z
              refine good ?_
              simp [placeBad, z]
          · have i0 : 0 < i := by
              have z := of_decide_eq_false h4
              have z2 : ¬ (i : Int) = 0 := fun q => z (by rw [q])
              omega
            have ine : i ≠ 0 := by omega
            refine iteF ?_
            refine ⟨_, rfl, _, _, rfl, rfl, _, rfl, ?_⟩
            refine if_b (fun _ => ?_) fun h5 => absurd (of_decide_eq_false h5) (by omega)
            refine ⟨_, rfl, _, _, rfl, rfl, _, rfl, ?_⟩
            refine if_b (fun h6 => ?_) fun h6 => ?_
            · refine ⟨_, rfl, _, _, rfl, rfl, _, rfl, ?_⟩
              have h6' := of_decide_eq_true h6
              refine if_b (fun h7 => ?_) fun h7 => ?_
              · refine ⟨_, rfl, _, rfl, bad ?_⟩
                have z : ¬ (c < (i : Int)) := by simpa using h7
                simp [placeBad, i0, ine, h6', z]
              · refine good ?_
                have z : (c < (i : Int)) := by simpa using h7
                simp [placeBad, i0, ine, h6', z]
            · refine ⟨_, rfl, iteT ⟨_, rfl, _, rfl, bad ?_⟩⟩
              have h6' := of_decide_eq_false h6
              simp [placeBad, i0, ine, h6']
        | bool _ => cases ht2
        | _ => cases ht
      · obtain ⟨o1, o2, rfl, sm, fb⟩ := hp
        refine ⟨_, rfl, q ?_ _ sm⟩
        rw [eB, fb, hl, List.drop_length]
        rfl
    · refine ⟨_, rfl, iteT ⟨_, rfl, bad0 fun z => ?_⟩⟩
      have := of_decide_eq_false h1
      omega
  | _ => cases ht
end
end K10
set_option Elab.async false
set_option linter.all false
set_option maxRecDepth 100000
set_option maxHeartbeats 4000000
/-! called_by -/
namespace K10
open PySem PySem.Spec PyProof.Rows L2 LamX
/-- at p: the lists of who is called by whom -/
def CB (K : PySem.W.Frag) (T : List Int) (H : Hp) (p : Addr) : Prop := ∃ ls : List Addr, ls.length = T.length ∧ SqL K H p (ls.map V.ref) ∧ ∀ i a, ls[i]? = some a → SqL K H a ((called T i).map V.int)
theorem tYes_of {σ : L2.St} {H : Hp} {Q : Bool → Hp → Prop} (h : Q true H) : tYes σ H Q := h
theorem CB.extN {K : PySem.W.Frag} {T : List Int} {A B : Hp} {p : Addr} (h : CB K T A p) (e : ExtN A B) : CB K T B p := by
  obtain ⟨ls, h1, h2, h3⟩ := h
  exact ⟨ls, h1, extN_sqL e h2, fun i a q => extN_sqL e (h3 i a q)⟩
theorem CB.same {K : PySem.W.Frag} {T : List Int} {A B : Hp} {p : Addr} (h : CB K T A p) (e : Same A B) : CB K T B p := h.extN (ExtN.of e)
/-- the list of lists while it is filled -/
structure Fill (T : List Int) (H G : Hp) (D : Addr) (ls : List Addr) (n : Nat) : Prop where
  same : Same H G
  len : ls.length = T.length
  top : G D = some (.lst (ls.map V.ref))
  nodup : ls.Nodup
  ne : ∀ a ∈ ls, H a = none ∧ a ≠ D
  row : ∀ i a, ls[i]? = some a → G a = some (.lst ((calledTo T n i).map V.int))
section
variable {P : Program} {w : World} {K : PySem.W.Frag} {mg : Str → Option Value} {base : Heap} (T : Nm mg)
include T
def spCB (K : PySem.W.Frag) : Sp := fun vs H Q E => ∃ a t, vs = [.ref a] ∧ Good t ∧ SqT K H a (t.map V.int) ∧ ∀ H' p, Same H H' → H p = none → CB K t (nu H H') p → Q (.ref p) H'
theorem ok_called_by {f : Addr} {fd : FuncData} (F : Fun K "called_by" "called_by" s_called_by f fd) : FnOk P w K mg base CX0 1 f fd ["tree"] (spCB K) := by
  refine F.ok sc_called_by (by rintro _ _ _ _ ⟨a, t, rfl, _⟩; rfl) fun cdv A outer s H vs Q E hr hsp => ?_
  obtain ⟨a, t, rfl, g, hs, q⟩ := hsp
  have nd := sc_called_by.nd
  refine ⟨_, pss_cons (ps_setLc (i := 1) (own := [("caller", 3)]) (g := gName 3) (tt := tYes) rfl nd rfl rfl (sw_true rfl rfl rfl (by decide +kernel)) (pi_tup (pv 0)) (blkOk_by (N := n_called_by) (sc := defScope s_called_by) (by decide +kernel)) (fun _ _ _ _ _ => pg_name (i := 3) nd rfl (Or.inl rfl)) (fun _ _ _ _ _ => pts_nil) (fun _ _ _ _ _ => pe_lst pa_nil))
    (pss_cons (ps_for PassesOwn.never rfl (pi_range2 (by rfl) T.range (pa_cons pe_int (pa_cons (pe_callB call_len_seq (by rfl) T.len PySem.boot_len (pa_cons (pv 0) pa_nil)) pa_nil))) (pg_name (i := 2) nd rfl (Or.inl rfl))
      (pss_one (ps_expr (pe_bm PySem.F.plainAttrs_list PySem.F.slot_list_append PySem.F.type_list_append mt_append (pe_ix ix_list (pv 1) (pe_ix ix_tup (pv 0) (pv 2) (fun _ _ => rfl)) (fun _ _ => rfl)) (pa_cons (pv 2) pa_nil)))))
    (pss_one (ps_ret (pv 1)))), ?_⟩
  refine ⟨_, rfl, a, rfl, ⟨_, hs⟩, fun D hD => ?_⟩
  refine lc_it (walk_tup (xs := t.map V.int)) (Pv := fun i G => ∃ ls : List Addr, ls.length = i ∧ Same H G ∧ G D = some (.lst (ls.map V.ref)) ∧ ls.Nodup ∧ (∀ b ∈ ls, H b = none ∧ b ≠ D) ∧ ∀ b ∈ ls, G b = some (.lst []))
    ⟨[], rfl, Same.upd hD, upd_same, List.nodup_nil, fun b z => (by cases z), fun b z => (by cases z)⟩ (fun i G _ h => ?_) (fun i x G G' hi hp hy => ?_) fun G hp => ?_
  · obtain ⟨_, _, sm, _⟩ := h
    exact sm.tup hs
  · obtain ⟨ls, hl, sm, hD', nd', ne, row⟩ := hp
    obtain ⟨rfl, hx⟩ := hy
    have hi' : i < 40 := by
      have h1 := g.le
      rw [List.length_map] at hi
      omega
    refine ⟨rfl, ?_⟩
    refine tYes_of ?_
    refine iteT ?_
    refine ⟨Nat.zero_le _, fun l hl' => ?_⟩
    have nl : ∀ b ∈ ls, b ≠ l := fun b hb => ne_of_none (row b hb) hl'
    have nD : D ≠ l := ne_of_none hD' hl'
    have hacc : (ls.map V.ref).length < sizeLine := by
      rw [List.length_map, hl]
      exact small1000 (by omega)
    refine ⟨ls.map V.ref, (upd_ne nD).trans hD', hacc, ls ++ [l], by rw [List.length_append, hl]; rfl, (sm.updR (sm.free hl')).updR hD, by rw [upd_same, List.map_append]; rfl, ?_, ?_, ?_⟩
    · rw [List.nodup_append]
      exact ⟨nd', by simp, fun x hx y hy => by rw [List.mem_singleton.mp hy]; exact nl x hx⟩
    · intro b hb
      rcases List.mem_append.mp hb with z | z
      · exact ne b z
      · rw [List.mem_singleton.mp z]
        exact ⟨sm.free hl', Ne.symm nD⟩
    · intro b hb
      rcases List.mem_append.mp hb with z | z
      · rw [upd_ne (ne b z).2, upd_ne (nl b z)]
        exact row b z
      · rw [List.mem_singleton.mp z, upd_ne (Ne.symm nD), upd_same]
  · obtain ⟨ls, hl, sm, hD', nd', ne, row⟩ := hp
    rw [List.length_map] at hl
    have lt := g.le
    have gp := g.pos
    refine ⟨_, rfl, a, _, rfl, .inr (sm.tup hs), _, _, rfl, ⟨by decide, by decide, by rw [List.length_map]; omega, by rw [List.length_map]; omega⟩, ?_⟩
    have en : (((t.map V.int).length : Int) - 1).toNat = t.length - 1 := by
      rw [List.length_map]
      omega
    rw [en]
    refine for_it (walk_range (lo := 1) (n := t.length - 1)) (Pv := fun i σ G => ∃ o2 o3, σ = [some (.ref a), some (.ref D), o2, o3] ∧ Fill t H G D ls (1 + i)) ⟨none, none, rfl, sm, hl, hD', nd', ne, fun i b hb => ?_⟩ (fun _ _ _ _ _ => trivial) (fun i x σ G G' hi hp hy => ?_) fun σ G hp => ?_
    · rw [calledTo_one]
      exact row b (List.mem_of_getElem? hb)
    · obtain ⟨o2, o3, rfl, fl⟩ := hp
      obtain ⟨rfl, rfl⟩ := hy
      obtain ⟨h0, h1⟩ := g.low (1 + i) (by omega) (by omega)
      have eT : t[1 + i]? = some (t.getD (1 + i) 0) := by
        rw [List.getD_eq_getElem?_getD, List.getElem?_eq_getElem (show 1 + i < t.length by omega)]
        rfl
      generalize hc : t.getD (1 + i) 0 = c at *
      obtain ⟨cn, rfl⟩ : ∃ cn : Nat, c = (cn : Int) := ⟨c.toNat, by omega⟩
      have hcn : cn < ls.length := by
        rw [fl.len]
        omega
      have eL : ls[cn]? = some ls[cn] := List.getElem?_eq_getElem hcn
      have er := fl.row cn _ eL
      have mem : ls[cn] ∈ ls := List.getElem_mem hcn
      refine ⟨_, rfl, _, rfl, _, rfl, a, _, ((1 + i : Nat) : Int), _, rfl, (by simp), fl.same.tup hs, atI_nat (by rw [List.getElem?_map, eT]; rfl), ?_⟩
      refine ⟨D, _, (cn : Int), _, rfl, rfl, .of fl.top, atI_nat (by rw [List.getElem?_map, eL]; rfl), ?_⟩
      refine ⟨.inl ⟨rfl, _, .of er⟩, ?_⟩
      refine ⟨_, rfl, _, _, _, rfl, rfl, er, ?_, ?_⟩
      · rw [List.length_map]
        have := calledTo_length t (1 + i) cn
        exact small1000 (by omega)
      refine ⟨_, _, rfl, fl.same.updR (fl.ne _ mem).1, fl.len, by rw [upd_ne (Ne.symm (fl.ne _ mem).2)]; exact fl.top, fl.nodup, fl.ne, fun k b hb => ?_⟩
      have hk : k < ls.length := by
        by_cases z : k < ls.length
        · exact z
        · rw [List.getElem?_eq_none (by omega)] at hb
          cases hb
      have eb : ls[k] = b := by
        rw [List.getElem?_eq_getElem hk] at hb
        exact Option.some.inj hb
      rw [show 1 + (i + 1) = (1 + i) + 1 by omega, calledTo_succ]
      by_cases hkc : k = cn
      · subst hkc
        rw [eb.symm, upd_same, if_pos ⟨by omega, hc⟩, List.map_append]
        congr 2
      · have nb : b ≠ ls[cn] := fun z => hkc ((List.getElem?_inj hk fl.nodup).mp (by rw [hb, eL, z]))
        rw [upd_ne nb, if_neg (fun z => hkc (by have := z.2; rw [hc] at this; omega)), List.append_nil]
        exact fl.row k b hb
    · obtain ⟨o2, o3, rfl, fl⟩ := hp
      refine ⟨_, rfl, q _ D fl.same hD ⟨ls, fl.len, .of ((nu_at hD).trans fl.top), fun i b hb => .of ((nu_at (fl.ne b (List.mem_of_getElem? hb)).1).trans ?_)⟩⟩
      have z := fl.row i b hb
      rw [show 1 + (t.length - 1) = t.length by omega] at z
      exact z
end
end K10
set_option Elab.async false
set_option linter.all false
set_option maxRecDepth 100000
set_option maxHeartbeats 4000000
/-! comprehensions of plain values -/
namespace K10
open PySem PySem.Spec PyProof.Rows L2 LamX
theorem take_succ {α : Type} {l : List α} {i : Nat} {z : α} (h : l[i]? = some z) : l.take (i + 1) = l.take i ++ [z] := by
  rw [List.take_add_one, h]
  rfl
theorem getElem?_of {α : Type} {l : List α} {i : Nat} (h : i < l.length) : ∃ z, l[i]? = some z := ⟨l[i], List.getElem?_eq_getElem h⟩
/-- a comprehension whose items are told by f and kept by b, with a heap that only grows -/
theorem lc_filt {J : It} {Gd : Hp → Prop} {Y : Nat → Hp → V → Hp → Prop} {g : TG} {tt : TT} {te : TE} {vs : List Nat} {σ : L2.St} {H1 : Hp} {D : Addr} {Qd : Hp → Prop} {α : Type} (l : List α) (f : α → V) (b : α → Bool)
    (w : Walk J l.length Gd Y) (hD : H1 D = none) (hn : l.length ≤ 1000) (hG : ∀ G, Same H1 G → Gd G)
    (hs : ∀ i z x A B, l[i]? = some z → Same H1 A → Y i A x B → ∀ (Q1 : VK) (Q0 : Hp → Prop), (b z = true → ∀ H3, Same A H3 → Q1 (f z) H3) → (b z = false → ∀ H3, Same A H3 → Q0 H3) →
      g x (wipe σ vs) B fun σ2 H2 => wipe σ2 vs = wipe σ vs ∧ tt σ2 H2 fun c H3 => if c = true then te σ2 H3 Q1 else Q0 H3)
    (hd : ∀ G, Same H1 G → G D = some (.lst ((l.filter b).map f)) → Qd G) :
    ∃ W : Nat → Nat → Hp → Prop, (∃ m, W 0 m (upd H1 D (.lst []))) ∧ ∀ i m H, W i m H →
      (J.stop i H ∧ Qd H) ∨ (J.go i H ∧ ∃ Nx : Hp → Prop, (∀ H', Nx H' → ∃ m', m' < m ∧ W (i + 1) m' H') ∧ ∀ x H', J.yld i H x H' → g x (wipe σ vs) H' fun σ2 H2 => wipe σ2 vs = wipe σ vs ∧ tt σ2 H2 fun b H3 =>
        if b = true then te σ2 H3 fun y H4 => ∃ acc, H4 D = some (.lst acc) ∧ acc.length < sizeLine ∧ Nx (upd H4 D (.lst (acc ++ [y]))) else Nx H3) := by
  refine lc_it w (Pv := fun i G => Same H1 G ∧ G D = some (.lst (((l.take i).filter b).map f))) ⟨Same.upd hD, upd_same⟩ (fun i G _ h => hG G h.1) (fun i x A B hi hp hy => ?_) fun G hp => ?_
  · obtain ⟨sm, hA⟩ := hp
    obtain ⟨z, hz⟩ := getElem?_of hi
    refine hs i z x A B hz sm hy _ _ (fun hb H3 s3 => ?_) fun hb H3 s3 => ?_
    · refine ⟨_, s3 _ _ hA, ?_, (sm.trans s3).updR hD, ?_⟩
      · rw [List.length_map]
        have h1 : ((l.take i).filter b).length ≤ (l.take i).length := List.length_filter_le _ _
        rw [List.length_take] at h1
        exact small1000 (by omega)
      · rw [upd_same, take_succ hz, List.filter_append, List.map_append]
        simp [hb]
    · refine ⟨sm.trans s3, ?_⟩
      rw [s3 _ _ hA, take_succ hz, List.filter_append, List.map_append]
      simp [hb]
  · refine hd G hp.1 ?_
    have z := hp.2
    rw [List.take_length] at z
    exact z
/-- .. all kept -/
theorem lc_vals {J : It} {Gd : Hp → Prop} {Y : Nat → Hp → V → Hp → Prop} {g : TG} {te : TE} {vs : List Nat} {σ : L2.St} {H1 : Hp} {D : Addr} {Qd : Hp → Prop} {α : Type} (l : List α) (f : α → V)
    (w : Walk J l.length Gd Y) (hD : H1 D = none) (hn : l.length ≤ 1000) (hG : ∀ G, Same H1 G → Gd G)
    (hs : ∀ i z x A B, l[i]? = some z → Same H1 A → Y i A x B → ∀ (Q1 : VK) (Q0 : Hp → Prop), (∀ H3, Same A H3 → Q1 (f z) H3) →
      g x (wipe σ vs) B fun σ2 H2 => wipe σ2 vs = wipe σ vs ∧ tYes σ2 H2 fun c H3 => if c = true then te σ2 H3 Q1 else Q0 H3)
    (hd : ∀ G, Same H1 G → G D = some (.lst (l.map f)) → Qd G) :
    ∃ W : Nat → Nat → Hp → Prop, (∃ m, W 0 m (upd H1 D (.lst []))) ∧ ∀ i m H, W i m H →
      (J.stop i H ∧ Qd H) ∨ (J.go i H ∧ ∃ Nx : Hp → Prop, (∀ H', Nx H' → ∃ m', m' < m ∧ W (i + 1) m' H') ∧ ∀ x H', J.yld i H x H' → g x (wipe σ vs) H' fun σ2 H2 => wipe σ2 vs = wipe σ vs ∧ tYes σ2 H2 fun b H3 =>
        if b = true then te σ2 H3 fun y H4 => ∃ acc, H4 D = some (.lst acc) ∧ acc.length < sizeLine ∧ Nx (upd H4 D (.lst (acc ++ [y]))) else Nx H3) :=
  lc_filt (tt := tYes) l f (fun _ => true) w hD hn hG (fun i z x A B hz sm hy Q1 Q0 h1 h0 => hs i z x A B hz sm hy Q1 Q0 fun H3 s3 => h1 rfl H3 s3) fun G sm h => hd G sm (by rw [h, List.filter_eq_self.mpr (fun _ _ => rfl)])
/-- [x] * n -/
theorem rep_flat {α : Type} (x : α) : ∀ n : Nat, (List.replicate n [x]).flatten = List.replicate n x
  | 0 => rfl
  | n + 1 => by rw [List.replicate_succ, List.flatten_cons, rep_flat x n]; rfl
end K10
set_option Elab.async false
set_option linter.all false
set_option maxRecDepth 100000
set_option maxHeartbeats 4000000
/-! needs_of -/
namespace K10
open PySem PySem.Spec PyProof.Rows L2 LamX
theorem getD_of {α : Type} {l : List α} {i : Nat} {z d : α} (h : l[i]? = some z) : l.getD i d = z := by rw [List.getD_eq_getElem?_getD, h]; rfl
theorem mapInt_at {zs : List Int} {i : Nat} (h : i < zs.length) : (zs.map V.int)[i]? = some (V.int (zs.getD i 0)) := by
  rw [List.getElem?_map, List.getD_eq_getElem?_getD, List.getElem?_eq_getElem h]
  rfl
theorem walk_ints {K : PySem.W.Frag} {a : Addr} {l : List Int} : Walk (Itl K a) l.length (fun H => SqL K H a (l.map V.int)) (YAt (l.map V.int)) := by
  have z := walk_list (K := K) (a := a) (xs := l.map V.int)
  rw [List.length_map] at z
  exact z
theorem walk_intsT {K : PySem.W.Frag} {a : Addr} {l : List Int} : Walk (Itt K a) l.length (fun H => SqT K H a (l.map V.int)) (YAt (l.map V.int)) := by
  have z := walk_tup (K := K) (a := a) (xs := l.map V.int)
  rw [List.length_map] at z
  exact z
theorem intAt {l : List Int} {i : Nat} {x : V} {z : Int} (h : (l.map V.int)[i]? = some x) (hz : l[i]? = some z) : x = .int z := by
  rw [List.getElem?_map, hz] at h
  exact (Option.some.inj h).symm
/-- [found[one] for one in places] -/
theorem lc_pick {K : PySem.W.Frag} {ac L D : Addr} {H1 : Hp} {σ : L2.St} {vs : List Nat} {io jL : Nat} {Qd : Hp → Prop} (c zs : List Int) (hin : ∀ x ∈ c, 0 ≤ x ∧ x < zs.length) (hc : c.length ≤ 1000) (hcL : SqL K H1 ac (c.map V.int)) (hzL : SqL K H1 L (zs.map V.int)) (hD : H1 D = none)
    (hL : ∀ x, ((wipe σ vs).set io (some x))[jL]? = some (some (V.ref L))) (ho : ∀ x, ((wipe σ vs).set io (some x))[io]? = some (some x)) (hw : ∀ x, wipe ((wipe σ vs).set io (some x)) vs = wipe σ vs)
    (hd : ∀ G, Same H1 G → G D = some (.lst ((c.map fun x => zs.getD x.toNat 0).map V.int)) → Qd G) :
    ∃ W : Nat → Nat → Hp → Prop, (∃ m, W 0 m (upd H1 D (.lst []))) ∧ ∀ i m H, W i m H →
      ((Itl K ac).stop i H ∧ Qd H) ∨ ((Itl K ac).go i H ∧ ∃ Nx : Hp → Prop, (∀ H', Nx H' → ∃ m', m' < m ∧ W (i + 1) m' H') ∧ ∀ x H', (Itl K ac).yld i H x H' → gName io x (wipe σ vs) H' fun σ2 H2 => wipe σ2 vs = wipe σ vs ∧ tYes σ2 H2 fun b H3 =>
        if b = true then tOp (rIxL K) (tVar jL) (tVar io) σ2 H3 fun y H4 => ∃ acc, H4 D = some (.lst acc) ∧ acc.length < sizeLine ∧ Nx (upd H4 D (.lst (acc ++ [y]))) else Nx H3) := by
  refine lc_vals c (fun x => V.int (zs.getD x.toNat 0)) walk_ints hD hc (fun G sm => sm.seq hcL) (fun i z x A B hz sm hy Q1 Q0 h1 => ?_) fun G sm h => hd G sm (by rw [h, List.map_map]; rfl)
  obtain ⟨rfl, hx⟩ := hy
  cases intAt hx hz
  obtain ⟨h0, hl⟩ := hin z (List.mem_of_getElem? hz)
  refine ⟨hw _, ?_⟩
  refine tYes_of ?_
  refine iteT ?_
  refine ⟨_, hL _, _, ho _, L, _, z, _, rfl, rfl, sm.seq hzL, ?_, h1 _ (Same.refl _)⟩
  have e : z = ((z.toNat : Nat) : Int) := by omega
  rw [e]
  exact atI_nat (mapInt_at (by omega))
section
variable {P : Program} {w : World} {K : PySem.W.Frag} {mg : Str → Option Value} {base : Heap} (T : Nm mg)
include T
def spNO (K : PySem.W.Frag) : Sp := fun vs H Q E => ∃ a t, vs = [.ref a] ∧ Good t ∧ SqT K H a (t.map V.int) ∧ ∀ (H' : Hp) (p : Addr) (zs : List Int), Same H H' → H p = none → H' p = some (.lst (zs.map V.int)) → zs.length = t.length → Q (.ref p) H'
theorem ok_needs_of {fc : Addr} {fdc : FuncData} (Fc : Fun K "called_by" "called_by" s_called_by fc fdc) (Gc : FnOk P w K mg base CX0 1 fc fdc ["tree"] (spCB K)) (mc : mg "called_by" = some (.ref fc))
    {f : Addr} {fd : FuncData} (F : Fun K "needs_of" "needs_of" s_needs_of f fd) : FnOk P w K mg base CX0 2 f fd ["tree"] (spNO K) := by
  refine F.ok sc_needs_of (by rintro _ _ _ _ ⟨a, t, rfl, _⟩; rfl) fun cdv A outer s H vs Q E hr hsp => ?_
  obtain ⟨a, t, rfl, g, hs, q⟩ := hsp
  have nd := sc_needs_of.nd
  have bc : Binds K fdc ["tree"] [] := Fc.binds (fun _ _ _ _ _ _ us hl => match us, hl with | [_], _ => rfl)
  refine ⟨_, pss_cons (ps_asg (pe_tup (pa_cons (pe_op op_rep (pe_lst (pa_cons pe_int pa_nil)) (pe_callB call_len_seq (by rfl) T.len PySem.boot_len (pa_cons (pv 0) pa_nil))) (pa_cons (pe_call Gc hr (by rfl) mc Fc.kp bc .nil pass0 (pa_cons (pv 0) pa_nil)) pa_nil)))
      (pg_tup (by rfl) (pgs_cons (pg_name (i := 1) nd rfl (Or.inr rfl)) (pgs_cons (pg_name (i := 2) nd rfl (Or.inl rfl)) pgs_nil))))
    (pss_cons (ps_for PassesOwn.never rfl (pi_range3 (by rfl) T.range (pa_cons (pe_op op_sub (pe_callB call_len_seq (by rfl) T.len PySem.boot_len (pa_cons (pv 0) pa_nil)) pe_int) (pa_cons (pe_un un_neg pe_int) (pa_cons (pe_un un_neg pe_int) pa_nil)))) (pg_name (i := 3) nd rfl (Or.inl rfl))
      (pss_cons (ps_set (i := 4) nd rfl (Or.inl rfl) (pe_callBK (cr_sortedRev (b := true)) (by rfl) T.sorted boot_sorted (pa_cons
          (pe_lc (own := [("one", 5)]) (g := gName 5) (tt := tYes) (te := tOp (rIxL K) (tVar 1) (tVar 5)) rfl nd (pi_list (pe_ix ix_list (pv 2) (pv 3) (fun _ _ => rfl))) (blkOk_by (N := n_needs_of) (sc := defScope s_needs_of) (by decide +kernel)) (fun _ _ _ _ _ => pg_name (i := 5) nd rfl (Or.inl rfl)) (fun _ _ _ _ _ => pts_nil) (fun _ _ _ _ _ => pe_ix ix_list (pv 1) (pv 5) (fun _ _ => rfl))) pa_nil) (pk_cons pe_bl pk_nil)))
      (pss_one (ps_asg (pe_callB (cr_max rfl) (by rfl) T.max (by decide +kernel) (pa_cons (pe_op op_cat (pe_lst (pa_cons pe_int pa_nil))
          (pe_lc (own := [("turn", 6), ("need", 7)]) (g := gTup K 2 (gCons (gName 6) (gCons (gName 7) gNil))) (tt := tYes) rfl nd (pi_enum (by rfl) T.enum (pa_cons (pv 4) pa_nil)) (blkOk_by (N := n_needs_of) (sc := defScope s_needs_of) (by decide +kernel)) (fun _ _ _ _ _ => pg_tup (by rfl) (pgs_cons (pg_name (i := 6) nd rfl (Or.inl rfl)) (pgs_cons (pg_name (i := 7) nd rfl (Or.inl rfl)) pgs_nil))) (fun _ _ _ _ _ => pts_nil) (fun _ _ _ _ _ => pe_op op_add (pe_op op_add (pv 6) pe_int) (pv 7)))) pa_nil))
        (pg_sub (pv 1) (pv 3) set_list)))))
    (pss_one (ps_ret (pv 1)))), ?_⟩
  -- [0] * len(tree)
  refine ⟨Nat.le_of_lt (small1000 (by decide)), fun l0 hl0 => ?_⟩
  refine ⟨_, rfl, a, _, rfl, .inr ((Same.upd hl0).tup hs), ?_⟩
  have tl := g.le
  have tp := g.pos
  refine ⟨l0, _, _, rfl, rfl, upd_same, by rw [List.length_map]; omega, by rw [List.length_map]; omega, by rw [List.length_map]; exact Nat.le_of_lt (small1000 (by simp; omega)), fun L hL => ?_⟩
  have smL : Same H (upd (upd H l0 (.lst [.int 0])) L (.lst (List.replicate ((t.map V.int).length : Int).toNat [V.int 0]).flatten)) := (Same.upd hl0).updR ((Same.upd hl0).free hL)
  have HL : H L = none := (Same.upd hl0).free hL
  have eL0 : (List.replicate ((t.map V.int).length : Int).toNat [V.int 0]).flatten = (List.replicate t.length (0 : Int)).map V.int := by
    rw [rep_flat, List.length_map, List.map_replicate]
    rfl
  rw [eL0] at smL ⊢
  generalize hH2 : upd (upd H l0 (.lst [.int 0])) L (.lst ((List.replicate t.length (0 : Int)).map V.int)) = H2 at *
  have H2L : H2 L = some (.lst ((List.replicate t.length (0 : Int)).map V.int)) := by rw [← hH2, upd_same]
  refine ⟨_, rfl, a, t, rfl, g, smL.tup hs, fun H3 C s3 hC cb => ?_⟩
  refine ⟨Nat.le_of_lt (small1000 (by simp)), fun tp0 htp => ?_⟩
  refine ⟨tp0, _, rfl, .of upd_same, rfl, _, _, rfl, _, _, rfl, rfl, ?_⟩
  have smT : Same H3 (upd H3 tp0 (.tup [V.ref L, V.ref C])) := Same.upd htp
  have ML : nu H2 H3 L = none := nu_old (by rw [H2L]; exact fun z => nomatch z)
  have smM : Same (nu H2 H3) (upd H3 tp0 (.tup [V.ref L, V.ref C])) := nu_same.trans smT
  have smH : Same H (upd H3 tp0 (.tup [V.ref L, V.ref C])) := (smL.trans s3).trans smT
  have hL4 : upd H3 tp0 (.tup [V.ref L, V.ref C]) L = some (.lst ((List.replicate t.length (0 : Int)).map V.int)) := smT _ _ (s3 _ _ H2L)
  generalize upd H3 tp0 (.tup [V.ref L, V.ref C]) = H4 at *
  generalize nu H2 H3 = M at *
  clear hH2 smT
  refine ⟨_, rfl, a, _, rfl, .inr (smH.tup hs), _, _, rfl, rfl, _, rfl, _, rfl, _, _, _, _, rfl, RgC.neg (by rw [List.length_map]; omega) (by rw [List.length_map]; omega) (by decide) (by decide), ?_⟩
  have en : (((t.map V.int).length : Int) - 1 - (-1)).toNat = t.length := by
    rw [List.length_map]
    omega
  rw [en]
  refine for_rangeC (Pv := fun i σ G => ∃ o3 o4 o5 o6 o7, σ = [some (.ref a), some (.ref L), some (.ref C), o3, o4, o5, o6, o7] ∧ Same H G ∧ Same M G ∧ ∃ zs : List Int, G L = some (.lst (zs.map V.int)) ∧ zs.length = t.length) ⟨none, none, none, none, none, rfl, smH, smM, _, hL4, List.length_replicate⟩ (fun i σ G hi hp => ?_) fun σ G hp => ?_
  · obtain ⟨o3, o4, o5, o6, o7, rfl, sH, sM, zs, hGL, hz⟩ := hp
    obtain ⟨ls, hls, cTop, cRow⟩ := cb.same sM
    have ek : ((t.map V.int).length : Int) - 1 + (i : Int) * (-1) = ((t.length - 1 - i : Nat) : Int) := by
      rw [List.length_map]
      omega
    rw [ek]
    generalize hk : t.length - 1 - i = k
    have hkl : k < ls.length := by omega
    obtain ⟨b, hb⟩ := getElem?_of hkl
    refine ⟨_, rfl, _, rfl, C, _, (k : Int), .ref b, rfl, rfl, cTop, atI_nat (by rw [List.getElem?_map, hb]; rfl), b, rfl, ⟨_, cRow k b hb⟩, fun D hD => ?_⟩
    refine lc_pick (called t k) zs (fun x hx => by rw [hz]; exact called_lt hx) (Nat.le_trans (called_length t k) (by omega)) (cRow k b hb) (.of hGL) hD (fun _ => rfl) (fun _ => rfl) (fun _ => rfl) fun G1 s1 hG1 => ?_
    refine ⟨D, _, rfl, rfl, .of hG1, fun ns S hperm hord hS => ?_⟩
    -- max([0] + [..])
    refine ⟨Nat.le_of_lt (small1000 (by simp)), fun l hl => ?_⟩
    have s2 : Same G1 (upd G1 S (.lst (ns.map V.int))) := Same.upd hS
    have s3' : Same (upd G1 S (.lst (ns.map V.int))) (upd (upd G1 S (.lst (ns.map V.int))) l (.lst [.int 0])) := Same.upd hl
    have hS3 : upd (upd G1 S (.lst (ns.map V.int))) l (.lst [.int 0]) S = some (.lst (ns.map V.int)) := s3' _ _ upd_same
    have hl3 : upd (upd G1 S (.lst (ns.map V.int))) l (.lst [.int 0]) l = some (.lst [.int 0]) := upd_same
    have s13 : Same G (upd (upd G1 S (.lst (ns.map V.int))) l (.lst [.int 0])) := (s1.trans s2).trans s3'
    generalize upd (upd G1 S (.lst (ns.map V.int))) l (.lst [.int 0]) = G3 at *
    have nl : ns.length ≤ 40 := by
      rw [hperm.length_eq, List.length_map]
      exact Nat.le_trans (called_length t k) tl
    refine ⟨_, rfl, S, _, rfl, .of hS3, fun D2 hD2 => ?_⟩
    refine lc_vals (List.range ns.length) (fun (j : Nat) => V.int ((j : Int) + 1 + ns.getD j 0)) (by have z := walk_enum (K := K) (a := S) (xs := ns.map V.int); rw [List.length_map] at z; rw [List.length_range]; exact z) hD2 (by rw [List.length_range]; omega) (fun G' sm => SqL.of (sm _ _ hS3)) (fun j z x A B hj sm hy Q1 Q0 h1 => ?_) fun G5 s5 hG5 => ?_
    · obtain ⟨Tp, x1, x2, rfl, hT, rfl, e1, hx⟩ := hy
      cases e1
      have hjl : j < ns.length := by
        by_cases q : j < ns.length
        · exact q
        · rw [List.getElem?_eq_none (by rw [List.length_range]; omega)] at hj
          cases hj
      have ez : z = j := by
        rw [List.getElem?_range hjl] at hj
        exact (Option.some.inj hj).symm
      subst ez
      have hx' : (ns.map V.int)[z]? = some x2 := hx
      rw [mapInt_at hjl] at hx'
      cases hx'
      refine ⟨Tp, _, rfl, .of upd_same, rfl, _, _, rfl, _, _, rfl, rfl, rfl, ?_⟩
      refine tYes_of ?_
      refine iteT ?_
      exact ⟨_, rfl, _, _, rfl, rfl, _, rfl, _, _, rfl, rfl, h1 _ (Same.upd hT)⟩
    · have em : (List.range ns.length).map (fun (j : Nat) => V.int ((j : Int) + 1 + ns.getD j 0)) = ((List.range ns.length).map fun (j : Nat) => ((j : Int) + 1 + ns.getD j 0)).map V.int := by rw [List.map_map]; rfl
      rw [em] at hG5
      refine ⟨l, D2, [.int 0], _, rfl, rfl, s5 _ _ hl3, hG5, Nat.le_of_lt (small1000 (by simp; omega)), fun p hp => ?_⟩
      refine ⟨p, 0 :: (List.range ns.length).map fun (j : Nat) => ((j : Int) + 1 + ns.getD j 0), rfl, .of upd_same, by simp, fun m hm hle => ?_⟩
      have hGL5 : upd G5 p (.lst ([.int 0] ++ ((List.range ns.length).map fun (j : Nat) => ((j : Int) + 1 + ns.getD j 0)).map V.int)) L = some (.lst (zs.map V.int)) := (Same.upd hp) _ _ (s5 _ _ (s13 _ _ hGL))
      refine ⟨_, rfl, _, rfl, L, _, (k : Int), k, rfl, rfl, hGL5, ?_, ?_⟩
      · unfold ixN
        rw [if_pos (by omega), if_pos (by rw [List.length_map]; omega)]
        rfl
      · have sE : Same G (upd G5 p (.lst ([.int 0] ++ ((List.range ns.length).map fun (j : Nat) => ((j : Int) + 1 + ns.getD j 0)).map V.int))) := (s13.trans s5).trans (Same.upd hp)
        exact ⟨_, _, _, _, _, rfl, (sH.trans sE).updR HL, (sM.trans sE).updR ML, zs.set k m, by rw [upd_same, List.map_set], by rw [List.length_set, hz]⟩
  · obtain ⟨o3, o4, o5, o6, o7, rfl, sH, sM, zs, hGL, hz⟩ := hp
    exact ⟨_, rfl, q _ _ _ sH HL hGL hz⟩
end
end K10
set_option Elab.async false
set_option linter.all false
set_option maxRecDepth 100000
set_option maxHeartbeats 4000000
/-! time_in -/
namespace K10
open PySem PySem.Spec PyProof.Rows L2 LamX
theorem drop_at {α : Type} {l : List α} {i : Nat} {z : α} (h : l[i]? = some z) : l.drop i = z :: l.drop (i + 1) := by
  have hi : i < l.length := by
    by_cases q : i < l.length
    · exact q
    · rw [List.getElem?_eq_none (by omega)] at h
      cases h
  rw [List.getElem?_eq_getElem hi] at h
  rw [← Option.some.inj h]
  exact List.drop_eq_getElem_cons hi
theorem lt_of_at {α : Type} {l : List α} {i : Nat} {z : α} (h : l[i]? = some z) : i < l.length := by
  by_cases q : i < l.length
  · exact q
  · rw [List.getElem?_eq_none (by omega)] at h
    cases h
theorem ixN_nat {n : Nat} {x : Int} (h0 : 0 ≤ x) (h : x < n) : ixN n x = some x.toNat := by
  unfold ixN
  rw [if_pos h0, if_pos h]
theorem walk_enT' {K : PySem.W.Frag} {a : Addr} {l : List Int} : Walk (ItEnT K a) l.length (fun H => SqT K H a (l.map V.int)) (YPair (fun i => some (.int (i : Nat))) (fun i => (l.map V.int)[i]?)) := by
  have z := walk_enT (K := K) (a := a) (xs := l.map V.int)
  rw [List.length_map] at z
  exact z
/-- a row of an order in the heap -/
theorem row_at {K : PySem.W.Frag} {H : Hp} {xs : List V} {R : List (List Int)} {i : Nat} {x : V} (h : DpAll K H xs (R.map rD)) (e : xs[i]? = some x) : ∃ b r, x = .ref b ∧ R[i]? = some r ∧ SqT K H b (r.map V.int) := by
  obtain ⟨h1, h2⟩ := h.at e
  rw [List.length_map] at h1
  obtain ⟨r, hr⟩ := getElem?_of h1
  rw [getD_of (show (R.map rD)[i]? = some (rD r) by rw [List.getElem?_map, hr]; rfl)] at h2
  obtain ⟨b, e1, e2⟩ := dp_rD h2
  exact ⟨b, r, e1, hr, e2⟩
section
variable {P : Program} {w : World} {K : PySem.W.Frag} {mg : Str → Option Value} {base : Heap} (T : Nm mg)
include T
def spTI (K : PySem.W.Frag) : Sp := fun vs H Q E => ∃ a t v R, vs = [.ref a, v] ∧ Good t ∧ SqT K H a (t.map V.int) ∧ Dp K H v (oD R) ∧ OrdOk t R ∧ ∀ H', Same H H' → Q (.int (timeIn t R)) H'
theorem ok_time_in {f : Addr} {fd : FuncData} (F : Fun K "time_in" "time_in" s_time_in f fd) : FnOk P w K mg base CX0 1 f fd ["tree", "order"] (spTI K) := by
  refine F.ok sc_time_in (by rintro _ _ _ _ ⟨a, t, v, R, rfl, _⟩; rfl) fun cdv A outer s H vs Q E hr hsp => ?_
  obtain ⟨a, t, v, R, rfl, g, hs, hd, ho, q⟩ := hsp
  have nd := sc_time_in.nd
  refine ⟨_, pss_cons (ps_set (i := 2) nd rfl (Or.inl rfl) (pe_op op_rep (pe_lst (pa_cons pe_int pa_nil)) (pe_callB call_len_seq (by rfl) T.len PySem.boot_len (pa_cons (pv 0) pa_nil))))
    (pss_cons (ps_for PassesOwn.never rfl (pi_enT (by rfl) T.enum (pa_cons (pv 1) pa_nil)) (pg_tup (by rfl) (pgs_cons (pg_name (i := 3) nd rfl (Or.inl rfl)) (pgs_cons (pg_name (i := 4) nd rfl (Or.inl rfl)) pgs_nil)))
      (pss_one (ps_for PassesOwn.never rfl (pi_enT (by rfl) T.enum (pa_cons (pv 4) pa_nil)) (pg_tup (by rfl) (pgs_cons (pg_name (i := 5) nd rfl (Or.inl rfl)) (pgs_cons (pg_name (i := 6) nd rfl (Or.inl rfl)) pgs_nil)))
        (pss_one (ps_asg (pe_op op_add (pe_op op_add (pe_ix ix_list (pv 2) (pv 3) (fun _ _ => rfl)) (pv 5)) pe_int) (pg_sub (pv 2) (pv 6) set_list))))))
    (pss_one (ps_ret (pe_callB (cr_max rfl) (by rfl) T.max (by decide +kernel) (pa_cons (pv 2) pa_nil))))), ?_⟩
  refine ⟨Nat.le_of_lt (small1000 (by decide)), fun l0 hl0 => ?_⟩
  refine ⟨_, rfl, a, _, rfl, .inr ((Same.upd hl0).tup hs), ?_⟩
  have tl := g.le
  have tp := g.pos
  refine ⟨l0, _, _, rfl, rfl, upd_same, by rw [List.length_map]; omega, by rw [List.length_map]; omega, by rw [List.length_map]; exact Nat.le_of_lt (small1000 (by simp; omega)), fun L hL => ?_⟩
  have smL : Same H (upd (upd H l0 (.lst [.int 0])) L (.lst (List.replicate ((t.map V.int).length : Int).toNat [V.int 0]).flatten)) := (Same.upd hl0).updR ((Same.upd hl0).free hL)
  have HL : H L = none := (Same.upd hl0).free hL
  have eL0 : (List.replicate ((t.map V.int).length : Int).toNat [V.int 0]).flatten = (List.replicate t.length (0 : Int)).map V.int := by
    rw [rep_flat, List.length_map, List.map_replicate]
    rfl
  rw [eL0] at smL ⊢
  generalize hH2 : upd (upd H l0 (.lst [.int 0])) L (.lst ((List.replicate t.length (0 : Int)).map V.int)) = H2 at *
  have H2L : H2 L = some (.lst ((List.replicate t.length (0 : Int)).map V.int)) := by rw [← hH2, upd_same]
  obtain ⟨o, xs, rfl, ho1, ho2⟩ := dp_tup hd
  have hxl : xs.length = t.length := by
    rw [ho2.len, List.length_map, ho.len]
  refine ⟨_, rfl, o, xs, rfl, smL.tup ho1, ?_⟩
  refine for_it (walk_enT (xs := xs)) (Pv := fun i σ G => ∃ o3 o4 o5 o6, σ = [some (.ref a), some (.ref o), some (.ref L), o3, o4, o5, o6] ∧ Same H G ∧ ∃ m : List Int, G L = some (.lst (m.map V.int)) ∧ m.length = t.length ∧ rowsGo 0 R (List.replicate t.length 0) = rowsGo i (R.drop i) m)
    ⟨none, none, none, none, rfl, smL, _, H2L, List.length_replicate, rfl⟩ (fun i σ G _ h => ?_) (fun i x σ G G' hi hp hy => ?_) fun σ G hp => ?_
  · obtain ⟨_, _, _, _, _, sm, _⟩ := h
    exact sm.tup ho1
  · obtain ⟨o3, o4, o5, o6, rfl, sH, m, hGL, hm, hgo⟩ := hp
    obtain ⟨Tp, x1, x2, rfl, hT, rfl, e1, hx⟩ := hy
    cases e1
    obtain ⟨b, r, rfl, hR, hb⟩ := row_at ho2 hx
    have hiR := lt_of_at hR
    have hrow : ∀ y ∈ r, 0 ≤ y ∧ y < t.length := fun y hy => ho.place hiR (by rw [getD_of hR]; exact hy)
    have sT := Same.upd (o := .tup [.int (i : Nat), .ref b]) hT
    have sH1 := sH.trans sT
    have hGL1 := sT _ _ hGL
    have hTp : upd G Tp (.tup [.int (i : Nat), .ref b]) Tp = some (.tup [.int (i : Nat), .ref b]) := upd_same
    generalize upd G Tp (.tup [.int (i : Nat), .ref b]) = G1 at *
    refine ⟨Tp, _, rfl, .of hTp, rfl, _, _, rfl, _, _, rfl, rfl, ?_⟩
    refine ⟨_, rfl, b, _, rfl, sH1.tup hb, ?_⟩
    refine for_it (walk_enT' (l := r)) (Pv := fun j σ G => ∃ o5 o6, σ = [some (.ref a), some (.ref o), some (.ref L), some (.int (i : Nat)), some (.ref b), o5, o6] ∧ Same H G ∧ ∃ m' : List Int, G L = some (.lst (m'.map V.int)) ∧ m'.length = t.length ∧ rowGo i 0 r m = rowGo i j (r.drop j) m')
      ⟨o5, o6, rfl, sH1, m, hGL1, hm, rfl⟩ (fun j σ G _ h => ?_) (fun j x σ G G' hj hp hy => ?_) fun σ G hp => ?_
    · obtain ⟨_, _, _, sm, _⟩ := h
      exact sm.tup hb
    · obtain ⟨p5, p6, rfl, sG, m', hGL', hm', hgo'⟩ := hp
      obtain ⟨Tq, y1, y2, rfl, hTq, rfl, e1, hy2⟩ := hy
      cases e1
      obtain ⟨z, hz⟩ := getElem?_of hj
      cases intAt hy2 hz
      obtain ⟨z0, z1⟩ := hrow z (List.mem_of_getElem? hz)
      have sq := Same.upd (o := .tup [.int (j : Nat), .int z]) hTq
      have hTq' : upd G Tq (.tup [.int (j : Nat), .int z]) Tq = some (.tup [.int (j : Nat), .int z]) := upd_same
      have sG1 := sG.trans sq
      have hGL2 := sq _ _ hGL'
      generalize upd G Tq (.tup [.int (j : Nat), .int z]) = G2 at *
      refine ⟨Tq, _, rfl, .of hTq', rfl, _, _, rfl, _, _, rfl, rfl, ?_⟩
      refine ⟨_, rfl, _, rfl, L, _, (i : Int), _, rfl, rfl, .of hGL2, atI_nat (mapInt_at (by omega)), _, rfl, _, _, rfl, rfl, _, _, rfl, rfl, ?_⟩
      refine ⟨_, rfl, _, rfl, L, _, z, _, rfl, rfl, hGL2, ixN_nat z0 (by rw [List.length_map]; omega), ?_⟩
      refine ⟨_, _, rfl, sG1.updR HL, m'.set z.toNat (m'.getD i 0 + j + 1), by rw [upd_same, List.map_set], by rw [List.length_set, hm'], ?_⟩
      rw [hgo', drop_at hz]
      rfl
    · obtain ⟨p5, p6, rfl, sG, m', hGL', hm', hgo'⟩ := hp
      refine ⟨_, _, _, _, rfl, sG, m', hGL', hm', ?_⟩
      rw [hgo, drop_at hR]
      show rowsGo (i + 1) (R.drop (i + 1)) (rowGo i 0 r m) = _
      rw [hgo', List.drop_length]
      rfl
  · obtain ⟨o3, o4, o5, o6, rfl, sH, m, hGL, hm, hgo⟩ := hp
    refine ⟨_, rfl, L, m, rfl, .of hGL, by omega, fun y hy hle => ?_⟩
    have e : y = timeIn t R := by
      rw [maxL_of hy hle]
      unfold timeIn
      rw [hgo, hxl, ← ho.len, List.drop_length]
      rfl
    rw [e]
    exact q _ sH
end
end K10
set_option Elab.async false
set_option linter.all false
set_option maxRecDepth 100000
set_option maxHeartbeats 4000000
/-! is_order, are_picks -/
namespace K10
open PySem PySem.Spec PyProof.Rows L2 LamX
theorem int_ne_dec (i j : Int) : decide (V.int i = V.int j) = decide (i = j) := by
  by_cases h : i = j
  · rw [h]
    simp
  · have : V.int i ≠ V.int j := fun z => h (by injection z)
    simp [h, this]
def flatD : PyData → Bool
  | .none => true
  | .bool _ => true
  | .int _ => true
  | _ => false
/-- the rows of what may be an order are not too long, and flat -/
def RS (d : PyData) : Prop := ∀ ds, d = .tuple ds → ∀ es, .tuple es ∈ ds → es.length ≤ 1000 ∧ es.all flatD = true
theorem isOrd_not {t : List Int} {d : PyData} (h : isTup d = false) : isOrd t d = false := by
  cases d with
  | tuple _ => cases h
  | _ => rfl
theorem isOrd_row {t : List Int} {ds : List PyData} {i : Nat} (hi : i < t.length) (h : rowOk (called t i) (ds.getD i .none) = false) : isOrd t (.tuple ds) = false := by
  show (decide (ds.length = t.length) && (List.range t.length).all fun i => rowOk (called t i) (ds.getD i .none)) = false
  rw [Bool.and_eq_false_iff]
  right
  rw [List.all_eq_false]
  exact ⟨i, List.mem_range.mpr hi, by rw [h]; decide⟩
theorem isOrd_all {t : List Int} {ds : List PyData} (hl : ds.length = t.length) (h : ∀ i, i < t.length → rowOk (called t i) (ds.getD i .none) = true) : isOrd t (.tuple ds) = true := by
  show (decide (ds.length = t.length) && (List.range t.length).all fun i => rowOk (called t i) (ds.getD i .none)) = true
  rw [Bool.and_eq_true, decide_eq_true_eq, List.all_eq_true]
  exact ⟨hl, fun i hi => h i (List.mem_range.mp hi)⟩
theorem rowOk_not {due : List Int} {d : PyData} (h : isTup d = false) : rowOk due d = false := by
  cases d with
  | tuple _ => cases h
  | _ => rfl
theorem dp_notup {K : PySem.W.Frag} {H : Hp} {v : V} {d : PyData} (hd : Dp K H v d) (h : isTup d = true) : ∃ ds, d = .tuple ds := by
  cases d with
  | tuple ds => exact ⟨ds, rfl⟩
  | _ => cases h
theorem mem_getD {ds : List PyData} {i : Nat} {e : PyData} (hi : i < ds.length) (h : ds.getD i .none = e) : e ∈ ds := by
  rw [List.getD_eq_getElem?_getD, List.getElem?_eq_getElem hi] at h
  rw [← h]
  exact List.getElem_mem hi
section
variable {P : Program} {w : World} {K : PySem.W.Frag} {mg : Str → Option Value} {base : Heap} (T : Nm mg)
include T
def spIO (K : PySem.W.Frag) : Sp := fun vs H Q E => ∃ a t v d, vs = [.ref a, v] ∧ Good t ∧ SqT K H a (t.map V.int) ∧ Dp K H v d ∧ RS d ∧ ∀ H', Same H H' → Q (.bl (isOrd t d)) H'
theorem ok_is_order {fc : Addr} {fdc : FuncData} (Fc : Fun K "called_by" "called_by" s_called_by fc fdc) (Gc : FnOk P w K mg base CX0 1 fc fdc ["tree"] (spCB K)) (mc : mg "called_by" = some (.ref fc))
    {fw : Addr} {fdw : FuncData} (Fw : Fun K "is_whole" "is_whole" s_is_whole fw fdw) (Gw : FnOk P w K mg base CX0 1 fw fdw ["thing", "least", "most"] (spW K)) (mw : mg "is_whole" = some (.ref fw))
    {f : Addr} {fd : FuncData} (F : Fun K "is_order" "is_order" s_is_order f fd) : FnOk P w K mg base CX0 2 f fd ["tree", "thing"] (spIO K) := by
  refine F.ok sc_is_order (by rintro _ _ _ _ ⟨a, t, v, d, rfl, _⟩; rfl) fun cdv A outer s H vs Q E hr hsp => ?_
  obtain ⟨a, t, v, d, rfl, g, hs, hd, hrs, q⟩ := hsp
  have nd := sc_is_order.nd
  have bc : Binds K fdc ["tree"] [] := Fc.binds (fun _ _ _ _ _ _ us hl => match us, hl with | [_], _ => rfl)
  have bw : Binds K fdw ["thing", "least", "most"] [] := Fw.binds (fun _ _ _ _ _ _ us hl => match us, hl with | [_, _, _], _ => rfl)
  refine ⟨_, pss_cons (ps_if (PW.pt (pw_or (pt_not (pt_val (pe_isi (ns := "tuple") (by rfl) T.isinst (by rfl) T.tup (by decide +kernel) (pv 1))))
      (pw_or1 (pt_cmpR op_ne (pe_callB call_len_seq (by rfl) T.len PySem.boot_len (pa_cons (pv 1) pa_nil)) (pe_callB call_len_seq (by rfl) T.len PySem.boot_len (pa_cons (pv 0) pa_nil)) (nomark _))))) (pss_one (ps_ret pe_bl)) pss_nil)
    (pss_cons (ps_for PassesOwn.never rfl (pi_zm (by rfl) T.zip (pa_cons (pv 1) (pa_cons (pe_call Gc hr (by rfl) mc Fc.kp bc .nil pass0 (pa_cons (pv 0) pa_nil)) pa_nil))) (pg_tup (by rfl) (pgs_cons (pg_name (i := 2) nd rfl (Or.inl rfl)) (pgs_cons (pg_name (i := 3) nd rfl (Or.inl rfl)) pgs_nil)))
      (pss_cons (ps_if (PW.pt (pw_or (pt_not (pt_val (pe_isi (ns := "tuple") (by rfl) T.isinst (by rfl) T.tup (by decide +kernel) (pv 2))))
          (pw_or1 (pt_not (pt_val (pe_callB (cr_all rfl) (by rfl) T.all (by decide +kernel) (pa_cons
            (pe_lc (own := [("one", 4)]) (g := gName 4) (tt := tYes) (te := tCall (spW K) [] E0 (tCons (tVar 4) (tCons (tC (.int 0)) (tCons (tC .non) tNil)))) rfl nd (pi_tup (pv 2)) (blkOk_by (N := n_is_order) (sc := defScope s_is_order) (by decide +kernel)) (fun _ _ _ _ _ => pg_name (i := 4) nd rfl (Or.inl rfl)) (fun _ _ _ _ _ => pts_nil)
              (fun _ _ _ _ _ => pe_call Gw hr (by rfl) mw Fw.kp bw .nil pass0 (pa_cons (pv 4) (pa_cons pe_int (pa_cons pe_non pa_nil))))) pa_nil))))))) (pss_one (ps_ret pe_bl)) pss_nil)
      (pss_one (ps_if (pt_cmpR (op_neD hr.units) (pe_callB cr_sortT (by rfl) T.sorted boot_sorted (pa_cons (pv 2) pa_nil)) (pv 3) (nomark _)) (pss_one (ps_ret pe_bl)) pss_nil))))
    (pss_one (ps_ret pe_bl))), ?_⟩
  refine ⟨_, rfl, ?_⟩
  refine isi_dp hd kit_tup ?_
  refine ⟨_, rfl, ?_⟩
  refine if_b (fun ht => ?_) fun ht => ?_
  · refine iteT ?_
    have z := q H (Same.refl H)
    rw [isOrd_not (by simpa using ht)] at z
    exact z
  obtain ⟨ds, rfl⟩ := dp_notup hd (by simpa using ht)
  obtain ⟨b, xs, rfl, hx1, hx2⟩ := dp_tup hd
  refine ⟨_, rfl, b, xs, rfl, .inr hx1, _, rfl, a, _, rfl, .inr hs, rfl, _, rfl, ?_⟩
  rw [int_ne_dec]
  refine if_b (fun hl => ?_) fun hl => ?_
  · have z := q H (Same.refl H)
    have e : isOrd t (.tuple ds) = false := by
      show (decide (ds.length = t.length) && _) = false
      have z2 : ¬ ds.length = t.length := fun q => by
        rw [List.length_map, hx2.len, q] at hl
        simp at hl
      rw [decide_eq_false z2, Bool.false_and]
    rw [e] at z
    exact z
  have hlen : ds.length = t.length := by
    rw [List.length_map, hx2.len] at hl
    have z : ((ds.length : Int) = t.length) := by simpa using hl
    omega
  have hxl := hx2.len
  refine ⟨_, rfl, _, rfl, a, t, rfl, g, hs, fun H3 C s3 hC cb => ?_⟩
  obtain ⟨ls, hls, cTop, cRow⟩ := cb.same nu_same
  refine ⟨b, C, xs, _, rfl, s3.tup hx1, cTop, ?_⟩
  refine for_it (walk_zm (xs := xs) (ys := ls.map V.ref) (by rw [List.length_map]; omega)) (Pv := fun i σ G => ∃ o2 o3 o4, σ = [some (.ref a), some (.ref b), o2, o3, o4] ∧ Same H3 G ∧ ∀ j, j < i → rowOk (called t j) (ds.getD j .none) = true)
    ⟨none, none, none, rfl, Same.refl H3, fun j hj => absurd hj (Nat.not_lt_zero _)⟩ (fun i σ G _ h => ?_) (fun i x σ G G' hi hp hy => ?_) fun σ G hp => ?_
  · obtain ⟨_, _, _, _, sm, _⟩ := h
    exact ⟨(s3.trans sm).tup hx1, sm.seq cTop⟩
  · obtain ⟨o2, o3, o4, rfl, sG, hok⟩ := hp
    obtain ⟨Tp, x1, x2, rfl, hT, rfl, e1, e2⟩ := hy
    have hlt : i < ls.length := by omega
    have hit : i < t.length := by omega
    obtain ⟨c, hc⟩ := getElem?_of hlt
    have ex2 : x2 = .ref c := by
      have z : (ls.map V.ref)[i]? = some x2 := e2
      rw [List.getElem?_map, hc] at z
      exact (Option.some.inj z).symm
    subst ex2
    obtain ⟨hds, hdx⟩ := hx2.at e1
    have sT := Same.upd (o := .tup [x1, .ref c]) hT
    have hTp : upd G Tp (.tup [x1, .ref c]) Tp = some (.tup [x1, .ref c]) := upd_same
    have sG1 := sG.trans sT
    generalize upd G Tp (.tup [x1, .ref c]) = G1 at *
    have sH1 := s3.trans sG1
    have hdx1 := hdx.same sH1
    have hrow := sG1.seq (cRow i c hc)
    refine ⟨Tp, _, rfl, .of hTp, rfl, _, _, rfl, _, _, rfl, rfl, ?_⟩
    refine ⟨_, rfl, ?_⟩
    refine isi_dp hdx1 kit_tup ?_
    refine ⟨_, rfl, ?_⟩
    refine if_b (fun ht => ?_) fun ht => ?_
    · refine iteT ?_
      have z := q _ sH1
      rw [isOrd_row hit (rowOk_not (by simpa using ht))] at z
      exact z
    obtain ⟨es, hes⟩ := dp_notup hdx1 (by simpa using ht)
    rw [hes] at hdx1
    obtain ⟨r, ys, rfl, hr1, hr2⟩ := dp_tup hdx1
    have hyl := hr2.len
    refine ⟨_, rfl, r, rfl, ⟨_, hr1⟩, fun D hD => ?_⟩
    refine lc_vals es (fun e => V.bl (isW e 0 none)) (by have z := walk_tup (K := K) (a := r) (xs := ys); rw [hyl] at z; exact z) hD (hrs ds rfl es (mem_getD hds hes)).1 (fun G' sm => sm.tup hr1) (fun j z x A B hj sm hy Q1 Q0 h1 => ?_) fun G2 s2 hG2 => ?_
    · obtain ⟨rfl, hx⟩ := hy
      obtain ⟨_, hdz⟩ := hr2.at hx
      rw [getD_of hj] at hdz
      refine ⟨rfl, ?_⟩
      refine tYes_of ?_
      refine iteT ?_
      exact ⟨_, rfl, x, z, 0, none, rfl, hdz.same sm, h1 _ (Same.refl _)⟩
    · have em : es.map (fun e => V.bl (isW e 0 none)) = (es.map fun e => isW e 0 none).map V.bl := by rw [List.map_map]; rfl
      rw [em] at hG2
      refine ⟨D, _, rfl, .of hG2, _, rfl, ?_⟩
      have ea : (es.map fun e => isW e 0 none).all id = es.all fun e => isW e 0 none := by rw [List.all_map]; rfl
      rw [ea]
      refine if_b (fun hb => ?_) fun hb => ?_
      · have z := q _ (sH1.trans s2)
        have e : rowOk (called t i) (ds.getD i .none) = false := by
          rw [hes]
          show ((es.all fun e => isW e 0 none) && _) = false
          rw [Bool.and_eq_false_iff]
          left
          simpa using hb
        rw [isOrd_row hit e] at z
        exact z
      · have hall : (es.all fun e => isW e 0 none) = true := by simpa using hb
        have ei := ints_of_whole hall
        generalize hn : es.map iv = ns at *
        rw [ei] at hr2
        have eys := dpAll_ints hr2
        subst eys
        refine ⟨_, rfl, r, ns, rfl, s2.tup hr1, fun ns' p hperm hsrt hp' => ?_⟩
        have s4 := Same.upd (o := .lst (ns'.map V.int)) hp'
        refine ⟨_, rfl, _, _, lD_dp (.of upd_same), lD_dp ((s2.trans s4).seq hrow), sh_ints _, sh_ints _, _, rfl, ?_⟩
        rw [eqv_ints]
        have easc : ns' = asc ns := asc_uniq hperm hsrt
        have erow : rowOk (called t i) (ds.getD i .none) = decide (ns' = called t i) := by
          rw [hes]
          show ((es.all fun e => isW e 0 none) && decide (asc (es.map iv) = called t i)) = _
          rw [hall, hn, easc, Bool.true_and]
        refine if_b (fun hb2 => ?_) fun hb2 => ?_
        · have z := q _ ((sH1.trans s2).trans s4)
          rw [isOrd_row hit (by rw [erow]; simpa using hb2)] at z
          exact z
        · refine ⟨_, _, _, rfl, (sG1.trans s2).trans s4, fun j hj => ?_⟩
          by_cases hji : j = i
          · subst hji
            rw [erow]
            simpa using hb2
          · exact hok j (by omega)
  · obtain ⟨o2, o3, o4, rfl, sG, hok⟩ := hp
    have z := q _ (s3.trans sG)
    rw [isOrd_all hlen (fun i hi => hok i (by omega))] at z
    exact z
end
end K10
set_option Elab.async false
set_option linter.all false
set_option maxRecDepth 100000
set_option maxHeartbeats 4000000
/-! are_picks, need_by -/
namespace K10
open PySem PySem.Spec PyProof.Rows L2 LamX
theorem arePk_not {t : List Int} {d : PyData} (h : isTup d = false) : arePk t d = false := by
  cases d with
  | tuple _ => cases h
  | _ => rfl
def pkOk (t : List Int) (ds : List PyData) (i : Nat) : Bool := isW (ds.getD i .none) (if called t i = [] then 0 else 1) (some (called t i).length)
theorem arePk_row {t : List Int} {ds : List PyData} {i : Nat} (hi : i < t.length) (h : pkOk t ds i = false) : arePk t (.tuple ds) = false := by
  show (decide (ds.length = t.length) && (List.range t.length).all fun i => pkOk t ds i) = false
  rw [Bool.and_eq_false_iff]
  right
  rw [List.all_eq_false]
  exact ⟨i, List.mem_range.mpr hi, by rw [h]; decide⟩
theorem arePk_all {t : List Int} {ds : List PyData} (hl : ds.length = t.length) (h : ∀ i, i < t.length → pkOk t ds i = true) : arePk t (.tuple ds) = true := by
  show (decide (ds.length = t.length) && (List.range t.length).all fun i => pkOk t ds i) = true
  rw [Bool.and_eq_true, decide_eq_true_eq, List.all_eq_true]
  exact ⟨hl, fun i hi => h i (List.mem_range.mp hi)⟩
theorem arePk_len {t : List Int} {ds : List PyData} (hl : ¬ ds.length = t.length) : arePk t (.tuple ds) = false := by
  show (decide (ds.length = t.length) && _) = false
  rw [decide_eq_false hl, Bool.false_and]
theorem lst_nil_dp {K : PySem.W.Frag} {H : Hp} {p : Addr} (h : H p = some (.lst [])) : Dp K H (.ref p) (.list (([] : List Int).map PyData.int)) := .lst (.of h) .nil
section
variable {P : Program} {w : World} {K : PySem.W.Frag} {mg : Str → Option Value} {base : Heap} (T : Nm mg)
include T
def spAP (K : PySem.W.Frag) : Sp := fun vs H Q E => ∃ a t v d, vs = [.ref a, v] ∧ Good t ∧ SqT K H a (t.map V.int) ∧ Dp K H v d ∧ ∀ H', Same H H' → Q (.bl (arePk t d)) H'
theorem ok_are_picks {fc : Addr} {fdc : FuncData} (Fc : Fun K "called_by" "called_by" s_called_by fc fdc) (Gc : FnOk P w K mg base CX0 1 fc fdc ["tree"] (spCB K)) (mc : mg "called_by" = some (.ref fc))
    {fw : Addr} {fdw : FuncData} (Fw : Fun K "is_whole" "is_whole" s_is_whole fw fdw) (Gw : FnOk P w K mg base CX0 1 fw fdw ["thing", "least", "most"] (spW K)) (mw : mg "is_whole" = some (.ref fw))
    {f : Addr} {fd : FuncData} (F : Fun K "are_picks" "are_picks" s_are_picks f fd) : FnOk P w K mg base CX0 2 f fd ["tree", "thing"] (spAP K) := by
  refine F.ok sc_are_picks (by rintro _ _ _ _ ⟨a, t, v, d, rfl, _⟩; rfl) fun cdv A outer s H vs Q E hr hsp => ?_
  obtain ⟨a, t, v, d, rfl, g, hs, hd, q⟩ := hsp
  have nd := sc_are_picks.nd
  have bc : Binds K fdc ["tree"] [] := Fc.binds (fun _ _ _ _ _ _ us hl => match us, hl with | [_], _ => rfl)
  have bw : Binds K fdw ["thing", "least", "most"] [] := Fw.binds (fun _ _ _ _ _ _ us hl => match us, hl with | [_, _, _], _ => rfl)
  refine ⟨_, pss_cons (ps_if (PW.pt (pw_or (pt_not (pt_val (pe_isi (ns := "tuple") (by rfl) T.isinst (by rfl) T.tup (by decide +kernel) (pv 1))))
      (pw_or1 (pt_cmpR op_ne (pe_callB call_len_seq (by rfl) T.len PySem.boot_len (pa_cons (pv 1) pa_nil)) (pe_callB call_len_seq (by rfl) T.len PySem.boot_len (pa_cons (pv 0) pa_nil)) (nomark _))))) (pss_one (ps_ret pe_bl)) pss_nil)
    (pss_cons (ps_for PassesOwn.never rfl (pi_zm (by rfl) T.zip (pa_cons (pv 1) (pa_cons (pe_call Gc hr (by rfl) mc Fc.kp bc .nil pass0 (pa_cons (pv 0) pa_nil)) pa_nil))) (pg_tup (by rfl) (pgs_cons (pg_name (i := 2) nd rfl (Or.inl rfl)) (pgs_cons (pg_name (i := 3) nd rfl (Or.inl rfl)) pgs_nil)))
      (pss_one (ps_if (pt_not (pt_val (pe_call Gw hr (by rfl) mw Fw.kp bw .nil pass0 (pa_cons (pv 2) (pa_cons (pe_ifExp (pt_cmpR (op_neD hr.units) (pv 3) (pe_lst pa_nil) (nomark _)) pe_int pe_int)
        (pa_cons (pe_callB call_len_seq (by rfl) T.len PySem.boot_len (pa_cons (pv 3) pa_nil)) pa_nil)))))) (pss_one (ps_ret pe_bl)) pss_nil)))
    (pss_one (ps_ret pe_bl))), ?_⟩
  refine ⟨_, rfl, ?_⟩
  refine isi_dp hd kit_tup ?_
  refine ⟨_, rfl, ?_⟩
  refine if_b (fun ht => ?_) fun ht => ?_
  · refine iteT ?_
    have z := q H (Same.refl H)
    rw [arePk_not (by simpa using ht)] at z
    exact z
  obtain ⟨ds, rfl⟩ := dp_notup hd (by simpa using ht)
  obtain ⟨b, xs, rfl, hx1, hx2⟩ := dp_tup hd
  refine ⟨_, rfl, b, xs, rfl, .inr hx1, _, rfl, a, _, rfl, .inr hs, rfl, _, rfl, ?_⟩
  rw [int_ne_dec]
  have hxl := hx2.len
  refine if_b (fun hl => ?_) fun hl => ?_
  · have z := q H (Same.refl H)
    rw [arePk_len (fun q => by rw [List.length_map, hxl, q] at hl; simp at hl)] at z
    exact z
  have hlen : ds.length = t.length := by
    rw [List.length_map, hxl] at hl
    have z : ((ds.length : Int) = t.length) := by simpa using hl
    omega
  refine ⟨_, rfl, _, rfl, a, t, rfl, g, hs, fun H3 C s3 hC cb => ?_⟩
  obtain ⟨ls, hls, cTop, cRow⟩ := cb.same nu_same
  refine ⟨b, C, xs, _, rfl, s3.tup hx1, cTop, ?_⟩
  refine for_it (walk_zm (xs := xs) (ys := ls.map V.ref) (by rw [List.length_map]; omega)) (Pv := fun i σ G => ∃ o2 o3, σ = [some (.ref a), some (.ref b), o2, o3] ∧ Same H3 G ∧ ∀ j, j < i → pkOk t ds j = true)
    ⟨none, none, rfl, Same.refl H3, fun j hj => absurd hj (Nat.not_lt_zero _)⟩ (fun i σ G _ h => ?_) (fun i x σ G G' hi hp hy => ?_) fun σ G hp => ?_
  · obtain ⟨_, _, _, sm, _⟩ := h
    exact ⟨(s3.trans sm).tup hx1, sm.seq cTop⟩
  · obtain ⟨o2, o3, rfl, sG, hok⟩ := hp
    obtain ⟨Tp, x1, x2, rfl, hT, rfl, e1, e2⟩ := hy
    have hlt : i < ls.length := by omega
    have hit : i < t.length := by omega
    obtain ⟨c, hc⟩ := getElem?_of hlt
    have ex2 : x2 = .ref c := by
      have z : (ls.map V.ref)[i]? = some x2 := e2
      rw [List.getElem?_map, hc] at z
      exact (Option.some.inj z).symm
    subst ex2
    obtain ⟨hds, hdx⟩ := hx2.at e1
    have sT := Same.upd (o := .tup [x1, .ref c]) hT
    have hTp : upd G Tp (.tup [x1, .ref c]) Tp = some (.tup [x1, .ref c]) := upd_same
    have sG1 := sG.trans sT
    generalize upd G Tp (.tup [x1, .ref c]) = G1 at *
    have sH1 := s3.trans sG1
    have hdx1 := hdx.same sH1
    have hrow := sG1.seq (cRow i c hc)
    refine ⟨Tp, _, rfl, .of hTp, rfl, _, _, rfl, _, _, rfl, rfl, ?_⟩
    refine ⟨_, rfl, _, rfl, Nat.zero_le _, fun l hl => ?_⟩
    have sl := Same.upd (o := .lst []) hl
    refine ⟨_, _, lD_dp (sl.seq hrow), lst_nil_dp upd_same, sh_ints _, sh_ints _, _, rfl, ?_⟩
    rw [eqv_ints]
    have fin0 : pkOk t ds i = false → Q (.bl false) (upd G1 l (.lst [])) := fun h => by
      have z := q _ (sH1.trans sl)
      rw [arePk_row hit h] at z
      exact z
    have fin1 : pkOk t ds i = true → ∃ p2 p3, (([some (.ref a), some (.ref b), o2, o3].set 2 (some x1)).set 3 (some (.ref c)) : L2.St) = [some (.ref a), some (.ref b), p2, p3] ∧ Same H3 (upd G1 l (.lst [])) ∧ ∀ j, j < i + 1 → pkOk t ds j = true := fun h => by
      refine ⟨_, _, rfl, sG1.trans sl, fun j hj => ?_⟩
      by_cases hji : j = i
      · rw [hji]
        exact h
      · exact hok j (by omega)
    have el : (((called t i).map V.int).length : Int) = ((called t i).length : Int) := by rw [List.length_map]
    refine if_b (fun h => ?_) fun h => ?_
    · have hne : ¬ called t i = [] := by simpa using h
      refine ⟨_, rfl, c, _, rfl, .inl (sl.seq hrow), x1, _, 1, some (((called t i).map V.int).length : Int), rfl, hdx1.same sl, _, rfl, ?_⟩
      rw [el]
      have e : pkOk t ds i = isW (ds.getD i .none) 1 (some (called t i).length) := by unfold pkOk; rw [if_neg hne]
      rw [← e]
      exact if_b (fun h2 => fin0 (by simpa using h2)) fun h2 => fin1 (by simpa using h2)
    · have hne : called t i = [] := by simpa using h
      refine ⟨_, rfl, c, _, rfl, .inl (sl.seq hrow), x1, _, 0, some (((called t i).map V.int).length : Int), rfl, hdx1.same sl, _, rfl, ?_⟩
      rw [el]
      have e : pkOk t ds i = isW (ds.getD i .none) 0 (some (called t i).length) := by unfold pkOk; rw [if_pos hne]
      rw [← e]
      exact if_b (fun h2 => fin0 (by simpa using h2)) fun h2 => fin1 (by simpa using h2)
  · obtain ⟨o2, o3, rfl, sG, hok⟩ := hp
    have z := q _ (s3.trans sG)
    rw [arePk_all hlen (fun i hi => hok i (by omega))] at z
    exact z
end
end K10
set_option Elab.async false
set_option linter.all false
set_option maxRecDepth 100000
set_option maxHeartbeats 4000000
/-! need_by -/
namespace K10
open PySem PySem.Spec PyProof.Rows L2 LamX
section
variable {P : Program} {w : World} {K : PySem.W.Frag} {mg : Str → Option Value} {base : Heap} (T : Nm mg)
include T
def spNB (K : PySem.W.Frag) : Sp := fun vs H Q E => ∃ (a b : Addr) (t p : List Int), vs = [.ref a, .ref b] ∧ Good t ∧ SqT K H a (t.map V.int) ∧ SqT K H b (p.map V.int) ∧ p.length = t.length ∧ (∀ i, i < t.length → p.getD i 0 ≤ (called t i).length) ∧ ∀ H', Same H H' → Q (.int (needBy t p)) H'
theorem ok_need_by {fc : Addr} {fdc : FuncData} (Fc : Fun K "called_by" "called_by" s_called_by fc fdc) (Gc : FnOk P w K mg base CX0 1 fc fdc ["tree"] (spCB K)) (mc : mg "called_by" = some (.ref fc))
    {f : Addr} {fd : FuncData} (F : Fun K "need_by" "need_by" s_need_by f fd) : FnOk P w K mg base CX0 2 f fd ["tree", "picks"] (spNB K) := by
  refine F.ok sc_need_by (by rintro _ _ _ _ ⟨a, b, t, p, rfl, _⟩; rfl) fun cdv A outer s H vs Q E hr hsp => ?_
  obtain ⟨a, b, t, p, rfl, g, hs, hb, hpl, hple, q⟩ := hsp
  have nd := sc_need_by.nd
  have bc : Binds K fdc ["tree"] [] := Fc.binds (fun _ _ _ _ _ _ us hl => match us, hl with | [_], _ => rfl)
  refine ⟨_, pss_cons (ps_asg (pe_tup (pa_cons (pe_op op_rep (pe_lst (pa_cons pe_int pa_nil)) (pe_callB call_len_seq (by rfl) T.len PySem.boot_len (pa_cons (pv 0) pa_nil))) (pa_cons (pe_call Gc hr (by rfl) mc Fc.kp bc .nil pass0 (pa_cons (pv 0) pa_nil)) pa_nil)))
      (pg_tup (by rfl) (pgs_cons (pg_name (i := 2) nd rfl (Or.inr rfl)) (pgs_cons (pg_name (i := 3) nd rfl (Or.inl rfl)) pgs_nil))))
    (pss_cons (ps_for PassesOwn.never rfl (pi_range3 (by rfl) T.range (pa_cons (pe_op op_sub (pe_callB call_len_seq (by rfl) T.len PySem.boot_len (pa_cons (pv 0) pa_nil)) pe_int) (pa_cons (pe_un un_neg pe_int) (pa_cons (pe_un un_neg pe_int) pa_nil)))) (pg_name (i := 4) nd rfl (Or.inl rfl))
      (pss_one (ps_if (pt_cmpR op_gt (pe_ix ix_tup (pv 1) (pv 4) (fun _ _ => rfl)) pe_int (nomark _))
       (pss_cons (ps_set (i := 5) nd rfl (Or.inl rfl) (pe_callBK (cr_sortedRev (b := true)) (by rfl) T.sorted boot_sorted (pa_cons
          (pe_lc (own := [("one", 6)]) (g := gName 6) (tt := tYes) (te := tOp (rIxL K) (tVar 2) (tVar 6)) rfl nd (pi_list (pe_ix ix_list (pv 3) (pv 4) (fun _ _ => rfl))) (blkOk_by (N := n_need_by) (sc := defScope s_need_by) (by decide +kernel)) (fun _ _ _ _ _ => pg_name (i := 6) nd rfl (Or.inl rfl)) (fun _ _ _ _ _ => pts_nil) (fun _ _ _ _ _ => pe_ix ix_list (pv 2) (pv 6) (fun _ _ => rfl))) pa_nil) (pk_cons pe_bl pk_nil)))
       (pss_one (ps_asg (pe_op op_add (pe_ix ix_tup (pv 1) (pv 4) (fun _ _ => rfl)) (pe_ix ix_list (pv 5) (pe_op op_sub (pe_ix ix_tup (pv 1) (pv 4) (fun _ _ => rfl)) pe_int) (fun _ _ => rfl))) (pg_sub (pv 2) (pv 4) set_list)))) pss_nil)))
    (pss_one (ps_ret (pe_ix ix_list (pv 2) pe_int (fun _ _ => rfl))))), ?_⟩
  refine ⟨Nat.le_of_lt (small1000 (by decide)), fun l0 hl0 => ?_⟩
  refine ⟨_, rfl, a, _, rfl, .inr ((Same.upd hl0).tup hs), ?_⟩
  have tl := g.le
  have tp := g.pos
  refine ⟨l0, _, _, rfl, rfl, upd_same, by rw [List.length_map]; omega, by rw [List.length_map]; omega, by rw [List.length_map]; exact Nat.le_of_lt (small1000 (by simp; omega)), fun L hL => ?_⟩
  have smL : Same H (upd (upd H l0 (.lst [.int 0])) L (.lst (List.replicate ((t.map V.int).length : Int).toNat [V.int 0]).flatten)) := (Same.upd hl0).updR ((Same.upd hl0).free hL)
  have HL : H L = none := (Same.upd hl0).free hL
  have eL0 : (List.replicate ((t.map V.int).length : Int).toNat [V.int 0]).flatten = (List.replicate t.length (0 : Int)).map V.int := by
    rw [rep_flat, List.length_map, List.map_replicate]
    rfl
  rw [eL0] at smL ⊢
  generalize hH2 : upd (upd H l0 (.lst [.int 0])) L (.lst ((List.replicate t.length (0 : Int)).map V.int)) = H2 at *
  have H2L : H2 L = some (.lst ((List.replicate t.length (0 : Int)).map V.int)) := by rw [← hH2, upd_same]
  refine ⟨_, rfl, a, t, rfl, g, smL.tup hs, fun H3 C s3 hC cb => ?_⟩
  refine ⟨Nat.le_of_lt (small1000 (by simp)), fun tp0 htp => ?_⟩
  refine ⟨tp0, _, rfl, .of upd_same, rfl, _, _, rfl, _, _, rfl, rfl, ?_⟩
  have smT : Same H3 (upd H3 tp0 (.tup [V.ref L, V.ref C])) := Same.upd htp
  have ML : nu H2 H3 L = none := nu_old (by rw [H2L]; exact fun z => nomatch z)
  have smM : Same (nu H2 H3) (upd H3 tp0 (.tup [V.ref L, V.ref C])) := nu_same.trans smT
  have smH : Same H (upd H3 tp0 (.tup [V.ref L, V.ref C])) := (smL.trans s3).trans smT
  have hL4 : upd H3 tp0 (.tup [V.ref L, V.ref C]) L = some (.lst ((List.replicate t.length (0 : Int)).map V.int)) := smT _ _ (s3 _ _ H2L)
  generalize upd H3 tp0 (.tup [V.ref L, V.ref C]) = H4 at *
  generalize nu H2 H3 = M at *
  clear hH2 smT
  refine ⟨_, rfl, a, _, rfl, .inr (smH.tup hs), _, _, rfl, rfl, _, rfl, _, rfl, _, _, _, _, rfl, RgC.neg (by rw [List.length_map]; omega) (by rw [List.length_map]; omega) (by decide) (by decide), ?_⟩
  have en : (((t.map V.int).length : Int) - 1 - (-1)).toNat = t.length := by
    rw [List.length_map]
    omega
  rw [en]
  refine for_rangeC (Pv := fun i σ G => ∃ o4 o5 o6, σ = [some (.ref a), some (.ref b), some (.ref L), some (.ref C), o4, o5, o6] ∧ Same H G ∧ Same M G ∧ G L = some (.lst ((needTo t p i).map V.int))) ⟨none, none, none, rfl, smH, smM, hL4⟩ (fun i σ G hi hp => ?_) fun σ G hp => ?_
  · obtain ⟨o4, o5, o6, rfl, sH, sM, hGL⟩ := hp
    obtain ⟨ls, hls, cTop, cRow⟩ := cb.same sM
    have hz := needTo_length t p i
    have ek : ((t.map V.int).length : Int) - 1 + (i : Int) * (-1) = ((t.length - 1 - i : Nat) : Int) := by
      rw [List.length_map]
      omega
    rw [ek]
    have eS : needTo t p (i + 1) = nStep t p (needTo t p i) (t.length - 1 - i) := rfl
    generalize hk : t.length - 1 - i = k at *
    have hkt : k < t.length := by omega
    have hkl : k < ls.length := by omega
    have hkp : k < p.length := by omega
    obtain ⟨c, hc⟩ := getElem?_of hkl
    have pk : (p.map V.int)[k]? = some (.int (p.getD k 0)) := mapInt_at hkp
    refine ⟨_, rfl, _, rfl, b, _, (k : Int), _, rfl, rfl, sH.tup hb, atI_nat pk, _, _, rfl, rfl, _, rfl, ?_⟩
    refine if_b (fun h => ?_) fun h => ?_
    · have hpos := of_decide_eq_true h
      have hle := hple k hkt
      refine ⟨_, rfl, _, rfl, C, _, (k : Int), .ref c, rfl, rfl, cTop, atI_nat (by rw [List.getElem?_map, hc]; rfl), c, rfl, ⟨_, cRow k c hc⟩, fun D hD => ?_⟩
      refine lc_pick (called t k) (needTo t p i) (fun x hx => by rw [hz]; exact called_lt hx) (Nat.le_trans (called_length t k) (by omega)) (cRow k c hc) (.of hGL) hD (fun _ => rfl) (fun _ => rfl) (fun _ => rfl) fun G1 s1 hG1 => ?_
      refine ⟨D, _, rfl, rfl, .of hG1, fun ns S hperm hord hS => ?_⟩
      have s2 : Same G1 (upd G1 S (.lst (ns.map V.int))) := Same.upd hS
      have ens : ns = dsc ((called t k).map fun x => (needTo t p i).getD x.toNat 0) := dsc_uniq hperm hord
      have nl : ns.length = (called t k).length := by
        rw [hperm.length_eq, List.length_map]
      have hS2 : upd G1 S (.lst (ns.map V.int)) S = some (.lst (ns.map V.int)) := upd_same
      have sE := s1.trans s2
      generalize upd G1 S (.lst (ns.map V.int)) = G2 at *
      have hj : (p.getD k 0 - 1).toNat < ns.length := by omega
      have ej : p.getD k 0 - 1 = (((p.getD k 0 - 1).toNat : Nat) : Int) := by omega
      refine ⟨_, rfl, _, rfl, b, _, (k : Int), _, rfl, rfl, (sH.trans sE).tup hb, atI_nat pk, ?_⟩
      refine ⟨_, rfl, _, rfl, _, rfl, b, _, (k : Int), _, rfl, rfl, (sH.trans sE).tup hb, atI_nat pk, _, _, rfl, rfl, ?_⟩
      refine ⟨S, _, _, _, rfl, rfl, .of hS2, by rw [ej]; exact atI_nat (mapInt_at hj), _, _, rfl, rfl, ?_⟩
      refine ⟨_, rfl, _, rfl, L, _, (k : Int), k, rfl, rfl, sE _ _ hGL, ixN_nat (by omega) (by rw [List.length_map, hz]; omega), ?_⟩
      refine ⟨_, _, _, rfl, (sH.trans sE).updR HL, (sM.trans sE).updR ML, ?_⟩
      rw [upd_same, eS]
      unfold nStep
      rw [if_pos hpos, List.map_set, ← ens]
    · have hn : ¬ 0 < p.getD k 0 := of_decide_eq_false h
      refine ⟨_, _, _, rfl, sH, sM, ?_⟩
      rw [eS]
      unfold nStep
      rw [if_neg hn]
      exact hGL
  · obtain ⟨o4, o5, o6, rfl, sH, sM, hGL⟩ := hp
    have hz := needTo_length t p t.length
    exact ⟨_, rfl, L, _, ((0 : Nat) : Int), _, rfl, rfl, .of hGL, atI_nat (mapInt_at (by omega)), q _ sH⟩
end
end K10
set_option Elab.async false
set_option linter.all false
set_option maxRecDepth 100000
set_option maxHeartbeats 4000000
/-! picks_of -/
namespace K10
open PySem PySem.Spec PyProof.Rows L2 LamX
theorem first_at {l : List Int} {m : Int} (h : m ∈ l) : ∃ j : Nat, l[j]? = some m ∧ ∀ k : Nat, k < j → ∀ z, l[k]? = some z → z ≠ m := by
  induction l with
  | nil => cases h
  | cons x r ih =>
    by_cases e : x = m
    · exact ⟨0, by rw [e]; rfl, fun k hk => absurd hk (Nat.not_lt_zero _)⟩
    · obtain ⟨j, h1, h2⟩ := ih (by
        rcases List.mem_cons.mp h with z | z
        · exact absurd z.symm e
        · exact z)
      refine ⟨j + 1, by simpa using h1, fun k hk z hz => ?_⟩
      cases k with
      | zero =>
        simp at hz
        rw [← hz]
        exact e
      | succ k => exact h2 k (by omega) z (by simpa using hz)
theorem all_flat (l : List Int) : (l.map V.int).all flatV = true := by
  rw [List.all_eq_true]
  intro x hx
  obtain ⟨i, _, rfl⟩ := List.mem_map.mp hx
  rfl
section
variable {P : Program} {w : World} {K : PySem.W.Frag} {mg : Str → Option Value} {base : Heap} (T : Nm mg)
include T
def spPO (K : PySem.W.Frag) : Sp := fun vs H Q E => ∃ a t, vs = [.ref a] ∧ Good t ∧ SqT K H a (t.map V.int) ∧ ∀ (H' : Hp) (p : Addr) (ps : List Int), Same H H' → H p = none → H' p = some (.tup (ps.map V.int)) → ps.length = t.length → Q (.ref p) H'
theorem ok_picks_of {fc : Addr} {fdc : FuncData} (Fc : Fun K "called_by" "called_by" s_called_by fc fdc) (Gc : FnOk P w K mg base CX0 1 fc fdc ["tree"] (spCB K)) (mc : mg "called_by" = some (.ref fc))
    {fn : Addr} {fdn : FuncData} (Fn : Fun K "needs_of" "needs_of" s_needs_of fn fdn) (Gn : FnOk P w K mg base CX0 2 fn fdn ["tree"] (spNO K)) (mn : mg "needs_of" = some (.ref fn))
    {f : Addr} {fd : FuncData} (F : Fun K "picks_of" "picks_of" s_picks_of f fd) : FnOk P w K mg base CX0 3 f fd ["tree"] (spPO K) := by
  refine F.ok sc_picks_of (by rintro _ _ _ _ ⟨a, t, rfl, _⟩; rfl) fun cdv A outer s H vs Q E hr hsp => ?_
  obtain ⟨a, t, rfl, g, hs, q⟩ := hsp
  have nd := sc_picks_of.nd
  have bc : Binds K fdc ["tree"] [] := Fc.binds (fun _ _ _ _ _ _ us hl => match us, hl with | [_], _ => rfl)
  have bn : Binds K fdn ["tree"] [] := Fn.binds (fun _ _ _ _ _ _ us hl => match us, hl with | [_], _ => rfl)
  refine ⟨_, pss_cons (ps_asg (pe_tup (pa_cons (pe_call Gn hr (by rfl) mn Fn.kp bn .nil pass0 (pa_cons (pv 0) pa_nil)) (pa_cons (pe_lst pa_nil) pa_nil)))
      (pg_tup (by rfl) (pgs_cons (pg_name (i := 1) nd rfl (Or.inr rfl)) (pgs_cons (pg_name (i := 2) nd rfl (Or.inl rfl)) pgs_nil))))
    (pss_cons (ps_for PassesOwn.never rfl (pi_list (pe_call Gc (hr.mono (by decide)) (by rfl) mc Fc.kp bc .nil pass0 (pa_cons (pv 0) pa_nil))) (pg_name (i := 3) nd rfl (Or.inl rfl))
      (pss_cons (ps_set (i := 4) nd rfl (Or.inl rfl) (pe_callBK (cr_sortedRev (b := true)) (by rfl) T.sorted boot_sorted (pa_cons
          (pe_lc (own := [("one", 6)]) (g := gName 6) (tt := tYes) (te := tOp (rIxL K) (tVar 1) (tVar 6)) rfl nd (pi_list (pv 3)) (blkOk_by (N := n_picks_of) (sc := defScope s_picks_of) (by decide +kernel)) (fun _ _ _ _ _ => pg_name (i := 6) nd rfl (Or.inl rfl)) (fun _ _ _ _ _ => pts_nil) (fun _ _ _ _ _ => pe_ix ix_list (pv 1) (pv 6) (fun _ _ => rfl))) pa_nil) (pk_cons pe_bl pk_nil)))
      (pss_cons (ps_setLc (i := 5) (own := [("turn", 7), ("need", 8)]) (g := gTup K 2 (gCons (gName 7) (gCons (gName 8) gNil))) (tt := tYes) rfl nd rfl rfl (sw_true rfl rfl rfl (by decide +kernel)) (pi_enum (by rfl) T.enum (pa_cons (pv 4) pa_nil)) (blkOk_by (N := n_picks_of) (sc := defScope s_picks_of) (by decide +kernel))
          (fun _ _ _ _ _ => pg_tup (by rfl) (pgs_cons (pg_name (i := 7) nd rfl (Or.inl rfl)) (pgs_cons (pg_name (i := 8) nd rfl (Or.inl rfl)) pgs_nil))) (fun _ _ _ _ _ => pts_nil) (fun _ _ _ _ _ => pe_op op_add (pe_op op_add (pv 7) pe_int) (pv 8)))
      (pss_one (ps_expr (pe_bm PySem.F.plainAttrs_list PySem.F.slot_list_append PySem.F.type_list_append mt_append (pv 2) (pa_cons
        (pe_ifExp (pt_cmpR (op_neD hr.units) (pv 5) (pe_lst pa_nil) (nomark _))
          (pe_op op_add (pe_bm PySem.F.plainAttrs_list PySem.F.slot_list_index PySem.F.type_list_index mt_index (pv 5) (pa_cons (pe_callB (cr_max rfl) (by rfl) T.max (by decide +kernel) (pa_cons (pv 5) pa_nil)) pa_nil)) pe_int) pe_int) pa_nil)))))))
    (pss_one (ps_ret (pe_callTy call_tuple_of (by rfl) T.tup (by decide +kernel) (pa_cons (pv 2) pa_nil))))), ?_⟩
  have tl := g.le
  have tp := g.pos
  refine ⟨_, rfl, a, t, rfl, g, hs, fun H1 N zs s1 hN hHN hz => ?_⟩
  refine ⟨Nat.zero_le _, fun L hL => ?_⟩
  have sL := Same.upd (o := .lst []) hL
  have HL : H L = none := s1.free hL
  refine ⟨Nat.le_of_lt (small1000 (by simp)), fun tp0 htp => ?_⟩
  refine ⟨tp0, _, rfl, .of upd_same, rfl, _, _, rfl, _, _, rfl, rfl, ?_⟩
  have sT := Same.upd (o := .tup [V.ref N, V.ref L]) htp
  have sH2 := (s1.trans sL).trans sT
  have hL2 : upd (upd H1 L (.lst [])) tp0 (.tup [V.ref N, V.ref L]) L = some (.lst []) := sT _ _ upd_same
  have hN2 : upd (upd H1 L (.lst [])) tp0 (.tup [V.ref N, V.ref L]) N = some (.lst (zs.map V.int)) := sT _ _ (sL _ _ hHN)
  have nNL : N ≠ L := ne_of_none hHN hL
  generalize upd (upd H1 L (.lst [])) tp0 (.tup [V.ref N, V.ref L]) = H2 at *
  refine ⟨_, rfl, a, t, rfl, g, sH2.tup hs, fun H3 C s3 hC cb => ?_⟩
  have ML : nu H2 H3 L = none := nu_old (by rw [hL2]; exact fun z => nomatch z)
  obtain ⟨ls, hls, cTop, cRow⟩ := cb
  refine ⟨C, rfl, ⟨_, nu_same.seq cTop⟩, ?_⟩
  have sM0 : Same (nu H2 H3) H3 := nu_same
  generalize nu H2 H3 = M at *
  refine for_it (walk_list (xs := ls.map V.ref)) (Pv := fun i σ G => ∃ o3 o4 o5 o6 o7 o8, σ = [some (.ref a), some (.ref N), some (.ref L), o3, o4, o5, o6, o7, o8] ∧ Same H G ∧ Same M G ∧ G N = some (.lst (zs.map V.int)) ∧ ∃ ps : List Int, G L = some (.lst (ps.map V.int)) ∧ ps.length = i)
    ⟨none, none, none, none, none, none, rfl, sH2.trans s3, sM0, s3 _ _ hN2, [], s3 _ _ hL2, rfl⟩ (fun i σ G _ h => ?_) (fun i x σ G G' hi hp hy => ?_) fun σ G hp => ?_
  · obtain ⟨_, _, _, _, _, _, _, _, sm, _⟩ := h
    exact sm.seq cTop
  · obtain ⟨o3, o4, o5, o6, o7, o8, rfl, sH, sM, hGN, ps, hGL, hps⟩ := hp
    obtain ⟨rfl, hx⟩ := hy
    rw [List.length_map] at hi
    obtain ⟨c, hc⟩ := getElem?_of hi
    have ex : x = .ref c := by
      rw [List.getElem?_map, hc] at hx
      exact (Option.some.inj hx).symm
    subst ex
    have hrow := cRow i c hc
    refine ⟨_, rfl, c, rfl, ⟨_, sM.seq hrow⟩, fun D hD => ?_⟩
    refine lc_pick (called t i) zs (fun x hx => by rw [hz]; exact called_lt hx) (Nat.le_trans (called_length t i) (by omega)) (sM.seq hrow) (.of hGN) hD (fun _ => rfl) (fun _ => rfl) (fun _ => rfl) fun G1 s1' hG1 => ?_
    refine ⟨D, _, rfl, rfl, .of hG1, fun ns S hperm hord hS => ?_⟩
    have s2 : Same G1 (upd G1 S (.lst (ns.map V.int))) := Same.upd hS
    have hS2 : upd G1 S (.lst (ns.map V.int)) S = some (.lst (ns.map V.int)) := upd_same
    have sE := s1'.trans s2
    generalize upd G1 S (.lst (ns.map V.int)) = G2 at *
    have nl : ns.length ≤ 40 := by
      rw [hperm.length_eq, List.length_map]
      exact Nat.le_trans (called_length t i) tl
    refine ⟨_, rfl, S, _, rfl, .of hS2, fun D2 hD2 => ?_⟩
    refine lc_vals (List.range ns.length) (fun (j : Nat) => V.int ((j : Int) + 1 + ns.getD j 0)) (by have z := walk_enum (K := K) (a := S) (xs := ns.map V.int); rw [List.length_map] at z; rw [List.length_range]; exact z) hD2 (by rw [List.length_range]; omega) (fun G' sm => SqL.of (sm _ _ hS2)) (fun j z x A B hj sm hy Q1 Q0 h1 => ?_) fun G5 s5 hG5 => ?_
    · obtain ⟨Tp, x1, x2, rfl, hT, rfl, e1, hx⟩ := hy
      cases e1
      have hjl : j < ns.length := by
        have := lt_of_at hj
        rw [List.length_range] at this
        exact this
      have ez : z = j := by
        rw [List.getElem?_range hjl] at hj
        exact (Option.some.inj hj).symm
      subst ez
      have hx' : (ns.map V.int)[z]? = some x2 := hx
      rw [mapInt_at hjl] at hx'
      cases hx'
      refine ⟨Tp, _, rfl, .of upd_same, rfl, _, _, rfl, _, _, rfl, rfl, rfl, ?_⟩
      refine tYes_of ?_
      refine iteT ?_
      exact ⟨_, rfl, _, _, rfl, rfl, _, rfl, _, _, rfl, rfl, h1 _ (Same.upd hT)⟩
    · have em : (List.range ns.length).map (fun (j : Nat) => V.int ((j : Int) + 1 + ns.getD j 0)) = ((List.range ns.length).map fun (j : Nat) => ((j : Int) + 1 + ns.getD j 0)).map V.int := by rw [List.map_map]; rfl
      rw [em] at hG5
      generalize (List.range ns.length).map (fun (j : Nat) => ((j : Int) + 1 + ns.getD j 0)) = sums at *
      have sF := sE.trans s5
      refine ⟨_, rfl, .inl ⟨rfl, _, .of (sF _ _ hGL)⟩, ?_⟩
      refine ⟨_, rfl, Nat.zero_le _, fun l hl => ?_⟩
      have s6 := Same.upd (o := .lst []) hl
      have hl6 : upd G5 l (.lst []) l = some (.lst []) := upd_same
      have sG := sF.trans s6
      have hG6 := s6 _ _ hG5
      generalize upd G5 l (.lst []) = G6 at *
      refine ⟨_, _, lD_dp (.of hG6), lst_nil_dp hl6, sh_ints _, sh_ints _, _, rfl, ?_⟩
      rw [eqv_ints]
      have done : ∀ (z : Int) (σ' : L2.St), σ' = [some (.ref a), some (.ref N), some (.ref L), some (.ref c), some (.ref S), some (.ref D2), o6, o7, o8] → ∃ p3 p4 p5 p6 p7 p8, σ' = [some (.ref a), some (.ref N), some (.ref L), p3, p4, p5, p6, p7, p8] ∧ Same H (upd G6 L (.lst (ps.map V.int ++ [.int z]))) ∧ Same M (upd G6 L (.lst (ps.map V.int ++ [.int z]))) ∧
          upd G6 L (.lst (ps.map V.int ++ [.int z])) N = some (.lst (zs.map V.int)) ∧ ∃ ps' : List Int, upd G6 L (.lst (ps.map V.int ++ [.int z])) L = some (.lst (ps'.map V.int)) ∧ ps'.length = i + 1 := fun z σ' e =>
        ⟨_, _, _, _, _, _, e, (sH.trans sG).updR HL, (sM.trans sG).updR ML, (upd_ne nNL).trans (sG _ _ hGN), ps ++ [z], by rw [upd_same, List.map_append]; rfl, by rw [List.length_append, hps]; rfl⟩
      have hlen : (ps.map V.int).length < sizeLine := by
        rw [List.length_map]
        exact small1000 (by omega)
      refine if_b (fun hne => ?_) fun hne => ?_
      · have hne' : ¬ sums = [] := by simpa using hne
        have hpos : 0 < sums.length := List.length_pos_iff.mpr hne'
        refine ⟨_, rfl, .inl ⟨rfl, _, .of hG6⟩, _, rfl, D2, sums, rfl, .of hG6, hpos, fun m hm hle => ?_⟩
        obtain ⟨j, hj, hno⟩ := first_at hm
        refine ⟨D2, _, .int m, j, .int m, rfl, rfl, .of hG6, rfl, all_flat sums, by rw [List.getElem?_map, hj]; rfl, by simp [eqV], fun k z' hk hz' => ?_, _, _, rfl, rfl, ?_⟩
        · rw [List.getElem?_map] at hz'
          cases e : sums[k]? with
          | none =>
            rw [e] at hz'
            cases hz'
          | some y =>
            rw [e] at hz'
            have ey : V.int y = z' := Option.some.inj hz'
            subst ey
            have := hno k hk y e
            simp [eqV, this]
        · exact ⟨L, _, _, rfl, rfl, sG _ _ hGL, hlen, done _ _ rfl⟩
      · exact ⟨L, _, _, rfl, rfl, sG _ _ hGL, hlen, done _ _ rfl⟩
  · obtain ⟨o3, o4, o5, o6, o7, o8, rfl, sH, sM, hGN, ps, hGL, hps⟩ := hp
    rw [List.length_map] at hps
    refine ⟨_, rfl, L, _, rfl, .inl ⟨.of hGL, fun p hp => ?_⟩⟩
    exact q _ _ ps (sH.updR (sH.free hp)) (sH.free hp) upd_same (by omega)
end
end K10
set_option Elab.async false
set_option linter.all false
set_option maxRecDepth 100000
set_option maxHeartbeats 4000000
/-! order_in -/
namespace K10
open PySem PySem.Spec PyProof.Rows L2 LamX
/-- a def whose code object stands at c -/
structure FunC (K : PySem.W.Frag) (x qual : Str) (st : Stmt) (f : Addr) (fd : FuncData) (c : Addr) : Prop where
  ex : ∃ (oc : Value) (od : Option Addr) (kV doc pm : Value) (an : Option Addr) (ct : Value) (osl : Array (Option Value)),
    fd = PySem.W.fnOf x qual (defArgs st) (defBody st) (defScope st) .none kV doc pm an (.ref c) ct ∧ K.lookup f = some ⟨oc, od, .func fd, osl⟩ ∧ PySem.W.codeIn K (.ref c) qual = true
  kp : PySem.W.keepIn K (.ref f) = true
theorem FunC.fun {K : PySem.W.Frag} {x qual : Str} {st : Stmt} {f : Addr} {fd : FuncData} {c : Addr} (F : FunC K x qual st f fd c) : Fun K x qual st f fd := by
  obtain ⟨oc, od, kV, doc, pm, an, ct, osl, h⟩ := F.ex
  exact ⟨⟨oc, od, kV, doc, pm, an, _, ct, osl, h⟩, F.kp⟩
/-- the name of the lambda in order_in -/
def lamQ : Str := ("order_in" : Str) ++ ".<locals>." ++ "<lambda>"
def tabT (p : Addr) : List (Addr × Str) := [(p, lamQ)]
theorem dpAll_of_rows {K : PySem.W.Frag} {A : Hp} : ∀ {ps : List Addr} {R : List (List Int)}, ps.length = R.length → (∀ (j : Nat) (p : Addr) (r : List Int), ps[j]? = some p → R[j]? = some r → SqT K A p (r.map V.int)) → DpAll K A (ps.map V.ref) (R.map rD)
  | [], [], _, _ => .nil
  | [], _ :: _, h, _ => by cases h
  | _ :: _, [], h, _ => by cases h
  | p :: ps, r :: R, h, hr => .cons (tD_dp (hr 0 p r rfl rfl)) (dpAll_of_rows (by simpa using h) fun j p' r' h1 h2 => hr (j + 1) p' r' (by simpa using h1) (by simpa using h2))
/-- nothing at p but maybe a table -/
def Fr (H : Hp) (p : Addr) : Prop := ∀ o, H p = some o → ∃ q, o = .tbl q
theorem fr_of {H X : Hp} {p : Addr} (e : ExtN H X) (h : X p = none) : Fr H p := fun o ho => by
  cases o with
  | tbl q => exact ⟨q, rfl⟩
  | _ =>
    have z := e p _ ho fun q z => by cases z
    rw [h] at z
    cases z
def isTbl : Option HO → Bool
  | none => true
  | some (.tbl _) => true
  | _ => false
/-- the part of B that A has not (or holds a table there) -/
def nuT (A B : Hp) : Hp := fun b => if isTbl (A b) = true then B b else none
theorem nuT_at {A B : Hp} {p : Addr} (h : Fr A p) : nuT A B p = B p := by
  unfold nuT
  cases e : A p with
  | none => rfl
  | some o =>
    obtain ⟨q, rfl⟩ := h o e
    rfl
theorem nuT_old {A B : Hp} {p : Addr} {o : HO} (h : A p = some o) (n : ∀ q, o ≠ .tbl q) : nuT A B p = none := by
  unfold nuT
  rw [h]
  cases o with
  | tbl q => exact absurd rfl (n q)
  | _ => rfl
theorem nuT_same {A B : Hp} : Same (nuT A B) B := fun b o h => by
  unfold nuT at h
  split at h
  · exact h
  · cases h
theorem nuT_ext {A A' B B' : Hp} (e : ExtN A A') (e2 : ExtN B B') : ExtN (nuT A' B) (nuT A B') := fun b o h n => by
  have hb := nuT_same b o h
  have z := e2 b o hb n
  rw [nuT_at]
  · exact z
  · intro u hu
    cases u with
    | tbl q => exact ⟨q, rfl⟩
    | _ =>
      have y := e b _ hu fun q z => by cases z
      rw [nuT_old y fun q z => by cases z] at h
      cases h
/-- an object that is no table is written -/
theorem _root_.LamX.Tabs.mut {T : List (Addr × Str)} {H : Hp} {a : Addr} {o u : HO} (t : Tabs T H) (h : H a = some o) (n : ∀ q, o ≠ .tbl q) (nc : ∀ q, o ≠ CodeO a q := by intro q z; unfold CodeO at z; cases z) : Tabs T (L2.upd H a u) := fun p hp => by
  obtain ⟨ps, h1, h2, h3⟩ := t p hp
  have n1 : p.1 ≠ a := fun z => by
    rw [z, h] at h1
    exact n ps (Option.some.inj h1)
  refine ⟨ps, by rw [upd_ne n1]; exact h1, h2, fun pos cv hc => ?_⟩
  obtain ⟨c, e1, e2⟩ := h3 pos cv hc
  have n2 : c ≠ a := fun z => by
    rw [z, h] at e2
    exact nc p.2 (Option.some.inj e2)
  exact ⟨c, e1, by rw [upd_ne n2]; exact e2⟩
def tTupOf (K : PySem.W.Frag) (te : TE) : TE := tCB (fun xs H Q => ∃ p ys, xs = [.ref p] ∧ ((SqL K H p ys ∧ ∀ l, H l = none → Q (.ref l) (upd H l (.tup ys))) ∨ (SqT K H p ys ∧ Q (.ref p) H))) (tCons te tNil)
section
variable {P : Program} {w : World} {K : PySem.W.Frag} {mg : Str → Option Value} {base : Heap} (T : Nm mg)
include T
def spOI (K : PySem.W.Frag) (p0 : Addr) : Sp := fun vs H Q E => ∃ a t, vs = [.ref a] ∧ Good t ∧ SqT K H a (t.map V.int) ∧ Tabs (tabT p0) H ∧ ∀ (H' : Hp) (p : Addr) (R : List (List Int)), ExtN H H' → Tabs (tabT p0) H' → Dp K (nuT H H') (.ref p) (oD R) → OrdOk t R → Q (.ref p) H'
theorem ok_order_in {fc : Addr} {fdc : FuncData} (Fc : Fun K "called_by" "called_by" s_called_by fc fdc) (Gc : FnOk P w K mg base CX0 1 fc fdc ["tree"] (spCB K)) (mc : mg "called_by" = some (.ref fc))
    {fn : Addr} {fdn : FuncData} (Fn : Fun K "needs_of" "needs_of" s_needs_of fn fdn) (Gn : FnOk P w K mg base CX0 2 fn fdn ["tree"] (spNO K)) (mn : mg "needs_of" = some (.ref fn))
    {f c p0 : Addr} {fd : FuncData} (F : FunC K "order_in" "order_in" s_order_in f fd c) (TB : TabB base mg c p0) : FnOk P w K mg base CX0 4 f fd ["tree"] (spOI K p0) := by
  obtain ⟨oc, od, kV, doc, pm, an, ct, osl, rfl, lk, hcd⟩ := F.ex
  refine fn_of lk hcd sc_order_in (by rintro _ _ _ _ ⟨a, t, rfl, _⟩; rfl) fun A outer s H vs Q E hr hsp => ?_
  obtain ⟨a, t, rfl, g, hs, hT, q⟩ := hsp
  have nd := sc_order_in.nd
  have bc : Binds K fdc ["tree"] [] := Fc.binds (fun _ _ _ _ _ _ us hl => match us, hl with | [_], _ => rfl)
  have bn : Binds K fdn ["tree"] [] := Fn.binds (fun _ _ _ _ _ _ us hl => match us, hl with | [_], _ => rfl)
  have key : ∃ t', PSs (cxOf CX0 P w K mg base n_order_in "order_in" (defScope s_order_in) f (.ref c) A outer s H E).nox (defBody s_order_in) t' ∧ t' { nx := fun _ H' => Q .non H', rt := Q } (start n_order_in [.ref a]) H := by
    refine ⟨_, pss_cons (ps_set (i := 1) nd rfl (Or.inr rfl) (pe_call Gn (hr.mono (by decide)) (by rfl) mn Fn.kp bn .nil pass0 (pa_cons (pv 0) pa_nil)))
      (pss_one (ps_ret (pe_callTy call_tuple_of (by rfl) T.tup (by decide +kernel) (pa_cons
        (pe_lc (own := [("some", 3)]) (g := gName 3) (tt := tYes) (te := tTupOf K (tSortLam K (tabT p0) 3 1)) rfl nd (pi_list (pe_call Gc (hr.mono (by decide)) (by rfl) mc Fc.kp bc .nil pass0 (pa_cons (pv 0) pa_nil))) (blkOk_by (N := n_order_in) (sc := defScope s_order_in) (by decide +kernel)) (fun _ _ _ _ _ => pg_name (i := 3) nd rfl (Or.inl rfl)) (fun _ _ _ _ _ => pts_nil)
          (fun _ _ _ _ _ => pe_callTy call_tuple_of (by rfl) T.tup (by decide +kernel) (pa_cons (pe_sortLam (i := 3) (jn := 1) (T := tabT p0) (by rfl) T.sorted (by rfl) (Or.inl rfl) (by decide) (by decide) (by rfl) (Or.inl rfl) TB rfl (List.mem_singleton.mpr rfl) (fun p hp _ => by rw [List.mem_singleton.mp hp]; rfl) (hr.mono (by decide))) pa_nil))) pa_nil)))), ?_⟩
    have tl := g.le
    have tp := g.pos
    refine ⟨_, rfl, a, t, rfl, g, hs, fun H1 N zs s1 hN hHN hz => ?_⟩
    refine ⟨_, rfl, a, t, rfl, g, s1.tup hs, fun H2 C s2 hC cb => ?_⟩
    obtain ⟨ls, hls, cTop, cRow⟩ := cb.same nu_same
    have hN2 := s2 _ _ hHN
    have hT2 : Tabs (tabT p0) H2 := (hT.ext s1).ext s2
    have e2 : ExtN H H2 := ExtN.of (s1.trans s2)
    refine ⟨C, rfl, ⟨_, cTop⟩, fun D hD => ?_⟩
    have HD : H D = none := s1.free (s2.free hD)
    refine lc_it (walk_list (xs := ls.map V.ref)) (Pv := fun i G => ExtN H2 G ∧ Tabs (tabT p0) G ∧ ∃ (ps : List Addr) (R : List (List Int)), ps.length = i ∧ R.length = i ∧ G D = some (.lst (ps.map V.ref)) ∧
        ∀ (j : Nat) (p : Addr) (r : List Int), ps[j]? = some p → R[j]? = some r → Fr H p ∧ p ≠ D ∧ G p = some (.tup (r.map V.int)) ∧ r.Perm (called t j))
      ⟨ExtN.of (Same.upd hD), hT2.ext (Same.upd hD), [], [], rfl, rfl, upd_same, fun j p r h => by cases h⟩ (fun i G _ h => extN_sqL h.1 cTop) (fun i x G G' hi hp hy => ?_) fun G hp => ?_
    · obtain ⟨eG, hTG, ps, R, hps, hR, hGD, hrow⟩ := hp
      obtain ⟨rfl, hx⟩ := hy
      rw [List.length_map] at hi
      obtain ⟨c', hc⟩ := getElem?_of hi
      have ex : x = .ref c' := by
        rw [List.getElem?_map, hc] at hx
        exact (Option.some.inj hx).symm
      subst ex
      have hit : i < t.length := by omega
      refine ⟨rfl, ?_⟩
      refine tYes_of ?_
      refine iteT ?_
      refine ⟨c', N, called t i, zs, rfl, rfl, extN_sqL eG (cRow i c' hc), .of (eG _ _ hN2 fun _ z => by cases z), fun x hx => by rw [hz]; exact called_lt hx, hTG, fun H5 ns S e5 hT5 hperm hS => ?_⟩
      refine ⟨S, _, rfl, .inl ⟨.of upd_same, fun l hl => ?_⟩⟩
      have s6 : Same H5 (upd (upd H5 S (.lst (ns.map V.int))) l (.tup (ns.map V.int))) := (Same.upd hS).trans (Same.upd hl)
      have hl6 : upd (upd H5 S (.lst (ns.map V.int))) l (.tup (ns.map V.int)) l = some (.tup (ns.map V.int)) := upd_same
      have hlH5 : H5 l = none := (Same.upd hS).free hl
      generalize upd (upd H5 S (.lst (ns.map V.int))) l (.tup (ns.map V.int)) = G6 at *
      have hGD6 : G6 D = some (.lst (ps.map V.ref)) := s6 _ _ (e5 _ _ hGD fun _ z => by cases z)
      have nlD : l ≠ D := fun z => by
        have y := e5 _ _ hGD fun _ z => by cases z
        rw [← z, hlH5] at y
        cases y
      have hlH : Fr H l := fr_of ((e2.trans eG).trans e5) hlH5
      have eG6 : ExtN H2 G6 := (eG.trans e5).trans (ExtN.of s6)
      have hT6 : Tabs (tabT p0) G6 := hT5.ext s6
      refine ⟨_, hGD6, ?_, fun b o h n => ?_, ?_, ps ++ [l], R ++ [ns], by rw [List.length_append, hps]; rfl, by rw [List.length_append, hR]; rfl, by rw [upd_same, List.map_append]; rfl, fun j p r h1 h2 => ?_⟩
      · rw [List.length_map, hps]
        exact small1000 (by omega)
      · rw [upd_ne (ne_of_none h hD)]
        exact eG6 b o h n
      · exact hT6.mut hGD6 fun q z => by cases z
      · by_cases hj : j < i
        · rw [List.getElem?_append_left (by omega)] at h1 h2
          obtain ⟨k1, k2, k3, k4⟩ := hrow j p r h1 h2
          refine ⟨k1, k2, ?_, k4⟩
          rw [upd_ne k2]
          exact s6 _ _ (e5 _ _ k3 fun _ z => by cases z)
        · have hji : j = i := by
            have := lt_of_at h1
            rw [List.length_append, hps] at this
            simp at this
            omega
          subst hji
          rw [List.getElem?_append_right (by omega), hps, Nat.sub_self] at h1
          rw [List.getElem?_append_right (by omega), hR, Nat.sub_self] at h2
          have e1 : l = p := by simpa using h1
          have e3 : ns = r := by simpa using h2
          subst e1 e3
          exact ⟨hlH, nlD, (upd_ne nlD).trans hl6, hperm⟩
    · obtain ⟨eG, hTG, ps, R, hps, hR, hGD, hrow⟩ := hp
      rw [List.length_map] at hps hR
      refine ⟨D, _, rfl, .inl ⟨.of hGD, fun p hp => ?_⟩⟩
      have sp := Same.upd (o := .tup (ps.map V.ref)) hp
      refine q _ p R ((e2.trans eG).trans (ExtN.of sp)) (hTG.ext sp) (.tup (.of ?_) (dpAll_of_rows (hps.trans hR.symm) fun j p' r h1 h2 => .of ?_)) ⟨by omega, fun j hj => ?_⟩
      · rw [nuT_at (fr_of (e2.trans eG) hp), upd_same]
      · obtain ⟨k1, k2, k3, k4⟩ := hrow j p' r h1 h2
        rw [nuT_at k1]
        exact sp _ _ k3
      · obtain ⟨r, hr'⟩ := getElem?_of hj
        obtain ⟨p', hp'⟩ := getElem?_of (show j < ps.length by omega)
        rw [getD_of hr']
        exact (hrow j p' r hp' hr').2.2.2
  obtain ⟨t', h1, h2⟩ := key
  exact ⟨t', h1.nox, h2⟩
end
end K10
set_option Elab.async false
set_option linter.all false
set_option maxRecDepth 100000
set_option maxHeartbeats 4000000
/-! least_time, order, relay_paper, time_of, check_relay -/
namespace K10
open PySem PySem.Spec PyProof.Rows L2 LamX
/-- a def of the text that keeps its promise, by its name -/
def Kn (P : Program) (w : World) (K : PySem.W.Frag) (mg : Str → Option Value) (base : Heap) (CX : CXT) (k : Nat) (x : Str) (st : Stmt) (ps : List Str) (sp : Sp) : Prop :=
  ∃ f fd, Fun K x x st f fd ∧ mg x = some (.ref f) ∧ FnOk P w K mg base CX k f fd ps sp
/-- an error of a tree that is none -/
def TrE (CT : Addr) (d : PyData) (H : Hp) (E : XK) : Prop := ∀ x, treeBad d = some x → ∀ (H' : Hp) (dd : Addr), Same H H' → H' dd = some (.xd [("number", x)]) → E (.ref CT) (some dd) H'
def SS (d : PyData) : Prop := ∀ o p, d = .tuple [o, p] → RS o
theorem nt_bad {K : PySem.W.Frag} {CT : Addr} {v : V} {d : PyData} {x : V} {H : Hp} {Q : VK} {E : XK} (hd : Dp K H v d) (hb : treeBad d = some x) (h : TrE CT d H E) : spNT K CT [v] H Q E :=
  ⟨v, d, rfl, hd, fun z => (by rw [hb] at z; cases z), h⟩
theorem nt_good {K : PySem.W.Frag} {CT : Addr} {v : V} {t : List Int} {H : Hp} {Q : VK} {E : XK} (hd : Dp K H v (tD t)) (g : Good t) (h : ∀ H', Same H H' → Q v H') : spNT K CT [v] H Q E :=
  ⟨v, tD t, rfl, hd, fun _ => h, fun x z => by rw [bad_of_good g] at z; cases z⟩
section
variable {P : Program} {w : World} {K : PySem.W.Frag} {mg : Str → Option Value} {base : Heap} (T : Nm mg) {CT CP CN p0 : Addr}
/-- least_time is only called of what is no tree -/
def spLT (K : PySem.W.Frag) (CT : Addr) : Sp := fun vs H Q E => ∃ v d x, vs = [v] ∧ Dp K H v d ∧ treeBad d = some x ∧ TrE CT d H E
theorem ok_least_time (kt : Kn P w K mg base (L2.CX P w) 2 "need_tree" s_need_tree ["thing"] (spNT K CT)) (kn : Kn P w K mg base CX0 2 "needs_of" s_needs_of ["tree"] (spNO K))
    {f : Addr} {fd : FuncData} (F : Fun K "least_time" "least_time" s_least_time f fd) : FnOk P w K mg base (L2.CX P w) 3 f fd ["tree"] (spLT K CT) := by
  obtain ⟨ft, fdt, Ft, mt, Gt⟩ := kt
  obtain ⟨fn, fdn, Fn, mn, Gn⟩ := kn
  refine F.okX sc_least_time (by rintro _ _ _ _ ⟨v, d, x, rfl, _⟩; rfl) fun cdv A outer s H vs Q E hr hsp => ?_
  obtain ⟨v, d, x, rfl, hd, hb, qE⟩ := hsp
  have bt : Binds K fdt ["thing"] [] := Ft.binds (fun _ _ _ _ _ _ us hl => match us, hl with | [_], _ => rfl)
  have bn : Binds K fdn ["tree"] [] := Fn.binds (fun _ _ _ _ _ _ us hl => match us, hl with | [_], _ => rfl)
  refine ⟨_, pss_one (ps_ret (pe_ix ix_list (pe_call Gn hr (by rfl) mn Fn.kp bn .nil pass0 (pa_cons (pe_call (E := E) Gt hr (by rfl) mt Ft.kp bt .nil (passes_call (takes_of rfl rfl rfl rfl) (fun _ _ _ _ h => h)) (pa_cons (pv 0) pa_nil)) pa_nil)) pe_int (fun _ _ => rfl))), ?_⟩
  exact ⟨_, rfl, nt_bad hd hb qE⟩
/-- order -/
def spOr (K : PySem.W.Frag) (CT p0 : Addr) : Sp := fun vs H Q E => ∃ v d, vs = [v] ∧ Dp K H v d ∧ TrE CT d H E ∧
  ∀ t, d = tD t → Good t → Tabs (tabT p0) H ∧ ∀ (H' : Hp) (p : Addr) (R : List (List Int)), ExtN H H' → Tabs (tabT p0) H' → Dp K (nuT H H') (.ref p) (oD R) → OrdOk t R → Q (.ref p) H'
theorem ok_order (kt : Kn P w K mg base (L2.CX P w) 2 "need_tree" s_need_tree ["thing"] (spNT K CT)) (ko : Kn P w K mg base CX0 4 "order_in" s_order_in ["tree"] (spOI K p0))
    {f : Addr} {fd : FuncData} (F : Fun K "order" "order" s_order f fd) : FnOk P w K mg base (L2.CX P w) 5 f fd ["tree"] (spOr K CT p0) := by
  obtain ⟨ft, fdt, Ft, mt, Gt⟩ := kt
  obtain ⟨fo, fdo, Fo, mo, Go⟩ := ko
  refine F.okX sc_order (by rintro _ _ _ _ ⟨v, d, rfl, _⟩; rfl) fun cdv A outer s H vs Q E hr hsp => ?_
  obtain ⟨v, d, rfl, hd, qE, q⟩ := hsp
  have bt : Binds K fdt ["thing"] [] := Ft.binds (fun _ _ _ _ _ _ us hl => match us, hl with | [_], _ => rfl)
  have bo : Binds K fdo ["tree"] [] := Fo.binds (fun _ _ _ _ _ _ us hl => match us, hl with | [_], _ => rfl)
  refine ⟨_, pss_one (ps_ret (pe_call Go hr (by rfl) mo Fo.kp bo .nil pass0 (pa_cons (pe_call (E := E) Gt (hr.mono (by decide)) (by rfl) mt Ft.kp bt .nil (passes_call (takes_of rfl rfl rfl rfl) (fun _ _ _ _ h => h)) (pa_cons (pv 0) pa_nil)) pa_nil))), ?_⟩
  cases hb : treeBad d with
  | some x => exact ⟨_, rfl, nt_bad hd hb qE⟩
  | none =>
    obtain ⟨t, rfl, g⟩ := good_of_bad hb
    obtain ⟨hT, q'⟩ := q t rfl g
    refine ⟨_, rfl, nt_good hd g fun H1 s1 => ?_⟩
    obtain ⟨a, rfl, ha⟩ := dp_tD hd
    exact ⟨a, t, rfl, g, s1.tup ha, hT.ext s1, fun H2 p R e2 hT2 hdp ho => q' H2 p R ((ExtN.of s1).trans e2) hT2 (hdp.extN (nuT_ext (ExtN.of s1) (ExtN.refl _))) ho⟩
/-- relay_paper -/
def spRP (K : PySem.W.Frag) (CT p0 : Addr) : Sp := fun vs H Q E => ∃ v d, vs = [v] ∧ Dp K H v d ∧ TrE CT d H E ∧
  ∀ t, d = tD t → Good t → Tabs (tabT p0) H ∧ ∀ (H' : Hp) (p : Addr) (R : List (List Int)) (ps : List Int), ExtN H H' → Tabs (tabT p0) H' → Dp K (nuT H H') (.ref p) (.tuple [oD R, rD ps]) → OrdOk t R → ps.length = t.length → Q (.ref p) H'
theorem ok_relay_paper (kt : Kn P w K mg base (L2.CX P w) 2 "need_tree" s_need_tree ["thing"] (spNT K CT)) (ko : Kn P w K mg base CX0 4 "order_in" s_order_in ["tree"] (spOI K p0)) (kp : Kn P w K mg base CX0 3 "picks_of" s_picks_of ["tree"] (spPO K))
    {f : Addr} {fd : FuncData} (F : Fun K "relay_paper" "relay_paper" s_relay_paper f fd) : FnOk P w K mg base (L2.CX P w) 5 f fd ["tree"] (spRP K CT p0) := by
  obtain ⟨ft, fdt, Ft, mt, Gt⟩ := kt
  obtain ⟨fo, fdo, Fo, mo, Go⟩ := ko
  obtain ⟨fp, fdp, Fp, mp, Gp⟩ := kp
  refine F.okX sc_relay_paper (by rintro _ _ _ _ ⟨v, d, rfl, _⟩; rfl) fun cdv A outer s H vs Q E hr hsp => ?_
  obtain ⟨v, d, rfl, hd, qE, q⟩ := hsp
  have bt : Binds K fdt ["thing"] [] := Ft.binds (fun _ _ _ _ _ _ us hl => match us, hl with | [_], _ => rfl)
  have bo : Binds K fdo ["tree"] [] := Fo.binds (fun _ _ _ _ _ _ us hl => match us, hl with | [_], _ => rfl)
  have bp : Binds K fdp ["tree"] [] := Fp.binds (fun _ _ _ _ _ _ us hl => match us, hl with | [_], _ => rfl)
  refine ⟨_, pss_cons (ps_expr (pe_call (E := E) Gt (hr.mono (by decide)) (by rfl) mt Ft.kp bt .nil (passes_call (takes_of rfl rfl rfl rfl) (fun _ _ _ _ h => h)) (pa_cons (pv 0) pa_nil)))
    (pss_one (ps_ret (pe_tup (pa_cons (pe_call Go hr (by rfl) mo Fo.kp bo .nil pass0 (pa_cons (pv 0) pa_nil)) (pa_cons (pe_call Gp (hr.mono (by decide)) (by rfl) mp Fp.kp bp .nil pass0 (pa_cons (pv 0) pa_nil)) pa_nil))))), ?_⟩
  cases hb : treeBad d with
  | some x => exact ⟨_, rfl, nt_bad hd hb qE⟩
  | none =>
    obtain ⟨t, rfl, g⟩ := good_of_bad hb
    obtain ⟨hT, q'⟩ := q t rfl g
    refine ⟨_, rfl, nt_good hd g fun H1 s1 => ?_⟩
    obtain ⟨a, rfl, ha⟩ := dp_tD hd
    refine ⟨_, rfl, a, t, rfl, g, s1.tup ha, hT.ext s1, fun H2 p R e2 hT2 hdp ho => ?_⟩
    have e02 : ExtN H H2 := (ExtN.of s1).trans e2
    refine ⟨_, rfl, a, t, rfl, g, extN_sqT e02 ha, fun H3 p3 ps s3 hp3 hH3 hl => ?_⟩
    refine ⟨Nat.le_of_lt (small1000 (by simp)), fun p4 hp4 => ?_⟩
    have s4 := Same.upd (o := .tup [V.ref p, V.ref p3]) hp4
    have e24 : ExtN H2 (upd H3 p4 (.tup [V.ref p, V.ref p3])) := ExtN.of (s3.trans s4)
    refine q' _ p4 R ps (e02.trans e24) ((hT2.ext s3).ext s4) (.tup (xs := [V.ref p, V.ref p3]) (.of ?_) (.cons (hdp.extN (nuT_ext (ExtN.of s1) e24)) (.cons (tD_dp (.of ?_)) .nil))) ho hl
    · rw [nuT_at (fr_of (e02.trans (ExtN.of s3)) hp4), upd_same]
    · rw [nuT_at (fr_of e02 hp3)]
      exact s4 _ _ hH3
end
end K10
set_option Elab.async false
set_option linter.all false
set_option maxRecDepth 100000
set_option maxHeartbeats 4000000
/-! time_of, check_relay -/
namespace K10
open PySem PySem.Spec PyProof.Rows L2 LamX
theorem two_of {K : PySem.W.Frag} {H : Hp} {xs : List V} {o p : PyData} (h : DpAll K H xs [o, p]) : ∃ x y, xs = [x, y] ∧ Dp K H x o ∧ Dp K H y p := by
  cases h with
  | cons h1 h2 => cases h2 with
    | cons h3 h4 =>
      cases h4
      exact ⟨_, _, rfl, h1, h3⟩
section
variable {P : Program} {w : World} {K : PySem.W.Frag} {mg : Str → Option Value} {base : Heap} (T : Nm mg) {CT CP CN p0 : Addr}
include T
def spTO (K : PySem.W.Frag) (CT CN : Addr) : Sp := fun vs H Q E => ∃ v u d e, vs = [v, u] ∧ Dp K H v d ∧ Dp K H u e ∧ RS e ∧ TrE CT d H E ∧
  ∀ t, d = tD t → Good t → (isOrd t e = false → ∀ H', Same H H' → E (.ref CN) none H') ∧ (isOrd t e = true → ∀ H', Same H H' → Q (.int (timeIn t (rowsOf e))) H')
theorem ok_time_of (eN : ErrN P K mg "OutOfPlace" CN) (kt : Kn P w K mg base (L2.CX P w) 2 "need_tree" s_need_tree ["thing"] (spNT K CT)) (ko : Kn P w K mg base CX0 2 "is_order" s_is_order ["tree", "thing"] (spIO K)) (ki : Kn P w K mg base CX0 1 "time_in" s_time_in ["tree", "order"] (spTI K))
    {f : Addr} {fd : FuncData} (F : Fun K "time_of" "time_of" s_time_of f fd) : FnOk P w K mg base (L2.CX P w) 3 f fd ["tree", "order"] (spTO K CT CN) := by
  obtain ⟨ft, fdt, Ft, mt, Gt⟩ := kt
  obtain ⟨fo, fdo, Fo, mo, Go⟩ := ko
  obtain ⟨fi, fdi, Fi, mi, Gi⟩ := ki
  refine F.okX sc_time_of (by rintro _ _ _ _ ⟨v, u, d, e, rfl, _⟩; rfl) fun cdv A outer s H vs Q E hr hsp => ?_
  obtain ⟨v, u, d, e, rfl, hd, he, hrs, qE, q⟩ := hsp
  have bt : Binds K fdt ["thing"] [] := Ft.binds (fun _ _ _ _ _ _ us hl => match us, hl with | [_], _ => rfl)
  have bo : Binds K fdo ["tree", "thing"] [] := Fo.binds (fun _ _ _ _ _ _ us hl => match us, hl with | [_, _], _ => rfl)
  have bi : Binds K fdi ["tree", "order"] [] := Fi.binds (fun _ _ _ _ _ _ us hl => match us, hl with | [_, _], _ => rfl)
  refine ⟨_, pss_cons (ps_if (pt_not (pt_val (pe_call Go hr (by rfl) mo Fo.kp bo .nil pass0 (pa_cons (pe_call (E := E) Gt hr (by rfl) mt Ft.kp bt .nil (passes_call (takes_of rfl rfl rfl rfl) (fun _ _ _ _ h => h)) (pa_cons (pv 0) pa_nil)) (pa_cons (pv 1) pa_nil)))))
      (pss_one (ps_raise rfl (takes_of rfl rfl rfl rfl) (pmk_non eN hr (pa_cons pe_str pa_nil) (by rfl)))) pss_nil)
    (pss_one (ps_ret (pe_call Gi (hr.mono (by decide)) (by rfl) mi Fi.kp bi .nil pass0 (pa_cons (pv 0) (pa_cons (pv 1) pa_nil))))), ?_⟩
  cases hb : treeBad d with
  | some x => exact ⟨_, rfl, nt_bad hd hb qE⟩
  | none =>
    obtain ⟨t, rfl, g⟩ := good_of_bad hb
    obtain ⟨q0, q1⟩ := q t rfl g
    obtain ⟨a, rfl, ha⟩ := dp_tD hd
    refine ⟨_, rfl, nt_good hd g fun H1 s1 => ?_⟩
    refine ⟨_, rfl, a, t, u, e, rfl, g, s1.tup ha, he.same s1, hrs, fun H2 s2 => ?_⟩
    refine ⟨_, rfl, ?_⟩
    refine if_b (fun h => ?_) fun h => ?_
    · exact ⟨_, rfl, q0 (by simpa using h) _ (s1.trans s2)⟩
    · have h1 : isOrd t e = true := by simpa using h
      obtain ⟨e1, e2⟩ := ord_of h1
      have he2 := he.same (s1.trans s2)
      rw [e1] at he2
      exact ⟨_, rfl, _, rfl, a, t, u, rowsOf e, rfl, g, (s1.trans s2).tup ha, he2, e2, fun H3 s3 => q1 h1 _ ((s1.trans s2).trans s3)⟩
/-- check_relay -/
def ckE (CP : Addr) (r : Str ⊕ Int) (H : Hp) (Q : VK) (E : XK) : Prop :=
  match r with
  | .inr i => ∀ H', Same H H' → Q (.int i) H'
  | .inl x => ∀ (H' : Hp) (dd : Addr), Same H H' → H' dd = some (.xd [("part", .str x)]) → E (.ref CP) (some dd) H'
def spCR (K : PySem.W.Frag) (CT CP : Addr) : Sp := fun vs H Q E => ∃ v u d e, vs = [v, u] ∧ Dp K H v d ∧ Dp K H u e ∧ SS e ∧ TrE CT d H E ∧ ∀ t, d = tD t → Good t → ckE CP (chk t e) H Q E
theorem ok_check_relay (eP : ErrA P K mg "BadPaper" "part" CP) (kt : Kn P w K mg base (L2.CX P w) 2 "need_tree" s_need_tree ["thing"] (spNT K CT)) (ko : Kn P w K mg base CX0 2 "is_order" s_is_order ["tree", "thing"] (spIO K)) (ki : Kn P w K mg base CX0 1 "time_in" s_time_in ["tree", "order"] (spTI K))
    (ka : Kn P w K mg base CX0 2 "are_picks" s_are_picks ["tree", "thing"] (spAP K)) (kb : Kn P w K mg base CX0 2 "need_by" s_need_by ["tree", "picks"] (spNB K))
    {f : Addr} {fd : FuncData} (F : Fun K "check_relay" "check_relay" s_check_relay f fd) : FnOk P w K mg base (L2.CX P w) 3 f fd ["tree", "paper"] (spCR K CT CP) := by
  obtain ⟨ft, fdt, Ft, mt, Gt⟩ := kt
  obtain ⟨fo, fdo, Fo, mo, Go⟩ := ko
  obtain ⟨fi, fdi, Fi, mi, Gi⟩ := ki
  obtain ⟨fa, fda, Fa, ma, Ga⟩ := ka
  obtain ⟨fb, fdb, Fb, mb, Gb⟩ := kb
  refine F.okX sc_check_relay (by rintro _ _ _ _ ⟨v, u, d, e, rfl, _⟩; rfl) fun cdv A outer s H vs Q E hr hsp => ?_
  obtain ⟨v, u, d, e, rfl, hd, he, hss, qE, q⟩ := hsp
  have nd := sc_check_relay.nd
  have bt : Binds K fdt ["thing"] [] := Ft.binds (fun _ _ _ _ _ _ us hl => match us, hl with | [_], _ => rfl)
  have bo : Binds K fdo ["tree", "thing"] [] := Fo.binds (fun _ _ _ _ _ _ us hl => match us, hl with | [_, _], _ => rfl)
  have bi : Binds K fdi ["tree", "order"] [] := Fi.binds (fun _ _ _ _ _ _ us hl => match us, hl with | [_, _], _ => rfl)
  have ba : Binds K fda ["tree", "thing"] [] := Fa.binds (fun _ _ _ _ _ _ us hl => match us, hl with | [_, _], _ => rfl)
  have bb : Binds K fdb ["tree", "picks"] [] := Fb.binds (fun _ _ _ _ _ _ us hl => match us, hl with | [_, _], _ => rfl)
  refine ⟨_, pss_cons (ps_expr (pe_call (E := E) Gt hr (by rfl) mt Ft.kp bt .nil (passes_call (takes_of rfl rfl rfl rfl) (fun _ _ _ _ h => h)) (pa_cons (pv 0) pa_nil)))
    (pss_cons (ps_if (PW.pt (pw_or (pt_not (pt_val (pe_isi (ns := "tuple") (by rfl) T.isinst (by rfl) T.tup (by decide +kernel) (pv 1))))
        (pw_or1 (pt_cmpR op_ne (pe_callB call_len_seq (by rfl) T.len PySem.boot_len (pa_cons (pv 1) pa_nil)) pe_int (nomark _))))) (pss_one (ps_raise rfl (takes_of rfl rfl rfl rfl) (pmk_att eP hr (pa_cons pe_str pa_nil) (by rfl)))) pss_nil)
    (pss_cons (ps_if (pt_not (pt_val (pe_call Go hr (by rfl) mo Fo.kp bo .nil pass0 (pa_cons (pv 0) (pa_cons (pe_ix ix_tup (pv 1) pe_int (fun _ _ => rfl)) pa_nil))))) (pss_one (ps_raise rfl (takes_of rfl rfl rfl rfl) (pmk_att eP hr (pa_cons pe_str pa_nil) (by rfl)))) pss_nil)
    (pss_cons (ps_set (i := 2) nd rfl (Or.inl rfl) (pe_call Gi (hr.mono (by decide)) (by rfl) mi Fi.kp bi .nil pass0 (pa_cons (pv 0) (pa_cons (pe_ix ix_tup (pv 1) pe_int (fun _ _ => rfl)) pa_nil))))
    (pss_cons (ps_if (PW.pt (pw_or (pt_not (pt_val (pe_call Ga hr (by rfl) ma Fa.kp ba .nil pass0 (pa_cons (pv 0) (pa_cons (pe_ix ix_tup (pv 1) pe_int (fun _ _ => rfl)) pa_nil)))))
        (pw_or1 (pt_cmpR op_ne (pe_call Gb hr (by rfl) mb Fb.kp bb .nil pass0 (pa_cons (pv 0) (pa_cons (pe_ix ix_tup (pv 1) pe_int (fun _ _ => rfl)) pa_nil))) (pv 2) (nomark _))))) (pss_one (ps_raise rfl (takes_of rfl rfl rfl rfl) (pmk_att eP hr (pa_cons pe_str pa_nil) (by rfl)))) pss_nil)
    (pss_one (ps_ret (pv 2))))))), ?_⟩
  cases hb : treeBad d with
  | some x => exact ⟨_, rfl, nt_bad hd hb qE⟩
  | none =>
    obtain ⟨t, rfl, g⟩ := good_of_bad hb
    have q1 := q t rfl g
    obtain ⟨a, rfl, ha⟩ := dp_tD hd
    refine ⟨_, rfl, nt_good hd g fun H1 s1 => ?_⟩
    have he1 := he.same s1
    refine ⟨_, rfl, ?_⟩
    refine isi_dp he1 kit_tup ?_
    refine ⟨_, rfl, ?_⟩
    have form : (∀ o p, e ≠ .tuple [o, p]) → ∀ dd, H1 dd = none → E (.ref CP) (some dd) (upd H1 dd (.xd [("part", .str "form")])) := fun h dd hdd => by
      rw [chk_form h] at q1
      exact q1 _ dd (s1.updR (s1.free hdd)) upd_same
    refine if_b (fun h => ?_) fun h => ?_
    · refine iteT ?_
      refine ⟨_, rfl, form fun o p z => ?_⟩
      rw [z] at h
      cases h
    obtain ⟨es, rfl⟩ := dp_notup he1 (by simpa using h)
    obtain ⟨b, xs, rfl, hx1, hx2⟩ := dp_tup he1
    have hxl := hx2.len
    refine ⟨_, rfl, b, xs, rfl, .inr hx1, rfl, _, rfl, ?_⟩
    rw [int_ne_dec]
    refine if_b (fun h => ?_) fun h => ?_
    · refine ⟨_, rfl, form fun o p z => ?_⟩
      have z2 : es = [o, p] := by injection z
      rw [hxl, z2] at h
      cases h
    obtain ⟨o, p, rfl⟩ : ∃ o p, es = [o, p] := by
      have z : ((xs.length : Int) = 2) := by simpa using h
      match es, hxl with
      | [], hl => rw [hl] at z; cases z
      | [_], hl => rw [hl] at z; cases z
      | [o, p], _ => exact ⟨o, p, rfl⟩
      | _ :: _ :: _ :: _, hl => rw [hl] at z; simp at z; omega
    obtain ⟨x, y, rfl, hx, hy⟩ := two_of hx2
    have ec : chk t (.tuple [o, p]) = if isOrd t o = true then (if arePk t p = true ∧ needBy t (picksOf p) = timeIn t (rowsOf o) then .inr (timeIn t (rowsOf o)) else .inl "picks") else .inl "order" := rfl
    rw [ec] at q1
    refine ⟨_, rfl, _, rfl, b, _, ((0 : Nat) : Int), x, rfl, rfl, hx1, atI_nat rfl, a, t, x, o, rfl, g, s1.tup ha, hx, hss o p rfl, fun H2 s2 => ?_⟩
    have s02 := s1.trans s2
    refine ⟨_, rfl, ?_⟩
    refine if_b (fun h => ?_) fun h => ?_
    · have h0 : isOrd t o = false := by simpa using h
      rw [h0, if_neg (by decide)] at q1
      exact ⟨_, rfl, fun dd hdd => q1 _ dd (s02.updR (s02.free hdd)) upd_same⟩
    have h0 : isOrd t o = true := by simpa using h
    rw [if_pos h0] at q1
    obtain ⟨e1, e2⟩ := ord_of h0
    have hx' := hx.same s2
    rw [e1] at hx'
    refine ⟨_, rfl, _, rfl, b, _, ((0 : Nat) : Int), x, rfl, rfl, s2.tup hx1, atI_nat rfl, a, t, x, rowsOf o, rfl, g, s02.tup ha, hx', e2, fun H3 s3 => ?_⟩
    have s03 := s02.trans s3
    have s13 := s2.trans s3
    refine ⟨_, rfl, _, rfl, b, _, ((1 : Nat) : Int), y, rfl, rfl, s13.tup hx1, atI_nat rfl, a, t, y, p, rfl, g, s03.tup ha, hy.same s13, fun H4 s4 => ?_⟩
    have s04 := s03.trans s4
    have s14 := s13.trans s4
    have picks : ¬ (arePk t p = true ∧ needBy t (picksOf p) = timeIn t (rowsOf o)) → ∀ H5, Same H H5 → ∀ dd, H5 dd = none → E (.ref CP) (some dd) (upd H5 dd (.xd [("part", .str "picks")])) := fun h H5 s5 dd hdd => by
      rw [if_neg h] at q1
      exact q1 _ dd (s5.updR (s5.free hdd)) upd_same
    refine ⟨_, rfl, ?_⟩
    refine if_b (fun h => ?_) fun h => ?_
    · refine iteT ?_
      refine ⟨_, rfl, picks (fun z => ?_) _ s04⟩
      rw [z.1] at h
      cases h
    have hpk : arePk t p = true := by simpa using h
    obtain ⟨f1, f2, f3⟩ := pk_of hpk
    have hy' := hy.same s14
    rw [f1] at hy'
    obtain ⟨c, rfl, hc⟩ := dp_rD hy'
    refine ⟨_, rfl, _, rfl, b, _, ((1 : Nat) : Int), .ref c, rfl, rfl, s14.tup hx1, atI_nat rfl, a, c, t, picksOf p, rfl, g, s04.tup ha, hc, f2, fun i hi => (f3 i hi).2, fun H5 s5 => ?_⟩
    refine ⟨_, rfl, rfl, _, rfl, ?_⟩
    rw [int_ne_dec]
    refine if_b (fun h => ?_) fun h => ?_
    · refine ⟨_, rfl, picks (fun z => ?_) _ (s04.trans s5)⟩
      rw [z.2] at h
      simp at h
    · have h5 : needBy t (picksOf p) = timeIn t (rowsOf o) := by simpa using h
      rw [if_pos ⟨hpk, h5⟩] at q1
      exact ⟨_, rfl, q1 _ (s04.trans s5)⟩
end
end K10
set_option Elab.async false
set_option linter.all false
set_option maxRecDepth 100000
set_option maxHeartbeats 4000000
/-! the law's own: _law_is_whole, _law_called -/
namespace K10
open PySem PySem.Spec PyProof.Rows L2 LamX
theorem calledTo_range (t : List Int) (i : Nat) : ∀ m : Nat, calledTo t (1 + m) i = ((List.range m).filter fun j => decide (t.getD (1 + j) 0 = (i : Int))).map fun (j : Nat) => ((1 + j : Nat) : Int)
  | 0 => calledTo_one t i
  | m + 1 => by
    rw [show 1 + (m + 1) = (1 + m) + 1 by omega, calledTo_succ, calledTo_range t i m, List.range_succ, List.filter_append, List.map_append]
    congr 1
    by_cases h : t.getD (1 + m) 0 = (i : Int)
    · rw [if_pos ⟨by omega, h⟩]
      simp only [List.filter_cons, h, decide_true, if_true, List.filter_nil, List.map_cons, List.map_nil]
    · rw [if_neg fun z => h z.2]
      simp only [List.filter_cons, h, decide_false, Bool.false_eq_true, if_false, List.filter_nil, List.map_nil]
def calScope : Scope := { kind := .function, names := [(PySem.Str.ofString ".0", .local), (PySem.Str.ofString "_law_one", .cell), (PySem.Str.ofString "range", .globalImplicit), (PySem.Str.ofString "len", .globalImplicit), (PySem.Str.ofString "_law_tree_here", .cell)], isGenerator := false, isCoroutine := false }
section
variable {P : Program} {w : World} {K : PySem.W.Frag} {mg : Str → Option Value} {base : Heap} (T : Nm mg)
include T
def spLW (K : PySem.W.Frag) : Sp := fun vs H Q E => ∃ v d lo hi, vs = [v, .int lo, .int hi] ∧ Dp K H v d ∧ Q (.bl (isW d lo (some hi))) H
theorem ok_L_is_whole {f : Addr} {fd : FuncData} (F : Fun K "_law_is_whole" "_law_is_whole" s_L_is_whole f fd) : FnOk P w K mg base CX0 1 f fd ["_law_thing", "_law_bottom", "_law_top"] (spLW K) := by
  refine F.ok sc_L_is_whole (by rintro _ _ _ _ ⟨v, d, lo, hi, rfl, _⟩; rfl) fun cdv A outer s H vs Q E hr hsp => ?_
  obtain ⟨v, d, lo, hi, rfl, hd, q⟩ := hsp
  refine ⟨_, pss_one (ps_ret (pe_and (pe_isi (ns := "int") (by rfl) T.isinst (by rfl) T.int (by decide +kernel) (pv 0)) (pe_and (pe_not (pe_isi (ns := "bool") (by rfl) T.isinst (by rfl) T.bool (by decide +kernel) (pv 0)))
    (pe_one (pe_chain op_le op_le (pv 1) (pv 0) (pv 2)))))), ?_⟩
  refine ⟨_, rfl, ?_⟩
  refine isi_dp hd kit_int ?_
  refine ⟨_, rfl, ?_⟩
  cases d with
  | int i =>
    cases dp_int hd
    refine iteT ?_
    refine ⟨_, rfl, ?_⟩
    refine isi_dp hd kit_bool ?_
    refine ⟨_, rfl, _, rfl, ?_⟩
    refine iteT ?_
    refine ⟨_, rfl, _, rfl, _, _, rfl, rfl, _, rfl, ?_⟩
    rw [isW_int] at q
    refine if_b (fun h => ?_) fun h => ?_
    · rw [h, Bool.true_and] at q
      exact ⟨_, rfl, _, _, rfl, rfl, q⟩
    · rw [h, Bool.false_and] at q
      exact q
  | bool b =>
    refine iteT ?_
    refine ⟨_, rfl, ?_⟩
    refine isi_dp hd kit_bool ?_
    refine ⟨_, rfl, _, rfl, ?_⟩
    exact iteF q
  | _ => exact iteF q
theorem ok_L_called {f : Addr} {fd : FuncData} (F : Fun K "_law_called" "_law_called" s_L_called f fd) : FnOk P w K mg base CX0 1 f fd ["_law_tree_here"] (spCB K) := by
  refine F.ok sc_L_called (by rintro _ _ _ _ ⟨a, t, rfl, _⟩; rfl) fun cdv A outer s H vs Q E hr hsp => ?_
  obtain ⟨a, t, rfl, g, hs, q⟩ := hsp
  have nd := sc_L_called.nd
  refine ⟨_, pss_one (ps_ret (pe_lc (own := [("_law_one", 2)]) (g := gName 2) (tt := tYes)
    (te := tLc (iRng2 (tCons (tC (.int 1)) (tCons (tCB (fun xs H Q => ∃ p ys, xs = [.ref p] ∧ (SqL K H p ys ∨ SqT K H p ys) ∧ Q (.int ys.length) H) (tCons (tVar 0) tNil)) tNil))) (gName 1) (tTest (tOp rEq (tOp (rIxT K) (tVar 0) (tVar 1)) (tVar 2))) (tVar 1) [1])
    rfl nd (pi_range1 (by rfl) T.range (pa_cons (pe_callB call_len_seq (by rfl) T.len PySem.boot_len (pa_cons (pv 0) pa_nil)) pa_nil)) (blkOk_by (N := n_L_called) (sc := defScope s_L_called) (by decide +kernel)) (fun _ _ _ _ _ => pg_name (i := 2) nd rfl (Or.inr rfl)) (fun _ _ _ _ _ => pts_nil)
    (fun _ _ _ _ _ => pe_lc (own := [("_law_k", 1)]) (g := gName 1) (tt := tTest (tOp rEq (tOp (rIxT K) (tVar 0) (tVar 1)) (tVar 2))) (te := tVar 1) rfl nd
      (pi_range2 (by rfl) T.range (pa_cons pe_int (pa_cons (pe_callB call_len_seq (by rfl) T.len PySem.boot_len (pa_cons (pv 0) pa_nil)) pa_nil))) (blkOk_by (N := n_L_called) (sc := calScope) (by decide +kernel)) (fun _ _ _ _ _ => pg_name (i := 1) nd rfl (Or.inl rfl)) (fun _ _ _ _ _ => pts_one (pt_cmpR op_eq (pe_ix ix_tup (pv 0) (pv 1) (fun _ _ => rfl)) (pv 2) (nomark _))) (fun _ _ _ _ _ => pv 1)))), ?_⟩
  have tl := g.le
  have tp := g.pos
  refine ⟨_, rfl, a, _, rfl, .inr hs, _, rfl, by rw [List.length_map]; omega, by rw [List.length_map]; omega, fun D hD => ?_⟩
  have en : ((t.map V.int).length : Int).toNat = t.length := by rw [List.length_map]; omega
  rw [en]
  refine lc_it (walk_range (lo := 0) (n := t.length)) (Pv := fun i G => Same H G ∧ ∃ ls : List Addr, ls.length = i ∧ G D = some (.lst (ls.map V.ref)) ∧ ∀ (j : Nat) (b : Addr), ls[j]? = some b → H b = none ∧ b ≠ D ∧ G b = some (.lst ((called t j).map V.int)))
    ⟨Same.upd hD, [], rfl, upd_same, fun j b h => by cases h⟩ (fun _ _ _ _ => trivial) (fun i x G G' hi hp hy => ?_) fun G hp => ?_
  · obtain ⟨sG, ls, hls, hGD, hrow⟩ := hp
    obtain ⟨rfl, ex⟩ := hy
    have ex' : x = V.int (i : Nat) := by
      rw [ex]
      show V.int (0 + (i : Nat)) = _
      rw [Int.zero_add]
    subst ex'
    refine ⟨rfl, ?_⟩
    refine tYes_of ?_
    refine iteT ?_
    refine ⟨_, rfl, a, _, rfl, .inr (sG.tup hs), _, _, rfl, ⟨by decide, by decide, by rw [List.length_map]; omega, by rw [List.length_map]; omega⟩, fun D2 hD2 => ?_⟩
    have en2 : (((t.map V.int).length : Int) - 1).toNat = (List.range (t.length - 1)).length := by rw [List.length_map, List.length_range]; omega
    rw [en2]
    refine lc_filt (List.range (t.length - 1)) (fun (j : Nat) => V.int ((1 + j : Nat) : Int)) (fun j => decide (t.getD (1 + j) 0 = (i : Int))) (walk_range (lo := 1)) hD2 (by rw [List.length_range]; omega) (fun _ _ => trivial) (fun j z x A B hj sm hy Q1 Q0 h1 h0 => ?_) fun G5 s5 hG5 => ?_
    · obtain ⟨rfl, ey⟩ := hy
      have hjl : j < t.length - 1 := by
        have := lt_of_at hj
        rw [List.length_range] at this
        exact this
      have ez : z = j := by
        rw [List.getElem?_range hjl] at hj
        exact (Option.some.inj hj).symm
      subst ez
      have ey' : x = V.int ((1 + z : Nat) : Int) := by
        rw [ey]
        show V.int (1 + (z : Nat)) = _
        congr 1
      subst ey'
      refine ⟨rfl, ?_⟩
      refine ⟨_, rfl, _, rfl, a, _, ((1 + z : Nat) : Int), _, rfl, rfl, (sG.trans sm).tup hs, atI_nat (mapInt_at (by omega)), _, rfl, rfl, _, rfl, ?_⟩
      rw [int_ne_dec]
      refine if_b (fun h => ?_) fun h => ?_
      · exact ⟨_, rfl, h1 h _ (Same.refl _)⟩
      · exact h0 h _ (Same.refl _)
    · have ec : ((List.range (t.length - 1)).filter fun j => decide (t.getD (1 + j) 0 = (i : Int))).map (fun (j : Nat) => V.int ((1 + j : Nat) : Int)) = (called t i).map V.int := by
        have z := calledTo_range t i (t.length - 1)
        rw [show 1 + (t.length - 1) = t.length by omega] at z
        unfold called
        rw [z, List.map_map]
        rfl
      rw [ec] at hG5
      have nD : D ≠ D2 := ne_of_none hGD hD2
      have HD2 : H D2 = none := sG.free hD2
      refine ⟨_, s5 _ _ hGD, by rw [List.length_map, hls]; exact small1000 (by omega), (sG.trans s5).updR hD, ls ++ [D2], by rw [List.length_append, hls]; rfl, by rw [upd_same, List.map_append]; rfl, fun j b hb => ?_⟩
      by_cases hj : j < i
      · rw [List.getElem?_append_left (by omega)] at hb
        obtain ⟨k1, k2, k3⟩ := hrow j b hb
        exact ⟨k1, k2, by rw [upd_ne k2]; exact s5 _ _ k3⟩
      · have hji : j = i := by
          have := lt_of_at hb
          rw [List.length_append, hls] at this
          simp at this
          omega
        subst hji
        rw [List.getElem?_append_right (by omega), hls, Nat.sub_self] at hb
        have e1 : D2 = b := by simpa using hb
        subst e1
        exact ⟨HD2, Ne.symm nD, (upd_ne (Ne.symm nD)).trans hG5⟩
  · obtain ⟨sG, ls, hls, hGD, hrow⟩ := hp
    refine q _ D sG hD ⟨ls, hls, .of ((nu_at hD).trans hGD), fun j b hb => .of ?_⟩
    obtain ⟨k1, k2, k3⟩ := hrow j b hb
    rw [nu_at k1]
    exact k3
end
end K10
set_option Elab.async false
set_option linter.all false
set_option maxRecDepth 100000
set_option maxHeartbeats 4000000
/-! the law's own: _law_time, _law_is_order -/
namespace K10
open PySem PySem.Spec PyProof.Rows L2 LamX
theorem canLay_flat : ∀ {es : List PyData}, es.all flatD = true → PyData.canLayAll0 es = true ∧ PyData.depthAll es = 0
  | [], _ => ⟨rfl, rfl⟩
  | e :: r, h => by
    rw [List.all_cons, Bool.and_eq_true] at h
    obtain ⟨h1, h2⟩ := canLay_flat h.2
    cases e with
    | list _ => cases h.1
    | tuple _ => cases h.1
    | dict _ => cases h.1
    | str _ => cases h.1
    | _ => exact ⟨by simp [PyData.canLayAll0, PyData.canLay0, h1], by simp [PyData.depthAll, PyData.depth, h2]⟩
theorem sh_flat {es : List PyData} (h : es.all flatD = true) : SeqAt.shaped (.list es) = true := by
  obtain ⟨h1, h2⟩ := canLay_flat h
  simp [SeqAt.shaped, PyData.canLay0, PyData.depth, h1, h2]
theorem eqv_empty (es : List PyData) : PyData.eqv (.list es) (.list []) = es.isEmpty := by
  cases es <;> simp [PyData.eqv, PyData.eqvAll]
theorem dpAll_filter {K : PySem.W.Frag} {H : Hp} (b : PyData → Bool) : ∀ {ys : List V} {es : List PyData}, DpAll K H ys es → DpAll K H (((ys.zip es).filter fun p => b p.2).map Prod.fst) (es.filter b)
  | _, _, .nil => .nil
  | _, _, .cons (v := v) (d := d) r t => by
    rw [List.zip_cons_cons]
    by_cases h : b d = true
    · rw [List.filter_cons_of_pos (by exact h), List.filter_cons_of_pos h, List.map_cons]
      exact .cons r (dpAll_filter b t)
    · rw [List.filter_cons_of_neg (by exact h), List.filter_cons_of_neg h]
      exact dpAll_filter b t
theorem all_filter {es : List PyData} (b : PyData → Bool) (h : es.all flatD = true) : (es.filter b).all flatD = true := by
  rw [List.all_eq_true] at h ⊢
  intro x hx
  exact h x (List.mem_filter.mp hx).1
theorem filter_empty {es : List PyData} {b : PyData → Bool} : (es.filter fun e => !b e).isEmpty = es.all b := by
  induction es with
  | nil => rfl
  | cons e r ih =>
    cases h : b e with
    | true => simp [h, ih]
    | false => simp [h]
theorem nil_dp {K : PySem.W.Frag} {H : Hp} {p : Addr} (h : H p = some (.lst [])) : Dp K H (.ref p) (.list []) := .lst (.of h) .nil
section
variable {P : Program} {w : World} {K : PySem.W.Frag} {mg : Str → Option Value} {base : Heap} (T : Nm mg)
include T
theorem ok_L_time {f : Addr} {fd : FuncData} (F : Fun K "_law_time" "_law_time" s_L_time f fd) : FnOk P w K mg base CX0 1 f fd ["_law_tree_here", "_law_some"] (spTI K) := by
  refine F.ok sc_L_time (by rintro _ _ _ _ ⟨a, t, v, R, rfl, _⟩; rfl) fun cdv A outer s H vs Q E hr hsp => ?_
  obtain ⟨a, t, v, R, rfl, g, hs, hd, ho, q⟩ := hsp
  have nd := sc_L_time.nd
  refine ⟨_, pss_cons (ps_set (i := 2) nd rfl (Or.inl rfl) (pe_op op_rep (pe_lst (pa_cons pe_int pa_nil)) (pe_callB call_len_seq (by rfl) T.len PySem.boot_len (pa_cons (pv 0) pa_nil))))
    (pss_cons (ps_for PassesOwn.never rfl (pi_range1 (by rfl) T.range (pa_cons (pe_callB call_len_seq (by rfl) T.len PySem.boot_len (pa_cons (pv 0) pa_nil)) pa_nil)) (pg_name (i := 3) nd rfl (Or.inl rfl))
      (pss_one (ps_for PassesOwn.never rfl (pi_enT (by rfl) T.enum (pa_cons (pe_ix ix_tup (pv 1) (pv 3) (fun _ _ => rfl)) pa_nil)) (pg_tup (by rfl) (pgs_cons (pg_name (i := 4) nd rfl (Or.inl rfl)) (pgs_cons (pg_name (i := 5) nd rfl (Or.inl rfl)) pgs_nil)))
        (pss_one (ps_asg (pe_op op_add (pe_op op_add (pe_ix ix_list (pv 2) (pv 3) (fun _ _ => rfl)) (pv 4)) pe_int) (pg_sub (pv 2) (pv 5) set_list))))))
    (pss_one (ps_ret (pe_callB (cr_max rfl) (by rfl) T.max (by decide +kernel) (pa_cons (pv 2) pa_nil))))), ?_⟩
  refine ⟨Nat.le_of_lt (small1000 (by decide)), fun l0 hl0 => ?_⟩
  refine ⟨_, rfl, a, _, rfl, .inr ((Same.upd hl0).tup hs), ?_⟩
  have tl := g.le
  have tp := g.pos
  refine ⟨l0, _, _, rfl, rfl, upd_same, by rw [List.length_map]; omega, by rw [List.length_map]; omega, by rw [List.length_map]; exact Nat.le_of_lt (small1000 (by simp; omega)), fun L hL => ?_⟩
  have smL : Same H (upd (upd H l0 (.lst [.int 0])) L (.lst (List.replicate ((t.map V.int).length : Int).toNat [V.int 0]).flatten)) := (Same.upd hl0).updR ((Same.upd hl0).free hL)
  have HL : H L = none := (Same.upd hl0).free hL
  have eL0 : (List.replicate ((t.map V.int).length : Int).toNat [V.int 0]).flatten = (List.replicate t.length (0 : Int)).map V.int := by
    rw [rep_flat, List.length_map, List.map_replicate]
    rfl
  rw [eL0] at smL ⊢
  generalize hH2 : upd (upd H l0 (.lst [.int 0])) L (.lst ((List.replicate t.length (0 : Int)).map V.int)) = H2 at *
  have H2L : H2 L = some (.lst ((List.replicate t.length (0 : Int)).map V.int)) := by rw [← hH2, upd_same]
  obtain ⟨o, xs, rfl, ho1, ho2⟩ := dp_tup hd
  have hxl : xs.length = t.length := by
    rw [ho2.len, List.length_map, ho.len]
  refine ⟨_, rfl, a, _, rfl, .inr (smL.tup hs), _, rfl, by rw [List.length_map]; omega, by rw [List.length_map]; omega, ?_⟩
  have en : ((t.map V.int).length : Int).toNat = t.length := by rw [List.length_map]; omega
  rw [en]
  refine for_it (walk_range (lo := 0) (n := t.length)) (Pv := fun i σ G => ∃ o3 o4 o5, σ = [some (.ref a), some (.ref o), some (.ref L), o3, o4, o5] ∧ Same H G ∧ ∃ m : List Int, G L = some (.lst (m.map V.int)) ∧ m.length = t.length ∧ rowsGo 0 R (List.replicate t.length 0) = rowsGo i (R.drop i) m)
    ⟨none, none, none, rfl, smL, _, H2L, List.length_replicate, rfl⟩ (fun _ _ _ _ _ => trivial) (fun i x σ G G' hi hp hy => ?_) fun σ G hp => ?_
  · obtain ⟨o3, o4, o5, rfl, sH1, m, hGL1, hm, hgo⟩ := hp
    obtain ⟨rfl, ex⟩ := hy
    have ex' : x = V.int (i : Nat) := by
      rw [ex]
      show V.int (0 + (i : Nat)) = _
      rw [Int.zero_add]
    subst ex'
    obtain ⟨x2, hx⟩ := getElem?_of (show i < xs.length by omega)
    obtain ⟨b, r, rfl, hR, hb⟩ := row_at ho2 hx
    have hiR := lt_of_at hR
    have hrow : ∀ y ∈ r, 0 ≤ y ∧ y < t.length := fun y hy => ho.place hiR (by rw [getD_of hR]; exact hy)
    refine ⟨_, rfl, _, rfl, o, _, (i : Int), .ref b, rfl, rfl, sH1.tup ho1, atI_nat hx, b, _, rfl, sH1.tup hb, ?_⟩
    refine for_it (walk_enT' (l := r)) (Pv := fun j σ G => ∃ o5 o6, σ = [some (.ref a), some (.ref o), some (.ref L), some (.int (i : Nat)), o5, o6] ∧ Same H G ∧ ∃ m' : List Int, G L = some (.lst (m'.map V.int)) ∧ m'.length = t.length ∧ rowGo i 0 r m = rowGo i j (r.drop j) m')
      ⟨o4, o5, rfl, sH1, m, hGL1, hm, rfl⟩ (fun j σ G _ h => ?_) (fun j x σ G G' hj hp hy => ?_) fun σ G hp => ?_
    · obtain ⟨_, _, _, sm, _⟩ := h
      exact sm.tup hb
    · obtain ⟨p5, p6, rfl, sG, m', hGL', hm', hgo'⟩ := hp
      obtain ⟨Tq, y1, y2, rfl, hTq, rfl, e1, hy2⟩ := hy
      cases e1
      obtain ⟨z, hz⟩ := getElem?_of hj
      cases intAt hy2 hz
      obtain ⟨z0, z1⟩ := hrow z (List.mem_of_getElem? hz)
      have sq := Same.upd (o := .tup [.int (j : Nat), .int z]) hTq
      have hTq' : upd G Tq (.tup [.int (j : Nat), .int z]) Tq = some (.tup [.int (j : Nat), .int z]) := upd_same
      have sG1 := sG.trans sq
      have hGL2 := sq _ _ hGL'
      generalize upd G Tq (.tup [.int (j : Nat), .int z]) = G2 at *
      refine ⟨Tq, _, rfl, .of hTq', rfl, _, _, rfl, _, _, rfl, rfl, ?_⟩
      refine ⟨_, rfl, _, rfl, L, _, (i : Int), _, rfl, rfl, .of hGL2, atI_nat (mapInt_at (by omega)), _, rfl, _, _, rfl, rfl, _, _, rfl, rfl, ?_⟩
      refine ⟨_, rfl, _, rfl, L, _, z, _, rfl, rfl, hGL2, ixN_nat z0 (by rw [List.length_map]; omega), ?_⟩
      refine ⟨_, _, rfl, sG1.updR HL, m'.set z.toNat (m'.getD i 0 + j + 1), by rw [upd_same, List.map_set], by rw [List.length_set, hm'], ?_⟩
      rw [hgo', drop_at hz]
      rfl
    · obtain ⟨p5, p6, rfl, sG, m', hGL', hm', hgo'⟩ := hp
      refine ⟨_, _, _, rfl, sG, m', hGL', hm', ?_⟩
      rw [hgo, drop_at hR]
      show rowsGo (i + 1) (R.drop (i + 1)) (rowGo i 0 r m) = _
      rw [hgo', List.drop_length]
      rfl
  · obtain ⟨o3, o4, o5, rfl, sH, m, hGL, hm, hgo⟩ := hp
    refine ⟨_, rfl, L, m, rfl, .of hGL, by omega, fun y hy hle => ?_⟩
    have e : y = timeIn t R := by
      rw [maxL_of hy hle]
      unfold timeIn
      rw [hgo, ← ho.len, List.drop_length]
      rfl
    rw [e]
    exact q _ sH
theorem ok_L_is_order {fc : Addr} {fdc : FuncData} (Fc : Fun K "_law_called" "_law_called" s_L_called fc fdc) (Gc : FnOk P w K mg base CX0 1 fc fdc ["_law_tree_here"] (spCB K)) (mc : mg "_law_called" = some (.ref fc))
    {fw : Addr} {fdw : FuncData} (Fw : Fun K "_law_is_whole" "_law_is_whole" s_L_is_whole fw fdw) (Gw : FnOk P w K mg base CX0 1 fw fdw ["_law_thing", "_law_bottom", "_law_top"] (spLW K)) (mw : mg "_law_is_whole" = some (.ref fw))
    {f : Addr} {fd : FuncData} (F : Fun K "_law_is_order" "_law_is_order" s_L_is_order f fd) : FnOk P w K mg base CX0 2 f fd ["_law_tree_here", "_law_thing"] (spIO K) := by
  refine F.ok sc_L_is_order (by rintro _ _ _ _ ⟨a, t, v, d, rfl, _⟩; rfl) fun cdv A outer s H vs Q E hr hsp => ?_
  obtain ⟨a, t, v, d, rfl, g, hs, hd, hrs, q⟩ := hsp
  have nd := sc_L_is_order.nd
  have bc : Binds K fdc ["_law_tree_here"] [] := Fc.binds (fun _ _ _ _ _ _ us hl => match us, hl with | [_], _ => rfl)
  have bw : Binds K fdw ["_law_thing", "_law_bottom", "_law_top"] [] := Fw.binds (fun _ _ _ _ _ _ us hl => match us, hl with | [_, _, _], _ => rfl)
  refine ⟨_, pss_cons (ps_if (PW.pt (pw_or (pt_not (pt_val (pe_isi (ns := "tuple") (by rfl) T.isinst (by rfl) T.tup (by decide +kernel) (pv 1))))
      (pw_or1 (pt_cmpR op_ne (pe_callB call_len_seq (by rfl) T.len PySem.boot_len (pa_cons (pv 1) pa_nil)) (pe_callB call_len_seq (by rfl) T.len PySem.boot_len (pa_cons (pv 0) pa_nil)) (nomark _))))) (pss_one (ps_ret pe_bl)) pss_nil)
    (pss_cons (ps_for PassesOwn.never rfl (pi_zm (by rfl) T.zip (pa_cons (pv 1) (pa_cons (pe_call Gc hr (by rfl) mc Fc.kp bc .nil pass0 (pa_cons (pv 0) pa_nil)) pa_nil))) (pg_tup (by rfl) (pgs_cons (pg_name (i := 2) nd rfl (Or.inl rfl)) (pgs_cons (pg_name (i := 3) nd rfl (Or.inl rfl)) pgs_nil)))
      (pss_cons (ps_if (PW.pt (pw_or (pt_not (pt_val (pe_isi (ns := "tuple") (by rfl) T.isinst (by rfl) T.tup (by decide +kernel) (pv 2))))
          (pw_or1 (pt_cmpR (op_neD hr.units)
            (pe_lc (own := [("_law_one", 4)]) (g := gName 4) (tt := tNot (tB (tCall (spLW K) [] E0 (tCons (tVar 4) (tCons (tC (.int 0)) (tCons (tC (.int 99)) tNil)))))) (te := tVar 4) rfl nd (pi_tup (pv 2)) (blkOk_by (N := n_L_is_order) (sc := defScope s_L_is_order) (by decide +kernel)) (fun _ _ _ _ _ => pg_name (i := 4) nd rfl (Or.inl rfl))
              (fun _ _ _ _ _ => pts_one (pt_not (pt_val (pe_call Gw hr (by rfl) mw Fw.kp bw .nil pass0 (pa_cons (pv 4) (pa_cons pe_int (pa_cons pe_int pa_nil))))))) (fun _ _ _ _ _ => pv 4)) (pe_lst pa_nil) (nomark _))))) (pss_one (ps_ret pe_bl)) pss_nil)
      (pss_one (ps_if (pt_cmpR (op_neD hr.units) (pe_callB cr_sortT (by rfl) T.sorted boot_sorted (pa_cons (pv 2) pa_nil)) (pv 3) (nomark _)) (pss_one (ps_ret pe_bl)) pss_nil))))
    (pss_one (ps_ret pe_bl))), ?_⟩
  refine ⟨_, rfl, ?_⟩
  refine isi_dp hd kit_tup ?_
  refine ⟨_, rfl, ?_⟩
  refine if_b (fun ht => ?_) fun ht => ?_
  · refine iteT ?_
    have z := q H (Same.refl H)
    rw [isOrd_not (by simpa using ht)] at z
    exact z
  obtain ⟨ds, rfl⟩ := dp_notup hd (by simpa using ht)
  obtain ⟨b, xs, rfl, hx1, hx2⟩ := dp_tup hd
  refine ⟨_, rfl, b, xs, rfl, .inr hx1, _, rfl, a, _, rfl, .inr hs, rfl, _, rfl, ?_⟩
  rw [int_ne_dec]
  refine if_b (fun hl => ?_) fun hl => ?_
  · have z := q H (Same.refl H)
    have e : isOrd t (.tuple ds) = false := by
      show (decide (ds.length = t.length) && _) = false
      have z2 : ¬ ds.length = t.length := fun q => by
        rw [List.length_map, hx2.len, q] at hl
        simp at hl
      rw [decide_eq_false z2, Bool.false_and]
    rw [e] at z
    exact z
  have hlen : ds.length = t.length := by
    rw [List.length_map, hx2.len] at hl
    have z : ((ds.length : Int) = t.length) := by simpa using hl
    omega
  have hxl := hx2.len
  refine ⟨_, rfl, _, rfl, a, t, rfl, g, hs, fun H3 C s3 hC cb => ?_⟩
  obtain ⟨ls, hls, cTop, cRow⟩ := cb.same nu_same
  refine ⟨b, C, xs, _, rfl, s3.tup hx1, cTop, ?_⟩
  refine for_it (walk_zm (xs := xs) (ys := ls.map V.ref) (by rw [List.length_map]; omega)) (Pv := fun i σ G => ∃ o2 o3 o4, σ = [some (.ref a), some (.ref b), o2, o3, o4] ∧ Same H3 G ∧ ∀ j, j < i → rowOk (called t j) (ds.getD j .none) = true)
    ⟨none, none, none, rfl, Same.refl H3, fun j hj => absurd hj (Nat.not_lt_zero _)⟩ (fun i σ G _ h => ?_) (fun i x σ G G' hi hp hy => ?_) fun σ G hp => ?_
  · obtain ⟨_, _, _, _, sm, _⟩ := h
    exact ⟨(s3.trans sm).tup hx1, sm.seq cTop⟩
  · obtain ⟨o2, o3, o4, rfl, sG, hok⟩ := hp
    obtain ⟨Tp, x1, x2, rfl, hT, rfl, e1, e2⟩ := hy
    have hlt : i < ls.length := by omega
    have hit : i < t.length := by omega
    obtain ⟨c, hc⟩ := getElem?_of hlt
    have ex2 : x2 = .ref c := by
      have z : (ls.map V.ref)[i]? = some x2 := e2
      rw [List.getElem?_map, hc] at z
      exact (Option.some.inj z).symm
    subst ex2
    obtain ⟨hds, hdx⟩ := hx2.at e1
    have sT := Same.upd (o := .tup [x1, .ref c]) hT
    have hTp : upd G Tp (.tup [x1, .ref c]) Tp = some (.tup [x1, .ref c]) := upd_same
    have sG1 := sG.trans sT
    generalize upd G Tp (.tup [x1, .ref c]) = G1 at *
    have sH1 := s3.trans sG1
    have hdx1 := hdx.same sH1
    have hrow := sG1.seq (cRow i c hc)
    refine ⟨Tp, _, rfl, .of hTp, rfl, _, _, rfl, _, _, rfl, rfl, ?_⟩
    refine ⟨_, rfl, ?_⟩
    refine isi_dp hdx1 kit_tup ?_
    refine ⟨_, rfl, ?_⟩
    have r99 := rowOk99_eq g i (ds.getD i .none)
    refine if_b (fun ht => ?_) fun ht => ?_
    · refine iteT ?_
      have z := q _ sH1
      rw [isOrd_row hit (rowOk_not (by simpa using ht))] at z
      exact z
    obtain ⟨es, hes⟩ := dp_notup hdx1 (by simpa using ht)
    rw [hes] at hdx1 r99
    obtain ⟨r, ys, rfl, hr1, hr2⟩ := dp_tup hdx1
    have hyl := hr2.len
    obtain ⟨hsm, hfl⟩ := hrs ds rfl es (mem_getD hds hes)
    have hzl : (ys.zip es).length = ys.length := by rw [List.length_zip]; omega
    refine ⟨_, rfl, r, rfl, ⟨_, hr1⟩, fun D hD => ?_⟩
    refine lc_filt (ys.zip es) Prod.fst (fun p => !isW p.2 0 (some 99)) (by have z := walk_tup (K := K) (a := r) (xs := ys); rw [← hzl] at z; exact z) hD (by omega) (fun G' sm => sm.tup hr1) (fun j z x A B hj sm hy Q1 Q0 h1 h0 => ?_) fun G2 s2 hG2 => ?_
    · obtain ⟨rfl, hx⟩ := hy
      obtain ⟨z1, z2⟩ := z
      rw [List.getElem?_zip_eq_some] at hj
      obtain ⟨hj1, hj2⟩ := hj
      rw [hj1] at hx
      cases hx
      obtain ⟨_, hdz⟩ := hr2.at hj1
      rw [getD_of hj2] at hdz
      refine ⟨rfl, ?_⟩
      refine ⟨_, rfl, z1, z2, 0, 99, rfl, hdz.same sm, _, rfl, ?_⟩
      exact if_b (fun h => ⟨_, rfl, h1 h _ (Same.refl _)⟩) fun h => h0 h _ (Same.refl _)
    · refine ⟨Nat.zero_le _, fun l hl => ?_⟩
      have sl := Same.upd (o := .lst []) hl
      have hl1 : upd G2 l (.lst []) l = some (.lst []) := upd_same
      have hGD := sl _ _ hG2
      have s12 := s2.trans sl
      generalize upd G2 l (.lst []) = G3 at *
      refine ⟨_, _, .lst (.of hGD) (dpAll_filter (fun e => !isW e 0 (some 99)) (hr2.same s12)), nil_dp hl1, sh_flat (all_filter _ hfl), (by decide +kernel : SeqAt.shaped (.list []) = true), _, rfl, ?_⟩
      rw [eqv_empty, filter_empty]
      have e99 : rowOk99 (called t i) (.tuple es) = ((es.all fun e => isW e 0 (some 99)) && decide (asc (es.map iv) = called t i)) := rfl
      refine if_b (fun hb => ?_) fun hb => ?_
      · have z := q _ (sH1.trans s12)
        have e : rowOk (called t i) (ds.getD i .none) = false := by
          rw [hes, ← r99, e99, Bool.and_eq_false_iff]
          left
          simpa using hb
        rw [isOrd_row hit e] at z
        exact z
      · have hall : (es.all fun e => isW e 0 (some 99)) = true := by simpa using hb
        have ei := ints_of_whole hall
        generalize hn : es.map iv = ns at *
        rw [ei] at hr2
        have eys := dpAll_ints hr2
        subst eys
        refine ⟨_, rfl, r, ns, rfl, s12.tup hr1, fun ns' p hperm hsrt hp' => ?_⟩
        have s4 := Same.upd (o := .lst (ns'.map V.int)) hp'
        refine ⟨_, rfl, _, _, lD_dp (.of upd_same), lD_dp ((s12.trans s4).seq hrow), sh_ints _, sh_ints _, _, rfl, ?_⟩
        rw [eqv_ints]
        have easc : ns' = asc ns := asc_uniq hperm hsrt
        have erow : rowOk (called t i) (ds.getD i .none) = decide (ns' = called t i) := by
          rw [hes, ← r99, e99, hall, easc, Bool.true_and]
        refine if_b (fun hb2 => ?_) fun hb2 => ?_
        · have z := q _ ((sH1.trans s12).trans s4)
          rw [isOrd_row hit (by rw [erow]; simpa using hb2)] at z
          exact z
        · refine ⟨_, _, _, rfl, (sG1.trans s12).trans s4, fun j hj => ?_⟩
          by_cases hji : j = i
          · subst hji
            rw [erow]
            simpa using hb2
          · exact hok j (by omega)
  · obtain ⟨o2, o3, o4, rfl, sG, hok⟩ := hp
    have z := q _ (s3.trans sG)
    rw [isOrd_all hlen (fun i hi => hok i (by omega))] at z
    exact z
end
end K10
set_option Elab.async false
set_option linter.all false
set_option maxRecDepth 100000
set_option maxHeartbeats 4000000
/-! the law's own: _law_need, _law_due -/
namespace K10
open PySem PySem.Spec PyProof.Rows L2 LamX
theorem pkOk_iv {t : List Int} {ds : List PyData} {i : Nat} (hi : i < ds.length) (h : pkOk t ds i = true) : ds.getD i .none = .int ((ds.map iv).getD i 0) ∧ (ds.map iv).getD i 0 ≤ (called t i).length := by
  have e : (ds.map iv).getD i 0 = iv (ds.getD i .none) := by
    rw [List.getD_eq_getElem?_getD, List.getD_eq_getElem?_getD, List.getElem?_map, List.getElem?_eq_getElem hi]
    rfl
  rw [e]
  unfold pkOk at h
  cases hd : ds.getD i .none with
  | int c =>
    rw [hd] at h
    simp only [isW, Bool.and_eq_true, decide_eq_true_eq] at h
    exact ⟨rfl, h.2⟩
  | _ =>
    rw [hd] at h
    cases h
theorem arePk_rows {t : List Int} {ds : List PyData} (hl : ds.length = t.length) (h : arePk t (.tuple ds) = true) : ∀ i, i < t.length → pkOk t ds i = true := by
  have z : (decide (ds.length = t.length) && (List.range t.length).all fun i => pkOk t ds i) = true := h
  rw [Bool.and_eq_true, List.all_eq_true] at z
  exact fun i hi => z.2 i (List.mem_range.mpr hi)
section
variable {P : Program} {w : World} {K : PySem.W.Frag} {mg : Str → Option Value} {base : Heap} (T : Nm mg)
include T
def needV (t : List Int) (d : PyData) : V := if arePk t d = true then .int (needBy t (picksOf d)) else .non
def spLN (K : PySem.W.Frag) : Sp := fun vs H Q E => ∃ a t v d, vs = [.ref a, v] ∧ Good t ∧ SqT K H a (t.map V.int) ∧ Dp K H v d ∧ ∀ H', Same H H' → Q (needV t d) H'
theorem ok_L_need {fc : Addr} {fdc : FuncData} (Fc : Fun K "_law_called" "_law_called" s_L_called fc fdc) (Gc : FnOk P w K mg base CX0 1 fc fdc ["_law_tree_here"] (spCB K)) (mc : mg "_law_called" = some (.ref fc))
    {fw : Addr} {fdw : FuncData} (Fw : Fun K "_law_is_whole" "_law_is_whole" s_L_is_whole fw fdw) (Gw : FnOk P w K mg base CX0 1 fw fdw ["_law_thing", "_law_bottom", "_law_top"] (spLW K)) (mw : mg "_law_is_whole" = some (.ref fw))
    {f : Addr} {fd : FuncData} (F : Fun K "_law_need" "_law_need" s_L_need f fd) : FnOk P w K mg base CX0 2 f fd ["_law_tree_here", "_law_picks"] (spLN K) := by
  refine F.ok sc_L_need (by rintro _ _ _ _ ⟨a, t, v, d, rfl, _⟩; rfl) fun cdv A outer s H vs Q E hr hsp => ?_
  obtain ⟨a, t, v, d, rfl, g, hs, hd, q⟩ := hsp
  have nd := sc_L_need.nd
  have bc : Binds K fdc ["_law_tree_here"] [] := Fc.binds (fun _ _ _ _ _ _ us hl => match us, hl with | [_], _ => rfl)
  have bw : Binds K fdw ["_law_thing", "_law_bottom", "_law_top"] [] := Fw.binds (fun _ _ _ _ _ _ us hl => match us, hl with | [_, _, _], _ => rfl)
  refine ⟨_, pss_cons (ps_asg (pe_tup (pa_cons (pe_op op_rep (pe_lst (pa_cons pe_int pa_nil)) (pe_callB call_len_seq (by rfl) T.len PySem.boot_len (pa_cons (pv 0) pa_nil))) (pa_cons (pe_call Gc hr (by rfl) mc Fc.kp bc .nil pass0 (pa_cons (pv 0) pa_nil)) pa_nil)))
      (pg_tup (by rfl) (pgs_cons (pg_name (i := 2) nd rfl (Or.inr rfl)) (pgs_cons (pg_name (i := 3) nd rfl (Or.inl rfl)) pgs_nil))))
    (pss_cons (ps_if (PW.pt (pw_or (pt_not (pt_val (pe_isi (ns := "tuple") (by rfl) T.isinst (by rfl) T.tup (by decide +kernel) (pv 1))))
      (pw_or1 (pt_cmpR op_ne (pe_callB call_len_seq (by rfl) T.len PySem.boot_len (pa_cons (pv 1) pa_nil)) (pe_callB call_len_seq (by rfl) T.len PySem.boot_len (pa_cons (pv 0) pa_nil)) (nomark _))))) (pss_one (ps_ret pe_non)) pss_nil)
    (pss_cons (ps_for PassesOwn.never rfl (pi_range3 (by rfl) T.range (pa_cons (pe_op op_sub (pe_callB call_len_seq (by rfl) T.len PySem.boot_len (pa_cons (pv 0) pa_nil)) pe_int) (pa_cons (pe_un un_neg pe_int) (pa_cons (pe_un un_neg pe_int) pa_nil)))) (pg_name (i := 4) nd rfl (Or.inl rfl))
      (pss_cons (ps_set (i := 5) nd rfl (Or.inl rfl) (pe_revL (pe_callB cr_sortedI (by rfl) T.sorted boot_sorted (pa_cons
          (pe_lc (own := [("_law_place", 6)]) (g := gName 6) (tt := tYes) (te := tOp (rIxL K) (tVar 2) (tVar 6)) rfl nd (pi_list (pe_ix ix_list (pv 3) (pv 4) (fun _ _ => rfl))) (blkOk_by (N := n_L_need) (sc := defScope s_L_need) (by decide +kernel)) (fun _ _ _ _ _ => pg_name (i := 6) nd rfl (Or.inl rfl)) (fun _ _ _ _ _ => pts_nil) (fun _ _ _ _ _ => pe_ix ix_list (pv 2) (pv 6) (fun _ _ => rfl))) pa_nil))))
      (pss_cons (ps_if (pt_not (pt_val (pe_call Gw hr (by rfl) mw Fw.kp bw .nil pass0 (pa_cons (pe_ix ix_tup (pv 1) (pv 4) (fun _ _ => rfl)) (pa_cons (pe_ifExp (pt_cmpR (op_neD hr.units) (pv 5) (pe_lst pa_nil) (nomark _)) pe_int pe_int)
          (pa_cons (pe_callB call_len_seq (by rfl) T.len PySem.boot_len (pa_cons (pv 5) pa_nil)) pa_nil)))))) (pss_one (ps_ret pe_non)) pss_nil)
      (pss_one (ps_asg (pe_ifExp (pt_cmpR op_gt (pe_ix ix_tup (pv 1) (pv 4) (fun _ _ => rfl)) pe_int (nomark _)) (pe_op op_add (pe_ix ix_tup (pv 1) (pv 4) (fun _ _ => rfl)) (pe_ix ix_list (pv 5) (pe_op op_sub (pe_ix ix_tup (pv 1) (pv 4) (fun _ _ => rfl)) pe_int) (fun _ _ => rfl))) pe_int) (pg_sub (pv 2) (pv 4) set_list)))))
      )
    (pss_one (ps_ret (pe_ix ix_list (pv 2) pe_int (fun _ _ => rfl)))))), ?_⟩
  refine ⟨Nat.le_of_lt (small1000 (by decide)), fun l0 hl0 => ?_⟩
  refine ⟨_, rfl, a, _, rfl, .inr ((Same.upd hl0).tup hs), ?_⟩
  have tl := g.le
  have tp := g.pos
  refine ⟨l0, _, _, rfl, rfl, upd_same, by rw [List.length_map]; omega, by rw [List.length_map]; omega, by rw [List.length_map]; exact Nat.le_of_lt (small1000 (by simp; omega)), fun L hL => ?_⟩
  have smL : Same H (upd (upd H l0 (.lst [.int 0])) L (.lst (List.replicate ((t.map V.int).length : Int).toNat [V.int 0]).flatten)) := (Same.upd hl0).updR ((Same.upd hl0).free hL)
  have HL : H L = none := (Same.upd hl0).free hL
  have eL0 : (List.replicate ((t.map V.int).length : Int).toNat [V.int 0]).flatten = (List.replicate t.length (0 : Int)).map V.int := by
    rw [rep_flat, List.length_map, List.map_replicate]
    rfl
  rw [eL0] at smL ⊢
  generalize hH2 : upd (upd H l0 (.lst [.int 0])) L (.lst ((List.replicate t.length (0 : Int)).map V.int)) = H2 at *
  have H2L : H2 L = some (.lst ((List.replicate t.length (0 : Int)).map V.int)) := by rw [← hH2, upd_same]
  refine ⟨_, rfl, a, t, rfl, g, smL.tup hs, fun H3 C s3 hC cb => ?_⟩
  refine ⟨Nat.le_of_lt (small1000 (by simp)), fun tp0 htp => ?_⟩
  refine ⟨tp0, _, rfl, .of upd_same, rfl, _, _, rfl, _, _, rfl, rfl, ?_⟩
  have smT : Same H3 (upd H3 tp0 (.tup [V.ref L, V.ref C])) := Same.upd htp
  have ML : nu H2 H3 L = none := nu_old (by rw [H2L]; exact fun z => nomatch z)
  have smM : Same (nu H2 H3) (upd H3 tp0 (.tup [V.ref L, V.ref C])) := nu_same.trans smT
  have smH : Same H (upd H3 tp0 (.tup [V.ref L, V.ref C])) := (smL.trans s3).trans smT
  have hL4 : upd H3 tp0 (.tup [V.ref L, V.ref C]) L = some (.lst ((List.replicate t.length (0 : Int)).map V.int)) := smT _ _ (s3 _ _ H2L)
  generalize upd H3 tp0 (.tup [V.ref L, V.ref C]) = H4 at *
  generalize nu H2 H3 = M at *
  clear hH2 smT
  have no : arePk t d = false → ∀ G, Same H G → Q .non G := fun h G sG => by
    have z := q G sG
    unfold needV at z
    rw [h, if_neg (by decide)] at z
    exact z
  refine ⟨_, rfl, ?_⟩
  refine isi_dp (hd.same smH) kit_tup ?_
  refine ⟨_, rfl, ?_⟩
  refine if_b (fun ht => ?_) fun ht => ?_
  · refine iteT ?_
    exact no (arePk_not (by simpa using ht)) _ smH
  obtain ⟨ds, rfl⟩ := dp_notup hd (by simpa using ht)
  obtain ⟨b, xs, rfl, hx1, hx2⟩ := dp_tup hd
  have hxl := hx2.len
  refine ⟨_, rfl, b, xs, rfl, .inr (smH.tup hx1), _, rfl, a, _, rfl, .inr (smH.tup hs), rfl, _, rfl, ?_⟩
  rw [int_ne_dec]
  refine if_b (fun hl => ?_) fun hl => ?_
  · exact no (arePk_len (fun q => by rw [List.length_map, hxl, q] at hl; simp at hl)) _ smH
  have hlen : ds.length = t.length := by
    rw [List.length_map, hxl] at hl
    have z : ((ds.length : Int) = t.length) := by simpa using hl
    omega
  refine ⟨_, rfl, a, _, rfl, .inr (smH.tup hs), _, _, rfl, rfl, _, rfl, _, rfl, _, _, _, _, rfl, RgC.neg (by rw [List.length_map]; omega) (by rw [List.length_map]; omega) (by decide) (by decide), ?_⟩
  have en : (((t.map V.int).length : Int) - 1 - (-1)).toNat = t.length := by
    rw [List.length_map]
    omega
  rw [en]
  refine for_rangeC (Pv := fun i σ G => ∃ o4 o5 o6, σ = [some (.ref a), some (.ref b), some (.ref L), some (.ref C), o4, o5, o6] ∧ Same H G ∧ Same M G ∧ G L = some (.lst ((needTo t (ds.map iv) i).map V.int)) ∧ ∀ j, t.length - i ≤ j → j < t.length → pkOk t ds j = true)
    ⟨none, none, none, rfl, smH, smM, hL4, fun j h1 h2 => by omega⟩ (fun i σ G hi hp => ?_) fun σ G hp => ?_
  · obtain ⟨o4, o5, o6, rfl, sH, sM, hGL, hok⟩ := hp
    obtain ⟨ls, hls, cTop, cRow⟩ := cb.same sM
    have hz := needTo_length t (ds.map iv) i
    have ek : ((t.map V.int).length : Int) - 1 + (i : Int) * (-1) = ((t.length - 1 - i : Nat) : Int) := by
      rw [List.length_map]
      omega
    rw [ek]
    have eS : needTo t (ds.map iv) (i + 1) = nStep t (ds.map iv) (needTo t (ds.map iv) i) (t.length - 1 - i) := rfl
    have z0 := needTo_zero t (ds.map iv) i (t.length - 1 - i) (by omega)
    have hok2 : pkOk t ds (t.length - 1 - i) = true → ∀ j, t.length - (i + 1) ≤ j → j < t.length → pkOk t ds j = true := fun h j h1 h2 => by
      by_cases e : j = t.length - 1 - i
      · rw [e]
        exact h
      · exact hok j (by omega) h2
    generalize hk : t.length - 1 - i = k at *
    have hkt : k < t.length := by omega
    have hkl : k < ls.length := by omega
    have hkd : k < ds.length := by omega
    obtain ⟨c, hc⟩ := getElem?_of hkl
    obtain ⟨x, hx, hxd⟩ := hx2.get hkd
    refine ⟨_, rfl, _, rfl, C, _, (k : Int), .ref c, rfl, rfl, cTop, atI_nat (by rw [List.getElem?_map, hc]; rfl), c, rfl, ⟨_, cRow k c hc⟩, fun D hD => ?_⟩
    refine lc_pick (called t k) (needTo t (ds.map iv) i) (fun x hx => by rw [hz]; exact called_lt hx) (Nat.le_trans (called_length t k) (by omega)) (cRow k c hc) (.of hGL) hD (fun _ => rfl) (fun _ => rfl) (fun _ => rfl) fun G1 s1 hG1 => ?_
    refine ⟨D, _, rfl, .of hG1, fun ns S hperm hsrt hS => ?_⟩
    have s2 : Same G1 (upd G1 S (.lst (ns.map V.int))) := Same.upd hS
    have ens : ns.reverse = dsc ((called t k).map fun x => (needTo t (ds.map iv) i).getD x.toNat 0) := by
      unfold dsc
      rw [asc_uniq hperm hsrt]
    have nl : ns.length = (called t k).length := by
      rw [hperm.length_eq, List.length_map]
    have hS2 : upd G1 S (.lst (ns.map V.int)) S = some (.lst (ns.map V.int)) := upd_same
    have sE := s1.trans s2
    generalize upd G1 S (.lst (ns.map V.int)) = G2 at *
    refine ⟨S, _, rfl, .of hS2, fun R hR => ?_⟩
    have erv : (ns.map V.int).reverse = ns.reverse.map V.int := by rw [List.map_reverse]
    rw [erv]
    have nl2 : ns.reverse.length = (called t k).length := by rw [List.length_reverse, nl]
    generalize ns.reverse = rs at *
    have s3' := Same.upd (o := .lst (rs.map V.int)) hR
    have hR3 : upd G2 R (.lst (rs.map V.int)) R = some (.lst (rs.map V.int)) := upd_same
    have sF := sE.trans s3'
    generalize upd G2 R (.lst (rs.map V.int)) = G3 at *
    have sHF := sH.trans sF
    have hxF := hxd.same sHF
    -- the whole number asked
    refine ⟨_, rfl, _, rfl, b, _, (k : Int), x, rfl, rfl, sHF.tup hx1, atI_nat hx, ?_⟩
    refine ⟨_, rfl, Nat.zero_le _, fun l hl => ?_⟩
    have sl := Same.upd (o := .lst []) hl
    have hl4 : upd G3 l (.lst []) l = some (.lst []) := upd_same
    have hR4 := sl _ _ hR3
    have sG := sF.trans sl
    have sHG := sHF.trans sl
    have hxG := hxF.same sl
    generalize upd G3 l (.lst []) = G4 at *
    refine ⟨_, _, lD_dp (.of hR4), lst_nil_dp hl4, sh_ints _, sh_ints _, _, rfl, ?_⟩
    rw [eqv_ints]
    have fin0 : pkOk t ds k = false → Q .non G4 := fun h => no (arePk_row hkt h) _ sHG
    have el : (((rs.map V.int).length : Nat) : Int) = ((called t k).length : Int) := by rw [List.length_map, nl2]
    have enil : (rs = []) ↔ (called t k = []) := by
      rw [← List.length_eq_zero_iff, ← List.length_eq_zero_iff, nl2]
    have last : pkOk t ds k = true → tAsg (tIf (tTest (tOp (rI0 fun i j => V.bl (decide (j < i))) (tOp (rIxT K) (tVar 1) (tVar 4)) (tC (V.int 0)))) (tOp (rI0 fun i j => V.int (i + j)) (tOp (rIxT K) (tVar 1) (tVar 4)) (tOp (rIxL K) (tVar 5) (tOp (rI0 fun i j => V.int (i - j)) (tOp (rIxT K) (tVar 1) (tVar 4)) (tC (V.int 1))))) (tC (V.int 0)))
        (gSub (tVar 2) (tVar 4) rSetL) { nx := fun σ G => ∃ o4 o5 o6, σ = [some (.ref a), some (.ref b), some (.ref L), some (.ref C), o4, o5, o6] ∧ Same H G ∧ Same M G ∧ G L = some (.lst ((needTo t (ds.map iv) (i + 1)).map V.int)) ∧ ∀ j, t.length - (i + 1) ≤ j → j < t.length → pkOk t ds j = true, rt := Q }
        [some (.ref a), some (.ref b), some (.ref L), some (.ref C), some (.int (k : Nat)), some (.ref R), o6] G4 := fun hpk => by
      obtain ⟨p1, p2⟩ := pkOk_iv hkd hpk
      rw [p1] at hxG
      cases dp_int hxG
      have ehk : (ds.map iv).getD k 0 = (ds.map iv).getD k 0 := rfl
      refine ⟨_, rfl, _, rfl, b, _, (k : Int), _, rfl, rfl, sHG.tup hx1, atI_nat hx, _, _, rfl, rfl, _, rfl, ?_⟩
      refine if_b (fun h => ?_) fun h => ?_
      · have hpos := of_decide_eq_true h
        have hj : ((ds.map iv).getD k 0 - 1).toNat < rs.length := by omega
        have ej : (ds.map iv).getD k 0 - 1 = ((((ds.map iv).getD k 0 - 1).toNat : Nat) : Int) := by omega
        refine ⟨_, rfl, _, rfl, b, _, (k : Int), _, rfl, rfl, sHG.tup hx1, atI_nat hx, ?_⟩
        refine ⟨_, rfl, _, rfl, _, rfl, b, _, (k : Int), _, rfl, rfl, sHG.tup hx1, atI_nat hx, _, _, rfl, rfl, ?_⟩
        refine ⟨R, _, _, _, rfl, rfl, .of hR4, by rw [ej]; exact atI_nat (mapInt_at hj), _, _, rfl, rfl, ?_⟩
        refine ⟨_, rfl, _, rfl, L, _, (k : Int), k, rfl, rfl, sG _ _ hGL, ixN_nat (by omega) (by rw [List.length_map, hz]; omega), ?_⟩
        refine ⟨_, _, _, rfl, sHG.updR HL, (sM.trans sG).updR ML, ?_, hok2 hpk⟩
        rw [upd_same, eS]
        unfold nStep
        rw [if_pos hpos, List.map_set, ← ens]
      · have hn : ¬ 0 < (ds.map iv).getD k 0 := of_decide_eq_false h
        refine ⟨_, rfl, _, rfl, L, _, (k : Int), k, rfl, rfl, sG _ _ hGL, ixN_nat (by omega) (by rw [List.length_map, hz]; omega), ?_⟩
        refine ⟨_, _, _, rfl, sHG.updR HL, (sM.trans sG).updR ML, ?_, hok2 hpk⟩
        rw [upd_same, eS]
        unfold nStep
        rw [if_neg hn]
        congr 2
        have e : (needTo t (ds.map iv) i).set k 0 = needTo t (ds.map iv) i := by
          refine List.ext_getElem (by rw [List.length_set]) fun n h1 h2 => ?_
          rw [List.getElem_set]
          split
          · rename_i e
            subst e
            rw [List.getD_eq_getElem?_getD, List.getElem?_eq_getElem h2] at z0
            exact z0.symm
          · rfl
        rw [show V.int 0 = V.int (0 : Int) from rfl, ← List.map_set, e]
    refine if_b (fun h => ?_) fun h => ?_
    · have hne : ¬ called t k = [] := fun z => by
        rw [decide_eq_true (enil.mpr z)] at h
        cases h
      refine ⟨_, rfl, R, _, rfl, .inl (.of hR4), x, _, 1, ((rs.map V.int).length : Int), rfl, hxG, _, rfl, ?_⟩
      rw [el]
      have e : pkOk t ds k = isW (ds.getD k .none) 1 (some (called t k).length) := by unfold pkOk; rw [if_neg hne]
      rw [← e]
      exact if_b (fun h2 => fin0 (by simpa using h2)) fun h2 => last (by simpa using h2)
    · have hne : called t k = [] := enil.mp (by simpa using h)
      refine ⟨_, rfl, R, _, rfl, .inl (.of hR4), x, _, 0, ((rs.map V.int).length : Int), rfl, hxG, _, rfl, ?_⟩
      rw [el]
      have e : pkOk t ds k = isW (ds.getD k .none) 0 (some (called t k).length) := by unfold pkOk; rw [if_pos hne]
      rw [← e]
      exact if_b (fun h2 => fin0 (by simpa using h2)) fun h2 => last (by simpa using h2)
  · obtain ⟨o4, o5, o6, rfl, sH, sM, hGL, hok⟩ := hp
    have hz := needTo_length t (ds.map iv) t.length
    have hpk : arePk t (.tuple ds) = true := arePk_all hlen fun i hi => hok i (by omega) hi
    refine ⟨_, rfl, L, _, ((0 : Nat) : Int), _, rfl, rfl, .of hGL, atI_nat (mapInt_at (by omega)), ?_⟩
    have z := q _ sH
    unfold needV at z
    rw [if_pos hpk] at z
    exact z
end
end K10
set_option Elab.async false
set_option linter.all false
set_option maxRecDepth 100000
set_option maxHeartbeats 4000000
/-! the law's own: _law_due, _law_outcome -/
namespace K10
open PySem PySem.Spec PyProof.Rows L2 LamX
section
variable {P : Program} {w : World} {K : PySem.W.Frag} {mg : Str → Option Value} {base : Heap} (T : Nm mg) {CT CP CN p0 : Addr}
include T
def spLD (K : PySem.W.Frag) : Sp := fun vs H Q E => ∃ a t v d, vs = [.ref a, v] ∧ Good t ∧ SqT K H a (t.map V.int) ∧ Dp K H v d ∧ SS d ∧ ∀ H', Same H H' → Q (chkV (chk t d)) H'
theorem ok_L_due (ko : Kn P w K mg base CX0 2 "_law_is_order" s_L_is_order ["_law_tree_here", "_law_thing"] (spIO K)) (ki : Kn P w K mg base CX0 1 "_law_time" s_L_time ["_law_tree_here", "_law_some"] (spTI K))
    (kn : Kn P w K mg base CX0 2 "_law_need" s_L_need ["_law_tree_here", "_law_picks"] (spLN K))
    {f : Addr} {fd : FuncData} (F : Fun K "_law_due" "_law_due" s_L_due f fd) : FnOk P w K mg base CX0 3 f fd ["_law_tree_here", "_law_sheet"] (spLD K) := by
  obtain ⟨fo, fdo, Fo, mo, Go⟩ := ko
  obtain ⟨fi, fdi, Fi, mi, Gi⟩ := ki
  obtain ⟨fn, fdn, Fn, mn, Gn⟩ := kn
  refine F.ok sc_L_due (by rintro _ _ _ _ ⟨a, t, v, d, rfl, _⟩; rfl) fun cdv A outer s H vs Q E hr hsp => ?_
  obtain ⟨a, t, v, d, rfl, g, hs, hd, hss, q⟩ := hsp
  have nd := sc_L_due.nd
  have bo : Binds K fdo ["_law_tree_here", "_law_thing"] [] := Fo.binds (fun _ _ _ _ _ _ us hl => match us, hl with | [_, _], _ => rfl)
  have bi : Binds K fdi ["_law_tree_here", "_law_some"] [] := Fi.binds (fun _ _ _ _ _ _ us hl => match us, hl with | [_, _], _ => rfl)
  have bn : Binds K fdn ["_law_tree_here", "_law_picks"] [] := Fn.binds (fun _ _ _ _ _ _ us hl => match us, hl with | [_, _], _ => rfl)
  refine ⟨_, pss_cons (ps_if (PW.pt (pw_or (pt_not (pt_val (pe_isi (ns := "tuple") (by rfl) T.isinst (by rfl) T.tup (by decide +kernel) (pv 1))))
        (pw_or1 (pt_cmpR op_ne (pe_callB call_len_seq (by rfl) T.len PySem.boot_len (pa_cons (pv 1) pa_nil)) pe_int (nomark _))))) (pss_one (ps_ret pe_str)) pss_nil)
    (pss_cons (ps_if (pt_not (pt_val (pe_call Go hr (by rfl) mo Fo.kp bo .nil pass0 (pa_cons (pv 0) (pa_cons (pe_ix ix_tup (pv 1) pe_int (fun _ _ => rfl)) pa_nil))))) (pss_one (ps_ret pe_str)) pss_nil)
    (pss_cons (ps_set (i := 2) nd rfl (Or.inl rfl) (pe_call Gi (hr.mono (by decide)) (by rfl) mi Fi.kp bi .nil pass0 (pa_cons (pv 0) (pa_cons (pe_ix ix_tup (pv 1) pe_int (fun _ _ => rfl)) pa_nil))))
    (pss_one (ps_ret (pe_ifExp (pt_cmpR op_eq (pe_call Gn hr (by rfl) mn Fn.kp bn .nil pass0 (pa_cons (pv 0) (pa_cons (pe_ix ix_tup (pv 1) pe_int (fun _ _ => rfl)) pa_nil))) (pv 2) (nomark _)) (pv 2) pe_str))))), ?_⟩
  refine ⟨_, rfl, ?_⟩
  refine isi_dp hd kit_tup ?_
  refine ⟨_, rfl, ?_⟩
  have form : (∀ o p, d ≠ .tuple [o, p]) → Q (.str "form") H := fun h => by
    have z := q H (Same.refl H)
    rw [chk_form h] at z
    exact z
  refine if_b (fun h => ?_) fun h => ?_
  · refine iteT ?_
    refine form fun o p z => ?_
    rw [z] at h
    cases h
  obtain ⟨es, rfl⟩ := dp_notup hd (by simpa using h)
  obtain ⟨b, xs, rfl, hx1, hx2⟩ := dp_tup hd
  have hxl := hx2.len
  refine ⟨_, rfl, b, xs, rfl, .inr hx1, rfl, _, rfl, ?_⟩
  rw [int_ne_dec]
  refine if_b (fun h => ?_) fun h => ?_
  · refine form fun o p z => ?_
    have z2 : es = [o, p] := by injection z
    rw [hxl, z2] at h
    cases h
  obtain ⟨o, p, rfl⟩ : ∃ o p, es = [o, p] := by
    have z : ((xs.length : Int) = 2) := by simpa using h
    match es, hxl with
    | [], hl => rw [hl] at z; cases z
    | [_], hl => rw [hl] at z; cases z
    | [o, p], _ => exact ⟨o, p, rfl⟩
    | _ :: _ :: _ :: _, hl => rw [hl] at z; simp at z; omega
  obtain ⟨x, y, rfl, hx, hy⟩ := two_of hx2
  have ec : chk t (.tuple [o, p]) = if isOrd t o = true then (if arePk t p = true ∧ needBy t (picksOf p) = timeIn t (rowsOf o) then .inr (timeIn t (rowsOf o)) else .inl "picks") else .inl "order" := rfl
  rw [ec] at q
  refine ⟨_, rfl, _, rfl, b, _, ((0 : Nat) : Int), x, rfl, rfl, hx1, atI_nat rfl, a, t, x, o, rfl, g, hs, hx, hss o p rfl, fun H2 s2 => ?_⟩
  refine ⟨_, rfl, ?_⟩
  refine if_b (fun h => ?_) fun h => ?_
  · have h0 : isOrd t o = false := by simpa using h
    have z := q _ s2
    rw [h0, if_neg (by decide)] at z
    exact z
  have h0 : isOrd t o = true := by simpa using h
  rw [if_pos h0] at q
  obtain ⟨e1, e2⟩ := ord_of h0
  have hx' := hx.same s2
  rw [e1] at hx'
  refine ⟨_, rfl, _, rfl, b, _, ((0 : Nat) : Int), x, rfl, rfl, s2.tup hx1, atI_nat rfl, a, t, x, rowsOf o, rfl, g, s2.tup hs, hx', e2, fun H3 s3 => ?_⟩
  have s03 := s2.trans s3
  refine ⟨_, rfl, _, rfl, b, _, ((1 : Nat) : Int), y, rfl, rfl, s03.tup hx1, atI_nat rfl, a, t, y, p, rfl, g, s03.tup hs, hy.same s03, fun H4 s4 => ?_⟩
  have z := q _ (s03.trans s4)
  by_cases hpk : arePk t p = true
  · have en : needV t p = .int (needBy t (picksOf p)) := by unfold needV; rw [if_pos hpk]
    rw [en]
    refine ⟨_, rfl, rfl, _, rfl, ?_⟩
    rw [int_ne_dec]
    refine if_b (fun h => ?_) fun h => ?_
    · rw [if_pos ⟨hpk, of_decide_eq_true h⟩] at z
      exact ⟨_, rfl, z⟩
    · rw [if_neg fun w => (of_decide_eq_false h) w.2] at z
      exact z
  · have en : needV t p = .non := by unfold needV; rw [if_neg hpk]
    rw [en]
    refine ⟨_, rfl, rfl, _, rfl, ?_⟩
    rw [if_neg fun w => hpk w.1] at z
    exact z
/-- which class is caught by which -/
structure Cau (K : PySem.W.Frag) (CT CP CN : Addr) : Prop where
  pp : PySem.W.exmOne K (.ref CP) (.ref CP) = some true
  tp : PySem.W.exmOne K (.ref CT) (.ref CP) = some false
  tt : PySem.W.exmOne K (.ref CT) (.ref CT) = some true
  np : PySem.W.exmOne K (.ref CN) (.ref CP) = some false
  nt : PySem.W.exmOne K (.ref CN) (.ref CT) = some false
  nn : PySem.W.exmOne K (.ref CN) (.ref CN) = some true
def outCl (CT CP CN : Addr) : List Clause := [(.ref CP, some 4, fun a cls d => tAsg (tFldA CP "part" a cls d (tVar 4)) (gName 3)), (.ref CT, some 4, fun a cls d => tAsg (tTup (tCons (tC (.str "tree")) (tCons (tFldA CT "number" a cls d (tVar 4)) tNil))) (gName 3)), (.ref CN, none, fun a cls d => tAsg (tC (.str "place")) (gName 3))]
omit T in
theorem tD_inj {t u : List Int} (h : tD t = tD u) : t = u := by
  unfold tD at h
  have z : t.map PyData.int = u.map PyData.int := by injection h
  have z2 := congrArg (List.map iv) z
  rw [iv_map, iv_map] at z2
  exact z2
omit T in
theorem set_at {z : L2.St} {x : Option V} (h : 4 < z.length) : (z.set 4 x)[4]? = some x := by rw [List.getElem?_set_self h]
omit T in
theorem out_tree (C : Cau K CT CP CN) {Wout : WX} {D : Ends} {z : L2.St} {H : Hp} {d : PyData} (hz : 4 < z.length) (q : ∀ x, treeBad d = some x → ∀ (a : Addr) (H' : Hp) (p : Addr), Same H H' → H' p = some (.tup [.str "tree", x]) → D.nx (((z.set 4 (some (.ref a))).set 3 (some (.ref p))).set 4 none) H') :
    TrE CT d H (WE (wCl K Wout D (outCl CT CP CN)) z) := fun x hx H' dd sm hdd =>
  ⟨false, C.tp, fun h => (nomatch h), fun _ => ⟨true, C.tt, fun _ a ha => ⟨_, set_at hz, rfl, rfl, dd, x, rfl, hdd, Nat.le_of_lt (small1000 (by simp)), fun p hp => q x hx a _ p (sm.updR (sm.free hp)) upd_same⟩, fun h => (nomatch h)⟩⟩
omit T in
theorem out_part (C : Cau K CT CP CN) {Wout : WX} {D : Ends} {z : L2.St} {H : Hp} {dd : Addr} {x : Str} (hz : 4 < z.length) (hdd : H dd = some (.xd [("part", .str x)])) (q : ∀ (a : Addr), D.nx (((z.set 4 (some (.ref a))).set 3 (some (.str x))).set 4 none) H) :
    wCl K Wout D (outCl CT CP CN) (.ref CP) (some dd) z H :=
  ⟨true, C.pp, fun _ a ha => ⟨_, set_at hz, rfl, rfl, dd, _, rfl, hdd, q a⟩, fun h => (nomatch h)⟩
omit T in
theorem out_place (C : Cau K CT CP CN) {Wout : WX} {D : Ends} {z : L2.St} {H : Hp} (q : D.nx (z.set 3 (some (.str "place"))) H) :
    wCl K Wout D (outCl CT CP CN) (.ref CN) none z H :=
  ⟨false, C.np, fun h => (nomatch h), fun _ => ⟨false, C.nt, fun h => (nomatch h), fun _ => ⟨true, C.nn, fun _ a ha => q, fun h => (nomatch h)⟩⟩⟩
def spOut (K : PySem.W.Frag) : Sp := fun vs H Q E => ∃ (way : Nat) (v u : V) (d e : PyData), vs = [.int way, v, u] ∧ Dp K H v d ∧ Dp K H u e ∧
  ((∃ x, SS e ∧ RS e ∧ treeBad d = some x ∧ ∀ (H' : Hp) (p : Addr), Same H H' → H' p = some (.tup [.str "tree", x]) → Q (.ref p) H') ∨
   (∃ t, SS e ∧ d = tD t ∧ Good t ∧ way = 0 ∧ ∀ H', Same H H' → Q (chkV (chk t e)) H') ∨
   (∃ t, RS e ∧ d = tD t ∧ Good t ∧ way = 1 ∧ ∀ H', Same H H' → Q (if isOrd t e = true then .non else .str "place") H'))
theorem ok_L_outcome (eT : ErrA P K mg "BadTree" "number" CT) (eP : ErrA P K mg "BadPaper" "part" CP) (eN : ErrN P K mg "OutOfPlace" CN) (C : Cau K CT CP CN)
    (k0 : Kn P w K mg base (L2.CX P w) 3 "check_relay" s_check_relay ["tree", "paper"] (spCR K CT CP)) (k1 : Kn P w K mg base (L2.CX P w) 3 "time_of" s_time_of ["tree", "order"] (spTO K CT CN)) (k2 : Kn P w K mg base (L2.CX P w) 3 "least_time" s_least_time ["tree"] (spLT K CT))
    (k3 : Kn P w K mg base (L2.CX P w) 5 "order" s_order ["tree"] (spOr K CT p0)) (k4 : Kn P w K mg base (L2.CX P w) 5 "relay_paper" s_relay_paper ["tree"] (spRP K CT p0)) (k5 : Kn P w K mg base (L2.CX P w) 2 "need_tree" s_need_tree ["thing"] (spNT K CT))
    {f : Addr} {fd : FuncData} (F : Fun K "_law_outcome" "_law_outcome" s_L_outcome f fd) : FnOk P w K mg base CX0 6 f fd ["_law_way", "_law_tree_here", "_law_thing"] (spOut K) := by
  obtain ⟨f0, fd0, F0, m0, G0⟩ := k0
  obtain ⟨f1, fd1, F1, m1, G1⟩ := k1
  obtain ⟨f2, fd2, F2, m2, G2⟩ := k2
  obtain ⟨f3, fd3, F3, m3, G3⟩ := k3
  obtain ⟨f4, fd4, F4, m4, G4⟩ := k4
  obtain ⟨f5, fd5, F5, m5, G5⟩ := k5
  refine F.ok sc_L_outcome (by rintro _ _ _ _ ⟨way, v, u, d, e, rfl, _⟩; rfl) fun cdv A outer s H vs Q E hr hsp => ?_
  obtain ⟨way, v, u, d, e, rfl, hd, he, q⟩ := hsp
  have hss : way = 0 → SS e := fun w0 => by
    rcases q with ⟨_, h, _⟩ | ⟨_, h, _⟩ | ⟨_, _, _, _, w1, _⟩
    · exact h
    · exact h
    · omega
  have hrs : way = 1 → RS e := fun w0 => by
    rcases q with ⟨_, _, h, _⟩ | ⟨_, _, _, _, w1, _⟩ | ⟨_, h, _⟩
    · exact h
    · omega
    · exact h
  have nd := sc_L_outcome.nd
  have b0 : Binds K fd0 ["tree", "paper"] [] := F0.binds (fun _ _ _ _ _ _ us hl => match us, hl with | [_, _], _ => rfl)
  have b1 : Binds K fd1 ["tree", "order"] [] := F1.binds (fun _ _ _ _ _ _ us hl => match us, hl with | [_, _], _ => rfl)
  have b2 : Binds K fd2 ["tree"] [] := F2.binds (fun _ _ _ _ _ _ us hl => match us, hl with | [_], _ => rfl)
  have b3 : Binds K fd3 ["tree"] [] := F3.binds (fun _ _ _ _ _ _ us hl => match us, hl with | [_], _ => rfl)
  have b4 : Binds K fd4 ["tree"] [] := F4.binds (fun _ _ _ _ _ _ us hl => match us, hl with | [_], _ => rfl)
  have b5 : Binds K fd5 ["thing"] [] := F5.binds (fun _ _ _ _ _ _ us hl => match us, hl with | [_], _ => rfl)
  have key : ∃ t, PSs (cxOf CX0 P w K mg base n_L_outcome "_law_outcome" (defScope s_L_outcome) f cdv A outer s H E).nox (defBody s_L_outcome) t ∧ t { nx := fun _ H' => Q .non H', rt := Q } (start n_L_outcome [.int way, v, u]) H := by
    refine ⟨_, pss_cons (ps_set (i := 3) nd rfl (Or.inl rfl) pe_non)
      (pss_cons (ps_tryCl (l := outCl CT CP CN) rfl rfl nd L2.takes0 (fun W pn xe tk _ =>
        pss_one (ps_if (pt_cmpR op_eq (pv 0) pe_int (nomark _)) (pss_one (ps_set (i := 3) nd rfl (Or.inl rfl) (pe_callS G0 (hr.mono (by decide)) (by rfl) m0 F0.kp b0 (fun σ => passAt tk σ) (pa_cons (pv 1) (pa_cons (pv 2) pa_nil)))))
        (pss_one (ps_if (pt_cmpR op_eq (pv 0) pe_int (nomark _)) (pss_one (ps_expr (pe_callS G1 (hr.mono (by decide)) (by rfl) m1 F1.kp b1 (fun σ => passAt tk σ) (pa_cons (pv 1) (pa_cons (pv 2) pa_nil)))))
        (pss_one (ps_if (pt_cmpR op_eq (pv 0) pe_int (nomark _)) (pss_one (ps_expr (pe_callS G2 (hr.mono (by decide)) (by rfl) m2 F2.kp b2 (fun σ => passAt tk σ) (pa_cons (pv 1) pa_nil))))
        (pss_one (ps_if (pt_cmpR op_eq (pv 0) pe_int (nomark _)) (pss_one (ps_expr (pe_callS G3 hr (by rfl) m3 F3.kp b3 (fun σ => passAt tk σ) (pa_cons (pv 1) pa_nil))))
        (pss_one (ps_expr (pe_ifExp (pt_cmpR op_eq (pv 0) pe_int (nomark _)) (pe_callS G4 hr (by rfl) m4 F4.kp b4 (fun σ => passAt tk σ) (pa_cons (pv 1) pa_nil)) (pe_callS G5 (hr.mono (by decide)) (by rfl) m5 F5.kp b5 (fun σ => passAt tk σ) (pa_cons (pv 1) pa_nil)))))))))))))
        (.named (i := 4) ⟨rfl, by decide, .inl eP.gC⟩ rfl rfl (fun a oe cls d pn hz hf => pss_one (ps_set (i := 3) nd rfl (Or.inl rfl) (pe_att eP hz hf (pv 4))))
        (.named (i := 4) ⟨rfl, by decide, .inl eT.gC⟩ rfl rfl (fun a oe cls d pn hz hf => pss_one (ps_set (i := 3) nd rfl (Or.inl rfl) (pe_tup (pa_cons pe_str (pa_cons (pe_att eT hz hf (pv 4)) pa_nil)))))
        (.bare ⟨rfl, by decide, .inl eN.gC⟩ (fun a oe cls d pn hz hf => pss_one (ps_set (i := 3) nd rfl (Or.inl rfl) pe_str)) .nil))))
      (pss_one (ps_ret (pv 3)))), ?_⟩
    have hlen : 4 < ([some (.int way), some v, some u, some .non, none] : L2.St).length := Nat.lt_succ_self 4
    have wd : ∀ n : Nat, decide (V.int (way : Nat) = V.int (n : Nat)) = decide (way = n) := fun n => by
      rw [int_ne_dec]
      by_cases h : way = n
      · rw [h]
        simp
      · have : ¬ ((way : Int) = (n : Nat)) := by omega
        rw [decide_eq_false h, decide_eq_false this]
    refine ⟨_, rfl, rfl, _, rfl, ?_⟩
    refine if_b (fun h0 => ?_) fun h0 => ?_
    · have w0 : way = 0 := of_decide_eq_true ((wd 0).symm.trans h0)
      refine ⟨_, rfl, _, rfl, v, u, d, e, rfl, hd, he, hss w0, out_tree C hlen fun x hx a H' p sm hp => ?_, fun t ed g => ?_⟩
      · rcases q with ⟨x', _, _, hx', q⟩ | ⟨t, _, ed, g, _⟩ | ⟨t, _, ed, g, _⟩
        · rw [hx] at hx'
          cases hx'
          exact ⟨_, rfl, q _ p sm hp⟩
        · rw [ed, bad_of_good g] at hx
          cases hx
        · rw [ed, bad_of_good g] at hx
          cases hx
      · rcases q with ⟨x', _, _, hx', q⟩ | ⟨t', _, ed', g', _, q⟩ | ⟨t', _, ed', g', w1, q⟩
        · rw [ed, bad_of_good g] at hx'
          cases hx'
        · have et : t = t' := tD_inj (ed.symm.trans ed')
          subst et
          unfold ckE
          cases hc : chk t e with
          | inr i =>
            rw [hc] at q
            exact fun H' sm => ⟨_, rfl, q _ sm⟩
          | inl x =>
            rw [hc] at q
            exact fun H' dd sm hdd => out_part C hlen hdd fun a => ⟨_, rfl, q _ sm⟩
        · omega
    refine ⟨_, rfl, rfl, _, rfl, ?_⟩
    refine if_b (fun h1 => ?_) fun h1 => ?_
    · have w1 : way = 1 := of_decide_eq_true ((wd 1).symm.trans h1)
      refine ⟨_, rfl, _, rfl, v, u, d, e, rfl, hd, he, hrs w1, out_tree C hlen fun x hx a H' p sm hp => ?_, fun t ed g => ?_⟩
      · rcases q with ⟨x', _, _, hx', q⟩ | ⟨t, _, ed, g, _⟩ | ⟨t, _, ed, g, _⟩
        · rw [hx] at hx'
          cases hx'
          exact ⟨_, rfl, q _ p sm hp⟩
        · rw [ed, bad_of_good g] at hx
          cases hx
        · rw [ed, bad_of_good g] at hx
          cases hx
      · rcases q with ⟨x', _, _, hx', q⟩ | ⟨t', _, ed', g', w0, q⟩ | ⟨t', _, ed', g', w1, q⟩
        · rw [ed, bad_of_good g] at hx'
          cases hx'
        · exact absurd w0 (of_decide_eq_false ((wd 0).symm.trans h0))
        · have et : t = t' := tD_inj (ed.symm.trans ed')
          subst et
          refine ⟨fun hf H' sm => out_place C ?_, fun hf H' sm => ?_⟩
          · have z := q H' sm
            rw [hf, if_neg (by decide)] at z
            exact ⟨_, rfl, z⟩
          · have z := q H' sm
            rw [if_pos hf] at z
            exact ⟨_, rfl, z⟩
    -- the other ways: only what is no tree
    obtain ⟨x, hx, q⟩ : ∃ x, treeBad d = some x ∧ ∀ (H' : Hp) (p : Addr), Same H H' → H' p = some (.tup [.str "tree", x]) → Q (.ref p) H' := by
      rcases q with ⟨x, _, _, h⟩ | ⟨_, _, _, _, w0, _⟩ | ⟨_, _, _, _, w1, _⟩
      · exact ⟨x, h⟩
      · exact absurd w0 (of_decide_eq_false ((wd 0).symm.trans h0))
      · exact absurd w1 (of_decide_eq_false ((wd 1).symm.trans h1))
    have bad : ∀ {Wout : WX} {D : Ends}, (∀ z G, (∃ r, z[3]? = some (some r) ∧ Q r G) → D.nx z G) → TrE CT d H (WE (wCl K Wout D (outCl CT CP CN)) [some (.int way), some v, some u, some .non, none]) := fun {Wout D} hD => out_tree C hlen fun x' hx' a H' p sm hp => hD _ _ ⟨_, rfl, by
      rw [hx] at hx'
      cases hx'
      exact q _ p sm hp⟩
    refine ⟨_, rfl, rfl, _, rfl, ?_⟩
    refine if_b (fun h2 => ?_) fun h2 => ?_
    · exact ⟨_, rfl, v, d, x, rfl, hd, hx, bad fun z G h => h⟩
    refine ⟨_, rfl, rfl, _, rfl, ?_⟩
    refine if_b (fun h3 => ?_) fun h3 => ?_
    · exact ⟨_, rfl, v, d, rfl, hd, bad fun z G h => h, fun t ed g => by
        rw [ed, bad_of_good g] at hx
        cases hx⟩
    refine ⟨_, rfl, rfl, _, rfl, ?_⟩
    refine if_b (fun h4 => ?_) fun h4 => ?_
    · exact ⟨_, rfl, v, d, rfl, hd, bad fun z G h => h, fun t ed g => by
        rw [ed, bad_of_good g] at hx
        cases hx⟩
    · exact ⟨_, rfl, v, d, rfl, hd, (fun z => by
        rw [hx] at z
        cases z), bad fun z G h => h⟩
  exact key
end
end K10
set_option Elab.async false
set_option linter.all false
set_option maxRecDepth 100000
set_option maxHeartbeats 4000000
/-! the law's own: _law_begun, _law_next -/
namespace K10
open PySem PySem.Spec PyProof.Rows L2 LamX
/-- the dict of the generator -/
def gD (c l : Addr) (k : Nat) : List (Key × V) := [(.inr "cells", .ref c), (.inr "left", .ref l), (.inr "at", .int (k : Nat))]
theorem kCL : ¬ ((.inr "cells" : Key) = .inr "left") := by decide +kernel
theorem kCA : ¬ ((.inr "cells" : Key) = .inr "at") := by decide +kernel
theorem kLA : ¬ ((.inr "left" : Key) = .inr "at") := by decide +kernel
theorem kLC : ¬ ((.inr "left" : Key) = .inr "cells") := by decide +kernel
theorem kAC : ¬ ((.inr "at" : Key) = .inr "cells") := by decide +kernel
theorem kAL : ¬ ((.inr "at" : Key) = .inr "left") := by decide +kernel
theorem gD_cells {c l : Addr} {k : Nat} : valV (gD c l k) (.inr "cells") = some (.ref c) := valV_pos rfl
theorem gD_left {c l : Addr} {k : Nat} : valV (gD c l k) (.inr "left") = some (.ref l) := (valV_neg kCL).trans (valV_pos rfl)
theorem gD_at {c l : Addr} {k : Nat} : valV (gD c l k) (.inr "at") = some (.int (k : Nat)) := (valV_neg kCA).trans ((valV_neg kLA).trans (valV_pos rfl))
theorem put_left {c l l' : Addr} {k : Nat} : putK (gD c l k) (.inr "left") (.ref l') = gD c l' k := by
  unfold putK gD
  have e : (([(.inr "cells", .ref c), (.inr "left", .ref l), (.inr "at", .int (k : Nat))] : List (Key × V)).any fun kv => decide (kv.1 = .inr "left")) = true := by
    simp only [List.any_cons, decide_true, Bool.true_or, Bool.or_true]
  rw [if_pos e]
  simp only [List.map_cons, List.map_nil, if_neg kCL, if_neg kAL, if_true]
theorem put_at {c l : Addr} {k j : Nat} : putK (gD c l k) (.inr "at") (.int (j : Nat)) = gD c l j := by
  unfold putK gD
  have e : (([(.inr "cells", .ref c), (.inr "left", .ref l), (.inr "at", .int (k : Nat))] : List (Key × V)).any fun kv => decide (kv.1 = .inr "at")) = true := by
    simp only [List.any_cons, decide_true, Bool.true_or, Bool.or_true]
  rw [if_pos e]
  simp only [List.map_cons, List.map_nil, if_neg kCA, if_neg kLA, if_true]
theorem merge_gD {c l : Addr} {k : Nat} : mergeK [] [((.inr "cells" : Key), V.ref c), (.inr "left", .ref l), (.inr "at", .int (k : Nat))] = gD c l k := by
  unfold mergeK gD
  have e1 : putK ([] : List (Key × V)) (.inr "cells") (.ref c) = [(.inr "cells", .ref c)] := rfl
  have e2 : putK ([(.inr "cells", .ref c)] : List (Key × V)) (.inr "left") (.ref l) = [(.inr "cells", .ref c), (.inr "left", .ref l)] := by
    unfold putK
    rw [if_neg]
    · rfl
    · simp only [List.any_cons, List.any_nil, decide_eq_false kCL, Bool.or_false, Bool.false_eq_true, not_false_eq_true]
  have e3 : putK ([(.inr "cells", .ref c), (.inr "left", .ref l)] : List (Key × V)) (.inr "at") (.int (k : Nat)) = [(.inr "cells", .ref c), (.inr "left", .ref l), (.inr "at", .int (k : Nat))] := by
    unfold putK
    rw [if_neg]
    · rfl
    · simp only [List.any_cons, List.any_nil, decide_eq_false kCA, decide_eq_false kLA, Bool.or_false, Bool.false_eq_true, not_false_eq_true]
  simp only [List.foldl_cons, List.foldl_nil, e1, e2, e3]
/-- the generator's state: at most n numbers were drawn -/
structure Gen (p0 m l c : Addr) (n : Nat) (H : Hp) : Prop where
  dict : ∃ k : Nat, k ≤ n ∧ H m = some (.dK (gD c l k))
  left : ∃ ls : List Int, H l = some (.lst (ls.map V.int))
  cells : ∃ cs : List Int, H c = some (.lst (cs.map V.int))
  ne : l ≠ c
  tabs : Tabs (tabT p0) H
/-- what the generator does not touch -/
def frx (m l : Addr) (H : Hp) : Hp := fun b => if b = m ∨ b = l then none else H b
theorem frx_sub {m l : Addr} {H : Hp} : Same (frx m l H) H := fun b o h => by
  unfold frx at h
  split at h
  · cases h
  · exact h
theorem frx_at {m l b : Addr} {H : Hp} (h1 : b ≠ m) (h2 : b ≠ l) : frx m l H b = H b := by
  unfold frx
  rw [if_neg]
  rintro (h | h)
  · exact h1 h
  · exact h2 h
theorem frx_ne {m l b : Addr} {H : Hp} {o : HO} (h : frx m l H b = some o) : b ≠ m ∧ b ≠ l ∧ H b = some o := by
  unfold frx at h
  split at h
  · cases h
  · rename_i n
    exact ⟨fun z => n (.inl z), fun z => n (.inr z), h⟩
theorem frx_mono {m l : Addr} {A B : Hp} (e : ExtN A B) : ExtN (frx m l A) (frx m l B) := fun b o h n => by
  obtain ⟨h1, h2, h3⟩ := frx_ne h
  rw [frx_at h1 h2]
  exact e b o h3 n
theorem Gen.ext {p0 m l c : Addr} {n : Nat} {A B : Hp} (g : Gen p0 m l c n A) (e : ExtN A B) (t : Tabs (tabT p0) B) : Gen p0 m l c n B := by
  obtain ⟨⟨k, hk, hd⟩, ⟨ls, hl⟩, ⟨cs, hc⟩, ne, _⟩ := g
  exact ⟨⟨k, hk, e _ _ hd fun _ z => by cases z⟩, ⟨ls, e _ _ hl fun _ z => by cases z⟩, ⟨cs, e _ _ hc fun _ z => by cases z⟩, ne, t⟩
theorem Gen.le {p0 m l c : Addr} {n j : Nat} {A : Hp} (g : Gen p0 m l c n A) (h : n ≤ j) : Gen p0 m l c j A := by
  obtain ⟨⟨k, hk, hd⟩, a, b, d, e⟩ := g
  exact ⟨⟨k, Nat.le_trans hk h, hd⟩, a, b, d, e⟩
theorem Gen.ml {p0 m l c : Addr} {n : Nat} {A : Hp} (g : Gen p0 m l c n A) : m ≠ l ∧ m ≠ c := by
  obtain ⟨⟨k, hk, hd⟩, ⟨ls, hl⟩, ⟨cs, hc⟩, ne, _⟩ := g
  exact ⟨ne_of hd hl (by intro z; cases z), ne_of hd hc (by intro z; cases z)⟩
section
variable {P : Program} {w : World} {K : PySem.W.Frag} {mg : Str → Option Value} {base : Heap} (T : Nm mg) {p0 : Addr}
include T
def spBg (K : PySem.W.Frag) (p0 : Addr) : Sp := fun vs H Q E => ∃ (s : Addr) (cs : List Int), vs = [.ref s] ∧ SqL K H s (cs.map V.int) ∧ cs.length ≤ 100 ∧ Tabs (tabT p0) H ∧ ∀ (H' : Hp) (m l c : Addr), Same H H' → Gen p0 m l c 0 H' → Q (.ref m) H'
theorem ok_L_begun {f : Addr} {fd : FuncData} (F : Fun K "_law_begun" "_law_begun" s_L_begun f fd) : FnOk P w K mg base CX0 1 f fd ["_law_script"] (spBg K p0) := by
  refine F.ok sc_L_begun (by rintro _ _ _ _ ⟨s, cs, rfl, _⟩; rfl) fun cdv A outer s H vs Q E hr hsp => ?_
  obtain ⟨s, cs, rfl, hs, hlen, hT, q⟩ := hsp
  have nd := sc_L_begun.nd
  refine ⟨_, pss_one (ps_ret (pe_disp (pps_cons pe_str (pe_callTy call_list_of (by rfl) T.list (by decide +kernel) (pa_cons (pv 0) pa_nil))
    (pps_cons pe_str (pe_lc (own := [("_law_cell", 1)]) (g := gName 1) (tt := tTest (tOp (rI0 fun i j => V.bl (decide (j ≤ i))) (tVar 1) (tOp (rI CPow fun i j => V.int (i ^ j.toNat)) (tC (.int 10)) (tC (.int 18))))) (te := tVar 1) rfl nd (pi_list (pv 0)) (blkOk_by (N := n_L_begun) (sc := defScope s_L_begun) (by decide +kernel)) (fun _ _ _ _ _ => pg_name (i := 1) nd rfl (Or.inl rfl))
        (fun _ _ _ _ _ => pts_one (pt_cmpR op_ge (pv 1) (pe_op op_pow pe_int pe_int) (nomark _))) (fun _ _ _ _ _ => pv 1))
    (pps_cons pe_str pe_int pps_nil))) (by rfl) (by rfl) (fun z => by cases z) (by decide))), ?_⟩
  intro m hm
  have s1 := Same.upd (o := .dK []) hm
  have hm1 : upd H m (.dK []) m = some (.dK []) := upd_same
  generalize upd H m (.dK []) = H1 at *
  refine ⟨_, rfl, s, _, rfl, .inl (s1.seq hs), fun c hc => ?_⟩
  have s2 := Same.upd (o := .lst (cs.map V.int)) hc
  have hc2 : upd H1 c (.lst (cs.map V.int)) c = some (.lst (cs.map V.int)) := upd_same
  have s12 := s1.trans s2
  have hm2 := s2 _ _ hm1
  generalize upd H1 c (.lst (cs.map V.int)) = H2 at *
  refine ⟨_, rfl, s, rfl, ⟨_, s12.seq hs⟩, fun l hl => ?_⟩
  refine lc_filt cs V.int (fun z => decide ((10 : Int) ^ (18 : Int).toNat ≤ z)) walk_ints hl (by omega) (fun G sm => (s12.trans sm).seq hs) (fun i z x A B hz sm hy Q1 Q0 h1 h0 => ?_) fun G sG hG => ?_
  · obtain ⟨rfl, hx⟩ := hy
    cases intAt hx hz
    refine ⟨rfl, ?_⟩
    refine ⟨_, rfl, 10, 18, rfl, rfl, ⟨by decide, by decide, by decide⟩, _, _, rfl, rfl, _, rfl, ?_⟩
    exact if_b (fun h => ⟨_, rfl, h1 h _ (Same.refl _)⟩) fun h => h0 h _ (Same.refl _)
  · have hmG := sG _ _ hm2
    have hcG := sG _ _ hc2
    refine ⟨hmG, [(.inr "cells", .ref c), (.inr "left", .ref l), (.inr "at", .int ((0 : Nat) : Int))], rfl, by simp, ?_⟩
    rw [merge_gD]
    have nc : c ≠ m := fun z => by
      rw [z, hmG] at hcG
      cases hcG
    have nl : l ≠ m := fun z => by
      rw [z, hmG] at hG
      cases hG
    have sm : Same H (upd G m (.dK (gD c l 0))) := (s12.trans sG).updR hm
    refine q _ m l c sm ⟨⟨0, Nat.le_refl _, upd_same⟩, ⟨_, (upd_ne nl).trans hG⟩, ⟨cs, (upd_ne nc).trans hcG⟩, fun z => ?_, hT.ext sm⟩
    rw [z, hc2] at hl
    cases hl
end
end K10
set_option Elab.async false
set_option linter.all false
set_option maxRecDepth 100000
set_option maxHeartbeats 4000000
/-! the law's own: _law_next -/
namespace K10
open PySem PySem.Spec PyProof.Rows L2 LamX
/-! ### readings that keep what follows -/
def ME (t : TE) : Prop := ∀ (σ : L2.St) (H : Hp) (Q Q' : VK), (∀ v H1, Q v H1 → Q' v H1) → t σ H Q → t σ H Q'
def MT (t : TT) : Prop := ∀ (σ : L2.St) (H : Hp) (Q Q' : Bool → Hp → Prop), (∀ b H1, Q b H1 → Q' b H1) → t σ H Q → t σ H Q'
theorem me_var {i : Nat} : ME (tVar i) := fun σ H Q Q' h ⟨v, e, q⟩ => ⟨v, e, h _ _ q⟩
theorem me_c {v : V} : ME (tC v) := fun σ H Q Q' h q => h _ _ q
theorem me_op {r : R2} {ta tb : TE} (hr : ∀ x y H (Q Q' : VK), (∀ v H1, Q v H1 → Q' v H1) → r x y H Q → r x y H Q') (ha : ME ta) (hb : ME tb) : ME (tOp r ta tb) := fun σ H Q Q' h q =>
  ha σ H _ _ (fun x H1 q1 => hb σ H1 _ _ (fun y H2 q2 => hr x y H2 Q Q' h q2) q1) q
theorem me_dget {td ty : TE} (ha : ME td) (hb : ME ty) : ME (tDGet td ty) := fun σ H Q Q' h q =>
  ha σ H _ _ (fun x H1 q1 => hb σ H1 _ _ (fun y H2 ⟨a, v, e1, e2, q2⟩ => ⟨a, v, e1, e2, h _ _ q2⟩) q1) q
theorem me_nil : ME (tLst tNil) := fun σ H Q Q' h ⟨e, q⟩ => ⟨e, fun p hp => h _ _ (q p hp)⟩
theorem mt_test {t : TE} (ht : ME t) : MT (tTest t) := fun σ H Q Q' h q => ht σ H _ _ (fun x H1 ⟨k, e, q1⟩ => ⟨k, e, h _ _ q1⟩) q
theorem mt_and {t u : TT} (ht : MT t) (hu : MT u) : MT (tAnd t u) := fun σ H Q Q' h q => ht σ H _ _ (fun c H1 q1 => by
  cases c with
  | true => exact iteT (hu σ H1 Q Q' h (by simpa using q1))
  | false => exact iteF (h _ _ (by simpa using q1))) q
theorem mr_neD {K : PySem.W.Frag} : ∀ x y H (Q Q' : VK), (∀ v H1, Q v H1 → Q' v H1) → rNeD K x y H Q → rNeD K x y H Q' := fun x y H Q Q' h ⟨d, e, a, b, c, f, q⟩ => ⟨d, e, a, b, c, f, h _ _ q⟩
theorem mr_ixL {K : PySem.W.Frag} : ∀ x y H (Q Q' : VK), (∀ v H1, Q v H1 → Q' v H1) → rIxL K x y H Q → rIxL K x y H Q' := fun x y H Q Q' h ⟨p, xs, i, v, a, b, c, d, q⟩ => ⟨p, xs, i, v, a, b, c, d, h _ _ q⟩
theorem mr_eq : ∀ x y H (Q Q' : VK), (∀ v H1, Q v H1 → Q' v H1) → rEq x y H Q → rEq x y H Q' := fun x y H Q Q' h ⟨a, q⟩ => ⟨a, h _ _ q⟩
theorem _root_.K10.Gen.grow {p0 m l c : Addr} {n : Nat} {A B : Hp} (g : Gen p0 m l c n A) (e : Same A B) : Gen p0 m l c n B := g.ext (ExtN.of e) (g.tabs.ext e)
/-- how many cells are left -/
def leftLen (m : Addr) (H : Hp) : Nat :=
  match H m with
  | some (.dK kvs) => match valV kvs (.inr "left") with
    | some (.ref l) => match H l with
      | some (.lst xs) => xs.length
      | _ => 0
    | _ => 0
  | _ => 0
theorem leftLen_of {m c l : Addr} {k : Nat} {H : Hp} {xs : List V} (h1 : H m = some (.dK (gD c l k))) (h2 : H l = some (.lst xs)) : leftLen m H = xs.length := by
  unfold leftLen
  rw [h1]
  simp only [gD_left, h2]
theorem cut1 (xs : List V) : cutV xs (some 1) none = xs.drop 1 := by
  unfold cutV
  rw [show (some (1 : Int)) = some ((1 : Nat) : Int) from rfl, HT.sIx_nat, HT.sIx_none]
  cases xs with
  | nil => simp
  | cons x r =>
    have e : min 1 (x :: r).length = 1 := by simp
    rw [e]
    simp
theorem dget_left {m c l : Addr} {k : Nat} {H : Hp} (h : H m = some (.dK (gD c l k))) : DGet H m (.str "left") (some (.ref l)) := .inl ⟨_, .inr "left", .inl h, rfl, gD_left.symm⟩
theorem dget_cells {m c l : Addr} {k : Nat} {H : Hp} (h : H m = some (.dK (gD c l k))) : DGet H m (.str "cells") (some (.ref c)) := .inl ⟨_, .inr "cells", .inl h, rfl, gD_cells.symm⟩
theorem dget_at {m c l : Addr} {k : Nat} {H : Hp} (h : H m = some (.dK (gD c l k))) : DGet H m (.str "at") (some (.int (k : Nat))) := .inl ⟨_, .inr "at", .inl h, rfl, gD_at.symm⟩
theorem dput_left {m c l l' : Addr} {k : Nat} {H : Hp} (h : H m = some (.dK (gD c l k))) : DPut H m (.str "left") (.ref l') (upd H m (.dK (gD c l' k))) :=
  .inl ⟨_, .inr "left", h, rfl, small1000 (by simp [gD]), by rw [put_left]⟩
theorem dput_at {m c l : Addr} {k j : Nat} {H : Hp} (h : H m = some (.dK (gD c l k))) : DPut H m (.str "at") (.int (j : Nat)) (upd H m (.dK (gD c l j))) :=
  .inl ⟨_, .inr "at", h, rfl, small1000 (by simp [gD]), by rw [put_at]⟩
/-- what is new or the dict itself is written -/
theorem frx_new {m l l' : Addr} {H : Hp} {o u : HO} (hl : H l' = none) : Same (frx m l H) (frx m l' (upd (upd H l' o) m u)) := fun b w h => by
  obtain ⟨h1, h2, h3⟩ := frx_ne h
  have h4 : b ≠ l' := ne_of_none h3 hl
  rw [frx_at h1 h4, upd_ne h1, upd_ne h4]
  exact h3
theorem frx_old {m l : Addr} {H : Hp} {u : HO} : Same (frx m l H) (frx m l (upd H m u)) := fun b w h => by
  obtain ⟨h1, h2, h3⟩ := frx_ne h
  rw [frx_at h1 h2, upd_ne h1]
  exact h3
theorem frx_left {m l : Addr} {H : Hp} {u : HO} : Same (frx m l H) (frx m l (upd H l u)) := fun b w h => by
  obtain ⟨h1, h2, h3⟩ := frx_ne h
  rw [frx_at h1 h2, upd_ne h2]
  exact h3
theorem frx_grow {m l : Addr} {A B : Hp} (e : Same A B) : Same (frx m l A) (frx m l B) := fun b o h => by
  obtain ⟨h1, h2, h3⟩ := frx_ne h
  rw [frx_at h1 h2]
  exact e b o h3
section
variable {P : Program} {w : World} {K : PySem.W.Frag} {mg : Str → Option Value} {base : Heap} (T : Nm mg) {p0 : Addr}
include T
def spNx (K : PySem.W.Frag) (p0 : Addr) : Sp := fun vs H Q E => ∃ (m l c : Addr) (n : Nat) (total : Int), vs = [.ref m, .int total] ∧ Gen p0 m l c n H ∧ n < 100000 ∧ 0 < total ∧ total < 2 ^ 30 ∧
  ∀ (H' : Hp) (l' : Addr) (r : Int), Gen p0 m l' c (n + 1) H' → Same (frx m l H) (frx m l' H') → 0 ≤ r → r < total → Q (.int r) H'
theorem ok_L_next {f : Addr} {fd : FuncData} (F : Fun K "_law_next" "_law_next" s_L_next f fd) : FnOk P w K mg base CX0 1 f fd ["_law_m", "_law_total"] (spNx K p0) := by
  refine F.ok sc_L_next (by rintro _ _ _ _ ⟨m, l, c, n, total, rfl, _⟩; rfl) fun cdv A outer s H vs Q E hr hsp => ?_
  obtain ⟨m, l, c, n, total, rfl, g, hn, ht0, ht1, q⟩ := hsp
  have nd := sc_L_next.nd
  have hu := hu_of hr
  refine ⟨_, pss_cons (ps_while PassesOwn.never (PW.pt (pw_and (pt_cmpR (op_neD hr.units) (pe_dget hu (pv 0) pe_str (fun _ _ => rfl)) (pe_lst pa_nil) (nomark _)) (pw_and1 (pt_cmpR op_eq (pe_ix ix_list (pe_dget hu (pv 0) pe_str (fun _ _ => rfl)) pe_int (fun _ _ => rfl)) pe_int (nomark _)))))
      (pss_one (ps_dput hu (pv 0) pe_str (pe_slice sl_list (pe_dget hu (pv 0) pe_str (fun _ _ => rfl)) (po_some pe_int) po_none) rfl)))
    (pss_cons (ps_if (pt_cmpR (op_neD hr.units) (pe_dget hu (pv 0) pe_str (fun _ _ => rfl)) (pe_lst pa_nil) (nomark _))
      (pss_cons (ps_set (i := 2) nd rfl (Or.inl rfl) (pe_callTy call_int1 (by rfl) T.int (by decide +kernel) (pa_cons (pe_ix ix_list (pe_dget hu (pv 0) pe_str (fun _ _ => rfl)) pe_int (fun _ _ => rfl)) pa_nil)))
      (pss_cons (ps_asg (pe_op op_fdivW (pv 2) (pv 1)) (pg_sub (pe_dget hu (pv 0) pe_str (fun _ _ => rfl)) pe_int set_list))
      (pss_one (ps_ret (pe_op op_mod (pv 2) (pv 1)))))) pss_nil)
    (pss_cons (ps_set (i := 3) nd rfl (Or.inl rfl) (pe_op op_add (pe_dget hu (pv 0) pe_str (fun _ _ => rfl)) pe_int))
    (pss_cons (ps_dput hu (pv 0) pe_str (pv 3) rfl)
    (pss_cons (ps_set (i := 4) nd rfl (Or.inl rfl) (pe_ifExp (pt_cmpR (op_neD hr.units) (pe_dget hu (pv 0) pe_str (fun _ _ => rfl)) (pe_lst pa_nil) (nomark _))
        (pe_ix ix_list (pe_dget hu (pv 0) pe_str (fun _ _ => rfl)) (pe_op op_mod (pe_callTy call_int1 (by rfl) T.int (by decide +kernel) (pa_cons (pv 3) pa_nil)) (pe_callB call_len_seq (by rfl) T.len PySem.boot_len (pa_cons (pe_dget hu (pv 0) pe_str (fun _ _ => rfl)) pa_nil))) (fun _ _ => rfl)) pe_int))
    (pss_cons (ps_set (i := 5) nd rfl (Or.inl rfl) (pe_op op_mul (pe_callTy call_int1 (by rfl) T.int (by decide +kernel) (pa_cons (pe_op op_add (pe_op op_add (pe_op op_mod (pe_callTy call_int1 (by rfl) T.int (by decide +kernel) (pa_cons (pv 4) pa_nil)) pe_int) (pe_op op_mul pe_int (pv 3))) (pe_op op_mul (pe_op op_mul pe_int (pv 3)) (pv 3))) pa_nil)) pe_int))
    (pss_cons (ps_set (i := 5) nd rfl (Or.inl rfl) (pe_op op_mul (pe_callTy call_int1 (by rfl) T.int (by decide +kernel) (pa_cons (pe_op op_add (pe_op op_mod (pe_callTy call_int1 (by rfl) T.int (by decide +kernel) (pa_cons (pv 5) pa_nil)) pe_int) (pe_op op_mul pe_int (pv 3))) pa_nil)) pe_int))
    (pss_one (ps_ret (pe_op op_mod (pe_callTy call_int1 (by rfl) T.int (by decide +kernel) (pa_cons (pe_op op_fdiv (pe_op op_mod (pe_callTy call_int1 (by rfl) T.int (by decide +kernel) (pa_cons (pv 5) pa_nil)) pe_int) pe_int) pa_nil)) (pv 1)))))))))), ?_⟩
  show tWhile _ _ _ _ _
  refine while_by (Pv := fun σ G => σ = [some (.ref m), some (.int total), none, none, none, none] ∧ ∃ l', Gen p0 m l' c n G ∧ Same (frx m l H) (frx m l' G)) (μ := fun σ G => leftLen m G) ⟨rfl, l, g, Same.refl _⟩ (fun σ G hp => ?_) (mt_and (mt_test (me_op mr_neD (me_dget me_var me_c) me_nil)) (mt_test (me_op mr_eq (me_op mr_ixL (me_dget me_var me_c) me_c) me_c)))
  obtain ⟨rfl, l', g', sf⟩ := hp
  obtain ⟨⟨k, hk, hd⟩, ⟨ls, hl⟩, ⟨cs, hcs⟩, ne, hT⟩ := id g'
  refine ⟨_, rfl, m, _, rfl, dget_left hd, ?_⟩
  refine ⟨Nat.zero_le _, fun p hp => ?_⟩
  have sp := Same.upd (o := .lst []) hp
  have hp1 : upd G p (.lst []) p = some (.lst []) := upd_same
  have g1 := g'.grow sp
  have sf1 := sf.trans (frx_grow (m := m) (l := l') sp)
  have hd1 := sp _ _ hd
  have hl1 := sp _ _ hl
  have hc1 := sp _ _ hcs
  have hT1 := hT.ext sp
  have eLen : leftLen m G = ls.length := by rw [leftLen_of hd hl, List.length_map]
  generalize upd G p (.lst []) = G1 at *
  refine ⟨_, _, lD_dp (.of hl1), lst_nil_dp hp1, sh_ints _, sh_ints _, _, rfl, ?_⟩
  rw [eqv_ints]
  -- behind the loop
  refine if_b (fun h1 => ?_) fun h1 => ?_
  · -- something is left: its first is looked at
    have hne : ls ≠ [] := by simpa using h1
    have hpos : 0 < ls.length := List.length_pos_iff.mpr hne
    refine ⟨_, rfl, m, _, rfl, dget_left hd1, l', _, ((0 : Nat) : Int), _, rfl, rfl, .of hl1, atI_nat (mapInt_at hpos), rfl, _, rfl, ?_⟩
    rw [int_ne_dec]
    refine if_b (fun h2 => ?_) fun h2 => ?_
    · refine ⟨_, rfl, m, _, rfl, dget_left hd1, _, rfl, l', _, rfl, .of hl1, fun l2 hl2 => ?_⟩
      have s2 := Same.upd (o := .lst (cutV (ls.map V.int) (some 1) none)) hl2
      refine ⟨_, rfl, m, _, rfl, dput_left (s2 _ _ hd1), ⟨rfl, l2, ?_, sf1.trans (frx_new hl2)⟩, ?_⟩
      · have nm : l2 ≠ m := Ne.symm (ne_of_none hd1 hl2)
        have nc : l2 ≠ c := Ne.symm (ne_of_none hc1 hl2)
        have cm : c ≠ m := Ne.symm g1.ml.2
        refine ⟨⟨k, hk, upd_same⟩, ⟨ls.drop 1, ?_⟩, ⟨cs, ?_⟩, nc, (hT1.ext s2).mut (s2 _ _ hd1) fun q z => by cases z⟩
        · rw [upd_ne nm, upd_same, cut1, List.map_drop]
        · rw [upd_ne cm]
          exact s2 _ _ hc1
      · have nm : l2 ≠ m := Ne.symm (ne_of_none hd1 hl2)
        have e : leftLen m (upd (upd G1 l2 (.lst (cutV (ls.map V.int) (some 1) none))) m (.dK (gD c l2 k))) = ls.length - 1 := by
          rw [leftLen_of (c := c) (l := l2) (k := k) upd_same ((upd_ne nm).trans upd_same), cut1, List.length_drop, List.length_map]
        show leftLen m (upd (upd G1 l2 (.lst (cutV (ls.map V.int) (some 1) none))) m (.dK (gD c l2 k))) < leftLen m G
        rw [e, eLen]
        omega
    · -- the first is drawn from
      refine ⟨_, rfl, m, _, rfl, dget_left hd1, Nat.zero_le _, fun p2 hp2 => ?_⟩
      have s2 := Same.upd (o := .lst []) hp2
      have hp3 : upd G1 p2 (.lst []) p2 = some (.lst []) := upd_same
      have hd2 := s2 _ _ hd1
      have hl2 := s2 _ _ hl1
      have hc2 := s2 _ _ hc1
      have hT2 := hT1.ext s2
      have sf2 := sf1.trans (frx_grow (m := m) (l := l') s2)
      have g2 := g1.grow s2
      generalize upd G1 p2 (.lst []) = G2 at *
      refine ⟨_, _, lD_dp (.of hl2), lst_nil_dp hp3, sh_ints _, sh_ints _, _, rfl, ?_⟩
      rw [eqv_ints]
      refine if_b (fun _ => ?_) fun h3 => absurd (show ls = [] by simpa using h3) hne
      refine ⟨_, rfl, m, _, rfl, dget_left hd2, l', _, ((0 : Nat) : Int), _, rfl, rfl, .of hl2, atI_nat (mapInt_at hpos), .inl ⟨_, rfl, ?_⟩⟩
      generalize ls.getD 0 0 = r0
      refine ⟨_, rfl, _, rfl, r0, total, rfl, rfl, wide_div (b := 30) ht0 (by omega) (by decide) (by decide), ?_⟩
      refine ⟨_, rfl, m, _, rfl, dget_left hd2, l', _, ((0 : Nat) : Int), 0, rfl, rfl, hl2, ixN_nat (by decide) (by rw [List.length_map]; omega), ?_⟩
      refine ⟨_, rfl, _, rfl, r0, total, rfl, rfl, ht0, ?_⟩
      refine q _ l' _ ⟨⟨k, by omega, (upd_ne g2.ml.1).trans hd2⟩, ⟨ls.set 0 (r0 / total), by rw [upd_same, List.map_set]⟩, ⟨cs, (upd_ne (Ne.symm g2.ne)).trans hc2⟩, g2.ne, hT2.mut hl2 fun q z => by cases z⟩ (sf2.trans frx_left) (Int.emod_nonneg _ (by omega)) (Int.emod_lt_of_pos _ ht0)
  · -- nothing is left
    have hnil : ls = [] := by simpa using h1
    refine ⟨_, rfl, m, _, rfl, dget_left hd1, Nat.zero_le _, fun p2 hp2 => ?_⟩
    have s2 := Same.upd (o := .lst []) hp2
    have hp3 : upd G1 p2 (.lst []) p2 = some (.lst []) := upd_same
    have hd2 := s2 _ _ hd1
    have hl2 := s2 _ _ hl1
    have hc2 := s2 _ _ hc1
    have hT2 := hT1.ext s2
    have sf2 := sf1.trans (frx_grow (m := m) (l := l') s2)
    have g2 := g1.grow s2
    generalize upd G1 p2 (.lst []) = G2 at *
    refine ⟨_, _, lD_dp (.of hl2), lst_nil_dp hp3, sh_ints _, sh_ints _, _, rfl, ?_⟩
    rw [eqv_ints]
    refine if_b (fun h3 => absurd hnil (by simpa using h3)) fun _ => ?_
    refine ⟨_, rfl, m, _, rfl, dget_at hd2, _, _, rfl, rfl, ?_⟩
    have ek : (fun (i j : Int) => V.int (i + j)) (k : Int) 1 = V.int ((k + 1 : Nat) : Int) := by
      show V.int ((k : Int) + 1) = _
      congr 1
    rw [ek]
    refine ⟨_, rfl, _, rfl, m, _, rfl, dput_at hd2, ?_⟩
    have hd3 : upd G2 m (.dK (gD c l' (k + 1))) m = some (.dK (gD c l' (k + 1))) := upd_same
    have hl3 : upd G2 m (.dK (gD c l' (k + 1))) l' = some (.lst (ls.map V.int)) := (upd_ne (Ne.symm g2.ml.1)).trans hl2
    have hc3 : upd G2 m (.dK (gD c l' (k + 1))) c = some (.lst (cs.map V.int)) := (upd_ne (Ne.symm g2.ml.2)).trans hc2
    have hT3 : Tabs (tabT p0) (upd G2 m (.dK (gD c l' (k + 1)))) := hT2.mut hd2 fun q z => by cases z
    have sf3 := sf2.trans (frx_old (m := m) (l := l') (H := G2) (u := .dK (gD c l' (k + 1))))
    have g3 : Gen p0 m l' c (n + 1) (upd G2 m (.dK (gD c l' (k + 1)))) := ⟨⟨k + 1, by omega, hd3⟩, ⟨ls, hl3⟩, ⟨cs, hc3⟩, g2.ne, hT3⟩
    generalize upd G2 m (.dK (gD c l' (k + 1))) = G3 at *
    refine ⟨_, rfl, m, _, rfl, dget_cells hd3, Nat.zero_le _, fun p3 hp4 => ?_⟩
    have s4 := Same.upd (o := .lst []) hp4
    have hp5 : upd G3 p3 (.lst []) p3 = some (.lst []) := upd_same
    have hd4 := s4 _ _ hd3
    have hc4 := s4 _ _ hc3
    have sf4 := sf3.trans (frx_grow (m := m) (l := l') s4)
    have g4 := g3.grow s4
    generalize upd G3 p3 (.lst []) = G4 at *
    refine ⟨_, _, lD_dp (.of hc4), lst_nil_dp hp5, sh_ints _, sh_ints _, _, rfl, ?_⟩
    rw [eqv_ints]
    have fin : ∀ cell : Int, tSeq (tAsg (tOp (rI CMul fun i j => V.int (i * j)) (tCB (fun xs H Q => (∃ i, xs = [V.int i] ∧ Q (V.int i) H) ∨ ∃ k, xs = [V.bl k] ∧ Q (V.int (if k = true then 1 else 0)) H) (tCons (tOp (rI0 fun i j => V.int (i + j)) (tOp (rI0 fun i j => V.int (i + j)) (tOp (rI (fun x j => 0 < j) fun i j => V.int (i % j)) (tCB (fun xs H Q => (∃ i, xs = [V.int i] ∧ Q (V.int i) H) ∨ ∃ k, xs = [V.bl k] ∧ Q (V.int (if k = true then 1 else 0)) H) (tCons (tVar 4) tNil)) (tC (V.int 2147483629))) (tOp (rI CMul fun i j => V.int (i * j)) (tC (V.int 7919)) (tVar 3))) (tOp (rI CMul fun i j => V.int (i * j)) (tOp (rI CMul fun i j => V.int (i * j)) (tC (V.int 19)) (tVar 3)) (tVar 3))) tNil)) (tC (V.int 48271))) (gName 5))
        (tSeq (tAsg (tOp (rI CMul fun i j => V.int (i * j)) (tCB (fun xs H Q => (∃ i, xs = [V.int i] ∧ Q (V.int i) H) ∨ ∃ k, xs = [V.bl k] ∧ Q (V.int (if k = true then 1 else 0)) H) (tCons (tOp (rI0 fun i j => V.int (i + j)) (tOp (rI (fun x j => 0 < j) fun i j => V.int (i % j)) (tCB (fun xs H Q => (∃ i, xs = [V.int i] ∧ Q (V.int i) H) ∨ ∃ k, xs = [V.bl k] ∧ Q (V.int (if k = true then 1 else 0)) H) (tCons (tVar 5) tNil)) (tC (V.int 2147483647))) (tOp (rI CMul fun i j => V.int (i * j)) (tC (V.int 104729)) (tVar 3))) tNil)) (tC (V.int 69621))) (gName 5))
        (tRet (tOp (rI (fun x j => 0 < j) fun i j => V.int (i % j)) (tCB (fun xs H Q => (∃ i, xs = [V.int i] ∧ Q (V.int i) H) ∨ ∃ k, xs = [V.bl k] ∧ Q (V.int (if k = true then 1 else 0)) H) (tCons (tOp (rI CDiv fun i j => V.int (i / j)) (tOp (rI (fun x j => 0 < j) fun i j => V.int (i % j)) (tCB (fun xs H Q => (∃ i, xs = [V.int i] ∧ Q (V.int i) H) ∨ ∃ k, xs = [V.bl k] ∧ Q (V.int (if k = true then 1 else 0)) H) (tCons (tVar 5) tNil)) (tC (V.int 2147483587))) (tC (V.int 11))) tNil)) (tVar 1))))
        { nx := fun x H' => Q V.non H', rt := Q } [some (.ref m), some (.int total), none, some (.int ((k + 1 : Nat) : Int)), some (.int cell), none] G4 := fun cell => by
      refine ⟨_, rfl, .inl ⟨_, rfl, _, _, rfl, rfl, (by decide : (0 : Int) < 2147483629), ?_⟩⟩
      refine ⟨_, rfl, _, _, rfl, rfl, .inl ⟨by decide, by decide⟩, _, _, rfl, rfl, ?_⟩
      refine ⟨_, rfl, _, _, rfl, rfl, .inl ⟨by decide, by decide⟩, _, rfl, _, _, rfl, rfl, .inr ⟨by omega, by omega⟩, _, _, rfl, rfl, .inl ⟨_, rfl, _, _, rfl, rfl, .inr ⟨by decide, by decide⟩, ?_⟩⟩
      refine ⟨_, rfl, .inl ⟨_, rfl, _, _, rfl, rfl, (by decide : (0 : Int) < 2147483647), _, rfl, _, _, rfl, rfl, .inl ⟨by decide, by decide⟩, _, _, rfl, rfl, .inl ⟨_, rfl, _, _, rfl, rfl, .inr ⟨by decide, by decide⟩, ?_⟩⟩⟩
      refine ⟨_, rfl, .inl ⟨_, rfl, _, _, rfl, rfl, (by decide : (0 : Int) < 2147483587), _, _, rfl, rfl, ⟨by decide, by decide⟩, .inl ⟨_, rfl, _, rfl, _, _, rfl, rfl, ht0, ?_⟩⟩⟩
      exact q _ l' _ g4 sf4 (Int.emod_nonneg _ (by omega)) (Int.emod_lt_of_pos _ ht0)
    refine if_b (fun h5 => ?_) fun h5 => ?_
    · have hne : cs ≠ [] := by simpa using h5
      have hpos : 0 < cs.length := List.length_pos_iff.mpr hne
      refine ⟨_, rfl, m, _, rfl, dget_cells hd4, _, rfl, .inl ⟨_, rfl, _, rfl, m, _, rfl, dget_cells hd4, c, _, rfl, .inl (.of hc4), _, _, rfl, rfl, by rw [List.length_map]; omega, ?_⟩⟩
      have e0 : 0 ≤ ((k + 1 : Nat) : Int) % ((cs.map V.int).length : Nat) := Int.emod_nonneg _ (by rw [List.length_map]; omega)
      have e1 : ((k + 1 : Nat) : Int) % ((cs.map V.int).length : Nat) < (cs.map V.int).length := Int.emod_lt_of_pos _ (by rw [List.length_map]; omega)
      obtain ⟨j, hj⟩ : ∃ j : Nat, ((k + 1 : Nat) : Int) % ((cs.map V.int).length : Nat) = (j : Int) := ⟨(((k + 1 : Nat) : Int) % ((cs.map V.int).length : Nat)).toNat, by omega⟩
      rw [hj, List.length_map] at e1
      refine ⟨c, _, (j : Int), _, rfl, ?_, .of hc4, atI_nat (mapInt_at (by omega)), fin _⟩
      show V.int (((k + 1 : Nat) : Int) % ((cs.map V.int).length : Nat)) = _
      rw [hj]
    · exact fin 3
end
end K10
set_option Elab.async false
set_option linter.all false
set_option maxRecDepth 100000
set_option maxHeartbeats 4000000
/-! the law's own: _law_tree -/
namespace K10
open PySem PySem.Spec PyProof.Rows L2 LamX
theorem Gen.put {p0 m l c L : Addr} {n : Nat} {G : Hp} {o u : HO} (g : Gen p0 m l c n G) (h : G L = some o) (n1 : L ≠ m) (n2 : L ≠ l) (n3 : L ≠ c) (nt : ∀ q, o ≠ .tbl q) (nc : ∀ q, o ≠ CodeO L q := by intro q z; unfold CodeO at z; cases z) : Gen p0 m l c n (upd G L u) := by
  obtain ⟨⟨k, hk, hd⟩, ⟨ls, hl⟩, ⟨cs, hc⟩, ne, t⟩ := g
  exact ⟨⟨k, hk, (upd_ne (Ne.symm n1)).trans hd⟩, ⟨ls, (upd_ne (Ne.symm n2)).trans hl⟩, ⟨cs, (upd_ne (Ne.symm n3)).trans hc⟩, ne, t.mut h nt nc⟩
theorem Gen.fresh {p0 m l c p : Addr} {n : Nat} {G : Hp} (g : Gen p0 m l c n G) (h : G p = none) : p ≠ m ∧ p ≠ l ∧ p ≠ c := by
  obtain ⟨⟨k, hk, hd⟩, ⟨ls, hl⟩, ⟨cs, hc⟩, ne, t⟩ := g
  exact ⟨Ne.symm (ne_of_none hd h), Ne.symm (ne_of_none hl h), Ne.symm (ne_of_none hc h)⟩
theorem Gen.cell {p0 m l c : Addr} {n : Nat} {G : Hp} (g : Gen p0 m l c n G) : ∃ cs : List Int, frx m l G c = some (.lst (cs.map V.int)) := by
  obtain ⟨cs, hc⟩ := g.cells
  exact ⟨cs, by rw [frx_at (Ne.symm g.ml.2) (Ne.symm g.ne)]; exact hc⟩
theorem frx_none {m l b : Addr} {H : Hp} (h : H b = none) : frx m l H b = none := by
  unfold frx
  split
  · rfl
  · exact h
section
variable {P : Program} {w : World} {K : PySem.W.Frag} {mg : Str → Option Value} {base : Heap} (T : Nm mg) {p0 : Addr}
include T
def spTr (K : PySem.W.Frag) (p0 : Addr) : Sp := fun vs H Q E => ∃ (m l c : Addr) (n : Nat), vs = [.ref m, .int 12] ∧ Gen p0 m l c n H ∧ n < 90000 ∧
  ∀ (H' : Hp) (l' q : Addr) (t : List Int), Gen p0 m l' c (n + 13) H' → Same (frx m l H) (frx m l' H') → Good t → t.length ≤ 12 → frx m l' H' q = some (.tup (t.map V.int)) → Q (.ref q) H'
theorem ok_L_tree (kn : Kn P w K mg base CX0 1 "_law_next" s_L_next ["_law_m", "_law_total"] (spNx K p0))
    {f : Addr} {fd : FuncData} (F : Fun K "_law_tree" "_law_tree" s_L_tree f fd) : FnOk P w K mg base CX0 2 f fd ["_law_m", "_law_top"] (spTr K p0) := by
  obtain ⟨fn, fdn, Fn, mn, Gn⟩ := kn
  refine F.ok sc_L_tree (by rintro _ _ _ _ ⟨m, l, c, n, rfl, _⟩; rfl) fun cdv A outer s H vs Q E hr hsp => ?_
  obtain ⟨m, l, c, n, rfl, g, hn, q⟩ := hsp
  have nd := sc_L_tree.nd
  have bn : Binds K fdn ["_law_m", "_law_total"] [] := Fn.binds (fun _ _ _ _ _ _ us hl => match us, hl with | [_, _], _ => rfl)
  refine ⟨_, pss_cons (ps_set (i := 2) nd rfl (Or.inl rfl) (pe_lst (pa_cons (pe_un un_neg pe_int) pa_nil)))
    (pss_cons (ps_for PassesOwn.never rfl (pi_range1 (by rfl) T.range (pa_cons (pe_call Gn hr (by rfl) mn Fn.kp bn .nil pass0 (pa_cons (pv 0) (pa_cons (pv 1) pa_nil))) pa_nil)) (pg_name (i := 3) nd rfl (Or.inl rfl))
      (pss_one (ps_expr (pe_bm PySem.F.plainAttrs_list PySem.F.slot_list_append PySem.F.type_list_append mt_append (pv 2) (pa_cons (pe_call Gn hr (by rfl) mn Fn.kp bn .nil pass0 (pa_cons (pv 0) (pa_cons (pe_callB call_len_seq (by rfl) T.len PySem.boot_len (pa_cons (pv 2) pa_nil)) pa_nil))) pa_nil)))))
    (pss_one (ps_ret (pe_callTy call_tuple_of (by rfl) T.tup (by decide +kernel) (pa_cons (pv 2) pa_nil))))), ?_⟩
  refine ⟨_, rfl, Nat.le_of_lt (small1000 (by simp)), fun L hL => ?_⟩
  have s0 := Same.upd (o := .lst [V.int (-1)]) hL
  have hL0 : upd H L (.lst [V.int (-1)]) L = some (.lst (([-1] : List Int).map V.int)) := upd_same
  obtain ⟨nL1, nL2, nL3⟩ := g.fresh hL
  have g0 := g.grow s0
  have sf0 := frx_grow (m := m) (l := l) s0
  have hF0 : frx m l (upd H L (.lst [V.int (-1)])) L = some (.lst (([-1] : List Int).map V.int)) := (frx_at nL1 nL2).trans hL0
  have FL : frx m l H L = none := frx_none hL
  generalize upd H L (.lst [V.int (-1)]) = G0 at *
  refine ⟨_, rfl, _, rfl, m, l, c, n, 12, rfl, g0, by omega, by decide, by decide, fun G1 l1 r g1 sf1 hr0 hr1 => ?_⟩
  refine ⟨_, rfl, by omega, by omega, ?_⟩
  refine for_it (walk_range (lo := 0) (n := r.toNat)) (Pv := fun i σ G => ∃ (o3 : Option V) (l' : Addr) (t : List Int), σ = [some (.ref m), some (.int 12), some (.ref L), o3] ∧ Gen p0 m l' c (n + 1 + i) G ∧ Same (frx m l H) (frx m l' G) ∧ frx m l' G L = some (.lst (t.map V.int)) ∧ t.length = 1 + i ∧ t.getD 0 0 = -1 ∧ ∀ k : Nat, 0 < k → k < t.length → 0 ≤ t.getD k 0 ∧ t.getD k 0 < (k : Int))
    ⟨none, l1, [-1], rfl, g1, sf0.trans sf1, sf1 _ _ hF0, rfl, rfl, fun k h1 h2 => by simp at h2; omega⟩ (fun _ _ _ _ _ => trivial) (fun i x σ G G' hi hp hy => ?_) fun σ G hp => ?_
  · obtain ⟨o3, l', t, rfl, gG, sG, hLG, hlen, hz, hlow⟩ := hp
    obtain ⟨rfl, rfl⟩ := hy
    obtain ⟨n1, n2, hL2⟩ := frx_ne hLG
    refine ⟨_, rfl, .inl ⟨rfl, _, .of hL2⟩, _, rfl, _, rfl, L, _, rfl, .inl (.of hL2), m, l', c, n + 1 + i, ((t.map V.int).length : Nat), rfl, gG, by omega, by rw [List.length_map]; omega, by rw [List.length_map]; omega, fun G2 l2 z g2 sf2 hz0 hz1 => ?_⟩
    rw [List.length_map] at hz1
    obtain ⟨n3, n4, hL3⟩ := frx_ne (sf2 _ _ hLG)
    obtain ⟨cs, hcs⟩ := g.cells
    have Lc : L ≠ c := nL3
    refine ⟨L, _, .int z, rfl, rfl, hL3, by rw [List.length_map]; exact small1000 (by omega), ?_⟩
    refine ⟨_, l2, t ++ [z], rfl, (g2.put hL3 n3 n4 Lc fun q z => by cases z), fun b o hb => ?_, ?_, by rw [List.length_append, hlen]; simp; omega, ?_, fun k h1 h2 => ?_⟩
    · have hb2 := sf2 _ _ (sG _ _ hb)
      have nb : b ≠ L := ne_of_none hb FL
      obtain ⟨k1, k2, k3⟩ := frx_ne hb2
      rw [frx_at k1 k2, upd_ne nb]
      exact k3
    · rw [frx_at n3 n4, upd_same, List.map_append]
      rfl
    · rw [List.getD_eq_getElem?_getD, List.getElem?_append_left (by omega), ← List.getD_eq_getElem?_getD]
      exact hz
    · rw [List.length_append] at h2
      simp at h2
      by_cases hk : k < t.length
      · rw [List.getD_eq_getElem?_getD, List.getElem?_append_left hk, ← List.getD_eq_getElem?_getD]
        exact hlow k h1 hk
      · have ek : k = t.length := by omega
        rw [List.getD_eq_getElem?_getD, ek, List.getElem?_append_right (Nat.le_refl _), Nat.sub_self]
        exact ⟨hz0, hz1⟩
  · obtain ⟨o3, l', t, rfl, gG, sG, hLG, hlen, hz, hlow⟩ := hp
    obtain ⟨n1, n2, hL2⟩ := frx_ne hLG
    refine ⟨_, rfl, L, _, rfl, .inl ⟨.of hL2, fun p hp => ?_⟩⟩
    have sp := Same.upd (o := .tup (t.map V.int)) hp
    obtain ⟨q1, q2, q3⟩ := gG.fresh hp
    have gp := gG.grow sp
    exact q _ l' p t (gp.le (by omega)) (sG.trans (frx_grow sp)) ⟨by omega, by omega, hz, hlow⟩ (by omega) ((frx_at q1 q2).trans upd_same)
end
end K10
set_option Elab.async false
set_option linter.all false
set_option maxRecDepth 100000
set_option maxHeartbeats 4000000
/-! the law's own: _law_bent -/
namespace K10
open PySem PySem.Spec PyProof.Rows L2 LamX
/-- .. and a list that is being made -/
def fry (Dx m l : Addr) (H : Hp) : Hp := fun b => if b = Dx then none else frx m l H b
theorem fry_sub {Dx m l : Addr} {H : Hp} : Same (fry Dx m l H) H := fun b o h => by
  unfold fry at h
  split at h
  · cases h
  · exact frx_sub b o h
theorem fry_at {Dx m l b : Addr} {H : Hp} (h1 : b ≠ m) (h2 : b ≠ l ∧ b ≠ Dx) : fry Dx m l H b = H b := by
  unfold fry
  rw [if_neg h2.2]
  exact frx_at h1 h2.1
theorem fry_from {Dx m l l' : Addr} {A B : Hp} (e : Same (frx m l A) (frx m l' B)) : Same (fry Dx m l A) (fry Dx m l' B) := fun b o h => by
  unfold fry at h ⊢
  split at h
  · cases h
  · rename_i n
    rw [if_neg n]
    exact e b o h
theorem fry_grow {Dx m l : Addr} {A B : Hp} (e : Same A B) : Same (fry Dx m l A) (fry Dx m l B) := fry_from (frx_grow e)
/-- the generator, and a list that is being made -/
structure GenD (p0 m l c : Addr) (n : Nat) (Dx : Addr) (H : Hp) : Prop where
  gen : Gen p0 m l c n H
  there : ∃ o, frx m l H Dx = some o
theorem GenD.grow {p0 m l c Dx : Addr} {n : Nat} {A B : Hp} (g : GenD p0 m l c n Dx A) (e : Same A B) : GenD p0 m l c n Dx B :=
  ⟨g.gen.grow e, let ⟨o, h⟩ := g.there; ⟨o, frx_grow e _ _ h⟩⟩
theorem GenD.step {p0 m l l' c Dx : Addr} {n n' : Nat} {A B : Hp} (g : GenD p0 m l c n Dx A) (g' : Gen p0 m l' c n' B) (e : Same (frx m l A) (frx m l' B)) : GenD p0 m l' c n' Dx B :=
  ⟨g', let ⟨o, h⟩ := g.there; ⟨o, e _ _ h⟩⟩
theorem GenD.fr {p0 m l c Dx : Addr} {n : Nat} {G : Hp} (g : GenD p0 m l c n Dx G) : ∀ p, G p = none → p ≠ m ∧ p ≠ l ∧ p ≠ Dx := fun p hp =>
  ⟨(g.gen.fresh hp).1, (g.gen.fresh hp).2.1, fun z => by
    obtain ⟨o, h⟩ := g.there
    have y := frx_sub _ _ h
    rw [← z, hp] at y
    cases y⟩
section
variable {K : PySem.W.Frag} {m l Dx : Addr} {G : Hp} {Q : VK}
theorem new_tup {p : Addr} {xs : List V} {ds : List PyData} (hp : G p = none) (n1 : p ≠ m) (n2 : p ≠ l ∧ p ≠ Dx) (h : DpAll K (fry Dx m l G) xs ds) : Dp K (fry Dx m l (upd G p (.tup xs))) (.ref p) (.tuple ds) :=
  .tup (.of ((fry_at n1 n2).trans upd_same)) (h.same (fry_grow (Same.upd hp)))
theorem new_lst {p : Addr} {xs : List V} {ds : List PyData} (hp : G p = none) (n1 : p ≠ m) (n2 : p ≠ l ∧ p ≠ Dx) (h : DpAll K (fry Dx m l G) xs ds) : Dp K (fry Dx m l (upd G p (.lst xs))) (.ref p) (.list ds) :=
  .lst (.of ((fry_at n1 n2).trans upd_same)) (h.same (fry_grow (Same.upd hp)))
def cutD (ds : List PyData) (lo hi : Option Int) : List PyData := (ds.drop (HT.sIx ds.length 0 lo)).take (HT.sIx ds.length ds.length hi - HT.sIx ds.length 0 lo)
theorem cutD_len (ds : List PyData) (lo hi : Option Int) : (cutD ds lo hi).length ≤ ds.length := by
  unfold cutD
  rw [List.length_take, List.length_drop]
  omega
theorem cutD_mem {ds : List PyData} {lo hi : Option Int} {e : PyData} (h : e ∈ cutD ds lo hi) : e ∈ ds := List.mem_of_mem_drop (List.mem_of_mem_take h)
theorem cut_dp {xs : List V} {ds : List PyData} (lo hi : Option Int) (h : DpAll K G xs ds) : DpAll K G (cutV xs lo hi) (cutD ds lo hi) := by
  unfold cutV cutD
  rw [h.len]
  exact (h.drop _).take _
theorem rd_slice {x : V} {ds : List PyData} {lo hi : Option Int} (h : Dp K (fry Dx m l G) x (.tuple ds)) (fr : ∀ p, G p = none → p ≠ m ∧ p ≠ l ∧ p ≠ Dx)
    (q : ∀ x' G' es, Same G G' → Dp K (fry Dx m l G') x' (.tuple es) → es.length ≤ ds.length → (∀ e ∈ es, e ∈ ds) → Q x' G') : rSlA K x lo hi G Q := by
  obtain ⟨a, xs, rfl, h1, h2⟩ := dp_tup h
  refine ⟨a, xs, rfl, fry_sub.tup h1, fun _ => q _ _ ds (Same.refl G) h (Nat.le_refl _) fun e he => he, fun _ p hp => ?_⟩
  obtain ⟨n1, n2⟩ := fr p hp
  exact q _ _ (cutD ds lo hi) (Same.upd hp) (new_tup hp n1 n2 (cut_dp lo hi h2)) (cutD_len _ _ _) fun e he => cutD_mem he
theorem rd_cat {x y : V} {ds es : List PyData} (h1 : Dp K (fry Dx m l G) x (.tuple ds)) (h2 : Dp K (fry Dx m l G) y (.tuple es)) (hl : ds.length + es.length ≤ 1000) (fr : ∀ p, G p = none → p ≠ m ∧ p ≠ l ∧ p ≠ Dx)
    (q : ∀ x' G' fs, Same G G' → Dp K (fry Dx m l G') x' (.tuple fs) → fs.length ≤ ds.length + es.length → (∀ f ∈ fs, f ∈ ds ∨ f ∈ es) → Q x' G') : rCatA K x y G Q := by
  obtain ⟨a, xs, rfl, a1, a2⟩ := dp_tup h1
  obtain ⟨b, ys, rfl, b1, b2⟩ := dp_tup h2
  have l1 := a2.len
  have l2 := b2.len
  refine ⟨a, b, xs, ys, rfl, rfl, fry_sub.tup a1, fry_sub.tup b1, Nat.le_of_lt (small1000 (by omega)), fun _ => q _ _ es (Same.refl G) h2 (by omega) fun f hf => .inr hf, fun _ _ => q _ _ ds (Same.refl G) h1 (by omega) fun f hf => .inl hf, fun _ _ p hp => ?_⟩
  obtain ⟨n1, n2⟩ := fr p hp
  exact q _ _ (ds ++ es) (Same.upd hp) (new_tup hp n1 n2 (a2.append b2)) (by rw [List.length_append]; exact Nat.le_refl _) fun f hf => List.mem_append.mp hf
/-- one of a written list -/
theorem rd_pick {xs : List V} {ds : List PyData} {F : Hp} {r : Int} (h : DpAll K F xs ds) (h0 : 0 ≤ r) (h1 : r < ds.length) : ∃ x d, atI xs r = some x ∧ Dp K F x d ∧ d ∈ ds := by
  obtain ⟨x, h2, h3⟩ := h.get (i := r.toNat) (by omega)
  refine ⟨x, _, ?_, h3, mem_getD (i := r.toNat) (by omega) rfl⟩
  have e : r = ((r.toNat : Nat) : Int) := by omega
  rw [e]
  exact atI_nat h2
end
theorem noPart_of {σ : L2.St} {H : Hp} {Q : Option Int → Hp → Prop} (h : Q none H) : tNoPart σ H Q := h
/-- a row that may stand in an order -/
def RowP (d : PyData) : Prop := ∀ es, d = .tuple es → es.length ≤ 1000 ∧ es.all flatD = true
theorem flat_row {es : List PyData} (h : ∀ e ∈ es, flatD e = true) (hl : es.length ≤ 1000) : RowP (.tuple es) := fun es' e => by
  have z : es = es' := by injection e
  subst z
  exact ⟨hl, List.all_eq_true.mpr h⟩
theorem ss_of {o p : PyData} (h : RS o) : SS (.tuple [o, p]) := fun o' p' e => by
  have z : [o, p] = [o', p'] := by injection e
  have z1 : o = o' := by injection z
  subst z1
  exact h
theorem rd_row {K : PySem.W.Frag} {F : Hp} {o : Addr} {R : List (List Int)} {j : Nat} {r : List Int} (h : Dp K F (.ref o) (oD R)) (hr : R[j]? = some r) : ∃ os b, SqT K F o os ∧ atI os (j : Int) = some (.ref b) ∧ Dp K F (.ref b) (rD r) ∧ SqT K F b (r.map V.int) := by
  obtain ⟨o', os, e, h1, h2⟩ := dp_tup h
  cases e
  have hl := h2.len
  rw [List.length_map] at hl
  obtain ⟨x, hx⟩ := getElem?_of (show j < os.length by have := lt_of_at hr; omega)
  obtain ⟨b, r', rfl, hr', hb⟩ := row_at h2 hx
  rw [hr] at hr'
  cases hr'
  exact ⟨os, b, h1, atI_nat hx, tD_dp hb, hb⟩
theorem rs_of {os : List PyData} (h : ∀ e ∈ os, RowP e) : RS (.tuple os) := fun ds e es he => by
  have z : os = ds := by injection e
  subst z
  exact h _ he es rfl
theorem ints_flat (r : List Int) : (r.map PyData.int).all flatD = true := by
  rw [List.all_eq_true]
  intro x hx
  obtain ⟨i, _, rfl⟩ := List.mem_map.mp hx
  rfl
theorem rowP_int {r : List Int} (h : r.length ≤ 1000) : RowP (rD r) := fun es e => by
  have z : r.map PyData.int = es := by injection e
  subst z
  exact ⟨by rw [List.length_map]; exact h, ints_flat r⟩
section
variable {P : Program} {w : World} {K : PySem.W.Frag} {mg : Str → Option Value} {base : Heap} (T : Nm mg) {p0 : Addr}
include T
def spBt (K : PySem.W.Frag) (p0 : Addr) : Sp := fun vs H Q E => ∃ (m l c Dx : Addr) (n : Nat) (v : V) (R : List (List Int)) (ps : List Int), vs = [.ref m, v] ∧ GenD p0 m l c n Dx H ∧ n < 90000 ∧ Dp K (fry Dx m l H) v (.tuple [oD R, rD ps]) ∧
  R.length = ps.length ∧ 1 ≤ R.length ∧ R.length ≤ 40 ∧ (∀ r ∈ R, r.length ≤ 40) ∧
  ∀ (H' : Hp) (l' : Addr) (u : V) (d : PyData), Gen p0 m l' c (n + 6) H' → Same (frx m l H) (frx m l' H') → Dp K (fry Dx m l' H') u d → SS d → Q u H'
theorem ok_L_bent (kn : Kn P w K mg base CX0 1 "_law_next" s_L_next ["_law_m", "_law_total"] (spNx K p0))
    {f : Addr} {fd : FuncData} (F : Fun K "_law_bent" "_law_bent" s_L_bent f fd) : FnOk P w K mg base CX0 2 f fd ["_law_m", "_law_sheet"] (spBt K p0) := by
  obtain ⟨fn, fdn, Fn, mn, Gn⟩ := kn
  refine F.ok sc_L_bent (by rintro _ _ _ _ ⟨m, l, c, Dx, n, v, R, ps, rfl, _⟩; rfl) fun cdv A outer s H vs Q E hr hsp => ?_
  obtain ⟨m, l, c, Dx, n, v, R, ps, rfl, g, hn, hd, hRp, hR1, hR2, hrow, q⟩ := hsp
  have nd := sc_L_bent.nd
  have bn : Binds K fdn ["_law_m", "_law_total"] [] := Fn.binds (fun _ _ _ _ _ _ us hl => match us, hl with | [_, _], _ => rfl)
  refine ⟨_, pss_cons (ps_asg (pv 1) (pg_tup (by rfl) (pgs_cons (pg_name (i := 2) nd rfl (Or.inl rfl)) (pgs_cons (pg_name (i := 3) nd rfl (Or.inl rfl)) pgs_nil))))
    (pss_cons (ps_set (i := 4) nd rfl (Or.inl rfl) (pe_call Gn hr (by rfl) mn Fn.kp bn .nil pass0 (pa_cons (pv 0) (pa_cons (pe_callB call_len_seq (by rfl) T.len PySem.boot_len (pa_cons (pv 2) pa_nil)) pa_nil))))
    (pss_cons (ps_set (i := 5) nd rfl (Or.inl rfl) (pe_ix ix_list (pe_lst (pa_cons pe_non (pa_cons pe_int (pa_cons pe_int (pa_cons pe_int (pa_cons pe_bl (pa_cons pe_str (pa_cons (pe_un un_neg pe_int) (pa_cons (pe_tup pa_nil) (pa_cons (pe_op op_add (pe_ix ix_tup (pv 3) (pv 4) (fun _ _ => rfl)) pe_int) pa_nil))))))))))
        (pe_call Gn hr (by rfl) mn Fn.kp bn .nil pass0 (pa_cons (pv 0) (pa_cons pe_int pa_nil))) (fun _ _ => rfl)))
    (pss_cons (ps_set (i := 6) nd rfl (Or.inl rfl) (pe_ix ix_list (pe_lst (pa_cons (pe_op op_catA (pe_op op_catA (pe_slice sl_tupA (pv 3) po_none (po_some (pv 4))) (pe_tup (pa_cons (pv 5) pa_nil))) (pe_slice sl_tupA (pv 3) (po_some (pe_op op_add (pv 4) pe_int)) po_none))
          (pa_cons (pe_slice sl_tupA (pv 3) (po_some pe_int) po_none) (pa_cons (pe_callTy call_list_of (by rfl) T.list (by decide +kernel) (pa_cons (pv 3) pa_nil)) (pa_cons (pv 2) pa_nil)))))
        (pe_call Gn hr (by rfl) mn Fn.kp bn .nil pass0 (pa_cons (pv 0) (pa_cons pe_int pa_nil))) (fun _ _ => rfl)))
    (pss_cons (ps_set (i := 7) nd rfl (Or.inl rfl) (pe_ix ix_list (pe_lst (pa_cons (pe_revT (pe_ix ix_tup (pv 2) (pv 4) (fun _ _ => rfl))) (pa_cons (pe_op op_catA (pe_ix ix_tup (pv 2) (pv 4) (fun _ _ => rfl)) (pe_tup (pa_cons pe_int pa_nil)))
          (pa_cons (pe_callTy call_list_of (by rfl) T.list (by decide +kernel) (pa_cons (pe_ix ix_tup (pv 2) (pv 4) (fun _ _ => rfl)) pa_nil)) (pa_cons (pe_slice sl_tupA (pe_ix ix_tup (pv 2) (pv 4) (fun _ _ => rfl)) (po_some pe_int) po_none) (pa_cons (pe_tup (pa_cons pe_bl pa_nil)) pa_nil))))))
        (pe_call Gn hr (by rfl) mn Fn.kp bn .nil pass0 (pa_cons (pv 0) (pa_cons pe_int pa_nil))) (fun _ _ => rfl)))
    (pss_cons (ps_set (i := 8) nd rfl (Or.inl rfl) (pe_lst (pa_cons (pe_tup (pa_cons (pv 2) (pa_cons (pv 6) pa_nil)))
        (pa_cons (pe_tup (pa_cons (pe_op op_catA (pe_op op_catA (pe_slice sl_tupA (pv 2) po_none (po_some (pv 4))) (pe_tup (pa_cons (pv 7) pa_nil))) (pe_slice sl_tupA (pv 2) (po_some (pe_op op_add (pv 4) pe_int)) po_none)) (pa_cons (pv 3) pa_nil)))
        (pa_cons (pe_tup (pa_cons (pe_slice sl_tupA (pv 2) (po_some pe_int) po_none) (pa_cons (pv 3) pa_nil)))
        (pa_cons (pe_tup (pa_cons (pe_callTy call_list_of (by rfl) T.list (by decide +kernel) (pa_cons (pv 2) pa_nil)) (pa_cons (pv 3) pa_nil))) pa_nil))))))
    (pss_one (ps_ret (pe_ix ix_list (pv 8) (pe_op op_mul (pe_call Gn hr (by rfl) mn Fn.kp bn .nil pass0 (pa_cons (pv 0) (pa_cons pe_int pa_nil))) (pe_call Gn hr (by rfl) mn Fn.kp bn .nil pass0 (pa_cons (pv 0) (pa_cons pe_int pa_nil)))) (fun _ _ => rfl))))))))), ?_⟩
  obtain ⟨a, xs, rfl, h1, h2⟩ := dp_tup hd
  obtain ⟨x, y, rfl, hx, hy⟩ := two_of h2
  obtain ⟨o, os, rfl, ho1, ho2⟩ := dp_tup hx
  have hol : os.length = R.length := by rw [ho2.len, List.length_map]
  refine ⟨_, rfl, a, _, rfl, fry_sub.tup h1, rfl, _, _, rfl, _, _, rfl, rfl, ?_⟩
  refine ⟨_, rfl, _, rfl, o, os, rfl, .inr (fry_sub.tup ho1), m, l, c, n, (os.length : Nat), rfl, g.gen, by omega, by omega, by omega, fun G1 l1 r1 g1 sf1 hr10 hr11 => ?_⟩
  replace g1 := g.step g1 sf1
  replace hx := hx.same (fry_from sf1)
  replace hy := hy.same (fry_from sf1)
  obtain ⟨j, rfl⟩ : ∃ j : Nat, r1 = (j : Int) := ⟨r1.toNat, by omega⟩
  have hj : j < R.length := by omega
  -- odd
  refine ⟨_, rfl, Nat.zero_le _, fun p hp => ?_⟩
  obtain ⟨n1, n2⟩ := g1.fr p hp
  have s1 := Same.upd (o := .tup []) hp
  have hu : Dp K (fry Dx m l1 (upd G1 p (.tup []))) (.ref p) (.tuple []) := new_tup hp n1 n2 .nil
  replace g1 := g1.grow s1
  replace sf1 := sf1.trans (frx_grow (m := m) (l := l1) s1)
  replace hx := hx.same (fry_grow s1)
  replace hy := hy.same (fry_grow s1)
  generalize upd G1 p (.tup []) = G2 at *
  obtain ⟨pp, rfl, hpp⟩ := dp_rD hy
  refine ⟨_, rfl, _, rfl, pp, _, (j : Int), _, rfl, rfl, fry_sub.tup hpp, atI_nat (mapInt_at (by omega)), _, _, rfl, rfl, Nat.le_of_lt (small1000 (by simp)), fun q1 hq1 => ?_⟩
  have hall : DpAll K (fry Dx m l1 G2) [.non, .int 0, .int 1, .int 2, .bl true, .str "1", .int (-1), .ref p, .int (ps.getD j 0 + 1)] [.none, .int 0, .int 1, .int 2, .bool true, .str "1", .int (-1), .tuple [], .int (ps.getD j 0 + 1)] :=
    .cons .non (.cons (.int _) (.cons (.int _) (.cons (.int _) (.cons (.bl _) (.cons (.str _) (.cons (.int _) (.cons hu (.cons (.int _) .nil))))))))
  obtain ⟨n1, n2⟩ := g1.fr q1 hq1
  have s2 := Same.upd (o := .lst [.non, .int 0, .int 1, .int 2, .bl true, .str "1", .int (-1), .ref p, .int (ps.getD j 0 + 1)]) hq1
  have hL : frx m l1 (upd G2 q1 (.lst [.non, .int 0, .int 1, .int 2, .bl true, .str "1", .int (-1), .ref p, .int (ps.getD j 0 + 1)])) q1 = some (.lst [.non, .int 0, .int 1, .int 2, .bl true, .str "1", .int (-1), .ref p, .int (ps.getD j 0 + 1)]) := (frx_at n1 n2.1).trans upd_same
  replace g1 := g1.grow s2
  replace sf1 := sf1.trans (frx_grow (m := m) (l := l1) s2)
  replace hx := hx.same (fry_grow s2)
  replace hy := hy.same (fry_grow s2)
  replace hall := hall.same (fry_grow s2)
  show tCall (spNx K p0) [] E0 (tCons (tVar 0) (tCons (tC (.int 9)) tNil)) _ (upd G2 q1 (.lst [.non, .int 0, .int 1, .int 2, .bl true, .str "1", .int (-1), .ref p, .int (ps.getD j 0 + 1)])) _
  generalize upd G2 q1 (.lst [.non, .int 0, .int 1, .int 2, .bl true, .str "1", .int (-1), .ref p, .int (ps.getD j 0 + 1)]) = G3 at *
  refine ⟨_, rfl, m, l1, c, n + 1, 9, rfl, g1.gen, by omega, by decide, by decide, fun G4 l4 r4 g4 sf4 hr40 hr41 => ?_⟩
  replace g4 := g1.step g4 sf4
  obtain ⟨vodd, dodd, k1, k2, _⟩ := rd_pick (hall.same (fry_from sf4)) hr40 hr41
  refine ⟨q1, _, r4, vodd, rfl, rfl, .of (frx_sub _ _ (sf4 _ _ hL)), k1, ?_⟩
  replace hx := hx.same (fry_from sf4)
  replace hy := hy.same (fry_from sf4)
  have sF := sf1.trans sf4
  clear hall hL hu s2 s1 sf1 sf4 k1 g1
  have hpl : (ps.map PyData.int).length ≤ 40 := by rw [List.length_map]; omega
  -- bent_here
  refine ⟨_, rfl, _, rfl, _, rfl, ?_⟩
  refine rd_slice hy g4.fr fun x1 G5 e1 s5 d1 len1 mem1 => ?_
  replace hx := hx.same (fry_grow s5)
  replace hy := hy.same (fry_grow s5)
  replace k2 := k2.same (fry_grow s5)
  replace g4 := g4.grow s5
  replace sF := sF.trans (frx_grow (m := m) (l := l4) s5)
  refine ⟨_, rfl, Nat.le_of_lt (small1000 (by simp)), fun p6 hp6 => ?_⟩
  obtain ⟨n1, n2⟩ := g4.fr p6 hp6
  have s6 := Same.upd (o := .tup [vodd]) hp6
  have d6 : Dp K (fry Dx m l4 (upd G5 p6 (.tup [vodd]))) (.ref p6) (.tuple [dodd]) := new_tup hp6 n1 n2 (.cons k2 .nil)
  replace hx := hx.same (fry_grow s6)
  replace hy := hy.same (fry_grow s6)
  replace k2 := k2.same (fry_grow s6)
  replace d1 := d1.same (fry_grow s6)
  replace g4 := g4.grow s6
  replace sF := sF.trans (frx_grow (m := m) (l := l4) s6)
  generalize upd G5 p6 (.tup [vodd]) = G6 at *
  refine rd_cat d1 d6 (by simp only [List.length_cons, List.length_nil]; omega) g4.fr fun x2 G7 e2 s7 d2 len2 mem2 => ?_
  replace hx := hx.same (fry_grow s7)
  replace hy := hy.same (fry_grow s7)
  replace k2 := k2.same (fry_grow s7)
  replace g4 := g4.grow s7
  replace sF := sF.trans (frx_grow (m := m) (l := l4) s7)
  refine ⟨_, rfl, _, rfl, _, _, rfl, rfl, _, rfl, ?_⟩
  refine noPart_of ?_
  refine rd_slice hy g4.fr fun x3 G8 e3 s8 d3 len3 mem3 => ?_
  replace hx := hx.same (fry_grow s8)
  replace hy := hy.same (fry_grow s8)
  replace k2 := k2.same (fry_grow s8)
  replace d2 := d2.same (fry_grow s8)
  replace g4 := g4.grow s8
  replace sF := sF.trans (frx_grow (m := m) (l := l4) s8)
  simp only [List.length_cons, List.length_nil] at len2
  refine rd_cat d2 d3 (by omega) g4.fr fun x4 G9 e4 s9 d4 len4 mem4 => ?_
  replace hx := hx.same (fry_grow s9)
  replace hy := hy.same (fry_grow s9)
  replace k2 := k2.same (fry_grow s9)
  replace g4 := g4.grow s9
  replace sF := sF.trans (frx_grow (m := m) (l := l4) s9)
  refine ⟨_, rfl, _, rfl, ?_⟩
  refine noPart_of ?_
  refine rd_slice hy g4.fr fun x5 G10 e5 s10 d5 len5 mem5 => ?_
  replace hx := hx.same (fry_grow s10)
  replace hy := hy.same (fry_grow s10)
  replace k2 := k2.same (fry_grow s10)
  replace d4 := d4.same (fry_grow s10)
  replace g4 := g4.grow s10
  replace sF := sF.trans (frx_grow (m := m) (l := l4) s10)
  obtain ⟨pp2, epp, hpp2⟩ := dp_rD hy
  cases epp
  refine ⟨_, rfl, pp, _, rfl, .inr (fry_sub.tup hpp2), fun p11 hp11 => ?_⟩
  obtain ⟨n1, n2⟩ := g4.fr p11 hp11
  have s11 := Same.upd (o := .lst (ps.map V.int)) hp11
  have d11 : Dp K (fry Dx m l4 (upd G10 p11 (.lst (ps.map V.int)))) (.ref p11) (.list (ps.map PyData.int)) := new_lst hp11 n1 n2 (ints_dpAll ps)
  replace hx := hx.same (fry_grow s11)
  replace hy := hy.same (fry_grow s11)
  replace k2 := k2.same (fry_grow s11)
  replace d4 := d4.same (fry_grow s11)
  replace d5 := d5.same (fry_grow s11)
  replace g4 := g4.grow s11
  replace sF := sF.trans (frx_grow (m := m) (l := l4) s11)
  generalize upd G10 p11 (.lst (ps.map V.int)) = G11 at *
  refine ⟨_, rfl, Nat.le_of_lt (small1000 (by simp)), fun p12 hp12 => ?_⟩
  obtain ⟨n1, n2⟩ := g4.fr p12 hp12
  have hall : DpAll K (fry Dx m l4 G11) [x4, x5, .ref p11, .ref o] [.tuple e4, .tuple e5, .list (ps.map PyData.int), oD R] := .cons d4 (.cons d5 (.cons d11 (.cons hx .nil)))
  have s12 := Same.upd (o := .lst [x4, x5, .ref p11, .ref o]) hp12
  have hL : frx m l4 (upd G11 p12 (.lst [x4, x5, .ref p11, .ref o])) p12 = some (.lst [x4, x5, .ref p11, .ref o]) := (frx_at n1 n2.1).trans upd_same
  replace hall := hall.same (fry_grow s12)
  replace hx := hx.same (fry_grow s12)
  replace hy := hy.same (fry_grow s12)
  replace k2 := k2.same (fry_grow s12)
  replace g4 := g4.grow s12
  replace sF := sF.trans (frx_grow (m := m) (l := l4) s12)
  show tCall (spNx K p0) [] E0 (tCons (tVar 0) (tCons (tC (.int 4)) tNil)) _ (upd G11 p12 (.lst [x4, x5, .ref p11, .ref o])) _
  generalize upd G11 p12 (.lst [x4, x5, .ref p11, .ref o]) = G12 at *
  refine ⟨_, rfl, m, l4, c, n + 1 + 1, 4, rfl, g4.gen, by omega, by decide, by decide, fun G13 l13 r13 g13 sf13 hr130 hr131 => ?_⟩
  replace g13 := g4.step g13 sf13
  obtain ⟨vbent, dbent, k1, k3, _⟩ := rd_pick (hall.same (fry_from sf13)) hr130 hr131
  refine ⟨p12, _, r13, vbent, rfl, rfl, .of (frx_sub _ _ (sf13 _ _ hL)), k1, ?_⟩
  replace hx := hx.same (fry_from sf13)
  replace hy := hy.same (fry_from sf13)
  replace sF := sF.trans sf13
  clear hall hL k1 g4 k2 d1 d2 d3 d4 d5 d6 d11 s5 s6 s7 s8 s9 s10 s11 s12 mem1 mem2 mem3 mem4 mem5 sf13
  obtain ⟨r, hr⟩ := getElem?_of hj
  have hrl : r.length ≤ 40 := hrow r (List.mem_of_getElem? hr)
  have hrl2 : (r.map PyData.int).length ≤ 40 := by rw [List.length_map]; exact hrl
  have rflat : ∀ e ∈ r.map PyData.int, flatD e = true := List.all_eq_true.mp (ints_flat r)
  -- row: reversed
  obtain ⟨os1, b1, ho1, hat1, _, hb1⟩ := rd_row hx hr
  refine ⟨_, rfl, _, rfl, o, os1, (j : Int), _, rfl, rfl, fry_sub.tup ho1, hat1, b1, _, rfl, fry_sub.tup hb1, fun p1 hp1 => ?_⟩
  obtain ⟨n1, n2⟩ := g13.fr p1 hp1
  have s1 := Same.upd (o := .tup (r.map V.int).reverse) hp1
  have d1 : Dp K (fry Dx m l13 (upd G13 p1 (.tup (r.map V.int).reverse))) (.ref p1) (.tuple (r.map PyData.int).reverse) := new_tup hp1 n1 n2 (ints_dpAll r).rev
  replace hx := hx.same (fry_grow s1)
  replace hy := hy.same (fry_grow s1)
  replace k3 := k3.same (fry_grow s1)
  replace g13 := g13.grow s1
  replace sF := sF.trans (frx_grow (m := m) (l := l13) s1)
  generalize upd G13 p1 (.tup (r.map V.int).reverse) = G14 at *
  -- with 0 behind
  obtain ⟨os2, b2, ho2, hat2, hbd2, hb2⟩ := rd_row hx hr
  refine ⟨_, rfl, _, rfl, o, os2, (j : Int), _, rfl, rfl, fry_sub.tup ho2, hat2, Nat.le_of_lt (small1000 (by simp)), fun p2 hp2 => ?_⟩
  obtain ⟨n1, n2⟩ := g13.fr p2 hp2
  have s2 := Same.upd (o := .tup [.int 0]) hp2
  have d2 : Dp K (fry Dx m l13 (upd G14 p2 (.tup [.int 0]))) (.ref p2) (.tuple [.int 0]) := new_tup hp2 n1 n2 (.cons (.int _) .nil)
  replace hx := hx.same (fry_grow s2)
  replace hy := hy.same (fry_grow s2)
  replace k3 := k3.same (fry_grow s2)
  replace d1 := d1.same (fry_grow s2)
  replace hbd2 := hbd2.same (fry_grow s2)
  replace g13 := g13.grow s2
  replace sF := sF.trans (frx_grow (m := m) (l := l13) s2)
  generalize upd G14 p2 (.tup [.int 0]) = G15 at *
  refine rd_cat hbd2 d2 (by simp only [List.length_cons, List.length_nil]; omega) g13.fr fun x3 G16 e3 s3 d3 len3 mem3 => ?_
  simp only [List.length_cons, List.length_nil] at len3
  replace hx := hx.same (fry_grow s3)
  replace hy := hy.same (fry_grow s3)
  replace k3 := k3.same (fry_grow s3)
  replace d1 := d1.same (fry_grow s3)
  replace g13 := g13.grow s3
  replace sF := sF.trans (frx_grow (m := m) (l := l13) s3)
  -- as a list
  obtain ⟨os4, b4, ho4, hat4, _, hb4⟩ := rd_row hx hr
  refine ⟨_, rfl, _, rfl, o, os4, (j : Int), _, rfl, rfl, fry_sub.tup ho4, hat4, b4, _, rfl, .inr (fry_sub.tup hb4), fun p4 hp4 => ?_⟩
  obtain ⟨n1, n2⟩ := g13.fr p4 hp4
  have s4 := Same.upd (o := .lst (r.map V.int)) hp4
  have d4 : Dp K (fry Dx m l13 (upd G16 p4 (.lst (r.map V.int)))) (.ref p4) (.list (r.map PyData.int)) := new_lst hp4 n1 n2 (ints_dpAll r)
  replace hx := hx.same (fry_grow s4)
  replace hy := hy.same (fry_grow s4)
  replace k3 := k3.same (fry_grow s4)
  replace d1 := d1.same (fry_grow s4)
  replace d3 := d3.same (fry_grow s4)
  replace g13 := g13.grow s4
  replace sF := sF.trans (frx_grow (m := m) (l := l13) s4)
  generalize upd G16 p4 (.lst (r.map V.int)) = G17 at *
  -- without its first
  obtain ⟨os5, b5, ho5, hat5, hbd5, hb5⟩ := rd_row hx hr
  refine ⟨_, rfl, _, rfl, o, os5, (j : Int), _, rfl, rfl, fry_sub.tup ho5, hat5, _, rfl, ?_⟩
  refine noPart_of ?_
  refine rd_slice hbd5 g13.fr fun x5 G18 e5' s5 d5 len5' mem5 => ?_
  replace hx := hx.same (fry_grow s5)
  replace hy := hy.same (fry_grow s5)
  replace k3 := k3.same (fry_grow s5)
  replace d1 := d1.same (fry_grow s5)
  replace d3 := d3.same (fry_grow s5)
  replace d4 := d4.same (fry_grow s5)
  replace g13 := g13.grow s5
  replace sF := sF.trans (frx_grow (m := m) (l := l13) s5)
  refine ⟨Nat.le_of_lt (small1000 (by simp)), fun p6' hp6' => ?_⟩
  obtain ⟨n1, n2⟩ := g13.fr p6' hp6'
  have s6 := Same.upd (o := .tup [.bl true]) hp6'
  have d6 : Dp K (fry Dx m l13 (upd G18 p6' (.tup [.bl true]))) (.ref p6') (.tuple [.bool true]) := new_tup hp6' n1 n2 (.cons (.bl _) .nil)
  replace hx := hx.same (fry_grow s6)
  replace hy := hy.same (fry_grow s6)
  replace k3 := k3.same (fry_grow s6)
  replace d1 := d1.same (fry_grow s6)
  replace d3 := d3.same (fry_grow s6)
  replace d4 := d4.same (fry_grow s6)
  replace d5 := d5.same (fry_grow s6)
  replace g13 := g13.grow s6
  replace sF := sF.trans (frx_grow (m := m) (l := l13) s6)
  generalize upd G18 p6' (.tup [.bl true]) = G19 at *
  refine ⟨Nat.le_of_lt (small1000 (by simp)), fun p7 hp7 => ?_⟩
  obtain ⟨n1, n2⟩ := g13.fr p7 hp7
  have hall : DpAll K (fry Dx m l13 G19) [.ref p1, x3, .ref p4, x5, .ref p6'] [.tuple (r.map PyData.int).reverse, .tuple e3, .list (r.map PyData.int), .tuple e5', .tuple [.bool true]] := .cons d1 (.cons d3 (.cons d4 (.cons d5 (.cons d6 .nil))))
  have s7 := Same.upd (o := .lst [.ref p1, x3, .ref p4, x5, .ref p6']) hp7
  have hL : frx m l13 (upd G19 p7 (.lst [.ref p1, x3, .ref p4, x5, .ref p6'])) p7 = some (.lst [.ref p1, x3, .ref p4, x5, .ref p6']) := (frx_at n1 n2.1).trans upd_same
  replace hall := hall.same (fry_grow s7)
  replace hx := hx.same (fry_grow s7)
  replace hy := hy.same (fry_grow s7)
  replace k3 := k3.same (fry_grow s7)
  replace g13 := g13.grow s7
  replace sF := sF.trans (frx_grow (m := m) (l := l13) s7)
  show tCall (spNx K p0) [] E0 (tCons (tVar 0) (tCons (tC (.int 5)) tNil)) _ (upd G19 p7 (.lst [.ref p1, x3, .ref p4, x5, .ref p6'])) _
  generalize upd G19 p7 (.lst [.ref p1, x3, .ref p4, x5, .ref p6']) = G20 at *
  refine ⟨_, rfl, m, l13, c, n + 1 + 1 + 1, 5, rfl, g13.gen, by omega, by decide, by decide, fun G21 l21 r21 g21 sf21 hr210 hr211 => ?_⟩
  replace g21 := g13.step g21 sf21
  obtain ⟨vrow, drow, k1, k4, hmem⟩ := rd_pick (hall.same (fry_from sf21)) hr210 hr211
  have hrp : RowP drow := by
    simp only [List.mem_cons, List.not_mem_nil, or_false] at hmem
    rcases hmem with rfl | rfl | rfl | rfl | rfl
    · exact flat_row (fun e he => rflat e (List.mem_reverse.mp he)) (by rw [List.length_reverse]; omega)
    · refine flat_row (fun e he => ?_) (by omega)
      rcases mem3 e he with z | z
      · exact rflat e z
      · rw [List.mem_singleton.mp z]
        rfl
    · exact fun es e => by cases e
    · exact flat_row (fun e he => rflat e (mem5 e he)) (by omega)
    · exact flat_row (fun e he => by rw [List.mem_singleton.mp he]; rfl) (by simp)
  refine ⟨p7, _, r21, vrow, rfl, rfl, .of (frx_sub _ _ (sf21 _ _ hL)), k1, ?_⟩
  replace hx := hx.same (fry_from sf21)
  replace hy := hy.same (fry_from sf21)
  replace k3 := k3.same (fry_from sf21)
  replace sF := sF.trans sf21
  clear hall hL k1 g13 d1 d2 d3 d4 d5 d6 s1 s2 s3 s4 s5 s6 s7 mem3 mem5 sf21 hmem hbd2 hbd5 hb1 hb2 hb4 hb5 ho1 ho2 ho4 ho5 hat1 hat2 hat4 hat5
  -- the four sheets
  have hRl : (R.map rD).length ≤ 40 := by rw [List.length_map]; exact hR2
  have rows : ∀ e ∈ R.map rD, RowP e := fun e he => by
    obtain ⟨r', hr', rfl⟩ := List.mem_map.mp he
    exact rowP_int (by have := hrow r' hr'; omega)
  refine ⟨_, rfl, _, rfl, Nat.le_of_lt (small1000 (by simp)), fun p1' hp1' => ?_⟩
  obtain ⟨n1, n2⟩ := g21.fr p1' hp1'
  have s1 := Same.upd (o := .tup [V.ref o, vbent]) hp1'
  have d1 : Dp K (fry Dx m l21 (upd G21 p1' (.tup [V.ref o, vbent]))) (.ref p1') (.tuple [oD R, dbent]) := new_tup hp1' n1 n2 (.cons hx (.cons k3 .nil))
  replace hx := hx.same (fry_grow s1)
  replace hy := hy.same (fry_grow s1)
  replace k3 := k3.same (fry_grow s1)
  replace k4 := k4.same (fry_grow s1)
  replace g21 := g21.grow s1
  replace sF := sF.trans (frx_grow (m := m) (l := l21) s1)
  generalize upd G21 p1' (.tup [V.ref o, vbent]) = G22 at *
  refine ⟨_, rfl, _, rfl, _, rfl, ?_⟩
  refine rd_slice hx g21.fr fun x2' G23 e2' s2 d2 len2' mem2 => ?_
  replace hx := hx.same (fry_grow s2)
  replace hy := hy.same (fry_grow s2)
  replace k3 := k3.same (fry_grow s2)
  replace k4 := k4.same (fry_grow s2)
  replace d1 := d1.same (fry_grow s2)
  replace g21 := g21.grow s2
  replace sF := sF.trans (frx_grow (m := m) (l := l21) s2)
  refine ⟨_, rfl, Nat.le_of_lt (small1000 (by simp)), fun p3 hp3 => ?_⟩
  obtain ⟨n1, n2⟩ := g21.fr p3 hp3
  have s3 := Same.upd (o := .tup [vrow]) hp3
  have d3 : Dp K (fry Dx m l21 (upd G23 p3 (.tup [vrow]))) (.ref p3) (.tuple [drow]) := new_tup hp3 n1 n2 (.cons k4 .nil)
  replace hx := hx.same (fry_grow s3)
  replace hy := hy.same (fry_grow s3)
  replace k3 := k3.same (fry_grow s3)
  replace k4 := k4.same (fry_grow s3)
  replace d1 := d1.same (fry_grow s3)
  replace d2 := d2.same (fry_grow s3)
  replace g21 := g21.grow s3
  replace sF := sF.trans (frx_grow (m := m) (l := l21) s3)
  generalize upd G23 p3 (.tup [vrow]) = G24 at *
  refine rd_cat d2 d3 (by simp only [List.length_cons, List.length_nil]; omega) g21.fr fun x4' G25 e4' s4 d4 len4' mem4 => ?_
  simp only [List.length_cons, List.length_nil] at len4'
  replace hx := hx.same (fry_grow s4)
  replace hy := hy.same (fry_grow s4)
  replace k3 := k3.same (fry_grow s4)
  replace k4 := k4.same (fry_grow s4)
  replace d1 := d1.same (fry_grow s4)
  replace g21 := g21.grow s4
  replace sF := sF.trans (frx_grow (m := m) (l := l21) s4)
  refine ⟨_, rfl, _, rfl, _, _, rfl, rfl, _, rfl, ?_⟩
  refine noPart_of ?_
  refine rd_slice hx g21.fr fun x5' G26 e5'' s5 d5 len5'' mem5 => ?_
  replace hx := hx.same (fry_grow s5)
  replace hy := hy.same (fry_grow s5)
  replace k3 := k3.same (fry_grow s5)
  replace k4 := k4.same (fry_grow s5)
  replace d1 := d1.same (fry_grow s5)
  replace d4 := d4.same (fry_grow s5)
  replace g21 := g21.grow s5
  replace sF := sF.trans (frx_grow (m := m) (l := l21) s5)
  refine rd_cat d4 d5 (by omega) g21.fr fun x6 G27 e6 s6 d6 len6 mem6 => ?_
  replace hx := hx.same (fry_grow s6)
  replace hy := hy.same (fry_grow s6)
  replace k3 := k3.same (fry_grow s6)
  replace k4 := k4.same (fry_grow s6)
  replace d1 := d1.same (fry_grow s6)
  replace g21 := g21.grow s6
  replace sF := sF.trans (frx_grow (m := m) (l := l21) s6)
  refine ⟨_, rfl, Nat.le_of_lt (small1000 (by simp)), fun p7' hp7' => ?_⟩
  obtain ⟨n1, n2⟩ := g21.fr p7' hp7'
  have s7 := Same.upd (o := .tup [x6, V.ref pp]) hp7'
  have d7 : Dp K (fry Dx m l21 (upd G27 p7' (.tup [x6, V.ref pp]))) (.ref p7') (.tuple [.tuple e6, rD ps]) := new_tup hp7' n1 n2 (.cons d6 (.cons hy .nil))
  replace hx := hx.same (fry_grow s7)
  replace hy := hy.same (fry_grow s7)
  replace k3 := k3.same (fry_grow s7)
  replace k4 := k4.same (fry_grow s7)
  replace d1 := d1.same (fry_grow s7)
  replace g21 := g21.grow s7
  replace sF := sF.trans (frx_grow (m := m) (l := l21) s7)
  generalize upd G27 p7' (.tup [x6, V.ref pp]) = G28 at *
  refine ⟨_, rfl, _, rfl, ?_⟩
  refine noPart_of ?_
  refine rd_slice hx g21.fr fun x8 G29 e8 s8 d8 len8 mem8 => ?_
  replace hx := hx.same (fry_grow s8)
  replace hy := hy.same (fry_grow s8)
  replace k3 := k3.same (fry_grow s8)
  replace k4 := k4.same (fry_grow s8)
  replace d1 := d1.same (fry_grow s8)
  replace d7 := d7.same (fry_grow s8)
  replace g21 := g21.grow s8
  replace sF := sF.trans (frx_grow (m := m) (l := l21) s8)
  refine ⟨_, rfl, Nat.le_of_lt (small1000 (by simp)), fun p9 hp9 => ?_⟩
  obtain ⟨n1, n2⟩ := g21.fr p9 hp9
  have s9 := Same.upd (o := .tup [x8, V.ref pp]) hp9
  have d9 : Dp K (fry Dx m l21 (upd G29 p9 (.tup [x8, V.ref pp]))) (.ref p9) (.tuple [.tuple e8, rD ps]) := new_tup hp9 n1 n2 (.cons d8 (.cons hy .nil))
  replace hx := hx.same (fry_grow s9)
  replace hy := hy.same (fry_grow s9)
  replace k3 := k3.same (fry_grow s9)
  replace k4 := k4.same (fry_grow s9)
  replace d1 := d1.same (fry_grow s9)
  replace d7 := d7.same (fry_grow s9)
  replace g21 := g21.grow s9
  replace sF := sF.trans (frx_grow (m := m) (l := l21) s9)
  generalize upd G29 p9 (.tup [x8, V.ref pp]) = G30 at *
  obtain ⟨o10, os10, eo10, ho10, hos10⟩ := dp_tup hx
  cases eo10
  refine ⟨_, rfl, o, os10, rfl, .inr (fry_sub.tup ho10), fun p10 hp10 => ?_⟩
  obtain ⟨n1, n2⟩ := g21.fr p10 hp10
  have s10 := Same.upd (o := .lst os10) hp10
  have d10 : Dp K (fry Dx m l21 (upd G30 p10 (.lst os10))) (.ref p10) (.list (R.map rD)) := new_lst hp10 n1 n2 hos10
  replace hx := hx.same (fry_grow s10)
  replace hy := hy.same (fry_grow s10)
  replace k3 := k3.same (fry_grow s10)
  replace k4 := k4.same (fry_grow s10)
  replace d1 := d1.same (fry_grow s10)
  replace d7 := d7.same (fry_grow s10)
  replace d9 := d9.same (fry_grow s10)
  replace g21 := g21.grow s10
  replace sF := sF.trans (frx_grow (m := m) (l := l21) s10)
  generalize upd G30 p10 (.lst os10) = G31 at *
  refine ⟨_, rfl, Nat.le_of_lt (small1000 (by simp)), fun p11' hp11' => ?_⟩
  obtain ⟨n1, n2⟩ := g21.fr p11' hp11'
  have s11 := Same.upd (o := .tup [V.ref p10, V.ref pp]) hp11'
  have d11 : Dp K (fry Dx m l21 (upd G31 p11' (.tup [V.ref p10, V.ref pp]))) (.ref p11') (.tuple [.list (R.map rD), rD ps]) := new_tup hp11' n1 n2 (.cons d10 (.cons hy .nil))
  replace hx := hx.same (fry_grow s11)
  replace hy := hy.same (fry_grow s11)
  replace k3 := k3.same (fry_grow s11)
  replace k4 := k4.same (fry_grow s11)
  replace d1 := d1.same (fry_grow s11)
  replace d7 := d7.same (fry_grow s11)
  replace d9 := d9.same (fry_grow s11)
  replace g21 := g21.grow s11
  replace sF := sF.trans (frx_grow (m := m) (l := l21) s11)
  generalize upd G31 p11' (.tup [V.ref p10, V.ref pp]) = G32 at *
  refine ⟨Nat.le_of_lt (small1000 (by simp)), fun p12' hp12' => ?_⟩
  obtain ⟨n1, n2⟩ := g21.fr p12' hp12'
  have hall : DpAll K (fry Dx m l21 G32) [.ref p1', .ref p7', .ref p9, .ref p11'] [.tuple [oD R, dbent], .tuple [.tuple e6, rD ps], .tuple [.tuple e8, rD ps], .tuple [.list (R.map rD), rD ps]] := .cons d1 (.cons d7 (.cons d9 (.cons d11 .nil)))
  have s12 := Same.upd (o := .lst [.ref p1', .ref p7', .ref p9, .ref p11']) hp12'
  have hL : frx m l21 (upd G32 p12' (.lst [.ref p1', .ref p7', .ref p9, .ref p11'])) p12' = some (.lst [.ref p1', .ref p7', .ref p9, .ref p11']) := (frx_at n1 n2.1).trans upd_same
  replace hall := hall.same (fry_grow s12)
  replace g21 := g21.grow s12
  replace sF := sF.trans (frx_grow (m := m) (l := l21) s12)
  generalize upd G32 p12' (.lst [.ref p1', .ref p7', .ref p9, .ref p11']) = G33 at *
  refine ⟨_, rfl, ?_⟩
  refine ⟨_, rfl, m, l21, c, n + 1 + 1 + 1 + 1, 2, rfl, g21.gen, by omega, by decide, by decide, fun G34 l34 r34 g34 sf34 hr340 hr341 => ?_⟩
  replace g34 := g21.step g34 sf34
  refine ⟨_, rfl, m, l34, c, n + 1 + 1 + 1 + 1 + 1, 4, rfl, g34.gen, by omega, by decide, by decide, fun G35 l35 r35 g35 sf35 hr350 hr351 => ?_⟩
  refine ⟨_, _, rfl, rfl, .inl ⟨by omega, by omega⟩, ?_⟩
  have hm0 : 0 ≤ r34 * r35 ∧ r34 * r35 < 4 := by
    have : r34 = 0 ∨ r34 = 1 := by omega
    rcases this with rfl | rfl <;> omega
  obtain ⟨vf, df, k1, k5, hmem⟩ := rd_pick ((hall.same (fry_from sf34)).same (fry_from sf35)) hm0.1 hm0.2
  refine ⟨p12', _, r34 * r35, vf, rfl, rfl, .of (frx_sub _ _ (sf35 _ _ (sf34 _ _ hL))), k1, ?_⟩
  refine q _ l35 vf df g35 ((sF.trans sf34).trans sf35) k5 ?_
  simp only [List.mem_cons, List.not_mem_nil, or_false] at hmem
  rcases hmem with rfl | rfl | rfl | rfl
  · exact ss_of (rs_of rows)
  · refine ss_of (rs_of fun e he => ?_)
    rcases mem6 e he with z | z
    · rcases mem4 e z with w | w
      · exact rows e (mem2 e w)
      · rw [List.mem_singleton.mp w]
        exact hrp
    · exact rows e (mem5 e z)
  · exact ss_of (rs_of fun e he => rows e (mem8 e he))
  · exact ss_of fun ds e => by cases e
end
end K10
set_option Elab.async false
set_option linter.all false
set_option maxRecDepth 100000
set_option maxHeartbeats 4000000
/-! a tuple times one is the tuple itself -/
namespace K10
open PySem PySem.Spec PyProof.Rows L2
theorem tup_mul1 (l : Addr) (items : Array Value) (n : Nat) (dd : Option Addr) (sl : Array (Option Value)) (u : Tok) :
    Meets (Builtin.«tuple.__mul__» ⟨[.ref l, .int 1 u], []⟩) (fun _ R s => s.heap.get? l = some { cls := .type "tuple", dict := dd, data := .seq items n, slots := sl } ∧ R (.ok (.ret (Value.ref l))) s) :=
  .of_wp fun prog w A R s h => by
    obtain ⟨hp, g, d, tk, os⟩ := s
    obtain ⟨hl, h⟩ := h
    have f1 := AutoSeq1.idx_int
    have c1 : (items.isEmpty || (1 : Int) == 1) = true := by simp
    wp_walk using wpAny_loadPart' hl
    exact ⟨_, rfl, h⟩
/-- a tuple times a count that is not below one -/
def rRep1 (K : PySem.W.Frag) : R2 := fun x y H Q => ∃ l k xs, x = .ref l ∧ y = .int k ∧ SqT K H l xs ∧ xs ≠ [] ∧ 1 ≤ k ∧ k ≤ 1000 ∧ xs.length ≤ 1000 ∧ (k = 1 → Q (.ref l) H) ∧ (2 ≤ k → ∀ p, H p = none → Q (.ref p) (upd H p (.tup (List.replicate k.toNat xs).flatten)))
theorem op_rep1 {X : Cx} : OpR X (binaryOp .Mult) (rRep1 X.K) := by
  intro pins s σ H x y v u Q I rx ry h
  obtain ⟨l, k, xs, rfl, rfl, hT, hne, h1, h2, hz, q1, q⟩ := h
  by_cases hk : 2 ≤ k
  · exact op_repT pins s σ H _ _ v u Q I rx ry ⟨l, k, xs, rfl, rfl, hT, hne, hk, h2, hz, q hk⟩
  · have e : k = 1 := by omega
    subst e
    cases rx
    obtain ⟨t, rfl⟩ := ry
    obtain ⟨its, r, ⟨⟨cls, dd, data, sl⟩, ho, hc, n, hd⟩, hs⟩ := I.tuple hT
    simp only at hc hd
    subst hc hd
    exact wpAny_binaryOp_repeat_ref (T := "tuple") (U := "int") (by decide) ⟨_, ho, rfl⟩ (fun s' => typeIs_int s' 1 t) noFill_tuple_mul F.fills_int_mul F.slot_int_rmul repeat_tuple F.slot_int_index.lookup
      (call_meets F.slot_int_rmul (typeIs_int s 1 t) F.entry_int_rmul (F.args_int_rmul_2 _ _) (int_rmul_tuple 1 t l its.toArray n dd sl)
        ⟨ho, rfl, ⟨_, ho, rfl⟩, call_meets F.slot_tuple_mul ⟨_, ho, rfl⟩ F.entry_tuple_mul (F.args_tuple_mul_2 _ _) (tup_mul1 l its.toArray n dd sl t) ⟨ho, ⟨.ref l, H, I, rfl, q1 rfl⟩⟩⟩)
end K10
set_option Elab.async false
set_option linter.all false
set_option maxRecDepth 100000
set_option maxHeartbeats 4000000
/-! the law's own: _law_refused_right -/
namespace K10
open PySem PySem.Spec PyProof.Rows L2 LamX
theorem bad_place {t : List Int} (g : Good t) {p : Nat} (hp : p < t.length) {d : PyData} (hb : placeBad p d = true) :
    treeBad (.tuple ((t.map PyData.int).take p ++ [d] ++ (t.map PyData.int).drop (p + 1))) = some (.int (p : Nat)) := by
  have hl : ((t.map PyData.int).take p ++ [d] ++ (t.map PyData.int).drop (p + 1)).length = t.length := by
    simp only [List.length_append, List.length_take, List.length_drop, List.length_map, List.length_cons, List.length_nil]
    omega
  have tl : ((t.map PyData.int).take p).length = p := by
    rw [List.length_take, List.length_map]
    omega
  have hj : ∀ j, j < p → placeBad (0 + j) (((t.map PyData.int).take p ++ [d] ++ (t.map PyData.int).drop (p + 1)).getD j .none) = false := fun j hj => by
    rw [List.append_assoc, List.getD_eq_getElem?_getD, List.getElem?_append_left (by omega), List.getElem?_take_of_lt hj, List.getElem?_map, List.getElem?_eq_getElem (show j < t.length by omega)]
    show placeBad (0 + j) (.int t[j]) = false
    have z := firstBad_none 0 (t.map PyData.int) (by
      have y := bad_of_good g
      have e : treeBad (tD t) = if 1 ≤ (t.map PyData.int).length ∧ (t.map PyData.int).length ≤ 40 then (firstBad 0 (t.map PyData.int)).map (fun k => V.int (k : Nat)) else some V.non := rfl
      rw [e, if_pos (by rw [List.length_map]; exact ⟨g.pos, g.le⟩)] at y
      simpa using y)
    obtain ⟨T, e, hT⟩ := z
    have eT : t = T := by
      have z2 := congrArg (List.map iv) e
      rw [iv_map, iv_map] at z2
      exact z2
    subst eT
    have z3 := hT j (by omega)
    rw [List.getD_eq_getElem?_getD, List.getElem?_eq_getElem (show j < t.length by omega)] at z3
    exact z3
  have hb' : placeBad (0 + p) (((t.map PyData.int).take p ++ [d] ++ (t.map PyData.int).drop (p + 1)).getD p .none) = true := by
    rw [List.getD_eq_getElem?_getD, List.append_assoc, List.getElem?_append_right (by omega), tl, Nat.sub_self]
    show placeBad (0 + p) d = true
    rw [Nat.zero_add]
    exact hb
  have h0 := firstBad_at 0 _ p (by omega) hj hb'
  generalize (t.map PyData.int).take p ++ [d] ++ (t.map PyData.int).drop (p + 1) = es at *
  have e : treeBad (.tuple es) = if 1 ≤ es.length ∧ es.length ≤ 40 then (firstBad 0 es).map (fun k => V.int (k : Nat)) else some V.non := rfl
  rw [e, if_pos (by rw [hl]; exact ⟨g.pos, g.le⟩), h0]
  simp
theorem ord_len {t : List Int} {ds : List PyData} (h : ¬ ds.length = t.length) : isOrd t (.tuple ds) = false := by
  show (decide (ds.length = t.length) && _) = false
  rw [decide_eq_false h, Bool.false_and]
theorem ord_five {t : List Int} (g : Good t) {d : PyData} (h : rowOk (called t 0) d = false) : isOrd t (.tuple (List.replicate t.length d)) = false := by
  refine isOrd_row (i := 0) g.pos ?_
  rw [List.getD_eq_getElem?_getD, List.getElem?_replicate, if_pos (show 0 < t.length from g.pos)]
  exact h
theorem row_zero (t : List Int) (i : Nat) : rowOk (called t i) (.tuple [.int 0]) = false := by
  show (([PyData.int 0].all fun e => isW e 0 none) && decide (asc ([PyData.int 0].map iv) = called t i)) = false
  rw [Bool.and_eq_false_iff]
  right
  refine decide_eq_false fun h => ?_
  have z : (0 : Int) ∈ called t i := by
    rw [← h]
    exact (asc_perm _).mem_iff.mpr (by simp [iv])
  obtain ⟨k, e, _, h0, _⟩ := mem_calledTo z
  omega
theorem rs_none : RS .none := fun ds e => by cases e
theorem ss_none : SS .none := fun o p e => by cases e
/-- six times the same refusal -/
def six (xd : PyData) : PyData := .list (List.replicate 6 (.tuple [.str "tree", xd]))
theorem refs_dp {K : PySem.W.Frag} {G : Hp} {d : PyData} : ∀ {qs : List Addr}, (∀ q ∈ qs, Dp K G (.ref q) d) → DpAll K G (qs.map V.ref) (List.replicate qs.length d)
  | [], _ => .nil
  | q :: r, h => .cons (h q List.mem_cons_self) (refs_dp fun q' h' => h q' (List.mem_cons_of_mem _ h'))
theorem lc_six {K : PySem.W.Frag} {D : Addr} {H1 : Hp} {σ : L2.St} {vs : List Nat} {io jL : Nat} {Qd : Hp → Prop} {v x : V} {d xd : PyData} (hd : Dp K H1 v d) (hb : treeBad d = some x) (hx : ∀ G, Dp K G x xd) (hD : H1 D = none)
    (hL : ∀ u, ((wipe σ vs).set io (some u))[jL]? = some (some v)) (ho : ∀ u, ((wipe σ vs).set io (some u))[io]? = some (some u)) (hw : ∀ u, wipe ((wipe σ vs).set io (some u)) vs = wipe σ vs)
    (fin : ∀ G, Same H1 G → Dp K G (.ref D) (six xd) → Qd G) :
    ∃ W : Nat → Nat → Hp → Prop, (∃ m, W 0 m (upd H1 D (.lst []))) ∧ ∀ i m H, W i m H →
      ((Itr 0 6).stop i H ∧ Qd H) ∨ ((Itr 0 6).go i H ∧ ∃ Nx : Hp → Prop, (∀ H', Nx H' → ∃ m', m' < m ∧ W (i + 1) m' H') ∧ ∀ x H', (Itr 0 6).yld i H x H' → gName io x (wipe σ vs) H' fun σ2 H2 => wipe σ2 vs = wipe σ vs ∧ tYes σ2 H2 fun b H3 =>
        if b = true then tCall (spOut K) [] E0 (tCons (tVar io) (tCons (tVar jL) (tCons (tC .non) tNil))) σ2 H3 fun y H4 => ∃ acc, H4 D = some (.lst acc) ∧ acc.length < sizeLine ∧ Nx (upd H4 D (.lst (acc ++ [y]))) else Nx H3) := by
  refine lc_it (walk_range (lo := 0) (n := 6)) (Pv := fun i G => Same H1 G ∧ ∃ qs : List Addr, qs.length = i ∧ G D = some (.lst (qs.map V.ref)) ∧ ∀ q ∈ qs, q ≠ D ∧ G q = some (.tup [.str "tree", x]))
    ⟨Same.upd hD, [], rfl, upd_same, fun q h => by cases h⟩ (fun _ _ _ _ => trivial) (fun i z A B hi hp hy => ?_) fun G hp => ?_
  · obtain ⟨sm, qs, hq, hA, hr⟩ := hp
    obtain ⟨rfl, ez⟩ := hy
    have ez' : z = V.int (i : Nat) := by
      rw [ez]
      show V.int (0 + (i : Nat)) = _
      rw [Int.zero_add]
    subst ez'
    refine ⟨hw _, ?_⟩
    refine tYes_of ?_
    refine iteT ?_
    refine ⟨_, ho _, _, hL _, i, v, .non, d, .none, rfl, hd.same sm, .non, .inl ⟨x, ss_none, rs_none, hb, fun G p sG hp => ?_⟩⟩
    have hD2 := sG _ _ hA
    have np : p ≠ D := fun e => by
      rw [e, hD2] at hp
      cases hp
    refine ⟨_, hD2, by rw [List.length_map, hq]; exact small1000 (by omega), (sm.trans sG).updR hD, qs ++ [p], by rw [List.length_append, hq]; rfl, by rw [upd_same, List.map_append]; rfl, fun q' h' => ?_⟩
    rcases List.mem_append.mp h' with h' | h'
    · obtain ⟨k1, k2⟩ := hr q' h'
      exact ⟨k1, (upd_ne k1).trans (sG _ _ k2)⟩
    · rw [List.mem_singleton.mp h']
      exact ⟨np, (upd_ne np).trans hp⟩
  · obtain ⟨sm, qs, hq, hA, hr⟩ := hp
    refine fin G sm (.lst (.of hA) ?_)
    have z := refs_dp (K := K) (G := G) (d := .tuple [.str "tree", xd]) (qs := qs) fun q' h' => .tup (.of (hr q' h').2) (.cons (.str _) (.cons (hx G) .nil))
    rw [hq] at z
    exact z
theorem six_shaped {xd : PyData} (h : flatD xd = true) : SeqAt.shaped (six xd) = true := by
  cases xd with
  | str _ => cases h
  | list _ => cases h
  | tuple _ => cases h
  | dict _ => cases h
  | none => decide +kernel
  | bool b => cases b <;> decide +kernel
  | int i =>
    simp only [six, SeqAt.shaped, List.replicate, PyData.canLay0, PyData.canLayAll0, PyData.depth, PyData.depthAll]
    decide +kernel
theorem six_same {xd : PyData} (h : flatD xd = true) : PyData.eqv (six xd) (six xd) = true := SeqAt.eqv_refl _ (SeqAt.canLay_of_shaped (six_shaped h))
end K10
set_option Elab.async false
set_option linter.all false
set_option maxRecDepth 100000
set_option maxHeartbeats 4000000
/-! the law's own: _law_refused_right, the walk -/
namespace K10
open PySem PySem.Spec PyProof.Rows L2 LamX
theorem cutD_take (ds : List PyData) (p : Nat) : cutD ds none (some (p : Int)) = ds.take p := by
  unfold cutD
  rw [HT.sIx_none, HT.sIx_nat, List.drop_zero, Nat.sub_zero]
  by_cases h : p ≤ ds.length
  · rw [Nat.min_eq_left h]
  · rw [Nat.min_eq_right (by omega), List.take_length, List.take_of_length_le (by omega)]
theorem cutD_drop (ds : List PyData) (p : Nat) : cutD ds (some (p : Int)) none = ds.drop p := by
  unfold cutD
  rw [HT.sIx_none, HT.sIx_nat]
  by_cases h : p ≤ ds.length
  · rw [Nat.min_eq_left h]
    exact List.take_of_length_le (by rw [List.length_drop]; exact Nat.le_refl _)
  · rw [Nat.min_eq_right (by omega), List.drop_length, List.drop_eq_nil_of_le (by omega)]
    simp
section
variable {K : PySem.W.Frag} {G : Hp} {Q : VK}
theorem cutD_whole {ds : List PyData} {lo hi : Option Int} (h : HT.sIx ds.length 0 lo = 0 ∧ HT.sIx ds.length ds.length hi = ds.length) : cutD ds lo hi = ds := by
  unfold cutD
  rw [h.1, h.2, List.drop_zero, Nat.sub_zero, List.take_length]
theorem rx_slice {x : V} {ds : List PyData} {lo hi : Option Int} (h : Dp K G x (.tuple ds)) (q : ∀ x' G', Same G G' → Dp K G' x' (.tuple (cutD ds lo hi)) → Q x' G') : rSlA K x lo hi G Q := by
  obtain ⟨a, xs, rfl, h1, h2⟩ := dp_tup h
  have hl := h2.len
  refine ⟨a, xs, rfl, h1, fun hw => ?_, fun _ p hp => ?_⟩
  · rw [hl] at hw
    have z := q _ G (Same.refl G) (by rw [cutD_whole hw]; exact h)
    exact z
  · exact q _ _ (Same.upd hp) (.tup (.of upd_same) ((cut_dp lo hi h2).same (Same.upd hp)))
theorem rx_cat {x y : V} {ds es : List PyData} (h1 : Dp K G x (.tuple ds)) (h2 : Dp K G y (.tuple es)) (hl : ds.length + es.length ≤ 1000) (q : ∀ x' G', Same G G' → Dp K G' x' (.tuple (ds ++ es)) → Q x' G') : rCatA K x y G Q := by
  obtain ⟨a, xs, rfl, a1, a2⟩ := dp_tup h1
  obtain ⟨b, ys, rfl, b1, b2⟩ := dp_tup h2
  have l1 := a2.len
  have l2 := b2.len
  refine ⟨a, b, xs, ys, rfl, rfl, a1, b1, Nat.le_of_lt (small1000 (by omega)), fun e => ?_, fun _ e => ?_, fun _ _ p hp => ?_⟩
  · have e2 : ds = [] := by
      rw [e] at l1
      exact List.eq_nil_of_length_eq_zero l1.symm
    exact q _ G (Same.refl G) (by rw [e2]; exact h2)
  · have e2 : es = [] := by
      rw [e] at l2
      exact List.eq_nil_of_length_eq_zero l2.symm
    exact q _ G (Same.refl G) (by rw [e2, List.append_nil]; exact h1)
  · exact q _ _ (Same.upd hp) (.tup (.of upd_same) ((a2.append b2).same (Same.upd hp)))
theorem rep_dp {x : V} {d : PyData} (h : Dp K G x d) : ∀ n : Nat, DpAll K G (List.replicate n [x]).flatten (List.replicate n d)
  | 0 => .nil
  | n + 1 => by
    rw [List.replicate_succ, List.flatten_cons, List.replicate_succ]
    exact .cons h (rep_dp h n)
/-- (x,) * k -/
theorem rx_rep {x : V} {d : PyData} {k : Nat} (h : Dp K G x (.tuple [d])) (h1 : 1 ≤ k) (h2 : k ≤ 1000) (q : ∀ x' G', Same G G' → Dp K G' x' (.tuple (List.replicate k d)) → Q x' G') : rRep1 K x (.int (k : Nat)) G Q := by
  obtain ⟨a, xs, rfl, a1, a2⟩ := dp_tup h
  cases a2 with
  | cons hd hn =>
    cases hn
    refine ⟨a, (k : Int), _, rfl, rfl, a1, List.cons_ne_nil _ _, by omega, by omega, by simp, fun e => ?_, fun _ p hp => ?_⟩
    · have ek : k = 1 := by omega
      subst ek
      exact q _ G (Same.refl G) h
    · refine q _ _ (Same.upd hp) (.tup (.of upd_same) ?_)
      rw [Int.toNat_natCast]
      exact (rep_dp hd k).same (Same.upd hp)
end
theorem nx_tup {K : PySem.W.Frag} {G : Hp} {p : Addr} {xs : List V} {ds : List PyData} (hp : G p = none) (h : DpAll K G xs ds) : Dp K (upd G p (.tup xs)) (.ref p) (.tuple ds) := .tup (.of upd_same) (h.same (Same.upd hp))
theorem nx_lst {K : PySem.W.Frag} {G : Hp} {p : Addr} {xs : List V} {ds : List PyData} (hp : G p = none) (h : DpAll K G xs ds) : Dp K (upd G p (.lst xs)) (.ref p) (.list ds) := .lst (.of upd_same) (h.same (Same.upd hp))
theorem tC_of {σ : L2.St} {H : Hp} {v : V} {Q : VK} (h : Q v H) : tC v σ H Q := h
/-- [('tree', x)] * 6 -/
theorem rd_six {K : PySem.W.Frag} {G : Hp} {σ : L2.St} {x : V} {xd : PyData} {T0 : TE} {Q : VK} (hx : Dp K G x xd) (ht : ∀ Q' : VK, Q' x G → T0 σ G Q') (q : ∀ r G', Same G G' → Dp K G' (.ref r) (six xd) → Q (.ref r) G') :
    tOp rRep (tLst (tCons (tTup (tCons (tC (.str "tree")) (tCons T0 tNil))) tNil)) (tC (.int 6)) σ G Q := by
  refine ht _ ⟨Nat.le_of_lt (small1000 (by simp)), fun p hp => ⟨Nat.le_of_lt (small1000 (by simp)), fun l hl => ⟨l, 6, [.ref p], rfl, rfl, upd_same, by decide, by decide, Nat.le_of_lt (small1000 (by simp)), fun r hr => ?_⟩⟩⟩
  have d1 := nx_tup hp (.cons (.str "tree") (.cons hx .nil))
  have s1 := Same.upd (o := .tup [.str "tree", x]) hp
  have s2 := Same.upd (o := .lst [V.ref p]) hl
  have s3 := Same.upd (o := .lst (List.replicate (6 : Int).toNat [V.ref p]).flatten) hr
  exact q _ _ ((s1.trans s2).trans s3) (.lst (.of upd_same) (rep_dp (d1.same (s2.trans s3)) 6))
theorem tIf_neg {σ : L2.St} {H : Hp} {Q : VK} {b : Bool} {Pz : Int → Prop} (h1 : b = true → Pz (-1)) (h2 : b = false → Pz 0) (h : ∀ z, Pz z → Q (.int z) H) :
    (if b = true then tUn (rU fun i => V.int (-i)) (tC (.int 1)) σ H Q else tC (.int 0) σ H Q) := if_b (fun hb => ⟨1, rfl, h _ (h1 hb)⟩) fun hb => h _ (h2 hb)
theorem rs_rep {d : PyData} {k : Nat} (h : RowP d) : RS (.tuple (List.replicate k d)) := rs_of fun e he => by
  rw [List.mem_replicate] at he
  rw [he.2]
  exact h
theorem ss_rep {d : PyData} {k : Nat} (h : RS d) : SS (.tuple (List.replicate k d)) := fun o p e => by
  have z : List.replicate k d = [o, p] := by injection e
  have : o ∈ List.replicate k d := by rw [z]; exact List.mem_cons_self
  rw [List.mem_replicate] at this
  rw [this.2]
  exact h
theorem rs_ints (r : List Int) : RS (rD r) := fun ds e es he => by
  have z : r.map PyData.int = ds := by injection e
  rw [← z] at he
  obtain ⟨i, _, h⟩ := List.mem_map.mp he
  cases h
theorem rs_ord {t : List Int} {R : List (List Int)} (g : Good t) (h : OrdOk t R) : RS (oD R) ∧ SS (oD R) := by
  refine ⟨rs_of fun e he => ?_, fun o p e => ?_⟩
  · obtain ⟨r, hr, rfl⟩ := List.mem_map.mp he
    obtain ⟨i, hi, e⟩ := List.getElem_of_mem hr
    have z := h.short hi
    rw [getD_of (List.getElem?_eq_getElem hi), e] at z
    have := g.le
    exact rowP_int (by omega)
  · have z : R.map rD = [o, p] := by injection e
    have : o ∈ R.map rD := by rw [z]; exact List.mem_cons_self
    obtain ⟨r, _, rfl⟩ := List.mem_map.mp this
    exact rs_ints r
section
variable {P : Program} {w : World} {K : PySem.W.Frag} {mg : Str → Option Value} {base : Heap} (T : Nm mg) {CT p0 : Addr}
include T
def spRf (K : PySem.W.Frag) (p0 : Addr) : Sp := fun vs H Q E => ∃ (m l c : Addr) (n : Nat) (v : V) (t : List Int), vs = [.ref m, v] ∧ Gen p0 m l c n H ∧ n < 90000 ∧ Dp K (frx m l H) v (tD t) ∧ Good t ∧
  ∀ (H' : Hp) (l' : Addr), Gen p0 m l' c (n + 1) H' → ExtN (frx m l H) (frx m l' H') → Q (.bl true) H'
theorem ok_L_refused_right (kn : Kn P w K mg base CX0 1 "_law_next" s_L_next ["_law_m", "_law_total"] (spNx K p0)) (ko : Kn P w K mg base CX0 6 "_law_outcome" s_L_outcome ["_law_way", "_law_tree_here", "_law_thing"] (spOut K))
    (kr : Kn P w K mg base (L2.CX P w) 5 "order" s_order ["tree"] (spOr K CT p0))
    {f : Addr} {fd : FuncData} (F : Fun K "_law_refused_right" "_law_refused_right" s_L_refused_right f fd) : FnOk P w K mg base CX0 7 f fd ["_law_m", "_law_tree_here"] (spRf K p0) := by
  obtain ⟨fn, fdn, Fn, mn, Gn⟩ := kn
  obtain ⟨fo, fdo, Fo, mo, Go⟩ := ko
  obtain ⟨fr, fdr, Fr', mr, Gr⟩ := kr
  refine F.ok sc_L_refused_right (by rintro _ _ _ _ ⟨m, l, c, n, v, t, rfl, _⟩; rfl) fun cdv A outer s H vs Q E hr hsp => ?_
  obtain ⟨m, l, c, n, v, t, rfl, g, hn, hd, gt, q⟩ := hsp
  have nd := sc_L_refused_right.nd
  have bn : Binds K fdn ["_law_m", "_law_total"] [] := Fn.binds (fun _ _ _ _ _ _ us hl => match us, hl with | [_, _], _ => rfl)
  have bo : Binds K fdo ["_law_way", "_law_tree_here", "_law_thing"] [] := Fo.binds (fun _ _ _ _ _ _ us hl => match us, hl with | [_, _, _], _ => rfl)
  have br : Binds K fdr ["tree"] [] := Fr'.binds (fun _ _ _ _ _ _ us hl => match us, hl with | [_], _ => rfl)
  refine ⟨_, pss_cons (ps_for PassesOwn.never rfl (pi_list (pe_lst (pa_cons pe_non (pa_cons (pe_tup pa_nil) (pa_cons (pe_callTy call_list_of (by rfl) T.list (by decide +kernel) (pa_cons (pv 1) pa_nil))
        (pa_cons (pe_op op_catA (pe_tup (pa_cons (pe_un un_neg pe_int) pa_nil)) (pe_op op_rep1 (pe_tup (pa_cons pe_int pa_nil)) pe_int)) (pa_cons pe_int pa_nil))))))) (pg_name (i := 2) nd rfl (Or.inr rfl))
      (pss_one (ps_if (pt_cmpR (op_neD hr.units) (pe_lc (own := [("_law_way", 5)]) (g := gName 5) (tt := tYes) (te := tCall (spOut K) [] E0 (tCons (tVar 5) (tCons (tVar 2) (tCons (tC .non) tNil)))) rfl nd (pi_range1 (by rfl) T.range (pa_cons pe_int pa_nil)) (blkOk_by (N := n_L_refused_right) (sc := defScope s_L_refused_right) (by decide +kernel))
          (fun _ _ _ _ _ => pg_name (i := 5) nd rfl (Or.inl rfl)) (fun _ _ _ _ _ => pts_nil) (fun _ _ _ _ _ => pe_call Go hr (by rfl) mo Fo.kp bo .nil pass0 (pa_cons (pv 5) (pa_cons (pv 2) (pa_cons pe_non pa_nil)))))
          (pe_op op_rep (pe_lst (pa_cons (pe_tup (pa_cons pe_str (pa_cons pe_non pa_nil))) pa_nil)) pe_int) (nomark _)) (pss_one (ps_ret pe_bl)) pss_nil)))
    (pss_cons (ps_set (i := 3) nd rfl (Or.inl rfl) (pe_call Gn (hr.mono (by decide)) (by rfl) mn Fn.kp bn .nil pass0 (pa_cons (pv 0) (pa_cons (pe_callB call_len_seq (by rfl) T.len PySem.boot_len (pa_cons (pv 1) pa_nil)) pa_nil))))
    (pss_cons (ps_for PassesOwn.never rfl (pi_list (pe_lst (pa_cons pe_non (pa_cons (pe_un un_neg pe_int) (pa_cons (pv 3) (pa_cons pe_bl (pa_cons pe_str (pa_cons (pe_ifExp (pt_cmpR op_gt (pv 3) pe_int (nomark _)) (pe_un un_neg pe_int) pe_int) pa_nil)))))))) (pg_name (i := 2) nd rfl (Or.inr rfl))
      (pss_cons (ps_set (i := 4) nd rfl (Or.inr rfl) (pe_op op_catA (pe_op op_catA (pe_slice sl_tupA (pv 1) po_none (po_some (pv 3))) (pe_tup (pa_cons (pv 2) pa_nil))) (pe_slice sl_tupA (pv 1) (po_some (pe_op op_add (pv 3) pe_int)) po_none)))
      (pss_one (ps_if (pt_cmpR (op_neD hr.units) (pe_lc (own := [("_law_way", 5)]) (g := gName 5) (tt := tYes) (te := tCall (spOut K) [] E0 (tCons (tVar 5) (tCons (tVar 4) (tCons (tC .non) tNil)))) rfl nd (pi_range1 (by rfl) T.range (pa_cons pe_int pa_nil)) (blkOk_by (N := n_L_refused_right) (sc := defScope s_L_refused_right) (by decide +kernel))
          (fun _ _ _ _ _ => pg_name (i := 5) nd rfl (Or.inl rfl)) (fun _ _ _ _ _ => pts_nil) (fun _ _ _ _ _ => pe_call Go hr (by rfl) mo Fo.kp bo .nil pass0 (pa_cons (pv 5) (pa_cons (pv 4) (pa_cons pe_non pa_nil)))))
          (pe_op op_rep (pe_lst (pa_cons (pe_tup (pa_cons pe_str (pa_cons (pv 3) pa_nil))) pa_nil)) pe_int) (nomark _)) (pss_one (ps_ret pe_bl)) pss_nil))))
    (pss_cons (ps_for PassesOwn.never rfl (pi_list (pe_lst (pa_cons pe_non (pa_cons (pe_lst pa_nil) (pa_cons (pe_op op_rep1 (pe_tup (pa_cons (pe_tup pa_nil) pa_nil)) (pe_op op_add (pe_callB call_len_seq (by rfl) T.len PySem.boot_len (pa_cons (pv 1) pa_nil)) pe_int))
        (pa_cons (pe_op op_rep1 (pe_tup (pa_cons pe_int pa_nil)) (pe_callB call_len_seq (by rfl) T.len PySem.boot_len (pa_cons (pv 1) pa_nil))) (pa_cons (pe_op op_rep1 (pe_tup (pa_cons (pe_tup (pa_cons pe_int pa_nil)) pa_nil)) (pe_callB call_len_seq (by rfl) T.len PySem.boot_len (pa_cons (pv 1) pa_nil))) pa_nil))))))) (pg_name (i := 2) nd rfl (Or.inr rfl))
      (pss_one (ps_if (pt_cmpR op_ne (pe_call Go hr (by rfl) mo Fo.kp bo .nil pass0 (pa_cons pe_int (pa_cons (pv 1) (pa_cons (pv 2) pa_nil)))) pe_str (nomark _)) (pss_one (ps_ret pe_bl)) pss_nil)))
    (pss_one (ps_ret (pe_cmpR op_isN (pe_call Go hr (by rfl) mo Fo.kp bo .nil pass0 (pa_cons pe_int (pa_cons (pv 1) (pa_cons (pe_call Gr (hr.mono (by decide)) (by rfl) mr Fr'.kp br .nil L2.passL (pa_cons (pv 1) pa_nil)) pa_nil)))) pe_non (nomark _))))))), ?_⟩
  obtain ⟨a, rfl, ha⟩ := dp_tD hd
  have hdH : Dp K H (.ref a) (tD t) := hd.same frx_sub
  have tl := gt.le
  have tp := gt.pos
  -- what is no tree at all
  refine ⟨Nat.zero_le _, fun p1 hp1 => ?_⟩
  have d1 := nx_tup (K := K) hp1 .nil
  have sA := Same.upd (o := .tup []) hp1
  generalize upd H p1 (.tup []) = G1 at *
  refine ⟨_, rfl, a, _, rfl, .inr (sA.tup (frx_sub.tup ha)), fun p2 hp2 => ?_⟩
  have d2 := nx_lst (K := K) hp2 (ints_dpAll t)
  have s2 := Same.upd (o := .lst (t.map V.int)) hp2
  replace d1 := d1.same s2
  replace sA := sA.trans s2
  generalize upd G1 p2 (.lst (t.map V.int)) = G2 at *
  refine ⟨_, rfl, Nat.le_of_lt (small1000 (by simp)), fun p3 hp3 => ?_⟩
  have d3 := nx_tup (K := K) hp3 (.cons (.int (-1)) .nil)
  have s3 := Same.upd (o := .tup [.int (-1)]) hp3
  replace d1 := d1.same s3
  replace d2 := d2.same s3
  replace sA := sA.trans s3
  refine ⟨Nat.le_of_lt (small1000 (by simp)), fun p4 hp4 => ?_⟩
  have d4 := nx_tup (K := K) hp4 (.cons (.int 0) .nil)
  have s4 := Same.upd (o := .tup [.int 0]) hp4
  replace d1 := d1.same s4
  replace d2 := d2.same s4
  replace d3 := d3.same s4
  replace sA := sA.trans s4
  refine tC_of ?_
  refine rx_rep (k := 40) d4 (by decide) (by decide) fun x5 G5 s5 d5 => ?_
  replace d1 := d1.same s5
  replace d2 := d2.same s5
  replace d3 := d3.same s5
  replace sA := sA.trans s5
  refine rx_cat d3 d5 (by simp) fun x6 G6 s6 d6 => ?_
  replace d1 := d1.same s6
  replace d2 := d2.same s6
  replace sA := sA.trans s6
  refine ⟨Nat.le_of_lt (small1000 (by simp)), fun q1 hq1 => ?_⟩
  have hall : DpAll K G6 [.non, .ref p1, .ref p2, x6, .int 5] [.none, .tuple [], .list (t.map PyData.int), .tuple ([.int (-1)] ++ List.replicate 40 (.int 0)), .int 5] := .cons .non (.cons d1 (.cons d2 (.cons d6 (.cons (.int 5) .nil))))
  have s7 := Same.upd (o := .lst [.non, .ref p1, .ref p2, x6, .int 5]) hq1
  have hL1 : upd G6 q1 (.lst [.non, .ref p1, .ref p2, x6, .int 5]) q1 = some (.lst [.non, .ref p1, .ref p2, x6, .int 5]) := upd_same
  replace hall := hall.same s7
  replace sA := sA.trans s7
  generalize upd G6 q1 (.lst [.non, .ref p1, .ref p2, x6, .int 5]) = G7 at *
  have hbad : ∀ d ∈ [PyData.none, .tuple [], .list (t.map PyData.int), .tuple ([.int (-1)] ++ List.replicate 40 (.int 0)), .int 5], treeBad d = some .non := fun d hd' => by
    simp only [List.mem_cons, List.not_mem_nil, or_false] at hd'
    rcases hd' with rfl | rfl | rfl | rfl | rfl <;> rfl
  generalize [PyData.none, .tuple [], .list (t.map PyData.int), .tuple ([.int (-1)] ++ List.replicate 40 (.int 0)), .int 5] = ds1 at *
  generalize [V.non, .ref p1, .ref p2, x6, .int 5] = xs1 at *
  refine ⟨q1, rfl, ⟨_, .of hL1⟩, ?_⟩
  refine for_it (walk_list (xs := xs1)) (Pv := fun i σ G => ∃ o2, σ = [some (.ref m), some (.ref a), o2, none, none, none] ∧ Same G7 G) ⟨none, rfl, Same.refl _⟩ (fun i σ G _ h => ?_) (fun i x σ G G' hi hp hy => ?_) fun σ G hp => ?_
  · obtain ⟨_, _, sm⟩ := h
    exact .of (sm _ _ hL1)
  · obtain ⟨o2, rfl, sm⟩ := hp
    obtain ⟨rfl, hx⟩ := hy
    obtain ⟨hil, hdx⟩ := hall.at hx
    have hb := hbad _ (mem_getD hil rfl)
    refine ⟨6, rfl, by decide, by decide, fun D hD => ?_⟩
    refine lc_six (hdx.same sm) hb (fun _ => .non) hD (fun _ => rfl) (fun _ => rfl) (fun _ => rfl) fun G8 s8 h6 => ?_
    refine rd_six (K := K) .non (fun _ h => h) fun r G9 s9 h6' => ?_
    refine ⟨_, _, h6.same s9, h6', six_shaped rfl, six_shaped rfl, _, rfl, ?_⟩
    rw [six_same rfl]
    refine iteF ?_
    exact ⟨_, rfl, (sm.trans s8).trans s9⟩
  obtain ⟨o2, rfl, sm⟩ := hp
  replace sA := sA.trans sm
  clear hall hbad hL1 s7 sm d1 d2 d3 d4 d5 d6 s2 s3 s4 s5 s6
  -- a place that is none
  have gA := g.grow sA
  have sfA := frx_grow (m := m) (l := l) sA
  refine ⟨_, rfl, _, rfl, a, _, rfl, .inr (sA.tup (frx_sub.tup ha)), m, l, c, n, ((t.map V.int).length : Nat), rfl, gA, by omega, by rw [List.length_map]; omega, by rw [List.length_map]; omega, fun K1 l2 r2 g2 sf2 hr20 hr21 => ?_⟩
  rw [List.length_map] at hr21
  obtain ⟨p, rfl⟩ : ∃ p : Nat, r2 = (p : Int) := ⟨r2.toNat, by omega⟩
  have hpt : p < t.length := by omega
  have sF := sfA.trans sf2
  have hd1 : Dp K K1 (.ref a) (tD t) := (hd.same sF).same frx_sub
  refine ⟨_, rfl, _, rfl, _, rfl, _, _, rfl, rfl, _, rfl, ?_⟩
  refine tIf_neg (Pz := fun z => placeBad p (.int z) = true) (fun h => ?_) (fun h => ?_) fun z hz => ?_
  · have h' := of_decide_eq_true h
    have i0 : 0 < p := by omega
    simp [placeBad, i0]
  · have h' := of_decide_eq_false h
    have i0 : p = 0 := by omega
    simp [placeBad, i0]
  refine ⟨Nat.le_of_lt (small1000 (by simp)), fun q2 hq2 => ?_⟩
  have hall : DpAll K K1 [.non, .int (-2), .int (p : Nat), .bl true, .str "0", .int z] [.none, .int (-2), .int (p : Nat), .bool true, .str "0", .int z] := .cons .non (.cons (.int _) (.cons (.int _) (.cons (.bl _) (.cons (.str _) (.cons (.int _) .nil)))))
  have s1 := Same.upd (o := .lst [.non, .int (-2), .int (p : Nat), .bl true, .str "0", .int z]) hq2
  have hL2 : upd K1 q2 (.lst [.non, .int (-2), .int (p : Nat), .bl true, .str "0", .int z]) q2 = some (.lst [.non, .int (-2), .int (p : Nat), .bl true, .str "0", .int z]) := upd_same
  replace hall := hall.same s1
  replace hd1 := hd1.same s1
  have sB := s1
  generalize upd K1 q2 (.lst [.non, .int (-2), .int (p : Nat), .bl true, .str "0", .int z]) = K2 at *
  have hbad : ∀ d ∈ [PyData.none, .int (-2), .int (p : Nat), .bool true, .str "0", .int z], placeBad p d = true := fun d hd' => by
    simp only [List.mem_cons, List.not_mem_nil, or_false] at hd'
    rcases hd' with rfl | rfl | rfl | rfl | rfl | rfl
    · rfl
    · by_cases i0 : p = 0
      · simp [placeBad, i0]
      · have : 0 < p := by omega
        simp [placeBad, i0, this]
    · by_cases i0 : p = 0
      · simp [placeBad, i0]
      · have : 0 < p := by omega
        simp [placeBad, i0, this]
    · rfl
    · rfl
    · exact hz
  generalize [PyData.none, .int (-2), .int (p : Nat), .bool true, .str "0", .int z] = ds2 at *
  generalize [V.non, .int (-2), .int (p : Nat), .bl true, .str "0", .int z] = xs2 at *
  refine ⟨q2, rfl, ⟨_, .of hL2⟩, ?_⟩
  refine for_it (walk_list (xs := xs2)) (Pv := fun i σ G => ∃ o2 o4, σ = [some (.ref m), some (.ref a), o2, some (.int (p : Nat)), o4, none] ∧ Same K2 G) ⟨_, _, rfl, Same.refl _⟩ (fun i σ G _ h => ?_) (fun i x σ G G' hi hp hy => ?_) fun σ G hp => ?_
  · obtain ⟨_, _, _, sm⟩ := h
    exact .of (sm _ _ hL2)
  · obtain ⟨o2, o4, rfl, sm⟩ := hp
    obtain ⟨rfl, hx⟩ := hy
    obtain ⟨hil, hdx⟩ := hall.at hx
    have hb := bad_place gt hpt (hbad _ (mem_getD hil rfl))
    generalize ds2.getD i .none = dx at *
    replace hdx := hdx.same sm
    have hda := hd1.same sm
    refine ⟨_, rfl, _, rfl, _, rfl, ?_⟩
    refine rx_slice hda fun y1 L1 t1 e1 => ?_
    replace hda := hda.same t1
    replace hdx := hdx.same t1
    rw [cutD_take] at e1
    refine ⟨_, rfl, Nat.le_of_lt (small1000 (by simp)), fun w2 hw2 => ?_⟩
    have e2 := nx_tup hw2 (.cons hdx .nil)
    have t2 := Same.upd (o := .tup [x]) hw2
    replace hda := hda.same t2
    replace e1 := e1.same t2
    refine rx_cat e1 e2 (by rw [List.length_take, List.length_map]; simp only [List.length_cons, List.length_nil]; omega) fun y3 L3 t3 e3 => ?_
    replace hda := hda.same t3
    refine ⟨_, rfl, _, rfl, _, _, rfl, rfl, _, rfl, ?_⟩
    refine noPart_of ?_
    refine rx_slice hda fun y4 L4 t4 e4 => ?_
    have ecut : cutD (t.map PyData.int) (some ((p : Int) + 1)) none = (t.map PyData.int).drop (p + 1) := by
      rw [show (p : Int) + 1 = ((p + 1 : Nat) : Int) by omega]
      exact cutD_drop _ _
    rw [ecut] at e4
    refine rx_cat (e3.same t4) e4 (by simp only [List.length_append, List.length_take, List.length_drop, List.length_map, List.length_cons, List.length_nil]; omega) fun y5 L5 t5 e5 => ?_
    refine ⟨6, rfl, by decide, by decide, fun D hD => ?_⟩
    refine lc_six (xd := .int (p : Nat)) e5 hb (fun _ => .int _) hD (fun _ => rfl) (fun _ => rfl) (fun _ => rfl) fun L8 s8 h6 => ?_
    refine rd_six (K := K) (xd := .int (p : Nat)) (.int _) (fun _ h => ⟨_, rfl, h⟩) fun r L9 s9 h6' => ?_
    refine ⟨_, _, h6.same s9, h6', six_shaped rfl, six_shaped rfl, _, rfl, ?_⟩
    rw [six_same rfl]
    refine iteF ?_
    exact ⟨_, _, rfl, (((((sm.trans t1).trans t2).trans t3).trans t4).trans t5).trans (s8.trans s9)⟩
  obtain ⟨o2, o4, rfl, sm⟩ := hp
  replace hd1 := hd1.same sm
  replace sB := sB.trans sm
  clear hall hbad hL2 s1 sm
  -- what is no order
  refine ⟨Nat.zero_le _, fun w1 hw1 => ?_⟩
  have d1 := nx_lst (K := K) hw1 .nil
  have s1 := Same.upd (o := .lst []) hw1
  replace hd1 := hd1.same s1
  replace sB := sB.trans s1
  generalize upd G w1 (.lst []) = M1 at *
  refine ⟨Nat.zero_le _, fun w2 hw2 => ?_⟩
  have d2 := nx_tup (K := K) hw2 .nil
  have s2 := Same.upd (o := .tup []) hw2
  replace d1 := d1.same s2
  replace hd1 := hd1.same s2
  replace sB := sB.trans s2
  generalize upd M1 w2 (.tup []) = M2 at *
  refine ⟨Nat.le_of_lt (small1000 (by simp)), fun w3 hw3 => ?_⟩
  have d3 := nx_tup (K := K) hw3 (.cons d2 .nil)
  have s3 := Same.upd (o := .tup [.ref w2]) hw3
  replace d1 := d1.same s3
  replace hd1 := hd1.same s3
  replace sB := sB.trans s3
  generalize upd M2 w3 (.tup [.ref w2]) = M3 at *
  obtain ⟨a3, ea3, ha3⟩ := dp_tD hd1
  cases ea3
  refine ⟨_, rfl, a, _, rfl, .inr ha3, _, _, rfl, rfl, ?_⟩
  have el : (fun (i j : Int) => V.int (i + j)) ((t.map V.int).length : Nat) 1 = V.int ((t.length + 1 : Nat) : Int) := by
    show V.int (((t.map V.int).length : Int) + 1) = _
    rw [List.length_map]
    congr 1
  rw [el]
  refine rx_rep (k := t.length + 1) d3 (by omega) (by omega) fun x4 M4 s4 d4 => ?_
  replace d1 := d1.same s4
  replace hd1 := hd1.same s4
  replace sB := sB.trans s4
  refine ⟨Nat.le_of_lt (small1000 (by simp)), fun w5 hw5 => ?_⟩
  have d5 := nx_tup (K := K) hw5 (.cons (.int 5) .nil)
  have s5 := Same.upd (o := .tup [.int 5]) hw5
  replace d1 := d1.same s5
  replace d4 := d4.same s5
  replace hd1 := hd1.same s5
  replace sB := sB.trans s5
  generalize upd M4 w5 (.tup [.int 5]) = M5 at *
  obtain ⟨a5, ea5, ha5⟩ := dp_tD hd1
  cases ea5
  refine ⟨_, rfl, a, _, rfl, .inr ha5, ?_⟩
  rw [List.length_map]
  refine rx_rep (k := t.length) d5 (by omega) (by omega) fun x6 M6 s6 d6 => ?_
  replace d1 := d1.same s6
  replace d4 := d4.same s6
  replace hd1 := hd1.same s6
  replace sB := sB.trans s6
  refine ⟨Nat.le_of_lt (small1000 (by simp)), fun w7 hw7 => ?_⟩
  have d7 := nx_tup (K := K) hw7 (.cons (.int 0) .nil)
  have s7 := Same.upd (o := .tup [.int 0]) hw7
  replace d1 := d1.same s7
  replace d4 := d4.same s7
  replace d6 := d6.same s7
  replace hd1 := hd1.same s7
  replace sB := sB.trans s7
  generalize upd M6 w7 (.tup [.int 0]) = M7 at *
  refine ⟨Nat.le_of_lt (small1000 (by simp)), fun w8 hw8 => ?_⟩
  have d8 := nx_tup (K := K) hw8 (.cons d7 .nil)
  have s8 := Same.upd (o := .tup [.ref w7]) hw8
  replace d1 := d1.same s8
  replace d4 := d4.same s8
  replace d6 := d6.same s8
  replace hd1 := hd1.same s8
  replace sB := sB.trans s8
  generalize upd M7 w8 (.tup [.ref w7]) = M8 at *
  obtain ⟨a8, ea8, ha8⟩ := dp_tD hd1
  cases ea8
  refine ⟨_, rfl, a, _, rfl, .inr ha8, ?_⟩
  rw [List.length_map]
  refine rx_rep (k := t.length) d8 (by omega) (by omega) fun x9 M9 s9 d9 => ?_
  replace d1 := d1.same s9
  replace d4 := d4.same s9
  replace d6 := d6.same s9
  replace hd1 := hd1.same s9
  replace sB := sB.trans s9
  refine ⟨Nat.le_of_lt (small1000 (by simp)), fun q3 hq3 => ?_⟩
  have hall : DpAll K M9 [.non, .ref w1, x4, x6, x9] [.none, .list [], .tuple (List.replicate (t.length + 1) (.tuple [])), .tuple (List.replicate t.length (.int 5)), .tuple (List.replicate t.length (.tuple [.int 0]))] := .cons .non (.cons d1 (.cons d4 (.cons d6 (.cons d9 .nil))))
  have s10 := Same.upd (o := .lst [.non, .ref w1, x4, x6, x9]) hq3
  have hL3 : upd M9 q3 (.lst [.non, .ref w1, x4, x6, x9]) q3 = some (.lst [.non, .ref w1, x4, x6, x9]) := upd_same
  replace hall := hall.same s10
  replace hd1 := hd1.same s10
  replace sB := sB.trans s10
  generalize upd M9 q3 (.lst [.non, .ref w1, x4, x6, x9]) = M10 at *
  have hbad : ∀ d ∈ [PyData.none, .list [], .tuple (List.replicate (t.length + 1) (.tuple [])), .tuple (List.replicate t.length (.int 5)), .tuple (List.replicate t.length (.tuple [.int 0]))], isOrd t d = false ∧ RS d ∧ SS d := fun d hd' => by
    simp only [List.mem_cons, List.not_mem_nil, or_false] at hd'
    rcases hd' with rfl | rfl | rfl | rfl | rfl
    · exact ⟨rfl, rs_none, ss_none⟩
    · exact ⟨rfl, (fun ds e => by cases e), (fun o p e => by cases e)⟩
    · refine ⟨ord_len (by rw [List.length_replicate]; omega), rs_rep fun es e => ?_, ss_rep fun ds e es he => ?_⟩
      · have z2 : [] = es := by injection e
        rw [← z2]
        exact ⟨Nat.zero_le _, rfl⟩
      · have z2 : [] = ds := by injection e
        rw [← z2] at he
        cases he
    · exact ⟨ord_five gt rfl, rs_rep (fun es e => by cases e), ss_rep (fun ds e => by cases e)⟩
    · refine ⟨ord_five gt (row_zero t 0), rs_rep (rowP_int (r := [0]) (by simp)), ss_rep (rs_ints [0])⟩
  generalize [PyData.none, .list [], .tuple (List.replicate (t.length + 1) (.tuple [])), .tuple (List.replicate t.length (.int 5)), .tuple (List.replicate t.length (.tuple [.int 0]))] = ds3 at *
  generalize [V.non, .ref w1, x4, x6, x9] = xs3 at *
  refine ⟨q3, rfl, ⟨_, .of hL3⟩, ?_⟩
  refine for_it (walk_list (xs := xs3)) (Pv := fun i σ G => ∃ o2 o4, σ = [some (.ref m), some (.ref a), o2, some (.int (p : Nat)), o4, none] ∧ Same M10 G) ⟨_, _, rfl, Same.refl _⟩ (fun i σ G _ h => ?_) (fun i x σ G G' hi hp hy => ?_) fun σ G hp => ?_
  · obtain ⟨_, _, _, sm⟩ := h
    exact .of (sm _ _ hL3)
  · obtain ⟨o2, o4, rfl, sm⟩ := hp
    obtain ⟨rfl, hx⟩ := hy
    obtain ⟨hil, hdx⟩ := hall.at hx
    obtain ⟨b1, b2, b3⟩ := hbad _ (mem_getD hil rfl)
    refine ⟨_, rfl, _, rfl, 1, .ref a, x, tD t, _, rfl, hd1.same sm, hdx.same sm, .inr (.inr ⟨t, b2, rfl, gt, rfl, fun L1 t1 => ?_⟩)⟩
    rw [b1, if_neg (by decide)]
    refine ⟨rfl, _, rfl, ?_⟩
    refine if_b (fun h => absurd h (by simp)) fun _ => ?_
    exact ⟨_, _, rfl, sm.trans t1⟩
  obtain ⟨o2, o4, rfl, sm⟩ := hp
  replace hd1 := hd1.same sm
  replace sB := sB.trans sm
  -- its own order
  have gB := g2.grow sB
  refine ⟨_, rfl, _, rfl, .ref a, tD t, rfl, hd1, fun x hx => (by rw [bad_of_good gt] at hx; cases hx), fun t' et g' => ⟨gB.tabs, fun N1 po R e2 hT2 hdp ho => ?_⟩⟩
  have ett : t = t' := tD_inj et
  subst ett
  obtain ⟨rsO, ssO⟩ := rs_ord gt ho
  refine ⟨1, .ref a, .ref po, tD t, oD R, rfl, hd1.extN e2, hdp.same nuT_same, .inr (.inr ⟨t, rsO, rfl, gt, rfl, fun N2 s12 => ?_⟩)⟩
  rw [if_pos (ord_to ho)]
  refine ⟨rfl, ?_⟩
  exact q _ l2 ((gB.ext e2 hT2).grow s12) ((ExtN.of sF).trans (((ExtN.of (frx_grow (m := m) (l := l2) sB)).trans (frx_mono e2)).trans (ExtN.of (frx_grow s12))))
end
end K10
set_option Elab.async false
set_option linter.all false
set_option maxRecDepth 100000
set_option maxHeartbeats 4000000
/-! the law -/
namespace K10
open PySem PySem.Spec PyProof.Rows L2 LamX
/-- repr of a whole number or of a text -/
def rRp : List V → Hp → VK → Prop := fun xs H Q => (∃ i, xs = [.int i] ∧ i.natAbs.log2 < 1920 ∧ Q (.str (toString i)) H) ∨ ∃ z : Str, xs = [.str z] ∧ (reprText z).length ≤ sizeLine ∧ Q (.str (reprText z)) H
theorem call_rp {X : Cx} : CallR X (.builtin "repr") rRp := by
  intro pins s σ H xs us Q I r h
  rcases h with h | h
  · exact SkE.call_repr_int pins s σ H xs us Q I r h
  · exact call_repr_txt pins s σ H xs us Q I r h
theorem tNil_of {σ : L2.St} {H : Hp} {Q : List V → Hp → Prop} (h : Q [] H) : tNil σ H Q := h
/-- what chk answers can be told -/
theorem rp_chk {r : Str ⊕ Int} (h : ∀ i, r = .inr i → 0 ≤ i ∧ i ≤ 64000) (h2 : ∀ x, r = .inl x → (reprText x).length ≤ sizeLine) : ∃ z : Str, ∀ (H : Hp) (Q : VK), Q (.str z) H → rRp [chkV r] H Q := by
  cases r with
  | inr i =>
    obtain ⟨h0, h1⟩ := h i rfl
    refine ⟨toString i, fun H Q q => .inl ⟨i, rfl, ?_, q⟩⟩
    have : i.natAbs.log2 ≤ 64000 := Nat.le_trans (Nat.log2_le_self _) (by omega)
    have h3 : i.natAbs < 2 ^ 17 := by omega
    have h4 : i.natAbs.log2 < 17 := by
      by_cases z : i.natAbs = 0
      · rw [z]
        decide
      · exact (Nat.log2_lt z).mpr h3
    omega
  | inl x => exact ⟨reprText x, fun H Q q => .inr ⟨x, rfl, h2 x rfl, q⟩⟩
theorem chk_text {t : List Int} {d : PyData} {x : Str} (h : chk t d = .inl x) : (reprText x).length ≤ sizeLine := by
  have : x = "form" ∨ x = "order" ∨ x = "picks" := by
    unfold chk at h
    split at h
    · split at h
      · split at h
        · cases h
        · injection h with h
          exact .inr (.inr h.symm)
      · injection h with h
        exact .inr (.inl h.symm)
    · injection h with h
      exact .inl h.symm
  rcases this with rfl | rfl | rfl <;> decide +kernel
theorem ss_mem {fs : List PyData} (h : ∀ f ∈ fs, RS f) : SS (.tuple fs) := fun o p e => by
  have z : fs = [o, p] := by injection e
  exact h o (by rw [z]; exact List.mem_cons_self)
theorem fry_to {Dx m l : Addr} {H : Hp} : Same (fry Dx m l H) (frx m l H) := fun b o h => by
  unfold fry at h
  split at h
  · cases h
  · exact h
theorem fry_upd {Dx m l : Addr} {H : Hp} {o : HO} : Same (fry Dx m l H) (fry Dx m l (upd H Dx o)) := fun b u h => by
  unfold fry at h ⊢
  split at h
  · cases h
  · rename_i n
    rw [if_neg n]
    obtain ⟨k1, k2, k3⟩ := frx_ne h
    rw [frx_at k1 k2, upd_ne n]
    exact k3
/-- what was there before the list is not the list -/
theorem frx_fry {Dx m l l' : Addr} {A B : Hp} (e : Same (frx m l A) (frx m l' B)) (h : A Dx = none) : Same (frx m l A) (fry Dx m l' B) := fun b o q => by
  obtain ⟨k1, k2, k3⟩ := frx_ne q
  have n : b ≠ Dx := ne_of_none k3 h
  unfold fry
  rw [if_neg n]
  exact e b o q
theorem nuT_frx {p0 m l c : Addr} {n : Nat} {A B : Hp} (g : Gen p0 m l c n A) : Same (nuT A B) (frx m l B) := fun b o h => by
  obtain ⟨⟨k, hk, hd⟩, ⟨ls, hl⟩, _⟩ := g
  have n1 : b ≠ m := fun z => by
    rw [z, nuT_old hd fun q y => by cases y] at h
    cases h
  have n2 : b ≠ l := fun z => by
    rw [z, nuT_old hl fun q y => by cases y] at h
    cases h
  rw [frx_at n1 n2]
  exact nuT_same b o h
section
variable {P : Program} {w : World} {K : PySem.W.Frag} {mg : Str → Option Value} {base : Heap} (T : Nm mg) {CT p0 : Addr}
include T
def spLaw (K : PySem.W.Frag) (p0 : Addr) : Sp := fun vs H Q E => ∃ (s : Addr) (ns : List Int), vs = [.ref s] ∧ SqL K H s (ns.map V.int) ∧ ns.length ≤ 63 ∧ Tabs (tabT p0) H ∧ ∀ H', Q (.bl true) H'
theorem ok_Law (kb : Kn P w K mg base CX0 1 "_law_begun" s_L_begun ["_law_script"] (spBg K p0)) (kt : Kn P w K mg base CX0 2 "_law_tree" s_L_tree ["_law_m", "_law_top"] (spTr K p0))
    (kp : Kn P w K mg base (L2.CX P w) 5 "relay_paper" s_relay_paper ["tree"] (spRP K CT p0)) (kn : Kn P w K mg base CX0 2 "_law_bent" s_L_bent ["_law_m", "_law_sheet"] (spBt K p0))
    (ko : Kn P w K mg base CX0 6 "_law_outcome" s_L_outcome ["_law_way", "_law_tree_here", "_law_thing"] (spOut K)) (kd : Kn P w K mg base CX0 3 "_law_due" s_L_due ["_law_tree_here", "_law_sheet"] (spLD K))
    (kr : Kn P w K mg base CX0 7 "_law_refused_right" s_L_refused_right ["_law_m", "_law_tree_here"] (spRf K p0))
    {f : Addr} {fd : FuncData} (F : Fun K "law" "law" s_Law f fd) : FnOk P w K mg base CX0 8 f fd ["_law_script"] (spLaw K p0) := by
  obtain ⟨fb, fdb, Fb, mb, Gb⟩ := kb
  obtain ⟨ft, fdt, Ft, mt, Gt⟩ := kt
  obtain ⟨fp, fdp, Fp, mp, Gp⟩ := kp
  obtain ⟨fn, fdn, Fn, mn, Gn⟩ := kn
  obtain ⟨fo, fdo, Fo, mo, Go⟩ := ko
  obtain ⟨fe, fde, Fe, me, Ge⟩ := kd
  obtain ⟨fr, fdr, Fr', mr, Gr⟩ := kr
  refine F.ok sc_Law (by rintro _ _ _ _ ⟨s, ns, rfl, _⟩; rfl) fun cdv A outer sh H vs Q E hr hsp => ?_
  obtain ⟨s, ns, rfl, hs, hns, hT, q⟩ := hsp
  have nd := sc_Law.nd
  have bb : Binds K fdb ["_law_script"] [] := Fb.binds (fun _ _ _ _ _ _ us hl => match us, hl with | [_], _ => rfl)
  have bt : Binds K fdt ["_law_m", "_law_top"] [] := Ft.binds (fun _ _ _ _ _ _ us hl => match us, hl with | [_, _], _ => rfl)
  have bp : Binds K fdp ["tree"] [] := Fp.binds (fun _ _ _ _ _ _ us hl => match us, hl with | [_], _ => rfl)
  have bn : Binds K fdn ["_law_m", "_law_sheet"] [] := Fn.binds (fun _ _ _ _ _ _ us hl => match us, hl with | [_, _], _ => rfl)
  have bo : Binds K fdo ["_law_way", "_law_tree_here", "_law_thing"] [] := Fo.binds (fun _ _ _ _ _ _ us hl => match us, hl with | [_, _, _], _ => rfl)
  have be : Binds K fde ["_law_tree_here", "_law_sheet"] [] := Fe.binds (fun _ _ _ _ _ _ us hl => match us, hl with | [_, _], _ => rfl)
  have br : Binds K fdr ["_law_m", "_law_tree_here"] [] := Fr'.binds (fun _ _ _ _ _ _ us hl => match us, hl with | [_, _], _ => rfl)
  refine ⟨_, pss_cons (ps_set (i := 1) nd rfl (Or.inr rfl) (pe_call Gb (hr.mono (by decide)) (by rfl) mb Fb.kp bb .nil pass0 (pa_cons (pv 0) pa_nil)))
    (pss_cons (ps_for PassesOwn.never rfl (pi_range1 (by rfl) T.range (pa_cons (pe_op op_add pe_int (pe_callB (call_min2 rfl) (by rfl) T.min (by decide +kernel) (pa_cons (pe_callB call_len_seq (by rfl) T.len PySem.boot_len (pa_cons (pv 0) pa_nil)) (pa_cons pe_int pa_nil)))) pa_nil)) (pg_name (i := 2) nd rfl (Or.inl rfl))
      (pss_cons (ps_set (i := 3) nd rfl (Or.inl rfl) (pe_call Gt (hr.mono (by decide)) (by rfl) mt Ft.kp bt .nil pass0 (pa_cons (pv 1) (pa_cons pe_int pa_nil))))
      (pss_cons (ps_set (i := 4) nd rfl (Or.inr rfl) (pe_call Gp (hr.mono (by decide)) (by rfl) mp Fp.kp bp .nil L2.passL (pa_cons (pv 3) pa_nil)))
      (pss_cons (ps_set (i := 5) nd rfl (Or.inl rfl) (pe_lst (pa_cons (pv 4) (pa_cons pe_non (pa_cons (pe_tup pa_nil) (pa_cons (pe_slice sl_tupA (pv 4) po_none (po_some pe_int)) (pa_cons (pe_op op_catA (pv 4) (pe_tup (pa_cons pe_int pa_nil))) (pa_cons (pe_revT (pv 4)) pa_nil))))))))
      (pss_cons (ps_for PassesOwn.never rfl (pi_list (pe_op op_cat (pv 5) (pe_lc (own := [("_law_k", 7)]) (g := gName 7) (tt := tYes) (te := tCall (spBt K p0) [] E0 (tCons (tVar 1) (tCons (tVar 4) tNil))) rfl nd (pi_range1 (by rfl) T.range (pa_cons pe_int pa_nil)) (blkOk_by (N := n_Law) (sc := defScope s_Law) (by decide +kernel))
            (fun _ _ _ _ _ => pg_name (i := 7) nd rfl (Or.inl rfl)) (fun _ _ _ _ _ => pts_nil) (fun _ _ _ _ _ => pe_call Gn (hr.mono (by decide)) (by rfl) mn Fn.kp bn .nil pass0 (pa_cons (pv 1) (pa_cons (pv 4) pa_nil)))))) (pg_name (i := 6) nd rfl (Or.inl rfl))
          (pss_one (ps_if (pt_cmpR op_ne (pe_callB call_rp (by rfl) T.repr (by decide +kernel) (pa_cons (pe_call Go (hr.mono (by decide)) (by rfl) mo Fo.kp bo .nil pass0 (pa_cons pe_int (pa_cons (pv 3) (pa_cons (pv 6) pa_nil)))) pa_nil))
            (pe_callB call_rp (by rfl) T.repr (by decide +kernel) (pa_cons (pe_call Ge (hr.mono (by decide)) (by rfl) me Fe.kp be .nil pass0 (pa_cons (pv 3) (pa_cons (pv 6) pa_nil))) pa_nil)) (nomark _)) (pss_one (ps_ret pe_bl)) pss_nil)))
      (pss_one (ps_if (pt_not (pt_val (pe_call Gr hr (by rfl) mr Fr'.kp br .nil pass0 (pa_cons (pv 1) (pa_cons (pv 3) pa_nil))))) (pss_one (ps_ret pe_bl)) pss_nil)))))))
    (pss_one (ps_ret pe_bl))), ?_⟩
  refine ⟨_, rfl, s, ns, rfl, hs, by omega, hT, fun H1 m l0 c s1 g0 => ?_⟩
  have hs1 := s1.seq hs
  obtain ⟨J, hJ⟩ : ∃ J : Int, J = (2 : Int) + (if (4 : Int) < (((ns.map V.int).length : Nat) : Int) then (4 : Int) else (((ns.map V.int).length : Nat) : Int)) := ⟨_, rfl⟩
  have hJ6 : 0 ≤ J ∧ J ≤ 6 := by
    rw [hJ, List.length_map]
    split <;> omega
  refine ⟨_, rfl, s, _, rfl, .inl hs1, _, _, rfl, _, _, rfl, rfl, J, congrArg (fun z => [V.int z]) hJ.symm, by omega, by omega, ?_⟩
  refine for_it (walk_range (lo := 0) (n := J.toNat)) (Pv := fun i σ G => ∃ (o2 o3 o4 o5 o6 o7 : Option V) (l : Addr), σ = [some (.ref s), some (.ref m), o2, o3, o4, o5, o6, o7] ∧ Gen p0 m l c (100 * i) G)
    ⟨_, _, _, _, _, _, l0, rfl, g0⟩ (fun _ _ _ _ _ => trivial) (fun i x σ G0 G' hi hp hy => ?_) fun σ G hp => ?_
  · obtain ⟨o2, o3, o4, o5, o6, o7, l, rfl, g⟩ := hp
    obtain ⟨rfl, ex⟩ := hy
    -- the tree and its paper
    refine ⟨_, rfl, m, l, c, 100 * i, rfl, g, by omega, fun G1 l1 tq t g1 sf1 gt htl hq => ?_⟩
    have hdt : Dp K (frx m l1 G1) (.ref tq) (tD t) := tD_dp (.of hq)
    refine ⟨_, rfl, .ref tq, tD t, rfl, hdt.same frx_sub, fun x hx => (by rw [bad_of_good gt] at hx; cases hx), fun t' et g' => ⟨g1.tabs, fun G2 pp R ps e2 hT2 hdp ho hpl => ?_⟩⟩
    have ett : t = t' := tD_inj et
    subst ett
    have hdP : Dp K (frx m l1 G2) (.ref pp) (.tuple [oD R, rD ps]) := hdp.same (nuT_frx g1)
    replace hdt := hdt.extN (frx_mono e2)
    have g2 := g1.ext e2 hT2
    obtain ⟨rsO, ssO⟩ := rs_ord gt ho
    have two : ∀ f ∈ [oD R, rD ps], RS f := fun f hf => by
      simp only [List.mem_cons, List.not_mem_nil, or_false] at hf
      rcases hf with rfl | rfl
      · exact rsO
      · exact rs_ints ps
    clear sf1 hq hdp e2
    -- six sheets
    have fr2 : ∀ {G : Hp} {n : Nat}, Gen p0 m l1 c n G → ∀ p, G p = none → p ≠ m ∧ p ≠ l1 ∧ p ≠ m := fun g p hp => ⟨(g.fresh hp).1, (g.fresh hp).2.1, (g.fresh hp).1⟩
    have inY : ∀ {G : Hp} {v : V} {d : PyData}, Dp K (frx m l1 G) v d → Dp K (fry m m l1 G) v d := fun h => h.same fun b o q => by
      obtain ⟨k1, k2, k3⟩ := frx_ne q
      rw [fry_at k1 ⟨k2, k1⟩]
      exact k3
    refine ⟨_, rfl, Nat.zero_le _, fun p1 hp1 => ?_⟩
    obtain ⟨n1, n2⟩ := fr2 g2 p1 hp1
    have s1' := Same.upd (o := .tup []) hp1
    have d1 : Dp K (frx m l1 (upd G2 p1 (.tup []))) (.ref p1) (.tuple []) := (new_tup (Dx := m) hp1 n1 n2 .nil).same fry_to
    replace hdt := hdt.same (frx_grow s1')
    replace hdP := hdP.same (frx_grow s1')
    replace g2 := g2.grow s1'
    generalize upd G2 p1 (.tup []) = G3 at *
    refine ⟨_, rfl, _, rfl, ?_⟩
    refine rd_slice (inY hdP) (fr2 g2) fun x2 G4 e2 s2 d2 len2 mem2 => ?_
    replace d2 := d2.same fry_to
    replace hdt := hdt.same (frx_grow s2)
    replace hdP := hdP.same (frx_grow s2)
    replace d1 := d1.same (frx_grow s2)
    replace g2 := g2.grow s2
    refine ⟨_, rfl, Nat.le_of_lt (small1000 (by simp)), fun p3 hp3 => ?_⟩
    obtain ⟨n1, n2⟩ := fr2 g2 p3 hp3
    have s3 := Same.upd (o := .tup [.int 0]) hp3
    have d3 : Dp K (fry m m l1 (upd G4 p3 (.tup [.int 0]))) (.ref p3) (.tuple [.int 0]) := new_tup hp3 n1 n2 (.cons (.int _) .nil)
    replace hdt := hdt.same (frx_grow s3)
    replace hdP := hdP.same (frx_grow s3)
    replace d1 := d1.same (frx_grow s3)
    replace d2 := d2.same (frx_grow s3)
    replace g2 := g2.grow s3
    refine rd_cat (inY hdP) d3 (by simp) (fr2 g2) fun x4 G5 e4 s4 d4 len4 mem4 => ?_
    replace d4 := d4.same fry_to
    replace hdt := hdt.same (frx_grow s4)
    replace hdP := hdP.same (frx_grow s4)
    replace d1 := d1.same (frx_grow s4)
    replace d2 := d2.same (frx_grow s4)
    replace g2 := g2.grow s4
    obtain ⟨pp', px, epp, hpp1, hpp2⟩ := dp_tup hdP
    cases epp
    refine ⟨_, rfl, pp, px, rfl, frx_sub.tup hpp1, fun p5 hp5 => ?_⟩
    obtain ⟨n1, n2⟩ := fr2 g2 p5 hp5
    have s5 := Same.upd (o := .tup px.reverse) hp5
    have d5 : Dp K (frx m l1 (upd G5 p5 (.tup px.reverse))) (.ref p5) (.tuple [oD R, rD ps].reverse) := (new_tup (Dx := m) hp5 n1 n2 (((DpAll.rev hpp2).same fun b o q => by
      obtain ⟨k1, k2, k3⟩ := frx_ne q
      rw [fry_at k1 ⟨k2, k1⟩]
      exact k3))).same fry_to
    replace hdt := hdt.same (frx_grow s5)
    replace hdP := hdP.same (frx_grow s5)
    replace d1 := d1.same (frx_grow s5)
    replace d2 := d2.same (frx_grow s5)
    replace d4 := d4.same (frx_grow s5)
    replace g2 := g2.grow s5
    generalize upd G5 p5 (.tup px.reverse) = G6 at *
    refine ⟨Nat.le_of_lt (small1000 (by simp)), fun q6 hq6 => ?_⟩
    have hall : DpAll K (frx m l1 G6) [.ref pp, .non, .ref p1, x2, x4, .ref p5] [.tuple [oD R, rD ps], .none, .tuple [], .tuple e2, .tuple e4, .tuple [oD R, rD ps].reverse] := .cons hdP (.cons .non (.cons d1 (.cons d2 (.cons d4 (.cons d5 .nil)))))
    obtain ⟨n1, n2⟩ := fr2 g2 q6 hq6
    have s6 := Same.upd (o := .lst [.ref pp, .non, .ref p1, x2, x4, .ref p5]) hq6
    have hL : frx m l1 (upd G6 q6 (.lst [.ref pp, .non, .ref p1, x2, x4, .ref p5])) q6 = some (.lst [.ref pp, .non, .ref p1, x2, x4, .ref p5]) := (frx_at n1 n2.1).trans upd_same
    replace hall := hall.same (frx_grow s6)
    replace hdt := hdt.same (frx_grow s6)
    replace hdP := hdP.same (frx_grow s6)
    replace g2 := g2.grow s6
    generalize upd G6 q6 (.lst [.ref pp, .non, .ref p1, x2, x4, .ref p5]) = G7 at *
    have hss : ∀ d ∈ [PyData.tuple [oD R, rD ps], .none, .tuple [], .tuple e2, .tuple e4, .tuple [oD R, rD ps].reverse], SS d := fun d hd' => by
      simp only [List.mem_cons, List.not_mem_nil, or_false] at hd'
      rcases hd' with rfl | rfl | rfl | rfl | rfl | rfl
      · exact ss_mem two
      · exact ss_none
      · exact ss_mem fun f hf => by cases hf
      · exact ss_mem fun f hf => two f (mem2 f hf)
      · refine ss_mem fun f hf => ?_
        rcases mem4 f hf with z | z
        · exact two f z
        · rw [List.mem_singleton.mp z]
          exact fun ds e => by cases e
      · exact ss_mem fun f hf => two f (List.mem_reverse.mp hf)
    have hxl : [V.ref pp, .non, .ref p1, x2, x4, .ref p5].length = 6 := rfl
    generalize [PyData.tuple [oD R, rD ps], .none, .tuple [], .tuple e2, .tuple e4, .tuple [oD R, rD ps].reverse] = ds6 at *
    generalize [V.ref pp, .non, .ref p1, x2, x4, .ref p5] = xs6 at *
    clear d1 d2 d4 d5 s1' s2 s3 s4 s5 s6 d3 mem2 mem4 len2 len4 hpp1 hpp2
    -- nine bent ones
    refine ⟨_, rfl, 9, rfl, by decide, by decide, fun D hD => ?_⟩
    refine lc_it (walk_range (lo := 0) (n := 9)) (Pv := fun j G => ∃ l', Gen p0 m l' c (100 * i + 13 + 6 * j) G ∧ Same (frx m l1 G7) (frx m l' G) ∧ ∃ (vs : List V) (ds : List PyData), vs.length = j ∧ frx m l' G D = some (.lst vs) ∧ DpAll K (fry D m l' G) vs ds ∧ ∀ d ∈ ds, SS d)
      ⟨l1, g2.grow (Same.upd hD), frx_grow (Same.upd hD), [], [], rfl, (frx_at (g2.fresh hD).1 (g2.fresh hD).2.1).trans upd_same, .nil, fun d h => by cases h⟩ (fun _ _ _ _ => trivial) (fun j z A B hj hp hy => ?_) fun G hp => ?_
    · obtain ⟨l', gA, sA, vs, ds, hvl, hDA, hda, hsd⟩ := hp
      obtain ⟨rfl, ez⟩ := hy
      refine ⟨rfl, ?_⟩
      refine tYes_of ?_
      refine iteT ?_
      refine ⟨_, rfl, _, rfl, m, l', c, D, 100 * i + 13 + 6 * j, .ref pp, R, ps, rfl, ⟨gA, ⟨_, hDA⟩⟩, by omega, hdP.same (frx_fry sA hD), by rw [ho.len, hpl], by rw [ho.len]; exact gt.pos, by rw [ho.len]; exact gt.le, fun r hr' => ?_, fun B2 l2 u d gB sB hu hdS => ?_⟩
      · obtain ⟨k, hk, e⟩ := List.getElem_of_mem hr'
        have y := ho.short hk
        rw [getD_of (List.getElem?_eq_getElem hk), e] at y
        exact Nat.le_trans y gt.le
      · have hDB := sB _ _ hDA
        obtain ⟨k1, k2, k3⟩ := frx_ne hDB
        obtain ⟨cs, hcs⟩ := g2.cells
        have k4 : D ≠ c := fun z => by
          rw [z, hcs] at hD
          cases hD
        refine ⟨vs, k3, by rw [hvl]; exact small1000 (by omega), l2, (gB.put k3 k1 k2 k4 fun q z => by cases z).le (by omega), fun b o hb => ?_, vs ++ [u], ds ++ [d], by rw [List.length_append, hvl]; rfl, (frx_at k1 k2).trans upd_same, ?_, fun d' hd' => ?_⟩
        · have nb : b ≠ D := ne_of_none (frx_sub _ _ hb) hD
          obtain ⟨j1, j2, j3⟩ := frx_ne (sB _ _ (sA _ _ hb))
          rw [frx_at j1 j2, upd_ne nb]
          exact j3
        · exact ((hda.same (fry_from sB)).append (.cons hu .nil)).same fry_upd
        · rcases List.mem_append.mp hd' with y | y
          · exact hsd d' y
          · rw [List.mem_singleton.mp y]
            exact hdS
    · obtain ⟨l', gA, sA, vs, ds, hvl, hDA, hda, hsd⟩ := hp
      have hLA := frx_sub _ _ (sA _ _ hL)
      refine ⟨q6, D, xs6, vs, rfl, rfl, hLA, frx_sub _ _ hDA, Nat.le_of_lt (small1000 (by omega)), fun r hr' => ?_⟩
      have sr := Same.upd (o := .lst (xs6 ++ vs)) hr'
      have hr2 : upd G r (.lst (xs6 ++ vs)) r = some (.lst (xs6 ++ vs)) := upd_same
      have hall2 : DpAll K (upd G r (.lst (xs6 ++ vs))) (xs6 ++ vs) (ds6 ++ ds) := (((hall.same sA).same frx_sub).append (hda.same fry_sub)).same sr
      have hss2 : ∀ d ∈ ds6 ++ ds, SS d := fun d hd' => by
        rcases List.mem_append.mp hd' with y | y
        · exact hss d y
        · exact hsd d y
      have gR := gA.grow sr
      have hdtR := ((hdt.same sA).same (frx_grow (m := m) (l := l') sr))
      generalize upd G r (.lst (xs6 ++ vs)) = GR at *
      generalize xs6 ++ vs = xs at *
      generalize ds6 ++ ds = dsA at *
      obtain ⟨tq', etq, htq⟩ := dp_tD hdtR
      cases etq
      refine ⟨r, rfl, ⟨_, .of hr2⟩, ?_⟩
      refine for_it (walk_list (xs := xs)) (Pv := fun k σ G' => ∃ o6, σ = [some (.ref s), some (.ref m), some x, some (.ref tq), some (.ref pp), some (.ref q6), o6, o7] ∧ Same GR G') ⟨o6, rfl, Same.refl _⟩ (fun k σ G' _ h => ?_) (fun k y σ G' G'' hk hp hy => ?_) fun σ G' hp => ?_
      · obtain ⟨_, _, sm⟩ := h
        exact .of (sm _ _ hr2)
      · obtain ⟨o6', rfl, sm⟩ := hp
        obtain ⟨rfl, hyk⟩ := hy
        obtain ⟨hil, hdx⟩ := hall2.at hyk
        have hS := hss2 _ (mem_getD hil rfl)
        generalize dsA.getD k .none = dx at *
        obtain ⟨txt, htxt⟩ := rp_chk (r := chk t dx) (fun i h => chk_small gt h) fun x h => chk_text h
        refine ⟨_, rfl, _, rfl, 0, .ref tq, y, tD t, dx, rfl, (hdtR.same frx_sub).same sm, hdx.same sm, .inr (.inl ⟨t, hS, rfl, gt, rfl, fun N1 t1 => ?_⟩)⟩
        refine tNil_of ?_
        refine htxt _ _ ?_
        refine ⟨_, rfl, _, rfl, tq, t, y, dx, rfl, gt, (sm.trans t1).tup (frx_sub.tup htq), hdx.same (sm.trans t1), hS, fun N2 t2 => ?_⟩
        refine tNil_of ?_
        refine htxt _ _ ?_
        refine ⟨rfl, _, rfl, ?_⟩
        refine if_b (fun h => absurd h (by simp)) fun _ => ?_
        exact ⟨_, rfl, (sm.trans t1).trans t2⟩
      · obtain ⟨o6', rfl, sm⟩ := hp
        refine ⟨_, rfl, _, rfl, m, l', c, _, .ref tq, t, rfl, gR.grow sm, by omega, hdtR.same (frx_grow sm), gt, fun N3 l3 g3 e3 => ?_⟩
        refine ⟨_, rfl, ?_⟩
        refine if_b (fun h => absurd h (by simp)) fun _ => ?_
        exact ⟨_, _, _, _, _, _, l3, rfl, g3.le (by omega)⟩
  · obtain ⟨_, _, _, _, _, _, _, rfl, _⟩ := hp
    exact q _
end
end K10
set_option Elab.async false
set_option linter.all false
set_option maxRecDepth 100000
set_option maxHeartbeats 4000000
/-! the head's facts of the three error classes -/
namespace K10
open PySem PySem.Spec PyProof.Rows L2
open He (eqO eqO_ok ba ga ma)
/-- a class over ValueError: its whole order of looking -/
def clsB (K : PySem.W.Frag) (C : Addr) : Bool := match K.lookup C with
  | some ⟨.type "type", _, .cls cd, sl⟩ => (match cd.mro, sl.toList with
    | .ref C' :: bm, [_, _, _, _, some (.builtin n), _] => C' == C && n == "ValueError.__new__" && !cd.hasDel && decide (bm = veB) && cd.hasDict
    | _, _ => false)
  | _ => false
theorem clsB_ok {K : PySem.W.Frag} {C : Addr} (q : clsB K C = true) : ∃ nm q N bs sn sub ab col dd k0 k1 k2 k3 k5, K.lookup C = some (excClassObj nm q C N bs veB true sn sub ab col dd k0 k1 k2 k3 k5 "ValueError.__new__") := by
  unfold clsB at q
  split at q
  · rename_i dd cd sl ho
    split at q
    · rename_i C' bm k0 k1 k2 k3 n k5 hm hs
      simp only [Bool.and_eq_true, beq_iff_eq, Bool.not_eq_true', decide_eq_true_eq] at q
      obtain ⟨⟨⟨⟨rfl, rfl⟩, hdel⟩, hbm⟩, hdi⟩ := q
      obtain ⟨nm, bs, mro, ns, qn, hd, sn, sub, ab, col, del⟩ := cd
      dsimp only at hm hdel hdi
      subst hm hdel hdi hbm
      have hsl : sl = #[k0, k1, k2, k3, some (.builtin "ValueError.__new__"), k5] := by
        obtain ⟨l⟩ := sl
        simp only at hs
        rw [hs]
      subst hsl
      exact ⟨nm, qn, ns, bs, sn, sub, ab, col, dd, k0, k1, k2, k3, k5, ho⟩
    · cases q
  · cases q
/-- an __init__'s function object: its cell and its code -/
def iniCell (K : PySem.W.Frag) (fI : Addr) : Addr := match K.lookup fI with
  | some ⟨_, _, .func fd, _⟩ => (match fd.closure with
    | [(_, cc)] => cc
    | _ => 0)
  | _ => 0
def iniDef (K : PySem.W.Frag) (fI : Addr) : Bool := match K.lookup fI with
  | some ⟨_, _, .func fd, _⟩ => decide (fd.defaults = .none)
  | _ => false
def iniVal (K : PySem.W.Frag) (fI : Addr) : Value := match K.lookup fI with
  | some ⟨_, _, .func fd, _⟩ => fd.code
  | _ => .none
def iniCode (K : PySem.W.Frag) (fI : Addr) : Addr := match iniVal K fI with
  | .ref c => c
  | _ => 0
def cellB (K : PySem.W.Frag) (cc C : Addr) : Bool := match K.lookup cc with
  | some ⟨_, _, .cell (some (.ref a)), _⟩ => decide (a = C)
  | _ => false
def codeB (K : PySem.W.Frag) (cda : Addr) (file : Str) : Bool := match K.lookup cda with
  | some ⟨_, _, .fields vs, _⟩ => (match (vs[2]? : Option Value) with
    | some (.str z _) => file == z
    | _ => false)
  | _ => false
theorem cellB_ok {K : PySem.W.Frag} {cc C : Addr} (h : cellB K cc C = true) : ∃ cl cld csl, K.lookup cc = some ⟨cl, cld, .cell (some (.ref C)), csl⟩ := by
  unfold cellB at h
  split at h
  · rename_i cl cld a csl q
    have e := of_decide_eq_true h
    subst e
    exact ⟨_, _, _, q⟩
  · cases h
theorem codeB_ok {K : PySem.W.Frag} {cda : Addr} {f : Str} (h : codeB K cda f = true) : ∃ ccl cdd vs ccs file tf, K.lookup cda = some ⟨ccl, cdd, .fields vs, ccs⟩ ∧ vs[2]? = some (.str file tf) ∧ (f == file) = true := by
  unfold codeB at h
  split at h
  · rename_i ccl cdd vs ccs q
    split at h
    · rename_i z tf e
      exact ⟨_, _, _, _, _, _, q, e, h⟩
    · cases h
  · cases h
/-- what is observed of the __init__ -/
abbrev IniW : Type := Option (Str × Str × Arguments × FuncBody × Scope × Addr × List Str × Addr)
def iniW (K : PySem.W.Frag) (fI : Addr) : IniW := match K.lookup fI with
  | some ⟨_, _, .func fd, _⟩ => some (fd.name, fd.qualname, fd.params, fd.body, fd.scope, fd.globals, fd.closure.map (·.1), fd.builtins)
  | _ => none
/-- one error class: its name, its field, its __init__ in the text -/
structure ErD where
  name : Str
  fld : Str
  qual : Str
  init : Stmt
def ErD.val (d : ErD) : IniW := some ("__init__", d.qual, defArgs d.init, .stmts (defBody d.init), defScope d.init, mainGlobals, ["__class__"], builtinsNs)
def ErD.C (K : PySem.W.Frag) (d : ErD) : Addr := ga K d.name
def ErD.fI (K : PySem.W.Frag) (d : ErD) : Addr := ma K (ga K d.name) "__init__"
def ErD.ok (K : PySem.W.Frag) (file : Str) (d : ErD) : Bool :=
  eqO (PySem.W.nsIn K mainGlobals d.name) (some (some (.ref (d.C K)))) && (clsB K (d.C K) && (eqO (PySem.W.findIn K (.ref (d.C K)) "__setattr__") (some (some (.builtin "object.__setattr__"))) &&
  (eqO (PySem.W.findIn K (.ref (d.C K)) "__getattribute__") (some (some (.builtin "BaseException.__getattribute__"))) && (eqO (PySem.W.findIn K (.ref (d.C K)) "__getattr__") (some none) &&
  (eqO (PySem.W.findIn K (.ref (d.C K)) d.fld) (some none) && (eqO (PySem.W.findIn K (.ref (d.C K)) "__init__") (some (some (.ref (d.fI K)))) && (decide (PySem.W.typeIn K (.ref (d.fI K)) = some (.type "function")) &&
  (PySem.W.keepIn K (.ref (d.C K)) && (decide (PySem.W.subIn K (.ref (d.C K)) (.type "BaseException") = some true) && (decide (PySem.W.subIn K (.ref (d.C K)) (.type "ValueError") = some true) &&
  (decide (PySem.W.mroIn K (d.C K) (.ref (d.C K)) = some true) && (decide (PySem.W.typeIn K (.ref (d.C K)) = some (.type "type")) && (PySem.W.hasDictIn K (d.C K) && (eqO (PySem.W.nsIn K cStatics "thirdparty.any") (some none) &&
  (cellB K (iniCell K (d.fI K)) (d.C K) && (codeB K (iniCode K (d.fI K)) file && (iniDef K (d.fI K) && PySem.W.codeIn K (iniVal K (d.fI K)) d.qual)))))))))))))))))
/-- what the two readings say together -/
theorem ErD.sup {P : Program} {K : PySem.W.Frag} {d : ErD} {p1 p2 : Pos} (h : d.ok K P.main.file = true) (e : iniW K (d.fI K) = d.val) (top : (P.main.scope.names.lookup ("super" : Str)).isSome = false) (ha : defArgs d.init = supArgs d.fld p1 p2) (hs : defScope d.init = supScope d.fld) :
    SupC P K (d.C K) (d.fI K) (iniCell K (d.fI K)) (iniCode K (d.fI K)) d.qual d.fld (defBody d.init) ∧ PySem.W.nsIn K mainGlobals d.name = some (some (.ref (d.C K))) ∧ PySem.W.findIn K (.ref (d.C K)) "__getattr__" = some none := by
  obtain ⟨a1, h⟩ := ba h
  obtain ⟨a2, h⟩ := ba h
  obtain ⟨a3, h⟩ := ba h
  obtain ⟨a4, h⟩ := ba h
  obtain ⟨a5, h⟩ := ba h
  obtain ⟨a6, h⟩ := ba h
  obtain ⟨a7, h⟩ := ba h
  obtain ⟨a8, h⟩ := ba h
  obtain ⟨a9, h⟩ := ba h
  obtain ⟨a10, h⟩ := ba h
  obtain ⟨a11, h⟩ := ba h
  obtain ⟨a12, h⟩ := ba h
  obtain ⟨a13, h⟩ := ba h
  obtain ⟨a14, h⟩ := ba h
  obtain ⟨a15, h⟩ := ba h
  obtain ⟨a16, h⟩ := ba h
  obtain ⟨a17, h⟩ := ba h
  obtain ⟨a19, a18⟩ := ba h
  refine ⟨⟨clsB_ok a2, eqO_ok a3, eqO_ok a4, eqO_ok a6, eqO_ok a7, of_decide_eq_true a8, a9, of_decide_eq_true a10, of_decide_eq_true a11, of_decide_eq_true a12, of_decide_eq_true a13, a14, eqO_ok a15, cellB_ok a16, codeB_ok a17, top, ?_⟩, eqO_ok a1, eqO_ok a5⟩
  obtain ⟨cda, ecd⟩ := He.codeIn_ref a18
  have eC : iniCode K (d.fI K) = cda := by
    unfold iniCode
    rw [ecd]
  rw [eC]
  rw [ecd] at a18
  cases q : K.lookup (d.fI K) with
  | none =>
    unfold iniW at e
    rw [q] at e
    cases e
  | some o =>
    obtain ⟨oc, od, dt, osl⟩ := o
    cases dt with
    | func fd =>
      have eV : fd.code = .ref cda := by
        unfold iniVal at ecd
        rw [q] at ecd
        exact ecd
      have eL : iniCell K (d.fI K) = (match fd.closure with | [(_, cc)] => cc | _ => 0) := by
        unfold iniCell
        rw [q]
      unfold iniW at e
      rw [q] at e
      obtain ⟨n1, n2, n3, n4, n5, n6, n7, n8, n9, n10, n11, n12, n13, n14, n15⟩ := fd
      have e2 : (some (n1, n2, n3, n4, n5, n6, n7.map (·.1), n15) : IniW) = d.val := e
      unfold ErD.val at e2
      simp only [Option.some.injEq, Prod.mk.injEq] at e2
      obtain ⟨h1, h2, h3, h4, h5, h6, h7, h8⟩ := e2
      have eV' : n13 = .ref cda := eV
      rw [eL]
      match n7, h7 with
      | [(x, cc)], h7 =>
        have hx : x = ("__class__" : Str) := by
          simp only [List.map_cons, List.map_nil, List.cons.injEq, and_true] at h7
          exact h7
        have hD : n8 = .none := by
          unfold iniDef at a19
          rw [q] at a19
          exact of_decide_eq_true a19
        subst h1 h2 h3 h4 h5 h6 h8 hx eV' hD
        rw [ha, hs]
        exact ⟨oc, od, n9, n10, n11, n12, n14, osl, p1, p2, rfl, a18⟩
    | _ =>
      unfold iniW at e
      rw [q] at e
      cases e
end K10
set_option Elab.async false
set_option linter.all false
set_option maxRecDepth 100000
set_option maxHeartbeats 4000000
/-! the three error classes from the head's facts -/
namespace K10
open PySem PySem.Spec PyProof.Rows L2
open He (eqO eqO_ok ba ga ma)
abbrev PW' : Program := PySem.Challenge.pw_faxhouse_k10_whole_relays_judged
def erT : ErD := ⟨"BadTree", "number", "BadTree.__init__", inClass (topS 1) 0⟩
def erP : ErD := ⟨"BadPaper", "part", "BadPaper.__init__", inClass (topS 2) 0⟩
def erN : ErD := ⟨"OutOfPlace", "text", "OutOfPlace.__init__", inClass (topS 3) 0⟩
theorem top_super : (PW'.main.scope.names.lookup ("super" : Str)).isSome = false := by decide +kernel
section
variable {K : PySem.W.Frag} {h : Heap} {mg : Str → Option Value}
theorem err_tree (X : K.In h) (G : h.Ns mainGlobals mg) (gs : mg "super" = none) (q : erT.ok K PW'.main.file = true) (e : iniW K (erT.fI K) = erT.val) : ErrA PW' K mg "BadTree" "number" (erT.C K) := by
  obtain ⟨S, g1, gg⟩ := ErD.sup (P := PW') (p1 := ⟨4, 17, 4, 21⟩) (p2 := ⟨4, 23, 4, 29⟩) q e top_super rfl rfl
  refine ⟨PySem.W.mg_of X G g1, gs, S.kC, S.exC, S.tyC, S.hdC, S.ga, gg, S.noN, fun w A R s v N XK lim room hq => ?_⟩
  exact att_made (txt := "no tree") S N XK lim room (by decide) (by decide) (by decide) (by decide) (fun s x _ _ _ _ _ _ _ => .of_eq (by first | rfl | with_unfolding_all rfl)) (fun env => ⟨_, rfl⟩) (fun env => rfl) hq
theorem err_paper (X : K.In h) (G : h.Ns mainGlobals mg) (gs : mg "super" = none) (q : erP.ok K PW'.main.file = true) (e : iniW K (erP.fI K) = erP.val) : ErrA PW' K mg "BadPaper" "part" (erP.C K) := by
  obtain ⟨S, g1, gg⟩ := ErD.sup (P := PW') (p1 := ⟨9, 17, 9, 21⟩) (p2 := ⟨9, 23, 9, 27⟩) q e top_super rfl rfl
  refine ⟨PySem.W.mg_of X G g1, gs, S.kC, S.exC, S.tyC, S.hdC, S.ga, gg, S.noN, fun w A R s v N XK lim room hq => ?_⟩
  exact att_made (txt := "no paper that holds") S N XK lim room (by decide) (by decide) (by decide) (by decide) (fun s x _ _ _ _ _ _ _ => .of_eq (by first | rfl | with_unfolding_all rfl)) (fun env => ⟨_, rfl⟩) (fun env => rfl) hq
theorem err_place (X : K.In h) (G : h.Ns mainGlobals mg) (gs : mg "super" = none) (q : erN.ok K PW'.main.file = true) (e : iniW K (erN.fI K) = erN.val) : ErrN PW' K mg "OutOfPlace" (erN.C K) := by
  obtain ⟨S, g1, gg⟩ := ErD.sup (P := PW') (p1 := ⟨14, 17, 14, 21⟩) (p2 := ⟨14, 23, 14, 27⟩) q e top_super rfl rfl
  refine ⟨PySem.W.mg_of X G g1, gs, S.kC, S.exC, S.tyC, fun w A R s v N XK lim room hq => ?_⟩
  exact non_made S N XK lim room (by decide) (by decide) (by decide) (by decide) (fun s x _ _ _ _ _ _ _ => .of_eq (by first | rfl | with_unfolding_all rfl)) (fun env => ⟨_, rfl⟩) hq
end
end K10
set_option Elab.async false
set_option linter.all false
set_option maxRecDepth 100000
set_option maxHeartbeats 0
/-! the head: what is observed behind the top, and the run -/
namespace K10
open PySem PySem.Spec PyProof.Rows L2
open He (eqO eqO_ok ba ga ma)
def dfD (x : Str) (st : Stmt) : He.DefD := ⟨(x, none), x, x, defArgs st, defBody st, defScope st, [], []⟩
def fnL : List He.DefD := [
  dfD "is_whole" (topS 5),
  dfD "need_tree" (topS 8),
  dfD "called_by" (topS 9),
  dfD "needs_of" (topS 10),
  dfD "least_time" (topS 11),
  dfD "is_order" (topS 12),
  dfD "time_in" (topS 13),
  dfD "time_of" (topS 14),
  dfD "order_in" (topS 15),
  dfD "order" (topS 16),
  dfD "picks_of" (topS 17),
  dfD "relay_paper" (topS 18),
  dfD "are_picks" (topS 19),
  dfD "need_by" (topS 20),
  dfD "check_relay" (topS 21),
  dfD "_law_begun" (topS 23),
  dfD "_law_next" (topS 24),
  dfD "_law_tree" (topS 25),
  dfD "_law_called" (topS 26),
  dfD "_law_time" (topS 27),
  dfD "_law_is_whole" (topS 28),
  dfD "_law_is_order" (topS 29),
  dfD "_law_need" (topS 30),
  dfD "_law_due" (topS 31),
  dfD "_law_outcome" (topS 32),
  dfD "_law_bent" (topS 33),
  dfD "_law_refused_right" (topS 34),
  dfD "law" (topS 35)]
def frees : List Str := ["len", "isinstance", "tuple", "int", "bool", "range", "enumerate", "zip", "sorted", "max", "min", "all", "list", "repr", "super"]
def faL : List He.Fa := [.int "MOST_PLACES" 40, .exm "BadPaper" "BadPaper" true, .exm "BadTree" "BadPaper" false, .exm "BadTree" "BadTree" true, .exm "OutOfPlace" "BadPaper" false, .exm "OutOfPlace" "BadTree" false, .exm "OutOfPlace" "OutOfPlace" true] ++ frees.map He.Fa.free ++ fnL.map fun d => He.Fa.glo d.name
def erL : List ErD := [erT, erP, erN]
def exL (K : PySem.W.Frag) : Bool := erL.all fun d => d.ok K PW'.main.file
def tfL : List He.Defn := [("order_in", none)]
/-- what the names reach in n steps, and the interpreter's own statics -/
def asY (g : Addr → Option Obj) (n : Nat) : List Addr := He.asD g n ++ [cStatics]
abbrev AlY : Type := He.AlD × Bool × List IniW
def obK (g : Addr → Option Obj) (K : PySem.W.Frag) : AlY := (He.obsD faL fnL K, exL K && He.tabsB g tfL K, erL.map fun d => iniW K (d.fI K))
def obG (n : Nat) (g : Addr → Option Obj) : AlY := obK g (He.frT g (asY g n))
def valY : AlY := (He.valD fnL, true, erL.map ErD.val)
/-- what is told behind the top -/
structure SaysY (h : Heap) (K : PySem.W.Frag) : Prop where
  d : He.SaysD faL fnL K
  ex : exL K = true
  hd : PySem.W.codeHdIn K (He.cT K ("order_in", none)).1 (He.cT K ("order_in", none)).2 = true
  out : K.lookup (He.cT K ("order_in", none)).2 = none
  emp : h.get? (He.cT K ("order_in", none)).2 = some { cls := .none, data := .fields #[] }
  ini : (erL.map fun d => iniW K (d.fI K)) = erL.map ErD.val
theorem saysY_of {h : Heap} {as : List Addr} (e : obK h.get? (He.frT h.get? as) = valY) : SaysY h (He.frT h.get? as) := by
  generalize hK : He.frT h.get? as = K at *
  have e1 : He.obsD faL fnL K = He.valD fnL := congrArg (fun z : AlY => z.1) e
  have e2 : (exL K && He.tabsB h.get? tfL K) = true := congrArg (fun z : AlY => z.2.1) e
  have e3 : (erL.map fun d => iniW K (d.fI K)) = erL.map ErD.val := congrArg (fun z : AlY => z.2.2) e
  obtain ⟨a1, a2⟩ := ba e2
  obtain ⟨b1, b2⟩ := ba (List.all_eq_true.mp a2 ("order_in", none) List.mem_cons_self)
  cases q : h.get? (He.cT K ("order_in", none)).2 with
  | none =>
    rw [q] at b2
    cases b2
  | some o =>
    rw [q] at b2
    refine ⟨e1, a1, b1, ?_, by rw [He.emptyTab_eq b2] at q; exact q, e3⟩
    have z := He.frT_none (as := as) q b2
    rw [hK] at z
    exact z
def hkY (n : Nat) : PySem.W.Hook where
  α := AlY
  obs := fun s => obG n s.heap.get?
  val := fun _ => valY
  says := fun _ h => ∃ K : PySem.W.Frag, K.In h ∧ SaysY h K
  of := fun _ _ e => ⟨_, He.frT_in, saysY_of e⟩
  keeps := fun _ _ _ ⟨K, hK, c⟩ k => ⟨K, PySem.W.Frag.In.keeps hK k, c.d, c.ex, c.hd, c.out, k _ _ c.emp, c.ini⟩
theorem obY_eq {n : Nat} {g : Addr → Option Obj} {s : Shared} (h : ∀ a, g a = s.heap.get? a) : obG n g = (hkY n).obs s := by
  have e : g = s.heap.get? := funext h
  rw [e] <;> rfl
abbrev RwK : PySem.W.OpenRow := PySem.W.OpenLaw.row PySem.Challenge.rw_faxhouse_k10_whole_relays_judged
abbrev hkK : PySem.W.Hook := hkY 5
def obT (s : PySem.W.SharedT) : AlY := obG 5 (HandSHeadRun.getT s)
theorem obT_eq (s : PySem.W.SharedT) : obT s = hkK.obs s.abs := obY_eq (HandSHeadRun.getT_eq s)
def looseN : List Str := ["__name__", "BadTree", "BadPaper", "OutOfPlace", "is_whole", "MOST_PLACES", "need_tree", "called_by", "needs_of", "least_time", "is_order", "time_in", "time_of", "order_in", "order", "picks_of", "relay_paper", "are_picks", "need_by", "check_relay", "_law_begun", "_law_next", "_law_tree", "_law_called", "_law_time", "_law_is_whole", "_law_is_order", "_law_need", "_law_due", "_law_outcome", "_law_bent", "_law_refused_right"]
end K10
set_option Elab.async false
set_option linter.all false
set_option maxRecDepth 100000
set_option maxHeartbeats 0
namespace K10
open PySem PySem.Spec PyProof.Rows L2
theorem runK (w : World) : HandSHeadRun.RunEq RwK (PySem.W.view RwK.prog [35]) hkK obT 3000 looseN w := by
  intro os
  kernel_rfl
end K10
set_option Elab.async false
set_option linter.all false
set_option maxRecDepth 100000
set_option maxHeartbeats 4000000
/-! the end: every promise from the head's facts -/
namespace K10
open PySem PySem.Spec PyProof.Rows L2 LamX
open He (ga)
section
variable {w : World} {K : PySem.W.Frag} {h : Heap} {mg : Str → Option Value}
theorem free_mem {x : Str} (m : x ∈ frees) : He.Fa.free x ∈ faL := List.mem_append_left _ (List.mem_append_right _ (List.mem_map.mpr ⟨x, m, rfl⟩))
theorem glo_mem {d : He.DefD} (m : d ∈ fnL) : He.Fa.glo d.name ∈ faL := List.mem_append_right _ (List.mem_map.mpr ⟨d, m, rfl⟩)
theorem free_of (X : K.In h) (G : h.Ns mainGlobals mg) (c : SaysY h K) {x : Str} (i : Nat) (m : frees[i]? = some x) : mg x = none := He.free_ok X G (He.SaysD.facts c.d (free_mem (List.mem_of_getElem? m)))
theorem nm_of (X : K.In h) (G : h.Ns mainGlobals mg) (c : SaysY h K) : Nm mg :=
  ⟨free_of X G c 0 rfl, free_of X G c 1 rfl, free_of X G c 2 rfl, free_of X G c 3 rfl, free_of X G c 4 rfl, free_of X G c 5 rfl, free_of X G c 6 rfl, free_of X G c 7 rfl, free_of X G c 8 rfl, free_of X G c 9 rfl, free_of X G c 10 rfl, free_of X G c 11 rfl, free_of X G c 12 rfl, free_of X G c 13 rfl,
    He.int_ok X G (He.SaysD.facts c.d (f := .int "MOST_PLACES" 40) (List.mem_of_getElem? (i := 0) rfl))⟩
theorem fun_of (X : K.In h) (G : h.Ns mainGlobals mg) (c : SaysY h K) (i : Nat) {x : Str} {st : Stmt} (m : fnL[i]? = some (dfD x st)) : (∃ fd, Fun K x x st (ga K x) fd) ∧ mg x = some (.ref (ga K x)) := by
  have mem := List.mem_of_getElem? m
  refine ⟨?_, He.glo_ok X G (He.SaysD.facts c.d (f := .glo x) (glo_mem (d := dfD x st) mem))⟩
  obtain ⟨fd, hF⟩ := He.SaysD.defs c.d mem
  obtain ⟨⟨oc, od, dV, kV, doc, pm, an, cdv, ct, osl, e, lk, hcd, hdf, _⟩, kp⟩ := hF
  have hd : dV = .none := by
    rcases hdf with z | z
    · exact z.2
    · exact absurd rfl z.1
  subst hd
  exact ⟨fd, ⟨⟨oc, od, kV, doc, pm, an, cdv, ct, osl, e, lk, hcd⟩, kp⟩⟩
/-- a promise by its name -/
theorem kn_of {P : Program} {base : Heap} {CX : CXT} {k : Nat} {x : Str} {st : Stmt} {ps : List Str} {sp : Sp} (z : (∃ fd, Fun K x x st (ga K x) fd) ∧ mg x = some (.ref (ga K x))) (o : ∀ {f : Addr} {fd : FuncData}, Fun K x x st f fd → FnOk P w K mg base CX k f fd ps sp) :
    Kn P w K mg base CX k x st ps sp := by
  obtain ⟨⟨fd, F⟩, g⟩ := z
  exact ⟨_, fd, F, g, o F⟩
theorem cau_of (c : SaysY h K) : Cau K (erT.C K) (erP.C K) (erN.C K) :=
  ⟨of_decide_eq_true (He.SaysD.facts c.d (f := .exm "BadPaper" "BadPaper" true) (List.mem_of_getElem? (i := 1) rfl)), of_decide_eq_true (He.SaysD.facts c.d (f := .exm "BadTree" "BadPaper" false) (List.mem_of_getElem? (i := 2) rfl)),
    of_decide_eq_true (He.SaysD.facts c.d (f := .exm "BadTree" "BadTree" true) (List.mem_of_getElem? (i := 3) rfl)), of_decide_eq_true (He.SaysD.facts c.d (f := .exm "OutOfPlace" "BadPaper" false) (List.mem_of_getElem? (i := 4) rfl)),
    of_decide_eq_true (He.SaysD.facts c.d (f := .exm "OutOfPlace" "BadTree" false) (List.mem_of_getElem? (i := 5) rfl)), of_decide_eq_true (He.SaysD.facts c.d (f := .exm "OutOfPlace" "OutOfPlace" true) (List.mem_of_getElem? (i := 6) rfl))⟩
theorem law_of (X : K.In h) (G : h.Ns mainGlobals mg) (c : SaysY h K) : ∃ fd, Fun K "law" "law" s_Law (ga K "law") fd ∧ mg "law" = some (.ref (ga K "law")) ∧
    ∀ base : Heap, TabB base mg (He.cT K ("order_in", none)).1 (He.cT K ("order_in", none)).2 → FnOk PW' w K mg base CX0 8 (ga K "law") fd ["_law_script"] (spLaw K (He.cT K ("order_in", none)).2) := by
  have T := nm_of X G c
  have gs : mg "super" = none := free_of X G c 14 rfl
  have ini := c.ini
  have ex := List.all_eq_true.mp c.ex
  have i1 : iniW K (erT.fI K) = erT.val := by
    have z := congrArg (fun l : List IniW => l[0]?) ini
    exact Option.some.inj z
  have i2 : iniW K (erP.fI K) = erP.val := by
    have z := congrArg (fun l : List IniW => l[1]?) ini
    exact Option.some.inj z
  have i3 : iniW K (erN.fI K) = erN.val := by
    have z := congrArg (fun l : List IniW => l[2]?) ini
    exact Option.some.inj z
  have eT := err_tree X G gs (ex erT (List.mem_of_getElem? (i := 0) rfl)) i1
  have eP := err_paper X G gs (ex erP (List.mem_of_getElem? (i := 1) rfl)) i2
  have eN := err_place X G gs (ex erN (List.mem_of_getElem? (i := 2) rfl)) i3
  have C := cau_of c
  obtain ⟨⟨fdL, FL⟩, gL⟩ := fun_of X G c 27 (x := "law") (st := topS 35) rfl
  refine ⟨fdL, FL, gL, fun base TB => ?_⟩
  generalize hp0 : (He.cT K ("order_in", none)).2 = p0 at *
  have kW : Kn PW' w K mg base CX0 1 "is_whole" s_is_whole ["thing", "least", "most"] (spW K) := kn_of (fun_of X G c 0 rfl) fun F => ok_is_whole T F
  have kT : Kn PW' w K mg base (L2.CX PW' w) 2 "need_tree" s_need_tree ["thing"] (spNT K (erT.C K)) := kn_of (fun_of X G c 1 rfl) fun F => ok_need_tree T eT F
  have kC : Kn PW' w K mg base CX0 1 "called_by" s_called_by ["tree"] (spCB K) := kn_of (fun_of X G c 2 rfl) fun F => ok_called_by T F
  obtain ⟨fc, fdc, Fc, mc, Gc⟩ := id kC
  obtain ⟨fw, fdw, Fw, mw, Gw⟩ := id kW
  have kN : Kn PW' w K mg base CX0 2 "needs_of" s_needs_of ["tree"] (spNO K) := kn_of (fun_of X G c 3 rfl) fun F => ok_needs_of T Fc Gc mc F
  obtain ⟨fn, fdn, Fn, mn, Gn⟩ := id kN
  have kLT : Kn PW' w K mg base (L2.CX PW' w) 3 "least_time" s_least_time ["tree"] (spLT K (erT.C K)) := kn_of (fun_of X G c 4 rfl) fun F => ok_least_time kT kN F
  have kIO : Kn PW' w K mg base CX0 2 "is_order" s_is_order ["tree", "thing"] (spIO K) := kn_of (fun_of X G c 5 rfl) fun F => ok_is_order T Fc Gc mc Fw Gw mw F
  have kTI : Kn PW' w K mg base CX0 1 "time_in" s_time_in ["tree", "order"] (spTI K) := kn_of (fun_of X G c 6 rfl) fun F => ok_time_in T F
  have kTO : Kn PW' w K mg base (L2.CX PW' w) 3 "time_of" s_time_of ["tree", "order"] (spTO K (erT.C K) (erN.C K)) := kn_of (fun_of X G c 7 rfl) fun F => ok_time_of T eN kT kIO kTI F
  have kOI : Kn PW' w K mg base CX0 4 "order_in" s_order_in ["tree"] (spOI K p0) := by
    obtain ⟨⟨fd, F⟩, g⟩ := fun_of X G c 8 (x := "order_in") (st := topS 15) rfl
    obtain ⟨oc, od, kV, doc, pm, an, cdv, ct, osl, e, lk, hcd⟩ := F.ex
    obtain ⟨cc, ecc⟩ := He.codeIn_ref hcd
    subst ecc
    have e1 : (He.cT K ("order_in", none)).1 = cc := He.codeOf_eq (p := ("order_in", none)) lk (by rw [e])
    rw [e1] at TB
    exact ⟨_, fd, F, g, ok_order_in T Fc Gc mc Fn Gn mn ⟨⟨oc, od, kV, doc, pm, an, ct, osl, e, lk, hcd⟩, F.kp⟩ TB⟩
  have kOr : Kn PW' w K mg base (L2.CX PW' w) 5 "order" s_order ["tree"] (spOr K (erT.C K) p0) := kn_of (fun_of X G c 9 rfl) fun F => ok_order kT kOI F
  have kPO : Kn PW' w K mg base CX0 3 "picks_of" s_picks_of ["tree"] (spPO K) := kn_of (fun_of X G c 10 rfl) fun F => ok_picks_of T Fc Gc mc Fn Gn mn F
  have kRP : Kn PW' w K mg base (L2.CX PW' w) 5 "relay_paper" s_relay_paper ["tree"] (spRP K (erT.C K) p0) := kn_of (fun_of X G c 11 rfl) fun F => ok_relay_paper kT kOI kPO F
  have kAP : Kn PW' w K mg base CX0 2 "are_picks" s_are_picks ["tree", "thing"] (spAP K) := kn_of (fun_of X G c 12 rfl) fun F => ok_are_picks T Fc Gc mc Fw Gw mw F
  have kNB : Kn PW' w K mg base CX0 2 "need_by" s_need_by ["tree", "picks"] (spNB K) := kn_of (fun_of X G c 13 rfl) fun F => ok_need_by T Fc Gc mc F
  have kCR : Kn PW' w K mg base (L2.CX PW' w) 3 "check_relay" s_check_relay ["tree", "paper"] (spCR K (erT.C K) (erP.C K)) := kn_of (fun_of X G c 14 rfl) fun F => ok_check_relay T eP kT kIO kTI kAP kNB F
  have lB : Kn PW' w K mg base CX0 1 "_law_begun" s_L_begun ["_law_script"] (spBg K p0) := kn_of (fun_of X G c 15 rfl) fun F => ok_L_begun T F
  have lN : Kn PW' w K mg base CX0 1 "_law_next" s_L_next ["_law_m", "_law_total"] (spNx K p0) := kn_of (fun_of X G c 16 rfl) fun F => ok_L_next T F
  have lT : Kn PW' w K mg base CX0 2 "_law_tree" s_L_tree ["_law_m", "_law_top"] (spTr K p0) := kn_of (fun_of X G c 17 rfl) fun F => ok_L_tree T lN F
  have lC : Kn PW' w K mg base CX0 1 "_law_called" s_L_called ["_law_tree_here"] (spCB K) := kn_of (fun_of X G c 18 rfl) fun F => ok_L_called T F
  have lTi : Kn PW' w K mg base CX0 1 "_law_time" s_L_time ["_law_tree_here", "_law_some"] (spTI K) := kn_of (fun_of X G c 19 rfl) fun F => ok_L_time T F
  have lW : Kn PW' w K mg base CX0 1 "_law_is_whole" s_L_is_whole ["_law_thing", "_law_bottom", "_law_top"] (spLW K) := kn_of (fun_of X G c 20 rfl) fun F => ok_L_is_whole T F
  obtain ⟨gc, gdc, Hc, nc, Jc⟩ := id lC
  obtain ⟨gw, gdw, Hw, nw, Jw⟩ := id lW
  have lIO : Kn PW' w K mg base CX0 2 "_law_is_order" s_L_is_order ["_law_tree_here", "_law_thing"] (spIO K) := kn_of (fun_of X G c 21 rfl) fun F => ok_L_is_order T Hc Jc nc Hw Jw nw F
  have lNe : Kn PW' w K mg base CX0 2 "_law_need" s_L_need ["_law_tree_here", "_law_picks"] (spLN K) := kn_of (fun_of X G c 22 rfl) fun F => ok_L_need T Hc Jc nc Hw Jw nw F
  have lD : Kn PW' w K mg base CX0 3 "_law_due" s_L_due ["_law_tree_here", "_law_sheet"] (spLD K) := kn_of (fun_of X G c 23 rfl) fun F => ok_L_due T lIO lTi lNe F
  have lO : Kn PW' w K mg base CX0 6 "_law_outcome" s_L_outcome ["_law_way", "_law_tree_here", "_law_thing"] (spOut K) := kn_of (fun_of X G c 24 rfl) fun F => ok_L_outcome T eT eP eN C kCR kTO kLT kOr kRP kT F
  have lBt : Kn PW' w K mg base CX0 2 "_law_bent" s_L_bent ["_law_m", "_law_sheet"] (spBt K p0) := kn_of (fun_of X G c 25 rfl) fun F => ok_L_bent T lN F
  have lR : Kn PW' w K mg base CX0 7 "_law_refused_right" s_L_refused_right ["_law_m", "_law_tree_here"] (spRf K p0) := kn_of (fun_of X G c 26 rfl) fun F => ok_L_refused_right T lN lO kOr F
  exact ok_Law T lB lT kRP lBt lO lD lR FL
end
end K10
set_option Elab.async false
set_option linter.all false
set_option maxRecDepth 100000
set_option maxHeartbeats 0
open PySem PySem.W PySem.Calls PyProof.Rows
theorem PySem.Challenge.cw_faxhouse_k10_whole_relays_judged_holds : PySem.Challenge.rw_faxhouse_k10_whole_relays_judged.Holds := by
  w_on; o_law
  refine HandSHeadRun.head_any (r := K10.RwK) (q := view K10.RwK.prog [35]) (H := K10.hkK) (ob := K10.obT) (M := 3000) (loose := K10.looseN) (d := HandSHeadRun.topDef K10.RwK.prog 35) (kwd := []) K10.obT_eq
    (by kernel_rfl) (fun s => by kernel_rfl) K10.runK (by kernel_rfl) (by kernel_rfl) (by kernel_rfl) (by rfl) (by first | assumption | decide +kernel) (by decide +kernel) ⟨rfl, rfl, rfl, rfl, rfl, by decide +kernel⟩ ?hw ?hc
  case hw => w_witness2
  case hc =>
    refine LamX.walk_ofTsE (l := PySem.Challenge.rw_faxhouse_k10_whole_relays_judged) (n := 63) (k := 8) (x := "_law_script") (CX := fun _ => L2.CX0) rfl (by decide) (by kernel_rfl) ⟨rfl, by decide, by decide⟩ ?F (fun _ _ _ _ _ z => z)
    intro w mg fa h Y G hmg0
    obtain ⟨K, KX, c⟩ := Y
    have hmg : mg ("law" : PySem.Str) = some (.ref fa) := by
      have e : (HandSHeadRun.topDef K10.RwK.prog 35).name = ("law" : PySem.Str) := by kernel_rfl
      rw [← e]
      exact hmg0
    obtain ⟨fd, F, gl, hF⟩ := K10.law_of (w := w) KX G c
    have efa : fa = He.ga K "law" := by
      rw [gl] at hmg
      injection hmg with z
      injection z with z
      exact z.symm
    subst efa
    have hb : ∀ (s : Shared) (u : Value), BindsTo s fd ⟨[u], []⟩ [(("_law_script" : PySem.Str), u)] := by
      obtain ⟨oc, od, kV, doc, pm, an, cdv, ct, osl, e, lk, hcd⟩ := F.ex
      subst e
      exact fun s u => .of_eq rfl
    have one : ∀ {q : Addr × Addr} {Pr : Addr × Addr → Prop}, Pr (He.cT K ("order_in", none)) → q ∈ [He.cT K ("order_in", none)] → Pr q := fun h m => by
      rw [List.mem_singleton.mp m]
      exact h
    refine ⟨K, KX, fd, [He.cT K ("order_in", none)], K10.spLaw K (He.cT K ("order_in", none)).2, fun p m => one (Pr := fun p => _root_.PySem.Heap.get? _ p.2 = some { cls := .none, data := .fields #[] }) c.emp m, fun p m => one (Pr := fun p => K.lookup p.2 = none) c.out m,
      fun p m => one (Pr := fun p => CodeHd _ p.1 p.2) (codeHd_of_K KX c.hd) m, hb, fun H a ns hl _ hT hS => ⟨a, ns, rfl, hS, hl, fun q hq => ?_, fun _ => rfl⟩, fun base _ _ TB => hF base (TB _ List.mem_cons_self)⟩
    rw [List.mem_singleton.mp hq]
    exact LamX.TabS.nil (hT _ List.mem_cons_self)
