import PyProof.Rows.All
import Wide.All
import OpenK.AllK
import Wide.FinOn
import KE.KExcSuper
import KE.KExcInit
import HandS.ForMost
import HandS.ExcInit
import HandS.Exc
import HandS.ExcField
import HandS.ExcIs
import KE.KExcIs
import HandS.TupSets
import KE.KeyNested
import HandS.SetFor
import KE.SortData
import KE.GoesMore
import KE.GoesEnum
import HandS.Walk
import HandS.Zip
import KE.Datum
import KE.DatumOrd
import HandS.Evl
import HandS.IsInst
import HandS.TupAny
import HandS.Strs
import HandS.Conv
import KE.DataCmp
import KE.DataMinMax
import HandS.WordsExc
import HandS.Lambda
import PyProof.ReprRoads
import HandS.EndTab
import KE.KNestM
import PySem.Challenge.RW_allislands_k08_whole_equal_or_parted
section
set_option Elab.async false
set_option linter.all false
set_option maxRecDepth 100000
set_option maxHeartbeats 4000000
/-! own exceptions whose first row is super().__init__(..), over ValueError -/
namespace Isl
open PySem PySem.W PySem.Calls PyProof.Rows PySem.HandSPX

theorem ev_super (q0 q1 q2 q5 : Pos) (e1 : Expr) (es : List Expr) (env : Env) (hp : (q2.endLine == q5.line) = true) (hf : methodCallForm (e1 :: es).length (backTo q5 (starEach (e1 :: es) env)) [] = true) : ∃ pl : Sem Bool, eval (.Call (.Attribute (.Call (.Name "super" q0) [] [] q1) "__init__" q2) (e1 :: es) [] q5) env = (do
      let ov ← attributeBase (.Call (.Name "super" q0) [] [] q1) "__init__" env (eval (.Call (.Name "super" q0) [] [] q1) env)
      standAt q2.atName
      let (f, first) ← holding [ov] (getMethod ov "__init__" pl)
      callWith q5 f first (backTo q5 (starEach (e1 :: es) env)) []) := by
  refine ⟨(do return (← importBound (.Call (.Name "super" q0) [] [] q1) env).getD true), ?_⟩
  have h0 : eval (.Call (.Attribute (.Call (.Name "super" q0) [] [] q1) "__init__" q2) (e1 :: es) [] q5) env = (do
      let ov ← attributeBase (.Call (.Name "super" q0) [] [] q1) "__init__" env (eval (.Call (.Name "super" q0) [] [] q1) env)
      standAt q2.atName
      methodCall (.Call (.Name "super" q0) [] [] q1) "__init__" q2 q5 env ov (e1 :: es).length (backTo q5 (starEach (e1 :: es) env)) []) := by rfl
  rw [h0]
  unfold methodCall methodCallPos calleeOf
  simp only [hf, hp, Bool.not_true, Bool.false_or, if_true, pure_bind]

/-- what the written part tells of such a class (at C) and its __init__ (at fI; its code at cda, the cell of __class__ at cc) -/
structure XTxt (K : Frag) (prog : Program) (C fI : Addr) (qual : Str) (params : Arguments) (body : List Stmt) (scope : Scope) : Prop where
  cls : ∃ nm q N bs bm sn sub ab col dd k0 k1 k2 k3 k5, K.lookup C = some (excClassObj nm q C N bs bm true sn sub ab col dd k0 k1 k2 k3 k5 "ValueError.__new__") ∧ refsVE bm = true
  sa : findIn K (.ref C) "__setattr__" = some (some (.builtin "object.__setattr__"))
  iC : findIn K (.ref C) "__init__" = some (some (.ref fI))
  tC : typeIn K (.ref fI) = some (.type "function")
  kC : keepIn K (.ref C) = true
  sup : ks_superIn K C C "__init__" = some (some (.builtin "ValueError.__init__"))
  sub : subIn K (.ref C) (.type "ValueError") = some true
  selfM : mroIn K C (.ref C) = some true
  op : nsIn K cStatics "thirdparty.any" = some none
  fn : ∃ (oc : Value) (od : Option Addr) (doc pm : Value) (an : Option Addr) (cda : Addr) (ct : Value) (osl : Array (Option Value)) (cc : Addr) (ccl cl : Value) (cdd cld : Option Addr) (vs : Array Value) (ccs csl : Array (Option Value)) (file : Str) (tf : Tok),
    K.lookup fI = some ⟨oc, od, .func (ksFn "__init__" qual params body scope .none .none doc pm an (.ref cda) ct cc), osl⟩ ∧ codeIn K (.ref cda) qual = true ∧
    K.lookup cda = some ⟨ccl, cdd, .fields vs, ccs⟩ ∧ vs[2]? = some (.str file tf) ∧ ((prog.main.file : Str) == file) = true ∧ K.lookup cc = some ⟨cl, cld, .cell (some (.ref C)), csl⟩

section
variable {prog : Program} {w : World} {A : Around} {E : Value → Shared → Prop} {s : Shared} {K : Frag} {mg mb : Str → Option Value} {C fI x t0 L : Addr} {m : Str → Option Value} {qual : Str} {params : Arguments} {body : List Stmt} {scope : Scope}

/-- super().__init__(e, ..) as the first row of __init__ -/
theorem super_row (T : XTxt K prog C fI qual params body scope) {oc : Value} {od : Option Addr} {doc pm : Value} {an : Option Addr} {cda : Addr} {ct : Value} {osl : Array (Option Value)} {cc : Addr} {ccl cl : Value} {cdd cld : Option Addr} {vs : Array Value} {ccs csl : Array (Option Value)} {file : Str} {tf : Tok}
    (h1 : K.lookup fI = some ⟨oc, od, .func (ksFn "__init__" qual params body scope .none .none doc pm an (.ref cda) ct cc), osl⟩)
    (h3 : K.lookup cda = some ⟨ccl, cdd, .fields vs, ccs⟩) (h4 : vs[2]? = some (.str file tf)) (h5 : ((prog.main.file : Str) == file) = true) (h6 : K.lookup cc = some ⟨cl, cld, .cell (some (.ref C)), csl⟩)
    (X : K.In s.heap) (hg : s.heap.Ns mainGlobals mg) (hb : s.heap.Ns builtinsNs mb) (hbb : mb "super" = bootBuiltins "super") (hms : mg "super" = none)
    (hn : s.heap.Ns L m) (hself : m "self" = some (.ref x)) (hx : s.heap.get? x = some (excO C t0)) {ar : Arg} (hpar : (params.posonlyargs ++ params.args).head? = some ar) (har : ar.arg = "self")
    (hks : scope.names.lookup ("super" : Str) = some .globalImplicit) (hkc : scope.names.lookup ("__class__" : Str) = some .free) (hka : scope.names.lookup ("self" : Str) = some .local) (hk : scope.kind = .function)
    (htop : (prog.main.scope.names.lookup ("super" : Str)).isSome = false)
    {p0 p1 p2 p3 p4 : Pos} {e1 : Expr} {es : List Expr} {Q : Flow → Shared → Prop}
    (he : starEach (e1 :: es) (ksEnv qual scope L fI (.ref cda) cc) = (false, eval e1 (ksEnv qual scope L fI (.ref cda) cc)) :: starEach es (ksEnv qual scope L fI (.ref cda) cc))
    (hpl : (backTo p3 (starEach es (ksEnv qual scope L fI (.ref cda) cc))).any (·.1) = false)
    (harg : ∀ (s1 : Shared) (R : List Value → Shared → Prop), (∀ b o, s.heap.get? b = some o → s1.heap.get? b = some o) → (∀ us tk, us.length ≤ sizeLine → R us { s1 with toks := tk }) →
      wpAny (model prog w) A (spliced (backTo p3 (starEach (e1 :: es) (ksEnv qual scope L fI (.ref cda) cc)))) R E s1)
    (hint : interactive (ksEnv qual scope L fI (.ref cda) cc) = false)
    (hsw : swapsWith (.Call (.Attribute (.Call (.Name "super" p0) [] [] p1) "__init__" p2) (e1 :: es) [] p3) none p4.line (ksEnv qual scope L fI (.ref cda) cc) = pure false)
    (hev : ∃ pl : Sem Bool, eval (.Call (.Attribute (.Call (.Name "super" p0) [] [] p1) "__init__" p2) (e1 :: es) [] p3) (ksEnv qual scope L fI (.ref cda) cc) = (do
      let ov ← attributeBase (.Call (.Name "super" p0) [] [] p1) "__init__" (ksEnv qual scope L fI (.ref cda) cc) (eval (.Call (.Name "super" p0) [] [] p1) (ksEnv qual scope L fI (.ref cda) cc))
      standAt p2.atName
      let (f, first) ← holding [ov] (getMethod ov "__init__" pl)
      callWith p3 f first (backTo p3 (starEach (e1 :: es) (ksEnv qual scope L fI (.ref cda) cc))) []))
    (hq : ∀ h' tk t1, (∀ b o, b ≠ x → s.heap.get? b = some o → h'.get? b = some o) → h'.get? x = some (excO C t1) → Q .next { s with heap := h', toks := tk }) :
    _root_.PySem.wpAt (model prog w) A (.func body (ksEnv qual scope L fI (.ref cda) cc)) (exec (.Expr (.Call (.Attribute (.Call (.Name "super" p0) [] [] p1) "__init__" p2) (e1 :: es) [] p3) p4) (ksEnv qual scope L fI (.ref cda) cc)) Q E s := by
  obtain ⟨nm, q, N, bs, bm, sn, sub, ab, col, dd, k0, k1, k2, k3, k5, hC, hbm⟩ := T.cls
  have hcl : clsIn K C = some { name := nm, bases := bs, mro := .ref C :: bm, ns := N, qualname := q, hasDict := true, slotNames := sn, subclasses := sub, abstract := ab, collection := col, hasDel := false } := by unfold clsIn; rw [hC] <;> rfl
  obtain ⟨pl, hev⟩ := hev
  refine ks_wpAt_Expr_any ?_ hint hsw
  refine ks_wpAt_MethodCall (pl := pl) ?_ hev
  obtain ⟨hh, g, d, t, os⟩ := s
  have XC : hh.get? C = some (excClassObj nm q C N bs bm true sn sub ab col dd k0 k1 k2 k3 k5 "ValueError.__new__") := X _ _ hC
  have hD2 : (excClassObj nm q C N bs bm true sn sub ab col dd k0 k1 k2 k3 k5 "ValueError.__new__").data = .cls { name := nm, bases := bs, mro := .ref C :: bm, ns := N, qualname := q, hasDict := true, slotNames := sn, subclasses := sub, abstract := ab, collection := col, hasDel := false } := rfl
  refine ks_wpAt_super_base (env := ksEnv qual scope L fI (.ref cda) cc) hks hkc (by decide) rfl (X _ _ h1) rfl hpar rfl (X _ _ h3) rfl h4 h5 htop ?_
  have boot : mb "super" = some (.type "super") := hbb.trans (by first | rfl | decide +kernel | kernel_rfl)
  refine ks_loadName_global hk hks (loadGlobal_builtin (env := ksEnv qual scope L fI (.ref cda) cc) hg hms hb boot ⟨rfl, ?_⟩)
  refine wpAny_loadName_free hk hkc rfl ⟨_, X _ _ h6, rfl⟩ ?_
  refine wpAny_loadName_local hk (by rw [har]; exact hka) hn (by rw [har]; exact hself) ?_
  refine ks_wpAny_isType_cls XC hD2 ⟨rfl, ?_⟩
  have I : InstAt hh x (excO C t0) C none := ⟨hx, rfl, rfl, trivial⟩
  refine ks_wpAny_call_super XC hD2 hx rfl (fun c e => by cases e) (looks_mroIn X T.selfM) (fun h' e k => ?_)
  -- getMethod
  have X' : K.In h' := X.keeps k
  have I' : InstAt h' x (excO C t0) C none := ⟨k _ _ hx, rfl, rfl, trivial⟩
  have hI : Looks (model prog w) h' (isInstance (.ref x) (.type "ValueError")) true := I'.type.andThen (looks_subIn X' T.sub)
  have hm := T.sup
  unfold ks_superIn at hm
  rw [hcl] at hm
  refine kxs_getMethod kxs_ValueError e (looks_opaque X' T.op) (l₀ := .ref C :: bm) ?_ rfl X' hm hI (ks_ne X' I' hcl) (by decide) ?_
  · exact fun A Q E s k q => wpAny_bind ((looks_clsIn X' hcl) A _ E s k (wpAny_pure q))
  -- the call
  have kp : ∀ b o, hh.get? b = some o → (h'.push (kxs_mw "ValueError.__init__" x)).get? b = some o := fun b o z => Heap.get?_push_of_some _ (k b o z)
  refine kxs_callWith (i := "ValueError.__init__") (x := x) (u := h'.objs.size) (by rw [he]; exact hpl) ?_
  have harg2 : ∀ (s1 : Shared) (R : List Value → Shared → Prop), (∀ b o, hh.get? b = some o → s1.heap.get? b = some o) → (∀ us tk, us.length ≤ sizeLine → R us { s1 with toks := tk }) →
      wpAny (model prog w) A (spliced ((false, eval e1 (ksEnv qual scope L fI (.ref cda) cc)) :: backTo p3 (starEach es (ksEnv qual scope L fI (.ref cda) cc)))) R E s1 := fun s1 R a b => by
    have z := harg s1 R a b
    rw [he] at z
    exact z
  rw [he]
  refine evalArgs_plain (harg2 _ _ kp fun us tk hz => ?_)
  refine ⟨Heap.get?_push_size _ rfl, ?_⟩
  have hu : (h'.push (kxs_mw "ValueError.__init__" x)).get? h'.objs.size = some (kxs_mw "ValueError.__init__" x) := Heap.get?_push_size _ rfl
  refine wpAny_call (codeAny_of_tree ?_)
  show wpAny _ A.in1 (callAny (.ref h'.objs.size) ⟨[] ++ us, []⟩) _ _ _
  simp only [callAny]
  refine wpAny_bind (wpAny_load hu ?_)
  simp only [kxs_mw, show (Value.type "method-wrapper" == Value.type "method" || Value.type "method-wrapper" == Value.type "builtin_function_or_method" || Value.type "method-wrapper" == Value.type "method-wrapper") = true by decide, if_true]
  refine KFB.if_so (by decide) ?_
  refine wpAny_bind (check_bound_init F.excBase_ValueError.toExcCallFacts (kp _ _ XC) (kp _ _ hx) rfl ?_)
  refine wpAny_bind (wpAny_pure (wpAny_pure ?_))
  refine ⟨plainId_quiet F.excBase_ValueError.init.plain _, codeAny_builtin F.excBase_ValueError.initEntry ?_⟩
  refine exc_init_tree (cls := .ref C) (t0 := t0) (dv := none) (c2 := .none) (c3 := .none) (b4 := .bool false) (kp _ _ hx) hz (fun h2 k2 e2 e3 => ?_)
  exact hq h2 _ _ (fun b o hb z => k2 b o hb (kp b o z)) e2
end
end Isl
end
section
set_option Elab.async false
set_option linter.all false
set_option maxRecDepth 100000
set_option maxHeartbeats 4000000
namespace Isl
open PySem PySem.W PySem.Calls PyProof.Rows PySem.HandSPX

/-! ### __init__(self, place): super().__init__('..', place); self.place = place -/
def brA (p1 p2 : Pos) : Arguments := { posonlyargs := [], args := [{ arg := "self", annotation := none, pos := p1 }, { arg := "place", annotation := none, pos := p2 }], vararg := none, kwonlyargs := [], kw_defaults := [], kwarg := none, defaults := [] }
def brB (z : Str) (j : Nat) (q0 q1 q2 q3 q4 q5 q6 q7 q8 q9 qa : Pos) : List Stmt :=
  [.Expr (.Call (.Attribute (.Call (.Name "super" q0) [] [] q1) "__init__" q2) [.Constant (.str z) j q3, .Name "place" q4] [] q5) q6,
   .Assign [.Attribute (.Name "self" q7) "place" q8] (.Name "place" q9) qa]
def brS : Scope := { kind := .function, names := [(PySem.Str.ofString "self", .local), (PySem.Str.ofString "place", .local), (PySem.Str.ofString "__class__", .free), (PySem.Str.ofString "super", .globalImplicit)], isGenerator := false, isCoroutine := false, more := [] }
/-- __init__(self): super().__init__('..') -/
def nrA (p1 : Pos) : Arguments := { posonlyargs := [], args := [{ arg := "self", annotation := none, pos := p1 }], vararg := none, kwonlyargs := [], kw_defaults := [], kwarg := none, defaults := [] }
def nrB (z : Str) (j : Nat) (q0 q1 q2 q3 q5 q6 : Pos) : List Stmt := [.Expr (.Call (.Attribute (.Call (.Name "super" q0) [] [] q1) "__init__" q2) [.Constant (.str z) j q3] [] q5) q6]
def nrS : Scope := { kind := .function, names := [(PySem.Str.ofString "self", .local), (PySem.Str.ofString "__class__", .free), (PySem.Str.ofString "super", .globalImplicit)], isGenerator := false, isCoroutine := false, more := [] }

/-- a fresh exception behind its __init__ -/
structure XEnd (h h' : Heap) (x C : Addr) (d : Option Addr) (t1 : Addr) : Prop where
  keep : ∀ b o, b ≠ x → h.get? b = some o → h'.get? b = some o
  obj : h'.get? x = some { cls := .ref C, dict := d, data := .fields #[.ref t1, .none, .none, .none, .bool false, .none] }
/-- a made exception -/
structure XMade (h h' : Heap) (e C : Addr) (d : Option Addr) : Prop where
  keep : ∀ b o, h.get? b = some o → h'.get? b = some o
  new : h.objs.size ≤ e
  obj : ∃ oe vs, h'.get? e = some oe ∧ oe.cls = .ref C ∧ oe.dict = d ∧ oe.data = .fields vs ∧ vs[1]? = some .none

theorem ns_but {h h' : Heap} {L x : Addr} {m : Str → Option Value} (hn : h.Ns L m) (hne : L ≠ x) (k : ∀ b o, b ≠ x → h.get? b = some o → h'.get? b = some o) : h'.Ns L m := by
  obtain ⟨o, es, ep, ho, r⟩ := hn
  exact ⟨o, es, ep, k _ _ hne ho, r⟩
theorem k_but {K : Frag} {h h' : Heap} {x : Addr} (X : K.In h) (hx : K.lookup x = none) (k : ∀ b o, b ≠ x → h.get? b = some o → h'.get? b = some o) : K.In h' := fun a o e =>
  k a o (fun z => by rw [z, hx] at e; cases e) (X a o e)

section
variable {prog : Program} {w : World} {A : Around} {E : Value → Shared → Prop} {R : Result → Shared → Prop} {s : Shared} {K : Frag} {mg mb : Str → Option Value} {C fI x t0 : Addr} {qual : Str}

theorem nr_init {z : Str} {j : Nat} {p1 q0 q1 q2 q3 q5 q6 : Pos} (T : XTxt K prog C fI qual (nrA p1) (nrB z j q0 q1 q2 q3 q5 q6) nrS)
    (X : K.In s.heap) (hg : s.heap.Ns mainGlobals mg) (hb : s.heap.Ns builtinsNs mb) (hbb : mb "super" = bootBuiltins "super") (hms : mg "super" = none) (hlim : s.heap.NoLimit)
    (hx : s.heap.get? x = some (excO C t0)) (hroom : A.depth < recursionLimit) (hp5 : (q2.endLine == q5.line) = true) (htop : (prog.main.scope.names.lookup ("super" : Str)).isSome = false)
    (hq : ∀ h' tk t1, XEnd s.heap h' x C none t1 → R (.ok (.ret .none)) { s with heap := h', toks := tk }) :
    codeAny (model prog w) A (.call (.ref fI) ⟨[.ref x], []⟩) R s := by
  obtain ⟨oc, od, doc, pm, an, cda, ct, osl, cc, ccl, cl, cdd, cld, vs, ccs, csl, file, tf, h1, h2, h3, h4, h5, h6⟩ := id T.fn
  refine ks_codeAny_call_defAt (fd := ksFn "__init__" qual (nrA p1) (nrB z j q0 q1 q2 q3 q5 q6) nrS .none .none doc pm an (.ref cda) ct cc) (body := nrB z j q0 q1 q2 q3 q5 q6) (binds := [("self", .ref x)]) hroom (X _ _ h1) rfl hlim (codeRec_of X h2) rfl (BindsTo.of_eq (by first | rfl | with_unfolding_all rfl))
    (fun y hy => ?_) (fun y hy => ?_) (fun h₁ hns kp => ?_) rfl rfl rfl
  · simp only [nrS, ksFn, fnX, List.mem_cons, List.not_mem_nil, or_false] at hy
    rcases hy with e | e | e <;> subst e <;> decide
  · obtain rfl : y = _ := List.mem_singleton.mp hy
    rfl
  · refine ks_wpAt_execs_cons (super_row (mg := mg) (mb := mb) (L := s.heap.objs.size) (m := fun y => [(("self" : Str), Value.ref x)].reverse.lookup y) (x := x) (t0 := t0) T h1 h3 h4 h5 h6 (X.keeps kp) (hg.keeps kp) (hb.keeps kp) hbb hms hns rfl (kp _ _ hx) (ar := { arg := "self", annotation := none, pos := p1 }) rfl rfl rfl rfl rfl rfl htop rfl rfl
      (fun s1 R' kk hr => ?_) rfl rfl (ev_super _ _ _ _ _ _ _ hp5 rfl) (fun h' tk t1 k e => ?_))
    · refine Calls.spliced_cons ?_
      show wpAny _ _ (eval (.Constant (.str z) j q3) _) _ _ _
      refine Calls.Constant_str ?_
      exact Calls.spliced_nil (hr _ _ (by show 1 ≤ sizeLine; rw [sizeLine_eq]; decide))
    · refine wpAt_of_wpAny (wpAny_execs_nil ?_)
      exact hq _ _ t1 ⟨fun b o hb e => k b o hb (kp b o e), e⟩

theorem br_init {z : Str} {j : Nat} {p1 p2 q0 q1 q2 q3 q4 q5 q6 q7 q8 q9 qa : Pos} {v : Value} (T : XTxt K prog C fI qual (brA p1 p2) (brB z j q0 q1 q2 q3 q4 q5 q6 q7 q8 q9 qa) brS) (noP : findIn K (.ref C) "place" = some none)
    (X : K.In s.heap) (hg : s.heap.Ns mainGlobals mg) (hb : s.heap.Ns builtinsNs mb) (hbb : mb "super" = bootBuiltins "super") (hms : mg "super" = none) (hlim : s.heap.NoLimit)
    (hx : s.heap.get? x = some (excO C t0)) (hnx : K.lookup x = none) (hroom : A.depth < recursionLimit) (hp5 : (q2.endLine == q5.line) = true) (htop : (prog.main.scope.names.lookup ("super" : Str)).isSome = false)
    (hq : ∀ h' tk dx t1, XEnd s.heap h' x C (some dx) t1 → s.heap.objs.size ≤ dx → dx ≠ x → h'.Ns1 dx (fun y => if y = "place" then some v else none) → R (.ok (.ret .none)) { s with heap := h', toks := tk }) :
    codeAny (model prog w) A (.call (.ref fI) ⟨[.ref x, v], []⟩) R s := by
  obtain ⟨oc, od, doc, pm, an, cda, ct, osl, cc, ccl, cl, cdd, cld, vs, ccs, csl, file, tf, h1, h2, h3, h4, h5, h6⟩ := id T.fn
  obtain ⟨nm, q, N, bs, bm, sn, sub, ab, col, dd, k0, k1, k2, k3, k5, hC, hbm⟩ := T.cls
  have hcl : clsIn K C = some { name := nm, bases := bs, mro := .ref C :: bm, ns := N, qualname := q, hasDict := true, slotNames := sn, subclasses := sub, abstract := ab, collection := col, hasDel := false } := by unfold clsIn; rw [hC] <;> rfl
  refine ks_codeAny_call_defAt (fd := ksFn "__init__" qual (brA p1 p2) (brB z j q0 q1 q2 q3 q4 q5 q6 q7 q8 q9 qa) brS .none .none doc pm an (.ref cda) ct cc) (body := brB z j q0 q1 q2 q3 q4 q5 q6 q7 q8 q9 qa) (binds := [("self", .ref x), ("place", v)]) hroom (X _ _ h1) rfl hlim (codeRec_of X h2) rfl (BindsTo.of_eq (by first | rfl | with_unfolding_all rfl))
    (fun y hy => ?_) (fun y hy => ?_) (fun h₁ hns kp => ?_) rfl rfl rfl
  · simp only [brS, ksFn, fnX, List.mem_cons, List.not_mem_nil, or_false] at hy
    rcases hy with e | e | e | e <;> subst e <;> decide
  · rcases List.mem_cons.mp hy with e | e
    · subst e
      rfl
    · obtain rfl : y = _ := List.mem_singleton.mp e
      rfl
  · have hxL : s.heap.objs.size ≠ x := Nat.ne_of_gt (Heap.lt_size hx)
    refine ks_wpAt_execs_cons (super_row (mg := mg) (mb := mb) (L := s.heap.objs.size) (m := fun y => [(("self" : Str), Value.ref x), ("place", v)].reverse.lookup y) (x := x) (t0 := t0) T h1 h3 h4 h5 h6 (X.keeps kp) (hg.keeps kp) (hb.keeps kp) hbb hms hns rfl (kp _ _ hx) (ar := { arg := "self", annotation := none, pos := p1 }) rfl rfl rfl rfl rfl rfl htop rfl rfl
      (fun s1 R' kk hr => ?_) rfl rfl (ev_super _ _ _ _ _ _ _ hp5 rfl) (fun h' tk t1 k e => ?_))
    · refine Calls.spliced_cons ?_
      show wpAny _ _ (eval (.Constant (.str z) j q3) _) _ _ _
      refine Calls.Constant_str ?_
      have hns1 : s1.heap.Ns s.heap.objs.size (fun y => [(("self" : Str), Value.ref x), ("place", v)].reverse.lookup y) := by
        obtain ⟨o, es, ep, ho, r⟩ := hns
        exact ⟨o, es, ep, kk _ _ ho, r⟩
      refine Calls.spliced_cons (wpAny_Name (wpAny_loadName_local (name := ("place" : Str)) (v := v) rfl rfl hns1 rfl ?_) (by decide))
      exact Calls.spliced_nil (hr _ _ (by show 2 ≤ sizeLine; rw [sizeLine_eq]; decide))
    · have hn' := ns_but hns hxL k
      have X' : K.In h' := k_but (X.keeps kp) hnx k
      refine wpAt_of_wpAny (wpAny_execs_cons (plainObj_wpAny_Assign_Attribute ?_))
      refine wpAny_Name (wpAny_loadName_local (name := ("place" : Str)) (v := v) rfl rfl hn' rfl ?_) (by decide)
      refine wpAny_Name (wpAny_loadName_local (name := ("self" : Str)) (v := .ref x) rfl rfl hn' rfl ?_) (by decide)
      refine set_plain X' (ox := excO C t1) (od := none) ⟨e, rfl, rfl, trivial⟩ T.sa ?_
      refine exc_osa X' e hcl (show refsVE (.ref C :: bm) = true from hbm) rfl noP (fun h₃ tk₃ dx k₃ dn dne hx₃ hn₃ => ?_)
      refine wpAny_execs_nil ?_
      have z1 : s.heap.objs.size < h'.objs.size := hn'.lt
      exact hq _ _ dx t1 ⟨fun b o hb z => k₃ b o hb (k b o hb (kp b o z)), hx₃⟩ (Nat.le_of_lt (Nat.lt_of_lt_of_le z1 dn)) dne hn₃

theorem no_new {K : Frag} {h : Heap} {b : Addr} (X : K.In h) (hb : h.objs.size ≤ b) : K.lookup b = none := by
  cases e : K.lookup b with
  | none => rfl
  | some o => exact absurd (Nat.lt_of_lt_of_le (Heap.lt_size (X _ _ e)) hb) (Nat.lt_irrefl _)
theorem sz_one (v : Value) : [v].length ≤ sizeLine := by
  rw [sizeLine_eq]
  exact (by decide : 1 ≤ 16777216)

theorem br_made {z : Str} {j : Nat} {p1 p2 q0 q1 q2 q3 q4 q5 q6 q7 q8 q9 qa : Pos} {v : Value} (T : XTxt K prog C fI qual (brA p1 p2) (brB z j q0 q1 q2 q3 q4 q5 q6 q7 q8 q9 qa) brS) (noP : findIn K (.ref C) "place" = some none)
    (X : K.In s.heap) (hg : s.heap.Ns mainGlobals mg) (hb : s.heap.Ns builtinsNs mb) (hbb : mb "super" = bootBuiltins "super") (hms : mg "super" = none) (hlim : s.heap.NoLimit)
    (hroom : A.depth + 1 < recursionLimit) (hp5 : (q2.endLine == q5.line) = true) (htop : (prog.main.scope.names.lookup ("super" : Str)).isSome = false)
    (hq : ∀ h' tk e d, XMade s.heap h' e C (some d) → s.heap.objs.size ≤ d → d ≠ e → h'.Ns1 d (fun y => if y = "place" then some v else none) → R (.ok (.ret (.ref e))) { s with heap := h', toks := tk }) :
    codeAny (model prog w) A (.call (.ref C) ⟨[v], []⟩) R s := by
  obtain ⟨nm, q, N, bs, bm, sn, sub, ab, col, dd, k0, k1, k2, k3, k5, hC, hbm⟩ := T.cls
  obtain ⟨hp, g, dr, tk, os⟩ := s
  have k : ∀ b o, hp.get? b = some o → ((hp.push (kdv_tup [v])).push (excO C hp.objs.size)).get? b = some o := fun b o e => Heap.get?_push_of_some _ (Heap.get?_push_of_some _ e)
  have hget : ((hp.push (kdv_tup [v])).push (excO C hp.objs.size)).get? (hp.objs.size + 1) = some (excO C hp.objs.size) := by heap_get
  refine call_own F.excBase_ValueError (fun X => refsVE_contains X bm hbm) (X _ _ hC) (looks_findIn X T.iC) (fun self => bind_fn X self T.tC) (sz_one v) ?_
  refine br_init (mg := mg) (mb := mb) (t0 := hp.objs.size) (s := ⟨(hp.push (kdv_tup [v])).push (excO C hp.objs.size), g, dr, tk, os⟩) T noP (X.keeps k) (hg.keeps k) (hb.keeps k) hbb hms (hlim.keeps k) hget (no_new X (Nat.le_succ _)) ?_ hp5 htop (fun h' tk' dx t1 E1 dn dne hns => ?_)
  · show A.depth + 1 < recursionLimit
    exact hroom
  · have old : ∀ b o, hp.get? b = some o → h'.get? b = some o := fun b o e => E1.keep b o (Nat.ne_of_lt (Nat.lt_succ_of_lt (Heap.lt_size e))) (k b o e)
    have z1 : hp.objs.size + 1 + 1 ≤ dx := by
      first
        | (simpa only [Heap.size_push] using dn)
        | exact dn
    exact ⟨rfl, hq h' tk' (hp.objs.size + 1) dx ⟨old, Nat.le_succ _, ⟨_, _, E1.obj, rfl, rfl, rfl, rfl⟩⟩ (Nat.le_trans (Nat.le_trans (Nat.le_succ _) (Nat.le_succ _)) z1) dne hns⟩

theorem nr_made {z : Str} {j : Nat} {p1 q0 q1 q2 q3 q5 q6 : Pos} (T : XTxt K prog C fI qual (nrA p1) (nrB z j q0 q1 q2 q3 q5 q6) nrS)
    (X : K.In s.heap) (hg : s.heap.Ns mainGlobals mg) (hb : s.heap.Ns builtinsNs mb) (hbb : mb "super" = bootBuiltins "super") (hms : mg "super" = none) (hlim : s.heap.NoLimit)
    (hroom : A.depth + 1 < recursionLimit) (hp5 : (q2.endLine == q5.line) = true) (htop : (prog.main.scope.names.lookup ("super" : Str)).isSome = false)
    (hq : ∀ h' tk e, XMade s.heap h' e C none → R (.ok (.ret (.ref e))) { s with heap := h', toks := tk }) :
    codeAny (model prog w) A (.call (.ref C) ⟨[], []⟩) R s := by
  obtain ⟨nm, q, N, bs, bm, sn, sub, ab, col, dd, k0, k1, k2, k3, k5, hC, hbm⟩ := T.cls
  obtain ⟨hp, g, dr, tk, os⟩ := s
  have k : ∀ b o, hp.get? b = some o → ((hp.push (kdv_tup [])).push (excO C hp.objs.size)).get? b = some o := fun b o e => Heap.get?_push_of_some _ (Heap.get?_push_of_some _ e)
  have hget : ((hp.push (kdv_tup [])).push (excO C hp.objs.size)).get? (hp.objs.size + 1) = some (excO C hp.objs.size) := by heap_get
  refine call_own F.excBase_ValueError (fun X => refsVE_contains X bm hbm) (X _ _ hC) (looks_findIn X T.iC) (fun self => bind_fn X self T.tC) (Nat.zero_le _) ?_
  refine nr_init (mg := mg) (mb := mb) (t0 := hp.objs.size) (s := ⟨(hp.push (kdv_tup [])).push (excO C hp.objs.size), g, dr, tk, os⟩) T (X.keeps k) (hg.keeps k) (hb.keeps k) hbb hms (hlim.keeps k) hget ?_ hp5 htop (fun h' tk' t1 E1 => ?_)
  · show A.depth + 1 < recursionLimit
    exact hroom
  · have old : ∀ b o, hp.get? b = some o → h'.get? b = some o := fun b o e => E1.keep b o (Nat.ne_of_lt (Nat.lt_succ_of_lt (Heap.lt_size e))) (k b o e)
    exact ⟨rfl, hq h' tk' (hp.objs.size + 1) ⟨old, Nat.le_succ _, ⟨_, _, E1.obj, rfl, rfl, rfl, rfl⟩⟩⟩
end
end Isl
end
section
set_option Elab.async false
set_option linter.all false
set_option maxRecDepth 100000
set_option maxHeartbeats 4000000
namespace Isl
open PySem PySem.Spec PyProof.Rows L2

/-- BadRule and its __init__ as the top has left them -/
structure BrT (K : PySem.W.Frag) (prog : Program) (mg : Str → Option Value) (C : Addr) : Prop where
  gC : mg "BadRule" = some (.ref C)
  ms : mg "super" = none
  tx : ∃ (fI : Addr) (qual z : Str) (j : Nat) (p1 p2 q0 q1 q2 q3 q4 q5 q6 q7 q8 q9 qa : Pos), XTxt K prog C fI qual (brA p1 p2) (brB z j q0 q1 q2 q3 q4 q5 q6 q7 q8 q9 qa) brS ∧ (q2.endLine == q5.line) = true
  noP : PySem.W.findIn K (.ref C) "place" = some none
  top : (prog.main.scope.names.lookup ("super" : Str)).isSome = false
  exC : PySem.W.subIn K (.ref C) (.type "BaseException") = some true
  tyC : PySem.W.typeIn K (.ref C) = some (.type "type")
  kC : PySem.W.keepIn K (.ref C) = true
/-- NoRow -/
structure NrT (K : PySem.W.Frag) (prog : Program) (mg : Str → Option Value) (C : Addr) : Prop where
  gC : mg "NoRow" = some (.ref C)
  ms : mg "super" = none
  tx : ∃ (fI : Addr) (qual z : Str) (j : Nat) (p1 q0 q1 q2 q3 q5 q6 : Pos), XTxt K prog C fI qual (nrA p1) (nrB z j q0 q1 q2 q3 q5 q6) nrS ∧ (q2.endLine == q5.line) = true
  top : (prog.main.scope.names.lookup ("super" : Str)).isSome = false
  exC : PySem.W.subIn K (.ref C) (.type "BaseException") = some true
  tyC : PySem.W.typeIn K (.ref C) = some (.type "type")
  kC : PySem.W.keepIn K (.ref C) = true

theorem relO_place {v : V} {v' : Value} (r : RelV v v') (f : Str) : RelO (List.lookup f [(("place" : Str), v)]) (if f = "place" then some v' else none) := by
  by_cases hw : f = "place"
  · subst hw
    rw [if_pos rfl]
    have q : List.lookup ("place" : Str) [(("place" : Str), v)] = some v := by simp [List.lookup]
    rw [q]
    exact r
  · rw [if_neg hw]
    have qw : (f == ("place" : Str)) = false := by simpa using hw
    have q2 : List.lookup f [(("place" : Str), v)] = none := by simp [List.lookup, qw]
    rw [q2]
    trivial

section
variable {X : Cx} {C : Addr}
/-- BadRule(e) -/
def tMkBr (C : Addr) (ta : TA) : L2.St → Hp → XK → Prop := fun σ H Q => ta σ H fun vs H1 => ∃ v, vs = [v] ∧ ∀ d, H1 d = none → Q (.ref C) (some d) (upd H1 d (.xd [(("place" : Str), v)]))
theorem pmk_br {a : Expr} {ta : TA} {p pos : Pos} {k : Nat} (T : BrT X.K X.prog X.mg C) (hr : Room k X.A) (ha : PA X [a] ta) (hg : Gl X "BadRule" := by rfl)
    (he : starEach (a :: []) X.env = (false, eval a X.env) :: starEach [] X.env := by rfl) (hpl : (backTo pos (starEach [] X.env)).any (·.1) = false := by rfl) :
    PMk X (.Call (.Name "BadRule" p) [a] [] pos) (tMkBr C ta) := by
  intro pins s σ H Q I h
  obtain ⟨fI, qual, z, j, p1, p2, q0, q1, q2, q3, q4, q5, q6, q7, q8, q9, qa, tx, hp5⟩ := T.tx
  refine wpAny_Call_Name_kw (ld_glob I hg T.gC ?_)
  refine PySem.W.callWith_K (h₀ := X.base) I.ok.mod.kin T.kC (thn (ha.run pos pins s σ H _ I h) fun us s1 hh => ?_) he hpl
  obtain ⟨vs, H1, I1, r1, v, ev, qq⟩ := hh
  subst ev
  refine ⟨I1.kIn, ?_⟩
  obtain ⟨v', eu, rv⟩ := Vals.one r1
  subst eu
  show wpAny _ _ (call (.ref C) [v']) _ _ _
  have hlim := I1.nolimit
  obtain ⟨mb, b1, b2⟩ := I1.mod.blt
  have hGl := I1.mod.glob.keeps I1.bk
  have hBl := b1.keeps I1.bk
  have hK := I1.kIn
  obtain ⟨hp, g, dr, tk, os⟩ := s1
  refine wpAny_call (br_made (mg := X.mg) (mb := mb) tx T.noP hK hGl hBl (b2 _ (by decide)) T.ms hlim (by have := hr.dp; omega) hp5 T.top fun h' tk' e d M dbig dne hns => ?_)
  show MkP X pins σ Q (.ref e) ⟨h', g, dr, tk', os⟩
  obtain ⟨oe, fv, hoe, hc, hd, hdat, h1⟩ := M.obj
  obtain ⟨G', g1, g2⟩ := restrict h' fun b => decide (b ≠ e)
  have gk : ∀ b, b ≠ e → G'.get? b = h'.get? b := fun b hb => g1 b (decide_eq_true hb)
  have ge : G'.get? e = none := g2 e (by simp)
  have old : ∀ b o, hp.get? b = some o → G'.get? b = some o := fun b o q => (gk b (Nat.ne_of_lt (Nat.lt_of_lt_of_le (Heap.lt_size q) M.new))).trans (M.keep b o q)
  have ob : ObjOk X.prog X.w (upd H1 d (.xd [(("place" : Str), v)])) G' d (.xd [(("place" : Str), v)]) :=
    ⟨_, hns.at (fun o q => (gk d dne).trans q), fun f => relO_place rv f⟩
  have J : Inv X pins σ (upd H1 d (.xd [(("place" : Str), v)])) ⟨G', g, dr, tk', os⟩ := I1.laid (t' := tk') old dbig ob
  refine ⟨e, oe, fv, ⟨G', g, dr, tk', os⟩, _, .ref C, some d, rfl, J, fun b o q => ?_, ge, hoe, ⟨hc, hd⟩, hdat, h1, ?_, rfl, I1.bare, raises_own T.exC T.tyC, qq d (I1.hok.fresh dbig)⟩
  · by_cases hb : b = e
    · have q' : G'.get? b = some o := q
      rw [hb, ge] at q'; cases q'
    · exact (gk b hb).symm.trans q
  · rw [upd_ne (Ne.symm dne)]
    exact I1.hok.fresh M.new
/-- raise BadRule(e) -/
def tRaiseBr (C : Addr) (W : WX) (ta : TA) : TS := fun _ σ H => tMkBr C ta σ H fun cls d H' => W cls d σ H'
theorem ps_raiseBr {a : Expr} {ta : TA} {W : WX} {p pos pos2 : Pos} {k : Nat} (hc : X.calm = true) (T : BrT X.K X.prog X.mg C) (hr : Room k X.A) (tk : Takes X W) (ha : PA X [a] ta) (hg : Gl X "BadRule" := by rfl)
    (he : starEach (a :: []) X.env = (false, eval a X.env) :: starEach [] X.env := by rfl) (hpl : (backTo pos (starEach [] X.env)).any (·.1) = false := by rfl) :
    PS X (.Raise (some (.Call (.Name "BadRule" p) [a] [] pos)) none pos2) (tRaiseBr C W ta) := ps_raise hc tk (pmk_br T hr ha hg he hpl)

/-- NoRow() -/
def tMkNr (C : Addr) : L2.St → Hp → XK → Prop := fun _ H Q => Q (.ref C) none H
theorem pmk_nr {p pos : Pos} {k : Nat} (T : NrT X.K X.prog X.mg C) (hr : Room k X.A) (hg : Gl X "NoRow" := by rfl) :
    PMk X (.Call (.Name "NoRow" p) [] [] pos) (tMkNr C) := by
  intro pins s σ H Q I h
  obtain ⟨fI, qual, z, j, p1, q0, q1, q2, q3, q5, q6, tx, hp5⟩ := T.tx
  refine wpAny_Call_Name_kw (ld_glob I hg T.gC ?_)
  refine PySem.W.callWith_K0 I.kIn T.kC ?_
  have hlim := I.nolimit
  obtain ⟨mb, b1, b2⟩ := I.mod.blt
  have hGl := I.mod.glob.keeps I.bk
  have hBl := b1.keeps I.bk
  have hK := I.kIn
  obtain ⟨hp, g, dr, tk, os⟩ := s
  refine wpAny_call (nr_made (mg := X.mg) (mb := mb) tx hK hGl hBl (b2 _ (by decide)) T.ms hlim (by have := hr.dp; omega) hp5 T.top fun h' tk' e M => ?_)
  show MkP X pins σ Q (.ref e) ⟨h', g, dr, tk', os⟩
  obtain ⟨oe, fv, hoe, hc, hd, hdat, h1⟩ := M.obj
  obtain ⟨G', g1, g2⟩ := restrict h' fun b => decide (b ≠ e)
  have gk : ∀ b, b ≠ e → G'.get? b = h'.get? b := fun b hb => g1 b (decide_eq_true hb)
  have ge : G'.get? e = none := g2 e (by simp)
  have old : ∀ b o, hp.get? b = some o → G'.get? b = some o := fun b o q => (gk b (Nat.ne_of_lt (Nat.lt_of_lt_of_le (Heap.lt_size q) M.new))).trans (M.keep b o q)
  have J : Inv X pins σ H ⟨G', g, dr, tk', os⟩ := I.kept (t' := tk') old
  refine ⟨e, oe, fv, ⟨G', g, dr, tk', os⟩, _, .ref C, none, rfl, J, fun b o q => ?_, ge, hoe, ⟨hc, hd⟩, hdat, h1, I.hok.fresh M.new, rfl, I.bare, raises_own T.exC T.tyC, h⟩
  by_cases hb : b = e
  · have q' : G'.get? b = some o := q
    rw [hb, ge] at q'; cases q'
  · exact (gk b hb).symm.trans q
/-- raise NoRow() -/
def tRaiseNr (C : Addr) (W : WX) : TS := fun _ σ H => W (.ref C) none σ H
theorem ps_raiseNr {W : WX} {p pos pos2 : Pos} {k : Nat} (hc : X.calm = true) (T : NrT X.K X.prog X.mg C) (hr : Room k X.A) (tk : Takes X W) (hg : Gl X "NoRow" := by rfl) :
    PS X (.Raise (some (.Call (.Name "NoRow" p) [] [] pos)) none pos2) (tRaiseNr C W) := ps_raise hc tk (pmk_nr T hr hg)
end
end Isl
end
section
set_option Elab.async false
set_option linter.all false
set_option maxRecDepth 100000
set_option maxHeartbeats 4000000
namespace Isl
open PySem PySem.Spec PyProof.Rows L2

/-! ### try with several clauses, each with or without 'as' -/
abbrev Cl3 := Value × Option Nat × (Addr → Value → Option Addr → TS)
def endAs (D : Ends) (i : Nat) : Ends := { nx := fun σ' H' => D.nx (σ'.set i none) H', rt := D.rt, bk := fun σ' H' => D.bk (σ'.set i none) H', ct := fun σ' H' => D.ct (σ'.set i none) H' }
def suiteOf (D : Ends) : Option Nat → (Addr → Value → Option Addr → TS) → Value → Option Addr → L2.St → Hp → Prop
  | none, ts, cls, d, σ, H => ∀ a, H a = none → ts a cls d D σ H
  | some i, ts, cls, d, σ, H => ∀ a, H a = none → ts a cls d (endAs D i) (σ.set i (some (.ref a))) H
def wMix (K : PySem.W.Frag) (Wout : WX) (D : Ends) : List Cl3 → WX
  | [] => Wout
  | (c, n, ts) :: r => fun cls d σ H => ∃ b, PySem.W.exmOne K cls c = some b ∧ (b = true → suiteOf D n ts cls d σ H) ∧ (b = false → wMix K Wout D r cls d σ H)
inductive MixOk (X : Cx) : List ExceptHandler → List Cl3 → Prop
  | nil : MixOk X [] []
  | bare {x : Str} {c : Value} {ts : Addr → Value → Option Addr → TS} {b₀ : Stmt} {suite : List Stmt} {np pos' : Pos} {hds : List ExceptHandler} {l : List Cl3} (hc : Names X x c)
      (hsu : ∀ (a : Addr) (oe : Obj) (cls : Value) (d : Option Addr) (pn : List (Addr × Obj)), Zc cls d oe → (∃ vs, oe.data = .fields vs) → PSs (X.suite a ((a, oe) :: pn)) (b₀ :: suite) (ts a cls d)) (r : MixOk X hds l) :
      MixOk X (.ExceptHandler (some (.Name x np)) none (b₀ :: suite) pos' :: hds) ((c, none, ts) :: l)
  | named {x n : Str} {i : Nat} {c : Value} {ts : Addr → Value → Option Addr → TS} {b₀ : Stmt} {suite : List Stmt} {np pos' : Pos} {hds : List ExceptHandler} {l : List Cl3} (hc : Names X x c)
      (hN : X.N.Nodup) (hi : X.N[i]? = some n) (hln : X.env.kindOf n = some .local)
      (hsu : ∀ (a : Addr) (oe : Obj) (cls : Value) (d : Option Addr) (pn : List (Addr × Obj)), Zc cls d oe → (∃ vs, oe.data = .fields vs) → PSs (X.suite a ((a, oe) :: pn)) (b₀ :: suite) (ts a cls d)) (r : MixOk X hds l) :
      MixOk X (.ExceptHandler (some (.Name x np)) (some n) (b₀ :: suite) pos' :: hds) ((c, some i, ts) :: l)

section
variable {X : Cx} {body : List Stmt} {h₀ : ExceptHandler} {hds : List ExceptHandler} {l : List Cl3} {pos : Pos} {tb : WX → TS} {Wout : WX}
theorem ps_try_mix (hs : X.stack = X.env :: X.outer) (hf : X.env.frame = some X.env.locals) (tk : Takes X Wout)
    (hb : ∀ (W : WX) (pn : List (Addr × Obj)) (xe : Value → Shared → Prop), Takes (X.tr pn xe) W → PassesOwn (model X.prog X.w) X.A X.env xe → PSs (X.tr pn xe) body (tb W))
    (hh : MixOk X (h₀ :: hds) l) : PS X (.Try body (h₀ :: hds) [] [] pos) (fun D σ H => tb (wMix X.K Wout D l) D σ H) := by
  refine ⟨fun pins s σ H D I h => ?_⟩
  have ok := I.ok
  have hfr : X.A.frames = some (X.env :: X.outer) := by rw [ok.frames, hs]
  refine wpAny_Try_except ?_
  refine wpAny_mono ((hb (wMix X.K Wout D l) (X.pn ++ pins) (fun e s1 => wpAny (model X.prog X.w) X.A (noteFrame e X.env) (fun _ s2 => wpAny (model X.prog X.w) X.A (setFlight e none) (fun _ s3 =>
    wpAny (model X.prog X.w) X.A (handleBy e X.env (h₀ :: hds)) (SP X pins D) X.xe s3) X.xe s2) X.xe s1) (fun u s' xx => ?_) PassesOwn.looking).run [] s σ H D (I.toTry _) h) (fun f s1 hsp => ?_) (fun e s1 he => he)
  · obtain ⟨a, B, sI, pins', σ', H', cls, d, rfl, J', nb, up, sky, na, os, ag, wish⟩ := xx
    have J : Inv X pins σ' H' sI := J'.ofTry ok
    have sky' : Sky B (X.env :: X.outer) a (Zc cls d) X.env.locals s'.heap := by rw [← hs]; exact sky
    show wpAny (model X.prog X.w) X.A (noteFrame (.ref a) X.env) _ _ _
    refine Sky.land Zc.steady hfr hf sky' fun h3 fl3 up3 => ?_
    have J3 : Inv X pins σ' H' { s' with heap := h3 } := J.landed nb fl3.1 (up.trans up3) os ag
    obtain ⟨oe3, vs3, he3, hz3, hd3⟩ := fl3.there
    have notFr : ∀ {h : Heap} {o : Obj} {vs : Array Value}, h.FunFrames B (X.env :: X.outer) → h.get? a = some o → o.data = .fields vs → a ∉ frs (X.env :: X.outer) := fun {h o vs} ff e dd hm => by
      obtain ⟨_, o', e', hnf⟩ := ff.mem hm
      rw [e] at e'; cases e'
      exact hnf _ dd
    have nfr := notFr fl3.2.2.1 he3 hd3
    have nL : a ≠ X.env.locals := fun z => nfr (List.mem_filterMap.mpr ⟨X.env, List.mem_cons_self, by rw [hf, z]⟩)
    have nF : a ∉ X.fs := fun hm => by
      obtain ⟨e, he, q⟩ := List.mem_filterMap.mp hm
      exact nfr (List.mem_filterMap.mpr ⟨e, List.mem_cons_of_mem _ he, q⟩)
    have S3 := J3.suite he3 hd3 na nL nF
    have LT : PySem.W.Looks (model X.prog X.w) h3 (typeOf (.ref a)) cls := fun A Q E s k q => wpAny_typeOf_ref (k _ _ he3) (by rw [hz3.1]; exact q)
    have test : ∀ {x : Str} {c : Value} {np : Pos} {Q : Value → Shared → Prop} {E : Value → Shared → Prop}, Names X x c → Q c { s' with heap := h3 } → wpAny (model X.prog X.w) (X.A.mark (some (.ref a))) (eval (.Name x np) X.env) Q E { s' with heap := h3 } := fun {x c np Q E} hc q => by
      obtain ⟨hg, hdbg, hm | ⟨hm, hv, hnn⟩⟩ := hc
      · exact ld_glob (X := X.suite a ((a, oe3) :: (X.pn ++ pins))) S3 hg hm q hdbg
      · exact ld_blt (X := X.suite a ((a, oe3) :: (X.pn ++ pins))) S3 hg hm hv q hnn hdbg
    have go : ∀ {hds' : List ExceptHandler} {l' : List Cl3}, MixOk X hds' l' → wMix X.K Wout D l' cls d σ' H' →
        wpAny (model X.prog X.w) X.A (handleBy (.ref a) X.env hds') (SP X pins D) X.xe { s' with heap := h3 } := by
      intro hds' l' hk
      induction hk with
      | nil =>
        intro wish
        refine wpAny_handleBy_nil ?_
        obtain ⟨k1, k2, k3, oe, vs, T, oT, ts', he, hz, hd, h1, hr⟩ := id fl3
        unfold PySem.passOn
        refine wpAny_bind (wpAny_field he hd h1 ?_)
        rw [if_neg (show ¬ ((Value.ref T == Value.none) = true) from by simp)]
        have fin : wpAny (model X.prog X.w) X.A (setFlight (.ref a) X.env.frame) (fun _ s4 => wpAny (model X.prog X.w) X.A (throw (.ref a) : Sem Flow) (SP X pins D) X.xe s4) X.xe { s' with heap := h3 } := by
          rw [hf]
          refine HandSPX.setFlight_upZ fl3 fun h4 hh4 up4 => wpAny_throw (tk _ _ ?_)
          exact ⟨a, B, sI, pins, σ', H', cls, d, rfl, J, nb, (up.trans up3).trans up4, .inr (.inr (by rw [hs]; exact hh4)), na, os, ag, wish⟩
        first
          | exact wpAny_bind (wpAny_pure (wpAny_bind fin))
          | exact wpAny_bind fin
      | @bare x c ts b₀ suite np pos' hds2 l2 hc hsu r ih =>
        intro wish
        obtain ⟨b, hb1, hyes, hno⟩ := wish
        refine wpAny_handleBy_cons (codeAny_handlers_test ?_) (by intro q; cases q)
        have LM := PySem.W.exm_one (M := model X.prog X.w) (J3.kIn) LT hb1
        refine test hc (LM.here ?_)
        cases b with
        | true =>
          refine codeAny_handlers_suite ?_
          refine HandSPX.lands_againZ fl3 fun h4 fl4 up4 => ?_
          have J4 : Inv X pins σ' H' { s' with heap := h4 } := J.landed nb fl4.1 ((up.trans up3).trans up4) os ag
          obtain ⟨oe4, vs4, he4, hz4, hd4⟩ := fl4.there
          have S4 := J4.suite he4 hd4 na nL nF
          have hy : ∀ a, H' a = none → ts a cls d D σ' H' := hyes rfl
          refine wpAny_mono ((hsu a oe4 cls d (X.pn ++ pins) hz4 ⟨_, hd4⟩).run [] _ _ H' _ S4 (hy a na)) (fun f s6 hsp => ?_) (fun _ _ z => False.elim z)
          cases f with
          | next =>
            obtain ⟨σ6, H6, S6, q6⟩ := hsp
            exact ⟨_, _, S6.unsuite ok, q6⟩
          | brk =>
            obtain ⟨σ6, H6, S6, q6⟩ := hsp
            exact ⟨_, _, S6.unsuite ok, q6⟩
          | cont =>
            obtain ⟨σ6, H6, S6, q6⟩ := hsp
            exact ⟨_, _, S6.unsuite ok, q6⟩
          | ret u =>
            obtain ⟨v6, σ6, H6, S6, r6, q6⟩ := hsp
            exact ⟨_, _, _, S6.unsuite ok, r6, q6⟩
        | false =>
          show wpAny _ X.A (handleBy (.ref a) X.env hds2) _ _ _
          exact ih (hno rfl)
      | @named x n i c ts b₀ suite np pos' hds2 l2 hc hN hi hln hsu r ih =>
        intro wish
        obtain ⟨b, hb1, hyes, hno⟩ := wish
        have hloc : Loc X.env.scope n := .inl hln
        refine wpAny_handleBy_cons (codeAny_handlers_test ?_) (by intro q; cases q)
        have LM := PySem.W.exm_one (M := model X.prog X.w) (J3.kIn) LT hb1
        refine test hc (LM.here ?_)
        cases b with
        | true =>
          refine codeAny_handlers_suite_as ?_
          refine HandSPX.lands_againZ fl3 fun h4 fl4 up4 => ?_
          have J4 : Inv X pins σ' H' { s' with heap := h4 } := J.landed nb fl4.1 ((up.trans up3).trans up4) os ag
          obtain ⟨oe4, vs4, he4, hz4, hd4⟩ := fl4.there
          have S4 := J4.suite he4 hd4 na nL nF
          have hy : ∀ a, H' a = none → ts a cls d (endAs D i) (σ'.set i (some (.ref a))) H' := hyes rfl
          refine store_ok (X := X.suite a ((a, oe4) :: (X.pn ++ pins))) (v := .ref a) S4 hN hi hloc rfl (fun s5 S5 => ?_) (.inr hln)
          refine wpAny_mono ((hsu a oe4 cls d (X.pn ++ pins) hz4 ⟨_, hd4⟩).run [] s5 _ H' _ S5 (hy a na)) (fun f s6 hsp => ?_) (fun _ _ z => False.elim z)
          have end_ : ∀ {σ6 : L2.St} {H6 : Hp} {Q : Shared → Prop}, Inv (X.suite a ((a, oe4) :: (X.pn ++ pins))) [] σ6 H6 s6 → (∀ s7, Inv X pins (σ6.set i none) H6 s7 → Q s7) →
              wpAny (model X.prog X.w) X.A (do bindName X.env n .none; unbindBehindTheSuite X.env n pos') (fun _ s7 => Q s7) X.xe s6 := fun {σ6 H6 Q} S6 hq => gone_ok (S6.unsuite ok) hN hi hln hq
          cases f with
          | next =>
            obtain ⟨σ6, H6, S6, q6⟩ := hsp
            exact end_ S6 fun s7 J7 => ⟨_, _, J7, q6⟩
          | brk =>
            obtain ⟨σ6, H6, S6, q6⟩ := hsp
            exact end_ S6 fun s7 J7 => ⟨_, _, J7, q6⟩
          | cont =>
            obtain ⟨σ6, H6, S6, q6⟩ := hsp
            exact end_ S6 fun s7 J7 => ⟨_, _, J7, q6⟩
          | ret u =>
            obtain ⟨v6, σ6, H6, S6, r6, q6⟩ := hsp
            exact end_ S6 fun s7 J7 => ⟨_, _, _, J7, r6, q6⟩
        | false =>
          show wpAny _ X.A (handleBy (.ref a) X.env hds2) _ _ _
          exact ih (hno rfl)
    exact go hh wish
  · cases f with
    | next =>
      obtain ⟨σ', H', J', q⟩ := hsp
      exact wpAny_execs_nil ⟨σ', H', J'.ofTry ok, q⟩
    | brk =>
      obtain ⟨σ', H', J', q⟩ := hsp
      exact ⟨σ', H', J'.ofTry ok, q⟩
    | cont =>
      obtain ⟨σ', H', J', q⟩ := hsp
      exact ⟨σ', H', J'.ofTry ok, q⟩
    | ret u =>
      obtain ⟨v, σ', H', J', r, q⟩ := hsp
      exact ⟨v, σ', H', J'.ofTry ok, r, q⟩
end

/-! ### isinstance(error, C) in a suite, error's class D, its own dict at d -/
structure XisC (K : PySem.W.Frag) (D : Addr) : Prop where
  hc : (PySem.W.clsIn K D).isSome = true
  hg : PySem.W.findIn K (.ref D) "__getattribute__" = some (some (.builtin "BaseException.__getattribute__"))
  hk : PySem.W.findIn K (.ref D) "__getattr__" = some none
  hs : PySem.W.subIn K (.ref D) (.type "BaseException") = some true
  ha : PySem.W.findIn K (.ref D) "__class__" = some (some (.builtin "object.__class__"))
  hn : PySem.W.specialIn K (.builtin "object.__class__") "__get__" = some (some (.builtin "getset_descriptor.__get__"))
  ht : PySem.W.takesIn K (.builtin "object.__class__") = some true
  hm : PySem.W.mroIn K D (.type "object") = some true
def rIsX (K : PySem.W.Frag) (D a : Addr) (cls : Value) (d : Option Addr) : List V → Hp → VK → Prop := fun xs H Q => ∃ (c : V) (cv : Value) (b : Bool) (dd : Addr) (fs : List (Str × V)), xs = [.ref a, c] ∧ cls = .ref D ∧ d = some dd ∧ H dd = some (.xd fs) ∧ (∀ u, RelV c u → u = cv) ∧ PySem.W.kitOne K (.ref D) cv = some b ∧ Q (.bl b) H
theorem call_isX {X : Cx} {a D : Addr} {cls : Value} {d : Option Addr} {oe : Obj} {pn : List (Addr × Obj)} (C : XisC X.K D) (hz : Zc cls d oe) (hf : ∃ vs, oe.data = .fields vs) : CallR (X.suite a ((a, oe) :: pn)) (.builtin "isinstance") (rIsX X.K D a cls d) := by
  intro pins s σ H xs us Q I r h
  obtain ⟨c, cv, b, dd, fs, rfl, rfl, rfl, hdd, hcv, e, q⟩ := h
  obtain ⟨u1, u2, rfl, rx, rt⟩ := Vals.two r
  cases rx
  have ec := hcv _ rt
  subst ec
  obtain ⟨hget, _⟩ := I.pin (a, oe) (List.mem_append.mpr (.inl List.mem_cons_self))
  obtain ⟨vs, hv⟩ := hf
  obtain ⟨mA, ⟨od, es, ep, hod, hr⟩, _⟩ := (show ObjOk X.prog X.w H s.heap dd (.xd fs) from I.hok dd _ hdd)
  have J : PySem.W.InstAt s.heap a oe D (some od) := by
    obtain ⟨oc, od', oda, osl⟩ := oe
    obtain ⟨h1, h2⟩ := hz
    dsimp only at h1 h2 hv
    subst h1 h2 hv
    exact ⟨hget, rfl, rfl, hod⟩
  exact PySem.W.kia_one (PySem.W.kitx_exc C.hc C.hg C.hk C.hs C.ha C.hn C.ht C.hm) I.kIn J e (fun z => nomatch z) fun tk => ⟨.bl b, H, I.kept (t' := tk) fun _ _ z => z, rfl, q⟩
end Isl
end
section
set_option Elab.async false
set_option linter.all false
set_option maxRecDepth 100000
set_option maxHeartbeats 4000000
/-! set tables up to 1228 elements: the round of i -> 5 i + 1 for the larger masks, the table's word, laying anew -/
namespace Isl
open PySem PySem.Spec PyProof.Rows L2

def MK (m : Nat) : Prop := m = 7 ∨ m = 31 ∨ m = 127 ∨ m = 511 ∨ m = 2047
def orb (m : Nat) : Nat → Nat → Nat → Nat
  | 0, _, acc => acc
  | n + 1, x, acc => orb m n ((x * 5 + 1) % (m + 1)) (acc ||| (1 <<< x))
theorem lcgI_shift (m i : Nat) : ∀ k, lcgI m ((i * 5 + 1) % (m + 1)) k = lcgI m i (k + 1)
  | 0 => rfl
  | k + 1 => by
    show (lcgI m ((i * 5 + 1) % (m + 1)) k * 5 + 1) % (m + 1) = (lcgI m i (k + 1) * 5 + 1) % (m + 1)
    rw [lcgI_shift m i k]
theorem orb_bit (m j : Nat) : ∀ (n x acc : Nat), (orb m n x acc).testBit j = true → acc.testBit j = true ∨ ∃ k, k < n ∧ lcgI m x k = j
  | 0, x, acc, h => .inl h
  | n + 1, x, acc, h => by
    rcases orb_bit m j n _ _ h with h | ⟨k, hk, e⟩
    · rw [Nat.testBit_or, Bool.or_eq_true] at h
      rcases h with h | h
      · exact .inl h
      · refine .inr ⟨0, Nat.succ_pos _, ?_⟩
        rw [Nat.one_shiftLeft, Nat.testBit_two_pow] at h
        exact of_decide_eq_true h
    · exact .inr ⟨k + 1, Nat.succ_lt_succ hk, by rw [← lcgI_shift]; exact e⟩
theorem lcgN_I (m k : Nat) : lcgN m k = lcgI m 0 k := by
  have h := lcgN_add m 0 k
  rw [Nat.zero_add] at h
  exact h.symm
theorem orb_all {m : Nat} (h : orb m (m + 1) 0 0 = 2 ^ (m + 1) - 1) {j : Nat} (hj : j ≤ m) : ∃ b, b ≤ m ∧ lcgN m b = j := by
  have hb : (orb m (m + 1) 0 0).testBit j = true := by
    rw [h, Nat.testBit_two_pow_sub_one]
    exact decide_eq_true (Nat.lt_succ_of_le hj)
  rcases orb_bit m j _ _ _ hb with h | ⟨k, hk, e⟩
  · rw [Nat.zero_testBit] at h
    cases h
  · exact ⟨k, Nat.le_of_lt_succ hk, by rw [lcgN_I]; exact e⟩
theorem orb7 : orb 7 8 0 0 = 2 ^ 8 - 1 := by decide +kernel
theorem orb31 : orb 31 32 0 0 = 2 ^ 32 - 1 := by decide +kernel
theorem orb127 : orb 127 128 0 0 = 2 ^ 128 - 1 := by decide +kernel
theorem orb511 : orb 511 512 0 0 = 2 ^ 512 - 1 := by decide +kernel
theorem orb2047 : orb 2047 2048 0 0 = 2 ^ 2048 - 1 := by decide +kernel
theorem lcg_all2 {m : Nat} (hm : MK m) {j : Nat} (hj : j ≤ m) : ∃ b, b ≤ m ∧ lcgN m b = j := by
  rcases hm with e | e | e | e | e <;> subst e
  · exact orb_all orb7 hj
  · exact orb_all orb31 hj
  · exact orb_all orb127 hj
  · exact orb_all orb511 hj
  · exact orb_all orb2047 hj
theorem lcg_round2 {m : Nat} (hm : MK m) : lcgN m (m + 1) = 0 := by
  rcases hm with e | e | e | e | e <;> subst e <;> decide +kernel

theorem lcg_again {m : Nat} (hm : MK m) : ∀ k, lcgN m (m + 1 + k) = lcgN m k
  | 0 => lcg_round2 hm
  | k + 1 => congrArg (fun z => (z * 5 + 1) % (m + 1)) (lcg_again hm k)
theorem lcg_from {m : Nat} (hm : MK m) {i j : Nat} (hi : i ≤ m) (hj : j ≤ m) : ∃ k, k ≤ m ∧ lcgI m i k = j := by
  obtain ⟨a, ha, ea⟩ := lcg_all2 hm hi
  obtain ⟨b, hb, eb⟩ := lcg_all2 hm hj
  subst ea
  by_cases c : a ≤ b
  · refine ⟨b - a, by omega, ?_⟩
    rw [lcgN_add, show a + (b - a) = b by omega, eb]
  · refine ⟨b + (m + 1) - a, by omega, ?_⟩
    rw [lcgN_add, show a + (b + (m + 1) - a) = m + 1 + b by omega, lcg_again hm, eb]
theorem run_hits {m : Nat} (hm : MK m) (h : Int) {j : Nat} (hj : j ≤ m) : ∃ n, n ≤ m + 12 ∧ runI m (SetTable.bits h) n = j := by
  obtain ⟨k, hk, e⟩ := lcg_from hm (runI_le m (SetTable.bits h) 12) hj
  refine ⟨12 + k, by omega, ?_⟩
  rw [runI_tail (bits_lt h), e]
theorem way_hits {m : Nat} (hm : MK m) (h : Int) {j : Nat} (hj : j ≤ m) : ∃ k, k < 10 * SetTable.turns m ∧ way m h k = j := by
  obtain ⟨n, hn, e⟩ := run_hits hm h hj
  obtain ⟨k, hk, e2⟩ := run_nth m (SetTable.bits h) n
  exact ⟨k, by unfold SetTable.turns; omega, by show (nth m _ k).j = j; rw [e2]; exact e⟩
theorem way_in (m : Nat) (h : Int) (k : Nat) : way m h k ≤ m := by
  have hi : SetTable.bits h % (m + 1) ≤ m := Nat.le_of_lt_succ (Nat.mod_lt _ (Nat.succ_pos _))
  obtain ⟨r1, r2, _⟩ := runEnd_bd hi
  have q := nth_in (m := m) k (runAt m (SetTable.bits h % (m + 1)) (SetTable.bits h)) (by
    show SetTable.bits h % (m + 1) + (SetTable.runEnd m (SetTable.bits h % (m + 1)) - SetTable.bits h % (m + 1)) ≤ m
    omega)
  exact Nat.le_trans (Nat.le_add_right _ _) q
theorem mk_odd {m : Nat} (h : MK m) : m % 2 = 1 := by
  rcases h with e | e | e | e | e <;> subst e <;> rfl
theorem mk_le {m : Nat} (h : MK m) : 7 ≤ m ∧ m ≤ 2047 := by
  rcases h with e | e | e | e | e <;> subst e <;> omega

/-- a table in which each hash's slot is found again -/
structure TW (t : SetTable) (hs : List Int) : Prop where
  ris : Ris t.place.toList
  nod : t.dummies = #[]
  cnt : t.place.size = hs.length
  msk : MK t.mask
  inm : ∀ x ∈ t.place.toList, x ≤ t.mask
  fnd : ∀ (i : Nat) (h : Int) (j : Nat), hs[i]? = some h → t.place.toList[i]? = some j → ∃ k, way t.mask h k = j ∧ ∀ k', k' < k → way t.mask h k' ∈ t.place.toList
theorem TW.len {t : SetTable} {hs : List Int} (T : TW t hs) : t.place.toList.length = hs.length := by
  rw [Array.length_toList]
  exact T.cnt
theorem TW.gap {t : SetTable} {hs : List Int} (T : TW t hs) (hl : hs.length ≤ t.mask) (h : Int) : ∃ K, K < 10 * SetTable.turns t.mask ∧ way t.mask h K ∉ t.place.toList ∧ ∀ k, k < K → way t.mask h k ∈ t.place.toList := by
  obtain ⟨j, hj, hn⟩ := st_missing t.place.toList (t.mask + 1) (by rw [T.len]; omega)
  obtain ⟨k, hk, e⟩ := way_hits T.msk h (Nat.le_of_lt_succ hj)
  obtain ⟨K, h1, h2, h3⟩ := st_least (p := fun k => way t.mask h k ∉ t.place.toList) k (by show way t.mask h k ∉ _; rw [e]; exact hn)
  exact ⟨K, Nat.lt_of_le_of_lt h1 hk, h2, fun k' hk' => Classical.byContradiction fun c => h3 k' hk' c⟩
theorem TW.ahead {t : SetTable} {hs : List Int} (T : TW t hs) {h : Int} {K i j : Nat} (hK : way t.mask h K ∉ t.place.toList) (hi : hs[i]? = some h) (hj : t.place.toList[i]? = some j) : ∃ k, k < K ∧ way t.mask h k = j := by
  obtain ⟨k, e, hb⟩ := T.fnd i h j hi hj
  refine ⟨k, ?_, e⟩
  rcases Nat.lt_trichotomy k K with c | c | c
  · exact c
  · subst c
    rw [e] at hK
    exact absurd (List.mem_of_getElem? hj) hK
  · exact absurd (hb K c) hK
/-- one hash laid at the gap of its way -/
theorem TW.lay {t : SetTable} {hs : List Int} (T : TW t hs) {h : Int} {K : Nat} (hK : way t.mask h K ∉ t.place.toList) (hb : ∀ k, k < K → way t.mask h k ∈ t.place.toList) :
    (t.put (way t.mask h K)).2 = SetTable.below t.place (way t.mask h K) ∧ SetTable.below t.place (way t.mask h K) ≤ hs.length ∧
    TW (t.put (way t.mask h K)).1 (hs.take (SetTable.below t.place (way t.mask h K)) ++ h :: hs.drop (SetTable.below t.place (way t.mask h K))) ∧
    (t.put (way t.mask h K)).1.fill = hs.length + 1 := by
  generalize hj : way t.mask h K = j at hK
  have hjm : j ≤ t.mask := by rw [← hj]; exact way_in _ _ _
  generalize hp : SetTable.below t.place j = p
  have c1 : p ≤ t.place.size := by rw [← hp]; exact (below_cut T.ris j).1
  have hpl : p ≤ t.place.toList.length := by rw [Array.length_toList]; exact c1
  have hph : p ≤ hs.length := by rw [← T.cnt]; exact c1
  have hnp : t.place[SetTable.below t.place j]? ≠ some j := fun e => hK (List.mem_of_getElem? (by rw [Array.getElem?_toList]; exact e))
  have hpp : (t.put j).1.place.toList = t.place.toList.take p ++ j :: t.place.toList.drop p := by rw [← hp]; exact put_place t j
  have hsize : (t.put j).1.place.size = hs.length + 1 := by
    rw [← Array.length_toList, hpp, len_ins _ hpl, T.len]
  have up : ∀ {x : Nat}, x ∈ t.place.toList → x ∈ (t.put j).1.place.toList := fun {x} hx => by
    rw [hpp]
    exact mem_ins.2 (.inr hx)
  have hmask : (t.put j).1.mask = t.mask := rfl
  refine ⟨hp, hph, ⟨ris_insert T.ris hnp, put_dm T.nod j, ?_, T.msk, fun x hx => ?_, fun i h' j' h1 h2 => ?_⟩, ?_⟩
  · rw [len_ins _ hph]
    exact hsize
  · rw [hpp] at hx
    rcases mem_ins.1 hx with z | z
    · rw [z]
      exact hjm
    · exact T.inm x z
  · rw [tins_get hs hph] at h1
    rw [hpp, tins_get _ hpl] at h2
    rw [hmask]
    have old : ∀ q, hs[q]? = some h' → t.place.toList[q]? = some j' → ∃ k, way t.mask h' k = j' ∧ ∀ k', k' < k → way t.mask h' k' ∈ (t.put j).1.place.toList := fun q a b => by
      obtain ⟨k, e, z⟩ := T.fnd q h' j' a b
      exact ⟨k, e, fun k' hk' => up (z k' hk')⟩
    by_cases c : i < p
    · rw [if_pos c] at h1 h2
      exact old _ h1 h2
    · rw [if_neg c] at h1 h2
      by_cases d : i = p
      · rw [if_pos d] at h1 h2
        cases h1
        cases h2
        exact ⟨K, hj, fun k' hk' => up (hb k' hk')⟩
      · rw [if_neg d] at h1 h2
        exact old _ h1 h2
  · show (t.put j).1.place.size + (t.put j).1.dummies.size = hs.length + 1
    rw [hsize, put_dm T.nod j] <;> rfl

/-! laying anew -/
theorem room_find {m : Nat} (hm : MK m) (owner : Array (Option Nat)) (h : Int) {j : Nat} (hj : j ≤ m) (hf : oAt owner j = none) :
    ∃ K, SetTable.layClean.free m owner (SetTable.turns m) (SetTable.bits h % (m + 1)) (SetTable.bits h) = some (way m h K) ∧ oAt owner (way m h K) = none ∧ ∀ k, k < K → oAt owner (way m h k) ≠ none := by
  obtain ⟨n, hn, e⟩ := run_hits hm h hj
  have hw : way m h (off m (SetTable.bits h % (m + 1)) (SetTable.bits h) n) = j := by
    show (nth m (runAt m _ _) (off m _ _ n)).j = j
    rw [nth_off, itL_run]
    exact e
  obtain ⟨K, k1, k2, k3⟩ := st_least (p := fun k => oAt owner (way m h k) = none) (off m (SetTable.bits h % (m + 1)) (SetTable.bits h) n) (by
    show oAt owner (way m h _) = none
    rw [hw]
    exact hf)
  refine ⟨K, free_spec m owner (SetTable.turns m) n _ _ K (by unfold SetTable.turns; omega) k1 (fun k hk => ?_) ?_, k2, k3⟩
  · have q : oAt owner (nth m (runAt m (SetTable.bits h % (m + 1)) (SetTable.bits h)) k).j ≠ none := k3 k hk
    exact Option.isNone_eq_false_iff.mpr (Option.isSome_iff_ne_none.mpr q)
  · have q : oAt owner (nth m (runAt m (SetTable.bits h % (m + 1)) (SetTable.bits h)) K).j = none := k2
    rw [q] <;> rfl
theorem own_next {m : Nat} (hm : MK m) {done : List Int} {owner : Array (Option Nat)} (W : Own m done owner) (hl : done.length ≤ m) (h : Int) :
    ∃ j, SetTable.layClean.free m owner (SetTable.turns m) (SetTable.bits h % (m + 1)) (SetTable.bits h) = some j ∧ Own m (done ++ [h]) (owner.setIfInBounds j (some done.length)) := by
  obtain ⟨ps, hps, hin⟩ := W.ps
  obtain ⟨j0, h0, hn0⟩ := st_missing ps (m + 1) (by omega)
  have hj0 : oAt owner j0 = none := Classical.byContradiction fun z => hn0 (hin j0 (Nat.le_of_lt_succ h0) z)
  obtain ⟨K, e1, e2, e3⟩ := room_find hm owner h (Nat.le_of_lt_succ h0) hj0
  generalize hJ : way m h K = J at e1 e2
  have hjm : J ≤ m := by rw [← hJ]; exact way_in m h K
  have hself := oAt_set_self (owner := owner) (some done.length) (show J < owner.size by rw [W.sz]; exact Nat.lt_succ_of_le hjm)
  have mono : ∀ {i : Nat}, oAt owner i ≠ none → oAt (owner.setIfInBounds J (some done.length)) i ≠ none := fun {i} hi => by
    by_cases c : i = J
    · rw [c, hself]
      exact fun e => nomatch e
    · rw [oAt_set_ne _ c]
      exact hi
  refine ⟨J, e1, by rw [Array.size_setIfInBounds]; exact W.sz, fun j k hj e => ?_, fun k hk => ?_, ⟨J :: ps, by rw [List.length_cons, List.length_append, hps] <;> rfl, fun j hj e => ?_⟩⟩
  · by_cases c : j = J
    · rw [c, hself] at e
      cases e
      refine ⟨h, K, ?_, by rw [c, hJ], fun k' hk' => mono (e3 k' hk')⟩
      rw [List.getElem?_append_right (Nat.le_refl _), Nat.sub_self] <;> rfl
    · rw [oAt_set_ne _ c] at e
      obtain ⟨h', K', a1, a2, a3⟩ := W.at_ j k hj e
      exact ⟨h', K', by rw [List.getElem?_append_left (List.getElem?_eq_some_iff.mp a1).1]; exact a1, a2, fun k' hk' => mono (a3 k' hk')⟩
  · rw [List.length_append, List.length_singleton] at hk
    by_cases c : k < done.length
    · obtain ⟨j, hj, e⟩ := W.all k c
      exact ⟨j, hj, by rw [oAt_set_ne _ (fun z => by rw [z, e2] at e; cases e)]; exact e⟩
    · obtain rfl : k = done.length := by omega
      exact ⟨J, hjm, hself⟩
  · by_cases c : j = J
    · rw [c]
      exact List.mem_cons_self
    · rw [oAt_set_ne _ c] at e
      exact List.mem_cons_of_mem _ (hin j hj e)
theorem own_all {m : Nat} (hm : MK m) : ∀ (rest done : List Int) (owner : Array (Option Nat)), Own m done owner → done.length + rest.length ≤ m →
    ∃ owner' n', rest.foldl (stepF m) (some (owner, done.length)) = some (owner', n') ∧ Own m (done ++ rest) owner'
  | [], done, owner, W, _ => ⟨owner, _, rfl, by rw [List.append_nil]; exact W⟩
  | h :: rest, done, owner, W, hl => by
    rw [List.length_cons] at hl
    obtain ⟨j, e, W'⟩ := own_next hm W (by omega) h
    have hl' : (done ++ [h]).length = done.length + 1 := by rw [List.length_append] <;> rfl
    obtain ⟨owner', n', f, W2⟩ := own_all hm rest (done ++ [h]) _ W' (by rw [hl']; omega)
    rw [hl'] at f
    rw [List.append_assoc] at W2
    exact ⟨owner', n', by rw [List.foldl_cons, stepF_some e]; exact f, W2⟩
theorem lay_all {m : Nat} (hm : MK m) {hs : Array Int} (hn : hs.size ≤ m) : ∃ owner, SetTable.layClean m hs = some owner ∧ Own m hs.toList owner := by
  obtain ⟨owner, n', f, W⟩ := own_all hm hs.toList [] _ (Own.init m) (by rw [Array.length_toList]; show 0 + hs.size ≤ m; omega)
  refine ⟨owner, ?_, W⟩
  have f' : hs.toList.foldl (stepF m) (some (Array.replicate (m + 1) none, 0)) = some (owner, n') := f
  rw [layClean_eq, f'] <;> rfl
theorem relay_ok (t : SetTable) {hs : Array Int} {wanted M : Nat} (hw : SetTable.sizeAbove wanted - 1 = M) (hM : MK M) (hn : hs.size ≤ M) :
    ∃ t' order, t.relaid hs wanted = some (t', order) ∧ order.toList.Perm (List.range hs.size) ∧ TW t' (order.toList.map fun i => hs.getD i 0) ∧ t'.mask = M ∧ t'.led = t.led ∧ t'.plain = t.plain := by
  obtain ⟨owner, e, W⟩ := lay_all hM hn
  have hr : t.relaid hs wanted = some (tabOf t M owner, ((liveOf M owner).map (·.2)).toArray) := by
    rw [relaid_eq, hw, e] <;> rfl
  obtain ⟨r1, r2⟩ : Ris ((liveOf M owner).map (·.1)) ∧ ∀ x ∈ (liveOf M owner).map (·.1), x ∈ List.range (M + 1) := ris_live (fun j => owner.getD j none) (List.range (M + 1)) (by
    unfold Ris
    first | exact List.pairwise_lt_range | exact List.pairwise_lt_range _)
  have nd : ((liveOf M owner).map (·.1)).Nodup := List.Pairwise.imp (fun h => Nat.ne_of_lt h) r1
  have mem : ∀ {j k : Nat}, (j, k) ∈ liveOf M owner ↔ j ≤ M ∧ oAt owner j = some k := fun {j k} => mem_live W.sz
  have hlen : (liveOf M owner).length = hs.size := by
    obtain ⟨ps, p1, p2⟩ := W.ps
    have a := nat_nodup_len ((liveOf M owner).map (·.1)) ps nd fun x hx => by
      obtain ⟨⟨y, k⟩, hq, e1⟩ := List.mem_map.mp hx
      cases e1
      obtain ⟨b1, b2⟩ := mem.1 hq
      exact p2 _ b1 (by rw [b2]; exact fun z => nomatch z)
    have b := nat_nodup_len (List.range hs.size) ((liveOf M owner).map (·.2)) List.nodup_range fun k hk => by
      obtain ⟨j, b1, b2⟩ := W.all k (by rw [Array.length_toList]; exact List.mem_range.mp hk)
      exact List.mem_map.mpr ⟨(j, k), mem.2 ⟨b1, b2⟩, rfl⟩
    have hz : hs.toList.length = hs.size := rfl
    rw [List.length_map, p1] at a
    rw [List.length_map, List.length_range] at b
    omega
  refine ⟨tabOf t M owner, _, hr, ?_, ⟨r1, rfl, ?_, hM, fun x hx => ?_, fun i h j h1 h2 => ?_⟩, rfl, rfl, rfl⟩
  · refine perm_range hs.size _ (by show ((liveOf M owner).map (·.2)).length = _; rw [List.length_map]; exact hlen) fun k hk => ?_
    obtain ⟨j, b1, b2⟩ := W.all k (by rw [Array.length_toList]; exact hk)
    exact List.mem_map.mpr ⟨(j, k), mem.2 ⟨b1, b2⟩, rfl⟩
  · show ((liveOf M owner).map (·.1)).toArray.size = (((liveOf M owner).map (·.2)).map fun i => hs.getD i 0).length
    rw [List.size_toArray, List.length_map, List.length_map, List.length_map]
  · exact Nat.le_of_lt_succ (List.mem_range.mp (r2 x hx))
  · have h1' : (((liveOf M owner).map (·.2)).map fun i => hs.getD i 0)[i]? = some h := h1
    have h2' : ((liveOf M owner).map (·.1))[i]? = some j := h2
    rw [List.getElem?_map, List.getElem?_map] at h1'
    rw [List.getElem?_map] at h2'
    cases hq : (liveOf M owner)[i]? with
    | none =>
      rw [hq] at h2'
      cases h2'
    | some q =>
      obtain ⟨y, k⟩ := q
      rw [hq] at h1' h2'
      obtain rfl : y = j := Option.some.inj h2'
      have eh : hs.getD k 0 = h := Option.some.inj h1'
      obtain ⟨b1, b2⟩ := mem.1 (List.mem_of_getElem? hq)
      obtain ⟨h0, K, a1, a2, a3⟩ := W.at_ y k b1 b2
      have e0 : hs.getD k 0 = h0 := by
        rw [Array.getD_eq_getD_getElem?, ← Array.getElem?_toList, a1] <;> rfl
      obtain rfl : h0 = h := e0.symm.trans eh
      refine ⟨K, a2, fun k' hk' => ?_⟩
      show way M h0 k' ∈ (liveOf M owner).map (·.1)
      obtain ⟨k2, z⟩ := Option.ne_none_iff_exists'.mp (a3 k' hk')
      exact List.mem_map.mpr ⟨(way M h0 k', k2), mem.2 ⟨way_in M _ _, z⟩, rfl⟩
end Isl
end
section
set_option Elab.async false
set_option linter.all false
set_option maxRecDepth 100000
set_option maxHeartbeats 4000000
/-! sets of nested tuples of whole numbers, at the library's level -/
namespace Isl
open PySem PySem.Spec PyProof.Rows L2

mutual
/-- whole numbers and tuples of such alone -/
def numK : NestedKey → Bool
  | .none => false
  | .num _ => true
  | .text _ => false
  | .tup ks => numKs ks
def numKs : List NestedKey → Bool
  | [] => true
  | k :: ks => numK k && numKs ks
end
/-- the tuple at b is the key k -/
structure IsN (h : Heap) (k : NestedKey) (b : Addr) : Prop where
  it : NestedIs h k (.ref b)
  dp : k.depth ≤ 7
  nm : numK k = true
theorem IsN.inj {h : Heap} {k k' : NestedKey} {b : Addr} (x : IsN h k b) (y : IsN h k' b) : k = k' := NestedIs.inj _ _ _ x.it y.it
theorem IsN.keep {h h' : Heap} {k : NestedKey} {b : Addr} (x : IsN h k b) (hk : ∀ c o, h.get? c = some o → h'.get? c = some o) : IsN h' k b :=
  ⟨NestedIs.at (fun a o vs n e _ => hk a o e) _ _ x.it, x.dp, x.nm⟩
theorem IsN.same {h h' : Heap} {k : NestedKey} {a b : Addr} {o : Obj} {es : Array (Int × Value)} {ep : Nat} {t : SetTable} (x : IsN h k b) (ho : h.get? a = some o) (hd : o.data = .set es ep t) (hs : Heap.SameBut a h h') : IsN h' k b :=
  ⟨NestedIs.at (fun c oc vs n e ec => by
    refine (hs.2 c fun z => ?_).trans e
    rw [z, ho] at e
    cases e
    rw [hd] at ec
    cases ec) _ _ x.it, x.dp, x.nm⟩
theorem all_mem {h : Heap} : ∀ {ks : List NestedKey} {vs : List Value}, NestedAll h ks vs → numKs ks = true → ∀ v ∈ vs, ∃ k, NestedIs h k v ∧ k.depth ≤ NestedKey.depthAll ks ∧ numK k = true
  | [], _, .nil, _, v, hv => by cases hv
  | k :: ks, _, .cons h1 h2, hn, v, hv => by
    rw [numKs, Bool.and_eq_true] at hn
    rcases List.mem_cons.mp hv with e | hv
    · subst e
      exact ⟨k, h1, by rw [NestedKey.depthAll]; exact Nat.le_max_left _ _, hn.1⟩
    · obtain ⟨k', a, b, c⟩ := all_mem h2 hn.2 v hv
      exact ⟨k', a, Nat.le_trans b (by rw [NestedKey.depthAll]; exact Nat.le_max_right _ _), c⟩

section
variable {P : Program} {w : World}
theorem hashBy_key : ∀ (n : Nat) (k : NestedKey) (v : Value) (s : Shared) (A : Around) (E : Value → Shared → Prop) (Q : Bool → Shared → Prop), NestedIs s.heap k v → k.depth ≤ n → numK k = true → Q true s → wpAny (model P w) A (hashByValue n v) Q E s := by
  intro n
  induction n with
  | zero =>
    intro k v s A E Q hk hd hn hq
    cases hk with
    | none => cases hn
    | bool e => exact wpAny_pure hq
    | int i t => exact wpAny_pure hq
    | text x t => cases hn
    | tup ho hc hdt ha => rw [NestedKey.depth] at hd; cases hd
  | succ n ih =>
    intro k v s A E Q hk hd hn hq
    cases hk with
    | none => cases hn
    | bool e => exact wpAny_pure hq
    | int i t => exact wpAny_pure hq
    | text x t => cases hn
    | @tup a o vs m ks ho hc hdt ha =>
      rw [numK] at hn
      rw [NestedKey.depth] at hd
      have hT : s.TypeIs (.ref a) "tuple" := ⟨o, ho, hc⟩
      unfold hashByValue
      refine wpAny_bind (wpAny_specialOf hT F.slot_tuple_hash.lookup ?_)
      show wpAny _ _ (seqItems? (.ref a) >>= _) _ _ s
      refine wpAny_bind (wpAny_seqItems ho hdt ?_)
      refine wpAny_bind ?_
      show wpAny _ _ (forIn vs _ _) _ _ s
      rw [← Array.forIn_toList]
      refine wpAny_forIn_list _ (fun rest r s' => r.1 = none ∧ s' = s ∧ ∀ u ∈ rest, ∃ k', NestedIs s.heap k' u ∧ k'.depth ≤ n ∧ numK k' = true) _ ?_ ?_ _ _ ⟨rfl, rfl, fun u hu => ?_⟩
      · rintro u rest r s' ⟨hr, rfl, hall⟩
        obtain ⟨k', q1, q2, q3⟩ := hall u List.mem_cons_self
        refine wpAny_bind (ih k' u s' A E _ q1 q2 q3 ?_)
        simp only [Bool.not_true, Bool.false_eq_true, if_false]
        exact wpAny_pure ⟨rfl, rfl, fun u' hu' => hall u' (List.mem_cons_of_mem _ hu')⟩
      · rintro ⟨r1, r2⟩ s' ⟨hr, rfl, _⟩
        simp only at hr
        subst hr
        exact wpAny_pure hq
      · obtain ⟨k', q1, q2, q3⟩ := all_mem ha hn u hu
        exact ⟨k', q1, by omega, q3⟩
theorem ofA_key : ∀ (n : Nat) (k : NestedKey) (v : Value) (s : Shared) (A : Around) (E : Value → Shared → Prop) (Q : Bool → Shared → Prop), NestedIs s.heap k v → k.depth ≤ n → numK k = true → Q false s → wpAny (model P w) A (ofAClassStatement n v) Q E s := by
  intro n
  induction n with
  | zero =>
    intro k v s A E Q hk hd hn hq
    cases hk with
    | none => cases hn
    | bool e => exact wpAny_pure hq
    | int i t => exact wpAny_pure hq
    | text x t => cases hn
    | tup ho hc hdt ha => rw [NestedKey.depth] at hd; cases hd
  | succ n ih =>
    intro k v s A E Q hk hd hn hq
    cases hk with
    | none => cases hn
    | bool e => exact wpAny_pure hq
    | int i t => exact wpAny_pure hq
    | text x t => cases hn
    | @tup a o vs m ks ho hc hdt ha =>
      rw [numK] at hn
      rw [NestedKey.depth] at hd
      have hT : s.TypeIs (.ref a) "tuple" := ⟨o, ho, hc⟩
      unfold ofAClassStatement
      refine wpAny_bind (wpAny_typeOf hT ?_)
      dsimp only
      have e : (("tuple" : String) == "tuple") = true := by decide
      simp only [e, if_true, Bool.not_true, Bool.false_eq_true, if_false]
      try refine wpAny_bind (wpAny_pure ?_)
      try simp only [Bool.not_true, Bool.false_eq_true, if_false]
      show wpAny _ _ (seqItems? (.ref a) >>= _) _ _ s
      refine wpAny_bind (wpAny_seqItems ho hdt ?_)
      dsimp only
      refine wpAny_bind ?_
      show wpAny _ _ (forIn vs _ _) _ _ s
      rw [← Array.forIn_toList]
      refine wpAny_forIn_list _ (fun rest r s' => r.1 = none ∧ s' = s ∧ ∀ u ∈ rest, ∃ k', NestedIs s.heap k' u ∧ k'.depth ≤ n ∧ numK k' = true) _ ?_ ?_ _ _ ⟨rfl, rfl, fun u hu => ?_⟩
      · rintro u rest r s' ⟨hr, rfl, hall⟩
        obtain ⟨k', q1, q2, q3⟩ := hall u List.mem_cons_self
        refine wpAny_bind (ih k' u s' A E _ q1 q2 q3 ?_)
        simp only [Bool.false_eq_true, if_false]
        exact wpAny_pure ⟨rfl, rfl, fun u' hu' => hall u' (List.mem_cons_of_mem _ hu')⟩
      · rintro ⟨r1, r2⟩ s' ⟨hr, rfl, _⟩
        simp only at hr
        subst hr
        exact wpAny_pure hq
      · obtain ⟨k', q1, q2, q3⟩ := all_mem ha hn u hu
        exact ⟨k', q1, by omega, q3⟩
variable {A : Around} {E : Value → Shared → Prop} {s : Shared}
theorem seen_key {k : NestedKey} {b : Addr} {Q : Bool → Shared → Prop} (hk : IsN s.heap k b) {ys : List Value} (hy : ∀ y ∈ ys, ∃ k' c, y = Value.ref c ∧ IsN s.heap k' c) (h : Q false s) :
    wpAny (model P w) A (searchCouldBeSeen (.ref b) ys) Q E s := by
  unfold searchCouldBeSeen
  refine wpAny_bind ?_
  refine wpAny_forIn_list _ (fun rest r s' => r.1 = none ∧ s' = s ∧ ∀ y ∈ rest, ∃ k' c, y = Value.ref c ∧ IsN s.heap k' c) _ ?_ ?_ _ _ ⟨rfl, rfl, hy⟩
  · rintro v rest r s' ⟨hr, rfl, hall⟩
    obtain ⟨k', c, rfl, hc⟩ := hall v List.mem_cons_self
    have rest' : ∀ y ∈ rest, ∃ k' c, y = Value.ref c ∧ IsN s'.heap k' c := fun u hu' => hall u (List.mem_cons_of_mem _ hu')
    dsimp only
    by_cases hv : (b == c || (carriedByValue (.ref b) && carriedByValue (.ref c))) = true
    · refine wp_if_pos hv ?_
      exact wpAny_pure ⟨rfl, rfl, rest'⟩
    · refine wp_if_neg hv ?_
      refine wpAny_bind (quiet_key k _ 8 s' hk.it (Nat.le_succ_of_le hk.dp) A E _ ?_)
      simp only [Bool.not_true, Bool.false_eq_true, if_false]
      refine wpAny_bind (quiet_key k' _ 8 s' hc.it (Nat.le_succ_of_le hc.dp) A E _ ?_)
      simp only [Bool.not_true, Bool.false_eq_true, if_false]
      refine wpAny_bind (ofA_key 8 k _ s' A E _ hk.it (Nat.le_succ_of_le hk.dp) hk.nm ?_)
      simp only [Bool.false_eq_true, if_false]
      refine wpAny_bind (ofA_key 8 k' _ s' A E _ hc.it (Nat.le_succ_of_le hc.dp) hc.nm ?_)
      simp only [Bool.false_eq_true, if_false]
      exact wpAny_pure ⟨rfl, rfl, rest'⟩
  · rintro ⟨r1, r2⟩ s' ⟨hr, rfl, _⟩
    simp only at hr
    subst hr
    exact wpAny_pure h

/-! the set -/
abbrev NL := List (Addr × NestedKey)
def rowsN (w : World) (L : NL) : List (Int × Value) := L.map fun p => (p.2.hash w, Value.ref p.1)
abbrev hashN (w : World) (L : NL) : List Int := L.map fun p => p.2.hash w
abbrev keysN (L : NL) : List NestedKey := L.map (·.2)
structure SetN (w : World) (h : Heap) (a : Addr) (L : NL) (es : Array (Int × Value)) (ep : Nat) (t : SetTable) : Prop where
  ob : ∃ o, h.get? a = some o ∧ o.ExactSet ∧ o.data = .set es ep t
  rows : es.toList = rowsN w L
  tab : TW t (hashN w L)
  nd : (keysN L).Nodup
  tup : ∀ p ∈ L, IsN h p.2 p.1
  plain : t.plain = true
  led : w.params.followText "set-order" = true ∨ t.led = true
  room : L.length * 5 < t.mask * 3
variable {a : Addr} {L : NL} {es : Array (Int × Value)} {ep : Nat} {t : SetTable}
theorem rows_size {es : Array (Int × Value)} (h : es.toList = rowsN w L) : es.size = L.length := by
  have h := congrArg List.length h
  unfold rowsN at h
  rw [Array.length_toList, List.length_map] at h
  exact h
theorem SetN.size {h : Heap} (R : SetN w h a L es ep t) : es.size = L.length := rows_size R.rows
theorem SetN.few {h : Heap} (R : SetN w h a L es ep t) : L.length ≤ 1228 := by
  have h1 := R.room
  have h2 := mk_le R.tab.msk
  omega
theorem fits_of {es : Array (Int × Value)} (h1 : t.place.size = es.size) (h2 : t.dummies = #[]) (h3 : es.size ≤ t.mask) : t.fits es.size = true := by
  unfold SetTable.fits SetTable.fill
  rw [h2, Bool.and_eq_true, beq_iff_eq, decide_eq_true_eq]
  exact ⟨h1, by rw [h1]; exact h3⟩
theorem SetN.fits {h : Heap} (R : SetN w h a L es ep t) : t.fits es.size = true := by
  have h1 := R.tab.cnt
  rw [List.length_map] at h1
  have h2 := R.size
  have h3 := R.room
  exact fits_of (by omega) R.tab.nod (by omega)
theorem SetN.entry {h : Heap} (R : SetN w h a L es ep t) {i : Nat} {p : Addr × NestedKey} (hp : L[i]? = some p) : es[i]? = some (p.2.hash w, Value.ref p.1) := by
  rw [← Array.getElem?_toList, R.rows]
  unfold rowsN
  rw [List.getElem?_map, hp] <;> rfl
theorem SetN.gw {h : Heap} (R : SetN w h a L es ep t) : ¬ t.gaveWay = true := by
  unfold SetTable.gaveWay
  rw [mk_odd R.tab.msk]
  decide
theorem SetN.keep {h h' : Heap} (R : SetN w h a L es ep t) (ha : ∀ o, h.get? a = some o → h'.get? a = some o) (ht : ∀ p ∈ L, IsN h' p.2 p.1) : SetN w h' a L es ep t := by
  obtain ⟨o, ho, r⟩ := R.ob
  exact ⟨⟨o, ha o ho, r⟩, R.rows, R.tab, R.nd, ht, R.plain, R.led, R.room⟩

theorem dummy_none (m : Nat) : ∀ (n : Nat) (p : SetTable.Probe), p.dummy = none → (nth m p n).dummy = none
  | 0, _, h => h
  | n + 1, p, h => dummy_none m n (adv m p) (by unfold adv; split <;> exact h)
/-- the search for k, from the c-th step of its way on -/
theorem seek_from (R : SetN w s.heap a L es ep t) {x : Addr} {k : NestedKey} {adding : Bool} (hx : IsN s.heap k x) (hu : A.units + 8 < cLine) {K : Nat} (hKf : K < 10 * SetTable.turns t.mask)
    (hK : way t.mask (k.hash w) K ∉ t.place.toList) (hKb : ∀ c, c < K → way t.mask (k.hash w) c ∈ t.place.toList) {Q : SetFound → Shared → Prop}
    (hin : k ∈ keysN L → ∀ r, (adding = false → r.isSome = true) → Q (.there r) s) (hout : k ∉ keysN L → Q (.free (way t.mask (k.hash w) K) false) s) :
    ∀ (f c : Nat) (stand : Option SetTable.Probe), stand.getD (t.probeStart (k.hash w)) = nth t.mask (runAt t.mask (SetTable.bits (k.hash w) % (t.mask + 1)) (SetTable.bits (k.hash w))) c → c ≤ K → K - c < f →
      (∀ (i : Nat) p, L[i]? = some p → p.2 = k → ∃ c', c ≤ c' ∧ c' < K ∧ t.place.toList[i]? = some (way t.mask (k.hash w) c')) →
      wpAny (model P w) A (setSearchFrom a (.ref x) (k.hash w) adding f stand) Q E s
  | 0, c, stand, _, _, hf, _ => absurd hf (Nat.not_lt_zero _)
  | f + 1, c, stand, hst, hc, hf, hre => by
    obtain ⟨o, ho, hex, hd⟩ := R.ob
    rw [setSearchFrom_succ]
    refine wpAny_bind (wpAny_setState_of ho hd R.fits ?_)
    dsimp only
    refine wp_if_neg R.gw ?_
    try refine wpAny_bind (wpAny_pure ?_)
    generalize hb : runAt t.mask (SetTable.bits (k.hash w) % (t.mask + 1)) (SetTable.bits (k.hash w)) = b0 at hst
    have wayb : ∀ q, way t.mask (k.hash w) q = (nth t.mask b0 q).j := fun q => by rw [← hb]
    have hnd : (nth t.mask b0 c).dummy = none := dummy_none _ _ _ (by rw [← hb]; rfl)
    have e1 : ∀ q, (nth t.mask (nth t.mask b0 c) q).j = way t.mask (k.hash w) (c + q) := fun q => by rw [wayb, nth_add]
    have spec := go_spec t R.tab.ris R.tab.nod (fun i => (es[i]?.map (·.1)).getD 0) (k.hash w) (10 * SetTable.turns t.mask) (K - c) (nth t.mask b0 c) hnd (by omega)
      (fun q hq => by rw [e1]; exact hKb (c + q) (by omega)) (by rw [e1, show c + (K - c) = K by omega]; exact hK)
    have hashAt : ∀ (i : Nat) p, L[i]? = some p → (fun i => (es[i]?.map (·.1)).getD 0) i = p.2.hash w := fun i p hp => by
      show (es[i]?.map (·.1)).getD 0 = _
      rw [R.entry hp] <;> rfl
    rcases spec with ⟨q, i, hq, hi, hh, hno, hpr⟩ | ⟨hno, hpr⟩
    · have hpr' : t.probe (fun i => (es[i]?.map (·.1)).getD 0) (k.hash w) (stand.getD (t.probeStart (k.hash w))) = some (.candidate (way t.mask (k.hash w) (c + q)) i (nth t.mask b0 (c + (q + 1)))) := by
        rw [hst, ← e1, nth_add]
        exact hpr
      rw [hpr']
      dsimp only
      rw [e1] at hi
      have hil : i < L.length := by
        have h1 : i < t.place.toList.length := (List.getElem?_eq_some_iff.mp hi).1
        rw [R.tab.len, List.length_map] at h1
        exact h1
      have hp : L[i]? = some L[i] := List.getElem?_eq_getElem hil
      generalize hpe : L[i] = p at hp
      have hmem : p ∈ L := List.mem_of_getElem? hp
      have hpt := R.tup p hmem
      have rest : wpAny (model P w) A (searchRest a (.ref x) (k.hash w) adding f es t (way t.mask (k.hash w) (c + q)) i (nth t.mask b0 (c + (q + 1)))) Q E s := by
        unfold searchRest
        rw [R.entry hp]
        dsimp only
        refine wpAny_bind (wpAny_holding ((nestedKind P w).eqBool (x := p.2) (y := k) hu ⟨hpt.it, Nat.le_succ_of_le hpt.dp⟩ ⟨hx.it, Nat.le_succ_of_le hx.dp⟩ ?_))
        refine wpAny_bind (wpAny_setState_of ho hd R.fits ?_)
        dsimp only
        have hsl : t.slot (way t.mask (k.hash w) (c + q)) = .live i := slot_live R.tab.ris hi
        by_cases hkk : p.2 = k
        · have hmk : k ∈ keysN L := List.mem_map.mpr ⟨p, hmem, hkk⟩
          cases adding with
          | true =>
            refine wp_if_pos (by simp [hkk]) ?_
            exact wpAny_pure (hin hmk _ fun z => nomatch z)
          | false =>
            refine wp_if_neg (by simp) ?_
            try refine wpAny_bind (wpAny_pure ?_)
            rw [sameMem]
            dsimp only
            simp only [if_true, hsl, R.entry hp]
            refine wpAny_bind (wpAny_isSame_ref_self (wpAny_bind (wpAny_pure ?_)))
            simp only [if_true]
            refine wp_if_pos (by simp [hkk]) ?_
            exact wpAny_pure (hin hmk _ fun _ => rfl)
        · refine wp_if_neg (by simp [hkk]) ?_
          try refine wpAny_bind (wpAny_pure ?_)
          rw [sameMem]
          dsimp only
          simp only [if_true, hsl, R.entry hp]
          refine wpAny_bind (wpAny_isSame_ref_self (wpAny_bind (wpAny_pure ?_)))
          simp only [if_true]
          refine wp_if_neg (by simp [hkk]) ?_
          refine seek_from R hx hu hKf hK hKb hin hout f (c + (q + 1)) _ (by rw [hb]; rfl) (by omega) (by omega) fun i0 p0 h0 hk0 => ?_
          obtain ⟨c', a1, a2, a3⟩ := hre i0 p0 h0 hk0
          refine ⟨c', ?_, a2, a3⟩
          rcases Nat.lt_trichotomy c' (c + q) with z | z | z
          · exfalso
            refine hno (c' - c) i0 (by omega) (by rw [e1, show c + (c' - c) = c' by omega]; exact a3) ?_
            exact (hashAt i0 p0 h0).trans (congrArg (NestedKey.hash w) hk0)
          · exfalso
            rw [z] at a3
            have s0 := slot_live R.tab.ris a3
            rw [hsl] at s0
            injection s0 with s0
            rw [← s0, hp] at h0
            exact hkk ((congrArg Prod.snd (Option.some.inj h0)).trans hk0)
          · omega
      by_cases hl : t.led = true
      · refine wp_if_neg (by simp [hl]) ?_
        try refine wpAny_bind (wpAny_pure ?_)
        exact rest
      · refine wp_if_pos (by simp [hl]) ?_
        refine wpAny_bind (seen_key hx (fun y hy => ?_) ?_)
        · obtain ⟨e, he, ee⟩ := List.mem_map.mp hy
          have he1 : e ∈ es ∧ e.1 = k.hash w := by simpa using he
          have he2 : e ∈ es.toList := by simpa using he1.1
          rw [R.rows] at he2
          obtain ⟨p2, hp2, e2⟩ := List.mem_map.mp he2
          exact ⟨p2.2, p2.1, by rw [← ee, ← e2], R.tup p2 hp2⟩
        · refine wp_if_neg (by decide) ?_
          try refine wpAny_bind (wpAny_pure ?_)
          exact rest
    · have hpr' : t.probe (fun i => (es[i]?.map (·.1)).getD 0) (k.hash w) (stand.getD (t.probeStart (k.hash w))) = some (.empty (way t.mask (k.hash w) K) none) := by
        have e2 : way t.mask (k.hash w) K = (nth t.mask (nth t.mask b0 c) (K - c)).j := by rw [e1, show c + (K - c) = K by omega]
        rw [hst, e2]
        exact hpr
      rw [hpr']
      dsimp only
      refine wpAny_pure (hout fun hm => ?_)
      obtain ⟨p0, h0, hk0⟩ := List.mem_map.mp hm
      obtain ⟨i0, hi0, e0⟩ := List.getElem_of_mem h0
      have h00 : L[i0]? = some p0 := by rw [List.getElem?_eq_getElem hi0, e0]
      obtain ⟨c', a1, a2, a3⟩ := hre i0 p0 h00 hk0
      refine hno (c' - c) i0 (by omega) (by rw [e1, show c + (c' - c) = c' by omega]; exact a3) ?_
      exact (hashAt i0 p0 h00).trans (congrArg (NestedKey.hash w) hk0)
theorem seek_at (R : SetN w s.heap a L es ep t) {x : Addr} {k : NestedKey} {adding : Bool} (hx : IsN s.heap k x) (hu : A.units + 8 < cLine) {Q : SetFound → Shared → Prop}
    (hin : k ∈ keysN L → ∀ r, (adding = false → r.isSome = true) → Q (.there r) s)
    (hout : ∀ K, k ∉ keysN L → way t.mask (k.hash w) K ∉ t.place.toList → (∀ c, c < K → way t.mask (k.hash w) c ∈ t.place.toList) → Q (.free (way t.mask (k.hash w) K) false) s) :
    wpAny (model P w) A (setSearch a (.ref x) (k.hash w) adding) Q E s := by
  have hroom := R.room
  have hml := mk_le R.tab.msk
  obtain ⟨K, hKf, hK, hKb⟩ := R.tab.gap (by rw [List.length_map]; omega) (k.hash w)
  have hbig : K < 100000 := by
    unfold SetTable.turns at hKf
    omega
  unfold setSearch
  refine seek_from R hx hu hKf hK hKb hin (fun hn => hout K hn hK hKb) 100000 0 none rfl (Nat.zero_le _) (by omega) fun i p hp hk => ?_
  have hi : (hashN w L)[i]? = some (k.hash w) := by rw [List.getElem?_map, hp, ← hk] <;> rfl
  have hil : i < t.place.toList.length := by
    rw [R.tab.len, List.length_map]
    exact (List.getElem?_eq_some_iff.mp hp).1
  have hj := List.getElem?_eq_getElem hil
  obtain ⟨c, hc, e⟩ := R.tab.ahead hK hi hj
  exact ⟨c, Nat.zero_le _, hc, by rw [hj, e]⟩
/-- whether k is in -/
theorem find_at (R : SetN w s.heap a L es ep t) {x : Addr} {k : NestedKey} (hx : IsN s.heap k x) (hu : A.units + 8 < cLine) {Q : Option Nat → Shared → Prop}
    (h : ∀ r : Option Nat, r.isSome = decide (k ∈ keysN L) → Q r s) : wpAny (model P w) A (setFind a (.ref x) (k.hash w)) Q E s := by
  obtain ⟨o, ho, hex, hd⟩ := R.ob
  unfold setFind
  rw [show (100000 : Nat) = 99999 + 1 from rfl]
  unfold setFindIn
  refine wpAny_bind (wpAny_setState_of ho hd R.fits ?_)
  dsimp only
  refine wp_if_neg (by simp [byScan, Value.scannable]) ?_
  try refine wpAny_bind (wpAny_pure ?_)
  refine wpAny_bind (seek_at R hx hu (fun hm r hr => ?_) fun K hm _ _ => ?_)
  · dsimp only
    exact wpAny_pure (h r (by rw [hr rfl, decide_eq_true hm]))
  · dsimp only
    exact wpAny_pure (h none (by rw [decide_eq_false hm] <;> rfl))
end
end Isl
end
section
set_option Elab.async false
set_option linter.all false
set_option maxRecDepth 100000
set_option maxHeartbeats 4000000
/-! sets of nested tuples: adding, set(..), in, sorted, at the library's level -/
namespace Isl
open PySem PySem.Spec PyProof.Rows L2

section
variable {P : Program} {w : World} {A : Around} {E : Value → Shared → Prop} {s : Shared}
theorem rowsN_put (L : NL) (p : Nat) (x : Addr) (k : NestedKey) : rowsN w (L.take p ++ (x, k) :: L.drop p) = (rowsN w L).take p ++ (k.hash w, Value.ref x) :: (rowsN w L).drop p := by
  unfold rowsN
  rw [List.map_append, List.map_cons, List.map_take, List.map_drop]
theorem pick_range {α : Type} (L : List α) : (List.range L.length).filterMap (fun i => L[i]?) = L := by
  have key2 : ∀ n, n ≤ L.length → (List.range n).filterMap (fun i => L[i]?) = L.take n := by
    intro n
    induction n with
    | zero => intro _; rfl
    | succ n ih =>
      intro hn
      rw [List.range_succ, List.filterMap_append, ih (Nat.le_of_lt hn), List.take_succ, List.getElem?_eq_getElem (show n < L.length from hn), List.filterMap_cons_some (List.getElem?_eq_getElem (show n < L.length from hn))] <;> rfl
  rw [key2 L.length (Nat.le_refl _), List.take_length]
/-- the rows in another order -/
theorem rows_order (L : NL) (es : Array (Int × Value)) (order : Array Nat) (hr : es.toList = rowsN w L) (hp : order.toList.Perm (List.range L.length)) :
    ∃ L2, (order.filterMap (es[·]?)).toList = rowsN w L2 ∧ L2.Perm L ∧ hashN w L2 = order.toList.map fun i => (es.map (·.1)).getD i 0 := by
  have ent : ∀ i (h : i < L.length), es[i]? = some ((L[i]).2.hash w, Value.ref (L[i]).1) := fun i h => by
    rw [← Array.getElem?_toList, hr]
    unfold rowsN
    rw [List.getElem?_map, List.getElem?_eq_getElem h] <;> rfl
  have key : ∀ l : List Nat, (∀ i ∈ l, i < L.length) → l.filterMap (fun i => es[i]?) = rowsN w (l.filterMap fun i => L[i]?) ∧ hashN w (l.filterMap fun i => L[i]?) = l.map fun i => (es.map (·.1)).getD i 0 := by
    intro l
    induction l with
    | nil => intro _; exact ⟨rfl, rfl⟩
    | cons i l ih =>
      intro hl
      have hi := hl i List.mem_cons_self
      obtain ⟨e1, e3⟩ := ih fun j hj => hl j (List.mem_cons_of_mem _ hj)
      have e4 : (es.map (·.1)).getD i 0 = (L[i]).2.hash w := by
        have e5 : (es.map (·.1))[i]? = some ((L[i]).2.hash w) := by rw [Array.getElem?_map, ent i hi] <;> rfl
        simp [Array.getD_eq_getD_getElem?, e5]
      rw [List.filterMap_cons_some (ent i hi), List.filterMap_cons_some (List.getElem?_eq_getElem hi), e1]
      refine ⟨rfl, ?_⟩
      show (L[i]).2.hash w :: hashN w _ = _ :: _
      rw [e3]
      show _ = (es.map (·.1)).getD i 0 :: _
      rw [e4]
  obtain ⟨e1, e3⟩ := key order.toList fun i hi => List.mem_range.mp (hp.mem_iff.mp hi)
  refine ⟨_, by first | (rw [Array.toList_filterMap]; exact e1) | simpa using e1, ?_, e3⟩
  have h1 := hp.filterMap fun i => L[i]?
  rw [pick_range] at h1
  exact h1

variable {a : Addr} {L : NL} {es : Array (Int × Value)} {ep : Nat} {t : SetTable}
theorem relay_set {o : Obj} (ho : s.heap.get? a = some o) (hex : o.ExactSet) (hd : o.data = .set es ep t) (hrows : es.toList = rowsN w L) (hsz : t.place.size = es.size) (hdm : t.dummies = #[]) (hfl : es.size ≤ t.mask)
    (nd : (keysN L).Nodup) (tup : ∀ p ∈ L, IsN s.heap p.2 p.1) (pl : t.plain = true) (ld : w.params.followText "set-order" = true ∨ t.led = true) {wanted M : Nat}
    (hw : SetTable.sizeAbove wanted - 1 = M) (hM : MK M) (hw2 : SetTable.sizeAbove wanted ≤ 2048) (hn : L.length * 5 < M * 3) {Q : Unit → Shared → Prop}
    (hQ : ∀ h' L' es' ep' t', Heap.SameBut a s.heap h' → SetN w h' a L' es' ep' t' → L'.Perm L → Q () { s with heap := h' }) : wpAny (model P w) A (setRelay a wanted) Q E s := by
  have hsl : es.size = L.length := rows_size hrows
  have hML := mk_le hM
  obtain ⟨t', order, e, hp, T, em, el, ep'⟩ := relay_ok t (hs := es.map (·.1)) (wanted := wanted) hw hM (by rw [Array.size_map, hsl]; omega)
  rw [Array.size_map, hsl] at hp
  obtain ⟨L2, r1, r2, r3⟩ := rows_order L es order hrows hp
  rw [← r3] at T
  have hs2 : (order.filterMap (es[·]?)).size = es.size := by
    rw [rows_size r1, r2.length_eq, hsl]
  rw [setRelay_eq]
  refine wpAny_bind (wpAny_setState_of ho hd (fits_of hsz hdm hfl) ?_)
  dsimp only
  refine wp_if_neg (by rw [sizeLine_eq]; omega) ?_
  try refine wpAny_bind (wpAny_pure ?_)
  rw [e]
  dsimp only
  refine wpAny_bind ?_
  refine wp_if_neg (by rw [hs2]; simp) ?_
  try refine wpAny_bind (wpAny_pure ?_)
  refine wpAny_pure ?_
  dsimp only
  refine wpAny_storeSet_of ho hd ?_ (by rw [hs2, hsl, sizeLine_eq]; omega)
  have sb : Heap.SameBut a s.heap (s.heap.update a (Obj.putSet (order.filterMap (es[·]?)) t')) := Heap.SameBut.update ..
  refine hQ _ L2 (order.filterMap (es[·]?)) (ep + 1) t' sb ?_ r2
  exact ⟨⟨_, store_at ho hd, ⟨hex.1, hex.2.1, hex.2.2⟩, rfl⟩, r1, T, (r2.map (·.2)).nodup_iff.mpr nd, fun p hpm => (tup p (r2.mem_iff.mp hpm)).same ho hd sb, by rw [ep']; exact pl, by rw [el]; exact ld, by rw [r2.length_eq, em]; exact hn⟩
theorem size5 : SetTable.sizeAbove (SetTable.grown 5) = 32 := by decide +kernel
theorem size19 : SetTable.sizeAbove (SetTable.grown 19) = 128 := by decide +kernel
theorem size77 : SetTable.sizeAbove (SetTable.grown 77) = 512 := by decide +kernel
theorem size307 : SetTable.sizeAbove (SetTable.grown 307) = 2048 := by decide +kernel

theorem add_set (R : SetN w s.heap a L es ep t) {x : Addr} {k : NestedKey} (hx : IsN s.heap k x) (hu : A.units + 8 < cLine) (hfew : L.length + 1 ≤ 1228) {Q : Bool → Shared → Prop}
    (hQ : ∀ b h' L' es' ep' t', Heap.SameBut a s.heap h' → SetN w h' a L' es' ep' t' → (k ∈ keysN L → L' = L) → (k ∉ keysN L → L'.Perm ((x, k) :: L)) → Q b { s with heap := h' }) :
    wpAny (model P w) A (setAddHashed a (.ref x) (k.hash w)) Q E s := by
  obtain ⟨o, ho, hex, hd⟩ := R.ob
  have hsl := R.size
  have hroom := R.room
  unfold setAddHashed
  refine wpAny_holding ?_
  rw [show (100000 : Nat) = 99999 + 1 from rfl, setAddHashedIn_succ]
  refine wpAny_bind (wpAny_setState_of ho hd R.fits ?_)
  dsimp only
  refine wp_if_neg (by simp [byScan, Value.scannable]) ?_
  try refine wpAny_bind (wpAny_pure ?_)
  refine wpAny_bind (seek_at R hx hu (fun hm r _ => ?_) fun K hm hK hb => ?_)
  · dsimp only
    exact wpAny_pure (hQ false s.heap L es ep t (Heap.SameBut.refl a s.heap) R (fun _ => rfl) fun z => absurd hm z)
  · dsimp only
    refine wpAny_bind (wpAny_setState_of ho hd R.fits ?_)
    dsimp only
    obtain ⟨q1, q2, q3, q9⟩ := R.tab.lay hK hb
    have q4 : (t.put (way t.mask (k.hash w) K)).1.mask = t.mask := rfl
    have q5 : (t.put (way t.mask (k.hash w) K)).1.led = t.led := rfl
    have hp1 : (t.put (way t.mask (k.hash w) K)).1.plain = true := R.plain
    generalize hpt : t.put (way t.mask (k.hash w) K) = pt at q1 q3 q4 q5 q9 hp1 ⊢
    obtain ⟨t1, p⟩ := pt
    dsimp only at q1 q3 q4 q5 q9 hp1 ⊢
    subst q1
    first
      | (refine wpAny_bind ?_; refine wp_if_pos hp1 ?_; refine hashBy_key 8 k _ s A E _ hx.it (Nat.le_succ_of_le hx.dp) hx.nm ?_)
      | refine wp_if_pos hp1 (wpAny_bind (hashBy_key 8 k _ s A E _ hx.it (Nat.le_succ_of_le hx.dp) hx.nm ?_))
    simp only [if_true]
    generalize hpp : SetTable.below t.place (way t.mask (k.hash w) K) = p at q2 q3 ⊢
    have hin : (SetTable.insertAt es p (k.hash w, Value.ref x)).toList = rowsN w (L.take p ++ (x, k) :: L.drop p) := by
      rw [SetTable.toList_insertAt, rowsN_put, R.rows]
    have pm := put_perm L p (x, k)
    have hlen : (L.take p ++ (x, k) :: L.drop p).length = L.length + 1 := pm.length_eq
    have hhs : hashN w (L.take p ++ (x, k) :: L.drop p) = (hashN w L).take p ++ k.hash w :: (hashN w L).drop p := by
      unfold hashN
      rw [List.map_append, List.map_cons, List.map_take, List.map_drop]
    rw [← hhs] at q3
    have nd1 : (keysN (L.take p ++ (x, k) :: L.drop p)).Nodup := by
      refine (pm.map (·.2)).nodup_iff.mpr ?_
      rw [List.map_cons]
      exact List.nodup_cons.mpr ⟨hm, R.nd⟩
    have hes : (SetTable.insertAt es p (k.hash w, Value.ref x)).size = L.length + 1 := by rw [rows_size hin, hlen]
    generalize SetTable.insertAt es p (k.hash w, Value.ref x) = es1 at hin hes ⊢
    generalize L.take p ++ (x, k) :: L.drop p = L1 at pm hlen q3 nd1 hin
    refine wpAny_bind (wpAny_storeSet_of ho hd ?_ (by rw [hes, sizeLine_eq]; omega))
    have sb : Heap.SameBut a s.heap (s.heap.update a (Obj.putSet es1 t1)) := Heap.SameBut.update ..
    have ho1 := store_at (es' := es1) (t' := t1) ho hd
    generalize s.heap.update a (Obj.putSet es1 t1) = h1 at sb ho1 ⊢
    have tup1 : ∀ p ∈ L1, IsN h1 p.2 p.1 := fun p hp => by
      rcases List.mem_cons.mp (pm.mem_iff.mp hp) with e | hp
      · rw [e]; exact hx.same ho hd sb
      · exact (R.tup p hp).same ho hd sb
    have ld1 : w.params.followText "set-order" = true ∨ t1.led = true := by rw [q5]; exact R.led
    have hfl : t1.fill = L.length + 1 := by rw [q9, List.length_map]
    by_cases hf : t1.tooFull = true
    · first
        | (refine wpAny_bind ?_; refine wp_if_pos (by simp [hf]) ?_)
        | (refine wp_if_pos (by simp [hf]) ?_; refine wpAny_bind ?_)
      have hfull : (L.length + 1) * 5 ≥ t.mask * 3 := by
        have h := hf
        unfold SetTable.tooFull at h
        rw [decide_eq_true_eq, hfl, q4] at h
        exact h
      rw [hsl]
      have hsz1 : t1.place.size = es1.size := by
        have h := q3.cnt
        rw [List.length_map, hlen] at h
        rw [h, hes]
      have go : ∀ M, SetTable.sizeAbove (SetTable.grown (L.length + 1)) - 1 = M → MK M → SetTable.sizeAbove (SetTable.grown (L.length + 1)) ≤ 2048 → (L.length + 1) * 5 < M * 3 → L.length + 1 ≤ t.mask →
          wpAny (model P w) A (setRelay a (SetTable.grown (L.length + 1))) (fun _ s' => wpAny (model P w) A (pure true) Q E s') E { s with heap := h1 } := fun M h1' h2' h3' h4' h5' => by
        refine relay_set (s := { s with heap := h1 }) ho1 ⟨hex.1, hex.2.1, hex.2.2⟩ rfl hin hsz1 q3.nod (by rw [hes, q4]; exact h5') nd1 tup1 hp1 ld1 h1' h2' h3' (by rw [hlen]; exact h4') ?_
        intro h2 L2 es2 ep2 t2 sb2 R2 pm2
        exact wpAny_pure (hQ true h2 L2 es2 ep2 t2 (sb.trans sb2) R2 (fun z => absurd z hm) fun _ => pm2.trans pm)
      rcases R.tab.msk with e | e | e | e | e <;> rw [e] at hfull hroom
      · obtain e2 : L.length = 4 := by omega
        exact go 31 (by rw [e2, size5]) (.inr (.inl rfl)) (by rw [e2, size5]; decide) (by omega) (by omega)
      · obtain e2 : L.length = 18 := by omega
        exact go 127 (by rw [e2, size19]) (.inr (.inr (.inl rfl))) (by rw [e2, size19]; decide) (by omega) (by omega)
      · obtain e2 : L.length = 76 := by omega
        exact go 511 (by rw [e2, size77]) (.inr (.inr (.inr (.inl rfl)))) (by rw [e2, size77]; decide) (by omega) (by omega)
      · obtain e2 : L.length = 306 := by omega
        exact go 2047 (by rw [e2, size307]) (.inr (.inr (.inr (.inr rfl)))) (by rw [e2, size307]; decide) (by omega) (by omega)
      · exfalso
        omega
    · first
        | refine wp_if_neg (by simp [hf]) ?_
        | (refine wpAny_bind ?_; refine wp_if_neg (by simp [hf]) ?_; refine wpAny_pure ?_)
      refine wpAny_pure (hQ true h1 L1 es1 (ep + 1) t1 sb ⟨⟨_, ho1, ⟨hex.1, hex.2.1, hex.2.2⟩, rfl⟩, hin, q3, nd1, tup1, hp1, ld1, ?_⟩ (fun z => absurd z hm) fun _ => pm)
      have h := hf
      unfold SetTable.tooFull at h
      rw [decide_eq_true_eq, hfl] at h
      rw [hlen]
      omega

/-- a new set -/
theorem setN_new {h : Heap} {a : Addr} (ho : h.get? a = some { cls := .type "set", dict := none, data := .set #[] 0 (.fresh 0 0 (!w.params.followText "set-order")) }) : SetN w h a [] #[] 0 (.fresh 0 0 (!w.params.followText "set-order")) where
  ob := ⟨_, ho, ⟨rfl, rfl, rfl⟩, rfl⟩
  rows := rfl
  tab := ⟨List.Pairwise.nil, rfl, rfl, .inl rfl, fun x hx => (by cases hx), fun i h j hi => (by simp at hi)⟩
  nd := List.nodup_nil
  tup := fun p hp => (by cases hp)
  plain := rfl
  led := by
    show _ ∨ (!w.params.followText "set-order") = true
    cases w.params.followText "set-order"
    · exact .inr rfl
    · exact .inl rfl
  room := by
    show 0 * 5 < 7 * 3
    decide

/-- what the set has got of the first i items -/
structure GotN (ks : NL) (i : Nat) (L : NL) : Prop where
  sub : ∀ p ∈ L, p ∈ ks.take i
  all : ∀ p ∈ ks.take i, p.2 ∈ keysN L
  len : L.length ≤ i
theorem GotN.zero (ks : NL) : GotN ks 0 [] := ⟨fun p h => (by cases h), fun p h => (by simp at h), Nat.le_refl _⟩
theorem GotN.next {ks L L' : NL} {i : Nat} {x : Addr × NestedKey} (g : GotN ks i L) (h : ks[i]? = some x) (h1 : x.2 ∈ keysN L → L' = L) (h2 : x.2 ∉ keysN L → L'.Perm (x :: L)) : GotN ks (i + 1) L' := by
  have ht := take_next h
  by_cases hm : x.2 ∈ keysN L
  · rw [h1 hm]
    refine ⟨fun p hp => by rw [ht]; exact List.mem_append_left _ (g.sub p hp), fun p hp => ?_, Nat.le_succ_of_le g.len⟩
    rw [ht] at hp
    rcases List.mem_append.mp hp with z | z
    · exact g.all p z
    · rw [List.mem_singleton.mp z]; exact hm
  · have pm := h2 hm
    refine ⟨fun p hp => ?_, fun p hp => ?_, by rw [pm.length_eq]; exact Nat.succ_le_succ g.len⟩
    · rw [ht]
      rcases List.mem_cons.mp (pm.mem_iff.mp hp) with e | z
      · rw [e]; exact List.mem_append_right _ (List.mem_singleton.mpr rfl)
      · exact List.mem_append_left _ (g.sub p z)
    · unfold keysN
      rw [(pm.map (·.2)).mem_iff, List.map_cons]
      rw [ht] at hp
      rcases List.mem_append.mp hp with z | z
      · exact List.mem_cons_of_mem _ (g.all p z)
      · rw [List.mem_singleton.mp z]; exact List.mem_cons_self

theorem update_set {I : Addr} {fp wr : List Addr} {G : Array GenState → Array GenState → Prop} {n : Nat} {Pv : Nat → Value → Prop} {St : Nat → Shared → Prop} {R : Result → Shared → Prop}
    (W : WalksS P w A.in1 I fp wr G n Pv St) (S : Addr) (hSf : S ∉ fp) (ks : NL) (hn : n = ks.length) (hfew : ks.length ≤ 1228) (hval : ∀ i v, Pv i v → ∃ p, ks[i]? = some p ∧ v = .ref p.1)
    (h0 : Heap) (hk : ∀ p ∈ ks, IsN h0 p.2 p.1) (hS0 : h0.get? S = none) (hw0 : ∀ b ∈ wr, h0.get? b = none) (hu : A.in1.units + 8 < cLine) :
    ∀ (k i : Nat) (s : Shared), n - i = k → i ≤ n → St i s → (∀ b o, h0.get? b = some o → s.heap.get? b = some o) → (∃ L es ep t, SetN w s.heap S L es ep t ∧ GotN ks i L) →
      (∀ s' L es ep t, Moved (S :: wr) G s s' → SetN w s'.heap S L es ep t → GotN ks n L → (∀ b o, h0.get? b = some o → s'.heap.get? b = some o) → R (.ok (.ret .none)) s') →
      codeAny (model P w) A (.builtin "set.update.loop" ⟨[.ref S, .ref I], []⟩) R s := by
  have hSw : S ∉ wr := fun h => hSf (W.sub _ h)
  have hsub : ∀ b ∈ wr, b ∈ S :: wr := fun b hb => List.mem_cons_of_mem _ hb
  have keepM : ∀ {s s' : Shared}, Moved wr G s s' → (∀ b o, h0.get? b = some o → s.heap.get? b = some o) → ∀ b o, h0.get? b = some o → s'.heap.get? b = some o := fun hm hkp b o e =>
    hm.heap b o (fun hb => by rw [hw0 b hb] at e; cases e) (hkp b o e)
  intro k
  induction k with
  | zero =>
    intro i s hk' hi hst hkp ⟨L, es, ep, t, hS, g⟩ hR
    obtain rfl : i = n := by omega
    refine codeAny_builtin F.entry_set_update_loop ?_
    rw [Around.under_plainId F.plain_set_update_loop _]
    show wpAny _ A.in1 (pyNext (.ref I) >>= _) _ _ s
    refine wpAny_bind (W.done s _ _ hst fun s' hm => ?_)
    show wpAny _ A.in1 (ret Value.none) _ _ s'
    have hkp' := keepM hm hkp
    exact wpAny_pure (hR s' L es ep t (hm.mono hsub) (hS.keep (fun o e => hm.heap S o hSw e) fun p hp => (hk p (List.mem_of_mem_take (g.sub p hp))).keep hkp') g hkp')
  | succ k ih =>
    intro i s hk' hi hst hkp ⟨L, es, ep, t, hS, g⟩ hR
    have hlt : i < n := by omega
    refine codeAny_builtin F.entry_set_update_loop ?_
    rw [Around.under_plainId F.plain_set_update_loop _]
    show wpAny _ A.in1 (pyNext (.ref I) >>= _) _ _ s
    refine wpAny_bind (W.item i s _ _ hlt hst fun v s' hP hst' hm => ?_)
    obtain ⟨p, hp, rfl⟩ := hval i v hP
    have hkp' := keepM hm hkp
    have hS' : SetN w s'.heap S L es ep t := hS.keep (fun o e => hm.heap S o hSw e) fun q hq => (hk q (List.mem_of_mem_take (g.sub q hq))).keep hkp'
    have hx : IsN s'.heap p.2 p.1 := (hk p (List.mem_of_getElem? hp)).keep hkp'
    show wpAny _ A.in1 (holding [Value.ref p.1] (setAdd S (.ref p.1)) >>= _) _ _ s'
    refine wpAny_bind (wpAny_holding ?_)
    unfold setAdd
    refine wpAny_holding ?_
    refine wpAny_bind ((nestedKind P w).pyHash hu ⟨hx.it, Nat.le_succ_of_le hx.dp⟩ ?_)
    refine add_set (s := { s' with toks := s'.toks + (nestedKind P w).draws p.2 }) hS' hx hu (by have := g.len; omega) fun b h' L' es' ep' t' hsb hS2 c1 c2 => ?_
    have hkp2 : ∀ b o, h0.get? b = some o → h'.get? b = some o := fun b o e => (hsb.2 b (fun z => by rw [z, hS0] at e; cases e)).trans (hkp' b o e)
    refine wpAny_pure ⟨plainId_quiet F.plain_set_update_loop _, ih (i + 1) _ (by omega) hlt (W.frame _ s' _ _ hst' (Nat.le_add_right _ _) fun b hb o e => ?_) hkp2 ⟨L', es', ep', t', hS2, g.next hp c1 c2⟩ fun s'' L2 es2 ep2 t2 hm'' hS'' g'' hkp'' => ?_⟩
    · rw [hsb.2 b (fun h : b = S => hSf (by rw [← h]; exact hb))]; exact e
    · refine hR s'' L2 es2 ep2 t2 (Moved.trans W.gtrans ((hm.mono hsub).then_heap (Nat.le_add_right _ _) fun b o hb e => ?_) hm'') hS'' g'' hkp''
      rw [hsb.2 b (fun h : b = S => hb (by rw [h]; exact List.mem_cons_self))]; exact e

set_option maxRecDepth 100000 in
set_option maxHeartbeats 3200000 in
/-- set(xs), xs a list or a tuple -/
theorem call_setN {l : Addr} {items : Array Value} (ks : NL) {Q : Value → Shared → Prop} (hh : A.handled = none) (hl : s.heap.IsList l items ∨ s.heap.IsTuple l items) (hit : items.toList = ks.map fun p => Value.ref p.1)
    (hk : ∀ p ∈ ks, IsN s.heap p.2 p.1) (hfew : ks.length ≤ 1228) (hu : A.units + 16 < cLine)
    (h : ∀ (h' : Heap) (tk : Nat) L es ep t, SetN w h' s.heap.objs.size L es ep t → GotN ks ks.length L → (∀ b o, s.heap.get? b = some o → h'.get? b = some o) → Q (.ref s.heap.objs.size) { s with heap := h', toks := tk }) :
    wpAny (model P w) A (call (.type "set") [.ref l]) Q E s := by
  have hisz : items.size = ks.length := by
    have q := congrArg List.length hit
    rw [Array.length_toList, List.length_map] at q
    exact q
  obtain ⟨c, tl, hmro⟩ := F.called_set.mro
  have hmade := F.called_set.made
  have hsub := F.called_set.sub
  refine wpAny_call (codeAny_of_tree ?_)
  show wpAny _ _ (callAny (.type "set") _) _ _ _
  refine wpAny_pure ⟨Code.quiet_builtin _ (by decide +kernel), codeAny_builtin F.entry_type_call ?_⟩
  rw [Around.under_plain (weight_type_call_type "set" [.ref l] []) rfl]
  have h1 := F.called_set.notType
  have h2 := F.called_set.canCreate
  have hct := F.typeCall_set_1 (.ref l)
  repeat (any_goals (first | assumption | wp_step))
  generalize hfr : ({ cls := .type "set", dict := none, data := .set #[] 0 (.fresh 0 0 (!w.params.followText "set-order")) } : Obj) = fr
  refine codeAny_mono (code_set_led1 (.ref l) (E := E) (Q₁ := fun obj s1 => obj = .ref s.heap.objs.size ∧ s1 = { s with heap := s.heap.push fr }) (by rw [hfr]; exact ⟨rfl, rfl⟩)) fun r s1 hr => ?_
  cases r with
  | error e => exact hr
  | ok fl =>
    cases fl with
    | ret obj =>
      obtain ⟨rfl, rfl⟩ := hr
      have hS : (s.heap.push fr).get? s.heap.objs.size = some fr := Heap.get?_push_size _ (by rw [← hfr] <;> rfl)
      have hT : Shared.TypeIs { s with heap := s.heap.push fr } (.ref s.heap.objs.size) "set" := ⟨_, hS, by rw [← hfr]⟩
      have hli := F.called_set.init.lookup
      have hbi := F.called_set.init.bind (.ref s.heap.objs.size)
      repeat (any_goals (first | assumption | wp_step))
      refine codeAny_mono (codeAny_call_builtin (R := wants (fun r s2 => r = .none ∧ ∃ h' tk L es ep t, s2 = { s with heap := h', toks := tk } ∧ SetN w h' s.heap.objs.size L es ep t ∧ GotN ks ks.length L ∧
          (∀ b o, s.heap.get? b = some o → h'.get? b = some o)) E) F.called_set.init.plain F.entry_set_init (check_set_init_1 hT ?_)) fun r2 s2 hr2 => ?_
      · have none_of : ∀ b, s.heap.objs.size ≤ b → s.heap.get? b = none := fun b hb => by
          cases q : s.heap.get? b with
          | none => rfl
          | some o => exact absurd (Nat.lt_of_lt_of_le (Heap.lt_size q) hb) (Nat.lt_irrefl _)
        have hlS : l < s.heap.objs.size := by
          rcases hl with ⟨o, e, _⟩ | ⟨o, e, _⟩ <;> exact Heap.lt_size e
        have hh3 : A.in1.in1.in1.handled = none := by simp [hh]
        have hneI : l ≠ (s.heap.push fr).objs.size := by
          rw [Heap.size_push]; exact Nat.ne_of_lt (Nat.lt_succ_of_lt hlS)
        have hSf : s.heap.objs.size ∉ [(s.heap.push fr).objs.size, l] := by
          rw [Heap.size_push]; simp only [List.mem_cons, List.mem_singleton, List.not_mem_nil, or_false, not_or]
          exact ⟨Nat.ne_of_lt (Nat.lt_succ_self _), Nat.ne_of_gt hlS⟩
        have hval : ∀ (i : Nat) (v : Value), items[i]? = some v → ∃ p, ks[i]? = some p ∧ v = .ref p.1 := fun i v hv => by
          have q : items.toList[i]? = some v := by rw [Array.getElem?_toList]; exact hv
          rw [hit, List.getElem?_map] at q
          obtain ⟨p, hp, e⟩ := Option.map_eq_some_iff.mp q
          exact ⟨p, hp, e.symm⟩
        have fin : ∀ (oI : Obj) {R : Result → Shared → Prop} {fp : List Addr} {St : Nat → Shared → Prop}, WalksS P w A.in1.in1.in1 (s.heap.push fr).objs.size fp [(s.heap.push fr).objs.size] (fun a b => b = a) items.size (fun i v => items[i]? = some v) St →
            s.heap.objs.size ∉ fp → St 0 { s with heap := (s.heap.push fr).push oI } →
            (∀ s', (∃ h' tk L es ep t, s' = { s with heap := h', toks := tk } ∧ SetN w h' s.heap.objs.size L es ep t ∧ GotN ks ks.length L ∧ ∀ b o, s.heap.get? b = some o → h'.get? b = some o) → R (.ok (.ret .none)) s') →
            codeAny (model P w) A.in1.in1 (.builtin "set.update.loop" ⟨[.ref s.heap.objs.size, .ref (s.heap.push fr).objs.size], []⟩) R { s with heap := (s.heap.push fr).push oI } := fun oI {R fp St} W hf st hR => by
          refine update_set W s.heap.objs.size hf ks hisz hfew hval s.heap hk (none_of _ (Nat.le_refl _)) (fun b hb => none_of b (by
              rw [List.mem_singleton.mp hb, Heap.size_push]
              exact Nat.le_succ _)) (by show A.units + 1 + 1 + 1 + 8 < cLine; omega) (items.size - 0) 0 _ (by omega) (Nat.zero_le _) st (fun b o e => Heap.get?_push_of_some _ (Heap.get?_push_of_some _ e)) ⟨[], #[], 0, _, setN_new (by rw [hfr]; exact Heap.get?_push_of_some _ hS), GotN.zero ks⟩ fun s' L es ep t hm hS' g' hkp => ?_
          obtain ⟨h', g2, d', tk', os'⟩ := s'
          have eg : g2 = s.gens := hm.gens
          have ed : d' = s.drawn := hm.drawn
          have eo : os' = s.os := hm.os
          subst eg; subst ed; subst eo
          rw [hisz] at g'
          exact hR _ ⟨h', tk', L, es, ep, t, rfl, hS', g', hkp⟩
        rcases hl with hl | hl
        · obtain ⟨ol, hol, hcl, nl, hdl⟩ := hl
          obtain ⟨ocls, odict, odata, oslots⟩ := ol
          simp only at hcl hdl
          subst hcl; subst hdl
          have hol' : (s.heap.push fr).get? l = some { cls := .type "list", dict := odict, data := .seq items nl, slots := oslots } := Heap.get?_push_of_some _ hol
          have hsls := F.sub_list_set
          have hslf := F.sub_list_frozenset
          have hne : (Value.type "list" == Value.type "dict") = false := by decide
          have hl1 : (s.heap.push fr).IsList l items := ⟨_, hol', rfl, nl, rfl⟩
          subst hfr
          unfold Builtin.«set.__init__» noKeywords Builtin.Frozenset.updateFrom
          generalize hPI : pyIter = PI
          wp_walk
          subst hPI
          refine wpAny_pyIter_list hl1 ?_
          refine wpAny_bind (wpAny_runValue ?_)
          refine fin _ ((Walks.list hh3 _ l hneI items).toS) hSf ⟨⟨_, Heap.get?_push_size _ rfl, rfl, rfl⟩, (hl1.push _)⟩ fun s' hs' => ?_
          show wpAny _ _ _ _ _ _
          refine wpAny_pure ?_
          show wpAny _ _ (ret Value.none) _ _ _
          exact wpAny_pure ⟨rfl, hs'⟩
        · obtain ⟨ol, hol, hcl, nl, hdl⟩ := hl
          obtain ⟨ocls, odict, odata, oslots⟩ := ol
          simp only at hcl hdl
          subst hcl; subst hdl
          have hol' : (s.heap.push fr).get? l = some { cls := .type "tuple", dict := odict, data := .seq items nl, slots := oslots } := Heap.get?_push_of_some _ hol
          have hsls := F.sub_tuple_set
          have hslf := F.sub_tuple_frozenset
          have hne : (Value.type "tuple" == Value.type "dict") = false := by decide
          have hl1 : (s.heap.push fr).IsTuple l items := ⟨_, hol', rfl, nl, rfl⟩
          subst hfr
          unfold Builtin.«set.__init__» noKeywords Builtin.Frozenset.updateFrom
          generalize hPI : pyIter = PI
          wp_walk
          subst hPI
          refine wpAny_pyIter_tuple hl1 ?_
          refine wpAny_bind (wpAny_runValue ?_)
          refine fin _ ((Walks.tuple hh3 _ l hneI items).toS) hSf ⟨⟨_, Heap.get?_push_size _ rfl, rfl, rfl⟩, (hl1.push _)⟩ fun s' hs' => ?_
          show wpAny _ _ _ _ _ _
          refine wpAny_pure ?_
          show wpAny _ _ (ret Value.none) _ _ _
          exact wpAny_pure ⟨rfl, hs'⟩
      · cases r2 with
        | error e => exact hr2
        | ok fl2 =>
          cases fl2 with
          | ret r =>
            obtain ⟨rfl, h', tk, L, es, ep, t, rfl, hS', g', hk'⟩ := hr2
            repeat (any_goals (first | assumption | wp_step))
            exact h _ _ _ _ _ _ hS' g' hk'
          | _ => exact hr2.elim
    | _ => exact hr.elim
end
end Isl
end
section
set_option Elab.async false
set_option linter.all false
set_option maxRecDepth 100000
set_option maxHeartbeats 4000000
/-! enumerate over a tuple; walks over it and over zip of two tuples -/
namespace Isl
open PySem PySem.Spec PyProof.Rows L2

theorem meets_enumerate_tup {v : Value} {o : Obj} {H : Heap → Prop} (B : Begins v o H) :
    Meets (Builtin.«enumerate.__new__» ⟨[.type "enumerate", v], []⟩) (fun _ R s => H s.heap ∧
      R (.ok (.ret (.ref (s.heap.push o).objs.size))) { s with heap := (s.heap.push o).push { cls := .type "enumerate", data := .fields #[.none, .bool false, .ref s.heap.objs.size, rawInt 0, .none, .none] } }) :=
  .of_wp fun prog w A R s h => by
    obtain ⟨hp, g, d, tk, os⟩ := s; obtain ⟨h1, h⟩ := h
    have hsub := sub_enumerate
    have q1 : ∀ {A' : Around} {E : Value → Shared → Prop} {Q : Value → Shared → Prop}, Q (.ref hp.objs.size) ⟨hp.push o, g, d, tk, os⟩ → wpAny (model prog w) A' (pyIter v) Q E ⟨hp, g, d, tk, os⟩ :=
      fun q => B.iter prog w _ _ ⟨hp, g, d, tk, os⟩ _ h1 q
    wp_walk using q1
    refine wpAny_stack_any fun st => wpAny_pure ?_
    split
    · rename_i c _ _ _ _ _
      cases (c == Value.type "enumerate")
      · wp_walk using q1
        exact ⟨_, rfl, h⟩
      · wp_walk using q1
        exact ⟨_, rfl, h⟩
    · wp_walk using q1
      exact ⟨_, rfl, h⟩
theorem call_enumT {prog : Program} {w : World} {A : Around} {E : Value → Shared → Prop} {s : Shared} {v : Value} {o : Obj} {H : Heap → Prop} {Q : Value → Shared → Prop} (B : Begins v o H) (h1 : H s.heap)
    (h : ∀ h', IsEnum h' (s.heap.objs.size + 1) s.heap.objs.size 0 .none → h'.get? s.heap.objs.size = some o → h'.objs.size = s.heap.objs.size + 2 →
      (∀ b o, s.heap.get? b = some o → h'.get? b = some o) → Q (.ref (s.heap.objs.size + 1)) { s with heap := h' }) :
    wpAny (model prog w) A (call (.type "enumerate") [v]) Q E s := by
  refine callType_new F.called_enumerate (by decide) (F.typeCall_enumerate_1 _) (F.newCall_enumerate_1 _) (fun obj => F.args_object_init_2 obj _) F.entry_enumerate_new
    (meets_enumerate_tup B) ⟨h1, ?_⟩
  have hz : (s.heap.push o).objs.size = s.heap.objs.size + 1 := Heap.size_push ..
  show _ ∧ _
  rw [hz]
  have he : IsEnum ((s.heap.push o).push { cls := .type "enumerate", data := .fields #[.none, .bool false, .ref s.heap.objs.size, rawInt 0, .none, .none] }) (s.heap.objs.size + 1) s.heap.objs.size 0 .none := by
    have := Heap.get?_push_size (s.heap.push o) (o := { cls := .type "enumerate", data := .fields #[.none, .bool false, .ref s.heap.objs.size, rawInt 0, .none, .none] }) rfl
    rw [hz] at this; exact this
  refine ⟨⟨_, he, rfl⟩, h _ he (Heap.get?_push_of_some _ (Heap.get?_push_size _ B.free)) (by rw [Heap.size_push, hz]) fun b o x => Heap.get?_push_of_some _ (Heap.get?_push_of_some _ x)⟩

/-- enumerate of the tuple at a -/
def IteT (K : PySem.W.Frag) (a : Addr) : It :=
  ⟨fun i H => ∃ (xs : List V) (x : V), SqT K H a xs ∧ xs[i]? = some x, fun i H v H' => ∃ T x, v = .ref T ∧ H T = none ∧ H' = upd H T (.tup [.int (i : Nat), x]) ∧ ∀ xs, SqT K H a xs → xs[i]? = some x, fun i H => ∃ xs : List V, SqT K H a xs ∧ xs.length ≤ i⟩
theorem turn_enumT {P : Program} {w : World} {K : PySem.W.Frag} {elts : List Expr} {kk : Nat} {tpos : Pos} (a e it : Addr) (hai : a ≠ it) (hea : e ≠ a) :
    Turn P w K (.Tuple elts kk tpos) (IteT K a) [e, it] e (fun i h => (∃ old, IsEnum h e it ((i : Nat) : Int) old) ∧ h.IsTupleIter it a i ∧ e ≠ it) where
  mem := by simp
  obj := fun i h st b hb => by
    obtain ⟨⟨old, he⟩, ⟨o, ho, hc, hd⟩, _⟩ := st
    have e' : b = e ∨ b = it := by simpa using hb
    rcases e' with z | z
    · rw [z]; exact ⟨_, he, fun v q => nomatch q⟩
    · rw [z]; exact ⟨o, ho, fun v q => by rw [hd] at q; cases q⟩
  keep := fun i h h' st k => let ⟨⟨old, he⟩, hi, hne⟩ := st; ⟨⟨old, k e (by simp) _ he⟩, hi.at fun o q => k it (by simp) o q, hne⟩
  item := by
    intro X hP hw hK hc i pins s σ H E I hf st hg
    subst hP hw hK
    obtain ⟨⟨old, he⟩, hit, hne⟩ := st
    obtain ⟨xs, x, hq, hx⟩ := hg
    obtain ⟨its, rv, p, hz⟩ := I.tuple hq
    obtain ⟨u, hu, ru⟩ := rv.get hx
    have hel : e < s.heap.objs.size := Heap.lt_size he
    have hil : it < s.heap.objs.size := by obtain ⟨_, q, _⟩ := hit; exact Heap.lt_size q
    have hu2 : its.toArray[i]? = some u := by simpa using hu
    have hlt : i < its.toArray.size := (Array.getElem?_eq_some_iff.mp hu2).1
    have p0 : s.heap.IsTuple a its.toArray := p
    have ef : e ∉ [it, a] := by simp; exact ⟨hne, hea⟩
    refine wpAny_pyNext_enum_itemD (Draws.tuple (A := X.A.in1) (prog := X.prog) (w := X.w) (I.ok.hd hc) it a hai its.toArray) he ⟨hit, p0⟩ hlt hne ef fun x' h' tk hx' ho hst hT hsz hk => ?_
    obtain ⟨hit', p'⟩ := hst
    have ex : x' = u := by
      have hx2 : its.toArray[i]? = some x' := hx'
      rw [hu2] at hx2
      exact (Option.some.inj hx2).symm
    subst ex
    refine ⟨_, rfl, wpAny_letOwnedTupleGo_enum (s := { s with heap := h', toks := tk + 1 }) ho fun h'' he' sb => ?_⟩
    have hT2 : h''.get? s.heap.objs.size = some { cls := .type "tuple", data := .seq #[.int i tk, x'] } := (sb.2 _ (Nat.ne_of_gt hel)).trans hT
    have new : ObjOk X.prog X.w (upd H s.heap.objs.size (.tup [.int (i : Nat), x])) h'' s.heap.objs.size (.tup [.int (i : Nat), x]) :=
      ⟨by show 2 ≤ sizeLine; decide, [.int i tk, x'], .cons ⟨_, rfl⟩ (.cons ru .nil), ⟨_, hT2, rfl, _, rfl⟩⟩
    have I1 : Inv X pins σ (upd H s.heap.objs.size (.tup [.int (i : Nat), x])) { s with heap := h'', toks := tk + 1 } :=
      I.turnedNew (ch := [e, it]) (fun b ob hb q => (sb.2 b (fun z => hb (by simp [z]))).trans (hk b ob (fun z => hb (by simp [z])) (fun z => hb (by simp [z])) q)) hf (Nat.le_refl _) new
    refine ⟨.ref s.heap.objs.size, _, I1, rfl, ⟨_, x, rfl, I.hok.fresh (Nat.le_refl _), rfl, fun ys hy => by rw [I.tuple_inj hy hq]; exact hx⟩, ⟨⟨x', ?_⟩, hit'.at fun o q => (sb.2 it (Ne.symm hne)).trans q, hne⟩, fun b hb => ?_⟩
    · have e1 : ((i + 1 : Nat) : Int) = (i : Int) + 1 := by omega
      rw [e1]; exact he'
    · have hb' : b < s.heap.objs.size := by
        have e' : b = e ∨ b = it := by simpa using hb
        rcases e' with z | z
        · rw [z]; exact hel
        · rw [z]; exact hil
      rw [upd_ne (Nat.ne_of_lt hb')]
      exact (hf b hb).1
  done := by
    intro X hP hw hK hc i pins s σ H E I hf st hg
    subst hP hw hK
    obtain ⟨⟨old, he⟩, hit, hne⟩ := st
    obtain ⟨xs, hq, hx⟩ := hg
    obtain ⟨its, rv, p, hz⟩ := I.tuple hq
    obtain ⟨f0, f1, f2, f3, f4, f5⟩ := hf it (by simp)
    have hl := rv.length
    have p0 : s.heap.IsTuple a its.toArray := p
    have hsz : its.toArray.size ≤ i := by rw [List.size_toArray]; omega
    have D : Draws X.prog X.w X.A.in1 it [it, a] 0 (fun _ _ => True) (fun _ h => h.IsTupleIter it a i ∧ h.IsTuple a its.toArray) :=
      { live := fun _ _ st => let ⟨o, ho, _⟩ := st.1; ⟨o, ho⟩
        frame := fun _ _ _ st hk => ⟨st.1.at fun o e => hk it (by simp) o e, st.2.at fun o e => hk a (by simp) o e⟩
        item := fun i s Q E hi => absurd hi (Nat.not_lt_zero _)
        done := fun s Q E st hE => RZ.nextOf_tuple_end (I.ok.hd hc) st.1 st.2 (by simp; omega) hE }
    exact wpAny_pyNext_enum_endD D he ⟨hit, p0⟩ fun h' eb => ⟨rfl, I.turned (t' := s.toks) (fun b o hb q => eb b o hb q) f0 f1 f3 f4 f5⟩
  self := fun A i s Q E st h => let ⟨⟨_, he⟩, _⟩ := st; wpAny_pyIter_enum he h
def iEnumT (K : PySem.W.Frag) (ta : TA) : TI := fun σ H R => ta σ H fun vs H1 => ∃ a xs, vs = [.ref a] ∧ SqT K H1 a xs ∧ R (IteT K a) H1
theorem pi_enumT {X : Cx} {e : Expr} {ta : TA} {p pos tpos : Pos} {elts : List Expr} {kk : Nat} (hg : Gl X "enumerate") (hm : X.mg "enumerate" = none) (ha : PA X [e] ta) (hs : starEach [e] X.env = [(false, eval e X.env)] := by rfl) :
    PI X (.Tuple elts kk tpos) (.Call (.Name "enumerate" p) [e] [] pos) (iEnumT X.K ta) := by
  refine ⟨fun pins s σ H R I h => ?_⟩
  refine Call_ (ld_blt I hg hm boot_enumerate (PyProof.Rows.callWith_type1 (thn (ha.run pos pins s σ H _ I h) fun us s1 ⟨vs, H1, I1, r1, q1⟩ => ?_) hs rfl))
  obtain ⟨a, xs, ex, hq, q⟩ := q1
  subst ex
  cases r1 with
  | cons r rr =>
    cases rr
    cases r
    obtain ⟨its, rv, p', hz⟩ := I1.tuple hq
    have p0 : s1.heap.IsTuple a its.toArray := p'
    have hal : a < s1.heap.objs.size := by obtain ⟨_, q, _⟩ := p0; exact Heap.lt_size q
    refine call_enumT (begins_tuple a its.toArray) p0 fun h' he hit hsz hk => wpAny_pyIter_enum he ?_
    have I2 : Inv X pins σ H1 { s1 with heap := h' } := I1.kept (t' := s1.toks) hk
    refine ⟨s1.heap.objs.size + 1, [s1.heap.objs.size + 1, s1.heap.objs.size], _, _, H1, rfl, I2, turn_enumT a (s1.heap.objs.size + 1) s1.heap.objs.size (Nat.ne_of_lt hal) (Nat.ne_of_gt (Nat.lt_succ_of_lt hal)), ⟨⟨.none, he⟩, ⟨_, hit, rfl, rfl⟩, Nat.succ_ne_self _⟩, fun b hb => ?_, q⟩
    have e' : b = s1.heap.objs.size + 1 ∨ b = s1.heap.objs.size := by simpa using hb
    have hle : s1.heap.objs.size ≤ b := by
      rcases e' with z | z
      · rw [z]; exact Nat.le_add_right _ _
      · rw [z]; exact Nat.le_refl _
    exact I1.fpOk hle (I1.hok.fresh hle)

section
variable {K : PySem.W.Frag} {a b : Addr} {xs ys : List V}
theorem walk_enumT : Walk (IteT K a) xs.length (fun H => SqT K H a xs) (YPair (fun i => some (.int (i : Nat))) (fun i => xs[i]?)) := by
  refine ⟨fun i _ hi q => ⟨xs, xs[i], q, by simp [hi]⟩, fun _ q => ⟨xs, q, Nat.le_refl _⟩, fun i H v H' _ q y => ?_⟩
  obtain ⟨T, x, h1, h2, h3, h4⟩ := y
  exact ⟨T, .int (i : Nat), x, h1, h2, h3, rfl, h4 xs q⟩
theorem walk_zipT {n : Nat} (hn : n = min xs.length ys.length) : Walk (RZ.ItzT K a b) n (fun H => SqT K H a xs ∧ SqT K H b ys) (YPair (fun i => xs[i]?) (fun i => ys[i]?)) := by
  subst hn
  refine ⟨fun i _ hi q => ?_, fun _ q => ⟨xs, ys, q.1, q.2, by omega⟩, fun i H v H' _ q y => ?_⟩
  · have h1 : i < xs.length := by omega
    have h2 : i < ys.length := by omega
    exact ⟨xs, ys, xs[i], ys[i], q.1, q.2, by simp [h1], by simp [h2]⟩
  · obtain ⟨T, x, z, h1, h2, h3, h4, h5⟩ := y
    exact ⟨T, x, z, h1, h2, h3, h4 xs q.1, h5 ys q.2⟩
end
end Isl
end
section
set_option Elab.async false
set_option linter.all false
set_option maxRecDepth 100000
set_option maxHeartbeats 4000000
/-! what an expression evaluates to, as data: tuples, ints, truth values, texts, None -/
namespace Isl
open PySem PySem.Spec PyProof.Rows L2
open Evl (Ex EvT)

/-- every tuple stands as it stood -/
def Tk (H H' : Hp) : Prop := ∀ p xs, H p = some (.tup xs) → H' p = some (.tup xs)
theorem Tk.refl (H : Hp) : Tk H H := fun _ _ h => h
theorem Tk.trans {H H1 H2 : Hp} (a : Tk H H1) (b : Tk H1 H2) : Tk H H2 := fun p xs h => b p xs (a p xs h)
theorem tk_ex {H H' : Hp} (e : Ex H H') : Tk H H' := fun p _ h => e p _ h
theorem tk_put {H : Hp} {p : Addr} {o u : HO} (h : H p = some u) (hu : ∀ xs, u ≠ .tup xs) : Tk H (upd H p o) := fun q xs e => by
  by_cases hq : q = p
  · rw [hq, h] at e
    exact absurd (Option.some.inj e) (hu xs)
  · rw [upd_ne hq]; exact e
theorem tk_new {H : Hp} {p : Addr} {o : HO} (h : H p = none) : Tk H (upd H p o) := tk_ex (Evl.Ex.new h)

mutual
inductive Td (H : Hp) : V → PyData → Prop
  | non : Td H .non .none
  | bl (b : Bool) : Td H (.bl b) (.bool b)
  | int (i : Int) : Td H (.int i) (.int i)
  | str (x : Str) : Td H (.str x) (.str x)
  | tup {a : Addr} {xs : List V} {ds : List PyData} : H a = some (.tup xs) → TdAll H xs ds → Td H (.ref a) (.tuple ds)
inductive TdAll (H : Hp) : List V → List PyData → Prop
  | nil : TdAll H [] []
  | cons {v : V} {vs : List V} {d : PyData} {ds : List PyData} : Td H v d → TdAll H vs ds → TdAll H (v :: vs) (d :: ds)
end
mutual
theorem Td.dp {K : PySem.W.Frag} {H : Hp} : ∀ (d : PyData) (v : V), Td H v d → Dp K H v d
  | .none, _, h => by cases h; exact .non
  | .bool _, _, h => by cases h; exact .bl _
  | .int _, _, h => by cases h; exact .int _
  | .str _, _, h => by cases h; exact .str _
  | .list _, _, h => by cases h
  | .dict _, _, h => by cases h
  | .tuple ds, _, h => by
    cases h with
    | tup h1 h2 => exact .tup (.inl (.inl h1)) (TdAll.dp ds _ h2)
theorem TdAll.dp {K : PySem.W.Frag} {H : Hp} : ∀ (ds : List PyData) (vs : List V), TdAll H vs ds → DpAll K H vs ds
  | [], _, h => by cases h; exact .nil
  | d :: ds, _, h => by
    cases h with
    | cons h1 h2 => exact .cons (Td.dp d _ h1) (TdAll.dp ds _ h2)
end
mutual
theorem Td.tk' {H H' : Hp} (e : Tk H H') : ∀ (d : PyData) (v : V), Td H v d → Td H' v d
  | .none, _, h => by cases h; exact .non
  | .bool _, _, h => by cases h; exact .bl _
  | .int _, _, h => by cases h; exact .int _
  | .str _, _, h => by cases h; exact .str _
  | .list _, _, h => by cases h
  | .dict _, _, h => by cases h
  | .tuple ds, _, h => by
    cases h with
    | tup h1 h2 => exact .tup (e _ _ h1) (TdAll.tk' e ds _ h2)
theorem TdAll.tk' {H H' : Hp} (e : Tk H H') : ∀ (ds : List PyData) (vs : List V), TdAll H vs ds → TdAll H' vs ds
  | [], _, h => by cases h; exact .nil
  | d :: ds, _, h => by
    cases h with
    | cons h1 h2 => exact .cons (Td.tk' e d _ h1) (TdAll.tk' e ds _ h2)
end
theorem Td.tk {H H' : Hp} {d : PyData} {v : V} (h : Td H v d) (e : Tk H H') : Td H' v d := Td.tk' e d v h
theorem TdAll.tk {H H' : Hp} {ds : List PyData} {vs : List V} (h : TdAll H vs ds) (e : Tk H H') : TdAll H' vs ds := TdAll.tk' e ds vs h
theorem Td.ex {H H' : Hp} {d : PyData} {v : V} (h : Td H v d) (e : Ex H H') : Td H' v d := h.tk (tk_ex e)
theorem TdAll.ex {H H' : Hp} {ds : List PyData} {vs : List V} (h : TdAll H vs ds) (e : Ex H H') : TdAll H' vs ds := h.tk (tk_ex e)
theorem Td.toI {H : Hp} {v : V} {i : Int} (h : Td H v (.int i)) : v = .int i := by cases h; rfl
theorem Td.toB {H : Hp} {v : V} {b : Bool} (h : Td H v (.bool b)) : v = .bl b := by cases h; rfl
theorem Td.toN {H : Hp} {v : V} (h : Td H v .none) : v = .non := by cases h; rfl
theorem Td.toT {H : Hp} {v : V} {ds : List PyData} (h : Td H v (.tuple ds)) : ∃ a xs, v = .ref a ∧ H a = some (.tup xs) ∧ TdAll H xs ds := by
  cases h with
  | tup h1 h2 => exact ⟨_, _, rfl, h1, h2⟩
def isNoneD : PyData → Bool
  | .none => true
  | _ => false
theorem Td.noneV {H : Hp} {v : V} {d : PyData} (h : Td H v d) : decide (v = .non) = isNoneD d := by cases h <;> rfl
section
variable {H : Hp}
theorem TdAll.len : ∀ {vs : List V} {ds : List PyData}, TdAll H vs ds → vs.length = ds.length
  | _, _, .nil => rfl
  | _, _, .cons _ h => congrArg Nat.succ h.len
theorem TdAll.at : ∀ {vs : List V} {ds : List PyData}, TdAll H vs ds → ∀ {i : Nat} {d : PyData}, ds[i]? = some d → ∃ v, vs[i]? = some v ∧ Td H v d
  | _, _, .cons h _, 0, _, e => by cases e; exact ⟨_, rfl, h⟩
  | _, _, .cons _ h, i + 1, _, e => h.at (i := i) (by simpa using e)
theorem TdAll.at' : ∀ {vs : List V} {ds : List PyData}, TdAll H vs ds → ∀ {i : Nat} {v : V}, vs[i]? = some v → ∃ d, ds[i]? = some d ∧ Td H v d
  | _, _, .cons h _, 0, _, e => by cases e; exact ⟨_, rfl, h⟩
  | _, _, .cons _ h, i + 1, _, e => h.at' (i := i) (by simpa using e)
theorem TdAll.app : ∀ {vs ws : List V} {ds es : List PyData}, TdAll H vs ds → TdAll H ws es → TdAll H (vs ++ ws) (ds ++ es)
  | _, _, _, _, .nil, h => h
  | _, _, _, _, .cons h1 h2, h => .cons h1 (h2.app h)
theorem TdAll.snoc {vs : List V} {v : V} {ds : List PyData} {d : PyData} (h : TdAll H vs ds) (h1 : Td H v d) : TdAll H (vs ++ [v]) (ds ++ [d]) := h.app (.cons h1 .nil)
theorem TdAll.take : ∀ {vs : List V} {ds : List PyData}, TdAll H vs ds → ∀ n, TdAll H (vs.take n) (ds.take n)
  | _, _, .nil, n => by rw [List.take_nil, List.take_nil]; exact .nil
  | _, _, .cons h1 h2, 0 => .nil
  | _, _, .cons h1 h2, n + 1 => .cons h1 (h2.take n)
theorem TdAll.drop : ∀ {vs : List V} {ds : List PyData}, TdAll H vs ds → ∀ n, TdAll H (vs.drop n) (ds.drop n)
  | _, _, .nil, n => by rw [List.drop_nil, List.drop_nil]; exact .nil
  | _, _, .cons h1 h2, 0 => .cons h1 h2
  | _, _, .cons h1 h2, n + 1 => h2.drop n
end

/-! ### the judgements -/
def ED (te : TE) (σ : L2.St) (H : Hp) (d : PyData) : Prop := ∀ H1, Ex H H1 → ∀ Q : VK, (∀ v H2, Ex H1 H2 → Td H2 v d → Q v H2) → te σ H1 Q
def EA (ta : TA) (σ : L2.St) (H : Hp) (ds : List PyData) : Prop := ∀ H1, Ex H H1 → ∀ Q : List V → Hp → Prop, (∀ vs H2, Ex H1 H2 → TdAll H2 vs ds → Q vs H2) → ta σ H1 Q
/-- a new list -/
def EL (te : TE) (σ : L2.St) (H : Hp) (es : List PyData) : Prop := ∀ H1, Ex H H1 → ∀ Q : VK, (∀ p xs H2, H1 p = none → Ex H1 H2 → H2 p = some (.lst xs) → TdAll H2 xs es → Q (.ref p) H2) → te σ H1 Q
def R2D (r : R2) (d e z : PyData) : Prop := ∀ v w H, Td H v d → Td H w e → ∀ Q : VK, (∀ u H2, Ex H H2 → Td H2 u z → Q u H2) → r v w H Q
def RCD (r : List V → Hp → VK → Prop) (ds : List PyData) (z : PyData) : Prop := ∀ vs H, TdAll H vs ds → ∀ Q : VK, (∀ u H2, Ex H H2 → Td H2 u z → Q u H2) → r vs H Q

section
variable {K : PySem.W.Frag} {σ : L2.St} {H H' : Hp} {ta tb tc te : TE} {t u : TT} {ts : TA} {d e z : PyData} {ds es : List PyData} {r r' : R2}
theorem ED.ex (h : ED te σ H d) (x : Ex H H') : ED te σ H' d := fun H1 a => h H1 (x.trans a)
theorem EL.ex (h : EL te σ H ds) (x : Ex H H') : EL te σ H' ds := fun H1 a => h H1 (x.trans a)
theorem EA.ex (h : EA ts σ H ds) (x : Ex H H') : EA ts σ H' ds := fun H1 a => h H1 (x.trans a)
theorem ed_var {i : Nat} {v : V} (h : σ[i]? = some (some v)) (hv : Td H v d) : ED (tVar i) σ H d := fun H1 e Q q => ⟨v, h, q v H1 (Evl.Ex.refl H1) (hv.ex e)⟩
theorem ed_int {i : Int} : ED (tC (.int i)) σ H (.int i) := fun H1 _ Q q => q _ H1 (Evl.Ex.refl H1) (.int i)
theorem ed_bl {b : Bool} : ED (tC (.bl b)) σ H (.bool b) := fun H1 _ Q q => q _ H1 (Evl.Ex.refl H1) (.bl b)
theorem ed_str {x : Str} : ED (tC (.str x)) σ H (.str x) := fun H1 _ Q q => q _ H1 (Evl.Ex.refl H1) (.str x)
theorem ed_non : ED (tC .non) σ H .none := fun H1 _ Q q => q _ H1 (Evl.Ex.refl H1) .non
theorem ed_op (ha : ED ta σ H d) (hb : ED tb σ H e) (hr : R2D r d e z) : ED (tOp r ta tb) σ H z := fun H1 x Q q =>
  ha H1 x _ fun v H2 x2 hv => hb H2 (x.trans x2) _ fun w H3 x3 hw => hr v w H3 (hv.ex x3) hw Q fun u H4 x4 hu => q u H4 ((x2.trans x3).trans x4) hu
theorem ed_is (h : ED te σ H d) (x : d = e) : ED te σ H e := x ▸ h
theorem ea_nil : EA tNil σ H [] := fun H1 _ Q q => q _ H1 (Evl.Ex.refl H1) .nil
theorem ea_cons (h : ED ta σ H d) (hs : EA ts σ H ds) : EA (tCons ta ts) σ H (d :: ds) := fun H1 x Q q =>
  h H1 x _ fun v H2 x2 hv => hs H2 (x.trans x2) _ fun vs H3 x3 hvs => q _ H3 (x2.trans x3) (.cons (hv.ex x3) hvs)
theorem ed_tup (h : EA ts σ H ds) (hl : ds.length ≤ sizeLine) : ED (tTup ts) σ H (.tuple ds) := fun H1 x Q q =>
  h H1 x _ fun vs H2 x2 hvs => ⟨by rw [hvs.len]; exact hl, fun p hp => q _ _ (x2.trans (Evl.Ex.new hp)) (.tup upd_same (hvs.ex (Evl.Ex.new hp)))⟩
theorem el_lst (h : EA ts σ H ds) (hl : ds.length ≤ sizeLine) : EL (tLst ts) σ H ds := fun H1 x Q q =>
  h H1 x _ fun vs H2 x2 hvs => ⟨by rw [hvs.len]; exact hl, fun p hp => q p vs _ (Evl.fresh_back x2 hp) (x2.trans (Evl.Ex.new hp)) upd_same (hvs.ex (Evl.Ex.new hp))⟩
theorem ed_cb {rc : List V → Hp → VK → Prop} (h : EA ts σ H ds) (hr : RCD rc ds z) : ED (tCB rc ts) σ H z := fun H1 x Q q =>
  h H1 x _ fun vs H2 x2 hvs => hr vs H2 hvs Q fun u H3 x3 hu => q u H3 (x2.trans x3) hu
theorem et_test {b : Bool} (h : ED te σ H (.bool b)) : EvT (tTest te) σ H b := fun H1 x Q q => h H1 x _ fun v H2 x2 hv => ⟨b, hv.toB, q H2 x2⟩
theorem et_B {b : Bool} (h : ED te σ H (.bool b)) : EvT (tB te) σ H b := fun H1 x Q q => h H1 x _ fun v H2 x2 hv => ⟨b, hv.toB, q H2 x2⟩
theorem et_yes : EvT tYes σ H true := fun H1 _ Q q => q H1 (Evl.Ex.refl H1)
theorem ed_and {a b : Bool} (h1 : ED ta σ H (.bool a)) (h2 : a = true → ED tb σ H (.bool b)) : ED (tAndV ta tb) σ H (.bool (a && b)) := fun H1 x Q q => h1 H1 x _ fun v H2 x2 hv => ⟨a, hv.toB, by
  cases a with
  | true => exact iteT (h2 rfl H2 (x.trans x2) Q fun w H3 x3 hw => q w H3 (x2.trans x3) hw)
  | false => exact iteF (q _ H2 x2 (.bl false))⟩
theorem ed_or {a b : Bool} (h1 : ED ta σ H (.bool a)) (h2 : a = false → ED tb σ H (.bool b)) : ED (tOrV ta tb) σ H (.bool (a || b)) := fun H1 x Q q => h1 H1 x _ fun v H2 x2 hv => ⟨a, hv.toB, by
  cases a with
  | true => exact iteT (q _ H2 x2 (.bl true))
  | false => exact iteF (h2 rfl H2 (x.trans x2) Q fun w H3 x3 hw => q w H3 (x2.trans x3) hw)⟩
theorem ed_not {a : Bool} (h1 : ED ta σ H (.bool a)) : ED (tNotV ta) σ H (.bool (!a)) := fun H1 x Q q => h1 H1 x _ fun v H2 x2 hv => ⟨a, hv.toB, q _ H2 x2 (.bl (!a))⟩
theorem ed_if {b : Bool} (h : EvT t σ H b) (h1 : b = true → ED ta σ H d) (h2 : b = false → ED tb σ H d) : ED (tIf t ta tb) σ H d := fun H1 x Q q => h H1 x _ fun H2 x2 => by
  cases b with
  | true => exact iteT (h1 rfl H2 (x.trans x2) Q fun w H3 x3 hw => q w H3 (x2.trans x3) hw)
  | false => exact iteF (h2 rfl H2 (x.trans x2) Q fun w H3 x3 hw => q w H3 (x2.trans x3) hw)
/-- low <= x <= high and the like -/
theorem ed_chain {a b : Bool} {f : PyData} (ha : ED ta σ H d) (hb : ED tb σ H e) (hc : a = true → ED tc σ H f) (hr : R2D r d e (.bool a)) (hr' : a = true → R2D r' e f (.bool b)) : ED (tChain r r' ta tb tc) σ H (.bool (a && b)) := fun H1 x Q q =>
  ha H1 x _ fun v H2 x2 hv => hb H2 (x.trans x2) _ fun w H3 x3 hw => hr v w H3 (hv.ex x3) hw _ fun u H4 x4 hu => ⟨a, hu.toB, by
    cases a with
    | true => exact iteT (hc rfl H4 (((x.trans x2).trans x3).trans x4) _ fun y H5 x5 hy => hr' rfl w y H5 ((hw.ex x4).ex x5) hy Q fun o H6 x6 ho => q o H6 ((((x2.trans x3).trans x4).trans x5).trans x6) ho)
    | false => exact iteF (q _ H4 ((x2.trans x3).trans x4) (.bl false))⟩

/-! ### values -/
theorem r2_I0 {g : Int → Int → Int} {i j : Int} : R2D (rI0 fun i j => .int (g i j)) (.int i) (.int j) (.int (g i j)) := fun v w H hv hw Q q => ⟨i, j, hv.toI, hw.toI, q _ H (Evl.Ex.refl H) (.int _)⟩
theorem r2_B0 {g : Int → Int → Bool} {i j : Int} : R2D (rI0 fun i j => .bl (g i j)) (.int i) (.int j) (.bool (g i j)) := fun v w H hv hw Q q => ⟨i, j, hv.toI, hw.toI, q _ H (Evl.Ex.refl H) (.bl _)⟩
theorem r2_I {C : Int → Int → Prop} {g : Int → Int → Int} {i j : Int} (hc : C i j) : R2D (rI C fun i j => .int (g i j)) (.int i) (.int j) (.int (g i j)) := fun v w H hv hw Q q => ⟨i, j, hv.toI, hw.toI, hc, q _ H (Evl.Ex.refl H) (.int _)⟩
theorem r2_eq {i j : Int} : R2D rEq (.int i) (.int j) (.bool (decide (i = j))) := fun v w H hv hw Q q => by
  rw [hv.toI, hw.toI]
  refine ⟨rfl, ?_⟩
  rw [show decide (V.int i = V.int j) = decide (i = j) from decide_eq_decide.mpr ⟨fun e => by cases e; rfl, fun e => by rw [e]⟩]
  exact q _ H (Evl.Ex.refl H) (.bl _)
theorem r2_ne {i j : Int} : R2D rNe (.int i) (.int j) (.bool (!decide (i = j))) := fun v w H hv hw Q q => by
  rw [hv.toI, hw.toI]
  refine ⟨rfl, ?_⟩
  rw [show decide (V.int i = V.int j) = decide (i = j) from decide_eq_decide.mpr ⟨fun e => by cases e; rfl, fun e => by rw [e]⟩]
  exact q _ H (Evl.Ex.refl H) (.bl _)
theorem r2_eqB {i j : Bool} : R2D rEq (.bool i) (.bool j) (.bool (decide (i = j))) := fun v w H hv hw Q q => by
  rw [hv.toB, hw.toB]
  refine ⟨rfl, ?_⟩
  rw [show decide (V.bl i = V.bl j) = decide (i = j) from decide_eq_decide.mpr ⟨fun e => by cases e; rfl, fun e => by rw [e]⟩]
  exact q _ H (Evl.Ex.refl H) (.bl _)
theorem r2_neB {i j : Bool} : R2D rNe (.bool i) (.bool j) (.bool (!decide (i = j))) := fun v w H hv hw Q q => by
  rw [hv.toB, hw.toB]
  refine ⟨rfl, ?_⟩
  rw [show decide (V.bl i = V.bl j) = decide (i = j) from decide_eq_decide.mpr ⟨fun e => by cases e; rfl, fun e => by rw [e]⟩]
  exact q _ H (Evl.Ex.refl H) (.bl _)
theorem r2_notN : R2D (fun x y H Q => y = .non ∧ Q (.bl (!decide (x = .non))) H) d .none (.bool (!isNoneD d)) := fun v w H hv hw Q q => ⟨hw.toN, by rw [hv.noneV]; exact q _ H (Evl.Ex.refl H) (.bl _)⟩
theorem r2_isN : R2D (fun x y H Q => y = .non ∧ Q (.bl (decide (x = .non))) H) d .none (.bool (isNoneD d)) := fun v w H hv hw Q q => ⟨hw.toN, by rw [hv.noneV]; exact q _ H (Evl.Ex.refl H) (.bl _)⟩
/-- t[i] -/
theorem r2_ixT {i : Int} (h : atI ds i = some d) : R2D (rIxT K) (.tuple ds) (.int i) d := fun v w H hv hw Q q => by
  obtain ⟨a, xs, rfl, ha, hx⟩ := hv.toT
  unfold atI at h
  rw [Option.bind_eq_some_iff] at h
  obtain ⟨j, hj, hd⟩ := h
  obtain ⟨y, hy, hT⟩ := hx.at hd
  refine ⟨a, xs, i, y, rfl, hw.toI, .inl (.inl ha), ?_, q _ H (Evl.Ex.refl H) hT⟩
  unfold atI
  rw [hx.len, hj]
  exact hy
/-- t + u -/
theorem r2_cat (hl : ds.length + es.length ≤ sizeLine) : R2D (rCatA K) (.tuple ds) (.tuple es) (.tuple (ds ++ es)) := fun v w H hv hw Q q => by
  obtain ⟨a, xs, rfl, ha, hx⟩ := hv.toT
  obtain ⟨b, ys, rfl, hb, hy⟩ := hw.toT
  refine ⟨a, b, xs, ys, rfl, rfl, .inl (.inl ha), .inl (.inl hb), by rw [hx.len, hy.len]; exact hl, fun e => ?_, fun _ e => ?_, fun _ _ p hp => ?_⟩
  · subst e
    cases hx
    exact q _ H (Evl.Ex.refl H) (.tup hb hy)
  · subst e
    cases hy
    rw [List.append_nil] at q
    exact q _ H (Evl.Ex.refl H) (.tup ha hx)
  · exact q _ _ (Evl.Ex.new hp) (.tup upd_same ((hx.app hy).ex (Evl.Ex.new hp)))
/-- t[lo:hi] -/
def cutD (ds : List PyData) (lo hi : Option Int) : List PyData := (ds.drop (HT.sIx ds.length 0 lo)).take (HT.sIx ds.length ds.length hi - HT.sIx ds.length 0 lo)
def EO (to : TO) (σ : L2.St) (H : Hp) (o : Option Int) : Prop := ∀ H1, Ex H H1 → ∀ Q : Option Int → Hp → Prop, (∀ H2, Ex H1 H2 → Q o H2) → to σ H1 Q
theorem eo_none : EO tNoPart σ H none := fun H1 _ Q q => q H1 (Evl.Ex.refl H1)
theorem eo_some {i : Int} (h : ED te σ H (.int i)) : EO (tPart te) σ H (some i) := fun H1 x Q q => h H1 x _ fun v H2 x2 hv => ⟨i, hv.toI, q H2 x2⟩
theorem ed_slT {tl th : TO} {lo hi : Option Int} (h : ED te σ H (.tuple ds)) (h1 : EO tl σ H lo) (h2 : EO th σ H hi) : ED (tSl (rSlA K) te tl th) σ H (.tuple (cutD ds lo hi)) := fun H1 x Q q =>
  h H1 x _ fun v H2 x2 hv => h1 H2 (x.trans x2) _ fun H3 x3 => h2 H3 ((x.trans x2).trans x3) _ fun H4 x4 => by
    obtain ⟨a, xs, rfl, ha, hx⟩ := ((hv.ex x3).ex x4).toT
    have ln := hx.len
    have cut : TdAll H4 (cutV xs lo hi) (cutD ds lo hi) := by
      unfold cutV cutD
      rw [ln]
      exact (hx.drop _).take _
    refine ⟨a, xs, rfl, .inl (.inl ha), fun hw => ?_, fun _ p hp => q _ _ (((x2.trans x3).trans x4).trans (Evl.Ex.new hp)) (.tup upd_same (cut.ex (Evl.Ex.new hp)))⟩
    have e : cutD ds lo hi = ds := by
      rw [ln] at hw
      unfold cutD
      rw [hw.1, hw.2, Nat.sub_zero, List.drop_zero, List.take_length]
    rw [e] at q
    exact q _ H4 ((x2.trans x3).trans x4) (.tup ha hx)

/-! ### calls of defs -/
def spF {ι : Type} (args : ι → List PyData) (res : ι → PyData) : Sp := fun vs H Q _ => ∃ i, TdAll H vs (args i) ∧ ∀ v H', Ex H H' → Td H' v (res i) → Q v H'
theorem spF_len {ι : Type} {args : ι → List PyData} {res : ι → PyData} {n : Nat} (h : ∀ i, (args i).length = n) : ∀ vs H Q E, spF args res vs H Q E → vs.length = n := fun vs H Q E ⟨i, a, _⟩ => by rw [a.len, h]
theorem ed_call {ι : Type} {args : ι → List PyData} {res : ι → PyData} {E : XK} (i : ι) (h : EA ts σ H ds) (he : ds = args i) : ED (tCall (spF args res) [] E ts) σ H (res i) := fun H1 x Q q =>
  h H1 x _ fun vs H2 x2 hvs => ⟨i, by rw [List.append_nil, ← he]; exact hvs, fun v H3 x3 hv => q v H3 (x2.trans x3) hv⟩

/-! ### statements -/
variable {D : Ends} {tu tw : TS} {g : TG}
theorem s_asg {i : Nat} (h : ED te σ H d) (k : ∀ v H1, Ex H H1 → Td H1 v d → D.nx (σ.set i (some v)) H1) : tAsg te (gName i) D σ H := h H (Evl.Ex.refl H) _ k
theorem s_asgL {i : Nat} (h : EL te σ H ds) (k : ∀ p xs H1, H p = none → Ex H H1 → H1 p = some (.lst xs) → TdAll H1 xs ds → D.nx (σ.set i (some (.ref p))) H1) : tAsg te (gName i) D σ H := h H (Evl.Ex.refl H) _ k
theorem s_ret (h : ED te σ H d) (k : ∀ v H1, Ex H H1 → Td H1 v d → D.rt v H1) : tRet te D σ H := h H (Evl.Ex.refl H) _ k
theorem s_if {b : Bool} (h : EvT t σ H b) (h1 : b = true → ∀ H1, Ex H H1 → tu D σ H1) (h2 : b = false → ∀ H1, Ex H H1 → tw D σ H1) : tIfS t tu tw D σ H := Evl.s_if h h1 h2
theorem s_ifN {b : Bool} (h : EvT t σ H b) (h1 : b = true → ∀ H1, Ex H H1 → tu D σ H1) (h2 : b = false → ∀ H1, Ex H H1 → D.nx σ H1) : tIfS t tu tNext D σ H := Evl.s_if h h1 h2
theorem s_par {i j : Nat} (h : EA ts σ H [d, e]) (k : ∀ v w H1, Ex H H1 → Td H1 v d → Td H1 w e → D.nx ((σ.set i (some v)).set j (some w)) H1) : tPar i j ts D σ H := h H (Evl.Ex.refl H) _ fun vs H1 x hvs => by
  cases hvs with
  | cons h1 h2 =>
    cases h2 with
    | cons h3 h4 =>
      cases h4
      exact ⟨_, _, rfl, k _ _ H1 x h1 h3⟩
/-- for x in t, t a tuple -/
theorem s_forT {te : TE} {tb : TS} (h : ED te σ H (.tuple ds)) (Pv : Hp → Nat → L2.St → Hp → Prop) (h0 : ∀ H1, Ex H H1 → Pv H1 0 σ H1) (hk : ∀ H1 i σ' H', Pv H1 i σ' H' → Tk H1 H')
    (hs : ∀ H1, Ex H H1 → ∀ i d v σ' H', ds[i]? = some d → Pv H1 i σ' H' → Td H' v d → g v σ' H' fun σ2 H2 => tb { D with nx := Pv H1 (i + 1), ct := Pv H1 (i + 1), bk := D.nx } σ2 H2)
    (hd : ∀ H1, Ex H H1 → ∀ σ' H', Pv H1 ds.length σ' H' → D.nx σ' H') : tFor (iTup K te) g tb D σ H := by
  refine h H (Evl.Ex.refl H) _ fun v H1 x hv => ?_
  obtain ⟨a, xs, rfl, ha, hx⟩ := hv.toT
  refine ⟨a, rfl, ⟨xs, .inl (.inl ha)⟩, ?_⟩
  refine for_it (walk_tup (xs := xs)) (Pv H1) (h0 H1 x) (fun i σ' H' _ p => .inl (.inl (hk _ _ _ _ p _ _ ha))) (fun i w σ' H' H'' hi p y => ?_) fun σ' H' p => ?_
  · obtain ⟨e, hw⟩ := y
    subst e
    obtain ⟨dd, hdd, hT⟩ := hx.at' hw
    exact hs H1 x i dd w σ' _ hdd p (hT.tk (hk _ _ _ _ p))
  · rw [hx.len] at p
    exact hd H1 x σ' H' p
/-- for x, y in zip(t, u) -/
theorem s_forZ {tb : TS} {i j : Nat} (h : EA ts σ H [.tuple ds, .tuple es]) (Pv : Hp → Nat → L2.St → Hp → Prop) (h0 : ∀ H1, Ex H H1 → Pv H1 0 σ H1) (hk : ∀ H1 n σ' H', Pv H1 n σ' H' → Tk H1 H')
    (hx : ∀ H1 n σ' H' T xs, Pv H1 n σ' H' → H' T = none → Pv H1 n σ' (upd H' T (.tup xs)))
    (hs : ∀ H1, Ex H H1 → ∀ n d e v w σ' H', ds[n]? = some d → es[n]? = some e → Pv H1 n σ' H' → Td H' v d → Td H' w e → tb { D with nx := Pv H1 (n + 1), ct := Pv H1 (n + 1), bk := D.nx } ((σ'.set i (some v)).set j (some w)) H')
    (hd : ∀ H1, Ex H H1 → ∀ σ' H', Pv H1 (min ds.length es.length) σ' H' → D.nx σ' H') : tFor (RZ.iZipA K ts) (gTup K 2 (gCons (gName i) (gCons (gName j) gNil))) tb D σ H := by
  refine h H (Evl.Ex.refl H) _ fun vs H1 x hv => ?_
  cases hv with
  | cons hv hv2 =>
  cases hv2 with
  | cons hw hv3 =>
  cases hv3
  obtain ⟨a, xs, rfl, ha, hx1⟩ := hv.toT
  obtain ⟨b, ys, rfl, hb, hx2⟩ := hw.toT
  refine ⟨a, b, xs, ys, rfl, .inr ⟨.inl (.inl ha), .inl (.inl hb), ?_⟩⟩
  refine for_it (walk_zipT (xs := xs) (ys := ys) rfl) (Pv H1) (h0 H1 x) (fun i σ' H' _ p => ⟨.inl (.inl (hk _ _ _ _ p _ _ ha)), .inl (.inl (hk _ _ _ _ p _ _ hb))⟩) (fun n w σ' H' H'' hi p y => ?_) fun σ' H' p => ?_
  · obtain ⟨T, u1, u2, e1, hT, e2, f1, f2⟩ := y
    subst e1 e2
    obtain ⟨d1, hd1, hT1⟩ := hx1.at' f1
    obtain ⟨d2, hd2, hT2⟩ := hx2.at' f2
    have kk : Tk H1 (upd H' T (.tup [u1, u2])) := (hk _ _ _ _ p).trans (tk_new hT)
    refine ⟨T, [u1, u2], rfl, .inl (.inl upd_same), rfl, u1, [u2], rfl, u2, [], rfl, rfl, ?_⟩
    exact hs H1 x n d1 d2 u1 u2 σ' _ hd1 hd2 (hx _ _ _ _ _ _ p hT) (hT1.tk kk) (hT2.tk kk)
  · rw [hx1.len, hx2.len] at p
    exact hd H1 x σ' H' p
/-- for k, x in enumerate(t) -/
theorem s_forE {tb : TS} {i j : Nat} (h : EA ts σ H [.tuple ds]) (Pv : Hp → Nat → L2.St → Hp → Prop) (h0 : ∀ H1, Ex H H1 → Pv H1 0 σ H1) (hk : ∀ H1 n σ' H', Pv H1 n σ' H' → Tk H1 H')
    (hx : ∀ H1 n σ' H' T xs, Pv H1 n σ' H' → H' T = none → Pv H1 n σ' (upd H' T (.tup xs)))
    (hs : ∀ H1, Ex H H1 → ∀ n d v σ' H', ds[n]? = some d → Pv H1 n σ' H' → Td H' v d → tb { D with nx := Pv H1 (n + 1), ct := Pv H1 (n + 1), bk := D.nx } ((σ'.set i (some (.int (n : Nat)))).set j (some v)) H')
    (hd : ∀ H1, Ex H H1 → ∀ σ' H', Pv H1 ds.length σ' H' → D.nx σ' H') : tFor (iEnumT K ts) (gTup K 2 (gCons (gName i) (gCons (gName j) gNil))) tb D σ H := by
  refine h H (Evl.Ex.refl H) _ fun vs H1 x hv => ?_
  cases hv with
  | cons hv hv2 =>
  cases hv2
  obtain ⟨a, xs, rfl, ha, hx1⟩ := hv.toT
  refine ⟨a, xs, rfl, .inl (.inl ha), ?_⟩
  refine for_it (walk_enumT (xs := xs)) (Pv H1) (h0 H1 x) (fun i σ' H' _ p => .inl (.inl (hk _ _ _ _ p _ _ ha))) (fun n w σ' H' H'' hi p y => ?_) fun σ' H' p => ?_
  · obtain ⟨T, u1, u2, e1, hT, e2, f1, f2⟩ := y
    subst e1 e2
    obtain rfl : V.int (n : Nat) = u1 := Option.some.inj f1
    obtain ⟨d2, hd2, hT2⟩ := hx1.at' f2
    have kk : Tk H1 (upd H' T (.tup [V.int (n : Nat), u2])) := (hk _ _ _ _ p).trans (tk_new hT)
    refine ⟨T, [_, u2], rfl, .inl (.inl upd_same), rfl, _, [u2], rfl, u2, [], rfl, rfl, ?_⟩
    exact hs H1 x n d2 u2 σ' _ hd2 (hx _ _ _ _ _ _ p hT) (hT2.tk kk)
  · rw [hx1.len] at p
    exact hd H1 x σ' H' p
/-- for x in a list that is read -/
theorem s_forL {te : TE} {tb : TS} {a : Addr} {xs : List V} (h : ∀ Q : VK, (∀ H1, Ex H H1 → Q (.ref a) H1) → te σ H Q) (ha : H a = some (.lst xs)) (Pv : Nat → L2.St → Hp → Prop) (h0 : ∀ H1, Ex H H1 → Pv 0 σ H1) (hk : ∀ n σ' H', Pv n σ' H' → H' a = some (.lst xs))
    (hs : ∀ n v σ' H', xs[n]? = some v → Pv n σ' H' → g v σ' H' fun σ2 H2 => tb { D with nx := Pv (n + 1), ct := Pv (n + 1), bk := D.nx } σ2 H2)
    (hd : ∀ σ' H', Pv xs.length σ' H' → D.nx σ' H') : tFor (iList K te) g tb D σ H := by
  refine h _ fun H1 x => ?_
  refine ⟨a, rfl, ⟨xs, .inl (.inl (x _ _ ha))⟩, ?_⟩
  refine for_it (walk_list (xs := xs)) Pv (h0 H1 x) (fun i σ' H' _ p => .inl (.inl (hk _ _ _ p))) (fun n w σ' H' H'' hi p y => ?_) fun σ' H' p => hd σ' H' p
  obtain ⟨e, hw⟩ := y
  subst e
  exact hs n w σ' _ hw p

/-! ### one statement ahead of others -/
variable {tv : TS}
theorem q_if {b : Bool} (h : EvT t σ H b) (h1 : b = true → ∀ H1, Ex H H1 → tu { D with nx := tv D } σ H1) (h2 : b = false → ∀ H1, Ex H H1 → tv D σ H1) : tSeq (tIfS t tu tNext) tv D σ H := Evl.s_if h h1 h2
theorem q_asg {i : Nat} (h : ED te σ H d) (k : ∀ v H1, Ex H H1 → Td H1 v d → tv D (σ.set i (some v)) H1) : tSeq (tAsg te (gName i)) tv D σ H := h H (Evl.Ex.refl H) _ k
theorem q_asgL {i : Nat} (h : EL te σ H ds) (k : ∀ p xs H1, H p = none → Ex H H1 → H1 p = some (.lst xs) → TdAll H1 xs ds → tv D (σ.set i (some (.ref p))) H1) : tSeq (tAsg te (gName i)) tv D σ H := h H (Evl.Ex.refl H) _ k
theorem q_par {i j : Nat} (h : EA ts σ H [d, e]) (k : ∀ v w H1, Ex H H1 → Td H1 v d → Td H1 w e → tv D ((σ.set i (some v)).set j (some w)) H1) : tSeq (tPar i j ts) tv D σ H := s_par (D := { D with nx := tv D }) h k
theorem q_drop (h : ED te σ H d) (k : ∀ H1, Ex H H1 → tv D σ H1) : tSeq (tDrop te) tv D σ H := h H (Evl.Ex.refl H) _ fun _ H1 x _ => k H1 x
theorem q_forT {te : TE} {tb : TS} (h : ED te σ H (.tuple ds)) (Pv : Hp → Nat → L2.St → Hp → Prop) (h0 : ∀ H1, Ex H H1 → Pv H1 0 σ H1) (hk : ∀ H1 i σ' H', Pv H1 i σ' H' → Tk H1 H')
    (hs : ∀ H1, Ex H H1 → ∀ i d v σ' H', ds[i]? = some d → Pv H1 i σ' H' → Td H' v d → g v σ' H' fun σ2 H2 => tb { nx := Pv H1 (i + 1), rt := D.rt, ct := Pv H1 (i + 1), bk := tv D } σ2 H2)
    (hd : ∀ H1, Ex H H1 → ∀ σ' H', Pv H1 ds.length σ' H' → tv D σ' H') : tSeq (tFor (iTup K te) g tb) tv D σ H := s_forT (D := { D with nx := tv D }) h Pv h0 hk hs hd
theorem q_forZ {tb : TS} {i j : Nat} (h : EA ts σ H [.tuple ds, .tuple es]) (Pv : Hp → Nat → L2.St → Hp → Prop) (h0 : ∀ H1, Ex H H1 → Pv H1 0 σ H1) (hk : ∀ H1 n σ' H', Pv H1 n σ' H' → Tk H1 H')
    (hx : ∀ H1 n σ' H' T xs, Pv H1 n σ' H' → H' T = none → Pv H1 n σ' (upd H' T (.tup xs)))
    (hs : ∀ H1, Ex H H1 → ∀ n d e v w σ' H', ds[n]? = some d → es[n]? = some e → Pv H1 n σ' H' → Td H' v d → Td H' w e → tb { nx := Pv H1 (n + 1), rt := D.rt, ct := Pv H1 (n + 1), bk := tv D } ((σ'.set i (some v)).set j (some w)) H')
    (hd : ∀ H1, Ex H H1 → ∀ σ' H', Pv H1 (min ds.length es.length) σ' H' → tv D σ' H') : tSeq (tFor (RZ.iZipA K ts) (gTup K 2 (gCons (gName i) (gCons (gName j) gNil))) tb) tv D σ H := s_forZ (D := { D with nx := tv D }) h Pv h0 hk hx hs hd
theorem q_forE {tb : TS} {i j : Nat} (h : EA ts σ H [.tuple ds]) (Pv : Hp → Nat → L2.St → Hp → Prop) (h0 : ∀ H1, Ex H H1 → Pv H1 0 σ H1) (hk : ∀ H1 n σ' H', Pv H1 n σ' H' → Tk H1 H')
    (hx : ∀ H1 n σ' H' T xs, Pv H1 n σ' H' → H' T = none → Pv H1 n σ' (upd H' T (.tup xs)))
    (hs : ∀ H1, Ex H H1 → ∀ n d v σ' H', ds[n]? = some d → Pv H1 n σ' H' → Td H' v d → tb { nx := Pv H1 (n + 1), rt := D.rt, ct := Pv H1 (n + 1), bk := tv D } ((σ'.set i (some (.int (n : Nat)))).set j (some v)) H')
    (hd : ∀ H1, Ex H H1 → ∀ σ' H', Pv H1 ds.length σ' H' → tv D σ' H') : tSeq (tFor (iEnumT K ts) (gTup K 2 (gCons (gName i) (gCons (gName j) gNil))) tb) tv D σ H := s_forE (D := { D with nx := tv D }) h Pv h0 hk hx hs hd
theorem q_forL {te : TE} {tb : TS} {a : Addr} {xs : List V} (h : ∀ Q : VK, (∀ H1, Ex H H1 → Q (.ref a) H1) → te σ H Q) (ha : H a = some (.lst xs)) (Pv : Nat → L2.St → Hp → Prop) (h0 : ∀ H1, Ex H H1 → Pv 0 σ H1) (hk : ∀ n σ' H', Pv n σ' H' → H' a = some (.lst xs))
    (hs : ∀ n v σ' H', xs[n]? = some v → Pv n σ' H' → g v σ' H' fun σ2 H2 => tb { nx := Pv (n + 1), rt := D.rt, ct := Pv (n + 1), bk := tv D } σ2 H2)
    (hd : ∀ σ' H', Pv xs.length σ' H' → tv D σ' H') : tSeq (tFor (iList K te) g tb) tv D σ H := s_forL (D := { D with nx := tv D }) h ha Pv h0 hk hs hd

/-! ### comprehensions -/
theorem filter_next {α β : Type} (b : α → Bool) (f : α → β) {ds : List α} {i : Nat} {d : α} (h : ds[i]? = some d) : ((ds.take (i + 1)).filter b).map f = ((ds.take i).filter b).map f ++ if b d = true then [f d] else [] := by
  rw [List.take_succ, h]
  show (((ds.take i) ++ [d]).filter b).map f = _
  rw [List.filter_append, List.map_append]
  congr 1
  by_cases hb : b d = true
  · rw [List.filter_cons_of_pos hb, if_pos hb] <;> rfl
  · rw [List.filter_cons_of_neg hb, if_neg hb] <;> rfl
theorem filter_len {α β : Type} (b : α → Bool) (f : α → β) (ds : List α) (i : Nat) : (((ds.take i).filter b).map f).length ≤ i := by
  rw [List.length_map]
  exact Nat.le_trans (List.length_filter_le ..) (by rw [List.length_take]; exact Nat.min_le_left _ _)
/-- one turn of a comprehension, from behind its target -/
theorem lc_turn {K : PySem.W.Frag} {α : Type} {tt : TT} {te : TE} {σ2 : L2.St} {H0 Hc : Hp} {L : Addr} {b : α → Bool} {f : α → PyData} {ds : List α} {n : Nat} {d : α} (hL : H0 L = none) (ex : Ex H0 Hc) {acc : List V} (hacc : Hc L = some (.lst acc)) (hT : TdAll Hc acc (((ds.take n).filter b).map f))
    (hd : ds[n]? = some d) (hl : ds.length ≤ sizeLine) (ht : EvT tt σ2 Hc (b d)) (he : b d = true → ED te σ2 Hc (f d)) :
    tt σ2 Hc fun c H3 => if c = true then te σ2 H3 fun y H4 => ∃ acc, H4 L = some (.lst acc) ∧ acc.length < sizeLine ∧ (fun H => Ex H0 H ∧ ∃ acc, H L = some (.lst acc) ∧ TdAll H acc (((ds.take (n + 1)).filter b).map f)) (upd H4 L (.lst (acc ++ [y])))
      else (fun H => Ex H0 H ∧ ∃ acc, H L = some (.lst acc) ∧ TdAll H acc (((ds.take (n + 1)).filter b).map f)) H3 := by
  have hn : n < ds.length := (List.getElem?_eq_some_iff.mp hd).1
  have hlen : acc.length < sizeLine := by
    have h1 := hT.len
    have h2 := filter_len b f ds n
    omega
  refine ht Hc (Evl.Ex.refl Hc) _ fun H3 x3 => ?_
  rw [filter_next b f hd]
  by_cases hb : b d = true
  · rw [if_pos hb, if_pos hb]
    refine he hb H3 x3 _ fun y H4 x4 hy => ?_
    have h4 : H4 L = some (.lst acc) := x4 _ _ (x3 _ _ hacc)
    have kk : Tk H4 (upd H4 L (.lst (acc ++ [y]))) := tk_put h4 fun xs e => by cases e
    exact ⟨acc, h4, hlen, Evl.Ex.mut ((ex.trans x3).trans x4) hL, acc ++ [y], upd_same, (((hT.ex x3).ex x4).tk kk).snoc (hy.tk kk)⟩
  · rw [if_neg hb, if_neg hb, List.append_nil]
    exact ⟨ex.trans x3, acc, x3 _ _ hacc, hT.ex x3⟩
/-- [f x for x in t if b x], t a tuple -/
theorem el_lcG {α : Type} {xs : List α} {te0 : TE} {tt : TT} {te : TE} {i : Nat} (enc : α → PyData) (b : α → Bool) (f : α → PyData) (h : ED te0 σ H (.tuple (xs.map enc))) (hl : xs.length ≤ sizeLine) (hw : ∀ v, wipe ((wipe σ [i]).set i (some v)) [i] = wipe σ [i])
    (ht : ∀ d v H1, d ∈ xs → Ex H H1 → Td H1 v (enc d) → EvT tt ((wipe σ [i]).set i (some v)) H1 (b d))
    (he : ∀ d v H1, d ∈ xs → b d = true → Ex H H1 → Td H1 v (enc d) → ED te ((wipe σ [i]).set i (some v)) H1 (f d)) : EL (tLc (iTup K te0) (gName i) tt te [i]) σ H ((xs.filter b).map f) := fun H1 x Q q => by
  refine h H1 x _ fun v H2 x2 hv => ?_
  obtain ⟨a, ys, rfl, ha, hx⟩ := hv.toT
  refine ⟨a, rfl, ⟨ys, .inl (.inl ha)⟩, fun L hL => ?_⟩
  have hyl : ys.length = xs.length := by rw [hx.len, List.length_map]
  refine lc_it (walk_tup (xs := ys)) (fun n Hc => Ex H2 Hc ∧ ∃ acc, Hc L = some (.lst acc) ∧ TdAll Hc acc (((xs.take n).filter b).map f)) ⟨Evl.Ex.new hL, [], upd_same, .nil⟩ (fun n Hc _ p => .inl (.inl (p.1 _ _ ha))) (fun n w Hc Hc' hi p y => ?_) fun Hc p => ?_
  · obtain ⟨e, hw2⟩ := y
    subst e
    obtain ⟨ex, acc, hacc, hT⟩ := p
    obtain ⟨d0, hd0, hTd⟩ := hx.at' hw2
    rw [List.getElem?_map, Option.map_eq_some_iff] at hd0
    obtain ⟨d, hd, rfl⟩ := hd0
    exact ⟨hw w, lc_turn (K := K) hL ex hacc hT hd hl (ht d w _ (List.mem_of_getElem? hd) ((x.trans x2).trans ex) (hTd.ex ex)) fun hb => he d w _ (List.mem_of_getElem? hd) hb ((x.trans x2).trans ex) (hTd.ex ex)⟩
  · obtain ⟨ex, acc, hacc, hT⟩ := p
    rw [hyl, List.take_length] at hT
    exact q L acc Hc (Evl.fresh_back x2 hL) (x2.trans ex) hacc hT
theorem el_lc {te0 : TE} {tt : TT} {te : TE} {i : Nat} (b : PyData → Bool) (f : PyData → PyData) (h : ED te0 σ H (.tuple ds)) (hl : ds.length ≤ sizeLine) (hw : ∀ v, wipe ((wipe σ [i]).set i (some v)) [i] = wipe σ [i])
    (ht : ∀ d v H1, d ∈ ds → Ex H H1 → Td H1 v d → EvT tt ((wipe σ [i]).set i (some v)) H1 (b d))
    (he : ∀ d v H1, d ∈ ds → b d = true → Ex H H1 → Td H1 v d → ED te ((wipe σ [i]).set i (some v)) H1 (f d)) : EL (tLc (iTup K te0) (gName i) tt te [i]) σ H ((ds.filter b).map f) :=
  el_lcG (fun d => d) b f (by rw [List.map_id']; exact h) hl hw ht he
/-- .., a list that is read -/
theorem el_lcLG {α : Type} {ws : List α} {te0 : TE} {tt : TT} {te : TE} {i : Nat} (enc : α → PyData) (b : α → Bool) (f : α → PyData) {a : Addr} {xs : List V} (h : Evl.Ev te0 σ H (.ref a)) (ha : H a = some (.lst xs)) (hx : TdAll H xs (ws.map enc)) (hl : ws.length ≤ sizeLine) (hw : ∀ v, wipe ((wipe σ [i]).set i (some v)) [i] = wipe σ [i])
    (ht : ∀ d v H1, d ∈ ws → Ex H H1 → Td H1 v (enc d) → EvT tt ((wipe σ [i]).set i (some v)) H1 (b d))
    (he : ∀ d v H1, d ∈ ws → b d = true → Ex H H1 → Td H1 v (enc d) → ED te ((wipe σ [i]).set i (some v)) H1 (f d)) : EL (tLc (iList K te0) (gName i) tt te [i]) σ H ((ws.filter b).map f) := fun H1 x Q q => by
  refine h H1 x _ fun H2 x2 => ?_
  have ha2 : H2 a = some (.lst xs) := x2 _ _ (x _ _ ha)
  have hx2 : TdAll H2 xs (ws.map enc) := (hx.ex x).ex x2
  have hyl : xs.length = ws.length := by rw [hx.len, List.length_map]
  refine ⟨a, rfl, ⟨xs, .inl (.inl ha2)⟩, fun L hL => ?_⟩
  refine lc_it (walk_list (xs := xs)) (fun n Hc => Ex H2 Hc ∧ ∃ acc, Hc L = some (.lst acc) ∧ TdAll Hc acc (((ws.take n).filter b).map f)) ⟨Evl.Ex.new hL, [], upd_same, .nil⟩ (fun n Hc _ p => .inl (.inl (p.1 _ _ ha2))) (fun n w Hc Hc' hi p y => ?_) fun Hc p => ?_
  · obtain ⟨e, hw2⟩ := y
    subst e
    obtain ⟨ex, acc, hacc, hT⟩ := p
    obtain ⟨d0, hd0, hTd⟩ := hx2.at' hw2
    rw [List.getElem?_map, Option.map_eq_some_iff] at hd0
    obtain ⟨d, hd, rfl⟩ := hd0
    exact ⟨hw w, lc_turn (K := K) hL ex hacc hT hd hl (ht d w _ (List.mem_of_getElem? hd) ((x.trans x2).trans ex) (hTd.ex ex)) fun hb => he d w _ (List.mem_of_getElem? hd) hb ((x.trans x2).trans ex) (hTd.ex ex)⟩
  · obtain ⟨ex, acc, hacc, hT⟩ := p
    rw [hyl, List.take_length] at hT
    exact q L acc Hc (Evl.fresh_back x2 hL) (x2.trans ex) hacc hT
/-- [1 for x, y in zip(t, u) if b x y] -/
theorem el_lcZ {α : Type} {as bs : List α} {tt : TT} {te : TE} {i j : Nat} (enc : α → PyData) (b : α × α → Bool) (f : α × α → PyData) (h : EA ts σ H [.tuple (as.map enc), .tuple (bs.map enc)]) (hl : (as.zip bs).length ≤ sizeLine) (hw : ∀ v w, wipe (((wipe σ [i, j]).set i (some v)).set j (some w)) [i, j] = wipe σ [i, j])
    (ht : ∀ p v w H1, p ∈ as.zip bs → Ex H H1 → Td H1 v (enc p.1) → Td H1 w (enc p.2) → EvT tt (((wipe σ [i, j]).set i (some v)).set j (some w)) H1 (b p))
    (he : ∀ p v w H1, p ∈ as.zip bs → b p = true → Ex H H1 → Td H1 v (enc p.1) → Td H1 w (enc p.2) → ED te (((wipe σ [i, j]).set i (some v)).set j (some w)) H1 (f p)) :
    EL (tLc (RZ.iZipA K ts) (gTup K 2 (gCons (gName i) (gCons (gName j) gNil))) tt te [i, j]) σ H (((as.zip bs).filter b).map f) := fun H1 x Q q => by
  refine h H1 x _ fun vs H2 x2 hv => ?_
  cases hv with
  | cons hv hv2 =>
  cases hv2 with
  | cons hw0 hv3 =>
  cases hv3
  obtain ⟨a, xs, rfl, ha, hx1⟩ := hv.toT
  obtain ⟨c, ys, rfl, hc, hx2⟩ := hw0.toT
  have h1l : xs.length = as.length := by rw [hx1.len, List.length_map]
  have h2l : ys.length = bs.length := by rw [hx2.len, List.length_map]
  refine ⟨a, c, xs, ys, rfl, .inr ⟨.inl (.inl ha), .inl (.inl hc), fun L hL => ?_⟩⟩
  refine lc_it (walk_zipT (xs := xs) (ys := ys) rfl) (fun n Hc => Ex H2 Hc ∧ ∃ acc, Hc L = some (.lst acc) ∧ TdAll Hc acc ((((as.zip bs).take n).filter b).map f)) ⟨Evl.Ex.new hL, [], upd_same, .nil⟩ (fun n Hc _ p => ⟨.inl (.inl (p.1 _ _ ha)), .inl (.inl (p.1 _ _ hc))⟩) (fun n w Hc Hc' hi p y => ?_) fun Hc p => ?_
  · obtain ⟨T, u1, u2, e1, hT', e2, f1, f2⟩ := y
    subst e1 e2
    obtain ⟨ex, acc, hacc, hT⟩ := p
    obtain ⟨d1, hd1, hT1⟩ := hx1.at' f1
    obtain ⟨d2, hd2, hT2⟩ := hx2.at' f2
    rw [List.getElem?_map, Option.map_eq_some_iff] at hd1 hd2
    obtain ⟨a1, ha1, rfl⟩ := hd1
    obtain ⟨b1, hb1, rfl⟩ := hd2
    have hd : (as.zip bs)[n]? = some (a1, b1) := by rw [List.getElem?_zip_eq_some]; exact ⟨ha1, hb1⟩
    have xn : Ex Hc (upd Hc T (.tup [u1, u2])) := Evl.Ex.new hT'
    refine ⟨T, [u1, u2], rfl, .inl (.inl upd_same), rfl, u1, [u2], rfl, u2, [], rfl, rfl, hw u1 u2, ?_⟩
    exact lc_turn (K := K) hL (ex.trans xn) (xn _ _ hacc) (hT.ex xn) hd hl (ht (a1, b1) u1 u2 _ (List.mem_of_getElem? hd) (((x.trans x2).trans ex).trans xn) ((hT1.ex ex).ex xn) ((hT2.ex ex).ex xn))
      fun hb => he (a1, b1) u1 u2 _ (List.mem_of_getElem? hd) hb (((x.trans x2).trans ex).trans xn) ((hT1.ex ex).ex xn) ((hT2.ex ex).ex xn)
  · obtain ⟨ex, acc, hacc, hT⟩ := p
    rw [h1l, h2l, ← List.length_zip, List.take_length] at hT
    exact q L acc Hc (Evl.fresh_back x2 hL) (x2.trans ex) hacc hT
/-- [..] == [], [..] != [] -/
theorem ed_eqNil (h : EL ta σ H es) (hs : SeqAt.shaped (.list es) = true) : ED (tOp (rEqD K) ta (tLst tNil)) σ H (.bool es.isEmpty) := fun H1 x Q q =>
  h H1 x _ fun p xs H2 hp x2 h2 hT => ⟨by show (0 : Nat) ≤ _; exact Nat.zero_le _, fun r hr => by
    refine ⟨.list es, .list [], .lst (.inl (.inl (Evl.Ex.new hr _ _ h2))) (TdAll.dp _ _ (hT.ex (Evl.Ex.new hr))), .lst (.inl (.inl upd_same)) .nil, hs, rfl, ?_⟩
    have e : PyData.eqv (.list es) (.list []) = es.isEmpty := by cases es <;> simp [PyData.eqv, PyData.eqvAll]
    rw [e]
    exact q _ _ (x2.trans (Evl.Ex.new hr)) (.bl _)⟩
theorem ed_neNil (h : EL ta σ H es) (hs : SeqAt.shaped (.list es) = true) : ED (tOp (rNeD K) ta (tLst tNil)) σ H (.bool (!es.isEmpty)) := fun H1 x Q q =>
  h H1 x _ fun p xs H2 hp x2 h2 hT => ⟨by show (0 : Nat) ≤ _; exact Nat.zero_le _, fun r hr => by
    refine ⟨.list es, .list [], .lst (.inl (.inl (Evl.Ex.new hr _ _ h2))) (TdAll.dp _ _ (hT.ex (Evl.Ex.new hr))), .lst (.inl (.inl upd_same)) .nil, hs, rfl, ?_⟩
    have e : PyData.eqv (.list es) (.list []) = es.isEmpty := by cases es <;> simp [PyData.eqv, PyData.eqvAll]
    rw [e]
    exact q _ _ (x2.trans (Evl.Ex.new hr)) (.bl _)⟩
theorem isEmpty_filter {α β : Type} (b : α → Bool) (f : α → β) : ∀ ds : List α, ((ds.filter b).map f).isEmpty = !ds.any b
  | [] => rfl
  | d :: ds => by
    by_cases hb : b d = true
    · rw [List.filter_cons_of_pos hb, List.any_cons, hb] <;> rfl
    · rw [List.filter_cons_of_neg hb, isEmpty_filter b f ds, List.any_cons, Bool.eq_false_iff.mpr hb, Bool.false_or]
theorem ones_shaped {α : Type} (ds : List α) : SeqAt.shaped (.list (ds.map fun _ => PyData.int 1)) = true := by
    have h : ∀ ds : List α, PyData.canLayAll0 (ds.map fun _ => PyData.int 1) = true ∧ PyData.depthAll (ds.map fun _ => PyData.int 1) = 0 := fun ds => by
      induction ds with
      | nil => exact ⟨rfl, rfl⟩
      | cons d ds ih => exact ⟨by simp [PyData.canLayAll0, PyData.canLay0, ih.1], by simp [PyData.depthAll, PyData.depth, ih.2]⟩
    unfold SeqAt.shaped
    rw [Bool.and_eq_true]
    refine ⟨by simp only [PyData.canLay0]; exact (h ds).1, decide_eq_true ?_⟩
    have h2 := (h ds).2
    simp only [PyData.depth]
    omega
end
end Isl
end
section
set_option Elab.async false
set_option linter.all false
set_option maxRecDepth 100000
set_option maxHeartbeats 4000000
/-! sets of nested tuples over the layer -/
namespace Isl
open PySem PySem.Spec PyProof.Rows L2
open Evl (Ex EvT)

mutual
/-- whole numbers and tuples of such -/
def pureT : PyData → Bool
  | .int _ => true
  | .tuple ds => pureTs ds
  | _ => false
def pureTs : List PyData → Bool
  | [] => true
  | d :: ds => pureT d && pureTs ds
end
mutual
def nkD : PyData → NestedKey
  | .int i => .num i
  | .tuple ds => .tup (nkDs ds)
  | _ => .none
def nkDs : List PyData → List NestedKey
  | [] => []
  | d :: ds => nkD d :: nkDs ds
end
mutual
theorem nk_inj : ∀ (d e : PyData), pureT d = true → pureT e = true → nkD d = nkD e → d = e
  | .int i, e, _, he, h => by
    cases e with
    | int j => rw [nkD, nkD] at h; cases h; rfl
    | tuple es => rw [nkD, nkD] at h; cases h
    | _ => simp [pureT] at he
  | .tuple ds, e, hd, he, h => by
    cases e with
    | int j => rw [nkD, nkD] at h; cases h
    | tuple es =>
      rw [nkD, nkD] at h
      rw [pureT] at hd he
      rw [nks_inj ds es hd he (NestedKey.tup.inj h)]
    | _ => simp [pureT] at he
  | .none, _, hd, _, _ => by simp [pureT] at hd
  | .bool _, _, hd, _, _ => by simp [pureT] at hd
  | .str _, _, hd, _, _ => by simp [pureT] at hd
  | .list _, _, hd, _, _ => by simp [pureT] at hd
  | .dict _, _, hd, _, _ => by simp [pureT] at hd
theorem nks_inj : ∀ (ds es : List PyData), pureTs ds = true → pureTs es = true → nkDs ds = nkDs es → ds = es
  | [], [], _, _, _ => rfl
  | [], _ :: _, _, _, h => by rw [nkDs, nkDs] at h; cases h
  | _ :: _, [], _, _, h => by rw [nkDs, nkDs] at h; cases h
  | d :: ds, e :: es, hd, he, h => by
    rw [nkDs, nkDs] at h
    rw [pureTs, Bool.and_eq_true] at hd he
    obtain ⟨h1, h2⟩ := List.cons.inj h
    rw [nk_inj d e hd.1 he.1 h1, nks_inj ds es hd.2 he.2 h2]
end
mutual
theorem nk_num : ∀ d : PyData, pureT d = true → numK (nkD d) = true
  | .int _, _ => rfl
  | .tuple ds, h => by rw [nkD, numK]; rw [pureT] at h; exact nks_num ds h
  | .none, hd => by simp [pureT] at hd
  | .bool _, hd => by simp [pureT] at hd
  | .str _, hd => by simp [pureT] at hd
  | .list _, hd => by simp [pureT] at hd
  | .dict _, hd => by simp [pureT] at hd
theorem nks_num : ∀ ds : List PyData, pureTs ds = true → numKs (nkDs ds) = true
  | [], _ => rfl
  | d :: ds, h => by
    rw [pureTs, Bool.and_eq_true] at h
    rw [nkDs, numKs, nk_num d h.1, nks_num ds h.2] <;> rfl
end
mutual
theorem nk_depth : ∀ d : PyData, pureT d = true → (nkD d).depth ≤ d.depth
  | .int _, _ => Nat.le_refl _
  | .tuple ds, h => by
    rw [pureT] at h
    have := nks_depth ds h
    simp only [nkD, NestedKey.depth, PyData.depth]
    omega
  | .none, hd => by simp [pureT] at hd
  | .bool _, hd => by simp [pureT] at hd
  | .str _, hd => by simp [pureT] at hd
  | .list _, hd => by simp [pureT] at hd
  | .dict _, hd => by simp [pureT] at hd
theorem nks_depth : ∀ ds : List PyData, pureTs ds = true → NestedKey.depthAll (nkDs ds) ≤ PyData.depthAll ds
  | [], _ => Nat.le_refl _
  | d :: ds, h => by
    rw [pureTs, Bool.and_eq_true] at h
    have h1 := nk_depth d h.1
    have h2 := nks_depth ds h.2
    simp only [nkDs, NestedKey.depthAll, PyData.depthAll]
    omega
end
section
variable {X : Cx} {pins : List (Addr × Obj)} {σ : L2.St} {H : Hp} {s : Shared}
mutual
theorem nk_is (I : Inv X pins σ H s) : ∀ (d : PyData) (v : V) (u : Value), pureT d = true → Td H v d → RelV v u → NestedIs s.heap (nkD d) u
  | .int i, v, u, _, h, r => by
    cases h
    obtain ⟨t, rfl⟩ := r
    exact .int i t
  | .tuple ds, v, u, hp, h, r => by
    cases h with
    | tup h1 h2 =>
      cases r
      rw [pureT] at hp
      obtain ⟨its, rv, ⟨o, ho, hc, n, hd⟩, _⟩ := I.tuple (show SqT X.K H _ _ from .inl (.inl h1))
      exact .tup ho hc hd (nks_is I ds _ _ hp h2 (by simpa using rv))
  | .none, _, _, hd, _, _ => by simp [pureT] at hd
  | .bool _, _, _, hd, _, _ => by simp [pureT] at hd
  | .str _, _, _, hd, _, _ => by simp [pureT] at hd
  | .list _, _, _, hd, _, _ => by simp [pureT] at hd
  | .dict _, _, _, hd, _, _ => by simp [pureT] at hd
theorem nks_is (I : Inv X pins σ H s) : ∀ (ds : List PyData) (vs : List V) (us : List Value), pureTs ds = true → TdAll H vs ds → Vals vs us → NestedAll s.heap (nkDs ds) us
  | [], vs, us, _, h, r => by
    cases h
    cases r
    exact .nil
  | d :: ds, vs, us, hp, h, r => by
    rw [pureTs, Bool.and_eq_true] at hp
    cases h with
    | cons h1 h2 =>
      cases r with
      | cons r1 r2 => exact .cons (nk_is I d _ _ hp.1 h1 r1) (nks_is I ds _ _ hp.2 h2 r2)
end
/-- d is a key: of whole numbers and tuples, not deep -/
def keyT (d : PyData) : Bool := pureT d && decide (d.depth ≤ 7)
theorem keyT.is {d : PyData} {b : Addr} (I : Inv X pins σ H s) (k : keyT d = true) (h : Td H (.ref b) d) : IsN s.heap (nkD d) b := by
  unfold keyT at k
  rw [Bool.and_eq_true, decide_eq_true_eq] at k
  exact ⟨nk_is I d _ _ k.1 h rfl, Nat.le_trans (nk_depth d k.1) k.2, nk_num d k.1⟩
end

/-! ### the set -/
abbrev AD := List (Addr × PyData)
abbrev nkL (L : AD) : NL := L.map fun p => (p.1, nkD p.2)
/-- the set at a, without the tuples themselves -/
def SetN0 (w : World) (h : Heap) (a : Addr) (L : NL) : Prop :=
  ∃ (es : Array (Int × Value)) (ep : Nat) (t : SetTable), (∃ o, h.get? a = some o ∧ o.ExactSet ∧ o.data = .set es ep t) ∧ es.toList = rowsN w L ∧ TW t (hashN w L) ∧ (keysN L).Nodup ∧ t.plain = true ∧
    (w.params.followText "set-order" = true ∨ t.led = true) ∧ L.length * 5 < t.mask * 3
def SetA (w : World) (a : Addr) (L : AD) : HO := .ext fun h => ∃ LN : NL, LN.Perm (nkL L) ∧ SetN0 w h a LN
theorem SetN.t0 {w : World} {h : Heap} {a : Addr} {L : NL} {es : Array (Int × Value)} {ep : Nat} {t : SetTable} (R : SetN w h a L es ep t) : SetN0 w h a L := ⟨es, ep, t, R.ob, R.rows, R.tab, R.nd, R.plain, R.led, R.room⟩
theorem SetN0.full {w : World} {h : Heap} {a : Addr} {L : NL} (R : SetN0 w h a L) (ht : ∀ p ∈ L, IsN h p.2 p.1) : ∃ es ep t, SetN w h a L es ep t := by
  obtain ⟨es, ep, t, h1, h2, h3, h4, h5, h6, h7⟩ := R
  exact ⟨es, ep, t, h1, h2, h3, h4, ht, h5, h6, h7⟩
theorem setA_new {P : Program} {w : World} {H : Hp} {h : Heap} {a : Addr} {L : AD} {LN : NL} (R : SetN0 w h a LN) (p : LN.Perm (nkL L)) : ObjOk P w H h a (SetA w a L) := by
  have ⟨es, ep, t, ⟨o, ho, r⟩, q⟩ := R
  refine ⟨⟨LN, p, R⟩, ⟨o, ho⟩, fun h1 h2 x k => ?_⟩
  obtain ⟨LN', p', es', ep', t', ⟨o', ho', r'⟩, q'⟩ := x
  exact ⟨LN', p', es', ep', t', ⟨o', k o' ho', r'⟩, q'⟩
/-- each element is a key, and stands -/
def Els (H : Hp) (L : AD) : Prop := ∀ p ∈ L, Td H (.ref p.1) p.2 ∧ keyT p.2 = true
theorem Els.ex {H H' : Hp} {L : AD} (h : Els H L) (e : Ex H H') : Els H' L := fun p hp => ⟨(h p hp).1.ex e, (h p hp).2⟩
theorem Els.tk {H H' : Hp} {L : AD} (h : Els H L) (e : Tk H H') : Els H' L := fun p hp => ⟨(h p hp).1.tk e, (h p hp).2⟩
def keysA (L : AD) : List NestedKey := L.map fun p => nkD p.2
theorem keys_nkL (L : AD) : keysN (nkL L) = keysA L := by
  unfold keysN nkL keysA
  rw [List.map_map] <;> rfl
section
variable {X : Cx} {pins : List (Addr × Obj)} {σ : L2.St} {H : Hp} {s : Shared} {a : Addr} {L : AD}
theorem setA_get (I : Inv X pins σ H s) (ha : H a = some (SetA X.w a L)) (he : Els H L) : ∃ LN es ep t, LN.Perm (nkL L) ∧ SetN X.w s.heap a LN es ep t := by
  obtain ⟨LN, p, R⟩ := (I.hok a _ ha).1
  obtain ⟨es, ep, t, R1⟩ := R.full fun q hq => by
    obtain ⟨r, hr, e⟩ := List.mem_map.mp (p.mem_iff.mp hq)
    rw [← e]
    exact (he r hr).2 |> fun k => keyT.is I k (he r hr).1
  exact ⟨LN, es, ep, t, p, R1⟩
theorem vals_refsA : ∀ (ks : AD), Vals (ks.map fun p => V.ref p.1) (ks.map fun p => Value.ref p.1)
  | [] => .nil
  | p :: ks => .cons rfl (vals_refsA ks)
theorem refs_valsA : ∀ {ks : AD} {us : List Value}, Vals (ks.map fun p => V.ref p.1) us → us = ks.map fun p => Value.ref p.1
  | [], _, .nil => rfl
  | p :: ks, _, .cons r t => by
    cases r
    rw [refs_valsA t] <;> rfl
/-- set(xs), xs a list or a tuple of tuples -/
def rSetA (K : PySem.W.Frag) (w : World) : List V → Hp → VK → Prop := fun xs H Q => ∃ (l : Addr) (ks : AD), xs = [V.ref l] ∧ (SqL K H l (ks.map fun p => V.ref p.1) ∨ SqT K H l (ks.map fun p => V.ref p.1)) ∧ Els H ks ∧ ks.length ≤ 1228 ∧
  ∀ a L, H a = none → (∀ p ∈ L, p ∈ ks) → (∀ p ∈ ks, nkD p.2 ∈ keysA L) → (keysA L).Nodup → Q (.ref a) (upd H a (SetA w a L))
theorem sub_map {ks : AD} : ∀ {LN : NL}, (∀ p ∈ LN, p ∈ nkL ks) → ∃ L : AD, nkL L = LN ∧ ∀ p ∈ L, p ∈ ks
  | [], _ => ⟨[], rfl, fun p hp => (by cases hp)⟩
  | q :: LN, h => by
    obtain ⟨L, e, hs⟩ := sub_map (LN := LN) fun p hp => h p (List.mem_cons_of_mem _ hp)
    obtain ⟨r, hr, er⟩ := List.mem_map.mp (h q List.mem_cons_self)
    refine ⟨r :: L, by rw [← e, ← er] <;> rfl, fun p hp => ?_⟩
    rcases List.mem_cons.mp hp with z | z
    · rw [z]; exact hr
    · exact hs p z
theorem cr_setA (hc : X.calm = true) (hu : X.A.units + 64 < cLine) : CallR X (.type "set") (rSetA X.K X.w) := by
  intro pins s σ H xs us Q I r h
  obtain ⟨l, ks, rfl, hl, hk, hf, q⟩ := h
  rw [Vals.ref1 r]
  have hn : H s.heap.objs.size = none := I.hok.fresh (Nat.le_refl _)
  have hks : ∀ p ∈ nkL ks, IsN s.heap p.2 p.1 := fun p hp => by
    obtain ⟨r, hr, e⟩ := List.mem_map.mp hp
    rw [← e]
    exact keyT.is I (hk r hr).2 (hk r hr).1
  have go : ∀ its : List Value, Vals (ks.map fun p => V.ref p.1) its → (s.heap.IsList l its.toArray ∨ s.heap.IsTuple l its.toArray) → wpAny (model X.prog X.w) X.A (call (.type "set") [.ref l]) (EP X pins σ Q) X.xe s := fun its rv hl => by
    refine call_setN (nkL ks) (I.ok.hd hc) hl (by simp only [List.toList_toArray]; rw [refs_valsA rv, List.map_map] <;> rfl) hks (by rw [List.length_map]; exact hf) (by omega) fun h' tk LN es ep t R g k => ?_
    obtain ⟨L, eL, hs⟩ := sub_map (ks := ks) (LN := LN) fun p hp => List.mem_of_mem_take (g.sub p hp)
    subst eL
    refine ⟨.ref s.heap.objs.size, upd H s.heap.objs.size (SetA X.w s.heap.objs.size L), I.laid (t' := tk) k (Nat.le_refl _) (setA_new R.t0 (List.Perm.refl _)), rfl, q _ L hn hs (fun p hp => ?_) ?_⟩
    · have h1 := g.all (p.1, nkD p.2) (by rw [List.take_length]; exact List.mem_map.mpr ⟨p, hp, rfl⟩)
      rw [keys_nkL] at h1
      exact h1
    · have h1 := R.nd
      rw [keys_nkL] at h1
      exact h1
  rcases hl with hl | hl
  · obtain ⟨its, rv, pl, hz⟩ := I.list hl
    exact go its rv (.inl pl.isList)
  · obtain ⟨its, rv, pl, hz⟩ := I.tuple hl
    exact go its rv (.inr pl)
/-- set() -/
def rSetA0 (w : World) : List V → Hp → VK → Prop := fun xs H Q => xs = [] ∧ ∀ p, H p = none → Q (.ref p) (upd H p (SetA w p []))
theorem cr_setA0 : CallR X (.type "set") (rSetA0 X.w) := by
  intro pins s σ H xs us Q I r h
  obtain ⟨rfl, q⟩ := h
  cases r
  refine setR_new fun _ => ?_
  have R : SetN X.w (s.heap.push { cls := .type "set", dict := none, data := .set #[] 0 (.fresh 0 0 (!X.w.params.followText "set-order")) }) s.heap.objs.size [] #[] 0 (.fresh 0 0 (!X.w.params.followText "set-order")) := setN_new (Heap.get?_push_size _ rfl)
  exact ⟨.ref _, upd H s.heap.objs.size (SetA X.w s.heap.objs.size []), I.laid (t' := s.toks) (fun b u e => Heap.get?_push_of_some _ e) (Nat.le_refl _) (setA_new R.t0 (List.Perm.refl _)), rfl, q _ (I.hok.fresh (Nat.le_refl _))⟩
/-- found.add(t) -/
def rAddA (w : World) : V → List V → Hp → VK → Prop := fun x xs H Q => ∃ (a b : Addr) (d : PyData) (L : AD), x = V.ref a ∧ xs = [V.ref b] ∧ H a = some (SetA w a L) ∧ Els H L ∧ Td H (.ref b) d ∧ keyT d = true ∧ L.length + 1 ≤ 1228 ∧
  Q .non (upd H a (SetA w a (if nkD d ∈ keysA L then L else (b, d) :: L)))
theorem call_addN {A : Around} {E : Value → Shared → Prop} {P : Program} {w : World} {LN : NL} {es : Array (Int × Value)} {ep : Nat} {t : SetTable} {b : Addr} {k : NestedKey} (R : SetN w s.heap a LN es ep t) (hx : IsN s.heap k b) (hu : A.units + 16 < cLine) (hfew : LN.length + 1 ≤ 1228) {Q : Value → Shared → Prop}
    (hQ : ∀ h' tk L' es' ep' t', Heap.SameBut a s.heap h' → SetN w h' a L' es' ep' t' → (k ∈ keysN LN → L' = LN) → (k ∉ keysN LN → L'.Perm ((b, k) :: LN)) → Q .none { s with heap := h', toks := tk }) :
    wpAny (model P w) A (call (.builtin "set.add") [.ref a, .ref b]) Q E s := by
  obtain ⟨o, ho, hex, hd⟩ := R.ob
  have hty : s.TypeIs (.ref a) "set" := ⟨o, ho, hex.1⟩
  refine wpAny_call_entry F.slot_set_add hty F.entry_set_add ?_ (F.args_set_add_2 _ _)
  unfold Builtin.«set.add» Builtin.Frozenset.oneOther
  simp only [List.isEmpty_nil, bind_assoc]
  unfold Builtin.Frozenset.addrOf setAdd
  refine wpAny_bind (wpAny_pure ?_)
  try dsimp only
  refine wpAny_bind (wpAny_pure ?_)
  try dsimp only
  refine wpAny_bind ?_
  refine wpAny_holding ?_
  refine wpAny_bind ((nestedKind P w).pyHash (by show _ + 8 < cLine; first | exact (by omega : A.units + 8 < cLine) | (simp; omega)) ⟨hx.it, Nat.le_succ_of_le hx.dp⟩ ?_)
  refine add_set (s := { s with toks := s.toks + (nestedKind P w).draws k }) R hx (by first | exact (by omega : A.units + 8 < cLine) | (simp; omega)) hfew fun b' h' L' es' ep' t' sb R' c1 c2 => ?_
  exact wpAny_pure ⟨_, rfl, hQ h' _ L' es' ep' t' sb R' c1 c2⟩
theorem mt_addA (hu : X.A.units + 64 < cLine) : MtR X "set.add" (rAddA X.w) := by
  intro pins s σ H x xs v us Q I rx rxs h
  obtain ⟨a, b, d, L, rfl, rfl, ha, he, hb, hk, hfew, q⟩ := h
  cases rx
  cases rxs with
  | cons ry rt =>
    cases rt
    cases ry
    obtain ⟨LN, es, ep, t, pm, R⟩ := setA_get I ha he
    have hl : LN.length = L.length := by rw [pm.length_eq, List.length_map]
    refine call_addN R (keyT.is I hk hb) (by omega) (by omega) fun h' tk L' es' ep' t' sb R' c1 c2 => ?_
    have hke : ∀ k, k ∈ keysN LN ↔ k ∈ keysA L := fun k => by
      rw [← keys_nkL]
      exact (pm.map (·.2)).mem_iff
    have he' : ∃ u, h'.get? a = some u := by
      obtain ⟨o, ho, _⟩ := R'.ob
      exact ⟨o, ho⟩
    have pm' : L'.Perm (nkL (if nkD d ∈ keysA L then L else (b, d) :: L)) := by
      by_cases hm : nkD d ∈ keysA L
      · rw [if_pos hm, c1 ((hke _).mpr hm)]
        exact pm
      · rw [if_neg hm]
        exact (c2 fun z => hm ((hke _).mp z)).trans (pm.cons _)
    exact ⟨.non, upd H a (SetA X.w a (if nkD d ∈ keysA L then L else (b, d) :: L)), I.write (e := a) (t' := tk) (by rw [ha]; trivial) (.inl rfl) (fun c u hc hu => (sb.2 c hc).trans hu) he' (setA_new R'.t0 pm'), rfl, q⟩
def tAddA (w : World) (to : TE) (t : TA) : TE := fun σ H Q => to σ H fun x H1 => (∃ a L, x = V.ref a ∧ H1 a = some (SetA w a L)) ∧ t σ H1 fun xs H2 => rAddA w x xs H2 Q
theorem setA_ty {P : Program} {w : World} {h : Heap} {a : Addr} {L : AD} (o : ObjOk P w H h a (SetA w a L)) : ∃ o, h.get? a = some o ∧ o.ExactSet := by
  obtain ⟨⟨LN, p, es, ep, t, ⟨o, ho, hx, _⟩, _⟩, _⟩ := o
  exact ⟨o, ho, hx⟩
theorem pe_addA {o e : Expr} {es : List Expr} {to : TE} {t : TA} {apos cpos : Pos} (hu : X.A.units + 64 < cLine) (ho : PE X o to) (ha : PA X (e :: es) t)
    (hbase : attributeBase o "add" X.env (eval o X.env) = eval o X.env := by rfl)
    (hfew : ((backTo cpos (starEach (e :: es) X.env)).all (fun x => !x.1) && (backToKw cpos (keywordEach [] X.env)).all (fun x => x.1.isSome)
      && decide ((e :: es).length + ([] : List Keyword).length + (if ([] : List Keyword).isEmpty then 0 else 1) < 30)) = true := by rfl)
    (hline : (apos.endLine == cpos.line) = true := by rfl) (hs : starEach (e :: es) X.env = (false, eval e X.env) :: starEach es X.env := by rfl) (hplain : (backTo cpos (starEach es X.env)).any (·.1) = false := by rfl) :
    PE X (.Call (.Attribute o "add" apos) (e :: es) [] cpos) (tAddA X.w to t) := by
  refine ⟨fun pins s σ H Q I h => ?_⟩
  refine wpAny_Call_method_late hbase hfew hline rfl (thn (ho.run pins s σ H _ I h) fun v s1 ⟨x, H1, I1, r1, ty, q1⟩ => ?_)
  obtain ⟨a, L, rfl, hka⟩ := ty
  cases r1
  obtain ⟨ob, hob, hx⟩ := setA_ty (I1.hok a _ hka)
  have hty : s1.TypeIs (.ref a) "set" := ⟨ob, hob, hx.1⟩
  have hnd : ∀ c : Addr, Value.ref a = .ref c → ∃ ob, s1.heap.get? c = some ob ∧ ob.dict = none := fun c e => by
    cases e
    exact ⟨ob, hob, hx.2.1⟩
  refine ⟨"set", "set.add", F.plainAttrs_set, F.slot_set_add, F.type_set_add, hty, hnd, ?_⟩
  have hA := ha.run cpos pins s1 σ H1 _ I1 q1
  rw [hs] at hA ⊢
  refine Calls.callWith_builtin (by show (false || (backTo cpos (starEach es X.env)).any (·.1)) = false; rw [hplain] <;> rfl) (Calls.evalArgs_plain ?_)
  exact thn hA fun us s2 ⟨vs, H2, I2, r2, q2⟩ => mt_addA hu pins s2 σ H2 (.ref a) vs (.ref a) us Q I2 rfl r2 q2
/-- t not in marks -/
def rNotInA (w : World) : V → V → Hp → VK → Prop := fun x y H Q => ∃ (b a : Addr) (d : PyData) (L : AD), x = V.ref b ∧ y = V.ref a ∧ H a = some (SetA w a L) ∧ Els H L ∧ Td H (.ref b) d ∧ keyT d = true ∧ Q (.bl (!decide (nkD d ∈ keysA L))) H
theorem or_notInA (hu : X.A.units + 64 < cLine) : OpR X (compareOp .NotIn) (rNotInA X.w) := by
  intro pins s σ H x y v u Q I rx ry h
  obtain ⟨b, a, d, L, rfl, rfl, ha, he, hb, hk, q⟩ := h
  cases rx
  cases ry
  obtain ⟨LN, es, ep, t, pm, R⟩ := setA_get I ha he
  have hx : IsN s.heap (nkD d) b := keyT.is I hk hb
  have hke : ∀ k, k ∈ keysN LN ↔ k ∈ keysA L := fun k => by
    rw [← keys_nkL]
    exact (pm.map (·.2)).mem_iff
  obtain ⟨o, ho, hex, hd⟩ := R.ob
  have hty : s.TypeIs (.ref a) "set" := ⟨o, ho, hex.1⟩
  show wpAny _ _ (do return Value.bool (!(← contains (.ref a) (.ref b))) : Sem Value) _ _ s
  refine wpAny_bind ?_
  unfold contains
  try with_reducible refine wpAny_holding ?_
  refine wpAny_bind (wpAny_specialOf hty F.slot_set_contains.lookup ?_)
  show wpAny _ _ (if (some (Value.builtin "set.__contains__") == some Value.none) = true then _ else _) _ _ s
  rw [if_neg (by rw [beq_builtin_none]; exact Bool.false_ne_true)]
  refine wpAny_bind (wpAny_callSpecialUnlessNone?_slot (name := Str.ofString "__contains__") hty F.slot_set_contains
    (wpAny_call_entry F.slot_set_contains hty entry_set_contains ?_ (F.args_set_contains_2 _ _)))
  unfold Builtin.«frozenset.__contains__» Builtin.Frozenset.oneOther
  simp only [List.isEmpty_nil, bind_assoc]
  unfold Builtin.Frozenset.addrOf Builtin.Frozenset.withSetAsKey setContains
  refine wpAny_bind (wpAny_pure ?_)
  try dsimp only
  refine wpAny_bind (wpAny_pure ?_)
  try dsimp only
  refine wpAny_bind (wpAny_tryCatch ?_)
  refine wpAny_holding ?_
  refine wpAny_bind ((nestedKind X.prog X.w).pyHash (by show _ + 8 < cLine; first | (show X.A.units + 1 + 8 < cLine; omega) | (simp; omega)) ⟨hx.it, Nat.le_succ_of_le hx.dp⟩ ?_)
  refine wpAny_bind (find_at (s := { s with toks := s.toks + (nestedKind X.prog X.w).draws (nkD d) }) R hx (by first | (show X.A.units + 1 + 8 < cLine; omega) | (simp; omega)) fun r hr => ?_)
  refine wpAny_pure ?_
  show wpAny _ _ (ret (Value.bool r.isSome)) _ _ _
  rw [hr]
  refine wpAny_pure ⟨_, rfl, wpAny_truthy_bool (wpAny_pure ⟨.bl (!decide (nkD d ∈ keysA L)), H, I.tok _, ?_, q⟩)⟩
  show Value.bool _ = Value.bool _
  rw [decide_eq_decide.mpr (hke (nkD d))]

theorem or_notInA' {w : World} (hw : X.w = w) (hu : X.A.units + 64 < cLine) : OpR X (compareOp .NotIn) (rNotInA w) := by
  subst hw
  exact or_notInA hu

/-! ### sorted -/
theorem each_of {R : Value → (Addr × PyData) → Prop} : ∀ (bs : AD), (∀ p ∈ bs, R (.ref p.1) p) → PySem.W.EachIs R (bs.map fun p => Value.ref p.1) bs
  | [], _ => .nil
  | p :: bs, h => .cons (h p List.mem_cons_self) (each_of bs fun q hq => h q (List.mem_cons_of_mem _ hq))
theorem each_refs : ∀ {us : List Value} {bs : AD}, PySem.W.EachIs (fun v p => v = Value.ref p.1) us bs → us = bs.map fun p => Value.ref p.1
  | _, _, .nil => rfl
  | _, _, .cons h t => by rw [h, each_refs t] <;> rfl
theorem mem_reads (I : Inv X pins σ H s) {d : PyData} {b : Addr} (h : Td H (.ref b) d) : ∃ as, Reads s.heap (.ref b) d as := Dp.reads (X := X) I d _ _ (Td.dp d _ h) rfl
mutual
/-- what reads as tuple data reads off tuples alone -/
theorem reads_tup {h : Heap} {a : Addr} {o : Obj} (ho : h.get? a = some o) (hc : o.cls = .type "list") : ∀ (d : PyData) (v : Value) (as : List Addr), pureT d = true → Reads h v d as → a ∉ as
  | .int _, _, _, _, r => by cases r; exact List.not_mem_nil
  | .tuple ds, _, _, hp, r => by
    rw [pureT] at hp
    cases r with
    | tuple h1 h2 h3 h4 =>
      have h5 := readsAll_tup ho hc ds _ _ hp h4
      exact h5
  | .none, _, _, hd, _ => by simp [pureT] at hd
  | .bool _, _, _, hd, _ => by simp [pureT] at hd
  | .str _, _, _, hd, _ => by simp [pureT] at hd
  | .list _, _, _, hd, _ => by simp [pureT] at hd
  | .dict _, _, _, hd, _ => by simp [pureT] at hd
theorem readsAll_tup {h : Heap} {a : Addr} {o : Obj} (ho : h.get? a = some o) (hc : o.cls = .type "list") : ∀ (ds : List PyData) (vs : List Value) (as : List Addr), pureTs ds = true → ReadsAll h vs ds as → a ∉ as
  | [], _, _, _, r => by cases r; exact List.not_mem_nil
  | d :: ds, _, _, hp, r => by
    rw [pureTs, Bool.and_eq_true] at hp
    cases r with
    | cons h1 h2 =>
      intro hm
      rcases List.mem_append.mp hm with z | z
      · exact reads_tup ho hc d _ _ hp.1 h1 z
      · exact readsAll_tup ho hc ds _ _ hp.2 h2 z
end
/-- what can be sorted -/
structure Srt (L : AD) : Prop where
  al : PySem.W.AllAlike (L.map (·.2))
  so : PySem.W.Sortable (L.map (·.2))
theorem Srt.perm {L M : AD} (h : Srt L) (p : M.Perm L) : Srt M := by
  have hm : ∀ d, d ∈ M.map (·.2) → d ∈ L.map (·.2) := fun d hd => (p.map (·.2)).mem_iff.mp hd
  refine ⟨fun d hd e he => h.al d (hm d hd) e (hm e he), ?_⟩
  rcases h.so with q | q
  · exact .inl fun d hd => q d (hm d hd)
  · exact .inr fun d hd => q d (hm d hd)
/-- what sorted(..) gives of collected values: a new list -/
def rOut (L : AD) (H : Hp) (Q : VK) : Prop := ∀ (M : AD) (p : Addr), M.Perm L → M.Pairwise (fun q r => PySem.W.dataLt r.2 q.2 = false) → H p = none → Q (.ref p) (upd H p (.lst (M.map fun q => V.ref q.1)))
theorem sorted_tail {Q : VK} {A : Around} {bs : AD} {E : Value → Shared → Prop} {QQ : Value → Shared → Prop} (hu : A.units + 16 < cLine) (hk : ∀ p ∈ bs, keyT p.2 = true ∧ ∃ as, Reads s.heap (.ref p.1) p.2 as) (hs : Srt bs) (hl : bs.length ≤ 60000)
    (hQ : ∀ (M : AD) (h' : Heap) (c : Nat), M.Perm bs → M.Pairwise (fun q r => PySem.W.dataLt r.2 q.2 = false) → (∀ b o, s.heap.get? b = some o → h'.get? b = some o) → h'.get? s.heap.objs.size = some (seqObj "list" (M.map fun q => Value.ref q.1).toArray c) → QQ .none { s with heap := h' }) :
    wpAny (model X.prog X.w) A (call (.builtin "list.sort") [.ref s.heap.objs.size]) QQ E { s with heap := s.heap.push (seqObj "list" (bs.map fun q => Value.ref q.1).toArray 0) } := by
  have hoL : (s.heap.push (seqObj "list" (bs.map fun q => Value.ref q.1).toArray 0)).get? s.heap.objs.size = some (seqObj "list" (bs.map fun q => Value.ref q.1).toArray 0) := Heap.get?_push_size _ rfl
  refine PySem.W.list_sort_data (s := { s with heap := s.heap.push (seqObj "list" (bs.map fun q => Value.ref q.1).toArray 0) }) (bs := bs) (enc := fun p => p.2) (R := fun v p => v = Value.ref p.1) (vs := bs.map fun q => Value.ref q.1) hoL (each_of bs fun _ _ => rfl)
    (each_of bs fun p hp => ?_) hs.al hs.so (Nat.le_trans hl (by rw [sizeLine_eq]; decide)) (fun p hp => ?_) fun out hlen ho => ?_
  · obtain ⟨k, as, r⟩ := hk p hp
    have r2 : Reads (s.heap.push (seqObj "list" (bs.map fun q => Value.ref q.1).toArray 0)) (.ref p.1) p.2 as := Reads.keeps (fun b o e => Heap.get?_push_of_some _ e) r
    unfold keyT at k
    rw [Bool.and_eq_true] at k
    exact ⟨as, r2, reads_tup hoL rfl _ _ _ k.1 r2⟩
  · have k := (hk p hp).1
    unfold keyT at k
    rw [Bool.and_eq_true, decide_eq_true_eq] at k
    have h1 := k.2
    show A.units + 1 + p.2.depth < cLine
    omega
  · have e1 := each_refs ho
    obtain ⟨c, hc⟩ := sortedHeap_at (vs := bs.map fun q => Value.ref q.1) (out := out.toArray) hoL
    refine hQ _ _ c (List.mergeSort_perm _ _) ?_ (fun b u e => ?_) (by rw [← e1]; exact hc)
    · have h1 := PySem.W.sort_pairwise (PySem.W.sortLe_total (PyProof.Rows.listOrd PyProof.Rows.itemOrd) false fun p : Addr × PyData => PySem.W.keyToks p.2) bs
      refine h1.imp fun {p q} h => ?_
      have h2 : PySem.W.dataLe false (fun p : Addr × PyData => p.2) p q = true := h
      rw [PySem.W.dataLe_eq] at h2
      have h3 : (!PySem.W.dataLt q.2 p.2) = true := h2
      simpa using h3
    · have hlt := Heap.lt_size e
      rw [sortedHeap_old (Nat.ne_of_lt hlt) (by rw [size_push']; exact Nat.lt_succ_of_lt hlt)]
      exact Heap.get?_push_of_some _ e
/-- an arrangement of the refs is one of the rows, the keys told apart -/
theorem order_refs {L : AD} : ∀ {vs : List Value}, vs.Perm (L.map fun p => Value.ref p.1) → ∃ M : AD, vs = M.map (fun p => Value.ref p.1) ∧ M.Perm L := by
  intro vs h
  generalize hm : L.map (fun p => Value.ref p.1) = ws at h
  induction h generalizing L with
  | nil => exact ⟨L, hm.symm, List.Perm.refl L⟩
  | cons x _ ih =>
    cases L with
    | nil => cases hm
    | cons p L =>
      rw [List.map_cons] at hm
      obtain ⟨h1, h2⟩ := List.cons.inj hm
      obtain ⟨M, e, pm⟩ := ih h2
      exact ⟨p :: M, by rw [List.map_cons, e, h1], pm.cons p⟩
  | swap x y l =>
    match L, hm with
    | p :: q :: L, hm =>
      rw [List.map_cons, List.map_cons] at hm
      obtain ⟨h1, h2⟩ := List.cons.inj hm
      obtain ⟨h3, h4⟩ := List.cons.inj h2
      exact ⟨q :: p :: L, by rw [List.map_cons, List.map_cons, h1, h3, h4], List.Perm.swap p q L⟩
  | trans _ _ ih1 ih2 =>
    obtain ⟨M, e, pm⟩ := ih2 hm
    obtain ⟨M2, e2, pm2⟩ := ih1 e.symm
    exact ⟨M2, e2, pm2.trans pm⟩
/-- sorted(set) -/
def rSortedA (w : World) : List V → Hp → VK → Prop := fun vs H Q => ∃ (a : Addr) (L : AD), vs = [.ref a] ∧ H a = some (SetA w a L) ∧ Els H L ∧ Srt L ∧ rOut L H Q
theorem cr_sortedA (hc : X.calm = true) (hu : X.A.units + 64 < cLine) : CallR X (.builtin "sorted") (rSortedA X.w) := by
  intro pins s σ H vs us Q I r h
  obtain ⟨a, L, rfl, ha, he, hs, q⟩ := h
  obtain ⟨LN, es, ep, t, pm, R⟩ := setA_get I ha he
  rw [Vals.ref1 r]
  obtain ⟨o, ho, hex, hd⟩ := R.ob
  have hsz := R.size
  have hfew := R.few
  refine Calls.call_function_entry kind_sorted plain_sorted entry_sorted (args_sorted1 _) ?_
  unfold Builtin.«sorted»
  refine wpAny_bind (m := checkCount "sorted" 1 1 _) (wpAny_pure ?_)
  refine wpAny_bind (collect_set (A := X.A.in1) (I.ok.hd hc) ⟨o, ho, hex.1, hd⟩ R.fits (by unfold scanBound; omega) R.tab.ris R.led fun s1 vs k1 hz g1 o1 pv => ?_)
  have hes : es.toList.map (·.2) = LN.map fun q => Value.ref q.1 := by
    rw [R.rows]
    unfold rowsN
    rw [List.map_map] <;> rfl
  rw [hes] at pv
  have pv2 : vs.Perm (L.map fun p => Value.ref p.1) := pv.trans (by
    have h1 := pm.map fun q => Value.ref q.1
    rw [List.map_map] at h1
    exact h1)
  obtain ⟨bs, rfl, pb⟩ := order_refs pv2
  have hbl : bs.length ≤ 1228 := by
    have h1 := pm.length_eq
    rw [List.length_map] at h1
    rw [pb.length_eq]
    omega
  refine wpAny_bind (wpAny_newList ?_ (by rw [List.length_map, sizeLine_eq]; omega))
  refine wpAny_bind (wpAny_holding (sorted_tail (X := X) (Q := Q) (s := s1) (bs := bs) (by first | (show X.A.units + 1 + 16 < cLine; omega) | (simp; omega)) (fun p hp => ?_) (hs.perm pb) (by omega) fun M h' c pM pw kp hg => ?_))
  · obtain ⟨h1, h2⟩ := he p (pb.mem_iff.mp hp)
    obtain ⟨as, r⟩ := mem_reads I h1
    exact ⟨h2, as, Reads.keeps k1 r⟩
  · have hn : H s1.heap.objs.size = none := I.hok.fresh hz
    have kk : ∀ b o, s.heap.get? b = some o → h'.get? b = some o := fun b o e => kp b o (k1 b o e)
    have hlen : (M.map fun q => V.ref q.1).length ≤ sizeLine := by rw [List.length_map, pM.length_eq, sizeLine_eq]; omega
    have J : Inv X pins σ (upd H s1.heap.objs.size (.lst (M.map fun q => V.ref q.1))) { s with heap := h', gens := s1.gens, drawn := s1.drawn, toks := s1.toks } :=
      I.call (ch := []) (Un.laid kk hz hn) (I.hok.laid kk hz ⟨hlen, _, c, vals_refsA M, hg⟩) (by rw [g1]; exact I.bare) (fun _ z => nomatch z)
    have e : ({ s1 with heap := h' } : Shared) = { s with heap := h', gens := s1.gens, drawn := s1.drawn, toks := s1.toks } := by
      cases s1
      cases s
      cases o1
      rfl
    refine wpAny_pure ⟨_, rfl, ?_⟩
    rw [e]
    exact ⟨.ref _, _, J, rfl, q M _ (pM.trans pb) pw hn⟩
/-- sorted(d), d's keys tuples -/
def rSortedT (K : PySem.W.Frag) : List V → Hp → VK → Prop := fun vs H Q => ∃ (a : Addr) (kvs : List (List Key × V)) (enc : List Key → PyData), vs = [.ref a] ∧ H a = some (.dT kvs) ∧ kvs.length ≤ 60000 ∧ (∀ k ∈ kvs.map (·.1), keyT (enc k) = true ∧ ∀ b, H b = some (.tup (k.map kV)) → Td H (.ref b) (enc k)) ∧
  (∀ L : AD, L.map (·.2) = kvs.map (fun p => enc p.1) → Srt L) ∧ ∀ L : AD, L.map (·.2) = kvs.map (fun p => enc p.1) → Els H L → rOut L H Q
theorem cr_sortedDT (hc : X.calm = true) (hu : X.A.units + 64 < cLine) : CallR X (.builtin "sorted") (rSortedT X.K) := by
  intro pins s σ H vs us Q I r h
  obtain ⟨a, kvs, enc, rfl, ha, hl, hk, hs, q⟩ := h
  rw [Vals.ref1 r]
  obtain ⟨hlen0, hsys, xs, pr, o, es, ep, ho, hx, hdt, hent, hnod⟩ := (show ObjOk X.prog X.w H s.heap a (.dT kvs) from I.hok a _ ha)
  have l1 : es.size = xs.length := size_of_entries hent
  have l2 : kvs.length = xs.length := Paired.length pr
  have hsl := sizeLine_eq
  -- the rows: each key's own tuple
  obtain ⟨L, hL2, hL1⟩ : ∃ L : AD, L.map (·.2) = kvs.map (fun p => enc p.1) ∧ L.map (·.1) = xs.map fun p => p.2.1 := by
    clear hent ho hdt l1 l2 ha hs q hk hl hlen0 hnod
    induction pr with
    | nil => exact ⟨[], rfl, rfl⟩
    | @cons p x ps qs h t ih =>
      obtain ⟨L, e1, e2⟩ := ih
      exact ⟨(x.2.1, enc p.1) :: L, by rw [List.map_cons, List.map_cons, e1], by rw [List.map_cons, List.map_cons, e2]⟩
  have hEls : Els H L := fun p hp => by
    obtain ⟨i, hi, e⟩ := List.getElem_of_mem hp
    have e0 : L[i]? = some p := by rw [List.getElem?_eq_getElem hi, e]
    have e1 : (kvs.map fun p => enc p.1)[i]? = some p.2 := by rw [← hL2, List.getElem?_map, e0] <;> rfl
    have e2 : (xs.map fun p => p.2.1)[i]? = some p.1 := by rw [← hL1, List.getElem?_map, e0] <;> rfl
    rw [List.getElem?_map, Option.map_eq_some_iff] at e1 e2
    obtain ⟨kv, hkv, ek⟩ := e1
    obtain ⟨x, hxx, ex⟩ := e2
    obtain ⟨b, hb, b1, b2, _⟩ := paired_get pr hkv
    rw [hxx] at hb
    cases hb
    have hmem : kv.1 ∈ kvs.map (·.1) := List.mem_map.mpr ⟨kv, List.mem_of_getElem? hkv, rfl⟩
    rw [← ek, ← ex]
    exact ⟨(hk _ hmem).2 _ b2, (hk _ hmem).1⟩
  have hLl : L.length = xs.length := by
    have h1 := congrArg List.length hL1
    rw [List.length_map, List.length_map] at h1
    exact h1
  refine Calls.call_function_entry kind_sorted plain_sorted entry_sorted (args_sorted1 _) ?_
  unfold Builtin.«sorted»
  refine wpAny_bind (m := checkCount "sorted" 1 1 _) (wpAny_pure ?_)
  refine wpAny_bind (PySem.W.kdu_collect (A := X.A.in1) (kdl_raw hsys hx hdt) (I.ok.hd hc) ho (by omega) fun h1 tk acc hk1 hacc => ?_)
  have hacc2 : acc.toList = L.map fun p => Value.ref p.1 := by
    refine List.ext_getElem? fun j => ?_
    rw [List.getElem?_map]
    by_cases hj : j < acc.size
    · obtain ⟨en, hen, ev⟩ := hacc.2 j acc[j] (Array.getElem?_eq_getElem hj)
      have q1 := entry_at hent j
      rw [hen] at q1
      cases hxj : xs[j]? with
      | none => rw [hxj] at q1; cases q1
      | some x =>
        rw [hxj] at q1
        have e2 : (L.map (·.1))[j]? = some x.2.1 := by rw [hL1, List.getElem?_map, hxj] <;> rfl
        rw [List.getElem?_map, Option.map_eq_some_iff] at e2
        obtain ⟨p, hp, ep1⟩ := e2
        rw [hp, Array.getElem?_toList, Array.getElem?_eq_getElem hj, ev]
        have e3 := Option.some.inj q1
        show some en.key = some (Value.ref p.1)
        rw [e3, ep1] <;> rfl
    · rw [List.getElem?_eq_none (by rw [Array.length_toList]; omega), List.getElem?_eq_none (by have := hacc.1; omega)] <;> rfl
  rw [hacc2]
  have I1 : Inv X pins σ H { s with heap := h1, toks := tk } := I.kept hk1
  refine wpAny_bind (wpAny_newList ?_ (by rw [List.length_map]; omega))
  refine wpAny_bind (wpAny_holding (sorted_tail (X := X) (Q := Q) (s := { s with heap := h1, toks := tk }) (bs := L) (by first | (show X.A.units + 1 + 16 < cLine; omega) | (simp; omega)) (fun p hp => ?_) (hs L hL2) (by omega) fun M h' c pM pw kp hg => ?_))
  · obtain ⟨h2, h3⟩ := hEls p hp
    obtain ⟨as, r⟩ := mem_reads I1 h2
    exact ⟨h3, as, r⟩
  · have hn : H h1.objs.size = none := I1.hok.fresh (Nat.le_refl _)
    have hlen : (M.map fun q => V.ref q.1).length ≤ sizeLine := by rw [List.length_map, pM.length_eq]; omega
    exact wpAny_pure ⟨_, rfl, .ref _, _, I1.laid (t' := tk) kp (Nat.le_refl _) (show ObjOk X.prog X.w _ _ _ (.lst (M.map fun q => V.ref q.1)) from ⟨hlen, _, c, vals_refsA M, hg⟩), rfl, q L hL2 hEls M _ pM pw hn⟩
end
end Isl
end
section
set_option Elab.async false
set_option linter.all false
set_option maxRecDepth 100000
set_option maxHeartbeats 4000000
/-! comparisons, membership, min, isinstance over data -/
namespace Isl
open PySem PySem.Spec PyProof.Rows L2
open Evl (Ex EvT)
open PySem.W (dataLt Datum DatumOrd)
section
variable {X : Cx}
theorem td_reads {pins : List (Addr × Obj)} {σ : L2.St} {H : Hp} {s : Shared} {v : V} {u : Value} {d : PyData} (I : Inv X pins σ H s) (h : Td H v d) (r : RelV v u) : ∃ as, Reads s.heap u d as := Dp.reads (X := X) I d _ _ (Td.dp d _ h) r
def okD (d : PyData) : Bool := d.plain && decide (d.depth ≤ 40)
theorem okD_p {d : PyData} (h : okD d = true) : d.plain = true ∧ d.depth ≤ 40 := by
  unfold okD at h
  rw [Bool.and_eq_true, decide_eq_true_eq] at h
  exact h
/-- a >= b -/
def rGeD : R2 := fun x y H Q => ∃ d e, Td H x d ∧ Td H y e ∧ PySem.W.alike d e = true ∧ d ≠ .none ∧ okD d = true ∧ Q (.bl (!dataLt d e)) H
theorem op_geD (hu : X.A.units + 64 < cLine) : OpR X (compareOp .GtE) rGeD := by
  intro pins s σ H x y v u Q I rx ry h
  obtain ⟨d, e, hd, he, ha, hn, hk, q⟩ := h
  obtain ⟨as, r1⟩ := td_reads I hd rx
  obtain ⟨bs, r2⟩ := td_reads I he ry
  have h2 := (okD_p hk).2
  exact PySem.W.ge_data r1 r2 ha hn (by omega) ⟨.bl _, H, I, rfl, q⟩
/-- x in t, x not in t, t a tuple -/
def rInD : R2 := fun x y H Q => ∃ d ds, Td H x d ∧ Td H y (.tuple ds) ∧ okD d = true ∧ PyData.plainAll ds = true ∧ Q (.bl (ds.any fun z => PyData.eqv z d)) H
def rNotInD : R2 := fun x y H Q => ∃ d ds, Td H x d ∧ Td H y (.tuple ds) ∧ okD d = true ∧ PyData.plainAll ds = true ∧ Q (.bl (!ds.any fun z => PyData.eqv z d)) H
theorem op_inD (hu : X.A.units + 64 < cLine) : OpR X (compareOp .In) rInD := by
  intro pins s σ H x y v u Q I rx ry h
  obtain ⟨d, ds, hd, he, hk, hp, q⟩ := h
  obtain ⟨as, r1⟩ := td_reads I hd rx
  obtain ⟨bs, r2⟩ := td_reads I he ry
  have h2 := (okD_p hk).2
  exact PySem.SeqAt.in_tuple_data r2 r1 hp (okD_p hk).1 (by omega) ⟨.bl _, H, I, rfl, q⟩
theorem op_notInD (hu : X.A.units + 64 < cLine) : OpR X (compareOp .NotIn) rNotInD := by
  intro pins s σ H x y v u Q I rx ry h
  obtain ⟨d, ds, hd, he, hk, hp, q⟩ := h
  obtain ⟨as, r1⟩ := td_reads I hd rx
  obtain ⟨bs, r2⟩ := td_reads I he ry
  have h2 := (okD_p hk).2
  exact PySem.SeqAt.notIn_tuple_data r2 r1 hp (okD_p hk).1 (by omega) ⟨.bl _, H, I, rfl, q⟩
/-- a == b, a != b of data, lists among them -/
def rEqP (K : PySem.W.Frag) : R2 := fun x y H Q => ∃ d e, Dp K H x d ∧ Dp K H y e ∧ d.plain = true ∧ okD e = true ∧ Q (.bl (PyData.eqv d e)) H
def rNeP (K : PySem.W.Frag) : R2 := fun x y H Q => ∃ d e, Dp K H x d ∧ Dp K H y e ∧ d.plain = true ∧ okD e = true ∧ Q (.bl (!PyData.eqv d e)) H
theorem op_eqP (hu : X.A.units + 64 < cLine) : OpR X (compareOp .Eq) (rEqP X.K) := by
  intro pins s σ H x y v u Q I rx ry h
  obtain ⟨d, e, hd, he, hp, hk, q⟩ := h
  obtain ⟨as, r1⟩ := Dp.reads I d x v hd rx
  obtain ⟨bs, r2⟩ := Dp.reads I e y u he ry
  have h2 := (okD_p hk).2
  exact PySem.SeqAt.eq_plain r1 r2 hp (okD_p hk).1 (by omega) ⟨.bl _, H, I, rfl, q⟩
theorem op_neP (hu : X.A.units + 64 < cLine) : OpR X (compareOp .NotEq) (rNeP X.K) := by
  intro pins s σ H x y v u Q I rx ry h
  obtain ⟨d, e, hd, he, hp, hk, q⟩ := h
  obtain ⟨as, r1⟩ := Dp.reads I d x v hd rx
  obtain ⟨bs, r2⟩ := Dp.reads I e y u he ry
  have h2 := (okD_p hk).2
  exact PySem.SeqAt.ne_plain r1 r2 hp (okD_p hk).1 (by omega) ⟨.bl _, H, I, rfl, q⟩
theorem plainAll_mem : ∀ {xs : List PyData} {x : PyData}, PyData.plainAll xs = true → x ∈ xs → x.plain = true
  | y :: ys, x, h, hx => by
    rw [PyData.plainAll, Bool.and_eq_true] at h
    rcases List.mem_cons.mp hx with e | e
    · rw [e]; exact h.1
    · exact plainAll_mem h.2 e
theorem op_eqP' {K : PySem.W.Frag} (hK : X.K = K) (hu : X.A.units + 64 < cLine) : OpR X (compareOp .Eq) (rEqP K) := by
  subst hK
  exact op_eqP hu
theorem op_neP' {K : PySem.W.Frag} (hK : X.K = K) (hu : X.A.units + 64 < cLine) : OpR X (compareOp .NotEq) (rNeP K) := by
  subst hK
  exact op_neP hu
theorem ix_tup' {K : PySem.W.Frag} (hK : X.K = K) : IxR X (rIxT K) := by
  subst hK
  exact ix_tup
/-- min(xs), xs a list of data -/
def rMinD (K : PySem.W.Frag) : List V → Hp → VK → Prop := fun vs H Q => ∃ (a : Addr) (xs : List V) (d : PyData) (ds : List PyData), vs = [.ref a] ∧ SqL K H a xs ∧ TdAll H xs (d :: ds) ∧ PySem.W.AlikeAll (d :: ds) ∧ PyData.plainAll (d :: ds) = true ∧ PyData.depthAll (d :: ds) ≤ 40 ∧
  ∀ x, Td H x (PySem.W.minD d ds) → Q x H
theorem cr_minD (hc : X.calm = true) (hu : X.A.units + 64 < cLine) : CallR X (.builtin "min") (rMinD X.K) := by
  intro pins s σ H vs us Q I r h
  obtain ⟨a, xs, d, ds, rfl, hl, hT, ha, hp, hdp, q⟩ := h
  rw [Vals.ref1 r]
  obtain ⟨its, rv, pl, hz⟩ := I.list hl
  obtain ⟨as, hr⟩ := Dp.readsAll (X := X) I (d :: ds) xs its (TdAll.dp _ _ hT) rv
  refine PySem.W.min_list_data (I.ok.hd hc) pl.isList (by simpa using hr) ha (by omega) fun i v h' tk bs hv hrd hk => ?_
  have hv' : its[i]? = some v := by simpa using hv
  have hi : i < its.length := (List.getElem?_eq_some_iff.mp hv').1
  have hil : i < xs.length := by rw [rv.length]; exact hi
  have hx : xs[i]? = some xs[i] := List.getElem?_eq_getElem hil
  obtain ⟨u, hu1, ru⟩ := rv.get hx
  rw [hv'] at hu1
  cases hu1
  obtain ⟨di, hdi, hTi⟩ := hT.at' hx
  have I1 : Inv X pins σ H { s with heap := h', toks := tk } := I.kept hk
  obtain ⟨cs, hr2⟩ := td_reads I1 hTi ru
  have hpi : di.plain = true := plainAll_mem hp (List.mem_of_getElem? hdi)
  have e : di = PySem.W.minD d ds := PySem.SeqAt.plain_unique _ _ _ _ _ hpi hr2 hrd
  exact ⟨xs[i], H, I1, ru, q _ (e ▸ hTi)⟩
end

section
variable {K : PySem.W.Frag} {σ : L2.St} {H H' : Hp} {ta tb tc te : TE} {t u : TT} {ts : TA} {d e z : PyData} {ds es : List PyData} {r r' : R2}
theorem r2_ge (h1 : PySem.W.alike d e = true) (h2 : d ≠ .none) (h3 : okD d = true) : R2D rGeD d e (.bool (!dataLt d e)) := fun v w H hv hw Q q => ⟨d, e, hv, hw, h1, h2, h3, q _ H (Evl.Ex.refl H) (.bl _)⟩
theorem r2_in (h1 : okD d = true) (h2 : PyData.plainAll ds = true) : R2D rInD d (.tuple ds) (.bool (ds.any fun z => PyData.eqv z d)) := fun v w H hv hw Q q => ⟨d, ds, hv, hw, h1, h2, q _ H (Evl.Ex.refl H) (.bl _)⟩
theorem r2_notIn (h1 : okD d = true) (h2 : PyData.plainAll ds = true) : R2D rNotInD d (.tuple ds) (.bool (!ds.any fun z => PyData.eqv z d)) := fun v w H hv hw Q q => ⟨d, ds, hv, hw, h1, h2, q _ H (Evl.Ex.refl H) (.bl _)⟩
theorem r2_eqP (h1 : d.plain = true) (h2 : okD e = true) : R2D (rEqP K) d e (.bool (PyData.eqv d e)) := fun v w H hv hw Q q => ⟨d, e, hv.dp, hw.dp, h1, h2, q _ H (Evl.Ex.refl H) (.bl _)⟩
theorem r2_neP (h1 : d.plain = true) (h2 : okD e = true) : R2D (rNeP K) d e (.bool (!PyData.eqv d e)) := fun v w H hv hw Q q => ⟨d, e, hv.dp, hw.dp, h1, h2, q _ H (Evl.Ex.refl H) (.bl _)⟩
/-- [..] == [], [..] != [] -/
theorem eqv_nil (es : List PyData) : PyData.eqv (.list es) (.list []) = es.isEmpty := by cases es <;> simp [PyData.eqv, PyData.eqvAll]
theorem ed_eqN (h : EL ta σ H es) (hs : PyData.plainAll es = true) : ED (tOp (rEqP K) ta (tLst tNil)) σ H (.bool es.isEmpty) := fun H1 x Q q =>
  h H1 x _ fun p xs H2 hp x2 h2 hT => ⟨by show (0 : Nat) ≤ _; exact Nat.zero_le _, fun r hr => by
    refine ⟨.list es, .list [], .lst (.inl (.inl (Evl.Ex.new hr _ _ h2))) (TdAll.dp _ _ (hT.ex (Evl.Ex.new hr))), .lst (.inl (.inl upd_same)) .nil, by simp only [PyData.plain]; exact hs, rfl, ?_⟩
    rw [eqv_nil]
    exact q _ _ (x2.trans (Evl.Ex.new hr)) (.bl _)⟩
theorem ed_neN (h : EL ta σ H es) (hs : PyData.plainAll es = true) : ED (tOp (rNeP K) ta (tLst tNil)) σ H (.bool (!es.isEmpty)) := fun H1 x Q q =>
  h H1 x _ fun p xs H2 hp x2 h2 hT => ⟨by show (0 : Nat) ≤ _; exact Nat.zero_le _, fun r hr => by
    refine ⟨.list es, .list [], .lst (.inl (.inl (Evl.Ex.new hr _ _ h2))) (TdAll.dp _ _ (hT.ex (Evl.Ex.new hr))), .lst (.inl (.inl upd_same)) .nil, by simp only [PyData.plain]; exact hs, rfl, ?_⟩
    rw [eqv_nil]
    exact q _ _ (x2.trans (Evl.Ex.new hr)) (.bl _)⟩
theorem ones_plain {α : Type} : ∀ ds : List α, PyData.plainAll (ds.map fun _ => PyData.int 1) = true
  | [] => rfl
  | d :: ds => by rw [List.map_cons, PyData.plainAll, ones_plain ds] <;> rfl
/-- [1 for ..] == [] -/
theorem ed_noneOf {α : Type} {b : α → Bool} {ds : List α} (h : EL ta σ H ((ds.filter b).map fun _ => .int 1)) : ED (tOp (rEqP K) ta (tLst tNil)) σ H (.bool (!ds.any b)) := by
  have h1 := ed_eqN (K := K) h (ones_plain _)
  rw [isEmpty_filter] at h1
  exact h1
theorem ed_someOf {α : Type} {b : α → Bool} {ds : List α} (h : EL ta σ H ((ds.filter b).map fun _ => .int 1)) : ED (tOp (rNeP K) ta (tLst tNil)) σ H (.bool (ds.any b)) := by
  have h1 := ed_neN (K := K) h (ones_plain _)
  rw [isEmpty_filter, Bool.not_not] at h1
  exact h1
/-- isinstance(x, T) -/
def tyD : PyData → String
  | .none => "NoneType" | .bool _ => "bool" | .int _ => "int" | .str _ => "str" | .list _ => "list" | .tuple _ => "tuple" | .dict _ => "dict"
theorem tyX_td {K : PySem.W.Frag} {v : V} (h : Td H v d) : TyX K H v (.type (tyD d)) := by
  cases h with
  | non => exact .base .non
  | bl b => exact .base (.bl b)
  | int i => exact .base (.int i)
  | str x => exact .base (.str x)
  | tup h _ => exact .base (.tup h)
theorem ed_isi {T : String} {b : Bool} (h : ED ta σ H d) (hb : kitB (tyD d) T = some b) : ED (tCB (rIsi K) (tCons ta (tCons (tC (.ty T)) tNil))) σ H (.bool b) := fun H1 x Q q =>
  h H1 x _ fun v H2 x2 hv => ⟨v, .ty T, _, _, b, rfl, .ty T, tyX_td hv, kit_ty hb, q _ H2 x2 (.bl b)⟩
/-- len of a tuple -/
theorem ed_lenT {rl : List V → Hp → VK → Prop} (hr : ∀ a xs H Q, (SqL K H a xs ∨ SqT K H a xs) → Q (.int (xs.length : Nat)) H → rl [.ref a] H Q) (h : ED ta σ H (.tuple ds)) : ED (tCB rl (tCons ta tNil)) σ H (.int (ds.length : Nat)) := fun H1 x Q q =>
  h H1 x _ fun v H2 x2 hv => by
    obtain ⟨a, xs, rfl, ha, hx⟩ := hv.toT
    refine hr a xs H2 Q (.inr (.inl (.inl ha))) ?_
    rw [hx.len]
    exact q _ H2 x2 (.int _)
end

/-! ### typed data -/
abbrev Pl := Int × Int
abbrev Nd := PySem.W.Tup Pl
section
variable {α : Type} [DecidableEq α] [DatumOrd α]
theorem alike_ty (x y : α) : PySem.W.alike (Datum.toD x) (Datum.toD y) = true := DatumOrd.alike x y
def memB (x : α) (xs : List α) : Bool := decide (x ∈ xs)
theorem memB_iff {x : α} {xs : List α} : memB x xs = true ↔ x ∈ xs := by
  unfold memB
  exact decide_eq_true_iff
theorem any_eqv (xs : List α) (x : α) : ((xs.map Datum.toD).any fun z => PyData.eqv z (Datum.toD x)) = memB x xs := PySem.W.any_datum xs x
end
theorem ok_pl (p : Pl) : okD (Datum.toD p) = true := by
  unfold okD
  rw [Bool.and_eq_true, decide_eq_true_eq]
  exact ⟨Datum.plain p, Nat.le_trans (Datum.depth_le p) (by decide)⟩
theorem ok_nd (n : Nd) : okD (Datum.toD n) = true := by
  unfold okD
  rw [Bool.and_eq_true, decide_eq_true_eq]
  exact ⟨Datum.plain n, Nat.le_trans (Datum.depth_le n) (by decide)⟩
theorem pure_pls : ∀ ps : List Pl, pureTs (ps.map Datum.toD) = true
  | [] => rfl
  | p :: ps => by
    rw [List.map_cons, pureTs, pure_pls ps]
    simp [Datum.toD, pureT, pureTs]
theorem key_pl (p : Pl) : keyT (Datum.toD p) = true := by
  unfold keyT
  rw [Bool.and_eq_true, decide_eq_true_eq]
  exact ⟨by simp [Datum.toD, pureT, pureTs], Nat.le_trans (Datum.depth_le p) (by decide)⟩
theorem key_nd (n : Nd) : keyT (Datum.toD n) = true := by
  unfold keyT
  rw [Bool.and_eq_true, decide_eq_true_eq]
  refine ⟨?_, Nat.le_trans (Datum.depth_le n) (by decide)⟩
  show pureT (.tuple (n.items.map Datum.toD)) = true
  rw [pureT]
  exact pure_pls _
theorem nk_eq {α : Type} [DecidableEq α] [Datum α] (hk : ∀ x : α, keyT (Datum.toD x) = true) {x y : α} (h : nkD (Datum.toD x) = nkD (Datum.toD y)) : x = y := by
  have h1 := hk x
  have h2 := hk y
  unfold keyT at h1 h2
  rw [Bool.and_eq_true] at h1 h2
  have e := nk_inj _ _ h1.1 h2.1 h
  have e2 := Datum.eqv x y
  rw [e, PySem.SeqAt.eqv_refl_plain _ (Datum.plain y)] at e2
  exact of_decide_eq_true e2.symm
theorem toD_inj {α : Type} [DecidableEq α] [Datum α] {x y : α} (h : (Datum.toD x : PyData) = Datum.toD y) : x = y := by
  have e2 := Datum.eqv x y
  rw [h, PySem.SeqAt.eqv_refl_plain _ (Datum.plain y)] at e2
  exact of_decide_eq_true e2.symm
end Isl
end
section
set_option Elab.async false
set_option linter.all false
set_option maxRecDepth 100000
set_option maxHeartbeats 4000000
/-! the text by places; what stands behind the top -/
namespace Isl
open PySem PySem.Spec PyProof.Rows L2
open Evl (Ex EvT)

def topS (i : Nat) : Stmt := PySem.Challenge.pw_allislands_k08_whole_equal_or_parted.main.body.getD i (.Pass ⟨0, 0, 0, 0⟩)

/-- a def of the text, as the module's name x has it -/
def Dn (K : PySem.W.Frag) (mg : Str → Option Value) (x : Str) (st : Stmt) (ps : List Str) : Prop := ∃ f fd, Fun K x x st f fd ∧ mg x = some (.ref f) ∧ Binds K fd ps []
/-- what the def x promises -/
structure Cal (P : Program) (w : World) (K : PySem.W.Frag) (mg : Str → Option Value) (base : Heap) (CX : CXT) (k : Nat) (x : Str) (ps : List Str) (sp : Sp) : Prop where
  ex : ∃ f fd, FnOk P w K mg base CX k f fd ps sp ∧ mg x = some (.ref f) ∧ PySem.W.keepIn K (.ref f) = true ∧ Binds K fd ps []
theorem Dn.cal {P : Program} {w : World} {K : PySem.W.Frag} {mg : Str → Option Value} {base : Heap} {CX : CXT} {k : Nat} {x : Str} {st : Stmt} {ps : List Str} {sp : Sp} (D : Dn K mg x st ps) (h : ∀ f fd, Fun K x x st f fd → FnOk P w K mg base CX k f fd ps sp) :
    Cal P w K mg base CX k x ps sp := by
  obtain ⟨f, fd, F, hm, hb⟩ := D
  exact ⟨f, fd, h f fd F, hm, F.kp, hb⟩
/-- the built-in names, and the constants -/
structure Bt (mg : Str → Option Value) : Prop where
  isinstance : mg "isinstance" = none
  int : mg "int" = none
  bool : mg "bool" = none
  tuple : mg "tuple" = none
  len : mg "len" = none
  zip : mg "zip" = none
  enumerate : mg "enumerate" = none
  range : mg "range" = none
  set : mg "set" = none
  sorted : mg "sorted" = none
  list : mg "list" = none
  min : mg "min" = none
  repr : mg "repr" = none
  MOST_PLACE : ∃ t, mg "MOST_PLACE" = some (.int 1000000000 t)
  MOST_MARKS : ∃ t, mg "MOST_MARKS" = some (.int 400 t)
  MOST_NEEDS : ∃ t, mg "MOST_NEEDS" = some (.int 60 t)
  MOST_PLACES : ∃ t, mg "MOST_PLACES" = some (.int 12 t)
  MOST_SIZE : ∃ t, mg "MOST_SIZE" = some (.int 20 t)
section
variable {X : Cx}
theorem pe_globI {x : Str} {i : Int} {pos : Pos} (h : ∃ t, X.mg x = some (.int i t)) (hg : Gl X x := by rfl) (hd : (x == ("__debug__" : Str)) = false := by decide) : PE X (.Name x pos) (tC (.int i)) := by
  obtain ⟨t, ht⟩ := h
  exact pe_glob hg ht ⟨t, rfl⟩ hd
theorem pe_ty {x : Str} {n : String} {pos : Pos} (hm : X.mg x = none) (hv : bootBuiltins x = some (.type n)) (hg : Gl X x := by rfl) (hn : x ≠ "__name__" := by decide) (hd : (x == ("__debug__" : Str)) = false := by decide) : PE X (.Name x pos) (tC (.ty n)) :=
  pe_bltn hg hm hv rfl hn hd
theorem pe_cal {CX : CXT} {k : Nat} {ps : List Str} {sp : Sp} {E : XK} {x : Str} {p pos : Pos} {e : Expr} {es : List Expr} {t : TA} (C : Cal X.prog X.w X.K X.mg X.base CX k x ps sp) (hr : Room k X.A) (hx : Passes CX X E) (ha : PA X (e :: es) t) (hg : Gl X x := by rfl)
    (hdb : (x == ("__debug__" : Str)) = false := by decide) (he : starEach (e :: es) X.env = (false, eval e X.env) :: starEach es X.env := by rfl) (hpl : (backTo pos (starEach es X.env)).any (·.1) = false := by rfl) :
    PE X (.Call (.Name x p) (e :: es) [] pos) (tCall sp [] E t) := by
  obtain ⟨f, fd, F, hm, hk, hb⟩ := C.ex
  exact pe_call F hr hg hm hk hb .nil hx ha hdb he hpl
theorem pe_calS {CX : CXT} {k : Nat} {ps : List Str} {sp : Sp} {E : L2.St → XK} {x : Str} {p pos : Pos} {e : Expr} {es : List Expr} {t : TA} (C : Cal X.prog X.w X.K X.mg X.base CX k x ps sp) (hr : Room k X.A) (hx : ∀ σ, PassesAt CX X σ (E σ)) (ha : PA X (e :: es) t) (hg : Gl X x := by rfl)
    (hdb : (x == ("__debug__" : Str)) = false := by decide) (he : starEach (e :: es) X.env = (false, eval e X.env) :: starEach es X.env := by rfl) (hpl : (backTo pos (starEach es X.env)).any (·.1) = false := by rfl) :
    PE X (.Call (.Name x p) (e :: es) [] pos) (tCallS sp E t) := by
  obtain ⟨f, fd, F, hm, hk, hb⟩ := C.ex
  exact pe_callS F hr hg hm hk hb hx ha hdb he hpl
end
theorem rl_len {K : PySem.W.Frag} : ∀ a xs H (Q : VK), (SqL K H a xs ∨ SqT K H a xs) → Q (.int (xs.length : Nat)) H → (fun vs H Q => ∃ p ys, vs = [V.ref p] ∧ (SqL K H p ys ∨ SqT K H p ys) ∧ Q (.int (ys.length : Nat)) H) [V.ref a] H Q := fun a xs H Q h q => ⟨a, xs, rfl, h, q⟩
end Isl
end
section
set_option Elab.async false
set_option linter.all false
set_option maxRecDepth 100000
set_option maxHeartbeats 4000000
/-! orders; the sorted list of a list's members -/
namespace Isl
open PySem PySem.Spec PyProof.Rows
open PySem.W (dataLt Datum DatumOrd)

/-- a strict total order -/
structure SO {α : Type} (lt : α → α → Bool) : Prop where
  irr : ∀ a, lt a a = false
  tr : ∀ a b c, lt a b = true → lt b c = true → lt a c = true
  tot : ∀ a b, a ≠ b → lt a b = true ∨ lt b a = true
section
variable {α : Type} [DecidableEq α] {lt : α → α → Bool}
theorem SO.asym (S : SO lt) {a b : α} (h : lt a b = true) : lt b a = false := by
  cases q : lt b a with
  | false => rfl
  | true =>
    have := S.tr _ _ _ h q
    rw [S.irr] at this
    cases this
def ins (lt : α → α → Bool) (x : α) : List α → List α
  | [] => [x]
  | y :: ys => if x = y then y :: ys else if lt x y = true then x :: y :: ys else y :: ins lt x ys
/-- the members in order, each once -/
def canon (lt : α → α → Bool) (xs : List α) : List α := xs.foldr (ins lt) []
abbrev Rises (lt : α → α → Bool) (xs : List α) : Prop := xs.Pairwise fun a b => lt a b = true
theorem ins_mem {x z : α} : ∀ {ys : List α}, z ∈ ins lt x ys ↔ z = x ∨ z ∈ ys
  | [] => by simp [ins]
  | y :: ys => by
    unfold ins
    by_cases h : x = y
    · subst h
      rw [if_pos rfl]
      simp
    · rw [if_neg h]
      by_cases h2 : lt x y = true
      · rw [if_pos h2]
        simp
      · rw [if_neg h2, List.mem_cons, List.mem_cons, ins_mem]
        constructor
        · rintro (a | a | a)
          · exact .inr (.inl a)
          · exact .inl a
          · exact .inr (.inr a)
        · rintro (a | a | a)
          · exact .inr (.inl a)
          · exact .inl a
          · exact .inr (.inr a)
theorem ins_rises (S : SO lt) {x : α} : ∀ {ys : List α}, Rises lt ys → Rises lt (ins lt x ys)
  | [], _ => by simp [ins, Rises]
  | y :: ys, h => by
    obtain ⟨h1, h2⟩ := List.pairwise_cons.mp h
    unfold ins
    by_cases e : x = y
    · rw [if_pos e]; exact h
    · rw [if_neg e]
      by_cases q : lt x y = true
      · rw [if_pos q]
        refine List.pairwise_cons.mpr ⟨fun z hz => ?_, h⟩
        rcases List.mem_cons.mp hz with e2 | e2
        · rw [e2]; exact q
        · exact S.tr _ _ _ q (h1 z e2)
      · rw [if_neg q]
        refine List.pairwise_cons.mpr ⟨fun z hz => ?_, ins_rises S h2⟩
        rcases ins_mem.mp hz with e2 | e2
        · rw [e2]
          rcases S.tot x y e with a | a
          · exact absurd a q
          · exact a
        · exact h1 z e2
theorem canon_mem {z : α} : ∀ {xs : List α}, z ∈ canon lt xs ↔ z ∈ xs
  | [] => Iff.rfl
  | x :: xs => by
    show z ∈ ins lt x (canon lt xs) ↔ _
    rw [ins_mem, canon_mem, List.mem_cons]
theorem canon_rises (S : SO lt) : ∀ xs : List α, Rises lt (canon lt xs)
  | [] => List.Pairwise.nil
  | x :: xs => ins_rises S (canon_rises S xs)
/-- two rising lists of the same members are one -/
theorem rises_one (S : SO lt) : ∀ {xs ys : List α}, Rises lt xs → Rises lt ys → (∀ z, z ∈ xs ↔ z ∈ ys) → xs = ys
  | [], [], _, _, _ => rfl
  | [], y :: ys, _, _, h => absurd ((h y).mpr List.mem_cons_self) List.not_mem_nil
  | x :: xs, [], _, _, h => absurd ((h x).mp List.mem_cons_self) List.not_mem_nil
  | x :: xs, y :: ys, hx, hy, h => by
    obtain ⟨a1, a2⟩ := List.pairwise_cons.mp hx
    obtain ⟨b1, b2⟩ := List.pairwise_cons.mp hy
    have e : x = y := by
      rcases List.mem_cons.mp ((h x).mp List.mem_cons_self) with e | e
      · exact e
      · rcases List.mem_cons.mp ((h y).mpr List.mem_cons_self) with e2 | e2
        · exact e2.symm
        · have q1 := b1 x e
          have q2 := a1 y e2
          rw [S.asym q1] at q2
          cases q2
    subst e
    have nx : x ∉ xs := fun m => by
      have := a1 x m
      rw [S.irr] at this
      cases this
    have ny : x ∉ ys := fun m => by
      have := b1 x m
      rw [S.irr] at this
      cases this
    have e2 : xs = ys := rises_one S a2 b2 fun z => by
      constructor
      · intro hz
        rcases List.mem_cons.mp ((h z).mp (List.mem_cons_of_mem _ hz)) with e | e
        · exact absurd (e ▸ hz) nx
        · exact e
      · intro hz
        rcases List.mem_cons.mp ((h z).mpr (List.mem_cons_of_mem _ hz)) with e | e
        · exact absurd (e ▸ hz) ny
        · exact e
    rw [e2]
theorem canon_of (S : SO lt) {xs ys : List α} (h : Rises lt ys) (hm : ∀ z, z ∈ ys ↔ z ∈ xs) : ys = canon lt xs := rises_one S h (canon_rises S xs) fun z => (hm z).trans canon_mem.symm
theorem canon_eq (S : SO lt) {xs ys : List α} : canon lt xs = canon lt ys ↔ ∀ z, z ∈ xs ↔ z ∈ ys := by
  constructor
  · intro e z
    rw [← canon_mem (lt := lt), e, canon_mem]
  · intro h
    exact rises_one S (canon_rises S xs) (canon_rises S ys) fun z => canon_mem.trans ((h z).trans canon_mem.symm)
theorem rises_nodup (S : SO lt) {xs : List α} (h : Rises lt xs) : xs.Nodup := h.imp fun {a b} h e => by
  rw [e, S.irr] at h
  cases h
end
section
variable {α β : Type} [DecidableEq α] [DatumOrd α] [DecidableEq β] [DatumOrd β]
theorem so_of (tot : ∀ a b : α, a ≠ b → DatumOrd.lt a b = true ∨ DatumOrd.lt b a = true) : SO (DatumOrd.lt (α := α)) where
  irr a := by rw [← DatumOrd.lt_eq]; exact PySem.W.dataLt_self _
  tr a b c h1 h2 := by
    rw [← DatumOrd.lt_eq] at h1 h2 ⊢
    exact lex_trans _ _ _ h1 h2
  tot := tot
theorem so_int : SO (DatumOrd.lt (α := Int)) := so_of fun a b h => by
  show decide (a < b) = true ∨ decide (b < a) = true
  rw [decide_eq_true_eq, decide_eq_true_eq]
  omega
theorem so_pair (SA : SO (DatumOrd.lt (α := α))) (SB : SO (DatumOrd.lt (α := β))) : SO (DatumOrd.lt (α := α × β)) := so_of fun p q h => by
  show (if p.1 = q.1 then DatumOrd.lt p.2 q.2 else DatumOrd.lt p.1 q.1) = true ∨ (if q.1 = p.1 then DatumOrd.lt q.2 p.2 else DatumOrd.lt q.1 p.1) = true
  by_cases e : p.1 = q.1
  · rw [if_pos e, if_pos e.symm]
    exact SB.tot _ _ fun e2 => h (Prod.ext e e2)
  · rw [if_neg e, if_neg (Ne.symm e)]
    exact SA.tot _ _ e
theorem list_tot (SA : SO (DatumOrd.lt (α := α))) : ∀ xs ys : List α, xs ≠ ys → PySem.W.listLt xs ys = true ∨ PySem.W.listLt ys xs = true
  | [], [], h => absurd rfl h
  | [], _ :: _, _ => .inl rfl
  | _ :: _, [], _ => .inr rfl
  | x :: xs, y :: ys, h => by
    show (if x = y then PySem.W.listLt xs ys else DatumOrd.lt x y) = true ∨ (if y = x then PySem.W.listLt ys xs else DatumOrd.lt y x) = true
    by_cases e : x = y
    · rw [if_pos e, if_pos e.symm]
      exact list_tot SA xs ys fun e2 => h (by rw [e, e2])
    · rw [if_neg e, if_neg (Ne.symm e)]
      exact SA.tot _ _ e
theorem so_tup (SA : SO (DatumOrd.lt (α := α))) : SO (DatumOrd.lt (α := PySem.W.Tup α)) := so_of fun p q h => by
  show PySem.W.listLt p.items q.items = true ∨ PySem.W.listLt q.items p.items = true
  exact list_tot SA _ _ fun e => h (by cases p; cases q; exact congrArg _ e)
end
abbrev ltP : Pl → Pl → Bool := DatumOrd.lt
abbrev ltN : Nd → Nd → Bool := DatumOrd.lt
theorem soP : SO ltP := so_pair so_int so_int
theorem soN : SO ltN := so_tup soP
theorem dlt {α : Type} [DecidableEq α] [DatumOrd α] (x y : α) : dataLt (Datum.toD x) (Datum.toD y) = DatumOrd.lt x y := DatumOrd.lt_eq x y
end Isl
end
section
set_option Elab.async false
set_option linter.all false
set_option maxRecDepth 100000
set_option maxHeartbeats 4000000
/-! typed sets, sorted, tuples of lists, min -/
namespace Isl
open PySem PySem.Spec PyProof.Rows L2
open Evl (Ex EvT)
open PySem.W (dataLt Datum DatumOrd)
section
variable {α : Type} [DecidableEq α] [DatumOrd α]
abbrev encL (L : List (Addr × α)) : AD := L.map fun p => (p.1, Datum.toD p.2)
/-- a kind of keys: small, not empty tuples; their order total -/
structure KT (α : Type) [DecidableEq α] [DatumOrd α] : Prop where
  key : ∀ x : α, keyT (Datum.toD x) = true
  so : SO (DatumOrd.lt (α := α))
theorem ktP : KT Pl := ⟨key_pl, soP⟩
theorem ktN : KT Nd := ⟨key_nd, soN⟩
theorem keyE (T : KT α) (L : List (Addr × α)) (x : α) : nkD (Datum.toD x) ∈ keysA (encL L) ↔ x ∈ L.map (·.2) := by
  unfold keysA encL
  rw [List.map_map]
  constructor
  · intro h
    obtain ⟨p, hp, e⟩ := List.mem_map.mp h
    exact List.mem_map.mpr ⟨p, hp, nk_eq T.key e⟩
  · intro h
    obtain ⟨p, hp, e⟩ := List.mem_map.mp h
    exact List.mem_map.mpr ⟨p, hp, by rw [← e] <;> rfl⟩
def ElsT (H : Hp) (L : List (Addr × α)) : Prop := ∀ p ∈ L, Td H (.ref p.1) (Datum.toD p.2)
theorem ElsT.els {H : Hp} {L : List (Addr × α)} (T : KT α) (h : ElsT H L) : Els H (encL L) := fun q hq => by
  obtain ⟨p, hp, e⟩ := List.mem_map.mp hq
  rw [← e]
  exact ⟨h p hp, T.key _⟩
theorem ElsT.tk {H H' : Hp} {L : List (Addr × α)} (h : ElsT H L) (e : Tk H H') : ElsT H' L := fun p hp => (h p hp).tk e
theorem ElsT.all {H : Hp} : ∀ {L : List (Addr × α)}, ElsT H L → TdAll H (L.map fun p => V.ref p.1) (L.map fun p => Datum.toD p.2)
  | [], _ => .nil
  | p :: L, h => .cons (h p List.mem_cons_self) (ElsT.all fun q hq => h q (List.mem_cons_of_mem _ hq))
theorem srt_of {L : List (Addr × α)} (hn : ∀ p ∈ L, ∃ x r, (Datum.toD p.2 : PyData) = .tuple (x :: r)) : Srt (encL L) := by
  have e : (encL L).map (·.2) = L.map fun p => Datum.toD p.2 := by rw [List.map_map] <;> rfl
  refine ⟨?_, .inl ?_⟩ <;> rw [e]
  · intro d hd e he
    obtain ⟨p, _, rfl⟩ := List.mem_map.mp hd
    obtain ⟨q, _, rfl⟩ := List.mem_map.mp he
    exact DatumOrd.alike _ _
  · intro d hd
    obtain ⟨p, hp, rfl⟩ := List.mem_map.mp hd
    exact hn p hp
/-- what sorted gives, typed -/
theorem out_of (T : KT α) {L : List (Addr × α)} {M : AD} {H : Hp} (hE : ElsT H L) (hnd : (L.map (·.2)).Nodup) (hp : M.Perm (encL L)) (hs : M.Pairwise fun q r => dataLt r.2 q.2 = false) :
    ∃ M' : List (Addr × α), M = encL M' ∧ M'.map (·.2) = canon DatumOrd.lt (L.map (·.2)) ∧ ElsT H M' := by
  obtain ⟨M', e, pm⟩ : ∃ M' : List (Addr × α), M = encL M' ∧ M'.Perm L := by
    clear hE hnd hs
    generalize hm : encL L = N at hp
    induction hp generalizing L with
    | nil => exact ⟨L, hm.symm, List.Perm.refl L⟩
    | cons x _ ih =>
      cases L with
      | nil => cases hm
      | cons p L =>
        obtain ⟨h1, h2⟩ := List.cons.inj hm
        obtain ⟨M, e, pm⟩ := ih h2
        exact ⟨p :: M, by rw [e, ← h1] <;> rfl, pm.cons p⟩
    | swap x y l =>
      match L, hm with
      | p :: q :: L, hm =>
        obtain ⟨h1, h2⟩ := List.cons.inj hm
        obtain ⟨h3, h4⟩ := List.cons.inj h2
        exact ⟨q :: p :: L, by rw [← h1, ← h3, ← h4] <;> rfl, List.Perm.swap p q L⟩
    | trans _ _ ih1 ih2 =>
      obtain ⟨M, e, pm⟩ := ih2 hm
      obtain ⟨M2, e2, pm2⟩ := ih1 e.symm
      exact ⟨M2, e2, pm2.trans pm⟩
  subst e
  refine ⟨M', rfl, ?_, fun p hp => hE p (pm.mem_iff.mp hp)⟩
  have nd : (M'.map (·.2)).Nodup := (pm.map (·.2)).nodup_iff.mpr hnd
  refine canon_of T.so ?_ fun z => (pm.map (·.2)).mem_iff
  have h1 : M'.Pairwise fun q r => DatumOrd.lt r.2 q.2 = false := by
    rw [List.pairwise_map] at hs
    exact hs.imp fun {a b} h => by
      have h2 : dataLt (Datum.toD b.2) (Datum.toD a.2) = false := h
      rw [dlt] at h2
      exact h2
  have h3 : (M'.map (·.2)).Pairwise fun a b => DatumOrd.lt b a = false := List.pairwise_map.mpr h1
  exact List.Pairwise.imp₂ (fun a b h1 h2 => by
    rcases T.so.tot a b h2 with q | q
    · exact q
    · rw [h1] at q
      cases q) h3 nd
section
variable {K : PySem.W.Frag} {w : World} {σ : L2.St} {H H' : Hp} {ta tb tc te : TE} {ts : TA}
/-- sorted(found) -/
theorem el_sortedA (T : KT α) {i : Nat} {a : Addr} {L : List (Addr × α)} (h : σ[i]? = some (some (.ref a))) (ha : H a = some (SetA w a (encL L))) (hE : ElsT H L) (hnd : (L.map (·.2)).Nodup) (hn : ∀ p ∈ L, ∃ x r, (Datum.toD p.2 : PyData) = .tuple (x :: r)) :
    EL (tCB (rSortedA w) (tCons (tVar i) tNil)) σ H ((canon DatumOrd.lt (L.map (·.2))).map Datum.toD) := fun H1 x Q q => by
  refine ⟨.ref a, h, a, encL L, rfl, x _ _ ha, (hE.tk (tk_ex x)).els T, srt_of hn, fun M p pm hs hp => ?_⟩
  obtain ⟨M', rfl, e, hM⟩ := out_of T (hE.tk (tk_ex x)) hnd pm hs
  refine q p _ _ hp (Evl.Ex.new hp) upd_same ?_
  rw [← e, List.map_map, List.map_map]
  exact (hM.tk (tk_new hp)).all
/-- sorted(set(xs)), xs a list or a tuple -/
theorem el_sortedSet (T : KT α) {te : TE} {xs : List α} (h : ∀ H1, Ex H H1 → ∀ Q : VK, (∀ a ys H2, Ex H1 H2 → (SqL K H2 a ys ∨ SqT K H2 a ys) → TdAll H2 ys (xs.map Datum.toD) → Q (.ref a) H2) → te σ H1 Q) (hl : xs.length ≤ 1228) (hn : ∀ x ∈ xs, ∃ y r, (Datum.toD x : PyData) = .tuple (y :: r)) :
    EL (tCB (rSortedA w) (tCons (tCB (rSetA K w) (tCons te tNil)) tNil)) σ H ((canon DatumOrd.lt xs).map Datum.toD) := fun H1 x Q q => by
  refine h H1 x _ fun a ys H2 x2 hs hT => ?_
  -- the items' addresses
  obtain ⟨ks, e1, e2, hk⟩ : ∃ ks : List (Addr × α), ys = ks.map (fun p => V.ref p.1) ∧ ks.map (·.2) = xs ∧ ElsT H2 ks := by
    clear hs hl q h
    induction xs generalizing ys with
    | nil => cases hT; exact ⟨[], rfl, rfl, fun p hp => (by cases hp)⟩
    | cons z zs ih =>
      cases hT with
      | cons h1 h2 =>
        obtain ⟨ks, e1, e2, hk⟩ := ih (fun x hx => hn x (List.mem_cons_of_mem _ hx)) _ h2
        obtain ⟨y, r, e⟩ := hn z List.mem_cons_self
        have h1' := h1
        rw [e] at h1'
        obtain ⟨b, ws, rfl, _, _⟩ := h1'.toT
        refine ⟨(b, z) :: ks, by rw [e1] <;> rfl, by rw [← e2] <;> rfl, fun p hp => ?_⟩
        rcases List.mem_cons.mp hp with e | e
        · rw [e]; exact h1
        · exact hk p e
  have hk1 : (ks.map fun p => V.ref p.1) = (encL ks).map fun p => V.ref p.1 := by rw [List.map_map] <;> rfl
  subst e1
  rw [hk1] at hs
  refine ⟨a, encL ks, rfl, hs, hk.els T, by rw [List.length_map, ← List.length_map (f := (·.2)), e2]; exact hl, fun b L hb hsub hall hnd => ?_⟩
  obtain ⟨L', rfl, hs'⟩ : ∃ L' : List (Addr × α), L = encL L' ∧ ∀ p ∈ L', p ∈ ks := by
    clear hall hnd
    induction L with
    | nil => exact ⟨[], rfl, fun p hp => (by cases hp)⟩
    | cons q L ih =>
      obtain ⟨L', e, hs2⟩ := ih fun p hp => hsub p (List.mem_cons_of_mem _ hp)
      obtain ⟨r, hr, er⟩ := List.mem_map.mp (hsub q List.mem_cons_self)
      refine ⟨r :: L', by rw [e, ← er] <;> rfl, fun p hp => ?_⟩
      rcases List.mem_cons.mp hp with z | z
      · rw [z]; exact hr
      · exact hs2 p z
  have hE : ElsT (upd H2 b (SetA w b (encL L'))) L' := fun p hp => (hk p (hs' p hp)).ex (Evl.Ex.new hb)
  have hnd' : (L'.map (·.2)).Nodup := by
    have h1 : (L'.map fun p => nkD (Datum.toD p.2)).Nodup := by
      have h2 := hnd
      unfold keysA encL at h2
      rw [List.map_map] at h2
      exact h2
    refine List.pairwise_map.mpr ((List.pairwise_map.mp h1).imp fun {p q} hne e => hne (by rw [e]))
  have hmem : ∀ z, z ∈ L'.map (·.2) ↔ z ∈ xs := fun z => by
    constructor
    · intro hz
      obtain ⟨p, hp, e⟩ := List.mem_map.mp hz
      rw [← e2, ← e]
      exact List.mem_map.mpr ⟨p, hs' p hp, rfl⟩
    · intro hz
      rw [← e2] at hz
      obtain ⟨p, hp, e⟩ := List.mem_map.mp hz
      have h1 := hall (p.1, Datum.toD p.2) (List.mem_map.mpr ⟨p, hp, rfl⟩)
      rw [← e]
      exact (keyE T L' p.2).mp h1
  refine ⟨b, encL L', rfl, upd_same, hE.els T, srt_of fun p hp => hn p.2 ((hmem p.2).mp (List.mem_map.mpr ⟨p, hp, rfl⟩)), fun M p pm hs hp => ?_⟩
  obtain ⟨M', rfl, e, hM⟩ := out_of T hE hnd' pm hs
  refine q p _ _ (Evl.fresh_back x2 (Evl.fresh_back (Evl.Ex.new hb) hp)) ((x2.trans (Evl.Ex.new hb)).trans (Evl.Ex.new hp)) upd_same ?_
  have e4 : canon DatumOrd.lt (L'.map (·.2)) = canon (DatumOrd.lt (α := α)) xs := (canon_eq T.so).mpr hmem
  rw [← e4, ← e, List.map_map, List.map_map]
  exact (hM.tk (tk_new hp)).all
/-- tuple(a list) -/
theorem ed_tupOf {es : List PyData} (h : EL te σ H es) : ED (tCB (fun xs H Q => ∃ p ys, xs = [V.ref p] ∧ ((SqL K H p ys ∧ ∀ l, H l = none → Q (.ref l) (upd H l (.tup ys))) ∨ (SqT K H p ys ∧ Q (.ref p) H))) (tCons te tNil)) σ H (.tuple es) := fun H1 x Q q =>
  h H1 x _ fun p xs H2 hp x2 h2 hT => ⟨p, xs, rfl, .inl ⟨.inl (.inl h2), fun l hl => q _ _ (x2.trans (Evl.Ex.new hl)) (.tup upd_same (hT.ex (Evl.Ex.new hl)))⟩⟩
/-- t not in marks -/
theorem ed_notInSet (T : KT α) {i : Nat} {a : Addr} {L : List (Addr × α)} {z : α} {ref : ∃ y r, (Datum.toD z : PyData) = .tuple (y :: r)} (h1 : ED ta σ H (Datum.toD z)) (h : σ[i]? = some (some (.ref a))) (ha : H a = some (SetA w a (encL L))) (hE : ElsT H L) :
    ED (tOp (rNotInA w) ta (tVar i)) σ H (.bool (!memB z (L.map (·.2)))) := fun H1 x Q q =>
  h1 H1 x _ fun v H2 x2 hv => by
    obtain ⟨y, r, e⟩ := ref
    have hv' := hv
    rw [e] at hv'
    obtain ⟨b, ws, rfl, _, _⟩ := hv'.toT
    refine ⟨.ref a, h, b, a, Datum.toD z, encL L, rfl, rfl, x2 _ _ (x _ _ ha), (hE.tk (tk_ex (x.trans x2))).els T, hv, T.key z, ?_⟩
    have e2 : decide (nkD (Datum.toD z) ∈ keysA (encL L)) = memB z (L.map (·.2)) := decide_eq_decide.mpr (keyE T L z)
    rw [e2]
    exact q _ H2 x2 (.bl _)
/-- a list that is known: == [] -/
theorem ed_eqNv {i : Nat} {a : Addr} {xs : List V} {es : List PyData} (h : σ[i]? = some (some (.ref a))) (ha : H a = some (.lst xs)) (hx : TdAll H xs es) (hs : PyData.plainAll es = true) : ED (tOp (rEqP K) (tVar i) (tLst tNil)) σ H (.bool es.isEmpty) := fun H1 x Q q =>
  ⟨.ref a, h, by show (0 : Nat) ≤ _; exact Nat.zero_le _, fun r hr => by
    refine ⟨.list es, .list [], .lst (.inl (.inl (Evl.Ex.new hr _ _ (x _ _ ha)))) (TdAll.dp _ _ ((hx.ex x).ex (Evl.Ex.new hr))), .lst (.inl (.inl upd_same)) .nil, by simp only [PyData.plain]; exact hs, rfl, ?_⟩
    rw [eqv_nil]
    exact q _ _ (Evl.Ex.new hr) (.bl _)⟩
theorem ed_neNv {i : Nat} {a : Addr} {xs : List V} {es : List PyData} (h : σ[i]? = some (some (.ref a))) (ha : H a = some (.lst xs)) (hx : TdAll H xs es) (hs : PyData.plainAll es = true) : ED (tOp (rNeP K) (tVar i) (tLst tNil)) σ H (.bool (!es.isEmpty)) := fun H1 x Q q =>
  ⟨.ref a, h, by show (0 : Nat) ≤ _; exact Nat.zero_le _, fun r hr => by
    refine ⟨.list es, .list [], .lst (.inl (.inl (Evl.Ex.new hr _ _ (x _ _ ha)))) (TdAll.dp _ _ ((hx.ex x).ex (Evl.Ex.new hr))), .lst (.inl (.inl upd_same)) .nil, by simp only [PyData.plain]; exact hs, rfl, ?_⟩
    rw [eqv_nil]
    exact q _ _ (Evl.Ex.new hr) (.bl _)⟩
/-- min of a known list -/
theorem ed_minV {i : Nat} {a : Addr} {xs : List V} {z : α} {zs : List α} (h : σ[i]? = some (some (.ref a))) (ha : H a = some (.lst xs)) (hx : TdAll H xs ((z :: zs).map Datum.toD)) (hd : Datum.depth α ≤ 40) : ED (tCB (rMinD K) (tCons (tVar i) tNil)) σ H (Datum.toD (PySem.W.minOf z zs)) := fun H1 x Q q => by
  refine ⟨.ref a, h, a, xs, Datum.toD z, zs.map Datum.toD, rfl, .inl (.inl (x _ _ ha)), hx.ex x, PySem.W.alikeAll_datum (z :: zs), PySem.W.plainAll_map (z :: zs), Nat.le_trans (PySem.W.depthAll_map (z :: zs)) hd, fun y hy => ?_⟩
  rw [PySem.W.minD_map] at hy
  exact q _ H1 (Evl.Ex.refl H1) hy
end
end
end Isl
end
section
set_option Elab.async false
set_option linter.all false
set_option maxRecDepth 100000
set_option maxHeartbeats 4000000
/-! dicts whose keys are places, as sets that grow -/
namespace Isl
open PySem PySem.Spec PyProof.Rows L2
open Evl (Ex EvT)
open PySem.W (dataLt Datum DatumOrd)
section
variable {X : Cx}
theorem pi_tup' {K : PySem.W.Frag} {tg l : Expr} {tl : TE} (hK : X.K = K) (hl : PE X l tl) : PI X tg l (iTup K tl) := by
  subst hK
  exact pi_tup hl
theorem pi_list' {K : PySem.W.Frag} {tg l : Expr} {tl : TE} (hK : X.K = K) (hl : PE X l tl) : PI X tg l (iList K tl) := by
  subst hK
  exact pi_list hl
theorem cr_sortedDT' {K : PySem.W.Frag} (hK : X.K = K) (hc : X.calm = true) (hu : X.A.units + 64 < cLine) : CallR X (.builtin "sorted") (rSortedT K) := by
  subst hK
  exact cr_sortedDT hc hu
end
theorem refP (p : Pl) : ∃ y r, (Datum.toD p : PyData) = .tuple (y :: r) := ⟨_, _, rfl⟩
/-- a place as a key -/
def kPl (p : Pl) : List Key := [.inl p.1, .inl p.2]
theorem kPl_inj {p q : Pl} (h : kPl p = kPl q) : p = q := by
  unfold kPl at h
  obtain ⟨h1, h2⟩ := List.cons.inj h
  obtain ⟨h3, _⟩ := List.cons.inj h2
  exact Prod.ext (Sum.inl.inj h1) (Sum.inl.inj h3)
def encK (k : List Key) : PyData := .tuple (k.map fun
  | .inl i => PyData.int i
  | .inr s => PyData.str s)
theorem encK_pl (p : Pl) : encK (kPl p) = Datum.toD p := rfl
theorem td_key {H : Hp} {b : Addr} {p : Pl} (h : H b = some (.tup ((kPl p).map kV))) : Td H (.ref b) (Datum.toD p) := .tup (ds := [.int p.1, .int p.2]) h (.cons (.int _) (.cons (.int _) .nil))
theorem key_td {H : Hp} {v : V} {p : Pl} (h : Td H v (Datum.toD p)) : ∃ b, v = .ref b ∧ H b = some (.tup ((kPl p).map kV)) := by
  obtain ⟨b, xs, rfl, hb, hT⟩ := Td.toT (ds := [.int p.1, .int p.2]) h
  refine ⟨b, rfl, ?_⟩
  cases hT with
  | cons h1 h2 =>
    cases h2 with
    | cons h3 h4 =>
      cases h4
      rw [h1.toI, h3.toI] at hb
      exact hb
/-- a dict that grows: its keys are those of S, each once -/
structure GrowD (b : Addr) (H : Hp) (S : List Pl) (n : Nat) : Prop where
  ex : ∃ (kvs : List (List Key × V)) (L : List Pl), H b = some (.dT kvs) ∧ kvs.map (·.1) = L.map kPl ∧ L.Nodup ∧ (∀ z, z ∈ L ↔ z ∈ S) ∧ L.length ≤ n
theorem GrowD.ext {b : Addr} {H H' : Hp} {S : List Pl} {n : Nat} (g : GrowD b H S n) (e : Ex H H') : GrowD b H' S n := by
  obtain ⟨kvs, L, h1, h2⟩ := g.ex
  exact ⟨kvs, L, e _ _ h1, h2⟩
theorem GrowD.at {b : Addr} {H H' : Hp} {S : List Pl} {n : Nat} (g : GrowD b H S n) (e : H' b = H b) : GrowD b H' S n := by
  obtain ⟨kvs, L, h1, h2⟩ := g.ex
  exact ⟨kvs, L, e.trans h1, h2⟩
theorem GrowD.more {b : Addr} {H : Hp} {S : List Pl} {n m : Nat} (g : GrowD b H S n) (h : n ≤ m) : GrowD b H S m := by
  obtain ⟨kvs, L, h1, h2, h3, h4, h5⟩ := g.ex
  exact ⟨kvs, L, h1, h2, h3, h4, Nat.le_trans h5 h⟩
theorem GrowD.new {b : Addr} {H : Hp} (h : H b = some (.dT [])) : GrowD b H [] 0 := ⟨[], [], h, rfl, List.nodup_nil, fun z => Iff.rfl, Nat.le_refl _⟩
theorem any_key {kvs : List (List Key × V)} {L : List Pl} {p : Pl} (h : kvs.map (·.1) = L.map kPl) : (kvs.any fun kv => decide (kv.1 = kPl p)) = decide (p ∈ L) := by
  have e1 : (kvs.any fun kv => decide (kv.1 = kPl p)) = (kvs.map (·.1)).any fun k => decide (k = kPl p) := by rw [List.any_map] <;> rfl
  rw [e1, h, List.any_map]
  by_cases hm : p ∈ L
  · rw [decide_eq_true hm]
    exact List.any_eq_true.mpr ⟨p, hm, decide_eq_true rfl⟩
  · rw [decide_eq_false hm, Bool.eq_false_iff]
    intro z
    obtain ⟨q, hq, e⟩ := List.any_eq_true.mp z
    have e2 : kPl q = kPl p := of_decide_eq_true e
    exact hm (kPl_inj e2 ▸ hq)
theorem put_keys {kvs : List (List Key × V)} {L : List Pl} {p : Pl} {v : V} (h : kvs.map (·.1) = L.map kPl) : (putK kvs (kPl p) v).map (·.1) = (if p ∈ L then L else L ++ [p]).map kPl := by
  unfold putK
  rw [any_key h]
  by_cases hm : p ∈ L
  · rw [if_pos (decide_eq_true hm), if_pos hm, ← h, List.map_map]
    refine List.map_congr_left fun kv _ => ?_
    show (if kv.1 = kPl p then (kv.1, v) else kv).1 = kv.1
    by_cases e : kv.1 = kPl p
    · rw [if_pos e]
    · rw [if_neg e]
  · rw [if_neg (by rw [decide_eq_false hm]; decide), if_neg hm, List.map_append, List.map_append, h] <;> rfl
theorem val_some {kvs : List (List Key × V)} {L : List Pl} {p : Pl} (h : kvs.map (·.1) = L.map kPl) : (valV kvs (kPl p)).isSome = decide (p ∈ L) := by
  unfold valV
  rw [Option.isSome_map, ← any_key h, Bool.eq_iff_iff, List.find?_isSome, List.any_eq_true]
section
variable {K : PySem.W.Frag} {w : World} {σ : L2.St} {H H' : Hp} {ta tb tc te : TE} {D : Ends}
/-- found[place] = True -/
theorem e_dput {i : Nat} {b : Addr} {p : Pl} {S : List Pl} {n : Nat} (hi : σ[i]? = some (some (.ref b))) (hk : ED ta σ H (Datum.toD p)) (g : GrowD b H S n) (hn : n + 1 ≤ 60000)
    (k : ∀ H', (∀ c o, c ≠ b → H c = some o → H' c = some o) → Tk H H' → GrowD b H' (S ++ [p]) (n + 1) → D.nx σ H') : sDPut (tVar i) ta (tC (.bl true)) D σ H := by
  refine ⟨.ref b, hi, hk H (Evl.Ex.refl H) _ fun v H1 x1 hv => ?_⟩
  obtain ⟨c, rfl, hc⟩ := key_td hv
  obtain ⟨kvs, L, h1, h2, h3, h4, h5⟩ := (g.ext x1).ex
  have hlen : kvs.length = L.length := by
    have := congrArg List.length h2
    rw [List.length_map, List.length_map] at this
    exact this
  refine ⟨b, _, rfl, DPut.t (k := kPl p) h1 hc (by rw [sizeLine_eq]; omega), ?_⟩
  have kk : Tk H1 (upd H1 b (.dT (putK kvs (kPl p) (.bl true)))) := tk_put h1 fun xs z => by cases z
  refine k _ (fun c o hcb e => by rw [upd_ne hcb]; exact x1 _ _ e) ((tk_ex x1).trans kk) ⟨_, _, upd_same, put_keys h2, ?_, ?_, ?_⟩
  · by_cases hm : p ∈ L
    · rw [if_pos hm]; exact h3
    · rw [if_neg hm]
      exact List.nodup_append.mpr ⟨h3, List.pairwise_singleton _ _, fun a ha b hb e => hm (by rw [← List.mem_singleton.mp hb, ← e]; exact ha)⟩
  · intro z
    rw [List.mem_append, List.mem_singleton, ← h4 z]
    by_cases hm : p ∈ L
    · rw [if_pos hm]
      constructor
      · exact fun q => .inl q
      · rintro (q | q)
        · exact q
        · rw [q]; exact hm
    · rw [if_neg hm, List.mem_append, List.mem_singleton]
  · by_cases hm : p ∈ L
    · rw [if_pos hm]; omega
    · rw [if_neg hm, List.length_append, List.length_singleton]; omega
/-- place not in here -/
theorem ed_dnotin {i : Nat} {b : Addr} {p : Pl} {S : List Pl} {n : Nat} (hi : σ[i]? = some (some (.ref b))) (hk : ED ta σ H (Datum.toD p)) (g : GrowD b H S n) : EvT (tB (tDNotIn ta (tVar i))) σ H (!memB p S) := fun H0 x Q q =>
  hk H0 x _ fun v H1 x1 hv => by
    obtain ⟨c, rfl, hc⟩ := key_td hv
    obtain ⟨kvs, L, h1, h2, h3, h4, h5⟩ := (g.ext (x.trans x1)).ex
    refine ⟨.ref b, hi, b, _, rfl, DGet.t (k := kPl p) h1 hc, _, rfl, ?_⟩
    rw [val_some h2]
    have e : decide (p ∈ L) = memB p S := decide_eq_decide.mpr (h4 p)
    rw [e]
    exact q H1 x1
theorem typed_ad {Lp : List Pl} : ∀ {L : AD}, L.map (·.2) = Lp.map (Datum.toD : Pl → PyData) → ∃ L' : List (Addr × Pl), L = encL L' ∧ L'.map (·.2) = Lp := by
  induction Lp with
  | nil =>
    intro L h
    cases L with
    | nil => exact ⟨[], rfl, rfl⟩
    | cons q L => cases h
  | cons p Lp ih =>
    intro L h
    cases L with
    | nil => cases h
    | cons q L =>
      obtain ⟨h1, h2⟩ := List.cons.inj h
      obtain ⟨L', e1, e2⟩ := ih h2
      refine ⟨(q.1, p) :: L', ?_, by rw [List.map_cons, e2]⟩
      rw [e1]
      show q :: encL L' = (q.1, Datum.toD p) :: encL L'
      rw [← h1]
/-- sorted(found), found a dict of places -/
theorem el_sortedD {i : Nat} {b : Addr} {S : List Pl} {n : Nat} (hi : σ[i]? = some (some (.ref b))) (g : GrowD b H S n) (hn : n ≤ 60000) : EL (tCB (rSortedT K) (tCons (tVar i) tNil)) σ H ((canon ltP S).map Datum.toD) := fun H1 x Q q => by
  obtain ⟨kvs, L, h1, h2, h3, h4, h5⟩ := (g.ext x).ex
  have hlen : kvs.length = L.length := by
    have := congrArg List.length h2
    rw [List.length_map, List.length_map] at this
    exact this
  have e3 : kvs.map (fun p => encK p.1) = L.map (Datum.toD : Pl → PyData) := by
    have : kvs.map (fun p => encK p.1) = (kvs.map (·.1)).map encK := by rw [List.map_map] <;> rfl
    rw [this, h2, List.map_map] <;> rfl
  refine ⟨.ref b, hi, b, kvs, encK, rfl, h1, by omega, fun k hk => ?_, fun L0 hL0 => ?_, fun L0 hL0 hE M p pm hs hp => ?_⟩
  · rw [h2] at hk
    obtain ⟨z, _, rfl⟩ := List.mem_map.mp hk
    exact ⟨key_pl z, fun c hc => td_key hc⟩
  · rw [e3] at hL0
    obtain ⟨L', rfl, e5⟩ := typed_ad hL0
    exact srt_of fun p _ => refP p.2
  · rw [e3] at hL0
    obtain ⟨L', rfl, e5⟩ := typed_ad hL0
    have hE' : ElsT H1 L' := fun p hp => (hE _ (List.mem_map.mpr ⟨p, hp, rfl⟩)).1
    obtain ⟨M', rfl, e, hM⟩ := out_of ktP hE' (by rw [e5]; exact h3) pm hs
    refine q p _ _ hp (Evl.Ex.new hp) upd_same ?_
    have e4 : canon DatumOrd.lt (L'.map (·.2)) = canon ltP S := (canon_eq soP).mpr fun z => by rw [e5]; exact h4 z
    rw [← e4, ← e, List.map_map, List.map_map]
    exact (hM.tk (tk_new hp)).all
/-- defs that give a new list -/
def spLF {ι : Type} (args : ι → List PyData) (res : ι → List PyData) : Sp := fun vs H Q _ => ∃ i, TdAll H vs (args i) ∧ ∀ p xs H', H p = none → Ex H H' → H' p = some (.lst xs) → TdAll H' xs (res i) → Q (.ref p) H'
theorem spLF_len {ι : Type} {args : ι → List PyData} {res : ι → List PyData} {n : Nat} (h : ∀ i, (args i).length = n) : ∀ vs H Q E, spLF args res vs H Q E → vs.length = n := fun vs H Q E ⟨i, a, _⟩ => by rw [a.len, h]
theorem el_call {ι : Type} {args : ι → List PyData} {res : ι → List PyData} {E : XK} {ts : TA} {ds : List PyData} (i : ι) (h : EA ts σ H ds) (he : ds = args i) : EL (tCall (spLF args res) [] E ts) σ H (res i) := fun H1 x Q q =>
  h H1 x _ fun vs H2 x2 hvs => ⟨i, by rw [List.append_nil, ← he]; exact hvs, fun p xs H3 hp x3 hp3 hT => q p xs H3 (Evl.fresh_back x2 hp) (x2.trans x3) hp3 hT⟩
end
end Isl
end
section
set_option Elab.async false
set_option linter.all false
set_option maxRecDepth 100000
set_option maxHeartbeats 4000000
/-! the program's tests of places, islands, needs, rules -/
namespace Isl
open PySem PySem.Spec PyProof.Rows L2
open Evl (Ex EvT)
open PySem.W (dataLt Datum DatumOrd)

/-! ### the mirror on data -/
def isIntD : PyData → Bool
  | .int _ => true
  | .bool _ => true
  | _ => false
def isBoolD : PyData → Bool
  | .bool _ => true
  | _ => false
def isTupD : PyData → Bool
  | .tuple _ => true
  | _ => false
def betweenD (lo hi : Int) : PyData → Bool
  | .int i => decide (lo ≤ i) && decide (i ≤ hi)
  | _ => false
def isFromD (lo hi : Int) (d : PyData) : Bool := isIntD d && (!isBoolD d && betweenD lo hi d)
def itemsD : PyData → List PyData
  | .tuple ds => ds
  | _ => []
def isPairD (m : Int) (d : PyData) : Bool := match d with
  | .tuple [a, b] => isFromD (-m) m a && isFromD (-m) m b
  | _ => false
/-- no two neighbours out of order -/
def riseD (ds : List PyData) : Bool := !(ds.zip ds.tail).any fun p => !dataLt p.1 p.2
def isIslandD (d : PyData) : Bool := match d with
  | .tuple ds => decide (ds.length ≤ 400) && (ds.all (isPairD 1000000000) && riseD ds)
  | _ => false
def isNeedD (d : PyData) : Bool := match d with
  | .tuple ds => decide (1 ≤ ds.length) && decide (ds.length ≤ 12) && (ds.all (isPairD 20) && riseD ds)
  | _ => false
theorem kit_int (d : PyData) : kitB (tyD d) "int" = some (isIntD d) := by
  cases d
  · show kitB "NoneType" "int" = some false; decide +kernel
  · show kitB "bool" "int" = some true; decide +kernel
  · show kitB "int" "int" = some true; decide +kernel
  · show kitB "str" "int" = some false; decide +kernel
  · show kitB "list" "int" = some false; decide +kernel
  · show kitB "tuple" "int" = some false; decide +kernel
  · show kitB "dict" "int" = some false; decide +kernel
theorem kit_bool (d : PyData) : kitB (tyD d) "bool" = some (isBoolD d) := by
  cases d
  · show kitB "NoneType" "bool" = some false; decide +kernel
  · show kitB "bool" "bool" = some true; decide +kernel
  · show kitB "int" "bool" = some false; decide +kernel
  · show kitB "str" "bool" = some false; decide +kernel
  · show kitB "list" "bool" = some false; decide +kernel
  · show kitB "tuple" "bool" = some false; decide +kernel
  · show kitB "dict" "bool" = some false; decide +kernel
theorem kit_tup (d : PyData) : kitB (tyD d) "tuple" = some (isTupD d) := by
  cases d
  · show kitB "NoneType" "tuple" = some false; decide +kernel
  · show kitB "bool" "tuple" = some false; decide +kernel
  · show kitB "int" "tuple" = some false; decide +kernel
  · show kitB "str" "tuple" = some false; decide +kernel
  · show kitB "list" "tuple" = some false; decide +kernel
  · show kitB "tuple" "tuple" = some true; decide +kernel
  · show kitB "dict" "tuple" = some false; decide +kernel
theorem pair_of {m : Int} {d : PyData} (h : isPairD m d = true) : ∃ p : Pl, d = Datum.toD p := by
  unfold isPairD at h
  split at h
  · rename_i a b
    rw [Bool.and_eq_true] at h
    unfold isFromD at h
    cases a with
    | int i =>
      cases b with
      | int j => exact ⟨(i, j), rfl⟩
      | _ => simp [isIntD, betweenD, isBoolD] at h
    | _ => simp [isIntD, betweenD, isBoolD] at h
  · cases h
theorem pairs_of {m : Int} : ∀ {ds : List PyData}, ds.all (isPairD m) = true → ∃ ps : List Pl, ds = ps.map Datum.toD
  | [], _ => ⟨[], rfl⟩
  | d :: ds, h => by
    rw [List.all_cons, Bool.and_eq_true] at h
    obtain ⟨p, e⟩ := pair_of h.1
    obtain ⟨ps, e2⟩ := pairs_of h.2
    exact ⟨p :: ps, by rw [e, e2] <;> rfl⟩

section
variable {P : Program} {w : World} {K : PySem.W.Frag} {mg : Str → Option Value} {base : Heap}
theorem pairs1 {H : Hp} {vs : List V} {d : PyData} (h : TdAll H vs [d]) : ∃ v, vs = [v] ∧ Td H v d := by
  cases h with
  | cons a b => cases b; exact ⟨_, rfl, a⟩
theorem pairs2 {H : Hp} {vs : List V} {d e : PyData} (h : TdAll H vs [d, e]) : ∃ v w, vs = [v, w] ∧ Td H v d ∧ Td H w e := by
  cases h with
  | cons a b =>
    obtain ⟨w, rfl, hw⟩ := pairs1 b
    exact ⟨_, _, rfl, a, hw⟩
theorem pairs3 {H : Hp} {vs : List V} {d e f : PyData} (h : TdAll H vs [d, e, f]) : ∃ v w u, vs = [v, w, u] ∧ Td H v d ∧ Td H w e ∧ Td H u f := by
  cases h with
  | cons a b =>
    obtain ⟨w, u, rfl, hw, hu⟩ := pairs2 b
    exact ⟨_, _, _, rfl, a, hw, hu⟩
theorem ed_len {ta : TE} {σ : L2.St} {H : Hp} {ds : List PyData} (h : ED ta σ H (.tuple ds)) : ED (tCB (fun xs H Q => ∃ p ys, xs = [V.ref p] ∧ (SqL K H p ys ∨ SqT K H p ys) ∧ Q (.int (ys.length : Nat)) H) (tCons ta tNil)) σ H (.int (ds.length : Nat)) := ed_lenT rl_len h
theorem ed_neg {ta : TE} {σ : L2.St} {H : Hp} {i : Int} (h : ED ta σ H (.int i)) : ED (tUn (rU fun i => .int (-i)) ta) σ H (.int (-i)) := fun H1 x Q q => h H1 x _ fun v H2 x2 hv => ⟨i, hv.toI, q _ H2 x2 (.int _)⟩

/-! ### is_from -/
theorem sc11 : FnScope ["value", "low", "high"] ["value", "low", "high"] (defScope (topS 11)) := ⟨rfl, rfl, rfl, by decide +kernel, rfl, by decide +kernel, by decide +kernel⟩
def spFrom : Sp := spF (ι := PyData × Int × Int) (fun p => [p.1, .int p.2.1, .int p.2.2]) fun p => .bool (isFromD p.2.1 p.2.2 p.1)
theorem c_is_from (D : Dn K mg "is_from" (topS 11) ["value", "low", "high"]) (B : Bt mg) : Cal P w K mg base CX0 1 "is_from" ["value", "low", "high"] spFrom := D.cal fun f fd F => by
  refine F.ok sc11 (spF_len fun _ => rfl) fun cdv A outer s H vs Q E hr h => ?_
  obtain ⟨⟨d, lo, hi⟩, hT, k⟩ := h
  obtain ⟨v, v2, v3, rfl, h1, h2, h3⟩ := pairs3 hT
  refine ⟨_, (pss_one (ps_ret (pe_and (pe_callB call_isi (by rfl) B.isinstance (by decide +kernel) (pa_cons (pv 0) (pa_cons (pe_ty (n := "int") B.int (by decide +kernel)) pa_nil))) (pe_and (pe_not (pe_callB call_isi (by rfl) B.isinstance (by decide +kernel) (pa_cons (pv 0) (pa_cons (pe_ty (n := "bool") B.bool (by decide +kernel)) pa_nil)))) (pe_one (pe_chain op_le op_le (pv 1) (pv 0) (pv 2))))))), ?_⟩
  refine s_ret (d := .bool (isFromD lo hi d)) (ed_and (ed_isi (ed_var rfl h1) (kit_int d)) fun _ => ed_and (ed_not (ed_isi (ed_var rfl h1) (kit_bool d))) fun _ => ?_) fun v' H' x hv => k v' H' x hv
  cases d with
  | int i => exact ed_chain (d := .int lo) (e := .int i) (f := .int hi) (ed_var rfl h2) (ed_var rfl h1) (fun _ => ed_var rfl h3) r2_B0 fun _ => r2_B0
  | bool b => rename_i hb; cases hb
  | _ => rename_i hi _; cases hi

/-! ### is_pair_from -/
theorem sc12 : FnScope ["value", "most"] ["value", "most"] (defScope (topS 12)) := ⟨rfl, rfl, rfl, by decide +kernel, rfl, by decide +kernel, by decide +kernel⟩
def spPair : Sp := spF (ι := PyData × Int) (fun p => [p.1, .int p.2]) fun p => .bool (isPairD p.2 p.1)
theorem c_is_pair_from (D : Dn K mg "is_pair_from" (topS 12) ["value", "most"]) (B : Bt mg) (c_is_from : Cal P w K mg base CX0 1 "is_from" ["value", "low", "high"] spFrom) : Cal P w K mg base CX0 2 "is_pair_from" ["value", "most"] spPair := D.cal fun f fd F => by
  refine F.ok sc12 (spF_len fun _ => rfl) fun cdv A outer s H vs Q E hr h => ?_
  obtain ⟨⟨d, m⟩, hT, k⟩ := h
  obtain ⟨v, v2, rfl, h1, h2⟩ := pairs2 hT
  refine ⟨_, (pss_cons (ps_if (PW.pt (pw_or (pt_not (pt_val (pe_callB call_isi (by rfl) B.isinstance (by decide +kernel) (pa_cons (pv 0) (pa_cons (pe_ty (n := "tuple") B.tuple (by decide +kernel)) pa_nil))))) (pw_or1 (pt_cmpR op_ne (pe_callB call_len_seq (by rfl) B.len PySem.boot_len (pa_cons (pv 0) pa_nil)) pe_int (nomark _))))) (pss_one (ps_ret pe_bl)) pss_nil) (pss_one (ps_ret (pe_and (pe_cal c_is_from (hr.mono (by decide)) pass0 (pa_cons (pe_ix ix_tup (pv 0) pe_int (fun _ _ => rfl)) (pa_cons (pe_un un_neg (pv 1)) (pa_cons (pv 1) pa_nil)))) (pe_one (pe_cal c_is_from (hr.mono (by decide)) pass0 (pa_cons (pe_ix ix_tup (pv 0) pe_int (fun _ _ => rfl)) (pa_cons (pe_un un_neg (pv 1)) (pa_cons (pv 1) pa_nil))))))))), ?_⟩
  refine q_if (b := !isTupD d || !decide (((itemsD d).length : Int) = 2)) (Evl.et_or (Evl.et_not (et_B (ed_isi (ed_var rfl h1) (kit_tup d)))) fun ht => ?_) (fun hb H1 x1 => ?_) fun hb H1 x1 => ?_
  · cases d with
    | tuple ds => exact et_test (ed_op (ed_len (ed_var rfl h1)) ed_int r2_ne)
    | _ => cases ht
  · refine s_ret ed_bl fun v' H' x hv => k v' H' (x1.trans x) ?_
    have e : isPairD m d = false := by
      cases d with
      | tuple ds =>
        match ds, hb with
        | [], _ => rfl
        | [_], _ => rfl
        | [_, _], hb => simp [isTupD, itemsD] at hb
        | _ :: _ :: _ :: _, _ => rfl
      | _ => rfl
    show Td H' v' (.bool (isPairD m d))
    rw [e]
    exact hv
  · obtain ⟨a, b, rfl⟩ : ∃ a b, d = .tuple [a, b] := by
      cases d with
      | tuple ds =>
        have h5 : (ds.length : Int) = 2 := by
          by_cases h7 : (ds.length : Int) = 2
          · exact h7
          · have h8 : (!isTupD (.tuple ds) || !decide (((itemsD (.tuple ds)).length : Int) = 2)) = true := by simp [itemsD, h7]
            rw [h8] at hb
            cases hb
        match ds, h5 with
        | [a, b], _ => exact ⟨a, b, rfl⟩
        | [], h5 => simp at h5
        | [_], h5 => simp at h5
        | _ :: _ :: _ :: l, h5 =>
          simp only [List.length_cons] at h5
          omega
      | _ => cases hb
    have e0 : atI [a, b] 0 = some a := rfl
    have e1 : atI [a, b] 1 = some b := rfl
    exact s_ret (d := .bool (isPairD m (.tuple [a, b]))) (ed_and (ed_call (a, -m, m) (ea_cons (ed_op (ed_var rfl (h1.ex x1)) ed_int (r2_ixT e0)) (ea_cons (ed_neg (ed_var rfl (h2.ex x1))) (ea_cons (ed_var rfl (h2.ex x1)) ea_nil))) rfl) fun _ =>
      ed_call (b, -m, m) (ea_cons (ed_op (ed_var rfl (h1.ex x1)) ed_int (r2_ixT e1)) (ea_cons (ed_neg (ed_var rfl (h2.ex x1))) (ea_cons (ed_var rfl (h2.ex x1)) ea_nil))) rfl) fun v' H' x hv => k v' H' (x1.trans x) hv

/-! ### is_place -/
theorem sc13 : FnScope ["value"] ["value"] (defScope (topS 13)) := ⟨rfl, rfl, rfl, by decide +kernel, rfl, by decide +kernel, by decide +kernel⟩
def spPlace : Sp := spF (ι := PyData) (fun p => [p]) fun p => .bool (isPairD 1000000000 p)
theorem c_is_place (D : Dn K mg "is_place" (topS 13) ["value"]) (B : Bt mg) (c_is_pair_from : Cal P w K mg base CX0 2 "is_pair_from" ["value", "most"] spPair) : Cal P w K mg base CX0 3 "is_place" ["value"] spPlace := D.cal fun f fd F => by
  refine F.ok sc13 (spF_len fun _ => rfl) fun cdv A outer s H vs Q E hr h => ?_
  obtain ⟨d, hT, k⟩ := h
  obtain ⟨v, rfl, h1⟩ := pairs1 hT
  refine ⟨_, (pss_one (ps_ret (pe_cal c_is_pair_from (hr.mono (by decide)) pass0 (pa_cons (pv 0) (pa_cons (pe_globI B.MOST_PLACE) pa_nil))))), ?_⟩
  exact s_ret (ed_call (d, 1000000000) (ea_cons (ed_var rfl h1) (ea_cons ed_int ea_nil)) rfl) fun v' H' x hv => k v' H' x hv

/-! ### added, taken_off -/
theorem sc14 : FnScope ["one", "other"] ["one", "other"] (defScope (topS 14)) := ⟨rfl, rfl, rfl, by decide +kernel, rfl, by decide +kernel, by decide +kernel⟩
theorem sc15 : FnScope ["one", "other"] ["one", "other"] (defScope (topS 15)) := ⟨rfl, rfl, rfl, by decide +kernel, rfl, by decide +kernel, by decide +kernel⟩
def addP (p q : Pl) : Pl := (p.1 + q.1, p.2 + q.2)
def offP (p q : Pl) : Pl := (p.1 - q.1, p.2 - q.2)
def spAdded : Sp := spF (ι := Pl × Pl) (fun p => [Datum.toD p.1, Datum.toD p.2]) fun p => Datum.toD (addP p.1 p.2)
def spOff : Sp := spF (ι := Pl × Pl) (fun p => [Datum.toD p.1, Datum.toD p.2]) fun p => Datum.toD (offP p.1 p.2)
theorem ed_ix0 {ta : TE} {σ : L2.St} {H : Hp} {p : Pl} (h : ED ta σ H (Datum.toD p)) : ED (tOp (rIxT K) ta (tC (.int 0))) σ H (.int p.1) := ed_op (d := .tuple [.int p.1, .int p.2]) h ed_int (r2_ixT rfl)
theorem ed_ix1 {ta : TE} {σ : L2.St} {H : Hp} {p : Pl} (h : ED ta σ H (Datum.toD p)) : ED (tOp (rIxT K) ta (tC (.int 1))) σ H (.int p.2) := ed_op (d := .tuple [.int p.1, .int p.2]) h ed_int (r2_ixT rfl)
theorem ed_pl {ta tb : TE} {σ : L2.St} {H : Hp} {i j : Int} (h : ED ta σ H (.int i)) (h2 : ED tb σ H (.int j)) : ED (tTup (tCons ta (tCons tb tNil))) σ H (Datum.toD ((i, j) : Pl)) := ed_tup (ds := [.int i, .int j]) (ea_cons h (ea_cons h2 ea_nil)) (by show 2 ≤ sizeLine; decide)
theorem c_added (D : Dn K mg "added" (topS 14) ["one", "other"]) (B : Bt mg) : Cal P w K mg base CX0 1 "added" ["one", "other"] spAdded := D.cal fun f fd F => by
  refine F.ok sc14 (spF_len fun _ => rfl) fun cdv A outer s H vs Q E hr h => ?_
  obtain ⟨⟨p, q⟩, hT, k⟩ := h
  obtain ⟨v, v2, rfl, h1, h2⟩ := pairs2 hT
  refine ⟨_, (pss_one (ps_ret (pe_tup (pa_cons (pe_op op_add (pe_ix ix_tup (pv 0) pe_int (fun _ _ => rfl)) (pe_ix ix_tup (pv 1) pe_int (fun _ _ => rfl))) (pa_cons (pe_op op_add (pe_ix ix_tup (pv 0) pe_int (fun _ _ => rfl)) (pe_ix ix_tup (pv 1) pe_int (fun _ _ => rfl))) pa_nil))))), ?_⟩
  exact s_ret (ed_pl (ed_op (ed_ix0 (ed_var rfl h1)) (ed_ix0 (ed_var rfl h2)) r2_I0) (ed_op (ed_ix1 (ed_var rfl h1)) (ed_ix1 (ed_var rfl h2)) r2_I0)) fun v' H' x hv => k v' H' x hv
theorem c_taken_off (D : Dn K mg "taken_off" (topS 15) ["one", "other"]) (B : Bt mg) : Cal P w K mg base CX0 1 "taken_off" ["one", "other"] spOff := D.cal fun f fd F => by
  refine F.ok sc15 (spF_len fun _ => rfl) fun cdv A outer s H vs Q E hr h => ?_
  obtain ⟨⟨p, q⟩, hT, k⟩ := h
  obtain ⟨v, v2, rfl, h1, h2⟩ := pairs2 hT
  refine ⟨_, (pss_one (ps_ret (pe_tup (pa_cons (pe_op op_sub (pe_ix ix_tup (pv 0) pe_int (fun _ _ => rfl)) (pe_ix ix_tup (pv 1) pe_int (fun _ _ => rfl))) (pa_cons (pe_op op_sub (pe_ix ix_tup (pv 0) pe_int (fun _ _ => rfl)) (pe_ix ix_tup (pv 1) pe_int (fun _ _ => rfl))) pa_nil))))), ?_⟩
  exact s_ret (ed_pl (ed_op (ed_ix0 (ed_var rfl h1)) (ed_ix0 (ed_var rfl h2)) r2_I0) (ed_op (ed_ix1 (ed_var rfl h1)) (ed_ix1 (ed_var rfl h2)) r2_I0)) fun v' H' x hv => k v' H' x hv
end
end Isl
end
section
set_option Elab.async false
set_option linter.all false
set_option maxRecDepth 100000
set_option maxHeartbeats 4000000
/-! is_island, is_need, odd_set, has_all, holds_one -/
namespace Isl
open PySem PySem.Spec PyProof.Rows L2
open Evl (Ex EvT)
open PySem.W (dataLt Datum DatumOrd)

theorem nb_t {A B : Prop} [Decidable A] [Decidable B] (h : (!(decide A && decide B)) = true) : ¬ (A ∧ B) := fun z => by
  rw [decide_eq_true z.1, decide_eq_true z.2] at h
  cases h
theorem nb_f {A B : Prop} [Decidable A] [Decidable B] (h : (!(decide A && decide B)) = false) : A ∧ B := by
  by_cases a : A
  · by_cases b : B
    · exact ⟨a, b⟩
    · rw [decide_eq_false b, Bool.and_false] at h; cases h
  · rw [decide_eq_false a] at h; cases h
theorem cut1 (ds : List PyData) : cutD ds (some 1) none = ds.tail := by
  unfold cutD HT.sIx
  cases ds with
  | nil => rfl
  | cons d ds =>
    have e1 : min (1 : Int) ((d :: ds).length : Int) = 1 := by
      simp only [List.length_cons]
      omega
    simp [e1]
theorem tailD (ps : List Pl) : (ps.map Datum.toD).tail = (ps.tail.map Datum.toD : List PyData) := by cases ps <;> rfl
def hasAll (n o : Nd) : Bool := o.items.all fun p => memB p n.items
def holdsOne (n : Nd) (r : List Nd) : Bool := r.any fun o => hasAll n o
theorem rise_typed (ps : List Pl) : riseD (ps.map Datum.toD) = !(ps.zip ps.tail).any fun p => !dataLt (Datum.toD p.1) (Datum.toD p.2) := by
  unfold riseD
  rw [tailD, List.zip_map, List.any_map] <;> rfl
/-- what odd_set answers -/
def oddD (d : PyData) : PyData := match d with
  | .tuple ds => if 1 ≤ ds.length ∧ ds.length ≤ 60 then (match ds.findIdx? fun n => !isNeedD n with
    | some i => .tuple [.int (i : Nat)]
    | none => .none) else .tuple []
  | _ => .tuple []

section
variable {P : Program} {w : World} {K : PySem.W.Frag} {mg : Str → Option Value} {base : Heap} {ta tb : TE} {σ : L2.St} {H : Hp}
theorem ed_geP {p q : Pl} (h1 : ED ta σ H (Datum.toD p)) (h2 : ED tb σ H (Datum.toD q)) : ED (tOp rGeD ta tb) σ H (.bool (!dataLt (Datum.toD p) (Datum.toD q))) := ed_op h1 h2 (r2_ge (DatumOrd.alike p q) (DatumOrd.notNone p) (ok_pl p))
theorem zip_typed {ps qs : List Pl} {p : PyData × PyData} (h : p ∈ (ps.map Datum.toD).zip (qs.map Datum.toD)) : ∃ x y : Pl, p = (Datum.toD x, Datum.toD y) := by
  obtain ⟨a, b⟩ := p
  have h1 := (List.of_mem_zip h).1
  have h2 := (List.of_mem_zip h).2
  obtain ⟨x, _, rfl⟩ := List.mem_map.mp h1
  obtain ⟨y, _, rfl⟩ := List.mem_map.mp h2
  exact ⟨x, y, rfl⟩
/-- isinstance of a list -/
theorem ed_isiL {i : Nat} {a : Addr} {xs : List V} (h : σ[i]? = some (some (.ref a))) (ha : H a = some (.lst xs)) : ED (tCB (rIsi K) (tCons (tVar i) (tCons (tC (.ty "tuple")) tNil))) σ H (.bool false) := fun H1 x Q q =>
  ⟨.ref a, h, .ref a, .ty "tuple", _, _, false, rfl, .ty _, .base (.lst (x _ _ ha)), kit_ty (by decide +kernel), q _ H1 (Evl.Ex.refl H1) (.bl false)⟩

/-! ### is_island -/
theorem sc18 : FnScope ["value", "place", "near", "far"] ["value"] (defScope (topS 18)) := ⟨rfl, rfl, rfl, by decide +kernel, rfl, by decide +kernel, by decide +kernel⟩
/-- data, or some list -/
def OdV (H : Hp) (v : V) (d : PyData) : Prop := Td H v d ∨ (d = .list [] ∧ ∃ a xs, v = .ref a ∧ H a = some (.lst xs))
theorem OdV.ex {H H' : Hp} {v : V} {d : PyData} (h : OdV H v d) (e : Ex H H') : OdV H' v d := by
  rcases h with h | ⟨h, a, xs, rfl, ha⟩
  · exact .inl (h.ex e)
  · exact .inr ⟨h, a, xs, rfl, e _ _ ha⟩
def spIsland : Sp := fun vs H Q _ => ∃ v d, vs = [v] ∧ OdV H v d ∧ ∀ H', Ex H H' → Q (.bl (isIslandD d)) H'
theorem c_is_island (D : Dn K mg "is_island" (topS 18) ["value"]) (B : Bt mg) (c_is_place : Cal P w K mg base CX0 3 "is_place" ["value"] spPlace) : Cal P w K mg base CX0 4 "is_island" ["value"] spIsland := D.cal fun f fd F => by
  refine F.ok sc18 (fun vs H Q E h => by obtain ⟨v, d, rfl, _⟩ := h; rfl) fun cdv A outer s H vs Q E hr h => ?_
  obtain ⟨v, d, rfl, hv, k⟩ := h
  refine ⟨_, (pss_cons (ps_if (PW.pt (pw_or (pt_not (pt_val (pe_callB call_isi (by rfl) B.isinstance (by decide +kernel) (pa_cons (pv 0) (pa_cons (pe_ty (n := "tuple") B.tuple (by decide +kernel)) pa_nil))))) (pw_or1 (pt_cmpR op_gt (pe_callB call_len_seq (by rfl) B.len PySem.boot_len (pa_cons (pv 0) pa_nil)) (pe_globI B.MOST_MARKS) (nomark _))))) (pss_one (ps_ret pe_bl)) pss_nil) (pss_cons (ps_for PassesOwn.never rfl (pi_tup (pv 0)) (pg_name (i := 1) sc18.nd rfl (.inl rfl)) (pss_one (ps_if (pt_not (pt_val (pe_cal c_is_place (hr.mono (by decide)) pass0 (pa_cons (pv 1) pa_nil)))) (pss_one (ps_ret pe_bl)) pss_nil))) (pss_cons (ps_for PassesOwn.never rfl (RZ.pi_zipA (by rfl) B.zip (pa_cons (pv 0) (pa_cons (pe_slice sl_tupA (pv 0) (po_some pe_int) po_none) pa_nil))) (pg_tup (by rfl) (pgs_cons (pg_name (i := 2) sc18.nd rfl (.inl rfl)) (pgs_cons (pg_name (i := 3) sc18.nd rfl (.inl rfl)) pgs_nil))) (pss_one (ps_if (pt_cmpR (op_geD hr.units) (pv 2) (pv 3) (nomark _)) (pss_one (ps_ret pe_bl)) pss_nil))) (pss_one (ps_ret pe_bl))))), ?_⟩
  rcases hv with hv | ⟨rfl, a, xs, rfl, ha⟩
  · refine q_if (b := !isTupD d || decide ((400 : Int) < ((itemsD d).length : Nat))) (Evl.et_or (Evl.et_not (et_B (ed_isi (ed_var rfl hv) (kit_tup d)))) fun ht => ?_) (fun hb H1 x1 => ?_) fun hb H1 x1 => ?_
    · cases d with
      | tuple ds => exact et_test (ed_op (ed_len (ed_var rfl hv)) ed_int r2_B0)
      | _ => cases ht
    · have e : isIslandD d = false := by
        cases d with
        | tuple ds =>
          have h1 : ¬ ds.length ≤ 400 := by
            have h2 : (400 : Int) < (ds.length : Nat) := of_decide_eq_true hb
            omega
          simp [isIslandD, h1]
        | _ => rfl
      rw [e] at k
      exact s_ret ed_bl fun v' H' x hv => by rw [hv.toB]; exact k H' (x1.trans x)
    · obtain ⟨ds, rfl⟩ : ∃ ds, d = .tuple ds := by
        cases d with
        | tuple ds => exact ⟨ds, rfl⟩
        | _ => cases hb
      have hle : ds.length ≤ 400 := by
        have h2 : ¬ (400 : Int) < (ds.length : Nat) := of_decide_eq_false hb
        omega
      refine q_forT (ed_var rfl (hv.ex x1)) (fun H2 i σ' H' => Ex H2 H' ∧ (∃ x, σ' = [some v, x, none, none]) ∧ (ds.take i).all (isPairD 1000000000) = true) (fun H2 x2 => ⟨Evl.Ex.refl _, ⟨none, rfl⟩, rfl⟩) (fun H2 i σ' H' p => tk_ex p.1) (fun H2 x2 i d' v' σ' H' hd p hv' => ?_) fun H2 x2 σ' H' p => ?_
      · obtain ⟨ex, ⟨x, rfl⟩, hall⟩ := p
        show tIfS _ _ _ _ _ _
        refine s_ifN (b := !isPairD 1000000000 d') (Evl.et_not (et_B (ed_call d' (ea_cons (ed_var rfl hv') ea_nil) rfl))) (fun hb H3 x3 => ?_) fun hb H3 x3 => ?_
        · have e : isIslandD (.tuple ds) = false := by
            have h1 : ds.all (isPairD 1000000000) = false := by
              rw [Bool.eq_false_iff]
              intro z
              have := List.all_eq_true.mp z d' (List.mem_of_getElem? hd)
              rw [this] at hb
              cases hb
            simp [isIslandD, h1]
          rw [e] at k
          exact s_ret ed_bl fun v' H' x hv => by rw [hv.toB]; exact k H' ((((x1.trans x2).trans ex).trans x3).trans x)
        · refine ⟨ex.trans x3, ⟨some v', rfl⟩, ?_⟩
          have h1 : isPairD 1000000000 d' = true := by simpa using hb
          rw [List.take_succ, hd]
          simp [hall, h1]
      · obtain ⟨ex, ⟨x, rfl⟩, hall⟩ := p
        rw [List.take_length] at hall
        obtain ⟨ps, rfl⟩ := pairs_of hall
        have hv3 : Td H' v (.tuple (ps.map Datum.toD)) := ((hv.ex x1).ex x2).ex ex
        refine q_forZ (ds := ps.map Datum.toD) (es := (ps.map Datum.toD).tail) (ea_cons (ed_var rfl hv3) (ea_cons (ed_is (ed_slT (ed_var rfl hv3) (eo_some ed_int) eo_none) (by rw [cut1])) ea_nil))
          (fun H3 n σ' H' => Ex H3 H' ∧ (∃ y z, σ' = [some v, x, y, z]) ∧ (((ps.map Datum.toD).zip (ps.map Datum.toD).tail).take n).all (fun p => dataLt p.1 p.2) = true) (fun H3 x3 => ⟨Evl.Ex.refl _, ⟨none, none, rfl⟩, rfl⟩) (fun H3 n σ' H' p => tk_ex p.1)
          (fun H3 n σ' H' T xs p hT => ⟨p.1.trans (Evl.Ex.new hT), p.2⟩) (fun H3 x3 n d1 d2 u1 u2 σ' H4 hd1 hd2 p hu1 hu2 => ?_) fun H3 x3 σ' H4 p => ?_
        · obtain ⟨ex3, ⟨y, z, rfl⟩, hall3⟩ := p
          have hz : ((ps.map Datum.toD).zip (ps.map Datum.toD).tail)[n]? = some (d1, d2) := by rw [List.getElem?_zip_eq_some]; exact ⟨hd1, hd2⟩
          have hmem := List.mem_of_getElem? hz
          have hmem2 := hmem
          rw [tailD] at hmem2
          obtain ⟨p1, p2, e12⟩ := zip_typed hmem2
          obtain ⟨rfl, rfl⟩ := Prod.mk.inj e12
          show tIfS _ _ _ _ _ _
          refine s_ifN (b := !dataLt (Datum.toD p1) (Datum.toD p2)) (et_test (ed_geP (ed_var rfl hu1) (ed_var rfl hu2))) (fun hb H5 x5 => ?_) fun hb H5 x5 => ?_
          · have e : isIslandD (.tuple (ps.map Datum.toD)) = false := by
              have h1 : riseD (ps.map Datum.toD) = false := by
                unfold riseD
                rw [Bool.not_eq_false']
                exact List.any_eq_true.mpr ⟨_, hmem, hb⟩
              simp [isIslandD, h1]
            rw [e] at k
            exact s_ret ed_bl fun v' H' x hv => by rw [hv.toB]; exact k H' ((((((x1.trans x2).trans ex).trans x3).trans ex3).trans x5).trans x)
          · refine ⟨ex3.trans x5, ⟨some u1, some u2, rfl⟩, ?_⟩
            have h1 : dataLt (Datum.toD p1) (Datum.toD p2) = true := by simpa using hb
            rw [List.take_succ, hz]
            simp [hall3, h1]
        · obtain ⟨ex3, ⟨y, z, rfl⟩, hall3⟩ := p
          rw [← List.length_zip, List.take_length] at hall3
          have e : isIslandD (.tuple (ps.map Datum.toD)) = true := by
            have h1 : riseD (ps.map Datum.toD) = true := by
              unfold riseD
              rw [Bool.not_eq_true', Bool.eq_false_iff]
              intro q
              obtain ⟨p, hp, hb⟩ := List.any_eq_true.mp q
              rw [List.all_eq_true.mp hall3 p hp] at hb
              cases hb
            simp only [isIslandD, h1, hall, Bool.and_true]
            exact decide_eq_true hle
          rw [e] at k
          exact s_ret ed_bl fun v' H' x hv => by rw [hv.toB]; exact k H' (((((x1.trans x2).trans ex).trans x3).trans ex3).trans x)
  · refine q_if (b := true || false) (Evl.et_or (Evl.et_not (et_B (ed_isiL rfl ha))) fun ht => by cases ht) (fun hb H1 x1 => ?_) fun hb H1 x1 => by cases hb
    exact s_ret ed_bl fun v' H' x hv => by rw [hv.toB]; exact k H' (x1.trans x)

/-! ### is_need -/
theorem sc23 : FnScope ["value", "place", "near", "far"] ["value"] (defScope (topS 23)) := ⟨rfl, rfl, rfl, by decide +kernel, rfl, by decide +kernel, by decide +kernel⟩
def spNeedP : Sp := spF (ι := PyData) (fun p => [p]) fun p => .bool (isNeedD p)
theorem sz_small {n : Nat} (h : n ≤ 60000) : n ≤ sizeLine := Nat.le_trans h (by rw [sizeLine_eq]; decide)
theorem c_is_need (D : Dn K mg "is_need" (topS 23) ["value"]) (B : Bt mg) (c_is_pair_from : Cal P w K mg base CX0 2 "is_pair_from" ["value", "most"] spPair) : Cal P w K mg base CX0 3 "is_need" ["value"] spNeedP := D.cal fun f fd F => by
  refine F.ok sc23 (spF_len fun _ => rfl) fun cdv A outer s H vs Q E hr h => ?_
  obtain ⟨d, hT, k⟩ := h
  obtain ⟨v, rfl, hv⟩ := pairs1 hT
  refine ⟨_, (pss_cons (ps_if (PW.pt (pw_or (pt_not (pt_val (pe_callB call_isi (by rfl) B.isinstance (by decide +kernel) (pa_cons (pv 0) (pa_cons (pe_ty (n := "tuple") B.tuple (by decide +kernel)) pa_nil))))) (pw_or1 (pt_not (pt_chain op_le op_le pe_int (pe_callB call_len_seq (by rfl) B.len PySem.boot_len (pa_cons (pv 0) pa_nil)) (pe_globI B.MOST_PLACES)))))) (pss_one (ps_ret pe_bl)) pss_nil) (pss_cons (ps_if (pt_cmpR (op_neP' (K := K) rfl hr.units) (pe_lc (own := [("place", 1)]) (g := (gName 1)) rfl sc23.nd (pi_tup (pv 0)) (blkOk_by (N := ["value", "place", "near", "far"]) (sc := defScope (topS 23)) (by decide +kernel)) (fun _ _ _ _ _ => (pg_name (i := 1) sc23.nd rfl (.inl rfl))) (fun _ _ _ _ _ => (pts_one (pt_not (pt_val (pe_cal c_is_pair_from (hr.mono (by decide)) pass0 (pa_cons (pv 1) (pa_cons (pe_globI B.MOST_SIZE) pa_nil))))))) (fun _ _ _ _ _ => pe_int)) (pe_lst pa_nil) (nomark _)) (pss_one (ps_ret pe_bl)) pss_nil) (pss_one (ps_ret (pe_cmpR (op_eqP' (K := K) rfl hr.units) (pe_lc (own := [("near", 2), ("far", 3)]) (g := (gTup _ 2 (gCons (gName 2) (gCons (gName 3) gNil)))) rfl sc23.nd (RZ.pi_zipA (by rfl) B.zip (pa_cons (pv 0) (pa_cons (pe_slice sl_tupA (pv 0) (po_some pe_int) po_none) pa_nil))) (blkOk_by (N := ["value", "place", "near", "far"]) (sc := defScope (topS 23)) (by decide +kernel)) (fun _ _ _ _ _ => (pg_tup (by rfl) (pgs_cons (pg_name (i := 2) sc23.nd rfl (.inl rfl)) (pgs_cons (pg_name (i := 3) sc23.nd rfl (.inl rfl)) pgs_nil)))) (fun _ _ _ _ _ => (pts_one (pt_cmpR (op_geD hr.units) (pv 2) (pv 3) (nomark _)))) (fun _ _ _ _ _ => pe_int)) (pe_lst pa_nil) (nomark _)))))), ?_⟩
  refine q_if (b := !isTupD d || !(decide ((1 : Int) ≤ ((itemsD d).length : Nat)) && decide (((itemsD d).length : Nat) ≤ (12 : Int)))) (Evl.et_or (Evl.et_not (et_B (ed_isi (ed_var rfl hv) (kit_tup d)))) fun ht => ?_) (fun hb H1 x1 => ?_) fun hb H1 x1 => ?_
  · cases d with
    | tuple ds => exact Evl.et_not (et_test (ed_chain ed_int (ed_len (ed_var rfl hv)) (fun _ => ed_int) r2_B0 fun _ => r2_B0))
    | _ => cases ht
  · have e : isNeedD d = false := by
      cases d with
      | tuple ds =>
        have h0 : ¬ (1 ≤ ds.length ∧ ds.length ≤ 12) := by
          have h2 := nb_t (A := (1 : Int) ≤ (ds.length : Nat)) (B := ((ds.length : Nat) : Int) ≤ 12) hb
          omega
        have h1 : (decide (1 ≤ ds.length) && decide (ds.length ≤ 12)) = false := by
          rw [Bool.eq_false_iff]
          intro z
          rw [Bool.and_eq_true, decide_eq_true_eq, decide_eq_true_eq] at z
          exact h0 z
        simp [isNeedD, h1]
      | _ => rfl
    refine s_ret ed_bl fun v' H' x hv' => k v' H' (x1.trans x) ?_
    show Td H' v' (.bool (isNeedD d))
    rw [e]; exact hv'
  · obtain ⟨ds, rfl⟩ : ∃ ds, d = .tuple ds := by
      cases d with
      | tuple ds => exact ⟨ds, rfl⟩
      | _ => cases hb
    have hle : 1 ≤ ds.length ∧ ds.length ≤ 12 := by
      have h2 := nb_f (A := (1 : Int) ≤ (ds.length : Nat)) (B := ((ds.length : Nat) : Int) ≤ 12) hb
      omega
    have hd0 : (decide (1 ≤ ds.length) && decide (ds.length ≤ 12)) = true := by simp [hle.1, hle.2]
    refine q_if (b := ds.any fun p => !isPairD 20 p) (et_test (ed_someOf (el_lc (fun p => !isPairD 20 p) (fun _ => .int 1) (ed_var rfl (hv.ex x1)) (sz_small (by omega)) (fun _ => rfl)
      (fun d' v' H2 _ x2 hv' => Evl.et_not (et_B (ed_call (d', 20) (ea_cons (ed_var rfl hv') (ea_cons ed_int ea_nil)) rfl))) fun _ _ _ _ _ _ _ => ed_int))) (fun hb2 H2 x2 => ?_) fun hb2 H2 x2 => ?_
    · have e : isNeedD (.tuple ds) = false := by
        have h1 : ds.all (isPairD 20) = false := by
          rw [Bool.eq_false_iff]
          intro z
          obtain ⟨p, hp, hn⟩ := List.any_eq_true.mp hb2
          rw [List.all_eq_true.mp z p hp] at hn
          cases hn
        simp [isNeedD, h1]
      refine s_ret ed_bl fun v' H' x hv' => k v' H' ((x1.trans x2).trans x) ?_
      show Td H' v' (.bool (isNeedD (.tuple ds)))
      rw [e]; exact hv'
    · have hall : ds.all (isPairD 20) = true := by
        rw [List.all_eq_true]
        intro p hp
        cases hq : isPairD 20 p with
        | true => rfl
        | false =>
          have : (ds.any fun p => !isPairD 20 p) = true := List.any_eq_true.mpr ⟨p, hp, by rw [hq] <;> rfl⟩
          rw [this] at hb2
          cases hb2
      obtain ⟨ps, rfl⟩ := pairs_of hall
      have hv3 : Td H2 v (.tuple (ps.map Datum.toD)) := (hv.ex x1).ex x2
      refine s_ret (d := .bool (isNeedD (.tuple (ps.map Datum.toD)))) (ed_is (ed_noneOf (el_lcZ (as := ps) (bs := ps.tail) Datum.toD (fun p => !dataLt (Datum.toD p.1) (Datum.toD p.2)) (fun _ => .int 1)
        (ea_cons (ed_var rfl hv3) (ea_cons (ed_is (ed_slT (ed_var rfl hv3) (eo_some ed_int) eo_none) (by rw [cut1, tailD])) ea_nil)) (sz_small (by rw [List.length_map] at hle; rw [List.length_zip]; omega)) (fun _ _ => rfl) (fun p v1 v2 H3 hp x3 h1 h2 => et_test (ed_geP (ed_var rfl h1) (ed_var rfl h2))) fun _ _ _ _ _ _ _ _ _ => ed_int)) ?_) fun v' H' x hv' => k v' H' ((x1.trans x2).trans x) hv'
      have e1 : isNeedD (.tuple (ps.map Datum.toD)) = riseD (ps.map Datum.toD) := by simp only [isNeedD, hd0, hall, Bool.true_and]
      rw [e1, rise_typed]

/-! ### odd_set -/
theorem sc24 : FnScope ["value", "index", "need"] ["value"] (defScope (topS 24)) := ⟨rfl, rfl, rfl, by decide +kernel, rfl, by decide +kernel, by decide +kernel⟩
def spOddS : Sp := spF (ι := PyData) (fun p => [p]) fun p => oddD p
theorem c_odd_set (D : Dn K mg "odd_set" (topS 24) ["value"]) (B : Bt mg) (c_is_need : Cal P w K mg base CX0 3 "is_need" ["value"] spNeedP) : Cal P w K mg base CX0 4 "odd_set" ["value"] spOddS := D.cal fun f fd F => by
  refine F.ok sc24 (spF_len fun _ => rfl) fun cdv A outer s H vs Q E hr h => ?_
  obtain ⟨d, hT, k⟩ := h
  obtain ⟨v, rfl, hv⟩ := pairs1 hT
  refine ⟨_, (pss_cons (ps_if (PW.pt (pw_or (pt_not (pt_val (pe_callB call_isi (by rfl) B.isinstance (by decide +kernel) (pa_cons (pv 0) (pa_cons (pe_ty (n := "tuple") B.tuple (by decide +kernel)) pa_nil))))) (pw_or1 (pt_not (pt_chain op_le op_le pe_int (pe_callB call_len_seq (by rfl) B.len PySem.boot_len (pa_cons (pv 0) pa_nil)) (pe_globI B.MOST_NEEDS)))))) (pss_one (ps_ret (pe_tup pa_nil))) pss_nil) (pss_cons (ps_for PassesOwn.never rfl (pi_enumT (by rfl) B.enumerate (pa_cons (pv 0) pa_nil)) (pg_tup (by rfl) (pgs_cons (pg_name (i := 1) sc24.nd rfl (.inl rfl)) (pgs_cons (pg_name (i := 2) sc24.nd rfl (.inl rfl)) pgs_nil))) (pss_one (ps_if (pt_not (pt_val (pe_cal c_is_need (hr.mono (by decide)) pass0 (pa_cons (pv 2) pa_nil)))) (pss_one (ps_ret (pe_tup (pa_cons (pv 1) pa_nil)))) pss_nil))) (pss_one (ps_ret pe_non)))), ?_⟩
  refine q_if (b := !isTupD d || !(decide ((1 : Int) ≤ ((itemsD d).length : Nat)) && decide (((itemsD d).length : Nat) ≤ (60 : Int)))) (Evl.et_or (Evl.et_not (et_B (ed_isi (ed_var rfl hv) (kit_tup d)))) fun ht => ?_) (fun hb H1 x1 => ?_) fun hb H1 x1 => ?_
  · cases d with
    | tuple ds => exact Evl.et_not (et_test (ed_chain ed_int (ed_len (ed_var rfl hv)) (fun _ => ed_int) r2_B0 fun _ => r2_B0))
    | _ => cases ht
  · have e : oddD d = .tuple [] := by
      cases d with
      | tuple ds =>
        have h1 : ¬ (1 ≤ ds.length ∧ ds.length ≤ 60) := by
          have h2 := nb_t (A := (1 : Int) ≤ (ds.length : Nat)) (B := ((ds.length : Nat) : Int) ≤ 60) hb
          omega
        simp only [oddD, if_neg h1]
      | _ => rfl
    refine s_ret (ed_tup ea_nil (Nat.zero_le _)) fun v' H' x hv' => k v' H' (x1.trans x) ?_
    show Td H' v' (oddD d)
    rw [e]; exact hv'
  · obtain ⟨ds, rfl⟩ : ∃ ds, d = .tuple ds := by
      cases d with
      | tuple ds => exact ⟨ds, rfl⟩
      | _ => cases hb
    have hle : 1 ≤ ds.length ∧ ds.length ≤ 60 := by
      have h2 := nb_f (A := (1 : Int) ≤ (ds.length : Nat)) (B := ((ds.length : Nat) : Int) ≤ 60) hb
      omega
    have eo : oddD (.tuple ds) = match ds.findIdx? fun n => !isNeedD n with
      | some i => .tuple [.int (i : Nat)]
      | none => .none := by simp only [oddD, if_pos hle]
    refine q_forE (ds := ds) (ea_cons (ed_var rfl (hv.ex x1)) ea_nil) (fun H2 n σ' H' => Ex H2 H' ∧ (∃ x y, σ' = [some v, x, y]) ∧ ∀ m, m < n → ∀ d', ds[m]? = some d' → isNeedD d' = true) (fun H2 x2 => ⟨Evl.Ex.refl _, ⟨none, none, rfl⟩, fun m hm => absurd hm (Nat.not_lt_zero m)⟩)
      (fun H2 n σ' H' p => tk_ex p.1) (fun H3 n σ' H' T xs p hT => ⟨p.1.trans (Evl.Ex.new hT), p.2⟩) (fun H2 x2 n d' v' σ' H' hd p hv' => ?_) fun H2 x2 σ' H' p => ?_
    · obtain ⟨ex, ⟨x, y, rfl⟩, hall⟩ := p
      show tIfS _ _ _ _ _ _
      refine s_ifN (b := !isNeedD d') (Evl.et_not (et_B (ed_call d' (ea_cons (ed_var rfl hv') ea_nil) rfl))) (fun hb H3 x3 => ?_) fun hb H3 x3 => ?_
      · have e : oddD (.tuple ds) = .tuple [.int (n : Nat)] := by
          have h1 : (ds.findIdx? fun n => !isNeedD n) = some n := by
            obtain ⟨hn, e⟩ := List.getElem?_eq_some_iff.mp hd
            rw [List.findIdx?_eq_some_iff_getElem]
            refine ⟨hn, by rw [e]; exact hb, fun j hj => ?_⟩
            have := hall j hj ds[j] (List.getElem?_eq_getElem (by omega))
            simp [this]
          rw [eo, h1]
        refine s_ret (ed_tup (ea_cons (ed_var (d := .int (n : Nat)) rfl (.int _)) ea_nil) (by show 1 ≤ sizeLine; decide)) fun v' H4 x hv' => k v' H4 ((((x1.trans x2).trans ex).trans x3).trans x) ?_
        show Td H4 v' (oddD (.tuple ds))
        rw [e]; exact hv'
      · refine ⟨ex.trans x3, ⟨_, _, rfl⟩, fun m hm d2 hd2 => ?_⟩
        by_cases hmn : m = n
        · subst hmn
          rw [hd] at hd2
          cases hd2
          simpa using hb
        · exact hall m (by omega) d2 hd2
    · obtain ⟨ex, ⟨x, y, rfl⟩, hall⟩ := p
      have e : oddD (.tuple ds) = .none := by
        have h1 : (ds.findIdx? fun n => !isNeedD n) = none := by
          rw [List.findIdx?_eq_none_iff]
          intro d' hd'
          obtain ⟨i, hi, e⟩ := List.getElem_of_mem hd'
          have := hall i hi d' (by rw [List.getElem?_eq_getElem hi, e])
          simp [this]
        rw [eo, h1]
      refine s_ret ed_non fun v' H4 x hv' => k v' H4 (((x1.trans x2).trans ex).trans x) ?_
      show Td H4 v' (oddD (.tuple ds))
      rw [e]; exact hv'

/-! ### has_all, holds_one -/
theorem sc25 : FnScope ["need", "other", "place"] ["need", "other"] (defScope (topS 25)) := ⟨rfl, rfl, rfl, by decide +kernel, rfl, by decide +kernel, by decide +kernel⟩
def spHas : Sp := spF (ι := { p : Nd × Nd // p.2.items.length ≤ 60000 }) (fun p => [Datum.toD p.1.1, Datum.toD p.1.2]) fun p => .bool (hasAll p.1.1 p.1.2)
theorem ed_has {n o : Nd} {E : XK} (hl : o.items.length ≤ 60000) (h1 : ED ta σ H (Datum.toD n)) (h2 : ED tb σ H (Datum.toD o)) : ED (tCall spHas [] E (tCons ta (tCons tb tNil))) σ H (.bool (hasAll n o)) :=
  ed_call (⟨(n, o), hl⟩ : { p : Nd × Nd // p.2.items.length ≤ 60000 }) (ea_cons h1 (ea_cons h2 ea_nil)) rfl
theorem any_map {α β : Type} (f : α → β) (b : β → Bool) (xs : List α) : (xs.map f).any b = xs.any fun x => b (f x) := by rw [List.any_map] <;> rfl
theorem ed_notInP {p : Pl} {n : Nd} (h1 : ED ta σ H (Datum.toD p)) (h2 : ED tb σ H (Datum.toD n)) : ED (tOp rNotInD ta tb) σ H (.bool (!memB p n.items)) := by
  have h := ed_op (d := Datum.toD p) (e := .tuple (n.items.map Datum.toD)) h1 h2 (r2_notIn (ok_pl p) (PySem.W.plainAll_map n.items))
  rw [any_eqv] at h
  exact h
theorem c_has_all (D : Dn K mg "has_all" (topS 25) ["need", "other"]) (B : Bt mg) : Cal P w K mg base CX0 1 "has_all" ["need", "other"] spHas := D.cal fun f fd F => by
  refine F.ok sc25 (spF_len fun _ => rfl) fun cdv A outer s H vs Q E hr h => ?_
  obtain ⟨⟨⟨n, o⟩, hl⟩, hT, k⟩ := h
  obtain ⟨v, v2, rfl, h1, h2⟩ := pairs2 hT
  refine ⟨_, (pss_one (ps_ret (pe_cmpR (op_eqP' (K := K) rfl hr.units) (pe_lc (own := [("place", 2)]) (g := (gName 2)) rfl sc25.nd (pi_tup (pv 1)) (blkOk_by (N := ["need", "other", "place"]) (sc := defScope (topS 25)) (by decide +kernel)) (fun _ _ _ _ _ => (pg_name (i := 2) sc25.nd rfl (.inl rfl))) (fun _ _ _ _ _ => (pts_one (pt_cmpR (op_notInD hr.units) (pv 2) (pv 0) (by rfl)))) (fun _ _ _ _ _ => pe_int)) (pe_lst pa_nil) (nomark _)))), ?_⟩
  have key : (o.items.any fun p => !memB p n.items) = !hasAll n o := by
    unfold hasAll
    rw [List.not_all_eq_any_not]
  refine s_ret (d := .bool (hasAll n o)) (ed_is (ed_noneOf (el_lcG (xs := o.items) Datum.toD (fun p => !memB p n.items) (fun _ => .int 1) (ed_var rfl h2) (sz_small hl) (fun _ => rfl) (fun p v' H2 hd x2 hv' => et_test (ed_notInP (ed_var rfl hv') (ed_var rfl (h1.ex x2)))) fun _ _ _ _ _ _ _ => ed_int)) (by rw [key, Bool.not_not])) fun v' H' x hv => k v' H' x hv
theorem sc28 : FnScope ["need", "rule", "other"] ["need", "rule"] (defScope (topS 28)) := ⟨rfl, rfl, rfl, by decide +kernel, rfl, by decide +kernel, by decide +kernel⟩
/-- a rule whose needs are small -/
def SmallR (r : List Nd) : Prop := r.length ≤ 1000 ∧ ∀ n ∈ r, n.items.length ≤ 1000
abbrev toR (r : List Nd) : PyData := .tuple (r.map Datum.toD)
def spHolds : Sp := spF (ι := { p : Nd × List Nd // SmallR p.2 }) (fun p => [Datum.toD p.1.1, toR p.1.2]) fun p => .bool (holdsOne p.1.1 p.1.2)
theorem ed_holds {n : Nd} {r : List Nd} {E : XK} (hs : SmallR r) (h1 : ED ta σ H (Datum.toD n)) (h2 : ED tb σ H (toR r)) : ED (tCall spHolds [] E (tCons ta (tCons tb tNil))) σ H (.bool (holdsOne n r)) :=
  ed_call (⟨(n, r), hs⟩ : { p : Nd × List Nd // SmallR p.2 }) (ea_cons h1 (ea_cons h2 ea_nil)) rfl
theorem c_holds_one (D : Dn K mg "holds_one" (topS 28) ["need", "rule"]) (B : Bt mg) (c_has_all : Cal P w K mg base CX0 1 "has_all" ["need", "other"] spHas) : Cal P w K mg base CX0 2 "holds_one" ["need", "rule"] spHolds := D.cal fun f fd F => by
  refine F.ok sc28 (spF_len fun _ => rfl) fun cdv A outer s H vs Q E hr h => ?_
  obtain ⟨⟨⟨n, r⟩, hs⟩, hT, k⟩ := h
  obtain ⟨v, v2, rfl, h1, h2⟩ := pairs2 hT
  refine ⟨_, (pss_one (ps_ret (pe_cmpR (op_neP' (K := K) rfl hr.units) (pe_lc (own := [("other", 2)]) (g := (gName 2)) rfl sc28.nd (pi_tup (pv 1)) (blkOk_by (N := ["need", "rule", "other"]) (sc := defScope (topS 28)) (by decide +kernel)) (fun _ _ _ _ _ => (pg_name (i := 2) sc28.nd rfl (.inl rfl))) (fun _ _ _ _ _ => (pts_one (pt_val (pe_cal c_has_all (hr.mono (by decide)) pass0 (pa_cons (pv 0) (pa_cons (pv 2) pa_nil)))))) (fun _ _ _ _ _ => pe_int)) (pe_lst pa_nil) (nomark _)))), ?_⟩
  exact s_ret (d := .bool (holdsOne n r)) (ed_someOf (el_lcG (xs := r) Datum.toD (fun o => hasAll n o) (fun _ => .int 1) (ed_var rfl h2) (sz_small (Nat.le_trans hs.1 (by decide))) (fun _ => rfl)
    (fun o v' H2 hd x2 hv' => et_B (ed_has (Nat.le_trans (hs.2 o hd) (by decide)) (ed_var rfl (h1.ex x2)) (ed_var rfl hv'))) fun _ _ _ _ _ _ _ => ed_int)) fun v' H' x hv => k v' H' x hv
end
end Isl
end
section
set_option Elab.async false
set_option linter.all false
set_option maxRecDepth 100000
set_option maxHeartbeats 4000000
/-! step_so -/
namespace Isl
open PySem PySem.Spec PyProof.Rows L2
open Evl (Ex EvT)
open PySem.W (dataLt Datum DatumOrd)

def hdN (n : Nd) : Pl := n.items.headD (0, 0)
/-- the places of the need n, from marks ps, that the first j marks give -/
def stepHit (n : Nd) (ps : List Pl) (m : Pl) : Bool := n.items.all fun o => memB (addP (offP m (hdN n)) o) ps
def stepOne (ps : List Pl) (n : Nd) : List Pl := (ps.filter (stepHit n ps)).map fun m => offP m (hdN n)
def stepAll (r : List Nd) (ps : List Pl) : List Pl := r.flatMap (stepOne ps)
def stepR (r : List Nd) (ps : List Pl) : List Pl := canon ltP (stepAll r ps)
structure StepOk (r : List Nd) (ps : List Pl) : Prop where
  few : r.length * ps.length ≤ 1227
  mks : ps.length ≤ 1228
  ne : ∀ n ∈ r, n.items ≠ []
  sm : ∀ n ∈ r, n.items.length ≤ 60000
theorem hd_at {n : Nd} (h : n.items ≠ []) : atI (n.items.map Datum.toD) 0 = some (Datum.toD (hdN n) : PyData) := by
  obtain ⟨items⟩ := n
  cases items with
  | nil => exact absurd rfl h
  | cons p ps =>
    have e : ixN ((p :: ps).map Datum.toD : List PyData).length 0 = some 0 := by
      unfold ixN
      rw [if_pos (Int.le_refl 0), if_pos (by rw [List.map_cons, List.length_cons]; omega)] <;> rfl
    unfold atI
    rw [e] <;> rfl
theorem vals_refs {H : Hp} : ∀ {ys : List V} {ps : List Pl}, TdAll H ys (ps.map Datum.toD) → ∃ ks : List (Addr × Pl), ys = ks.map (fun p => V.ref p.1) ∧ ks.map (·.2) = ps ∧ ElsT H ks
  | ys, [], hT => by cases hT; exact ⟨[], rfl, rfl, fun p hp => (by cases hp)⟩
  | ys, z :: zs, hT => by
    cases hT with
    | cons h1 h2 =>
      obtain ⟨ks, e1, e2, hk⟩ := vals_refs h2
      obtain ⟨b, ws, rfl, _, _⟩ := Td.toT (ds := [_, _]) h1
      refine ⟨(b, z) :: ks, by rw [e1] <;> rfl, by rw [← e2] <;> rfl, fun p hp => ?_⟩
      rcases List.mem_cons.mp hp with e | e
      · rw [e]; exact h1
      · exact hk p e
section
variable {P : Program} {w : World} {K : PySem.W.Frag} {mg : Str → Option Value} {base : Heap} {ta tb : TE} {σ : L2.St} {H : Hp}
theorem ed_added {p q : Pl} {E : XK} (h1 : ED ta σ H (Datum.toD p)) (h2 : ED tb σ H (Datum.toD q)) : ED (tCall spAdded [] E (tCons ta (tCons tb tNil))) σ H (Datum.toD (addP p q)) := ed_call ((p, q) : Pl × Pl) (ea_cons h1 (ea_cons h2 ea_nil)) rfl
theorem ed_off {p q : Pl} {E : XK} (h1 : ED ta σ H (Datum.toD p)) (h2 : ED tb σ H (Datum.toD q)) : ED (tCall spOff [] E (tCons ta (tCons tb tNil))) σ H (Datum.toD (offP p q)) := ed_call ((p, q) : Pl × Pl) (ea_cons h1 (ea_cons h2 ea_nil)) rfl
/-- marks = set(island) -/
theorem e_setOf {te : TE} {ps : List Pl} (h : ED te σ H (.tuple (ps.map Datum.toD))) (hl : ps.length ≤ 1228) {Q : VK}
    (q : ∀ a H2 (L : List (Addr × Pl)), H a = none → Ex H H2 → H2 a = some (SetA w a (encL L)) → ElsT H2 L → (∀ z, z ∈ L.map (·.2) ↔ z ∈ ps) → Q (.ref a) H2) : tCB (rSetA K w) (tCons te tNil) σ H Q := by
  refine h H (Evl.Ex.refl H) _ fun v H1 x1 hv => ?_
  obtain ⟨a, ys, rfl, ha, hT⟩ := hv.toT
  obtain ⟨ks, rfl, e2, hk⟩ := vals_refs hT
  have hk1 : (ks.map fun p => V.ref p.1) = (encL ks).map fun p => V.ref p.1 := by rw [List.map_map] <;> rfl
  refine ⟨a, encL ks, rfl, .inr (.inl (.inl (by rw [← hk1]; exact ha))), hk.els ktP, by rw [List.length_map, ← List.length_map (f := (·.2)), e2]; exact hl, fun b L hb hsub hall hnd => ?_⟩
  obtain ⟨L', rfl, hs'⟩ : ∃ L' : List (Addr × Pl), L = encL L' ∧ ∀ p ∈ L', p ∈ ks := by
    clear hall hnd
    induction L with
    | nil => exact ⟨[], rfl, fun p hp => (by cases hp)⟩
    | cons q L ih =>
      obtain ⟨L', e, hs2⟩ := ih fun p hp => hsub p (List.mem_cons_of_mem _ hp)
      obtain ⟨r, hr, er⟩ := List.mem_map.mp (hsub q List.mem_cons_self)
      refine ⟨r :: L', by rw [e, ← er] <;> rfl, fun p hp => ?_⟩
      rcases List.mem_cons.mp hp with z | z
      · rw [z]; exact hr
      · exact hs2 p z
  refine q b _ L' (Evl.fresh_back x1 hb) (x1.trans (Evl.Ex.new hb)) upd_same (fun p hp => (hk p (hs' p hp)).ex (Evl.Ex.new hb)) fun z => ?_
  constructor
  · intro hz
    obtain ⟨p, hp, e⟩ := List.mem_map.mp hz
    rw [← e2, ← e]
    exact List.mem_map.mpr ⟨p, hs' p hp, rfl⟩
  · intro hz
    rw [← e2] at hz
    obtain ⟨p, hp, e⟩ := List.mem_map.mp hz
    have h1 := hall (p.1, Datum.toD p.2) (List.mem_map.mpr ⟨p, hp, rfl⟩)
    rw [← e]
    exact (keyE ktP L' p.2).mp h1

/-- a set that grows: its members are those of S, each once -/
structure Grow (w : World) (b : Addr) (H : Hp) (S : List Pl) (n : Nat) : Prop where
  ex : ∃ L : List (Addr × Pl), H b = some (SetA w b (encL L)) ∧ ElsT H L ∧ (L.map (·.2)).Nodup ∧ (∀ z, z ∈ L.map (·.2) ↔ z ∈ S) ∧ L.length ≤ n
theorem Grow.tk {b : Addr} {H H' : Hp} {S : List Pl} {n : Nat} (g : Grow w b H S n) (h : H' b = H b) (e : Tk H H') : Grow w b H' S n := by
  obtain ⟨L, h1, h2, h3⟩ := g.ex
  exact ⟨L, by rw [h]; exact h1, h2.tk e, h3⟩
theorem Grow.ext {b : Addr} {H H' : Hp} {S : List Pl} {n : Nat} (g : Grow w b H S n) (e : Ex H H') : Grow w b H' S n := by
  obtain ⟨L, h1, h2, h3⟩ := g.ex
  exact ⟨L, e _ _ h1, h2.tk (tk_ex e), h3⟩
theorem Grow.more {b : Addr} {H : Hp} {S : List Pl} {n m : Nat} (g : Grow w b H S n) (h : n ≤ m) : Grow w b H S m := by
  obtain ⟨L, h1, h2, h3, h4, h5⟩ := g.ex
  exact ⟨L, h1, h2, h3, h4, Nat.le_trans h5 h⟩
/-- found.add(place) -/
theorem e_add {i j : Nat} {b : Addr} {v : V} {p : Pl} {S : List Pl} {n : Nat} {D : Ends} (hi : σ[i]? = some (some (.ref b))) (hj : σ[j]? = some (some v)) (hv : Td H v (Datum.toD p)) (g : Grow w b H S n) (hn : n + 1 ≤ 1228)
    (k : ∀ H', (∀ c, c ≠ b → H' c = H c) → Tk H H' → Grow w b H' (S ++ [p]) (n + 1) → D.nx σ H') : tDrop (tAddA w (tVar i) (tCons (tVar j) tNil)) D σ H := by
  obtain ⟨L, h1, h2, h3, h4, h5⟩ := g.ex
  obtain ⟨c, ws, rfl, _, _⟩ := Td.toT (ds := [_, _]) hv
  refine ⟨.ref b, hi, ⟨b, encL L, rfl, h1⟩, .ref c, hj, b, c, Datum.toD p, encL L, rfl, rfl, h1, h2.els ktP, hv, key_pl p, by rw [List.length_map]; omega, ?_⟩
  have e : (if nkD (Datum.toD p) ∈ keysA (encL L) then encL L else (c, Datum.toD p) :: encL L) = encL (if p ∈ L.map (·.2) then L else (c, p) :: L) := by
    by_cases hm : p ∈ L.map (·.2)
    · rw [if_pos hm, if_pos ((keyE ktP L p).mpr hm)]
    · rw [if_neg hm, if_neg fun z => hm ((keyE ktP L p).mp z)] <;> rfl
  rw [e]
  have kk : Tk H (upd H b (SetA w b (encL (if p ∈ L.map (·.2) then L else (c, p) :: L)))) := tk_put h1 fun xs z => by cases z
  refine k _ (fun c hc => upd_ne hc) kk ⟨_, upd_same, ?_, ?_, ?_, ?_⟩
  · intro q hq
    by_cases hm : p ∈ L.map (·.2)
    · rw [if_pos hm] at hq
      exact (h2 q hq).tk kk
    · rw [if_neg hm] at hq
      rcases List.mem_cons.mp hq with z | z
      · rw [z]; exact hv.tk kk
      · exact (h2 q z).tk kk
  · by_cases hm : p ∈ L.map (·.2)
    · rw [if_pos hm]; exact h3
    · rw [if_neg hm, List.map_cons]
      exact List.nodup_cons.mpr ⟨hm, h3⟩
  · intro z
    rw [List.mem_append, List.mem_singleton, ← h4 z]
    by_cases hm : p ∈ L.map (·.2)
    · rw [if_pos hm]
      constructor
      · exact fun q => .inl q
      · rintro (q | q)
        · exact q
        · rw [q]; exact hm
    · rw [if_neg hm, List.map_cons, List.mem_cons]
      exact or_comm
  · by_cases hm : p ∈ L.map (·.2)
    · rw [if_pos hm]; omega
    · rw [if_neg hm, List.length_cons]; omega

theorem sc27 : FnScope ["rule", "island", "marks", "found", "need", "mark", "place", "other"] ["rule", "island"] (defScope (topS 27)) := ⟨rfl, rfl, rfl, by decide +kernel, rfl, by decide +kernel, by decide +kernel⟩
def spStep : Sp := spF (ι := { p : List Nd × List Pl // StepOk p.1 p.2 }) (fun p => [toR p.1.1, .tuple (p.1.2.map Datum.toD)]) fun p => .tuple ((stepR p.1.1 p.1.2).map Datum.toD)
theorem take_next' {α : Type} {xs : List α} {i : Nat} {x : α} (h : xs[i]? = some x) : xs.take (i + 1) = xs.take i ++ [x] := by
  rw [List.take_succ, h] <;> rfl
theorem stepOne_next {ps qs : List Pl} {n : Nd} {j : Nat} {m : Pl} (h : qs[j]? = some m) : ((qs.take (j + 1)).filter (stepHit n ps)).map (fun m => offP m (hdN n)) = ((qs.take j).filter (stepHit n ps)).map (fun m => offP m (hdN n)) ++ if stepHit n ps m = true then [offP m (hdN n)] else [] := filter_next (stepHit n ps) (fun m => offP m (hdN n)) h
theorem c_step_so (D : Dn K mg "step_so" (topS 27) ["rule", "island"]) (B : Bt mg) (c_added : Cal P w K mg base CX0 1 "added" ["one", "other"] spAdded) (c_taken_off : Cal P w K mg base CX0 1 "taken_off" ["one", "other"] spOff) :
    Cal P w K mg base CX0 2 "step_so" ["rule", "island"] spStep := D.cal fun f fd F => by
  refine F.ok sc27 (spF_len fun _ => rfl) fun cdv A outer s H vs Q E hr h => ?_
  obtain ⟨⟨⟨r, ps⟩, ok⟩, hT, k⟩ := h
  obtain ⟨v, v2, rfl, h1, h2⟩ := pairs2 hT
  have ok : StepOk r ps := ok
  refine ⟨_, (pss_cons (ps_set (i := 2) sc27.nd rfl (.inr rfl) (pe_callTy (cr_setA rfl hr.units) (by rfl) B.set (by decide +kernel) (pa_cons (pv 1) pa_nil))) (pss_cons (ps_set (i := 3) sc27.nd rfl (.inl rfl) (pe_callTy0 cr_setA0 (by rfl) B.set (by decide +kernel))) (pss_cons (ps_for PassesOwn.never rfl (pi_tup (pv 0)) (pg_name (i := 4) sc27.nd rfl (.inl rfl)) (pss_one (ps_for PassesOwn.never rfl (pi_tup (pv 1)) (pg_name (i := 5) sc27.nd rfl (.inl rfl)) (pss_cons (ps_set (i := 6) sc27.nd rfl (.inr rfl) (pe_cal c_taken_off (hr.mono (by decide)) pass0 (pa_cons (pv 5) (pa_cons (pe_ix ix_tup (pv 4) pe_int (fun _ _ => rfl)) pa_nil)))) (pss_one (ps_if (pt_cmpR (op_eqP' (K := K) rfl hr.units) (pe_lc (own := [("other", 7)]) (g := (gName 7)) rfl sc27.nd (pi_tup (pv 4)) (blkOk_by (N := ["rule", "island", "marks", "found", "need", "mark", "place", "other"]) (sc := defScope (topS 27)) (by decide +kernel)) (fun _ _ _ _ _ => (pg_name (i := 7) sc27.nd rfl (.inl rfl))) (fun _ _ _ _ _ => (pts_one (pt_cmpR (or_notInA' (w := w) rfl hr.units) (pe_cal c_added (hr.mono (by decide)) pass0 (pa_cons (pv 6) (pa_cons (pv 7) pa_nil))) (pv 2) (by rfl)))) (fun _ _ _ _ _ => pe_int)) (pe_lst pa_nil) (nomark _)) (pss_one (ps_expr (pe_addA hr.units (pv 3) (pa_cons (pv 6) pa_nil)))) pss_nil)))))) (pss_one (ps_ret (pe_callTy call_tuple_of (by rfl) B.tuple (by decide +kernel) (pa_cons (pe_callB (cr_sortedA rfl hr.units) (by rfl) B.sorted (by decide +kernel) (pa_cons (pv 3) pa_nil)) pa_nil))))))), ?_⟩
  -- marks = set(island)
  refine e_setOf (ed_var rfl h2) ok.mks fun a H1 L ha0 x1 ha hE hmem => ?_
  -- found = set()
  refine ⟨rfl, fun b hb => ?_⟩
  have xb : Ex H1 (upd H1 b (SetA w b [])) := Evl.Ex.new hb
  have g0 : Grow w b (upd H1 b (SetA w b [])) [] 0 := ⟨[], upd_same, fun p hp => (by cases hp), List.nodup_nil, fun z => Iff.rfl, Nat.le_refl _⟩
  have hv1 : Td (upd H1 b (SetA w b [])) v (toR r) := (h1.ex x1).ex xb
  refine q_forT (ed_var rfl hv1) (fun H2 i σ' H' => Ex H1 H' ∧ Tk H2 H' ∧ (∃ x y z, σ' = [some v, some v2, some (.ref a), some (.ref b), x, y, z, none]) ∧ Grow w b H' ((r.take i).flatMap (stepOne ps)) (i * ps.length))
    (fun H2 x2 => ⟨xb.trans x2, Tk.refl _, ⟨none, none, none, rfl⟩, (g0.ext x2).more (Nat.zero_le _)⟩) (fun H2 i σ' H' p => p.2.1) (fun H2 x2 i d vn σ' H' hd p hvn => ?_) fun H2 x2 σ' H' p => ?_
  · obtain ⟨ex, tk, ⟨x, y, z, rfl⟩, g⟩ := p
    rw [List.getElem?_map, Option.map_eq_some_iff] at hd
    obtain ⟨n, hn, rfl⟩ := hd
    have hin : i < r.length := (List.getElem?_eq_some_iff.mp hn).1
    have hmem_n : n ∈ r := List.mem_of_getElem? hn
    show tFor _ _ _ _ _ _
    refine s_forT (ed_var (v := v2) rfl ((h2.ex x1).ex ex)) (fun H3 j σ' H' => Ex H1 H' ∧ Tk H3 H' ∧ (∃ y z, σ' = [some v, some v2, some (.ref a), some (.ref b), some vn, y, z, none]) ∧ Td H' vn (Datum.toD n) ∧ Grow w b H' ((r.take i).flatMap (stepOne ps) ++ ((ps.take j).filter (stepHit n ps)).map fun m => offP m (hdN n)) (i * ps.length + j))
      (fun H3 x3 => ⟨ex.trans x3, Tk.refl _, ⟨y, z, rfl⟩, hvn.ex x3, ?_⟩) (fun H3 j σ' H' p => p.2.1) (fun H3 x3 j d vm σ' H' hd p hvm => ?_) fun H3 x3 σ' H' p => ?_
    · have := g.ext x3
      simpa using this
    · obtain ⟨ex, tk, ⟨y, z, rfl⟩, hvn, g⟩ := p
      rw [List.getElem?_map, Option.map_eq_some_iff] at hd
      obtain ⟨m, hm, rfl⟩ := hd
      have hjl : j < ps.length := (List.getElem?_eq_some_iff.mp hm).1
      refine q_asg (ed_off (ed_var (v := vm) rfl hvm) (ed_op (d := .tuple (n.items.map Datum.toD)) (ed_var (v := vn) rfl hvn) ed_int (r2_ixT (hd_at (ok.ne n hmem_n))))) fun vp H4 x4 hvp => ?_
      have ha4 : H4 a = some (SetA w a (encL L)) := x4 _ _ (ex _ _ ha)
      have hE4 : ElsT H4 L := (hE.tk (tk_ex ex)).tk (tk_ex x4)
      have mem4 : ∀ q : Pl, memB q (L.map (·.2)) = memB q ps := fun q => decide_eq_decide.mpr (hmem q)
      show tIfS _ _ _ _ _ _
      refine s_ifN (b := stepHit n ps m) (et_test (ed_is (ed_noneOf (el_lcG (xs := n.items) Datum.toD (fun o => !memB (addP (offP m (hdN n)) o) ps) (fun _ => .int 1) (ed_var (v := vn) rfl (hvn.ex x4)) (sz_small (ok.sm n hmem_n)) (fun _ => rfl) (fun o vo H5 ho x5 hvo => ?_) fun _ _ _ _ _ _ _ => ed_int)) ?_)) (fun hb2 H5 x5 => ?_) fun hb2 H5 x5 => ?_
      · refine et_test (ed_is (ed_notInSet (ref := refP _) ktP (ed_added (ed_var (v := vp) rfl (hvp.ex x5)) (ed_var (v := vo) rfl hvo)) (a := a) rfl (x5 _ _ ha4) (hE4.tk (tk_ex x5))) ?_)
        rw [mem4]
      · unfold stepHit
        rw [List.not_any_eq_all_not]
        simp
      · have hfew : i * ps.length + j + 1 ≤ 1228 := by
          have q1 := ok.few
          have q2 : (i + 1) * ps.length ≤ r.length * ps.length := Nat.mul_le_mul_right _ hin
          rw [Nat.add_mul, Nat.one_mul] at q2
          omega
        refine e_add (v := vp) (p := offP m (hdN n)) rfl rfl (hvp.ex x5) ((g.ext x4).ext x5) hfew fun H6 hk6 tk6 g6 => ?_
        have nb : H1 b = none := hb
        refine ⟨fun c o e => ?_, ((tk.trans (tk_ex x4)).trans (tk_ex x5)).trans tk6, ⟨_, _, rfl⟩, ((hvn.ex x4).ex x5).tk tk6, ?_⟩
        · rw [hk6 c (fun z => by rw [z, nb] at e; cases e)]
          exact x5 _ _ (x4 _ _ (ex _ _ e))
        · rw [stepOne_next hm, if_pos hb2, ← List.append_assoc]
          exact g6
      · refine ⟨(ex.trans x4).trans x5, (tk.trans (tk_ex x4)).trans (tk_ex x5), ⟨_, _, rfl⟩, (hvn.ex x4).ex x5, ?_⟩
        rw [stepOne_next hm, if_neg (by rw [hb2]; decide), List.append_nil]
        exact ((g.ext x4).ext x5).more (Nat.le_succ _)
    · obtain ⟨ex', tk', ⟨y, z, rfl⟩, hvn', g'⟩ := p
      refine ⟨ex', (tk.trans (tk_ex x3)).trans tk', ⟨_, _, _, rfl⟩, ?_⟩
      rw [List.length_map, List.take_length] at g'
      rw [take_next' hn, List.flatMap_append, List.flatMap_singleton, Nat.add_mul, Nat.one_mul]
      exact g'
  · obtain ⟨ex, tk, ⟨x, y, z, rfl⟩, g⟩ := p
    rw [List.length_map, List.take_length] at g
    obtain ⟨L2, hb2, hE2, hnd2, hm2, _⟩ := g.ex
    refine s_ret (ed_tupOf (el_sortedA ktP (a := b) (L := L2) rfl hb2 hE2 hnd2 fun p _ => refP p.2)) fun v' H'' x' hv' => k v' H'' ((x1.trans ex).trans x') ?_
    have e : canon (DatumOrd.lt (α := Pl)) (L2.map (·.2)) = stepR r ps := (canon_eq soP).mpr hm2
    rw [e] at hv'
    exact hv'
end
end Isl
end
section
set_option Elab.async false
set_option linter.all false
set_option maxRecDepth 100000
set_option maxHeartbeats 4000000
/-! need_rule, is_lesser, parting_island, is_parting -/
namespace Isl
open PySem PySem.Spec PyProof.Rows L2
open Evl (Ex EvT)
open PySem.W (dataLt Datum DatumOrd)

/-- a rule as it should be -/
structure GoodR (r : List Nd) : Prop where
  one : 1 ≤ r.length
  few : r.length ≤ 60
  need : ∀ n ∈ r, isNeedD (Datum.toD n) = true
  rise : ∀ (i : Nat) (a b : Nd), r[i]? = some a → r[i + 1]? = some b → ltN a b = true
  anti : ∀ n ∈ r, ∀ o ∈ r, o ≠ n → hasAll n o = false
theorem need_len {n : Nd} (h : isNeedD (Datum.toD n) = true) : 1 ≤ n.items.length ∧ n.items.length ≤ 12 := by
  have h : (decide (1 ≤ (n.items.map Datum.toD).length) && decide ((n.items.map Datum.toD).length ≤ 12) && ((n.items.map Datum.toD).all (isPairD 20) && riseD (n.items.map Datum.toD))) = true := h
  rw [Bool.and_eq_true, Bool.and_eq_true, decide_eq_true_eq, decide_eq_true_eq, List.length_map] at h
  exact h.1
theorem GoodR.small {r : List Nd} (g : GoodR r) : SmallR r := ⟨Nat.le_trans g.few (by decide), fun n hn => Nat.le_trans (need_len (g.need n hn)).2 (by decide)⟩
theorem good_odd {r : List Nd} (g : GoodR r) : oddD (toR r) = .none := by
  have h1 : (1 ≤ (r.map Datum.toD : List PyData).length ∧ (r.map Datum.toD : List PyData).length ≤ 60) := by
    rw [List.length_map]
    exact ⟨g.one, g.few⟩
  have h2 : ((r.map Datum.toD : List PyData).findIdx? fun n => !isNeedD n) = none := by
    rw [List.findIdx?_eq_none_iff]
    intro d hd
    obtain ⟨n, hn, rfl⟩ := List.mem_map.mp hd
    rw [g.need n hn] <;> rfl
  show (if 1 ≤ (r.map Datum.toD : List PyData).length ∧ (r.map Datum.toD : List PyData).length ≤ 60 then _ else _) = _
  rw [if_pos h1, h2]
/-- BadRule(p) is raised -/
def EB (C : Addr) (H : Hp) (E : XK) (p : PyData) : Prop := ∀ H' dd v', Ex H H' → H' dd = some (.xd [(("place" : Str), v')]) → Td H' v' p → E (.ref C) (some dd) H'
theorem EB.ex {C : Addr} {H H1 : Hp} {E : XK} {p : PyData} (h : EB C H E p) (x : Ex H H1) : EB C H1 E p := fun H' dd v' x' => h H' dd v' (x.trans x')
def spNR (C : Addr) : Sp := fun vs H Q E => ∃ v d, vs = [v] ∧ Td H v d ∧ ((∃ r, d = toR r ∧ GoodR r ∧ ∀ H', Ex H H' → Q v H') ∨ (oddD d ≠ .none ∧ EB C H E (oddD d)))
def Two (C : Addr) (H : Hp) (E : XK) (d1 d2 : PyData) (G : List Nd → List Nd → Prop) : Prop :=
  (∃ r1 r2, d1 = toR r1 ∧ d2 = toR r2 ∧ GoodR r1 ∧ GoodR r2 ∧ G r1 r2) ∨ (oddD d1 ≠ .none ∧ EB C H E (oddD d1)) ∨ (∃ r1, d1 = toR r1 ∧ GoodR r1 ∧ oddD d2 ≠ .none ∧ EB C H E (oddD d2))
def lesserR (r1 r2 : List Nd) : Bool := r1.all fun n => holdsOne n r2
def lackR (r1 r2 : List Nd) : List Nd := r1.filter fun n => !holdsOne n r2
/-- is_lesser -/
def spLesser (C : Addr) : Sp := fun vs H Q E => ∃ v1 v2 d1 d2, vs = [v1, v2] ∧ Td H v1 d1 ∧ Td H v2 d2 ∧ Two C H E d1 d2 fun r1 r2 => ∀ H', Ex H H' → Q (.bl (lesserR r1 r2)) H'
/-- parting_island -/
def spPartI (C N : Addr) : Sp := fun vs H Q E => ∃ v1 v2 d1 d2, vs = [v1, v2] ∧ Td H v1 d1 ∧ Td H v2 d2 ∧ Two C H E d1 d2 fun r1 r2 => match lackR r1 r2 ++ lackR r2 r1 with
  | [] => ∀ H', Ex H H' → E (.ref N) none H'
  | x :: xs => ∀ v H', Ex H H' → Td H' v (Datum.toD (PySem.W.minOf x xs)) → Q v H'
/-- is_parting -/
def spIsPart (C : Addr) : Sp := fun vs H Q E => ∃ v1 v2 v3 d1 d2 d3, vs = [v1, v2, v3] ∧ Td H v1 d1 ∧ Td H v2 d2 ∧ OdV H v3 d3 ∧ Two C H E d1 d2 fun r1 r2 =>
  (isIslandD d3 = false ∧ ∀ H', Ex H H' → Q (.bl false) H') ∨ (∃ ps : List Pl, d3 = .tuple (ps.map Datum.toD) ∧ isIslandD d3 = true ∧ StepOk r1 ps ∧ StepOk r2 ps ∧ ∀ H', Ex H H' → Q (.bl (!decide (stepR r1 ps = stepR r2 ps))) H')

section
variable {P : Program} {w : World} {K : PySem.W.Frag} {mg : Str → Option Value} {base : Heap} {ta tb : TE} {σ : L2.St} {H : Hp} {D : Ends} {tv : TS} {d e : PyData} {ts : TA}
/-- for k in range(lo, hi) -/
theorem q_forR {tb : TS} {i : Nat} {lo hi : Int} (h : EA ts σ H [.int lo, .int hi]) (hb : (-(2 ^ 62) ≤ lo ∧ lo < 2 ^ 62 ∧ -(2 ^ 62) ≤ hi ∧ hi < 2 ^ 62)) (Pv : Nat → L2.St → Hp → Prop) (h0 : ∀ H1, Ex H H1 → Pv 0 σ H1)
    (hs : ∀ n σ' H', n < (hi - lo).toNat → Pv n σ' H' → tb { nx := Pv (n + 1), rt := D.rt, ct := Pv (n + 1), bk := tv D } (σ'.set i (some (.int (lo + (n : Nat))))) H')
    (hd : ∀ σ' H', Pv (hi - lo).toNat σ' H' → tv D σ' H') : tSeq (tFor (iRng2 ts) (gName i) tb) tv D σ H := by
  refine h H (Evl.Ex.refl H) _ fun vs H1 x hv => ?_
  obtain ⟨v, u, rfl, hv1, hv2⟩ := pairs2 hv
  refine ⟨lo, hi, by rw [hv1.toI, hv2.toI], hb, ?_⟩
  refine for_it (walk_range (lo := lo) (n := (hi - lo).toNat)) Pv (h0 H1 x) (fun _ _ _ _ _ => trivial) (fun n y σ' H' H'' hn p q => ?_) hd
  obtain ⟨e1, e2⟩ := q
  subst e1 e2
  exact hs n σ' _ hn p

/-! ### need_rule -/
theorem sc26 : FnScope ["rule", "place", "index", "need", "other"] ["rule"] (defScope (topS 26)) := ⟨rfl, rfl, rfl, by decide +kernel, rfl, by decide +kernel, by decide +kernel⟩
theorem ed_geN {p q : Nd} (h1 : ED ta σ H (Datum.toD p)) (h2 : ED tb σ H (Datum.toD q)) : ED (tOp rGeD ta tb) σ H (.bool (!ltN p q)) := by
  have h := ed_op (d := Datum.toD p) (e := Datum.toD q) h1 h2 (r2_ge (DatumOrd.alike p q) (DatumOrd.notNone p) (ok_nd p))
  rw [dlt] at h
  exact h
theorem ed_neNd {p q : Nd} (h1 : ED ta σ H (Datum.toD p)) (h2 : ED tb σ H (Datum.toD q)) : ED (tOp (rNeP K) ta tb) σ H (.bool (!decide (p = q))) := by
  have h := ed_op (d := Datum.toD p) (e := Datum.toD q) h1 h2 (r2_neP (K := K) (Datum.plain p) (ok_nd q))
  rw [Datum.eqv] at h
  exact h
theorem toR_at {r : List Nd} {i : Int} {j : Nat} {n : Nd} (h1 : 0 ≤ i) (h2 : i.toNat = j) (h : r[j]? = some n) : atI (r.map Datum.toD : List PyData) i = some (Datum.toD n) := by
  have hj : j < r.length := (List.getElem?_eq_some_iff.mp h).1
  unfold atI ixN
  rw [if_pos h1, if_pos (by rw [List.length_map]; omega)]
  show (r.map Datum.toD : List PyData)[i.toNat]? = _
  rw [h2, List.getElem?_map, h] <;> rfl
theorem c_need_rule {C : Addr} (D : Dn K mg "need_rule" (topS 26) ["rule"]) (B : Bt mg) (TB : BrT K P mg C) (c_odd_set : Cal P w K mg base CX0 4 "odd_set" ["value"] spOddS) (c_has_all : Cal P w K mg base CX0 1 "has_all" ["need", "other"] spHas) :
    Cal P w K mg base (L2.CX P w) 5 "need_rule" ["rule"] (spNR C) := D.cal fun f fd F => by
  refine F.okX sc26 (fun vs H Q E h => by obtain ⟨v, d, rfl, _⟩ := h; rfl) fun cdv A outer s H vs Q E hr h => ?_
  obtain ⟨v, d, rfl, hv, h⟩ := h
  refine ⟨_, (pss_cons (ps_set (i := 1) sc26.nd rfl (.inl rfl) (pe_cal c_odd_set (hr.mono (by decide)) pass0 (pa_cons (pv 0) pa_nil))) (pss_cons (ps_if (pt_cmpR op_notN (pv 1) pe_non (nomark _)) (pss_one (ps_raiseBr rfl TB hr (takes_of rfl rfl rfl rfl) (pa_cons (pv 1) pa_nil))) pss_nil) (pss_cons (ps_for (passes_of rfl) rfl (pi_range2 (by rfl) B.range (pa_cons pe_int (pa_cons (pe_callB call_len_seq (by rfl) B.len PySem.boot_len (pa_cons (pv 0) pa_nil)) pa_nil))) (pg_name (i := 2) sc26.nd rfl (.inl rfl)) (pss_one (ps_if (pt_cmpR (op_geD hr.units) (pe_ix ix_tup (pv 0) (pe_op op_sub (pv 2) pe_int) (fun _ _ => rfl)) (pe_ix ix_tup (pv 0) (pv 2) (fun _ _ => rfl)) (nomark _)) (pss_one ps_never) pss_nil))) (pss_cons (ps_for (passes_of rfl) rfl (pi_enumT (by rfl) B.enumerate (pa_cons (pv 0) pa_nil)) (pg_tup (by rfl) (pgs_cons (pg_name (i := 2) sc26.nd rfl (.inl rfl)) (pgs_cons (pg_name (i := 3) sc26.nd rfl (.inr rfl)) pgs_nil))) (pss_one (ps_if (pt_cmpR (op_neP' (K := K) rfl hr.units) (pe_lc (own := [("other", 4)]) (g := (gName 4)) rfl sc26.nd (pi_tup (pv 0)) (blkOk_by (N := ["rule", "place", "index", "need", "other"]) (sc := defScope (topS 26)) (by decide +kernel)) (fun _ _ _ _ _ => (pg_name (i := 4) sc26.nd rfl (.inl rfl))) (fun _ _ _ _ _ => (pts_one (PW.pt (pw_and (pt_cmpR (op_neP' (K := K) rfl hr.units) (pv 4) (pv 3) (nomark _)) (pw_and1 (pt_val (pe_cal c_has_all (hr.mono (by decide)) pass0 (pa_cons (pv 3) (pa_cons (pv 4) pa_nil))))))))) (fun _ _ _ _ _ => pe_int)) (pe_lst pa_nil) (nomark _)) (pss_one ps_never) pss_nil))) (pss_one (ps_ret (pv 0))))))), ?_⟩
  refine q_asg (ed_call d (ea_cons (ed_var rfl hv) ea_nil) rfl) fun vp H1 x1 hvp => ?_
  refine q_if (b := !isNoneD (oddD d)) (et_test (ed_op (ed_var rfl hvp) ed_non r2_notN)) (fun hb H2 x2 => ?_) fun hb H2 x2 => ?_
  · rcases h with ⟨r, rfl, g, _⟩ | ⟨_, hE⟩
    · rw [good_odd g] at hb
      cases hb
    · show tRaiseBr _ _ _ _ _ _
      refine ⟨vp, rfl, vp, rfl, fun dd hdd => ?_⟩
      exact hE _ dd vp ((x1.trans x2).trans (Evl.Ex.new hdd)) upd_same ((hvp.ex x2).ex (Evl.Ex.new hdd))
  · rcases h with ⟨r, rfl, g, k⟩ | ⟨hn, _⟩
    · have hv2 : Td H2 v (toR r) := (hv.ex x1).ex x2
      have few := g.few
      refine q_forR (lo := 1) (hi := ((r.map Datum.toD : List PyData).length : Nat)) (ea_cons ed_int (ea_cons (ed_len (ed_var rfl hv2)) ea_nil)) (by rw [List.length_map]; omega) (fun n σ' H' => Ex H2 H' ∧ ∃ x y z, σ' = [some v, some vp, x, y, z]) (fun H3 x3 => ⟨x3, none, none, none, rfl⟩) (fun n σ' H' hn p => ?_) fun σ' H' p => ?_
      · obtain ⟨ex, x, y, z, rfl⟩ := p
        rw [List.length_map] at hn
        have hn1 : n + 1 < r.length := by omega
        have e1 : r[n]? = some r[n] := List.getElem?_eq_getElem (by omega)
        have e2 : r[n + 1]? = some r[n + 1] := List.getElem?_eq_getElem hn1
        have hvr : Td H' v (toR r) := hv2.ex ex
        show tIfS _ _ _ _ _ _
        refine s_ifN (b := !ltN r[n] r[n + 1]) (et_test (ed_geN (ed_op (ed_var (v := v) rfl hvr) (ed_op (ed_var (d := .int (1 + (n : Nat))) rfl (.int _)) ed_int r2_I0) (r2_ixT (toR_at (by omega) (by omega) e1))) (ed_op (ed_var (v := v) rfl hvr) (ed_var (d := .int (1 + (n : Nat))) rfl (.int _)) (r2_ixT (toR_at (by omega) (by omega) e2))))) (fun hb3 H3 x3 => ?_) fun hb3 H3 x3 => ?_
        · rw [g.rise n _ _ e1 e2] at hb3
          cases hb3
        · exact ⟨ex.trans x3, _, _, _, rfl⟩
      · obtain ⟨ex, x, y, z, rfl⟩ := p
        have hvr : Td H' v (toR r) := hv2.ex ex
        refine q_forE (ds := r.map Datum.toD) (ea_cons (ed_var rfl hvr) ea_nil) (fun H3 n σ' H' => Ex H3 H' ∧ ∃ x y z, σ' = [some v, some vp, x, y, z]) (fun H3 x3 => ⟨Evl.Ex.refl _, _, _, _, rfl⟩) (fun H3 n σ' H' p => tk_ex p.1) (fun H3 n σ' H' T xs p hT => ⟨p.1.trans (Evl.Ex.new hT), p.2⟩) (fun H3 x3 n d' vn σ' H4 hd p hvn => ?_) fun H3 x3 σ' H4 p => ?_
        · obtain ⟨ex3, x, y, z, rfl⟩ := p
          rw [List.getElem?_map, Option.map_eq_some_iff] at hd
          obtain ⟨nd, hnd, rfl⟩ := hd
          have hnm : nd ∈ r := List.mem_of_getElem? hnd
          have hv4 : Td H4 v (toR r) := (hvr.ex x3).ex ex3
          have e0 : (r.any fun o => !decide (o = nd) && hasAll nd o) = false := by
            rw [Bool.eq_false_iff]
            intro z
            obtain ⟨o, ho, q⟩ := List.any_eq_true.mp z
            rw [Bool.and_eq_true] at q
            by_cases e : o = nd
            · rw [decide_eq_true e] at q
              cases q.1
            · rw [g.anti nd hnm o ho e] at q
              cases q.2
          show tIfS _ _ _ _ _ _
          refine s_ifN (b := false) (et_test (ed_is (ed_someOf (el_lcG (xs := r) Datum.toD (fun o => !decide (o = nd) && hasAll nd o) (fun _ => .int 1) (ed_var (v := v) rfl hv4) (sz_small (by omega)) (fun _ => rfl) (fun o vo H5 ho x5 hvo => Evl.et_and (et_test (ed_neNd (ed_var (v := vo) rfl hvo) (ed_var (v := vn) rfl (hvn.ex x5)))) fun _ => et_B (ed_has (Nat.le_trans (need_len (g.need o ho)).2 (by decide)) (ed_var (v := vn) rfl (hvn.ex x5)) (ed_var (v := vo) rfl hvo))) fun _ _ _ _ _ _ _ => ed_int)) (by rw [e0]))) (fun hb3 H5 x5 => by cases hb3) fun hb3 H5 x5 => ?_
          exact ⟨ex3.trans x5, _, _, _, rfl⟩
        · obtain ⟨ex3, x, y, z, rfl⟩ := p
          exact ⟨v, rfl, k H4 ((((x1.trans x2).trans ex).trans x3).trans ex3)⟩
    · exfalso
      cases ho : oddD d with
      | none => exact hn ho
      | _ => rw [ho] at hb; cases hb
end
end Isl
end
section
set_option Elab.async false
set_option linter.all false
set_option maxRecDepth 100000
set_option maxHeartbeats 4000000
/-! is_lesser, parting_island, is_parting -/
namespace Isl
open PySem PySem.Spec PyProof.Rows L2
open Evl (Ex EvT)
open PySem.W (dataLt Datum DatumOrd)
section
variable {P : Program} {w : World} {K : PySem.W.Frag} {mg : Str → Option Value} {base : Heap} {ta tb : TE} {σ : L2.St} {H : Hp} {D : Ends} {tv : TS} {d e : PyData} {ts : TA} {E : XK}
theorem q_two {C : Addr} {i j : Nat} {v1 v2 : V} {d1 d2 : PyData} {G : List Nd → List Nd → Prop} (hi : σ[i]? = some (some v1)) (hj : σ[j]? = some (some v2)) (h1 : Td H v1 d1) (h2 : Td H v2 d2) (h : Two C H E d1 d2 G)
    (k : ∀ r1 r2, d1 = toR r1 → d2 = toR r2 → GoodR r1 → GoodR r2 → G r1 r2 → ∀ H', Ex H H' → tv D σ H') :
    tSeq (tDrop (tCall (spNR C) [] E (tCons (tVar i) tNil))) (tSeq (tDrop (tCall (spNR C) [] E (tCons (tVar j) tNil))) tv) D σ H := by
  rcases h with ⟨r1, r2, rfl, rfl, g1, g2, g⟩ | ⟨hn, hE⟩ | ⟨r1, rfl, g1, hn, hE⟩
  · exact ⟨v1, hi, v1, _, rfl, h1, .inl ⟨r1, rfl, g1, fun H1 x1 => ⟨v2, hj, v2, _, rfl, h2.ex x1, .inl ⟨r2, rfl, g2, fun H2 x2 => k r1 r2 rfl rfl g1 g2 g H2 (x1.trans x2)⟩⟩⟩⟩
  · exact ⟨v1, hi, v1, _, rfl, h1, .inr ⟨hn, hE⟩⟩
  · exact ⟨v1, hi, v1, _, rfl, h1, .inl ⟨r1, rfl, g1, fun H1 x1 => ⟨v2, hj, v2, _, rfl, h2.ex x1, .inr ⟨hn, hE.ex x1⟩⟩⟩⟩
theorem plain_nds (r : List Nd) : PyData.plainAll (r.map Datum.toD) = true := PySem.W.plainAll_map r

/-! ### is_lesser -/
theorem sc29 : FnScope ["one", "other", "need"] ["one", "other"] (defScope (topS 29)) := ⟨rfl, rfl, rfl, by decide +kernel, rfl, by decide +kernel, by decide +kernel⟩
theorem c_is_lesser {C : Addr} (D : Dn K mg "is_lesser" (topS 29) ["one", "other"]) (B : Bt mg) (c_need_rule : Cal P w K mg base (L2.CX P w) 5 "need_rule" ["rule"] (spNR C)) (c_holds_one : Cal P w K mg base CX0 2 "holds_one" ["need", "rule"] spHolds) :
    Cal P w K mg base (L2.CX P w) 6 "is_lesser" ["one", "other"] (spLesser C) := D.cal fun f fd F => by
  refine F.okX sc29 (fun vs H Q E h => by obtain ⟨v1, v2, d1, d2, rfl, _⟩ := h; rfl) fun cdv A outer s H vs Q E hr h => ?_
  obtain ⟨v1, v2, d1, d2, rfl, h1, h2, h⟩ := h
  refine ⟨_, (pss_cons (ps_expr (pe_cal c_need_rule (hr.mono (by decide)) (passes_call (takes_of rfl rfl rfl rfl) fun _ _ _ _ h => h) (pa_cons (pv 0) pa_nil))) (pss_cons (ps_expr (pe_cal c_need_rule (hr.mono (by decide)) (passes_call (takes_of rfl rfl rfl rfl) fun _ _ _ _ h => h) (pa_cons (pv 1) pa_nil))) (pss_one (ps_ret (pe_cmpR (op_eqP' (K := K) rfl hr.units) (pe_lc (own := [("need", 2)]) (g := (gName 2)) rfl sc29.nd (pi_tup (pv 0)) (blkOk_by (N := ["one", "other", "need"]) (sc := defScope (topS 29)) (by decide +kernel)) (fun _ _ _ _ _ => (pg_name (i := 2) sc29.nd rfl (.inl rfl))) (fun _ _ _ _ _ => (pts_one (pt_not (pt_val (pe_cal c_holds_one (hr.mono (by decide)) pass0 (pa_cons (pv 2) (pa_cons (pv 1) pa_nil))))))) (fun _ _ _ _ _ => pe_int)) (pe_lst pa_nil) (nomark _)))))), ?_⟩
  refine q_two rfl rfl h1 h2 h fun r1 r2 e1 e2 g1 g2 k H1 x1 => ?_
  subst e1 e2
  have few := g1.few
  refine s_ret (ed_is (ed_noneOf (el_lcG (xs := r1) Datum.toD (fun n => !holdsOne n r2) (fun _ => .int 1) (ed_var (v := v1) rfl (h1.ex x1)) (sz_small (by omega)) (fun _ => rfl) (fun n vn H2 hn x2 hvn => Evl.et_not (et_B (ed_holds g2.small (ed_var (v := vn) rfl hvn) (ed_var (v := v2) rfl ((h2.ex x1).ex x2))))) fun _ _ _ _ _ _ _ => ed_int)) (e := .bool (lesserR r1 r2)) ?_) fun v' H' x hv => ?_
  · unfold lesserR
    rw [List.not_any_eq_all_not]
    simp
  · rw [hv.toB]
    exact k H' (x1.trans x)

/-! ### parting_island -/
theorem sc30 : FnScope ["one", "other", "found", "need"] ["one", "other"] (defScope (topS 30)) := ⟨rfl, rfl, rfl, by decide +kernel, rfl, by decide +kernel, by decide +kernel⟩
theorem c_parting_island {C N : Addr} (D : Dn K mg "parting_island" (topS 30) ["one", "other"]) (B : Bt mg) (TN : NrT K P mg N) (c_need_rule : Cal P w K mg base (L2.CX P w) 5 "need_rule" ["rule"] (spNR C)) (c_holds_one : Cal P w K mg base CX0 2 "holds_one" ["need", "rule"] spHolds) :
    Cal P w K mg base (L2.CX P w) 6 "parting_island" ["one", "other"] (spPartI C N) := D.cal fun f fd F => by
  refine F.okX sc30 (fun vs H Q E h => by obtain ⟨v1, v2, d1, d2, rfl, _⟩ := h; rfl) fun cdv A outer s H vs Q E hr h => ?_
  obtain ⟨v1, v2, d1, d2, rfl, h1, h2, h⟩ := h
  refine ⟨_, (pss_cons (ps_expr (pe_cal c_need_rule (hr.mono (by decide)) (passes_call (takes_of rfl rfl rfl rfl) fun _ _ _ _ h => h) (pa_cons (pv 0) pa_nil))) (pss_cons (ps_expr (pe_cal c_need_rule (hr.mono (by decide)) (passes_call (takes_of rfl rfl rfl rfl) fun _ _ _ _ h => h) (pa_cons (pv 1) pa_nil))) (pss_cons (ps_setLc (i := 2) (own := [("need", 3)]) (g := (gName 3)) rfl sc30.nd rfl rfl (sw_true rfl rfl rfl (by decide +kernel)) (pi_tup (pv 0)) (blkOk_by (N := ["one", "other", "found", "need"]) (sc := defScope (topS 30)) (by decide +kernel)) (fun _ _ _ _ _ => (pg_name (i := 3) sc30.nd rfl (.inl rfl))) (fun _ _ _ _ _ => (pts_one (pt_not (pt_val (pe_cal c_holds_one (hr.mono (by decide)) pass0 (pa_cons (pv 3) (pa_cons (pv 1) pa_nil))))))) (fun _ _ _ _ _ => (pv 3))) (pss_cons (ps_expr (pe_bm PySem.F.plainAttrs_list PySem.F.slot_list_extend PySem.F.type_list_extend mt_extend (pv 2) (pa_cons (pe_lc (own := [("need", 3)]) (g := (gName 3)) rfl sc30.nd (pi_tup (pv 1)) (blkOk_by (N := ["one", "other", "found", "need"]) (sc := defScope (topS 30)) (by decide +kernel)) (fun _ _ _ _ _ => (pg_name (i := 3) sc30.nd rfl (.inl rfl))) (fun _ _ _ _ _ => (pts_one (pt_not (pt_val (pe_cal c_holds_one (hr.mono (by decide)) pass0 (pa_cons (pv 3) (pa_cons (pv 0) pa_nil))))))) (fun _ _ _ _ _ => (pv 3))) pa_nil))) (pss_cons (ps_if (pt_cmpR (op_eqP' (K := K) rfl hr.units) (pv 2) (pe_lst pa_nil) (nomark _)) (pss_one (ps_raiseNr rfl TN hr (takes_of rfl rfl rfl rfl))) pss_nil) (pss_one (ps_ret (pe_callB (cr_minD rfl hr.units) (by rfl) B.min (by decide +kernel) (pa_cons (pv 2) pa_nil))))))))), ?_⟩
  refine q_two rfl rfl h1 h2 h fun r1 r2 e1 e2 g1 g2 k H1 x1 => ?_
  subst e1 e2
  have few1 := g1.few
  have few2 := g2.few
  refine q_asgL (el_lcG (xs := r1) Datum.toD (fun n => !holdsOne n r2) Datum.toD (ed_var (v := v1) rfl (h1.ex x1)) (sz_small (by omega)) (fun _ => rfl) (fun n vn H2 hn x2 hvn => Evl.et_not (et_B (ed_holds g2.small (ed_var (v := vn) rfl hvn) (ed_var (v := v2) rfl ((h2.ex x1).ex x2))))) fun n vn H2 _ _ x2 hvn => ed_var (v := vn) rfl hvn) fun p xs H2 hp x2 hp2 hT => ?_
  refine ⟨.ref p, rfl, .inl ⟨rfl, _, Or.inl (Or.inl hp2)⟩, ?_⟩
  refine el_lcG (H := H2) (xs := r2) Datum.toD (fun n => !holdsOne n r1) Datum.toD (ed_var (v := v2) rfl ((h2.ex x1).ex x2)) (sz_small (by omega)) (fun _ => rfl) (fun n vn H3 hn x3 hvn => Evl.et_not (et_B (ed_holds g1.small (ed_var (v := vn) rfl hvn) (ed_var (v := v1) rfl (((h1.ex x1).ex x2).ex x3))))) (fun n vn H3 _ _ x3 hvn => ed_var (v := vn) rfl hvn) H2 (Evl.Ex.refl H2) _ fun q ys H3 hq x3 hq2 hT2 => ?_
  have hp3 : H3 p = some (.lst xs) := x3 _ _ hp2
  have hlx : xs.length ≤ 60 := by
    rw [hT.len, List.length_map]
    exact Nat.le_trans (List.length_filter_le ..) few1
  have hly : ys.length ≤ 60 := by
    rw [hT2.len, List.length_map]
    exact Nat.le_trans (List.length_filter_le ..) few2
  refine ⟨p, q, xs, ys, rfl, rfl, hp3, hq2, sz_small (by omega), ?_⟩
  have kk : Tk H3 (upd H3 p (.lst (xs ++ ys))) := tk_put hp3 fun _ z => by cases z
  have xm : Ex H (upd H3 p (.lst (xs ++ ys))) := Evl.Ex.mut ((x1.trans x2).trans x3) (Evl.fresh_back x1 hp)
  have hT3 : TdAll (upd H3 p (.lst (xs ++ ys))) (xs ++ ys) ((lackR r1 r2 ++ lackR r2 r1).map Datum.toD) := by
    rw [List.map_append]
    exact ((hT.ex x3).tk kk).app (hT2.tk kk)
  refine q_if (b := (lackR r1 r2 ++ lackR r2 r1).map (Datum.toD : Nd → PyData) |>.isEmpty) (et_test (ed_eqNv (a := p) rfl upd_same hT3 (plain_nds _))) (fun hb H4 x4 => ?_) fun hb H4 x4 => ?_
  · cases hl : lackR r1 r2 ++ lackR r2 r1 with
    | nil =>
      rw [hl] at k
      exact k H4 (xm.trans x4)
    | cons z zs => rw [hl] at hb; cases hb
  · cases hl : lackR r1 r2 ++ lackR r2 r1 with
    | nil => rw [hl] at hb; cases hb
    | cons z zs =>
      rw [hl] at k hT3
      exact s_ret (ed_minV (a := p) (z := z) (zs := zs) rfl (x4 _ _ upd_same) (hT3.ex x4) (by decide)) fun v' H' x hv => k v' H' ((xm.trans x4).trans x) hv

/-! ### is_parting -/
theorem sc31 : FnScope ["one", "other", "value"] ["one", "other", "value"] (defScope (topS 31)) := ⟨rfl, rfl, rfl, by decide +kernel, rfl, by decide +kernel, by decide +kernel⟩
theorem ed_island {i : Nat} {v : V} {d : PyData} {E : XK} (h : σ[i]? = some (some v)) (hv : OdV H v d) : ED (tCall spIsland [] E (tCons (tVar i) tNil)) σ H (.bool (isIslandD d)) := fun H1 x Q q => ⟨v, h, v, d, rfl, hv.ex x, fun H2 x2 => q _ H2 x2 (.bl _)⟩
theorem ed_step {r : List Nd} {ps : List Pl} {E : XK} (ok : StepOk r ps) (h1 : ED ta σ H (toR r)) (h2 : ED tb σ H (.tuple (ps.map Datum.toD))) : ED (tCall spStep [] E (tCons ta (tCons tb tNil))) σ H (.tuple ((stepR r ps).map Datum.toD)) :=
  ed_call (⟨(r, ps), ok⟩ : { p : List Nd × List Pl // StepOk p.1 p.2 }) (ea_cons h1 (ea_cons h2 ea_nil)) rfl
theorem eqv_pls (ps qs : List Pl) : PyData.eqv (.tuple (ps.map Datum.toD)) (.tuple (qs.map Datum.toD)) = decide (ps = qs) := by
  rw [PyData.eqv]
  exact PySem.W.eqvAll_map ps qs
theorem ok_pls (ps : List Pl) : okD (.tuple (ps.map Datum.toD)) = true := ok_nd ⟨ps⟩
theorem ed_nePls {ps qs : List Pl} (h1 : ED ta σ H (.tuple (ps.map Datum.toD))) (h2 : ED tb σ H (.tuple (qs.map Datum.toD))) : ED (tOp (rNeP K) ta tb) σ H (.bool (!decide (ps = qs))) := by
  have h := ed_op h1 h2 (r2_neP (K := K) (okD_p (ok_pls ps)).1 (ok_pls qs))
  rw [eqv_pls] at h
  exact h
theorem c_is_parting {C : Addr} (D : Dn K mg "is_parting" (topS 31) ["one", "other", "value"]) (B : Bt mg) (c_need_rule : Cal P w K mg base (L2.CX P w) 5 "need_rule" ["rule"] (spNR C)) (c_is_island : Cal P w K mg base CX0 4 "is_island" ["value"] spIsland) (c_step_so : Cal P w K mg base CX0 2 "step_so" ["rule", "island"] spStep) :
    Cal P w K mg base (L2.CX P w) 6 "is_parting" ["one", "other", "value"] (spIsPart C) := D.cal fun f fd F => by
  refine F.okX sc31 (fun vs H Q E h => by obtain ⟨v1, v2, v3, d1, d2, d3, rfl, _⟩ := h; rfl) fun cdv A outer s H vs Q E hr h => ?_
  obtain ⟨v1, v2, v3, d1, d2, d3, rfl, h1, h2, h3, h⟩ := h
  refine ⟨_, (pss_cons (ps_expr (pe_cal c_need_rule (hr.mono (by decide)) (passes_call (takes_of rfl rfl rfl rfl) fun _ _ _ _ h => h) (pa_cons (pv 0) pa_nil))) (pss_cons (ps_expr (pe_cal c_need_rule (hr.mono (by decide)) (passes_call (takes_of rfl rfl rfl rfl) fun _ _ _ _ h => h) (pa_cons (pv 1) pa_nil))) (pss_one (ps_ret (pe_and (pe_cal c_is_island (hr.mono (by decide)) pass0 (pa_cons (pv 2) pa_nil)) (pe_one (pe_cmpR (op_neP' (K := K) rfl hr.units) (pe_cal c_step_so (hr.mono (by decide)) pass0 (pa_cons (pv 0) (pa_cons (pv 2) pa_nil))) (pe_cal c_step_so (hr.mono (by decide)) pass0 (pa_cons (pv 1) (pa_cons (pv 2) pa_nil))) (nomark _)))))))), ?_⟩
  refine q_two rfl rfl h1 h2 h fun r1 r2 e1 e2 g1 g2 k H1 x1 => ?_
  subst e1 e2
  rcases k with ⟨hf, k⟩ | ⟨ps, rfl, ht, o1, o2, k⟩
  · refine s_ret (d := .bool (isIslandD d3 && false)) (ed_and (ed_island (v := v3) rfl (h3.ex x1)) fun z => ?_) fun v' H' x hv => ?_
    · rw [hf] at z
      cases z
    · rw [hf] at hv
      rw [hv.toB]
      exact k H' (x1.trans x)
  · have h3' : Td H v3 (.tuple (ps.map Datum.toD)) := by
      rcases h3 with h3 | ⟨e, _⟩
      · exact h3
      · cases e
    refine s_ret (d := .bool (isIslandD (.tuple (ps.map Datum.toD)) && !decide (stepR r1 ps = stepR r2 ps))) (ed_and (ed_island (v := v3) rfl (h3.ex x1)) fun z => ?_) fun v' H' x hv => ?_
    · exact ed_nePls (ed_step o1 (ed_var (v := v1) rfl (h1.ex x1)) (ed_var (v := v3) rfl (h3'.ex x1))) (ed_step o2 (ed_var (v := v2) rfl (h2.ex x1)) (ed_var (v := v3) rfl (h3'.ex x1)))
    · rw [ht, Bool.true_and] at hv
      rw [hv.toB]
      exact k H' (x1.trans x)
end
end Isl
end
section
set_option Elab.async false
set_option linter.all false
set_option maxRecDepth 100000
set_option maxHeartbeats 4000000
/-! the law's own helpers over rules and marks -/
namespace Isl
open PySem PySem.Spec PyProof.Rows L2
open Evl (Ex EvT)
open PySem.W (dataLt Datum DatumOrd)
section
variable {P : Program} {w : World} {K : PySem.W.Frag} {mg : Str → Option Value} {base : Heap} {ta tb : TE} {σ : L2.St} {H : Hp} {D : Ends} {tv : TS} {d e : PyData} {ts : TA} {E : XK}
def toN (ps : List Pl) : PyData := .tuple (ps.map Datum.toD)
theorem toN_nd (n : Nd) : (Datum.toD n : PyData) = toN n.items := rfl

/-! ### _law_places -/
theorem sc41 : FnScope ["_law_needs_so", "_law_found", "_law_need_here", "_law_a"] ["_law_needs_so"] (defScope (topS 41)) := ⟨rfl, rfl, rfl, by decide +kernel, rfl, by decide +kernel, by decide +kernel⟩
def allP (r : List Nd) : List Pl := r.flatMap fun n => n.items
def BigR (r : List Nd) : Prop := r.length ≤ 100 ∧ ∀ n ∈ r, n.items.length ≤ 100
def spPlaces : Sp := spLF (ι := { r : List Nd // BigR r }) (fun r => [toR r.1]) fun r => (canon ltP (allP r.1)).map Datum.toD
theorem c__law_places (D : Dn K mg "_law_places" (topS 41) ["_law_needs_so"]) (B : Bt mg) : Cal P w K mg base CX0 1 "_law_places" ["_law_needs_so"] spPlaces := D.cal fun f fd F => by
  refine F.ok sc41 (spLF_len fun _ => rfl) fun cdv A outer s H vs Q E hr h => ?_
  obtain ⟨⟨r, hb⟩, hT, k⟩ := h
  obtain ⟨v, rfl, hv⟩ := pairs1 hT
  have hb : BigR r := hb
  refine ⟨_, (pss_cons (ps_set (i := 1) sc41.nd rfl (.inl rfl) pe_dnewT) (pss_cons (ps_for PassesOwn.never rfl (pi_tup (pv 0)) (pg_name (i := 2) sc41.nd rfl (.inl rfl)) (pss_one (ps_for PassesOwn.never rfl (pi_tup (pv 2)) (pg_name (i := 3) sc41.nd rfl (.inl rfl)) (pss_one (ps_dput (hu_of hr) (pv 1) (pv 3) pe_bl rfl))))) (pss_one (ps_ret (pe_callB (cr_sortedDT rfl hr.units) (by rfl) B.sorted (by decide +kernel) (pa_cons (pv 1) pa_nil)))))), ?_⟩
  refine fun b hb0 => ?_
  have xb : Ex H (upd H b (.dT [])) := Evl.Ex.new hb0
  have g0 : GrowD b (upd H b (.dT [])) [] 0 := .new upd_same
  refine q_forT (ed_var (v := v) rfl (hv.ex xb)) (fun H2 i σ' H' => Ex H H' ∧ Tk H2 H' ∧ (∃ x y, σ' = [some v, some (.ref b), x, y]) ∧ GrowD b H' (allP (r.take i)) (i * 100)) (fun H2 x2 => ⟨xb.trans x2, Tk.refl _, ⟨none, none, rfl⟩, (g0.ext x2).more (Nat.zero_le _)⟩) (fun H2 i σ' H' p => p.2.1)
    (fun H2 x2 i d vn σ' H' hd p hvn => ?_) fun H2 x2 σ' H' p => ?_
  · obtain ⟨ex, tk, ⟨x, y, rfl⟩, g⟩ := p
    rw [List.getElem?_map, Option.map_eq_some_iff] at hd
    obtain ⟨n, hn, rfl⟩ := hd
    have hin : i < r.length := (List.getElem?_eq_some_iff.mp hn).1
    have hle := hb.2 n (List.mem_of_getElem? hn)
    have hr1 := hb.1
    show tFor _ _ _ _ _ _
    refine s_forT (ds := n.items.map Datum.toD) (ed_var (v := vn) rfl hvn) (fun H3 j σ' H' => Ex H H' ∧ Tk H3 H' ∧ (∃ y, σ' = [some v, some (.ref b), some vn, y]) ∧ GrowD b H' (allP (r.take i) ++ n.items.take j) (i * 100 + j)) (fun H3 x3 => ⟨ex.trans x3, Tk.refl _, ⟨y, rfl⟩, ?_⟩) (fun H3 j σ' H' p => p.2.1)
      (fun H3 x3 j d va σ' H' hd p hva => ?_) fun H3 x3 σ' H' p => ?_
    · have := g.ext x3
      simpa using this
    · obtain ⟨ex, tk, ⟨y, rfl⟩, g⟩ := p
      rw [List.getElem?_map, Option.map_eq_some_iff] at hd
      obtain ⟨a, ha, rfl⟩ := hd
      have hjl : j < n.items.length := (List.getElem?_eq_some_iff.mp ha).1
      refine e_dput (p := a) rfl (ed_var (v := va) rfl hva) g (by omega) fun H6 hk6 tk6 g6 => ?_
      refine ⟨fun c o e => hk6 c o (fun z => by rw [z, hb0] at e; cases e) (ex _ _ e), tk.trans tk6, ⟨_, rfl⟩, ?_⟩
      rw [take_next' ha, ← List.append_assoc]
      exact g6
    · obtain ⟨ex', tk', ⟨y, rfl⟩, g'⟩ := p
      refine ⟨ex', (tk.trans (tk_ex x3)).trans tk', ⟨_, _, rfl⟩, ?_⟩
      rw [List.length_map, List.take_length] at g'
      unfold allP at g' ⊢
      rw [take_next' hn, List.flatMap_append, List.flatMap_singleton]
      exact g'.more (by omega)
  · obtain ⟨ex, tk, ⟨x, y, rfl⟩, g⟩ := p
    rw [List.length_map, List.take_length] at g
    have hr1 := hb.1
    refine el_sortedD (b := b) rfl g (by show r.length * 100 ≤ 60000; omega) H' (Evl.Ex.refl _) _ fun p xs H3 hp x3 hp3 hT3 => ?_
    exact k p xs H3 (Evl.fresh_back ex hp) (ex.trans x3) hp3 hT3

/-! ### _law_joined -/
theorem sc44 : FnScope ["_law_one", "_law_other", "_law_found", "_law_spot"] ["_law_one", "_law_other"] (defScope (topS 44)) := ⟨rfl, rfl, rfl, by decide +kernel, rfl, by decide +kernel, by decide +kernel⟩
def spJoined : Sp := spF (ι := { p : Nd × Nd // p.1.items.length ≤ 100 ∧ p.2.items.length ≤ 100 }) (fun p => [Datum.toD p.1.1, Datum.toD p.1.2]) fun p => toN (canon ltP (p.1.1.items ++ p.1.2.items))
theorem c__law_joined (D : Dn K mg "_law_joined" (topS 44) ["_law_one", "_law_other"]) (B : Bt mg) : Cal P w K mg base CX0 1 "_law_joined" ["_law_one", "_law_other"] spJoined := D.cal fun f fd F => by
  refine F.ok sc44 (spF_len fun _ => rfl) fun cdv A outer s H vs Q E hr h => ?_
  obtain ⟨⟨⟨n, o⟩, hl⟩, hT, k⟩ := h
  obtain ⟨v, v2, rfl, hv, hv2⟩ := pairs2 hT
  have hl : n.items.length ≤ 100 ∧ o.items.length ≤ 100 := hl
  refine ⟨_, (pss_cons (ps_set (i := 2) sc44.nd rfl (.inl rfl) pe_dnewT) (pss_cons (ps_for PassesOwn.never rfl (pi_tup (pe_op op_catA (pv 0) (pv 1))) (pg_name (i := 3) sc44.nd rfl (.inl rfl)) (pss_one (ps_dput (hu_of hr) (pv 2) (pv 3) pe_bl rfl))) (pss_one (ps_ret (pe_callTy call_tuple_of (by rfl) B.tuple (by decide +kernel) (pa_cons (pe_callB (cr_sortedDT rfl hr.units) (by rfl) B.sorted (by decide +kernel) (pa_cons (pv 2) pa_nil)) pa_nil)))))), ?_⟩
  refine fun b hb0 => ?_
  have xb : Ex H (upd H b (.dT [])) := Evl.Ex.new hb0
  have g0 : GrowD b (upd H b (.dT [])) [] 0 := .new upd_same
  refine q_forT (ds := (n.items ++ o.items).map Datum.toD) (ed_is (ed_op (d := .tuple (n.items.map Datum.toD)) (e := .tuple (o.items.map Datum.toD)) (ed_var (v := v) rfl (hv.ex xb)) (ed_var (v := v2) rfl (hv2.ex xb)) (r2_cat (sz_small (by rw [List.length_map, List.length_map]; omega)))) (by rw [List.map_append]))
    (fun H2 i σ' H' => Ex H H' ∧ Tk H2 H' ∧ (∃ x, σ' = [some v, some v2, some (.ref b), x]) ∧ GrowD b H' ((n.items ++ o.items).take i) i) (fun H2 x2 => ⟨xb.trans x2, Tk.refl _, ⟨none, rfl⟩, (g0.ext x2)⟩) (fun H2 i σ' H' p => p.2.1)
    (fun H2 x2 i d va σ' H' hd p hva => ?_) fun H2 x2 σ' H' p => ?_
  · obtain ⟨ex, tk, ⟨x, rfl⟩, g⟩ := p
    rw [List.getElem?_map, Option.map_eq_some_iff] at hd
    obtain ⟨a, ha, rfl⟩ := hd
    have hjl : i < (n.items ++ o.items).length := (List.getElem?_eq_some_iff.mp ha).1
    rw [List.length_append] at hjl
    refine e_dput (p := a) rfl (ed_var (v := va) rfl hva) g (by omega) fun H6 hk6 tk6 g6 => ?_
    refine ⟨fun c o e => hk6 c o (fun z => by rw [z, hb0] at e; cases e) (ex _ _ e), tk.trans tk6, ⟨_, rfl⟩, ?_⟩
    rw [take_next' ha]
    exact g6
  · obtain ⟨ex, tk, ⟨x, rfl⟩, g⟩ := p
    rw [List.length_map, List.take_length] at g
    refine s_ret (ed_tupOf (el_sortedD (b := b) rfl g (by rw [List.length_append]; omega))) fun v' H'' x' hv' => k v' H'' (ex.trans x') hv'

/-! ### _law_marked -/
theorem sc45 : FnScope ["_law_needs_so", "_law_marks_so", "_law_need_here", "_law_a"] ["_law_needs_so", "_law_marks_so"] (defScope (topS 45)) := ⟨rfl, rfl, rfl, by decide +kernel, rfl, by decide +kernel, by decide +kernel⟩
def markedR (r : List Nd) (ps : List Pl) : Bool := r.any fun n => n.items.all fun p => memB p ps
def spMarked : Sp := spF (ι := { p : List Nd × List Pl // BigR p.1 }) (fun p => [toR p.1.1, toN p.1.2]) fun p => .bool (markedR p.1.1 p.1.2)
theorem c__law_marked (D : Dn K mg "_law_marked" (topS 45) ["_law_needs_so", "_law_marks_so"]) (B : Bt mg) : Cal P w K mg base CX0 1 "_law_marked" ["_law_needs_so", "_law_marks_so"] spMarked := D.cal fun f fd F => by
  refine F.ok sc45 (spF_len fun _ => rfl) fun cdv A outer s H vs Q E hr h => ?_
  obtain ⟨⟨⟨r, ps⟩, hb⟩, hT, k⟩ := h
  obtain ⟨v, v2, rfl, hv, hv2⟩ := pairs2 hT
  have hb : BigR r := hb
  refine ⟨_, (pss_cons (ps_for PassesOwn.never rfl (pi_tup (pv 0)) (pg_name (i := 2) sc45.nd rfl (.inl rfl)) (pss_one (ps_if (pt_cmpR (op_eqP' (K := K) rfl hr.units) (pe_lc (own := [("_law_a", 3)]) (g := (gName 3)) rfl sc45.nd (pi_tup (pv 2)) (blkOk_by (N := ["_law_needs_so", "_law_marks_so", "_law_need_here", "_law_a"]) (sc := defScope (topS 45)) (by decide +kernel)) (fun _ _ _ _ _ => (pg_name (i := 3) sc45.nd rfl (.inl rfl))) (fun _ _ _ _ _ => (pts_one (pt_cmpR (op_notInD hr.units) (pv 3) (pv 1) (by rfl)))) (fun _ _ _ _ _ => pe_int)) (pe_lst pa_nil) (nomark _)) (pss_one (ps_ret pe_bl)) pss_nil))) (pss_one (ps_ret pe_bl))), ?_⟩
  refine q_forT (ed_var (v := v) rfl hv) (fun H2 i σ' H' => Ex H2 H' ∧ (∃ x, σ' = [some v, some v2, x, none]) ∧ markedR (r.take i) ps = false) (fun H2 x2 => ⟨Evl.Ex.refl _, ⟨none, rfl⟩, rfl⟩) (fun H2 i σ' H' p => tk_ex p.1) (fun H2 x2 i d vn σ' H' hd p hvn => ?_) fun H2 x2 σ' H' p => ?_
  · obtain ⟨ex, ⟨x, rfl⟩, hm⟩ := p
    rw [List.getElem?_map, Option.map_eq_some_iff] at hd
    obtain ⟨n, hn, rfl⟩ := hd
    have hle := hb.2 n (List.mem_of_getElem? hn)
    have hv2' : Td H' v2 (toN ps) := (hv2.ex x2).ex ex
    show tIfS _ _ _ _ _ _
    refine s_ifN (b := n.items.all fun p => memB p ps) (et_test (ed_is (ed_noneOf (el_lcG (xs := n.items) Datum.toD (fun p => !memB p ps) (fun _ => .int 1) (ed_var (v := vn) rfl hvn) (sz_small (by omega)) (fun _ => rfl)
      (fun p vp H3 hp x3 hvp => et_test (ed_notInP (n := ⟨ps⟩) (ed_var (v := vp) rfl hvp) (ed_var (v := v2) rfl (hv2'.ex x3)))) fun _ _ _ _ _ _ _ => ed_int)) ?_)) (fun hb3 H3 x3 => ?_) fun hb3 H3 x3 => ?_
    · rw [List.not_any_eq_all_not]
      simp
    · have e : markedR r ps = true := List.any_eq_true.mpr ⟨n, List.mem_of_getElem? hn, hb3⟩
      refine s_ret ed_bl fun v' H4 x4 hv' => k v' H4 (((x2.trans ex).trans x3).trans x4) ?_
      show Td H4 v' (.bool (markedR r ps))
      rw [e]; exact hv'
    · refine ⟨ex.trans x3, ⟨_, rfl⟩, ?_⟩
      unfold markedR at hm ⊢
      rw [take_next' hn, List.any_append, hm, List.any_cons, hb3] <;> rfl
  · obtain ⟨ex, ⟨x, rfl⟩, hm⟩ := p
    rw [List.length_map, List.take_length] at hm
    refine s_ret ed_bl fun v' H4 x4 hv' => k v' H4 ((x2.trans ex).trans x4) ?_
    show Td H4 v' (.bool (markedR r ps))
    rw [hm]; exact hv'

/-! ### _law_lacking -/
theorem sc48 : FnScope ["_law_one", "_law_other", "_law_found", "_law_need_here", "_law_far", "_law_a"] ["_law_one", "_law_other"] (defScope (topS 48)) := ⟨rfl, rfl, rfl, by decide +kernel, rfl, by decide +kernel, by decide +kernel⟩
abbrev scFar : Scope := { kind := .function, names := [(".0", .local), ("_law_far", .local), ("_law_need_here", .free)], isGenerator := false, isCoroutine := false }
/-- a list that the def fills: what it holds -/
theorem e_append {i j : Nat} {b : Addr} {v : V} {d : PyData} {xs : List V} {ds : List PyData} (hi : σ[i]? = some (some (.ref b))) (hj : σ[j]? = some (some v)) (hb : H b = some (.lst xs)) (hv : Td H v d) (hx : TdAll H xs ds) (hn : ds.length < 60000)
    (k : ∀ H', (∀ c, c ≠ b → H' c = H c) → Tk H H' → H' b = some (.lst (xs ++ [v])) → TdAll H' (xs ++ [v]) (ds ++ [d]) → D.nx σ H') : tDrop (tBM K "list" rAppend (tVar i) (tCons (tVar j) tNil)) D σ H := by
  have kk : Tk H (upd H b (.lst (xs ++ [v]))) := tk_put hb fun _ z => by cases z
  refine ⟨.ref b, hi, .inl ⟨rfl, _, Or.inl (Or.inl hb)⟩, v, hj, b, xs, v, rfl, rfl, hb, by rw [hx.len, sizeLine_eq]; omega, ?_⟩
  exact k _ (fun c hc => upd_ne hc) kk upd_same ((hx.tk kk).snoc (hv.tk kk))
theorem lack_ones {r2 : List Nd} {n : Nd} : (!r2.any fun far => far.items.all fun p => memB p n.items) = !holdsOne n r2 := rfl
def spLack : Sp := spLF (ι := { p : List Nd × List Nd // BigR p.1 ∧ BigR p.2 }) (fun p => [toR p.1.1, toR p.1.2]) fun p => (lackR p.1.1 p.1.2).map Datum.toD
theorem plainAll_pls (ps : List Pl) : PyData.plainAll (ps.map Datum.toD) = true := PySem.W.plainAll_map ps
theorem ed_hasList {n o : Nd} {i : Nat} {te : TE} (h : EL te σ H ((o.items.filter fun p => !memB p n.items).map Datum.toD)) : ED (tOp (rEqP K) te (tLst tNil)) σ H (.bool (hasAll n o)) := by
  have h1 := ed_eqN (K := K) h (plainAll_pls _)
  have e : ((o.items.filter fun p => !memB p n.items).map (Datum.toD : Pl → PyData)).isEmpty = hasAll n o := by
    rw [isEmpty_filter]
    unfold hasAll
    rw [List.not_any_eq_all_not]
    simp
  rw [e] at h1
  exact h1
theorem c__law_lacking (D : Dn K mg "_law_lacking" (topS 48) ["_law_one", "_law_other"]) (B : Bt mg) : Cal P w K mg base CX0 1 "_law_lacking" ["_law_one", "_law_other"] spLack := D.cal fun f fd F => by
  refine F.ok sc48 (spLF_len fun _ => rfl) fun cdv A outer s H vs Q E hr h => ?_
  obtain ⟨⟨⟨r1, r2⟩, hb⟩, hT, k⟩ := h
  obtain ⟨v, v2, rfl, hv, hv2⟩ := pairs2 hT
  have hb : BigR r1 ∧ BigR r2 := hb
  refine ⟨_, (pss_cons (ps_set (i := 2) sc48.nd rfl (.inl rfl) (pe_lst pa_nil)) (pss_cons (ps_for PassesOwn.never rfl (pi_tup (pv 0)) (pg_name (i := 3) sc48.nd rfl (.inr rfl)) (pss_one (ps_if (pt_cmpR (op_eqP' (K := K) rfl hr.units) (pe_lc (own := [("_law_far", 4)]) (g := (gName 4)) rfl sc48.nd (pi_tup (pv 1)) (blkOk_by (N := ["_law_one", "_law_other", "_law_found", "_law_need_here", "_law_far", "_law_a"]) (sc := defScope (topS 48)) (by decide +kernel)) (fun _ _ _ _ _ => (pg_name (i := 4) sc48.nd rfl (.inl rfl))) (fun _ _ _ _ _ => (pts_one (pt_cmpR (op_eqP' (K := K) rfl hr.units) (pe_lc (own := [("_law_a", 5)]) (g := (gName 5)) rfl sc48.nd (pi_tup' (K := K) rfl (pv 4)) (blkOk_by (N := ["_law_one", "_law_other", "_law_found", "_law_need_here", "_law_far", "_law_a"]) (sc := relS scFar (defScope (topS 48))) (by decide +kernel)) (fun _ _ _ _ _ => (pg_name (i := 5) sc48.nd rfl (.inl rfl))) (fun _ _ _ _ _ => (pts_one (pt_cmpR (op_notInD hr.units) (pv 5) (pv 3) (by rfl)))) (fun _ _ _ _ _ => (pv 5))) (pe_lst pa_nil) (nomark _)))) (fun _ _ _ _ _ => pe_int)) (pe_lst pa_nil) (nomark _)) (pss_one (ps_expr (pe_bm PySem.F.plainAttrs_list PySem.F.slot_list_append PySem.F.type_list_append mt_append (pv 2) (pa_cons (pv 3) pa_nil)))) pss_nil))) (pss_one (ps_ret (pv 2))))), ?_⟩
  refine ⟨Nat.zero_le _, fun b hb0 => ?_⟩
  have xb : Ex H (upd H b (.lst [])) := Evl.Ex.new hb0
  refine q_forT (ed_var (v := v) rfl (hv.ex xb)) (fun H2 i σ' H' => Ex H H' ∧ Tk H2 H' ∧ (∃ x, σ' = [some v, some v2, some (.ref b), x, none, none]) ∧ ∃ xs, H' b = some (.lst xs) ∧ TdAll H' xs ((lackR (r1.take i) r2).map Datum.toD)) (fun H2 x2 => ⟨xb.trans x2, Tk.refl _, ⟨none, rfl⟩, [], x2 _ _ upd_same, .nil⟩) (fun H2 i σ' H' p => p.2.1)
    (fun H2 x2 i d vn σ' H' hd p hvn => ?_) fun H2 x2 σ' H' p => ?_
  · obtain ⟨ex, tk, ⟨x, rfl⟩, xs, hbx, hxs⟩ := p
    rw [List.getElem?_map, Option.map_eq_some_iff] at hd
    obtain ⟨n, hn, rfl⟩ := hd
    have hin : i < r1.length := (List.getElem?_eq_some_iff.mp hn).1
    have hr1 := hb.1.1
    have hr2 := hb.2.1
    have hnext : lackR (r1.take (i + 1)) r2 = lackR (r1.take i) r2 ++ if (!holdsOne n r2) = true then [n] else [] := by
      unfold lackR
      rw [take_next' hn, List.filter_append]
      congr 1
      cases q : (!holdsOne n r2) <;> simp [List.filter, q]
    show tIfS _ _ _ _ _ _
    refine s_ifN (b := !holdsOne n r2) (et_test (ed_noneOf (el_lcG (xs := r2) Datum.toD (fun far => hasAll n far) (fun _ => .int 1) (ed_var (v := v2) rfl (hv2.ex ex)) (sz_small (by omega)) (fun _ => rfl) (fun far vf H3 hf x3 hvf => et_test (ed_hasList (i := 0) (n := n) (o := far)
      (el_lcG (xs := far.items) Datum.toD (fun p => !memB p n.items) Datum.toD (ed_var (v := vf) rfl hvf) (sz_small (by have := hb.2.2 far hf; omega)) (fun _ => rfl) (fun p vp H4 hp x4 hvp => et_test (ed_notInP (ed_var (v := vp) rfl hvp) (ed_var (v := vn) rfl ((hvn.ex x3).ex x4)))) fun p vp H4 _ _ x4 hvp => ed_var (v := vp) rfl hvp))) fun _ _ _ _ _ _ _ => ed_int))) (fun hb3 H3 x3 => ?_) fun hb3 H3 x3 => ?_
    · have hlen : (lackR (r1.take i) r2).length ≤ 100 := by
        refine Nat.le_trans (List.length_filter_le ..) ?_
        rw [List.length_take]
        omega
      refine e_append (v := vn) (d := Datum.toD n) rfl rfl (x3 _ _ hbx) (hvn.ex x3) (hxs.ex x3) (by rw [List.length_map]; omega) fun H4 hk4 tk4 hb4 hT4 => ?_
      refine ⟨fun c o e => ?_, (tk.trans (tk_ex x3)).trans tk4, ⟨_, rfl⟩, _, hb4, ?_⟩
      · rw [hk4 c (fun z => by rw [z, hb0] at e; cases e)]
        exact x3 _ _ (ex _ _ e)
      · rw [hnext, if_pos hb3, List.map_append]
        exact hT4
    · refine ⟨ex.trans x3, tk.trans (tk_ex x3), ⟨_, rfl⟩, xs, x3 _ _ hbx, ?_⟩
      rw [hnext, if_neg (by rw [hb3]; decide), List.append_nil]
      exact hxs.ex x3
  · obtain ⟨ex, tk, ⟨x, rfl⟩, xs, hbx, hxs⟩ := p
    rw [List.length_map, List.take_length] at hxs
    exact ⟨.ref b, rfl, k b xs H' hb0 ex hbx hxs⟩
end
end Isl
end
section
set_option Elab.async false
set_option linter.all false
set_option maxRecDepth 100000
set_option maxHeartbeats 4000000
/-! _law_step, _law_subsets, _law_least_needs -/
namespace Isl
open PySem PySem.Spec PyProof.Rows L2
open Evl (Ex EvT)
open PySem.W (dataLt Datum DatumOrd)
section
variable {X : Cx}
theorem op_catA' {K : PySem.W.Frag} (hK : X.K = K) : OpR X (binaryOp .Add) (rCatA K) := by
  subst hK
  exact op_catA
end
section
variable {P : Program} {w : World} {K : PySem.W.Frag} {mg : Str → Option Value} {base : Heap} {ta tb te : TE} {σ : L2.St} {H : Hp} {D : Ends} {tv : TS} {d e : PyData} {ds : List PyData} {ts : TA} {E : XK}
theorem q_asgT2 {i j : Nat} (h : EA ts σ H [d, e]) (k : ∀ v w H1, Ex H H1 → Td H1 v d → Td H1 w e → tv D ((σ.set i (some v)).set j (some w)) H1) : tSeq (tAsg (tTup ts) (gTup K 2 (gCons (gName i) (gCons (gName j) gNil)))) tv D σ H :=
  h H (Evl.Ex.refl H) _ fun vs H1 x hvs => by
    obtain ⟨v, w, rfl, h1, h2⟩ := pairs2 hvs
    refine ⟨by show 2 ≤ sizeLine; decide, fun t ht => ⟨t, [v, w], rfl, .inl (.inl upd_same), rfl, v, [w], rfl, w, [], rfl, rfl, ?_⟩⟩
    exact k v w _ (x.trans (Evl.Ex.new ht)) (h1.ex (Evl.Ex.new ht)) (h2.ex (Evl.Ex.new ht))
/-- for x in a new list -/
theorem q_forN {α : Type} {ws : List α} {tb : TS} {g : TG} (enc : α → PyData) (h : EL te σ H (ws.map enc)) (Pv : Hp → Nat → L2.St → Hp → Prop) (h0 : ∀ H1, Ex H H1 → Pv H1 0 σ H1) (hk : ∀ H1 n σ' H' a xs, Pv H1 n σ' H' → H a = none → H1 a = some (.lst xs) → H' a = some (.lst xs)) (ht : ∀ H1 n σ' H', Pv H1 n σ' H' → Tk H1 H')
    (hs : ∀ H1, Ex H H1 → ∀ n d v σ' H', ws[n]? = some d → Pv H1 n σ' H' → Td H' v (enc d) → g v σ' H' fun σ2 H2 => tb { nx := Pv H1 (n + 1), rt := D.rt, ct := Pv H1 (n + 1), bk := tv D } σ2 H2)
    (hd : ∀ H1, Ex H H1 → ∀ σ' H', Pv H1 ws.length σ' H' → tv D σ' H') : tSeq (tFor (iList K te) g tb) tv D σ H := by
  refine h H (Evl.Ex.refl H) _ fun a xs H1 ha x ha1 hT => ?_
  refine ⟨a, rfl, ⟨xs, .inl (.inl ha1)⟩, ?_⟩
  have hl : xs.length = ws.length := by rw [hT.len, List.length_map]
  refine for_it (walk_list (xs := xs)) (Pv H1) (h0 H1 x) (fun i σ' H' _ p => .inl (.inl (hk _ _ _ _ _ _ p ha ha1))) (fun n v σ' H' H'' hi p y => ?_) fun σ' H' p => ?_
  · obtain ⟨e, hv⟩ := y
    subst e
    obtain ⟨d0, hd0, hTd⟩ := hT.at' hv
    rw [List.getElem?_map, Option.map_eq_some_iff] at hd0
    obtain ⟨d, hd, rfl⟩ := hd0
    exact hs H1 x n d v σ' _ hd p (hTd.tk (ht _ _ _ _ p))
  · rw [hl] at p
    exact hd H1 x σ' H' p
theorem ed_tupV {i : Nat} {a : Addr} {xs : List V} (h : σ[i]? = some (some (.ref a))) (ha : H a = some (.lst xs)) (hx : TdAll H xs ds) : ED (tCB (fun xs H Q => ∃ p ys, xs = [V.ref p] ∧ ((SqL K H p ys ∧ ∀ l, H l = none → Q (.ref l) (upd H l (.tup ys))) ∨ (SqT K H p ys ∧ Q (.ref p) H))) (tCons (tVar i) tNil)) σ H (.tuple ds) := fun H1 x Q q =>
  ⟨.ref a, h, a, xs, rfl, .inl ⟨.inl (.inl (x _ _ ha)), fun l hl => q _ _ (Evl.Ex.new hl) (.tup upd_same ((hx.ex x).ex (Evl.Ex.new hl)))⟩⟩

/-! ### _law_step -/
theorem sc40 : FnScope ["_law_needs_so", "_law_marks_so", "_law_here", "_law_found", "_law_mark", "_law_need_here", "_law_first", "_law_x", "_law_y", "_law_a"] ["_law_needs_so", "_law_marks_so"] (defScope (topS 40)) := ⟨rfl, rfl, rfl, by decide +kernel, rfl, by decide +kernel, by decide +kernel⟩
theorem c__law_step (D : Dn K mg "_law_step" (topS 40) ["_law_needs_so", "_law_marks_so"]) (B : Bt mg) : Cal P w K mg base CX0 1 "_law_step" ["_law_needs_so", "_law_marks_so"] spStep := D.cal fun f fd F => by
  refine F.ok sc40 (spF_len fun _ => rfl) fun cdv A outer s H vs Q E hr h => ?_
  obtain ⟨⟨⟨r, ps⟩, ok⟩, hT, k⟩ := h
  obtain ⟨v, v2, rfl, h1, h2⟩ := pairs2 hT
  have ok : StepOk r ps := ok
  refine ⟨_, (pss_cons (ps_asg (pe_tup (pa_cons pe_dnewT (pa_cons pe_dnewT pa_nil))) (pg_tup (by rfl) (pgs_cons (pg_name (i := 2) sc40.nd rfl (.inr rfl)) (pgs_cons (pg_name (i := 3) sc40.nd rfl (.inl rfl)) pgs_nil)))) (pss_cons (ps_for PassesOwn.never rfl (pi_tup (pv 1)) (pg_name (i := 4) sc40.nd rfl (.inl rfl)) (pss_one (ps_dput (hu_of hr) (pv 2) (pv 4) pe_bl rfl))) (pss_cons (ps_for PassesOwn.never rfl (pi_tup (pv 0)) (pg_name (i := 5) sc40.nd rfl (.inl rfl)) (pss_cons (ps_set (i := 6) sc40.nd rfl (.inl rfl) (pe_ix ix_tup (pv 5) pe_int (fun _ _ => rfl))) (pss_one (ps_for PassesOwn.never rfl (pi_tup (pv 1)) (pg_name (i := 4) sc40.nd rfl (.inl rfl)) (pss_cons (ps_asg (pe_tup (pa_cons (pe_op op_sub (pe_ix ix_tup (pv 4) pe_int (fun _ _ => rfl)) (pe_ix ix_tup (pv 6) pe_int (fun _ _ => rfl))) (pa_cons (pe_op op_sub (pe_ix ix_tup (pv 4) pe_int (fun _ _ => rfl)) (pe_ix ix_tup (pv 6) pe_int (fun _ _ => rfl))) pa_nil))) (pg_tup (by rfl) (pgs_cons (pg_name (i := 7) sc40.nd rfl (.inr rfl)) (pgs_cons (pg_name (i := 8) sc40.nd rfl (.inr rfl)) pgs_nil)))) (pss_one (ps_if (pt_cmpR (op_eqP' (K := K) rfl hr.units) (pe_lc (own := [("_law_a", 9)]) (g := (gName 9)) rfl sc40.nd (pi_tup (pv 5)) (blkOk_by (N := ["_law_needs_so", "_law_marks_so", "_law_here", "_law_found", "_law_mark", "_law_need_here", "_law_first", "_law_x", "_law_y", "_law_a"]) (sc := defScope (topS 40)) (by decide +kernel)) (fun _ _ _ _ _ => (pg_name (i := 9) sc40.nd rfl (.inl rfl))) (fun _ _ _ _ _ => (pts_one (pt_cmp (pc_dnotin (hu_of hr) (pe_tup (pa_cons (pe_op op_add (pv 7) (pe_ix (ix_tup' (K := K) rfl) (pv 9) pe_int (fun _ _ => rfl))) (pa_cons (pe_op op_add (pv 8) (pe_ix (ix_tup' (K := K) rfl) (pv 9) pe_int (fun _ _ => rfl))) pa_nil))) (pv 2))))) (fun _ _ _ _ _ => pe_int)) (pe_lst pa_nil) (nomark _)) (pss_one (ps_dput (hu_of hr) (pv 3) (pe_tup (pa_cons (pv 7) (pa_cons (pv 8) pa_nil))) pe_bl rfl)) pss_nil))))))) (pss_one (ps_ret (pe_callTy call_tuple_of (by rfl) B.tuple (by decide +kernel) (pa_cons (pe_callB (cr_sortedDT rfl hr.units) (by rfl) B.sorted (by decide +kernel) (pa_cons (pv 3) pa_nil)) pa_nil))))))), ?_⟩
  refine fun a ha => ?_
  refine fun b hb => ?_
  refine ⟨by show 2 ≤ sizeLine; decide, fun t ht => ⟨t, [.ref a, .ref b], rfl, .inl (.inl upd_same), rfl, .ref a, [.ref b], rfl, .ref b, [], rfl, rfl, ?_⟩⟩
  have hab : a ≠ b := fun e => by rw [e, upd_same] at hb; cases hb
  have hb0 : H b = none := by rw [upd_ne (Ne.symm hab)] at hb; exact hb
  have x0 : Ex H (upd (upd (upd H a (.dT [])) b (.dT [])) t (.tup [.ref a, .ref b])) := ((Evl.Ex.new ha).trans (Evl.Ex.new hb)).trans (Evl.Ex.new ht)
  have hta : a ≠ t := fun e => by
    rw [← e, upd_ne hab, upd_same] at ht
    cases ht
  have htb : b ≠ t := fun e => by
    rw [← e, upd_same] at ht
    cases ht
  have ga0 : GrowD a (upd (upd (upd H a (.dT [])) b (.dT [])) t (.tup [.ref a, .ref b])) [] 0 := .new (by rw [upd_ne hta, upd_ne hab, upd_same])
  have gb0 : GrowD b (upd (upd (upd H a (.dT [])) b (.dT [])) t (.tup [.ref a, .ref b])) [] 0 := .new (by rw [upd_ne htb, upd_same])
  generalize upd (upd (upd H a (.dT [])) b (.dT [])) t (.tup [.ref a, .ref b]) = H0 at x0 ga0 gb0
  have keep : ∀ {c : Addr} {H1 H2 : Hp} {S : List Pl} {n : Nat} {c' : Addr}, c ≠ c' → (∀ q o, q ≠ c' → H1 q = some o → H2 q = some o) → GrowD c H1 S n → GrowD c H2 S n := fun {c H1 H2 S n c'} hne hk g => by
    obtain ⟨kvs, L, g1, g2⟩ := g.ex
    exact ⟨kvs, L, hk _ _ hne g1, g2⟩
  -- the marks
  refine q_forT (ed_var (v := v2) rfl (h2.ex x0)) (fun H2 i σ' H' => Ex H H' ∧ Tk H2 H' ∧ (∃ x, σ' = [some v, some v2, some (.ref a), some (.ref b), x, none, none, none, none, none]) ∧ GrowD a H' (ps.take i) i ∧ GrowD b H' [] 0) (fun H2 x2 => ⟨x0.trans x2, Tk.refl _, ⟨none, rfl⟩, ga0.ext x2, gb0.ext x2⟩) (fun H2 i σ' H' p => p.2.1)
    (fun H2 x2 i d vm σ' H' hd p hvm => ?_) fun H2 x2 σ' H' p => ?_
  · obtain ⟨ex, tk, ⟨x, rfl⟩, ga, gb⟩ := p
    rw [List.getElem?_map, Option.map_eq_some_iff] at hd
    obtain ⟨m, hm, rfl⟩ := hd
    have hjl : i < ps.length := (List.getElem?_eq_some_iff.mp hm).1
    have hmk : ps.length ≤ 1228 := ok.mks
    refine e_dput (p := m) rfl (ed_var (v := vm) rfl hvm) ga (by omega) fun H6 hk6 tk6 g6 => ?_
    refine ⟨fun c o e => hk6 c o (fun z => by rw [z, ha] at e; cases e) (ex _ _ e), tk.trans tk6, ⟨_, rfl⟩, ?_, keep (Ne.symm hab) hk6 gb⟩
    rw [take_next' hm]
    exact g6
  · obtain ⟨ex, tk, ⟨x, rfl⟩, ga, gb⟩ := p
    rw [List.length_map, List.take_length] at ga
    -- the needs
    refine q_forT (ed_var (v := v) rfl (h1.ex ex)) (fun H2 i σ' H' => Ex H H' ∧ Tk H2 H' ∧ (∃ x y z u t, σ' = [some v, some v2, some (.ref a), some (.ref b), x, y, z, u, t, none]) ∧ GrowD a H' ps ps.length ∧ GrowD b H' ((r.take i).flatMap (stepOne ps)) (i * ps.length))
      (fun H2 x2 => ⟨ex.trans x2, Tk.refl _, ⟨_, _, _, _, _, rfl⟩, ga.ext x2, (gb.ext x2).more (Nat.zero_le _)⟩) (fun H2 i σ' H' p => p.2.1) (fun H2 x2 i d vn σ' H' hd p hvn => ?_) fun H2 x2 σ' H' p => ?_
    · obtain ⟨ex, tk, ⟨x, y, z, u, t, rfl⟩, ga, gb⟩ := p
      rw [List.getElem?_map, Option.map_eq_some_iff] at hd
      obtain ⟨n, hn, rfl⟩ := hd
      have hin : i < r.length := (List.getElem?_eq_some_iff.mp hn).1
      have hmem_n : n ∈ r := List.mem_of_getElem? hn
      refine q_asg (ed_op (d := .tuple (n.items.map Datum.toD)) (ed_var (v := vn) rfl hvn) ed_int (r2_ixT (hd_at (ok.ne n hmem_n)))) fun vf H3 x3 hvf => ?_
      show tFor _ _ _ _ _ _
      refine s_forT (ed_var (v := v2) rfl ((h2.ex ex).ex x3)) (fun H3 j σ' H' => Ex H H' ∧ Tk H3 H' ∧ (∃ x u t, σ' = [some v, some v2, some (.ref a), some (.ref b), x, some vn, some vf, u, t, none]) ∧ Td H' vn (Datum.toD n) ∧ Td H' vf (Datum.toD (hdN n)) ∧ GrowD a H' ps ps.length ∧ GrowD b H' ((r.take i).flatMap (stepOne ps) ++ ((ps.take j).filter (stepHit n ps)).map fun m => offP m (hdN n)) (i * ps.length + j))
        (fun H4 x4 => ⟨(ex.trans x3).trans x4, Tk.refl _, ⟨_, _, _, rfl⟩, (hvn.ex x3).ex x4, hvf.ex x4, (ga.ext x3).ext x4, ?_⟩) (fun H3 j σ' H' p => p.2.1) (fun H4 x4 j d vm σ' H' hd p hvm => ?_) fun H4 x4 σ' H' p => ?_
      · have := (gb.ext x3).ext x4
        simpa using this
      · obtain ⟨ex, tk, ⟨x, u, t, rfl⟩, hvn, hvf, ga, gb⟩ := p
        rw [List.getElem?_map, Option.map_eq_some_iff] at hd
        obtain ⟨m, hm, rfl⟩ := hd
        have hjl : j < ps.length := (List.getElem?_eq_some_iff.mp hm).1
        refine q_asgT2 (d := .int (offP m (hdN n)).1) (e := .int (offP m (hdN n)).2) (ea_cons (ed_op (ed_ix0 (ed_var (v := vm) rfl hvm)) (ed_ix0 (ed_var (v := vf) rfl hvf)) r2_I0) (ea_cons (ed_op (ed_ix1 (ed_var (v := vm) rfl hvm)) (ed_ix1 (ed_var (v := vf) rfl hvf)) r2_I0) ea_nil)) fun vx vy H5 x5 hvx hvy => ?_
        show tIfS _ _ _ _ _ _
        refine s_ifN (b := stepHit n ps m) (et_test (ed_is (ed_noneOf (el_lcG (xs := n.items) Datum.toD (fun o => !memB (addP (offP m (hdN n)) o) ps) (fun _ => .int 1) (ed_var (v := vn) rfl (hvn.ex x5)) (sz_small (ok.sm n hmem_n)) (fun _ => rfl) (fun o vo H6 ho x6 hvo => ?_) fun _ _ _ _ _ _ _ => ed_int)) ?_)) (fun hb2 H6 x6 => ?_) fun hb2 H6 x6 => ?_
        · exact ed_dnotin (p := addP (offP m (hdN n)) o) rfl (ed_pl (ed_op (ed_var (v := vx) rfl (hvx.ex x6)) (ed_ix0 (ed_var (v := vo) rfl hvo)) r2_I0) (ed_op (ed_var (v := vy) rfl (hvy.ex x6)) (ed_ix1 (ed_var (v := vo) rfl hvo)) r2_I0)) ((ga.ext x5).ext x6)
        · unfold stepHit
          rw [List.not_any_eq_all_not]
          simp
        · have hfew : i * ps.length + j + 1 ≤ 1228 := by
            have q1 := ok.few
            have q2 : (i + 1) * ps.length ≤ r.length * ps.length := Nat.mul_le_mul_right _ hin
            rw [Nat.add_mul, Nat.one_mul] at q2
            omega
          refine e_dput (p := offP m (hdN n)) rfl (ed_pl (ed_var (v := vx) rfl (hvx.ex x6)) (ed_var (v := vy) rfl (hvy.ex x6))) ((gb.ext x5).ext x6) (by omega) fun H7 hk7 tk7 g7 => ?_
          refine ⟨fun c o e => hk7 c o (fun z => by rw [z, hb0] at e; cases e) (x6 _ _ (x5 _ _ (ex _ _ e))), ((tk.trans (tk_ex x5)).trans (tk_ex x6)).trans tk7, ⟨_, _, _, rfl⟩, ((hvn.ex x5).ex x6).tk tk7, ((hvf.ex x5).ex x6).tk tk7, keep hab hk7 ((ga.ext x5).ext x6), ?_⟩
          rw [stepOne_next hm, if_pos hb2, ← List.append_assoc]
          exact g7
        · refine ⟨(ex.trans x5).trans x6, (tk.trans (tk_ex x5)).trans (tk_ex x6), ⟨_, _, _, rfl⟩, (hvn.ex x5).ex x6, (hvf.ex x5).ex x6, (ga.ext x5).ext x6, ?_⟩
          rw [stepOne_next hm, if_neg (by rw [hb2]; decide), List.append_nil]
          exact ((gb.ext x5).ext x6).more (Nat.le_succ _)
      · obtain ⟨ex', tk', ⟨x, u, t, rfl⟩, hvn', hvf', ga', gb'⟩ := p
        refine ⟨ex', ((tk.trans (tk_ex x3)).trans (tk_ex x4)).trans tk', ⟨_, _, _, _, _, rfl⟩, ga', ?_⟩
        rw [List.length_map, List.take_length] at gb'
        rw [take_next' hn, List.flatMap_append, List.flatMap_singleton, Nat.add_mul, Nat.one_mul]
        exact gb'
    · obtain ⟨ex, tk, ⟨x, y, z, u, t, rfl⟩, ga, gb⟩ := p
      rw [List.length_map, List.take_length] at gb
      refine s_ret (ed_tupOf (el_sortedD (b := b) rfl gb (by have := ok.few; show r.length * ps.length ≤ 60000; omega))) fun v' H'' x' hv' => k v' H'' (ex.trans x') hv'
end
end Isl
end
section
set_option Elab.async false
set_option linter.all false
set_option maxRecDepth 100000
set_option maxHeartbeats 4000000
/-! _law_subsets, _law_least_needs -/
namespace Isl
open PySem PySem.Spec PyProof.Rows L2
open Evl (Ex EvT)
open PySem.W (dataLt Datum DatumOrd)
section
variable {P : Program} {w : World} {K : PySem.W.Frag} {mg : Str → Option Value} {base : Heap} {ta tb te : TE} {σ : L2.St} {H : Hp} {D : Ends} {tv : TS} {d e : PyData} {ds : List PyData} {ts : TA} {E : XK}

theorem filter_all {α : Type} (xs : List α) : xs.filter (fun _ => true) = xs := List.filter_eq_self.mpr fun _ _ => rfl

/-! ### _law_subsets -/
theorem sc42 : FnScope ["_law_things", "_law_found", "_law_thing", "_law_row"] ["_law_things"] (defScope (topS 42)) := ⟨rfl, rfl, rfl, by decide +kernel, rfl, by decide +kernel, by decide +kernel⟩
def subStep (acc : List (List Pl)) (t : Pl) : List (List Pl) := acc ++ acc.map fun row => row ++ [t]
def subsR (ps : List Pl) : List (List Pl) := ps.foldl subStep [[]]
theorem subsR_next {ps : List Pl} {i : Nat} {p : Pl} (h : ps[i]? = some p) : subsR (ps.take (i + 1)) = subStep (subsR (ps.take i)) p := by
  unfold subsR
  rw [take_next' h, List.foldl_append] <;> rfl
theorem subs_len (ps : List Pl) : (subsR ps).length = 2 ^ ps.length := by
  have key : ∀ (ps : List Pl) (acc : List (List Pl)), (ps.foldl subStep acc).length = acc.length * 2 ^ ps.length := by
    intro ps
    induction ps with
    | nil => intro acc; simp
    | cons p ps ih =>
      intro acc
      rw [List.foldl_cons, ih]
      unfold subStep
      rw [List.length_append, List.length_map, List.length_cons, Nat.pow_succ, ← Nat.two_mul, Nat.mul_comm 2 acc.length, Nat.mul_assoc, Nat.mul_comm 2]
  unfold subsR
  rw [key] <;> simp
theorem subs_rows (ps : List Pl) : ∀ row ∈ subsR ps, row.length ≤ ps.length ∧ ∀ p ∈ row, p ∈ ps := by
  have key : ∀ (qs : List Pl) (acc : List (List Pl)) (n : Nat) (S : List Pl), (∀ row ∈ acc, row.length ≤ n ∧ ∀ p ∈ row, p ∈ S) → ∀ row ∈ qs.foldl subStep acc, row.length ≤ n + qs.length ∧ ∀ p ∈ row, p ∈ S ++ qs := by
    intro qs
    induction qs with
    | nil => intro acc n S h row hr; simpa using h row hr
    | cons q qs ih =>
      intro acc n S h row hr
      have := ih (subStep acc q) (n + 1) (S ++ [q]) (fun row hr => by
        unfold subStep at hr
        rcases List.mem_append.mp hr with hr | hr
        · obtain ⟨a, b⟩ := h row hr
          exact ⟨Nat.le_succ_of_le a, fun p hp => List.mem_append_left _ (b p hp)⟩
        · obtain ⟨row', hr', rfl⟩ := List.mem_map.mp hr
          obtain ⟨a, b⟩ := h row' hr'
          refine ⟨by rw [List.length_append, List.length_singleton]; exact Nat.succ_le_succ a, fun p hp => ?_⟩
          rcases List.mem_append.mp hp with z | z
          · exact List.mem_append_left _ (b p z)
          · exact List.mem_append_right _ z) row hr
      rw [List.length_cons]
      refine ⟨by omega, fun p hp => ?_⟩
      have h2 := this.2 p hp
      rw [List.append_assoc] at h2
      exact h2
  have := key ps [[]] 0 [] (fun row hr => by
    rw [List.mem_singleton.mp hr]
    exact ⟨Nat.le_refl _, fun p hp => (by cases hp)⟩)
  simpa [subsR] using this
def spSubs : Sp := fun vs H Q _ => ∃ (a : Addr) (xs : List V) (ps : List Pl), vs = [.ref a] ∧ H a = some (.lst xs) ∧ TdAll H xs (ps.map Datum.toD) ∧ ps.length ≤ 9 ∧ ∀ p ys H', H p = none → Ex H H' → H' p = some (.lst ys) → TdAll H' ys ((subsR ps).map toN) → Q (.ref p) H'
theorem toN_snoc (row : List Pl) (t : Pl) : toN (row ++ [t]) = .tuple (row.map Datum.toD ++ [Datum.toD t]) := by
  unfold toN
  rw [List.map_append] <;> rfl
theorem c__law_subsets (D : Dn K mg "_law_subsets" (topS 42) ["_law_things"]) (B : Bt mg) : Cal P w K mg base CX0 1 "_law_subsets" ["_law_things"] spSubs := D.cal fun f fd F => by
  refine F.ok sc42 (fun vs H Q E h => by obtain ⟨a, xs, ps, rfl, _⟩ := h; rfl) fun cdv A outer s H vs Q E hr h => ?_
  obtain ⟨a, xs, ps, rfl, ha, hT, hl, k⟩ := h
  refine ⟨_, (pss_cons (ps_set (i := 1) sc42.nd rfl (.inl rfl) (pe_lst (pa_cons (pe_tup pa_nil) pa_nil))) (pss_cons (ps_for PassesOwn.never rfl (pi_list (pv 0)) (pg_name (i := 2) sc42.nd rfl (.inr rfl)) (pss_one (ps_set (i := 1) sc42.nd rfl (.inl rfl) (pe_op op_cat (pv 1) (pe_lc (own := [("_law_row", 3)]) (g := (gName 3)) rfl sc42.nd (pi_list (pv 1)) (blkOk_by (N := ["_law_things", "_law_found", "_law_thing", "_law_row"]) (sc := defScope (topS 42)) (by decide +kernel)) (fun _ _ _ _ _ => (pg_name (i := 3) sc42.nd rfl (.inl rfl))) (fun _ _ _ _ _ => pts_nil) (fun _ _ _ _ _ => (pe_op (op_catA' (K := K) rfl) (pv 3) (pe_tup (pa_cons (pv 2) pa_nil))))))))) (pss_one (ps_ret (pv 1))))), ?_⟩
  refine q_asgL (ds := [toN []]) (el_lst (ea_cons (d := toN []) (ed_tup ea_nil (Nat.zero_le _)) ea_nil) (by show 1 ≤ sizeLine; decide)) fun q ys H1 hq x1 hq1 hT1 => ?_
  have hlx : xs.length = ps.length := by rw [hT.len, List.length_map]
  refine q_forL (a := a) (xs := xs) (fun Q h => ⟨.ref a, rfl, h H1 (Evl.Ex.refl _)⟩) (x1 _ _ ha) (fun n σ' H' => Ex H H' ∧ ∃ x q ys, σ' = [some (.ref a), some (.ref q), x, none] ∧ H q = none ∧ H' q = some (.lst ys) ∧ TdAll H' ys ((subsR (ps.take n)).map toN)) (fun H2 x2 => ⟨x1.trans x2, none, q, ys, rfl, hq, x2 _ _ hq1, hT1.ex x2⟩) (fun n σ' H' p => p.1 _ _ ha)
    (fun n v σ' H' hv p => ?_) fun σ' H' p => ?_
  · obtain ⟨ex, x, q, ys, rfl, hq, hq2, hT2⟩ := p
    obtain ⟨d0, hd0, hTd⟩ := (hT.ex ex).at' hv
    rw [List.getElem?_map, Option.map_eq_some_iff] at hd0
    obtain ⟨t, ht, rfl⟩ := hd0
    have hnl : n < ps.length := (List.getElem?_eq_some_iff.mp ht).1
    have hyl : ys.length = (subsR (ps.take n)).length := by rw [hT2.len, List.length_map]
    have hpow : ys.length ≤ 512 := by
      rw [hyl, subs_len, List.length_take]
      exact Nat.pow_le_pow_right (by decide) (by omega : min n ps.length ≤ 9)
    show tAsg _ _ _ _ _
    refine ⟨.ref q, rfl, ?_⟩
    refine el_lcLG (ws := subsR (ps.take n)) (b := fun _ => true) (f := fun row => toN (row ++ [t])) toN (fun H1 x Q h => ⟨.ref q, rfl, h H1 (Evl.Ex.refl _)⟩) hq2 hT2 (sz_small (by omega)) (fun _ => rfl) (fun _ _ _ _ _ _ => et_yes) (fun row vr H3 hrow _ x3 hvr => ?_) H' (Evl.Ex.refl _) _ fun q2 zs H3 hq3 x3 hq4 hT3 => ?_
    · rw [toN_snoc]
      exact ed_op (d := toN row) (e := .tuple [Datum.toD t]) (ed_var (v := vr) rfl hvr) (ed_tup (ea_cons (ed_var (v := v) rfl (hTd.ex x3)) ea_nil) (by show 1 ≤ sizeLine; decide)) (r2_cat (sz_small (by
        have := (subs_rows (ps.take n) row hrow).1
        rw [List.length_take] at this
        rw [List.length_map, List.length_singleton]
        omega)))
    · have hzl : zs.length = ys.length := by rw [hT3.len, List.length_map, filter_all, hyl]
      refine ⟨q, q2, ys, zs, rfl, rfl, x3 _ _ hq2, hq4, sz_small (by omega), fun q5 hq5 => ?_⟩
      have x5 : Ex H3 (upd H3 q5 (.lst (ys ++ zs))) := Evl.Ex.new hq5
      refine ⟨(ex.trans x3).trans x5, _, q5, ys ++ zs, rfl, Evl.fresh_back (ex.trans x3) hq5, upd_same, ?_⟩
      rw [subsR_next ht]
      unfold subStep
      rw [List.map_append, List.map_map]
      have h3 := hT3.ex x5
      rw [filter_all] at h3
      exact ((hT2.ex x3).ex x5).app h3
  · obtain ⟨ex, x, q, ys, rfl, hq, hq2, hT2⟩ := p
    rw [hlx, List.take_length] at hT2
    exact ⟨.ref q, rfl, k q ys H' hq ex hq2 hT2⟩

/-! ### _law_least_needs -/
theorem sc38 : FnScope ["_law_needs_so", "_law_found", "_law_one", "_law_over", "_law_other", "_law_a"] ["_law_needs_so"] (defScope (topS 38)) := ⟨rfl, rfl, rfl, by decide +kernel, rfl, by decide +kernel, by decide +kernel⟩
abbrev scOther : Scope := { kind := .function, names := [(".0", .local), ("_law_other", .local), ("_law_one", .free)], isGenerator := false, isCoroutine := false }
def overR (ns : List Nd) (one : Nd) : List Nd := ns.filter fun o => !decide (o = one) && hasAll one o
def leastR (ns : List Nd) : List Nd := (canon ltN ns).filter fun one => (overR ns one).isEmpty
def spLeast : Sp := fun vs H Q _ => ∃ (a : Addr) (xs : List V) (ns : List Nd), vs = [.ref a] ∧ H a = some (.lst xs) ∧ TdAll H xs (ns.map Datum.toD) ∧ BigR ns ∧ (∀ n ∈ ns, n.items ≠ []) ∧ ∀ v H', Ex H H' → Td H' v (toR (leastR ns)) → Q v H'
theorem canon_len {α : Type} [DecidableEq α] {lt : α → α → Bool} : ∀ xs : List α, (canon lt xs).length ≤ xs.length
  | [] => Nat.le_refl _
  | x :: xs => by
    have h : ∀ ys : List α, (ins lt x ys).length ≤ ys.length + 1 := by
      intro ys
      induction ys with
      | nil => exact Nat.le_refl _
      | cons y ys ih =>
        unfold ins
        by_cases e : x = y
        · rw [if_pos e]; exact Nat.le_succ _
        · rw [if_neg e]
          by_cases q : lt x y = true
          · rw [if_pos q]; exact Nat.le_refl _
          · rw [if_neg q, List.length_cons, List.length_cons]; omega
    have h1 := h (canon lt xs)
    have h2 := canon_len (lt := lt) xs
    show (ins lt x (canon lt xs)).length ≤ xs.length + 1
    omega
theorem c__law_least_needs (D : Dn K mg "_law_least_needs" (topS 38) ["_law_needs_so"]) (B : Bt mg) : Cal P w K mg base CX0 1 "_law_least_needs" ["_law_needs_so"] spLeast := D.cal fun f fd F => by
  refine F.ok sc38 (fun vs H Q E h => by obtain ⟨a, xs, ps, rfl, _⟩ := h; rfl) fun cdv A outer s H vs Q E hr h => ?_
  obtain ⟨a, xs, ns, rfl, ha, hT, hb, hne, k⟩ := h
  refine ⟨_, (pss_cons (ps_set (i := 1) sc38.nd rfl (.inl rfl) (pe_lst pa_nil)) (pss_cons (ps_for PassesOwn.never rfl (pi_list (pe_callB (cr_sortedA rfl hr.units) (by rfl) B.sorted (by decide +kernel) (pa_cons (pe_callTy (cr_setA rfl hr.units) (by rfl) B.set (by decide +kernel) (pa_cons (pv 0) pa_nil)) pa_nil))) (pg_name (i := 2) sc38.nd rfl (.inr rfl)) (pss_cons (ps_setLc (i := 3) (own := [("_law_other", 4)]) (g := (gName 4)) rfl sc38.nd rfl rfl (sw_true rfl rfl rfl (by decide +kernel)) (pi_list (pv 0)) (blkOk_by (N := ["_law_needs_so", "_law_found", "_law_one", "_law_over", "_law_other", "_law_a"]) (sc := defScope (topS 38)) (by decide +kernel)) (fun _ _ _ _ _ => (pg_name (i := 4) sc38.nd rfl (.inl rfl))) (fun _ _ _ _ _ => (pts_one (PW.pt (pw_and (pt_cmpR (op_neP' (K := K) rfl hr.units) (pv 4) (pv 2) (nomark _)) (pw_and1 (pt_cmpR (op_eqP' (K := K) rfl hr.units) (pe_lc (own := [("_law_a", 5)]) (g := (gName 5)) rfl sc38.nd (pi_tup' (K := K) rfl (pv 4)) (blkOk_by (N := ["_law_needs_so", "_law_found", "_law_one", "_law_over", "_law_other", "_law_a"]) (sc := relS scOther (defScope (topS 38))) (by decide +kernel)) (fun _ _ _ _ _ => (pg_name (i := 5) sc38.nd rfl (.inl rfl))) (fun _ _ _ _ _ => (pts_one (pt_cmpR (op_notInD hr.units) (pv 5) (pv 2) (by rfl)))) (fun _ _ _ _ _ => (pv 5))) (pe_lst pa_nil) (nomark _))))))) (fun _ _ _ _ _ => (pv 4))) (pss_one (ps_if (pt_cmpR (op_eqP' (K := K) rfl hr.units) (pv 3) (pe_lst pa_nil) (nomark _)) (pss_one (ps_expr (pe_bm PySem.F.plainAttrs_list PySem.F.slot_list_append PySem.F.type_list_append mt_append (pv 1) (pa_cons (pv 2) pa_nil)))) pss_nil)))) (pss_one (ps_ret (pe_callTy call_tuple_of (by rfl) B.tuple (by decide +kernel) (pa_cons (pv 1) pa_nil)))))), ?_⟩
  refine ⟨Nat.zero_le _, fun b hb0 => ?_⟩
  have xb : Ex H (upd H b (.lst [])) := Evl.Ex.new hb0
  have hb1 : upd H b (.lst []) b = some (.lst []) := upd_same
  generalize upd H b (.lst []) = H0 at xb hb1
  have hnl := hb.1
  refine q_forN (ws := canon ltN ns) Datum.toD (el_sortedSet (K := K) ktN (te := tVar 0) (xs := ns) (fun H1 x1 Q q => ⟨.ref a, rfl, q a xs H1 (Evl.Ex.refl _) (.inl (.inl (.inl (x1 _ _ (xb _ _ ha))))) ((hT.ex xb).ex x1)⟩) (by omega) fun n hn => ?_)
    (fun H1 i σ' H' => Ex H H' ∧ Tk H1 H' ∧ (∀ c o, c ≠ b → H1 c = some o → H' c = some o) ∧ (∃ x y, σ' = [some (.ref a), some (.ref b), x, y, none, none]) ∧ ∃ ys, H' b = some (.lst ys) ∧ TdAll H' ys ((((canon ltN ns).take i).filter fun one => (overR ns one).isEmpty).map Datum.toD))
    (fun H1 x1 => ⟨xb.trans x1, Tk.refl _, fun _ _ _ h => h, ⟨none, none, rfl⟩, [], x1 _ _ hb1, .nil⟩) (fun H1 n σ' H' c zs p hc hc1 => p.2.2.1 c _ (fun e => by rw [e, hb1] at hc; cases hc) hc1) (fun H1 n σ' H' p => p.2.1) (fun H1 x1 i one v σ' H' hone p hv => ?_) fun H1 x1 σ' H' p => ?_
  · obtain ⟨ps⟩ := n
    cases ps with
    | nil => exact absurd rfl (hne _ hn)
    | cons p ps => exact ⟨_, _, rfl⟩
  · obtain ⟨ex, tk, kp, ⟨x, y, rfl⟩, ys, hby, hys⟩ := p
    have hab : a ≠ b := fun e => by rw [e, hb0] at ha; cases ha
    have ha' : H' a = some (.lst xs) := ex _ _ ha
    have hnext : ((canon ltN ns).take (i + 1)).filter (fun one => (overR ns one).isEmpty) = ((canon ltN ns).take i).filter (fun one => (overR ns one).isEmpty) ++ if (overR ns one).isEmpty = true then [one] else [] := by
      rw [take_next' hone, List.filter_append]
      congr 1
      cases q : (overR ns one).isEmpty <;> simp [List.filter, q]
    show tSeq _ _ _ _ _
    refine q_asgL (el_lcLG (ws := ns) (b := fun o => !decide (o = one) && hasAll one o) (f := Datum.toD) Datum.toD (fun H1 x Q h => ⟨.ref a, rfl, h H1 (Evl.Ex.refl _)⟩) ha' (hT.ex ex) (sz_small (by omega)) (fun _ => rfl) (fun o vo H3 ho x3 hvo => ?_) fun o vo H3 _ _ x3 hvo => ed_var (v := vo) rfl hvo) fun c zs H3 hc x3 hc3 hT3 => ?_
    · exact Evl.et_and (et_test (ed_neNd (ed_var (v := vo) rfl hvo) (ed_var (v := v) rfl (hv.ex x3)))) fun _ => et_test (ed_hasList (i := 0) (n := one) (o := o)
        (el_lcG (xs := o.items) Datum.toD (fun p => !memB p one.items) Datum.toD (ed_var (v := vo) rfl hvo) (sz_small (by have := hb.2 o ho; omega)) (fun _ => rfl) (fun p vp H4 hp x4 hvp => et_test (ed_notInP (ed_var (v := vp) rfl hvp) (ed_var (v := v) rfl ((hv.ex x3).ex x4)))) fun p vp H4 _ _ x4 hvp => ed_var (v := vp) rfl hvp))
    · show tIfS _ _ _ _ _ _
      refine s_ifN (b := (overR ns one).isEmpty) (et_test (ed_is (ed_eqNv (a := c) rfl hc3 hT3 (plain_nds _)) ?_)) (fun hb3 H4 x4 => ?_) fun hb3 H4 x4 => ?_
      · show PyData.bool ((overR ns one).map (Datum.toD : Nd → PyData)).isEmpty = _
        cases overR ns one <;> rfl
      · have hlen : (((canon ltN ns).take i).filter fun one => (overR ns one).isEmpty).length ≤ 100 := by
          refine Nat.le_trans (List.length_filter_le ..) ?_
          have h1 := canon_len (lt := ltN) ns
          rw [List.length_take]
          omega
        refine e_append (v := v) (d := Datum.toD one) rfl rfl (x4 _ _ (x3 _ _ hby)) ((hv.ex x3).ex x4) ((hys.ex x3).ex x4) (by rw [List.length_map]; omega) fun H5 hk5 tk5 hb5 hT5 => ?_
        refine ⟨fun q o e => ?_, ((tk.trans (tk_ex x3)).trans (tk_ex x4)).trans tk5, fun q o hq e => ?_, ⟨_, _, rfl⟩, _, hb5, ?_⟩
        · rw [hk5 q (fun z => by rw [z, hb0] at e; cases e)]
          exact x4 _ _ (x3 _ _ (ex _ _ e))
        · rw [hk5 q hq]
          exact x4 _ _ (x3 _ _ (kp q o hq e))
        · rw [hnext, if_pos hb3, List.map_append]
          exact hT5
      · refine ⟨(ex.trans x3).trans x4, (tk.trans (tk_ex x3)).trans (tk_ex x4), fun q o hq e => x4 _ _ (x3 _ _ (kp q o hq e)), ⟨_, _, rfl⟩, ys, x4 _ _ (x3 _ _ hby), ?_⟩
        rw [hnext, if_neg (by rw [hb3]; decide), List.append_nil]
        exact (hys.ex x3).ex x4
  · obtain ⟨ex, tk, kp, ⟨x, y, rfl⟩, ys, hby, hys⟩ := p
    rw [List.take_length] at hys
    exact s_ret (ed_tupV (a := b) rfl hby hys) fun v' H'' x' hv' => k v' H'' (ex.trans x') hv'
end
end Isl
end
section
set_option Elab.async false
set_option linter.all false
set_option maxRecDepth 100000
set_option maxHeartbeats 4000000
/-! _law_mixed, _law_begin, _law_draw, _law_of -/
namespace Isl
open PySem PySem.Spec PyProof.Rows L2
open Evl (Ex EvT)
open PySem.W (dataLt Datum DatumOrd)
section
variable {P : Program} {w : World} {K : PySem.W.Frag} {mg : Str → Option Value} {base : Heap} {ta tb te : TE} {σ : L2.St} {H : Hp} {D : Ends} {tv : TS} {d e : PyData} {ds : List PyData} {ts : TA} {E : XK}
theorem ed_toInt {i : Int} (h : ED ta σ H (.int i)) : ED (tCB (fun xs H Q => (∃ i, xs = [V.int i] ∧ Q (.int i) H) ∨ ∃ k, xs = [V.bl k] ∧ Q (.int (if k then 1 else 0)) H) (tCons ta tNil)) σ H (.int i) := fun H1 x Q q =>
  h H1 x _ fun v H2 x2 hv => .inl ⟨i, by rw [hv.toI], q _ H2 x2 (.int i)⟩

/-! ### _law_mixed -/
theorem sc33 : FnScope ["_law_cell", "_law_k"] ["_law_cell", "_law_k"] (defScope (topS 33)) := ⟨rfl, rfl, rfl, by decide +kernel, rfl, by decide +kernel, by decide +kernel⟩
def mixI (c k : Int) : Int := (c % 2147483647 * (48271 + 2 * k * k) + 69621 * k + 11) % 2147483647 * 69621 % 2147483629
theorem mix_lo (c k : Int) : 0 ≤ mixI c k := Int.emod_nonneg _ (by decide)
theorem mix_hi (c k : Int) : mixI c k < 2147483629 := Int.emod_lt_of_pos _ (by decide)
def spMixed : Sp := spF (ι := { p : Int × Int // 0 ≤ p.2 ∧ p.2 ≤ 1000000 }) (fun p => [.int p.1.1, .int p.1.2]) fun p => .int (mixI p.1.1 p.1.2)
theorem c__law_mixed (D : Dn K mg "_law_mixed" (topS 33) ["_law_cell", "_law_k"]) (B : Bt mg) : Cal P w K mg base CX0 1 "_law_mixed" ["_law_cell", "_law_k"] spMixed := D.cal fun f fd F => by
  refine F.ok sc33 (spF_len fun _ => rfl) fun cdv A outer s H vs Q E hr h => ?_
  obtain ⟨⟨⟨c, k⟩, hk⟩, hT, kk⟩ := h
  obtain ⟨v, v2, rfl, h1, h2⟩ := pairs2 hT
  have hk : 0 ≤ k ∧ k ≤ 1000000 := hk
  refine ⟨_, (pss_cons (ps_set (i := 0) sc33.nd rfl (.inl rfl) (pe_op op_mod (pe_callTy call_int1 (by rfl) B.int (by decide +kernel) (pa_cons (pv 0) pa_nil)) pe_int)) (pss_one (ps_ret (pe_op op_mod (pe_op op_mul (pe_op op_mod (pe_op op_add (pe_op op_add (pe_op op_mul (pv 0) (pe_op op_add pe_int (pe_op op_mul (pe_op op_mul pe_int (pv 1)) (pv 1)))) (pe_op op_mul pe_int (pv 1))) pe_int) pe_int) pe_int) pe_int)))), ?_⟩
  have p1 : (0 : Int) < 2147483647 := by decide
  have p2 : (0 : Int) < 2147483629 := by decide
  refine q_asg (ed_op (ed_toInt (ed_var (v := v) (d := .int c) rfl h1)) ed_int (r2_I p1)) fun vc H1 x1 hvc => ?_
  have a1 := Int.emod_nonneg c (by decide : (2147483647 : Int) ≠ 0)
  have a2 := Int.emod_lt_of_pos c p1
  generalize hm : c % 2147483647 = m at a1 a2 hvc
  have hk2 : ED (tVar 1) (([some v, some v2] : L2.St).set 0 (some vc)) H1 (.int k) := ed_var (v := v2) rfl (h2.ex x1)
  have b1 := Int.emod_nonneg (m * (48271 + 2 * k * k) + 69621 * k + 11) (by decide : (2147483647 : Int) ≠ 0)
  have b2 := Int.emod_lt_of_pos (m * (48271 + 2 * k * k) + 69621 * k + 11) p1
  refine s_ret (d := .int (mixI c k)) (ed_is (ed_op (ed_op (ed_op (ed_op (ed_op (ed_op (ed_var (v := vc) rfl hvc) (ed_op ed_int (ed_op (ed_op ed_int hk2 (r2_I (.inl (by omega)))) hk2 (r2_I (.inl (by omega)))) r2_I0) (r2_I (.inl (by omega)))) (ed_op ed_int hk2 (r2_I (.inl (by omega)))) r2_I0) ed_int r2_I0) ed_int (r2_I p1)) ed_int (r2_I (.inl ⟨by omega, by omega⟩))) ed_int (r2_I p2)) ?_) fun v' H' x hv => kk v' H' (x1.trans x) hv
  unfold mixI
  rw [hm]
theorem ed_mixed {c k : Int} {E : XK} (hk : 0 ≤ k ∧ k ≤ 1000000) (h1 : ED ta σ H (.int c)) (h2 : ED tb σ H (.int k)) : ED (tCall spMixed [] E (tCons ta (tCons tb tNil))) σ H (.int (mixI c k)) :=
  ed_call (⟨(c, k), hk⟩ : { p : Int × Int // 0 ≤ p.2 ∧ p.2 ≤ 1000000 }) (ea_cons h1 (ea_cons h2 ea_nil)) rfl

/-! ### the state of the draws -/
abbrev kvSt (c l : Addr) (n : Nat) : List (Key × V) := [(Sum.inr "cells", .ref c), (Sum.inr "lefts", .ref l), (Sum.inr "at", .int (n : Nat))]
structure StOk (d c l : Addr) (H : Hp) (n : Nat) : Prop where
  hd : H d = some (.dK (kvSt c l n))
  hc : ∃ cs : List Int, H c = some (.lst (cs.map V.int)) ∧ cs ≠ [] ∧ cs.length ≤ 63 ∧ ∃ ls : List Int, H l = some (.lst (ls.map V.int)) ∧ ls.length = cs.length
  ne : c ≠ l
/-- all but the state's dict and the list of what is left stands -/
def Kp (d l : Addr) (H H' : Hp) : Prop := ∀ b o, b ≠ d → b ≠ l → H b = some o → H' b = some o
theorem Kp.refl (d l : Addr) (H : Hp) : Kp d l H H := fun _ _ _ _ h => h
theorem Kp.trans {d l : Addr} {H H1 H2 : Hp} (a : Kp d l H H1) (b : Kp d l H1 H2) : Kp d l H H2 := fun q o h1 h2 h => b q o h1 h2 (a q o h1 h2 h)
theorem Kp.ex {d l : Addr} {H H1 : Hp} (a : Ex H H1) : Kp d l H H1 := fun q o _ _ h => a q o h
theorem StOk.ex {d c l : Addr} {H H' : Hp} {n : Nat} (s : StOk d c l H n) (x : Ex H H') : StOk d c l H' n := by
  obtain ⟨cs, h1, h2, h3, ls, h4, h5⟩ := s.hc
  exact ⟨x _ _ s.hd, ⟨cs, x _ _ h1, h2, h3, ls, x _ _ h4, h5⟩, s.ne⟩
theorem StOk.dl {d c l : Addr} {H : Hp} {n : Nat} (s : StOk d c l H n) : d ≠ l := fun e => by
  obtain ⟨cs, h1, h2, h3, ls, h4, h5⟩ := s.hc
  have := s.hd
  rw [e, h4] at this
  cases this
theorem StOk.dc {d c l : Addr} {H : Hp} {n : Nat} (s : StOk d c l H n) : d ≠ c := fun e => by
  obtain ⟨cs, h1, h2, h3, ls, h4, h5⟩ := s.hc
  have := s.hd
  rw [e, h1] at this
  cases this
theorem Kp.tk {d c l : Addr} {H H' : Hp} {n : Nat} (s : StOk d c l H n) (k : Kp d l H H') : Tk H H' := fun p xs h => by
  obtain ⟨cs, h1, h2, h3, ls, h4, h5⟩ := s.hc
  refine k p _ (fun e => ?_) (fun e => ?_) h
  · rw [e, s.hd] at h
    cases h
  · rw [e, h4] at h
    cases h
/-- another object is put where the state does not stand -/
theorem StOk.put {d c l b : Addr} {H : Hp} {o : HO} {n : Nat} (s : StOk d c l H n) (h1 : b ≠ d) (h2 : b ≠ c) (h3 : b ≠ l) : StOk d c l (upd H b o) n := by
  obtain ⟨cs, g1, g2, g3, ls, g4, g5⟩ := s.hc
  exact ⟨by rw [upd_ne (Ne.symm h1)]; exact s.hd, ⟨cs, by rw [upd_ne (Ne.symm h2)]; exact g1, g2, g3, ls, by rw [upd_ne (Ne.symm h3)]; exact g4, g5⟩, s.ne⟩
theorem nsx1 : ¬ (("cells" : Str) = "lefts") := by decide +kernel
theorem nsx2 : ¬ (("cells" : Str) = "at") := by decide +kernel
theorem nsx3 : ¬ (("lefts" : Str) = "at") := by decide +kernel
abbrev kCe : Key := Sum.inr ("cells" : Str)
abbrev kLe : Key := Sum.inr ("lefts" : Str)
abbrev kAt : Key := Sum.inr ("at" : Str)
theorem ns1 : ¬ (kCe = kLe) := fun e => nsx1 (Sum.inr.inj e)
theorem ns2 : ¬ (kCe = kAt) := fun e => nsx2 (Sum.inr.inj e)
theorem ns3 : ¬ (kLe = kAt) := fun e => nsx3 (Sum.inr.inj e)
theorem val_hit {k : Key} {v : V} {r : List (Key × V)} : valV ((k, v) :: r) k = some v := by
  unfold valV
  rw [List.find?_cons_of_pos (by exact decide_eq_true rfl)] <;> rfl
theorem val_skip {k k' : Key} {v : V} {r : List (Key × V)} (h : ¬ k' = k) : valV ((k', v) :: r) k = valV r k := by
  unfold valV
  simp [List.find?, h]
theorem val_cells (c l : Addr) (n : Nat) : valV (kvSt c l n) (Sum.inr "cells") = some (.ref c) := val_hit
theorem val_lefts (c l : Addr) (n : Nat) : valV (kvSt c l n) (Sum.inr "lefts") = some (.ref l) := (val_skip ns1).trans val_hit
theorem val_at (c l : Addr) (n : Nat) : valV (kvSt c l n) (Sum.inr "at") = some (.int (n : Nat)) := (val_skip ns2).trans ((val_skip ns3).trans val_hit)
theorem put_at (c l : Addr) (n m : Nat) : putK (kvSt c l n) (Sum.inr "at") (.int (m : Nat)) = kvSt c l m := by
  have h1 : ((kvSt c l n).any fun kv => decide (kv.1 = kAt)) = true := List.any_eq_true.mpr ⟨(kAt, .int (n : Nat)), by simp [kvSt], decide_eq_true rfl⟩
  unfold putK
  rw [if_pos h1]
  show [(if kCe = kAt then (kCe, V.int (m : Nat)) else (kCe, V.ref c)), (if kLe = kAt then (kLe, V.int (m : Nat)) else (kLe, V.ref l)), (if kAt = kAt then (kAt, V.int (m : Nat)) else (kAt, V.int (n : Nat)))] = _
  rw [if_neg ns2, if_neg ns3, if_pos rfl]
/-- state['at'] -/
theorem ed_at {i : Nat} {d c l : Addr} {n : Nat} (hi : σ[i]? = some (some (.ref d))) (s : StOk d c l H n) : ED (tDGet (tVar i) (tC (.str "at"))) σ H (.int (n : Nat)) := fun H1 x Q q =>
  ⟨.ref d, hi, d, .int (n : Nat), rfl, by have h := DGet.k (k := Sum.inr "at") (s.ex x).hd; rw [val_at] at h; exact h, q _ H1 (Evl.Ex.refl H1) (.int _)⟩
/-- state['cells'], state['lefts'] -/
theorem ev_cells {i : Nat} {d c l : Addr} {n : Nat} (hi : σ[i]? = some (some (.ref d))) (s : StOk d c l H n) : Evl.Ev (tDGet (tVar i) (tC (.str "cells"))) σ H (.ref c) := fun H1 x Q q =>
  ⟨.ref d, hi, d, .ref c, rfl, by have h := DGet.k (k := Sum.inr "cells") (s.ex x).hd; rw [val_cells] at h; exact h, q H1 (Evl.Ex.refl H1)⟩
theorem ev_lefts {i : Nat} {d c l : Addr} {n : Nat} (hi : σ[i]? = some (some (.ref d))) (s : StOk d c l H n) : Evl.Ev (tDGet (tVar i) (tC (.str "lefts"))) σ H (.ref l) := fun H1 x Q q =>
  ⟨.ref d, hi, d, .ref l, rfl, by have h := DGet.k (k := Sum.inr "lefts") (s.ex x).hd; rw [val_lefts] at h; exact h, q H1 (Evl.Ex.refl H1)⟩
/-- xs[i], xs a list of ints -/
theorem ed_ixL {a : Addr} {ns : List Int} {i j : Nat} {z : Int} (h : Evl.Ev ta σ H (.ref a)) (ha : H a = some (.lst (ns.map V.int))) (hj : ED tb σ H (.int (j : Nat))) (hz : ns[j]? = some z) : ED (tOp (rIxL K) ta tb) σ H (.int z) := fun H1 x Q q =>
  h H1 x _ fun H2 x2 => hj H2 (x.trans x2) _ fun v H3 x3 hv => ⟨a, ns.map V.int, (j : Nat), .int z, rfl, hv.toI, .inl (.inl (x3 _ _ (x2 _ _ (x _ _ ha)))), by
    have hjl : j < ns.length := (List.getElem?_eq_some_iff.mp hz).1
    unfold atI ixN
    rw [if_pos (by omega), if_pos (by rw [List.length_map]; omega)]
    show (ns.map V.int)[((j : Nat) : Int).toNat]? = _
    rw [Int.toNat_natCast, List.getElem?_map, hz] <;> rfl, q _ H3 (x2.trans x3) (.int z)⟩
theorem ed_lenL {a : Addr} {xs : List V} (h : Evl.Ev ta σ H (.ref a)) (ha : H a = some (.lst xs)) : ED (tCB (fun xs H Q => ∃ p ys, xs = [V.ref p] ∧ (SqL K H p ys ∨ SqT K H p ys) ∧ Q (.int (ys.length : Nat)) H) (tCons ta tNil)) σ H (.int (xs.length : Nat)) := fun H1 x Q q =>
  h H1 x _ fun H2 x2 => ⟨a, xs, rfl, .inl (.inl (.inl (x2 _ _ (x _ _ ha)))), q _ H2 x2 (.int _)⟩

/-! ### _law_draw -/
theorem sc35 : FnScope ["_law_state", "_law_limit", "_law_at", "_law_place", "_law_left", "_law_number"] ["_law_state", "_law_limit"] (defScope (topS 35)) := ⟨rfl, rfl, rfl, by decide +kernel, rfl, by decide +kernel, by decide +kernel⟩
def spDraw : Sp := fun vs H Q _ => ∃ (d c l : Addr) (n : Nat) (lim : Int), vs = [.ref d, .int lim] ∧ StOk d c l H n ∧ n ≤ 10000 ∧ 1 ≤ lim ∧ lim ≤ 1000000 ∧ ∀ r H', 0 ≤ r → r < lim → StOk d c l H' (n + 1) → Kp d l H H' → Q (.int r) H'
theorem c__law_draw (D : Dn K mg "_law_draw" (topS 35) ["_law_state", "_law_limit"]) (B : Bt mg) (c__law_mixed : Cal P w K mg base CX0 1 "_law_mixed" ["_law_cell", "_law_k"] spMixed) : Cal P w K mg base CX0 2 "_law_draw" ["_law_state", "_law_limit"] spDraw := D.cal fun f fd F => by
  refine F.ok sc35 (fun vs H Q E h => by obtain ⟨d, c, l, n, lim, rfl, _⟩ := h; rfl) fun cdv A outer s H vs Q E hr h => ?_
  obtain ⟨d, c, l, n, lim, rfl, st, hn, hl1, hl2, k⟩ := h
  refine ⟨_, (pss_cons (ps_set (i := 2) sc35.nd rfl (.inl rfl) (pe_dget (hu_of hr) (pv 0) pe_str (fun _ _ => rfl))) (pss_cons (ps_dput (hu_of hr) (pv 0) pe_str (pe_op op_add (pv 2) pe_int) rfl) (pss_cons (ps_set (i := 3) sc35.nd rfl (.inl rfl) (pe_op op_mod (pe_callTy call_int1 (by rfl) B.int (by decide +kernel) (pa_cons (pv 2) pa_nil)) (pe_callB call_len_seq (by rfl) B.len PySem.boot_len (pa_cons (pe_dget (hu_of hr) (pv 0) pe_str (fun _ _ => rfl)) pa_nil)))) (pss_cons (ps_set (i := 4) sc35.nd rfl (.inl rfl) (pe_ix ix_list (pe_dget (hu_of hr) (pv 0) pe_str (fun _ _ => rfl)) (pv 3) (fun _ _ => rfl))) (pss_cons (ps_if (pt_cmpR op_gt (pv 4) pe_int (nomark _)) (pss_cons (ps_asg (pe_op op_fdiv (pv 4) (pv 1)) (pg_sub (pe_dget (hu_of hr) (pv 0) pe_str (fun _ _ => rfl)) (pv 3) set_list)) (pss_one (ps_ret (pe_op op_mod (pe_callTy call_int1 (by rfl) B.int (by decide +kernel) (pa_cons (pv 4) pa_nil)) (pv 1))))) pss_nil) (pss_cons (ps_set (i := 5) sc35.nd rfl (.inl rfl) (pe_cal c__law_mixed (hr.mono (by decide)) pass0 (pa_cons (pe_cal c__law_mixed (hr.mono (by decide)) pass0 (pa_cons (pe_ix ix_list (pe_dget (hu_of hr) (pv 0) pe_str (fun _ _ => rfl)) (pv 3) (fun _ _ => rfl)) (pa_cons (pv 2) pa_nil))) (pa_cons (pe_op op_add pe_int (pv 2)) pa_nil)))) (pss_one (ps_ret (pe_op op_mod (pe_op op_fdiv (pe_callTy call_int1 (by rfl) B.int (by decide +kernel) (pa_cons (pe_op op_add (pe_op op_mul (pv 5) pe_int) (pe_cal c__law_mixed (hr.mono (by decide)) pass0 (pa_cons (pv 5) (pa_cons (pe_op op_add pe_int (pv 2)) pa_nil)))) pa_nil)) pe_int) (pv 1)))))))))), ?_⟩
  refine q_asg (ed_at rfl st) fun va H1 x1 hva => ?_
  have st1 := st.ex x1
  have hlim : ∀ {H1 : Hp}, Td H1 (V.int lim) (.int lim) := .int lim
  -- state['at'] = at + 1
  refine (ed_op (ed_var (v := va) rfl hva) ed_int r2_I0 : ED _ _ H1 (.int ((n : Nat) + 1))) H1 (Evl.Ex.refl H1) _ fun vn H2 x2 hvn => ?_
  have st2 := st1.ex x2
  have e2 : DPut H2 d (kV (Sum.inr "at")) vn (upd H2 d (.dK (kvSt c l (n + 1)))) := by
    have h := DPut.k (k := Sum.inr "at") (v := vn) st2.hd (by show 3 < sizeLine; decide)
    rw [hvn.toI] at h ⊢
    have e : putK (kvSt c l n) (Sum.inr "at") (.int ((n : Nat) + 1)) = kvSt c l (n + 1) := by
      rw [← put_at c l n (n + 1)]
      congr 1
    rw [e] at h
    exact h
  refine ⟨.ref d, rfl, d, _, rfl, e2, ?_⟩
  obtain ⟨cs, g1, g2, g3, ls, g4, g5⟩ := st2.hc
  have st3 : StOk d c l (upd H2 d (.dK (kvSt c l (n + 1)))) (n + 1) := ⟨upd_same, ⟨cs, by rw [upd_ne (Ne.symm st2.dc)]; exact g1, g2, g3, ls, by rw [upd_ne (Ne.symm st2.dl)]; exact g4, g5⟩, st2.ne⟩
  have kp3 : Kp d l H (upd H2 d (.dK (kvSt c l (n + 1)))) := fun b o h1 h2 h => by
    rw [upd_ne h1]
    exact x2 _ _ (x1 _ _ h)
  have hva3 : Td (upd H2 d (.dK (kvSt c l (n + 1)))) va (.int (n : Nat)) := by
    rw [hva.toI]
    exact .int _
  have hc3 : (upd H2 d (.dK (kvSt c l (n + 1)))) c = some (.lst (cs.map V.int)) := by rw [upd_ne (Ne.symm st2.dc)]; exact g1
  have hl3 : (upd H2 d (.dK (kvSt c l (n + 1)))) l = some (.lst (ls.map V.int)) := by rw [upd_ne (Ne.symm st2.dl)]; exact g4
  generalize upd H2 d (.dK (kvSt c l (n + 1))) = H3 at st3 kp3 hva3 hc3 hl3
  have hcl : 0 < cs.length := List.length_pos_iff.mpr g2
  have hpos : (0 : Int) < ((cs.map V.int).length : Nat) := by rw [List.length_map]; omega
  -- place
  refine q_asg (ed_op (ed_toInt (ed_var (v := va) rfl hva3)) (ed_lenL (ev_cells rfl st3) hc3) (r2_I hpos)) fun vp H4 x4 hvp => ?_
  obtain ⟨j, hj, ej⟩ : ∃ j : Nat, j < cs.length ∧ ((n : Nat) : Int) % ((cs.map V.int).length : Nat) = (j : Nat) := by
    rw [List.length_map]
    refine ⟨n % cs.length, Nat.mod_lt _ hcl, ?_⟩
    rw [Int.natCast_emod]
  rw [ej] at hvp
  have st4 := st3.ex x4
  have hc4 := x4 _ _ hc3
  have hl4 := x4 _ _ hl3
  obtain ⟨z, hz⟩ : ∃ z, ls[j]? = some z := ⟨_, List.getElem?_eq_getElem (by omega)⟩
  obtain ⟨y, hy⟩ : ∃ y, cs[j]? = some y := ⟨_, List.getElem?_eq_getElem hj⟩
  -- left
  refine q_asg (ed_ixL (i := 0) (ev_lefts rfl st4) hl4 (ed_var (v := vp) rfl hvp) hz) fun vl H5 x5 hvl => ?_
  have st5 := st4.ex x5
  have hl5 := x5 _ _ hl4
  have hc5 := x5 _ _ hc4
  refine q_if (b := decide (0 < z)) (et_test (ed_op (ed_var (v := vl) rfl hvl) ed_int r2_B0)) (fun hb H6 x6 => ?_) fun hb H6 x6 => ?_
  · show tSeq _ _ _ _ _
    have st6 := st5.ex x6
    have hl6 := x6 _ _ hl5
    refine (ed_op (ed_var (v := vl) rfl (hvl.ex x6)) (ed_var (v := .int lim) rfl hlim) (r2_I ⟨by omega, by omega⟩) : ED _ _ H6 (.int (z / lim))) H6 (Evl.Ex.refl H6) _ fun vq H7 x7 hvq => ?_
    have st7 := st6.ex x7
    refine ev_lefts (i := 0) rfl st7 H7 (Evl.Ex.refl H7) _ fun H8 x8 => ⟨vp, rfl, ?_⟩
    have st8 := st7.ex x8
    have hl8 : H8 l = some (.lst (ls.map V.int)) := x8 _ _ (x7 _ _ hl6)
    have hjl : j < ls.length := by omega
    refine ⟨l, ls.map V.int, (j : Nat), j, rfl, ((hvp.ex x5).ex x6).toI, hl8, by
      unfold ixN
      rw [if_pos (by omega), if_pos (by rw [List.length_map]; omega), Int.toNat_natCast], ?_⟩
    have kp8 : Kp d l H (upd H8 l (.lst ((ls.map V.int).set j vq))) := fun b o h1 h2 h => by
      rw [upd_ne h2]
      exact x8 _ _ (x7 _ _ (x6 _ _ (x5 _ _ (x4 _ _ (kp3 b o h1 h2 h)))))
    have st9 : StOk d c l (upd H8 l (.lst ((ls.map V.int).set j vq))) (n + 1) := by
      refine ⟨by rw [upd_ne st8.dl]; exact st8.hd, ⟨cs, by rw [upd_ne st8.ne]; exact x8 _ _ (x7 _ _ (x6 _ _ hc5)), g2, g3, ls.set j (z / lim), ?_, by rw [List.length_set]; exact g5⟩, st8.ne⟩
      rw [upd_same, hvq.toI, List.map_set]
    have hvl9 : Td (upd H8 l (.lst ((ls.map V.int).set j vq))) vl (.int z) := by rw [hvl.toI]; exact .int _
    generalize upd H8 l (.lst ((ls.map V.int).set j vq)) = H9 at kp8 st9 hvl9
    have hlp : (0 : Int) < lim := by omega
    refine s_ret (ed_op (ed_toInt (ed_var (v := vl) rfl hvl9)) (ed_var (v := .int lim) rfl hlim) (r2_I hlp)) fun v' H' x hv' => ?_
    rw [hv'.toI]
    exact k _ H' (Int.emod_nonneg _ (by omega)) (Int.emod_lt_of_pos _ hlp) (st9.ex x) (kp8.trans (.ex x))
  · have st6 := st5.ex x6
    have hc6 := x6 _ _ hc5
    have hvp6 := (hvp.ex x5).ex x6
    have hva6 := ((hva3.ex x4).ex x5).ex x6
    have hn2 : (0 : Int) ≤ (n : Nat) ∧ ((n : Nat) : Int) ≤ 1000000 := by omega
    refine q_asg (ed_mixed (c := mixI y (n : Nat)) (k := 40 + (n : Nat)) (by omega) (ed_mixed hn2 (ed_ixL (i := 0) (ev_cells rfl st6) hc6 (ed_var (v := vp) rfl hvp6) hy) (ed_var (v := va) rfl hva6)) (ed_op ed_int (ed_var (v := va) rfl hva6) r2_I0)) fun vm H7 x7 hvm => ?_
    have hlp : (0 : Int) < lim := by omega
    have m1 := mix_lo (mixI y (n : Nat)) (40 + (n : Nat))
    have m2 := mix_hi (mixI y (n : Nat)) (40 + (n : Nat))
    generalize mixI (mixI y (n : Nat)) (40 + (n : Nat)) = M at hvm m1 m2
    refine s_ret (ed_op (ed_op (ed_toInt (ed_op (ed_op (ed_var (v := vm) rfl hvm) ed_int (r2_I (.inl (by omega)))) (ed_mixed (c := M) (k := 7 + (n : Nat)) (by omega) (ed_var (v := vm) rfl hvm) (ed_op ed_int (ed_var (v := va) rfl (hva6.ex x7)) r2_I0)) r2_I0)) ed_int (r2_I ⟨by decide, by decide⟩)) (ed_var (v := .int lim) rfl hlim) (r2_I hlp)) fun v' H' x hv' => ?_
    rw [hv'.toI]
    exact k _ H' (Int.emod_nonneg _ (by omega)) (Int.emod_lt_of_pos _ hlp) ((st6.ex x7).ex x) ((kp3.trans (.ex (((x4.trans x5).trans x6).trans x7))).trans (.ex x))

/-! ### _law_of -/
theorem sc36 : FnScope ["_law_state", "_law_some"] ["_law_state", "_law_some"] (defScope (topS 36)) := ⟨rfl, rfl, rfl, by decide +kernel, rfl, by decide +kernel, by decide +kernel⟩
def spOf : Sp := fun vs H Q _ => ∃ (d c l a : Addr) (n : Nat) (xs : List V), vs = [.ref d, .ref a] ∧ StOk d c l H n ∧ n ≤ 10000 ∧ H a = some (.lst xs) ∧ a ≠ l ∧ xs ≠ [] ∧ xs.length ≤ 1000000 ∧ ∀ (i : Nat) v H', xs[i]? = some v → StOk d c l H' (n + 1) → Kp d l H H' → Q v H'
theorem c__law_of (D : Dn K mg "_law_of" (topS 36) ["_law_state", "_law_some"]) (B : Bt mg) (c__law_draw : Cal P w K mg base CX0 2 "_law_draw" ["_law_state", "_law_limit"] spDraw) : Cal P w K mg base CX0 3 "_law_of" ["_law_state", "_law_some"] spOf := D.cal fun f fd F => by
  refine F.ok sc36 (fun vs H Q E h => by obtain ⟨d, c, l, a, n, xs, rfl, _⟩ := h; rfl) fun cdv A outer s H vs Q E hr h => ?_
  obtain ⟨d, c, l, a, n, xs, rfl, st, hn, ha, hal, hne, hlen, k⟩ := h
  refine ⟨_, (pss_one (ps_ret (pe_ix ix_list (pv 1) (pe_cal c__law_draw (hr.mono (by decide)) pass0 (pa_cons (pv 0) (pa_cons (pe_callB call_len_seq (by rfl) B.len PySem.boot_len (pa_cons (pv 1) pa_nil)) pa_nil))) (fun _ _ => rfl)))), ?_⟩
  refine ⟨.ref a, rfl, .ref d, rfl, ?_⟩
  refine ed_lenL (ta := tVar 1) (fun H1 x Q q => ⟨.ref a, rfl, q H1 (Evl.Ex.refl H1)⟩) ha H (Evl.Ex.refl H) _ fun v H1 x1 hv => ?_
  have hpos : 0 < xs.length := List.length_pos_iff.mpr hne
  refine ⟨d, c, l, n, (xs.length : Nat), by rw [hv.toI] <;> rfl, st.ex x1, hn, by omega, by omega, fun r H2 h0 h1 st2 kp => ?_⟩
  have had : a ≠ d := fun e => by
    rw [e, st.hd] at ha
    cases ha
  have hi : r.toNat < xs.length := by omega
  refine ⟨a, xs, r, xs[r.toNat], rfl, rfl, .inl (.inl (kp a _ had hal (x1 _ _ ha))), ?_, k r.toNat _ H2 (List.getElem?_eq_getElem hi) st2 ((Kp.ex x1).trans kp)⟩
  unfold atI ixN
  rw [if_pos h0, if_pos h1]
  exact List.getElem?_eq_getElem hi
end
end Isl
end
section
set_option Elab.async false
set_option linter.all false
set_option maxRecDepth 100000
set_option maxHeartbeats 4000000
/-! the plain law: drawn needs and rules are as they should be -/
namespace Isl
open PySem PySem.Spec PyProof.Rows
open PySem.W (dataLt Datum DatumOrd)

def inBox (p : Pl) : Prop := -1 ≤ p.1 ∧ p.1 ≤ 1 ∧ -1 ≤ p.2 ∧ p.2 ≤ 1
structure LawN (k : Nat) (n : Nd) : Prop where
  ne : n.items ≠ []
  ri : Rises ltP n.items
  len : n.items.length ≤ k
  box : ∀ p ∈ n.items, inBox p
theorem LawN.mono {k m : Nat} {n : Nd} (h : LawN k n) (hk : k ≤ m) : LawN m n := ⟨h.ne, h.ri, Nat.le_trans h.len hk, h.box⟩
structure LawR (a b : Nat) (r : List Nd) : Prop where
  good : GoodR r
  len : r.length ≤ a
  need : ∀ n ∈ r, LawN b n
theorem LawR.mono {a b c d : Nat} {r : List Nd} (h : LawR a b r) (h1 : a ≤ c) (h2 : b ≤ d) : LawR c d r := ⟨h.good, Nat.le_trans h.len h1, fun n hn => (h.need n hn).mono h2⟩
theorem pair_box {m : Int} (hm : 1 ≤ m) {p : Pl} (h : inBox p) : isPairD m (Datum.toD p) = true := by
  obtain ⟨h1, h2, h3, h4⟩ := h
  show (isFromD (-m) m (.int p.1) && isFromD (-m) m (.int p.2)) = true
  unfold isFromD
  simp only [isIntD, isBoolD, betweenD, Bool.true_and, Bool.not_false]
  rw [Bool.and_eq_true, Bool.and_eq_true, Bool.and_eq_true, decide_eq_true_eq, decide_eq_true_eq, decide_eq_true_eq, decide_eq_true_eq]
  omega
theorem zip_rises : ∀ {ps : List Pl}, Rises ltP ps → ∀ p ∈ ps.zip ps.tail, ltP p.1 p.2 = true
  | [], _, p, hp => by cases hp
  | [x], _, p, hp => by cases hp
  | x :: y :: ps, h, p, hp => by
    obtain ⟨h1, h2⟩ := List.pairwise_cons.mp h
    have hp : p ∈ (x, y) :: ((y :: ps).zip ps) := hp
    rcases List.mem_cons.mp hp with e | e
    · rw [e]
      exact h1 y List.mem_cons_self
    · exact zip_rises (ps := y :: ps) h2 p e
theorem rise_of {ps : List Pl} (h : Rises ltP ps) : riseD (ps.map Datum.toD) = true := by
  rw [rise_typed, Bool.not_eq_true', Bool.eq_false_iff]
  intro z
  obtain ⟨p, hp, e⟩ := List.any_eq_true.mp z
  have h2 : DatumOrd.lt p.1 p.2 = true := zip_rises h p hp
  rw [dlt, h2] at e
  cases e
theorem all_box {m : Int} (hm : 1 ≤ m) {ps : List Pl} (h : ∀ p ∈ ps, inBox p) : (ps.map (Datum.toD : Pl → PyData)).all (isPairD m) = true := by
  rw [List.all_map, List.all_eq_true]
  exact fun p hp => pair_box hm (h p hp)
theorem need_of {k : Nat} {n : Nd} (h : LawN k n) (hk : k ≤ 12) : isNeedD (Datum.toD n) = true := by
  have h1 : 1 ≤ n.items.length := List.length_pos_iff.mpr h.ne
  have h2 := h.len
  show (decide (1 ≤ (n.items.map Datum.toD : List PyData).length) && decide ((n.items.map Datum.toD : List PyData).length ≤ 12) && ((n.items.map Datum.toD).all (isPairD 20) && riseD (n.items.map Datum.toD))) = true
  rw [rise_of h.ri, all_box (by decide) h.box, List.length_map, decide_eq_true h1, decide_eq_true (by omega : n.items.length ≤ 12)] <;> rfl
theorem island_of {ps : List Pl} (h : Rises ltP ps) (hb : ∀ p ∈ ps, inBox p) (hl : ps.length ≤ 400) : isIslandD (toN ps) = true := by
  show (decide ((ps.map Datum.toD : List PyData).length ≤ 400) && ((ps.map Datum.toD).all (isPairD 1000000000) && riseD (ps.map Datum.toD))) = true
  rw [rise_of h, all_box (by decide) hb, List.length_map, decide_eq_true hl] <;> rfl
theorem hasAll_iff {n o : Nd} : hasAll n o = true ↔ ∀ p ∈ o.items, p ∈ n.items := by
  unfold hasAll
  rw [List.all_eq_true]
  exact ⟨fun h p hp => memB_iff.mp (h p hp), fun h p hp => memB_iff.mpr (h p hp)⟩
theorem nd_eq {n o : Nd} (h : n.items = o.items) : n = o := by
  cases n
  cases o
  exact congrArg _ h
theorem sub_nodup {α : Type} [DecidableEq α] : ∀ {xs ys : List α}, xs.Nodup → (∀ x ∈ xs, x ∈ ys) → xs.length ≤ ys.length
  | [], ys, _, _ => Nat.zero_le _
  | x :: xs, ys, h, hs => by
    obtain ⟨h1, h2⟩ := List.nodup_cons.mp h
    have hx : x ∈ ys := hs x List.mem_cons_self
    have h3 : xs.length ≤ (ys.erase x).length := sub_nodup h2 fun z hz => by
      have hzx : z ≠ x := fun e => h1 (e ▸ hz)
      exact (List.mem_erase_of_ne hzx).mpr (hs z (List.mem_cons_of_mem _ hz))
    rw [List.length_erase_of_mem hx] at h3
    have : 0 < ys.length := List.length_pos_of_mem hx
    rw [List.length_cons]
    omega
/-- n within o, o within n: one -/
theorem within_eq {k m : Nat} {n o : Nd} (hn : LawN k n) (ho : LawN m o) (h : hasAll n o = true) (hl : n.items.length ≤ o.items.length) : o = n := by
  have hs := hasAll_iff.mp h
  refine nd_eq (rises_one soP ho.ri hn.ri fun z => ⟨hs z, fun hz => ?_⟩)
  by_cases hzo : z ∈ o.items
  · exact hzo
  · exfalso
    have nd : (z :: o.items).Nodup := List.nodup_cons.mpr ⟨hzo, rises_nodup soP ho.ri⟩
    have := sub_nodup nd (ys := n.items) fun x hx => by
      rcases List.mem_cons.mp hx with e | e
      · rw [e]; exact hz
      · exact hs x e
    rw [List.length_cons] at this
    omega
theorem least_mem {ns : List Nd} {n : Nd} : n ∈ leastR ns ↔ n ∈ ns ∧ ∀ o ∈ ns, o ≠ n → hasAll n o = false := by
  unfold leastR
  rw [List.mem_filter, canon_mem]
  refine and_congr_right fun _ => ?_
  unfold overR
  rw [List.isEmpty_iff, List.filter_eq_nil_iff]
  refine forall_congr' fun o => forall_congr' fun _ => ?_
  by_cases e : o = n
  · rw [decide_eq_true e]
    simp [e]
  · rw [decide_eq_false e]
    simp [e]
theorem least_rises (ns : List Nd) : Rises ltN (leastR ns) := List.Pairwise.sublist List.filter_sublist (canon_rises soN ns)
theorem least_one {k : Nat} {ns : List Nd} (hne : ns ≠ []) (h : ∀ n ∈ ns, LawN k n) : leastR ns ≠ [] := by
  obtain ⟨n, hn, hmin⟩ : ∃ n ∈ ns, ∀ o ∈ ns, n.items.length ≤ o.items.length := by
    clear h
    induction ns with
    | nil => exact absurd rfl hne
    | cons x xs ih =>
      by_cases e : xs = []
      · subst e
        exact ⟨x, List.mem_cons_self, fun o ho => by rw [List.mem_singleton.mp ho]; exact Nat.le_refl _⟩
      · obtain ⟨n, hn, hm⟩ := ih e
        by_cases q : x.items.length ≤ n.items.length
        · refine ⟨x, List.mem_cons_self, fun o ho => ?_⟩
          rcases List.mem_cons.mp ho with z | z
          · rw [z]; exact Nat.le_refl _
          · exact Nat.le_trans q (hm o z)
        · refine ⟨n, List.mem_cons_of_mem _ hn, fun o ho => ?_⟩
          rcases List.mem_cons.mp ho with z | z
          · rw [z]; omega
          · exact hm o z
  have hm : n ∈ leastR ns := least_mem.mpr ⟨hn, fun o ho hne => by
    cases q : hasAll n o with
    | false => rfl
    | true => exact absurd (within_eq (h n hn) (h o ho) q (hmin o ho)) hne⟩
  exact List.ne_nil_of_mem hm
theorem rises_at {α : Type} {lt : α → α → Bool} {xs : List α} (h : Rises lt xs) (i : Nat) (a b : α) (ha : xs[i]? = some a) (hb : xs[i + 1]? = some b) : lt a b = true := by
  obtain ⟨h1, e1⟩ := List.getElem?_eq_some_iff.mp ha
  obtain ⟨h2, e2⟩ := List.getElem?_eq_some_iff.mp hb
  have := List.pairwise_iff_getElem.mp h i (i + 1) h1 h2 (Nat.lt_succ_self _)
  rw [e1, e2] at this
  exact this
theorem least_law {a k : Nat} {ns : List Nd} (hne : ns ≠ []) (hl : ns.length ≤ a) (ha : a ≤ 60) (hk : k ≤ 12) (h : ∀ n ∈ ns, LawN k n) : LawR a k (leastR ns) := by
  have hlen : (leastR ns).length ≤ ns.length := Nat.le_trans (List.length_filter_le ..) (canon_len ns)
  refine ⟨⟨List.length_pos_iff.mpr (least_one hne h), by omega, fun n hn => need_of (h n (least_mem.mp hn).1) hk, fun i a b h1 h2 => rises_at (least_rises ns) i a b h1 h2, fun n hn o ho e => (least_mem.mp hn).2 o (least_mem.mp ho).1 e⟩, by omega, fun n hn => h n (least_mem.mp hn).1⟩
theorem tail_law {a k : Nat} {r : List Nd} (h : LawR a k r) (h1 : 1 < r.length) : LawR a k r.tail := by
  have hs : ∀ n ∈ r.tail, n ∈ r := fun n hn => List.mem_of_mem_tail hn
  refine ⟨⟨by rw [List.length_tail]; omega, by rw [List.length_tail]; have := h.good.few; omega, fun n hn => h.good.need n (hs n hn), fun i a b h1 h2 => ?_, fun n hn o ho e => h.good.anti n (hs n hn) o (hs o ho) e⟩, by rw [List.length_tail]; have := h.len; omega, fun n hn => h.need n (hs n hn)⟩
  rw [List.getElem?_tail] at h1 h2
  exact h.good.rise (i + 1) a b h1 h2
theorem canon_law {k : Nat} {S : List Pl} (hne : S ≠ []) (hl : S.length ≤ k) (hb : ∀ p ∈ S, inBox p) : LawN k ⟨canon ltP S⟩ := by
  refine ⟨fun e => ?_, canon_rises soP S, Nat.le_trans (canon_len S) hl, fun p hp => hb p (canon_mem.mp hp)⟩
  cases S with
  | nil => exact hne rfl
  | cons p S =>
    have hm : p ∈ canon ltP (p :: S) := canon_mem.mpr List.mem_cons_self
    have e : canon ltP (p :: S) = [] := e
    rw [e] at hm
    cases hm
end Isl
end
section
set_option Elab.async false
set_option linter.all false
set_option maxRecDepth 100000
set_option maxHeartbeats 4000000
/-! _law_need, _law_rule, _law_near_rule, _law_begin -/
namespace Isl
open PySem PySem.Spec PyProof.Rows L2
open Evl (Ex EvT)
open PySem.W (dataLt Datum DatumOrd)
section
variable {P : Program} {w : World} {K : PySem.W.Frag} {mg : Str → Option Value} {base : Heap} {ta tb te : TE} {σ : L2.St} {H : Hp} {D : Ends} {tv : TS} {d e : PyData} {ds : List PyData} {ts : TA} {E : XK}
theorem e_draw {i : Nat} {a c l : Addr} {n : Nat} {lim : Int} {Q : VK} (hi : σ[i]? = some (some (.ref a))) (st : StOk a c l H n) (hn : n ≤ 10000) (hb : ED tb σ H (.int lim)) (h1 : 1 ≤ lim) (h2 : lim ≤ 1000000)
    (k : ∀ r H', 0 ≤ r → r < lim → StOk a c l H' (n + 1) → Kp a l H H' → Q (.int r) H') : tCall spDraw [] E (tCons (tVar i) (tCons tb tNil)) σ H Q :=
  ⟨.ref a, hi, hb H (Evl.Ex.refl H) _ fun v H1 x1 hv => ⟨a, c, l, n, lim, by rw [hv.toI] <;> rfl, st.ex x1, hn, h1, h2, fun r H2 h0 h3 st2 kp => k r H2 h0 h3 st2 ((Kp.ex x1).trans kp)⟩⟩
theorem StOk.keep {a c l b : Addr} {H H' : Hp} {n : Nat} (s : StOk a c l H n) (hk : ∀ q o, q ≠ b → H q = some o → H' q = some o) (hb : H b = none ∨ (b ≠ a ∧ b ≠ c ∧ b ≠ l)) : StOk a c l H' n := by
  obtain ⟨cs, g1, g2, g3, ls, g4, g5⟩ := s.hc
  have hne : b ≠ a ∧ b ≠ c ∧ b ≠ l := by
    rcases hb with hb | hb
    · exact ⟨fun e => (by rw [e, s.hd] at hb; cases hb), fun e => (by rw [e, g1] at hb; cases hb), fun e => (by rw [e, g4] at hb; cases hb)⟩
    · exact hb
  exact ⟨hk _ _ (Ne.symm hne.1) s.hd, ⟨cs, hk _ _ (Ne.symm hne.2.1) g1, g2, g3, ls, hk _ _ (Ne.symm hne.2.2) g4, g5⟩, s.ne⟩
theorem StOk.fresh {a c l b : Addr} {H : Hp} {n : Nat} (s : StOk a c l H n) (hb : H b = none) : b ≠ a ∧ b ≠ c ∧ b ≠ l := by
  obtain ⟨cs, g1, g2, g3, ls, g4, g5⟩ := s.hc
  exact ⟨fun e => (by rw [e, s.hd] at hb; cases hb), fun e => (by rw [e, g1] at hb; cases hb), fun e => (by rw [e, g4] at hb; cases hb)⟩
/-- for k in range(n), the count known behind its evaluation -/
theorem q_forR1 {tb : TS} {i : Nat} {H1 : Hp} {σ1 : L2.St} {j : Int} (Pv : Nat → L2.St → Hp → Prop) (h0 : Pv 0 σ1 H1)
    (hs : ∀ n σ' H', n < j.toNat → Pv n σ' H' → tb { nx := Pv (n + 1), rt := D.rt, ct := Pv (n + 1), bk := tv D } (σ'.set i (some (.int (0 + (n : Nat))))) H')
    (hd : ∀ σ' H', Pv j.toNat σ' H' → tv D σ' H') :
    ∃ W : Nat → Nat → L2.St → Hp → Prop, (∃ m, W 0 m σ1 H1) ∧ ∀ i' m σ H, W i' m σ H → ((Itr 0 j.toNat).stop i' H ∧ tv D σ H) ∨ ((Itr 0 j.toNat).go i' H ∧ ∃ N : L2.St → Hp → Prop, (∀ σ' H', N σ' H' → ∃ m', m' < m ∧ W (i' + 1) m' σ' H') ∧
      ∀ x H', (Itr 0 j.toNat).yld i' H x H' → gName i x σ H' fun σ2 H2 => tb { nx := N, rt := D.rt, ct := N, bk := tv D } σ2 H2) := by
  refine for_it (D := { D with nx := tv D }) (walk_range (lo := 0) (n := j.toNat)) Pv h0 (fun _ _ _ _ _ => trivial) (fun n y σ' H' H'' hn p q => ?_) hd
  obtain ⟨e1, e2⟩ := q
  subst e1 e2
  exact hs n σ' _ hn p

theorem yes_go {A B : Hp → Prop} (h : A H) : tYes σ H fun b H3 => if b = true then A H3 else B H3 := by
  show (if true = true then A H else B H)
  rw [if_pos rfl]
  exact h
/-! ### _law_need -/
theorem sc37 : FnScope ["_law_state", "_law_size", "_law_found", "_law_step_here", "_law_x", "_law_y"] ["_law_state", "_law_size"] (defScope (topS 37)) := ⟨rfl, rfl, rfl, by decide +kernel, rfl, by decide +kernel, by decide +kernel⟩
def spNeedD : Sp := fun vs H Q _ => ∃ (a c l : Addr) (n : Nat), vs = [.ref a, .int 1] ∧ StOk a c l H n ∧ n ≤ 9000 ∧ ∀ v H' nd m, m ≤ 7 → StOk a c l H' (n + m) → Kp a l H H' → Td H' v (Datum.toD nd) → LawN 3 nd → Q v H'
theorem c__law_need (D : Dn K mg "_law_need" (topS 37) ["_law_state", "_law_size"]) (B : Bt mg) (c__law_draw : Cal P w K mg base CX0 2 "_law_draw" ["_law_state", "_law_limit"] spDraw) : Cal P w K mg base CX0 3 "_law_need" ["_law_state", "_law_size"] spNeedD := D.cal fun f fd F => by
  refine F.ok sc37 (fun vs H Q E h => by obtain ⟨a, c, l, n, rfl, _⟩ := h; rfl) fun cdv A outer s H vs Q E hr h => ?_
  obtain ⟨a, c, l, n, rfl, st, hn, k⟩ := h
  refine ⟨_, (pss_cons (ps_set (i := 2) sc37.nd rfl (.inl rfl) pe_dnewT) (pss_cons (ps_for PassesOwn.never rfl (pi_range1 (by rfl) B.range (pa_cons (pe_op op_add pe_int (pe_cal c__law_draw (hr.mono (by decide)) pass0 (pa_cons (pv 0) (pa_cons pe_int pa_nil)))) pa_nil)) (pg_name (i := 3) sc37.nd rfl (.inl rfl)) (pss_cons (ps_par (i := 4) (j := 5) (by rfl) sc37.nd rfl rfl (by decide) rfl rfl (pa_cons (pe_op op_sub (pe_cal c__law_draw (hr.mono (by decide)) pass0 (pa_cons (pv 0) (pa_cons (pe_op op_add (pe_op op_mul pe_int (pv 1)) pe_int) pa_nil))) (pv 1)) (pa_cons (pe_op op_sub (pe_cal c__law_draw (hr.mono (by decide)) pass0 (pa_cons (pv 0) (pa_cons (pe_op op_add (pe_op op_mul pe_int (pv 1)) pe_int) pa_nil))) (pv 1)) pa_nil)) (by rfl)) (pss_one (ps_dput (hu_of hr) (pv 2) (pe_tup (pa_cons (pv 4) (pa_cons (pv 5) pa_nil))) pe_bl rfl)))) (pss_one (ps_ret (pe_callTy call_tuple_of (by rfl) B.tuple (by decide +kernel) (pa_cons (pe_callB (cr_sortedDT rfl hr.units) (by rfl) B.sorted (by decide +kernel) (pa_cons (pv 2) pa_nil)) pa_nil)))))), ?_⟩
  refine fun b hb0 => ?_
  obtain ⟨nb1, nb2, nb3⟩ := st.fresh hb0
  have xb : Ex H (upd H b (.dT [])) := Evl.Ex.new hb0
  have g0 : GrowD b (upd H b (.dT [])) [] 0 := .new upd_same
  have st0 := st.ex xb
  have kp0 : Kp a l H (upd H b (.dT [])) := .ex xb
  generalize upd H b (.dT []) = H0 at g0 st0 kp0
  -- how many
  refine e_draw rfl st0 (by omega) ed_int (by decide) (by decide) fun r H1 hr0 hr1 st1 kp1 => ?_
  refine ⟨1, r, rfl, rfl, 1 + r, rfl, by omega, by omega, ?_⟩
  have g1 : GrowD b H1 [] 0 := by
    obtain ⟨kvs, L, q1, q2⟩ := g0.ex
    exact ⟨kvs, L, kp1 b _ nb1 nb3 q1, q2⟩
  refine q_forR1 (fun i σ' H' => StOk a c l H' (n + 1 + 2 * i) ∧ Kp a l H H' ∧ (∃ x y z, σ' = [some (.ref a), some (.int 1), some (.ref b), x, y, z]) ∧ ∃ S : List Pl, GrowD b H' S i ∧ S.length = i ∧ ∀ p ∈ S, inBox p) ⟨st1, kp0.trans kp1, ⟨none, none, none, rfl⟩, [], g1, rfl, fun p hp => (by cases hp)⟩ (fun i σ' H' hi p => ?_) fun σ' H' p => ?_
  · obtain ⟨st, kp, ⟨x, y, z, rfl⟩, S, g, hS, hbox⟩ := p
    have hi3 : i < 3 := by omega
    have hsz : ∀ {H1 : Hp}, Td H1 (V.int 1) (.int 1) := .int 1
    show tSeq _ _ _ _ _
    refine e_draw rfl st (by omega) (ed_op (ed_op ed_int (ed_var (v := .int 1) rfl hsz) (r2_I (.inl (by omega)))) ed_int r2_I0) (by decide) (by decide) fun r1 H2 hr0 hr1 st2 kp2 => ?_
    refine ⟨.int 1, rfl, r1, 1, rfl, rfl, ?_⟩
    refine e_draw rfl st2 (by omega) (ed_op (ed_op ed_int (ed_var (v := .int 1) rfl hsz) (r2_I (.inl (by omega)))) ed_int r2_I0) (by decide) (by decide) fun r2 H3 hr2 hr3 st3 kp3 => ?_
    refine ⟨.int 1, rfl, r2, 1, rfl, rfl, _, _, rfl, ?_⟩
    have g3 : GrowD b H3 S i := by
      obtain ⟨kvs, L, q1, q2⟩ := g.ex
      exact ⟨kvs, L, kp3 b _ nb1 nb3 (kp2 b _ nb1 nb3 q1), q2⟩
    refine e_dput (p := (r1 - 1, r2 - 1)) rfl (ed_pl (ed_var (v := .int (r1 - 1)) rfl (.int _)) (ed_var (v := .int (r2 - 1)) rfl (.int _))) g3 (by omega) fun H6 hk6 tk6 g6 => ?_
    refine ⟨st3.keep (b := b) hk6 (.inr ⟨nb1, nb2, nb3⟩), fun q o h1 h2 h => hk6 q o (fun e => by rw [e, hb0] at h; cases h) (kp3 q o h1 h2 (kp2 q o h1 h2 (kp q o h1 h2 h))), ⟨_, _, _, rfl⟩, S ++ [(r1 - 1, r2 - 1)], g6, by rw [List.length_append, hS] <;> rfl, fun p hp => ?_⟩
    rcases List.mem_append.mp hp with z | z
    · exact hbox p z
    · rw [List.mem_singleton.mp z]
      have q1 : r1 < 3 := hr1
      have q2 : r2 < 3 := hr3
      show -1 ≤ r1 - 1 ∧ r1 - 1 ≤ 1 ∧ -1 ≤ r2 - 1 ∧ r2 - 1 ≤ 1
      omega
  · obtain ⟨st, kp, ⟨x, y, z, rfl⟩, S, g, hS, hbox⟩ := p
    refine s_ret (ed_tupOf (el_sortedD (b := b) rfl g (by omega))) fun v' H'' x' hv' => ?_
    refine k v' H'' ⟨canon ltP S⟩ (1 + 2 * (1 + r).toNat) (by omega) ?_ (kp.trans (.ex x')) hv' (canon_law (fun e => ?_) (by omega) hbox)
    · have := st.ex x'
      rw [← Nat.add_assoc]
      exact this
    · rw [e] at hS
      have : (1 + r).toNat = 0 := hS.symm
      omega

/-! ### _law_rule -/
theorem sc39 : FnScope ["_law_state", "_law_most", "_law_size", "_law_step_here"] ["_law_state", "_law_most", "_law_size"] (defScope (topS 39)) := ⟨rfl, rfl, rfl, by decide +kernel, rfl, by decide +kernel, by decide +kernel⟩
def spRuleD : Sp := fun vs H Q _ => ∃ (a c l : Addr) (n : Nat), vs = [.ref a, .int 3, .int 1] ∧ StOk a c l H n ∧ n ≤ 8000 ∧ ∀ v H' r m, m ≤ 22 → StOk a c l H' (n + m) → Kp a l H H' → Td H' v (toR r) → LawR 3 3 r → Q v H'
theorem c__law_rule (D : Dn K mg "_law_rule" (topS 39) ["_law_state", "_law_most", "_law_size"]) (B : Bt mg) (c__law_draw : Cal P w K mg base CX0 2 "_law_draw" ["_law_state", "_law_limit"] spDraw) (c__law_need : Cal P w K mg base CX0 3 "_law_need" ["_law_state", "_law_size"] spNeedD)
    (c__law_least_needs : Cal P w K mg base CX0 1 "_law_least_needs" ["_law_needs_so"] spLeast) : Cal P w K mg base CX0 4 "_law_rule" ["_law_state", "_law_most", "_law_size"] spRuleD := D.cal fun f fd F => by
  refine F.ok sc39 (fun vs H Q E h => by obtain ⟨a, c, l, n, rfl, _⟩ := h; rfl) fun cdv A outer s H vs Q E hr h => ?_
  obtain ⟨a, c, l, n, rfl, st, hn, k⟩ := h
  refine ⟨_, (pss_one (ps_ret (pe_cal c__law_least_needs (hr.mono (by decide)) pass0 (pa_cons (pe_lc (own := [("_law_step_here", 3)]) (g := (gName 3)) rfl sc39.nd (pi_range1 (by rfl) B.range (pa_cons (pe_op op_add pe_int (pe_cal c__law_draw (hr.mono (by decide)) pass0 (pa_cons (pv 0) (pa_cons (pv 1) pa_nil)))) pa_nil)) (blkOk_by (N := ["_law_state", "_law_most", "_law_size", "_law_step_here"]) (sc := defScope (topS 39)) (by decide +kernel)) (fun _ _ _ _ _ => (pg_name (i := 3) sc39.nd rfl (.inl rfl))) (fun _ _ _ _ _ => pts_nil) (fun _ _ _ _ _ => (pe_cal c__law_need (hr.mono (by decide)) pass0 (pa_cons (pv 0) (pa_cons (pv 2) pa_nil))))) pa_nil)))), ?_⟩
  refine e_draw rfl st (by omega) (ed_var (v := .int 3) rfl (.int 3)) (by decide) (by decide) fun r H1 hr0 hr1 st1 kp1 => ?_
  refine ⟨1, r, rfl, rfl, 1 + r, rfl, by omega, by omega, fun L hL => ?_⟩
  obtain ⟨nb1, nb2, nb3⟩ := st1.fresh hL
  have hL0 : H L = none := by
    cases q : H L with
    | none => rfl
    | some o =>
      have h1 : L ≠ a := nb1
      rw [kp1 L o nb1 nb3 q] at hL
      cases hL
  refine lc_it (walk_range (lo := 0) (n := (1 + r).toNat)) (fun i Hc => ∃ (m : Nat) (ns : List Nd) (acc : List V), StOk a c l Hc (n + 1 + m) ∧ m ≤ 7 * i ∧ Kp a l H Hc ∧ Hc L = some (.lst acc) ∧ TdAll Hc acc (ns.map Datum.toD) ∧ ns.length = i ∧ ∀ q ∈ ns, LawN 3 q)
    ⟨0, [], [], st1.ex (Evl.Ex.new hL), Nat.le_refl _, kp1.trans (.ex (Evl.Ex.new hL)), upd_same, .nil, rfl, fun q hq => (by cases hq)⟩ (fun _ _ _ _ => trivial) (fun i x Hc Hc' hi p y => ?_) fun Hc p => ?_
  · obtain ⟨e1, e2⟩ := y
    subst e1 e2
    obtain ⟨m, ns, acc, st, hm, kp, hacc, hT, hlen, hlaw⟩ := p
    refine ⟨rfl, yes_go ?_⟩
    refine ⟨.ref a, rfl, .int 1, rfl, a, c, l, n + 1 + m, rfl, st, by omega, fun v H2 nd m2 hm2 st2 kp2 hv hnd => ?_⟩
    have hacc2 : H2 L = some (.lst acc) := kp2 L _ nb1 nb3 hacc
    have hal : acc.length = i := by rw [hT.len, List.length_map, hlen]
    have kk : Tk H2 (upd H2 L (.lst (acc ++ [v]))) := tk_put hacc2 fun _ z => by cases z
    refine ⟨acc, hacc2, by rw [sizeLine_eq]; omega, m + m2, ns ++ [nd], acc ++ [v], ?_, by omega, fun q o h1 h2 h => ?_, upd_same, ?_, by rw [List.length_append, hlen] <;> rfl, fun q hq => ?_⟩
    · have := st2.put (o := .lst (acc ++ [v])) nb1 nb2 nb3
      rw [← Nat.add_assoc]
      exact this
    · rw [upd_ne (fun e => by rw [e, hL0] at h; cases h)]
      exact kp2 q o h1 h2 (kp q o h1 h2 h)
    · rw [List.map_append]
      exact ((hT.tk (kp2.tk st)).tk kk).snoc (hv.tk kk)
    · rcases List.mem_append.mp hq with z | z
      · exact hlaw q z
      · rw [List.mem_singleton.mp z]; exact hnd
  · obtain ⟨m, ns, acc, st, hm, kp, hacc, hT, hlen, hlaw⟩ := p
    refine ⟨L, acc, ns, rfl, hacc, hT, ⟨by omega, fun q hq => by have := (hlaw q hq).len; omega⟩, fun q hq => (hlaw q hq).ne, fun v H2 x2 hv => ?_⟩
    refine k v H2 (leastR ns) (1 + m) (by omega) ?_ (kp.trans (.ex x2)) hv (least_law (fun e => ?_) (by omega) (by decide) (by decide) hlaw)
    · rw [← Nat.add_assoc]
      exact st.ex x2
    · rw [e] at hlen
      have : (1 + r).toNat = 0 := hlen.symm
      omega
end
end Isl
end
section
set_option Elab.async false
set_option linter.all false
set_option maxRecDepth 100000
set_option maxHeartbeats 4000000
/-! _law_near_rule, _law_begin -/
namespace Isl
open PySem PySem.Spec PyProof.Rows L2
open Evl (Ex EvT)
open PySem.W (dataLt Datum DatumOrd)
section
variable {P : Program} {w : World} {K : PySem.W.Frag} {mg : Str → Option Value} {base : Heap} {ta tb te : TE} {σ : L2.St} {H : Hp} {D : Ends} {tv : TS} {d e : PyData} {ds es : List PyData} {ts : TA} {E : XK}
theorem el_listOf (h : ED te σ H (.tuple ds)) : EL (tCB (fun xs H Q => ∃ p ys, xs = [V.ref p] ∧ (SqL K H p ys ∨ SqT K H p ys) ∧ ∀ l, H l = none → Q (.ref l) (upd H l (.lst ys))) (tCons te tNil)) σ H ds := fun H1 x Q q =>
  h H1 x _ fun v H2 x2 hv => by
    obtain ⟨a, xs, rfl, ha, hT⟩ := hv.toT
    exact ⟨a, xs, rfl, .inr (.inl (.inl ha)), fun l hl => q l xs _ (Evl.fresh_back x2 hl) (x2.trans (Evl.Ex.new hl)) upd_same (hT.ex (Evl.Ex.new hl))⟩
theorem el_cat (h1 : EL ta σ H ds) (h2 : EL tb σ H es) (hl : ds.length + es.length ≤ 60000) : EL (tOp rCat ta tb) σ H (ds ++ es) := fun H1 x Q q =>
  h1 H1 x _ fun p xs H2 hp x2 hp2 hT => h2 H2 (x.trans x2) _ fun p' ys H3 hp' x3 hp3 hT3 =>
    ⟨p, p', xs, ys, rfl, rfl, x3 _ _ hp2, hp3, sz_small (by rw [hT.len, hT3.len]; exact hl), fun r hr => q r _ _ (Evl.fresh_back (x2.trans x3) hr) ((x2.trans x3).trans (Evl.Ex.new hr)) upd_same (((hT.ex x3).ex (Evl.Ex.new hr)).app (hT3.ex (Evl.Ex.new hr)))⟩
theorem e_least {ns : List Nd} {Q : VK} (h : EL te σ H (ns.map Datum.toD)) (hb : BigR ns) (hne : ∀ n ∈ ns, n.items ≠ []) (k : ∀ v H', Ex H H' → Td H' v (toR (leastR ns)) → Q v H') : tCall spLeast [] E (tCons te tNil) σ H Q :=
  h H (Evl.Ex.refl H) _ fun p xs H2 hp x2 hp2 hT => ⟨p, xs, ns, rfl, hp2, hT, hb, hne, fun v H3 x3 hv => k v H3 (x2.trans x3) hv⟩
/-- least_needs(list(r0) + [need(state, 1)]) -/
theorem e_leastNeed {i : Nat} {a c l : Addr} {n : Nat} {r0 : List Nd} {E' : XK} {Q : VK} (h1 : EL ta σ H (r0.map Datum.toD)) (hi : σ[i]? = some (some (.ref a))) (st : StOk a c l H n) (hn : n ≤ 9000) (hl : r0.length ≤ 3) (hl3 : ∀ q ∈ r0, LawN 3 q)
    (k : ∀ v H' nd m, m ≤ 7 → StOk a c l H' (n + m) → Kp a l H H' → Td H' v (toR (leastR (r0 ++ [nd]))) → LawN 3 nd → Q v H') :
    tCall spLeast [] E (tCons (tOp rCat ta (tLst (tCons (tCall spNeedD [] E' (tCons (tVar i) (tCons (tC (.int 1)) tNil))) tNil))) tNil) σ H Q :=
  h1 H (Evl.Ex.refl H) _ fun p xs H6 hp0 x6 hp6 hT => by
    have st6 := st.ex x6
    obtain ⟨np1, np2, np3⟩ := st.fresh hp0
    refine ⟨.ref a, hi, a, c, l, n, rfl, st6, hn, fun vn H7 nd m hm st7 kp7 hvn lawn => ?_⟩
    have hT7 := hT.tk (kp7.tk st6)
    have hp7 : H7 p = some (.lst xs) := kp7 p _ np1 np3 hp6
    refine ⟨by show 1 ≤ sizeLine; decide, fun q hq => ?_⟩
    have x8 : Ex H7 (upd H7 q (.lst [vn])) := Evl.Ex.new hq
    have hxl : xs.length = r0.length := by rw [hT.len, List.length_map]
    refine ⟨p, q, xs, [vn], rfl, rfl, x8 _ _ hp7, upd_same, sz_small (by rw [hxl]; show r0.length + 1 ≤ 60000; omega), fun t ht => ?_⟩
    have x9 : Ex (upd H7 q (.lst [vn])) (upd (upd H7 q (.lst [vn])) t (.lst (xs ++ [vn]))) := Evl.Ex.new ht
    have lawx : ∀ q ∈ r0 ++ [nd], LawN 3 q := fun q hq => by
      rcases List.mem_append.mp hq with z | z
      · exact hl3 q z
      · rw [List.mem_singleton.mp z]; exact lawn
    have lenx : (r0 ++ [nd]).length ≤ 4 := by
      rw [List.length_append]
      show r0.length + 1 ≤ 4
      omega
    refine ⟨t, xs ++ [vn], r0 ++ [nd], rfl, upd_same, ?_, ⟨by omega, fun q hq => Nat.le_trans (lawx q hq).len (by decide)⟩, fun q hq => (lawx q hq).ne, fun v' H' x' hv' => ?_⟩
    · rw [List.map_append]
      exact ((hT7.ex x8).ex x9).snoc ((hvn.ex x8).ex x9)
    · exact k v' H' nd m hm (((st7.ex x8).ex x9).ex x') (((Kp.ex x6).trans kp7).trans (.ex ((x8.trans x9).trans x'))) hv' lawn
theorem cutLast (ds : List PyData) : cutD ds none (some (-1)) = ds.dropLast := by
  show (ds.drop 0).take ((if (-1 : Int) < 0 then ((-1 : Int) + (ds.length : Int)).toNat else min (-1 : Int).toNat ds.length) - 0) = _
  rw [List.drop_zero, Nat.sub_zero, if_pos (by decide), List.dropLast_eq_take]
  congr 1
  omega
theorem last_at {r : List Nd} (h : r ≠ []) : atI (r.map Datum.toD : List PyData) (-1) = some (Datum.toD (r.getLast h)) := by
  have hl : 0 < r.length := List.length_pos_iff.mpr h
  unfold atI ixN
  rw [if_neg (by decide), if_pos (by rw [List.length_map]; omega)]
  show (r.map Datum.toD : List PyData)[(-1 + ((r.map Datum.toD : List PyData).length : Int)).toNat]? = _
  rw [List.length_map, List.getElem?_map, show (-1 + (r.length : Int)).toNat = r.length - 1 by omega, List.getLast_eq_getElem, List.getElem?_eq_getElem (by omega)] <;> rfl
theorem law_big {a b : Nat} {r : List Nd} (h : LawR a b r) (ha : a ≤ 100) (hb : b ≤ 100) : BigR r := ⟨Nat.le_trans h.len ha, fun n hn => Nat.le_trans (h.need n hn).len hb⟩
theorem big_app {r s : List Nd} (h1 : r.length + s.length ≤ 100) (h2 : ∀ n ∈ r, n.items.length ≤ 100) (h3 : ∀ n ∈ s, n.items.length ≤ 100) : BigR (r ++ s) := ⟨by rw [List.length_append]; exact h1, fun n hn => by
  rcases List.mem_append.mp hn with z | z
  · exact h2 n z
  · exact h3 n z⟩

theorem q_asgP {i : Nat} (h : te σ H fun v H1 => tv D (σ.set i (some v)) H1) : tSeq (tAsg te (gName i)) tv D σ H := h

/-! ### _law_near_rule -/
theorem sc47 : FnScope ["_law_state", "_law_needs_so", "_law_pick", "_law_need_here"] ["_law_state", "_law_needs_so"] (defScope (topS 47)) := ⟨rfl, rfl, rfl, by decide +kernel, rfl, by decide +kernel, by decide +kernel⟩
def spNear : Sp := fun vs H Q _ => ∃ (a c l : Addr) (n : Nat) (v0 : V) (r0 : List Nd), vs = [.ref a, v0] ∧ StOk a c l H n ∧ n ≤ 7000 ∧ Td H v0 (toR r0) ∧ LawR 3 3 r0 ∧ ∀ v H' r m, m ≤ 23 → StOk a c l H' (n + m) → Kp a l H H' → Td H' v (toR r) → LawR 4 6 r → Q v H'
theorem c__law_near_rule (D : Dn K mg "_law_near_rule" (topS 47) ["_law_state", "_law_needs_so"]) (B : Bt mg) (c__law_draw : Cal P w K mg base CX0 2 "_law_draw" ["_law_state", "_law_limit"] spDraw) (c__law_need : Cal P w K mg base CX0 3 "_law_need" ["_law_state", "_law_size"] spNeedD)
    (c__law_joined : Cal P w K mg base CX0 1 "_law_joined" ["_law_one", "_law_other"] spJoined) (c__law_least_needs : Cal P w K mg base CX0 1 "_law_least_needs" ["_law_needs_so"] spLeast) (c__law_rule : Cal P w K mg base CX0 4 "_law_rule" ["_law_state", "_law_most", "_law_size"] spRuleD) :
    Cal P w K mg base CX0 5 "_law_near_rule" ["_law_state", "_law_needs_so"] spNear := D.cal fun f fd F => by
  refine F.ok sc47 (fun vs H Q E h => by obtain ⟨a, c, l, n, v0, r0, rfl, _⟩ := h; rfl) fun cdv A outer s H vs Q E hr h => ?_
  obtain ⟨a, c, l, n, v0, r0, rfl, st, hn, hv, law, k⟩ := h
  refine ⟨_, (pss_cons (ps_set (i := 2) sc47.nd rfl (.inl rfl) (pe_cal c__law_draw (hr.mono (by decide)) pass0 (pa_cons (pv 0) (pa_cons pe_int pa_nil)))) (pss_cons (ps_if (pt_cmpR op_eq (pv 2) pe_int (nomark _)) (pss_one (ps_ret (pv 1))) pss_nil) (pss_cons (ps_if (PW.pt (pw_and (pt_cmpR op_eq (pv 2) pe_int (nomark _)) (pw_and1 (pt_cmpR op_gt (pe_callB call_len_seq (by rfl) B.len PySem.boot_len (pa_cons (pv 1) pa_nil)) pe_int (nomark _))))) (pss_one (ps_ret (pe_slice sl_tupA (pv 1) (po_some pe_int) po_none))) pss_nil) (pss_cons (ps_if (pt_cmpR op_eq (pv 2) pe_int (nomark _)) (pss_cons (ps_set (i := 3) sc47.nd rfl (.inl rfl) (pe_cal c__law_joined (hr.mono (by decide)) pass0 (pa_cons (pe_ix ix_tup (pv 1) (pe_un un_neg pe_int) (fun _ _ => rfl)) (pa_cons (pe_cal c__law_need (hr.mono (by decide)) pass0 (pa_cons (pv 0) (pa_cons pe_int pa_nil))) pa_nil)))) (pss_one (ps_ret (pe_cal c__law_least_needs (hr.mono (by decide)) pass0 (pa_cons (pe_op op_cat (pe_callTy call_list_of (by rfl) B.list (by decide +kernel) (pa_cons (pe_slice sl_tupA (pv 1) po_none (po_some (pe_un un_neg pe_int))) pa_nil)) (pe_lst (pa_cons (pv 3) pa_nil))) pa_nil))))) pss_nil) (pss_cons (ps_if (pt_cmpR op_eq (pv 2) pe_int (nomark _)) (pss_one (ps_ret (pe_cal c__law_least_needs (hr.mono (by decide)) pass0 (pa_cons (pe_op op_cat (pe_callTy call_list_of (by rfl) B.list (by decide +kernel) (pa_cons (pv 1) pa_nil)) (pe_lst (pa_cons (pe_cal c__law_need (hr.mono (by decide)) pass0 (pa_cons (pv 0) (pa_cons pe_int pa_nil))) pa_nil))) pa_nil)))) pss_nil) (pss_one (ps_ret (pe_cal c__law_rule (hr.mono (by decide)) pass0 (pa_cons (pv 0) (pa_cons pe_int (pa_cons pe_int pa_nil))))))))))), ?_⟩
  have hlen := law.len
  have h3 : ∀ m ∈ r0, m.items.length ≤ 3 := fun m hm => (law.need m hm).len
  have hne : r0 ≠ [] := List.length_pos_iff.mp law.good.one
  refine e_draw rfl st (by omega) ed_int (by decide) (by decide) fun r H1 hr0 hr1 st1 kp1 => ?_
  have hv1 : Td H1 v0 (toR r0) := hv.tk (kp1.tk st)
  have hp : ∀ {H1 : Hp}, Td H1 (V.int r) (.int r) := .int r
  refine q_if (b := decide (r = 0)) (et_test (ed_op (ed_var (v := .int r) rfl hp) ed_int r2_eq)) (fun hb H2 x2 => ?_) fun hb H2 x2 => ?_
  · exact s_ret (ed_var (v := v0) rfl (hv1.ex x2)) fun v' H' x' hv' => k v' H' r0 1 (by omega) ((st1.ex x2).ex x') ((kp1.trans (.ex x2)).trans (.ex x')) hv' (law.mono (by decide) (by decide))
  refine q_if (b := decide (r = 1) && decide ((1 : Int) < ((r0.map Datum.toD : List PyData).length : Nat))) (Evl.et_and (et_test (ed_op (ed_var (v := .int r) rfl hp) ed_int r2_eq)) fun _ => et_test (ed_op (ed_len (ed_var (v := v0) rfl (hv1.ex x2))) ed_int r2_B0)) (fun hb2 H3 x3 => ?_) fun hb2 H3 x3 => ?_
  · rw [Bool.and_eq_true, decide_eq_true_eq, decide_eq_true_eq, List.length_map] at hb2
    have hl1 : 1 < r0.length := by omega
    refine s_ret (ed_slT (ed_var (v := v0) rfl ((hv1.ex x2).ex x3)) (eo_some ed_int) eo_none) fun v' H' x' hv' => ?_
    rw [cut1] at hv'
    have e : (r0.map Datum.toD : List PyData).tail = r0.tail.map Datum.toD := by cases r0 <;> rfl
    rw [e] at hv'
    exact k v' H' r0.tail 1 (by omega) (((st1.ex x2).ex x3).ex x') (((kp1.trans (.ex x2)).trans (.ex x3)).trans (.ex x')) hv' ((tail_law law hl1).mono (by decide) (by decide))
  refine q_if (b := decide (r = 2)) (et_test (ed_op (ed_var (v := .int r) rfl hp) ed_int r2_eq)) (fun hb3 H4 x4 => ?_) fun hb3 H4 x4 => ?_
  · have x24 := (x2.trans x3).trans x4
    have st4 := st1.ex x24
    have kp4 := kp1.trans (.ex x24)
    have hv4 := hv1.ex x24
    have hl : 0 < r0.length := List.length_pos_iff.mpr hne
    refine q_asgP ?_
    refine (ed_op (ed_var (v := v0) rfl hv4) (ed_neg ed_int) (r2_ixT (last_at hne)) : ED _ _ H4 (Datum.toD (r0.getLast hne))) H4 (Evl.Ex.refl H4) _ fun vl H5 x5 hvl => ?_
    have st5 := st4.ex x5
    refine ⟨.ref a, rfl, a, c, l, n + 1, rfl, st5, by omega, fun vn H6 nd m hm st6 kp6 hvn lawn => ?_⟩
    have hvl6 := hvl.tk (kp6.tk st5)
    have hv6 := (hv4.ex x5).tk (kp6.tk st5)
    have lastm : r0.getLast hne ∈ r0 := List.getLast_mem hne
    have ll := law.need _ lastm
    have hlj : (r0.getLast hne).items.length ≤ 100 ∧ nd.items.length ≤ 100 := ⟨Nat.le_trans ll.len (by decide), Nat.le_trans lawn.len (by decide)⟩
    refine ⟨(⟨(r0.getLast hne, nd), hlj⟩ : { p : Nd × Nd // p.1.items.length ≤ 100 ∧ p.2.items.length ≤ 100 }), .cons hvl6 (.cons hvn .nil), fun vj H7 x7 hvj => ?_⟩
    have lawj : LawN 6 (⟨canon ltP ((r0.getLast hne).items ++ nd.items)⟩ : Nd) := canon_law (fun e => ll.ne (List.append_eq_nil_iff.mp e).1) (by rw [List.length_append]; have := ll.len; have := lawn.len; omega) fun p hp => by
      rcases List.mem_append.mp hp with z | z
      · exact ll.box p z
      · exact lawn.box p z
    have hdl : ∀ m ∈ r0.dropLast, m ∈ r0 := fun m hm => (List.dropLast_sublist r0).subset hm
    have lawx : ∀ q ∈ r0.dropLast ++ [(⟨canon ltP ((r0.getLast hne).items ++ nd.items)⟩ : Nd)], LawN 6 q := fun q hq => by
      rcases List.mem_append.mp hq with z | z
      · exact (law.need q (hdl q z)).mono (by decide)
      · rw [List.mem_singleton.mp z]; exact lawj
    have lenx : (r0.dropLast ++ [(⟨canon ltP ((r0.getLast hne).items ++ nd.items)⟩ : Nd)]).length ≤ 3 := by
      rw [List.length_append, List.length_dropLast]
      show r0.length - 1 + 1 ≤ 3
      omega
    refine e_least (ns := r0.dropLast ++ [(⟨canon ltP ((r0.getLast hne).items ++ nd.items)⟩ : Nd)]) ?_ ⟨by omega, fun q hq => Nat.le_trans (lawx q hq).len (by decide)⟩ (fun q hq => (lawx q hq).ne) fun v' H' x' hv' => ?_
    · rw [List.map_append]
      refine el_cat (el_listOf (K := K) (ed_is (ed_slT (K := K) (ed_var (i := 1) (v := v0) rfl (hv6.ex x7)) eo_none (eo_some (ed_neg ed_int))) (by rw [cutLast, ← List.map_dropLast]))) (el_lst (ea_cons (ed_var (i := 3) (v := vj) rfl hvj) ea_nil) (by show 1 ≤ sizeLine; decide)) ?_
      rw [List.length_map, List.length_dropLast]
      show r0.length - 1 + 1 ≤ 60000
      omega
    refine k v' H' _ (1 + m) (by omega) ?_ (((kp4.trans (.ex x5)).trans kp6).trans (.ex (x7.trans x'))) hv' ((least_law (by simp) lenx (by decide) (by decide) lawx).mono (by decide) (by decide))
    rw [← Nat.add_assoc]
    exact (st6.ex x7).ex x'
  refine q_if (b := decide (r = 3)) (et_test (ed_op (ed_var (v := .int r) rfl hp) ed_int r2_eq)) (fun hb4 H5 x5 => ?_) fun hb4 H5 x5 => ?_
  · have x25 := ((x2.trans x3).trans x4).trans x5
    have st5 := st1.ex x25
    have kp5 := kp1.trans (.ex x25)
    have hv5 := hv1.ex x25
    refine e_leastNeed (i := 0) (r0 := r0) (el_listOf (K := K) (ds := r0.map Datum.toD) (ed_var (i := 1) (v := v0) rfl hv5)) rfl st5 (by omega) (by omega) law.need fun v' H' nd m hm st' kp' hv' lawn => ?_
    have lawx : ∀ q ∈ r0 ++ [nd], LawN 3 q := fun q hq => by
      rcases List.mem_append.mp hq with z | z
      · exact law.need q z
      · rw [List.mem_singleton.mp z]; exact lawn
    have lenx : (r0 ++ [nd]).length ≤ 4 := by
      rw [List.length_append]
      show r0.length + 1 ≤ 4
      omega
    exact k v' H' _ (1 + m) (by omega) (by rw [← Nat.add_assoc]; exact st') (kp5.trans kp') hv' ((least_law (by simp) lenx (by decide) (by decide) lawx).mono (by decide) (by decide))
  · have x25 := ((x2.trans x3).trans x4).trans x5
    refine ⟨.ref a, rfl, a, c, l, n + 1, rfl, st1.ex x25, by omega, fun v' H' r m hm st' kp' hv' law' => ?_⟩
    refine k v' H' r (1 + m) (by omega) (by rw [← Nat.add_assoc]; exact st') ((kp1.trans (.ex x25)).trans kp') hv' (law'.mono (by decide) (by decide))

/-! ### _law_begin -/
theorem sc34 : FnScope ["_law_script", "_law_cells_so", "_law_cell"] ["_law_script"] (defScope (topS 34)) := ⟨rfl, rfl, rfl, by decide +kernel, rfl, by decide +kernel, by decide +kernel⟩
def spBegin (K : PySem.W.Frag) : Sp := fun vs H Q _ => ∃ (a : Addr) (ns : List Int), vs = [.ref a] ∧ SqL K H a (ns.map V.int) ∧ ns.length ≤ 63 ∧ ∀ d c l H', Ex H H' → StOk d c l H' 0 → Q (.ref d) H'
theorem dp_ints {H : Hp} : ∀ ns : List Int, DpAll K H (ns.map V.int) (ns.map PyData.int)
  | [] => .nil
  | n :: ns => .cons (.int n) (dp_ints ns)
theorem td_ints {H : Hp} : ∀ ns : List Int, TdAll H (ns.map V.int) (ns.map PyData.int)
  | [] => .nil
  | n :: ns => .cons (.int n) (td_ints ns)
theorem ints_td {H : Hp} : ∀ {xs : List V} {ns : List Int}, TdAll H xs (ns.map PyData.int) → xs = ns.map V.int
  | xs, [], h => by cases h; rfl
  | xs, n :: ns, h => by
    cases h with
    | cons h1 h2 => rw [h1.toI, ints_td h2] <;> rfl
theorem merge_st (c l : Addr) : mergeK [] (kvSt c l 0) = kvSt c l 0 := by
  have e1 : putK ([] : List (Key × V)) kCe (.ref c) = [(kCe, .ref c)] := rfl
  have e2 : putK [(kCe, V.ref c)] kLe (.ref l) = [(kCe, .ref c), (kLe, .ref l)] := by
    unfold putK
    rw [if_neg (by
      rw [List.any_cons, List.any_nil, Bool.or_false]
      exact fun z => ns1 (of_decide_eq_true z))] <;> rfl
  have e3 : putK [(kCe, V.ref c), (kLe, V.ref l)] kAt (.int ((0 : Nat) : Int)) = [(kCe, .ref c), (kLe, .ref l), (kAt, .int ((0 : Nat) : Int))] := by
    unfold putK
    rw [if_neg (by
      rw [List.any_cons, List.any_cons, List.any_nil, Bool.or_false, Bool.or_eq_true]
      rintro (z | z)
      · exact ns2 (of_decide_eq_true z)
      · exact ns3 (of_decide_eq_true z))] <;> rfl
  show putK (putK (putK [] kCe (.ref c)) kLe (.ref l)) kAt (.int ((0 : Nat) : Int)) = _
  rw [e1, e2, e3]
theorem e_dispSt {i : Nat} {c : Addr} {Q : VK} (hi : σ[i]? = some (some (.ref c))) (h : ∀ p, H p = none → te σ (upd H p (.dK [])) fun y H3 => H3 p = some (.dK []) ∧ ∃ kvs : List (Key × V), [(V.str "cells", V.ref c), (V.str "lefts", y), (V.str "at", V.int 0)] = kvs.map (fun kv => (kV kv.1, kv.2)) ∧ kvs.length ≤ 15 ∧ Q (.ref p) (upd H3 p (.dK (mergeK [] kvs)))) :
    tDisp [(tC (.str "cells"), tVar i), (tC (.str "lefts"), te), (tC (.str "at"), tC (.int 0))] σ H Q := fun p hp => ⟨.ref c, hi, h p hp⟩
theorem c__law_begin (D : Dn K mg "_law_begin" (topS 34) ["_law_script"]) (B : Bt mg) : Cal P w K mg base CX0 1 "_law_begin" ["_law_script"] (spBegin K) := D.cal fun f fd F => by
  refine F.ok sc34 (fun vs H Q E h => by obtain ⟨a, ns, rfl, _⟩ := h; rfl) fun cdv A outer s H vs Q E hr h => ?_
  obtain ⟨a, ns, rfl, hs, hlen, k⟩ := h
  refine ⟨_, (pss_cons (ps_set (i := 1) sc34.nd rfl (.inl rfl) (pe_ifExp (pt_cmpR (op_neP' (K := K) rfl hr.units) (pv 0) (pe_lst pa_nil) (nomark _)) (pe_callTy call_list_of (by rfl) B.list (by decide +kernel) (pa_cons (pv 0) pa_nil)) (pe_lst (pa_cons pe_int pa_nil)))) (pss_one (ps_ret (pe_disp (pps_cons pe_str (pv 1) (pps_cons pe_str (pe_lc (own := [("_law_cell", 2)]) (g := (gName 2)) rfl sc34.nd (pi_list (pv 1)) (blkOk_by (N := ["_law_script", "_law_cells_so", "_law_cell"]) (sc := defScope (topS 34)) (by decide +kernel)) (fun _ _ _ _ _ => (pg_name (i := 2) sc34.nd rfl (.inl rfl))) (fun _ _ _ _ _ => pts_nil) (fun _ _ _ _ _ => (pe_ifExp (pt_cmpR op_ge (pv 2) (pe_op op_pow pe_int pe_int) (nomark _)) (pv 2) pe_int))) (pps_cons pe_str pe_int pps_nil))) (by rfl) (by rfl) (fun z => by cases z) (by decide))))), ?_⟩
  -- the cells
  have go : ∀ (c : Addr) (cs : List Int) (H1 : Hp), Ex H H1 → H1 c = some (.lst (cs.map V.int)) → cs ≠ [] → cs.length ≤ 63 → tDisp [(tC (.str "cells"), tVar 1), (tC (.str "lefts"), tLc (iList K (tVar 1)) (gName 2) tYes (tIf (tTest (tOp (rI0 fun i j => V.bl (decide (j ≤ i))) (tVar 2) (tOp (rI CPow fun i j => V.int (i ^ j.toNat)) (tC (V.int 10)) (tC (V.int 18))))) (tVar 2) (tC (V.int 0))) [2]), (tC (.str "at"), tC (.int 0))] (([some (.ref a), none, none] : L2.St).set 1 (some (.ref c))) H1 Q := fun c cs H1 x1 hc hne hl => by
    refine e_dispSt rfl fun p hp => ?_
    have xp : Ex H1 (upd H1 p (.dK [])) := Evl.Ex.new hp
    refine el_lcLG (ws := cs) (b := fun _ => true) (f := fun z => PyData.int (if z ≥ 1000000000000000000 then z else 0)) PyData.int (fun H1 x Q h => ⟨.ref c, rfl, h H1 (Evl.Ex.refl H1)⟩) (xp _ _ hc) (td_ints cs) (sz_small (by omega)) (fun _ => rfl) (fun _ _ _ _ _ _ => et_yes) (fun z v H3 _ _ x3 hv => ?_) _ (Evl.Ex.refl _) _ fun l ys H3 hl0 x3 hl3 hT3 => ?_
    · refine ed_is (ed_if (b := decide (1000000000000000000 ≤ z)) (d := .int (if z ≥ 1000000000000000000 then z else 0)) (et_test (ed_op (ed_var (v := v) rfl hv) (ed_op ed_int ed_int (r2_I ⟨by decide, by decide, by decide⟩)) r2_B0)) (fun h1 => ?_) fun h1 => ?_) rfl
      · have h2 : z ≥ 1000000000000000000 := of_decide_eq_true h1
        rw [if_pos h2]
        exact ed_var (v := v) rfl hv
      · have h2 : ¬ z ≥ 1000000000000000000 := of_decide_eq_false h1
        rw [if_neg h2]
        exact ed_int
    · rw [filter_all] at hT3
      have e : cs.map (fun z => PyData.int (if z ≥ 1000000000000000000 then z else 0)) = (cs.map fun z => if z ≥ 1000000000000000000 then z else 0).map PyData.int := by rw [List.map_map] <;> rfl
      rw [e] at hT3
      have ey := ints_td hT3
      subst ey
      have hp3 : H3 p = some (.dK []) := x3 _ _ upd_same
      have hcl : c ≠ l := fun e => by
        rw [← e, xp _ _ hc] at hl0
        cases hl0
      have hpc : p ≠ c := fun e => by rw [e, hc] at hp; cases hp
      have hpl : p ≠ l := fun e => by rw [← e, upd_same] at hl0; cases hl0
      refine ⟨hp3, kvSt c l 0, rfl, by show 3 ≤ 15; decide, ?_⟩
      rw [merge_st]
      refine k p c l _ (Evl.Ex.mut ((x1.trans xp).trans x3) (Evl.fresh_back x1 hp)) ⟨upd_same, ⟨cs, by rw [upd_ne (Ne.symm hpc)]; exact x3 _ _ (xp _ _ hc), hne, hl, _, by rw [upd_ne (Ne.symm hpl)]; exact hl3, by rw [List.length_map]⟩, hcl⟩
  -- script != []
  refine ⟨.ref a, rfl, by show (0 : Nat) ≤ _; exact Nat.zero_le _, fun q hq => ?_⟩
  have xq : Ex H (upd H q (.lst [])) := Evl.Ex.new hq
  have hs1 : SqL K (upd H q (.lst [])) a (ns.map V.int) := Evl.ex_l xq hs
  refine ⟨.list (ns.map PyData.int), .list [], .lst hs1 (dp_ints ns), .lst (.inl (.inl upd_same)) .nil, ?_, rfl, _, rfl, ?_⟩
  · simp only [PyData.plain]
    exact PySem.W.plainAll_map (α := Int) ns
  · rw [eqv_nil]
    cases ns with
    | nil =>
      refine iteF ?_
      refine ⟨by show 1 ≤ sizeLine; decide, fun c hc => ?_⟩
      exact go c [0] _ (xq.trans (Evl.Ex.new hc)) upd_same (by simp) (by decide)
    | cons z zs =>
      refine iteT ?_
      refine ⟨.ref a, rfl, a, (z :: zs).map V.int, rfl, .inl hs1, fun c hc => ?_⟩
      exact go c (z :: zs) _ (xq.trans (Evl.Ex.new hc)) upd_same (by simp) hlen
end
end Isl
end
section
set_option Elab.async false
set_option linter.all false
set_option maxRecDepth 100000
set_option maxHeartbeats 4000000
/-! defs that show data: nothing is being shown around them -/
namespace Isl
open PySem PySem.Spec PyProof.Rows L2
open Evl (Ex EvT)
open PySem.W (dataLt Datum DatumOrd)
structure FnG (P : Program) (w : World) (K : PySem.W.Frag) (mg : Str → Option Value) (base : Heap) (k : Nat) (f : Addr) (fd : FuncData) (ps : List Str) (sp : Sp) : Prop where
  cnt : ∀ vs H Q E, sp vs H Q E → vs.length = ps.length
  go : ∀ (A : Around) (outer : List Env) (s : Shared) (H : Hp) (args : Args) (us : List Value) (vs : List V) (Q : VK) (E : XK), A.guards = some [] → Room k A → Env0 P w K mg base A outer s H → BindsTo s fd args (ps.zip us) → Vals vs us → sp vs H Q E →
    codeAny (model P w) A (.call (.ref f) args) (CR CX0 outer P w H s Q E) s
section
variable {P : Program} {w : World} {K : PySem.W.Frag} {mg : Str → Option Value} {base : Heap}
theorem FnG.up {j k : Nat} {f : Addr} {fd : FuncData} {ps : List Str} {sp : Sp} (F : FnG P w K mg base j f fd ps sp) (h : j ≤ k) : FnG P w K mg base k f fd ps sp :=
  ⟨F.cnt, fun A outer s H args us vs Q E hg hr => F.go A outer s H args us vs Q E hg (hr.mono h)⟩
/-- the def at f, its code at cdv -/
def FunIs (K : PySem.W.Frag) (x qual : Str) (st : Stmt) (f : Addr) (cdv : Value) : Prop := ∃ (oc : Value) (od : Option Addr) (kV doc pm : Value) (an : Option Addr) (ct : Value) (osl : Array (Option Value)), K.lookup f = some ⟨oc, od, .func (PySem.W.fnOf x qual (defArgs st) (defBody st) (defScope st) .none kV doc pm an cdv ct), osl⟩
theorem okG {x qual : Str} {st : Stmt} {f : Addr} {fd : FuncData} {N ps : List Str} {k : Nat} {sp : Sp} (F : Fun K x qual st f fd) (S : FnScope N ps (defScope st)) (cnt : ∀ vs H Q E, sp vs H Q E → vs.length = ps.length)
    (body : ∀ (cdv : Value) (A : Around) (outer : List Env) (s : Shared) (H : Hp) (vs : List V) (Q : VK) (E : XK), FunIs K x qual st f cdv → A.guards = some [] → Room k (A.deeper (envOfC qual (defScope st) s.heap.objs.size f cdv)) → sp vs H Q E →
      ∃ t, PSs (cxOf CX0 P w K mg base N qual (defScope st) f cdv A outer s H E).nox (defBody st) t ∧ t { nx := fun _ H' => Q .non H', rt := Q } (start N vs) H) : FnG P w K mg base (k + 1) f fd ps sp := by
  obtain ⟨oc, od, kV, doc, pm, an, cdv, ct, osl, rfl, lk, hc⟩ := F.ex
  refine ⟨cnt, fun A outer s H args us vs Q E hg hr e0 hb r hsp => ?_⟩
  refine LamX.run_ofS lk hc S hr e0 hb r (cnt vs H Q E hsp) fun hr' => ?_
  obtain ⟨t, ht, hq⟩ := body cdv A outer s H vs Q E ⟨oc, od, kV, doc, pm, an, ct, osl, lk⟩ hg hr' hsp
  exact ⟨t, ht.nox, hq⟩
/-- what the def x promises there -/
structure CalG (P : Program) (w : World) (K : PySem.W.Frag) (mg : Str → Option Value) (base : Heap) (k : Nat) (x : Str) (ps : List Str) (sp : Sp) : Prop where
  ex : ∃ f fd, FnG P w K mg base k f fd ps sp ∧ mg x = some (.ref f) ∧ PySem.W.keepIn K (.ref f) = true ∧ Binds K fd ps []
theorem Dn.calG {k : Nat} {x : Str} {st : Stmt} {ps : List Str} {sp : Sp} (D : Dn K mg x st ps) (h : ∀ f fd, Fun K x x st f fd → mg x = some (.ref f) → FnG P w K mg base k f fd ps sp) : CalG P w K mg base k x ps sp := by
  obtain ⟨f, fd, F, hm, hb⟩ := D
  exact ⟨f, fd, h f fd F hm, hm, F.kp, hb⟩
end
section
variable {X : Cx} {k : Nat} {ps : List Str} {sp : Sp} {E : XK} {x : Str} {p pos : Pos} {e : Expr} {es : List Expr} {t : TA}
theorem goG {f : Addr} {fd : FuncData} {pins : List (Addr × Obj)} {σ : L2.St} {H : Hp} {s : Shared} {Q : VK} {us : List Value} {vs : List V} (F : FnG X.prog X.w X.K X.mg X.base k f fd ps sp) (hg : X.A.guards = some []) (hr : Room k X.A) (hb : Binds X.K fd ps [])
    (I : Inv X pins σ H s) (r : Vals vs us) (h : sp vs H Q E) : wpAny (model X.prog X.w) X.A (call (.ref f) us) (EP X pins σ Q) X.xe s := by
  have n1 : us.length = ps.length := r.length.symm.trans (F.cnt _ _ _ _ h)
  have bd := hb s us I.kIn (by rw [List.append_nil, n1])
  rw [List.append_nil] at bd
  refine wpAny_call (codeAny_mono (F.go X.A X.stack s H ⟨us, []⟩ us vs Q E hg hr I.env0 bd r h) fun res s2 z => ?_)
  match res, z with
  | .error _, z => exact False.elim z
  | .ok .next, z => exact False.elim z
  | .ok .brk, z => exact False.elim z
  | .ok .cont, z => exact False.elim z
  | .ok (.ret _), z => exact I.after z
theorem pe_calG (C : CalG X.prog X.w X.K X.mg X.base k x ps sp) (hgd : X.A.guards = some []) (hr : Room k X.A) (ha : PA X (e :: es) t) (hg : Gl X x := by rfl) (hdb : (x == ("__debug__" : Str)) = false := by decide)
    (he : starEach (e :: es) X.env = (false, eval e X.env) :: starEach es X.env := by rfl) (hpl : (backTo pos (starEach es X.env)).any (·.1) = false := by rfl) : PE X (.Call (.Name x p) (e :: es) [] pos) (tCall sp [] E t) := by
  obtain ⟨f, fd, F, hm, hk, hb⟩ := C.ex
  constructor
  intro pins s σ H Q I h
  refine wpAny_Call_Name_kw (ld_glob I hg hm ?_ hdb)
  exact PySem.W.callWith_K (h₀ := X.base) I.ok.mod.kin hk (thn (ha.run pos pins s σ H _ I h) fun us s1 ⟨vs, H1, I1, r, q⟩ => ⟨I1.kIn, goG F hgd hr hb I1 r (show sp vs H1 Q E from (List.append_nil vs) ▸ (show sp (vs ++ []) H1 Q E from q))⟩) he hpl
theorem pe_calG0 (C : CalG X.prog X.w X.K X.mg X.base k x ps sp) (hgd : X.A.guards = some []) (hr : Room k X.A) (hg : Gl X x := by rfl) (hdb : (x == ("__debug__" : Str)) = false := by decide) : PE X (.Call (.Name x p) [] [] pos) (tCall sp [] E tNil) := by
  obtain ⟨f, fd, F, hm, hk, hb⟩ := C.ex
  constructor
  intro pins s σ H Q I h
  refine wpAny_Call_Name_kw (ld_glob I hg hm ?_ hdb)
  exact PySem.W.callWith_K0 I.kIn hk (goG (us := []) (vs := []) F hgd hr hb I .nil h)
/-- repr(d) -/
def shwD (d : PyData) : Bool := (match d with | .bool _ => true | .list _ => true | .tuple _ => true | _ => false) && d.showable && !d.hasDict && decide (d.depth ≤ 40)
theorem shwD_p {d : PyData} (h : shwD d = true) : ((∃ b, d = .bool b) ∨ (∃ ds, d = .list ds) ∨ ∃ ds, d = .tuple ds) ∧ d.showable = true ∧ d.hasDict = false ∧ d.depth ≤ 40 := by
  unfold shwD at h
  rw [Bool.and_eq_true, Bool.and_eq_true, Bool.and_eq_true, decide_eq_true_eq, Bool.not_eq_true'] at h
  refine ⟨?_, h.1.1.2, h.1.2, h.2⟩
  have h1 := h.1.1.1
  cases d with
  | bool b => exact .inl ⟨b, rfl⟩
  | list ds => exact .inr (.inl ⟨ds, rfl⟩)
  | tuple ds => exact .inr (.inr ⟨ds, rfl⟩)
  | none => cases h1
  | int _ => cases h1
  | str _ => cases h1
  | dict _ => cases h1
def rRepr (K : PySem.W.Frag) : List V → Hp → VK → Prop := fun xs H Q => ∃ x d, xs = [x] ∧ Dp K H x d ∧ shwD d = true ∧ d.shown.length ≤ sizeLine ∧ Q (.str d.shown) H
theorem cr_repr (hg : X.A.guards = some []) (hu : X.A.units + 64 < cLine) : CallR X (.builtin "repr") (rRepr X.K) := by
  intro pins s σ H vs us Q I r h
  obtain ⟨x, d, rfl, hd, hs, hz, q⟩ := h
  obtain ⟨u, rfl, rx⟩ : ∃ u, us = [u] ∧ RelV x u := by
    cases r with
    | cons r1 r2 => cases r2; exact ⟨_, rfl, r1⟩
  obtain ⟨hk, hsh, hnd, hdp⟩ := shwD_p hs
  obtain ⟨as, hr⟩ := Dp.reads I d x u hd rx
  have ofRef : ∀ {a : Addr}, u = .ref a → wpAny (model X.prog X.w) X.A (call (.builtin "repr") [u]) (EP X pins σ Q) X.xe s := fun {a} e => by
    rw [e] at hr ⊢
    exact repr_of_reads' hr hsh (PyData.noDict_hsm hnd) hg (by omega) (fun _ _ z => z) (fun h' t tk hk => ⟨.str d.shown, H, I.kept hk, ⟨t, rfl⟩, q⟩) hz
  rcases hk with ⟨b, rfl⟩ | ⟨ds, rfl⟩ | ⟨ds, rfl⟩
  · cases hd
    cases rx
    refine P.repr_of_bool ⟨.str (PyData.shown (.bool b)), H, I.kept (t' := s.toks + 1) fun _ _ z => z, ⟨s.toks, ?_⟩, q⟩
    rw [PyData.shown]
  · cases hr with
    | list _ _ _ _ => exact ofRef rfl
  · cases hr with
    | tuple _ _ _ _ => exact ofRef rfl
end
section
variable {P : Program} {w : World} {K : PySem.W.Frag} {mg : Str → Option Value} {base : Heap} {ta tb te : TE} {σ : L2.St} {H : Hp} {D : Ends} {tv : TS} {d e : PyData} {ds es : List PyData} {ts : TA} {E : XK}
/-! ### _law_like -/
theorem sc43 : FnScope ["_law_got", "_law_due"] ["_law_got", "_law_due"] (defScope (topS 43)) := ⟨rfl, rfl, rfl, by decide +kernel, rfl, by decide +kernel, by decide +kernel⟩
def ShwD (d : PyData) : Prop := shwD d = true ∧ d.shown.length ≤ sizeLine
def spLike (K : PySem.W.Frag) : Sp := fun vs H Q _ => ∃ x y d, vs = [x, y] ∧ Dp K H x d ∧ Dp K H y d ∧ ShwD d ∧ Q (.bl true) H
theorem c__law_like (D : Dn K mg "_law_like" (topS 43) ["_law_got", "_law_due"]) (B : Bt mg) : CalG P w K mg base 1 "_law_like" ["_law_got", "_law_due"] (spLike K) := D.calG fun f fd F hm => by
  refine okG F sc43 (fun vs H Q E h => by obtain ⟨x, y, d, rfl, _⟩ := h; rfl) fun cdv A outer s H vs Q E hl hg hr h => ?_
  obtain ⟨x, y, d, rfl, hx, hy, ⟨h1, h2⟩, q⟩ := h
  refine ⟨_, (pss_one (ps_ret (pe_cmpR op_eq (pe_callB (cr_repr hg hr.units) (by rfl) B.repr (by decide +kernel) (pa_cons (pv 0) pa_nil)) (pe_callB (cr_repr hg hr.units) (by rfl) B.repr (by decide +kernel) (pa_cons (pv 1) pa_nil)) (nomark _)))), ?_⟩
  refine ⟨x, rfl, x, d, rfl, hx, h1, h2, y, rfl, y, d, rfl, hy, h1, h2, rfl, ?_⟩
  rw [decide_eq_true rfl]
  exact q
end
end Isl
end
section
set_option Elab.async false
set_option linter.all false
set_option maxRecDepth 100000
set_option maxHeartbeats 4000000
/-! _law_caught -/
namespace Isl
open PySem PySem.Spec PyProof.Rows L2
open Evl (Ex EvT)
theorem takes_len {X : Cx} {W : WX} (tk : Takes X W) : Takes X (fun cls d σ H => σ.length = X.N.length → W cls d σ H) := fun u s' ⟨a, B, sI, pins, σ, H, cls, d, e, I, nb, up, sky, na, os, ag, w⟩ =>
  tk u s' ⟨a, B, sI, pins, σ, H, cls, d, e, I, nb, up, sky, na, os, ag, w I.len⟩
/-- the exception classes of the text -/
structure ClsT (K : PySem.W.Frag) (mg : Str → Option Value) (Br Nr : Addr) : Prop where
  ex : ∃ Bi Bb Bp Bq Tg Ie : Addr, (mg "BadRule" = some (.ref Br) ∧ mg "BadIsland" = some (.ref Bi) ∧ mg "BadBars" = some (.ref Bb) ∧ mg "BadPlace" = some (.ref Bp) ∧ mg "BadParameter" = some (.ref Bq) ∧ mg "TooGreat" = some (.ref Tg) ∧ mg "NoRow" = some (.ref Nr) ∧ mg "IslandError" = some (.ref Ie)) ∧
    (PySem.W.exmOne K (.ref Br) (.ref Br) = some true ∧ PySem.W.exmOne K (.ref Nr) (.ref Br) = some false ∧ PySem.W.exmOne K (.ref Nr) (.ref Bi) = some false ∧ PySem.W.exmOne K (.ref Nr) (.ref Bb) = some false ∧ PySem.W.exmOne K (.ref Nr) (.ref Bp) = some false ∧
      PySem.W.exmOne K (.ref Nr) (.ref Bq) = some false ∧ PySem.W.exmOne K (.ref Nr) (.ref Tg) = some false ∧ PySem.W.exmOne K (.ref Nr) (.ref Nr) = some true) ∧
    XfC K Br ∧ PySem.W.findIn K (.ref Br) "place" = some none ∧ XisC K Br ∧ PySem.W.kitOne K (.ref Br) (.ref Bi) = some false
def FinL (xs : List V) (H : Hp) (Q : VK) : Prop := ∀ p, H p = none → Q (.ref p) (upd H p (.lst xs))
def EBN (Br Nr : Addr) (Q : VK) : XK := fun cls d H => (cls = .ref Nr ∧ FinL [.str "NoRow"] H Q) ∨ (cls = .ref Br ∧ ∃ dd fs v, d = some dd ∧ H dd = some (.xd fs) ∧ fs.lookup ("place" : Str) = some v ∧ FinL [.str "BadRule", v, .bl false] H Q)
/-- told: what _law_caught makes of what it calls -/
def FinR (xs : List V) (H : Hp) (Q : VK) : Prop := xs.length ≤ sizeLine ∧ ∀ p, H p = none → ∃ x, some (some (V.ref p)) = some (some x) ∧ Q x (upd H p (.lst xs))
theorem FinL.r {xs : List V} {H : Hp} {Q : VK} (h : FinL xs H Q) (hl : xs.length ≤ sizeLine) : FinR xs H Q := ⟨hl, fun p hp => ⟨_, rfl, h p hp⟩⟩
def TTc (Br Nr : Addr) : (XK → Hp → VK → Prop) → Hp → VK → Prop := fun tl H Q => tl (EBN Br Nr Q) H fun v H' => FinR [.str "told", v] H' Q
theorem sc46 : FnScope ["_law_call", "_law_found", "error"] ["_law_call"] (defScope (topS 46)) := ⟨rfl, rfl, rfl, by decide +kernel, rfl, by decide +kernel, by decide +kernel⟩
abbrev nevS : Addr → Value → Option Addr → TS := fun _ _ _ _ _ _ => False
theorem set_len {σ : L2.St} {i : Nat} {v : Option V} : (σ.set i v).length = σ.length := List.length_set
theorem three {σ : L2.St} (h : σ.length = 3) : ∃ x y z, σ = [x, y, z] := by
  match σ, h with
  | [x, y, z], _ => exact ⟨x, y, z, rfl⟩
theorem caught_gives {X : Cx} {Br Nr g : Addr} {cdg : Value} {q : Str} (T : ClsT X.K X.mg Br Nr) (B : Bt X.mg) :
    LamX.GivesTo X ["_law_call", "_law_found", "error"] "_law_caught" (defScope (topS 46)) g cdg (defBody (topS 46)) "_law_call" q (TTc Br Nr) := by
  intro f c' s H Q tl act hc h
  obtain ⟨Bi, Bb, Bp, Bq, Tg, Ie, ⟨m1, m2, m3, m4, m5, m6, m7, m8⟩, ⟨e0, e1, e2, e3, e4, e5, e6, e7⟩, xf, hno, xis, hk⟩ := T.ex
  refine ⟨_, (pss_cons (ps_set (i := 1) sc46.nd rfl (.inl rfl) pe_non) (pss_cons (ps_try_mix
      (tb := fun W D σ H => ∃ Ech : XK, (∀ cls d σ' H', σ'.length = 3 → Ech cls d H' → W cls d σ' H') ∧ tAsg (tLst (tCons (tC (.str "told")) (tCons (fun σZ HZ Q => σZ[0]? = some (some (.ref f)) ∧ HZ c' = some (LamX.CodeO c' q) ∧ tl Ech HZ Q) tNil))) (gName 1) D σ H)
      rfl rfl LamX.takes0 (fun W pn xe tk _ => ⟨fun pins s' σ H' D I h' => ?_⟩)
      (MixOk.named (c := .ref Br) (i := 2) ⟨rfl, by decide, .inl m1⟩ sc46.nd rfl rfl (fun a oe cls d pn hz hf => pss_one (ps_set (i := 1) sc46.nd rfl (.inl rfl) (pe_lst (pa_cons pe_str (pa_cons (pe_xf (n := "place") xf hno hz hf (pv 2)) (pa_cons (pe_callB (call_isX xis hz hf) (by rfl) B.isinstance (by decide +kernel) (pa_cons (pv 2) (pa_cons (pe_glob (v := V.ref Bi) (by rfl) m2 rfl) pa_nil))) pa_nil))))))
      (MixOk.named (c := .ref Bi) (i := 2) (ts := nevS) ⟨rfl, by decide, .inl m2⟩ sc46.nd rfl rfl (fun a oe cls d pn hz hf => pss_one ps_never)
      (MixOk.named (c := .ref Bb) (i := 2) (ts := nevS) ⟨rfl, by decide, .inl m3⟩ sc46.nd rfl rfl (fun a oe cls d pn hz hf => pss_one ps_never)
      (MixOk.named (c := .ref Bp) (i := 2) (ts := nevS) ⟨rfl, by decide, .inl m4⟩ sc46.nd rfl rfl (fun a oe cls d pn hz hf => pss_one ps_never)
      (MixOk.named (c := .ref Bq) (i := 2) (ts := nevS) ⟨rfl, by decide, .inl m5⟩ sc46.nd rfl rfl (fun a oe cls d pn hz hf => pss_one ps_never)
      (MixOk.named (c := .ref Tg) (i := 2) (ts := nevS) ⟨rfl, by decide, .inl m6⟩ sc46.nd rfl rfl (fun a oe cls d pn hz hf => pss_one ps_never)
      (MixOk.bare (c := .ref Nr) ⟨rfl, by decide, .inl m7⟩ (fun a oe cls d pn hz hf => pss_one (ps_set (i := 1) sc46.nd rfl (.inl rfl) (pe_lst (pa_cons pe_str pa_nil))))
      (MixOk.bare (c := .ref Ie) (ts := nevS) ⟨rfl, by decide, .inl m8⟩ (fun a oe cls d pn hz hf => pss_one ps_never) MixOk.nil))))))))) (pss_one (ps_ret (pv 1))))), ?_⟩
  · obtain ⟨Ech, hW, h1⟩ := h'
    have hp := act _ pn xe Ech ⟨192, 30, 192, 39⟩ ⟨192, 30, 192, 41⟩ (takes_len tk) (fun cls d σ' H' hE hl => hW cls d σ' H' hl hE)
    exact (pss_one (ps_set (i := 1) sc46.nd rfl (.inl rfl) (pe_lst (pa_cons pe_str (pa_cons hp pa_nil))))).run pins s' σ H' D I h1
  · refine ⟨EBN Br Nr Q, fun cls d σ' H' hl hE => ?_, ?_⟩
    · obtain ⟨x, y, z, rfl⟩ := three hl
      rcases hE with ⟨rfl, hq⟩ | ⟨rfl, dd, fs, v, rfl, hdd, hfs, hq⟩
      · refine ⟨false, e1, nofun, fun _ => ⟨false, e2, nofun, fun _ => ⟨false, e3, nofun, fun _ => ⟨false, e4, nofun, fun _ => ⟨false, e5, nofun, fun _ => ⟨false, e6, nofun, fun _ => ⟨true, e7, fun _ a ha => ?_, nofun⟩⟩⟩⟩⟩⟩⟩
        exact ⟨by show 1 ≤ sizeLine; decide, fun p hp => ⟨.ref p, rfl, hq p hp⟩⟩
      · refine ⟨true, e0, fun _ a ha => ?_, nofun⟩
        refine ⟨.ref a, rfl, rfl, rfl, dd, fs, v, rfl, hdd, hfs, .ref a, rfl, .ref Bi, .ref Bi, false, dd, fs, rfl, rfl, rfl, hdd, fun u hu => hu, hk, by show 3 ≤ sizeLine; decide, fun p hp => ⟨.ref p, rfl, hq p hp⟩⟩
    · refine ⟨rfl, hc, ?_⟩
      exact h
end Isl
end
section
set_option Elab.async false
set_option linter.all false
set_option maxRecDepth 100000
set_option maxHeartbeats 4000000
/-! the plain law: two rules compared at rows -/
namespace Isl
open PySem PySem.Spec PyProof.Rows
open PySem.W (dataLt Datum DatumOrd)
section
variable {α : Type} [DecidableEq α] {lt : α → α → Bool}
theorem rises_adj (S : SO lt) : ∀ {xs : List α}, (∀ (i : Nat) (a b : α), xs[i]? = some a → xs[i + 1]? = some b → lt a b = true) → Rises lt xs
  | [], _ => List.Pairwise.nil
  | [x], _ => List.pairwise_singleton _ _
  | x :: y :: xs, h => by
    have ih : Rises lt (y :: xs) := rises_adj S fun i a b h1 h2 => h (i + 1) a b (by simpa using h1) (by simpa using h2)
    have hxy : lt x y = true := h 0 x y rfl rfl
    refine List.pairwise_cons.mpr ⟨fun z hz => ?_, ih⟩
    rcases List.mem_cons.mp hz with e | e
    · rw [e]; exact hxy
    · exact S.tr _ _ _ hxy ((List.pairwise_cons.mp ih).1 z e)
theorem rises_sub (S : SO lt) : ∀ {ys xs : List α}, Rises lt xs → Rises lt ys → (∀ z ∈ xs, z ∈ ys) → xs.Sublist ys
  | [], [], _, _, _ => .slnil
  | [], x :: xs, _, _, h => by have := h x List.mem_cons_self; cases this
  | y :: ys, [], _, _, _ => List.nil_sublist _
  | y :: ys, x :: xs, hx, hy, h => by
    obtain ⟨x1, x2⟩ := List.pairwise_cons.mp hx
    obtain ⟨y1, y2⟩ := List.pairwise_cons.mp hy
    rcases List.mem_cons.mp (h x List.mem_cons_self) with e | e
    · rw [e]
      refine (rises_sub S x2 y2 fun z hz => ?_).cons₂ y
      rcases List.mem_cons.mp (h z (List.mem_cons_of_mem _ hz)) with e2 | e2
      · have := x1 z hz
        rw [e2, e, S.irr] at this
        cases this
      · exact e2
    · refine (rises_sub S hx y2 fun z hz => ?_).cons y
      rcases List.mem_cons.mp (h z hz) with e2 | e2
      · exfalso
        have h3 : lt y x = true := y1 x e
        rcases List.mem_cons.mp hz with e4 | e4
        · rw [e2] at e4
          rw [e4, S.irr] at h3
          cases h3
        · have h4 : lt x y = true := by rw [← e2]; exact x1 z e4
          rw [S.asym h3] at h4
          cases h4
      · exact e2
end
theorem mem_fold {row : List Pl} : ∀ (qs : List Pl) (acc : List (List Pl)), row ∈ qs.foldl subStep acc ↔ ∃ a ∈ acc, ∃ b : List Pl, b.Sublist qs ∧ row = a ++ b
  | [], acc => by
    constructor
    · intro h
      exact ⟨row, h, [], .slnil, by simp⟩
    · rintro ⟨a, ha, b, hb, rfl⟩
      rw [List.sublist_nil.mp hb, List.append_nil]
      exact ha
  | q :: qs, acc => by
    rw [List.foldl_cons, mem_fold qs]
    unfold subStep
    constructor
    · rintro ⟨a, ha, b, hb, rfl⟩
      rcases List.mem_append.mp ha with h | h
      · exact ⟨a, h, b, hb.cons q, rfl⟩
      · obtain ⟨a', ha', rfl⟩ := List.mem_map.mp h
        exact ⟨a', ha', q :: b, hb.cons₂ q, by simp⟩
    · rintro ⟨a, ha, b, hb, rfl⟩
      cases hb with
      | cons _ hb => exact ⟨a, List.mem_append_left _ ha, b, hb, rfl⟩
      | cons_cons _ hb => exact ⟨a ++ [q], List.mem_append_right _ (List.mem_map.mpr ⟨a, ha, rfl⟩), _, hb, by simp⟩
theorem mem_subs {row ps : List Pl} : row ∈ subsR ps ↔ row.Sublist ps := by
  unfold subsR
  rw [mem_fold]
  constructor
  · rintro ⟨a, ha, b, hb, rfl⟩
    rw [List.mem_singleton.mp ha]
    exact hb
  · intro h
    exact ⟨[], List.mem_singleton.mpr rfl, row, h, rfl⟩
def boxL : List Pl := [(-1, -1), (-1, 0), (-1, 1), (0, -1), (0, 0), (0, 1), (1, -1), (1, 0), (1, 1)]
theorem box_rises : Rises ltP boxL := by
  unfold Rises
  decide +kernel
theorem box_mem {p : Pl} (h : inBox p) : p ∈ boxL := by
  obtain ⟨a, b⟩ := p
  obtain ⟨h1, h2, h3, h4⟩ := h
  have ha : a = -1 ∨ a = 0 ∨ a = 1 := by
    have h1 : -1 ≤ a := h1
    have h2 : a ≤ 1 := h2
    omega
  have hb : b = -1 ∨ b = 0 ∨ b = 1 := by
    have h3 : -1 ≤ b := h3
    have h4 : b ≤ 1 := h4
    omega
  rcases ha with rfl | rfl | rfl <;> rcases hb with rfl | rfl | rfl <;> decide
theorem box_sub {ps : List Pl} (h : Rises ltP ps) (hb : ∀ p ∈ ps, inBox p) : ps.Sublist boxL := rises_sub soP h box_rises fun z hz => box_mem (hb z hz)
theorem box_len {ps : List Pl} (h : Rises ltP ps) (hb : ∀ p ∈ ps, inBox p) : ps.length ≤ 9 := (box_sub h hb).length_le
/-- what is told of a row within the box may be shown -/
def tellD (d : PyData) : PyData := .list [.str "told", d]
def boxP (p : Pl) : Bool := ((Datum.toD p : PyData).leavesShort 20 && (Datum.toD p : PyData).showable) && decide ((Datum.toD p : PyData).weight ≤ 19)
theorem box_ok : boxL.all boxP = true := by decide +kernel
theorem shw_pls : ∀ {ps : List Pl}, (∀ p ∈ ps, boxP p = true) → PyData.leavesShortAll 20 (ps.map Datum.toD) = true ∧ PyData.showableAll (ps.map Datum.toD) = true ∧ PyData.hasDictAll (ps.map Datum.toD) = false ∧ PyData.weightAll (ps.map Datum.toD) ≤ 20 * ps.length
  | [], _ => ⟨rfl, rfl, rfl, Nat.le_refl _⟩
  | p :: ps, h => by
    obtain ⟨h1, h2, h3, h4⟩ := shw_pls (ps := ps) fun q hq => h q (List.mem_cons_of_mem _ hq)
    have hp := h p List.mem_cons_self
    unfold boxP at hp
    rw [Bool.and_eq_true, Bool.and_eq_true, decide_eq_true_eq] at hp
    have hw := hp.2
    have hd : (Datum.toD p : PyData).hasDict = false := by
      show PyData.hasDict (.tuple [.int p.1, .int p.2]) = false
      simp [PyData.hasDict, PyData.hasDictAll]
    rw [List.map_cons, PyData.leavesShortAll, PyData.showableAll, PyData.hasDictAll, PyData.weightAll, h1, h2, h3, hp.1.1, hp.1.2, hd]
    refine ⟨rfl, rfl, rfl, ?_⟩
    rw [List.length_cons]
    omega
theorem tell_ok {n : Nd} {k : Nat} (h : LawN k n) : ShwD (tellD (Datum.toD n)) := by
  have hl : n.items.length ≤ 9 := box_len h.ri h.box
  obtain ⟨h1, h2, h3, h4⟩ := shw_pls (ps := n.items) fun p hp => List.all_eq_true.mp box_ok p (box_mem (h.box p hp))
  have e : (Datum.toD n : PyData) = .tuple (n.items.map Datum.toD) := rfl
  have hd := Datum.depth_le n
  constructor
  · have hdp : (tellD (Datum.toD n)).depth ≤ 40 := by
      unfold tellD
      simp only [PyData.depth, PyData.depthAll]
      have h9 : Datum.depth Nd ≤ 5 := by decide
      omega
    have hsh : (tellD (Datum.toD n)).showable = true := by
      rw [e]
      unfold tellD
      simp only [PyData.showable, PyData.showableAll, h2, Bool.and_self]
    have hhd : (tellD (Datum.toD n)).hasDict = false := by
      rw [e]
      unfold tellD
      simp only [PyData.hasDict, PyData.hasDictAll, h3, Bool.or_self]
    unfold shwD
    rw [hsh, hhd, decide_eq_true hdp] <;> rfl
  · have hs : (tellD (Datum.toD n)).leavesShort 20 = true := by
      rw [e]
      unfold tellD
      simp only [PyData.leavesShort, PyData.leavesShortAll, h1]
      decide +kernel
    have hw : (tellD (Datum.toD n)).weight ≤ 400 := by
      rw [e]
      unfold tellD
      simp only [PyData.weight, PyData.weightAll]
      have : (Str.ofString "told").cps.size = 4 := by decide +kernel
      omega
    have := PyData.shown_le 20 (by decide) _ hs
    rw [sizeLine_eq]
    omega
/-! ### two rules -/
def lessB (rows : List (List Pl)) (r1 r2 : List Nd) : Bool := rows.all fun row => markedR r2 row || !markedR r1 row
def likeB (rows : List (List Pl)) (r1 r2 : List Nd) : Bool := rows.all fun row => decide (markedR r1 row = markedR r2 row)
theorem marked_iff {r : List Nd} {row : List Pl} : markedR r row = true ↔ ∃ n ∈ r, ∀ p ∈ n.items, p ∈ row := by
  unfold markedR
  rw [List.any_eq_true]
  refine exists_congr fun n => and_congr_right fun _ => ?_
  rw [List.all_eq_true]
  exact ⟨fun h p hp => memB_iff.mp (h p hp), fun h p hp => memB_iff.mpr (h p hp)⟩
theorem lesser_iff {r1 r2 : List Nd} : lesserR r1 r2 = true ↔ ∀ n ∈ r1, ∃ o ∈ r2, ∀ p ∈ o.items, p ∈ n.items := by
  unfold lesserR holdsOne
  rw [List.all_eq_true]
  refine forall_congr' fun n => forall_congr' fun _ => ?_
  rw [List.any_eq_true]
  exact exists_congr fun o => and_congr_right fun _ => hasAll_iff
theorem less_eq {rows : List (List Pl)} {r1 r2 : List Nd} (h : ∀ n ∈ r1, n.items ∈ rows) : lessB rows r1 r2 = lesserR r1 r2 := by
  rw [Bool.eq_iff_iff, lesser_iff]
  unfold lessB
  rw [List.all_eq_true]
  constructor
  · intro a n hn
    have h1 := a _ (h n hn)
    have h2 : markedR r1 n.items = true := marked_iff.mpr ⟨n, hn, fun _ z => z⟩
    rw [h2, Bool.not_true, Bool.or_false] at h1
    exact marked_iff.mp h1
  · intro a row _
    cases q : markedR r1 row with
    | false => simp
    | true =>
      obtain ⟨n, hn, hp⟩ := marked_iff.mp q
      obtain ⟨o, ho, hq⟩ := a n hn
      have : markedR r2 row = true := marked_iff.mpr ⟨o, ho, fun p z => hp p (hq p z)⟩
      rw [this] <;> rfl
theorem lesser_mem {a b : Nat} {r1 r2 : List Nd} (l1 : LawR a b r1) (l2 : LawR a b r2) (h : lesserR r1 r2 = true) (h' : lesserR r2 r1 = true) : ∀ n ∈ r1, n ∈ r2 := fun n hn => by
  obtain ⟨o, ho, h1⟩ := lesser_iff.mp h n hn
  obtain ⟨m, hm, h2⟩ := lesser_iff.mp h' o ho
  have e : m = n := Decidable.byContradiction fun q => by
    have := l1.good.anti n hn m hm q
    rw [hasAll_iff.mpr fun p hp => h1 p (h2 p hp)] at this
    cases this
  subst e
  have e2 : m = o := nd_eq (rises_one soP (l1.need m hn).ri (l2.need o ho).ri fun z => ⟨fun hz => h2 z hz, fun hz => h1 z hz⟩)
  rw [e2]
  exact ho
theorem lesser_both {a b : Nat} {r1 r2 : List Nd} (l1 : LawR a b r1) (l2 : LawR a b r2) : (lesserR r1 r2 = true ∧ lesserR r2 r1 = true) ↔ r1 = r2 := by
  constructor
  · rintro ⟨h, h'⟩
    exact rises_one soN (rises_adj soN l1.good.rise) (rises_adj soN l2.good.rise) fun z => ⟨lesser_mem l1 l2 h h' z, lesser_mem l2 l1 h' h z⟩
  · rintro rfl
    have : lesserR r1 r1 = true := lesser_iff.mpr fun n hn => ⟨n, hn, fun _ z => z⟩
    exact ⟨this, this⟩
theorem lack_nil {a b : Nat} {r1 r2 : List Nd} (l1 : LawR a b r1) (l2 : LawR a b r2) : lackR r1 r2 ++ lackR r2 r1 = [] ↔ r1 = r2 := by
  rw [← lesser_both l1 l2, List.append_eq_nil_iff]
  unfold lackR lesserR
  rw [List.filter_eq_nil_iff, List.filter_eq_nil_iff, List.all_eq_true, List.all_eq_true]
  simp
theorem like_eq {a b : Nat} {rows : List (List Pl)} {r1 r2 : List Nd} (l1 : LawR a b r1) (l2 : LawR a b r2) (h1 : ∀ n ∈ r1, n.items ∈ rows) (h2 : ∀ n ∈ r2, n.items ∈ rows) : likeB rows r1 r2 = decide (r1 = r2) := by
  rw [Bool.eq_iff_iff, decide_eq_true_eq]
  constructor
  · intro h
    unfold likeB at h
    rw [List.all_eq_true] at h
    refine (lesser_both l1 l2).mp ⟨?_, ?_⟩
    · rw [← less_eq h1]
      unfold lessB
      rw [List.all_eq_true]
      intro row hr
      have := of_decide_eq_true (h row hr)
      rw [this]
      cases markedR r2 row <;> rfl
    · rw [← less_eq h2]
      unfold lessB
      rw [List.all_eq_true]
      intro row hr
      have := of_decide_eq_true (h row hr)
      rw [this]
      cases markedR r2 row <;> rfl
  · rintro rfl
    unfold likeB
    rw [List.all_eq_true]
    exact fun _ _ => decide_eq_true rfl
/-- a row within the box, in order -/
structure RowOk (row : List Pl) : Prop where
  ri : Rises ltP row
  box : ∀ p ∈ row, inBox p
theorem RowOk.len {row : List Pl} (h : RowOk row) : row.length ≤ 9 := box_len h.ri h.box
theorem LawN.row {k : Nat} {n : Nd} (h : LawN k n) : RowOk n.items := ⟨h.ri, h.box⟩
theorem RowOk.step {row : List Pl} {a b : Nat} {r : List Nd} (h : RowOk row) (l : LawR a b r) (ha : a ≤ 100) (hb : b ≤ 100) : StepOk r row :=
  ⟨by have h1 := l.len; have h2 := h.len; exact Nat.le_trans (Nat.mul_le_mul (Nat.le_trans h1 ha) h2) (by decide), by have := h.len; omega, fun n hn => (l.need n hn).ne, fun n hn => by have := (l.need n hn).len; omega⟩
theorem RowOk.isl {row : List Pl} (h : RowOk row) : isIslandD (toN row) = true := island_of h.ri h.box (Nat.le_trans h.len (by decide))
def spots (r1 r2 : List Nd) : List Pl := canon ltP (allP (r1 ++ r2))
theorem spots_box {a b : Nat} {r1 r2 : List Nd} (l1 : LawR a b r1) (l2 : LawR a b r2) : RowOk (spots r1 r2) := by
  refine ⟨canon_rises soP _, fun p hp => ?_⟩
  have hp := canon_mem.mp hp
  unfold allP at hp
  obtain ⟨n, hn, hq⟩ := List.mem_flatMap.mp hp
  rcases List.mem_append.mp hn with z | z
  · exact (l1.need n z).box p hq
  · exact (l2.need n z).box p hq
theorem spots_row {a b : Nat} {r1 r2 : List Nd} {row : List Pl} (l1 : LawR a b r1) (l2 : LawR a b r2) (h : row ∈ subsR (spots r1 r2)) : RowOk row := by
  have hs := mem_subs.mp h
  have ok := spots_box l1 l2
  exact ⟨List.Pairwise.sublist hs ok.ri, fun p hp => ok.box p (hs.subset hp)⟩
theorem spots_need {a b : Nat} {r1 r2 : List Nd} (l1 : LawR a b r1) (l2 : LawR a b r2) : ∀ n ∈ r1, n.items ∈ subsR (spots r1 r2) := fun n hn =>
  mem_subs.mpr (rises_sub soP (l1.need n hn).ri (spots_box l1 l2).ri fun p hp => canon_mem.mpr (List.mem_flatMap.mpr ⟨n, List.mem_append_left _ hn, hp⟩))
end Isl
end
section
set_option Elab.async false
set_option linter.all false
set_option maxRecDepth 100000
set_option maxHeartbeats 4000000
/-! lambdas handed to _law_caught; _law_all_sets_right -/
namespace Isl
open PySem PySem.Spec PyProof.Rows L2
open Evl (Ex EvT)
open PySem.W (dataLt Datum DatumOrd)
/-- the code object at c of the def x, its table at P -/
structure LamT (K : PySem.W.Frag) (mg : Str → Option Value) (base : Heap) (x : Str) (st : Stmt) (c P : Addr) : Prop where
  code : ∀ f cdv, mg x = some (.ref f) → FunIs K x x st f cdv → cdv = .ref c
  tab : LamX.TabB base mg c P
def qOf (x : Str) : Str := (x ++ ".<locals>.") ++ "<lambda>"
theorem tabs_kp {T : List (Addr × Str)} {a c l : Addr} {H H' : Hp} {n : Nat} (t : LamX.Tabs T H) (st : StOk a c l H n) (kp : Kp a l H H') : LamX.Tabs T H' := fun p hp => by
  obtain ⟨ps, h1, h2, h3⟩ := t p hp
  obtain ⟨cs, g1, g2, g3, ls, g4, g5⟩ := st.hc
  have n1 : ∀ {b : Addr} {o : HO}, H b = some o → (∀ kvs, o ≠ .dK kvs) → (∀ xs, o ≠ .lst xs) → H' b = some o := fun {b o} h e1 e2 =>
    kp b o (fun e => by rw [e, st.hd] at h; exact e1 _ (Option.some.inj h).symm) (fun e => by rw [e, g4] at h; exact e2 _ (Option.some.inj h).symm) h
  refine ⟨ps, n1 h1 (fun _ => nofun) (fun _ => nofun), h2, fun pos cv hc => ?_⟩
  obtain ⟨c', e1, e2⟩ := h3 pos cv hc
  exact ⟨c', e1, n1 e2 (fun _ => nofun) (fun _ => nofun)⟩
theorem StOk.extN {a c l : Addr} {H H' : Hp} {n : Nat} (s : StOk a c l H n) (x : LamX.ExtN H H') : StOk a c l H' n := by
  obtain ⟨cs, g1, g2, g3, ls, g4, g5⟩ := s.hc
  exact ⟨x _ _ s.hd (fun _ => nofun), ⟨cs, x _ _ g1 (fun _ => nofun), g2, g3, ls, x _ _ g4 (fun _ => nofun), g5⟩, s.ne⟩
theorem tk_extN {H H' : Hp} (x : LamX.ExtN H H') : Tk H H' := fun p xs h => x p _ h (fun _ => nofun)
theorem extN_ex {H H' : Hp} (x : Ex H H') : LamX.ExtN H H' := .of x
/-- _law_caught(lambda: ..) -/
theorem pe_caught {X : Cx} {Br Nr c P : Addr} {T : List (Addr × Str)} {k : Nat} {params : Arguments} {body : Expr} {scope : Scope} {t : XK → TE} {p lpos pos : Pos} {x : Str} {st : Stmt} {f0 : Addr} {cdv : Value}
    (Dc : Dn X.K X.mg "_law_caught" (topS 46) ["_law_call"]) (C : ClsT X.K X.mg Br Nr) (B : Bt X.mg) (L : LamT X.K X.mg X.base x st c P) (hmx : X.mg x = some (.ref f0)) (hFI : FunIs X.K x x st f0 cdv) (hcode : X.env.code = cdv) (hq : X.env.qual ++ "<lambda>" = qOf x)
    (hmT : (P, qOf x) ∈ T) (hu : ∀ p ∈ T, p.1 = P → p.2 = qOf x) (hr : Room (k + 2) X.A) (S : LamX.LamS X.env.scope scope) (hdef : defaultsOf params X.env = ([], []))
    (hbind : ∀ (q : Str) (cl : List (Str × Addr)) (pm cv ctv : Value), bindArgs (PySem.W.kla_fn "<lambda>" q params body scope cl pm cv ctv) ⟨[], []⟩ = pure [])
    (hbody : ∀ (A : Around) (outer : List Env) (s : Shared) (H : Hp) (E : XK) (f c' : Addr), Room k (A.deeper (LamX.lamEnv X scope s.heap.objs.size f c')) → PE (LamX.lamCx X A outer s H E scope f c') body (t E)) (hg : Gl X "_law_caught" := by rfl) :
    PE X (.Call (.Name "_law_caught" p) [.Lambda params body scope lpos] [] pos) (LamX.tLam T (TTc Br Nr) t) := by
  obtain ⟨g, fd, F, hm, hb⟩ := Dc
  obtain ⟨oc, od, kV, doc, pm, an, cdg, ct, osl, rfl, lk, hcg⟩ := F.ex
  have hc : X.env.code = .ref c := hcode.trans (L.code f0 cdv hmx hFI)
  refine LamX.pe_lamcall (a := "_law_call") (Ng := ["_law_call", "_law_found", "error"]) hg hm F.kp lk hcg hb sc46 rfl (.inl rfl) (caught_gives C B) L.tab hc ?_ ?_ hr S hdef hbind hbody
  · rw [hq]; exact hmT
  · rw [hq]; exact hu
end Isl
end
section
set_option Elab.async false
set_option linter.all false
set_option maxRecDepth 100000
set_option maxHeartbeats 4000000
/-! _law_all_sets_right -/
namespace Isl
open PySem PySem.Spec PyProof.Rows L2
open Evl (Ex EvT)
open PySem.W (dataLt Datum DatumOrd)
section
variable {P : Program} {w : World} {K : PySem.W.Frag} {mg : Str → Option Value} {base : Heap} {ta tb te : TE} {σ : L2.St} {H : Hp} {D : Ends} {tv : TS} {d e : PyData} {ds es : List PyData} {ts : TA} {E : XK}
theorem shw_bl (b : Bool) : ShwD (.bool b) := ⟨by cases b <;> rfl, by cases b <;> decide +kernel⟩
theorem ed_like (ha : ED ta σ H d) (hb : ED tb σ H d) (sh : ShwD d) : ED (tCall (spLike K) [] E (tCons ta (tCons tb tNil))) σ H (.bool true) := fun H1 x Q q =>
  ha H1 x _ fun v H2 x2 hv => hb H2 (x.trans x2) _ fun v' H3 x3 hv' => ⟨v, v', d, rfl, (hv.ex x3).dp, hv'.dp, sh, q _ H3 (x2.trans x3) (.bl true)⟩
theorem ed_lesser {C : Addr} {r1 r2 : List Nd} (g1 : GoodR r1) (g2 : GoodR r2) (ha : ED ta σ H (toR r1)) (hb : ED tb σ H (toR r2)) : ED (tCall (spLesser C) [] E (tCons ta (tCons tb tNil))) σ H (.bool (lesserR r1 r2)) := fun H1 x Q q =>
  ha H1 x _ fun v H2 x2 hv => hb H2 (x.trans x2) _ fun v' H3 x3 hv' => ⟨v, v', _, _, rfl, hv.ex x3, hv', .inl ⟨r1, r2, rfl, rfl, g1, g2, fun H4 x4 => q _ H4 ((x2.trans x3).trans x4) (.bl _)⟩⟩
theorem el_subs {ps : List Pl} (h : EL te σ H (ps.map Datum.toD)) (hl : ps.length ≤ 9) : EL (tCall spSubs [] E (tCons te tNil)) σ H ((subsR ps).map toN) := fun H1 x Q q =>
  h H1 x _ fun p xs H2 hp x2 hp2 hT => ⟨p, xs, ps, rfl, hp2, hT, hl, fun p' ys H3 hp' x3 hp3 hT3 => q p' ys H3 (Evl.fresh_back x2 hp') (x2.trans x3) hp3 hT3⟩
theorem el_spots {r1 r2 : List Nd} (l1 : LawR 4 6 r1) (l2 : LawR 4 6 r2) (ha : ED ta σ H (toR r1)) (hb : ED tb σ H (toR r2)) : EL (tCall spSubs [] E (tCons (tCall spPlaces [] E (tCons (tOp (rCatA K) ta tb) tNil)) tNil)) σ H ((subsR (spots r1 r2)).map toN) := by
  have n1 := l1.len
  have n2 := l2.len
  have big : BigR (r1 ++ r2) := big_app (by omega) (fun n hn => Nat.le_trans (l1.need n hn).len (by decide)) (fun n hn => Nat.le_trans (l2.need n hn).len (by decide))
  refine el_subs (ps := spots r1 r2) (el_call (⟨r1 ++ r2, big⟩ : { r : List Nd // BigR r }) (ea_cons (ed_op ha hb (r2_cat ?_)) ea_nil) ?_) (spots_box l1 l2).len
  · rw [List.length_map, List.length_map, sizeLine_eq]
    omega
  · show _ = [PyData.tuple ((r1 ++ r2).map Datum.toD)]
    rw [List.map_append]
theorem ed_marked {r : List Nd} {row : List Pl} (hb : BigR r) (h1 : ED ta σ H (toR r)) (h2 : ED tb σ H (toN row)) : ED (tCall spMarked [] E (tCons ta (tCons tb tNil))) σ H (.bool (markedR r row)) :=
  ed_call (⟨(r, row), hb⟩ : { p : List Nd × List Pl // BigR p.1 }) (ea_cons h1 (ea_cons h2 ea_nil)) rfl
def spAll : Sp := fun vs H Q _ => ∃ v1 v2 r1 r2, vs = [v1, v2] ∧ Td H v1 (toR r1) ∧ Td H v2 (toR r2) ∧ LawR 4 6 r1 ∧ LawR 4 6 r2 ∧ ∀ H', Ex H H' → Q (.bl true) H'
theorem sc50 : FnScope ["_law_one", "_law_other", "_law_rows", "_law_lesser", "_law_row"] ["_law_one", "_law_other"] (defScope (topS 50)) := ⟨rfl, rfl, rfl, by decide +kernel, rfl, by decide +kernel, by decide +kernel⟩
theorem c__law_all_sets_right {C : Addr} (D : Dn K mg "_law_all_sets_right" (topS 50) ["_law_one", "_law_other"]) (B : Bt mg) (c__law_places : Cal P w K mg base CX0 1 "_law_places" ["_law_needs_so"] spPlaces) (c__law_subsets : Cal P w K mg base CX0 1 "_law_subsets" ["_law_things"] spSubs)
    (c__law_marked : Cal P w K mg base CX0 1 "_law_marked" ["_law_needs_so", "_law_marks_so"] spMarked) (c_is_lesser : Cal P w K mg base (L2.CX P w) 6 "is_lesser" ["one", "other"] (spLesser C)) (c__law_like : CalG P w K mg base 1 "_law_like" ["_law_got", "_law_due"] (spLike K)) :
    CalG P w K mg base 7 "_law_all_sets_right" ["_law_one", "_law_other"] spAll := D.calG fun f fd F hm => by
  refine okG F sc50 (fun vs H Q E h => by obtain ⟨v1, v2, r1, r2, rfl, _⟩ := h; rfl) fun cdv A outer s H vs Q E hl hg hr h => ?_
  obtain ⟨v1, v2, r1, r2, rfl, h1, h2, l1, l2, k⟩ := h
  refine ⟨_, (pss_cons (ps_set (i := 2) sc50.nd rfl (.inl rfl) (pe_cal c__law_subsets (hr.mono (by decide)) pass0 (pa_cons (pe_cal c__law_places (hr.mono (by decide)) pass0 (pa_cons (pe_op op_catA (pv 0) (pv 1)) pa_nil)) pa_nil))) (pss_cons (ps_if (pt_cmpR op_gt (pe_callB call_len_seq (by rfl) B.len PySem.boot_len (pa_cons (pv 2) pa_nil)) pe_int (nomark _)) (pss_one (ps_ret pe_bl)) pss_nil) (pss_cons (ps_set (i := 3) sc50.nd rfl (.inl rfl) (pe_cmpR (op_eqP' (K := K) rfl hr.units) (pe_lc (own := [("_law_row", 4)]) (g := (gName 4)) rfl sc50.nd (pi_list (pv 2)) (blkOk_by (N := ["_law_one", "_law_other", "_law_rows", "_law_lesser", "_law_row"]) (sc := defScope (topS 50)) (by decide +kernel)) (fun _ _ _ _ _ => (pg_name (i := 4) sc50.nd rfl (.inl rfl))) (fun _ _ _ _ _ => (pts_one (PW.pt (pw_and (pt_val (pe_cal c__law_marked (hr.mono (by decide)) pass0 (pa_cons (pv 0) (pa_cons (pv 4) pa_nil)))) (pw_and1 (pt_not (pt_val (pe_cal c__law_marked (hr.mono (by decide)) pass0 (pa_cons (pv 1) (pa_cons (pv 4) pa_nil)))))))))) (fun _ _ _ _ _ => pe_int)) (pe_lst pa_nil) (nomark _))) (pss_one (ps_ret (pe_calG (E := E0) c__law_like hg (hr.mono (by decide)) (pa_cons (pe_cal (E := E0) c_is_lesser (hr.mono (by decide)) (passes_call LamX.takes0 fun _ _ _ _ h => h) (pa_cons (pv 0) (pa_cons (pv 1) pa_nil))) (pa_cons (pv 3) pa_nil)))))))), ?_⟩
  refine q_asgL (el_spots l1 l2 (ed_var (v := v1) rfl h1) (ed_var (v := v2) rfl h2)) fun p xs H1 hp x1 hp1 hT => ?_
  have b1 : BigR r1 := law_big l1 (by decide) (by decide)
  have b2 : BigR r2 := law_big l2 (by decide) (by decide)
  have hv : ∀ {H : Hp} {σ : L2.St} {i : Nat} {a : Addr}, σ[i]? = some (some (.ref a)) → Evl.Ev (tVar i) σ H (.ref a) := fun {H σ i a} h H1 x Q q => ⟨.ref a, h, q H1 (Evl.Ex.refl H1)⟩
  refine q_if (b := decide ((512 : Int) < (xs.length : Nat))) (et_test (ed_op (ed_lenL (hv rfl) hp1) ed_int r2_B0)) (fun hb H2 x2 => ?_) fun hb H2 x2 => ?_
  · exact s_ret ed_bl fun v' H' x' hv' => by
      rw [hv'.toB]
      exact k H' ((x1.trans x2).trans x')
  have hlen : (subsR (spots r1 r2)).length ≤ sizeLine := by
    rw [subs_len]
    have h9 := (spots_box l1 l2).len
    exact Nat.le_trans (Nat.pow_le_pow_right (by decide) h9) (by decide)
  have x12 := x1.trans x2
  refine q_asg (d := .bool (lesserR r1 r2)) (ed_is (ed_noneOf (b := fun row => markedR r1 row && !markedR r2 row) (ds := subsR (spots r1 r2)) (el_lcLG (ws := subsR (spots r1 r2)) toN (fun row => markedR r1 row && !markedR r2 row) (fun _ => .int 1) (hv rfl) (x2 _ _ hp1) (hT.ex x2) hlen (fun _ => rfl) (fun row v H3 hrow x3 hv3 => ?_) fun row v H3 _ _ x3 hv3 => ed_int)) ?_) fun v H3 x3 hv3 => ?_
  · refine Evl.et_and (et_B (ed_marked b1 (ed_var (v := v1) rfl ((h1.ex x12).ex x3)) (ed_var (v := v) rfl hv3))) fun _ => Evl.et_not (et_B (ed_marked b2 (ed_var (v := v2) rfl ((h2.ex x12).ex x3)) (ed_var (v := v) rfl hv3)))
  · congr 1
    rw [← less_eq (spots_need l1 l2)]
    unfold lessB
    rw [List.not_any_eq_all_not]
    congr 1
    funext row
    cases markedR r1 row <;> cases markedR r2 row <;> rfl
  · refine s_ret (ed_like (ed_lesser l1.good l2.good (ed_var (v := v1) rfl ((h1.ex x12).ex x3)) (ed_var (v := v2) rfl ((h2.ex x12).ex x3))) (ed_var (v := v) rfl hv3) (shw_bl _)) fun v' H' x' hv' => ?_
    rw [hv'.toB]
    exact k H' ((x12.trans x3).trans x')
end
end Isl
end
section
set_option Elab.async false
set_option linter.all false
set_option maxRecDepth 100000
set_option maxHeartbeats 4000000
/-! _law_pair_right -/
namespace Isl
open PySem PySem.Spec PyProof.Rows L2
open Evl (Ex EvT)
open PySem.W (dataLt Datum DatumOrd)
section
variable {P : Program} {w : World} {K : PySem.W.Frag} {mg : Str → Option Value} {base : Heap} {ta tb te : TE} {σ : L2.St} {H : Hp} {D : Ends} {tv : TS} {d e : PyData} {ds es : List PyData} {ts : TA} {E : XK}
theorem ed_isPart {C : Addr} {r1 r2 : List Nd} {row : List Pl} {i : Nat} {v : V} (g1 : GoodR r1) (g2 : GoodR r2) (h3 : isIslandD (toN row) = true) (o1 : StepOk r1 row) (o2 : StepOk r2 row) (ha : ED ta σ H (toR r1)) (hb : ED tb σ H (toR r2)) (hi : σ[i]? = some (some v)) (hv : Td H v (toN row)) :
    ED (tCall (spIsPart C) [] E (tCons ta (tCons tb (tCons (tVar i) tNil)))) σ H (.bool (!decide (stepR r1 row = stepR r2 row))) := fun H1 x Q q =>
  ha H1 x _ fun v1 H2 x2 h1 => hb H2 (x.trans x2) _ fun v2 H3 x3 h2 => ⟨v, hi, v1, v2, v, _, _, _, rfl, h1.ex x3, h2, .inl (hv.ex ((x.trans x2).trans x3)), .inl ⟨r1, r2, rfl, rfl, g1, g2, .inr ⟨row, rfl, h3, o1, o2, fun H4 x4 => q _ H4 ((x2.trans x3).trans x4) (.bl _)⟩⟩⟩
theorem ed_eqR {r1 r2 : List Nd} (ha : ED ta σ H (toR r1)) (hb : ED tb σ H (toR r2)) : ED (tOp (rEqP K) ta tb) σ H (.bool (decide (r1 = r2))) := by
  have h := ed_op ha hb (r2_eqP (K := K) (by
    rw [PyData.plain]
    exact PySem.W.plainAll_map r1) (by
    unfold okD
    rw [Bool.and_eq_true, decide_eq_true_eq]
    exact ⟨Datum.plain (⟨r2⟩ : PySem.W.Tup Nd), Nat.le_trans (Datum.depth_le (⟨r2⟩ : PySem.W.Tup Nd)) (by decide)⟩))
  have e : PyData.eqv (toR r1) (toR r2) = decide (r1 = r2) := by
    rw [PyData.eqv]
    exact PySem.W.eqvAll_map r1 r2
  rw [e] at h
  exact h
theorem minOf_in (x : Nd) : ∀ xs : List Nd, PySem.W.minOf x xs ∈ x :: xs := by
  have key : ∀ (xs : List Nd) (a : Nd) (S : List Nd), a ∈ S → (∀ z ∈ xs, z ∈ S) → xs.foldl (fun a y => if DatumOrd.lt y a = true then y else a) a ∈ S := by
    intro xs
    induction xs with
    | nil => intro a S ha _; exact ha
    | cons y ys ih =>
      intro a S ha hS
      rw [List.foldl_cons]
      refine ih _ S ?_ fun z hz => hS z (List.mem_cons_of_mem _ hz)
      by_cases q : DatumOrd.lt y a = true
      · rw [if_pos q]; exact hS y List.mem_cons_self
      · rw [if_neg q]; exact ha
  intro xs
  exact key xs x _ List.mem_cons_self fun z hz => List.mem_cons_of_mem _ hz
theorem lack_mem {r1 r2 : List Nd} {n : Nd} (h : n ∈ lackR r1 r2 ++ lackR r2 r1) : n ∈ r1 ∨ n ∈ r2 := by
  rcases List.mem_append.mp h with z | z
  · exact .inl (List.mem_filter.mp z).1
  · exact .inr (List.mem_filter.mp z).1
theorem less_next {rows : List (List Pl)} {i : Nat} {row : List Pl} {r1 r2 : List Nd} (h : rows[i]? = some row) : lessB (rows.take (i + 1)) r1 r2 = (lessB (rows.take i) r1 r2 && (markedR r2 row || !markedR r1 row)) := by
  unfold lessB
  rw [take_next' h, List.all_append]
  simp
theorem like_next {rows : List (List Pl)} {i : Nat} {row : List Pl} {r1 r2 : List Nd} (h : rows[i]? = some row) : likeB (rows.take (i + 1)) r1 r2 = (likeB (rows.take i) r1 r2 && decide (markedR r1 row = markedR r2 row)) := by
  unfold likeB
  rw [take_next' h, List.all_append]
  simp
theorem el_catV {a : Addr} {xs : List V} (hi : Evl.Ev ta σ H (.ref a)) (ha : H a = some (.lst xs)) (hx : TdAll H xs ds) (h2 : EL tb σ H es) (hl : ds.length + es.length ≤ 60000) : EL (tOp rCat ta tb) σ H (ds ++ es) := fun H1 x Q q =>
  hi H1 x _ fun H2 x2 => h2 H2 (x.trans x2) _ fun p' ys H3 hp' x3 hp3 hT3 =>
    ⟨a, p', xs, ys, rfl, rfl, x3 _ _ (x2 _ _ (x _ _ ha)), hp3, sz_small (by rw [hx.len, hT3.len]; exact hl), fun r hr => q r _ _ (Evl.fresh_back (x2.trans x3) hr) ((x2.trans x3).trans (Evl.Ex.new hr)) upd_same ((hx.ex ((x.trans x2).trans (x3.trans (Evl.Ex.new hr)))).app (hT3.ex (Evl.Ex.new hr)))⟩
def spPairR (T : List (Addr × Str)) : Sp := fun vs H Q _ => ∃ a c l n v1 v2 r1 r2, vs = [.ref a, v1, v2] ∧ StOk a c l H n ∧ n ≤ 9000 ∧ Td H v1 (toR r1) ∧ Td H v2 (toR r2) ∧ LawR 4 6 r1 ∧ LawR 4 6 r2 ∧ LamX.Tabs T H ∧
  ∀ H', StOk a c l H' (n + 24) → Tk H H' → LamX.Tabs T H' → Q (.bl true) H'
theorem sc49 : FnScope ["_law_state", "_law_one", "_law_other", "_law_some", "_law_lesser", "_law_like_here", "_law_row", "_law_near", "_law_far", "_law_lacking_here", "_law_told", "_law_turn"] ["_law_state", "_law_one", "_law_other"] (defScope (topS 49)) := ⟨rfl, rfl, rfl, by decide +kernel, rfl, by decide +kernel, by decide +kernel⟩
theorem c__law_pair_right {Br Nr c0 P0 : Addr} {T : List (Addr × Str)} (D : Dn K mg "_law_pair_right" (topS 49) ["_law_state", "_law_one", "_law_other"]) (B : Bt mg) (c__law_places : Cal P w K mg base CX0 1 "_law_places" ["_law_needs_so"] spPlaces) (c__law_subsets : Cal P w K mg base CX0 1 "_law_subsets" ["_law_things"] spSubs)
    (c__law_of : Cal P w K mg base CX0 3 "_law_of" ["_law_state", "_law_some"] spOf) (c__law_step : Cal P w K mg base CX0 1 "_law_step" ["_law_needs_so", "_law_marks_so"] spStep) (c__law_lacking : Cal P w K mg base CX0 1 "_law_lacking" ["_law_one", "_law_other"] spLack)
    (c__law_marked : Cal P w K mg base CX0 1 "_law_marked" ["_law_needs_so", "_law_marks_so"] spMarked) (c_is_lesser : Cal P w K mg base (L2.CX P w) 6 "is_lesser" ["one", "other"] (spLesser Br)) (c_parting_island : Cal P w K mg base (L2.CX P w) 6 "parting_island" ["one", "other"] (spPartI Br Nr))
    (c_is_parting : Cal P w K mg base (L2.CX P w) 6 "is_parting" ["one", "other", "value"] (spIsPart Br)) (c__law_like : CalG P w K mg base 1 "_law_like" ["_law_got", "_law_due"] (spLike K)) (Dc : Dn K mg "_law_caught" (topS 46) ["_law_call"]) (CT : ClsT K mg Br Nr)
    (LT : LamT K mg base "_law_pair_right" (topS 49) c0 P0) (hmT : (P0, qOf "_law_pair_right") ∈ T) (hu : ∀ p ∈ T, p.1 = P0 → p.2 = qOf "_law_pair_right") : CalG P w K mg base 9 "_law_pair_right" ["_law_state", "_law_one", "_law_other"] (spPairR T) := D.calG fun f fd F hm => by
  refine okG F sc49 (fun vs H Q E h => by obtain ⟨a, c, l, n, v1, v2, r1, r2, rfl, _⟩ := h; rfl) fun cdv A outer s H vs Q E hFI hg hr h => ?_
  obtain ⟨a, c, l, n, v1, v2, r1, r2, rfl, st, hn, h1, h2, l1, l2, tb, k⟩ := h
  refine ⟨_, (pss_cons (ps_setLc (i := 3) (own := [("_law_turn", 11)]) (g := (gName 11)) rfl sc49.nd rfl rfl (sw_true rfl rfl rfl (by decide +kernel)) (pi_range1 (by rfl) B.range (pa_cons pe_int pa_nil)) (blkOk_by (N := ["_law_state", "_law_one", "_law_other", "_law_some", "_law_lesser", "_law_like_here", "_law_row", "_law_near", "_law_far", "_law_lacking_here", "_law_told", "_law_turn"]) (sc := defScope (topS 49)) (by decide +kernel)) (fun _ _ _ _ _ => (pg_name (i := 11) sc49.nd rfl (.inl rfl))) (fun _ _ _ _ _ => pts_nil) (fun _ _ _ _ _ => (pe_cal c__law_of (hr.mono (by decide)) pass0 (pa_cons (pv 0) (pa_cons (pe_cal c__law_subsets (hr.mono (by decide)) pass0 (pa_cons (pe_cal c__law_places (hr.mono (by decide)) pass0 (pa_cons (pe_op (op_catA' (K := K) rfl) (pv 1) (pv 2)) pa_nil)) pa_nil)) pa_nil))))) (pss_cons (ps_asg (pe_tup (pa_cons pe_bl (pa_cons pe_bl pa_nil))) (pg_tup (by rfl) (pgs_cons (pg_name (i := 4) sc49.nd rfl (.inl rfl)) (pgs_cons (pg_name (i := 5) sc49.nd rfl (.inl rfl)) pgs_nil)))) (pss_cons (ps_for PassesOwn.never rfl (pi_list (pe_op op_cat (pe_op op_cat (pv 3) (pe_callTy call_list_of (by rfl) B.list (by decide +kernel) (pa_cons (pv 1) pa_nil))) (pe_callTy call_list_of (by rfl) B.list (by decide +kernel) (pa_cons (pv 2) pa_nil)))) (pg_name (i := 6) sc49.nd rfl (.inl rfl)) (pss_cons (ps_par (i := 7) (j := 8) (by rfl) sc49.nd rfl rfl (by decide) rfl rfl (pa_cons (pe_cal c__law_marked (hr.mono (by decide)) pass0 (pa_cons (pv 1) (pa_cons (pv 6) pa_nil))) (pa_cons (pe_cal c__law_marked (hr.mono (by decide)) pass0 (pa_cons (pv 2) (pa_cons (pv 6) pa_nil))) pa_nil)) (by rfl)) (pss_cons (ps_par (i := 4) (j := 5) (by rfl) sc49.nd rfl rfl (by decide) rfl rfl (pa_cons (pe_and (pv 4) (pe_one (pe_or (pv 8) (pe_one (pe_not (pv 7)))))) (pa_cons (pe_and (pv 5) (pe_one (pe_cmpR op_eq (pv 7) (pv 8) (nomark _)))) pa_nil)) (by rfl)) (pss_one (ps_if (pt_not (pt_val (pe_calG (E := E0) c__law_like hg (hr.mono (by decide)) (pa_cons (pe_cal (E := E0) c_is_parting (hr.mono (by decide)) (passes_call LamX.takes0 fun _ _ _ _ h => h) (pa_cons (pv 1) (pa_cons (pv 2) (pa_cons (pv 6) pa_nil)))) (pa_cons (pe_cmpR (op_neP' (K := K) rfl hr.units) (pe_cal c__law_step (hr.mono (by decide)) pass0 (pa_cons (pv 1) (pa_cons (pv 6) pa_nil))) (pe_cal c__law_step (hr.mono (by decide)) pass0 (pa_cons (pv 2) (pa_cons (pv 6) pa_nil))) (nomark _)) pa_nil))))) (pss_one (ps_ret pe_bl)) pss_nil))))) (pss_cons (ps_if (pt_not (pt_val (pe_calG (E := E0) c__law_like hg (hr.mono (by decide)) (pa_cons (pe_cal (E := E0) c_is_lesser (hr.mono (by decide)) (passes_call LamX.takes0 fun _ _ _ _ h => h) (pa_cons (pv 1) (pa_cons (pv 2) pa_nil))) (pa_cons (pv 4) pa_nil))))) (pss_one (ps_ret pe_bl)) pss_nil) (pss_cons (ps_set (i := 9) sc49.nd rfl (.inl rfl) (pe_op op_cat (pe_cal c__law_lacking (hr.mono (by decide)) pass0 (pa_cons (pv 1) (pa_cons (pv 2) pa_nil))) (pe_cal c__law_lacking (hr.mono (by decide)) pass0 (pa_cons (pv 2) (pa_cons (pv 1) pa_nil))))) (pss_cons (ps_set (i := 10) sc49.nd rfl (.inl rfl) (pe_caught (k := 6) Dc CT B LT hm hFI rfl rfl hmT hu hr (LamX.lamS_by (sc := defScope (topS 49)) (by decide +kernel)) rfl (fun _ _ _ _ _ => rfl) fun A outer s H E f c' hr2 => pe_cal c_parting_island hr2 (passes_call (takes_of rfl rfl rfl rfl) fun _ _ _ _ h => h) (pa_cons (pv 1) (pa_cons (pv 2) pa_nil)))) (pss_cons (ps_if (pt_cmpR op_ne (pv 5) (pe_cmpR (op_eqP' (K := K) rfl hr.units) (pv 1) (pv 2) (nomark _)) (nomark _)) (pss_one (ps_ret pe_bl)) pss_nil) (pss_one (ps_ret (pe_calG (E := E0) c__law_like hg (hr.mono (by decide)) (pa_cons (pv 10) (pa_cons (pe_ifExp (pt_val (pv 5)) (pe_lst (pa_cons pe_str pa_nil)) (pe_lst (pa_cons pe_str (pa_cons (pe_callB (cr_minD rfl hr.units) (by rfl) B.min (by decide +kernel) (pa_cons (pv 9) pa_nil)) pa_nil)))) pa_nil)))))))))))), ?_⟩
  have hsl : ∀ {H : Hp} {σ : L2.St} {i : Nat} {a : Addr}, σ[i]? = some (some (.ref a)) → Evl.Ev (tVar i) σ H (.ref a) := fun {H σ i a} h H1 x Q q => ⟨.ref a, h, q H1 (Evl.Ex.refl H1)⟩
  -- the drawn rows
  refine ⟨24, rfl, by decide, by decide, fun L hL => ?_⟩
  obtain ⟨nb1, nb2, nb3⟩ := st.fresh hL
  refine lc_it (walk_range (lo := 0) (n := 24)) (fun i Hc => ∃ (rows : List (List Pl)) (acc : List V), StOk a c l Hc (n + i) ∧ Kp a l H Hc ∧ Hc L = some (.lst acc) ∧ TdAll Hc acc (rows.map toN) ∧ rows.length = i ∧ ∀ row ∈ rows, row ∈ subsR (spots r1 r2))
    ⟨[], [], st.ex (Evl.Ex.new hL), .ex (Evl.Ex.new hL), upd_same, .nil, rfl, fun q hq => (by cases hq)⟩ (fun _ _ _ _ => trivial) (fun i x Hc Hc' hi p y => ?_) fun Hc p => ?_
  · obtain ⟨e1, e2⟩ := y
    subst e1 e2
    obtain ⟨rows, acc, st1, kp1, hacc, hT, hlen, hrows⟩ := p
    have hv1 := h1.tk (kp1.tk st)
    have hv2 := h2.tk (kp1.tk st)
    refine ⟨rfl, yes_go ?_⟩
    refine ⟨.ref a, rfl, ?_⟩
    refine el_spots l1 l2 (ed_var (v := v1) rfl hv1) (ed_var (v := v2) rfl hv2) _ (Evl.Ex.refl _) _ fun p ys H2 hp x2 hp2 hT2 => ?_
    have st2 := st1.ex x2
    have hylen : ys.length = 2 ^ (spots r1 r2).length := by rw [hT2.len, List.length_map, subs_len]
    have h9 := (spots_box l1 l2).len
    have hb9 : 2 ^ (spots r1 r2).length ≤ 512 := Nat.le_trans (Nat.pow_le_pow_right (by decide) h9) (by decide)
    have hpos : 0 < 2 ^ (spots r1 r2).length := Nat.pow_pos (by decide)
    refine ⟨a, c, l, p, n + i, ys, rfl, st2, by omega, hp2, (st1.fresh hp).2.2, fun e => ?_, by omega, fun j v H3 hj st3 kp3 => ?_⟩
    · rw [e] at hylen
      have : (0 : Nat) = 2 ^ (spots r1 r2).length := hylen
      omega
    · obtain ⟨d, hd, hv⟩ := hT2.at' hj
      rw [List.getElem?_map, Option.map_eq_some_iff] at hd
      obtain ⟨row, hrow, rfl⟩ := hd
      have hv3 := hv.tk (kp3.tk st2)
      have hacc3 : H3 L = some (.lst acc) := kp3 L _ nb1 nb3 (x2 _ _ hacc)
      have hT3 := (hT.ex x2).tk (kp3.tk st2)
      have hal : acc.length = i := by rw [hT.len, List.length_map, hlen]
      have kk : Tk H3 (upd H3 L (.lst (acc ++ [v]))) := tk_put hacc3 fun _ z => by cases z
      refine ⟨acc, hacc3, by rw [sizeLine_eq]; omega, rows ++ [row], acc ++ [v], ?_, fun q o g1 g2 g3 => ?_, upd_same, ?_, by rw [List.length_append, hlen] <;> rfl, fun q hq => ?_⟩
      · have := st3.put (o := .lst (acc ++ [v])) nb1 nb2 nb3
        rw [← Nat.add_assoc]
        exact this
      · rw [upd_ne (fun e => by rw [e, hL] at g3; cases g3)]
        exact kp3 q o g1 g2 (x2 _ _ (kp1 q o g1 g2 g3))
      · rw [List.map_append]
        exact (hT3.tk kk).snoc (hv3.tk kk)
      · rcases List.mem_append.mp hq with z | z
        · exact hrows q z
        · rw [List.mem_singleton.mp z]
          exact List.mem_of_getElem? hrow
  · obtain ⟨rows, acc, st1, kp1, hacc, hT, hlen, hrows⟩ := p
    have tb1 := tabs_kp tb st kp1
    have tk1 := kp1.tk st
    have hv1 := h1.tk tk1
    have hv2 := h2.tk tk1
    replace k : ∀ H', StOk a c l H' (n + 24) → Tk Hc H' → LamX.Tabs T H' → Q (.bl true) H' := fun H' s t b => k H' s (tk1.trans t) b
    have b1 : BigR r1 := law_big l1 (by decide) (by decide)
    have b2 : BigR r2 := law_big l2 (by decide) (by decide)
    show tSeq _ _ _ _ _
    refine q_asgT2 (ea_cons ed_bl (ea_cons ed_bl ea_nil)) fun va vb H1 x1 hva hvb => ?_
    rw [hva.toB, hvb.toB]
    -- all rows
    have n1 := l1.len
    have n2 := l2.len
    have hrl : (rows.map toN).length = 24 := by rw [List.length_map, hlen]
    have eN : ∀ r : List Nd, (r.map fun n => n.items).map toN = r.map (Datum.toD : Nd → PyData) := fun r => by rw [List.map_map] <;> rfl
    have hall : (rows ++ r1.map (fun n => n.items) ++ r2.map (fun n => n.items)).map toN = rows.map toN ++ r1.map Datum.toD ++ r2.map Datum.toD := by
      rw [List.map_append, List.map_append, eN, eN]
    have hok : ∀ row ∈ rows ++ r1.map (fun n => n.items) ++ r2.map (fun n => n.items), RowOk row := fun row h => by
      rcases List.mem_append.mp h with h | h
      · rcases List.mem_append.mp h with h | h
        · exact spots_row l1 l2 (hrows row h)
        · obtain ⟨m, hm, rfl⟩ := List.mem_map.mp h
          exact (l1.need m hm).row
      · obtain ⟨m, hm, rfl⟩ := List.mem_map.mp h
        exact (l2.need m hm).row
    have in1 : ∀ m ∈ r1, m.items ∈ rows ++ r1.map (fun n => n.items) ++ r2.map (fun n => n.items) := fun m hm => List.mem_append_left _ (List.mem_append_right _ (List.mem_map.mpr ⟨m, hm, rfl⟩))
    have in2 : ∀ m ∈ r2, m.items ∈ rows ++ r1.map (fun n => n.items) ++ r2.map (fun n => n.items) := fun m hm => List.mem_append_right _ (List.mem_map.mpr ⟨m, hm, rfl⟩)
    generalize hgen : rows ++ r1.map (fun n => n.items) ++ r2.map (fun n => n.items) = all at hall hok in1 in2
    have hv1 := hv1.ex x1
    have hv2 := hv2.ex x1
    have st1 := st1.ex x1
    have tb1 := tb1.ext x1
    have tkx := tk_ex x1
    replace k : ∀ H', StOk a c l H' (n + 24) → Tk H1 H' → LamX.Tabs T H' → Q (.bl true) H' := fun H' s t b => k H' s (tkx.trans t) b
    have hTr := hT.ex x1
    have haccr := x1 _ _ hacc
    clear hva hvb
    refine q_forN (ws := all) toN ?_ (fun H2 i σ' H' => Ex H2 H' ∧ ∃ x y z, σ' = [some (.ref a), some v1, some v2, some (.ref L), some (.bl (lessB (all.take i) r1 r2)), some (.bl (likeB (all.take i) r1 r2)), x, y, z, none, none, none]) (fun H2 x2 => ⟨Evl.Ex.refl _, _, _, _, rfl⟩) (fun H2 m σ' H' b xs p _ hb => p.1 _ _ hb) (fun H2 m σ' H' p => tk_ex p.1)
      (fun H2 x2 i row v σ' H' hrow p hv => ?_) fun H2 x2 σ' H' p => ?_
    · rw [hall]
      exact el_cat (el_catV (hsl rfl) haccr hTr (el_listOf (K := K) (ds := r1.map Datum.toD) (ed_var (v := v1) rfl hv1)) (by rw [hrl, List.length_map]; omega)) (el_listOf (K := K) (ds := r2.map Datum.toD) (ed_var (v := v2) rfl hv2)) (by rw [List.length_append, hrl, List.length_map, List.length_map]; omega)
    · obtain ⟨x3, x, y, z, rfl⟩ := p
      have ok := hok row (List.mem_of_getElem? hrow)
      have w1 := (hv1.ex x2).ex x3
      have w2 := (hv2.ex x2).ex x3
      have o1 : StepOk r1 row := ok.step l1 (by decide) (by decide)
      have o2 : StepOk r2 row := ok.step l2 (by decide) (by decide)
      show tSeq _ _ _ _ _
      refine q_par (ea_cons (ed_marked b1 (ed_var (v := v1) rfl w1) (ed_var (v := v) rfl hv)) (ea_cons (ed_marked b2 (ed_var (v := v2) rfl w2) (ed_var (v := v) rfl hv)) ea_nil)) fun vn vf H3 x4 hn3 hf3 => ?_
      rw [hn3.toB, hf3.toB]
      refine q_par (ea_cons (ed_and (ed_var (v := .bl _) rfl (.bl _)) fun _ => ed_or (ed_var (v := .bl _) rfl (.bl _)) fun _ => ed_not (ed_var (v := .bl _) rfl (.bl _))) (ea_cons (ed_and (ed_var (v := .bl _) rfl (.bl _)) fun _ => ed_op (ed_var (v := .bl _) rfl (.bl _)) (ed_var (v := .bl _) rfl (.bl _)) r2_eqB) ea_nil)) fun vl vk H4 x5 hl4 hk4 => ?_
      rw [hl4.toB, hk4.toB, ← less_next hrow, ← like_next hrow]
      refine s_ifN (b := !true) (Evl.et_not (et_B (ed_like (ed_isPart l1.good l2.good ok.isl o1 o2 (ed_var (v := v1) rfl ((w1.ex x4).ex x5)) (ed_var (v := v2) rfl ((w2.ex x4).ex x5)) (i := 6) (v := v) rfl ((hv.ex x4).ex x5)) (ed_nePls (ed_step o1 (ed_var (v := v1) rfl ((w1.ex x4).ex x5)) (ed_var (v := v) rfl ((hv.ex x4).ex x5))) (ed_step o2 (ed_var (v := v2) rfl ((w2.ex x4).ex x5)) (ed_var (v := v) rfl ((hv.ex x4).ex x5)))) (shw_bl _)))) (fun hb => by cases hb) fun _ H5 x6 => ?_
      exact ⟨((x3.trans x4).trans x5).trans x6, _, _, _, rfl⟩
    · obtain ⟨x3, x, y, z, rfl⟩ := p
      rw [List.take_length, less_eq in1, like_eq l1 l2 in1 in2]
      have x23 := x2.trans x3
      have w1 := hv1.ex x23
      have w2 := hv2.ex x23
      have st3 := st1.ex x23
      have tb3 := tb1.ext x23
      replace k : ∀ H'', StOk a c l H'' (n + 24) → Tk H' H'' → LamX.Tabs T H'' → Q (.bl true) H'' := fun H'' s t b => k H'' s ((tk_ex x23).trans t) b
      show tSeq _ _ _ _ _
      refine q_if (b := !true) (Evl.et_not (et_B (ed_like (ed_lesser l1.good l2.good (ed_var (v := v1) rfl w1) (ed_var (v := v2) rfl w2)) (ed_var (v := .bl _) rfl (.bl _)) (shw_bl _)))) (fun hb => by cases hb) fun _ H3 x4 => ?_
      have b12 : BigR r1 ∧ BigR r2 := ⟨b1, b2⟩
      have b21 : BigR r2 ∧ BigR r1 := ⟨b2, b1⟩
      refine q_asgL (el_cat (el_call (⟨(r1, r2), b12⟩ : { p : List Nd × List Nd // BigR p.1 ∧ BigR p.2 }) (ea_cons (ed_var (v := v1) rfl (w1.ex x4)) (ea_cons (ed_var (v := v2) rfl (w2.ex x4)) ea_nil)) rfl) (el_call (⟨(r2, r1), b21⟩ : { p : List Nd × List Nd // BigR p.1 ∧ BigR p.2 }) (ea_cons (ed_var (v := v2) rfl (w2.ex x4)) (ea_cons (ed_var (v := v1) rfl (w1.ex x4)) ea_nil)) rfl) ?_) fun pl xl H4 hpl x5 hpl4 hT4 => ?_
      · rw [List.length_map, List.length_map]
        have q1 : (lackR r1 r2).length ≤ r1.length := List.length_filter_le ..
        have q2 : (lackR r2 r1).length ≤ r2.length := List.length_filter_le ..
        show (lackR r1 r2).length + (lackR r2 r1).length ≤ 60000
        omega
      have hT4 : TdAll H4 xl ((lackR r1 r2 ++ lackR r2 r1).map Datum.toD) := by
        rw [List.map_append]
        exact hT4
      have x45 := x4.trans x5
      have st4 := st3.ex x45
      refine ⟨tb3.ext x45, fun H5 xn tb5 => ?_⟩
      have w1 := ((w1.ex x4).ex x5).tk (tk_extN xn)
      have w2 := ((w2.ex x4).ex x5).tk (tk_extN xn)
      have st5 := st4.extN xn
      have hpl5 : H5 pl = some (.lst xl) := xn _ _ hpl4 (fun _ => nofun)
      have hT5 := hT4.tk (tk_extN xn)
      replace k : ∀ H'', StOk a c l H'' (n + 24) → Tk H5 H'' → LamX.Tabs T H'' → Q (.bl true) H'' := fun H'' s t b => k H'' s (((tk_ex x45).trans (tk_extN xn)).trans t) b
      -- what is told, shown
      have tail : ∀ (p : Addr) (xs : List V) (ds : List PyData) (H6 : Hp), Ex H5 H6 → H6 p = some (.lst xs) → TdAll H6 xs ds → (ds = if r1 = r2 then [.str "NoRow"] else match lackR r1 r2 ++ lackR r2 r1 with
          | [] => []
          | z :: zs => [.str "told", Datum.toD (PySem.W.minOf z zs)]) →
          tSeq (tIfS (tTest (tOp rNe (tVar 5) (tOp (rEqP K) (tVar 1) (tVar 2)))) (tRet (tC (.bl false))) tNext) (tRet (tCall (spLike K) [] E0 (tCons (tVar 10) (tCons (tIf (tB (tVar 5)) (tLst (tCons (tC (.str "NoRow")) tNil)) (tLst (tCons (tC (.str "told")) (tCons (tCB (rMinD K) (tCons (tVar 9) tNil)) tNil)))) tNil))))
            { nx := fun _ H' => Q .non H', rt := Q } [some (.ref a), some v1, some v2, some (.ref L), some (.bl (lesserR r1 r2)), some (.bl (decide (r1 = r2))), x, y, z, some (.ref pl), some (.ref p), none] H6 := fun p xs ds H6 x6 hp6 hT6 hds => by
        refine q_if (b := !decide (decide (r1 = r2) = decide (r1 = r2))) (et_test (ed_op (ed_var (v := .bl _) rfl (.bl _)) (ed_eqR (ed_var (v := v1) rfl (w1.ex x6)) (ed_var (v := v2) rfl (w2.ex x6))) r2_neB)) (fun hb => by rw [decide_eq_true rfl] at hb; cases hb) fun _ H7 x7 => ?_
        refine ⟨.ref p, rfl, ?_⟩
        show tIf _ _ _ _ _ _
        unfold tIf
        refine (et_B (ed_var (i := 5) (v := .bl (decide (r1 = r2))) rfl (.bl _)) : EvT (tB (tVar 5)) [some (.ref a), some v1, some v2, some (.ref L), some (.bl (lesserR r1 r2)), some (.bl (decide (r1 = r2))), x, y, z, some (.ref pl), some (.ref p), none] H7 (decide (r1 = r2))) H7 (Evl.Ex.refl _) _ fun H8 x8 => ?_
        have fin : ∀ p' ys H9, Ex H8 H9 → H9 p' = some (.lst ys) → TdAll H9 ys ds → ShwD (.list ds) → spLike K ([V.ref p, V.ref p'] ++ []) H9 Q E0 := fun p' ys H9 x9 hp9 hT9 sh => by
          have x69 := (x7.trans x8).trans x9
          refine ⟨.ref p, .ref p', .list ds, rfl, .lst (.inl (.inl (x69 _ _ hp6))) (TdAll.dp _ _ (hT6.ex x69)), .lst (.inl (.inl hp9)) (TdAll.dp _ _ hT9), sh, ?_⟩
          exact k H9 ((st5.ex x6).ex x69) (tk_ex (x6.trans x69)) ((tb5.ext x6).ext x69)
        by_cases hr : r1 = r2
        · rw [if_pos hr] at hds
          subst hds
          rw [if_pos (decide_eq_true hr)]
          exact el_lst (ea_cons ed_str ea_nil) (by show 1 ≤ sizeLine; decide) H8 (Evl.Ex.refl _) _ fun p' ys H9 hp' x9 hp9 hT9 => fin p' ys H9 x9 hp9 hT9 ⟨by decide +kernel, by decide +kernel⟩
        · rw [if_neg hr] at hds
          rw [if_neg (by rw [decide_eq_false hr]; decide)]
          cases hl : lackR r1 r2 ++ lackR r2 r1 with
          | nil => exact absurd ((lack_nil l1 l2).mp hl) hr
          | cons m ms =>
            rw [hl] at hds hT5
            have hds : ds = [.str "told", Datum.toD (PySem.W.minOf m ms)] := hds
            subst hds
            have hm : PySem.W.minOf m ms ∈ lackR r1 r2 ++ lackR r2 r1 := by rw [hl]; exact minOf_in m ms
            have lm : LawN 6 (PySem.W.minOf m ms) := by
              rcases lack_mem hm with h | h
              · exact l1.need _ h
              · exact l2.need _ h
            refine el_lst (ea_cons ed_str (ea_cons (ed_minV (K := K) (i := 9) (a := pl) (z := m) (zs := ms) rfl (x8 _ _ (x7 _ _ (x6 _ _ hpl5))) (hT5.ex ((x6.trans x7).trans x8)) (by decide)) ea_nil)) (by show 2 ≤ sizeLine; decide) H8 (Evl.Ex.refl _) _ fun p' ys H9 hp' x9 hp9 hT9 => fin p' ys H9 x9 hp9 hT9 (tell_ok lm)
      -- the call
      show TTc Br Nr _ H5 _
      refine ⟨v1, rfl, v2, rfl, v1, v2, _, _, rfl, w1, w2, .inl ⟨r1, r2, rfl, rfl, l1.good, l2.good, ?_⟩⟩
      cases hl : lackR r1 r2 ++ lackR r2 r1 with
      | nil =>
        rw [hl]
        refine fun H6 x6 => .inl ⟨rfl, fun p hp => ?_⟩
        refine tail p _ [.str "NoRow"] _ (x6.trans (Evl.Ex.new hp)) upd_same (.cons (.str _) .nil) ?_
        rw [if_pos ((lack_nil l1 l2).mp hl)]
      | cons m ms =>
        rw [hl]
        refine fun v H6 x6 hv => ⟨by show 2 ≤ sizeLine; decide, fun p hp => ⟨_, rfl, ?_⟩⟩
        refine tail p _ [.str "told", Datum.toD (PySem.W.minOf m ms)] _ (x6.trans (Evl.Ex.new hp)) upd_same (.cons (.str _) (.cons (hv.ex (Evl.Ex.new hp)) .nil)) ?_
        have hne : r1 ≠ r2 := fun e => by
          rw [(lack_nil l1 l2).mpr e] at hl
          cases hl
        rw [if_neg hne, hl]
end
end Isl
end
section
set_option Elab.async false
set_option linter.all false
set_option maxRecDepth 100000
set_option maxHeartbeats 4000000
/-! for _law_refused_right -/
namespace Isl
open PySem PySem.Spec PyProof.Rows L2
open Evl (Ex EvT)
open PySem.W (dataLt Datum DatumOrd)
theorem good_one {n : Nd} (h : isNeedD (Datum.toD n) = true) : GoodR [n] := by
  refine ⟨Nat.le_refl 1, by show 1 ≤ 60; decide, fun m hm => ?_, fun i a b h1 h2 => ?_, fun m hm o ho e => ?_⟩
  · rw [List.mem_singleton.mp hm]; exact h
  · cases h2
  · rw [List.mem_singleton.mp hm, List.mem_singleton.mp ho] at e
    exact absurd rfl e
theorem good_two {n m : Nd} (h : isNeedD (Datum.toD n) = true) (h' : isNeedD (Datum.toD m) = true) (hl : ltN n m = true) (h1 : hasAll n m = false) (h2 : hasAll m n = false) : GoodR [n, m] := by
  refine ⟨by show 1 ≤ 2; decide, by show 2 ≤ 60; decide, fun k hk => ?_, fun i a b e1 e2 => ?_, fun k hk o ho e => ?_⟩
  · rcases List.mem_cons.mp hk with z | z
    · rw [z]; exact h
    · rw [List.mem_singleton.mp z]; exact h'
  · cases i with
    | zero =>
      cases e1
      cases e2
      exact hl
    | succ i => cases e2
  · rcases List.mem_cons.mp hk with z | z <;> rcases List.mem_cons.mp ho with y | y
    · rw [z, y] at e; exact absurd rfl e
    · rw [z, List.mem_singleton.mp y]; exact h1
    · rw [List.mem_singleton.mp z, y]; exact h2
    · rw [List.mem_singleton.mp z, List.mem_singleton.mp y] at e; exact absurd rfl e
abbrev n00 : Nd := ⟨[(0, 0)]⟩
abbrev n01 : Nd := ⟨[(0, 1)]⟩
abbrev n10 : Nd := ⟨[(1, 0)]⟩
abbrev rHere : List Nd := [n00]
abbrev rNear : List Nd := [n01]
theorem need00 : isNeedD (Datum.toD n00) = true := by decide +kernel
theorem need01 : isNeedD (Datum.toD n01) = true := by decide +kernel
theorem need10 : isNeedD (Datum.toD n10) = true := by decide +kernel
theorem good_here : GoodR rHere := good_one need00
theorem good_near : GoodR rNear := good_one need01
theorem good_both : GoodR [n00, n01] := good_two need00 need01 (by decide +kernel) (by decide +kernel) (by decide +kernel)
theorem good_wide : GoodR [n00, n10] := good_two need00 need10 (by decide +kernel) (by decide +kernel) (by decide +kernel)
/-- d1, d2: no two rules, the place p is told -/
def Bad (d1 d2 p : PyData) : Prop := (oddD d1 ≠ .none ∧ oddD d1 = p) ∨ (∃ r1, d1 = toR r1 ∧ GoodR r1 ∧ oddD d2 ≠ .none ∧ oddD d2 = p)
theorem two_bad {C : Addr} {H : Hp} {E : XK} {d1 d2 p : PyData} {G : List Nd → List Nd → Prop} (b : Bad d1 d2 p) (e : EB C H E p) : Two C H E d1 d2 G := by
  rcases b with ⟨h1, h2⟩ | ⟨r1, h0, g, h1, h2⟩
  · exact .inr (.inl ⟨h1, by rw [h2]; exact e⟩)
  · exact .inr (.inr ⟨r1, h0, g, h1, by rw [h2]; exact e⟩)
def P3 (p : PyData) : Prop := p = .tuple [] ∨ p = .tuple [.int 0] ∨ p = .tuple [.int 1]
abbrev badL (p : PyData) : PyData := .list [.str "BadRule", p, .bool false]
theorem shw_bad {p : PyData} (h : P3 p) : ShwD (.list [badL p, badL p, badL p]) := by
  rcases h with rfl | rfl | rfl <;> exact ⟨by decide +kernel, by decide +kernel⟩
/-- one of the worlds -/
def Wd (b : Option Addr) (H : Hp) (v : V) : Prop := ∃ t v1 w1 dl u d1 d2 p, v = .ref t ∧ H t = some (.tup [v1, w1, .ref dl]) ∧ some dl ≠ b ∧ Td H v1 d1 ∧ Td H w1 d2 ∧ H dl = some (.lst [.str "BadRule", u, .bl false]) ∧ Td H u p ∧ Bad d1 d2 p ∧ P3 p
theorem Wd.extN {b : Option Addr} {H H' : Hp} {v : V} (h : Wd b H v) (x : LamX.ExtN H H') : Wd b H' v := by
  obtain ⟨t, v1, w1, dl, u, d1, d2, p, rfl, h1, h2, h3, h4, h5, h6, h7, h8⟩ := h
  exact ⟨t, v1, w1, dl, u, d1, d2, p, rfl, x _ _ h1 (fun _ => nofun), h2, h3.tk (tk_extN x), h4.tk (tk_extN x), x _ _ h5 (fun _ => nofun), h6.tk (tk_extN x), h7, h8⟩
theorem Wd.ex {b : Option Addr} {H H' : Hp} {v : V} (h : Wd b H v) (x : Ex H H') : Wd b H' v := h.extN (.of x)
theorem Wd.avoid {H : Hp} {v : V} {b : Addr} (h : Wd none H v) (hb : H b = none) : Wd (some b) H v := by
  obtain ⟨t, v1, w1, dl, u, d1, d2, p, rfl, h1, h2, h3, h4, h5, h6, h7, h8⟩ := h
  exact ⟨t, v1, w1, dl, u, d1, d2, p, rfl, h1, (fun e => by rw [← Option.some.inj e, h5] at hb; cases hb), h3, h4, h5, h6, h7, h8⟩
theorem Wd.put {H : Hp} {v : V} {b : Addr} {xs : List V} {o : HO} (h : Wd (some b) H v) (hb : H b = some (.lst xs)) : Wd (some b) (upd H b o) v := by
  have kk : Tk H (upd H b o) := tk_put hb fun _ z => by cases z
  obtain ⟨t, v1, w1, dl, u, d1, d2, p, rfl, h1, h2, h3, h4, h5, h6, h7, h8⟩ := h
  exact ⟨t, v1, w1, dl, u, d1, d2, p, rfl, kk _ _ h1, h2, h3.tk kk, h4.tk kk, by rw [upd_ne (fun e => h2 (by rw [e]))]; exact h5, h6.tk kk, h7, h8⟩
theorem extN_put {H H1 : Hp} {b : Addr} {o : HO} (x : LamX.ExtN H H1) (hb : H b = none) : LamX.ExtN H (upd H1 b o) := fun c u h n => by
  rw [upd_ne (fun e => by rw [e, hb] at h; cases h)]
  exact x c u h n
theorem tabs_put {T : List (Addr × Str)} {H : Hp} {b : Addr} {xs ys : List V} (t : LamX.Tabs T H) (hb : H b = some (.lst xs)) : LamX.Tabs T (upd H b (.lst ys)) := fun p hp => by
  obtain ⟨ps, h1, h2, h3⟩ := t p hp
  refine ⟨ps, by rw [upd_ne (fun e => by rw [e, hb] at h1; cases h1)]; exact h1, h2, fun pos cv hc => ?_⟩
  obtain ⟨c', e1, e2⟩ := h3 pos cv hc
  exact ⟨c', e1, by rw [upd_ne (fun e => by rw [e, hb] at e2; cases e2)]; exact e2⟩
section
variable {K : PySem.W.Frag} {ta tb tc te : TE} {σ : L2.St} {H : Hp} {D : Ends} {tv : TS} {d e : PyData} {ds es : List PyData} {ts : TA} {E : XK}
/-- a new list of known things -/
theorem e_world {b : Option Addr} {d1 d2 p : PyData} (h1 : ED ta σ H d1) (h2 : ED tb σ H d2) (h3 : ED tc σ H p) (bad : Bad d1 d2 p) (hp : P3 p) (hb : ∀ a, b = some a → H a ≠ none) :
    ∀ H1, Ex H H1 → ∀ Q : VK, (∀ v H2, Ex H1 H2 → Wd b H2 v → Q v H2) → tTup (tCons ta (tCons tb (tCons (tLst (tCons (tC (.str "BadRule")) (tCons tc (tCons (tC (.bl false)) tNil)))) tNil))) σ H1 Q := fun H1 x Q q =>
  h1 H1 x _ fun v1 H2 x2 hv1 => h2 H2 (x.trans x2) _ fun w1 H3 x3 hw1 => h3 H3 ((x.trans x2).trans x3) _ fun u H4 x4 hu => ⟨by show 3 ≤ sizeLine; decide, fun dl hdl => ⟨by show 3 ≤ sizeLine; decide, fun t ht => by
    have x5 : Ex H4 (upd H4 dl (.lst [.str "BadRule", u, .bl false])) := Evl.Ex.new hdl
    have x6 := Evl.Ex.new (o := HO.tup [v1, w1, .ref dl]) ht
    have x56 := x5.trans x6
    refine q _ _ (((x2.trans x3).trans x4).trans x56) ⟨t, v1, w1, dl, u, d1, d2, p, rfl, upd_same, fun e => ?_, ((hv1.ex x3).ex x4).ex x56, (hw1.ex x4).ex x56, x6 _ _ upd_same, hu.ex x56, bad, hp⟩
    have := hb dl e.symm
    cases q : H dl with
    | none => exact this q
    | some o => rw [(((x.trans x2).trans x3).trans x4) _ _ q] at hdl; cases hdl⟩⟩
/-- a refused call, caught -/
theorem lam_bad {T : List (Addr × Str)} {Br Nr : Addr} {t : XK → TE} {p : PyData} {Q : VK} (tb : LamX.Tabs T H) (ht : ∀ H1 E Q', LamX.ExtN H H1 → EB Br H1 E p → t E σ H1 Q')
    (k : ∀ q v' H', LamX.ExtN H H' → LamX.Tabs T H' → H' q = some (.lst [.str "BadRule", v', .bl false]) → Td H' v' p → (∀ b xs, H b = some (.lst xs) → q ≠ b) → Q (.ref q) H') : LamX.tLam T (TTc Br Nr) t σ H Q := by
  refine ⟨tb, fun H1 xn tb1 => ?_⟩
  show t (EBN Br Nr Q) σ H1 _
  refine ht H1 _ _ xn fun H' dd v' x' hdd hv' => .inr ⟨rfl, dd, _, v', rfl, hdd, by simp [List.lookup], fun q hq => ?_⟩
  refine k q v' _ (xn.trans (extN_ex (x'.trans (Evl.Ex.new hq)))) ((tb1.ext x').ext (Evl.Ex.new hq)) upd_same (hv'.ex (Evl.Ex.new hq)) fun b xs hb e => ?_
  rw [e, x' _ _ (xn _ _ hb (fun _ => nofun))] at hq
  cases hq
theorem e_one {x y : Int} : ED (tTup (tCons (tTup (tCons (tTup (tCons (tC (.int x)) (tCons (tC (.int y)) tNil))) tNil)) tNil)) σ H (toR [⟨[(x, y)]⟩]) :=
  ed_tup (ds := [Datum.toD (⟨[(x, y)]⟩ : Nd)]) (ea_cons (ed_tup (ds := [Datum.toD ((x, y) : Pl)]) (ea_cons (ed_pl ed_int ed_int) ea_nil) (by show 1 ≤ sizeLine; decide)) ea_nil) (by show 1 ≤ sizeLine; decide)
end
theorem bad1 : Bad .none (.int 5) (.tuple []) := .inl ⟨nofun, rfl⟩
theorem bad2 : Bad (toR rHere) (.int 5) (.tuple []) := .inr ⟨_, rfl, good_here, nofun, rfl⟩
theorem odd3 : oddD (toR [⟨[(0, 0), (0, 0)]⟩]) = .tuple [.int 0] := by rfl
theorem bad3 : Bad (toR [⟨[(0, 0), (0, 0)]⟩]) .none (.tuple [.int 0]) := .inl ⟨by rw [odd3]; exact nofun, odd3⟩
theorem odd4 : oddD (.tuple [Datum.toD n00, .int 3]) = .tuple [.int 1] := by rfl
theorem bad4 : Bad (toR rHere) (.tuple [Datum.toD n00, .int 3]) (.tuple [.int 1]) := .inr ⟨_, rfl, good_here, by rw [odd4]; exact nofun, odd4⟩
def wideP : List Pl := (List.range 400).map fun x : Nat => ((2 * (0 + (x : Int)), 0) : Pl)
theorem wide_isl : isIslandD (toN wideP) = true := by decide +kernel
theorem wide_ok (r : List Nd) (h : r.length ≤ 2) (h1 : ∀ n ∈ r, n.items ≠ []) (h2 : ∀ n ∈ r, n.items.length ≤ 60000) : StepOk r wideP := by
  have e : wideP.length = 400 := by unfold wideP; rw [List.length_map, List.length_range]
  refine ⟨?_, by rw [e]; decide, h1, h2⟩
  rw [e]
  omega
theorem lack_hn : lackR rHere rNear ++ lackR rNear rHere = [n00, n01] := by decide +kernel
theorem min_hn : PySem.W.minOf n00 [n01] = n00 := by decide +kernel
theorem step_55 : decide (stepR rHere [(5, 5)] = stepR rNear [(5, 5)]) = false := by decide +kernel
theorem step_wide : decide (stepR [n00, n10] wideP = stepR rHere wideP) = false := by
  rw [decide_eq_false_iff_not]
  unfold stepR
  rw [canon_eq soP]
  intro h
  have h1 : ((-1, 0) : Pl) ∈ stepAll [n00, n10] wideP := by decide +kernel
  have h2 : ¬ ((-1, 0) : Pl) ∈ stepAll rHere wideP := by decide +kernel
  exact h2 ((h _).mp h1)
end Isl
end
section
set_option Elab.async false
set_option linter.all false
set_option maxRecDepth 100000
set_option maxHeartbeats 4000000
/-! _law_refused_right -/
namespace Isl
open PySem PySem.Spec PyProof.Rows L2
open Evl (Ex EvT)
open PySem.W (dataLt Datum DatumOrd)
section
variable {P : Program} {w : World} {K : PySem.W.Frag} {mg : Str → Option Value} {base : Heap} {ta tb te : TE} {σ : L2.St} {H : Hp} {D : Ends} {tv : TS} {d e : PyData} {ds es : List PyData} {ts : TA} {E : XK}
theorem in_lst {Q : VK} (h : ta σ H fun x H1 => ts σ H1 fun xs H2 => (x :: xs).length ≤ sizeLine ∧ ∀ p, H2 p = none → Q (.ref p) (upd H2 p (.lst (x :: xs)))) : tLst (tCons ta ts) σ H Q := h
theorem in_cons {Q : List V → Hp → Prop} (h : ta σ H fun x H1 => ts σ H1 fun xs H2 => Q (x :: xs) H2) : tCons ta ts σ H Q := h
theorem extN_put2 {H Ha H1 : Hp} {b : Addr} {o : HO} (x : LamX.ExtN H Ha) (hb : Ha b = none) (y : LamX.ExtN Ha H1) : LamX.ExtN H (upd H1 b o) := fun c u h n => by
  have h2 := x c u h n
  rw [upd_ne (fun e => by rw [e, hb] at h2; cases h2)]
  exact y c u h2 n
def OdOk (H : Hp) (v : V) : Prop := ∃ d, OdV H v d ∧ (isIslandD d = false ∨ d = .tuple [])
def EOd (te : TE) (σ : L2.St) (H : Hp) : Prop := ∀ H1, Ex H H1 → ∀ Q : VK, (∀ v H2, Ex H1 H2 → OdOk H2 v → Q v H2) → te σ H1 Q
def EOa (ts : TA) (σ : L2.St) (H : Hp) (n : Nat) : Prop := ∀ H1, Ex H H1 → ∀ Q : List V → Hp → Prop, (∀ xs H2, Ex H1 H2 → xs.length = n → (∀ v ∈ xs, OdOk H2 v) → Q xs H2) → ts σ H1 Q
theorem OdOk.ex {H H' : Hp} {v : V} (h : OdOk H v) (x : Ex H H') : OdOk H' v := by
  obtain ⟨d, h1, h2⟩ := h
  exact ⟨d, h1.ex x, h2⟩
theorem od_of (h : ED te σ H d) (hd : isIslandD d = false ∨ d = .tuple []) : EOd te σ H := fun H1 x Q q => h H1 x _ fun v H2 x2 hv => q v H2 x2 ⟨d, .inl hv, hd⟩
theorem od_lst (h : EL te σ H ds) : EOd te σ H := fun H1 x Q q => h H1 x _ fun p xs H2 _ x2 hp _ => q _ H2 x2 ⟨.list [], .inr ⟨rfl, p, xs, rfl, hp⟩, .inl rfl⟩
theorem oa_nil : EOa tNil σ H 0 := fun H1 _ Q q => q [] H1 (Evl.Ex.refl H1) rfl nofun
theorem oa_cons {n : Nat} (h : EOd te σ H) (hs : EOa ts σ H n) : EOa (tCons te ts) σ H (n + 1) := fun H1 x Q q =>
  h H1 x _ fun v H2 x2 hv => hs H2 (x.trans x2) _ fun xs H3 x3 hl hx => q _ H3 (x2.trans x3) (by rw [List.length_cons, hl]) fun w hw => by
    rcases List.mem_cons.mp hw with e | e
    · rw [e]; exact hv.ex x3
    · exact hx w e
theorem ed_partI {C N : Addr} {r1 r2 : List Nd} {m : Nd} {ms : List Nd} (g1 : GoodR r1) (g2 : GoodR r2) (hl : lackR r1 r2 ++ lackR r2 r1 = m :: ms) (ha : ED ta σ H (toR r1)) (hb : ED tb σ H (toR r2)) : ED (tCall (spPartI C N) [] E (tCons ta (tCons tb tNil))) σ H (Datum.toD (PySem.W.minOf m ms)) := fun H1 x Q q =>
  ha H1 x _ fun v1 H2 x2 h1 => hb H2 (x.trans x2) _ fun v2 H3 x3 h2 => ⟨v1, v2, _, _, rfl, h1.ex x3, h2, .inl ⟨r1, r2, rfl, rfl, g1, g2, by
    dsimp only
    rw [hl]
    exact fun v H4 x4 hv => q v H4 ((x2.trans x3).trans x4) hv⟩⟩
theorem ed_isPart2 {C : Addr} {r1 r2 : List Nd} {row : List Pl} (g1 : GoodR r1) (g2 : GoodR r2) (h3 : isIslandD (toN row) = true) (o1 : StepOk r1 row) (o2 : StepOk r2 row) (ha : ED ta σ H (toR r1)) (hb : ED tb σ H (toR r2)) (hc : ED tc σ H (toN row)) :
    ED (tCall (spIsPart C) [] E (tCons ta (tCons tb (tCons tc tNil)))) σ H (.bool (!decide (stepR r1 row = stepR r2 row))) := fun H1 x Q q =>
  ha H1 x _ fun v1 H2 x2 h1 => hb H2 (x.trans x2) _ fun v2 H3 x3 h2 => hc H3 ((x.trans x2).trans x3) _ fun v H4 x4 hv => ⟨v1, v2, v, _, _, _, rfl, (h1.ex x3).ex x4, h2.ex x4, .inl hv, .inl ⟨r1, r2, rfl, rfl, g1, g2, .inr ⟨row, rfl, h3, o1, o2, fun H5 x5 => q _ H5 (((x2.trans x3).trans x4).trans x5) (.bl _)⟩⟩⟩
/-- is_parting of what is odd -/
theorem ed_isOdd {C : Addr} {r1 r2 : List Nd} {i : Nat} {v : V} (g1 : GoodR r1) (g2 : GoodR r2) (ha : ED ta σ H (toR r1)) (hb : ED tb σ H (toR r2)) (hi : σ[i]? = some (some v)) (hv : OdOk H v) (o1 : StepOk r1 []) (o2 : StepOk r2 []) :
    ED (tCall (spIsPart C) [] E (tCons ta (tCons tb (tCons (tVar i) tNil)))) σ H (.bool false) := fun H1 x Q q =>
  ha H1 x _ fun v1 H2 x2 h1 => hb H2 (x.trans x2) _ fun v2 H3 x3 h2 => by
    obtain ⟨d, hv, hd⟩ := hv.ex ((x.trans x2).trans x3)
    refine ⟨v, hi, v1, v2, v, _, _, d, rfl, h1.ex x3, h2, hv, .inl ⟨r1, r2, rfl, rfl, g1, g2, ?_⟩⟩
    rcases hd with h | h
    · exact .inl ⟨h, fun H4 x4 => q _ H4 ((x2.trans x3).trans x4) (.bl _)⟩
    · have key : ∀ r : List Nd, stepR r [] = [] := fun r => by
        have h0 : stepAll r [] = [] := by
          unfold stepAll
          induction r with
          | nil => rfl
          | cons n r ih => rw [List.flatMap_cons, ih] <;> rfl
        unfold stepR
        rw [h0] <;> rfl
      refine .inr ⟨[], h, by rw [h]; decide +kernel, o1, o2, fun H4 x4 => ?_⟩
      rw [key, key, decide_eq_true rfl]
      exact q _ H4 ((x2.trans x3).trans x4) (.bl _)
/-- [f x for x in range(n)] -/
theorem el_lcR {n i : Nat} (f : Nat → PyData) (hn : n ≤ 60000) (hw : ∀ v, wipe ((wipe σ [i]).set i (some v)) [i] = wipe σ [i]) (he : ∀ x H1, Ex H H1 → ED te ((wipe σ [i]).set i (some (.int (0 + (x : Nat))))) H1 (f x)) :
    EL (tLc (iRng1 (tCons (tC (.int (n : Nat))) tNil)) (gName i) tYes te [i]) σ H ((List.range n).map f) := fun H0 x0 Q q => by
  refine ⟨(n : Nat), rfl, by omega, by omega, fun L hL => ?_⟩
  refine lc_it (walk_range (lo := 0) (n := n)) (fun j Hc => Ex H0 Hc ∧ ∃ acc, Hc L = some (.lst acc) ∧ TdAll Hc acc ((List.range j).map f)) ⟨Evl.Ex.new hL, [], upd_same, .nil⟩ (fun _ _ _ _ => trivial) (fun j x Hc Hc' hj p y => ?_) fun Hc p => ?_
  · obtain ⟨e1, e2⟩ := y
    subst e1 e2
    obtain ⟨ex, acc, hacc, hT⟩ := p
    refine ⟨hw _, yes_go ?_⟩
    refine he j _ (x0.trans ex) _ (Evl.Ex.refl _) _ fun v H2 x2 hv => ?_
    have hal : acc.length = j := by rw [hT.len, List.length_map, List.length_range]
    have kk : Tk H2 (upd H2 L (.lst (acc ++ [v]))) := tk_put (x2 _ _ hacc) fun _ z => by cases z
    refine ⟨acc, x2 _ _ hacc, by rw [sizeLine_eq]; omega, Evl.Ex.mut (ex.trans x2) hL, _, upd_same, ?_⟩
    rw [List.range_succ, List.map_append]
    exact ((hT.ex x2).tk kk).snoc (hv.tk kk)
  · obtain ⟨ex, acc, hacc, hT⟩ := p
    have e : ((n : Nat) : Int).toNat = n := by omega
    exact q L acc Hc hL ex hacc hT
theorem lz1 : (1 : Nat) ≤ sizeLine := by decide
theorem lz2 : (2 : Nat) ≤ sizeLine := by decide
theorem ed_plI {x y : Int} : ED (tTup (tCons (tC (.int x)) (tCons (tC (.int y)) tNil))) σ H (Datum.toD ((x, y) : Pl)) := ed_pl ed_int ed_int
theorem ed_bigI : ED (tOp (rI0 fun i j => .int (i + j)) (tOp (rI CPow fun i j => .int (i ^ j.toNat)) (tC (.int 10)) (tC (.int 9))) (tC (.int 1))) σ H (.int 1000000001) :=
  ed_is (ed_op (ed_op ed_int ed_int (r2_I ⟨by decide, by decide, by decide⟩)) ed_int r2_I0) (congrArg PyData.int (by decide +kernel))
theorem odds : EOa (tCons (tC .non) (tCons (tLst (tCons (tTup (tCons (tC (.int 0)) (tCons (tC (.int 0)) tNil))) tNil)) (tCons (tTup (tCons (tTup (tCons (tC (.int 0)) (tCons (tC (.int 0)) tNil))) (tCons (tTup (tCons (tC (.int 0)) (tCons (tC (.int 0)) tNil))) tNil)))
    (tCons (tTup (tCons (tTup (tCons (tC (.int 1)) (tCons (tC (.int 0)) tNil))) (tCons (tTup (tCons (tC (.int 0)) (tCons (tC (.int 0)) tNil))) tNil))) (tCons (tTup (tCons (tTup (tCons (tC (.int 0)) (tCons (tC (.bl true)) tNil))) tNil)) (tCons (tC (.int 5)) (tCons (tTup tNil)
    (tCons (tTup (tCons (tTup (tCons (tC (.int 0)) (tCons (tOp (rI0 fun i j => .int (i + j)) (tOp (rI CPow fun i j => .int (i ^ j.toNat)) (tC (.int 10)) (tC (.int 9))) (tC (.int 1))) tNil))) tNil)) tNil)))))))) σ H 8 := by
  have e3 : isIslandD (.tuple [Datum.toD ((0, 0) : Pl), Datum.toD ((0, 0) : Pl)]) = false := by decide +kernel
  have e4 : isIslandD (.tuple [Datum.toD ((1, 0) : Pl), Datum.toD ((0, 0) : Pl)]) = false := by decide +kernel
  have e5 : isIslandD (.tuple [.tuple [.int 0, .bool true]]) = false := by decide +kernel
  have e8 : isIslandD (.tuple [.tuple [.int 0, .int 1000000001]]) = false := by decide +kernel
  have o8 : EOd (tTup (tCons (tTup (tCons (tC (.int 0)) (tCons (tOp (rI0 fun i j => .int (i + j)) (tOp (rI CPow fun i j => .int (i ^ j.toNat)) (tC (.int 10)) (tC (.int 9))) (tC (.int 1))) tNil))) tNil)) σ H := od_of (ed_tup (ds := [.tuple [.int 0, .int 1000000001]]) (ea_cons (ed_tup (ds := [.int 0, .int 1000000001]) (ea_cons ed_int (ea_cons ed_bigI ea_nil)) lz2) ea_nil) lz1) (.inl e8)
  have o5 : EOd (tTup (tCons (tTup (tCons (tC (.int 0)) (tCons (tC (.bl true)) tNil))) tNil)) σ H := od_of (ed_tup (ds := [.tuple [.int 0, .bool true]]) (ea_cons (ed_tup (ds := [.int 0, .bool true]) (ea_cons ed_int (ea_cons ed_bl ea_nil)) lz2) ea_nil) lz1) (.inl e5)
  have o4 : EOd (tTup (tCons (tTup (tCons (tC (.int 1)) (tCons (tC (.int 0)) tNil))) (tCons (tTup (tCons (tC (.int 0)) (tCons (tC (.int 0)) tNil))) tNil))) σ H := od_of (ed_tup (ds := [Datum.toD ((1, 0) : Pl), Datum.toD ((0, 0) : Pl)]) (ea_cons ed_plI (ea_cons ed_plI ea_nil)) lz2) (.inl e4)
  have o3 : EOd (tTup (tCons (tTup (tCons (tC (.int 0)) (tCons (tC (.int 0)) tNil))) (tCons (tTup (tCons (tC (.int 0)) (tCons (tC (.int 0)) tNil))) tNil))) σ H := od_of (ed_tup (ds := [Datum.toD ((0, 0) : Pl), Datum.toD ((0, 0) : Pl)]) (ea_cons ed_plI (ea_cons ed_plI ea_nil)) lz2) (.inl e3)
  have o2 : EOd (tLst (tCons (tTup (tCons (tC (.int 0)) (tCons (tC (.int 0)) tNil))) tNil)) σ H := od_lst (ds := [Datum.toD ((0, 0) : Pl)]) (el_lst (ea_cons ed_plI ea_nil) lz1)
  exact oa_cons (od_of ed_non (.inl rfl)) (oa_cons o2 (oa_cons o3 (oa_cons o4 (oa_cons o5 (oa_cons (od_of (d := .int 5) ed_int (.inl rfl)) (oa_cons (od_of (d := .tuple []) (ed_tup ea_nil (Nat.zero_le _)) (.inr rfl)) (oa_cons o8 oa_nil)))))))
theorem q_forOd {n : Nat} {tb : TS} {g : TG} (h : EOa ts σ H n) (hl : n ≤ sizeLine) (Pv : Hp → Nat → L2.St → Hp → Prop) (h0 : ∀ H1, Ex H H1 → Pv H1 0 σ H1) (hk : ∀ H1 i σ' H', Pv H1 i σ' H' → Ex H1 H')
    (hs : ∀ H1, Ex H H1 → ∀ i v σ' H', OdOk H1 v → Pv H1 i σ' H' → g v σ' H' fun σ2 H2 => tb { nx := Pv H1 (i + 1), rt := D.rt, ct := Pv H1 (i + 1), bk := tv D } σ2 H2)
    (hd : ∀ H1, Ex H H1 → ∀ m σ' H', Pv H1 m σ' H' → tv D σ' H') : tSeq (tFor (iTup K (tTup ts)) g tb) tv D σ H := by
  refine h H (Evl.Ex.refl H) _ fun xs H1 x1 hlen hod => ?_
  refine ⟨by rw [hlen]; exact hl, fun a ha => ?_⟩
  have x2 : Ex H1 (upd H1 a (.tup xs)) := Evl.Ex.new ha
  have haa : (upd H1 a (.tup xs)) a = some (.tup xs) := upd_same
  refine ⟨a, rfl, ⟨xs, .inl (.inl haa)⟩, ?_⟩
  refine for_it (walk_tup (xs := xs)) (Pv _) (h0 _ (x1.trans x2)) (fun i σ' H' _ p => .inl (.inl (hk _ _ _ _ p _ _ haa))) (fun i w σ' H' H'' hi p y => ?_) fun σ' H' p => hd _ (x1.trans x2) _ σ' H' p
  obtain ⟨e, hw⟩ := y
  subst e
  exact hs _ (x1.trans x2) i w σ' _ ((hod w (List.mem_of_getElem? hw)).ex x2) p
theorem fin3 {te1 te2 te3 : TE} (h1 : ED te1 σ H (Datum.toD n00)) (h2 : ED te2 σ H (.bool true)) (h3 : ED te3 σ H (.bool true)) : EL (tLst (tCons te1 (tCons te2 (tCons te3 tNil)))) σ H [Datum.toD n00, .bool true, .bool true] :=
  el_lst (ea_cons h1 (ea_cons h2 (ea_cons h3 ea_nil))) (by show 3 ≤ sizeLine; decide)
theorem part_hn {C N : Addr} (ha : ED ta σ H (toR rHere)) (hb : ED tb σ H (toR rNear)) : ED (tCall (spPartI C N) [] E (tCons ta (tCons tb tNil))) σ H (Datum.toD n00) := by
  have h := ed_partI (C := C) (N := N) (E := E) good_here good_near lack_hn ha hb
  rw [min_hn] at h
  exact h
theorem isl55 : isIslandD (toN [(5, 5)]) = true := by decide +kernel
theorem step_one {n : Nd} {ps : List Pl} (hl : ps.length ≤ 1227) (h1 : n.items ≠ []) (h2 : n.items.length ≤ 60000) : StepOk [n] ps :=
  ⟨by show 1 * ps.length ≤ 1227; omega, by omega, fun m hm => by rw [List.mem_singleton.mp hm]; exact h1, fun m hm => by rw [List.mem_singleton.mp hm]; exact h2⟩
theorem part_55 {C : Addr} (ha : ED ta σ H (toR rHere)) (hb : ED tb σ H (toR rNear)) : ED (tCall (spIsPart C) [] E (tCons ta (tCons tb (tCons (tTup (tCons (tTup (tCons (tC (.int 5)) (tCons (tC (.int 5)) tNil))) tNil)) tNil)))) σ H (.bool true) := by
  have h := ed_isPart2 (C := C) (E := E) (row := [(5, 5)]) (tc := tTup (tCons (tTup (tCons (tC (.int 5)) (tCons (tC (.int 5)) tNil))) tNil)) good_here good_near isl55 (step_one (by decide) (by decide) (by decide)) (step_one (by decide) (by decide) (by decide)) ha hb (ed_tup (ds := [Datum.toD ((5, 5) : Pl)]) (ea_cons ed_plI ea_nil) lz1)
  rw [step_55] at h
  exact h
theorem less_hb : lesserR rHere [n00, n01] = true := by decide +kernel
theorem less_both {C : Addr} (ha : ED ta σ H (toR rHere)) (hb : ED tb σ H (toR rHere)) (hc : ED tc σ H (toR rNear)) : ED (tCall (spLesser C) [] E (tCons ta (tCons (tOp (rCatA K) tb tc) tNil))) σ H (.bool true) := by
  have h0 : ED (tOp (rCatA K) tb tc) σ H (toR [n00, n01]) := ed_op hb hc (r2_cat (ds := [Datum.toD n00]) (es := [Datum.toD n01]) (by show 2 ≤ sizeLine; decide))
  have h := ed_lesser (C := C) (E := E) good_here good_both ha h0
  rw [less_hb] at h
  exact h
theorem ed_wide {i : Nat} (hw : ∀ v, wipe ((wipe σ [i]).set i (some v)) [i] = wipe σ [i]) (hi : ∀ v : V, ((wipe σ [i]).set i (some v))[i]? = some (some v)) : ED (tCB (fun xs H Q => ∃ p ys, xs = [V.ref p] ∧ ((SqL K H p ys ∧ ∀ l, H l = none → Q (.ref l) (upd H l (.tup ys))) ∨ (SqT K H p ys ∧ Q (.ref p) H))) (tCons (tLc (iRng1 (tCons (tC (.int 400)) tNil)) (gName i) tYes (tTup (tCons (tOp (rI CMul fun i j => .int (i * j)) (tC (.int 2)) (tVar i)) (tCons (tC (.int 0)) tNil))) [i]) tNil)) σ H (toN wideP) := by
  have h := el_lcR (σ := σ) (H := H) (n := 400) (i := i) (te := tTup (tCons (tOp (rI CMul fun i j => .int (i * j)) (tC (.int 2)) (tVar i)) (tCons (tC (.int 0)) tNil))) (fun x => Datum.toD ((2 * (0 + (x : Int)), 0) : Pl)) (by decide) hw (fun x H4 x5 => ed_pl (ed_op ed_int (ed_var (hi _) (.int _)) (r2_I (.inl (by decide)))) ed_int)
  have e : toN wideP = .tuple ((List.range 400).map fun x : Nat => Datum.toD ((2 * (0 + (x : Int)), 0) : Pl)) := by
    unfold toN wideP
    rw [List.map_map] <;> rfl
  rw [e]
  exact ed_tupOf h
theorem part_wide {C : Addr} (hb : ED tb σ H (toR rHere)) (hc : ED tc σ H (toN wideP)) : ED (tCall (spIsPart C) [] E (tCons (tTup (tCons (tTup (tCons (tTup (tCons (tC (.int 0)) (tCons (tC (.int 0)) tNil))) tNil)) (tCons (tTup (tCons (tTup (tCons (tC (.int 1)) (tCons (tC (.int 0)) tNil))) tNil)) tNil))) (tCons tb (tCons tc tNil)))) σ H (.bool true) := by
  have hl : wideP.length ≤ 400 := by unfold wideP; rw [List.length_map, List.length_range]; exact Nat.le_refl _
  have ha : ED (tTup (tCons (tTup (tCons (tTup (tCons (tC (.int 0)) (tCons (tC (.int 0)) tNil))) tNil)) (tCons (tTup (tCons (tTup (tCons (tC (.int 1)) (tCons (tC (.int 0)) tNil))) tNil)) tNil))) σ H (toR [n00, n10]) :=
    ed_tup (ds := [Datum.toD n00, Datum.toD n10]) (ea_cons (ed_tup (ds := [Datum.toD ((0, 0) : Pl)]) (ea_cons ed_plI ea_nil) lz1) (ea_cons (ed_tup (ds := [Datum.toD ((1, 0) : Pl)]) (ea_cons ed_plI ea_nil) lz1) ea_nil)) lz2
  have h := ed_isPart2 (C := C) (E := E) (row := wideP) good_wide good_here wide_isl (wide_ok _ (by decide) (by decide) (by decide)) (step_one (by omega) (by decide) (by decide)) ha hb hc
  rw [step_wide] at h
  exact h
abbrev finD : PyData := .list [Datum.toD n00, .bool true, .bool true, .list [.str "told", .bool true]]
theorem shw_fin : ShwD finD := ⟨by decide +kernel, by decide +kernel⟩
def spRef (T : List (Addr × Str)) : Sp := fun vs H Q _ => vs = [] ∧ LamX.Tabs T H ∧ ∀ H', LamX.ExtN H H' → LamX.Tabs T H' → Q (.bl true) H'
theorem sc51 : FnScope ["_law_here", "_law_near", "_law_worlds", "_law_one", "_law_other", "_law_due", "_law_told", "_law_odd", "_law_wide", "_law_x"] [] (defScope (topS 51)) := ⟨rfl, rfl, rfl, by decide +kernel, rfl, by decide +kernel, by decide +kernel⟩
theorem c__law_refused_right {Br Nr c0 P0 : Addr} {T : List (Addr × Str)} (D : Dn K mg "_law_refused_right" (topS 51) []) (B : Bt mg)
    (c_is_lesser : Cal P w K mg base (L2.CX P w) 6 "is_lesser" ["one", "other"] (spLesser Br)) (c_parting_island : Cal P w K mg base (L2.CX P w) 6 "parting_island" ["one", "other"] (spPartI Br Nr))
    (c_is_parting : Cal P w K mg base (L2.CX P w) 6 "is_parting" ["one", "other", "value"] (spIsPart Br)) (c__law_like : CalG P w K mg base 1 "_law_like" ["_law_got", "_law_due"] (spLike K)) (Dc : Dn K mg "_law_caught" (topS 46) ["_law_call"]) (CT : ClsT K mg Br Nr)
    (LT : LamT K mg base "_law_refused_right" (topS 51) c0 P0) (hmT : (P0, qOf "_law_refused_right") ∈ T) (hu : ∀ p ∈ T, p.1 = P0 → p.2 = qOf "_law_refused_right") : CalG P w K mg base 9 "_law_refused_right" [] (spRef T) := D.calG fun f fd F hm => by
  refine okG F sc51 (fun vs H Q E h => by obtain ⟨rfl, _⟩ := h; rfl) fun cdv A outer s H vs Q E hFI hg hr h => ?_
  obtain ⟨rfl, tb, k⟩ := h
  refine ⟨_, (pss_cons (ps_asg (pe_tup (pa_cons (pe_tup (pa_cons (pe_tup (pa_cons (pe_tup (pa_cons pe_int (pa_cons pe_int pa_nil))) pa_nil)) pa_nil)) (pa_cons (pe_tup (pa_cons (pe_tup (pa_cons (pe_tup (pa_cons pe_int (pa_cons pe_int pa_nil))) pa_nil)) pa_nil)) pa_nil))) (pg_tup (by rfl) (pgs_cons (pg_name (i := 0) sc51.nd rfl (.inr rfl)) (pgs_cons (pg_name (i := 1) sc51.nd rfl (.inl rfl)) pgs_nil)))) (pss_cons (ps_set (i := 2) sc51.nd rfl (.inl rfl) (pe_lst (pa_cons (pe_tup (pa_cons pe_non (pa_cons pe_int (pa_cons (pe_lst (pa_cons pe_str (pa_cons (pe_tup pa_nil) (pa_cons pe_bl pa_nil)))) pa_nil)))) (pa_cons (pe_tup (pa_cons (pv 0) (pa_cons pe_int (pa_cons (pe_lst (pa_cons pe_str (pa_cons (pe_tup pa_nil) (pa_cons pe_bl pa_nil)))) pa_nil)))) pa_nil)))) (pss_cons (ps_set (i := 2) sc51.nd rfl (.inl rfl) (pe_op op_cat (pv 2) (pe_lst (pa_cons (pe_tup (pa_cons (pe_tup (pa_cons (pe_tup (pa_cons (pe_tup (pa_cons pe_int (pa_cons pe_int pa_nil))) (pa_cons (pe_tup (pa_cons pe_int (pa_cons pe_int pa_nil))) pa_nil))) pa_nil)) (pa_cons pe_non (pa_cons (pe_lst (pa_cons pe_str (pa_cons (pe_tup (pa_cons pe_int pa_nil)) (pa_cons pe_bl pa_nil)))) pa_nil)))) pa_nil)))) (pss_cons (ps_expr (pe_bm PySem.F.plainAttrs_list PySem.F.slot_list_append PySem.F.type_list_append mt_append (pv 2) (pa_cons (pe_tup (pa_cons (pv 0) (pa_cons (pe_tup (pa_cons (pe_tup (pa_cons (pe_tup (pa_cons pe_int (pa_cons pe_int pa_nil))) pa_nil)) (pa_cons pe_int pa_nil))) (pa_cons (pe_lst (pa_cons pe_str (pa_cons (pe_tup (pa_cons pe_int pa_nil)) (pa_cons pe_bl pa_nil)))) pa_nil)))) pa_nil))) (pss_cons (ps_for PassesOwn.never rfl (pi_list (pv 2)) (pg_tup (by rfl) (pgs_cons (pg_name (i := 3) sc51.nd rfl (.inr rfl)) (pgs_cons (pg_name (i := 4) sc51.nd rfl (.inr rfl)) (pgs_cons (pg_name (i := 5) sc51.nd rfl (.inl rfl)) pgs_nil)))) (pss_cons (ps_set (i := 6) sc51.nd rfl (.inl rfl) (pe_lst (pa_cons (pe_caught (k := 6) Dc CT B LT hm hFI rfl rfl hmT hu hr (LamX.lamS_by (sc := defScope (topS 51)) (by decide +kernel)) rfl (fun _ _ _ _ _ => rfl) fun A outer s H E f c' hr2 => pe_cal c_is_lesser hr2 (passes_call (takes_of rfl rfl rfl rfl) fun _ _ _ _ h => h) (pa_cons (pv 3) (pa_cons (pv 4) pa_nil))) pa_nil))) (pss_cons (ps_expr (pe_bm PySem.F.plainAttrs_list PySem.F.slot_list_append PySem.F.type_list_append mt_append (pv 6) (pa_cons (pe_caught (k := 6) Dc CT B LT hm hFI rfl rfl hmT hu hr (LamX.lamS_by (sc := defScope (topS 51)) (by decide +kernel)) rfl (fun _ _ _ _ _ => rfl) fun A outer s H E f c' hr2 => pe_cal c_parting_island hr2 (passes_call (takes_of rfl rfl rfl rfl) fun _ _ _ _ h => h) (pa_cons (pv 3) (pa_cons (pv 4) pa_nil))) pa_nil))) (pss_cons (ps_expr (pe_bm PySem.F.plainAttrs_list PySem.F.slot_list_append PySem.F.type_list_append mt_append (pv 6) (pa_cons (pe_caught (k := 6) Dc CT B LT hm hFI rfl rfl hmT hu hr (LamX.lamS_by (sc := defScope (topS 51)) (by decide +kernel)) rfl (fun _ _ _ _ _ => rfl) fun A outer s H E f c' hr2 => pe_cal c_is_parting hr2 (passes_call (takes_of rfl rfl rfl rfl) fun _ _ _ _ h => h) (pa_cons (pv 3) (pa_cons (pv 4) (pa_cons pe_non pa_nil)))) pa_nil))) (pss_one (ps_if (pt_not (pt_val (pe_calG (E := E0) c__law_like hg (hr.mono (by decide)) (pa_cons (pv 6) (pa_cons (pe_op op_rep (pe_lst (pa_cons (pv 5) pa_nil)) pe_int) pa_nil))))) (pss_one (ps_ret pe_bl)) pss_nil)))))) (pss_cons (ps_for PassesOwn.never rfl (pi_tup (pe_tup (pa_cons pe_non (pa_cons (pe_lst (pa_cons (pe_tup (pa_cons pe_int (pa_cons pe_int pa_nil))) pa_nil)) (pa_cons (pe_tup (pa_cons (pe_tup (pa_cons pe_int (pa_cons pe_int pa_nil))) (pa_cons (pe_tup (pa_cons pe_int (pa_cons pe_int pa_nil))) pa_nil))) (pa_cons (pe_tup (pa_cons (pe_tup (pa_cons pe_int (pa_cons pe_int pa_nil))) (pa_cons (pe_tup (pa_cons pe_int (pa_cons pe_int pa_nil))) pa_nil))) (pa_cons (pe_tup (pa_cons (pe_tup (pa_cons pe_int (pa_cons pe_bl pa_nil))) pa_nil)) (pa_cons pe_int (pa_cons (pe_tup pa_nil) (pa_cons (pe_tup (pa_cons (pe_tup (pa_cons pe_int (pa_cons (pe_op op_add (pe_op op_pow pe_int pe_int) pe_int) pa_nil))) pa_nil)) pa_nil)))))))))) (pg_name (i := 7) sc51.nd rfl (.inl rfl)) (pss_one (ps_if (pt_not (pt_val (pe_calG (E := E0) c__law_like hg (hr.mono (by decide)) (pa_cons (pe_cal (E := E0) c_is_parting (hr.mono (by decide)) (passes_call LamX.takes0 fun _ _ _ _ h => h) (pa_cons (pv 0) (pa_cons (pv 1) (pa_cons (pv 7) pa_nil)))) (pa_cons pe_bl pa_nil))))) (pss_one (ps_ret pe_bl)) pss_nil))) (pss_cons (ps_set (i := 6) sc51.nd rfl (.inl rfl) (pe_lst (pa_cons (pe_cal (E := E0) c_parting_island (hr.mono (by decide)) (passes_call LamX.takes0 fun _ _ _ _ h => h) (pa_cons (pv 0) (pa_cons (pv 1) pa_nil))) (pa_cons (pe_cal (E := E0) c_is_parting (hr.mono (by decide)) (passes_call LamX.takes0 fun _ _ _ _ h => h) (pa_cons (pv 0) (pa_cons (pv 1) (pa_cons (pe_tup (pa_cons (pe_tup (pa_cons pe_int (pa_cons pe_int pa_nil))) pa_nil)) pa_nil)))) (pa_cons (pe_cal (E := E0) c_is_lesser (hr.mono (by decide)) (passes_call LamX.takes0 fun _ _ _ _ h => h) (pa_cons (pv 0) (pa_cons (pe_op op_catA (pv 0) (pv 1)) pa_nil))) pa_nil))))) (pss_cons (ps_set (i := 8) sc51.nd rfl (.inr rfl) (pe_callTy call_tuple_of (by rfl) B.tuple (by decide +kernel) (pa_cons (pe_lc (own := [("_law_x", 9)]) (g := (gName 9)) rfl sc51.nd (pi_range1 (by rfl) B.range (pa_cons pe_int pa_nil)) (blkOk_by (N := ["_law_here", "_law_near", "_law_worlds", "_law_one", "_law_other", "_law_due", "_law_told", "_law_odd", "_law_wide", "_law_x"]) (sc := defScope (topS 51)) (by decide +kernel)) (fun _ _ _ _ _ => (pg_name (i := 9) sc51.nd rfl (.inl rfl))) (fun _ _ _ _ _ => pts_nil) (fun _ _ _ _ _ => (pe_tup (pa_cons (pe_op op_mul pe_int (pv 9)) (pa_cons pe_int pa_nil))))) pa_nil))) (pss_cons (ps_expr (pe_bm PySem.F.plainAttrs_list PySem.F.slot_list_append PySem.F.type_list_append mt_append (pv 6) (pa_cons (pe_caught (k := 6) Dc CT B LT hm hFI rfl rfl hmT hu hr (LamX.lamS_by (sc := defScope (topS 51)) (by decide +kernel)) rfl (fun _ _ _ _ _ => rfl) fun A outer s H E f c' hr2 => pe_cal c_is_parting hr2 (passes_call (takes_of rfl rfl rfl rfl) fun _ _ _ _ h => h) (pa_cons (pe_tup (pa_cons (pe_tup (pa_cons (pe_tup (pa_cons pe_int (pa_cons pe_int pa_nil))) pa_nil)) (pa_cons (pe_tup (pa_cons (pe_tup (pa_cons pe_int (pa_cons pe_int pa_nil))) pa_nil)) pa_nil))) (pa_cons (pv 0) (pa_cons (pv 8) pa_nil)))) pa_nil))) (pss_one (ps_ret (pe_calG (E := E0) c__law_like hg (hr.mono (by decide)) (pa_cons (pv 6) (pa_cons (pe_lst (pa_cons (pe_tup (pa_cons (pe_tup (pa_cons pe_int (pa_cons pe_int pa_nil))) pa_nil)) (pa_cons pe_bl (pa_cons pe_bl (pa_cons (pe_lst (pa_cons pe_str (pa_cons pe_bl pa_nil))) pa_nil))))) pa_nil)))))))))))))), ?_⟩
  have hsl : ∀ {H : Hp} {σ : L2.St} {i : Nat} {a : Addr}, σ[i]? = some (some (.ref a)) → Evl.Ev (tVar i) σ H (.ref a) := fun {H σ i a} h H1 x Q q => ⟨.ref a, h, q H1 (Evl.Ex.refl H1)⟩
  refine q_asgT2 (ea_cons (e_one (x := 0) (y := 0)) (ea_cons (e_one (x := 0) (y := 1)) ea_nil)) fun vh vn H1 x1 hvh hvn => ?_
  have tb1 := tb.ext x1
  replace k : ∀ H', LamX.ExtN H1 H' → LamX.Tabs T H' → Q (.bl true) H' := fun H' e t => k H' ((extN_ex x1).trans e) t
  clear tb x1
  -- the worlds
  show tSeq _ _ _ _ _
  refine q_asgP (in_lst ?_)
  refine e_world (b := none) (d1 := .none) (d2 := .int 5) (p := .tuple []) ed_non ed_int (ed_tup ea_nil (by decide)) bad1 (.inl rfl) nofun H1 (Evl.Ex.refl _) _ fun t1 H2 x2 w1 => ?_
  refine in_cons ?_
  refine e_world (b := none) (d1 := toR rHere) (d2 := .int 5) (p := .tuple []) (ed_var (v := vh) rfl (hvh.ex x2)) ed_int (ed_tup ea_nil (by decide)) bad2 (.inl rfl) nofun H2 (Evl.Ex.refl _) _ fun t2 H3 x3 w2 => ?_
  refine ⟨by show 2 ≤ sizeLine; decide, fun p1 hp1 => ?_⟩
  have x4 : Ex H3 (upd H3 p1 (.lst [t1, t2])) := Evl.Ex.new hp1
  show tSeq _ _ _ _ _
  refine q_asgP ?_
  refine ⟨.ref p1, rfl, ?_⟩
  refine in_lst ?_
  refine e_world (b := none) (d1 := toR [⟨[(0, 0), (0, 0)]⟩]) (d2 := .none) (p := .tuple [.int 0]) (ed_tup (ds := [Datum.toD (⟨[(0, 0), (0, 0)]⟩ : Nd)]) (ea_cons (ed_tup (ds := [Datum.toD ((0, 0) : Pl), Datum.toD ((0, 0) : Pl)]) (ea_cons (ed_pl ed_int ed_int) (ea_cons (ed_pl ed_int ed_int) ea_nil)) (by show 2 ≤ sizeLine; decide)) ea_nil) (by show 1 ≤ sizeLine; decide)) ed_non (ed_tup (ea_cons ed_int ea_nil) (by show 1 ≤ sizeLine; decide)) bad3 (.inr (.inl rfl)) nofun _ (Evl.Ex.refl _) _ fun t3 H5 x5 w3 => ?_
  refine ⟨by show 1 ≤ sizeLine; decide, fun p2 hp2 => ?_⟩
  have x6 : Ex H5 (upd H5 p2 (.lst [t3])) := Evl.Ex.new hp2
  refine ⟨p1, p2, [t1, t2], [t3], rfl, rfl, x6 _ _ (x5 _ _ upd_same), upd_same, sz_small (by show 2 + 1 ≤ 60000; decide), fun b hb => ?_⟩
  have x56 := (x4.trans x5).trans x6
  have w1 := ((w1.ex x3).ex x56).avoid hb
  have w2 := (w2.ex x56).avoid hb
  have w3 := (w3.ex x6).avoid hb
  have xall : Ex H1 (upd H5 p2 (.lst [t3])) := (x2.trans x3).trans x56
  have eN : LamX.ExtN H1 (upd H5 p2 (.lst [t3])) := extN_ex xall
  have tb6 := tb1.ext xall
  have hvh := hvh.ex xall
  have hvn := hvn.ex xall
  replace k : ∀ H', LamX.ExtN (upd H5 p2 (.lst [t3])) H' → LamX.Tabs T H' → Q (.bl true) H' := fun H' e t => k H' (eN.trans e) t
  generalize upd H5 p2 (.lst [t3]) = H6 at hb w1 w2 w3 tb6 hvh hvn k
  clear xall eN x56 x6 x5 x4 x3 x2 tb1 hp1 hp2
  have x7 : Ex H6 (upd H6 b (.lst ([t1, t2] ++ [t3]))) := Evl.Ex.new hb
  show tSeq _ _ _ _ _
  refine ⟨.ref b, rfl, .inl ⟨rfl, _, Or.inl (Or.inl upd_same)⟩, ?_⟩
  refine in_cons ?_
  refine e_world (b := some b) (d1 := toR rHere) (d2 := .tuple [Datum.toD n00, .int 3]) (p := .tuple [.int 1]) (ed_var (v := vh) rfl (hvh.ex x7)) (ed_tup (ds := [Datum.toD n00, .int 3]) (ea_cons (ed_tup (ds := [Datum.toD ((0, 0) : Pl)]) (ea_cons (ed_pl ed_int ed_int) ea_nil) (by show 1 ≤ sizeLine; decide)) (ea_cons ed_int ea_nil)) (by show 2 ≤ sizeLine; decide)) (ed_tup (ea_cons ed_int ea_nil) (by show 1 ≤ sizeLine; decide)) bad4 (.inr (.inr rfl)) (fun a e => by cases e; rw [upd_same]; exact nofun) _ (Evl.Ex.refl _) _ fun t4 H8 x8 w4 => ?_
  have hb8 : H8 b = some (.lst [t1, t2, t3]) := x8 _ _ upd_same
  refine ⟨b, _, t4, rfl, rfl, hb8, by show 3 < sizeLine; decide, ?_⟩
  have x68 : LamX.ExtN H6 (upd H8 b (.lst ([t1, t2, t3] ++ [t4]))) := extN_put (extN_ex (x7.trans x8)) hb
  have w1 := ((w1.ex x7).ex x8).put (o := .lst ([t1, t2, t3] ++ [t4])) hb8
  have w2 := ((w2.ex x7).ex x8).put (o := .lst ([t1, t2, t3] ++ [t4])) hb8
  have w3 := ((w3.ex x7).ex x8).put (o := .lst ([t1, t2, t3] ++ [t4])) hb8
  have w4 := w4.put (o := .lst ([t1, t2, t3] ++ [t4])) hb8
  have tb9 := tabs_put (ys := [t1, t2, t3] ++ [t4]) ((tb6.ext x7).ext x8) hb8
  have hvh := hvh.tk (tk_extN x68)
  have hvn := hvn.tk (tk_extN x68)
  replace k : ∀ H', LamX.ExtN (upd H8 b (.lst ([t1, t2, t3] ++ [t4]))) H' → LamX.Tabs T H' → Q (.bl true) H' := fun H' e t => k H' (x68.trans e) t
  have hb9 : (upd H8 b (.lst ([t1, t2, t3] ++ [t4]))) b = some (.lst [t1, t2, t3, t4]) := upd_same
  generalize upd H8 b (.lst ([t1, t2, t3] ++ [t4])) = H9 at w1 w2 w3 w4 tb9 hvh hvn k hb9
  have ws : ∀ v ∈ [t1, t2, t3, t4], Wd (some b) H9 v := fun v hv => by
    rcases List.mem_cons.mp hv with rfl | hv
    · exact w1
    rcases List.mem_cons.mp hv with rfl | hv
    · exact w2
    rcases List.mem_cons.mp hv with rfl | hv
    · exact w3
    rw [List.mem_singleton.mp hv]
    exact w4
  dsimp only
  refine q_forL (a := b) (xs := [t1, t2, t3, t4]) (fun Q q => ⟨.ref b, rfl, q H9 (Evl.Ex.refl _)⟩) hb9 (fun i σ' H' => LamX.ExtN H9 H' ∧ LamX.Tabs T H' ∧ ∃ o3 o4 o5 o6, σ' = [some vh, some vn, some (.ref b), o3, o4, o5, o6, none, none, none]) (fun H1 x1 => ⟨extN_ex x1, tb9.ext x1, _, _, _, _, rfl⟩) (fun n σ' H' p => p.1 _ _ hb9 (fun _ => nofun))
    (fun i v σ' H' hv p => ?_) fun σ' H' p => ?_
  · obtain ⟨xn, tbs, o3, o4, o5, o6, rfl⟩ := p
    obtain ⟨t, v1, v2, dl, u, d1, d2, p, rfl, g1, g2, g3, g4, g5, g6, g7, g8⟩ := (ws v (List.mem_of_getElem? hv)).extN xn
    refine ⟨t, _, rfl, .inl (.inl g1), rfl, v1, _, rfl, v2, _, rfl, .ref dl, [], rfl, rfl, ?_⟩
    show tSeq _ _ _ _ _
    -- the first
    refine q_asgP (in_lst ?_)
    refine lam_bad (p := p) tbs (fun Ha E Q' xa eb => ⟨v1, rfl, v2, rfl, v1, v2, d1, d2, rfl, g3.tk (tk_extN xa), g4.tk (tk_extN xa), two_bad g7 eb⟩) fun q1 u1 Ha xa tba hq1 hu1 _ => ?_
    refine ⟨by show 1 ≤ sizeLine; decide, fun tl htl => ?_⟩
    have y1 : Ex Ha (upd Ha tl (.lst [.ref q1])) := Evl.Ex.new htl
    have n1 : q1 ≠ tl := fun e => by rw [e, htl] at hq1; cases hq1
    have tba := tba.ext y1
    have hq1 := y1 _ _ hq1
    have hu1 := hu1.ex y1
    have xa0 : LamX.ExtN H' Ha := xa
    have xa := xa.trans (extN_ex y1)
    have htl1 : (upd Ha tl (.lst [.ref q1])) tl = some (.lst [.ref q1]) := upd_same
    have hq1 : (upd Ha tl (.lst [.ref q1])) q1 = some (.lst [.str "BadRule", u1, .bl false]) := hq1
    have eb1 : LamX.ExtN Ha (upd Ha tl (.lst [.ref q1])) := extN_ex y1
    have xa0 : LamX.ExtN H' Ha := xa0
    generalize upd Ha tl (.lst [.ref q1]) = Hb at tba hq1 hu1 xa htl1 eb1
    -- the second
    show tSeq _ _ _ _ _
    refine ⟨.ref tl, rfl, .inl ⟨rfl, _, Or.inl (Or.inl htl1)⟩, ?_⟩
    refine in_cons ?_
    refine lam_bad (p := p) tba (fun Hx E Q' xx eb => ⟨v1, rfl, v2, rfl, v1, v2, d1, d2, rfl, (g3.tk (tk_extN xa)).tk (tk_extN xx), (g4.tk (tk_extN xa)).tk (tk_extN xx), two_bad g7 eb⟩) fun q2 u2 Hc xc tbc hq2 hu2 nq2 => ?_
    have n2 : q2 ≠ tl := nq2 tl _ htl1
    have htl2 : Hc tl = some (.lst [.ref q1]) := xc _ _ htl1 (fun _ => nofun)
    refine ⟨tl, _, .ref q2, rfl, rfl, htl2, by show 1 < sizeLine; decide, ?_⟩
    have kk : Tk Hc (upd Hc tl (.lst ([.ref q1] ++ [.ref q2]))) := tk_put htl2 fun _ z => by cases z
    have eb2 : LamX.ExtN Ha Hc := eb1.trans xc
    have hq1' : (upd Hc tl (.lst ([.ref q1] ++ [.ref q2]))) q1 = some (.lst [.str "BadRule", u1, .bl false]) := by rw [upd_ne n1]; exact xc _ _ hq1 (fun _ => nofun)
    have hq2' : (upd Hc tl (.lst ([.ref q1] ++ [.ref q2]))) q2 = some (.lst [.str "BadRule", u2, .bl false]) := by rw [upd_ne n2]; exact hq2
    have hu1' := (hu1.tk (tk_extN xc)).tk kk
    have hu2' := hu2.tk kk
    have tbd := tabs_put (ys := [.ref q1] ++ [.ref q2]) tbc htl2
    have xd : LamX.ExtN H' (upd Hc tl (.lst ([.ref q1] ++ [.ref q2]))) := extN_put2 xa0 htl eb2
    have htl3 : (upd Hc tl (.lst ([.ref q1] ++ [.ref q2]))) tl = some (.lst [.ref q1, .ref q2]) := upd_same
    have eb3 : LamX.ExtN Ha (upd Hc tl (.lst ([.ref q1] ++ [.ref q2]))) := extN_put eb2 htl
    generalize upd Hc tl (.lst ([.ref q1] ++ [.ref q2])) = Hd at hq1' hq2' hu1' hu2' tbd xd htl3 eb3
    clear kk eb2 htl2 hq2 hu2 nq2 tbc hq1 hu1 xa eb1 htl1 tba xc
    -- the third
    show tSeq _ _ _ _ _
    refine ⟨.ref tl, rfl, .inl ⟨rfl, _, Or.inl (Or.inl htl3)⟩, ?_⟩
    refine in_cons ?_
    refine lam_bad (p := p) tbd (fun Hx E Q' xx eb => ⟨v1, rfl, v2, rfl, v1, v2, .non, d1, d2, .none, rfl, (g3.tk (tk_extN xd)).tk (tk_extN xx), (g4.tk (tk_extN xd)).tk (tk_extN xx), .inl .non, two_bad g7 eb⟩) fun q3 u3 He xe tbe hq3 hu3 nq3 => ?_
    have n3 : q3 ≠ tl := nq3 tl _ htl3
    have htl4 : He tl = some (.lst [.ref q1, .ref q2]) := xe _ _ htl3 (fun _ => nofun)
    refine ⟨tl, _, .ref q3, rfl, rfl, htl4, by show 2 < sizeLine; decide, ?_⟩
    have kk : Tk He (upd He tl (.lst ([.ref q1, .ref q2] ++ [.ref q3]))) := tk_put htl4 fun _ z => by cases z
    have hq1'' : (upd He tl (.lst ([.ref q1, .ref q2] ++ [.ref q3]))) q1 = some (.lst [.str "BadRule", u1, .bl false]) := by rw [upd_ne n1]; exact xe _ _ hq1' (fun _ => nofun)
    have hq2'' : (upd He tl (.lst ([.ref q1, .ref q2] ++ [.ref q3]))) q2 = some (.lst [.str "BadRule", u2, .bl false]) := by rw [upd_ne n2]; exact xe _ _ hq2' (fun _ => nofun)
    have hq3'' : (upd He tl (.lst ([.ref q1, .ref q2] ++ [.ref q3]))) q3 = some (.lst [.str "BadRule", u3, .bl false]) := by rw [upd_ne n3]; exact hq3
    have hu1'' := (hu1'.tk (tk_extN xe)).tk kk
    have hu2'' := (hu2'.tk (tk_extN xe)).tk kk
    have hu3'' := hu3.tk kk
    have tbf := tabs_put (ys := [.ref q1, .ref q2] ++ [.ref q3]) tbe htl4
    have xf : LamX.ExtN H' (upd He tl (.lst ([.ref q1, .ref q2] ++ [.ref q3]))) := extN_put2 xa0 htl (eb3.trans xe)
    have htl5 : (upd He tl (.lst ([.ref q1, .ref q2] ++ [.ref q3]))) tl = some (.lst [.ref q1, .ref q2, .ref q3]) := upd_same
    generalize upd He tl (.lst ([.ref q1, .ref q2] ++ [.ref q3])) = Hf at hq1'' hq2'' hq3'' hu1'' hu2'' hu3'' tbf xf htl5
    clear kk htl4 hq3 hu3 nq3 tbe xe hq1' hq2' hu1' hu2' tbd xd htl3 eb3
    -- alike
    dsimp only
    refine s_ifN (b := !true) (Evl.et_not (et_B (b := true) fun Hg x Q' q' => ?_)) (fun hb => by cases hb) fun _ Hh x => ?_
    rotate_left
    · exact ⟨(xn.trans xf).trans (extN_ex x), tbf.ext x, _, _, _, _, rfl⟩
    refine ⟨.ref tl, rfl, .ref dl, rfl, by show 1 ≤ sizeLine; decide, fun l1 hl1 => ⟨l1, 3, _, rfl, rfl, upd_same, by decide, by decide, by show 3 ≤ sizeLine; decide, fun l2 hl2 => ?_⟩⟩
    have z1 : Ex Hg (upd Hg l1 (.lst [.ref dl])) := Evl.Ex.new hl1
    have z2 : Ex (upd Hg l1 (.lst [.ref dl])) (upd (upd Hg l1 (.lst [.ref dl])) l2 (.lst (List.replicate (3 : Int).toNat [.ref dl]).flatten)) := Evl.Ex.new hl2
    have z := (x.trans z1).trans z2
    have one : ∀ {q : Addr} {u : V}, Hf q = some (.lst [.str "BadRule", u, .bl false]) → Td Hf u p → Dp K (upd (upd Hg l1 (.lst [.ref dl])) l2 (.lst (List.replicate (3 : Int).toNat [.ref dl]).flatten)) (.ref q) (badL p) := fun {q u} a b =>
      .lst (.inl (.inl (z _ _ a))) (.cons (.str _) (.cons (b.ex z).dp (.cons (.bl _) .nil)))
    have due := one (xf _ _ g5 (fun _ => nofun)) (g6.tk (tk_extN xf))
    refine ⟨.ref tl, .ref l2, .list [badL p, badL p, badL p], rfl, .lst (.inl (.inl (z _ _ htl5))) (.cons (one hq1'' hu1'') (.cons (one hq2'' hu2'') (.cons (one hq3'' hu3'') .nil))), .lst (.inl (.inl upd_same)) (.cons due (.cons due (.cons due .nil))), shw_bad g8, q' _ _ (z1.trans z2) (.bl true)⟩
  · obtain ⟨xn, tbs, o3, o4, o5, o6, rfl⟩ := p
    have hvh := hvh.tk (tk_extN xn)
    have hvn := hvn.tk (tk_extN xn)
    replace k : ∀ H'', LamX.ExtN H' H'' → LamX.Tabs T H'' → Q (.bl true) H'' := fun H'' e t => k H'' (xn.trans e) t
    -- the odd values
    have so : ∀ n : Nd, n.items ≠ [] → n.items.length ≤ 60000 → StepOk [n] [] := fun n h1 h2 => ⟨by show 1 * 0 ≤ 1227; decide, by show 0 ≤ 1228; decide, fun m hm => by rw [List.mem_singleton.mp hm]; exact h1, fun m hm => by rw [List.mem_singleton.mp hm]; exact h2⟩
    refine q_forOd odds (by decide) (fun H1 i σ' H'' => Ex H1 H'' ∧ ∃ o7, σ' = [some vh, some vn, some (.ref b), o3, o4, o5, o6, o7, none, none]) (fun H1 x1 => ⟨Evl.Ex.refl _, _, rfl⟩) (fun H1 i σ' H'' p => p.1) (fun H1 x1 i w σ' H'' hw p => ?_) fun H1 x1 m σ' H'' p => ?_
    · obtain ⟨x3, o7, rfl⟩ := p
      have hvh := (hvh.ex x1).ex x3
      have hvn := (hvn.ex x1).ex x3
      refine s_ifN (b := !true) (Evl.et_not (et_B (ed_like (d := .bool false) (ed_isOdd good_here good_near (ed_var (v := vh) rfl hvh) (ed_var (v := vn) rfl hvn) (i := 7) (v := w) rfl (hw.ex x3) (so _ (by decide) (by decide)) (so _ (by decide) (by decide))) ed_bl (shw_bl _)))) (fun hb => by cases hb) fun _ Hh x => ?_
      exact ⟨x3.trans x, _, rfl⟩
    · obtain ⟨x3, o7, rfl⟩ := p
      have x13 := x1.trans x3
      have hvh := hvh.ex x13
      have hvn := hvn.ex x13
      have tbs := tbs.ext x13
      replace k : ∀ H3, LamX.ExtN H'' H3 → LamX.Tabs T H3 → Q (.bl true) H3 := fun H3 e t => k H3 ((extN_ex x13).trans e) t
      refine q_asgL (fin3 (part_hn (ed_var (v := vh) rfl hvh) (ed_var (v := vn) rfl hvn)) (part_55 (ed_var (v := vh) rfl hvh) (ed_var (v := vn) rfl hvn)) (less_both (ed_var (v := vh) rfl hvh) (ed_var (v := vh) rfl hvh) (ed_var (v := vn) rfl hvn))) fun tl xl H3 htl x4 htl3 hT3 => ?_
      refine q_asg (d := toN wideP) (ed_wide (fun _ => rfl) fun _ => rfl) fun vw H4 x5 hvw => ?_
      have htl4 : H4 tl = some (.lst xl) := x5 _ _ htl3
      have x45 := x4.trans x5
      refine ⟨.ref tl, rfl, .inl ⟨rfl, _, Or.inl (Or.inl htl4)⟩, in_cons ?_⟩
      refine ⟨tbs.ext x45, fun H5 xn5 tb5 => ?_⟩
      unfold TTc
      dsimp only
      refine part_wide (ed_var (v := vh) rfl ((hvh.ex x45).tk (tk_extN xn5))) (ed_var (v := vw) rfl (hvw.tk (tk_extN xn5))) H5 (Evl.Ex.refl _) _ fun v H6 x6 hv => ?_
      rw [hv.toB]
      refine ⟨lz2, fun q hq => ⟨_, rfl, ?_⟩⟩
      have x7 : Ex H6 (upd H6 q (.lst [.str "told", .bl true])) := Evl.Ex.new hq
      have htl6 : H6 tl = some (.lst xl) := x6 _ _ (xn5 _ _ htl4 (fun _ => nofun))
      have nq : q ≠ tl := fun e => by rw [e, htl6] at hq; cases hq
      have htl7 := x7 _ _ htl6
      have hxl : xl.length = 3 := hT3.len
      refine ⟨tl, xl, .ref q, rfl, rfl, htl7, by rw [hxl]; decide, ?_⟩
      have kk : Tk (upd H6 q (.lst [.str "told", .bl true])) (upd (upd H6 q (.lst [.str "told", .bl true])) tl (.lst (xl ++ [.ref q]))) := tk_put htl7 fun _ z => by cases z
      have hT8 := ((((hT3.ex x5).tk (tk_extN xn5)).ex x6).ex x7).tk kk
      have hq8 : (upd (upd H6 q (.lst [.str "told", .bl true])) tl (.lst (xl ++ [.ref q]))) q = some (.lst [.str "told", .bl true]) := by rw [upd_ne nq]; exact upd_same
      have htl8 : (upd (upd H6 q (.lst [.str "told", .bl true])) tl (.lst (xl ++ [.ref q]))) tl = some (.lst (xl ++ [.ref q])) := upd_same
      have tb8 := tabs_put (ys := xl ++ [.ref q]) ((tb5.ext x6).ext x7) htl7
      have xn8 : LamX.ExtN H'' (upd (upd H6 q (.lst [.str "told", .bl true])) tl (.lst (xl ++ [.ref q]))) := extN_put (((extN_ex x45).trans xn5).trans (extN_ex (x6.trans x7))) htl
      generalize upd (upd H6 q (.lst [.str "told", .bl true])) tl (.lst (xl ++ [.ref q])) = H8 at hT8 hq8 htl8 tb8 xn8
      -- alike
      refine ⟨.ref tl, rfl, in_cons (in_lst ?_)⟩
      refine ed_tup (ds := [Datum.toD ((0, 0) : Pl)]) (ea_cons ed_plI ea_nil) lz1 H8 (Evl.Ex.refl _) _ fun w1 H9 x9 hw1 => ?_
      refine ⟨lz2, fun p1 hp1 => ⟨by show 4 ≤ sizeLine; decide, fun p2 hp2 => ?_⟩⟩
      have y1 : Ex H9 (upd H9 p1 (.lst [.str "told", .bl true])) := Evl.Ex.new hp1
      have y2 : Ex (upd H9 p1 (.lst [.str "told", .bl true])) (upd (upd H9 p1 (.lst [.str "told", .bl true])) p2 (.lst [w1, .bl true, .bl true, .ref p1])) := Evl.Ex.new hp2
      have y := (x9.trans y1).trans y2
      have inner : ∀ {q : Addr}, (upd (upd H9 p1 (.lst [.str "told", .bl true])) p2 (.lst [w1, .bl true, .bl true, .ref p1])) q = some (.lst [.str "told", .bl true]) → Dp K (upd (upd H9 p1 (.lst [.str "told", .bl true])) p2 (.lst [w1, .bl true, .bl true, .ref p1])) (.ref q) (.list [.str "told", .bool true]) :=
        fun {q} h => .lst (.inl (.inl h)) (.cons (.str _) (.cons (.bl _) .nil))
      have dq := inner (y _ _ hq8)
      have dp1 := inner (y2 _ _ upd_same)
      have hTy := hT8.ex y
      have hwy : Td (upd (upd H9 p1 (.lst [.str "told", .bl true])) p2 (.lst [w1, .bl true, .bl true, .ref p1])) w1 (Datum.toD n00) := (hw1.ex y1).ex y2
      refine ⟨.ref tl, .ref p2, finD, rfl, ?_, .lst (.inl (.inl upd_same)) (.cons hwy.dp (.cons (.bl _) (.cons (.bl _) (.cons dp1 .nil)))), shw_fin, k _ (xn8.trans (extN_ex y)) (tb8.ext y)⟩
      have htly := y _ _ htl8
      cases hTy with
      | cons a1 r1 => cases r1 with
        | cons a2 r2 => cases r2 with
          | cons a3 r3 =>
            cases r3
            exact .lst (.inl (.inl htly)) (.cons a1.dp (.cons a2.dp (.cons a3.dp (.cons dq .nil))))
end
end Isl
end
section
set_option Elab.async false
set_option linter.all false
set_option maxRecDepth 100000
set_option maxHeartbeats 4000000
/-! law -/
namespace Isl
open PySem PySem.Spec PyProof.Rows L2
open Evl (Ex EvT)
open PySem.W (dataLt Datum DatumOrd)
section
variable {P : Program} {w : World} {K : PySem.W.Frag} {mg : Str → Option Value} {base : Heap} {ta tb te : TE} {σ : L2.St} {H : Hp} {D : Ends} {tv : TS} {d e : PyData} {ds es : List PyData} {ts : TA} {E : XK}
def spLaw (K : PySem.W.Frag) (T : List (Addr × Str)) : Sp := fun vs H Q _ => ∃ (a : Addr) (ns : List Int), vs = [.ref a] ∧ SqL K H a (ns.map V.int) ∧ ns.length ≤ 63 ∧ LamX.Tabs T H ∧ ∀ H', Q (.bl true) H'
theorem sql_extN {H H' : Hp} {a : Addr} {xs : List V} (x : LamX.ExtN H H') (h : SqL K H a xs) : SqL K H' a xs := by
  rcases h with (h | ⟨o, h⟩) | h
  · exact .inl (.inl (x _ _ h (fun _ => nofun)))
  · exact .inl (.inr ⟨o, x _ _ h (fun _ => nofun)⟩)
  · exact .inr h
theorem sc52 : FnScope ["_law_script", "_law_state", "_law_turn", "_law_one", "_law_other"] ["_law_script"] (defScope (topS 52)) := ⟨rfl, rfl, rfl, by decide +kernel, rfl, by decide +kernel, by decide +kernel⟩
theorem c_law {T : List (Addr × Str)} {f : Addr} {fd : FuncData} (F : Fun K "law" "law" (topS 52) f fd) (B : Bt mg) (c__law_refused_right : CalG P w K mg base 9 "_law_refused_right" [] (spRef T)) (c__law_begin : Cal P w K mg base CX0 1 "_law_begin" ["_law_script"] (spBegin K))
    (c__law_rule : Cal P w K mg base CX0 4 "_law_rule" ["_law_state", "_law_most", "_law_size"] spRuleD) (c__law_near_rule : Cal P w K mg base CX0 5 "_law_near_rule" ["_law_state", "_law_needs_so"] spNear) (c__law_pair_right : CalG P w K mg base 9 "_law_pair_right" ["_law_state", "_law_one", "_law_other"] (spPairR T))
    (c__law_all_sets_right : CalG P w K mg base 7 "_law_all_sets_right" ["_law_one", "_law_other"] spAll) : FnG P w K mg base 10 f fd ["_law_script"] (spLaw K T) := by
  refine okG F sc52 (fun vs H Q E h => by obtain ⟨a, ns, rfl, _⟩ := h; rfl) fun cdv A outer s H vs Q E hFI hg hr h => ?_
  obtain ⟨a, ns, rfl, hs, hlen, tb, k⟩ := h
  refine ⟨_, (pss_cons (ps_if (pt_not (pt_val (pe_calG0 (E := E0) c__law_refused_right hg (hr.mono (by decide))))) (pss_one (ps_ret pe_bl)) pss_nil) (pss_cons (ps_set (i := 1) sc52.nd rfl (.inl rfl) (pe_cal c__law_begin (hr.mono (by decide)) pass0 (pa_cons (pv 0) pa_nil))) (pss_cons (ps_for PassesOwn.never rfl (pi_range1 (by rfl) B.range (pa_cons pe_int pa_nil)) (pg_name (i := 2) sc52.nd rfl (.inl rfl)) (pss_cons (ps_set (i := 3) sc52.nd rfl (.inl rfl) (pe_cal c__law_rule (hr.mono (by decide)) pass0 (pa_cons (pv 1) (pa_cons pe_int (pa_cons pe_int pa_nil))))) (pss_cons (ps_set (i := 4) sc52.nd rfl (.inl rfl) (pe_cal c__law_near_rule (hr.mono (by decide)) pass0 (pa_cons (pv 1) (pa_cons (pv 3) pa_nil)))) (pss_cons (ps_if (PW.pt (pw_or (pt_not (pt_val (pe_calG (E := E0) c__law_pair_right hg (hr.mono (by decide)) (pa_cons (pv 1) (pa_cons (pv 3) (pa_cons (pv 4) pa_nil)))))) (pw_or1 (pt_not (pt_val (pe_calG (E := E0) c__law_pair_right hg (hr.mono (by decide)) (pa_cons (pv 1) (pa_cons (pv 4) (pa_cons (pv 3) pa_nil))))))))) (pss_one (ps_ret pe_bl)) pss_nil) (pss_one (ps_if (pt_not (pt_val (pe_calG (E := E0) c__law_all_sets_right hg (hr.mono (by decide)) (pa_cons (pv 3) (pa_cons (pv 4) pa_nil))))) (pss_one (ps_ret pe_bl)) pss_nil)))))) (pss_one (ps_ret pe_bl))))), ?_⟩
  refine ⟨rfl, tb, fun H1 x1 tb1 => ⟨true, rfl, iteF ?_⟩⟩
  have hs1 := sql_extN x1 hs
  show tSeq _ _ _ _ _
  refine ⟨.ref a, rfl, a, ns, rfl, hs1, hlen, fun d c l H2 x2 st => ?_⟩
  have tb2 := tb1.ext x2
  clear hs hs1 x1 tb tb1
  show tSeq _ _ _ _ _
  refine ⟨3, rfl, by decide, by decide, ?_⟩
  refine q_forR1 (fun i σ' H' => ∃ m, m ≤ 93 * i ∧ StOk d c l H' m ∧ LamX.Tabs T H' ∧ ∃ x y z, σ' = [some (.ref a), some (.ref d), x, y, z]) ⟨0, by omega, st, tb2, _, _, _, rfl⟩ (fun i σ' H' hi p => ?_) fun σ' H' p => k H'
  obtain ⟨m, hm, st, tb, x, y, z, rfl⟩ := p
  have hi3 : i < 3 := hi
  show tSeq _ _ _ _ _
  refine ⟨.ref d, rfl, d, c, l, m, rfl, st, by omega, fun v1 H3 r1 m1 hm1 st1 kp1 hv1 law1 => ?_⟩
  have tb1 := tabs_kp tb st kp1
  show tSeq _ _ _ _ _
  refine ⟨.ref d, rfl, v1, rfl, d, c, l, m + m1, v1, r1, rfl, st1, by omega, hv1, law1, fun v2 H4 r2 m2 hm2 st2 kp2 hv2 law2 => ?_⟩
  have tb2 := tabs_kp tb1 st1 kp2
  have hv1 := hv1.tk (kp2.tk st1)
  have law1 : LawR 4 6 r1 := law1.mono (by decide) (by decide)
  show tSeq _ _ _ _ _
  refine ⟨.ref d, rfl, v1, rfl, v2, rfl, d, c, l, m + m1 + m2, v1, v2, r1, r2, rfl, st2, by omega, hv1, hv2, law1, law2, tb2, fun H5 st3 tk3 tb3 => ⟨true, rfl, iteF ?_⟩⟩
  have hv1 := hv1.tk tk3
  have hv2 := hv2.tk tk3
  refine ⟨.ref d, rfl, v2, rfl, v1, rfl, d, c, l, m + m1 + m2 + 24, v2, v1, r2, r1, rfl, st3, by omega, hv2, hv1, law2, law1, tb3, fun H6 st4 tk4 tb4 => ⟨true, rfl, iteF ?_⟩⟩
  have hv1 := hv1.tk tk4
  have hv2 := hv2.tk tk4
  refine ⟨v1, rfl, v2, rfl, v1, v2, r1, r2, rfl, hv1, hv2, law1, law2, fun H7 x7 => ⟨true, rfl, iteF ?_⟩⟩
  exact ⟨m + m1 + m2 + 24 + 24, by omega, st4.ex x7, tb4.ext x7, _, _, _, rfl⟩
end
end Isl
end
section
set_option Elab.async false
set_option linter.all false
set_option maxRecDepth 100000
set_option maxHeartbeats 4000000
/-! the end: the law's promise at the heap behind the top -/
namespace Isl
open PySem PySem.Spec PyProof.Rows L2
/-- what is tracked at first: the tables, and the script where K does not know it -/
def H0 (K : PySem.W.Frag) (T : List Addr) (a : Addr) (vs : List Value) (ns : List Int) : Hp := fun b =>
  if b ∈ T then some (.tbl #[]) else if b = a ∧ (K.lookup a).isNone = true then some (.frz { cls := .type "list", data := .seq vs.toArray } (.lst (ns.map V.int))) else none
section
variable {P : Program} {w : World} {K : PySem.W.Frag} {mg mb : Str → Option Value} {T : List Addr} {a : Addr} {vs : List Value} {ns : List Int} {h : Heap}
theorem H0_tab {b : Addr} (hb : b ∈ T) : H0 K T a vs ns b = some (.tbl #[]) := if_pos hb
theorem H0_cases (b : Addr) : (b ∈ T ∧ H0 K T a vs ns b = some (.tbl #[])) ∨ (b ∉ T ∧ b = a ∧ K.lookup a = none ∧ H0 K T a vs ns b = some (.frz { cls := .type "list", data := .seq vs.toArray } (.lst (ns.map V.int)))) ∨ (b ∉ T ∧ (b = a → K.lookup a ≠ none) ∧ H0 K T a vs ns b = none) := by
  unfold H0
  by_cases h1 : b ∈ T
  · exact .inl ⟨h1, if_pos h1⟩
  · rw [if_neg h1]
    by_cases h2 : b = a ∧ (K.lookup a).isNone = true
    · exact .inr (.inl ⟨h1, h2.1, Option.isNone_iff_eq_none.mp h2.2, if_pos h2⟩)
    · exact .inr (.inr ⟨h1, fun e z => h2 ⟨e, by rw [z] <;> rfl⟩, if_neg h2⟩)
theorem end_call {k : Nat} {fa : Addr} {cs : List (Addr × Addr)} {fd : FuncData} {x : Str} {sp : Sp} {s₁ : Shared} (KX : K.In s₁.heap) (hns : s₁.heap.Ns mainGlobals mg) (hb : s₁.heap.Ns builtinsNs mb) (hbb : ∀ x : Str, x ≠ "__name__" → mb x = bootBuiltins x)
    (hlim : s₁.heap.NoLimit) (hg : s₁.gens = #[]) (hT : ∀ p ∈ cs, s₁.heap.get? p.2 = some { cls := .none, data := .fields #[] }) (nT : ∀ p ∈ cs, K.lookup p.2 = none) (C : ∀ p ∈ cs, PySem.W.CodeHd s₁.heap p.1 p.2)
    (hbm : ∃ (bm : Addr) (ob : Obj), mg "__builtins__" = some (.ref bm) ∧ bm ≠ builtinsNs ∧ s₁.heap.get? bm = some ob ∧ ob.cls = .type "module" ∧ ob.dict = some builtinsNs ∧ ob.data = .plain)
    (ha : s₁.heap.get? a = some { cls := .type "list", data := .seq vs.toArray }) (hi : IntsAre vs ns) (hl : ns.length ≤ sizeLine) (hr : Room k callerA)
    (F : ∀ base : Heap, K.In base → base.Ns mainGlobals mg → (∀ p ∈ cs, LamX.TabB base mg p.1 p.2) → FnG P w K mg base k fa fd [x] sp) (hbind : ∀ (s : Shared) (u : Value), BindsTo s fd ⟨[u], []⟩ [(x, u)])
    (hsp : ∀ H : Hp, (∀ p ∈ cs, H p.2 = some (.tbl #[])) → SqL K H a (ns.map V.int) → sp [.ref a] H (fun v _ => v = .bl true) fun _ _ _ => False) :
    codeAny (model P w) callerA (.call (.ref fa) ⟨[.ref a], []⟩) (fun r s' => r = .ok (.ret (.bool true)) ∧ OldK s₁.heap s'.heap ∧ s'.os = s₁.os ∧ AllBare s'.gens) s₁ := by
  have rv := vals_ints hi
  have tabAt : ∀ b : Addr, b ∈ cs.map (·.2) → s₁.heap.get? b = some { cls := .none, data := .fields #[] } ∧ K.lookup b = none := fun b hb => by
    obtain ⟨p, hp, rfl⟩ := List.mem_map.mp hb
    exact ⟨hT p hp, nT p hp⟩
  have inT : ∀ p ∈ cs, p.2 ∈ cs.map (·.2) := fun p hp => List.mem_map_of_mem hp
  have aT : a ∉ cs.map (·.2) := fun z => by
    have q := (tabAt a z).1
    rw [ha] at q
    exact nomatch (congrArg Obj.data (Option.some.inj q) : Data.seq vs.toArray _ = Data.fields #[])
  -- the start
  have cas := H0_cases (K := K) (T := cs.map (·.2)) (a := a) (vs := vs) (ns := ns)
  have tabs := fun p hp => H0_tab (K := K) (a := a) (vs := vs) (ns := ns) (inT p hp)
  generalize H0 K (cs.map (·.2)) a vs ns = H at cas tabs
  have free : ∀ {b : Addr}, b ∉ cs.map (·.2) → (b = a → K.lookup a ≠ none) → H b = none := fun {b} h1 h2 => by
    rcases cas b with ⟨z, _⟩ | ⟨_, z, zk, _⟩ | ⟨_, _, z⟩
    · exact absurd z h1
    · exact absurd zk (h2 z)
    · exact z
  have sq : SqL K H a (ns.map V.int) := by
    cases hk : K.lookup a with
    | none =>
      rcases cas a with ⟨z, _⟩ | ⟨_, _, _, z⟩ | ⟨_, z, _⟩
      · exact absurd z aT
      · exact .inl (.inr ⟨_, z⟩)
      · exact absurd hk (z rfl)
    | some o =>
      have e := KX a o hk
      rw [ha] at e
      cases e
      exact .inr ⟨_, vs.toArray, _, hk, rfl, rfl, rfl, by rw [List.size_toArray, hi.length]; exact hl, by simpa using rv⟩
  have hok : HOk P w H s₁.heap := fun b u z => by
    rcases cas b with ⟨h1, h2⟩ | ⟨_, h1, _, h2⟩ | ⟨_, _, h2⟩
    · rw [h2] at z
      cases z
      exact (tabAt b h1).1
    · rw [h2] at z
      cases z
      rw [h1]
      exact ⟨ha, by rw [List.length_map]; exact hl, vs, _, rv, ha⟩
    · rw [h2] at z
      cases z
  -- what is no list and no empty record is not tracked
  have off : ∀ {b : Addr} {o : Obj}, s₁.heap.get? b = some o → (∀ xs n, o.data ≠ .seq xs n) → o.data ≠ .fields #[] → H b = none := fun {b o} e h1 h2 =>
    free (fun z => by
      rw [(tabAt b z).1] at e
      cases e
      exact h2 rfl) fun z => by
      rw [z, ha] at e
      cases e
      exact absurd rfl (h1 _ _)
  have sub : ∀ {b : Addr} {o : Obj}, s₁.heap.get? b = some o → (∀ xs n, o.data ≠ .seq xs n) → o.data ≠ .fields #[] → (hidT s₁.heap H).get? b = some o := fun {b o} e h1 h2 => hidT_get e (off e h1 h2)
  have ns' : ∀ {b : Addr} {m : Str → Option Value}, s₁.heap.Ns b m → (hidT s₁.heap H).Ns b m := fun {b m} ⟨o, es, ep, e, d, r⟩ => ⟨o, es, ep, sub e (fun _ _ => by rw [d]; exact nofun) (by rw [d]; exact nofun), d, r⟩
  have kin : K.In (hidT s₁.heap H) := fun b o e => hidT_get (KX b o e) (free (fun z => by
    rw [(tabAt b z).2] at e
    cases e) fun z q => by
    rw [z, q] at e
    cases e)
  have tabB : ∀ p ∈ cs, LamX.TabB (hidT s₁.heap H) mg p.1 p.2 := fun p hp => by
    have hTp := hT p hp
    obtain ⟨bm, ob, b1, b2, b3, b4, b5, b6⟩ := hbm
    obtain ⟨og, eg, pg, hgo, hgd, _⟩ := hns
    have bg : bm ≠ mainGlobals := fun q => by
      rw [q, hgo] at b3
      cases b3
      rw [hgd] at b6
      cases b6
    have bp : bm ≠ p.2 := fun q => by
      rw [q, hTp] at b3
      cases b3
      cases b6
    refine ⟨?_, ⟨bm, ob, b1, b2, bg, bp, sub b3 (fun _ _ => by rw [b6]; exact nofun) (by rw [b6]; exact nofun), b4, b5, b6⟩, fun z => ?_⟩
    · obtain ⟨o, us, file, tf, flags, tg, inF, text, tt, e1, r1, r2, r3, r⟩ := C p hp
      refine ⟨o, us, file, tf, flags, tg, inF, text, tt, sub e1 (fun _ _ => by rw [r2]; exact nofun) (fun q => ?_), r1, r2, r3, r⟩
      rw [r2] at q
      cases q
      simp at r3
    · rw [z, hTp] at hgo
      cases hgo
      cases hgd
  have e0 : Env0 P w K mg (hidT s₁.heap H) callerA [] s₁ H := ⟨rfl, ⟨kin, ns' hns, ⟨mb, ns' hb, hbb⟩, hlim.elim fun mc q => ⟨mc, ns' q.1, q.2⟩⟩, fun b o e => of_hidT e, Nat.le_of_eq (hidT_size _ _), trivial, nofun, hok, .of_eq hg⟩
  refine codeAny_mono ((F _ kin (ns' hns) tabB).go callerA [] s₁ H ⟨[.ref a], []⟩ [.ref a] [.ref a] _ _ rfl hr e0 (hbind s₁ (.ref a)) (.cons rfl .nil) (hsp H tabs sq)) fun r s' z => ?_
  match r, z with
  | .error _, z => exact False.elim z
  | .ok .next, z => exact False.elim z
  | .ok .brk, z => exact False.elim z
  | .ok .cont, z => exact False.elim z
  | .ok (.ret u), ⟨v, H', os, bare, un, hok', r', q⟩ =>
    have q : v = .bl true := q
    subst q
    have r' : u = Value.bool true := r'
    subst r'
    have old : ∀ b o, s₁.heap.get? b = some o → b ∉ cs.map (·.2) → s'.heap.get? b = some o := fun b o e nb => by
      rcases cas b with ⟨h1, _⟩ | ⟨_, h1, _, h2⟩ | ⟨_, _, h2⟩
      · exact absurd h1 nb
      · obtain ⟨z, _⟩ := hok' b _ (un.frzs b _ _ h2)
        rw [h1, ha] at e
        cases e
        exact z
      · exact un.keep b o e h2 nofun nofun
    have grew : ∀ b ∈ cs.map (·.2), ∃ more : Array Value, s'.heap.get? b = some { cls := .none, data := .fields more } := fun b hb => by
      obtain ⟨p, hp, rfl⟩ := List.mem_map.mp hb
      obtain ⟨more, z⟩ := un.tbls p.2 #[] (tabs p hp)
      exact ⟨_, hok' p.2 _ z⟩
    refine ⟨rfl, ⟨fun b o e => ?_, fun b o e => ?_⟩, os, bare⟩
    · by_cases hm : b ∈ cs.map (·.2)
      · have e2 := e
        rw [(tabAt b hm).1] at e2
        cases e2
        obtain ⟨more, z⟩ := grew b hm
        obtain ⟨p, hp, rfl⟩ := List.mem_map.mp hm
        exact .inr (.inl ⟨((C p hp).tab (hT p hp)).isCodeTable, rfl, #[], more, rfl, by rw [Array.empty_append]; exact z⟩)
      · exact .inl (old b o e hm)
    · by_cases hm : b ∈ cs.map (·.2)
      · obtain ⟨more, z⟩ := grew b hm
        exact ⟨_, z⟩
      · exact ⟨o, old b o e hm⟩
end
end Isl
end
section
set_option Elab.async false
set_option linter.all false
set_option maxRecDepth 100000
set_option maxHeartbeats 4000000
/-! all together -/
namespace Isl
open PySem PySem.Spec PyProof.Rows L2
/-- what is known of the law's def at the heap h -/
def EndF (P : Program) (w : World) (K : PySem.W.Frag) (k n : Nat) (x : Str) (mg : Str → Option Value) (fa : Addr) (h : Heap) : Prop :=
  ∃ (fd : FuncData) (cs : List (Addr × Addr)) (sp : Sp), ((∀ p ∈ cs, h.get? p.2 = some { cls := .none, data := .fields #[] }) ∧ (∀ p ∈ cs, K.lookup p.2 = none) ∧ (∀ p ∈ cs, PySem.W.CodeHd h p.1 p.2)) ∧ (∀ (s : Shared) (u : Value), BindsTo s fd ⟨[u], []⟩ [(x, u)]) ∧
    (∀ (H : Hp) (a : Addr) (ns : List Int), ns.length ≤ n → (∀ p ∈ cs, H p.2 = some (.tbl #[])) → SqL K H a (ns.map V.int) → sp [.ref a] H (fun v _ => v = .bl true) fun _ _ _ => False) ∧
    ∀ base : Heap, K.In base → base.Ns mainGlobals mg → (∀ p ∈ cs, LamX.TabB base mg p.1 p.2) → FnG P w K mg base k fa fd [x] sp
theorem end_walk {l : PySem.W.OpenLaw} {n k : Nat} {q : Program} {loose : List Str} {XP : (Str → Option Value) → Heap → Prop} {YP : World → Heap → Prop} {d : DefRec} {K : Params → PySem.W.Frag} {x : Str} (hn : l.most = some n) (hn2 : n ≤ sizeLine) (hdf : d.params.defaults = []) (hr : Room k callerA)
    (hY : ∀ (w : World) (h : Heap), YP w h → (K w.params).In h)
    (F : ∀ (w : World) (mg : Str → Option Value) (fa : Addr) (h : Heap), YP w h → XP mg h → (K w.params).In h → h.Ns mainGlobals mg → mg d.name = some (.ref fa) → EndF l.prog w (K w.params) k n x mg fa h) :
    PySem.W.WalkO q loose XP YP l.row.toRowW d [] (fun f vs => PySem.call f vs) := by
  refine Att.attach_callB hn hdf fun w s₀ s₁ mg mb fa o pm cd doc a vs ns G Y ho hd hcd hmg hobj hints hlen hbits hg => ?_
  have inK := hY w _ Y
  obtain ⟨fd, cs, sp, ⟨t1, t2, t3⟩, hb, hs, hF⟩ := F w mg fa _ Y G.X inK G.T.g hmg
  exact end_call inK G.T.g G.T.b G.T.builtins G.T.nolimit hg t1 t2 t3 G.T.bmain hobj hints (Nat.le_trans hlen hn2) hr hF hb fun H h1 h2 => hs H a ns hlen h1 h2
theorem dn_mk {K : PySem.W.Frag} {h : Heap} {mg : Str → Option Value} {x : Str} {st : Stmt} {ps : List Str} {f : Addr} {oc kV doc pm cdv ct : Value} {od an : Option Addr} {osl : Array (Option Value)} (X : K.In h) (G : h.Ns mainGlobals mg) (a : PySem.W.nsIn K mainGlobals x = some (some (.ref f)))
    (l : K.lookup f = some ⟨oc, od, .func (PySem.W.fnOf x x (defArgs st) (defBody st) (defScope st) .none kV doc pm an cdv ct), osl⟩) (c : PySem.W.codeIn K cdv x = true) (k : PySem.W.keepIn K (.ref f) = true)
    (b : ∀ (kV doc pm : Value) (an : Option Addr) (cdv ct : Value) (us : List Value), us.length = ps.length → bindArgs (PySem.W.fnOf x x (defArgs st) (defBody st) (defScope st) .none kV doc pm an cdv ct) ⟨us, []⟩ = pure (ps.zip us)) : Dn K mg x st ps :=
  ⟨f, _, fun_mk l c k, PySem.W.mg_of X G a, (fun_mk l c k).binds b⟩
theorem code_mk {K : PySem.W.Frag} {h : Heap} {mg : Str → Option Value} {x : Str} {st : Stmt} {f c : Addr} {oc kV doc pm ct : Value} {od an : Option Addr} {osl : Array (Option Value)} (X : K.In h) (G : h.Ns mainGlobals mg) (a : PySem.W.nsIn K mainGlobals x = some (some (.ref f)))
    (l : K.lookup f = some ⟨oc, od, .func (PySem.W.fnOf x x (defArgs st) (defBody st) (defScope st) .none kV doc pm an (.ref c) ct), osl⟩) : ∀ f' cdv, mg x = some (.ref f') → FunIs K x x st f' cdv → cdv = .ref c := fun f' cdv h1 h2 => by
  rw [PySem.W.mg_of X G a] at h1
  cases h1
  obtain ⟨oc', od', kV', doc', pm', an', ct', osl', l'⟩ := h2
  rw [l] at l'
  have e := congrArg Obj.data (Option.some.inj l')
  have e2 : PySem.W.fnOf x x (defArgs st) (defBody st) (defScope st) .none kV doc pm an (.ref c) ct = PySem.W.fnOf x x (defArgs st) (defBody st) (defScope st) .none kV' doc' pm' an' cdv ct' := by
    injection e
  exact (congrArg FuncData.code e2).symm
theorem glob_int {p : Program} {x : Str} {i : Int} {mg : Str → Option Value} {h : Heap} (y : PySem.W.XL p [(x, PySem.W.WData.int i)] mg h) : ∃ t, mg x = some (.int i t) := by
  obtain ⟨v, a, b⟩ := y.2.val _ List.mem_cons_self
  cases b
  exact ⟨_, a⟩
end Isl
end
section
set_option Elab.async false
set_option linter.all false
set_option maxRecDepth 100000
set_option maxHeartbeats 4000000
namespace Isl
open PySem PySem.Spec PyProof.Rows L2
def tabsT (P1 P2 : Addr) : List (Addr × Str) := [(P1, qOf "_law_pair_right"), (P2, qOf "_law_refused_right")]
theorem law_all {P : Program} {w : World} {K : PySem.W.Frag} {mg : Str → Option Value} {base : Heap} {Br Nr c1 P1 c2 P2 : Addr} {f : Addr} {fd : FuncData} (D11 : Dn K mg "is_from" (topS 11) ["value", "low", "high"]) (D12 : Dn K mg "is_pair_from" (topS 12) ["value", "most"]) (D13 : Dn K mg "is_place" (topS 13) ["value"]) (D14 : Dn K mg "added" (topS 14) ["one", "other"]) (D15 : Dn K mg "taken_off" (topS 15) ["one", "other"]) (D18 : Dn K mg "is_island" (topS 18) ["value"]) (D23 : Dn K mg "is_need" (topS 23) ["value"]) (D24 : Dn K mg "odd_set" (topS 24) ["value"]) (D25 : Dn K mg "has_all" (topS 25) ["need", "other"]) (D28 : Dn K mg "holds_one" (topS 28) ["need", "rule"]) (D27 : Dn K mg "step_so" (topS 27) ["rule", "island"]) (D26 : Dn K mg "need_rule" (topS 26) ["rule"]) (D29 : Dn K mg "is_lesser" (topS 29) ["one", "other"]) (D30 : Dn K mg "parting_island" (topS 30) ["one", "other"]) (D31 : Dn K mg "is_parting" (topS 31) ["one", "other", "value"]) (D41 : Dn K mg "_law_places" (topS 41) ["_law_needs_so"]) (D44 : Dn K mg "_law_joined" (topS 44) ["_law_one", "_law_other"]) (D45 : Dn K mg "_law_marked" (topS 45) ["_law_needs_so", "_law_marks_so"]) (D48 : Dn K mg "_law_lacking" (topS 48) ["_law_one", "_law_other"]) (D40 : Dn K mg "_law_step" (topS 40) ["_law_needs_so", "_law_marks_so"]) (D42 : Dn K mg "_law_subsets" (topS 42) ["_law_things"]) (D38 : Dn K mg "_law_least_needs" (topS 38) ["_law_needs_so"]) (D33 : Dn K mg "_law_mixed" (topS 33) ["_law_cell", "_law_k"]) (D35 : Dn K mg "_law_draw" (topS 35) ["_law_state", "_law_limit"]) (D36 : Dn K mg "_law_of" (topS 36) ["_law_state", "_law_some"]) (D37 : Dn K mg "_law_need" (topS 37) ["_law_state", "_law_size"]) (D39 : Dn K mg "_law_rule" (topS 39) ["_law_state", "_law_most", "_law_size"]) (D47 : Dn K mg "_law_near_rule" (topS 47) ["_law_state", "_law_needs_so"]) (D34 : Dn K mg "_law_begin" (topS 34) ["_law_script"]) (D43 : Dn K mg "_law_like" (topS 43) ["_law_got", "_law_due"]) (D50 : Dn K mg "_law_all_sets_right" (topS 50) ["_law_one", "_law_other"]) (D49 : Dn K mg "_law_pair_right" (topS 49) ["_law_state", "_law_one", "_law_other"]) (D51 : Dn K mg "_law_refused_right" (topS 51) []) (D46 : Dn K mg "_law_caught" (topS 46) ["_law_call"])
    (B : Bt mg) (TB : BrT K P mg Br) (TN : NrT K P mg Nr) (CT : ClsT K mg Br Nr) (L1 : ∀ f cdv, mg "_law_pair_right" = some (.ref f) → FunIs K "_law_pair_right" "_law_pair_right" (topS 49) f cdv → cdv = .ref c1) (L2 : ∀ f cdv, mg "_law_refused_right" = some (.ref f) → FunIs K "_law_refused_right" "_law_refused_right" (topS 51) f cdv → cdv = .ref c2)
    (t1 : LamX.TabB base mg c1 P1) (t2 : LamX.TabB base mg c2 P2) (hne : P1 ≠ P2) (F : Fun K "law" "law" (topS 52) f fd) : FnG P w K mg base 10 f fd ["_law_script"] (spLaw K (tabsT P1 P2)) := by
  have LT1 : LamT K mg base "_law_pair_right" (topS 49) c1 P1 := ⟨L1, t1⟩
  have LT2 : LamT K mg base "_law_refused_right" (topS 51) c2 P2 := ⟨L2, t2⟩
  have hm1 : (P1, qOf "_law_pair_right") ∈ tabsT P1 P2 := List.mem_cons_self
  have hm2 : (P2, qOf "_law_refused_right") ∈ tabsT P1 P2 := List.mem_cons_of_mem _ List.mem_cons_self
  have hu1 : ∀ p ∈ tabsT P1 P2, p.1 = P1 → p.2 = qOf "_law_pair_right" := fun p hp e => by
    rcases List.mem_cons.mp hp with z | z
    · rw [z]
    · rw [List.mem_singleton.mp z] at e
      exact absurd e.symm hne
  have hu2 : ∀ p ∈ tabsT P1 P2, p.1 = P2 → p.2 = qOf "_law_refused_right" := fun p hp e => by
    rcases List.mem_cons.mp hp with z | z
    · rw [z] at e
      exact absurd e hne
    · rw [List.mem_singleton.mp z]
  have c_is_from := c_is_from (P := P) (w := w) (base := base) D11 B
  have c_is_pair_from := c_is_pair_from (P := P) (w := w) (base := base) D12 B c_is_from
  have c_is_place := c_is_place (P := P) (w := w) (base := base) D13 B c_is_pair_from
  have c_added := c_added (P := P) (w := w) (base := base) D14 B
  have c_taken_off := c_taken_off (P := P) (w := w) (base := base) D15 B
  have c_is_island := c_is_island (P := P) (w := w) (base := base) D18 B c_is_place
  have c_is_need := c_is_need (P := P) (w := w) (base := base) D23 B c_is_pair_from
  have c_odd_set := c_odd_set (P := P) (w := w) (base := base) D24 B c_is_need
  have c_has_all := c_has_all (P := P) (w := w) (base := base) D25 B
  have c_holds_one := c_holds_one (P := P) (w := w) (base := base) D28 B c_has_all
  have c_step_so := c_step_so (P := P) (w := w) (base := base) D27 B c_added c_taken_off
  have c_need_rule := c_need_rule (P := P) (w := w) (base := base) D26 B TB c_odd_set c_has_all
  have c_is_lesser := c_is_lesser (P := P) (w := w) (base := base) D29 B c_need_rule c_holds_one
  have c_parting_island := c_parting_island (P := P) (w := w) (base := base) D30 B TN c_need_rule c_holds_one
  have c_is_parting := c_is_parting (P := P) (w := w) (base := base) D31 B c_need_rule c_is_island c_step_so
  have c__law_places := c__law_places (P := P) (w := w) (base := base) D41 B
  have c__law_joined := c__law_joined (P := P) (w := w) (base := base) D44 B
  have c__law_marked := c__law_marked (P := P) (w := w) (base := base) D45 B
  have c__law_lacking := c__law_lacking (P := P) (w := w) (base := base) D48 B
  have c__law_step := c__law_step (P := P) (w := w) (base := base) D40 B
  have c__law_subsets := c__law_subsets (P := P) (w := w) (base := base) D42 B
  have c__law_least_needs := c__law_least_needs (P := P) (w := w) (base := base) D38 B
  have c__law_mixed := c__law_mixed (P := P) (w := w) (base := base) D33 B
  have c__law_draw := c__law_draw (P := P) (w := w) (base := base) D35 B c__law_mixed
  have c__law_of := c__law_of (P := P) (w := w) (base := base) D36 B c__law_draw
  have c__law_need := c__law_need (P := P) (w := w) (base := base) D37 B c__law_draw
  have c__law_rule := c__law_rule (P := P) (w := w) (base := base) D39 B c__law_draw c__law_need c__law_least_needs
  have c__law_near_rule := c__law_near_rule (P := P) (w := w) (base := base) D47 B c__law_draw c__law_need c__law_joined c__law_least_needs c__law_rule
  have c__law_begin := c__law_begin (P := P) (w := w) (base := base) D34 B
  have c__law_like := c__law_like (P := P) (w := w) (base := base) D43 B
  have c__law_all_sets_right := c__law_all_sets_right (P := P) (w := w) (base := base) D50 B c__law_places c__law_subsets c__law_marked c_is_lesser c__law_like
  have c__law_pair_right := c__law_pair_right (P := P) (w := w) (base := base) D49 B c__law_places c__law_subsets c__law_of c__law_step c__law_lacking c__law_marked c_is_lesser c_parting_island c_is_parting c__law_like D46 CT LT1 hm1 hu1
  have c__law_refused_right := c__law_refused_right (P := P) (w := w) (base := base) D51 B c_is_lesser c_parting_island c_is_parting c__law_like D46 CT LT2 hm2 hu2
  exact c_law (P := P) (w := w) (base := base) F B c__law_refused_right c__law_begin c__law_rule c__law_near_rule c__law_pair_right c__law_all_sets_right
end Isl
end
section
set_option Elab.async false
set_option linter.all false
set_option maxRecDepth 100000
set_option maxHeartbeats 4000000
namespace Isl
open PySem PySem.Spec PySem.HandSPX PyProof.Rows L2
section
variable {K : PySem.W.Frag} {h : Heap} {mg : Str → Option Value}
theorem bt_mk {t2 t3 t4 t5 : Tok} (X : K.In h) (G : h.Ns mainGlobals mg) (z1 : PySem.W.nsIn K mainGlobals "isinstance" = some none) (z2 : PySem.W.nsIn K mainGlobals "int" = some none) (z3 : PySem.W.nsIn K mainGlobals "bool" = some none) (z4 : PySem.W.nsIn K mainGlobals "tuple" = some none)
    (z5 : PySem.W.nsIn K mainGlobals "len" = some none) (z6 : PySem.W.nsIn K mainGlobals "zip" = some none) (z7 : PySem.W.nsIn K mainGlobals "enumerate" = some none) (z8 : PySem.W.nsIn K mainGlobals "range" = some none) (z9 : PySem.W.nsIn K mainGlobals "set" = some none)
    (za : PySem.W.nsIn K mainGlobals "sorted" = some none) (zb : PySem.W.nsIn K mainGlobals "list" = some none) (zc : PySem.W.nsIn K mainGlobals "min" = some none) (zd : PySem.W.nsIn K mainGlobals "repr" = some none) (MP : ∃ t, mg "MOST_PLACE" = some (.int 1000000000 t))
    (m2 : PySem.W.nsIn K mainGlobals "MOST_MARKS" = some (some (.int 400 t2))) (m3 : PySem.W.nsIn K mainGlobals "MOST_NEEDS" = some (some (.int 60 t3))) (m4 : PySem.W.nsIn K mainGlobals "MOST_PLACES" = some (some (.int 12 t4))) (m5 : PySem.W.nsIn K mainGlobals "MOST_SIZE" = some (some (.int 20 t5))) : Bt mg :=
  ⟨PySem.W.mg_none_of X G z1, PySem.W.mg_none_of X G z2, PySem.W.mg_none_of X G z3, PySem.W.mg_none_of X G z4, PySem.W.mg_none_of X G z5, PySem.W.mg_none_of X G z6, PySem.W.mg_none_of X G z7, PySem.W.mg_none_of X G z8, PySem.W.mg_none_of X G z9, PySem.W.mg_none_of X G za,
    PySem.W.mg_none_of X G zb, PySem.W.mg_none_of X G zc, PySem.W.mg_none_of X G zd, MP, ⟨t2, PySem.W.mg_of X G m2⟩, ⟨t3, PySem.W.mg_of X G m3⟩, ⟨t4, PySem.W.mg_of X G m4⟩, ⟨t5, PySem.W.mg_of X G m5⟩⟩
theorem xt_mk {P : Program} {C fI : Addr} {qual : Str} {params : Arguments} {body : List Stmt} {scope : Scope} {nm q : Str} {N : Addr} {bs bm : List Value} {sn : List Str} {sub : List Value} {ab : Bool} {col : Option Bool} {dd : Option Addr} {k0 k1 k2 k3 k5 : Option Value}
    {oc : Value} {od : Option Addr} {doc pm : Value} {an : Option Addr} {cda : Addr} {ct : Value} {osl : Array (Option Value)} {cc : Addr} {ccl cl : Value} {cdd cld : Option Addr} {vs : Array Value} {ccs csl : Array (Option Value)} {file : Str} {tf : Tok}
    (x1 : K.lookup C = some (excClassObj nm q C N bs bm true sn sub ab col dd k0 k1 k2 k3 k5 "ValueError.__new__")) (x2 : PySem.HandSPX.refsVE bm = true) (x3 : PySem.W.findIn K (.ref C) "__setattr__" = some (some (.builtin "object.__setattr__"))) (x4 : PySem.W.findIn K (.ref C) "__init__" = some (some (.ref fI)))
    (x5 : PySem.W.typeIn K (.ref fI) = some (.type "function")) (x6 : PySem.W.keepIn K (.ref C) = true) (x7 : PySem.W.ks_superIn K C C "__init__" = some (some (.builtin "ValueError.__init__"))) (x8 : PySem.W.subIn K (.ref C) (.type "ValueError") = some true)
    (x9 : PySem.W.mroIn K C (.ref C) = some true) (xa : PySem.W.nsIn K cStatics "thirdparty.any" = some none) (xb : K.lookup fI = some ⟨oc, od, .func (PySem.W.ksFn "__init__" qual params body scope .none .none doc pm an (.ref cda) ct cc), osl⟩) (xc : PySem.W.codeIn K (.ref cda) qual = true)
    (xd : K.lookup cda = some ⟨ccl, cdd, .fields vs, ccs⟩) (xe : vs[2]? = some (.str file tf)) (xf : ((P.main.file : Str) == file) = true) (xg : K.lookup cc = some ⟨cl, cld, .cell (some (.ref C)), csl⟩) : XTxt K P C fI qual params body scope :=
  ⟨⟨nm, q, N, bs, bm, sn, sub, ab, col, dd, k0, k1, k2, k3, k5, x1, x2⟩, x3, x4, x5, x6, x7, x8, x9, xa, ⟨oc, od, doc, pm, an, cda, ct, osl, cc, ccl, cl, cdd, cld, vs, ccs, csl, file, tf, xb, xc, xd, xe, xf, xg⟩⟩
end
end Isl
end
section
set_option Elab.async false
set_option linter.all false
set_option maxRecDepth 100000
set_option maxHeartbeats 4000000
namespace Isl
open PySem PySem.Spec PyProof.Rows L2
section
variable {K : PySem.W.Frag} {h : Heap} {mg : Str → Option Value}
theorem kitc_mk {D C : Addr} {b : Bool} (h2 : PySem.W.isClsIn K C = true) (h3 : PySem.W.typeIn K (.ref C) = some (.type "type")) (h4 : PySem.W.subIn K (.ref D) (.ref C) = some b) : PySem.W.kitCls K (.ref D) (.ref C) = some b := by
  have e : ((PySem.W.clsIn K C).isSome && PySem.W.typeIn K (.ref C) == some (.type "type")) = true := by
    have q : (PySem.W.clsIn K C).isSome = true := h2
    rw [q, h3] <;> rfl
  unfold PySem.W.kitCls
  exact (if_pos e).trans h4
theorem exm_mk {D C : Addr} {b : Bool} (h1 : PySem.W.subIn K (.ref C) (.type "BaseException") = some true) (h2 : PySem.W.isClsIn K C = true) (h3 : PySem.W.typeIn K (.ref C) = some (.type "type")) (h4 : PySem.W.subIn K (.ref D) (.ref C) = some b) : PySem.W.exmOne K (.ref D) (.ref C) = some b := by
  have e : (PySem.W.subIn K (.ref C) (.type "BaseException") == some true) = true := by rw [h1] <;> rfl
  unfold PySem.W.exmOne
  exact (if_pos e).trans (kitc_mk h2 h3 h4)
theorem cls_mk {Br Bi Bb Bp Bq Tg Nr Ie : Addr} (X : K.In h) (G : h.Ns mainGlobals mg)
    (gBr : PySem.W.nsIn K mainGlobals "BadRule" = some (some (.ref Br)))
    (gBi : PySem.W.nsIn K mainGlobals "BadIsland" = some (some (.ref Bi)))
    (gBb : PySem.W.nsIn K mainGlobals "BadBars" = some (some (.ref Bb)))
    (gBp : PySem.W.nsIn K mainGlobals "BadPlace" = some (some (.ref Bp)))
    (gBq : PySem.W.nsIn K mainGlobals "BadParameter" = some (some (.ref Bq)))
    (gTg : PySem.W.nsIn K mainGlobals "TooGreat" = some (some (.ref Tg)))
    (gNr : PySem.W.nsIn K mainGlobals "NoRow" = some (some (.ref Nr)))
    (gIe : PySem.W.nsIn K mainGlobals "IslandError" = some (some (.ref Ie)))
    (bBr : PySem.W.subIn K (.ref Br) (.type "BaseException") = some true) (iBr : PySem.W.isClsIn K Br = true) (tBr : PySem.W.typeIn K (.ref Br) = some (.type "type"))
    (bBi : PySem.W.subIn K (.ref Bi) (.type "BaseException") = some true) (iBi : PySem.W.isClsIn K Bi = true) (tBi : PySem.W.typeIn K (.ref Bi) = some (.type "type"))
    (bBb : PySem.W.subIn K (.ref Bb) (.type "BaseException") = some true) (iBb : PySem.W.isClsIn K Bb = true) (tBb : PySem.W.typeIn K (.ref Bb) = some (.type "type"))
    (bBp : PySem.W.subIn K (.ref Bp) (.type "BaseException") = some true) (iBp : PySem.W.isClsIn K Bp = true) (tBp : PySem.W.typeIn K (.ref Bp) = some (.type "type"))
    (bBq : PySem.W.subIn K (.ref Bq) (.type "BaseException") = some true) (iBq : PySem.W.isClsIn K Bq = true) (tBq : PySem.W.typeIn K (.ref Bq) = some (.type "type"))
    (bTg : PySem.W.subIn K (.ref Tg) (.type "BaseException") = some true) (iTg : PySem.W.isClsIn K Tg = true) (tTg : PySem.W.typeIn K (.ref Tg) = some (.type "type"))
    (bNr : PySem.W.subIn K (.ref Nr) (.type "BaseException") = some true) (iNr : PySem.W.isClsIn K Nr = true) (tNr : PySem.W.typeIn K (.ref Nr) = some (.type "type"))
    (sBr : PySem.W.subIn K (.ref Br) (.ref Br) = some true)
    (nBr : PySem.W.subIn K (.ref Nr) (.ref Br) = some false)
    (nBi : PySem.W.subIn K (.ref Nr) (.ref Bi) = some false)
    (nBb : PySem.W.subIn K (.ref Nr) (.ref Bb) = some false)
    (nBp : PySem.W.subIn K (.ref Nr) (.ref Bp) = some false)
    (nBq : PySem.W.subIn K (.ref Nr) (.ref Bq) = some false)
    (nTg : PySem.W.subIn K (.ref Nr) (.ref Tg) = some false)
    (sNr : PySem.W.subIn K (.ref Nr) (.ref Nr) = some true) (sBi : PySem.W.subIn K (.ref Br) (.ref Bi) = some false) (hne : (Value.ref Br == Value.ref Bi) = false)
    (ga : PySem.W.findIn K (.ref Br) "__getattribute__" = some (some (.builtin "BaseException.__getattribute__"))) (gg : PySem.W.findIn K (.ref Br) "__getattr__" = some none) (hd : PySem.W.hasDictIn K Br = true) (np : PySem.W.findIn K (.ref Br) "place" = some none)
    (c1 : PySem.W.findIn K (.ref Br) "__class__" = some (some (.builtin "object.__class__"))) (c2 : PySem.W.specialIn K (.builtin "object.__class__") "__get__" = some (some (.builtin "getset_descriptor.__get__"))) (c3 : PySem.W.takesIn K (.builtin "object.__class__") = some true) (c4 : PySem.W.mroIn K Br (.type "object") = some true) : ClsT K mg Br Nr :=
  ⟨Bi, Bb, Bp, Bq, Tg, Ie, ⟨PySem.W.mg_of X G gBr, PySem.W.mg_of X G gBi, PySem.W.mg_of X G gBb, PySem.W.mg_of X G gBp, PySem.W.mg_of X G gBq, PySem.W.mg_of X G gTg, PySem.W.mg_of X G gNr, PySem.W.mg_of X G gIe⟩, ⟨exm_mk bBr iBr tBr sBr, exm_mk bBr iBr tBr nBr, exm_mk bBi iBi tBi nBi, exm_mk bBb iBb tBb nBb, exm_mk bBp iBp tBp nBp, exm_mk bBq iBq tBq nBq, exm_mk bTg iTg tTg nTg, exm_mk bNr iNr tNr sNr⟩, ⟨ga, gg, bBr, hd⟩, np, ⟨iBr, ga, gg, bBr, c1, c2, c3, c4⟩, by
    unfold PySem.W.kitOne
    rw [hne]
    exact kitc_mk iBi tBi sBi⟩
end
end Isl
end
section
set_option Elab.async false
set_option linter.all false
set_option maxRecDepth 100000
set_option maxHeartbeats 4000000
namespace Isl
open PySem PySem.Spec PyProof.Rows L2
theorem end_mk {P : Program} {w : World} {K : PySem.W.Frag} {mg : Str → Option Value} {h : Heap} {fa Br Nr c1 P1 c2 P2 f : Addr} {oc kV doc pm cdv ct : Value} {od an : Option Addr} {osl : Array (Option Value)} (X : K.In h) (G : h.Ns mainGlobals mg) (hmg : mg "law" = some (.ref fa)) (D11 : Dn K mg "is_from" (topS 11) ["value", "low", "high"]) (D12 : Dn K mg "is_pair_from" (topS 12) ["value", "most"]) (D13 : Dn K mg "is_place" (topS 13) ["value"]) (D14 : Dn K mg "added" (topS 14) ["one", "other"]) (D15 : Dn K mg "taken_off" (topS 15) ["one", "other"]) (D18 : Dn K mg "is_island" (topS 18) ["value"]) (D23 : Dn K mg "is_need" (topS 23) ["value"]) (D24 : Dn K mg "odd_set" (topS 24) ["value"]) (D25 : Dn K mg "has_all" (topS 25) ["need", "other"]) (D28 : Dn K mg "holds_one" (topS 28) ["need", "rule"]) (D27 : Dn K mg "step_so" (topS 27) ["rule", "island"]) (D26 : Dn K mg "need_rule" (topS 26) ["rule"]) (D29 : Dn K mg "is_lesser" (topS 29) ["one", "other"]) (D30 : Dn K mg "parting_island" (topS 30) ["one", "other"]) (D31 : Dn K mg "is_parting" (topS 31) ["one", "other", "value"]) (D41 : Dn K mg "_law_places" (topS 41) ["_law_needs_so"]) (D44 : Dn K mg "_law_joined" (topS 44) ["_law_one", "_law_other"]) (D45 : Dn K mg "_law_marked" (topS 45) ["_law_needs_so", "_law_marks_so"]) (D48 : Dn K mg "_law_lacking" (topS 48) ["_law_one", "_law_other"]) (D40 : Dn K mg "_law_step" (topS 40) ["_law_needs_so", "_law_marks_so"]) (D42 : Dn K mg "_law_subsets" (topS 42) ["_law_things"]) (D38 : Dn K mg "_law_least_needs" (topS 38) ["_law_needs_so"]) (D33 : Dn K mg "_law_mixed" (topS 33) ["_law_cell", "_law_k"]) (D35 : Dn K mg "_law_draw" (topS 35) ["_law_state", "_law_limit"]) (D36 : Dn K mg "_law_of" (topS 36) ["_law_state", "_law_some"]) (D37 : Dn K mg "_law_need" (topS 37) ["_law_state", "_law_size"]) (D39 : Dn K mg "_law_rule" (topS 39) ["_law_state", "_law_most", "_law_size"]) (D47 : Dn K mg "_law_near_rule" (topS 47) ["_law_state", "_law_needs_so"]) (D34 : Dn K mg "_law_begin" (topS 34) ["_law_script"]) (D43 : Dn K mg "_law_like" (topS 43) ["_law_got", "_law_due"]) (D50 : Dn K mg "_law_all_sets_right" (topS 50) ["_law_one", "_law_other"]) (D49 : Dn K mg "_law_pair_right" (topS 49) ["_law_state", "_law_one", "_law_other"]) (D51 : Dn K mg "_law_refused_right" (topS 51) []) (D46 : Dn K mg "_law_caught" (topS 46) ["_law_call"])
    (B : Bt mg) (TB : BrT K P mg Br) (TN : NrT K P mg Nr) (CT : ClsT K mg Br Nr) (L1 : ∀ f cdv, mg "_law_pair_right" = some (.ref f) → FunIs K "_law_pair_right" "_law_pair_right" (topS 49) f cdv → cdv = .ref c1) (L2 : ∀ f cdv, mg "_law_refused_right" = some (.ref f) → FunIs K "_law_refused_right" "_law_refused_right" (topS 51) f cdv → cdv = .ref c2)
    (a : PySem.W.nsIn K mainGlobals "law" = some (some (.ref f))) (l : K.lookup f = some ⟨oc, od, .func (PySem.W.fnOf "law" "law" (defArgs (topS 52)) (defBody (topS 52)) (defScope (topS 52)) .none kV doc pm an cdv ct), osl⟩) (c : PySem.W.codeIn K cdv "law" = true) (k : PySem.W.keepIn K (.ref f) = true)
    (h1 : PySem.W.codeHdIn K c1 P1 = true) (h2 : PySem.W.codeHdIn K c2 P2 = true) (t1 : h.get? P1 = some { cls := .none, data := .fields #[] }) (t2 : h.get? P2 = some { cls := .none, data := .fields #[] }) (n1 : K.lookup P1 = none) (n2 : K.lookup P2 = none) (hne : P1 ≠ P2) : EndF P w K 10 63 "_law_script" mg fa h := by
  have e := hmg.symm.trans (PySem.W.mg_of X G a)
  cases e
  have both : ∀ {R : Addr × Addr → Prop}, R (c1, P1) → R (c2, P2) → ∀ p ∈ [(c1, P1), (c2, P2)], R p := fun {R} r1 r2 p hp => by
    rcases List.mem_cons.mp hp with z | z
    · rw [z]; exact r1
    · rw [List.mem_singleton.mp z]; exact r2
  refine ⟨_, [(c1, P1), (c2, P2)], spLaw K (tabsT P1 P2), ⟨both t1 t2, both n1 n2, both (PySem.W.codeHd_of_K X h1) (PySem.W.codeHd_of_K X h2)⟩, fun s u => ?_, fun H b ns hl ht hs => ⟨b, ns, rfl, hs, hl, fun p hp => ?_, fun _ => rfl⟩, fun base _ _ tb => law_all D11 D12 D13 D14 D15 D18 D23 D24 D25 D28 D27 D26 D29 D30 D31 D41 D44 D45 D48 D40 D42 D38 D33 D35 D36 D37 D39 D47 D34 D43 D50 D49 D51 D46 B TB TN CT L1 L2 (tb (c1, P1) List.mem_cons_self) (tb (c2, P2) (List.mem_cons_of_mem _ List.mem_cons_self)) hne (fun_mk l c k)⟩
  · exact .of_eq rfl
  · rcases List.mem_cons.mp hp with z | z
    · rw [z]; exact LamX.TabS.nil (ht (c1, P1) List.mem_cons_self)
    · rw [List.mem_singleton.mp z]; exact LamX.TabS.nil (ht (c2, P2) (List.mem_cons_of_mem _ List.mem_cons_self))
end Isl
end
open PySem PySem.W PyProof.Rows
set_option Elab.async false
set_option maxRecDepth 100000 in
set_option maxHeartbeats 0 in
theorem PySem.Challenge.cw_allislands_k08_whole_equal_or_parted_holds : PySem.Challenge.rw_allislands_k08_whole_equal_or_parted.Holds := by
  w_on; o_law; k_head; (case hw => w_witness2)
  k_fill
  refine Isl.end_walk (l := PySem.Challenge.rw_allislands_k08_whole_equal_or_parted) (n := 63) (k := 10) (x := "_law_script") rfl (by decide) rfl ⟨rfl, by decide, by decide⟩ (fun w h Y => PySem.W.km_in_of Y) ?F
  case F =>
    intro w mg fa h Y XPf KX G hmg
    have tabs := PySem.W.km_tabs_of Y
    have MP := Isl.glob_int XPf
    have B : Isl.Bt mg := by
      refine' Isl.bt_mk KX G ?z1 ?z2 ?z3 ?z4 ?z5 ?z6 ?z7 ?z8 ?z9 ?za ?zb ?zc ?zd MP ?m2 ?m3 ?m4 ?m5
      (case z1 => k_is); (case z2 => k_is); (case z3 => k_is); (case z4 => k_is); (case z5 => k_is); (case z6 => k_is); (case z7 => k_is); (case z8 => k_is); (case z9 => k_is); (case za => k_is); (case zb => k_is); (case zc => k_is); (case zd => k_is); (case m2 => k_is); (case m3 => k_is); (case m4 => k_is); (case m5 => k_is)
    have CT : ∃ Br Nr, Isl.ClsT (PySem.Challenge.cw_allislands_k08_whole_equal_or_parted_holds.heap_39 w.params) mg Br Nr ∧ Isl.BrT (PySem.Challenge.cw_allislands_k08_whole_equal_or_parted_holds.heap_39 w.params) PySem.Challenge.rw_allislands_k08_whole_equal_or_parted.prog mg Br ∧ Isl.NrT (PySem.Challenge.cw_allislands_k08_whole_equal_or_parted_holds.heap_39 w.params) PySem.Challenge.rw_allislands_k08_whole_equal_or_parted.prog mg Nr := by
      refine' ⟨_, _, Isl.cls_mk KX G ?g1 ?g2 ?g3 ?g4 ?g5 ?g6 ?g7 ?g8 ?b1 ?i1 ?t1 ?b2 ?i2 ?t2 ?b3 ?i3 ?t3 ?b4 ?i4 ?t4 ?b5 ?i5 ?t5 ?b6 ?i6 ?t6 ?b7 ?i7 ?t7 ?s1 ?n1 ?n2 ?n3 ?n4 ?n5 ?n6 ?s2 ?s3 ?hne ?ga ?gg ?hd ?np ?c1 ?c2 ?c3 ?c4,
        ⟨PySem.W.mg_of KX G ?d1, PySem.W.mg_none_of KX G ?d2, ⟨_, _, _, _, _, _, _, _, _, _, _, _, _, _, _, _, _, Isl.xt_mk ?x1 ?x2 ?x3 ?x4 ?x5 ?x6 ?x7 ?x8 ?x9 ?xa ?xb ?xc ?xd ?xe ?xf ?xg, ?e1⟩, ?d3, ?d4, ?d5, ?d6, ?d7⟩,
        ⟨PySem.W.mg_of KX G ?f1, PySem.W.mg_none_of KX G ?f2, ⟨_, _, _, _, _, _, _, _, _, _, _, Isl.xt_mk ?y1 ?y2 ?y3 ?y4 ?y5 ?y6 ?y7 ?y8 ?y9 ?ya ?yb ?yc ?yd ?ye ?yf ?yg, ?e2⟩, ?f4, ?f5, ?f6, ?f7⟩⟩
      all_goals first
        | k_is
        | rfl
        | decide +kernel
        | skip
    have D11 : Isl.Dn (PySem.Challenge.cw_allislands_k08_whole_equal_or_parted_holds.heap_39 w.params) mg "is_from" (Isl.topS 11) ["value", "low", "high"] := by
      refine' Isl.dn_mk KX G ?a ?l ?c ?k ?b
      (case a => k_is); (case l => k_is); (case c => k_is); (case k => k_is)
      case b => exact fun _ _ _ _ _ _ us hl => match us, hl with | [_, _, _], _ => rfl
    have D12 : Isl.Dn (PySem.Challenge.cw_allislands_k08_whole_equal_or_parted_holds.heap_39 w.params) mg "is_pair_from" (Isl.topS 12) ["value", "most"] := by
      refine' Isl.dn_mk KX G ?a ?l ?c ?k ?b
      (case a => k_is); (case l => k_is); (case c => k_is); (case k => k_is)
      case b => exact fun _ _ _ _ _ _ us hl => match us, hl with | [_, _], _ => rfl
    have D13 : Isl.Dn (PySem.Challenge.cw_allislands_k08_whole_equal_or_parted_holds.heap_39 w.params) mg "is_place" (Isl.topS 13) ["value"] := by
      refine' Isl.dn_mk KX G ?a ?l ?c ?k ?b
      (case a => k_is); (case l => k_is); (case c => k_is); (case k => k_is)
      case b => exact fun _ _ _ _ _ _ us hl => match us, hl with | [_], _ => rfl
    have D14 : Isl.Dn (PySem.Challenge.cw_allislands_k08_whole_equal_or_parted_holds.heap_39 w.params) mg "added" (Isl.topS 14) ["one", "other"] := by
      refine' Isl.dn_mk KX G ?a ?l ?c ?k ?b
      (case a => k_is); (case l => k_is); (case c => k_is); (case k => k_is)
      case b => exact fun _ _ _ _ _ _ us hl => match us, hl with | [_, _], _ => rfl
    have D15 : Isl.Dn (PySem.Challenge.cw_allislands_k08_whole_equal_or_parted_holds.heap_39 w.params) mg "taken_off" (Isl.topS 15) ["one", "other"] := by
      refine' Isl.dn_mk KX G ?a ?l ?c ?k ?b
      (case a => k_is); (case l => k_is); (case c => k_is); (case k => k_is)
      case b => exact fun _ _ _ _ _ _ us hl => match us, hl with | [_, _], _ => rfl
    have D18 : Isl.Dn (PySem.Challenge.cw_allislands_k08_whole_equal_or_parted_holds.heap_39 w.params) mg "is_island" (Isl.topS 18) ["value"] := by
      refine' Isl.dn_mk KX G ?a ?l ?c ?k ?b
      (case a => k_is); (case l => k_is); (case c => k_is); (case k => k_is)
      case b => exact fun _ _ _ _ _ _ us hl => match us, hl with | [_], _ => rfl
    have D23 : Isl.Dn (PySem.Challenge.cw_allislands_k08_whole_equal_or_parted_holds.heap_39 w.params) mg "is_need" (Isl.topS 23) ["value"] := by
      refine' Isl.dn_mk KX G ?a ?l ?c ?k ?b
      (case a => k_is); (case l => k_is); (case c => k_is); (case k => k_is)
      case b => exact fun _ _ _ _ _ _ us hl => match us, hl with | [_], _ => rfl
    have D24 : Isl.Dn (PySem.Challenge.cw_allislands_k08_whole_equal_or_parted_holds.heap_39 w.params) mg "odd_set" (Isl.topS 24) ["value"] := by
      refine' Isl.dn_mk KX G ?a ?l ?c ?k ?b
      (case a => k_is); (case l => k_is); (case c => k_is); (case k => k_is)
      case b => exact fun _ _ _ _ _ _ us hl => match us, hl with | [_], _ => rfl
    have D25 : Isl.Dn (PySem.Challenge.cw_allislands_k08_whole_equal_or_parted_holds.heap_39 w.params) mg "has_all" (Isl.topS 25) ["need", "other"] := by
      refine' Isl.dn_mk KX G ?a ?l ?c ?k ?b
      (case a => k_is); (case l => k_is); (case c => k_is); (case k => k_is)
      case b => exact fun _ _ _ _ _ _ us hl => match us, hl with | [_, _], _ => rfl
    have D28 : Isl.Dn (PySem.Challenge.cw_allislands_k08_whole_equal_or_parted_holds.heap_39 w.params) mg "holds_one" (Isl.topS 28) ["need", "rule"] := by
      refine' Isl.dn_mk KX G ?a ?l ?c ?k ?b
      (case a => k_is); (case l => k_is); (case c => k_is); (case k => k_is)
      case b => exact fun _ _ _ _ _ _ us hl => match us, hl with | [_, _], _ => rfl
    have D27 : Isl.Dn (PySem.Challenge.cw_allislands_k08_whole_equal_or_parted_holds.heap_39 w.params) mg "step_so" (Isl.topS 27) ["rule", "island"] := by
      refine' Isl.dn_mk KX G ?a ?l ?c ?k ?b
      (case a => k_is); (case l => k_is); (case c => k_is); (case k => k_is)
      case b => exact fun _ _ _ _ _ _ us hl => match us, hl with | [_, _], _ => rfl
    have D26 : Isl.Dn (PySem.Challenge.cw_allislands_k08_whole_equal_or_parted_holds.heap_39 w.params) mg "need_rule" (Isl.topS 26) ["rule"] := by
      refine' Isl.dn_mk KX G ?a ?l ?c ?k ?b
      (case a => k_is); (case l => k_is); (case c => k_is); (case k => k_is)
      case b => exact fun _ _ _ _ _ _ us hl => match us, hl with | [_], _ => rfl
    have D29 : Isl.Dn (PySem.Challenge.cw_allislands_k08_whole_equal_or_parted_holds.heap_39 w.params) mg "is_lesser" (Isl.topS 29) ["one", "other"] := by
      refine' Isl.dn_mk KX G ?a ?l ?c ?k ?b
      (case a => k_is); (case l => k_is); (case c => k_is); (case k => k_is)
      case b => exact fun _ _ _ _ _ _ us hl => match us, hl with | [_, _], _ => rfl
    have D30 : Isl.Dn (PySem.Challenge.cw_allislands_k08_whole_equal_or_parted_holds.heap_39 w.params) mg "parting_island" (Isl.topS 30) ["one", "other"] := by
      refine' Isl.dn_mk KX G ?a ?l ?c ?k ?b
      (case a => k_is); (case l => k_is); (case c => k_is); (case k => k_is)
      case b => exact fun _ _ _ _ _ _ us hl => match us, hl with | [_, _], _ => rfl
    have D31 : Isl.Dn (PySem.Challenge.cw_allislands_k08_whole_equal_or_parted_holds.heap_39 w.params) mg "is_parting" (Isl.topS 31) ["one", "other", "value"] := by
      refine' Isl.dn_mk KX G ?a ?l ?c ?k ?b
      (case a => k_is); (case l => k_is); (case c => k_is); (case k => k_is)
      case b => exact fun _ _ _ _ _ _ us hl => match us, hl with | [_, _, _], _ => rfl
    have D41 : Isl.Dn (PySem.Challenge.cw_allislands_k08_whole_equal_or_parted_holds.heap_39 w.params) mg "_law_places" (Isl.topS 41) ["_law_needs_so"] := by
      refine' Isl.dn_mk KX G ?a ?l ?c ?k ?b
      (case a => k_is); (case l => k_is); (case c => k_is); (case k => k_is)
      case b => exact fun _ _ _ _ _ _ us hl => match us, hl with | [_], _ => rfl
    have D44 : Isl.Dn (PySem.Challenge.cw_allislands_k08_whole_equal_or_parted_holds.heap_39 w.params) mg "_law_joined" (Isl.topS 44) ["_law_one", "_law_other"] := by
      refine' Isl.dn_mk KX G ?a ?l ?c ?k ?b
      (case a => k_is); (case l => k_is); (case c => k_is); (case k => k_is)
      case b => exact fun _ _ _ _ _ _ us hl => match us, hl with | [_, _], _ => rfl
    have D45 : Isl.Dn (PySem.Challenge.cw_allislands_k08_whole_equal_or_parted_holds.heap_39 w.params) mg "_law_marked" (Isl.topS 45) ["_law_needs_so", "_law_marks_so"] := by
      refine' Isl.dn_mk KX G ?a ?l ?c ?k ?b
      (case a => k_is); (case l => k_is); (case c => k_is); (case k => k_is)
      case b => exact fun _ _ _ _ _ _ us hl => match us, hl with | [_, _], _ => rfl
    have D48 : Isl.Dn (PySem.Challenge.cw_allislands_k08_whole_equal_or_parted_holds.heap_39 w.params) mg "_law_lacking" (Isl.topS 48) ["_law_one", "_law_other"] := by
      refine' Isl.dn_mk KX G ?a ?l ?c ?k ?b
      (case a => k_is); (case l => k_is); (case c => k_is); (case k => k_is)
      case b => exact fun _ _ _ _ _ _ us hl => match us, hl with | [_, _], _ => rfl
    have D40 : Isl.Dn (PySem.Challenge.cw_allislands_k08_whole_equal_or_parted_holds.heap_39 w.params) mg "_law_step" (Isl.topS 40) ["_law_needs_so", "_law_marks_so"] := by
      refine' Isl.dn_mk KX G ?a ?l ?c ?k ?b
      (case a => k_is); (case l => k_is); (case c => k_is); (case k => k_is)
      case b => exact fun _ _ _ _ _ _ us hl => match us, hl with | [_, _], _ => rfl
    have D42 : Isl.Dn (PySem.Challenge.cw_allislands_k08_whole_equal_or_parted_holds.heap_39 w.params) mg "_law_subsets" (Isl.topS 42) ["_law_things"] := by
      refine' Isl.dn_mk KX G ?a ?l ?c ?k ?b
      (case a => k_is); (case l => k_is); (case c => k_is); (case k => k_is)
      case b => exact fun _ _ _ _ _ _ us hl => match us, hl with | [_], _ => rfl
    have D38 : Isl.Dn (PySem.Challenge.cw_allislands_k08_whole_equal_or_parted_holds.heap_39 w.params) mg "_law_least_needs" (Isl.topS 38) ["_law_needs_so"] := by
      refine' Isl.dn_mk KX G ?a ?l ?c ?k ?b
      (case a => k_is); (case l => k_is); (case c => k_is); (case k => k_is)
      case b => exact fun _ _ _ _ _ _ us hl => match us, hl with | [_], _ => rfl
    have D33 : Isl.Dn (PySem.Challenge.cw_allislands_k08_whole_equal_or_parted_holds.heap_39 w.params) mg "_law_mixed" (Isl.topS 33) ["_law_cell", "_law_k"] := by
      refine' Isl.dn_mk KX G ?a ?l ?c ?k ?b
      (case a => k_is); (case l => k_is); (case c => k_is); (case k => k_is)
      case b => exact fun _ _ _ _ _ _ us hl => match us, hl with | [_, _], _ => rfl
    have D35 : Isl.Dn (PySem.Challenge.cw_allislands_k08_whole_equal_or_parted_holds.heap_39 w.params) mg "_law_draw" (Isl.topS 35) ["_law_state", "_law_limit"] := by
      refine' Isl.dn_mk KX G ?a ?l ?c ?k ?b
      (case a => k_is); (case l => k_is); (case c => k_is); (case k => k_is)
      case b => exact fun _ _ _ _ _ _ us hl => match us, hl with | [_, _], _ => rfl
    have D36 : Isl.Dn (PySem.Challenge.cw_allislands_k08_whole_equal_or_parted_holds.heap_39 w.params) mg "_law_of" (Isl.topS 36) ["_law_state", "_law_some"] := by
      refine' Isl.dn_mk KX G ?a ?l ?c ?k ?b
      (case a => k_is); (case l => k_is); (case c => k_is); (case k => k_is)
      case b => exact fun _ _ _ _ _ _ us hl => match us, hl with | [_, _], _ => rfl
    have D37 : Isl.Dn (PySem.Challenge.cw_allislands_k08_whole_equal_or_parted_holds.heap_39 w.params) mg "_law_need" (Isl.topS 37) ["_law_state", "_law_size"] := by
      refine' Isl.dn_mk KX G ?a ?l ?c ?k ?b
      (case a => k_is); (case l => k_is); (case c => k_is); (case k => k_is)
      case b => exact fun _ _ _ _ _ _ us hl => match us, hl with | [_, _], _ => rfl
    have D39 : Isl.Dn (PySem.Challenge.cw_allislands_k08_whole_equal_or_parted_holds.heap_39 w.params) mg "_law_rule" (Isl.topS 39) ["_law_state", "_law_most", "_law_size"] := by
      refine' Isl.dn_mk KX G ?a ?l ?c ?k ?b
      (case a => k_is); (case l => k_is); (case c => k_is); (case k => k_is)
      case b => exact fun _ _ _ _ _ _ us hl => match us, hl with | [_, _, _], _ => rfl
    have D47 : Isl.Dn (PySem.Challenge.cw_allislands_k08_whole_equal_or_parted_holds.heap_39 w.params) mg "_law_near_rule" (Isl.topS 47) ["_law_state", "_law_needs_so"] := by
      refine' Isl.dn_mk KX G ?a ?l ?c ?k ?b
      (case a => k_is); (case l => k_is); (case c => k_is); (case k => k_is)
      case b => exact fun _ _ _ _ _ _ us hl => match us, hl with | [_, _], _ => rfl
    have D34 : Isl.Dn (PySem.Challenge.cw_allislands_k08_whole_equal_or_parted_holds.heap_39 w.params) mg "_law_begin" (Isl.topS 34) ["_law_script"] := by
      refine' Isl.dn_mk KX G ?a ?l ?c ?k ?b
      (case a => k_is); (case l => k_is); (case c => k_is); (case k => k_is)
      case b => exact fun _ _ _ _ _ _ us hl => match us, hl with | [_], _ => rfl
    have D43 : Isl.Dn (PySem.Challenge.cw_allislands_k08_whole_equal_or_parted_holds.heap_39 w.params) mg "_law_like" (Isl.topS 43) ["_law_got", "_law_due"] := by
      refine' Isl.dn_mk KX G ?a ?l ?c ?k ?b
      (case a => k_is); (case l => k_is); (case c => k_is); (case k => k_is)
      case b => exact fun _ _ _ _ _ _ us hl => match us, hl with | [_, _], _ => rfl
    have D50 : Isl.Dn (PySem.Challenge.cw_allislands_k08_whole_equal_or_parted_holds.heap_39 w.params) mg "_law_all_sets_right" (Isl.topS 50) ["_law_one", "_law_other"] := by
      refine' Isl.dn_mk KX G ?a ?l ?c ?k ?b
      (case a => k_is); (case l => k_is); (case c => k_is); (case k => k_is)
      case b => exact fun _ _ _ _ _ _ us hl => match us, hl with | [_, _], _ => rfl
    have D49 : Isl.Dn (PySem.Challenge.cw_allislands_k08_whole_equal_or_parted_holds.heap_39 w.params) mg "_law_pair_right" (Isl.topS 49) ["_law_state", "_law_one", "_law_other"] := by
      refine' Isl.dn_mk KX G ?a ?l ?c ?k ?b
      (case a => k_is); (case l => k_is); (case c => k_is); (case k => k_is)
      case b => exact fun _ _ _ _ _ _ us hl => match us, hl with | [_, _, _], _ => rfl
    have D51 : Isl.Dn (PySem.Challenge.cw_allislands_k08_whole_equal_or_parted_holds.heap_39 w.params) mg "_law_refused_right" (Isl.topS 51) [] := by
      refine' Isl.dn_mk KX G ?a ?l ?c ?k ?b
      (case a => k_is); (case l => k_is); (case c => k_is); (case k => k_is)
      case b => exact fun _ _ _ _ _ _ us hl => match us, hl with | [], _ => rfl
    have D46 : Isl.Dn (PySem.Challenge.cw_allislands_k08_whole_equal_or_parted_holds.heap_39 w.params) mg "_law_caught" (Isl.topS 46) ["_law_call"] := by
      refine' Isl.dn_mk KX G ?a ?l ?c ?k ?b
      (case a => k_is); (case l => k_is); (case c => k_is); (case k => k_is)
      case b => exact fun _ _ _ _ _ _ us hl => match us, hl with | [_], _ => rfl
    obtain ⟨Br, Nr, CT, TB, TN⟩ := CT
    first
      | (refine' Isl.end_mk (P1 := 375) (P2 := 365) KX G hmg D11 D12 D13 D14 D15 D18 D23 D24 D25 D28 D27 D26 D29 D30 D31 D41 D44 D45 D48 D40 D42 D38 D33 D35 D36 D37 D39 D47 D34 D43 D50 D49 D51 D46 B TB TN CT (Isl.code_mk KX G ?zz_a1 ?zz_l1) (Isl.code_mk KX G ?zz_a2 ?zz_l2) ?zz_a ?zz_l ?zz_c ?zz_k ?zz_h1 ?zz_h2 (tabs 375 (by decide)) (tabs 365 (by decide)) ?zz_n1 ?zz_n2 (by decide)
         (case zz_a1 => k_is); (case zz_l1 => k_is); (case zz_a2 => k_is); (case zz_l2 => k_is); (case zz_a => k_is); (case zz_l => k_is); (case zz_c => k_is); (case zz_k => k_is)
         (case zz_h1 => rfl); (case zz_h2 => rfl); (case zz_n1 => rfl); (case zz_n2 => rfl))
      | (refine' Isl.end_mk (P1 := 365) (P2 := 375) KX G hmg D11 D12 D13 D14 D15 D18 D23 D24 D25 D28 D27 D26 D29 D30 D31 D41 D44 D45 D48 D40 D42 D38 D33 D35 D36 D37 D39 D47 D34 D43 D50 D49 D51 D46 B TB TN CT (Isl.code_mk KX G ?zz_a1 ?zz_l1) (Isl.code_mk KX G ?zz_a2 ?zz_l2) ?zz_a ?zz_l ?zz_c ?zz_k ?zz_h1 ?zz_h2 (tabs 365 (by decide)) (tabs 375 (by decide)) ?zz_n1 ?zz_n2 (by decide)
         (case zz_a1 => k_is); (case zz_l1 => k_is); (case zz_a2 => k_is); (case zz_l2 => k_is); (case zz_a => k_is); (case zz_l => k_is); (case zz_c => k_is); (case zz_k => k_is)
         (case zz_h1 => rfl); (case zz_h2 => rfl); (case zz_n1 => rfl); (case zz_n2 => rfl))
