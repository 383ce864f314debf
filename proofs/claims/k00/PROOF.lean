import PyProof.Rows.All
import Wide.All
import OpenK.AllK
import Wide.FinOn
import HandS.ForMost
import HandS.ForExc
import HandS.IsInst
import KE.KExcSuper
import KE.KExcIs
import HandS.ExcValue
import HandS.ExcIs
import HandS.ExcField
import HandS.DictComp
import HandS.HeadEnd
import HandS.Defaults
import HandS.HeadHook1
import HandS.HeadHook2
import HandS.Head0
import HandS.Head1
import HandS.Head2
import HandS.Wide
import KE.KEqSeq
import PySem.Challenge.RW_onestroke_k00_errors_and_limits
set_option Elab.async false
set_option linter.all false
set_option maxRecDepth 100000
set_option maxHeartbeats 4000000
/-! The errors of the package: classes over a built-in error whose __init__ says super().__init__(..) and keeps its fields. -/
namespace ErX
open PySem PySem.W PySem.Calls PyProof.Rows PySem.Spec PySem.Builtin.ObjectAttr
/-! ### the text of an __init__ with one field -/
def iA1 (f : Str) (p1 p2 : Pos) : Arguments :=
  { posonlyargs := [], args := [⟨"self", none, p1⟩, ⟨f, none, p2⟩], vararg := none, kwonlyargs := [], kw_defaults := [], kwarg := none, defaults := [] }
def supE (es : List Expr) (q1 q2 q3 q5 : Pos) : Stmt :=
  .Expr (.Call (.Attribute (.Call (.Name "super" q1) [] [] q2) "__init__" q3) es [] q5) q5
def setE (f : Str) (q1 q2 q3 q4 : Pos) : Stmt := .Assign [.Attribute (.Name "self" q1) f q2] (.Name f q3) q4
def iB1 (f : Str) (q1 q2 q3 q4 q5 r1 r2 r3 r4 : Pos) : List Stmt := [supE [.Name f q4] q1 q2 q3 q5, setE f r1 r2 r3 r4]
def iS1 (f : Str) : Scope :=
  { kind := .function, names := [(PySem.Str.ofString "self", .local), (f, .local), (PySem.Str.ofString "__class__", .free), (PySem.Str.ofString "super", .globalImplicit)], isGenerator := false, isCoroutine := false, more := [] }
/-- what the written part says of an error class at C over the built-in B -/
structure ErrC (P : Program) (K : Frag) (mg : Str → Option Value) (B nw ini : String) (bmB : List Value) (x : Str) (C fI : Addr) : Prop where
  FB : ExcBaseFacts B nw ini bmB
  SF : StoreFacts B bmB "object.__setattr__" "object"
  KF : KxsFacts B ini
  gC : mg x = some (.ref C)
  q : excInitIn K C bmB nw = true
  hi : findIn K (.ref C) "__init__" = some (some (.ref fI))
  hf : isFn K (.ref fI) = true
  ov : excOver K C bmB = true
  sa : findIn K (.ref C) "__setattr__" = some (some (.builtin "object.__setattr__"))
  ga : findIn K (.ref C) "__getattribute__" = some (some (.builtin "BaseException.__getattribute__"))
  gg : findIn K (.ref C) "__getattr__" = some none
  kC : keepIn K (.ref C) = true
  exC : subIn K (.ref C) (.type "BaseException") = some true
  exB : subIn K (.ref C) (.type B) = some true
  tyC : typeIn K (.ref C) = some (.type "type")
  hdC : hasDictIn K C = true
  op : nsIn K cStatics "thirdparty.any" = some none
  sup : ks_superIn K C C "__init__" = some (some (.builtin ini))
  meC : mroIn K C (.ref C) = some true
  gsup : mg "super" = none
  top : (P.main.scope.names.lookup ("super" : Str)).isSome = false
/-! ### two fields -/
def iA2 (f1 f2 : Str) (p1 p2 p3 : Pos) : Arguments :=
  { posonlyargs := [], args := [⟨"self", none, p1⟩, ⟨f1, none, p2⟩, ⟨f2, none, p3⟩], vararg := none, kwonlyargs := [], kw_defaults := [], kwarg := none, defaults := [] }
def iB2 (f1 f2 : Str) (q1 q2 q3 q4 q6 q5 r1 r2 r3 r4 u1 u2 u3 u4 : Pos) : List Stmt := [supE [.Name f1 q4, .Name f2 q6] q1 q2 q3 q5, setE f1 r1 r2 r3 r4, setE f2 u1 u2 u3 u4]
def iS2 (f1 f2 : Str) : Scope :=
  { kind := .function, names := [(PySem.Str.ofString "self", .local), (f1, .local), (f2, .local), (PySem.Str.ofString "__class__", .free), (PySem.Str.ofString "super", .globalImplicit)], isGenerator := false, isCoroutine := false, more := [] }
def Fn2 (P : Program) (K : Frag) (C fI : Addr) (f1 f2 : Str) : Prop :=
  ∃ (oc : Value) (od : Option Addr) (osl : Array (Option Value)) (qn : Str) (kV doc pm : Value) (an : Option Addr) (cda : Addr) (ct : Value) (cc : Addr) (p1 p2 p3 q1 q2 q3 q4 q6 q5 r1 r2 r3 r4 u1 u2 u3 u4 : Pos)
    (ccl : Value) (cdd : Option Addr) (vs : Array Value) (ccs : Array (Option Value)) (file : Str) (tf : Tok) (cl : Value) (cld : Option Addr) (csl : Array (Option Value)),
    K.lookup fI = some ⟨oc, od, .func (ksFn "__init__" qn (iA2 f1 f2 p1 p2 p3) (iB2 f1 f2 q1 q2 q3 q4 q6 q5 r1 r2 r3 r4 u1 u2 u3 u4) (iS2 f1 f2) .none kV doc pm an (.ref cda) ct cc), osl⟩ ∧
    codeIn K (.ref cda) qn = true ∧ K.lookup cda = some ⟨ccl, cdd, .fields vs, ccs⟩ ∧ vs[2]? = some (.str file tf) ∧ ((P.main.file : Str) == file) = true ∧ (q3.endLine == q5.line) = true ∧
    K.lookup cc = some ⟨cl, cld, .cell (some (.ref C)), csl⟩
structure Nm2 (f1 f2 : Str) : Prop where
  l1 : (iS2 f1 f2).names.lookup f1 = some .local
  l2 : (iS2 f1 f2).names.lookup f2 = some .local
  s : (iS2 f1 f2).names.lookup ("self" : Str) = some .local
  c : (iS2 f1 f2).names.lookup ("__class__" : Str) = some .free
  u : (iS2 f1 f2).names.lookup ("super" : Str) = some .globalImplicit
  n : ∀ y ∈ (iS2 f1 f2).names, y.2 ≠ .cell
  m : ∀ (a b c : Value), ([(("self" : Str), a), (f1, b), (f2, c)].reverse).lookup ("self" : Str) = some a
  m1 : ∀ (a b c : Value), ([(("self" : Str), a), (f1, b), (f2, c)].reverse).lookup f1 = some b
  d1 : (f1 == ("__debug__" : Str)) = false
  d2 : (f2 == ("__debug__" : Str)) = false
  ne : ¬ f2 = f1
/-- the function object of an __init__ with one field -/
def Fn1 (P : Program) (K : Frag) (C fI : Addr) (f : Str) : Prop :=
  ∃ (oc : Value) (od : Option Addr) (osl : Array (Option Value)) (qn : Str) (kV doc pm : Value) (an : Option Addr) (cda : Addr) (ct : Value) (cc : Addr) (p1 p2 q1 q2 q3 q4 q5 r1 r2 r3 r4 : Pos)
    (ccl : Value) (cdd : Option Addr) (vs : Array Value) (ccs : Array (Option Value)) (file : Str) (tf : Tok) (cl : Value) (cld : Option Addr) (csl : Array (Option Value)),
    K.lookup fI = some ⟨oc, od, .func (ksFn "__init__" qn (iA1 f p1 p2) (iB1 f q1 q2 q3 q4 q5 r1 r2 r3 r4) (iS1 f) .none kV doc pm an (.ref cda) ct cc), osl⟩ ∧
    codeIn K (.ref cda) qn = true ∧ K.lookup cda = some ⟨ccl, cdd, .fields vs, ccs⟩ ∧ vs[2]? = some (.str file tf) ∧ ((P.main.file : Str) == file) = true ∧ (q3.endLine == q5.line) = true ∧
    K.lookup cc = some ⟨cl, cld, .cell (some (.ref C)), csl⟩
/-- what is asked of a field's name -/
structure Nm1 (f : Str) : Prop where
  l : (iS1 f).names.lookup f = some .local
  s : (iS1 f).names.lookup ("self" : Str) = some .local
  c : (iS1 f).names.lookup ("__class__" : Str) = some .free
  u : (iS1 f).names.lookup ("super" : Str) = some .globalImplicit
  n : ∀ y ∈ (iS1 f).names, y.2 ≠ .cell
  m : ∀ (a b : Value), ([(("self" : Str), a), (f, b)].reverse).lookup ("self" : Str) = some a
  d : (f == ("__debug__" : Str)) = false
/-- what an __init__ leaves of a fresh error at x: its dict at dx holds fs -/
structure InitEnd (h h' : Heap) (x C dx t1 : Addr) (m : Str → Option Value) : Prop where
  keep : ∀ b o, b ≠ x → h.get? b = some o → h'.get? b = some o
  obj : h'.get? x = some (excObj C t1 (some dx) .none)
  dbig : h.objs.size ≤ dx
  dne : dx ≠ x
  ns : h'.Ns1 dx m
section
variable {prog : Program} {w : World} {A : Around} {E : Value → Shared → Prop} {R : Result → Shared → Prop} {s : Shared} {K : Frag} {mg : Str → Option Value} {B nw ini : String} {bmB : List Value} {xn : Str} {C fI : Addr} {f : Str}
/-- the bound built-in __init__ is called: the args are laid anew -/
theorem call_mw (T : ErrC prog K mg B nw ini bmB xn C fI) {u x t0 : Addr} {dv : Option Addr} {us : List Value} {Q : Value → Shared → Prop} (X : K.In s.heap) (hu : s.heap.get? u = some (kxs_mw ini x)) (hx : s.heap.get? x = some (excObj C t0 dv .none)) (hz : us.length ≤ sizeLine)
    (hq : ∀ h' t1, (∀ b o, b ≠ x → s.heap.get? b = some o → h'.get? b = some o) → h'.get? x = some (excObj C t1 dv .none) → Q .none { s with heap := h' }) :
    wpAny (model prog w) A (call (.ref u) us) Q E s := by
  obtain ⟨nm, N', qn, bs, bm, hdct, sn, sub, ab, col, dd, k0, k1, k2, k3, k5, hC, hT⟩ := excInit_of X T.q
  obtain ⟨hh, g, d, tk, os⟩ := s
  refine wpAny_call (codeAny_of_tree ?_)
  show wpAny _ A.in1 (callAny (.ref u) ⟨us, []⟩) _ _ _
  simp only [callAny]
  refine wpAny_bind (wpAny_load hu ?_)
  have e1 : (Value.type "method-wrapper" == Value.type "method" || Value.type "method-wrapper" == Value.type "builtin_function_or_method" || Value.type "method-wrapper" == Value.type "method-wrapper") = true := by decide
  simp only [kxs_mw, e1, if_true]
  refine KFB.if_so (by decide) ?_
  refine wpAny_bind (check_bound_init T.FB.toExcCallFacts hC hx rfl ?_)
  refine wpAny_bind (wpAny_pure (wpAny_pure ?_))
  refine ⟨plainId_quiet T.FB.init.plain _, codeAny_builtin T.FB.initEntry ?_⟩
  exact exc_init_tree (cls := .ref C) (t0 := t0) (dv := dv) (c2 := .none) (c3 := .none) (b4 := .bool false) hx hz fun h' k e _ => hq h' _ k e
theorem supEval {env : Env} {e : Expr} {es : List Expr} {q1 q2 q3 q5 : Pos} (hl : (q3.endLine == q5.line) = true) (hm : methodCallForm ((e :: es).length + 0) (backTo q5 (starEach (e :: es) env)) (backToKw q5 (keywordEach [] env)) = true) :
    eval (.Call (.Attribute (.Call (.Name "super" q1) [] [] q2) "__init__" q3) (e :: es) [] q5) env = (do
      let ov ← attributeBase (.Call (.Name "super" q1) [] [] q2) "__init__" env (eval (.Call (.Name "super" q1) [] [] q2) env)
      standAt q3.atName
      let (g, first) ← holding [ov] (getMethod ov "__init__" (do return (← importBound (.Call (.Name "super" q1) [] [] q2) env).getD true))
      callWith q5 g first (backTo q5 (starEach (e :: es) env)) []) := by
  rw [arm_eval_Call]
  show (do
    let ov ← attributeBase (.Call (.Name "super" q1) [] [] q2) "__init__" env (eval (.Call (.Name "super" q1) [] [] q2) env)
    standAt q3.atName
    methodCall (.Call (.Name "super" q1) [] [] q2) "__init__" q3 q5 env ov ((e :: es).length + 0) (backTo q5 (starEach (e :: es) env)) (backToKw q5 (keywordEach [] env))) = _
  unfold methodCall calleeOf methodCallPos
  rw [hm, hl]
  rfl
/-- super().__init__(..) as a statement, in the frame L of such an __init__ -/
theorem sup_stmt (T : ErrC prog K mg B nw ini bmB xn C fI) {body : List Stmt} {qn : Str} {sc : Scope} {L cda cc x t0 : Addr} {e0 : Expr} {er : List Expr} {us : List Value} {q1 q2 q3 q5 : Pos} {m : Str → Option Value} {fd : FuncData} {oc : Value} {od : Option Addr} {osl : Array (Option Value)} {ar : Arg}
    {ccl : Value} {cdd : Option Addr} {vs : Array Value} {ccs : Array (Option Value)} {file : Str} {tf : Tok} {cl : Value} {cld : Option Addr} {csl : Array (Option Value)} {Q : Flow → Shared → Prop}
    (X : K.In s.heap) (G : s.heap.Ns mainGlobals mg) {mb : Str → Option Value} (Bl : s.heap.Ns builtinsNs mb) (hmb : mb "super" = bootBuiltins "super")
    (hfn : K.lookup fI = some ⟨oc, od, .func fd, osl⟩) (hp : (fd.params.posonlyargs ++ fd.params.args).head? = some ar) (har : ar.arg = "self")
    (hcode : K.lookup cda = some ⟨ccl, cdd, .fields vs, ccs⟩) (hvs : vs[2]? = some (.str file tf)) (hfile : ((prog.main.file : Str) == file) = true) (hcell : K.lookup cc = some ⟨cl, cld, .cell (some (.ref C)), csl⟩)
    (hsc : sc.kind = .function) (hs1 : sc.names.lookup ("self" : Str) = some .local) (hs2 : sc.names.lookup ("__class__" : Str) = some .free) (hs3 : sc.names.lookup ("super" : Str) = some .globalImplicit)
    (hn : s.heap.Ns L m) (hself : m "self" = some (.ref x)) (hx : s.heap.get? x = some (excObj C t0 none .none)) (hxL : x ≠ L)
    (hargs : ∀ s1 : Shared, s1.heap.Ns L m → ∀ Q' : List Value → Shared → Prop, Q' us s1 → wpAny (model prog w) A (spliced (backTo q5 (starEach (e0 :: er) (ksEnv qn sc L fI (.ref cda) cc)))) Q' E s1)
    (he : starEach (e0 :: er) (ksEnv qn sc L fI (.ref cda) cc) = (false, eval e0 (ksEnv qn sc L fI (.ref cda) cc)) :: starEach er (ksEnv qn sc L fI (.ref cda) cc)) (hpl : (backTo q5 (starEach er (ksEnv qn sc L fI (.ref cda) cc))).any (·.1) = false) (hus : us.length ≤ sizeLine)
    (hsw : swapsWith (.Call (.Attribute (.Call (.Name "super" q1) [] [] q2) "__init__" q3) (e0 :: er) [] q5) none q5.line (ksEnv qn sc L fI (.ref cda) cc) = pure false)
    {pl : Sem Bool} (hev : eval (.Call (.Attribute (.Call (.Name "super" q1) [] [] q2) "__init__" q3) (e0 :: er) [] q5) (ksEnv qn sc L fI (.ref cda) cc) = (do
      let ov ← attributeBase (.Call (.Name "super" q1) [] [] q2) "__init__" (ksEnv qn sc L fI (.ref cda) cc) (eval (.Call (.Name "super" q1) [] [] q2) (ksEnv qn sc L fI (.ref cda) cc))
      standAt q3.atName
      let (g, first) ← holding [ov] (getMethod ov "__init__" pl)
      callWith q5 g first (backTo q5 (starEach (e0 :: er) (ksEnv qn sc L fI (.ref cda) cc))) []))
    (hq : ∀ h' tk t1, (∀ b o, b ≠ x → s.heap.get? b = some o → h'.get? b = some o) → h'.get? x = some (excObj C t1 none .none) → h'.Ns L m → Q .next { s with heap := h', toks := tk }) :
    _root_.PySem.wpAt (model prog w) A (.func body (ksEnv qn sc L fI (.ref cda) cc)) (exec (supE (e0 :: er) q1 q2 q3 q5) (ksEnv qn sc L fI (.ref cda) cc)) Q E s := by
  have hint : interactive (ksEnv qn sc L fI (.ref cda) cc) = false := by
    unfold interactive
    rw [show (ksEnv qn sc L fI (.ref cda) cc).scope.kind = .function from hsc]
    rfl
  obtain ⟨cdD, hcD⟩ : ∃ cdD, clsIn K C = some cdD := by
    have h1 := T.sup
    unfold ks_superIn at h1
    cases e : clsIn K C with
    | none =>
      rw [e] at h1
      cases h1
    | some c => exact ⟨c, rfl⟩
  have hsup : alongIn K "__init__" ((cdD.mro.dropWhile (· != .ref C)).drop 1) = some (some (.builtin ini)) := by
    have h1 := T.sup
    unfold ks_superIn at h1
    rw [hcD] at h1
    exact h1
  obtain ⟨oD, hD1, hD2⟩ : ∃ oD, s.heap.get? C = some oD ∧ oD.data = .cls cdD := by
    unfold clsIn at hcD
    split at hcD
    · rename_i c d cd' sl ho
      cases hcD
      exact ⟨_, X _ _ ho, rfl⟩
    · cases hcD
  have I : InstAt s.heap x (excObj C t0 none .none) C none := ⟨hx, rfl, rfl, trivial⟩
  obtain ⟨hh, g, d, t, os⟩ := s
  refine ks_wpAt_Expr_any ?_ hint hsw
  refine ks_wpAt_MethodCall (pl := pl) ?_ hev
  refine ks_wpAt_super_base (env := ksEnv qn sc L fI (.ref cda) cc) hs3 hs2 (by decide +kernel) rfl (X _ _ hfn) rfl hp rfl (X _ _ hcode) rfl hvs hfile T.top ?_
  refine ks_loadName_global hsc hs3 (loadGlobal_builtin (env := ksEnv qn sc L fI (.ref cda) cc) G T.gsup Bl (hmb.trans (by decide +kernel)) ⟨rfl, ?_⟩)
  refine wpAny_loadName_free hsc hs2 rfl ⟨_, X _ _ hcell, rfl⟩ ?_
  rw [har]
  refine wpAny_loadName_local hsc hs1 hn hself ?_
  refine ks_wpAny_isType_cls hD1 hD2 ⟨rfl, ?_⟩
  refine ks_wpAny_call_super hD1 hD2 I.at_ I.cls (fun c e => by cases e) (looks_mroIn X T.meC) (fun h1 e1 k1 => ?_)
  have X1 : K.In h1 := X.keeps k1
  have I1 : InstAt h1 x (excObj C t0 none .none) C none := ⟨k1 _ _ hx, rfl, rfl, trivial⟩
  refine kxs_getMethod T.KF e1 (looks_opaque X1 T.op) (l₀ := cdD.mro) (fun A Q E s k q => wpAny_bind ((looks_clsIn X1 hcD) A _ E s k (wpAny_pure q))) rfl X1 hsup
    (I1.type.andThen (looks_subIn X1 T.exB)) (ks_ne X1 I1 hcD) (by decide +kernel) ?_
  have km : ∀ b o, h1.get? b = some o → (h1.push (kxs_mw ini x)).get? b = some o := fun b o q => Heap.get?_push_of_some _ q
  have hu : (h1.push (kxs_mw ini x)).get? h1.objs.size = some (kxs_mw ini x) := Heap.get?_push_at rfl rfl
  have kk : ∀ b o, hh.get? b = some o → (h1.push (kxs_mw ini x)).get? b = some o := fun b o q => km b o (k1 b o q)
  have hn2 : (h1.push (kxs_mw ini x)).Ns L m := Heap.Ns.keeps hn kk
  show wpAny _ _ (callWith q5 (.ref h1.objs.size) [] (backTo q5 (starEach (e0 :: er) (ksEnv qn sc L fI (.ref cda) cc))) []) _ _ _
  rw [he] at hargs ⊢
  refine kxs_callWith (i := ini) (x := x) (by show (false || (backTo q5 (starEach er (ksEnv qn sc L fI (.ref cda) cc))).any (·.1)) = false; rw [hpl]; rfl) ?_
  refine evalArgs_plain (hargs _ hn2 _ ⟨hu, ?_⟩)
  refine call_mw T (X.keeps kk) hu (kk _ _ hx) hus fun h' t1 k e => ?_
  refine hq h' _ t1 (fun b o hb q => k b o hb (kk b o q)) e ?_
  exact Heap.Ns.at hn2 fun o q => k _ o (Ne.symm hxL) q
/-- self.f = v on an error that has no dict yet -/
theorem set_new (T : ErrC prog K mg B nw ini bmB xn C fI) {x t0 : Addr} {v : Value} {Q : Unit → Shared → Prop} (X : K.In s.heap) (hx : s.heap.get? x = some (excObj C t0 none .none)) (noF : findIn K (.ref C) f = some none)
    (hq : ∀ h' tk dx, InitEnd s.heap h' x C dx t0 (fun y => if y = f then some v else none) → Q () { s with heap := h', toks := tk }) :
    wpAny (model prog w) A (setAttr (.ref x) f v) Q E s := by
  obtain ⟨cd, hcd, hh⟩ : ∃ cd, clsIn K C = some cd ∧ cd.hasDict = true := by
    have h1 := T.hdC
    unfold hasDictIn at h1
    exact any_some h1
  have ht : takerIn K C f = some none := by unfold takerIn; rw [noF]; rfl
  obtain ⟨hp, g, d, t, os⟩ := s
  refine set_plain X (ox := excObj C t0 none .none) (od := none) ⟨hx, rfl, rfl, trivial⟩ T.sa ?_
  refine osa_openX (od := none) T.SF X ⟨hx, rfl, rfl, trivial⟩ T.ov ht fun b => ?_
  have hxs : x ≠ hp.objs.size := Nat.ne_of_lt (Heap.lt_size hx)
  refine wpAny_bind (wpAny_pure (wpAny_bind (instanceDict_exc hx (looks_clsIn X hcd) hh ?_)))
  show wpAny _ _ (storeInDict hp.objs.size (.str f _) f v) _ _ _
  have hx1 : (hp.push (dictOf [] 0)).get? x = some (excObj C t0 none .none) := Heap.get?_push_of_some _ hx
  refine PX.store_in_new ?_ fun h' tk' hn' hs => ?_
  · exact ⟨_, #[], _, (Heap.get?_update_ne _ _ _ _ hxs.symm).trans (Heap.get?_push_at rfl rfl), rfl, fun e he => absurd he (by simp), fun _ => rfl⟩
  · refine hq h' tk' hp.objs.size ⟨fun b o hb ho => ?_, ?_, Nat.le_refl _, hxs.symm, hn'⟩
    · exact (hs.2 b (Nat.ne_of_lt (Heap.lt_size ho))).trans ((Heap.get?_update_ne _ _ _ _ hb).trans (Heap.get?_push_of_some _ ho))
    · exact (hs.2 x hxs).trans (Heap.get?_update_self _ hx1 rfl)
/-- self.f = v on an error that has its dict -/
theorem set_old (T : ErrC prog K mg B nw ini bmB xn C fI) {x t0 dx : Addr} {v : Value} {m0 : Str → Option Value} {nl : List Str} {Q : Unit → Shared → Prop} (X : K.In s.heap) (hx : s.heap.get? x = some (excObj C t0 (some dx) .none)) (noF : findIn K (.ref C) f = some none)
    (hns : s.heap.Ns1 dx m0) (hw : Within m0 nl) (hz : nl.length ≤ 1000)
    (hq : ∀ h' tk, (∀ b o, b ≠ dx → s.heap.get? b = some o → h'.get? b = some o) → h'.Ns1 dx (fun y => if y = f then some v else m0 y) → Q () { s with heap := h', toks := tk }) :
    wpAny (model prog w) A (setAttr (.ref x) f v) Q E s := by
  have ht : takerIn K C f = some none := by unfold takerIn; rw [noF]; rfl
  obtain ⟨hp, g, d, t, os⟩ := s
  obtain ⟨oD, esD, epD, hoD, hdD, _⟩ := hns.count hw
  refine set_plain X (ox := excObj C t0 (some dx) .none) (od := some oD) ⟨hx, rfl, rfl, hoD⟩ T.sa ?_
  refine osa_openX (od := some oD) T.SF X ⟨hx, rfl, rfl, hoD⟩ T.ov ht fun b => ?_
  refine wpAny_bind (wpAny_pure (wpAny_bind ?_))
  unfold ownDictForStores
  refine wpAny_bind (wpAny_loadPart hx ?_)
  obtain ⟨cd, hcd, hh⟩ : ∃ cd, clsIn K C = some cd ∧ cd.hasDict = true := by
    have h1 := T.hdC
    unfold hasDictIn at h1
    exact any_some h1
  dsimp only
  refine wpAny_bind ((looks_clsIn X hcd).at ?_)
  rw [hh]
  refine wpAny_pure ?_
  show wpAny _ _ (storeInDict dx (.str f _) f v) _ _ _
  refine PX.store_in_old hns hw hz fun h' tk' hn' hs => ?_
  exact hq h' tk' (fun b o hb ho => (hs.2 b hb).trans ho) hn'
/-- the name that a local holds -/
theorem ldK {qn : Str} {sc : Scope} {L cc : Addr} {cd : Value} {m : Str → Option Value} {y : Str} {pos : Pos} {v : Value} {Q : Value → Shared → Prop} (hn : s.heap.Ns L m) (hv : m y = some v) (hk : sc.kind = .function) (hl : sc.names.lookup y = some .local) (hd : (y == ("__debug__" : Str)) = false) (h : Q v s) :
    wpAny (model prog w) A (eval (.Name y pos) (ksEnv qn sc L fI cd cc)) Q E s := wpAny_Name (wpAny_loadName_local hk hl hn hv h) hd
theorem init1 (T : ErrC prog K mg B nw ini bmB xn C fI) (N : Fn1 prog K C fI f) (M : Nm1 f) (noF : findIn K (.ref C) f = some none) {x t0 : Addr} {v : Value} {args : Args} (X : K.In s.heap) (G : s.heap.Ns mainGlobals mg) (Bl : ∃ mb, s.heap.Ns builtinsNs mb ∧ mb "super" = bootBuiltins "super")
    (hlim : s.heap.NoLimit) (hx : s.heap.get? x = some (excObj C t0 none .none)) (hnx : K.lookup x = none) (hroom : A.depth < recursionLimit)
    (hbind : ∀ (qn : Str) (p1 p2 : Pos) (b : List Stmt) (kV doc pm : Value) (an : Option Addr) (cdv ct : Value) (cc : Addr), BindsTo s (ksFn "__init__" qn (iA1 f p1 p2) b (iS1 f) .none kV doc pm an cdv ct cc) args [("self", .ref x), (f, v)])
    (hq : ∀ h' tk dx t1, InitEnd s.heap h' x C dx t1 (fun y => if y = f then some v else none) → R (.ok (.ret .none)) { s with heap := h', toks := tk }) :
    codeAny (model prog w) A (.call (.ref fI) args) R s := by
  obtain ⟨oc, od, osl, qn, kV, doc, pm, an, cda, ct, cc, p1, p2, q1, q2, q3, q4, q5, r1, r2, r3, r4, ccl, cdd, vs, ccs, file, tf, cl, cld, csl, hfn, hcd, hcode, hvs, hfile, hline, hcell⟩ := N
  obtain ⟨mb, hmb, esup⟩ := Bl
  refine ks_codeAny_call_defAt (binds := [("self", .ref x), (f, v)]) hroom (X _ _ hfn) rfl hlim (codeRec_of X hcd) rfl (hbind _ _ _ _ _ _ _ _ _ _ _) M.n ?_ (fun h1 hn1 k1 => ?_) rfl rfl rfl
  · intro y hy
    rcases List.mem_cons.mp hy with rfl | hy
    · exact M.s
    · rcases List.mem_cons.mp hy with rfl | hy
      · exact M.l
      · cases hy
  · have hxL : x ≠ s.heap.objs.size := Nat.ne_of_lt (Heap.lt_size hx)
    have mf : (fun y => ([(("self" : Str), Value.ref x), (f, v)].reverse).lookup y) f = some v := by
      show (List.lookup f [(f, v), (("self" : Str), Value.ref x)]) = some v
      simp [List.lookup]
    refine ks_wpAt_execs_cons ?_
    refine sup_stmt (s := { s with heap := h1, toks := s.toks + 2 }) (us := [v]) T (X.keeps k1) (G.keeps k1) (hmb.keeps k1) esup hfn (ar := ⟨"self", none, p1⟩) rfl rfl hcode hvs hfile hcell rfl M.s M.c M.u hn1 (M.m _ _) (k1 _ _ hx) hxL
      (fun s1 hs1 Q' q' => ?_) (by rfl) (by rfl) (by rw [sizeLine_eq]; exact (by decide : 1 ≤ 16777216)) (by rfl) (supEval hline (by rfl)) (fun h2 tk2 t1 k2 e2 hn2 => ?_)
    · refine spliced_cons (ldK hs1 mf rfl M.l M.d ?_)
      exact spliced_nil q'
    · have X2 : K.In h2 := fun a o e => by
        refine k2 a o (fun z => ?_) (k1 _ _ (X a o e))
        rw [z, hnx] at e
        cases e
      refine ks_wpAt_execs_cons ?_
      refine ks_wpAt_Assign_Attr ?_ (by rfl)
      refine wpAt_of_wpAny (ldK hn2 mf rfl M.l M.d (ldK hn2 (M.m _ _) rfl M.s (by decide +kernel) ?_))
      refine set_new T X2 e2 noF fun h3 tk3 dx ie => ?_
      refine wpAt_of_wpAny (wpAny_execs_nil ?_)
      have z1 : s.heap.objs.size < h1.objs.size := hn1.lt
      have z2 : s.heap.objs.size < h2.objs.size := hn2.lt
      exact hq h3 tk3 dx t1 ⟨fun b o hb q => ie.keep b o hb (k2 b o hb (k1 b o q)), ie.obj, Nat.le_of_lt (Nat.lt_of_lt_of_le z2 ie.dbig), ie.dne, ie.ns⟩
/-! ### the class is called -/
variable {g : Array GenState} {d : Drawn} {t : Nat} {os : OsState} {hp : Heap}
theorem chk_new (T : ErrC prog K mg B nw ini bmB xn C fI) {us : List Value} {kw : List (Str × Value)} {M : Model} {Q : Unit → Shared → Prop} (X : K.In hp) (hq : Q () ⟨hp, g, d, t, os⟩) :
    wpAny M A (checkBuiltinCall nw ⟨.ref C :: us, kw⟩) Q E ⟨hp, g, d, t, os⟩ := by
  obtain ⟨nm, N', qn, bs, bm, hdct, sn, sub, ab, col, dd, k0, k1, k2, k3, k5, hC, hT⟩ := excInit_of X T.q
  have hc : (Value.ref C :: bm).contains (.type B) = true := by
    rw [List.contains_cons, hT, T.FB.hasB]
    exact Bool.or_true _
  have hstar := T.FB.noStar
  simp only [checkBuiltinCall, T.FB.newKind, T.FB.newSplit, T.FB.newRow]
  repeat (first
    | refine wpAny_loadPart_at hC ?_
    | (refine wpAny_isSubtype_exc hC ?_; rw [hc])
    | refine wpAny_staticBase_exc hC ?_
    | refine wpAny_madeBy_exc hC ?_
    | simp only [bne_self_eq_false, Bool.false_eq_true, if_false]
    | wp_step)
  exact hq
theorem run_new (T : ErrC prog K mg B nw ini bmB xn C fI) {us : List Value} {kw : List (Str × Value)} (X : K.In hp) (hz : us.length ≤ sizeLine)
    (hq : R (.ok (.ret (.ref (hp.objs.size + 1)))) ⟨(hp.push (excTup us)).push (excObj C hp.objs.size none .none), g, d, t, os⟩) :
    codeAny (model prog w) A (.builtin nw ⟨.ref C :: us, kw⟩) R ⟨hp, g, d, t, os⟩ := by
  obtain ⟨nm, N', qn, bs, bm, hdct, sn, sub, ab, col, dd, k0, k1, k2, k3, k5, hC, hT⟩ := excInit_of X T.q
  have hends := T.FB.ends
  have c1 : (Value.ref C :: bm).contains (.type B) = true := by
    rw [List.contains_cons, hT, T.FB.hasB]
    exact Bool.or_true _
  have c2 : (Value.ref C :: bm).contains (.type "AttributeError") = false := by
    rw [List.contains_cons, hT, T.FB.noAttr] <;> rfl
  have c3 : (Value.ref C :: bm).contains (.type "NameError") = false := by
    rw [List.contains_cons, hT, T.FB.noName] <;> rfl
  refine codeAny_builtinAt T.FB.entry ?_
  unfold Builtin.«BaseException.__new__»
  refine _root_.PySem.wpAt_bind ?_
  show _root_.PySem.wpAt _ _ _ (stack >>= _) _ _ _
  refine _root_.PySem.wpAt_bind (_root_.PySem.wpAt_stack fun p below => _root_.PySem.wpAt_of_wpAny ?_)
  wp_walk
  refine _root_.PySem.wpAt_of_wpAny ?_
  rw [T.FB.owner]
  repeat (first
    | with_reducible refine wpAny_madeHere_exc T.FB.canon hC ?_
    | with_reducible refine wpAny_loadPart_at hC ?_
    | (with_reducible refine wpAny_isSubtype_exc hC ?_; first | rw [c1] | rw [c2] | rw [c3])
    | wp_step)
  show R _ _
  rw [Heap.size_push]
  exact hq
theorem run_type (T : ErrC prog K mg B nw ini bmB xn C fI) {us : List Value} {kw : List (Str × Value)} {Q : Fin → Shared → Prop} (X : K.In hp) (hz : us.length ≤ sizeLine)
    (hq : codeAny (model prog w) A (.call (.ref fI) ⟨.ref (hp.objs.size + 1) :: us, kw⟩)
      (fun r s' => match r with | .ok (.ret v) => v = .none ∧ Q (.done (.ret (.ref (hp.objs.size + 1)))) s' | .ok _ => False | .error e => E e s') ⟨(hp.push (excTup us)).push (excObj C hp.objs.size none .none), g, d, t, os⟩) :
    wpAny (model prog w) A (Builtin.«type.__call__» ⟨.ref C :: us, kw⟩) Q E ⟨hp, g, d, t, os⟩ := by
  obtain ⟨nm, N', qn, bs, bm, hdct, sn, sub, ab, col, dd, k0, k1, k2, k3, k5, hC, hT⟩ := excInit_of X T.q
  repeat (first
    | with_reducible refine wpAny_loadPart_at hC ?_
    | with_reducible refine wpAny_madeBy_exc hC ?_
    | wp_step)
  refine codeAny_call_builtin_code (Code.quiet_builtin _ T.FB.quiet) (chk_new T X ?_)
  refine run_new T X hz ?_
  show wpAny _ _ _ _ _ _
  have k : ∀ b o, hp.get? b = some o → ((hp.push (excTup us)).push (excObj C hp.objs.size none .none)).get? b = some o := fun b o e =>
    Heap.get?_push_of_some _ (Heap.get?_push_of_some _ e)
  have hC1 := k _ _ hC
  have hx : ((hp.push (excTup us)).push (excObj C hp.objs.size none .none)).get? (hp.objs.size + 1) = some (excObj C hp.objs.size none .none) := by heap_get
  have hcC : (Value.ref C :: bm).contains (.ref C) = true := by simp
  have i1 := (looks_findIn (M := model prog w) X T.hi).keeps k
  have b1 := bind_fn (M := model prog w) (X.keeps k) (.ref (hp.objs.size + 1)) (beq_iff_eq.mp T.hf)
  unfold isInstance
  repeat (first
    | with_reducible refine wpAny_loadPart_at hx ?_
    | (with_reducible refine wpAny_isSubtype_exc hC1 ?_; rw [hcC])
    | wp_step)
  show wpAny _ _ (typeLookup (.ref C) _) _ _ _
  refine i1.at ?_
  refine wpAny_holding (wpAny_bind (b1.at ?_))
  refine wpAny_bind (wpAny_call (codeAny_mono hq fun r s' z => ?_))
  rcases r with e | (v | _ | _ | _) <;> first | exact z | exact z.elim | skip
  obtain ⟨rfl, z⟩ := z
  first
    | exact wpAny_pure (wpAny_pure z)
    | (wp_walk; exact z)
theorem chk_type {M : Model} {us : List Value} {kw : List (Str × Value)} {Q : Unit → Shared → Prop} (T : ErrC prog K mg B nw ini bmB xn C fI) (X : K.In hp) (hq : Q () ⟨hp, g, d, t, os⟩) :
    wpAny M A (checkBuiltinCall "type.__call__" ⟨.ref C :: us, kw⟩) Q E ⟨hp, g, d, t, os⟩ := by
  obtain ⟨nm, N', qn, bs, bm, hdct, sn, sub, ab, col, dd, k0, k1, k2, k3, k5, hC, hT⟩ := excInit_of X T.q
  have f3 := tc_sub
  have hT : (⟨hp, g, d, t, os⟩ : Shared).TypeIs (.ref C) "type" := ⟨_, hC, rfl⟩
  simp only [checkBuiltinCall, tc_kind, tc_split]
  repeat (any_goals (first
    | assumption
    | with_reducible refine wpAny_loadPart_at hC ?_
    | with_reducible refine wpAny_onRaise ?_
    | with_reducible refine wpAny_map ?_
    | wp_step))
theorem run_cls (T : ErrC prog K mg B nw ini bmB xn C fI) {us : List Value} {kw : List (Str × Value)} (X : K.In hp) (hz : us.length ≤ sizeLine)
    (hq : codeAny (model prog w) (A.under (.builtin "type.__call__" ⟨.ref C :: us, kw⟩)) (.call (.ref fI) ⟨.ref (hp.objs.size + 1) :: us, kw⟩) (InitBack (hp.objs.size + 1) R)
      ⟨(hp.push (excTup us)).push (excObj C hp.objs.size none .none), g, d, t, os⟩) :
    codeAny (model prog w) A (.call (.ref C) ⟨us, kw⟩) R ⟨hp, g, d, t, os⟩ := by
  obtain ⟨nm, N', qn, bs, bm, hdct, sn, sub, ab, col, dd, k0, k1, k2, k3, k5, hC, hT⟩ := excInit_of X T.q
  have f1 := tc_lookup
  have f2 := tc_bind (.ref C)
  have hTy : (⟨hp, g, d, t, os⟩ : Shared).TypeIs (.ref C) "type" := ⟨_, hC, rfl⟩
  refine codeAny_of_tree ?_
  show wpAny _ _ (callAny (.ref C) _) _ _ _
  repeat (any_goals (first
    | assumption
    | with_reducible refine wpAny_loadPart_at hC ?_
    | wp_step))
  refine ⟨rfl, ?_⟩
  refine codeAny_call_builtin_at (Code.quiet_builtin _ (by decide +kernel)) entry_typeCall (chk_type T X (run_type T X hz ?_))
  refine codeAny_mono hq fun r s' z => ?_
  rcases r with e | (v | _ | _ | _) <;> exact z
/-- a made error: at e, its dict at d -/
structure Made (h h' : Heap) (e C d : Addr) (m : Str → Option Value) : Prop where
  keep : ∀ b o, h.get? b = some o → h'.get? b = some o
  new : h.objs.size ≤ e
  obj : ∃ t1 : Addr, h'.get? e = some (excObj C t1 (some d) .none)
  dbig : h.objs.size ≤ d
  dne : d ≠ e
  ns : h'.Ns1 d m
theorem fresh_K (X : K.In hp) (n : Nat) : K.lookup (hp.objs.size + n) = none := by
  cases e : K.lookup (hp.objs.size + n) with
  | none => rfl
  | some o => exact absurd (Nat.lt_of_le_of_lt (Nat.le_add_right _ n) (Heap.lt_size (X _ _ e))) (Nat.lt_irrefl _)
/-- C(v), C(f = v) -/
theorem made1 (T : ErrC prog K mg B nw ini bmB xn C fI) (N : Fn1 prog K C fI f) (M : Nm1 f) (noF : findIn K (.ref C) f = some none) {v : Value} {us : List Value} {kw : List (Str × Value)} (X : K.In s.heap) (G : s.heap.Ns mainGlobals mg) (Bl : ∃ mb, s.heap.Ns builtinsNs mb ∧ mb "super" = bootBuiltins "super")
    (hlim : s.heap.NoLimit) (hroom : A.depth + 1 < recursionLimit) (hz : us.length ≤ sizeLine)
    (hbind : ∀ (s' : Shared) (x : Addr) (qn : Str) (p1 p2 : Pos) (b : List Stmt) (kV doc pm : Value) (an : Option Addr) (cdv ct : Value) (cc : Addr), BindsTo s' (ksFn "__init__" qn (iA1 f p1 p2) b (iS1 f) .none kV doc pm an cdv ct cc) ⟨.ref x :: us, kw⟩ [("self", .ref x), (f, v)])
    (hq : ∀ h' tk e dx, Made s.heap h' e C dx (fun y => if y = f then some v else none) → R (.ok (.ret (.ref e))) { s with heap := h', toks := tk }) :
    codeAny (model prog w) A (.call (.ref C) ⟨us, kw⟩) R s := by
  obtain ⟨hp, g, d, t, os⟩ := s
  have k : ∀ b o, hp.get? b = some o → ((hp.push (excTup us)).push (excObj C hp.objs.size none .none)).get? b = some o := fun b o e =>
    Heap.get?_push_of_some _ (Heap.get?_push_of_some _ e)
  have hx : ((hp.push (excTup us)).push (excObj C hp.objs.size none .none)).get? (hp.objs.size + 1) = some (excObj C hp.objs.size none .none) := by heap_get
  obtain ⟨mb, hmb, esup⟩ := Bl
  refine run_cls T X hz ?_
  refine init1 (s := ⟨(hp.push (excTup us)).push (excObj C hp.objs.size none .none), g, d, t, os⟩) T N M noF (X.keeps k) (G.keeps k) ⟨mb, hmb.keeps k, esup⟩ (hlim.keeps k) hx (fresh_K X 1) hroom (hbind _ _) fun h' tk dx t1 ie => ?_
  have old : ∀ b o, hp.get? b = some o → h'.get? b = some o := fun b o e => ie.keep b o (Nat.ne_of_lt (Nat.lt_succ_of_lt (Heap.lt_size e))) (k b o e)
  have z : hp.objs.size + 1 + 1 ≤ dx := by
    have q := ie.dbig
    rw [Heap.size_push, Heap.size_push] at q
    exact q
  exact ⟨rfl, hq h' tk (hp.objs.size + 1) dx ⟨old, Nat.le_succ _, ⟨t1, ie.obj⟩, (show hp.objs.size ≤ dx by omega), ie.dne, ie.ns⟩⟩
theorem init2 {f1 f2 : Str} (T : ErrC prog K mg B nw ini bmB xn C fI) (N : Fn2 prog K C fI f1 f2) (M : Nm2 f1 f2) (no1 : findIn K (.ref C) f1 = some none) (no2 : findIn K (.ref C) f2 = some none) {x t0 : Addr} {v1 v2 : Value} {args : Args} (X : K.In s.heap) (G : s.heap.Ns mainGlobals mg) (Bl : ∃ mb, s.heap.Ns builtinsNs mb ∧ mb "super" = bootBuiltins "super")
    (hlim : s.heap.NoLimit) (hx : s.heap.get? x = some (excObj C t0 none .none)) (hnx : K.lookup x = none) (hroom : A.depth < recursionLimit)
    (hbind : ∀ (qn : Str) (p1 p2 p3 : Pos) (b : List Stmt) (kV doc pm : Value) (an : Option Addr) (cdv ct : Value) (cc : Addr), BindsTo s (ksFn "__init__" qn (iA2 f1 f2 p1 p2 p3) b (iS2 f1 f2) .none kV doc pm an cdv ct cc) args [("self", .ref x), (f1, v1), (f2, v2)])
    (hq : ∀ h' tk dx t1, InitEnd s.heap h' x C dx t1 (fun y => if y = f2 then some v2 else if y = f1 then some v1 else none) → R (.ok (.ret .none)) { s with heap := h', toks := tk }) :
    codeAny (model prog w) A (.call (.ref fI) args) R s := by
  obtain ⟨oc, od, osl, qn, kV, doc, pm, an, cda, ct, cc, p1, p2, p3, q1, q2, q3, q4, q6, q5, r1, r2, r3, r4, u1, u2, u3, u4, ccl, cdd, vs, ccs, file, tf, cl, cld, csl, hfn, hcd, hcode, hvs, hfile, hline, hcell⟩ := N
  obtain ⟨mb, hmb, esup⟩ := Bl
  refine ks_codeAny_call_defAt (binds := [("self", .ref x), (f1, v1), (f2, v2)]) hroom (X _ _ hfn) rfl hlim (codeRec_of X hcd) rfl (hbind _ _ _ _ _ _ _ _ _ _ _ _) M.n ?_ (fun h1 hn1 k1 => ?_) rfl rfl rfl
  · intro y hy
    rcases List.mem_cons.mp hy with rfl | hy
    · exact M.s
    · rcases List.mem_cons.mp hy with rfl | hy
      · exact M.l1
      · rcases List.mem_cons.mp hy with rfl | hy
        · exact M.l2
        · cases hy
  · have hxL : x ≠ s.heap.objs.size := Nat.ne_of_lt (Heap.lt_size hx)
    have mf1 : (fun y => ([(("self" : Str), Value.ref x), (f1, v1), (f2, v2)].reverse).lookup y) f1 = some v1 := M.m1 _ _ _
    have mf2 : (fun y => ([(("self" : Str), Value.ref x), (f1, v1), (f2, v2)].reverse).lookup y) f2 = some v2 := by
      show (List.lookup f2 [(f2, v2), (f1, v1), (("self" : Str), Value.ref x)]) = some v2
      simp [List.lookup]
    refine ks_wpAt_execs_cons ?_
    refine sup_stmt (s := { s with heap := h1, toks := s.toks + 3 }) (us := [v1, v2]) T (X.keeps k1) (G.keeps k1) (hmb.keeps k1) esup hfn (ar := ⟨"self", none, p1⟩) rfl rfl hcode hvs hfile hcell rfl M.s M.c M.u hn1 (M.m _ _ _) (k1 _ _ hx) hxL
      (fun s1 hs1 Q' q' => ?_) (by rfl) (by rfl) (by rw [sizeLine_eq]; exact (by decide : 2 ≤ 16777216)) (by rfl) (supEval hline (by rfl)) (fun h2 tk2 t1 k2 e2 hn2 => ?_)
    · refine spliced_cons (ldK hs1 mf1 rfl M.l1 M.d1 ?_)
      refine spliced_cons (ldK hs1 mf2 rfl M.l2 M.d2 ?_)
      exact spliced_nil q'
    · have X2 : K.In h2 := fun a o e => by
        refine k2 a o (fun z => ?_) (k1 _ _ (X a o e))
        rw [z, hnx] at e
        cases e
      have z2 : s.heap.objs.size < h2.objs.size := hn2.lt
      refine ks_wpAt_execs_cons ?_
      refine ks_wpAt_Assign_Attr ?_ (by rfl)
      refine wpAt_of_wpAny (ldK hn2 mf1 rfl M.l1 M.d1 (ldK hn2 (M.m _ _ _) rfl M.s (by decide +kernel) ?_))
      refine set_new T X2 e2 no1 fun h3 tk3 dx ie => ?_
      have X3 : K.In h3 := fun a o e => by
        refine ie.keep a o (fun z => ?_) (X2 a o e)
        rw [z, hnx] at e
        cases e
      have hLd : s.heap.objs.size ≠ dx := Nat.ne_of_lt (Nat.lt_of_lt_of_le z2 ie.dbig)
      have hn3 : h3.Ns s.heap.objs.size (fun y => ([(("self" : Str), Value.ref x), (f1, v1), (f2, v2)].reverse).lookup y) := Heap.Ns.at hn2 fun o q => ie.keep _ o (Ne.symm hxL) q
      refine wpAt_of_wpAny (wpAny_execs_cons (plainObj_wpAny_Assign_Attribute ?_))
      refine ldK hn3 mf2 rfl M.l2 M.d2 (ldK hn3 (M.m _ _ _) rfl M.s (by decide +kernel) ?_)
      refine set_old (nl := [f1]) T X3 ie.obj no2 ie.ns (fun y hy => ?_) (show 1 ≤ 1000 by decide) fun h4 tk4 k4 ns4 => ?_
      · by_cases e : y = f1
        · rw [e]
          exact List.mem_singleton.mpr rfl
        · exact absurd (if_neg e) hy
      · refine wpAny_execs_nil ?_
        exact hq h4 tk4 dx t1 ⟨fun b o hb q => k4 b o (Nat.ne_of_lt (Nat.lt_of_lt_of_le (Nat.lt_trans (Heap.lt_size q) z2) ie.dbig)) (ie.keep b o hb (k2 b o hb (k1 b o q))), k4 _ _ (Ne.symm ie.dne) ie.obj, Nat.le_of_lt (Nat.lt_of_lt_of_le z2 ie.dbig), ie.dne, ns4⟩
theorem made2 {f1 f2 : Str} (T : ErrC prog K mg B nw ini bmB xn C fI) (N : Fn2 prog K C fI f1 f2) (M : Nm2 f1 f2) (no1 : findIn K (.ref C) f1 = some none) (no2 : findIn K (.ref C) f2 = some none) {v1 v2 : Value} {us : List Value} {kw : List (Str × Value)} (X : K.In s.heap) (G : s.heap.Ns mainGlobals mg) (Bl : ∃ mb, s.heap.Ns builtinsNs mb ∧ mb "super" = bootBuiltins "super")
    (hlim : s.heap.NoLimit) (hroom : A.depth + 1 < recursionLimit) (hz : us.length ≤ sizeLine)
    (hbind : ∀ (s' : Shared) (x : Addr) (qn : Str) (p1 p2 p3 : Pos) (b : List Stmt) (kV doc pm : Value) (an : Option Addr) (cdv ct : Value) (cc : Addr), BindsTo s' (ksFn "__init__" qn (iA2 f1 f2 p1 p2 p3) b (iS2 f1 f2) .none kV doc pm an cdv ct cc) ⟨.ref x :: us, kw⟩ [("self", .ref x), (f1, v1), (f2, v2)])
    (hq : ∀ h' tk e dx, Made s.heap h' e C dx (fun y => if y = f2 then some v2 else if y = f1 then some v1 else none) → R (.ok (.ret (.ref e))) { s with heap := h', toks := tk }) :
    codeAny (model prog w) A (.call (.ref C) ⟨us, kw⟩) R s := by
  obtain ⟨hp, g, d, t, os⟩ := s
  have k : ∀ b o, hp.get? b = some o → ((hp.push (excTup us)).push (excObj C hp.objs.size none .none)).get? b = some o := fun b o e =>
    Heap.get?_push_of_some _ (Heap.get?_push_of_some _ e)
  have hx : ((hp.push (excTup us)).push (excObj C hp.objs.size none .none)).get? (hp.objs.size + 1) = some (excObj C hp.objs.size none .none) := by heap_get
  obtain ⟨mb, hmb, esup⟩ := Bl
  refine run_cls T X hz ?_
  refine init2 (s := ⟨(hp.push (excTup us)).push (excObj C hp.objs.size none .none), g, d, t, os⟩) T N M no1 no2 (X.keeps k) (G.keeps k) ⟨mb, hmb.keeps k, esup⟩ (hlim.keeps k) hx (fresh_K X 1) hroom (hbind _ _) fun h' tk dx t1 ie => ?_
  have old : ∀ b o, hp.get? b = some o → h'.get? b = some o := fun b o e => ie.keep b o (Nat.ne_of_lt (Nat.lt_succ_of_lt (Heap.lt_size e))) (k b o e)
  have z : hp.objs.size + 1 + 1 ≤ dx := by
    have q := ie.dbig
    rw [Heap.size_push, Heap.size_push] at q
    exact q
  exact ⟨rfl, hq h' tk (hp.objs.size + 1) dx ⟨old, Nat.le_succ _, ⟨t1, ie.obj⟩, (show hp.objs.size ≤ dx by omega), ie.dne, ie.ns⟩⟩
end
end ErX

/-! The package's errors over the layer: as values, raised, read, asked by isinstance. -/
namespace ErX
open PySem PySem.Spec PyProof.Rows L2
open PySem.W (excObj)
/-- at a: an error of the class at C that nobody has raised, its dict at d -/
def erO (a C : Addr) (d : Option Addr) : HO := .ext fun h => ∃ t1 : Addr, h.get? a = some (excObj C t1 d .none)
theorem erO_ok {P : Program} {w : World} {H : Hp} {h : Heap} {a C t1 : Addr} {d : Option Addr} (e : h.get? a = some (excObj C t1 d .none)) : ObjOk P w H h a (erO a C d) :=
  ⟨⟨t1, e⟩, ⟨_, e⟩, fun _ _ ⟨t, q⟩ k => ⟨t, k _ q⟩⟩
theorem erO_at {P : Program} {w : World} {H : Hp} {h : Heap} {a C : Addr} {d : Option Addr} (hok : HOk P w H h) (e : H a = some (erO a C d)) : ∃ t1 : Addr, h.get? a = some (excObj C t1 d .none) := by
  have x : ObjOk P w H h a (.ext fun h => ∃ t1 : Addr, h.get? a = some (excObj C t1 d .none)) := hok a _ e
  exact x.1
section
variable {X : Cx} {pins : List (Addr × Obj)} {σ : L2.St} {H : Hp} {s : Shared}
/-- behind the making: the dict is tracked, the error's object not yet -/
theorem made_apart {h' : Heap} {e C d : Addr} {m : Str → Option Value} {fs : List (Str × V)} {tk : Nat} (I : Inv X pins σ H s) (M : Made s.heap h' e C d m) (r : ∀ f, RelO (fs.lookup f) (m f)) :
    ∃ G : Heap, (∀ b, b ≠ e → G.get? b = h'.get? b) ∧ G.get? e = none ∧ Inv X pins σ (upd H d (.xd fs)) { s with heap := G, toks := tk } := by
  obtain ⟨G, g1, g2⟩ := restrict h' fun b => decide (b ≠ e)
  have gk : ∀ b, b ≠ e → G.get? b = h'.get? b := fun b hb => g1 b (decide_eq_true hb)
  have ge : G.get? e = none := g2 e (by simp)
  have old : ∀ b o, s.heap.get? b = some o → G.get? b = some o := fun b o q => (gk b (Nat.ne_of_lt (Nat.lt_of_lt_of_le (Heap.lt_size q) M.new))).trans (M.keep b o q)
  exact ⟨G, gk, ge, I.laid (t' := tk) old M.dbig ⟨_, M.ns.at (fun o q => (gk d M.dne).trans q), r⟩⟩
theorem made_val {h' : Heap} {e C d : Addr} {m : Str → Option Value} {fs : List (Str × V)} {tk : Nat} (I : Inv X pins σ H s) (M : Made s.heap h' e C d m) (r : ∀ f, RelO (fs.lookup f) (m f)) :
    Inv X pins σ (upd (upd H d (.xd fs)) e (erO e C (some d))) { s with heap := h', toks := tk } ∧ H e = none ∧ H d = none := by
  obtain ⟨G, gk, ge, J⟩ := made_apart (tk := tk) I M r
  obtain ⟨t1, he⟩ := M.obj
  have hn : H e = none := I.hok.fresh M.new
  have hn2 : upd H d (.xd fs) e = none := by
    rw [upd_ne (Ne.symm M.dne)]
    exact hn
  have k : ∀ b u, G.get? b = some u → h'.get? b = some u := fun b u q => by
    by_cases hb : b = e
    · rw [hb, ge] at q
      cases q
    · exact (gk b hb).symm.trans q
  exact ⟨J.laidN (t' := tk) k ge hn2 (erO_ok he), hn, I.hok.fresh M.dbig⟩
theorem relO_1 {f : Str} {v : V} {u : Value} (r : RelV v u) (y : Str) : RelO (List.lookup y [(f, v)]) (if y = f then some u else none) := by
  by_cases h : y = f
  · subst h
    have q : List.lookup y [(y, v)] = some v := by simp [List.lookup]
    rw [if_pos rfl, q]
    exact r
  · have qw : (y == f) = false := by simpa using h
    have q : List.lookup y [(f, v)] = none := by simp [List.lookup, qw]
    rw [if_neg h, q]
    trivial
theorem relO_2 {f1 f2 : Str} {v1 v2 : V} {u1 u2 : Value} (r1 : RelV v1 u1) (r2 : RelV v2 u2) (y : Str) : RelO (List.lookup y [(f2, v2), (f1, v1)]) (if y = f2 then some u2 else if y = f1 then some u1 else none) := by
  by_cases h : y = f2
  · subst h
    have q : List.lookup y [(y, v2), (f1, v1)] = some v2 := by simp [List.lookup]
    rw [if_pos rfl, q]
    exact r2
  · have qw : (y == f2) = false := by simpa using h
    have q : List.lookup y [(f2, v2), (f1, v1)] = List.lookup y [(f1, v1)] := by simp [List.lookup, qw]
    rw [if_neg h, q]
    exact relO_1 r1 y
end
/-- one error class with one field, as the layer uses it -/
structure Er1 (P : Program) (K : PySem.W.Frag) (mg : Str → Option Value) (B : String) (x : Str) (C : Addr) (f : Str) : Prop where
  ex : ∃ nw ini bmB fI, ErrC P K mg B nw ini bmB x C fI ∧ Fn1 P K C fI f
  nm : Nm1 f
  no : PySem.W.findIn K (.ref C) f = some none
  bp : ∀ (s' : Shared) (a : Addr) (v : Value) (qn : Str) (p1 p2 : Pos) (b : List Stmt) (kV doc pm : Value) (an : Option Addr) (cdv ct : Value) (cc : Addr),
    BindsTo s' (PySem.W.ksFn "__init__" qn (iA1 f p1 p2) b (iS1 f) .none kV doc pm an cdv ct cc) ⟨[.ref a, v], []⟩ [("self", .ref a), (f, v)]
  bk : ∀ (s' : Shared) (a : Addr) (v : Value) (qn : Str) (p1 p2 : Pos) (b : List Stmt) (kV doc pm : Value) (an : Option Addr) (cdv ct : Value) (cc : Addr),
    BindsTo s' (PySem.W.ksFn "__init__" qn (iA1 f p1 p2) b (iS1 f) .none kV doc pm an cdv ct cc) ⟨[.ref a], [(f, v)]⟩ [("self", .ref a), (f, v)]
theorem nm_value : Nm1 "value" := ⟨by decide +kernel, by decide +kernel, by decide +kernel, by decide +kernel, by decide +kernel, fun _ _ => by rfl, by decide +kernel⟩
theorem bp_value (s' : Shared) (a : Addr) (v : Value) (qn : Str) (p1 p2 : Pos) (b : List Stmt) (kV doc pm : Value) (an : Option Addr) (cdv ct : Value) (cc : Addr) :
    BindsTo s' (PySem.W.ksFn "__init__" qn (iA1 "value" p1 p2) b (iS1 "value") .none kV doc pm an cdv ct cc) ⟨[.ref a, v], []⟩ [("self", .ref a), ("value", v)] := BindsTo.of_eq (by first | rfl | with_unfolding_all rfl)
theorem bk_value (s' : Shared) (a : Addr) (v : Value) (qn : Str) (p1 p2 : Pos) (b : List Stmt) (kV doc pm : Value) (an : Option Addr) (cdv ct : Value) (cc : Addr) :
    BindsTo s' (PySem.W.ksFn "__init__" qn (iA1 "value" p1 p2) b (iS1 "value") .none kV doc pm an cdv ct cc) ⟨[.ref a], [("value", v)]⟩ [("self", .ref a), ("value", v)] := BindsTo.of_eq (by first | rfl | with_unfolding_all rfl)
theorem nm_field : Nm1 "field" := ⟨by decide +kernel, by decide +kernel, by decide +kernel, by decide +kernel, by decide +kernel, fun _ _ => by rfl, by decide +kernel⟩
theorem bp_field (s' : Shared) (a : Addr) (v : Value) (qn : Str) (p1 p2 : Pos) (b : List Stmt) (kV doc pm : Value) (an : Option Addr) (cdv ct : Value) (cc : Addr) :
    BindsTo s' (PySem.W.ksFn "__init__" qn (iA1 "field" p1 p2) b (iS1 "field") .none kV doc pm an cdv ct cc) ⟨[.ref a, v], []⟩ [("self", .ref a), ("field", v)] := BindsTo.of_eq (by first | rfl | with_unfolding_all rfl)
theorem bk_field (s' : Shared) (a : Addr) (v : Value) (qn : Str) (p1 p2 : Pos) (b : List Stmt) (kV doc pm : Value) (an : Option Addr) (cdv ct : Value) (cc : Addr) :
    BindsTo s' (PySem.W.ksFn "__init__" qn (iA1 "field" p1 p2) b (iS1 "field") .none kV doc pm an cdv ct cc) ⟨[.ref a], [("field", v)]⟩ [("self", .ref a), ("field", v)] := BindsTo.of_eq (by first | rfl | with_unfolding_all rfl)
theorem nm_index : Nm1 "index" := ⟨by decide +kernel, by decide +kernel, by decide +kernel, by decide +kernel, by decide +kernel, fun _ _ => by rfl, by decide +kernel⟩
theorem bp_index (s' : Shared) (a : Addr) (v : Value) (qn : Str) (p1 p2 : Pos) (b : List Stmt) (kV doc pm : Value) (an : Option Addr) (cdv ct : Value) (cc : Addr) :
    BindsTo s' (PySem.W.ksFn "__init__" qn (iA1 "index" p1 p2) b (iS1 "index") .none kV doc pm an cdv ct cc) ⟨[.ref a, v], []⟩ [("self", .ref a), ("index", v)] := BindsTo.of_eq (by first | rfl | with_unfolding_all rfl)
theorem bk_index (s' : Shared) (a : Addr) (v : Value) (qn : Str) (p1 p2 : Pos) (b : List Stmt) (kV doc pm : Value) (an : Option Addr) (cdv ct : Value) (cc : Addr) :
    BindsTo s' (PySem.W.ksFn "__init__" qn (iA1 "index" p1 p2) b (iS1 "index") .none kV doc pm an cdv ct cc) ⟨[.ref a], [("index", v)]⟩ [("self", .ref a), ("index", v)] := BindsTo.of_eq (by first | rfl | with_unfolding_all rfl)
theorem nm_limit : Nm1 "limit" := ⟨by decide +kernel, by decide +kernel, by decide +kernel, by decide +kernel, by decide +kernel, fun _ _ => by rfl, by decide +kernel⟩
theorem bp_limit (s' : Shared) (a : Addr) (v : Value) (qn : Str) (p1 p2 : Pos) (b : List Stmt) (kV doc pm : Value) (an : Option Addr) (cdv ct : Value) (cc : Addr) :
    BindsTo s' (PySem.W.ksFn "__init__" qn (iA1 "limit" p1 p2) b (iS1 "limit") .none kV doc pm an cdv ct cc) ⟨[.ref a, v], []⟩ [("self", .ref a), ("limit", v)] := BindsTo.of_eq (by first | rfl | with_unfolding_all rfl)
theorem bk_limit (s' : Shared) (a : Addr) (v : Value) (qn : Str) (p1 p2 : Pos) (b : List Stmt) (kV doc pm : Value) (an : Option Addr) (cdv ct : Value) (cc : Addr) :
    BindsTo s' (PySem.W.ksFn "__init__" qn (iA1 "limit" p1 p2) b (iS1 "limit") .none kV doc pm an cdv ct cc) ⟨[.ref a], [("limit", v)]⟩ [("self", .ref a), ("limit", v)] := BindsTo.of_eq (by first | rfl | with_unfolding_all rfl)
theorem nm_key : Nm1 "key" := ⟨by decide +kernel, by decide +kernel, by decide +kernel, by decide +kernel, by decide +kernel, fun _ _ => by rfl, by decide +kernel⟩
theorem bp_key (s' : Shared) (a : Addr) (v : Value) (qn : Str) (p1 p2 : Pos) (b : List Stmt) (kV doc pm : Value) (an : Option Addr) (cdv ct : Value) (cc : Addr) :
    BindsTo s' (PySem.W.ksFn "__init__" qn (iA1 "key" p1 p2) b (iS1 "key") .none kV doc pm an cdv ct cc) ⟨[.ref a, v], []⟩ [("self", .ref a), ("key", v)] := BindsTo.of_eq (by first | rfl | with_unfolding_all rfl)
theorem bk_key (s' : Shared) (a : Addr) (v : Value) (qn : Str) (p1 p2 : Pos) (b : List Stmt) (kV doc pm : Value) (an : Option Addr) (cdv ct : Value) (cc : Addr) :
    BindsTo s' (PySem.W.ksFn "__init__" qn (iA1 "key" p1 p2) b (iS1 "key") .none kV doc pm an cdv ct cc) ⟨[.ref a], [("key", v)]⟩ [("self", .ref a), ("key", v)] := BindsTo.of_eq (by first | rfl | with_unfolding_all rfl)
theorem nm_pressed : Nm1 "pressed" := ⟨by decide +kernel, by decide +kernel, by decide +kernel, by decide +kernel, by decide +kernel, fun _ _ => by rfl, by decide +kernel⟩
theorem bp_pressed (s' : Shared) (a : Addr) (v : Value) (qn : Str) (p1 p2 : Pos) (b : List Stmt) (kV doc pm : Value) (an : Option Addr) (cdv ct : Value) (cc : Addr) :
    BindsTo s' (PySem.W.ksFn "__init__" qn (iA1 "pressed" p1 p2) b (iS1 "pressed") .none kV doc pm an cdv ct cc) ⟨[.ref a, v], []⟩ [("self", .ref a), ("pressed", v)] := BindsTo.of_eq (by first | rfl | with_unfolding_all rfl)
theorem bk_pressed (s' : Shared) (a : Addr) (v : Value) (qn : Str) (p1 p2 : Pos) (b : List Stmt) (kV doc pm : Value) (an : Option Addr) (cdv ct : Value) (cc : Addr) :
    BindsTo s' (PySem.W.ksFn "__init__" qn (iA1 "pressed" p1 p2) b (iS1 "pressed") .none kV doc pm an cdv ct cc) ⟨[.ref a], [("pressed", v)]⟩ [("self", .ref a), ("pressed", v)] := BindsTo.of_eq (by first | rfl | with_unfolding_all rfl)
section
variable {X : Cx} {B : String} {x : Str} {C : Addr} {f : Str} {k : Nat} {e : Expr} {ta : TA} {p pos : Pos}
theorem blt_super {pins : List (Addr × Obj)} {σ : L2.St} {H : Hp} {s : Shared} (I : Inv X pins σ H s) : ∃ mb, s.heap.Ns builtinsNs mb ∧ mb "super" = bootBuiltins "super" := by
  obtain ⟨mb, h1, h2⟩ := I.ok.mod.blt
  exact ⟨mb, h1.keeps I.bk, h2 _ (by decide)⟩
theorem run_err1 {pins : List (Addr × Obj)} {σ : L2.St} {H : Hp} {s : Shared} {A : Around} {R : Result → Shared → Prop} {v : V} {u : Value} {us : List Value} {kw : List (Str × Value)} (T : Er1 X.prog X.K X.mg B x C f) (I : Inv X pins σ H s) (rv : RelV v u) (hr : A.depth + 1 < recursionLimit)
    (ha : (us = [u] ∧ kw = []) ∨ (us = [] ∧ kw = [(f, u)]))
    (hq : ∀ h' tk a d, Made s.heap h' a C d (fun y => if y = f then some u else none) → R (.ok (.ret (.ref a))) { s with heap := h', toks := tk }) :
    codeAny (model X.prog X.w) A (.call (.ref C) ⟨us, kw⟩) R s := by
  obtain ⟨nw, ini, bmB, fI, TC, TF⟩ := T.ex
  have G : s.heap.Ns mainGlobals X.mg := I.ok.mod.glob.keeps I.bk
  rcases ha with ⟨rfl, rfl⟩ | ⟨rfl, rfl⟩
  · exact made1 TC TF T.nm T.no I.kIn G (blt_super I) I.nolimit hr (by rw [sizeLine_eq]; exact (by decide : 1 ≤ 16777216)) (fun s' a => T.bp s' a u) hq
  · exact made1 TC TF T.nm T.no I.kIn G (blt_super I) I.nolimit hr (Nat.zero_le _) (fun s' a => T.bk s' a u) hq
/-- C(e) as a value -/
def tErr1 (C : Addr) (f : Str) (ta : TA) : TE := fun σ H Q => ta σ H fun vs H1 => ∃ v, vs = [v] ∧ ∀ a d, H1 a = none → H1 d = none → d ≠ a → Q (.ref a) (upd (upd H1 d (.xd [(f, v)])) a (erO a C (some d)))
theorem val_err1 {pins : List (Addr × Obj)} {σ : L2.St} {H : Hp} {s : Shared} {Q : VK} {v : V} {u : Value} {us : List Value} {kw : List (Str × Value)} (T : Er1 X.prog X.K X.mg B x C f) (I : Inv X pins σ H s) (rv : RelV v u) (hr : X.A.depth + 1 < recursionLimit)
    (ha : (us = [u] ∧ kw = []) ∨ (us = [] ∧ kw = [(f, u)])) (q : ∀ a d, H a = none → H d = none → d ≠ a → Q (.ref a) (upd (upd H d (.xd [(f, v)])) a (erO a C (some d)))) :
    wpAny (model X.prog X.w) X.A (call (.ref C) us kw) (EP X pins σ Q) X.xe s := by
  refine wpAny_call (run_err1 T I rv hr ha fun h' tk a d M => ?_)
  obtain ⟨J, n1, n2⟩ := made_val (fs := [(f, v)]) (tk := tk) I M (relO_1 rv)
  exact ⟨.ref a, _, J, rfl, q a d n1 n2 M.dne⟩
theorem pe_err1 (T : Er1 X.prog X.K X.mg B x C f) (hr : Room k X.A) (hg : Gl X x) (ha : PA X [e] ta) (hdb : (x == ("__debug__" : Str)) = false := by decide)
    (he : starEach (e :: []) X.env = (false, eval e X.env) :: starEach [] X.env := by rfl) (hpl : (backTo pos (starEach [] X.env)).any (·.1) = false := by rfl) :
    PE X (.Call (.Name x p) [e] [] pos) (tErr1 C f ta) := by
  obtain ⟨nw, ini, bmB, fI, TC, TF⟩ := T.ex
  refine ⟨fun pins s σ H Q I h => ?_⟩
  refine wpAny_Call_Name_kw (ld_glob I hg TC.gC ?_ hdb)
  refine PySem.W.callWith_K (h₀ := X.base) I.ok.mod.kin TC.kC (thn (ha.run pos pins s σ H _ I h) fun us s1 hh => ?_) he hpl
  obtain ⟨vs, H1, I1, r1, v, ev, q1⟩ := hh
  subst ev
  refine ⟨I1.kIn, ?_⟩
  cases r1 with
  | cons rv rn =>
    cases rn
    exact val_err1 T I1 rv (by have := hr.dp; omega) (.inl ⟨rfl, rfl⟩) q1
/-- C(f = e) as a value -/
theorem pe_err1k {ta : TE} {kp : Pos} (T : Er1 X.prog X.K X.mg B x C f) (hr : Room k X.A) (hg : Gl X x) (ha : PE X e ta) (hdb : (x == ("__debug__" : Str)) = false := by decide)
    (hall : (backToKw pos (keywordEach [⟨some f, e, kp⟩] X.env)).all (·.1.isSome) = true := by rfl) (hks : (backToKw pos (keywordEach [⟨some f, e, kp⟩] X.env)).filterMap (·.1) = [f] := by rfl)
    (hpl : ((backTo pos (starEach [] X.env)).any (·.1) || (backToKw pos (keywordEach [⟨some f, e, kp⟩] X.env)).any (·.1.isNone)) = false := by rfl) :
    PE X (.Call (.Name x p) [] [⟨some f, e, kp⟩] pos) (tErr1 C f (tCons ta tNil)) := by
  obtain ⟨nw, ini, bmB, fI, TC, TF⟩ := T.ex
  refine ⟨fun pins s σ H Q I h => ?_⟩
  refine wpAny_Call_Name_kw (ld_glob I hg TC.gC ?_ hdb)
  refine PySem.W.callWith_KW0 (h₀ := X.base) I.ok.mod.kin TC.kC hall ?_ hpl
  refine thn ((pk_cons ha pk_nil).run pos pins s σ H _ I h) fun ws s2 ⟨zs, H2, I2, rz, q2⟩ => ⟨I2.kIn, ?_⟩
  obtain ⟨v, ev, q1⟩ := q2
  subst ev
  rw [hks]
  cases rz with
  | cons rv rn =>
    cases rn
    exact val_err1 T I2 rv (by have := hr.dp; omega) (.inr ⟨rfl, rfl⟩) q1
end
/-! ### two fields: mode and key -/
structure Er2 (P : Program) (K : PySem.W.Frag) (mg : Str → Option Value) (B : String) (x : Str) (C : Addr) (f1 f2 : Str) : Prop where
  ex : ∃ nw ini bmB fI, ErrC P K mg B nw ini bmB x C fI ∧ Fn2 P K C fI f1 f2
  nm : Nm2 f1 f2
  no1 : PySem.W.findIn K (.ref C) f1 = some none
  no2 : PySem.W.findIn K (.ref C) f2 = some none
  bp : ∀ (s' : Shared) (a : Addr) (v1 v2 : Value) (qn : Str) (p1 p2 p3 : Pos) (b : List Stmt) (kV doc pm : Value) (an : Option Addr) (cdv ct : Value) (cc : Addr),
    BindsTo s' (PySem.W.ksFn "__init__" qn (iA2 f1 f2 p1 p2 p3) b (iS2 f1 f2) .none kV doc pm an cdv ct cc) ⟨[.ref a, v1, v2], []⟩ [("self", .ref a), (f1, v1), (f2, v2)]
  bk : ∀ (s' : Shared) (a : Addr) (v1 v2 : Value) (qn : Str) (p1 p2 p3 : Pos) (b : List Stmt) (kV doc pm : Value) (an : Option Addr) (cdv ct : Value) (cc : Addr),
    BindsTo s' (PySem.W.ksFn "__init__" qn (iA2 f1 f2 p1 p2 p3) b (iS2 f1 f2) .none kV doc pm an cdv ct cc) ⟨[.ref a], [(f2, v2), (f1, v1)]⟩ [("self", .ref a), (f1, v1), (f2, v2)]
theorem nm_mk : Nm2 "mode" "key" := ⟨by decide +kernel, by decide +kernel, by decide +kernel, by decide +kernel, by decide +kernel, by decide +kernel, fun _ _ _ => by rfl, fun _ _ _ => by rfl, by decide +kernel, by decide +kernel, by decide +kernel⟩
theorem bp_mk (s' : Shared) (a : Addr) (v1 v2 : Value) (qn : Str) (p1 p2 p3 : Pos) (b : List Stmt) (kV doc pm : Value) (an : Option Addr) (cdv ct : Value) (cc : Addr) :
    BindsTo s' (PySem.W.ksFn "__init__" qn (iA2 "mode" "key" p1 p2 p3) b (iS2 "mode" "key") .none kV doc pm an cdv ct cc) ⟨[.ref a, v1, v2], []⟩ [("self", .ref a), ("mode", v1), ("key", v2)] := BindsTo.of_eq (by first | rfl | with_unfolding_all rfl)
theorem bk_mk (s' : Shared) (a : Addr) (v1 v2 : Value) (qn : Str) (p1 p2 p3 : Pos) (b : List Stmt) (kV doc pm : Value) (an : Option Addr) (cdv ct : Value) (cc : Addr) :
    BindsTo s' (PySem.W.ksFn "__init__" qn (iA2 "mode" "key" p1 p2 p3) b (iS2 "mode" "key") .none kV doc pm an cdv ct cc) ⟨[.ref a], [("key", v2), ("mode", v1)]⟩ [("self", .ref a), ("mode", v1), ("key", v2)] := BindsTo.of_eq (by first | rfl | with_unfolding_all rfl)
section
variable {X : Cx} {B : String} {x : Str} {C : Addr} {f1 f2 : Str} {k : Nat} {e e' : Expr} {ta : TA} {p pos : Pos}
theorem run_err2 {pins : List (Addr × Obj)} {σ : L2.St} {H : Hp} {s : Shared} {A : Around} {R : Result → Shared → Prop} {u1 u2 : Value} {us : List Value} {kw : List (Str × Value)} (T : Er2 X.prog X.K X.mg B x C f1 f2) (I : Inv X pins σ H s) (hr : A.depth + 1 < recursionLimit)
    (ha : (us = [u1, u2] ∧ kw = []) ∨ (us = [] ∧ kw = [(f2, u2), (f1, u1)]))
    (hq : ∀ h' tk a d, Made s.heap h' a C d (fun y => if y = f2 then some u2 else if y = f1 then some u1 else none) → R (.ok (.ret (.ref a))) { s with heap := h', toks := tk }) :
    codeAny (model X.prog X.w) A (.call (.ref C) ⟨us, kw⟩) R s := by
  obtain ⟨nw, ini, bmB, fI, TC, TF⟩ := T.ex
  have G : s.heap.Ns mainGlobals X.mg := I.ok.mod.glob.keeps I.bk
  rcases ha with ⟨rfl, rfl⟩ | ⟨rfl, rfl⟩
  · exact made2 TC TF T.nm T.no1 T.no2 I.kIn G (blt_super I) I.nolimit hr (by rw [sizeLine_eq]; exact (by decide : 2 ≤ 16777216)) (fun s' a => T.bp s' a u1 u2) hq
  · exact made2 TC TF T.nm T.no1 T.no2 I.kIn G (blt_super I) I.nolimit hr (Nat.zero_le _) (fun s' a => T.bk s' a u1 u2) hq
def tErr2 (C : Addr) (f1 f2 : Str) (g : List V → List V) (ta : TA) : TE := fun σ H Q => ta σ H fun vs H1 => ∃ v1 v2, g vs = [v1, v2] ∧ vs.length = 2 ∧ ∀ a d, H1 a = none → H1 d = none → d ≠ a → Q (.ref a) (upd (upd H1 d (.xd [(f2, v2), (f1, v1)])) a (erO a C (some d)))
theorem val_err2 {pins : List (Addr × Obj)} {σ : L2.St} {H : Hp} {s : Shared} {Q : VK} {v1 v2 : V} {u1 u2 : Value} {us : List Value} {kw : List (Str × Value)} (T : Er2 X.prog X.K X.mg B x C f1 f2) (I : Inv X pins σ H s) (r1 : RelV v1 u1) (r2 : RelV v2 u2) (hr : X.A.depth + 1 < recursionLimit)
    (ha : (us = [u1, u2] ∧ kw = []) ∨ (us = [] ∧ kw = [(f2, u2), (f1, u1)])) (q : ∀ a d, H a = none → H d = none → d ≠ a → Q (.ref a) (upd (upd H d (.xd [(f2, v2), (f1, v1)])) a (erO a C (some d)))) :
    wpAny (model X.prog X.w) X.A (call (.ref C) us kw) (EP X pins σ Q) X.xe s := by
  refine wpAny_call (run_err2 T I hr ha fun h' tk a d M => ?_)
  obtain ⟨J, n1, n2⟩ := made_val (fs := [(f2, v2), (f1, v1)]) (tk := tk) I M (relO_2 r1 r2)
  exact ⟨.ref a, _, J, rfl, q a d n1 n2 M.dne⟩
theorem pe_err2 (T : Er2 X.prog X.K X.mg B x C f1 f2) (hr : Room k X.A) (hg : Gl X x) (ha : PA X [e, e'] ta) (hdb : (x == ("__debug__" : Str)) = false := by decide)
    (he : starEach [e, e'] X.env = (false, eval e X.env) :: starEach [e'] X.env := by rfl) (hpl : (backTo pos (starEach [e'] X.env)).any (·.1) = false := by rfl) :
    PE X (.Call (.Name x p) [e, e'] [] pos) (tErr2 C f1 f2 id ta) := by
  obtain ⟨nw, ini, bmB, fI, TC, TF⟩ := T.ex
  refine ⟨fun pins s σ H Q I h => ?_⟩
  refine wpAny_Call_Name_kw (ld_glob I hg TC.gC ?_ hdb)
  refine PySem.W.callWith_K (h₀ := X.base) I.ok.mod.kin TC.kC (thn (ha.run pos pins s σ H _ I h) fun us s1 hh => ?_) he hpl
  obtain ⟨vs, H1, I1, r1, v1, v2, ev, _, q1⟩ := hh
  have ev2 : vs = [v1, v2] := ev
  subst ev2
  refine ⟨I1.kIn, ?_⟩
  cases r1 with
  | cons rv rn =>
    cases rn with
    | cons rw rn =>
      cases rn
      exact val_err2 T I1 rv rw (by have := hr.dp; omega) (.inl ⟨rfl, rfl⟩) q1
theorem pe_err2k {t1 t2 : TE} {kp kp' : Pos} (T : Er2 X.prog X.K X.mg B x C f1 f2) (hr : Room k X.A) (hg : Gl X x) (ha : PE X e t2) (hb : PE X e' t1) (hdb : (x == ("__debug__" : Str)) = false := by decide)
    (hall : (backToKw pos (keywordEach [⟨some f2, e, kp⟩, ⟨some f1, e', kp'⟩] X.env)).all (·.1.isSome) = true := by rfl) (hks : (backToKw pos (keywordEach [⟨some f2, e, kp⟩, ⟨some f1, e', kp'⟩] X.env)).filterMap (·.1) = [f2, f1] := by rfl)
    (hpl : ((backTo pos (starEach [] X.env)).any (·.1) || (backToKw pos (keywordEach [⟨some f2, e, kp⟩, ⟨some f1, e', kp'⟩] X.env)).any (·.1.isNone)) = false := by rfl) :
    PE X (.Call (.Name x p) [] [⟨some f2, e, kp⟩, ⟨some f1, e', kp'⟩] pos) (tErr2 C f1 f2 List.reverse (tCons t2 (tCons t1 tNil))) := by
  obtain ⟨nw, ini, bmB, fI, TC, TF⟩ := T.ex
  refine ⟨fun pins s σ H Q I h => ?_⟩
  refine wpAny_Call_Name_kw (ld_glob I hg TC.gC ?_ hdb)
  refine PySem.W.callWith_KW0 (h₀ := X.base) I.ok.mod.kin TC.kC hall ?_ hpl
  refine thn ((pk_cons ha (pk_cons hb pk_nil)).run pos pins s σ H _ I h) fun ws s2 ⟨zs, H2, I2, rz, q2⟩ => ⟨I2.kIn, ?_⟩
  obtain ⟨v1, v2, ev, hl, q1⟩ := q2
  rw [hks]
  match zs, hl, ev, rz with
  | [a, b], _, ev, rz =>
    have ev2 : [b, a] = [v1, v2] := ev
    injection ev2 with e1 e2
    injection e2 with e3 _
    subst e1 e3
    cases rz with
    | cons rv rn =>
      cases rn with
      | cons rw rn =>
        cases rn
        exact val_err2 T I2 rw rv (by have := hr.dp; omega) (.inr ⟨rfl, rfl⟩) q1
end
/-! ### no field: C() of a class without an __init__ of its own -/
section
variable {X : Cx} {x : Str} {C : Addr} {p pos : Pos}
def tErr0 (C : Addr) : TE := fun _ H Q => ∀ a, H a = none → Q (.ref a) (upd H a (erO a C none))
theorem pe_err0 {bmB : List Value} {B newId initId : String} (F : ExcBaseFacts B newId initId bmB) (q : PySem.W.excIn X.K C bmB newId = true) (gC : X.mg x = some (.ref C)) (kC : PySem.W.keepIn X.K (.ref C) = true) (hg : Gl X x) (hdb : (x == ("__debug__" : Str)) = false := by decide) :
    PE X (.Call (.Name x p) [] [] pos) (tErr0 C) := by
  refine ⟨fun pins s σ H Q I h => ?_⟩
  refine wpAny_Call_Name_kw (ld_glob I hg gC ?_ hdb)
  refine PySem.W.callWith_K0 I.kIn kC ?_
  obtain ⟨bm, N, nm, qn, bs, hdct, sn, sub, ab, col, dd, k0, k1, k2, k3, k5, mN, hC, hN, hni, T⟩ := exc_obj I.kIn q
  refine wpAny_call_exc_subT F T hC hN hni (fun h' a hm => ?_) (Nat.zero_le _)
  have hn : H a = none := I.hok.gone hm.new
  obtain ⟨t, ht, _, _⟩ := hm.there
  exact ⟨.ref a, upd H a (erO a C none), I.laidN hm.keeps hm.new hn (erO_ok ht), rfl, h a hn⟩
end
/-! ### e.f, isinstance(e, T) of an error that stands as a value -/
/-- at a: an error value of the class at C with these fields -/
def ErrV (H : Hp) (a C : Addr) (fs : List (Str × V)) : Prop := (fs = [] ∧ H a = some (erO a C none)) ∨ ∃ d, H a = some (erO a C (some d)) ∧ H d = some (.xd fs)
theorem ErrV.same {H H' : Hp} {a C : Addr} {fs : List (Str × V)} (s : Same H H') (h : ErrV H a C fs) : ErrV H' a C fs := by
  rcases h with ⟨e, h⟩ | ⟨d, h1, h2⟩
  · exact .inl ⟨e, s _ _ h⟩
  · exact .inr ⟨d, s _ _ h1, s _ _ h2⟩
section
variable {X : Cx} {pins : List (Addr × Obj)} {σ : L2.St} {H : Hp} {s : Shared}
theorem ErrV.inst {a C : Addr} {fs : List (Str × V)} (I : Inv X pins σ H s) (h : ErrV H a C fs) : ∃ ox od, PySem.W.InstAt s.heap a ox C od ∧
    (fs ≠ [] → ∃ (o2 : Obj) (mA : Str → Option Value), od = some o2 ∧ (∀ f, PySem.W.lookIn f o2 = some (mA f)) ∧ ∀ f, RelO (fs.lookup f) (mA f)) := by
  rcases h with ⟨e, h⟩ | ⟨d, h1, h2⟩
  · obtain ⟨t1, ho⟩ := erO_at I.hok h
    exact ⟨_, none, ⟨ho, rfl, rfl, trivial⟩, fun z => absurd e z⟩
  · obtain ⟨t1, ho⟩ := erO_at I.hok h1
    have hx : ObjOk X.prog X.w H s.heap d (.xd fs) := I.hok d _ h2
    obtain ⟨mA, hns, hr⟩ := hx
    obtain ⟨od, hd, hl⟩ := lookIn_ns hns
    exact ⟨_, some od, ⟨ho, rfl, rfl, hd⟩, fun _ => ⟨od, mA, rfl, hl, hr⟩⟩
end
section
variable {X : Cx} {e : Expr} {te : TE} {pos : Pos} {n : Str}
def tEfld (K : PySem.W.Frag) (n : Str) (te : TE) : TE := fun σ H Q => te σ H fun x H1 => ∃ a C fs v, x = .ref a ∧ ErrV H1 a C fs ∧ fs.lookup n = some v ∧ XfC K C ∧ PySem.W.findIn K (.ref C) n = some none ∧ Q v H1
theorem pe_efld (he : PE X e te) (hb : attributeBase e n X.env (eval e X.env) = eval e X.env := by rfl) : PE X (.Attribute e n pos) (tEfld X.K n te) := by
  refine ⟨fun pins s σ H Q I h => ?_⟩
  refine attr_of hb (thn (he.run pins s σ H _ I h) fun u s1 hh => ?_)
  obtain ⟨x, H1, I1, rx, a, C, fs, v, ex, hE, hl, T, hno, q⟩ := hh
  subst ex
  obtain rfl : u = Value.ref a := rx
  obtain ⟨ox, od, J, hz⟩ := hE.inst I1
  have hne : fs ≠ [] := fun z => by
    rw [z] at hl
    cases hl
  obtain ⟨o2, mA, rfl, hk, hr⟩ := hz hne
  obtain ⟨u, hu, ru⟩ := RelO.some_of (v := v) (o := mA n) (by rw [← hl]; exact hr n)
  exact HandSPX.exc_get I1.kIn J T.ga T.gg T.exC (PySem.W.findObj_own T.hdC hno rfl (by rw [hk, hu])) (handed_of ru) ⟨v, H1, I1.tok _, ru, q⟩
def rIsV (K : PySem.W.Frag) : List V → Hp → VK → Prop := fun xs H Q => ∃ (a C : Addr) (fs : List (Str × V)) (c : V) (cv : Value) (b : Bool), xs = [.ref a, c] ∧ ErrV H a C fs ∧ ExcC K C ∧ ClsV c cv ∧ (PySem.W.clsIn K C).isSome = true ∧ PySem.W.kitOne K (.ref C) cv = some b ∧ Q (.bl b) H
theorem call_isV : CallR X (.builtin "isinstance") (rIsV X.K) := by
  intro pins s σ H xs us Q I r h
  obtain ⟨a, C, fs, c, cv, b, rfl, hE, D, kc, hc, e, q⟩ := h
  obtain ⟨u1, u2, rfl, r1, r2⟩ := vals2 r
  have e2 := kc.eq r2
  subst e2
  obtain rfl : u1 = Value.ref a := r1
  obtain ⟨ox, od, J, _⟩ := hE.inst I
  exact PySem.W.kia_one (PySem.W.kitx_exc hc D.hg D.hk D.hs D.ha D.hn D.ht D.hm) I.kIn J e (fun z => nomatch z) fun tk => ⟨.bl b, H, I.tok tk, rfl, q⟩
end
end ErX

/-! Calls where no repr is under way (the guards of what runs around are known to be none): what repr tells then. -/
namespace Gd
open PySem PySem.Spec PyProof.Rows L2
/-- as FnOk, told only for calls where no repr is under way -/
structure FnG (P : Program) (w : World) (K : PySem.W.Frag) (mg : Str → Option Value) (base : Heap) (CX : CXT) (k : Nat) (f : Addr) (fd : FuncData) (ps : List Str) (sp : Sp) : Prop where
  len : ∀ vs H Q E, sp vs H Q E → vs.length = ps.length
  go : ∀ (A : Around) (outer : List Env) (s : Shared) (H : Hp) (args : Args) (us : List Value) (vs : List V) (Q : VK) (E : XK), A.guards = some [] → Room k A → Env0 P w K mg base A outer s H →
    BindsTo s fd args (ps.zip us) → Vals vs us → sp vs H Q E → codeAny (model P w) A (.call (.ref f) args) (CR CX outer P w H s Q E) s
/-- a def by its body, the body told where no repr is under way -/
theorem fnG_of {CX : CXT} {P : Program} {w : World} {K : PySem.W.Frag} {mg : Str → Option Value} {base : Heap} {k : Nat} {f : Addr} {fd : FuncData} {x qual : Str} {params : Arguments} {body : List Stmt} {scope : Scope} {dvs : List V} {kws : List (Str × V)} {N ps : List Str} {sp : Sp}
    (F : FunD K x qual params body scope dvs kws f fd) (S : FnScope N ps scope) (len : ∀ vs H Q E, sp vs H Q E → vs.length = ps.length)
    (hbody : ∀ (cdv : Value) (A : Around) (outer : List Env) (s : Shared) (H : Hp) (vs : List V) (Q : VK) (E : XK), (A.deeper (envOfC qual scope s.heap.objs.size f cdv)).guards = some [] → Room k (A.deeper (envOfC qual scope s.heap.objs.size f cdv)) → sp vs H Q E →
      ∃ t, PSs (cxOf CX P w K mg base N qual scope f cdv A outer s H E) body t ∧ t { nx := fun _ H' => Q .non H', rt := Q } (start N vs) H) : FnG P w K mg base CX (k + 1) f fd ps sp := by
  obtain ⟨⟨oc, od, dV, kV, doc, pm, an, cdv, ct, osl, rfl, lk, hcd, _, _⟩, _⟩ := F
  refine ⟨len, fun A outer s H args us vs Q E gA rm e0 bnd rel hsp => ?_⟩
  have lv := len _ _ _ _ hsp
  have below : ∀ b o, base.get? b = some o → s.heap.get? b = some o := fun b o e => (e0.bs b o e).1
  have KX := e0.mod.kin.keeps below
  have sorts : ∀ y ∈ ps.zip us, scope.names.lookup y.1 = some .local ∨ (scope.names.lookup y.1 = some .cell ∧ ((cellsFrom (s.heap.objs.size + 1) scope.names []).lookup y.1).isSome = true) := by
    rintro ⟨n, v⟩ hy
    rcases S.par n (List.of_mem_zip hy).1 with q | q
    · exact .inl q
    · exact .inr ⟨q, PySem.W.cellsFrom_some _ _ _ (.inl q)⟩
  refine codeAny_call_function rm.depth (KX _ _ lk) rfl S.co S.gen rfl (PySem.W.codeRec_of KX hcd) (bnd _ _ _ _ ?_)
  refine wpAny_newFunctionEnv_cells S.kind sorts fun env he s1 ic => ?_
  subst he
  refine ⟨(e0.mod.nolimit.keeps below).keeps ic.toInCall.keep, codeAny_func ?_⟩
  obtain ⟨t, ht, hq⟩ := hbody cdv A outer s H vs Q E gA (rm.deeper _) hsp
  have I0 := inv_start (CX := CX) (E := E) S rm.hd e0 lv rel ic
  refine wpAny_mono (ht.run [] s1 (start N vs) H _ I0 hq) (fun fl s' hs => ?_) fun _ _ z => z
  cases fl with
  | ret u =>
    obtain ⟨v, σ', H', J, rv, q⟩ := hs
    exact ⟨v, H', J.os, J.bare, J.base, J.hok, rv, q⟩
  | next =>
    obtain ⟨σ', H', J, q⟩ := hs
    exact ⟨.non, H', J.os, J.bare, J.base, J.hok, rfl, q⟩
  | brk =>
    obtain ⟨_, _, _, q⟩ := hs
    exact q.elim
  | cont =>
    obtain ⟨_, _, _, q⟩ := hs
    exact q.elim
section
variable {X : Cx} {CX : CXT} {k : Nat} {f : Addr} {fd : FuncData} {ps : List Str} {sp : Sp} {E : XK} {x : Str} {p pos : Pos} {e : Expr} {es : List Expr} {t : TA}
theorem pe_callG (F : FnG X.prog X.w X.K X.mg X.base CX k f fd ps sp) (gA : X.A.guards = some []) (hr : Room k X.A) (hg : Gl X x) (hm : X.mg x = some (.ref f)) (hk : PySem.W.keepIn X.K (.ref f) = true) (hb : Binds X.K fd ps []) (hx : Passes CX X E)
    (ha : PA X (e :: es) t) (hdb : (x == ("__debug__" : Str)) = false := by decide) (he : starEach (e :: es) X.env = (false, eval e X.env) :: starEach es X.env := by rfl) (hpl : (backTo pos (starEach es X.env)).any (·.1) = false := by rfl) :
    PE X (.Call (.Name x p) (e :: es) [] pos) (tCall sp [] E t) := by
  refine ⟨fun pins s σ H Q I h => ?_⟩
  refine wpAny_Call_Name_kw (ld_glob I hg hm ?_ hdb)
  refine PySem.W.callWith_K (h₀ := X.base) I.ok.mod.kin hk (thn (ha.run pos pins s σ H _ I h) fun us s1 hh => ?_) he hpl
  obtain ⟨vs, H1, I1, r, q⟩ := hh
  refine ⟨I1.kIn, ?_⟩
  have q' : sp vs H1 Q E := by
    rw [List.append_nil] at q
    exact q
  have hl : us.length = ps.length := by
    rw [← r.length]
    exact F.len _ _ _ _ q'
  have hb' := hb s1 us I1.kIn (by rw [List.append_nil]; exact hl)
  rw [List.append_nil] at hb'
  refine wpAny_call (codeAny_mono (F.go X.A X.stack s1 H1 ⟨us, []⟩ us vs Q E gA hr I1.env0 hb' r q') fun res s' hq => ?_)
  match res, hq with
  | .error e, hq => exact hx pins σ H1 s1 e s' I1 hq
  | .ok (.ret u), hq => exact I1.after hq
  | .ok .next, hq => exact hq.elim
  | .ok .brk, hq => exact hq.elim
  | .ok .cont, hq => exact hq.elim
end
/-! ### the law's own call: nothing runs around it -/
theorem law_callG {P : Program} {w : World} {K : PySem.W.Frag} {mg mb : Str → Option Value} {CX : CXT} {k : Nat} {fa a : Addr} {fd : FuncData} {x : Str} {sp : Sp} {s1 : Shared} {us : List Value} {ns : List Int}
    (KX : K.In s1.heap) (gl : s1.heap.Ns mainGlobals mg) (bl : s1.heap.Ns builtinsNs mb) (bb : ∀ x : Str, x ≠ "__name__" → mb x = bootBuiltins x) (lim : s1.heap.NoLimit) (gn : s1.gens = #[])
    (ha : s1.heap.get? a = some { cls := .type "list", data := .seq us.toArray }) (hi : IntsAre us ns) (hl : ns.length ≤ sizeLine) (hr : Room k callerA)
    (F : ∀ base : Heap, K.In base → base.Ns mainGlobals mg → FnG P w K mg base CX k fa fd [x] sp) (bnd : ∀ (s : Shared) (u : Value), BindsTo s fd ⟨[u], []⟩ [(x, u)])
    (hsp : ∀ H : Hp, Only H → SqL K H a (ns.map V.int) → sp [.ref a] H (fun v _ => v = .bl true) fun _ _ _ => False)
    (hCX : ∀ H e s', CX [] H s1 (fun _ _ _ => False) e s' → False) :
    codeAny (model P w) callerA (.call (.ref fa) ⟨[.ref a], []⟩) (fun r s' => r = .ok (.ret (.bool true)) ∧ OldK s1.heap s'.heap ∧ s'.os = s1.os ∧ AllBare s'.gens) s1 := by
  have main : ∀ H : Hp, Only H → SqL K H a (ns.map V.int) → HOk P w H s1.heap → (∀ b, H b ≠ none → b = a) → (H a ≠ none → K.lookup a = none) →
      codeAny (model P w) callerA (.call (.ref fa) ⟨[.ref a], []⟩) (fun r s' => r = .ok (.ret (.bool true)) ∧ OldK s1.heap s'.heap ∧ s'.os = s1.os ∧ AllBare s'.gens) s1 := by
    intro H only sq hok oneA notK
    have away : ∀ {b : Addr}, b ≠ a → H b = none := fun {b} hb => by
      cases q : H b with
      | none => rfl
      | some u => exact absurd (oneA b (by rw [q]; simp)) hb
    have inB : ∀ {b : Addr} {o : Obj}, s1.heap.get? b = some o → H b = none → (hidT s1.heap H).get? b = some o := fun e n => hidT_get e n
    have dictN : ∀ {b : Addr} {o : Obj} {es : Array DictEntry} {ep : Nat}, s1.heap.get? b = some o → o.data = .dict es ep → b ≠ a := fun {b o es ep} e d z => by
      rw [z, ha] at e
      cases e
      cases (show Data.seq us.toArray _ = Data.dict es ep from d)
    have nsB : ∀ {b : Addr} {m : Str → Option Value}, s1.heap.Ns b m → (hidT s1.heap H).Ns b m := by
      rintro b m ⟨o, es, ep, e, d, r⟩
      exact ⟨o, es, ep, inB e (away (dictN e d)), d, r⟩
    have KB : K.In (hidT s1.heap H) := fun b o e => inB (KX b o e) (by
      by_cases hb : b = a
      · subst hb
        cases q : H b with
        | none => rfl
        | some u =>
          rw [notK (by rw [q]; simp)] at e
          cases e
      · exact away hb)
    obtain ⟨mc, c1, c2⟩ := lim
    have M : L2.Mod K mg (hidT s1.heap H) := ⟨KB, nsB gl, ⟨mb, nsB bl, bb⟩, ⟨mc, nsB c1, c2⟩⟩
    have e0 : Env0 P w K mg (hidT s1.heap H) callerA [] s1 H :=
      ⟨rfl, M, fun b o e => of_hidT e, Nat.le_of_eq (hidT_size _ _), trivial, (fun b hb => nomatch (show b ∈ ([] : List Addr) from hb)), hok, AllBare.of_eq gn⟩
    refine codeAny_mono ((F _ KB (nsB gl)).go callerA [] s1 H ⟨[.ref a], []⟩ [.ref a] [.ref a] _ _ rfl hr e0 (bnd s1 (.ref a)) (.cons rfl .nil) (hsp H only sq)) fun r s' h => ?_
    match r, h with
    | .error e, h => exact (hCX H e s' h).elim
    | .ok .next, h => exact h.elim
    | .ok .brk, h => exact h.elim
    | .ok .cont, h => exact h.elim
    | .ok (.ret u), h =>
      obtain ⟨v, H', eos, bare, un, hok', rel, q⟩ := h
      have q2 : v = .bl true := q
      subst q2
      obtain rfl : u = Value.bool true := rel
      refine ⟨rfl, OldK.of_keep fun b o e => ?_, eos, bare⟩
      rcases only b with z | ⟨ob, xs, z⟩
      · exact un.keep b o e z (fun y => (nomatch (show b ∈ ([] : List Addr) from y))) (by simp)
      · obtain ⟨e1, _⟩ := hok b _ z
        obtain ⟨e2, _⟩ := hok' b _ (un.frzs b ob _ z)
        rw [e] at e1
        cases e1
        exact e2
  have rv := vals_ints hi
  cases hk : K.lookup a with
  | some o =>
    have e := KX a o hk
    rw [ha] at e
    cases e
    exact main (fun _ => none) (fun _ => .inl rfl) (.inr ⟨_, us.toArray, _, hk, rfl, rfl, rfl, by rw [List.size_toArray, hi.length]; exact hl, by simpa using rv⟩) (fun b u z => (nomatch (show (none : Option HO) = some u from z))) (fun b z => absurd rfl z) fun z => absurd rfl z
  | none =>
    refine main (upd (fun _ => none) a (.frz { cls := .type "list", data := .seq us.toArray } (.lst (ns.map V.int)))) (fun b => ?_) (.inl (.inr ⟨{ cls := .type "list", data := .seq us.toArray }, upd_same⟩)) (fun b u z => ?_) (fun b z => ?_) fun _ => hk
    · by_cases hb : b = a
      · rw [hb]
        exact .inr ⟨_, _, upd_same⟩
      · exact .inl (upd_ne hb)
    · by_cases hb : b = a
      · rw [hb, upd_same] at z
        cases z
        rw [hb]
        exact ⟨ha, by rw [List.length_map]; exact hl, us, _, rv, ha⟩
      · rw [upd_ne hb] at z
        cases z
    · by_cases hb : b = a
      · exact hb
      · exact absurd (upd_ne hb) z
theorem walkG {l : PySem.W.OpenLaw} {n k : Nat} {q : Program} {loose : List Str} {XP : (Str → Option Value) → Heap → Prop} {YP : World → Heap → Prop} {d : DefRec} {CX : World → CXT} {x : Str}
    (hn : l.most = some n) (hn2 : n ≤ sizeLine) (hdf : d.params.defaults = []) (hr : Room k callerA)
    (F : ∀ (w : World) (mg : Str → Option Value) (fa : Addr) (h : Heap), YP w h → h.Ns mainGlobals mg → mg d.name = some (.ref fa) →
      ∃ (K : PySem.W.Frag) (fd : FuncData) (sp : Sp), K.In h ∧ (∀ (s : Shared) (u : Value), BindsTo s fd ⟨[u], []⟩ [(x, u)]) ∧
        (∀ (H : Hp) (a : Addr) (ns : List Int), ns.length ≤ n → Only H → SqL K H a (ns.map V.int) → sp [.ref a] H (fun v _ => v = .bl true) fun _ _ _ => False) ∧
        ∀ base : Heap, K.In base → base.Ns mainGlobals mg → FnG l.prog w K mg base (CX w) k fa fd [x] sp)
    (hCX : ∀ (w : World) (H : Hp) (s : Shared) (e : Value) (s' : Shared), CX w [] H s (fun _ _ _ => False) e s' → False) :
    PySem.W.WalkO q loose XP YP l.row.toRowW d [] (fun f vs => PySem.call f vs) := by
  refine Att.attach_call hn hdf fun w s0 s1 mg mb fa o pm cd doc a us ns G Y ho hd hcd hmg hobj hints hlen hg => ?_
  obtain ⟨K, fd, sp, KX, hb, hsp, hF⟩ := F w mg fa _ Y G.T.g hmg
  exact law_callG KX G.T.g G.T.b G.T.builtins G.T.nolimit hg hobj hints (Nat.le_trans hlen hn2) hr hF hb (fun H hO hS => hsp H a ns hlen hO hS) fun H e s' => hCX w H s1 e s'
/-! ### values as data, dicts of the menu among them -/
/-- v stands for the datum d: plain data, or one of two written dicts -/
def Vd (K : PySem.W.Frag) (H : Hp) (v : V) (d : PyData) : Prop := Dp K H v d ∨ (∃ a, v = .ref a ∧ H a = some (.dK []) ∧ d = .dict []) ∨
  ∃ (a : Addr) (x : Str) (i : Int), v = .ref a ∧ H a = some (.dK [(.inr x, .int i)]) ∧ d = .dict [(.str x, .int i)]
mutual
theorem Dp.noDict {K : PySem.W.Frag} {H : Hp} : ∀ (d : PyData) (v : V), Dp K H v d → d.hasDict = false
  | .none, _, _ => rfl
  | .bool _, _, _ => rfl
  | .int _, _, _ => rfl
  | .str _, _, _ => rfl
  | .list ds, _, h => by
    cases h with
    | lst _ ha => exact Dp.noDictAll ds _ ha
  | .tuple ds, _, h => by
    cases h with
    | tup _ ha => exact Dp.noDictAll ds _ ha
  | .dict _, _, h => by cases h
theorem Dp.noDictAll {K : PySem.W.Frag} {H : Hp} : ∀ (ds : List PyData) (vs : List V), DpAll K H vs ds → PyData.hasDictAll ds = false
  | [], _, _ => rfl
  | d :: ds, _, h => by
    cases h with
    | cons h1 h2 =>
      show (d.hasDict || PyData.hasDictAll ds) = false
      rw [Dp.noDict d _ h1, Dp.noDictAll ds _ h2]
      rfl
end
section
variable {X : Cx} {pins : List (Addr × Obj)} {σ : L2.St} {H : Hp} {s : Shared}
theorem Vd.reads {v : V} {d : PyData} {u : Value} (I : Inv X pins σ H s) (h : Vd X.K H v d) (r : RelV v u) : ∃ as, Reads s.heap u d as ∧ (d.hasDict = true → sysModules ∉ as) := by
  rcases h with h | ⟨a, rfl, ha, rfl⟩ | ⟨a, x, i, rfl, ha, rfl⟩
  · obtain ⟨as, q⟩ := Dp.reads I d v u h r
    exact ⟨as, q, fun z => by rw [Dp.noDict d v h] at z; cases z⟩
  · obtain rfl : u = Value.ref a := r
    obtain ⟨_, hs, vs, kv, o, es, ep, ho, hx, hd, _, hp, _⟩ := (show ObjOk X.prog X.w H s.heap a (.dK []) from I.hok a _ ha)
    cases kv
    have he : es.toList = [] := by
      generalize es.toList = l at hp
      cases hp
      rfl
    refine ⟨_, Reads.dict (kvs := []) ho hx.1 hd (by rw [he]; exact .nil) (by rw [he]; exact .nil), fun _ z => ?_⟩
    have z2 : sysModules = a := by simpa using z
    rw [z2] at hs
    simp at hs
  · obtain rfl : u = Value.ref a := r
    obtain ⟨_, hs, vs, kv, o, es, ep, ho, hx, hd, _, hp, _⟩ := (show ObjOk X.prog X.w H s.heap a (.dK [(.inr x, .int i)]) from I.hok a _ ha)
    obtain ⟨t, rfl⟩ : ∃ t, vs = [(Sum.inr x, Value.int i t)] := by
      match vs, kv with
      | [(q1, q2)], .cons e1 .nil =>
        obtain ⟨k1, t, k2⟩ := e1
        exact ⟨t, by rw [← (show Sum.inr x = q1 from k1), (show q2 = Value.int i t from k2)]⟩
    generalize hl : es.toList = l at hp
    cases hp with
    | @cons en _ _ _ h1 h2 h3 =>
        cases h3
        obtain ⟨t2, hk⟩ : ∃ t2, en.key = Value.str x t2 := by
          rcases keyIs_shape (show keyIs (.inr x) en.key = true from h1) with ⟨j, t2, z, _⟩ | ⟨y, t2, z, e⟩
          · cases z
          · cases z
            exact ⟨t2, e⟩
        have r1 : ReadsAll s.heap (List.map (fun e => e.key) [en]) [.str x] ([] ++ []) := .cons (show Reads s.heap en.key (.str x) [] by rw [hk]; exact .str x t2) .nil
        have r2 : ReadsAll s.heap (List.map (fun e => e.val) [en]) [.int i] ([] ++ []) := .cons (show Reads s.heap en.val (.int i) [] by rw [h2]; exact .int i t) .nil
        refine ⟨_, Reads.dict (kvs := [(.str x, .int i)]) ho hx.1 hd (by rw [hl]; exact r1) (by rw [hl]; exact r2), fun _ z => ?_⟩
        have z2 : sysModules = a := by simpa using z
        rw [z2] at hs
        simp at hs
end
section
variable {X : Cx}
/-- repr(v) where no repr is under way -/
def rRepr (K : PySem.W.Frag) : List V → Hp → VK → Prop := fun xs H Q => ∃ v d, xs = [v] ∧ Vd K H v d ∧ d.showable = true ∧ d.shown.length ≤ sizeLine ∧ d.depth ≤ 60 ∧ Q (.str d.shown) H
theorem call_repr (gA : X.A.guards = some []) (hu : X.A.units + 64 < cLine) : CallR X (.builtin "repr") (rRepr X.K) := by
  intro pins s σ H xs us Q I r h
  obtain ⟨v, d, rfl, hv, h1, h2, h3, q⟩ := h
  obtain ⟨u, rfl, ru⟩ := vals1 r
  obtain ⟨as, rd, hs⟩ := Vd.reads I hv ru
  cases v with
  | ref a =>
    obtain rfl : u = Value.ref a := ru
    exact repr_of_reads' rd h1 hs gA (by omega) (fun _ _ e => e) (fun h' t tk k => ⟨.str _, H, I.kept k, ⟨t, rfl⟩, q⟩) h2
  | non =>
    obtain rfl : u = Value.none := ru
    cases rd
    exact PySem.P.repr_of_none ⟨.str _, H, I.tok _, ⟨_, rfl⟩, q⟩
  | bl b =>
    obtain rfl : u = Value.bool b := ru
    cases rd
    exact PySem.P.repr_of_bool ⟨.str _, H, I.tok _, ⟨_, rfl⟩, q⟩
  | int i =>
    obtain ⟨t, rfl⟩ := ru
    cases rd
    exact PySem.P.repr_of_int (of_decide_eq_true h1) ⟨.str _, H, I.tok _, ⟨_, rfl⟩, q⟩
  | str x =>
    obtain ⟨t, rfl⟩ := ru
    cases rd
    exact PySem.P.repr_of_str ⟨.str _, H, I.tok _, ⟨_, rfl⟩, q⟩ h2
  | byt b =>
    obtain ⟨t, rfl⟩ := ru
    cases rd
  | flt b =>
    obtain ⟨t, rfl⟩ := ru
    cases rd
  | ty n =>
    obtain rfl : u = Value.type n := ru
    cases rd
/-- v != v -/
def rNeSelf (K : PySem.W.Frag) : R2 := fun x y H Q => ∃ d, x = y ∧ Vd K H x d ∧ ((SeqAt.shaped d = true ∧ d.canLay0 = true) ∨ d.hasDict = true) ∧ Q (.bl false) H
theorem op_neSelf (hu : X.A.units + 64 < cLine) : OpR X (compareOp .NotEq) (rNeSelf X.K) := by
  intro pins s σ H x y v u Q I rx ry h
  obtain ⟨d, rfl, hv, hsh, q⟩ := h
  rcases id hv with hd | ⟨a, rfl, ha, rfl⟩ | ⟨a, y, i, rfl, ha, rfl⟩
  · obtain ⟨h2, h3⟩ := hsh.resolve_right (by rw [Dp.noDict d _ hd]; decide)
    refine op_neD hu pins s σ H x x v u Q I rx ry ⟨d, d, hd, hd, h2, h2, ?_⟩
    rw [SeqAt.eqv_refl _ h3]
    exact q
  · exact op_ne_dictA (by omega) pins s σ H _ _ v u Q I rx ry ⟨a, a, _, _, rfl, rfl, ha, ha, rfl, (fun p hp => nomatch hp), q⟩
  · refine op_ne_dictA (by omega) pins s σ H _ _ v u Q I rx ry ⟨a, a, _, _, rfl, rfl, ha, ha, rfl, fun p hp => ?_, q⟩
    obtain rfl : p = (Sum.inr y, V.int i) := by simpa using hp
    exact ⟨by simp [valV], rfl⟩
end
end Gd

/-! What the top has left, read off by one look: any test of the written part, plain defs, and the __init__ of error classes. -/
namespace Hk
open PySem PySem.Spec PyProof.Rows L2
abbrev FnX : Type := Option (Str × Str × Arguments × FuncBody × Scope × Addr × List Str × Value × Addr)
/-- a method's function object, of its closure the names alone -/
def fnX (K : PySem.W.Frag) (p : Str × Option Str) : FnX := match K.lookup (He.fAd K p) with
  | some ⟨_, _, .func fd, _⟩ => some (fd.name, fd.qualname, fd.params, fd.body, fd.scope, fd.globals, fd.closure.map (·.1), fd.defaults, fd.builtins)
  | _ => none
structure IniD where
  cls : Str
  qual : Str
  params : Arguments
  body : List Stmt
  scope : Scope
def IniD.val (d : IniD) : FnX := some ("__init__", d.qual, d.params, .stmts d.body, d.scope, mainGlobals, ["__class__"], .none, builtinsNs)
/-- the closure of an __init__ holds its class; its code is of the program's file -/
def iniB (P : Program) (K : PySem.W.Frag) (d : IniD) : Bool := match K.lookup (He.fAd K (d.cls, some "__init__")) with
  | some ⟨_, _, .func fd, _⟩ => PySem.W.codeIn K fd.code d.qual && ((match fd.closure with
      | [(_, cc)] => (match K.lookup cc with
        | some ⟨_, _, .cell (some v), _⟩ => decide (v = .ref (He.ga K d.cls))
        | _ => false)
      | _ => false) && (match fd.code with
      | .ref cda => (match K.lookup cda with
        | some ⟨_, _, .fields vs, _⟩ => (match (vs[2]? : Option Value) with
          | some (Value.str file _) => decide ((P.main.file : Str) = file)
          | _ => false)
        | _ => false)
      | _ => false))
  | _ => false
abbrev AlX : Type := Bool × List He.FnW × List FnX
structure Sheet where
  prog : Program
  ck : PySem.W.Frag → Bool
  fn : List He.DefD
  ini : List IniD
def obsX (S : Sheet) (K : PySem.W.Frag) : AlX := (S.ck K && (S.fn.all (fun d => d.ok K) && S.ini.all (fun d => iniB S.prog K d)), S.fn.map fun d => He.fnW K d.at_, S.ini.map fun d => fnX K (d.cls, some "__init__"))
def valX (S : Sheet) : AlX := (true, S.fn.map He.DefD.val, S.ini.map IniD.val)
def SaysX (S : Sheet) (K : PySem.W.Frag) : Prop := obsX S K = valX S
def fragX (n : Nat) (g : Addr → Option Obj) : PySem.W.Frag := He.frG g (He.asD g n ++ [cStatics])
def hookX (n : Nat) (S : Sheet) : PySem.W.Hook where
  α := AlX
  obs := fun s => obsX S (fragX n s.heap.get?)
  val := fun _ => valX S
  says := fun _ h => ∃ K : PySem.W.Frag, K.In h ∧ SaysX S K
  of := fun _ _ e => ⟨_, He.frG_in, e⟩
  keeps := fun _ _ _ ⟨K, hK, c⟩ k => ⟨K, PySem.W.Frag.In.keeps hK k, c⟩
theorem obsX_eq {n : Nat} {S : Sheet} {g : Addr → Option Obj} {s : Shared} (h : ∀ a, g a = s.heap.get? a) : obsX S (fragX n g) = (hookX n S).obs s := by
  have e : g = s.heap.get? := funext h
  rw [e] <;> rfl
section
variable {S : Sheet} {K : PySem.W.Frag}
theorem SaysX.ck (c : SaysX S K) : S.ck K = true := (He.ba (congrArg (fun z : AlX => z.1) c)).1
theorem SaysX.def_ (c : SaysX S K) (i : Nat) {d : He.DefD} (h : S.fn[i]? = some d := by rfl) : ∃ fd, FunD K d.name d.qual d.params d.body d.scope (d.dvs K) (d.kws K) (He.fAd K d.at_) fd := by
  have c2 := (He.ba (He.ba (congrArg (fun z : AlX => z.1) c)).2).1
  have e : S.fn.map (fun d => He.fnW K d.at_) = S.fn.map He.DefD.val := congrArg (fun z : AlX => z.2.1) c
  have e2 : (S.fn.map fun d => He.fnW K d.at_)[i]? = (S.fn.map He.DefD.val)[i]? := by rw [e]
  rw [List.getElem?_map, List.getElem?_map, h] at e2
  exact He.DefD.funD (Option.some.inj e2) (List.all_eq_true.mp c2 d (List.mem_of_getElem? h))
/-- the __init__ of the i-th error class -/
theorem SaysX.ini_ (c : SaysX S K) (i : Nat) {d : IniD} (h : S.ini[i]? = some d := by rfl) :
    ∃ (oc : Value) (od : Option Addr) (osl : Array (Option Value)) (kV doc pm : Value) (an : Option Addr) (cda : Addr) (ct : Value) (cc : Addr)
      (ccl : Value) (cdd : Option Addr) (vs : Array Value) (ccs : Array (Option Value)) (file : Str) (tf : Tok) (cl : Value) (cld : Option Addr) (csl : Array (Option Value)),
      K.lookup (He.fAd K (d.cls, some "__init__")) = some ⟨oc, od, .func (PySem.W.ksFn "__init__" d.qual d.params d.body d.scope .none kV doc pm an (.ref cda) ct cc), osl⟩ ∧
      PySem.W.codeIn K (.ref cda) d.qual = true ∧ K.lookup cda = some ⟨ccl, cdd, .fields vs, ccs⟩ ∧ vs[2]? = some (.str file tf) ∧ (S.prog.main.file : Str) = file ∧
      K.lookup cc = some ⟨cl, cld, .cell (some (.ref (He.ga K d.cls))), csl⟩ := by
  have c2 := List.all_eq_true.mp (He.ba (He.ba (congrArg (fun z : AlX => z.1) c)).2).2 d (List.mem_of_getElem? h)
  have e : S.ini.map (fun d => fnX K (d.cls, some "__init__")) = S.ini.map IniD.val := congrArg (fun z : AlX => z.2.2) c
  have e2 : (S.ini.map fun d => fnX K (d.cls, some "__init__"))[i]? = (S.ini.map IniD.val)[i]? := by rw [e]
  rw [List.getElem?_map, List.getElem?_map, h] at e2
  have e3 : fnX K (d.cls, some "__init__") = d.val := Option.some.inj e2
  unfold fnX at e3
  have c3 : iniB S.prog K d = true := c2
  unfold iniB at c3
  cases q : K.lookup (He.fAd K (d.cls, some "__init__")) with
  | none =>
    rw [q] at c3
    cases c3
  | some o =>
    obtain ⟨oc, od, dt, osl⟩ := o
    rw [q] at c3 e3
    cases dt with
    | func fd =>
      obtain ⟨n1, n2, n3, n4, n5, n6, n7, n8, n9, n10, n11, n12, n13, n14, n15⟩ := fd
      have e4 : (some (n1, n2, n3, n4, n5, n6, n7.map (·.1), n8, n15) : FnX) = (some ("__init__", d.qual, d.params, .stmts d.body, d.scope, mainGlobals, ["__class__"], .none, builtinsNs) : FnX) := e3
      simp only [Option.some.injEq, Prod.mk.injEq] at e4
      obtain ⟨h1, h2, h3, h4, h5, h6, h7, h8, h9⟩ := e4
      obtain ⟨c4, c5⟩ := He.ba c3
      obtain ⟨c6, c7⟩ := He.ba c5
      dsimp only at c4 c6 c7 h7
      match n7, h7, c6 with
      | [(y, cc)], h7, c6 =>
        have hy : y = "__class__" := by simpa using h7
        subst hy
        dsimp only at c6
        cases q2 : K.lookup cc with
        | none =>
          rw [q2] at c6
          cases c6
        | some o2 =>
          obtain ⟨cl, cld, dt2, csl⟩ := o2
          rw [q2] at c6
          cases dt2 with
          | cell v =>
            cases v with
            | none => cases c6
            | some v =>
              have hv : v = .ref (He.ga K d.cls) := of_decide_eq_true c6
              subst hv
              cases n13 with
              | ref cda =>
                dsimp only at c7
                cases q3 : K.lookup cda with
                | none =>
                  rw [q3] at c7
                  cases c7
                | some o3 =>
                  obtain ⟨ccl, cdd, dt3, ccs⟩ := o3
                  rw [q3] at c7
                  cases dt3 with
                  | fields vs =>
                    dsimp only at c7
                    cases q4 : vs[2]? with
                    | none =>
                      rw [q4] at c7
                      cases c7
                    | some z =>
                      rw [q4] at c7
                      cases z with
                      | str file tf =>
                        subst h1 h2 h3 h4 h5 h6 h8 h9
                        exact ⟨oc, od, osl, n9, n10, n11, n12, cda, n14, cc, ccl, cdd, vs, ccs, file, tf, cl, cld, csl, rfl, c4, q3, q4, of_decide_eq_true c7, q2⟩
                      | _ => cases c7
                  | _ => cases c7
              | _ => cases c7
          | _ => cases c6
    | _ => cases c3
end
/-! ### an error class -/
def eqO (a b : Option (Option Value)) : Bool := decide (a = b)
/-- all that is asked of an error class x over B, but for its __init__'s object -/
def errB (K : PySem.W.Frag) (B nw ini : String) (bmB : List Value) (x : Str) : Bool :=
  eqO (PySem.W.nsIn K mainGlobals x) (some (some (.ref (He.ga K x)))) && (PySem.W.excInitIn K (He.ga K x) bmB nw && (eqO (PySem.W.findIn K (.ref (He.ga K x)) "__init__") (some (some (.ref (He.ma K (He.ga K x) "__init__")))) &&
  (PySem.W.isFn K (.ref (He.ma K (He.ga K x) "__init__")) && (PySem.W.excOver K (He.ga K x) bmB && (eqO (PySem.W.findIn K (.ref (He.ga K x)) "__setattr__") (some (some (.builtin "object.__setattr__"))) &&
  (PySem.W.keepIn K (.ref (He.ga K x)) && (decide (PySem.W.subIn K (.ref (He.ga K x)) (.type B) = some true) && (decide (PySem.W.typeIn K (.ref (He.ga K x)) = some (.type "type")) &&
  (eqO (PySem.W.nsIn K cStatics "thirdparty.any") (some none) && (eqO (PySem.W.ks_superIn K (He.ga K x) (He.ga K x) "__init__") (some (some (.builtin ini))) && decide (PySem.W.mroIn K (He.ga K x) (.ref (He.ga K x)) = some true)))))))))))
/-- what reading a field and isinstance ask of an error class -/
def excB (K : PySem.W.Frag) (x : Str) : Bool :=
  L2.xfB K (He.ga K x) && (eqO (PySem.W.findIn K (.ref (He.ga K x)) "__class__") (some (some (.builtin "object.__class__"))) && (eqO (PySem.W.specialIn K (.builtin "object.__class__") "__get__") (some (some (.builtin "getset_descriptor.__get__"))) &&
  (decide (PySem.W.takesIn K (.builtin "object.__class__") = some true) && (decide (PySem.W.mroIn K (He.ga K x) (.type "object") = some true) && (PySem.W.clsIn K (He.ga K x)).isSome))))
theorem exc_of {K : PySem.W.Frag} {x : Str} (h : excB K x = true) : L2.XfC K (He.ga K x) ∧ L2.ExcC K (He.ga K x) ∧ (PySem.W.clsIn K (He.ga K x)).isSome = true := by
  obtain ⟨h1, h⟩ := He.ba h
  obtain ⟨h2, h⟩ := He.ba h
  obtain ⟨h3, h⟩ := He.ba h
  obtain ⟨h4, h⟩ := He.ba h
  obtain ⟨h5, h6⟩ := He.ba h
  have F := L2.xfB_ok h1
  exact ⟨F, ⟨F.ga, F.gg, F.exC, F.hdC, of_decide_eq_true h2, of_decide_eq_true h3, of_decide_eq_true h4, of_decide_eq_true h5⟩, h6⟩
theorem err_of {P : Program} {K : PySem.W.Frag} {h : Heap} {mg : Str → Option Value} {B nw ini : String} {bmB : List Value} {x : Str} (FB : ExcBaseFacts B nw ini bmB) (SF : StoreFacts B bmB "object.__setattr__" "object") (KF : PySem.W.KxsFacts B ini)
    (X : K.In h) (G : h.Ns mainGlobals mg) (c : errB K B nw ini bmB x = true) (d : L2.XfC K (He.ga K x)) (gs : mg "super" = none) (top : (P.main.scope.names.lookup ("super" : Str)).isSome = false) :
    ErX.ErrC P K mg B nw ini bmB x (He.ga K x) (He.ma K (He.ga K x) "__init__") := by
  obtain ⟨c1, c⟩ := He.ba c
  obtain ⟨c2, c⟩ := He.ba c
  obtain ⟨c3, c⟩ := He.ba c
  obtain ⟨c4, c⟩ := He.ba c
  obtain ⟨c5, c⟩ := He.ba c
  obtain ⟨c6, c⟩ := He.ba c
  obtain ⟨c7, c⟩ := He.ba c
  obtain ⟨c8, c⟩ := He.ba c
  obtain ⟨c9, c⟩ := He.ba c
  obtain ⟨c10, c⟩ := He.ba c
  obtain ⟨c11, c12⟩ := He.ba c
  exact ⟨FB, SF, KF, PySem.W.mg_of X G (of_decide_eq_true c1), c2, of_decide_eq_true c3, c4, c5, of_decide_eq_true c6, d.ga, d.gg, c7, d.exC, of_decide_eq_true c8, of_decide_eq_true c9, d.hdC, of_decide_eq_true c10, of_decide_eq_true c11, of_decide_eq_true c12, gs, top⟩
end Hk

/-! The text of the law by places, and what the top has left. -/
namespace K0
open PySem PySem.Spec PyProof.Rows L2
def top (i : Nat) : Stmt := PySem.Challenge.pw_onestroke_k00_errors_and_limits.main.body.getD i (.Pass ⟨0, 0, 0, 0⟩)
abbrev s_InvalidWords_init : Stmt := inClass (top 1) 0
abbrev s_InvalidItem_init : Stmt := inClass (top 2) 0
abbrev s_InvalidText_init : Stmt := inClass (top 3) 0
abbrev s_InvalidMode_init : Stmt := inClass (top 4) 0
abbrev s_InvalidStroke_init : Stmt := inClass (top 5) 0
abbrev s_InvalidBodies_init : Stmt := inClass (top 6) 0
abbrev s_InvalidPattern_init : Stmt := inClass (top 7) 0
abbrev s_InvalidPressed_init : Stmt := inClass (top 8) 0
abbrev s_Clash_init : Stmt := inClass (top 10) 0
abbrev s_CommandError_init : Stmt := inClass (top 11) 0
abbrev s_NotAnItem_init : Stmt := inClass (top 12) 0
abbrev s_NotABody_init : Stmt := inClass (top 13) 0
abbrev s_NotABook_init : Stmt := inClass (top 14) 0
abbrev s_OutOfRange_init : Stmt := inClass (top 15) 0
abbrev s_UnknownStroke_init : Stmt := inClass (top 16) 0
abbrev s_UnknownState_init : Stmt := inClass (top 17) 0
abbrev s_TooMany_init : Stmt := inClass (top 18) 0
abbrev s_TooFew_init : Stmt := inClass (top 19) 0
abbrev s_TooDeep_init : Stmt := inClass (top 20) 0
abbrev s_TooLong_init : Stmt := inClass (top 21) 0
abbrev s_NeverEnds_init : Stmt := inClass (top 22) 0
abbrev s_Unlike_init : Stmt := inClass (top 23) 0
abbrev s_Endless_init : Stmt := inClass (top 24) 0
abbrev s_TooBig_init : Stmt := inClass (top 25) 0
abbrev s__law_pen : Stmt := top 38
theorem sc__law_pen : FnScope ["_law_script"] ["_law_script"] (defScope s__law_pen) := ⟨rfl, rfl, rfl, by decide +kernel, rfl, by decide +kernel, by decide +kernel⟩
abbrev s__law_draw : Stmt := top 39
theorem sc__law_draw : FnScope ["_law_pen_here", "_law_size", "_law_digit", "_law_spot", "_law_cell", "_law_mixed"] ["_law_pen_here", "_law_size"] (defScope s__law_draw) := ⟨rfl, rfl, rfl, by decide +kernel, rfl, by decide +kernel, by decide +kernel⟩
abbrev s__law_pick : Stmt := top 40
theorem sc__law_pick : FnScope ["_law_pen_here", "_law_items"] ["_law_pen_here", "_law_items"] (defScope s__law_pick) := ⟨rfl, rfl, rfl, by decide +kernel, rfl, by decide +kernel, by decide +kernel⟩
abbrev s__law_any_value : Stmt := top 41
theorem sc__law_any_value : FnScope ["_law_pen_here", "_law_some"] ["_law_pen_here"] (defScope s__law_any_value) := ⟨rfl, rfl, rfl, by decide +kernel, rfl, by decide +kernel, by decide +kernel⟩
abbrev s__law_ones : Stmt := top 42
theorem sc__law_ones : FnScope ["_law_odd", "_law_found"] ["_law_odd"] (defScope s__law_ones) := ⟨rfl, rfl, rfl, by decide +kernel, rfl, by decide +kernel, by decide +kernel⟩
abbrev s__law_own : Stmt := top 43
theorem sc__law_own : FnScope ["_law_e", "_law_found"] ["_law_e"] (defScope s__law_own) := ⟨rfl, rfl, rfl, by decide +kernel, rfl, by decide +kernel, by decide +kernel⟩
abbrev s__law_shown : Stmt := top 44
theorem sc__law_shown : FnScope ["_law_e", "_law_k"] ["_law_e", "_law_k"] (defScope s__law_shown) := ⟨rfl, rfl, rfl, by decide +kernel, rfl, by decide +kernel, by decide +kernel⟩
abbrev s__law_above : Stmt := top 45
theorem sc__law_above : FnScope ["_law_e", "_law_found"] ["_law_e"] (defScope s__law_above) := ⟨rfl, rfl, rfl, by decide +kernel, rfl, by decide +kernel, by decide +kernel⟩
abbrev s__law_is_right : Stmt := top 46
theorem sc__law_is_right : FnScope ["_law_e", "_law_place", "_law_base", "_law_j"] ["_law_e", "_law_place", "_law_base"] (defScope s__law_is_right) := ⟨rfl, rfl, rfl, by decide +kernel, rfl, by decide +kernel, by decide +kernel⟩
abbrev s__law_twos_right : Stmt := top 47
theorem sc__law_twos_right : FnScope ["_law_odd", "_law_more", "_law_some", "_law_e", "_law_place", "_law_base"] ["_law_odd", "_law_more"] (defScope s__law_twos_right) := ⟨rfl, rfl, rfl, by decide +kernel, rfl, by decide +kernel, by decide +kernel⟩
abbrev s__law_power : Stmt := top 48
theorem sc__law_power : FnScope ["_law_size", "_law_found", "_law_k"] ["_law_size"] (defScope s__law_power) := ⟨rfl, rfl, rfl, by decide +kernel, rfl, by decide +kernel, by decide +kernel⟩
abbrev s_law : Stmt := top 49
theorem sc_law : FnScope ["_law_script", "_law_pen_here", "_law_bases", "_law_lap", "_law_odd", "_law_more", "_law_answer", "_law_k", "_law_e"] ["_law_script"] (defScope s_law) := ⟨rfl, rfl, rfl, by decide +kernel, rfl, by decide +kernel, by decide +kernel⟩
def bmV : List Value := [.type "ValueError", .type "Exception", .type "BaseException", .type "object"]
def bmT : List Value := [.type "TypeError", .type "Exception", .type "BaseException", .type "object"]
def bmL : List Value := [.type "LookupError", .type "Exception", .type "BaseException", .type "object"]
def bmO : List Value := [.type "OverflowError", .type "ArithmeticError", .type "Exception", .type "BaseException", .type "object"]
def bmR : List Value := [.type "RuntimeError", .type "Exception", .type "BaseException", .type "object"]
/-- the errors, by the places of the law -/
def erN : List Str := ["InvalidWords", "InvalidItem", "InvalidText", "InvalidMode", "InvalidStroke", "InvalidBodies", "InvalidPattern", "InvalidPressed", "CommandError", "NotAnItem", "NotABody", "NotABook", "OutOfRange", "UnknownStroke", "UnknownState", "TooMany", "TooFew", "TooDeep", "TooLong", "NeverEnds", "Unlike", "Endless", "Clash", "TooBig", "NotBeginning", "InTrial"]
def erB : List Nat := [0, 0, 0, 0, 0, 0, 0, 0, 0, 1, 1, 1, 2, 2, 2, 3, 3, 3, 3, 4, 4, 4, 0, 4, 0, 4]
def erF : List Str := ["value", "field", "index", "value", "value", "value", "value", "value", "value", "index", "value", "index", "value", "value", "value", "limit", "limit", "limit", "limit", "key", "pressed", "pressed"]
def bsN : List String := ["ValueError", "TypeError", "LookupError", "OverflowError", "RuntimeError"]
def fa : List He.Fa := [.glo "_law_pen", .glo "_law_draw", .glo "_law_pick", .glo "_law_any_value", .glo "_law_ones", .glo "_law_own", .glo "_law_shown", .glo "_law_above", .glo "_law_is_right", .glo "_law_twos_right", .glo "_law_power", .glo "law", .free "super", .free "list", .free "int", .free "len", .free "isinstance", .free "repr", .free "range", .free "ValueError", .free "TypeError", .free "LookupError", .free "OverflowError", .free "RuntimeError", .int "MODES" (6), .int "KEYS" (6), .int "ITEMS" (6), .int "DEPTH" (2), .int "NUMBER" (10 ^ 9), .int "BOOKS" (3), .int "STATES" (36), .int "SIZE" (10 ^ 4000), .int "PATTERN" (8), .int "GOAL" (200)]
def ckE (K : PySem.W.Frag) : Bool :=
  Hk.errB K "ValueError" "ValueError.__new__" "ValueError.__init__" bmV "InvalidWords" && (Hk.errB K "ValueError" "ValueError.__new__" "ValueError.__init__" bmV "InvalidItem" && (Hk.errB K "ValueError" "ValueError.__new__" "ValueError.__init__" bmV "InvalidText" && (Hk.errB K "ValueError" "ValueError.__new__" "ValueError.__init__" bmV "InvalidMode" && (Hk.errB K "ValueError" "ValueError.__new__" "ValueError.__init__" bmV "InvalidStroke" && (Hk.errB K "ValueError" "ValueError.__new__" "ValueError.__init__" bmV "InvalidBodies" && (Hk.errB K "ValueError" "ValueError.__new__" "ValueError.__init__" bmV "InvalidPattern" && (Hk.errB K "ValueError" "ValueError.__new__" "ValueError.__init__" bmV "InvalidPressed" && (Hk.errB K "ValueError" "ValueError.__new__" "ValueError.__init__" bmV "CommandError" && (Hk.errB K "TypeError" "TypeError.__new__" "TypeError.__init__" bmT "NotAnItem" && (Hk.errB K "TypeError" "TypeError.__new__" "TypeError.__init__" bmT "NotABody" && (Hk.errB K "TypeError" "TypeError.__new__" "TypeError.__init__" bmT "NotABook" && (Hk.errB K "LookupError" "LookupError.__new__" "LookupError.__init__" bmL "OutOfRange" && (Hk.errB K "LookupError" "LookupError.__new__" "LookupError.__init__" bmL "UnknownStroke" && (Hk.errB K "LookupError" "LookupError.__new__" "LookupError.__init__" bmL "UnknownState" && (Hk.errB K "OverflowError" "OverflowError.__new__" "OverflowError.__init__" bmO "TooMany" && (Hk.errB K "OverflowError" "OverflowError.__new__" "OverflowError.__init__" bmO "TooFew" && (Hk.errB K "OverflowError" "OverflowError.__new__" "OverflowError.__init__" bmO "TooDeep" && (Hk.errB K "OverflowError" "OverflowError.__new__" "OverflowError.__init__" bmO "TooLong" && (Hk.errB K "RuntimeError" "RuntimeError.__new__" "RuntimeError.__init__" bmR "NeverEnds" && (Hk.errB K "RuntimeError" "RuntimeError.__new__" "RuntimeError.__init__" bmR "Unlike" && (Hk.errB K "RuntimeError" "RuntimeError.__new__" "RuntimeError.__init__" bmR "Endless" && (Hk.errB K "ValueError" "ValueError.__new__" "ValueError.__init__" bmV "Clash" && (Hk.errB K "RuntimeError" "RuntimeError.__new__" "RuntimeError.__init__" bmR "TooBig")))))))))))))))))))))))
def ckN (K : PySem.W.Frag) : Bool := eqN K bmV "ValueError.__new__" "NotBeginning" && eqN K bmR "RuntimeError.__new__" "InTrial"
where eqN (K : PySem.W.Frag) (bm : List Value) (nw : String) (x : Str) : Bool := Hk.eqO (PySem.W.nsIn K mainGlobals x) (some (some (.ref (He.ga K x)))) && (PySem.W.excIn K (He.ga K x) bm nw && PySem.W.keepIn K (.ref (He.ga K x)))
def ckX (K : PySem.W.Frag) : Bool := erN.all fun x => Hk.excB K x
/-- which error is of which class, and below which of the five -/
def ckI (K : PySem.W.Frag) : Bool := (List.range 26).all fun i => ((List.range 26).all fun j => decide (PySem.W.kitOne K (.ref (He.ga K (erN.getD i ""))) (.ref (He.ga K (erN.getD j ""))) = some (decide (j = i)))) &&
  (List.range 5).all fun j => decide (PySem.W.kitOne K (.ref (He.ga K (erN.getD i ""))) (.type (bsN.getD j "")) = some (decide (j = erB.getD i 0)))
def ckF (K : PySem.W.Frag) : Bool := (List.range 22).all (fun i => Hk.eqO (PySem.W.findIn K (.ref (He.ga K (erN.getD i ""))) (erF.getD i "")) (some none)) && (["Clash", "TooBig"] : List Str).all fun x => (["mode", "key"] : List Str).all fun f => Hk.eqO (PySem.W.findIn K (.ref (He.ga K x)) f) (some none)
def fn : List He.DefD := [⟨("_law_pen", none), "_law_pen", "_law_pen", defArgs s__law_pen, defBody s__law_pen, defScope s__law_pen, [], []⟩, ⟨("_law_draw", none), "_law_draw", "_law_draw", defArgs s__law_draw, defBody s__law_draw, defScope s__law_draw, [], []⟩, ⟨("_law_pick", none), "_law_pick", "_law_pick", defArgs s__law_pick, defBody s__law_pick, defScope s__law_pick, [], []⟩, ⟨("_law_any_value", none), "_law_any_value", "_law_any_value", defArgs s__law_any_value, defBody s__law_any_value, defScope s__law_any_value, [], []⟩, ⟨("_law_ones", none), "_law_ones", "_law_ones", defArgs s__law_ones, defBody s__law_ones, defScope s__law_ones, [], []⟩, ⟨("_law_own", none), "_law_own", "_law_own", defArgs s__law_own, defBody s__law_own, defScope s__law_own, [], []⟩, ⟨("_law_shown", none), "_law_shown", "_law_shown", defArgs s__law_shown, defBody s__law_shown, defScope s__law_shown, [], []⟩, ⟨("_law_above", none), "_law_above", "_law_above", defArgs s__law_above, defBody s__law_above, defScope s__law_above, [], []⟩, ⟨("_law_is_right", none), "_law_is_right", "_law_is_right", defArgs s__law_is_right, defBody s__law_is_right, defScope s__law_is_right, [], []⟩, ⟨("_law_twos_right", none), "_law_twos_right", "_law_twos_right", defArgs s__law_twos_right, defBody s__law_twos_right, defScope s__law_twos_right, [], []⟩, ⟨("_law_power", none), "_law_power", "_law_power", defArgs s__law_power, defBody s__law_power, defScope s__law_power, [], []⟩, ⟨("law", none), "law", "law", defArgs s_law, defBody s_law, defScope s_law, [], []⟩]
def ini : List Hk.IniD := [⟨"InvalidWords", "InvalidWords.__init__", defArgs s_InvalidWords_init, defBody s_InvalidWords_init, defScope s_InvalidWords_init⟩, ⟨"InvalidItem", "InvalidItem.__init__", defArgs s_InvalidItem_init, defBody s_InvalidItem_init, defScope s_InvalidItem_init⟩, ⟨"InvalidText", "InvalidText.__init__", defArgs s_InvalidText_init, defBody s_InvalidText_init, defScope s_InvalidText_init⟩, ⟨"InvalidMode", "InvalidMode.__init__", defArgs s_InvalidMode_init, defBody s_InvalidMode_init, defScope s_InvalidMode_init⟩, ⟨"InvalidStroke", "InvalidStroke.__init__", defArgs s_InvalidStroke_init, defBody s_InvalidStroke_init, defScope s_InvalidStroke_init⟩, ⟨"InvalidBodies", "InvalidBodies.__init__", defArgs s_InvalidBodies_init, defBody s_InvalidBodies_init, defScope s_InvalidBodies_init⟩, ⟨"InvalidPattern", "InvalidPattern.__init__", defArgs s_InvalidPattern_init, defBody s_InvalidPattern_init, defScope s_InvalidPattern_init⟩, ⟨"InvalidPressed", "InvalidPressed.__init__", defArgs s_InvalidPressed_init, defBody s_InvalidPressed_init, defScope s_InvalidPressed_init⟩, ⟨"CommandError", "CommandError.__init__", defArgs s_CommandError_init, defBody s_CommandError_init, defScope s_CommandError_init⟩, ⟨"NotAnItem", "NotAnItem.__init__", defArgs s_NotAnItem_init, defBody s_NotAnItem_init, defScope s_NotAnItem_init⟩, ⟨"NotABody", "NotABody.__init__", defArgs s_NotABody_init, defBody s_NotABody_init, defScope s_NotABody_init⟩, ⟨"NotABook", "NotABook.__init__", defArgs s_NotABook_init, defBody s_NotABook_init, defScope s_NotABook_init⟩, ⟨"OutOfRange", "OutOfRange.__init__", defArgs s_OutOfRange_init, defBody s_OutOfRange_init, defScope s_OutOfRange_init⟩, ⟨"UnknownStroke", "UnknownStroke.__init__", defArgs s_UnknownStroke_init, defBody s_UnknownStroke_init, defScope s_UnknownStroke_init⟩, ⟨"UnknownState", "UnknownState.__init__", defArgs s_UnknownState_init, defBody s_UnknownState_init, defScope s_UnknownState_init⟩, ⟨"TooMany", "TooMany.__init__", defArgs s_TooMany_init, defBody s_TooMany_init, defScope s_TooMany_init⟩, ⟨"TooFew", "TooFew.__init__", defArgs s_TooFew_init, defBody s_TooFew_init, defScope s_TooFew_init⟩, ⟨"TooDeep", "TooDeep.__init__", defArgs s_TooDeep_init, defBody s_TooDeep_init, defScope s_TooDeep_init⟩, ⟨"TooLong", "TooLong.__init__", defArgs s_TooLong_init, defBody s_TooLong_init, defScope s_TooLong_init⟩, ⟨"NeverEnds", "NeverEnds.__init__", defArgs s_NeverEnds_init, defBody s_NeverEnds_init, defScope s_NeverEnds_init⟩, ⟨"Unlike", "Unlike.__init__", defArgs s_Unlike_init, defBody s_Unlike_init, defScope s_Unlike_init⟩, ⟨"Endless", "Endless.__init__", defArgs s_Endless_init, defBody s_Endless_init, defScope s_Endless_init⟩, ⟨"Clash", "Clash.__init__", defArgs s_Clash_init, defBody s_Clash_init, defScope s_Clash_init⟩, ⟨"TooBig", "TooBig.__init__", defArgs s_TooBig_init, defBody s_TooBig_init, defScope s_TooBig_init⟩]
def sheet : Hk.Sheet := ⟨PySem.Challenge.pw_onestroke_k00_errors_and_limits, fun K => (fa.all fun f => f.ok K) && (ckE K && (ckN K && (ckX K && (ckI K && ckF K)))), fn, ini⟩
end K0

namespace K0
open PySem PySem.Spec PyProof.Rows L2
abbrev R : PySem.W.OpenRow := PySem.W.OpenLaw.row PySem.Challenge.rw_onestroke_k00_errors_and_limits
abbrev hk : PySem.W.Hook := Hk.hookX 5 sheet
def ob (s : PySem.W.SharedT) : Hk.AlX := Hk.obsX sheet (Hk.fragX 5 (HandSHeadRun.getT s))
theorem ob_eq (s : PySem.W.SharedT) : ob s = hk.obs s.abs := Hk.obsX_eq (HandSHeadRun.getT_eq s)
def names0 : List Str := ["InvalidWords", "InvalidItem", "InvalidText", "InvalidMode", "InvalidStroke", "InvalidBodies", "InvalidPattern", "InvalidPressed", "NotBeginning", "Clash", "CommandError", "NotAnItem", "NotABody", "NotABook", "OutOfRange", "UnknownStroke", "UnknownState", "TooMany", "TooFew", "TooDeep", "TooLong", "NeverEnds", "Unlike", "Endless", "TooBig", "InTrial", "MODES", "KEYS", "ITEMS", "DEPTH"]
def names1 : List Str := ["NUMBER", "BOOKS", "STATES", "SIZE", "PATTERN", "GOAL", "_law_pen", "_law_draw", "_law_pick", "_law_any_value", "_law_ones", "_law_own", "_law_shown", "_law_above", "_law_is_right", "_law_twos_right", "_law_power"]
def names : List Str := names0 ++ names1
theorem run (w : World) : HandSHeadRun.RunEq R (PySem.W.view R.prog [49]) hk ob 60000 names w := by
  intro os
  kernel_rfl
end K0

namespace K0
open PySem PySem.Spec PyProof.Rows L2
/-! ### the source of draws -/
/-- the built-in names that the law's helpers use -/
structure Bi (mg : Str → Option Value) : Prop where
  li : mg "list" = none
  int : mg "int" = none
  len : mg "len" = none
/-- all that was tracked, but for d, is as it was -/
def But (d : Addr) (H H' : Hp) : Prop := ∀ b o, H b = some o → b ≠ d → H' b = some o
theorem But.refl (d : Addr) (H : Hp) : But d H H := fun _ _ h _ => h
theorem But.trans {d : Addr} {H H1 H2 : Hp} (a : But d H H1) (b : But d H1 H2) : But d H H2 := fun c o h n => b c o (a c o h n) n
theorem But.of_same {d : Addr} {H H' : Hp} (s : Same H H') : But d H H' := fun b o h _ => s b o h
theorem same_new {H : Hp} {d : Addr} {o : HO} (h : H d = none) : Same H (upd H d o) := fun b u e => by
  rw [upd_ne (ne_of_none e h)]
  exact e
theorem upd_none {H : Hp} {a b : Addr} {o : HO} (h : upd H a o b = none) : b ≠ a ∧ H b = none := by
  by_cases e : b = a
  · rw [e, upd_same] at h
    cases h
  · exact ⟨e, by rw [upd_ne e] at h; exact h⟩
def penD (l : Addr) (n r : Int) : List (Key × V) := [(Sum.inr "cells", .ref l), (Sum.inr "spot", .int n), (Sum.inr "rest", .int r)]
/-- at d: a source of draws from which at most c cells were begun -/
def PenAt (H : Hp) (d : Addr) (c : Int) : Prop := ∃ (l : Addr) (ns : List Int) (n r : Int), H d = some (.dK (penD l n r)) ∧ H l = some (.lst (ns.map V.int)) ∧ 0 ≤ n ∧ n ≤ c
theorem PenAt.mono {H : Hp} {d : Addr} {c c' : Int} (h : PenAt H d c) (e : c ≤ c') : PenAt H d c' := by
  obtain ⟨l, ns, n, r, h1, h2, h3, h4⟩ := h
  exact ⟨l, ns, n, r, h1, h2, h3, Int.le_trans h4 e⟩
theorem PenAt.same {H H' : Hp} {d : Addr} {c : Int} (h : PenAt H d c) (s : Same H H') : PenAt H' d c := by
  obtain ⟨l, ns, n, r, h1, h2, h3, h4⟩ := h
  exact ⟨l, ns, n, r, s _ _ h1, s _ _ h2, h3, h4⟩
theorem pen_cells (l : Addr) (n r : Int) : valV (penD l n r) (Sum.inr "cells") = some (.ref l) := by rfl
theorem pen_spot (l : Addr) (n r : Int) : valV (penD l n r) (Sum.inr "spot") = some (.int n) := by rfl
theorem pen_rest (l : Addr) (n r : Int) : valV (penD l n r) (Sum.inr "rest") = some (.int r) := by rfl
theorem put_spot (l : Addr) (n r m : Int) : putK (penD l n r) (Sum.inr "spot") (.int m) = penD l m r := by rfl
theorem put_rest (l : Addr) (n r m : Int) : putK (penD l n r) (Sum.inr "rest") (.int m) = penD l n m := by rfl
def spPen (K : PySem.W.Frag) : Sp := fun vs H Q _ => ∃ (a : Addr) (ns : List Int), vs = [.ref a] ∧ SqL K H a (ns.map V.int) ∧ ∀ (d : Addr) (H' : Hp), Same H H' → H d = none → PenAt H' d 0 → Q (.ref d) H'
def spDraw : Sp := fun vs H Q _ => ∃ (d : Addr) (c z : Int), vs = [.ref d, .int z] ∧ PenAt H d c ∧ c ≤ 2 ^ 60 ∧ 0 < z ∧ z < 2 ^ 30 ∧ ∀ (k : Int) (H' : Hp), 0 ≤ k → k < z → PenAt H' d (c + 1) → But d H H' → Q (.int k) H'
section
variable {P : Program} {w : World} {K : PySem.W.Frag} {mg : Str → Option Value} {base : Heap}
theorem ok_pen {f : Addr} {fd : FuncData} (F : FunD K "_law_pen" "_law_pen" (defArgs s__law_pen) (defBody s__law_pen) (defScope s__law_pen) [] [] f fd) (T : Bi mg) : FnOk P w K mg base CX0 1 f fd ["_law_script"] (spPen K) := by
  refine F.ok sc__law_pen (fun vs H Q E h => ?_) (fun cdv A outer s H vs Q E hr h => ?_)
  · obtain ⟨a, ns, rfl, _⟩ := h
    rfl
  · obtain ⟨a, ns, rfl, hS, k⟩ := h
    refine ⟨_, PSs.nox (pss_one (ps_ret (pe_disp (pps_cons pe_str (pe_callTy call_list_of (by rfl) T.li (by decide +kernel) (pa_cons (pe_slice sl_list (pv 0) po_none (po_some pe_int)) pa_nil))
      (pps_cons pe_str pe_int (pps_cons pe_str pe_int pps_nil))) (by rfl) (by rfl) (fun z => by cases z) (by decide)))), ?_⟩
    intro d hd
    refine ⟨_, rfl, _, rfl, a, _, rfl, (same_new hd).seq hS, fun p hp => ?_⟩
    refine ⟨p, _, rfl, .inl (.inl (.inl upd_same)), fun l hl => ?_⟩
    obtain ⟨hpd, hp0⟩ := upd_none hp
    obtain ⟨hlp, hl1⟩ := upd_none hl
    obtain ⟨hld, hl0⟩ := upd_none hl1
    refine ⟨?_, [(Sum.inr "cells", .ref l), (Sum.inr "spot", .int 0), (Sum.inr "rest", .int 0)], rfl, (by show 3 ≤ 15; decide), ?_⟩
    · rw [upd_ne (Ne.symm hld), upd_ne (Ne.symm hpd), upd_same]
    · obtain ⟨ms, em⟩ : ∃ ms : List Int, cutV (ns.map V.int) none (some 63) = ms.map V.int := ⟨_, by unfold cutV; rw [← List.map_drop, ← List.map_take]⟩
      refine k d _ (fun b o e => ?_) hd ⟨l, ms, 0, 0, upd_same, ?_, Int.le_refl _, Int.le_refl _⟩
      · rw [upd_ne (ne_of_none e hd), upd_ne (ne_of_none e hl0), upd_ne (ne_of_none e hp0), upd_ne (ne_of_none e hd)]
        exact e
      · rw [upd_ne hld, upd_same, em]
theorem dp_ints {K : PySem.W.Frag} {H : Hp} : ∀ ns : List Int, DpAll K H (ns.map V.int) (ns.map PyData.int)
  | [] => .nil
  | n :: ns => .cons (.int n) (dp_ints ns)
theorem fmod_lt {a b : Int} (h : 0 < b) : 0 ≤ a.fmod b ∧ a.fmod b < b := ⟨Int.fmod_nonneg_of_pos a h, Int.fmod_lt_of_pos a h⟩
theorem fmB {a b : Int} (h : 0 < b) (h2 : b ≤ 2 ^ 64) : -(2 ^ 64) < a.fmod b ∧ a.fmod b < 2 ^ 64 := by
  have := fmod_lt (a := a) h
  omega
theorem ok_draw {f : Addr} {fd : FuncData} (F : FunD K "_law_draw" "_law_draw" (defArgs s__law_draw) (defBody s__law_draw) (defScope s__law_draw) [] [] f fd) (T : Bi mg) : FnOk P w K mg base CX0 1 f fd ["_law_pen_here", "_law_size"] spDraw := by
  refine F.ok sc__law_draw (fun vs H Q E h => ?_) (fun cdv A outer s H vs Q E hr h => ?_)
  · obtain ⟨d, c, z, rfl, _⟩ := h
    rfl
  · obtain ⟨d, c, z, rfl, hP, hc, hz, hz2, k⟩ := h
    have hu := hu_of hr
    obtain ⟨l, ns, n, r, hd, hl, hn0, hn1⟩ := hP
    have hdl : l ≠ d := ne_of hl hd (by intro z; cases z)
    refine ⟨_, PSs.nox (pss_cons (ps_if (pt_cmpR op_ge (pe_dget hu (pv 0) pe_str (fun _ _ => rfl)) (pv 1) (nomark _))
        (pss_cons (ps_set (i := 2) sc__law_draw.nd rfl (Or.inl rfl) (pe_op op_modN (pe_callTy call_int1 (by rfl) T.int (by decide +kernel) (pa_cons (pe_dget hu (pv 0) pe_str (fun _ _ => rfl)) pa_nil)) (pv 1)))
        (pss_cons (ps_dput hu (pv 0) pe_str (pe_op op_fdivN (pe_dget hu (pv 0) pe_str (fun _ _ => rfl)) (pv 1)) rfl)
        (pss_one (ps_ret (pv 2))))) pss_nil)
      (pss_cons (ps_set (i := 3) sc__law_draw.nd rfl (Or.inl rfl) (pe_dget hu (pv 0) pe_str (fun _ _ => rfl)))
      (pss_cons (ps_dput hu (pv 0) pe_str (pe_op op_add (pv 3) pe_int) rfl)
      (pss_cons (ps_set (i := 4) sc__law_draw.nd rfl (Or.inl rfl) (pe_op op_add (pe_op op_mul pe_int (pv 3)) pe_int))
      (pss_cons (ps_if (pt_cmpR (op_neD hr.units) (pe_dget hu (pv 0) pe_str (fun _ _ => rfl)) (pe_lst pa_nil) (nomark _))
        (pss_one (ps_set (i := 4) sc__law_draw.nd rfl (Or.inl rfl) (pe_ix ix_list (pe_dget hu (pv 0) pe_str (fun _ _ => rfl)) (pe_op op_modN (pe_callTy call_int1 (by rfl) T.int (by decide +kernel) (pa_cons (pv 3) pa_nil))
          (pe_callB call_len_seq (by rfl) T.len PySem.boot_len (pa_cons (pe_dget hu (pv 0) pe_str (fun _ _ => rfl)) pa_nil))) (fun _ _ => rfl)))) pss_nil)
      (pss_cons (ps_if (PW.pt (pw_and (pt_cmpR op_lt (pv 3) (pe_callB call_len_seq (by rfl) T.len PySem.boot_len (pa_cons (pe_dget hu (pv 0) pe_str (fun _ _ => rfl)) pa_nil)) (nomark _)) (pw_and1 (pt_cmpR op_ge (pv 4) (pe_op op_pow pe_int pe_int) (nomark _)))))
        (pss_cons (ps_dput hu (pv 0) pe_str (pe_op op_fdivN (pe_op op_sub (pv 4) (pe_op op_pow pe_int pe_int)) (pv 1)) rfl)
        (pss_one (ps_ret (pe_op op_modN (pe_callTy call_int1 (by rfl) T.int (by decide +kernel) (pa_cons (pe_op op_sub (pv 4) (pe_op op_pow pe_int pe_int)) pa_nil)) (pv 1))))) pss_nil)
      (pss_cons (ps_set (i := 5) sc__law_draw.nd rfl (Or.inl rfl) (pe_op op_mul (pe_op op_modN (pe_callTy call_int1 (by rfl) T.int (by decide +kernel) (pa_cons (pv 4) pa_nil)) pe_int) pe_int))
      (pss_cons (ps_set (i := 5) sc__law_draw.nd rfl (Or.inl rfl) (pe_op op_modN (pe_callTy call_int1 (by rfl) T.int (by decide +kernel) (pa_cons (pe_op op_add (pe_op op_add (pe_op op_add (pv 5) (pe_op op_mul (pe_op op_mul pe_int (pv 3)) (pv 3))) (pe_op op_mul pe_int (pv 3))) pe_int) pa_nil)) pe_int))
      (pss_cons (ps_set (i := 5) sc__law_draw.nd rfl (Or.inl rfl) (pe_op op_modN (pe_callTy call_int1 (by rfl) T.int (by decide +kernel) (pa_cons (pe_op op_mul (pv 5) (pe_op op_add (pv 5) pe_int)) pa_nil)) pe_int))
      (pss_one (ps_ret (pe_op op_modN (pe_callTy call_int1 (by rfl) T.int (by decide +kernel) (pa_cons (pe_op op_fdivN (pe_op op_modN (pe_callTy call_int1 (by rfl) T.int (by decide +kernel) (pa_cons (pe_op op_add (pe_op op_mul (pv 5) (pv 5)) (pe_op op_mul pe_int (pv 5))) pa_nil)) pe_int) pe_int) pa_nil)) (pv 1))))))))))))), ?_⟩
    -- if rest >= size
    have gR : DGet H d (.str "rest") (some (.int r)) := by
      have := DGet.k (k := (Sum.inr "rest" : Key)) hd
      rw [pen_rest] at this
      exact this
    have small : (penD l n r).length < sizeLine := small1000 (by show 3 ≤ 1000; decide)
    have hzn : z.natAbs < 1073741824 := by omega
    refine ⟨_, rfl, d, _, rfl, gR, _, rfl, _, _, rfl, rfl, _, rfl, ?_⟩
    refine ite2 (fun h1 => ?_) (fun h1 => ?_)
    · refine ⟨_, rfl, d, _, rfl, gR, .inl ⟨_, rfl, _, rfl, _, _, rfl, rfl, (by omega), ?_⟩⟩
      refine ⟨_, rfl, d, _, rfl, gR, _, rfl, _, _, rfl, rfl, ⟨by omega, hzn⟩, _, rfl, d, _, rfl, DPut.k (k := (Sum.inr "rest" : Key)) hd small, ?_⟩
      refine ⟨_, rfl, ?_⟩
      rw [put_rest]
      obtain ⟨m1, m2⟩ := fmod_lt (a := r) hz
      refine k _ _ m1 m2 ⟨l, ns, n, _, upd_same, ?_, hn0, by omega⟩ fun b o e hb => ?_
      · rw [upd_ne hdl]
        exact hl
      · rw [upd_ne hb]
        exact e
    · have gS : DGet H d (.str "spot") (some (.int n)) := by
        have := DGet.k (k := (Sum.inr "spot" : Key)) hd
        rw [pen_spot] at this
        exact this
      refine ⟨_, rfl, d, _, rfl, gS, ?_⟩
      refine ⟨_, rfl, _, _, rfl, rfl, _, rfl, d, _, rfl, DPut.k (k := (Sum.inr "spot" : Key)) hd small, ?_⟩
      rw [put_spot]
      have hd1 : upd H d (.dK (penD l (n + 1) r)) d = some (.dK (penD l (n + 1) r)) := upd_same
      have hl1 : upd H d (.dK (penD l (n + 1) r)) l = some (.lst (ns.map V.int)) := by
        rw [upd_ne hdl]
        exact hl
      have gC : DGet (upd H d (.dK (penD l (n + 1) r))) d (.str "cells") (some (.ref l)) := by
        have := DGet.k (k := (Sum.inr "cells" : Key)) hd1
        rw [pen_cells] at this
        exact this
      refine ⟨_, rfl, _, _, rfl, rfl, .inl ⟨by decide, by decide⟩, _, _, rfl, rfl, ?_⟩
      -- if cells != []
      refine ⟨_, rfl, d, _, rfl, gC, (by show 0 ≤ sizeLine; exact Nat.zero_le _), fun p hp => ?_⟩
      obtain ⟨hpd, hp0⟩ := upd_none hp
      have hl2 : upd (upd H d (.dK (penD l (n + 1) r))) p (.lst []) l = some (.lst (ns.map V.int)) := by
        rw [upd_ne (ne_of_none hl1 hp)]
        exact hl1
      have hd2 : upd (upd H d (.dK (penD l (n + 1) r))) p (.lst []) d = some (.dK (penD l (n + 1) r)) := by
        rw [upd_ne (Ne.symm hpd)]
        exact hd1
      have gC2 : DGet (upd (upd H d (.dK (penD l (n + 1) r))) p (.lst [])) d (.str "cells") (some (.ref l)) := by
        have := DGet.k (k := (Sum.inr "cells" : Key)) hd2
        rw [pen_cells] at this
        exact this
      have keep2 : But d H (upd (upd H d (.dK (penD l (n + 1) r))) p (.lst [])) := fun b o e hb => by
        rw [upd_ne (ne_of_none e hp0), upd_ne hb]
        exact e
      refine ⟨.list (ns.map PyData.int), .list [], .lst (.inl (.inl hl2)) (dp_ints ns), .lst (.inl (.inl upd_same)) .nil, PySem.W.ke_shaped_ints ns, by decide +kernel, _, rfl, ?_⟩
      have fin : ∀ (k' : Int), 0 ≤ k' → k' < z → Q (.int k') (upd (upd H d (.dK (penD l (n + 1) r))) p (.lst [])) := fun k' q1 q2 => k k' _ q1 q2 ⟨l, ns, n + 1, r, hd2, hl2, by omega, by omega⟩ keep2
      have pen2 : ∀ x : Int, upd (upd (upd H d (.dK (penD l (n + 1) r))) p (.lst [])) d (.dK (penD l (n + 1) x)) l = some (.lst (ns.map V.int)) := fun x => by
        rw [upd_ne hdl]
        exact hl2
      have nlo : -(2 ^ 64) < n := by omega
      have nhi : n < 2 ^ 64 := by omega
      refine ite2 (fun h2 => ?_) (fun h2 => ?_)
      -- cells is not empty
      rotate_left
      generalize 71 * n + 43 = cell
      rotate_left
      have hne : ns ≠ [] := fun e => by
        subst e
        exact absurd h2 (by decide +kernel)
      have hlen : 0 < ns.length := List.length_pos_iff.mpr hne
      have q1 := fmod_lt (a := n) (b := (ns.length : Int)) (by omega)
      obtain ⟨j, hj⟩ : ∃ j : Nat, n.fmod (ns.length : Int) = (j : Int) := ⟨(n.fmod (ns.length : Int)).toNat, by omega⟩
      have hj2 : j < ns.length := by omega
      have hat : atI (ns.map V.int) (n.fmod ((ns.map V.int).length : Int)) = some (.int ns[j]) := by
        rw [List.length_map, hj]
        exact atI_nat (by rw [List.getElem?_map, List.getElem?_eq_getElem hj2]; rfl)
      refine ⟨_, rfl, d, _, rfl, gC2, _, rfl, .inl ⟨_, rfl, _, rfl, d, _, rfl, gC2, l, _, rfl, .inl (.inl (.inl hl2)), _, _, rfl, rfl, (by rw [List.length_map]; omega), l, _, _, .int ns[j], rfl, rfl, .inl (.inl hl2), hat, ?_⟩⟩
      clear hat
      generalize ns[j] = cell
      all_goals
        refine ⟨_, rfl, _, rfl, d, _, rfl, gC2, l, _, rfl, .inl (.inl (.inl hl2)), _, _, rfl, rfl, _, rfl, ?_⟩
        refine ite2 (fun h3 => ?_) (fun h3 => ?_)
        · refine ⟨_, rfl, _, _, rfl, rfl, ⟨by decide, by decide, by decide⟩, _, _, rfl, rfl, _, rfl, ?_⟩
          refine ite2 (fun h4 => ?_) (fun h4 => ?_)
          · refine ⟨_, rfl, _, _, rfl, rfl, ⟨by decide, by decide, by decide⟩, _, _, rfl, rfl, _, rfl, _, _, rfl, rfl, ⟨by omega, hzn⟩, _, rfl, d, _, rfl, DPut.k (k := (Sum.inr "rest" : Key)) hd2 (small1000 (by show 3 ≤ 1000; decide)), ?_⟩
            rw [put_rest]
            refine ⟨_, rfl, _, _, rfl, rfl, ⟨by decide, by decide, by decide⟩, _, _, rfl, rfl, .inl ⟨_, rfl, _, rfl, _, _, rfl, rfl, by omega, ?_⟩⟩
            refine k _ _ (fmod_lt hz).1 (fmod_lt hz).2 ⟨l, ns, n + 1, _, upd_same, pen2 _, by omega, by omega⟩ fun b o e hb => ?_
            rw [upd_ne hb]
            exact keep2 b o e hb
          · refine ⟨_, rfl, .inl ⟨_, rfl, _, _, rfl, rfl, (by simp), _, _, rfl, rfl, .inr ⟨by decide, by decide⟩, ?_⟩⟩
            refine ⟨_, rfl, _, rfl, _, _, rfl, rfl, .inl ⟨by decide, by decide⟩, _, rfl, _, _, rfl, rfl, .inr ⟨nlo, nhi⟩, _, _, rfl, rfl, _, rfl, _, _, rfl, rfl, .inl ⟨by decide, by decide⟩, _, _, rfl, rfl, _, _, rfl, rfl, .inl ⟨_, rfl, _, _, rfl, rfl, (by simp), ?_⟩⟩
            refine ⟨_, rfl, _, rfl, _, _, rfl, rfl, _, _, rfl, rfl, .inl (fmB (by decide) (by decide)), .inl ⟨_, rfl, _, _, rfl, rfl, (by simp), ?_⟩⟩
            refine ⟨_, rfl, _, rfl, _, _, rfl, rfl, .inl (fmB (by decide) (by decide)), _, rfl, _, _, rfl, rfl, .inl ⟨by decide, by decide⟩, _, _, rfl, rfl, .inl ⟨_, rfl, _, _, rfl, rfl, (by simp), _, _, rfl, rfl, ⟨by decide, by decide⟩, .inl ⟨_, rfl, _, rfl, _, _, rfl, rfl, by omega, ?_⟩⟩⟩
            exact fin _ (fmod_lt hz).1 (fmod_lt hz).2
        · refine iteF ?_
          refine ⟨_, rfl, .inl ⟨_, rfl, _, _, rfl, rfl, (by simp), _, _, rfl, rfl, .inr ⟨by decide, by decide⟩, ?_⟩⟩
          refine ⟨_, rfl, _, rfl, _, _, rfl, rfl, .inl ⟨by decide, by decide⟩, _, rfl, _, _, rfl, rfl, .inr ⟨nlo, nhi⟩, _, _, rfl, rfl, _, rfl, _, _, rfl, rfl, .inl ⟨by decide, by decide⟩, _, _, rfl, rfl, _, _, rfl, rfl, .inl ⟨_, rfl, _, _, rfl, rfl, (by simp), ?_⟩⟩
          refine ⟨_, rfl, _, rfl, _, _, rfl, rfl, _, _, rfl, rfl, .inl (fmB (by decide) (by decide)), .inl ⟨_, rfl, _, _, rfl, rfl, (by simp), ?_⟩⟩
          refine ⟨_, rfl, _, rfl, _, _, rfl, rfl, .inl (fmB (by decide) (by decide)), _, rfl, _, _, rfl, rfl, .inl ⟨by decide, by decide⟩, _, _, rfl, rfl, .inl ⟨_, rfl, _, _, rfl, rfl, (by simp), _, _, rfl, rfl, ⟨by decide, by decide⟩, .inl ⟨_, rfl, _, rfl, _, _, rfl, rfl, by omega, ?_⟩⟩⟩
          exact fin _ (fmod_lt hz).1 (fmod_lt hz).2
/-- a def of the module that keeps its promise -/
def OkF (P : Program) (w : World) (K : PySem.W.Frag) (mg : Str → Option Value) (base : Heap) (CX : CXT) (k : Nat) (x : Str) (ps : List Str) (sp : Sp) : Prop :=
  ∃ f fd, mg x = some (.ref f) ∧ PySem.W.keepIn K (.ref f) = true ∧ Binds K fd ps [] ∧ FnOk P w K mg base CX k f fd ps sp
end
section
variable {X : Cx} {CX : CXT} {k : Nat} {ps : List Str} {sp : Sp} {E : XK} {x : Str} {p pos : Pos} {e : Expr} {es : List Expr} {t : TA}
theorem pe_f (O : OkF X.prog X.w X.K X.mg X.base CX k x ps sp) (hr : Room k X.A) (hg : Gl X x) (hx : Passes CX X E) (ha : PA X (e :: es) t) (hdb : (x == ("__debug__" : Str)) = false := by decide)
    (he : starEach (e :: es) X.env = (false, eval e X.env) :: starEach es X.env := by rfl) (hpl : (backTo pos (starEach es X.env)).any (·.1) = false := by rfl) :
    PE X (.Call (.Name x p) (e :: es) [] pos) (tCall sp [] E t) := by
  obtain ⟨f, fd, m, kp, b, F⟩ := O
  exact pe_call F hr hg m kp b .nil hx ha hdb he hpl
end
theorem seq_but {K : PySem.W.Frag} {H H' : Hp} {d a : Addr} {xs : List V} {kvs : List (Key × V)} (b : But d H H') (hd : H d = some (.dK kvs)) (h : SqL K H a xs) : SqL K H' a xs := by
  rcases h with (h | ⟨o, h⟩) | h
  · exact .inl (.inl (b _ _ h (ne_of h hd (by intro z; cases z))))
  · exact .inl (.inr ⟨o, b _ _ h (ne_of h hd (by intro z; cases z))⟩)
  · exact .inr h
def spPick (K : PySem.W.Frag) : Sp := fun vs H Q _ => ∃ (d a : Addr) (c : Int) (xs : List V), vs = [.ref d, .ref a] ∧ PenAt H d c ∧ c ≤ 2 ^ 60 ∧ SqL K H a xs ∧ 0 < xs.length ∧ xs.length < 2 ^ 30 ∧
  ∀ (v : V) (H' : Hp), v ∈ xs → PenAt H' d (c + 1) → But d H H' → Q v H'
section
variable {P : Program} {w : World} {K : PySem.W.Frag} {mg : Str → Option Value} {base : Heap}
theorem ok_pick {f : Addr} {fd : FuncData} (F : FunD K "_law_pick" "_law_pick" (defArgs s__law_pick) (defBody s__law_pick) (defScope s__law_pick) [] [] f fd) (T : Bi mg) (D : OkF P w K mg base CX0 1 "_law_draw" ["_law_pen_here", "_law_size"] spDraw) :
    FnOk P w K mg base CX0 2 f fd ["_law_pen_here", "_law_items"] (spPick K) := by
  refine F.ok sc__law_pick (fun vs H Q E h => ?_) (fun cdv A outer s H vs Q E hr h => ?_)
  · obtain ⟨d, a, c, xs, rfl, _⟩ := h
    rfl
  · obtain ⟨d, a, c, xs, rfl, hP, hc, hS, h0, h1, k⟩ := h
    refine ⟨_, PSs.nox (pss_one (ps_ret (pe_ix ix_list (pv 1) (pe_f D hr rfl pass0 (pa_cons (pv 0) (pa_cons (pe_callB call_len_seq (by rfl) T.len PySem.boot_len (pa_cons (pv 1) pa_nil)) pa_nil))) (fun _ _ => rfl)))), ?_⟩
    refine ⟨_, rfl, _, rfl, _, rfl, a, xs, rfl, .inl hS, d, c, _, rfl, hP, hc, by omega, by omega, fun j H' j0 j1 hP' hb => ?_⟩
    obtain ⟨i, rfl⟩ : ∃ i : Nat, j = (i : Int) := ⟨j.toNat, by omega⟩
    have hi : i < xs.length := by omega
    obtain ⟨l, ns, n, r, hd, _⟩ := id hP
    exact ⟨a, xs, _, xs[i], rfl, rfl, seq_but hb hd hS, atI_nat (List.getElem?_eq_getElem hi), k _ _ (List.getElem_mem hi) hP' hb⟩
end
end K0

namespace K0
open PySem PySem.Spec PyProof.Rows L2
/-! ### a value of any kind -/
theorem sz (n : Nat) (h : n ≤ 1000) : n ≤ sizeLine := Nat.le_of_lt (small1000 h)
theorem same_new2 {H : Hp} {d : Addr} {o u : HO} (h : H d = none) : Same H (upd (upd H d o) d u) := by
  rw [upd_upd]
  exact same_new h
theorem but_at {H H' : Hp} {d a : Addr} {o u : HO} (b : But d H H') (hd : H d = some u) (e : H a = some o) (n : o ≠ u) : H' a = some o := b _ _ e (ne_of e hd n)
def menu : List PyData := [.none, .bool true, .bool false, .int 0, .int 1, .int 2, .int 3, .int (-1), .int (10 ^ 9), .int (10 ^ 9 + 1), .str "", .str "a", .str "A", .str "ab", .str "abcdefghi", .str "a b", .str "!a", .tuple [], .tuple [.str "a"], .list [], .list [.str "a"], .list [.int 1], .dict [], .dict [(.str "a", .int 1)], .tuple [.int 1, .int 2], .tuple [.str "m", .str "a"], .tuple [.none], .tuple [.str "a", .int 1], .list [.list [.str "a"]], .str "2(a)"]
def spAny (K : PySem.W.Frag) : Sp := fun vs H Q _ => ∃ (d : Addr) (c : Int), vs = [.ref d] ∧ PenAt H d c ∧ c ≤ 2 ^ 60 ∧
  ∀ (v : V) (pd : PyData) (H' : Hp), pd ∈ menu → Gd.Vd K H' v pd → PenAt H' d (c + 1) → But d H H' → Q v H'
section
variable {P : Program} {w : World} {K : PySem.W.Frag} {mg : Str → Option Value} {base : Heap}
theorem ok_any {f : Addr} {fd : FuncData} (F : FunD K "_law_any_value" "_law_any_value" (defArgs s__law_any_value) (defBody s__law_any_value) (defScope s__law_any_value) [] [] f fd) (C : OkF P w K mg base CX0 2 "_law_pick" ["_law_pen_here", "_law_items"] (spPick K)) :
    FnOk P w K mg base CX0 3 f fd ["_law_pen_here"] (spAny K) := by
  refine F.ok sc__law_any_value (fun vs H Q E h => ?_) (fun cdv A outer s H vs Q E hr h => ?_)
  · obtain ⟨d, c, rfl, _⟩ := h
    rfl
  · obtain ⟨d, c, rfl, hP, hc, k⟩ := h
    refine ⟨_, PSs.nox (pss_cons (ps_set (i := 1) sc__law_any_value.nd rfl (Or.inl rfl) (pe_lst (pa_cons pe_non (pa_cons pe_bl (pa_cons pe_bl (pa_cons pe_int (pa_cons pe_int (pa_cons pe_int (pa_cons pe_int (pa_cons (pe_un un_neg pe_int) (pa_cons (pe_op op_pow pe_int pe_int) (pa_cons (pe_op op_add (pe_op op_pow pe_int pe_int) pe_int) (pa_cons pe_str (pa_cons pe_str (pa_cons pe_str (pa_cons pe_str (pa_cons pe_str (pa_cons pe_str (pa_cons pe_str pa_nil))))))))))))))))))) (pss_cons (ps_set (i := 1) sc__law_any_value.nd rfl (Or.inl rfl) (pe_op op_cat (pv 1) (pe_lst (pa_cons (pe_tup pa_nil) (pa_cons (pe_tup (pa_cons pe_str pa_nil)) (pa_cons (pe_lst pa_nil) (pa_cons (pe_lst (pa_cons pe_str pa_nil)) (pa_cons (pe_lst (pa_cons pe_int pa_nil)) (pa_cons pe_dnewK (pa_cons (pe_disp (pps_cons pe_str pe_int pps_nil) (by rfl) (by rfl) (fun z => by cases z) (by decide)) (pa_cons (pe_tup (pa_cons pe_int (pa_cons pe_int pa_nil))) (pa_cons (pe_tup (pa_cons pe_str (pa_cons pe_str pa_nil))) (pa_cons (pe_tup (pa_cons pe_non pa_nil)) (pa_cons (pe_tup (pa_cons pe_str (pa_cons pe_int pa_nil))) (pa_cons (pe_lst (pa_cons (pe_lst (pa_cons pe_str pa_nil)) pa_nil)) (pa_cons pe_str pa_nil)))))))))))))))) (pss_one (ps_ret (pe_f C hr rfl pass0 (pa_cons (pv 0) (pa_cons (pv 1) pa_nil))))))), ?_⟩
    refine ⟨_, rfl, _, _, rfl, rfl, ⟨by decide, by decide, by decide⟩, _, _, rfl, rfl, ⟨by decide, by decide, by decide⟩, _, _, rfl, rfl, sz 17 (by decide), fun a0 h0 => ?_⟩
    refine ⟨_, rfl, sz 0 (by decide), fun a1 h1 => ?_⟩
    refine ⟨sz 1 (by decide), fun a2 h2 => ?_⟩
    refine ⟨sz 0 (by decide), fun a3 h3 => ?_⟩
    refine ⟨sz 1 (by decide), fun a4 h4 => ?_⟩
    refine ⟨sz 1 (by decide), fun a5 h5 => ?_⟩
    intro a6 h6
    intro a7 h7
    refine ⟨upd_same, [(Sum.inr "a", .int 1)], rfl, by decide, ?_⟩
    refine ⟨sz 2 (by decide), fun a8 h8 => ?_⟩
    refine ⟨sz 2 (by decide), fun a9 h9 => ?_⟩
    refine ⟨sz 1 (by decide), fun a10 h10 => ?_⟩
    refine ⟨sz 2 (by decide), fun a11 h11 => ?_⟩
    refine ⟨sz 1 (by decide), fun a12 h12 => ?_⟩
    refine ⟨sz 1 (by decide), fun a13 h13 => ?_⟩
    refine ⟨sz 13 (by decide), fun a14 h14 => ?_⟩
    refine ⟨a0, a14, _, _, rfl, rfl, (same_new h14 _ _ (same_new h13 _ _ (same_new h12 _ _ (same_new h11 _ _ (same_new h10 _ _ (same_new h9 _ _ (same_new h8 _ _ (same_new2 h7 _ _ (same_new h6 _ _ (same_new h5 _ _ (same_new h4 _ _ (same_new h3 _ _ (same_new h2 _ _ (same_new h1 _ _ upd_same)))))))))))))), upd_same, (by simp; rw [sizeLine_eq]; omega), fun a15 h15 => ?_⟩
    have sm : ∀ o, Same H (upd _ a15 o) := fun o => fun b u e => (same_new h15 _ _ (same_new h14 _ _ (same_new h13 _ _ (same_new h12 _ _ (same_new h11 _ _ (same_new h10 _ _ (same_new h9 _ _ (same_new h8 _ _ (same_new2 h7 _ _ (same_new h6 _ _ (same_new h5 _ _ (same_new h4 _ _ (same_new h3 _ _ (same_new h2 _ _ (same_new h1 _ _ (same_new h0 _ _ e))))))))))))))))
    refine ⟨_, rfl, _, rfl, d, a15, c, _, rfl, hP.same (sm _), hc, .inl (.inl upd_same), (by simp), (by simp), fun v H1 hv hP1 hb => ?_⟩
    obtain ⟨l0, ns0, n0, r0, hd0, _⟩ := id hP
    have hd1 := fun o => sm o _ _ hd0
    have g1 := but_at hb (hd1 _) (o := .tup []) (same_new h15 _ _ (same_new h14 _ _ (same_new h13 _ _ (same_new h12 _ _ (same_new h11 _ _ (same_new h10 _ _ (same_new h9 _ _ (same_new h8 _ _ (same_new2 h7 _ _ (same_new h6 _ _ (same_new h5 _ _ (same_new h4 _ _ (same_new h3 _ _ (same_new h2 _ _ upd_same)))))))))))))) (by intro z; cases z)
    have g2 := but_at hb (hd1 _) (o := .tup [.str "a"]) (same_new h15 _ _ (same_new h14 _ _ (same_new h13 _ _ (same_new h12 _ _ (same_new h11 _ _ (same_new h10 _ _ (same_new h9 _ _ (same_new h8 _ _ (same_new2 h7 _ _ (same_new h6 _ _ (same_new h5 _ _ (same_new h4 _ _ (same_new h3 _ _ upd_same))))))))))))) (by intro z; cases z)
    have g3 := but_at hb (hd1 _) (o := .lst []) (same_new h15 _ _ (same_new h14 _ _ (same_new h13 _ _ (same_new h12 _ _ (same_new h11 _ _ (same_new h10 _ _ (same_new h9 _ _ (same_new h8 _ _ (same_new2 h7 _ _ (same_new h6 _ _ (same_new h5 _ _ (same_new h4 _ _ upd_same)))))))))))) (by intro z; cases z)
    have g4 := but_at hb (hd1 _) (o := .lst [.str "a"]) (same_new h15 _ _ (same_new h14 _ _ (same_new h13 _ _ (same_new h12 _ _ (same_new h11 _ _ (same_new h10 _ _ (same_new h9 _ _ (same_new h8 _ _ (same_new2 h7 _ _ (same_new h6 _ _ (same_new h5 _ _ upd_same))))))))))) (by intro z; cases z)
    have g5 := but_at hb (hd1 _) (o := .lst [.int 1]) (same_new h15 _ _ (same_new h14 _ _ (same_new h13 _ _ (same_new h12 _ _ (same_new h11 _ _ (same_new h10 _ _ (same_new h9 _ _ (same_new h8 _ _ (same_new2 h7 _ _ (same_new h6 _ _ upd_same)))))))))) (by intro z; cases z)
    have g6 := but_at hb (hd1 _) (o := .dK []) (same_new h15 _ _ (same_new h14 _ _ (same_new h13 _ _ (same_new h12 _ _ (same_new h11 _ _ (same_new h10 _ _ (same_new h9 _ _ (same_new h8 _ _ (same_new2 h7 _ _ upd_same))))))))) (by intro z; cases z)
    have g7 := but_at hb (hd1 _) (o := .dK [(Sum.inr "a", .int 1)]) (same_new h15 _ _ (same_new h14 _ _ (same_new h13 _ _ (same_new h12 _ _ (same_new h11 _ _ (same_new h10 _ _ (same_new h9 _ _ (same_new h8 _ _ upd_same)))))))) (by intro z; cases z)
    have g8 := but_at hb (hd1 _) (o := .tup [.int 1, .int 2]) (same_new h15 _ _ (same_new h14 _ _ (same_new h13 _ _ (same_new h12 _ _ (same_new h11 _ _ (same_new h10 _ _ (same_new h9 _ _ upd_same))))))) (by intro z; cases z)
    have g9 := but_at hb (hd1 _) (o := .tup [.str "m", .str "a"]) (same_new h15 _ _ (same_new h14 _ _ (same_new h13 _ _ (same_new h12 _ _ (same_new h11 _ _ (same_new h10 _ _ upd_same)))))) (by intro z; cases z)
    have g10 := but_at hb (hd1 _) (o := .tup [.non]) (same_new h15 _ _ (same_new h14 _ _ (same_new h13 _ _ (same_new h12 _ _ (same_new h11 _ _ upd_same))))) (by intro z; cases z)
    have g11 := but_at hb (hd1 _) (o := .tup [.str "a", .int 1]) (same_new h15 _ _ (same_new h14 _ _ (same_new h13 _ _ (same_new h12 _ _ upd_same)))) (by intro z; cases z)
    have g12 := but_at hb (hd1 _) (o := .lst [.str "a"]) (same_new h15 _ _ (same_new h14 _ _ (same_new h13 _ _ upd_same))) (by intro z; cases z)
    have g13 := but_at hb (hd1 _) (o := .lst [.ref a12]) (same_new h15 _ _ (same_new h14 _ _ upd_same)) (by intro z; cases z)
    have out : ∀ (pd : PyData), pd ∈ menu → Gd.Vd K H1 v pd → Q v H1 := fun pd h1 h2 => k v pd H1 h1 h2 hP1 ((But.of_same (sm _)).trans hb)
    rcases List.mem_append.mp hv with hv | hv
    · simp only [List.mem_cons, List.not_mem_nil, or_false] at hv
      rcases hv with rfl | rfl | rfl | rfl | rfl | rfl | rfl | rfl | rfl | rfl | rfl | rfl | rfl | rfl | rfl | rfl | rfl
      · exact out _ (List.mem_of_getElem? (i := 0) rfl) (.inl .non)
      · exact out _ (List.mem_of_getElem? (i := 1) rfl) (.inl (.bl true))
      · exact out _ (List.mem_of_getElem? (i := 2) rfl) (.inl (.bl false))
      · exact out _ (List.mem_of_getElem? (i := 3) rfl) (.inl (.int _))
      · exact out _ (List.mem_of_getElem? (i := 4) rfl) (.inl (.int _))
      · exact out _ (List.mem_of_getElem? (i := 5) rfl) (.inl (.int _))
      · exact out _ (List.mem_of_getElem? (i := 6) rfl) (.inl (.int _))
      · exact out _ (List.mem_of_getElem? (i := 7) rfl) (.inl (.int _))
      · exact out _ (List.mem_of_getElem? (i := 8) rfl) (.inl (.int _))
      · exact out _ (List.mem_of_getElem? (i := 9) rfl) (.inl (.int _))
      · exact out _ (List.mem_of_getElem? (i := 10) rfl) (.inl (.str _))
      · exact out _ (List.mem_of_getElem? (i := 11) rfl) (.inl (.str _))
      · exact out _ (List.mem_of_getElem? (i := 12) rfl) (.inl (.str _))
      · exact out _ (List.mem_of_getElem? (i := 13) rfl) (.inl (.str _))
      · exact out _ (List.mem_of_getElem? (i := 14) rfl) (.inl (.str _))
      · exact out _ (List.mem_of_getElem? (i := 15) rfl) (.inl (.str _))
      · exact out _ (List.mem_of_getElem? (i := 16) rfl) (.inl (.str _))
    · simp only [List.mem_cons, List.not_mem_nil, or_false] at hv
      rcases hv with rfl | rfl | rfl | rfl | rfl | rfl | rfl | rfl | rfl | rfl | rfl | rfl | rfl
      · exact out _ (List.mem_of_getElem? (i := 17) rfl) (.inl (.tup (.inl (.inl g1)) .nil))
      · exact out _ (List.mem_of_getElem? (i := 18) rfl) (.inl (.tup (.inl (.inl g2)) (.cons (.str _) .nil)))
      · exact out _ (List.mem_of_getElem? (i := 19) rfl) (.inl (.lst (.inl (.inl g3)) .nil))
      · exact out _ (List.mem_of_getElem? (i := 20) rfl) (.inl (.lst (.inl (.inl g4)) (.cons (.str _) .nil)))
      · exact out _ (List.mem_of_getElem? (i := 21) rfl) (.inl (.lst (.inl (.inl g5)) (.cons (.int _) .nil)))
      · exact out _ (List.mem_of_getElem? (i := 22) rfl) (.inr (.inl ⟨a6, rfl, g6, rfl⟩))
      · exact out _ (List.mem_of_getElem? (i := 23) rfl) (.inr (.inr ⟨a7, "a", 1, rfl, g7, rfl⟩))
      · exact out _ (List.mem_of_getElem? (i := 24) rfl) (.inl (.tup (.inl (.inl g8)) (.cons (.int _) (.cons (.int _) .nil))))
      · exact out _ (List.mem_of_getElem? (i := 25) rfl) (.inl (.tup (.inl (.inl g9)) (.cons (.str _) (.cons (.str _) .nil))))
      · exact out _ (List.mem_of_getElem? (i := 26) rfl) (.inl (.tup (.inl (.inl g10)) (.cons .non .nil)))
      · exact out _ (List.mem_of_getElem? (i := 27) rfl) (.inl (.tup (.inl (.inl g11)) (.cons (.str _) (.cons (.int _) .nil))))
      · exact out _ (List.mem_of_getElem? (i := 28) rfl) (.inl (.lst (.inl (.inl g13)) (.cons (.lst (.inl (.inl g12)) (.cons (.str _) .nil)) .nil)))
      · exact out _ (List.mem_of_getElem? (i := 29) rfl) (.inl (.str _))
end
end K0

namespace K0
open PySem PySem.Spec PyProof.Rows L2
/-! ### what the law's helpers lean on -/
def Cl (K : PySem.W.Frag) (i : Nat) : Addr := He.ga K (erN.getD i "")
/-- the i-th error as the layer uses it -/
def E1 (P : Program) (K : PySem.W.Frag) (mg : Str → Option Value) (i : Nat) : Prop := ∃ B, ErX.Er1 P K mg B (erN.getD i "") (Cl K i) (erF.getD i "")
structure Tx (P : Program) (K : PySem.W.Frag) (mg : Str → Option Value) : Prop where
  bi : Bi mg
  isi : mg "isinstance" = none
  rp : mg "repr" = none
  rg : mg "range" = none
  b5 : ∀ j : Nat, j < 5 → mg (PySem.Str.ofString (bsN.getD j "")) = none
  gl : ∀ i : Nat, i < 26 → mg (erN.getD i "") = some (.ref (Cl K i))
  e1 : ∀ i : Nat, i < 22 → E1 P K mg i
  eC : ErX.Er2 P K mg "ValueError" "Clash" (Cl K 22) "mode" "key"
  eB : ErX.Er2 P K mg "RuntimeError" "TooBig" (Cl K 23) "mode" "key"
  eN : PySem.W.excIn K (Cl K 24) bmV "ValueError.__new__" = true ∧ PySem.W.keepIn K (.ref (Cl K 24)) = true
  eT : PySem.W.excIn K (Cl K 25) bmR "RuntimeError.__new__" = true ∧ PySem.W.keepIn K (.ref (Cl K 25)) = true
  xf : ∀ i : Nat, i < 26 → L2.XfC K (Cl K i) ∧ L2.ExcC K (Cl K i) ∧ (PySem.W.clsIn K (Cl K i)).isSome = true
  kit : ∀ i j : Nat, i < 26 → j < 26 → PySem.W.kitOne K (.ref (Cl K i)) (.ref (Cl K j)) = some (decide (j = i))
  kitb : ∀ i j : Nat, i < 26 → j < 5 → PySem.W.kitOne K (.ref (Cl K i)) (.type (bsN.getD j "")) = some (decide (j = erB.getD i 0))
  nof : ∀ i : Nat, i < 22 → PySem.W.findIn K (.ref (Cl K i)) (erF.getD i "") = some none
  nom : ∀ i : Nat, i = 22 ∨ i = 23 → PySem.W.findIn K (.ref (Cl K i)) "mode" = some none ∧ PySem.W.findIn K (.ref (Cl K i)) "key" = some none
  cs : ∀ q ∈ ([("MODES", 6), ("KEYS", 6), ("ITEMS", 6), ("DEPTH", 2), ("NUMBER", 10 ^ 9), ("BOOKS", 3), ("STATES", 36), ("SIZE", 10 ^ 4000), ("PATTERN", 8), ("GOAL", 200)] : List (Str × Int)), ∃ t, mg q.1 = some (.int q.2 t)
/-! ### errors in pairs -/
def PairAt (K : PySem.W.Frag) (H : Hp) (t C : Addr) (f : Str) (v : V) : Prop := ∃ a b, H t = some (.tup [.ref a, .ref b]) ∧ ErX.ErrV H a C [(f, v)] ∧ ErX.ErrV H b C [(f, v)]
theorem PairAt.same {K : PySem.W.Frag} {H H' : Hp} {t C : Addr} {f : Str} {v : V} (s : Same H H') (h : PairAt K H t C f v) : PairAt K H' t C f v := by
  obtain ⟨a, b, h1, h2, h3⟩ := h
  exact ⟨a, b, s _ _ h1, h2.same s, h3.same s⟩
abbrev tOne (C : Addr) (f : Str) : TE := ErX.tErr1 C f (tCons (tVar 0) tNil)
abbrev tPair (C : Addr) (f : Str) : TE := tTup (tCons (tOne C f) (tCons (tOne C f) tNil))
theorem rd_one {C : Addr} {f : Str} {σ : L2.St} {H : Hp} {Q : VK} {v : V} (hv : σ[0]? = some (some v)) (q : ∀ a H', Same H H' → ErX.ErrV H' a C [(f, v)] → Q (.ref a) H') : tOne C f σ H Q := by
  refine ⟨v, hv, v, rfl, fun a d ha hd hne => q a _ (fun b o e => ?_) (.inr ⟨d, upd_same, ?_⟩)⟩
  · rw [upd_ne (ne_of_none e ha), upd_ne (ne_of_none e hd)]
    exact e
  · rw [upd_ne hne, upd_same]
theorem rd_pair {K : PySem.W.Frag} {C : Addr} {f : Str} {σ : L2.St} {H : Hp} {Q : VK} {v : V} (hv : σ[0]? = some (some v)) (q : ∀ t H', Same H H' → PairAt K H' t C f v → Q (.ref t) H') : tPair C f σ H Q := by
  show tOne C f σ H (fun x H1 => tOne C f σ H1 fun y H2 => [x, y].length ≤ sizeLine ∧ ∀ p, H2 p = none → Q (.ref p) (upd H2 p (.tup [x, y])))
  refine rd_one hv fun a H1 s1 e1 => rd_one hv fun b H2 s2 e2 => ⟨sz 2 (by decide), fun t ht => ?_⟩
  exact q t _ ((s1.trans s2).trans (same_new ht)) ⟨a, b, upd_same, (e1.same s2).same (same_new ht), e2.same (same_new ht)⟩
/-- at l: the list of n pairs of errors with the value v -/
structure OnesAt (K : PySem.W.Frag) (H : Hp) (l : Addr) (n : Nat) (v : V) (ts : List Addr) : Prop where
  at_ : H l = some (.lst (ts.map V.ref))
  len : ts.length = n
  pair : ∀ (i : Nat) t, ts[i]? = some t → PairAt K H t (Cl K i) (erF.getD i "") v
theorem rd_two {K : PySem.W.Frag} {n : Nat} {σ : L2.St} {H : Hp} {Q : VK} {v : V} (hv : σ[0]? = some (some v)) (q : ∀ l t u H', Same H H' → H l = none → H' l = some (.lst [.ref t, .ref u]) → PairAt K H' t (Cl K n) (erF.getD n "") v → PairAt K H' u (Cl K (n + 1)) (erF.getD (n + 1) "") v → Q (.ref l) H') :
    tLst (tCons (tPair (Cl K n) (erF.getD n "")) (tCons (tPair (Cl K (n + 1)) (erF.getD (n + 1) "")) tNil)) σ H Q := by
  show tPair (Cl K n) (erF.getD n "") σ H (fun x H1 => tPair (Cl K (n + 1)) (erF.getD (n + 1) "") σ H1 fun y H2 => [x, y].length ≤ sizeLine ∧ ∀ p, H2 p = none → Q (.ref p) (upd H2 p (.lst [x, y])))
  refine rd_pair (K := K) hv fun t H1 s1 p1 => rd_pair (K := K) hv fun u H2 s2 p2 => ⟨sz 2 (by decide), fun l hl => ?_⟩
  have s3 := same_new (o := .lst [.ref t, .ref u]) hl
  exact q l t u _ ((s1.trans s2).trans s3) ((s1.trans s2).free hl) upd_same ((p1.same s2).same s3) (p2.same s3)
theorem st_first {K : PySem.W.Frag} {f1 f2 f3 f4 : Str} {u : TS} {D : Ends} {σ : L2.St} {H : Hp} {v : V} (e1 : f1 = erF.getD 0 "") (e2 : f2 = erF.getD 0 "") (e3 : f3 = erF.getD 1 "") (e4 : f4 = erF.getD 1 "") (hv : σ[0]? = some (some v)) (q : ∀ l ts H', Same H H' → OnesAt K H' l 2 v ts → u D (σ.set 1 (some (.ref l))) H') :
    tSeq (tAsg (tLst (tCons (tTup (tCons (tOne (Cl K 0) f1) (tCons (tOne (Cl K 0) f2) tNil))) (tCons (tTup (tCons (tOne (Cl K 1) f3) (tCons (tOne (Cl K 1) f4) tNil))) tNil))) (gName 1)) u D σ H := by
  subst e1 e2 e3 e4
  show tLst (tCons (tPair (Cl K 0) (erF.getD 0 "")) (tCons (tPair (Cl K (0 + 1)) (erF.getD (0 + 1) "")) tNil)) σ H (fun x H1 => u D (σ.set 1 (some x)) H1)
  refine rd_two (n := 0) hv fun l t u H1 s1 _ h1 p1 p2 => q l [t, u] H1 s1 ⟨h1, rfl, fun i x hx => ?_⟩
  match i, hx with
  | 0, hx => cases hx; exact p1
  | 1, hx => cases hx; exact p2
theorem st_next {K : PySem.W.Frag} {f1 f2 f3 f4 : Str} {u : TS} {D : Ends} (n : Nat) {σ : L2.St} {H : Hp} {v : V} {l : Addr} {ts : List Addr} (e1 : f1 = erF.getD n "") (e2 : f2 = erF.getD n "") (e3 : f3 = erF.getD (n + 1) "") (e4 : f4 = erF.getD (n + 1) "") (hv : σ[0]? = some (some v)) (hl : σ[1]? = some (some (.ref l))) (h : OnesAt K H l n v ts) (hn : n ≤ 100) (q : ∀ l' ts' H', Same H H' → OnesAt K H' l' (n + 2) v ts' → u D (σ.set 1 (some (.ref l'))) H') :
    tSeq (tAsg (tOp rCat (tVar 1) (tLst (tCons (tTup (tCons (tOne (Cl K n) f1) (tCons (tOne (Cl K n) f2) tNil))) (tCons (tTup (tCons (tOne (Cl K (n + 1)) f3) (tCons (tOne (Cl K (n + 1)) f4) tNil))) tNil)))) (gName 1)) u D σ H := by
  subst e1 e2 e3 e4
  show tOp rCat (tVar 1) (tLst (tCons (tPair (Cl K n) (erF.getD n "")) (tCons (tPair (Cl K (n + 1)) (erF.getD (n + 1) "")) tNil))) σ H (fun x H1 => u D (σ.set 1 (some x)) H1)
  refine ⟨_, hl, rd_two hv fun m t u H1 s1 nm h1 p1 p2 => ⟨l, m, _, _, rfl, rfl, s1 _ _ h.at_, h1, ?_, fun l' hl' => ?_⟩⟩
  · rw [List.length_map, h.len]
    exact sz _ (by show n + 2 ≤ 1000; omega)
  · have s2 := same_new (o := .lst (ts.map V.ref ++ [.ref t, .ref u])) hl'
    refine q l' (ts ++ [t, u]) _ (s1.trans s2) ⟨by rw [upd_same]; simp, by simp [h.len], fun i x hx => ?_⟩
    by_cases hi : i < ts.length
    · rw [List.getElem?_append_left hi] at hx
      exact (h.pair i x hx).same (s1.trans s2)
    · rw [List.getElem?_append_right (by omega)] at hx
      have hlen := h.len
      obtain ⟨j, rfl⟩ : ∃ j, i = ts.length + j := ⟨i - ts.length, by omega⟩
      rw [Nat.add_sub_cancel_left] at hx
      match j, hx with
      | 0, hx =>
        cases hx
        rw [hlen]
        exact p1.same s2
      | 1, hx =>
        cases hx
        rw [hlen]
        exact p2.same s2
      | j + 2, hx => cases hx
def spOnes (K : PySem.W.Frag) : Sp := fun vs H Q _ => ∃ v, vs = [v] ∧ ∀ l ts H', Same H H' → OnesAt K H' l 22 v ts → Q (.ref l) H'
section
variable {P : Program} {w : World} {K : PySem.W.Frag} {mg : Str → Option Value} {base : Heap}
theorem ok_ones {f : Addr} {fd : FuncData} (F : FunD K "_law_ones" "_law_ones" (defArgs s__law_ones) (defBody s__law_ones) (defScope s__law_ones) [] [] f fd) (T : Tx P K mg) : FnOk P w K mg base CX0 2 f fd ["_law_odd"] (spOnes K) := by
  refine F.ok sc__law_ones (fun vs H Q E h => ?_) (fun cdv A outer s H vs Q E hr h => ?_)
  · obtain ⟨v, rfl, _⟩ := h
    rfl
  · obtain ⟨v, rfl, k⟩ := h
    obtain ⟨B0, e0⟩ := T.e1 0 (by decide)
    obtain ⟨B1, e1⟩ := T.e1 1 (by decide)
    obtain ⟨B2, e2⟩ := T.e1 2 (by decide)
    obtain ⟨B3, e3⟩ := T.e1 3 (by decide)
    obtain ⟨B4, e4⟩ := T.e1 4 (by decide)
    obtain ⟨B5, e5⟩ := T.e1 5 (by decide)
    obtain ⟨B6, e6⟩ := T.e1 6 (by decide)
    obtain ⟨B7, e7⟩ := T.e1 7 (by decide)
    obtain ⟨B8, e8⟩ := T.e1 8 (by decide)
    obtain ⟨B9, e9⟩ := T.e1 9 (by decide)
    obtain ⟨B10, e10⟩ := T.e1 10 (by decide)
    obtain ⟨B11, e11⟩ := T.e1 11 (by decide)
    obtain ⟨B12, e12⟩ := T.e1 12 (by decide)
    obtain ⟨B13, e13⟩ := T.e1 13 (by decide)
    obtain ⟨B14, e14⟩ := T.e1 14 (by decide)
    obtain ⟨B15, e15⟩ := T.e1 15 (by decide)
    obtain ⟨B16, e16⟩ := T.e1 16 (by decide)
    obtain ⟨B17, e17⟩ := T.e1 17 (by decide)
    obtain ⟨B18, e18⟩ := T.e1 18 (by decide)
    obtain ⟨B19, e19⟩ := T.e1 19 (by decide)
    obtain ⟨B20, e20⟩ := T.e1 20 (by decide)
    obtain ⟨B21, e21⟩ := T.e1 21 (by decide)
    refine ⟨_, PSs.nox (pss_cons (ps_set (i := 1) sc__law_ones.nd rfl (Or.inl rfl) (pe_lst (pa_cons (pe_tup (pa_cons (ErX.pe_err1 e0 hr rfl (pa_cons (pv 0) pa_nil)) (pa_cons (ErX.pe_err1k e0 hr rfl (pv 0)) pa_nil))) (pa_cons (pe_tup (pa_cons (ErX.pe_err1 e1 hr rfl (pa_cons (pv 0) pa_nil)) (pa_cons (ErX.pe_err1k e1 hr rfl (pv 0)) pa_nil))) pa_nil))))
      (pss_cons (ps_set (i := 1) sc__law_ones.nd rfl (Or.inl rfl) (pe_op op_cat (pv 1) (pe_lst (pa_cons (pe_tup (pa_cons (ErX.pe_err1 e2 hr rfl (pa_cons (pv 0) pa_nil)) (pa_cons (ErX.pe_err1k e2 hr rfl (pv 0)) pa_nil))) (pa_cons (pe_tup (pa_cons (ErX.pe_err1 e3 hr rfl (pa_cons (pv 0) pa_nil)) (pa_cons (ErX.pe_err1k e3 hr rfl (pv 0)) pa_nil))) pa_nil)))))
      (pss_cons (ps_set (i := 1) sc__law_ones.nd rfl (Or.inl rfl) (pe_op op_cat (pv 1) (pe_lst (pa_cons (pe_tup (pa_cons (ErX.pe_err1 e4 hr rfl (pa_cons (pv 0) pa_nil)) (pa_cons (ErX.pe_err1k e4 hr rfl (pv 0)) pa_nil))) (pa_cons (pe_tup (pa_cons (ErX.pe_err1 e5 hr rfl (pa_cons (pv 0) pa_nil)) (pa_cons (ErX.pe_err1k e5 hr rfl (pv 0)) pa_nil))) pa_nil)))))
      (pss_cons (ps_set (i := 1) sc__law_ones.nd rfl (Or.inl rfl) (pe_op op_cat (pv 1) (pe_lst (pa_cons (pe_tup (pa_cons (ErX.pe_err1 e6 hr rfl (pa_cons (pv 0) pa_nil)) (pa_cons (ErX.pe_err1k e6 hr rfl (pv 0)) pa_nil))) (pa_cons (pe_tup (pa_cons (ErX.pe_err1 e7 hr rfl (pa_cons (pv 0) pa_nil)) (pa_cons (ErX.pe_err1k e7 hr rfl (pv 0)) pa_nil))) pa_nil)))))
      (pss_cons (ps_set (i := 1) sc__law_ones.nd rfl (Or.inl rfl) (pe_op op_cat (pv 1) (pe_lst (pa_cons (pe_tup (pa_cons (ErX.pe_err1 e8 hr rfl (pa_cons (pv 0) pa_nil)) (pa_cons (ErX.pe_err1k e8 hr rfl (pv 0)) pa_nil))) (pa_cons (pe_tup (pa_cons (ErX.pe_err1 e9 hr rfl (pa_cons (pv 0) pa_nil)) (pa_cons (ErX.pe_err1k e9 hr rfl (pv 0)) pa_nil))) pa_nil)))))
      (pss_cons (ps_set (i := 1) sc__law_ones.nd rfl (Or.inl rfl) (pe_op op_cat (pv 1) (pe_lst (pa_cons (pe_tup (pa_cons (ErX.pe_err1 e10 hr rfl (pa_cons (pv 0) pa_nil)) (pa_cons (ErX.pe_err1k e10 hr rfl (pv 0)) pa_nil))) (pa_cons (pe_tup (pa_cons (ErX.pe_err1 e11 hr rfl (pa_cons (pv 0) pa_nil)) (pa_cons (ErX.pe_err1k e11 hr rfl (pv 0)) pa_nil))) pa_nil)))))
      (pss_cons (ps_set (i := 1) sc__law_ones.nd rfl (Or.inl rfl) (pe_op op_cat (pv 1) (pe_lst (pa_cons (pe_tup (pa_cons (ErX.pe_err1 e12 hr rfl (pa_cons (pv 0) pa_nil)) (pa_cons (ErX.pe_err1k e12 hr rfl (pv 0)) pa_nil))) (pa_cons (pe_tup (pa_cons (ErX.pe_err1 e13 hr rfl (pa_cons (pv 0) pa_nil)) (pa_cons (ErX.pe_err1k e13 hr rfl (pv 0)) pa_nil))) pa_nil)))))
      (pss_cons (ps_set (i := 1) sc__law_ones.nd rfl (Or.inl rfl) (pe_op op_cat (pv 1) (pe_lst (pa_cons (pe_tup (pa_cons (ErX.pe_err1 e14 hr rfl (pa_cons (pv 0) pa_nil)) (pa_cons (ErX.pe_err1k e14 hr rfl (pv 0)) pa_nil))) (pa_cons (pe_tup (pa_cons (ErX.pe_err1 e15 hr rfl (pa_cons (pv 0) pa_nil)) (pa_cons (ErX.pe_err1k e15 hr rfl (pv 0)) pa_nil))) pa_nil)))))
      (pss_cons (ps_set (i := 1) sc__law_ones.nd rfl (Or.inl rfl) (pe_op op_cat (pv 1) (pe_lst (pa_cons (pe_tup (pa_cons (ErX.pe_err1 e16 hr rfl (pa_cons (pv 0) pa_nil)) (pa_cons (ErX.pe_err1k e16 hr rfl (pv 0)) pa_nil))) (pa_cons (pe_tup (pa_cons (ErX.pe_err1 e17 hr rfl (pa_cons (pv 0) pa_nil)) (pa_cons (ErX.pe_err1k e17 hr rfl (pv 0)) pa_nil))) pa_nil)))))
      (pss_cons (ps_set (i := 1) sc__law_ones.nd rfl (Or.inl rfl) (pe_op op_cat (pv 1) (pe_lst (pa_cons (pe_tup (pa_cons (ErX.pe_err1 e18 hr rfl (pa_cons (pv 0) pa_nil)) (pa_cons (ErX.pe_err1k e18 hr rfl (pv 0)) pa_nil))) (pa_cons (pe_tup (pa_cons (ErX.pe_err1 e19 hr rfl (pa_cons (pv 0) pa_nil)) (pa_cons (ErX.pe_err1k e19 hr rfl (pv 0)) pa_nil))) pa_nil)))))
      (pss_cons (ps_set (i := 1) sc__law_ones.nd rfl (Or.inl rfl) (pe_op op_cat (pv 1) (pe_lst (pa_cons (pe_tup (pa_cons (ErX.pe_err1 e20 hr rfl (pa_cons (pv 0) pa_nil)) (pa_cons (ErX.pe_err1k e20 hr rfl (pv 0)) pa_nil))) (pa_cons (pe_tup (pa_cons (ErX.pe_err1 e21 hr rfl (pa_cons (pv 0) pa_nil)) (pa_cons (ErX.pe_err1k e21 hr rfl (pv 0)) pa_nil))) pa_nil)))))
      (pss_one (ps_ret (pv 1)))))))))))))), ?_⟩
    refine st_first (v := v) rfl rfl rfl rfl rfl fun l0 ts0 H0 s0 o0 => ?_
    refine st_next 2 (v := v) rfl rfl rfl rfl rfl rfl o0 (by decide) fun l1 ts1 H1 s1 o1 => ?_
    refine st_next 4 (v := v) rfl rfl rfl rfl rfl rfl o1 (by decide) fun l2 ts2 H2 s2 o2 => ?_
    refine st_next 6 (v := v) rfl rfl rfl rfl rfl rfl o2 (by decide) fun l3 ts3 H3 s3 o3 => ?_
    refine st_next 8 (v := v) rfl rfl rfl rfl rfl rfl o3 (by decide) fun l4 ts4 H4 s4 o4 => ?_
    refine st_next 10 (v := v) rfl rfl rfl rfl rfl rfl o4 (by decide) fun l5 ts5 H5 s5 o5 => ?_
    refine st_next 12 (v := v) rfl rfl rfl rfl rfl rfl o5 (by decide) fun l6 ts6 H6 s6 o6 => ?_
    refine st_next 14 (v := v) rfl rfl rfl rfl rfl rfl o6 (by decide) fun l7 ts7 H7 s7 o7 => ?_
    refine st_next 16 (v := v) rfl rfl rfl rfl rfl rfl o7 (by decide) fun l8 ts8 H8 s8 o8 => ?_
    refine st_next 18 (v := v) rfl rfl rfl rfl rfl rfl o8 (by decide) fun l9 ts9 H9 s9 o9 => ?_
    refine st_next 20 (v := v) rfl rfl rfl rfl rfl rfl o9 (by decide) fun l10 ts10 H10 s10 o10 => ?_
    exact ⟨_, rfl, k l10 ts10 H10 ((((((((((s0.trans s1).trans s2).trans s3).trans s4).trans s5).trans s6).trans s7).trans s8).trans s9).trans s10) o10⟩
end
end K0

namespace K0
open PySem PySem.Spec PyProof.Rows L2
/-! ### of which classes an error is -/
def spOwn (K : PySem.W.Frag) : Sp := fun vs H Q _ => ∃ (a : Addr) (i : Nat) (fs : List (Str × V)), vs = [.ref a] ∧ ErX.ErrV H a (Cl K i) fs ∧ i < 26 ∧
  ∀ l H', Same H H' → H' l = some (.lst ((List.range 26).map fun j => V.bl (decide (j = i)))) → Q (.ref l) H'
def spAbove (K : PySem.W.Frag) : Sp := fun vs H Q _ => ∃ (a : Addr) (i : Nat) (fs : List (Str × V)), vs = [.ref a] ∧ ErX.ErrV H a (Cl K i) fs ∧ i < 26 ∧
  ∀ l H', Same H H' → H' l = some (.lst ((List.range 5).map fun j => V.bl (decide (j = erB.getD i 0)))) → Q (.ref l) H'
section
variable {P : Program} {w : World} {K : PySem.W.Frag} {mg : Str → Option Value} {base : Heap}
theorem ok_above {f : Addr} {fd : FuncData} (F : FunD K "_law_above" "_law_above" (defArgs s__law_above) (defBody s__law_above) (defScope s__law_above) [] [] f fd) (T : Tx P K mg) : FnOk P w K mg base CX0 1 f fd ["_law_e"] (spAbove K) := by
  refine F.ok sc__law_above (fun vs H Q E h => ?_) (fun cdv A outer s H vs Q E hr h => ?_)
  · obtain ⟨a, i, fs, rfl, _⟩ := h
    rfl
  · obtain ⟨a, i, fs, rfl, hE, hi, k⟩ := h
    have hx := T.xf i hi
    refine ⟨_, PSs.nox (pss_cons (ps_set (i := 1) sc__law_above.nd rfl (Or.inl rfl) (pe_lst (pa_cons (pe_callB ErX.call_isV (by rfl) T.isi (by decide +kernel) (pa_cons (pv 0) (pa_cons (pe_bltn (v := .ty "ValueError") rfl (T.b5 0 (by decide)) (by decide +kernel) rfl) pa_nil))) (pa_cons (pe_callB ErX.call_isV (by rfl) T.isi (by decide +kernel) (pa_cons (pv 0) (pa_cons (pe_bltn (v := .ty "TypeError") rfl (T.b5 1 (by decide)) (by decide +kernel) rfl) pa_nil))) (pa_cons (pe_callB ErX.call_isV (by rfl) T.isi (by decide +kernel) (pa_cons (pv 0) (pa_cons (pe_bltn (v := .ty "LookupError") rfl (T.b5 2 (by decide)) (by decide +kernel) rfl) pa_nil))) pa_nil)))))
      (pss_one (ps_ret (pe_op op_cat (pv 1) (pe_lst (pa_cons (pe_callB ErX.call_isV (by rfl) T.isi (by decide +kernel) (pa_cons (pv 0) (pa_cons (pe_bltn (v := .ty "OverflowError") rfl (T.b5 3 (by decide)) (by decide +kernel) rfl) pa_nil))) (pa_cons (pe_callB ErX.call_isV (by rfl) T.isi (by decide +kernel) (pa_cons (pv 0) (pa_cons (pe_bltn (v := .ty "RuntimeError") rfl (T.b5 4 (by decide)) (by decide +kernel) rfl) pa_nil))) pa_nil))))))), ?_⟩
    refine ⟨_, rfl, a, _, fs, _, _, _, rfl, hE, hx.2.1, .ty _, hx.2.2, T.kitb i 0 hi (by decide), _, rfl, a, _, fs, _, _, _, rfl, hE, hx.2.1, .ty _, hx.2.2, T.kitb i 1 hi (by decide), _, rfl, a, _, fs, _, _, _, rfl, hE, hx.2.1, .ty _, hx.2.2, T.kitb i 2 hi (by decide), sz 3 (by decide), fun l0 h0 => ?_⟩
    have s0 : Same H (upd H l0 (.lst [V.bl (decide (0 = erB.getD i 0)), V.bl (decide (1 = erB.getD i 0)), V.bl (decide (2 = erB.getD i 0))])) := same_new h0
    have t0 : (upd H l0 (.lst [V.bl (decide (0 = erB.getD i 0)), V.bl (decide (1 = erB.getD i 0)), V.bl (decide (2 = erB.getD i 0))])) l0 = some (.lst [V.bl (decide (0 = erB.getD i 0)), V.bl (decide (1 = erB.getD i 0)), V.bl (decide (2 = erB.getD i 0))]) := upd_same
    generalize upd H l0 (.lst [V.bl (decide (0 = erB.getD i 0)), V.bl (decide (1 = erB.getD i 0)), V.bl (decide (2 = erB.getD i 0))]) = G0 at s0 t0 ⊢
    refine ⟨_, rfl, _, rfl, a, _, fs, _, _, _, rfl, (hE.same s0), hx.2.1, .ty _, hx.2.2, T.kitb i 3 hi (by decide), _, rfl, a, _, fs, _, _, _, rfl, (hE.same s0), hx.2.1, .ty _, hx.2.2, T.kitb i 4 hi (by decide), sz 2 (by decide), fun m1 k1 => ?_⟩
    refine ⟨l0, m1, _, _, rfl, rfl, same_new k1 _ _ t0, upd_same, sz _ (by simp), fun l1 h1 => ?_⟩
    have s1 : Same H (upd (upd G0 m1 (.lst [V.bl (decide (3 = erB.getD i 0)), V.bl (decide (4 = erB.getD i 0))])) l1 (.lst ([V.bl (decide (0 = erB.getD i 0)), V.bl (decide (1 = erB.getD i 0)), V.bl (decide (2 = erB.getD i 0))] ++ [V.bl (decide (3 = erB.getD i 0)), V.bl (decide (4 = erB.getD i 0))]))) := s0.trans ((same_new k1).trans (same_new h1))
    have t1 : (upd (upd G0 m1 (.lst [V.bl (decide (3 = erB.getD i 0)), V.bl (decide (4 = erB.getD i 0))])) l1 (.lst ([V.bl (decide (0 = erB.getD i 0)), V.bl (decide (1 = erB.getD i 0)), V.bl (decide (2 = erB.getD i 0))] ++ [V.bl (decide (3 = erB.getD i 0)), V.bl (decide (4 = erB.getD i 0))]))) l1 = some (.lst ([V.bl (decide (0 = erB.getD i 0)), V.bl (decide (1 = erB.getD i 0)), V.bl (decide (2 = erB.getD i 0))] ++ [V.bl (decide (3 = erB.getD i 0)), V.bl (decide (4 = erB.getD i 0))])) := upd_same
    generalize upd (upd G0 m1 (.lst [V.bl (decide (3 = erB.getD i 0)), V.bl (decide (4 = erB.getD i 0))])) l1 (.lst ([V.bl (decide (0 = erB.getD i 0)), V.bl (decide (1 = erB.getD i 0)), V.bl (decide (2 = erB.getD i 0))] ++ [V.bl (decide (3 = erB.getD i 0)), V.bl (decide (4 = erB.getD i 0))])) = G1 at s1 t1 ⊢
    exact k l1 _ s1 t1
theorem ok_own {f : Addr} {fd : FuncData} (F : FunD K "_law_own" "_law_own" (defArgs s__law_own) (defBody s__law_own) (defScope s__law_own) [] [] f fd) (T : Tx P K mg) : FnOk P w K mg base CX0 1 f fd ["_law_e"] (spOwn K) := by
  refine F.ok sc__law_own (fun vs H Q E h => ?_) (fun cdv A outer s H vs Q E hr h => ?_)
  · obtain ⟨a, i, fs, rfl, _⟩ := h
    rfl
  · obtain ⟨a, i, fs, rfl, hE, hi, k⟩ := h
    have hx := T.xf i hi
    refine ⟨_, PSs.nox (pss_cons (ps_set (i := 1) sc__law_own.nd rfl (Or.inl rfl) (pe_lst (pa_cons (pe_callB ErX.call_isV (by rfl) T.isi (by decide +kernel) (pa_cons (pv 0) (pa_cons (pe_glob (v := .ref (Cl K 0)) rfl (T.gl 0 (by decide)) rfl) pa_nil))) (pa_cons (pe_callB ErX.call_isV (by rfl) T.isi (by decide +kernel) (pa_cons (pv 0) (pa_cons (pe_glob (v := .ref (Cl K 1)) rfl (T.gl 1 (by decide)) rfl) pa_nil))) (pa_cons (pe_callB ErX.call_isV (by rfl) T.isi (by decide +kernel) (pa_cons (pv 0) (pa_cons (pe_glob (v := .ref (Cl K 2)) rfl (T.gl 2 (by decide)) rfl) pa_nil))) pa_nil)))))
      (pss_cons (ps_set (i := 1) sc__law_own.nd rfl (Or.inl rfl) (pe_op op_cat (pv 1) (pe_lst (pa_cons (pe_callB ErX.call_isV (by rfl) T.isi (by decide +kernel) (pa_cons (pv 0) (pa_cons (pe_glob (v := .ref (Cl K 3)) rfl (T.gl 3 (by decide)) rfl) pa_nil))) (pa_cons (pe_callB ErX.call_isV (by rfl) T.isi (by decide +kernel) (pa_cons (pv 0) (pa_cons (pe_glob (v := .ref (Cl K 4)) rfl (T.gl 4 (by decide)) rfl) pa_nil))) (pa_cons (pe_callB ErX.call_isV (by rfl) T.isi (by decide +kernel) (pa_cons (pv 0) (pa_cons (pe_glob (v := .ref (Cl K 5)) rfl (T.gl 5 (by decide)) rfl) pa_nil))) pa_nil))))))
      (pss_cons (ps_set (i := 1) sc__law_own.nd rfl (Or.inl rfl) (pe_op op_cat (pv 1) (pe_lst (pa_cons (pe_callB ErX.call_isV (by rfl) T.isi (by decide +kernel) (pa_cons (pv 0) (pa_cons (pe_glob (v := .ref (Cl K 6)) rfl (T.gl 6 (by decide)) rfl) pa_nil))) (pa_cons (pe_callB ErX.call_isV (by rfl) T.isi (by decide +kernel) (pa_cons (pv 0) (pa_cons (pe_glob (v := .ref (Cl K 7)) rfl (T.gl 7 (by decide)) rfl) pa_nil))) (pa_cons (pe_callB ErX.call_isV (by rfl) T.isi (by decide +kernel) (pa_cons (pv 0) (pa_cons (pe_glob (v := .ref (Cl K 8)) rfl (T.gl 8 (by decide)) rfl) pa_nil))) pa_nil))))))
      (pss_cons (ps_set (i := 1) sc__law_own.nd rfl (Or.inl rfl) (pe_op op_cat (pv 1) (pe_lst (pa_cons (pe_callB ErX.call_isV (by rfl) T.isi (by decide +kernel) (pa_cons (pv 0) (pa_cons (pe_glob (v := .ref (Cl K 9)) rfl (T.gl 9 (by decide)) rfl) pa_nil))) (pa_cons (pe_callB ErX.call_isV (by rfl) T.isi (by decide +kernel) (pa_cons (pv 0) (pa_cons (pe_glob (v := .ref (Cl K 10)) rfl (T.gl 10 (by decide)) rfl) pa_nil))) (pa_cons (pe_callB ErX.call_isV (by rfl) T.isi (by decide +kernel) (pa_cons (pv 0) (pa_cons (pe_glob (v := .ref (Cl K 11)) rfl (T.gl 11 (by decide)) rfl) pa_nil))) pa_nil))))))
      (pss_cons (ps_set (i := 1) sc__law_own.nd rfl (Or.inl rfl) (pe_op op_cat (pv 1) (pe_lst (pa_cons (pe_callB ErX.call_isV (by rfl) T.isi (by decide +kernel) (pa_cons (pv 0) (pa_cons (pe_glob (v := .ref (Cl K 12)) rfl (T.gl 12 (by decide)) rfl) pa_nil))) (pa_cons (pe_callB ErX.call_isV (by rfl) T.isi (by decide +kernel) (pa_cons (pv 0) (pa_cons (pe_glob (v := .ref (Cl K 13)) rfl (T.gl 13 (by decide)) rfl) pa_nil))) (pa_cons (pe_callB ErX.call_isV (by rfl) T.isi (by decide +kernel) (pa_cons (pv 0) (pa_cons (pe_glob (v := .ref (Cl K 14)) rfl (T.gl 14 (by decide)) rfl) pa_nil))) pa_nil))))))
      (pss_cons (ps_set (i := 1) sc__law_own.nd rfl (Or.inl rfl) (pe_op op_cat (pv 1) (pe_lst (pa_cons (pe_callB ErX.call_isV (by rfl) T.isi (by decide +kernel) (pa_cons (pv 0) (pa_cons (pe_glob (v := .ref (Cl K 15)) rfl (T.gl 15 (by decide)) rfl) pa_nil))) (pa_cons (pe_callB ErX.call_isV (by rfl) T.isi (by decide +kernel) (pa_cons (pv 0) (pa_cons (pe_glob (v := .ref (Cl K 16)) rfl (T.gl 16 (by decide)) rfl) pa_nil))) (pa_cons (pe_callB ErX.call_isV (by rfl) T.isi (by decide +kernel) (pa_cons (pv 0) (pa_cons (pe_glob (v := .ref (Cl K 17)) rfl (T.gl 17 (by decide)) rfl) pa_nil))) pa_nil))))))
      (pss_cons (ps_set (i := 1) sc__law_own.nd rfl (Or.inl rfl) (pe_op op_cat (pv 1) (pe_lst (pa_cons (pe_callB ErX.call_isV (by rfl) T.isi (by decide +kernel) (pa_cons (pv 0) (pa_cons (pe_glob (v := .ref (Cl K 18)) rfl (T.gl 18 (by decide)) rfl) pa_nil))) (pa_cons (pe_callB ErX.call_isV (by rfl) T.isi (by decide +kernel) (pa_cons (pv 0) (pa_cons (pe_glob (v := .ref (Cl K 19)) rfl (T.gl 19 (by decide)) rfl) pa_nil))) (pa_cons (pe_callB ErX.call_isV (by rfl) T.isi (by decide +kernel) (pa_cons (pv 0) (pa_cons (pe_glob (v := .ref (Cl K 20)) rfl (T.gl 20 (by decide)) rfl) pa_nil))) pa_nil))))))
      (pss_cons (ps_set (i := 1) sc__law_own.nd rfl (Or.inl rfl) (pe_op op_cat (pv 1) (pe_lst (pa_cons (pe_callB ErX.call_isV (by rfl) T.isi (by decide +kernel) (pa_cons (pv 0) (pa_cons (pe_glob (v := .ref (Cl K 21)) rfl (T.gl 21 (by decide)) rfl) pa_nil))) (pa_cons (pe_callB ErX.call_isV (by rfl) T.isi (by decide +kernel) (pa_cons (pv 0) (pa_cons (pe_glob (v := .ref (Cl K 22)) rfl (T.gl 22 (by decide)) rfl) pa_nil))) (pa_cons (pe_callB ErX.call_isV (by rfl) T.isi (by decide +kernel) (pa_cons (pv 0) (pa_cons (pe_glob (v := .ref (Cl K 23)) rfl (T.gl 23 (by decide)) rfl) pa_nil))) pa_nil))))))
      (pss_cons (ps_set (i := 1) sc__law_own.nd rfl (Or.inl rfl) (pe_op op_cat (pv 1) (pe_lst (pa_cons (pe_callB ErX.call_isV (by rfl) T.isi (by decide +kernel) (pa_cons (pv 0) (pa_cons (pe_glob (v := .ref (Cl K 24)) rfl (T.gl 24 (by decide)) rfl) pa_nil))) (pa_cons (pe_callB ErX.call_isV (by rfl) T.isi (by decide +kernel) (pa_cons (pv 0) (pa_cons (pe_glob (v := .ref (Cl K 25)) rfl (T.gl 25 (by decide)) rfl) pa_nil))) pa_nil)))))
      (pss_one (ps_ret (pv 1)))))))))))), ?_⟩
    refine ⟨_, rfl, a, _, fs, _, _, _, rfl, hE, hx.2.1, .own _, hx.2.2, T.kit i 0 hi (by decide), _, rfl, a, _, fs, _, _, _, rfl, hE, hx.2.1, .own _, hx.2.2, T.kit i 1 hi (by decide), _, rfl, a, _, fs, _, _, _, rfl, hE, hx.2.1, .own _, hx.2.2, T.kit i 2 hi (by decide), sz 3 (by decide), fun l0 h0 => ?_⟩
    have s0 : Same H (upd H l0 (.lst [V.bl (decide (0 = i)), V.bl (decide (1 = i)), V.bl (decide (2 = i))])) := same_new h0
    have t0 : (upd H l0 (.lst [V.bl (decide (0 = i)), V.bl (decide (1 = i)), V.bl (decide (2 = i))])) l0 = some (.lst [V.bl (decide (0 = i)), V.bl (decide (1 = i)), V.bl (decide (2 = i))]) := upd_same
    generalize upd H l0 (.lst [V.bl (decide (0 = i)), V.bl (decide (1 = i)), V.bl (decide (2 = i))]) = G0 at s0 t0 ⊢
    refine ⟨_, rfl, _, rfl, a, _, fs, _, _, _, rfl, (hE.same s0), hx.2.1, .own _, hx.2.2, T.kit i 3 hi (by decide), _, rfl, a, _, fs, _, _, _, rfl, (hE.same s0), hx.2.1, .own _, hx.2.2, T.kit i 4 hi (by decide), _, rfl, a, _, fs, _, _, _, rfl, (hE.same s0), hx.2.1, .own _, hx.2.2, T.kit i 5 hi (by decide), sz 3 (by decide), fun m1 k1 => ?_⟩
    refine ⟨l0, m1, _, _, rfl, rfl, same_new k1 _ _ t0, upd_same, sz _ (by simp), fun l1 h1 => ?_⟩
    have s1 : Same H (upd (upd G0 m1 (.lst [V.bl (decide (3 = i)), V.bl (decide (4 = i)), V.bl (decide (5 = i))])) l1 (.lst ([V.bl (decide (0 = i)), V.bl (decide (1 = i)), V.bl (decide (2 = i))] ++ [V.bl (decide (3 = i)), V.bl (decide (4 = i)), V.bl (decide (5 = i))]))) := s0.trans ((same_new k1).trans (same_new h1))
    have t1 : (upd (upd G0 m1 (.lst [V.bl (decide (3 = i)), V.bl (decide (4 = i)), V.bl (decide (5 = i))])) l1 (.lst ([V.bl (decide (0 = i)), V.bl (decide (1 = i)), V.bl (decide (2 = i))] ++ [V.bl (decide (3 = i)), V.bl (decide (4 = i)), V.bl (decide (5 = i))]))) l1 = some (.lst ([V.bl (decide (0 = i)), V.bl (decide (1 = i)), V.bl (decide (2 = i))] ++ [V.bl (decide (3 = i)), V.bl (decide (4 = i)), V.bl (decide (5 = i))])) := upd_same
    generalize upd (upd G0 m1 (.lst [V.bl (decide (3 = i)), V.bl (decide (4 = i)), V.bl (decide (5 = i))])) l1 (.lst ([V.bl (decide (0 = i)), V.bl (decide (1 = i)), V.bl (decide (2 = i))] ++ [V.bl (decide (3 = i)), V.bl (decide (4 = i)), V.bl (decide (5 = i))])) = G1 at s1 t1 ⊢
    refine ⟨_, rfl, _, rfl, a, _, fs, _, _, _, rfl, (hE.same s1), hx.2.1, .own _, hx.2.2, T.kit i 6 hi (by decide), _, rfl, a, _, fs, _, _, _, rfl, (hE.same s1), hx.2.1, .own _, hx.2.2, T.kit i 7 hi (by decide), _, rfl, a, _, fs, _, _, _, rfl, (hE.same s1), hx.2.1, .own _, hx.2.2, T.kit i 8 hi (by decide), sz 3 (by decide), fun m2 k2 => ?_⟩
    refine ⟨l1, m2, _, _, rfl, rfl, same_new k2 _ _ t1, upd_same, sz _ (by simp), fun l2 h2 => ?_⟩
    have s2 : Same H (upd (upd G1 m2 (.lst [V.bl (decide (6 = i)), V.bl (decide (7 = i)), V.bl (decide (8 = i))])) l2 (.lst (([V.bl (decide (0 = i)), V.bl (decide (1 = i)), V.bl (decide (2 = i))] ++ [V.bl (decide (3 = i)), V.bl (decide (4 = i)), V.bl (decide (5 = i))]) ++ [V.bl (decide (6 = i)), V.bl (decide (7 = i)), V.bl (decide (8 = i))]))) := s1.trans ((same_new k2).trans (same_new h2))
    have t2 : (upd (upd G1 m2 (.lst [V.bl (decide (6 = i)), V.bl (decide (7 = i)), V.bl (decide (8 = i))])) l2 (.lst (([V.bl (decide (0 = i)), V.bl (decide (1 = i)), V.bl (decide (2 = i))] ++ [V.bl (decide (3 = i)), V.bl (decide (4 = i)), V.bl (decide (5 = i))]) ++ [V.bl (decide (6 = i)), V.bl (decide (7 = i)), V.bl (decide (8 = i))]))) l2 = some (.lst (([V.bl (decide (0 = i)), V.bl (decide (1 = i)), V.bl (decide (2 = i))] ++ [V.bl (decide (3 = i)), V.bl (decide (4 = i)), V.bl (decide (5 = i))]) ++ [V.bl (decide (6 = i)), V.bl (decide (7 = i)), V.bl (decide (8 = i))])) := upd_same
    generalize upd (upd G1 m2 (.lst [V.bl (decide (6 = i)), V.bl (decide (7 = i)), V.bl (decide (8 = i))])) l2 (.lst (([V.bl (decide (0 = i)), V.bl (decide (1 = i)), V.bl (decide (2 = i))] ++ [V.bl (decide (3 = i)), V.bl (decide (4 = i)), V.bl (decide (5 = i))]) ++ [V.bl (decide (6 = i)), V.bl (decide (7 = i)), V.bl (decide (8 = i))])) = G2 at s2 t2 ⊢
    refine ⟨_, rfl, _, rfl, a, _, fs, _, _, _, rfl, (hE.same s2), hx.2.1, .own _, hx.2.2, T.kit i 9 hi (by decide), _, rfl, a, _, fs, _, _, _, rfl, (hE.same s2), hx.2.1, .own _, hx.2.2, T.kit i 10 hi (by decide), _, rfl, a, _, fs, _, _, _, rfl, (hE.same s2), hx.2.1, .own _, hx.2.2, T.kit i 11 hi (by decide), sz 3 (by decide), fun m3 k3 => ?_⟩
    refine ⟨l2, m3, _, _, rfl, rfl, same_new k3 _ _ t2, upd_same, sz _ (by simp), fun l3 h3 => ?_⟩
    have s3 : Same H (upd (upd G2 m3 (.lst [V.bl (decide (9 = i)), V.bl (decide (10 = i)), V.bl (decide (11 = i))])) l3 (.lst ((([V.bl (decide (0 = i)), V.bl (decide (1 = i)), V.bl (decide (2 = i))] ++ [V.bl (decide (3 = i)), V.bl (decide (4 = i)), V.bl (decide (5 = i))]) ++ [V.bl (decide (6 = i)), V.bl (decide (7 = i)), V.bl (decide (8 = i))]) ++ [V.bl (decide (9 = i)), V.bl (decide (10 = i)), V.bl (decide (11 = i))]))) := s2.trans ((same_new k3).trans (same_new h3))
    have t3 : (upd (upd G2 m3 (.lst [V.bl (decide (9 = i)), V.bl (decide (10 = i)), V.bl (decide (11 = i))])) l3 (.lst ((([V.bl (decide (0 = i)), V.bl (decide (1 = i)), V.bl (decide (2 = i))] ++ [V.bl (decide (3 = i)), V.bl (decide (4 = i)), V.bl (decide (5 = i))]) ++ [V.bl (decide (6 = i)), V.bl (decide (7 = i)), V.bl (decide (8 = i))]) ++ [V.bl (decide (9 = i)), V.bl (decide (10 = i)), V.bl (decide (11 = i))]))) l3 = some (.lst ((([V.bl (decide (0 = i)), V.bl (decide (1 = i)), V.bl (decide (2 = i))] ++ [V.bl (decide (3 = i)), V.bl (decide (4 = i)), V.bl (decide (5 = i))]) ++ [V.bl (decide (6 = i)), V.bl (decide (7 = i)), V.bl (decide (8 = i))]) ++ [V.bl (decide (9 = i)), V.bl (decide (10 = i)), V.bl (decide (11 = i))])) := upd_same
    generalize upd (upd G2 m3 (.lst [V.bl (decide (9 = i)), V.bl (decide (10 = i)), V.bl (decide (11 = i))])) l3 (.lst ((([V.bl (decide (0 = i)), V.bl (decide (1 = i)), V.bl (decide (2 = i))] ++ [V.bl (decide (3 = i)), V.bl (decide (4 = i)), V.bl (decide (5 = i))]) ++ [V.bl (decide (6 = i)), V.bl (decide (7 = i)), V.bl (decide (8 = i))]) ++ [V.bl (decide (9 = i)), V.bl (decide (10 = i)), V.bl (decide (11 = i))])) = G3 at s3 t3 ⊢
    refine ⟨_, rfl, _, rfl, a, _, fs, _, _, _, rfl, (hE.same s3), hx.2.1, .own _, hx.2.2, T.kit i 12 hi (by decide), _, rfl, a, _, fs, _, _, _, rfl, (hE.same s3), hx.2.1, .own _, hx.2.2, T.kit i 13 hi (by decide), _, rfl, a, _, fs, _, _, _, rfl, (hE.same s3), hx.2.1, .own _, hx.2.2, T.kit i 14 hi (by decide), sz 3 (by decide), fun m4 k4 => ?_⟩
    refine ⟨l3, m4, _, _, rfl, rfl, same_new k4 _ _ t3, upd_same, sz _ (by simp), fun l4 h4 => ?_⟩
    have s4 : Same H (upd (upd G3 m4 (.lst [V.bl (decide (12 = i)), V.bl (decide (13 = i)), V.bl (decide (14 = i))])) l4 (.lst (((([V.bl (decide (0 = i)), V.bl (decide (1 = i)), V.bl (decide (2 = i))] ++ [V.bl (decide (3 = i)), V.bl (decide (4 = i)), V.bl (decide (5 = i))]) ++ [V.bl (decide (6 = i)), V.bl (decide (7 = i)), V.bl (decide (8 = i))]) ++ [V.bl (decide (9 = i)), V.bl (decide (10 = i)), V.bl (decide (11 = i))]) ++ [V.bl (decide (12 = i)), V.bl (decide (13 = i)), V.bl (decide (14 = i))]))) := s3.trans ((same_new k4).trans (same_new h4))
    have t4 : (upd (upd G3 m4 (.lst [V.bl (decide (12 = i)), V.bl (decide (13 = i)), V.bl (decide (14 = i))])) l4 (.lst (((([V.bl (decide (0 = i)), V.bl (decide (1 = i)), V.bl (decide (2 = i))] ++ [V.bl (decide (3 = i)), V.bl (decide (4 = i)), V.bl (decide (5 = i))]) ++ [V.bl (decide (6 = i)), V.bl (decide (7 = i)), V.bl (decide (8 = i))]) ++ [V.bl (decide (9 = i)), V.bl (decide (10 = i)), V.bl (decide (11 = i))]) ++ [V.bl (decide (12 = i)), V.bl (decide (13 = i)), V.bl (decide (14 = i))]))) l4 = some (.lst (((([V.bl (decide (0 = i)), V.bl (decide (1 = i)), V.bl (decide (2 = i))] ++ [V.bl (decide (3 = i)), V.bl (decide (4 = i)), V.bl (decide (5 = i))]) ++ [V.bl (decide (6 = i)), V.bl (decide (7 = i)), V.bl (decide (8 = i))]) ++ [V.bl (decide (9 = i)), V.bl (decide (10 = i)), V.bl (decide (11 = i))]) ++ [V.bl (decide (12 = i)), V.bl (decide (13 = i)), V.bl (decide (14 = i))])) := upd_same
    generalize upd (upd G3 m4 (.lst [V.bl (decide (12 = i)), V.bl (decide (13 = i)), V.bl (decide (14 = i))])) l4 (.lst (((([V.bl (decide (0 = i)), V.bl (decide (1 = i)), V.bl (decide (2 = i))] ++ [V.bl (decide (3 = i)), V.bl (decide (4 = i)), V.bl (decide (5 = i))]) ++ [V.bl (decide (6 = i)), V.bl (decide (7 = i)), V.bl (decide (8 = i))]) ++ [V.bl (decide (9 = i)), V.bl (decide (10 = i)), V.bl (decide (11 = i))]) ++ [V.bl (decide (12 = i)), V.bl (decide (13 = i)), V.bl (decide (14 = i))])) = G4 at s4 t4 ⊢
    refine ⟨_, rfl, _, rfl, a, _, fs, _, _, _, rfl, (hE.same s4), hx.2.1, .own _, hx.2.2, T.kit i 15 hi (by decide), _, rfl, a, _, fs, _, _, _, rfl, (hE.same s4), hx.2.1, .own _, hx.2.2, T.kit i 16 hi (by decide), _, rfl, a, _, fs, _, _, _, rfl, (hE.same s4), hx.2.1, .own _, hx.2.2, T.kit i 17 hi (by decide), sz 3 (by decide), fun m5 k5 => ?_⟩
    refine ⟨l4, m5, _, _, rfl, rfl, same_new k5 _ _ t4, upd_same, sz _ (by simp), fun l5 h5 => ?_⟩
    have s5 : Same H (upd (upd G4 m5 (.lst [V.bl (decide (15 = i)), V.bl (decide (16 = i)), V.bl (decide (17 = i))])) l5 (.lst ((((([V.bl (decide (0 = i)), V.bl (decide (1 = i)), V.bl (decide (2 = i))] ++ [V.bl (decide (3 = i)), V.bl (decide (4 = i)), V.bl (decide (5 = i))]) ++ [V.bl (decide (6 = i)), V.bl (decide (7 = i)), V.bl (decide (8 = i))]) ++ [V.bl (decide (9 = i)), V.bl (decide (10 = i)), V.bl (decide (11 = i))]) ++ [V.bl (decide (12 = i)), V.bl (decide (13 = i)), V.bl (decide (14 = i))]) ++ [V.bl (decide (15 = i)), V.bl (decide (16 = i)), V.bl (decide (17 = i))]))) := s4.trans ((same_new k5).trans (same_new h5))
    have t5 : (upd (upd G4 m5 (.lst [V.bl (decide (15 = i)), V.bl (decide (16 = i)), V.bl (decide (17 = i))])) l5 (.lst ((((([V.bl (decide (0 = i)), V.bl (decide (1 = i)), V.bl (decide (2 = i))] ++ [V.bl (decide (3 = i)), V.bl (decide (4 = i)), V.bl (decide (5 = i))]) ++ [V.bl (decide (6 = i)), V.bl (decide (7 = i)), V.bl (decide (8 = i))]) ++ [V.bl (decide (9 = i)), V.bl (decide (10 = i)), V.bl (decide (11 = i))]) ++ [V.bl (decide (12 = i)), V.bl (decide (13 = i)), V.bl (decide (14 = i))]) ++ [V.bl (decide (15 = i)), V.bl (decide (16 = i)), V.bl (decide (17 = i))]))) l5 = some (.lst ((((([V.bl (decide (0 = i)), V.bl (decide (1 = i)), V.bl (decide (2 = i))] ++ [V.bl (decide (3 = i)), V.bl (decide (4 = i)), V.bl (decide (5 = i))]) ++ [V.bl (decide (6 = i)), V.bl (decide (7 = i)), V.bl (decide (8 = i))]) ++ [V.bl (decide (9 = i)), V.bl (decide (10 = i)), V.bl (decide (11 = i))]) ++ [V.bl (decide (12 = i)), V.bl (decide (13 = i)), V.bl (decide (14 = i))]) ++ [V.bl (decide (15 = i)), V.bl (decide (16 = i)), V.bl (decide (17 = i))])) := upd_same
    generalize upd (upd G4 m5 (.lst [V.bl (decide (15 = i)), V.bl (decide (16 = i)), V.bl (decide (17 = i))])) l5 (.lst ((((([V.bl (decide (0 = i)), V.bl (decide (1 = i)), V.bl (decide (2 = i))] ++ [V.bl (decide (3 = i)), V.bl (decide (4 = i)), V.bl (decide (5 = i))]) ++ [V.bl (decide (6 = i)), V.bl (decide (7 = i)), V.bl (decide (8 = i))]) ++ [V.bl (decide (9 = i)), V.bl (decide (10 = i)), V.bl (decide (11 = i))]) ++ [V.bl (decide (12 = i)), V.bl (decide (13 = i)), V.bl (decide (14 = i))]) ++ [V.bl (decide (15 = i)), V.bl (decide (16 = i)), V.bl (decide (17 = i))])) = G5 at s5 t5 ⊢
    refine ⟨_, rfl, _, rfl, a, _, fs, _, _, _, rfl, (hE.same s5), hx.2.1, .own _, hx.2.2, T.kit i 18 hi (by decide), _, rfl, a, _, fs, _, _, _, rfl, (hE.same s5), hx.2.1, .own _, hx.2.2, T.kit i 19 hi (by decide), _, rfl, a, _, fs, _, _, _, rfl, (hE.same s5), hx.2.1, .own _, hx.2.2, T.kit i 20 hi (by decide), sz 3 (by decide), fun m6 k6 => ?_⟩
    refine ⟨l5, m6, _, _, rfl, rfl, same_new k6 _ _ t5, upd_same, sz _ (by simp), fun l6 h6 => ?_⟩
    have s6 : Same H (upd (upd G5 m6 (.lst [V.bl (decide (18 = i)), V.bl (decide (19 = i)), V.bl (decide (20 = i))])) l6 (.lst (((((([V.bl (decide (0 = i)), V.bl (decide (1 = i)), V.bl (decide (2 = i))] ++ [V.bl (decide (3 = i)), V.bl (decide (4 = i)), V.bl (decide (5 = i))]) ++ [V.bl (decide (6 = i)), V.bl (decide (7 = i)), V.bl (decide (8 = i))]) ++ [V.bl (decide (9 = i)), V.bl (decide (10 = i)), V.bl (decide (11 = i))]) ++ [V.bl (decide (12 = i)), V.bl (decide (13 = i)), V.bl (decide (14 = i))]) ++ [V.bl (decide (15 = i)), V.bl (decide (16 = i)), V.bl (decide (17 = i))]) ++ [V.bl (decide (18 = i)), V.bl (decide (19 = i)), V.bl (decide (20 = i))]))) := s5.trans ((same_new k6).trans (same_new h6))
    have t6 : (upd (upd G5 m6 (.lst [V.bl (decide (18 = i)), V.bl (decide (19 = i)), V.bl (decide (20 = i))])) l6 (.lst (((((([V.bl (decide (0 = i)), V.bl (decide (1 = i)), V.bl (decide (2 = i))] ++ [V.bl (decide (3 = i)), V.bl (decide (4 = i)), V.bl (decide (5 = i))]) ++ [V.bl (decide (6 = i)), V.bl (decide (7 = i)), V.bl (decide (8 = i))]) ++ [V.bl (decide (9 = i)), V.bl (decide (10 = i)), V.bl (decide (11 = i))]) ++ [V.bl (decide (12 = i)), V.bl (decide (13 = i)), V.bl (decide (14 = i))]) ++ [V.bl (decide (15 = i)), V.bl (decide (16 = i)), V.bl (decide (17 = i))]) ++ [V.bl (decide (18 = i)), V.bl (decide (19 = i)), V.bl (decide (20 = i))]))) l6 = some (.lst (((((([V.bl (decide (0 = i)), V.bl (decide (1 = i)), V.bl (decide (2 = i))] ++ [V.bl (decide (3 = i)), V.bl (decide (4 = i)), V.bl (decide (5 = i))]) ++ [V.bl (decide (6 = i)), V.bl (decide (7 = i)), V.bl (decide (8 = i))]) ++ [V.bl (decide (9 = i)), V.bl (decide (10 = i)), V.bl (decide (11 = i))]) ++ [V.bl (decide (12 = i)), V.bl (decide (13 = i)), V.bl (decide (14 = i))]) ++ [V.bl (decide (15 = i)), V.bl (decide (16 = i)), V.bl (decide (17 = i))]) ++ [V.bl (decide (18 = i)), V.bl (decide (19 = i)), V.bl (decide (20 = i))])) := upd_same
    generalize upd (upd G5 m6 (.lst [V.bl (decide (18 = i)), V.bl (decide (19 = i)), V.bl (decide (20 = i))])) l6 (.lst (((((([V.bl (decide (0 = i)), V.bl (decide (1 = i)), V.bl (decide (2 = i))] ++ [V.bl (decide (3 = i)), V.bl (decide (4 = i)), V.bl (decide (5 = i))]) ++ [V.bl (decide (6 = i)), V.bl (decide (7 = i)), V.bl (decide (8 = i))]) ++ [V.bl (decide (9 = i)), V.bl (decide (10 = i)), V.bl (decide (11 = i))]) ++ [V.bl (decide (12 = i)), V.bl (decide (13 = i)), V.bl (decide (14 = i))]) ++ [V.bl (decide (15 = i)), V.bl (decide (16 = i)), V.bl (decide (17 = i))]) ++ [V.bl (decide (18 = i)), V.bl (decide (19 = i)), V.bl (decide (20 = i))])) = G6 at s6 t6 ⊢
    refine ⟨_, rfl, _, rfl, a, _, fs, _, _, _, rfl, (hE.same s6), hx.2.1, .own _, hx.2.2, T.kit i 21 hi (by decide), _, rfl, a, _, fs, _, _, _, rfl, (hE.same s6), hx.2.1, .own _, hx.2.2, T.kit i 22 hi (by decide), _, rfl, a, _, fs, _, _, _, rfl, (hE.same s6), hx.2.1, .own _, hx.2.2, T.kit i 23 hi (by decide), sz 3 (by decide), fun m7 k7 => ?_⟩
    refine ⟨l6, m7, _, _, rfl, rfl, same_new k7 _ _ t6, upd_same, sz _ (by simp), fun l7 h7 => ?_⟩
    have s7 : Same H (upd (upd G6 m7 (.lst [V.bl (decide (21 = i)), V.bl (decide (22 = i)), V.bl (decide (23 = i))])) l7 (.lst ((((((([V.bl (decide (0 = i)), V.bl (decide (1 = i)), V.bl (decide (2 = i))] ++ [V.bl (decide (3 = i)), V.bl (decide (4 = i)), V.bl (decide (5 = i))]) ++ [V.bl (decide (6 = i)), V.bl (decide (7 = i)), V.bl (decide (8 = i))]) ++ [V.bl (decide (9 = i)), V.bl (decide (10 = i)), V.bl (decide (11 = i))]) ++ [V.bl (decide (12 = i)), V.bl (decide (13 = i)), V.bl (decide (14 = i))]) ++ [V.bl (decide (15 = i)), V.bl (decide (16 = i)), V.bl (decide (17 = i))]) ++ [V.bl (decide (18 = i)), V.bl (decide (19 = i)), V.bl (decide (20 = i))]) ++ [V.bl (decide (21 = i)), V.bl (decide (22 = i)), V.bl (decide (23 = i))]))) := s6.trans ((same_new k7).trans (same_new h7))
    have t7 : (upd (upd G6 m7 (.lst [V.bl (decide (21 = i)), V.bl (decide (22 = i)), V.bl (decide (23 = i))])) l7 (.lst ((((((([V.bl (decide (0 = i)), V.bl (decide (1 = i)), V.bl (decide (2 = i))] ++ [V.bl (decide (3 = i)), V.bl (decide (4 = i)), V.bl (decide (5 = i))]) ++ [V.bl (decide (6 = i)), V.bl (decide (7 = i)), V.bl (decide (8 = i))]) ++ [V.bl (decide (9 = i)), V.bl (decide (10 = i)), V.bl (decide (11 = i))]) ++ [V.bl (decide (12 = i)), V.bl (decide (13 = i)), V.bl (decide (14 = i))]) ++ [V.bl (decide (15 = i)), V.bl (decide (16 = i)), V.bl (decide (17 = i))]) ++ [V.bl (decide (18 = i)), V.bl (decide (19 = i)), V.bl (decide (20 = i))]) ++ [V.bl (decide (21 = i)), V.bl (decide (22 = i)), V.bl (decide (23 = i))]))) l7 = some (.lst ((((((([V.bl (decide (0 = i)), V.bl (decide (1 = i)), V.bl (decide (2 = i))] ++ [V.bl (decide (3 = i)), V.bl (decide (4 = i)), V.bl (decide (5 = i))]) ++ [V.bl (decide (6 = i)), V.bl (decide (7 = i)), V.bl (decide (8 = i))]) ++ [V.bl (decide (9 = i)), V.bl (decide (10 = i)), V.bl (decide (11 = i))]) ++ [V.bl (decide (12 = i)), V.bl (decide (13 = i)), V.bl (decide (14 = i))]) ++ [V.bl (decide (15 = i)), V.bl (decide (16 = i)), V.bl (decide (17 = i))]) ++ [V.bl (decide (18 = i)), V.bl (decide (19 = i)), V.bl (decide (20 = i))]) ++ [V.bl (decide (21 = i)), V.bl (decide (22 = i)), V.bl (decide (23 = i))])) := upd_same
    generalize upd (upd G6 m7 (.lst [V.bl (decide (21 = i)), V.bl (decide (22 = i)), V.bl (decide (23 = i))])) l7 (.lst ((((((([V.bl (decide (0 = i)), V.bl (decide (1 = i)), V.bl (decide (2 = i))] ++ [V.bl (decide (3 = i)), V.bl (decide (4 = i)), V.bl (decide (5 = i))]) ++ [V.bl (decide (6 = i)), V.bl (decide (7 = i)), V.bl (decide (8 = i))]) ++ [V.bl (decide (9 = i)), V.bl (decide (10 = i)), V.bl (decide (11 = i))]) ++ [V.bl (decide (12 = i)), V.bl (decide (13 = i)), V.bl (decide (14 = i))]) ++ [V.bl (decide (15 = i)), V.bl (decide (16 = i)), V.bl (decide (17 = i))]) ++ [V.bl (decide (18 = i)), V.bl (decide (19 = i)), V.bl (decide (20 = i))]) ++ [V.bl (decide (21 = i)), V.bl (decide (22 = i)), V.bl (decide (23 = i))])) = G7 at s7 t7 ⊢
    refine ⟨_, rfl, _, rfl, a, _, fs, _, _, _, rfl, (hE.same s7), hx.2.1, .own _, hx.2.2, T.kit i 24 hi (by decide), _, rfl, a, _, fs, _, _, _, rfl, (hE.same s7), hx.2.1, .own _, hx.2.2, T.kit i 25 hi (by decide), sz 2 (by decide), fun m8 k8 => ?_⟩
    refine ⟨l7, m8, _, _, rfl, rfl, same_new k8 _ _ t7, upd_same, sz _ (by simp), fun l8 h8 => ?_⟩
    have s8 : Same H (upd (upd G7 m8 (.lst [V.bl (decide (24 = i)), V.bl (decide (25 = i))])) l8 (.lst (((((((([V.bl (decide (0 = i)), V.bl (decide (1 = i)), V.bl (decide (2 = i))] ++ [V.bl (decide (3 = i)), V.bl (decide (4 = i)), V.bl (decide (5 = i))]) ++ [V.bl (decide (6 = i)), V.bl (decide (7 = i)), V.bl (decide (8 = i))]) ++ [V.bl (decide (9 = i)), V.bl (decide (10 = i)), V.bl (decide (11 = i))]) ++ [V.bl (decide (12 = i)), V.bl (decide (13 = i)), V.bl (decide (14 = i))]) ++ [V.bl (decide (15 = i)), V.bl (decide (16 = i)), V.bl (decide (17 = i))]) ++ [V.bl (decide (18 = i)), V.bl (decide (19 = i)), V.bl (decide (20 = i))]) ++ [V.bl (decide (21 = i)), V.bl (decide (22 = i)), V.bl (decide (23 = i))]) ++ [V.bl (decide (24 = i)), V.bl (decide (25 = i))]))) := s7.trans ((same_new k8).trans (same_new h8))
    have t8 : (upd (upd G7 m8 (.lst [V.bl (decide (24 = i)), V.bl (decide (25 = i))])) l8 (.lst (((((((([V.bl (decide (0 = i)), V.bl (decide (1 = i)), V.bl (decide (2 = i))] ++ [V.bl (decide (3 = i)), V.bl (decide (4 = i)), V.bl (decide (5 = i))]) ++ [V.bl (decide (6 = i)), V.bl (decide (7 = i)), V.bl (decide (8 = i))]) ++ [V.bl (decide (9 = i)), V.bl (decide (10 = i)), V.bl (decide (11 = i))]) ++ [V.bl (decide (12 = i)), V.bl (decide (13 = i)), V.bl (decide (14 = i))]) ++ [V.bl (decide (15 = i)), V.bl (decide (16 = i)), V.bl (decide (17 = i))]) ++ [V.bl (decide (18 = i)), V.bl (decide (19 = i)), V.bl (decide (20 = i))]) ++ [V.bl (decide (21 = i)), V.bl (decide (22 = i)), V.bl (decide (23 = i))]) ++ [V.bl (decide (24 = i)), V.bl (decide (25 = i))]))) l8 = some (.lst (((((((([V.bl (decide (0 = i)), V.bl (decide (1 = i)), V.bl (decide (2 = i))] ++ [V.bl (decide (3 = i)), V.bl (decide (4 = i)), V.bl (decide (5 = i))]) ++ [V.bl (decide (6 = i)), V.bl (decide (7 = i)), V.bl (decide (8 = i))]) ++ [V.bl (decide (9 = i)), V.bl (decide (10 = i)), V.bl (decide (11 = i))]) ++ [V.bl (decide (12 = i)), V.bl (decide (13 = i)), V.bl (decide (14 = i))]) ++ [V.bl (decide (15 = i)), V.bl (decide (16 = i)), V.bl (decide (17 = i))]) ++ [V.bl (decide (18 = i)), V.bl (decide (19 = i)), V.bl (decide (20 = i))]) ++ [V.bl (decide (21 = i)), V.bl (decide (22 = i)), V.bl (decide (23 = i))]) ++ [V.bl (decide (24 = i)), V.bl (decide (25 = i))])) := upd_same
    generalize upd (upd G7 m8 (.lst [V.bl (decide (24 = i)), V.bl (decide (25 = i))])) l8 (.lst (((((((([V.bl (decide (0 = i)), V.bl (decide (1 = i)), V.bl (decide (2 = i))] ++ [V.bl (decide (3 = i)), V.bl (decide (4 = i)), V.bl (decide (5 = i))]) ++ [V.bl (decide (6 = i)), V.bl (decide (7 = i)), V.bl (decide (8 = i))]) ++ [V.bl (decide (9 = i)), V.bl (decide (10 = i)), V.bl (decide (11 = i))]) ++ [V.bl (decide (12 = i)), V.bl (decide (13 = i)), V.bl (decide (14 = i))]) ++ [V.bl (decide (15 = i)), V.bl (decide (16 = i)), V.bl (decide (17 = i))]) ++ [V.bl (decide (18 = i)), V.bl (decide (19 = i)), V.bl (decide (20 = i))]) ++ [V.bl (decide (21 = i)), V.bl (decide (22 = i)), V.bl (decide (23 = i))]) ++ [V.bl (decide (24 = i)), V.bl (decide (25 = i))])) = G8 at s8 t8 ⊢
    exact ⟨_, rfl, k l8 _ s8 t8⟩
end
end K0

namespace K0
open PySem PySem.Spec PyProof.Rows L2
/-! ### whether an error is right -/
def bls (n : Nat) (b : Int) : List V := (List.range n).map fun (j : Nat) => V.bl (decide ((j : Int) = b))
theorem bls_succ (n : Nat) (b : Int) : bls (n + 1) b = bls n b ++ [V.bl (decide ((n : Int) = b))] := by
  unfold bls
  rw [List.range_succ, List.map_append]
  rfl
theorem bls_nat (n b : Nat) : bls n (b : Int) = (List.range n).map fun j => V.bl (decide (j = b)) := by
  unfold bls
  refine List.map_congr_left fun j _ => ?_
  have e : decide ((j : Int) = (b : Int)) = decide (j = b) := by
    by_cases h : j = b
    · rw [decide_eq_true h, decide_eq_true (by omega)]
    · rw [decide_eq_false h, decide_eq_false (by omega)]
  rw [e]
theorem bls_len (n : Nat) (b : Int) : (bls n b).length = n := by
  unfold bls
  rw [List.length_map, List.length_range]
def dbl (n : Nat) (b : Int) : List PyData := (List.range n).map fun (j : Nat) => PyData.bool (decide ((j : Int) = b))
theorem dp_bls {K : PySem.W.Frag} {H : Hp} (b : Int) : ∀ l : List Nat, DpAll K H (l.map fun (j : Nat) => V.bl (decide ((j : Int) = b))) (l.map fun (j : Nat) => PyData.bool (decide ((j : Int) = b)))
  | [] => .nil
  | _ :: l => .cons (.bl _) (dp_bls b l)
theorem lay_bls (b : Int) : ∀ l : List Nat, PyData.canLayAll0 (l.map fun (j : Nat) => PyData.bool (decide ((j : Int) = b))) = true
  | [] => rfl
  | _ :: l => by
    show (true && PyData.canLayAll0 _) = true
    rw [lay_bls b l]
    rfl
theorem dep_bls (b : Int) : ∀ l : List Nat, PyData.depthAll (l.map fun (j : Nat) => PyData.bool (decide ((j : Int) = b))) = 0
  | [] => rfl
  | _ :: l => by
    show max 0 (PyData.depthAll _) = 0
    rw [dep_bls b l]
    rfl
theorem sh_bls (n : Nat) (b : Int) : SeqAt.shaped (.list (dbl n b)) = true := by
  unfold dbl
  simp [SeqAt.shaped, PyData.canLay0, PyData.depth, lay_bls, dep_bls]
theorem eq_bls (n : Nat) (b : Int) : PyData.eqv (.list (dbl n b)) (.list (dbl n b)) = true := SeqAt.eqv_refl _ (lay_bls b (List.range n))
theorem dec_int (i b : Int) : decide (V.int i = V.int b) = decide (i = b) := by
  by_cases h : i = b
  · rw [decide_eq_true h, decide_eq_true (by rw [h])]
  · rw [decide_eq_false h, decide_eq_false (fun z => h (V.int.inj z))]
def spRight (K : PySem.W.Frag) : Sp := fun vs H Q _ => ∃ (a : Addr) (i : Nat) (fs : List (Str × V)), vs = [.ref a, .int i, .int (erB.getD i 0 : Nat)] ∧ ErX.ErrV H a (Cl K i) fs ∧ i < 26 ∧ ∀ H', Same H H' → Q (.bl true) H'
section
variable {P : Program} {w : World} {K : PySem.W.Frag} {mg : Str → Option Value} {base : Heap}
theorem ok_right {f : Addr} {fd : FuncData} (F : FunD K "_law_is_right" "_law_is_right" (defArgs s__law_is_right) (defBody s__law_is_right) (defScope s__law_is_right) [] [] f fd) (T : Tx P K mg)
    (OA : OkF P w K mg base CX0 1 "_law_above" ["_law_e"] (spAbove K)) (OO : OkF P w K mg base CX0 1 "_law_own" ["_law_e"] (spOwn K)) :
    FnOk P w K mg base CX0 2 f fd ["_law_e", "_law_place", "_law_base"] (spRight K) := by
  refine F.ok sc__law_is_right (fun vs H Q E h => ?_) (fun cdv A outer s H vs Q E hr h => ?_)
  · obtain ⟨a, i, fs, rfl, _⟩ := h
    rfl
  · obtain ⟨a, i, fs, rfl, hE, hi, k⟩ := h
    have nd := sc__law_is_right.nd
    refine ⟨_, PSs.nox (pss_cons (ps_if (pt_cmpR (op_neD hr.units) (pe_f OA hr rfl pass0 (pa_cons (pv 0) pa_nil))
        (pe_lc (own := [("_law_j", 3)]) (g := gName 3) (tt := tYes) rfl nd (pi_range1 rfl T.rg (pa_cons pe_int pa_nil)) (blkOk_by (own := [("_law_j", 3)]) (N := ["_law_e", "_law_place", "_law_base", "_law_j"]) (sc := defScope s__law_is_right) (by decide +kernel))
          (fun _ _ _ _ _ => pg_name (i := 3) nd rfl (Or.inl rfl)) (fun _ _ _ _ _ => pts_nil) (fun _ _ _ _ _ => pe_cmpR op_eq (pv 3) (pv 2) (nomark _))) (nomark _)) (pss_one (ps_ret pe_bl)) pss_nil)
      (pss_one (ps_ret (pe_cmpR (op_eqD hr.units) (pe_f OO hr rfl pass0 (pa_cons (pv 0) pa_nil))
        (pe_lc (own := [("_law_j", 3)]) (g := gName 3) (tt := tYes) rfl nd (pi_range1 rfl T.rg (pa_cons pe_int pa_nil)) (blkOk_by (own := [("_law_j", 3)]) (N := ["_law_e", "_law_place", "_law_base", "_law_j"]) (sc := defScope s__law_is_right) (by decide +kernel))
          (fun _ _ _ _ _ => pg_name (i := 3) nd rfl (Or.inl rfl)) (fun _ _ _ _ _ => pts_nil) (fun _ _ _ _ _ => pe_cmpR op_eq (pv 3) (pv 1) (nomark _))) (nomark _))))), ?_⟩
    refine ⟨_, rfl, a, i, fs, rfl, hE, hi, fun l H1 s1 t1 => ?_⟩
    refine ⟨5, rfl, by decide, by decide, fun D hD => ?_⟩
    refine lc_range (lo := 0) (n := 5) (fun j G => G D = some (.lst (bls j (erB.getD i 0 : Nat))) ∧ Same H1 G) ⟨upd_same, same_new hD⟩ (fun j G hj p => ?_) (fun G p => ?_)
    · obtain ⟨p1, p2⟩ := p
      refine ⟨rfl, ?_⟩
      refine ⟨_, rfl, _, rfl, rfl, ?_⟩
      refine ⟨_, p1, ?_, ?_, fun b o e => ?_⟩
      · rw [bls_len]
        exact small1000 (by omega)
      · rw [upd_same, bls_succ, dec_int, Int.zero_add]
      · rw [upd_ne (ne_of_none e hD)]
        exact p2 b o e
    · obtain ⟨p1, p2⟩ := p
      have t2 : G l = some (.lst (bls 5 (erB.getD i 0 : Nat))) := by
        rw [bls_nat]
        exact p2 _ _ t1
      refine ⟨.list (dbl 5 (erB.getD i 0 : Nat)), .list (dbl 5 (erB.getD i 0 : Nat)), .lst (.inl (.inl t2)) (dp_bls _ _), .lst (.inl (.inl p1)) (dp_bls _ _), sh_bls _ _, sh_bls _ _, _, rfl, ?_⟩
      rw [eq_bls]
      refine iteF ?_
      have s2 := s1.trans p2
      refine ⟨_, rfl, a, i, fs, rfl, hE.same s2, hi, fun l2 H2 s3 t3 => ?_⟩
      refine ⟨26, rfl, by decide, by decide, fun D2 hD2 => ?_⟩
      refine lc_range (lo := 0) (n := 26) (fun j G => G D2 = some (.lst (bls j (i : Nat))) ∧ Same H2 G) ⟨upd_same, same_new hD2⟩ (fun j G hj p => ?_) (fun G p => ?_)
      · obtain ⟨p1, p2⟩ := p
        refine ⟨rfl, ?_⟩
        refine ⟨_, rfl, _, rfl, rfl, ?_⟩
        refine ⟨_, p1, ?_, ?_, fun b o e => ?_⟩
        · rw [bls_len]
          exact small1000 (by omega)
        · rw [upd_same, bls_succ, dec_int, Int.zero_add]
        · rw [upd_ne (ne_of_none e hD2)]
          exact p2 b o e
      · obtain ⟨p1, p2⟩ := p
        have t4 : G l2 = some (.lst (bls 26 (i : Nat))) := by
          rw [bls_nat]
          exact p2 _ _ t3
        refine ⟨.list (dbl 26 (i : Nat)), .list (dbl 26 (i : Nat)), .lst (.inl (.inl t4)) (dp_bls _ _), .lst (.inl (.inl p1)) (dp_bls _ _), sh_bls _ _, sh_bls _ _, ?_⟩
        rw [eq_bls]
        exact k _ (s2.trans (s3.trans p2))
end
end K0

namespace K0
open PySem PySem.Spec PyProof.Rows L2
theorem ifT {c : Bool} {A B : Prop} (hc : c = true) (h : A) : if c = true then A else B := by
  rw [if_pos hc]
  exact h
theorem ifF {c : Bool} {A B : Prop} (hc : c = false) (h : B) : if c = true then A else B := by
  rw [hc, if_neg Bool.false_ne_true]
  exact h
/-! ### the field of an error -/
def spShown (K : PySem.W.Frag) : Sp := fun vs H Q _ => ∃ (a : Addr) (i : Nat) (v : V), vs = [.ref a, .int i] ∧ ErX.ErrV H a (Cl K i) [(erF.getD i "", v)] ∧ i < 22 ∧ ∀ H', Same H H' → Q v H'
section
variable {P : Program} {w : World} {K : PySem.W.Frag} {mg : Str → Option Value} {base : Heap}
theorem look1 (f : Str) (v : V) : List.lookup f [(f, v)] = some v := by simp [List.lookup]
theorem ok_shown {f : Addr} {fd : FuncData} (F : FunD K "_law_shown" "_law_shown" (defArgs s__law_shown) (defBody s__law_shown) (defScope s__law_shown) [] [] f fd) (T : Tx P K mg) : FnOk P w K mg base CX0 1 f fd ["_law_e", "_law_k"] (spShown K) := by
  refine F.ok sc__law_shown (fun vs H Q E h => ?_) (fun cdv A outer s H vs Q E hr h => ?_)
  · obtain ⟨a, i, v, rfl, _⟩ := h
    rfl
  · obtain ⟨a, i, v, rfl, hE, hi, k⟩ := h
    refine ⟨_, PSs.nox (pss_cons (ps_if (pt_cmpR op_in_seq (pv 1) (pe_tup (pa_cons pe_int (pa_cons pe_int (pa_cons pe_int (pa_cons pe_int pa_nil))))) (by rfl)) (pss_one (ps_ret (pe_ifExp (pt_cmpR op_eq (pv 1) pe_int (nomark _)) (ErX.pe_efld (pv 0)) (ErX.pe_efld (pv 0))))) pss_nil)
      (pss_cons (ps_if (pt_cmpR op_in_seq (pv 1) (pe_tup (pa_cons pe_int (pa_cons pe_int (pa_cons pe_int (pa_cons pe_int pa_nil))))) (by rfl)) (pss_one (ps_ret (ErX.pe_efld (pv 0)))) pss_nil)
      (pss_cons (ps_if (pt_cmpR op_gt (pv 1) pe_int (nomark _)) (pss_one (ps_ret (pe_ifExp (pt_cmpR op_eq (pv 1) pe_int (nomark _)) (ErX.pe_efld (pv 0)) (ErX.pe_efld (pv 0))))) pss_nil)
      (pss_one (ps_ret (ErX.pe_efld (pv 0))))))), ?_⟩
    have hx := (T.xf i (by omega)).1
    have hn := T.nof i hi
    have get : ∀ G : Hp, Same H G → ErX.tEfld K (erF.getD i "") (tVar 0) [some (.ref a), some (.int i)] G Q := fun G s => ⟨_, rfl, a, _, _, v, rfl, hE.same s, look1 _ _, hx, hn, k G s⟩
    rcases (show i = 0 ∨ i = 1 ∨ i = 2 ∨ i = 3 ∨ i = 4 ∨ i = 5 ∨ i = 6 ∨ i = 7 ∨ i = 8 ∨ i = 9 ∨ i = 10 ∨ i = 11 ∨ i = 12 ∨ i = 13 ∨ i = 14 ∨ i = 15 ∨ i = 16 ∨ i = 17 ∨ i = 18 ∨ i = 19 ∨ i = 20 ∨ i = 21 by omega) with rfl | rfl | rfl | rfl | rfl | rfl | rfl | rfl | rfl | rfl | rfl | rfl | rfl | rfl | rfl | rfl | rfl | rfl | rfl | rfl | rfl | rfl
    · refine ⟨_, rfl, sz 4 (by decide), fun t ht => ⟨t, _, rfl, .inr (.inl (.inl upd_same)), rfl, rfl, _, rfl, ?_⟩⟩
      refine ifF (by decide +kernel) ⟨_, rfl, sz 4 (by decide), fun u hu => ⟨u, _, rfl, .inr (.inl (.inl upd_same)), rfl, rfl, _, rfl, ?_⟩⟩
      refine ifF (by decide +kernel) ⟨_, rfl, _, _, rfl, rfl, _, rfl, ?_⟩
      refine ifF (by decide +kernel) ?_
      exact get _ ((same_new ht).trans (same_new hu))
    · refine ⟨_, rfl, sz 4 (by decide), fun t ht => ⟨t, _, rfl, .inr (.inl (.inl upd_same)), rfl, rfl, _, rfl, ?_⟩⟩
      refine ifT (by decide +kernel) ⟨_, rfl, rfl, _, rfl, ?_⟩
      refine ifT (by decide +kernel) ?_
      exact get _ (same_new ht)
    · refine ⟨_, rfl, sz 4 (by decide), fun t ht => ⟨t, _, rfl, .inr (.inl (.inl upd_same)), rfl, rfl, _, rfl, ?_⟩⟩
      refine ifT (by decide +kernel) ⟨_, rfl, rfl, _, rfl, ?_⟩
      refine ifF (by decide +kernel) ?_
      exact get _ (same_new ht)
    · refine ⟨_, rfl, sz 4 (by decide), fun t ht => ⟨t, _, rfl, .inr (.inl (.inl upd_same)), rfl, rfl, _, rfl, ?_⟩⟩
      refine ifF (by decide +kernel) ⟨_, rfl, sz 4 (by decide), fun u hu => ⟨u, _, rfl, .inr (.inl (.inl upd_same)), rfl, rfl, _, rfl, ?_⟩⟩
      refine ifF (by decide +kernel) ⟨_, rfl, _, _, rfl, rfl, _, rfl, ?_⟩
      refine ifF (by decide +kernel) ?_
      exact get _ ((same_new ht).trans (same_new hu))
    · refine ⟨_, rfl, sz 4 (by decide), fun t ht => ⟨t, _, rfl, .inr (.inl (.inl upd_same)), rfl, rfl, _, rfl, ?_⟩⟩
      refine ifF (by decide +kernel) ⟨_, rfl, sz 4 (by decide), fun u hu => ⟨u, _, rfl, .inr (.inl (.inl upd_same)), rfl, rfl, _, rfl, ?_⟩⟩
      refine ifF (by decide +kernel) ⟨_, rfl, _, _, rfl, rfl, _, rfl, ?_⟩
      refine ifF (by decide +kernel) ?_
      exact get _ ((same_new ht).trans (same_new hu))
    · refine ⟨_, rfl, sz 4 (by decide), fun t ht => ⟨t, _, rfl, .inr (.inl (.inl upd_same)), rfl, rfl, _, rfl, ?_⟩⟩
      refine ifF (by decide +kernel) ⟨_, rfl, sz 4 (by decide), fun u hu => ⟨u, _, rfl, .inr (.inl (.inl upd_same)), rfl, rfl, _, rfl, ?_⟩⟩
      refine ifF (by decide +kernel) ⟨_, rfl, _, _, rfl, rfl, _, rfl, ?_⟩
      refine ifF (by decide +kernel) ?_
      exact get _ ((same_new ht).trans (same_new hu))
    · refine ⟨_, rfl, sz 4 (by decide), fun t ht => ⟨t, _, rfl, .inr (.inl (.inl upd_same)), rfl, rfl, _, rfl, ?_⟩⟩
      refine ifF (by decide +kernel) ⟨_, rfl, sz 4 (by decide), fun u hu => ⟨u, _, rfl, .inr (.inl (.inl upd_same)), rfl, rfl, _, rfl, ?_⟩⟩
      refine ifF (by decide +kernel) ⟨_, rfl, _, _, rfl, rfl, _, rfl, ?_⟩
      refine ifF (by decide +kernel) ?_
      exact get _ ((same_new ht).trans (same_new hu))
    · refine ⟨_, rfl, sz 4 (by decide), fun t ht => ⟨t, _, rfl, .inr (.inl (.inl upd_same)), rfl, rfl, _, rfl, ?_⟩⟩
      refine ifF (by decide +kernel) ⟨_, rfl, sz 4 (by decide), fun u hu => ⟨u, _, rfl, .inr (.inl (.inl upd_same)), rfl, rfl, _, rfl, ?_⟩⟩
      refine ifF (by decide +kernel) ⟨_, rfl, _, _, rfl, rfl, _, rfl, ?_⟩
      refine ifF (by decide +kernel) ?_
      exact get _ ((same_new ht).trans (same_new hu))
    · refine ⟨_, rfl, sz 4 (by decide), fun t ht => ⟨t, _, rfl, .inr (.inl (.inl upd_same)), rfl, rfl, _, rfl, ?_⟩⟩
      refine ifF (by decide +kernel) ⟨_, rfl, sz 4 (by decide), fun u hu => ⟨u, _, rfl, .inr (.inl (.inl upd_same)), rfl, rfl, _, rfl, ?_⟩⟩
      refine ifF (by decide +kernel) ⟨_, rfl, _, _, rfl, rfl, _, rfl, ?_⟩
      refine ifF (by decide +kernel) ?_
      exact get _ ((same_new ht).trans (same_new hu))
    · refine ⟨_, rfl, sz 4 (by decide), fun t ht => ⟨t, _, rfl, .inr (.inl (.inl upd_same)), rfl, rfl, _, rfl, ?_⟩⟩
      refine ifT (by decide +kernel) ⟨_, rfl, rfl, _, rfl, ?_⟩
      refine ifF (by decide +kernel) ?_
      exact get _ (same_new ht)
    · refine ⟨_, rfl, sz 4 (by decide), fun t ht => ⟨t, _, rfl, .inr (.inl (.inl upd_same)), rfl, rfl, _, rfl, ?_⟩⟩
      refine ifF (by decide +kernel) ⟨_, rfl, sz 4 (by decide), fun u hu => ⟨u, _, rfl, .inr (.inl (.inl upd_same)), rfl, rfl, _, rfl, ?_⟩⟩
      refine ifF (by decide +kernel) ⟨_, rfl, _, _, rfl, rfl, _, rfl, ?_⟩
      refine ifF (by decide +kernel) ?_
      exact get _ ((same_new ht).trans (same_new hu))
    · refine ⟨_, rfl, sz 4 (by decide), fun t ht => ⟨t, _, rfl, .inr (.inl (.inl upd_same)), rfl, rfl, _, rfl, ?_⟩⟩
      refine ifT (by decide +kernel) ⟨_, rfl, rfl, _, rfl, ?_⟩
      refine ifF (by decide +kernel) ?_
      exact get _ (same_new ht)
    · refine ⟨_, rfl, sz 4 (by decide), fun t ht => ⟨t, _, rfl, .inr (.inl (.inl upd_same)), rfl, rfl, _, rfl, ?_⟩⟩
      refine ifF (by decide +kernel) ⟨_, rfl, sz 4 (by decide), fun u hu => ⟨u, _, rfl, .inr (.inl (.inl upd_same)), rfl, rfl, _, rfl, ?_⟩⟩
      refine ifF (by decide +kernel) ⟨_, rfl, _, _, rfl, rfl, _, rfl, ?_⟩
      refine ifF (by decide +kernel) ?_
      exact get _ ((same_new ht).trans (same_new hu))
    · refine ⟨_, rfl, sz 4 (by decide), fun t ht => ⟨t, _, rfl, .inr (.inl (.inl upd_same)), rfl, rfl, _, rfl, ?_⟩⟩
      refine ifF (by decide +kernel) ⟨_, rfl, sz 4 (by decide), fun u hu => ⟨u, _, rfl, .inr (.inl (.inl upd_same)), rfl, rfl, _, rfl, ?_⟩⟩
      refine ifF (by decide +kernel) ⟨_, rfl, _, _, rfl, rfl, _, rfl, ?_⟩
      refine ifF (by decide +kernel) ?_
      exact get _ ((same_new ht).trans (same_new hu))
    · refine ⟨_, rfl, sz 4 (by decide), fun t ht => ⟨t, _, rfl, .inr (.inl (.inl upd_same)), rfl, rfl, _, rfl, ?_⟩⟩
      refine ifF (by decide +kernel) ⟨_, rfl, sz 4 (by decide), fun u hu => ⟨u, _, rfl, .inr (.inl (.inl upd_same)), rfl, rfl, _, rfl, ?_⟩⟩
      refine ifF (by decide +kernel) ⟨_, rfl, _, _, rfl, rfl, _, rfl, ?_⟩
      refine ifF (by decide +kernel) ?_
      exact get _ ((same_new ht).trans (same_new hu))
    · refine ⟨_, rfl, sz 4 (by decide), fun t ht => ⟨t, _, rfl, .inr (.inl (.inl upd_same)), rfl, rfl, _, rfl, ?_⟩⟩
      refine ifF (by decide +kernel) ⟨_, rfl, sz 4 (by decide), fun u hu => ⟨u, _, rfl, .inr (.inl (.inl upd_same)), rfl, rfl, _, rfl, ?_⟩⟩
      refine ifT (by decide +kernel) ?_
      exact get _ ((same_new ht).trans (same_new hu))
    · refine ⟨_, rfl, sz 4 (by decide), fun t ht => ⟨t, _, rfl, .inr (.inl (.inl upd_same)), rfl, rfl, _, rfl, ?_⟩⟩
      refine ifF (by decide +kernel) ⟨_, rfl, sz 4 (by decide), fun u hu => ⟨u, _, rfl, .inr (.inl (.inl upd_same)), rfl, rfl, _, rfl, ?_⟩⟩
      refine ifT (by decide +kernel) ?_
      exact get _ ((same_new ht).trans (same_new hu))
    · refine ⟨_, rfl, sz 4 (by decide), fun t ht => ⟨t, _, rfl, .inr (.inl (.inl upd_same)), rfl, rfl, _, rfl, ?_⟩⟩
      refine ifF (by decide +kernel) ⟨_, rfl, sz 4 (by decide), fun u hu => ⟨u, _, rfl, .inr (.inl (.inl upd_same)), rfl, rfl, _, rfl, ?_⟩⟩
      refine ifT (by decide +kernel) ?_
      exact get _ ((same_new ht).trans (same_new hu))
    · refine ⟨_, rfl, sz 4 (by decide), fun t ht => ⟨t, _, rfl, .inr (.inl (.inl upd_same)), rfl, rfl, _, rfl, ?_⟩⟩
      refine ifF (by decide +kernel) ⟨_, rfl, sz 4 (by decide), fun u hu => ⟨u, _, rfl, .inr (.inl (.inl upd_same)), rfl, rfl, _, rfl, ?_⟩⟩
      refine ifT (by decide +kernel) ?_
      exact get _ ((same_new ht).trans (same_new hu))
    · refine ⟨_, rfl, sz 4 (by decide), fun t ht => ⟨t, _, rfl, .inr (.inl (.inl upd_same)), rfl, rfl, _, rfl, ?_⟩⟩
      refine ifF (by decide +kernel) ⟨_, rfl, sz 4 (by decide), fun u hu => ⟨u, _, rfl, .inr (.inl (.inl upd_same)), rfl, rfl, _, rfl, ?_⟩⟩
      refine ifF (by decide +kernel) ⟨_, rfl, _, _, rfl, rfl, _, rfl, ?_⟩
      refine ifT (by decide +kernel) ⟨_, rfl, rfl, _, rfl, ?_⟩
      refine ifT (by decide +kernel) ?_
      exact get _ ((same_new ht).trans (same_new hu))
    · refine ⟨_, rfl, sz 4 (by decide), fun t ht => ⟨t, _, rfl, .inr (.inl (.inl upd_same)), rfl, rfl, _, rfl, ?_⟩⟩
      refine ifF (by decide +kernel) ⟨_, rfl, sz 4 (by decide), fun u hu => ⟨u, _, rfl, .inr (.inl (.inl upd_same)), rfl, rfl, _, rfl, ?_⟩⟩
      refine ifF (by decide +kernel) ⟨_, rfl, _, _, rfl, rfl, _, rfl, ?_⟩
      refine ifT (by decide +kernel) ⟨_, rfl, rfl, _, rfl, ?_⟩
      refine ifF (by decide +kernel) ?_
      exact get _ ((same_new ht).trans (same_new hu))
    · refine ⟨_, rfl, sz 4 (by decide), fun t ht => ⟨t, _, rfl, .inr (.inl (.inl upd_same)), rfl, rfl, _, rfl, ?_⟩⟩
      refine ifF (by decide +kernel) ⟨_, rfl, sz 4 (by decide), fun u hu => ⟨u, _, rfl, .inr (.inl (.inl upd_same)), rfl, rfl, _, rfl, ?_⟩⟩
      refine ifF (by decide +kernel) ⟨_, rfl, _, _, rfl, rfl, _, rfl, ?_⟩
      refine ifT (by decide +kernel) ⟨_, rfl, rfl, _, rfl, ?_⟩
      refine ifF (by decide +kernel) ?_
      exact get _ ((same_new ht).trans (same_new hu))
/-! ### ten multiplied so many times -/
def spPower : Sp := fun vs H Q _ => ∃ n : Nat, vs = [.int n] ∧ n ≤ 4000 ∧ Q (.int (10 ^ n)) H
theorem ok_power {f : Addr} {fd : FuncData} (F : FunD K "_law_power" "_law_power" (defArgs s__law_power) (defBody s__law_power) (defScope s__law_power) [] [] f fd) (T : Tx P K mg) : FnOk P w K mg base CX0 1 f fd ["_law_size"] spPower := by
  refine F.ok sc__law_power (fun vs H Q E h => ?_) (fun cdv A outer s H vs Q E hr h => ?_)
  · obtain ⟨n, rfl, _⟩ := h
    rfl
  · obtain ⟨n, rfl, hn, k⟩ := h
    refine ⟨_, PSs.nox (pss_cons (ps_set (i := 1) sc__law_power.nd rfl (Or.inl rfl) pe_int)
      (pss_cons (ps_for PassesOwn.never rfl (pi_range1 rfl T.rg (pa_cons (pv 0) pa_nil)) (pg_name (i := 2) sc__law_power.nd rfl (Or.inl rfl))
        (pss_one (ps_set (i := 1) sc__law_power.nd rfl (Or.inl rfl) (pe_op op_mul (pv 1) pe_int))))
      (pss_one (ps_ret (pv 1))))), ?_⟩
    refine ⟨_, rfl, n, rfl, by omega, by omega, for_range (n := (n : Int).toNat) (fun j σ G => G = H ∧ ∃ x, σ = [some (.int n), some (.int (10 ^ j)), x]) ⟨rfl, none, rfl⟩ ?_ ?_⟩
    · rintro j σ G hj ⟨rfl, x, rfl⟩
      refine ⟨_, rfl, _, _, rfl, rfl, .inr ⟨by decide, by decide⟩, rfl, some (.int (0 + (j : Int))), ?_⟩
      rw [Int.pow_succ]
      rfl
    · rintro σ G ⟨rfl, x, rfl⟩
      refine ⟨_, rfl, ?_⟩
      rw [Int.toNat_natCast]
      exact k
end
end K0

namespace K0
open PySem PySem.Spec PyProof.Rows L2
/-! ### what is known of the menu's values -/
def menuOk (d : PyData) : Bool := d.showable && (decide (d.shown.length ≤ 1000) && (decide (d.depth ≤ 60) && ((PyData.str d.shown).canLay0 && ((SeqAt.shaped d && d.canLay0) || d.hasDict))))
theorem menu_ok {d : PyData} (h : d ∈ menu) : menuOk d = true := List.all_eq_true.mp (show menu.all menuOk = true by decide +kernel) d h
structure MOk (d : PyData) : Prop where
  sh : d.showable = true
  ln : d.shown.length ≤ sizeLine
  dp : d.depth ≤ 60
  ok : (PyData.str d.shown).canLay0 = true
  eq : (SeqAt.shaped d = true ∧ d.canLay0 = true) ∨ d.hasDict = true
theorem m_ok {d : PyData} (h : d ∈ menu) : MOk d := by
  obtain ⟨h1, z⟩ := He.ba (menu_ok h)
  obtain ⟨h2, z⟩ := He.ba z
  obtain ⟨h3, z⟩ := He.ba z
  obtain ⟨h4, z⟩ := He.ba z
  refine ⟨h1, sz _ (of_decide_eq_true h2), of_decide_eq_true h3, h4, ?_⟩
  rcases Bool.or_eq_true_iff.mp z with q | q
  · exact .inl (He.ba q)
  · exact .inr q
mutual
theorem dp_same {K : PySem.W.Frag} {H H' : Hp} (s : Same H H') : ∀ (d : PyData) (v : V), Dp K H v d → Dp K H' v d
  | .none, _, h => by cases h; exact .non
  | .bool _, _, h => by cases h; exact .bl _
  | .int _, _, h => by cases h; exact .int _
  | .str _, _, h => by cases h; exact .str _
  | .list ds, _, h => by
    cases h with
    | lst hs ha => exact .lst (s.seq hs) (dp_sameAll s ds _ ha)
  | .tuple ds, _, h => by
    cases h with
    | tup hs ha =>
      refine .tup ?_ (dp_sameAll s ds _ ha)
      rcases hs with (q | ⟨o, q⟩) | q
      · exact .inl (.inl (s _ _ q))
      · exact .inl (.inr ⟨o, s _ _ q⟩)
      · exact .inr q
  | .dict _, _, h => by cases h
theorem dp_sameAll {K : PySem.W.Frag} {H H' : Hp} (s : Same H H') : ∀ (ds : List PyData) (vs : List V), DpAll K H vs ds → DpAll K H' vs ds
  | [], _, h => by cases h; exact .nil
  | d :: ds, _, h => by
    cases h with
    | cons h1 h2 => exact .cons (dp_same s d _ h1) (dp_sameAll s ds _ h2)
end
theorem vd_same {K : PySem.W.Frag} {H H' : Hp} {v : V} {d : PyData} (s : Same H H') (h : Gd.Vd K H v d) : Gd.Vd K H' v d := by
  rcases h with h | ⟨a, e, h, ed⟩ | ⟨a, x, i, e, h, ed⟩
  · exact .inl (dp_same s d v h)
  · exact .inr (.inl ⟨a, e, s _ _ h, ed⟩)
  · exact .inr (.inr ⟨a, x, i, e, s _ _ h, ed⟩)
/-- a value of the menu -/
def MV (K : PySem.W.Frag) (H : Hp) (v : V) (d : PyData) : Prop := Gd.Vd K H v d ∧ d ∈ menu
theorem MV.same {K : PySem.W.Frag} {H H' : Hp} {v : V} {d : PyData} (s : Same H H') (h : MV K H v d) : MV K H' v d := ⟨vd_same s h.1, h.2⟩
theorem two_sh {d e : PyData} (hd : MOk d) (he : MOk e) : SeqAt.shaped (.list [.str d.shown, .str e.shown]) = true := by
  have h1 := hd.ok
  have h2 := he.ok
  show (((PyData.str d.shown).canLay0 && ((PyData.str e.shown).canLay0 && true)) && decide _) = true
  rw [h1, h2]
  rfl
/-! ### the errors with two fields, and those without -/
def spTwos (K : PySem.W.Frag) : Sp := fun vs H Q _ => ∃ v1 v2 d1 d2, vs = [v1, v2] ∧ MV K H v1 d1 ∧ MV K H v2 d2 ∧ ∀ H', Same H H' → Q (.bl true) H'
theorem lk_key (v1 v2 : V) : List.lookup ("key" : Str) [("key", v2), ("mode", v1)] = some v2 := by rfl
theorem lk_mode (v1 v2 : V) : List.lookup ("mode" : Str) [("key", v2), ("mode", v1)] = some v1 := by rfl
def trip (e : Addr) (p b : Int) : HO := .tup [.ref e, .int p, .int b]
theorem e2_at {H : Hp} {a d t C : Addr} {fs : List (Str × V)} {p b : Int} (ha : H a = none) (hd : H d = none) (hne : d ≠ a) (ht : upd (upd H d (.xd fs)) a (ErX.erO a C (some d)) t = none) :
    Same H (upd (upd (upd H d (.xd fs)) a (ErX.erO a C (some d))) t (.tup [.ref a, .int p, .int b])) ∧ ErX.ErrV (upd (upd (upd H d (.xd fs)) a (ErX.erO a C (some d))) t (.tup [.ref a, .int p, .int b])) a C fs := by
  have s1 : Same H (upd (upd H d (.xd fs)) a (ErX.erO a C (some d))) := fun x o e => by
    rw [upd_ne (ne_of_none e ha), upd_ne (ne_of_none e hd)]
    exact e
  refine ⟨s1.trans (same_new ht), ErX.ErrV.same (same_new ht) (.inr ⟨d, upd_same, ?_⟩)⟩
  rw [upd_ne hne, upd_same]
section
variable {P : Program} {w : World} {K : PySem.W.Frag} {mg : Str → Option Value} {base : Heap}
theorem ok_twos {f : Addr} {fd : FuncData} (F : FunD K "_law_twos_right" "_law_twos_right" (defArgs s__law_twos_right) (defBody s__law_twos_right) (defScope s__law_twos_right) [] [] f fd) (T : Tx P K mg)
    (OR : OkF P w K mg base CX0 2 "_law_is_right" ["_law_e", "_law_place", "_law_base"] (spRight K)) : Gd.FnG P w K mg base CX0 3 f fd ["_law_odd", "_law_more"] (spTwos K) := by
  refine Gd.fnG_of F sc__law_twos_right (fun vs H Q E h => ?_) (fun cdv A outer s H vs Q E gA hr h => ?_)
  · obtain ⟨v1, v2, d1, d2, rfl, _⟩ := h
    rfl
  · obtain ⟨v1, v2, d1, d2, rfl, m1, m2, k⟩ := h
    have nd := sc__law_twos_right.nd
    have M1 := m_ok m1.2
    have M2 := m_ok m2.2
    have CR := Gd.call_repr (X := (cxOf CX0 P w K mg base ["_law_odd", "_law_more", "_law_some", "_law_e", "_law_place", "_law_base"] "_law_twos_right" (defScope s__law_twos_right) f cdv A outer s H E).nox) gA hr.units
    refine ⟨_, PSs.nox (pss_cons (ps_set (i := 2) nd rfl (Or.inl rfl) (pe_lst (pa_cons (pe_tup (pa_cons (ErX.pe_err2 T.eC hr rfl (pa_cons (pv 0) (pa_cons (pv 1) pa_nil))) (pa_cons pe_int (pa_cons pe_int pa_nil))))
        (pa_cons (pe_tup (pa_cons (ErX.pe_err2k T.eC hr rfl (pv 1) (pv 0)) (pa_cons pe_int (pa_cons pe_int pa_nil)))) pa_nil))))
      (pss_cons (ps_for PassesOwn.never rfl (pi_list (pe_op op_cat (pv 2) (pe_lst (pa_cons (pe_tup (pa_cons (ErX.pe_err2 T.eB hr rfl (pa_cons (pv 0) (pa_cons (pv 1) pa_nil))) (pa_cons pe_int (pa_cons pe_int pa_nil))))
        (pa_cons (pe_tup (pa_cons (ErX.pe_err2k T.eB hr rfl (pv 1) (pv 0)) (pa_cons pe_int (pa_cons pe_int pa_nil)))) pa_nil)))))
        (pg_tup rfl (pgs_cons (pg_name (i := 3) nd rfl (Or.inl rfl)) (pgs_cons (pg_name (i := 4) nd rfl (Or.inl rfl)) (pgs_cons (pg_name (i := 5) nd rfl (Or.inl rfl)) pgs_nil))))
        (pss_one (ps_if (PW.pt (pw_or (pt_not (pt_val (pe_f OR hr rfl pass0 (pa_cons (pv 3) (pa_cons (pv 4) (pa_cons (pv 5) pa_nil)))))) (pw_or1 (pt_cmpR (op_neD hr.units)
            (pe_lst (pa_cons (pe_callB CR (by rfl) T.rp (by decide +kernel) (pa_cons (ErX.pe_efld (pv 3)) pa_nil)) (pa_cons (pe_callB CR (by rfl) T.rp (by decide +kernel) (pa_cons (ErX.pe_efld (pv 3)) pa_nil)) pa_nil)))
            (pe_lst (pa_cons (pe_callB CR (by rfl) T.rp (by decide +kernel) (pa_cons (pv 0) pa_nil)) (pa_cons (pe_callB CR (by rfl) T.rp (by decide +kernel) (pa_cons (pv 1) pa_nil)) pa_nil))) (nomark _))))) (pss_one (ps_ret pe_bl)) pss_nil)))
      (pss_one (ps_ret (pe_and (pe_f OR hr rfl pass0 (pa_cons (ErX.pe_err0 _root_.PySem.F.excBase_ValueError T.eN.1 (T.gl 24 (by decide)) T.eN.2 rfl) (pa_cons pe_int (pa_cons pe_int pa_nil))))
        (pe_one (pe_f OR hr rfl pass0 (pa_cons (ErX.pe_err0 _root_.PySem.F.excBase_RuntimeError T.eT.1 (T.gl 25 (by decide)) T.eT.2 rfl) (pa_cons pe_int (pa_cons pe_int pa_nil)))))))))), ?_⟩
    refine ⟨_, rfl, _, rfl, v1, v2, rfl, rfl, fun a0 x0 ha0 hx0 hn0 => ⟨sz 3 (by decide), fun t0 ht0 => ?_⟩⟩
    obtain ⟨s0, e0⟩ := e2_at (p := 22) (b := 0) ha0 hx0 hn0 ht0
    have g0 : upd (upd (upd H x0 (.xd [("key", v2), ("mode", v1)])) a0 (ErX.erO a0 (Cl K 22) (some x0))) t0 (.tup [.ref a0, .int 22, .int 0]) t0 = some (.tup [.ref a0, .int 22, .int 0]) := upd_same
    generalize upd (upd (upd H x0 (.xd [("key", v2), ("mode", v1)])) a0 (ErX.erO a0 (Cl K 22) (some x0))) t0 (.tup [.ref a0, .int 22, .int 0]) = G0 at s0 e0 g0 ⊢
    refine ⟨_, rfl, _, rfl, v1, v2, rfl, rfl, fun a1 x1 ha1 hx1 hn1 => ⟨sz 3 (by decide), fun t1 ht1 => ?_⟩⟩
    obtain ⟨s1, e1⟩ := e2_at (p := 22) (b := 0) ha1 hx1 hn1 ht1
    have g1 : upd (upd (upd G0 x1 (.xd [("key", v2), ("mode", v1)])) a1 (ErX.erO a1 (Cl K 22) (some x1))) t1 (.tup [.ref a1, .int 22, .int 0]) t1 = some (.tup [.ref a1, .int 22, .int 0]) := upd_same
    generalize upd (upd (upd G0 x1 (.xd [("key", v2), ("mode", v1)])) a1 (ErX.erO a1 (Cl K 22) (some x1))) t1 (.tup [.ref a1, .int 22, .int 0]) = G1 at s1 e1 g1 ⊢
    refine ⟨sz 2 (by decide), fun l0 h0 => ?_⟩
    have sl := same_new (o := .lst [.ref t0, .ref t1]) h0
    have gl : upd G1 l0 (.lst [.ref t0, .ref t1]) l0 = some (.lst [.ref t0, .ref t1]) := upd_same
    generalize upd G1 l0 (.lst [.ref t0, .ref t1]) = L0 at sl gl ⊢
    refine ⟨_, rfl, _, rfl, _, rfl, v1, v2, rfl, rfl, fun a2 x2 ha2 hx2 hn2 => ⟨sz 3 (by decide), fun t2 ht2 => ?_⟩⟩
    obtain ⟨s2, e2⟩ := e2_at (p := 23) (b := 4) ha2 hx2 hn2 ht2
    have g2 : upd (upd (upd L0 x2 (.xd [("key", v2), ("mode", v1)])) a2 (ErX.erO a2 (Cl K 23) (some x2))) t2 (.tup [.ref a2, .int 23, .int 4]) t2 = some (.tup [.ref a2, .int 23, .int 4]) := upd_same
    generalize upd (upd (upd L0 x2 (.xd [("key", v2), ("mode", v1)])) a2 (ErX.erO a2 (Cl K 23) (some x2))) t2 (.tup [.ref a2, .int 23, .int 4]) = G2 at s2 e2 g2 ⊢
    refine ⟨_, rfl, _, rfl, v1, v2, rfl, rfl, fun a3 x3 ha3 hx3 hn3 => ⟨sz 3 (by decide), fun t3 ht3 => ?_⟩⟩
    obtain ⟨s3, e3⟩ := e2_at (p := 23) (b := 4) ha3 hx3 hn3 ht3
    have g3 : upd (upd (upd G2 x3 (.xd [("key", v2), ("mode", v1)])) a3 (ErX.erO a3 (Cl K 23) (some x3))) t3 (.tup [.ref a3, .int 23, .int 4]) t3 = some (.tup [.ref a3, .int 23, .int 4]) := upd_same
    generalize upd (upd (upd G2 x3 (.xd [("key", v2), ("mode", v1)])) a3 (ErX.erO a3 (Cl K 23) (some x3))) t3 (.tup [.ref a3, .int 23, .int 4]) = G3 at s3 e3 g3 ⊢
    refine ⟨sz 2 (by decide), fun l1 h1 => ?_⟩
    have sm := same_new (o := .lst [.ref t2, .ref t3]) h1
    have gm : upd G3 l1 (.lst [.ref t2, .ref t3]) l1 = some (.lst [.ref t2, .ref t3]) := upd_same
    generalize upd G3 l1 (.lst [.ref t2, .ref t3]) = L1 at sm gm ⊢
    refine ⟨l0, l1, _, _, rfl, rfl, sm _ _ (s3 _ _ (s2 _ _ gl)), gm, sz _ (by simp), fun l h => ?_⟩
    have sn := same_new (o := .lst ([.ref t0, .ref t1] ++ [.ref t2, .ref t3])) h
    have gn : upd L1 l (.lst ([.ref t0, .ref t1] ++ [.ref t2, .ref t3])) l = some (.lst [.ref t0, .ref t1, .ref t2, .ref t3]) := upd_same
    generalize upd L1 l (.lst ([.ref t0, .ref t1] ++ [.ref t2, .ref t3])) = N at sn gn ⊢
    have sA : Same H N := ((((s0.trans s1).trans sl).trans (s2.trans s3)).trans sm).trans sn
    have it : ∀ (j : Nat) (x : V), [V.ref t0, V.ref t1, V.ref t2, V.ref t3][j]? = some x → ∃ (t a : Addr) (i : Nat), x = .ref t ∧ i < 26 ∧ (i = 22 ∨ i = 23) ∧ N t = some (.tup [.ref a, .int i, .int (erB.getD i 0 : Nat)]) ∧ ErX.ErrV N a (Cl K i) [("key", v2), ("mode", v1)] := fun j x hx => by
      match j, hx with
      | 0, hx => cases hx; exact ⟨t0, a0, 22, rfl, by decide, .inl rfl, sn _ _ (sm _ _ (s3 _ _ (s2 _ _ (sl _ _ (s1 _ _ g0))))), (((((e0.same s1).same sl).same s2).same s3).same sm).same sn⟩
      | 1, hx => cases hx; exact ⟨t1, a1, 22, rfl, by decide, .inl rfl, sn _ _ (sm _ _ (s3 _ _ (s2 _ _ (sl _ _ g1)))), ((((e1.same sl).same s2).same s3).same sm).same sn⟩
      | 2, hx => cases hx; exact ⟨t2, a2, 23, rfl, by decide, .inr rfl, sn _ _ (sm _ _ (s3 _ _ g2)), ((e2.same s3).same sm).same sn⟩
      | 3, hx => cases hx; exact ⟨t3, a3, 23, rfl, by decide, .inr rfl, sn _ _ (sm _ _ g3), (e3.same sm).same sn⟩
    refine ⟨l, rfl, ⟨_, .inl (.inl gn)⟩, for_list (K := K) (a := l) (xs := [.ref t0, .ref t1, .ref t2, .ref t3]) (fun j σ G => ∃ x y z, σ = [some v1, some v2, some (.ref l0), x, y, z] ∧ Same N G)
      ⟨none, none, none, rfl, Same.refl N⟩ (fun j σ G _ ⟨_, _, _, _, q⟩ => .inl (.inl (q _ _ gn))) ?_ ?_⟩
    · rintro j y σ G hj ⟨x0, x1, x2, rfl, sG⟩
      obtain ⟨t, a, i, rfl, hi, hi2, ht, hE⟩ := it j y hj
      refine ⟨t, _, rfl, .inl (.inl (sG _ _ ht)), rfl, _, _, rfl, _, _, rfl, _, _, rfl, rfl, ?_⟩
      have hE1 := hE.same sG
      refine ⟨_, rfl, _, rfl, _, rfl, a, i, _, rfl, hE1, hi, fun G1 q1 => ⟨true, rfl, ?_⟩⟩
      refine ifF rfl ?_
      have sB : Same H G1 := sA.trans (sG.trans q1)
      have hE2 := hE1.same q1
      have hx := (T.xf i hi).1
      have c1 := (m1.same sB).1
      have c2 := (m2.same sB).1
      refine ⟨_, rfl, a, _, _, v1, rfl, hE2, lk_mode v1 v2, hx, (T.nom i hi2).1, v1, d1, rfl, c1, M1.sh, M1.ln, M1.dp, _, rfl, a, _, _, v2, rfl, hE2, lk_key v1 v2, hx, (T.nom i hi2).2, v2, d2, rfl, c2, M2.sh, M2.ln, M2.dp, sz 2 (by decide), fun p hp => ?_⟩
      have s5 := same_new (o := .lst [.str d1.shown, .str d2.shown]) hp
      refine ⟨_, rfl, v1, d1, rfl, vd_same s5 c1, M1.sh, M1.ln, M1.dp, _, rfl, v2, d2, rfl, vd_same s5 c2, M2.sh, M2.ln, M2.dp, sz 2 (by decide), fun q hq => ?_⟩
      have s6 := same_new (o := .lst [.str d1.shown, .str d2.shown]) hq
      refine ⟨.list [.str d1.shown, .str d2.shown], .list [.str d1.shown, .str d2.shown], .lst (.inl (.inl (s6 _ _ upd_same))) (.cons (.str _) (.cons (.str _) .nil)), .lst (.inl (.inl upd_same)) (.cons (.str _) (.cons (.str _) .nil)), two_sh M1 M2, two_sh M1 M2, _, rfl, ?_⟩
      rw [SeqAt.eqv_refl _ (SeqAt.canLay_of_shaped (two_sh M1 M2))]
      refine ifF rfl ?_
      exact ⟨_, _, _, rfl, ((sG.trans q1).trans s5).trans s6⟩
    · rintro σ G ⟨x0, x1, x2, rfl, sG⟩
      intro a4 h4
      refine ⟨a4, 24, [], rfl, .inl ⟨rfl, upd_same⟩, by decide, fun G4 q4 => ⟨true, rfl, ?_⟩⟩
      refine ifT rfl ?_
      intro a5 h5
      refine ⟨a5, 25, [], rfl, .inl ⟨rfl, upd_same⟩, by decide, fun G5 q5 => ?_⟩
      exact k G5 ((sA.trans sG).trans ((same_new h4).trans (q4.trans ((same_new h5).trans q5))))
end
end K0

namespace K0
open PySem PySem.Spec PyProof.Rows L2
/-! ### the law -/
def basesV : List V := [.int 0, .int 0, .int 0, .int 0, .int 0, .int 0, .int 0, .int 0, .int 0, .int 1, .int 1, .int 1, .int 2, .int 2, .int 2, .int 3, .int 3, .int 3, .int 3, .int 4, .int 4, .int 4]
theorem bases_at (j : Nat) (h : j < 22) : basesV[j]? = some (.int (erB.getD j 0 : Nat)) :=
  (show ∀ j : Fin 22, basesV[j.val]? = some (.int (erB.getD j.val 0 : Nat)) by decide +kernel) ⟨j, h⟩
mutual
theorem dpb {K : PySem.W.Frag} {H H' : Hp} {d : Addr} {kvs : List (Key × V)} (b : But d H H') (hd : H d = some (.dK kvs)) : ∀ (pd : PyData) (v : V), Dp K H v pd → Dp K H' v pd
  | .none, _, h => by cases h; exact .non
  | .bool _, _, h => by cases h; exact .bl _
  | .int _, _, h => by cases h; exact .int _
  | .str _, _, h => by cases h; exact .str _
  | .list ds, _, h => by
    cases h with
    | lst hs ha => exact .lst (seq_but b hd hs) (dpbAll b hd ds _ ha)
  | .tuple ds, _, h => by
    cases h with
    | tup hs ha =>
      refine .tup ?_ (dpbAll b hd ds _ ha)
      rcases hs with (q | ⟨o, q⟩) | q
      · exact .inl (.inl (b _ _ q (ne_of q hd (by intro z; cases z))))
      · exact .inl (.inr ⟨o, b _ _ q (ne_of q hd (by intro z; cases z))⟩)
      · exact .inr q
  | .dict _, _, h => by cases h
theorem dpbAll {K : PySem.W.Frag} {H H' : Hp} {d : Addr} {kvs : List (Key × V)} (b : But d H H') (hd : H d = some (.dK kvs)) : ∀ (ds : List PyData) (vs : List V), DpAll K H vs ds → DpAll K H' vs ds
  | [], _, h => by cases h; exact .nil
  | e :: ds, _, h => by
    cases h with
    | cons h1 h2 => exact .cons (dpb b hd e _ h1) (dpbAll b hd ds _ h2)
end
theorem vd_but {K : PySem.W.Frag} {H H' : Hp} {d : Addr} {c : Int} {v : V} {pd : PyData} (b : But d H H') (hP : PenAt H d c) (h : Gd.Vd K H v pd) : Gd.Vd K H' v pd := by
  obtain ⟨l, ns, n, r, hd, _⟩ := hP
  rcases h with h | ⟨a, e, h, ed⟩ | ⟨a, x, i, e, h, ed⟩
  · exact .inl (dpb b hd pd v h)
  · exact .inr (.inl ⟨a, e, b _ _ h (ne_of h hd (by intro z; cases z)), ed⟩)
  · exact .inr (.inr ⟨a, x, i, e, b _ _ h (ne_of h hd (by intro z; cases z)), ed⟩)
def spLaw (K : PySem.W.Frag) : Sp := fun vs H Q _ => ∃ (a : Addr) (ns : List Int), vs = [.ref a] ∧ SqL K H a (ns.map V.int) ∧ ∀ H', Q (.bl true) H'
theorem sh6 (a b c d e f : Int) : SeqAt.shaped (.list [.int a, .int b, .int c, .int d, .int e, .int f]) = true := PySem.W.ke_shaped_ints [a, b, c, d, e, f]
theorem sh3 (a b c : Int) : SeqAt.shaped (.list [.int a, .int b, .int c]) = true := PySem.W.ke_shaped_ints [a, b, c]
section
variable {P : Program} {w : World} {K : PySem.W.Frag} {mg : Str → Option Value} {base : Heap}
theorem ok_law {f : Addr} {fd : FuncData} (F : FunD K "law" "law" (defArgs s_law) (defBody s_law) (defScope s_law) [] [] f fd) (T : Tx P K mg)
    (OP : OkF P w K mg base CX0 1 "_law_pen" ["_law_script"] (spPen K)) (OA : OkF P w K mg base CX0 3 "_law_any_value" ["_law_pen_here"] (spAny K)) (OO : OkF P w K mg base CX0 2 "_law_ones" ["_law_odd"] (spOnes K))
    (OR : OkF P w K mg base CX0 2 "_law_is_right" ["_law_e", "_law_place", "_law_base"] (spRight K)) (OS : OkF P w K mg base CX0 1 "_law_shown" ["_law_e", "_law_k"] (spShown K)) (OW : OkF P w K mg base CX0 1 "_law_power" ["_law_size"] spPower)
    {fT : Addr} {fdT : FuncData} (OT : Gd.FnG P w K mg base CX0 3 fT fdT ["_law_odd", "_law_more"] (spTwos K)) (gT : mg "_law_twos_right" = some (.ref fT)) (kT : PySem.W.keepIn K (.ref fT) = true) (bT : Binds K fdT ["_law_odd", "_law_more"] []) :
    Gd.FnG P w K mg base CX0 4 f fd ["_law_script"] (spLaw K) := by
  refine Gd.fnG_of F sc_law (fun vs H Q E h => ?_) (fun cdv A outer s H vs Q E gA hr h => ?_)
  · obtain ⟨a, ns, rfl, _⟩ := h
    rfl
  · obtain ⟨a, ns, rfl, hS, k⟩ := h
    have nd := sc_law.nd
    have h1 := hr.mono (show 1 ≤ 3 by decide)
    have h2 := hr.mono (show 2 ≤ 3 by decide)
    obtain ⟨tMODES, qMODES⟩ := T.cs ("MODES", 6) (List.mem_of_getElem? (i := 0) rfl)
    obtain ⟨tKEYS, qKEYS⟩ := T.cs ("KEYS", 6) (List.mem_of_getElem? (i := 1) rfl)
    obtain ⟨tITEMS, qITEMS⟩ := T.cs ("ITEMS", 6) (List.mem_of_getElem? (i := 2) rfl)
    obtain ⟨tDEPTH, qDEPTH⟩ := T.cs ("DEPTH", 2) (List.mem_of_getElem? (i := 3) rfl)
    obtain ⟨tNUMBER, qNUMBER⟩ := T.cs ("NUMBER", 10 ^ 9) (List.mem_of_getElem? (i := 4) rfl)
    obtain ⟨tBOOKS, qBOOKS⟩ := T.cs ("BOOKS", 3) (List.mem_of_getElem? (i := 5) rfl)
    obtain ⟨tSTATES, qSTATES⟩ := T.cs ("STATES", 36) (List.mem_of_getElem? (i := 6) rfl)
    obtain ⟨tSIZE, qSIZE⟩ := T.cs ("SIZE", 10 ^ 4000) (List.mem_of_getElem? (i := 7) rfl)
    obtain ⟨tPATTERN, qPATTERN⟩ := T.cs ("PATTERN", 8) (List.mem_of_getElem? (i := 8) rfl)
    obtain ⟨tGOAL, qGOAL⟩ := T.cs ("GOAL", 200) (List.mem_of_getElem? (i := 9) rfl)
    have CR := Gd.call_repr (X := (cxOf CX0 P w K mg base ["_law_script", "_law_pen_here", "_law_bases", "_law_lap", "_law_odd", "_law_more", "_law_answer", "_law_k", "_law_e"] "law" (defScope s_law) f cdv A outer s H E).nox) gA hr.units

    refine ⟨_, PSs.nox (pss_cons (ps_set (i := 1) nd rfl (Or.inl rfl) (pe_f OP h1 rfl pass0 (pa_cons (pv 0) pa_nil)))
      (pss_cons (ps_set (i := 2) nd rfl (Or.inl rfl) (pe_lst (pa_cons pe_int (pa_cons pe_int (pa_cons pe_int (pa_cons pe_int (pa_cons pe_int (pa_cons pe_int (pa_cons pe_int (pa_cons pe_int (pa_cons pe_int (pa_cons pe_int (pa_cons pe_int (pa_cons pe_int (pa_cons pe_int (pa_cons pe_int (pa_cons pe_int (pa_cons pe_int (pa_cons pe_int (pa_cons pe_int (pa_cons pe_int (pa_cons pe_int (pa_cons pe_int (pa_cons pe_int pa_nil))))))))))))))))))))))))
      (pss_cons (ps_for PassesOwn.never rfl (pi_range1 rfl T.rg (pa_cons pe_int pa_nil)) (pg_name (i := 3) nd rfl (Or.inl rfl))
      (pss_cons (ps_par (i := 4) (j := 5) rfl nd rfl rfl (by decide) rfl rfl (pa_cons (pe_f OA hr rfl pass0 (pa_cons (pv 1) pa_nil)) (pa_cons (pe_f OA hr rfl pass0 (pa_cons (pv 1) pa_nil)) pa_nil)) (by rfl))
      (pss_cons (ps_set (i := 6) nd rfl (Or.inl rfl) (pe_f OO h2 rfl pass0 (pa_cons (pv 4) pa_nil)))
      (pss_cons (ps_for PassesOwn.never rfl (pi_range1 rfl T.rg (pa_cons (pe_callB call_len_seq (by rfl) T.bi.len PySem.boot_len (pa_cons (pv 6) pa_nil)) pa_nil)) (pg_name (i := 7) nd rfl (Or.inl rfl))
      (pss_one (ps_for PassesOwn.never rfl (pi_tup (pe_ix ix_list (pv 6) (pv 7) (fun _ _ => rfl))) (pg_name (i := 8) nd rfl (Or.inl rfl))
      (pss_cons (ps_if (pt_not (pt_val (pe_f OR h2 rfl pass0 (pa_cons (pv 8) (pa_cons (pv 7) (pa_cons (pe_ix ix_list (pv 2) (pv 7) (fun _ _ => rfl)) pa_nil)))))) (pss_one (ps_ret pe_bl)) pss_nil)
      (pss_one (ps_if (PW.pt (pw_or (pt_cmpR op_ne (pe_callB CR (by rfl) T.rp (by decide +kernel) (pa_cons (pe_f OS h1 rfl pass0 (pa_cons (pv 8) (pa_cons (pv 7) pa_nil))) pa_nil)) (pe_callB CR (by rfl) T.rp (by decide +kernel) (pa_cons (pv 4) pa_nil)) (nomark _)) (pw_or1 (pt_cmpR (Gd.op_neSelf hr.units) (pe_f OS h1 rfl pass0 (pa_cons (pv 8) (pa_cons (pv 7) pa_nil))) (pv 4) (nomark _))))) (pss_one (ps_ret pe_bl)) pss_nil))))))
      (pss_one (ps_if (pt_not (pt_val (Gd.pe_callG OT gA hr rfl gT kT bT pass0 (pa_cons (pv 4) (pa_cons (pv 5) pa_nil))))) (pss_one (ps_ret pe_bl)) pss_nil))))))
      (pss_cons (ps_if (pt_cmpR (op_neD hr.units) (pe_lst (pa_cons (pe_glob (v := .int _) rfl qMODES ⟨tMODES, rfl⟩) (pa_cons (pe_glob (v := .int _) rfl qKEYS ⟨tKEYS, rfl⟩) (pa_cons (pe_glob (v := .int _) rfl qITEMS ⟨tITEMS, rfl⟩) (pa_cons (pe_glob (v := .int _) rfl qDEPTH ⟨tDEPTH, rfl⟩) (pa_cons (pe_glob (v := .int _) rfl qNUMBER ⟨tNUMBER, rfl⟩) (pa_cons (pe_glob (v := .int _) rfl qBOOKS ⟨tBOOKS, rfl⟩) pa_nil))))))) (pe_lst (pa_cons pe_int (pa_cons pe_int (pa_cons pe_int (pa_cons pe_int (pa_cons (pe_op op_pow pe_int pe_int) (pa_cons pe_int pa_nil))))))) (nomark _)) (pss_one (ps_ret pe_bl)) pss_nil)
      (pss_one (ps_ret (pe_and (pe_cmpR (op_eqD hr.units) (pe_lst (pa_cons (pe_glob (v := .int _) rfl qSTATES ⟨tSTATES, rfl⟩) (pa_cons (pe_glob (v := .int _) rfl qPATTERN ⟨tPATTERN, rfl⟩) (pa_cons (pe_glob (v := .int _) rfl qGOAL ⟨tGOAL, rfl⟩) pa_nil)))) (pe_lst (pa_cons pe_int (pa_cons pe_int (pa_cons pe_int pa_nil)))) (nomark _)) (pe_one (pe_cmpR op_eq (pe_glob (v := .int _) rfl qSIZE ⟨tSIZE, rfl⟩) (pe_f OW h1 rfl pass0 (pa_cons pe_int pa_nil)) (nomark _)))))))))), ?_⟩
    refine ⟨_, rfl, a, ns, rfl, hS, fun d H1 s1 hd0 hP0 => ?_⟩
    refine ⟨sz 22 (by decide), fun bs hbs => ?_⟩
    have sb := same_new (o := .lst [V.int 0, V.int 0, V.int 0, V.int 0, V.int 0, V.int 0, V.int 0, V.int 0, V.int 0, V.int 1, V.int 1, V.int 1, V.int 2, V.int 2, V.int 2, V.int 3, V.int 3, V.int 3, V.int 3, V.int 4, V.int 4, V.int 4]) hbs
    have gb : upd H1 bs (.lst [V.int 0, V.int 0, V.int 0, V.int 0, V.int 0, V.int 0, V.int 0, V.int 0, V.int 0, V.int 1, V.int 1, V.int 1, V.int 2, V.int 2, V.int 2, V.int 3, V.int 3, V.int 3, V.int 3, V.int 4, V.int 4, V.int 4]) bs = some (.lst basesV) := upd_same
    have hP1 : PenAt (upd H1 bs (.lst [V.int 0, V.int 0, V.int 0, V.int 0, V.int 0, V.int 0, V.int 0, V.int 0, V.int 0, V.int 1, V.int 1, V.int 1, V.int 2, V.int 2, V.int 2, V.int 3, V.int 3, V.int 3, V.int 3, V.int 4, V.int 4, V.int 4])) d 0 := hP0.same sb
    generalize upd H1 bs (.lst [V.int 0, V.int 0, V.int 0, V.int 0, V.int 0, V.int 0, V.int 0, V.int 0, V.int 0, V.int 1, V.int 1, V.int 1, V.int 2, V.int 2, V.int 2, V.int 3, V.int 3, V.int 3, V.int 3, V.int 4, V.int 4, V.int 4]) = G0 at sb gb hP1 ⊢
    refine ⟨4, rfl, by decide, by decide, for_range (n := 4) (fun j σ G => ∃ x3 x4 x5 x6 x7 x8, σ = [some (.ref a), some (.ref d), some (.ref bs), x3, x4, x5, x6, x7, x8] ∧ PenAt G d (2 * (j : Int)) ∧ G bs = some (.lst basesV)) ⟨none, none, none, none, none, none, rfl, hP1.mono (by decide), gb⟩ ?_ ?_⟩
    · rintro j σ G hj ⟨x3, x4, x5, x6, x7, x8, rfl, hP, hB⟩
      refine ⟨_, rfl, d, 2 * (j : Int), rfl, hP, by omega, fun v1 pd1 G1 m1 w1 P1 b1 => ?_⟩
      refine ⟨_, rfl, d, 2 * (j : Int) + 1, rfl, P1, by omega, fun v2 pd2 G2 m2 w2 P2 b2 => ?_⟩
      refine ⟨v1, v2, rfl, ?_⟩
      have M1 := m_ok m1
      have vA : MV K G2 v1 pd1 := ⟨vd_but b2 P1 w1, m1⟩
      have vB : MV K G2 v2 pd2 := ⟨w2, m2⟩
      obtain ⟨ld, nsd, nn, rr, hdd, _⟩ := id hP
      obtain ⟨ld1, nsd1, nn1, rr1, hdd1, _⟩ := id P1
      have hB2 : G2 bs = some (.lst basesV) := b2 _ _ (b1 _ _ hB (ne_of hB hdd (by intro z; cases z))) (ne_of hB hdd (by intro z; cases z))
      refine ⟨_, rfl, v1, rfl, fun l ts G3 s3 o3 => ?_⟩
      have hlen : (((ts.map V.ref).length : Int)).toNat = 22 := by rw [List.length_map, o3.len]; rfl
      refine ⟨_, rfl, l, _, rfl, .inl (.inl (.inl o3.at_)), _, rfl, (by omega), (by rw [List.length_map, o3.len]; decide), for_range (n := (((ts.map V.ref).length : Int)).toNat) (fun _ σ G => ∃ y7 y8, σ = [some (.ref a), some (.ref d), some (.ref bs), some (.int (0 + (j : Int))), some v1, some v2, some (.ref l), y7, y8] ∧ Same G3 G) ⟨x7, x8, rfl, Same.refl G3⟩ ?_ ?_⟩
      · rintro i σ G4 hi ⟨y7, y8, rfl, s4⟩
        have hi22 : i < 22 := by omega
        rw [Int.zero_add]
        have hti : i < ts.length := by rw [o3.len]; exact hi22
        obtain ⟨ea, eb, ht, hEa, hEb⟩ := o3.pair i ts[i] (List.getElem?_eq_getElem hti)
        refine ⟨_, rfl, _, rfl, l, _, _, .ref ts[i], rfl, rfl, .inl (.inl (s4 _ _ o3.at_)), atI_nat (by rw [List.getElem?_map, List.getElem?_eq_getElem hti]; rfl), ts[i], rfl, ⟨_, .inl (.inl (s4 _ _ ht))⟩,
          for_tup (K := K) (a := ts[i]) (xs := [.ref ea, .ref eb]) (fun _ σ G => ∃ z8, σ = [some (.ref a), some (.ref d), some (.ref bs), some (.int (0 + (j : Int))), some v1, some v2, some (.ref l), some (.int (i : Int)), z8] ∧ Same G3 G) ⟨y8, rfl, s4⟩ (fun _ σ G _ ⟨_, _, q⟩ => .inl (.inl (q _ _ ht))) ?_ ?_⟩
        · rintro jj y σ G5 hjj ⟨z8, rfl, s5⟩
          obtain ⟨e, rfl, hE⟩ : ∃ e, y = .ref e ∧ ErX.ErrV G3 e (Cl K i) [(erF.getD i "", v1)] := by
            match jj, hjj with
            | 0, hjj => cases hjj; exact ⟨ea, rfl, hEa⟩
            | 1, hjj => cases hjj; exact ⟨eb, rfl, hEb⟩
          refine ⟨_, rfl, _, rfl, _, rfl, _, rfl, bs, _, _, _, rfl, rfl, .inl (.inl (s5 _ _ (s3 _ _ hB2))), atI_nat (bases_at i hi22), e, i, _, rfl, hE.same s5, by omega, fun G6 s6 => ⟨true, rfl, ?_⟩⟩
          refine ifF rfl ?_
          have t6 := s5.trans s6
          refine ⟨_, rfl, _, rfl, e, i, v1, rfl, hE.same t6, hi22, fun G7 s7 => ?_⟩
          have t7 := t6.trans s7
          have c7 := vA.same (s3.trans t7)
          refine ⟨v1, _, rfl, c7.1, M1.sh, M1.ln, M1.dp, _, rfl, v1, _, rfl, c7.1, M1.sh, M1.ln, M1.dp, rfl, _, rfl, ?_⟩
          refine iteNS rfl ?_
          refine ⟨_, rfl, _, rfl, e, i, v1, rfl, hE.same t7, hi22, fun G8 s8 => ?_⟩
          have t8 := t7.trans s8
          refine ⟨_, rfl, _, rfl, (vA.same (s3.trans t8)).1, M1.eq, _, rfl, ?_⟩
          refine ifF rfl ?_
          exact ⟨_, rfl, t8⟩
        · rintro σ G5 ⟨z8, rfl, s5⟩
          exact ⟨_, _, rfl, s5⟩
      · rintro σ G4 ⟨y7, y8, rfl, s4⟩
        have t4 := s3.trans s4
        refine ⟨_, rfl, _, rfl, v1, v2, _, _, rfl, vA.same t4, vB.same t4, fun G5 s5 => ⟨true, rfl, ?_⟩⟩
        refine ifF rfl ?_
        have t5 := t4.trans s5
        exact ⟨_, _, _, _, _, _, rfl, (P2.same t5).mono (by omega), t5 _ _ hB2⟩
    · rintro σ G ⟨x3, x4, x5, x6, x7, x8, rfl, hP, hB⟩
      refine ⟨sz 6 (by decide), fun p hp => ?_⟩
      refine ⟨_, _, rfl, rfl, ⟨by decide, by decide, by decide⟩, sz 6 (by decide), fun q hq => ?_⟩
      refine ⟨.list [.int 6, .int 6, .int 6, .int 2, .int (10 ^ 9), .int 3], .list [.int 6, .int 6, .int 6, .int 2, .int (10 ^ 9), .int 3], .lst (.inl (.inl (same_new hq _ _ upd_same))) (dp_ints [6, 6, 6, 2, 10 ^ 9, 3]), .lst (.inl (.inl upd_same)) (dp_ints [6, 6, 6, 2, 10 ^ 9, 3]), sh6 _ _ _ _ _ _, sh6 _ _ _ _ _ _, _, rfl, ?_⟩
      rw [SeqAt.eqv_refl _ (SeqAt.canLay_of_shaped (sh6 _ _ _ _ _ _))]
      refine ifF rfl ?_
      refine ⟨sz 3 (by decide), fun p2 hp2 => ⟨sz 3 (by decide), fun q2 hq2 => ?_⟩⟩
      refine ⟨.list [.int 36, .int 8, .int 200], .list [.int 36, .int 8, .int 200], .lst (.inl (.inl (same_new hq2 _ _ upd_same))) (dp_ints [36, 8, 200]), .lst (.inl (.inl upd_same)) (dp_ints [36, 8, 200]), sh3 _ _ _, sh3 _ _ _, _, rfl, ?_⟩
      rw [SeqAt.eqv_refl _ (SeqAt.canLay_of_shaped (sh3 _ _ _))]
      refine ifT rfl ?_
      refine ⟨4000, rfl, by decide, rfl, ?_⟩
      rw [decide_eq_true rfl]
      exact k _
end
end K0

namespace K0
open PySem PySem.Spec PyProof.Rows L2
abbrev PW : Program := PySem.Challenge.pw_onestroke_k00_errors_and_limits
theorem top_super : (PW.main.scope.names.lookup ("super" : Str)).isSome = false := by decide +kernel
section
variable {K : PySem.W.Frag} {h : Heap} {mg : Str → Option Value}
theorem ck_fa (c : Hk.SaysX sheet K) (i : Nat) {f : He.Fa} (e : fa[i]? = some f := by rfl) : f.ok K = true := List.all_eq_true.mp (He.ba c.ck).1 f (List.mem_of_getElem? e)
theorem ck_E (c : Hk.SaysX sheet K) : ckE K = true := (He.ba (He.ba c.ck).2).1
theorem ck_N (c : Hk.SaysX sheet K) : ckN K = true := (He.ba (He.ba (He.ba c.ck).2).2).1
theorem ck_X (c : Hk.SaysX sheet K) : ckX K = true := (He.ba (He.ba (He.ba (He.ba c.ck).2).2).2).1
theorem ck_I (c : Hk.SaysX sheet K) : ckI K = true := (He.ba (He.ba (He.ba (He.ba (He.ba c.ck).2).2).2).2).1
theorem ck_F (c : Hk.SaysX sheet K) : ckF K = true := (He.ba (He.ba (He.ba (He.ba (He.ba c.ck).2).2).2).2).2
theorem range_all {n : Nat} {q : Nat → Bool} (h : (List.range n).all q = true) {i : Nat} (hi : i < n) : q i = true := List.all_eq_true.mp h i (List.mem_range.mpr hi)
theorem xf_of (c : Hk.SaysX sheet K) (i : Nat) (hi : i < 26) : L2.XfC K (Cl K i) ∧ L2.ExcC K (Cl K i) ∧ (PySem.W.clsIn K (Cl K i)).isSome = true := by
  have hl : i < erN.length := hi
  have e : erN.getD i "" = erN[i] := by rw [List.getD_eq_getElem?_getD, List.getElem?_eq_getElem hl]; rfl
  unfold Cl
  rw [e]
  exact Hk.exc_of (List.all_eq_true.mp (ck_X c) _ (List.getElem_mem hl))

theorem ec_0 (X : K.In h) (G : h.Ns mainGlobals mg) (c : Hk.SaysX sheet K) (gs : mg "super" = none) : ErX.ErrC PW K mg "ValueError" "ValueError.__new__" "ValueError.__init__" bmV "InvalidWords" (Cl K 0) (He.ma K (Cl K 0) "__init__") :=
  Hk.err_of _root_.PySem.F.excBase_ValueError _root_.PySem.F.store_ValueError PySem.W.kxs_ValueError X G (show Hk.errB K "ValueError" "ValueError.__new__" "ValueError.__init__" bmV "InvalidWords" = true from (He.ba (ck_E c)).1) (xf_of c 0 (by decide)).1 gs top_super
theorem ef_0 (c : Hk.SaysX sheet K) : ErX.Fn1 PW K (Cl K 0) (He.ma K (Cl K 0) "__init__") "value" := by
  obtain ⟨oc, od, osl, kV, doc, pm, an, cda, ct, cc, ccl, cdd, vs, ccs, file, tf, cl, cld, csl, h1, h2, h3, h4, h5, h6⟩ := c.ini_ 0
  exact ⟨oc, od, osl, _, kV, doc, pm, an, cda, ct, cc, _, _, _, _, _, _, _, _, _, _, _, ccl, cdd, vs, ccs, file, tf, cl, cld, csl, h1, h2, h3, h4, by rw [← h5]; exact beq_self_eq_true _, rfl, h6⟩
theorem ec_1 (X : K.In h) (G : h.Ns mainGlobals mg) (c : Hk.SaysX sheet K) (gs : mg "super" = none) : ErX.ErrC PW K mg "ValueError" "ValueError.__new__" "ValueError.__init__" bmV "InvalidItem" (Cl K 1) (He.ma K (Cl K 1) "__init__") :=
  Hk.err_of _root_.PySem.F.excBase_ValueError _root_.PySem.F.store_ValueError PySem.W.kxs_ValueError X G (show Hk.errB K "ValueError" "ValueError.__new__" "ValueError.__init__" bmV "InvalidItem" = true from (He.ba ((He.ba (ck_E c)).2)).1) (xf_of c 1 (by decide)).1 gs top_super
theorem ef_1 (c : Hk.SaysX sheet K) : ErX.Fn1 PW K (Cl K 1) (He.ma K (Cl K 1) "__init__") "field" := by
  obtain ⟨oc, od, osl, kV, doc, pm, an, cda, ct, cc, ccl, cdd, vs, ccs, file, tf, cl, cld, csl, h1, h2, h3, h4, h5, h6⟩ := c.ini_ 1
  exact ⟨oc, od, osl, _, kV, doc, pm, an, cda, ct, cc, _, _, _, _, _, _, _, _, _, _, _, ccl, cdd, vs, ccs, file, tf, cl, cld, csl, h1, h2, h3, h4, by rw [← h5]; exact beq_self_eq_true _, rfl, h6⟩
theorem ec_2 (X : K.In h) (G : h.Ns mainGlobals mg) (c : Hk.SaysX sheet K) (gs : mg "super" = none) : ErX.ErrC PW K mg "ValueError" "ValueError.__new__" "ValueError.__init__" bmV "InvalidText" (Cl K 2) (He.ma K (Cl K 2) "__init__") :=
  Hk.err_of _root_.PySem.F.excBase_ValueError _root_.PySem.F.store_ValueError PySem.W.kxs_ValueError X G (show Hk.errB K "ValueError" "ValueError.__new__" "ValueError.__init__" bmV "InvalidText" = true from (He.ba ((He.ba ((He.ba (ck_E c)).2)).2)).1) (xf_of c 2 (by decide)).1 gs top_super
theorem ef_2 (c : Hk.SaysX sheet K) : ErX.Fn1 PW K (Cl K 2) (He.ma K (Cl K 2) "__init__") "index" := by
  obtain ⟨oc, od, osl, kV, doc, pm, an, cda, ct, cc, ccl, cdd, vs, ccs, file, tf, cl, cld, csl, h1, h2, h3, h4, h5, h6⟩ := c.ini_ 2
  exact ⟨oc, od, osl, _, kV, doc, pm, an, cda, ct, cc, _, _, _, _, _, _, _, _, _, _, _, ccl, cdd, vs, ccs, file, tf, cl, cld, csl, h1, h2, h3, h4, by rw [← h5]; exact beq_self_eq_true _, rfl, h6⟩
theorem ec_3 (X : K.In h) (G : h.Ns mainGlobals mg) (c : Hk.SaysX sheet K) (gs : mg "super" = none) : ErX.ErrC PW K mg "ValueError" "ValueError.__new__" "ValueError.__init__" bmV "InvalidMode" (Cl K 3) (He.ma K (Cl K 3) "__init__") :=
  Hk.err_of _root_.PySem.F.excBase_ValueError _root_.PySem.F.store_ValueError PySem.W.kxs_ValueError X G (show Hk.errB K "ValueError" "ValueError.__new__" "ValueError.__init__" bmV "InvalidMode" = true from (He.ba ((He.ba ((He.ba ((He.ba (ck_E c)).2)).2)).2)).1) (xf_of c 3 (by decide)).1 gs top_super
theorem ef_3 (c : Hk.SaysX sheet K) : ErX.Fn1 PW K (Cl K 3) (He.ma K (Cl K 3) "__init__") "value" := by
  obtain ⟨oc, od, osl, kV, doc, pm, an, cda, ct, cc, ccl, cdd, vs, ccs, file, tf, cl, cld, csl, h1, h2, h3, h4, h5, h6⟩ := c.ini_ 3
  exact ⟨oc, od, osl, _, kV, doc, pm, an, cda, ct, cc, _, _, _, _, _, _, _, _, _, _, _, ccl, cdd, vs, ccs, file, tf, cl, cld, csl, h1, h2, h3, h4, by rw [← h5]; exact beq_self_eq_true _, rfl, h6⟩
theorem ec_4 (X : K.In h) (G : h.Ns mainGlobals mg) (c : Hk.SaysX sheet K) (gs : mg "super" = none) : ErX.ErrC PW K mg "ValueError" "ValueError.__new__" "ValueError.__init__" bmV "InvalidStroke" (Cl K 4) (He.ma K (Cl K 4) "__init__") :=
  Hk.err_of _root_.PySem.F.excBase_ValueError _root_.PySem.F.store_ValueError PySem.W.kxs_ValueError X G (show Hk.errB K "ValueError" "ValueError.__new__" "ValueError.__init__" bmV "InvalidStroke" = true from (He.ba ((He.ba ((He.ba ((He.ba ((He.ba (ck_E c)).2)).2)).2)).2)).1) (xf_of c 4 (by decide)).1 gs top_super
theorem ef_4 (c : Hk.SaysX sheet K) : ErX.Fn1 PW K (Cl K 4) (He.ma K (Cl K 4) "__init__") "value" := by
  obtain ⟨oc, od, osl, kV, doc, pm, an, cda, ct, cc, ccl, cdd, vs, ccs, file, tf, cl, cld, csl, h1, h2, h3, h4, h5, h6⟩ := c.ini_ 4
  exact ⟨oc, od, osl, _, kV, doc, pm, an, cda, ct, cc, _, _, _, _, _, _, _, _, _, _, _, ccl, cdd, vs, ccs, file, tf, cl, cld, csl, h1, h2, h3, h4, by rw [← h5]; exact beq_self_eq_true _, rfl, h6⟩
theorem ec_5 (X : K.In h) (G : h.Ns mainGlobals mg) (c : Hk.SaysX sheet K) (gs : mg "super" = none) : ErX.ErrC PW K mg "ValueError" "ValueError.__new__" "ValueError.__init__" bmV "InvalidBodies" (Cl K 5) (He.ma K (Cl K 5) "__init__") :=
  Hk.err_of _root_.PySem.F.excBase_ValueError _root_.PySem.F.store_ValueError PySem.W.kxs_ValueError X G (show Hk.errB K "ValueError" "ValueError.__new__" "ValueError.__init__" bmV "InvalidBodies" = true from (He.ba ((He.ba ((He.ba ((He.ba ((He.ba ((He.ba (ck_E c)).2)).2)).2)).2)).2)).1) (xf_of c 5 (by decide)).1 gs top_super
theorem ef_5 (c : Hk.SaysX sheet K) : ErX.Fn1 PW K (Cl K 5) (He.ma K (Cl K 5) "__init__") "value" := by
  obtain ⟨oc, od, osl, kV, doc, pm, an, cda, ct, cc, ccl, cdd, vs, ccs, file, tf, cl, cld, csl, h1, h2, h3, h4, h5, h6⟩ := c.ini_ 5
  exact ⟨oc, od, osl, _, kV, doc, pm, an, cda, ct, cc, _, _, _, _, _, _, _, _, _, _, _, ccl, cdd, vs, ccs, file, tf, cl, cld, csl, h1, h2, h3, h4, by rw [← h5]; exact beq_self_eq_true _, rfl, h6⟩
theorem ec_6 (X : K.In h) (G : h.Ns mainGlobals mg) (c : Hk.SaysX sheet K) (gs : mg "super" = none) : ErX.ErrC PW K mg "ValueError" "ValueError.__new__" "ValueError.__init__" bmV "InvalidPattern" (Cl K 6) (He.ma K (Cl K 6) "__init__") :=
  Hk.err_of _root_.PySem.F.excBase_ValueError _root_.PySem.F.store_ValueError PySem.W.kxs_ValueError X G (show Hk.errB K "ValueError" "ValueError.__new__" "ValueError.__init__" bmV "InvalidPattern" = true from (He.ba ((He.ba ((He.ba ((He.ba ((He.ba ((He.ba ((He.ba (ck_E c)).2)).2)).2)).2)).2)).2)).1) (xf_of c 6 (by decide)).1 gs top_super
theorem ef_6 (c : Hk.SaysX sheet K) : ErX.Fn1 PW K (Cl K 6) (He.ma K (Cl K 6) "__init__") "value" := by
  obtain ⟨oc, od, osl, kV, doc, pm, an, cda, ct, cc, ccl, cdd, vs, ccs, file, tf, cl, cld, csl, h1, h2, h3, h4, h5, h6⟩ := c.ini_ 6
  exact ⟨oc, od, osl, _, kV, doc, pm, an, cda, ct, cc, _, _, _, _, _, _, _, _, _, _, _, ccl, cdd, vs, ccs, file, tf, cl, cld, csl, h1, h2, h3, h4, by rw [← h5]; exact beq_self_eq_true _, rfl, h6⟩
theorem ec_7 (X : K.In h) (G : h.Ns mainGlobals mg) (c : Hk.SaysX sheet K) (gs : mg "super" = none) : ErX.ErrC PW K mg "ValueError" "ValueError.__new__" "ValueError.__init__" bmV "InvalidPressed" (Cl K 7) (He.ma K (Cl K 7) "__init__") :=
  Hk.err_of _root_.PySem.F.excBase_ValueError _root_.PySem.F.store_ValueError PySem.W.kxs_ValueError X G (show Hk.errB K "ValueError" "ValueError.__new__" "ValueError.__init__" bmV "InvalidPressed" = true from (He.ba ((He.ba ((He.ba ((He.ba ((He.ba ((He.ba ((He.ba ((He.ba (ck_E c)).2)).2)).2)).2)).2)).2)).2)).1) (xf_of c 7 (by decide)).1 gs top_super
theorem ef_7 (c : Hk.SaysX sheet K) : ErX.Fn1 PW K (Cl K 7) (He.ma K (Cl K 7) "__init__") "value" := by
  obtain ⟨oc, od, osl, kV, doc, pm, an, cda, ct, cc, ccl, cdd, vs, ccs, file, tf, cl, cld, csl, h1, h2, h3, h4, h5, h6⟩ := c.ini_ 7
  exact ⟨oc, od, osl, _, kV, doc, pm, an, cda, ct, cc, _, _, _, _, _, _, _, _, _, _, _, ccl, cdd, vs, ccs, file, tf, cl, cld, csl, h1, h2, h3, h4, by rw [← h5]; exact beq_self_eq_true _, rfl, h6⟩
theorem ec_8 (X : K.In h) (G : h.Ns mainGlobals mg) (c : Hk.SaysX sheet K) (gs : mg "super" = none) : ErX.ErrC PW K mg "ValueError" "ValueError.__new__" "ValueError.__init__" bmV "CommandError" (Cl K 8) (He.ma K (Cl K 8) "__init__") :=
  Hk.err_of _root_.PySem.F.excBase_ValueError _root_.PySem.F.store_ValueError PySem.W.kxs_ValueError X G (show Hk.errB K "ValueError" "ValueError.__new__" "ValueError.__init__" bmV "CommandError" = true from (He.ba ((He.ba ((He.ba ((He.ba ((He.ba ((He.ba ((He.ba ((He.ba ((He.ba (ck_E c)).2)).2)).2)).2)).2)).2)).2)).2)).1) (xf_of c 8 (by decide)).1 gs top_super
theorem ef_8 (c : Hk.SaysX sheet K) : ErX.Fn1 PW K (Cl K 8) (He.ma K (Cl K 8) "__init__") "value" := by
  obtain ⟨oc, od, osl, kV, doc, pm, an, cda, ct, cc, ccl, cdd, vs, ccs, file, tf, cl, cld, csl, h1, h2, h3, h4, h5, h6⟩ := c.ini_ 8
  exact ⟨oc, od, osl, _, kV, doc, pm, an, cda, ct, cc, _, _, _, _, _, _, _, _, _, _, _, ccl, cdd, vs, ccs, file, tf, cl, cld, csl, h1, h2, h3, h4, by rw [← h5]; exact beq_self_eq_true _, rfl, h6⟩
theorem ec_9 (X : K.In h) (G : h.Ns mainGlobals mg) (c : Hk.SaysX sheet K) (gs : mg "super" = none) : ErX.ErrC PW K mg "TypeError" "TypeError.__new__" "TypeError.__init__" bmT "NotAnItem" (Cl K 9) (He.ma K (Cl K 9) "__init__") :=
  Hk.err_of _root_.PySem.F.excBase_TypeError _root_.PySem.F.store_TypeError PySem.W.kxs_TypeError X G (show Hk.errB K "TypeError" "TypeError.__new__" "TypeError.__init__" bmT "NotAnItem" = true from (He.ba ((He.ba ((He.ba ((He.ba ((He.ba ((He.ba ((He.ba ((He.ba ((He.ba ((He.ba (ck_E c)).2)).2)).2)).2)).2)).2)).2)).2)).2)).1) (xf_of c 9 (by decide)).1 gs top_super
theorem ef_9 (c : Hk.SaysX sheet K) : ErX.Fn1 PW K (Cl K 9) (He.ma K (Cl K 9) "__init__") "index" := by
  obtain ⟨oc, od, osl, kV, doc, pm, an, cda, ct, cc, ccl, cdd, vs, ccs, file, tf, cl, cld, csl, h1, h2, h3, h4, h5, h6⟩ := c.ini_ 9
  exact ⟨oc, od, osl, _, kV, doc, pm, an, cda, ct, cc, _, _, _, _, _, _, _, _, _, _, _, ccl, cdd, vs, ccs, file, tf, cl, cld, csl, h1, h2, h3, h4, by rw [← h5]; exact beq_self_eq_true _, rfl, h6⟩
theorem ec_10 (X : K.In h) (G : h.Ns mainGlobals mg) (c : Hk.SaysX sheet K) (gs : mg "super" = none) : ErX.ErrC PW K mg "TypeError" "TypeError.__new__" "TypeError.__init__" bmT "NotABody" (Cl K 10) (He.ma K (Cl K 10) "__init__") :=
  Hk.err_of _root_.PySem.F.excBase_TypeError _root_.PySem.F.store_TypeError PySem.W.kxs_TypeError X G (show Hk.errB K "TypeError" "TypeError.__new__" "TypeError.__init__" bmT "NotABody" = true from (He.ba ((He.ba ((He.ba ((He.ba ((He.ba ((He.ba ((He.ba ((He.ba ((He.ba ((He.ba ((He.ba (ck_E c)).2)).2)).2)).2)).2)).2)).2)).2)).2)).2)).1) (xf_of c 10 (by decide)).1 gs top_super
theorem ef_10 (c : Hk.SaysX sheet K) : ErX.Fn1 PW K (Cl K 10) (He.ma K (Cl K 10) "__init__") "value" := by
  obtain ⟨oc, od, osl, kV, doc, pm, an, cda, ct, cc, ccl, cdd, vs, ccs, file, tf, cl, cld, csl, h1, h2, h3, h4, h5, h6⟩ := c.ini_ 10
  exact ⟨oc, od, osl, _, kV, doc, pm, an, cda, ct, cc, _, _, _, _, _, _, _, _, _, _, _, ccl, cdd, vs, ccs, file, tf, cl, cld, csl, h1, h2, h3, h4, by rw [← h5]; exact beq_self_eq_true _, rfl, h6⟩
theorem ec_11 (X : K.In h) (G : h.Ns mainGlobals mg) (c : Hk.SaysX sheet K) (gs : mg "super" = none) : ErX.ErrC PW K mg "TypeError" "TypeError.__new__" "TypeError.__init__" bmT "NotABook" (Cl K 11) (He.ma K (Cl K 11) "__init__") :=
  Hk.err_of _root_.PySem.F.excBase_TypeError _root_.PySem.F.store_TypeError PySem.W.kxs_TypeError X G (show Hk.errB K "TypeError" "TypeError.__new__" "TypeError.__init__" bmT "NotABook" = true from (He.ba ((He.ba ((He.ba ((He.ba ((He.ba ((He.ba ((He.ba ((He.ba ((He.ba ((He.ba ((He.ba ((He.ba (ck_E c)).2)).2)).2)).2)).2)).2)).2)).2)).2)).2)).2)).1) (xf_of c 11 (by decide)).1 gs top_super
theorem ef_11 (c : Hk.SaysX sheet K) : ErX.Fn1 PW K (Cl K 11) (He.ma K (Cl K 11) "__init__") "index" := by
  obtain ⟨oc, od, osl, kV, doc, pm, an, cda, ct, cc, ccl, cdd, vs, ccs, file, tf, cl, cld, csl, h1, h2, h3, h4, h5, h6⟩ := c.ini_ 11
  exact ⟨oc, od, osl, _, kV, doc, pm, an, cda, ct, cc, _, _, _, _, _, _, _, _, _, _, _, ccl, cdd, vs, ccs, file, tf, cl, cld, csl, h1, h2, h3, h4, by rw [← h5]; exact beq_self_eq_true _, rfl, h6⟩
theorem ec_12 (X : K.In h) (G : h.Ns mainGlobals mg) (c : Hk.SaysX sheet K) (gs : mg "super" = none) : ErX.ErrC PW K mg "LookupError" "LookupError.__new__" "LookupError.__init__" bmL "OutOfRange" (Cl K 12) (He.ma K (Cl K 12) "__init__") :=
  Hk.err_of _root_.PySem.F.excBase_LookupError _root_.PySem.F.store_LookupError PySem.W.kxs_LookupError X G (show Hk.errB K "LookupError" "LookupError.__new__" "LookupError.__init__" bmL "OutOfRange" = true from (He.ba ((He.ba ((He.ba ((He.ba ((He.ba ((He.ba ((He.ba ((He.ba ((He.ba ((He.ba ((He.ba ((He.ba ((He.ba (ck_E c)).2)).2)).2)).2)).2)).2)).2)).2)).2)).2)).2)).2)).1) (xf_of c 12 (by decide)).1 gs top_super
theorem ef_12 (c : Hk.SaysX sheet K) : ErX.Fn1 PW K (Cl K 12) (He.ma K (Cl K 12) "__init__") "value" := by
  obtain ⟨oc, od, osl, kV, doc, pm, an, cda, ct, cc, ccl, cdd, vs, ccs, file, tf, cl, cld, csl, h1, h2, h3, h4, h5, h6⟩ := c.ini_ 12
  exact ⟨oc, od, osl, _, kV, doc, pm, an, cda, ct, cc, _, _, _, _, _, _, _, _, _, _, _, ccl, cdd, vs, ccs, file, tf, cl, cld, csl, h1, h2, h3, h4, by rw [← h5]; exact beq_self_eq_true _, rfl, h6⟩
theorem ec_13 (X : K.In h) (G : h.Ns mainGlobals mg) (c : Hk.SaysX sheet K) (gs : mg "super" = none) : ErX.ErrC PW K mg "LookupError" "LookupError.__new__" "LookupError.__init__" bmL "UnknownStroke" (Cl K 13) (He.ma K (Cl K 13) "__init__") :=
  Hk.err_of _root_.PySem.F.excBase_LookupError _root_.PySem.F.store_LookupError PySem.W.kxs_LookupError X G (show Hk.errB K "LookupError" "LookupError.__new__" "LookupError.__init__" bmL "UnknownStroke" = true from (He.ba ((He.ba ((He.ba ((He.ba ((He.ba ((He.ba ((He.ba ((He.ba ((He.ba ((He.ba ((He.ba ((He.ba ((He.ba ((He.ba (ck_E c)).2)).2)).2)).2)).2)).2)).2)).2)).2)).2)).2)).2)).2)).1) (xf_of c 13 (by decide)).1 gs top_super
theorem ef_13 (c : Hk.SaysX sheet K) : ErX.Fn1 PW K (Cl K 13) (He.ma K (Cl K 13) "__init__") "value" := by
  obtain ⟨oc, od, osl, kV, doc, pm, an, cda, ct, cc, ccl, cdd, vs, ccs, file, tf, cl, cld, csl, h1, h2, h3, h4, h5, h6⟩ := c.ini_ 13
  exact ⟨oc, od, osl, _, kV, doc, pm, an, cda, ct, cc, _, _, _, _, _, _, _, _, _, _, _, ccl, cdd, vs, ccs, file, tf, cl, cld, csl, h1, h2, h3, h4, by rw [← h5]; exact beq_self_eq_true _, rfl, h6⟩
theorem ec_14 (X : K.In h) (G : h.Ns mainGlobals mg) (c : Hk.SaysX sheet K) (gs : mg "super" = none) : ErX.ErrC PW K mg "LookupError" "LookupError.__new__" "LookupError.__init__" bmL "UnknownState" (Cl K 14) (He.ma K (Cl K 14) "__init__") :=
  Hk.err_of _root_.PySem.F.excBase_LookupError _root_.PySem.F.store_LookupError PySem.W.kxs_LookupError X G (show Hk.errB K "LookupError" "LookupError.__new__" "LookupError.__init__" bmL "UnknownState" = true from (He.ba ((He.ba ((He.ba ((He.ba ((He.ba ((He.ba ((He.ba ((He.ba ((He.ba ((He.ba ((He.ba ((He.ba ((He.ba ((He.ba ((He.ba (ck_E c)).2)).2)).2)).2)).2)).2)).2)).2)).2)).2)).2)).2)).2)).2)).1) (xf_of c 14 (by decide)).1 gs top_super
theorem ef_14 (c : Hk.SaysX sheet K) : ErX.Fn1 PW K (Cl K 14) (He.ma K (Cl K 14) "__init__") "value" := by
  obtain ⟨oc, od, osl, kV, doc, pm, an, cda, ct, cc, ccl, cdd, vs, ccs, file, tf, cl, cld, csl, h1, h2, h3, h4, h5, h6⟩ := c.ini_ 14
  exact ⟨oc, od, osl, _, kV, doc, pm, an, cda, ct, cc, _, _, _, _, _, _, _, _, _, _, _, ccl, cdd, vs, ccs, file, tf, cl, cld, csl, h1, h2, h3, h4, by rw [← h5]; exact beq_self_eq_true _, rfl, h6⟩
theorem ec_15 (X : K.In h) (G : h.Ns mainGlobals mg) (c : Hk.SaysX sheet K) (gs : mg "super" = none) : ErX.ErrC PW K mg "OverflowError" "OverflowError.__new__" "OverflowError.__init__" bmO "TooMany" (Cl K 15) (He.ma K (Cl K 15) "__init__") :=
  Hk.err_of _root_.PySem.F.excBase_OverflowError _root_.PySem.F.store_OverflowError PySem.W.kxs_OverflowError X G (show Hk.errB K "OverflowError" "OverflowError.__new__" "OverflowError.__init__" bmO "TooMany" = true from (He.ba ((He.ba ((He.ba ((He.ba ((He.ba ((He.ba ((He.ba ((He.ba ((He.ba ((He.ba ((He.ba ((He.ba ((He.ba ((He.ba ((He.ba ((He.ba (ck_E c)).2)).2)).2)).2)).2)).2)).2)).2)).2)).2)).2)).2)).2)).2)).2)).1) (xf_of c 15 (by decide)).1 gs top_super
theorem ef_15 (c : Hk.SaysX sheet K) : ErX.Fn1 PW K (Cl K 15) (He.ma K (Cl K 15) "__init__") "limit" := by
  obtain ⟨oc, od, osl, kV, doc, pm, an, cda, ct, cc, ccl, cdd, vs, ccs, file, tf, cl, cld, csl, h1, h2, h3, h4, h5, h6⟩ := c.ini_ 15
  exact ⟨oc, od, osl, _, kV, doc, pm, an, cda, ct, cc, _, _, _, _, _, _, _, _, _, _, _, ccl, cdd, vs, ccs, file, tf, cl, cld, csl, h1, h2, h3, h4, by rw [← h5]; exact beq_self_eq_true _, rfl, h6⟩
theorem ec_16 (X : K.In h) (G : h.Ns mainGlobals mg) (c : Hk.SaysX sheet K) (gs : mg "super" = none) : ErX.ErrC PW K mg "OverflowError" "OverflowError.__new__" "OverflowError.__init__" bmO "TooFew" (Cl K 16) (He.ma K (Cl K 16) "__init__") :=
  Hk.err_of _root_.PySem.F.excBase_OverflowError _root_.PySem.F.store_OverflowError PySem.W.kxs_OverflowError X G (show Hk.errB K "OverflowError" "OverflowError.__new__" "OverflowError.__init__" bmO "TooFew" = true from (He.ba ((He.ba ((He.ba ((He.ba ((He.ba ((He.ba ((He.ba ((He.ba ((He.ba ((He.ba ((He.ba ((He.ba ((He.ba ((He.ba ((He.ba ((He.ba ((He.ba (ck_E c)).2)).2)).2)).2)).2)).2)).2)).2)).2)).2)).2)).2)).2)).2)).2)).2)).1) (xf_of c 16 (by decide)).1 gs top_super
theorem ef_16 (c : Hk.SaysX sheet K) : ErX.Fn1 PW K (Cl K 16) (He.ma K (Cl K 16) "__init__") "limit" := by
  obtain ⟨oc, od, osl, kV, doc, pm, an, cda, ct, cc, ccl, cdd, vs, ccs, file, tf, cl, cld, csl, h1, h2, h3, h4, h5, h6⟩ := c.ini_ 16
  exact ⟨oc, od, osl, _, kV, doc, pm, an, cda, ct, cc, _, _, _, _, _, _, _, _, _, _, _, ccl, cdd, vs, ccs, file, tf, cl, cld, csl, h1, h2, h3, h4, by rw [← h5]; exact beq_self_eq_true _, rfl, h6⟩
theorem ec_17 (X : K.In h) (G : h.Ns mainGlobals mg) (c : Hk.SaysX sheet K) (gs : mg "super" = none) : ErX.ErrC PW K mg "OverflowError" "OverflowError.__new__" "OverflowError.__init__" bmO "TooDeep" (Cl K 17) (He.ma K (Cl K 17) "__init__") :=
  Hk.err_of _root_.PySem.F.excBase_OverflowError _root_.PySem.F.store_OverflowError PySem.W.kxs_OverflowError X G (show Hk.errB K "OverflowError" "OverflowError.__new__" "OverflowError.__init__" bmO "TooDeep" = true from (He.ba ((He.ba ((He.ba ((He.ba ((He.ba ((He.ba ((He.ba ((He.ba ((He.ba ((He.ba ((He.ba ((He.ba ((He.ba ((He.ba ((He.ba ((He.ba ((He.ba ((He.ba (ck_E c)).2)).2)).2)).2)).2)).2)).2)).2)).2)).2)).2)).2)).2)).2)).2)).2)).2)).1) (xf_of c 17 (by decide)).1 gs top_super
theorem ef_17 (c : Hk.SaysX sheet K) : ErX.Fn1 PW K (Cl K 17) (He.ma K (Cl K 17) "__init__") "limit" := by
  obtain ⟨oc, od, osl, kV, doc, pm, an, cda, ct, cc, ccl, cdd, vs, ccs, file, tf, cl, cld, csl, h1, h2, h3, h4, h5, h6⟩ := c.ini_ 17
  exact ⟨oc, od, osl, _, kV, doc, pm, an, cda, ct, cc, _, _, _, _, _, _, _, _, _, _, _, ccl, cdd, vs, ccs, file, tf, cl, cld, csl, h1, h2, h3, h4, by rw [← h5]; exact beq_self_eq_true _, rfl, h6⟩
theorem ec_18 (X : K.In h) (G : h.Ns mainGlobals mg) (c : Hk.SaysX sheet K) (gs : mg "super" = none) : ErX.ErrC PW K mg "OverflowError" "OverflowError.__new__" "OverflowError.__init__" bmO "TooLong" (Cl K 18) (He.ma K (Cl K 18) "__init__") :=
  Hk.err_of _root_.PySem.F.excBase_OverflowError _root_.PySem.F.store_OverflowError PySem.W.kxs_OverflowError X G (show Hk.errB K "OverflowError" "OverflowError.__new__" "OverflowError.__init__" bmO "TooLong" = true from (He.ba ((He.ba ((He.ba ((He.ba ((He.ba ((He.ba ((He.ba ((He.ba ((He.ba ((He.ba ((He.ba ((He.ba ((He.ba ((He.ba ((He.ba ((He.ba ((He.ba ((He.ba ((He.ba (ck_E c)).2)).2)).2)).2)).2)).2)).2)).2)).2)).2)).2)).2)).2)).2)).2)).2)).2)).2)).1) (xf_of c 18 (by decide)).1 gs top_super
theorem ef_18 (c : Hk.SaysX sheet K) : ErX.Fn1 PW K (Cl K 18) (He.ma K (Cl K 18) "__init__") "limit" := by
  obtain ⟨oc, od, osl, kV, doc, pm, an, cda, ct, cc, ccl, cdd, vs, ccs, file, tf, cl, cld, csl, h1, h2, h3, h4, h5, h6⟩ := c.ini_ 18
  exact ⟨oc, od, osl, _, kV, doc, pm, an, cda, ct, cc, _, _, _, _, _, _, _, _, _, _, _, ccl, cdd, vs, ccs, file, tf, cl, cld, csl, h1, h2, h3, h4, by rw [← h5]; exact beq_self_eq_true _, rfl, h6⟩
theorem ec_19 (X : K.In h) (G : h.Ns mainGlobals mg) (c : Hk.SaysX sheet K) (gs : mg "super" = none) : ErX.ErrC PW K mg "RuntimeError" "RuntimeError.__new__" "RuntimeError.__init__" bmR "NeverEnds" (Cl K 19) (He.ma K (Cl K 19) "__init__") :=
  Hk.err_of _root_.PySem.F.excBase_RuntimeError _root_.PySem.F.store_RuntimeError PySem.W.kxs_RuntimeError X G (show Hk.errB K "RuntimeError" "RuntimeError.__new__" "RuntimeError.__init__" bmR "NeverEnds" = true from (He.ba ((He.ba ((He.ba ((He.ba ((He.ba ((He.ba ((He.ba ((He.ba ((He.ba ((He.ba ((He.ba ((He.ba ((He.ba ((He.ba ((He.ba ((He.ba ((He.ba ((He.ba ((He.ba ((He.ba (ck_E c)).2)).2)).2)).2)).2)).2)).2)).2)).2)).2)).2)).2)).2)).2)).2)).2)).2)).2)).2)).1) (xf_of c 19 (by decide)).1 gs top_super
theorem ef_19 (c : Hk.SaysX sheet K) : ErX.Fn1 PW K (Cl K 19) (He.ma K (Cl K 19) "__init__") "key" := by
  obtain ⟨oc, od, osl, kV, doc, pm, an, cda, ct, cc, ccl, cdd, vs, ccs, file, tf, cl, cld, csl, h1, h2, h3, h4, h5, h6⟩ := c.ini_ 19
  exact ⟨oc, od, osl, _, kV, doc, pm, an, cda, ct, cc, _, _, _, _, _, _, _, _, _, _, _, ccl, cdd, vs, ccs, file, tf, cl, cld, csl, h1, h2, h3, h4, by rw [← h5]; exact beq_self_eq_true _, rfl, h6⟩
theorem ec_20 (X : K.In h) (G : h.Ns mainGlobals mg) (c : Hk.SaysX sheet K) (gs : mg "super" = none) : ErX.ErrC PW K mg "RuntimeError" "RuntimeError.__new__" "RuntimeError.__init__" bmR "Unlike" (Cl K 20) (He.ma K (Cl K 20) "__init__") :=
  Hk.err_of _root_.PySem.F.excBase_RuntimeError _root_.PySem.F.store_RuntimeError PySem.W.kxs_RuntimeError X G (show Hk.errB K "RuntimeError" "RuntimeError.__new__" "RuntimeError.__init__" bmR "Unlike" = true from (He.ba ((He.ba ((He.ba ((He.ba ((He.ba ((He.ba ((He.ba ((He.ba ((He.ba ((He.ba ((He.ba ((He.ba ((He.ba ((He.ba ((He.ba ((He.ba ((He.ba ((He.ba ((He.ba ((He.ba ((He.ba (ck_E c)).2)).2)).2)).2)).2)).2)).2)).2)).2)).2)).2)).2)).2)).2)).2)).2)).2)).2)).2)).2)).1) (xf_of c 20 (by decide)).1 gs top_super
theorem ef_20 (c : Hk.SaysX sheet K) : ErX.Fn1 PW K (Cl K 20) (He.ma K (Cl K 20) "__init__") "pressed" := by
  obtain ⟨oc, od, osl, kV, doc, pm, an, cda, ct, cc, ccl, cdd, vs, ccs, file, tf, cl, cld, csl, h1, h2, h3, h4, h5, h6⟩ := c.ini_ 20
  exact ⟨oc, od, osl, _, kV, doc, pm, an, cda, ct, cc, _, _, _, _, _, _, _, _, _, _, _, ccl, cdd, vs, ccs, file, tf, cl, cld, csl, h1, h2, h3, h4, by rw [← h5]; exact beq_self_eq_true _, rfl, h6⟩
theorem ec_21 (X : K.In h) (G : h.Ns mainGlobals mg) (c : Hk.SaysX sheet K) (gs : mg "super" = none) : ErX.ErrC PW K mg "RuntimeError" "RuntimeError.__new__" "RuntimeError.__init__" bmR "Endless" (Cl K 21) (He.ma K (Cl K 21) "__init__") :=
  Hk.err_of _root_.PySem.F.excBase_RuntimeError _root_.PySem.F.store_RuntimeError PySem.W.kxs_RuntimeError X G (show Hk.errB K "RuntimeError" "RuntimeError.__new__" "RuntimeError.__init__" bmR "Endless" = true from (He.ba ((He.ba ((He.ba ((He.ba ((He.ba ((He.ba ((He.ba ((He.ba ((He.ba ((He.ba ((He.ba ((He.ba ((He.ba ((He.ba ((He.ba ((He.ba ((He.ba ((He.ba ((He.ba ((He.ba ((He.ba ((He.ba (ck_E c)).2)).2)).2)).2)).2)).2)).2)).2)).2)).2)).2)).2)).2)).2)).2)).2)).2)).2)).2)).2)).2)).1) (xf_of c 21 (by decide)).1 gs top_super
theorem ef_21 (c : Hk.SaysX sheet K) : ErX.Fn1 PW K (Cl K 21) (He.ma K (Cl K 21) "__init__") "pressed" := by
  obtain ⟨oc, od, osl, kV, doc, pm, an, cda, ct, cc, ccl, cdd, vs, ccs, file, tf, cl, cld, csl, h1, h2, h3, h4, h5, h6⟩ := c.ini_ 21
  exact ⟨oc, od, osl, _, kV, doc, pm, an, cda, ct, cc, _, _, _, _, _, _, _, _, _, _, _, ccl, cdd, vs, ccs, file, tf, cl, cld, csl, h1, h2, h3, h4, by rw [← h5]; exact beq_self_eq_true _, rfl, h6⟩
theorem ec_22 (X : K.In h) (G : h.Ns mainGlobals mg) (c : Hk.SaysX sheet K) (gs : mg "super" = none) : ErX.ErrC PW K mg "ValueError" "ValueError.__new__" "ValueError.__init__" bmV "Clash" (Cl K 22) (He.ma K (Cl K 22) "__init__") :=
  Hk.err_of _root_.PySem.F.excBase_ValueError _root_.PySem.F.store_ValueError PySem.W.kxs_ValueError X G (show Hk.errB K "ValueError" "ValueError.__new__" "ValueError.__init__" bmV "Clash" = true from (He.ba ((He.ba ((He.ba ((He.ba ((He.ba ((He.ba ((He.ba ((He.ba ((He.ba ((He.ba ((He.ba ((He.ba ((He.ba ((He.ba ((He.ba ((He.ba ((He.ba ((He.ba ((He.ba ((He.ba ((He.ba ((He.ba ((He.ba (ck_E c)).2)).2)).2)).2)).2)).2)).2)).2)).2)).2)).2)).2)).2)).2)).2)).2)).2)).2)).2)).2)).2)).2)).1) (xf_of c 22 (by decide)).1 gs top_super
theorem ef_22 (c : Hk.SaysX sheet K) : ErX.Fn2 PW K (Cl K 22) (He.ma K (Cl K 22) "__init__") "mode" "key" := by
  obtain ⟨oc, od, osl, kV, doc, pm, an, cda, ct, cc, ccl, cdd, vs, ccs, file, tf, cl, cld, csl, h1, h2, h3, h4, h5, h6⟩ := c.ini_ 22
  exact ⟨oc, od, osl, _, kV, doc, pm, an, cda, ct, cc, _, _, _, _, _, _, _, _, _, _, _, _, _, _, _, _, _, ccl, cdd, vs, ccs, file, tf, cl, cld, csl, h1, h2, h3, h4, by rw [← h5]; exact beq_self_eq_true _, rfl, h6⟩
theorem ec_23 (X : K.In h) (G : h.Ns mainGlobals mg) (c : Hk.SaysX sheet K) (gs : mg "super" = none) : ErX.ErrC PW K mg "RuntimeError" "RuntimeError.__new__" "RuntimeError.__init__" bmR "TooBig" (Cl K 23) (He.ma K (Cl K 23) "__init__") :=
  Hk.err_of _root_.PySem.F.excBase_RuntimeError _root_.PySem.F.store_RuntimeError PySem.W.kxs_RuntimeError X G (show Hk.errB K "RuntimeError" "RuntimeError.__new__" "RuntimeError.__init__" bmR "TooBig" = true from ((He.ba ((He.ba ((He.ba ((He.ba ((He.ba ((He.ba ((He.ba ((He.ba ((He.ba ((He.ba ((He.ba ((He.ba ((He.ba ((He.ba ((He.ba ((He.ba ((He.ba ((He.ba ((He.ba ((He.ba ((He.ba ((He.ba ((He.ba (ck_E c)).2)).2)).2)).2)).2)).2)).2)).2)).2)).2)).2)).2)).2)).2)).2)).2)).2)).2)).2)).2)).2)).2)).2)) (xf_of c 23 (by decide)).1 gs top_super
theorem ef_23 (c : Hk.SaysX sheet K) : ErX.Fn2 PW K (Cl K 23) (He.ma K (Cl K 23) "__init__") "mode" "key" := by
  obtain ⟨oc, od, osl, kV, doc, pm, an, cda, ct, cc, ccl, cdd, vs, ccs, file, tf, cl, cld, csl, h1, h2, h3, h4, h5, h6⟩ := c.ini_ 23
  exact ⟨oc, od, osl, _, kV, doc, pm, an, cda, ct, cc, _, _, _, _, _, _, _, _, _, _, _, _, _, _, _, _, _, ccl, cdd, vs, ccs, file, tf, cl, cld, csl, h1, h2, h3, h4, by rw [← h5]; exact beq_self_eq_true _, rfl, h6⟩
theorem no_of (c : Hk.SaysX sheet K) (i : Nat) (hi : i < 22) : PySem.W.findIn K (.ref (Cl K i)) (erF.getD i "") = some none := of_decide_eq_true (range_all (He.ba (ck_F c)).1 hi)
theorem nom_of (c : Hk.SaysX sheet K) (i : Nat) (hi : i = 22 ∨ i = 23) : PySem.W.findIn K (.ref (Cl K i)) "mode" = some none ∧ PySem.W.findIn K (.ref (Cl K i)) "key" = some none := by
  have q := List.all_eq_true.mp (He.ba (ck_F c)).2
  have m : ∀ x ∈ (["Clash", "TooBig"] : List Str), PySem.W.findIn K (.ref (He.ga K x)) "mode" = some none ∧ PySem.W.findIn K (.ref (He.ga K x)) "key" = some none := fun x hx =>
    ⟨of_decide_eq_true (List.all_eq_true.mp (q x hx) "mode" (List.mem_cons_self ..)), of_decide_eq_true (List.all_eq_true.mp (q x hx) "key" (List.mem_cons_of_mem _ (List.mem_cons_self ..)))⟩
  rcases hi with rfl | rfl
  · exact m "Clash" (List.mem_cons_self ..)
  · exact m "TooBig" (List.mem_cons_of_mem _ (List.mem_cons_self ..))
theorem e1_of (X : K.In h) (G : h.Ns mainGlobals mg) (c : Hk.SaysX sheet K) (gs : mg "super" = none) (i : Nat) (hi : i < 22) : E1 PW K mg i := by
  have no := no_of c i hi
  rcases (show i = 0 ∨ i = 1 ∨ i = 2 ∨ i = 3 ∨ i = 4 ∨ i = 5 ∨ i = 6 ∨ i = 7 ∨ i = 8 ∨ i = 9 ∨ i = 10 ∨ i = 11 ∨ i = 12 ∨ i = 13 ∨ i = 14 ∨ i = 15 ∨ i = 16 ∨ i = 17 ∨ i = 18 ∨ i = 19 ∨ i = 20 ∨ i = 21 by omega) with rfl | rfl | rfl | rfl | rfl | rfl | rfl | rfl | rfl | rfl | rfl | rfl | rfl | rfl | rfl | rfl | rfl | rfl | rfl | rfl | rfl | rfl
  · exact ⟨_, ⟨⟨_, _, _, _, ec_0 X G c gs, ef_0 c⟩, ErX.nm_value, no, ErX.bp_value, ErX.bk_value⟩⟩
  · exact ⟨_, ⟨⟨_, _, _, _, ec_1 X G c gs, ef_1 c⟩, ErX.nm_field, no, ErX.bp_field, ErX.bk_field⟩⟩
  · exact ⟨_, ⟨⟨_, _, _, _, ec_2 X G c gs, ef_2 c⟩, ErX.nm_index, no, ErX.bp_index, ErX.bk_index⟩⟩
  · exact ⟨_, ⟨⟨_, _, _, _, ec_3 X G c gs, ef_3 c⟩, ErX.nm_value, no, ErX.bp_value, ErX.bk_value⟩⟩
  · exact ⟨_, ⟨⟨_, _, _, _, ec_4 X G c gs, ef_4 c⟩, ErX.nm_value, no, ErX.bp_value, ErX.bk_value⟩⟩
  · exact ⟨_, ⟨⟨_, _, _, _, ec_5 X G c gs, ef_5 c⟩, ErX.nm_value, no, ErX.bp_value, ErX.bk_value⟩⟩
  · exact ⟨_, ⟨⟨_, _, _, _, ec_6 X G c gs, ef_6 c⟩, ErX.nm_value, no, ErX.bp_value, ErX.bk_value⟩⟩
  · exact ⟨_, ⟨⟨_, _, _, _, ec_7 X G c gs, ef_7 c⟩, ErX.nm_value, no, ErX.bp_value, ErX.bk_value⟩⟩
  · exact ⟨_, ⟨⟨_, _, _, _, ec_8 X G c gs, ef_8 c⟩, ErX.nm_value, no, ErX.bp_value, ErX.bk_value⟩⟩
  · exact ⟨_, ⟨⟨_, _, _, _, ec_9 X G c gs, ef_9 c⟩, ErX.nm_index, no, ErX.bp_index, ErX.bk_index⟩⟩
  · exact ⟨_, ⟨⟨_, _, _, _, ec_10 X G c gs, ef_10 c⟩, ErX.nm_value, no, ErX.bp_value, ErX.bk_value⟩⟩
  · exact ⟨_, ⟨⟨_, _, _, _, ec_11 X G c gs, ef_11 c⟩, ErX.nm_index, no, ErX.bp_index, ErX.bk_index⟩⟩
  · exact ⟨_, ⟨⟨_, _, _, _, ec_12 X G c gs, ef_12 c⟩, ErX.nm_value, no, ErX.bp_value, ErX.bk_value⟩⟩
  · exact ⟨_, ⟨⟨_, _, _, _, ec_13 X G c gs, ef_13 c⟩, ErX.nm_value, no, ErX.bp_value, ErX.bk_value⟩⟩
  · exact ⟨_, ⟨⟨_, _, _, _, ec_14 X G c gs, ef_14 c⟩, ErX.nm_value, no, ErX.bp_value, ErX.bk_value⟩⟩
  · exact ⟨_, ⟨⟨_, _, _, _, ec_15 X G c gs, ef_15 c⟩, ErX.nm_limit, no, ErX.bp_limit, ErX.bk_limit⟩⟩
  · exact ⟨_, ⟨⟨_, _, _, _, ec_16 X G c gs, ef_16 c⟩, ErX.nm_limit, no, ErX.bp_limit, ErX.bk_limit⟩⟩
  · exact ⟨_, ⟨⟨_, _, _, _, ec_17 X G c gs, ef_17 c⟩, ErX.nm_limit, no, ErX.bp_limit, ErX.bk_limit⟩⟩
  · exact ⟨_, ⟨⟨_, _, _, _, ec_18 X G c gs, ef_18 c⟩, ErX.nm_limit, no, ErX.bp_limit, ErX.bk_limit⟩⟩
  · exact ⟨_, ⟨⟨_, _, _, _, ec_19 X G c gs, ef_19 c⟩, ErX.nm_key, no, ErX.bp_key, ErX.bk_key⟩⟩
  · exact ⟨_, ⟨⟨_, _, _, _, ec_20 X G c gs, ef_20 c⟩, ErX.nm_pressed, no, ErX.bp_pressed, ErX.bk_pressed⟩⟩
  · exact ⟨_, ⟨⟨_, _, _, _, ec_21 X G c gs, ef_21 c⟩, ErX.nm_pressed, no, ErX.bp_pressed, ErX.bk_pressed⟩⟩
theorem tx (X : K.In h) (G : h.Ns mainGlobals mg) (c : Hk.SaysX sheet K) : Tx PW K mg := by
  have z_super : mg "super" = none := He.free_ok X G (ck_fa c 12 (f := .free "super"))
  have z_list : mg "list" = none := He.free_ok X G (ck_fa c 13 (f := .free "list"))
  have z_int : mg "int" = none := He.free_ok X G (ck_fa c 14 (f := .free "int"))
  have z_len : mg "len" = none := He.free_ok X G (ck_fa c 15 (f := .free "len"))
  have z_isinstance : mg "isinstance" = none := He.free_ok X G (ck_fa c 16 (f := .free "isinstance"))
  have z_repr : mg "repr" = none := He.free_ok X G (ck_fa c 17 (f := .free "repr"))
  have z_range : mg "range" = none := He.free_ok X G (ck_fa c 18 (f := .free "range"))
  have z_ValueError : mg "ValueError" = none := He.free_ok X G (ck_fa c 19 (f := .free "ValueError"))
  have z_TypeError : mg "TypeError" = none := He.free_ok X G (ck_fa c 20 (f := .free "TypeError"))
  have z_LookupError : mg "LookupError" = none := He.free_ok X G (ck_fa c 21 (f := .free "LookupError"))
  have z_OverflowError : mg "OverflowError" = none := He.free_ok X G (ck_fa c 22 (f := .free "OverflowError"))
  have z_RuntimeError : mg "RuntimeError" = none := He.free_ok X G (ck_fa c 23 (f := .free "RuntimeError"))
  have i_MODES := He.int_ok X G (ck_fa c 24 (f := .int "MODES" (6)))
  have i_KEYS := He.int_ok X G (ck_fa c 25 (f := .int "KEYS" (6)))
  have i_ITEMS := He.int_ok X G (ck_fa c 26 (f := .int "ITEMS" (6)))
  have i_DEPTH := He.int_ok X G (ck_fa c 27 (f := .int "DEPTH" (2)))
  have i_NUMBER := He.int_ok X G (ck_fa c 28 (f := .int "NUMBER" (10 ^ 9)))
  have i_BOOKS := He.int_ok X G (ck_fa c 29 (f := .int "BOOKS" (3)))
  have i_STATES := He.int_ok X G (ck_fa c 30 (f := .int "STATES" (36)))
  have i_SIZE := He.int_ok X G (ck_fa c 31 (f := .int "SIZE" (10 ^ 4000)))
  have i_PATTERN := He.int_ok X G (ck_fa c 32 (f := .int "PATTERN" (8)))
  have i_GOAL := He.int_ok X G (ck_fa c 33 (f := .int "GOAL" (200)))
  have g_0 := (ec_0 X G c z_super).gC
  have g_1 := (ec_1 X G c z_super).gC
  have g_2 := (ec_2 X G c z_super).gC
  have g_3 := (ec_3 X G c z_super).gC
  have g_4 := (ec_4 X G c z_super).gC
  have g_5 := (ec_5 X G c z_super).gC
  have g_6 := (ec_6 X G c z_super).gC
  have g_7 := (ec_7 X G c z_super).gC
  have g_8 := (ec_8 X G c z_super).gC
  have g_9 := (ec_9 X G c z_super).gC
  have g_10 := (ec_10 X G c z_super).gC
  have g_11 := (ec_11 X G c z_super).gC
  have g_12 := (ec_12 X G c z_super).gC
  have g_13 := (ec_13 X G c z_super).gC
  have g_14 := (ec_14 X G c z_super).gC
  have g_15 := (ec_15 X G c z_super).gC
  have g_16 := (ec_16 X G c z_super).gC
  have g_17 := (ec_17 X G c z_super).gC
  have g_18 := (ec_18 X G c z_super).gC
  have g_19 := (ec_19 X G c z_super).gC
  have g_20 := (ec_20 X G c z_super).gC
  have g_21 := (ec_21 X G c z_super).gC
  have g_22 := (ec_22 X G c z_super).gC
  have g_23 := (ec_23 X G c z_super).gC
  obtain ⟨n1, n2⟩ := He.ba (ck_N c)
  obtain ⟨n3, n4⟩ := He.ba n1
  obtain ⟨n5, n6⟩ := He.ba n4
  obtain ⟨n7, n8⟩ := He.ba n2
  obtain ⟨n9, n10⟩ := He.ba n8
  have g_24 : mg "NotBeginning" = some (.ref (Cl K 24)) := PySem.W.mg_of X G (of_decide_eq_true n3)
  have g_25 : mg "InTrial" = some (.ref (Cl K 25)) := PySem.W.mg_of X G (of_decide_eq_true n7)
  refine ⟨⟨z_list, z_int, z_len⟩, z_isinstance, z_repr, z_range, fun j hj => ?_, fun i hi => ?_, e1_of X G c z_super, ⟨⟨_, _, _, _, ec_22 X G c z_super, ef_22 c⟩, ErX.nm_mk, (nom_of c 22 (.inl rfl)).1, (nom_of c 22 (.inl rfl)).2, ErX.bp_mk, ErX.bk_mk⟩, ⟨⟨_, _, _, _, ec_23 X G c z_super, ef_23 c⟩, ErX.nm_mk, (nom_of c 23 (.inr rfl)).1, (nom_of c 23 (.inr rfl)).2, ErX.bp_mk, ErX.bk_mk⟩, ⟨n5, n6⟩, ⟨n9, n10⟩, xf_of c, fun i j hi hj => ?_, fun i j hi hj => ?_, no_of c, nom_of c, fun q hq => ?_⟩
  · rcases (show j = 0 ∨ j = 1 ∨ j = 2 ∨ j = 3 ∨ j = 4 by omega) with rfl | rfl | rfl | rfl | rfl
    · exact z_ValueError
    · exact z_TypeError
    · exact z_LookupError
    · exact z_OverflowError
    · exact z_RuntimeError
  · rcases (show i = 0 ∨ i = 1 ∨ i = 2 ∨ i = 3 ∨ i = 4 ∨ i = 5 ∨ i = 6 ∨ i = 7 ∨ i = 8 ∨ i = 9 ∨ i = 10 ∨ i = 11 ∨ i = 12 ∨ i = 13 ∨ i = 14 ∨ i = 15 ∨ i = 16 ∨ i = 17 ∨ i = 18 ∨ i = 19 ∨ i = 20 ∨ i = 21 ∨ i = 22 ∨ i = 23 ∨ i = 24 ∨ i = 25 by omega) with rfl | rfl | rfl | rfl | rfl | rfl | rfl | rfl | rfl | rfl | rfl | rfl | rfl | rfl | rfl | rfl | rfl | rfl | rfl | rfl | rfl | rfl | rfl | rfl | rfl | rfl
    · exact g_0
    · exact g_1
    · exact g_2
    · exact g_3
    · exact g_4
    · exact g_5
    · exact g_6
    · exact g_7
    · exact g_8
    · exact g_9
    · exact g_10
    · exact g_11
    · exact g_12
    · exact g_13
    · exact g_14
    · exact g_15
    · exact g_16
    · exact g_17
    · exact g_18
    · exact g_19
    · exact g_20
    · exact g_21
    · exact g_22
    · exact g_23
    · exact g_24
    · exact g_25
  · exact of_decide_eq_true (range_all (He.ba (range_all (ck_I c) hi)).1 hj)
  · exact of_decide_eq_true (range_all (He.ba (range_all (ck_I c) hi)).2 hj)
  · simp only [List.mem_cons, List.not_mem_nil, or_false] at hq
    rcases hq with rfl | rfl | rfl | rfl | rfl | rfl | rfl | rfl | rfl | rfl
    · exact i_MODES
    · exact i_KEYS
    · exact i_ITEMS
    · exact i_DEPTH
    · exact i_NUMBER
    · exact i_BOOKS
    · exact i_STATES
    · exact i_SIZE
    · exact i_PATTERN
    · exact i_GOAL
theorem okF {P : Program} {w : World} {base : Heap} {CX : CXT} {k : Nat} {x : Str} {st : Stmt} {ps : List Str} {sp : Sp} {fd : FuncData} (X : K.In h) (G : h.Ns mainGlobals mg) (c1 : (He.Fa.glo x).ok K = true) (F : FunD K x x (defArgs st) (defBody st) (defScope st) [] [] (He.ga K x) fd)
    (hb : Binds K fd ps []) (ok : FnOk P w K mg base CX k (He.ga K x) fd ps sp) : OkF P w K mg base CX k x ps sp := ⟨_, _, He.glo_ok X G c1, F.kp, hb, ok⟩
theorem facts {w : World} {f : Addr} (X : K.In h) (G : h.Ns mainGlobals mg) (hfa : mg ("law" : Str) = some (.ref f)) (c : Hk.SaysX sheet K) :
    ∃ fd : FuncData, (∀ (s : Shared) (v : Value), BindsTo s fd ⟨[v], []⟩ [("_law_script", v)]) ∧ ∀ base : Heap, K.In base → base.Ns mainGlobals mg → Gd.FnG PW w K mg base CX0 4 f fd ["_law_script"] (spLaw K) := by
  obtain ⟨d_pen, F_pen⟩ := c.def_ 0 (d := ⟨("_law_pen", none), "_law_pen", "_law_pen", defArgs s__law_pen, defBody s__law_pen, defScope s__law_pen, [], []⟩) rfl
  have b_pen := FunD.bindsN (ps := (defArgs s__law_pen).args.map (·.arg)) F_pen fun _ _ _ _ _ _ us hl => match us, hl with | [_], _ => rfl
  obtain ⟨d_draw, F_draw⟩ := c.def_ 1 (d := ⟨("_law_draw", none), "_law_draw", "_law_draw", defArgs s__law_draw, defBody s__law_draw, defScope s__law_draw, [], []⟩) rfl
  have b_draw := FunD.bindsN (ps := (defArgs s__law_draw).args.map (·.arg)) F_draw fun _ _ _ _ _ _ us hl => match us, hl with | [_, _], _ => rfl
  obtain ⟨d_pick, F_pick⟩ := c.def_ 2 (d := ⟨("_law_pick", none), "_law_pick", "_law_pick", defArgs s__law_pick, defBody s__law_pick, defScope s__law_pick, [], []⟩) rfl
  have b_pick := FunD.bindsN (ps := (defArgs s__law_pick).args.map (·.arg)) F_pick fun _ _ _ _ _ _ us hl => match us, hl with | [_, _], _ => rfl
  obtain ⟨d_any_value, F_any_value⟩ := c.def_ 3 (d := ⟨("_law_any_value", none), "_law_any_value", "_law_any_value", defArgs s__law_any_value, defBody s__law_any_value, defScope s__law_any_value, [], []⟩) rfl
  have b_any_value := FunD.bindsN (ps := (defArgs s__law_any_value).args.map (·.arg)) F_any_value fun _ _ _ _ _ _ us hl => match us, hl with | [_], _ => rfl
  obtain ⟨d_ones, F_ones⟩ := c.def_ 4 (d := ⟨("_law_ones", none), "_law_ones", "_law_ones", defArgs s__law_ones, defBody s__law_ones, defScope s__law_ones, [], []⟩) rfl
  have b_ones := FunD.bindsN (ps := (defArgs s__law_ones).args.map (·.arg)) F_ones fun _ _ _ _ _ _ us hl => match us, hl with | [_], _ => rfl
  obtain ⟨d_own, F_own⟩ := c.def_ 5 (d := ⟨("_law_own", none), "_law_own", "_law_own", defArgs s__law_own, defBody s__law_own, defScope s__law_own, [], []⟩) rfl
  have b_own := FunD.bindsN (ps := (defArgs s__law_own).args.map (·.arg)) F_own fun _ _ _ _ _ _ us hl => match us, hl with | [_], _ => rfl
  obtain ⟨d_shown, F_shown⟩ := c.def_ 6 (d := ⟨("_law_shown", none), "_law_shown", "_law_shown", defArgs s__law_shown, defBody s__law_shown, defScope s__law_shown, [], []⟩) rfl
  have b_shown := FunD.bindsN (ps := (defArgs s__law_shown).args.map (·.arg)) F_shown fun _ _ _ _ _ _ us hl => match us, hl with | [_, _], _ => rfl
  obtain ⟨d_above, F_above⟩ := c.def_ 7 (d := ⟨("_law_above", none), "_law_above", "_law_above", defArgs s__law_above, defBody s__law_above, defScope s__law_above, [], []⟩) rfl
  have b_above := FunD.bindsN (ps := (defArgs s__law_above).args.map (·.arg)) F_above fun _ _ _ _ _ _ us hl => match us, hl with | [_], _ => rfl
  obtain ⟨d_is_right, F_is_right⟩ := c.def_ 8 (d := ⟨("_law_is_right", none), "_law_is_right", "_law_is_right", defArgs s__law_is_right, defBody s__law_is_right, defScope s__law_is_right, [], []⟩) rfl
  have b_is_right := FunD.bindsN (ps := (defArgs s__law_is_right).args.map (·.arg)) F_is_right fun _ _ _ _ _ _ us hl => match us, hl with | [_, _, _], _ => rfl
  obtain ⟨d_twos_right, F_twos_right⟩ := c.def_ 9 (d := ⟨("_law_twos_right", none), "_law_twos_right", "_law_twos_right", defArgs s__law_twos_right, defBody s__law_twos_right, defScope s__law_twos_right, [], []⟩) rfl
  have b_twos_right := FunD.bindsN (ps := (defArgs s__law_twos_right).args.map (·.arg)) F_twos_right fun _ _ _ _ _ _ us hl => match us, hl with | [_, _], _ => rfl
  obtain ⟨d_power, F_power⟩ := c.def_ 10 (d := ⟨("_law_power", none), "_law_power", "_law_power", defArgs s__law_power, defBody s__law_power, defScope s__law_power, [], []⟩) rfl
  have b_power := FunD.bindsN (ps := (defArgs s__law_power).args.map (·.arg)) F_power fun _ _ _ _ _ _ us hl => match us, hl with | [_], _ => rfl
  obtain ⟨d_law, F_law⟩ := c.def_ 11 (d := ⟨("law", none), "law", "law", defArgs s_law, defBody s_law, defScope s_law, [], []⟩) rfl
  have e := hfa.symm.trans (He.glo_ok X G (ck_fa c 11 (f := .glo "law")))
  cases e
  have b := FunD.bindsA (ps := ["_law_script"]) F_law fun _ _ _ _ _ _ us hl => match us, hl with | [_], _ => rfl
  refine ⟨d_law, fun s v => b s [v] rfl, fun base _ _ => ?_⟩
  have T := tx X G c
  have O_pen := okF (P := PW) (st := s__law_pen) (w := w) (base := base) X G (ck_fa c 0 (f := .glo "_law_pen")) F_pen b_pen (ok_pen F_pen T.bi)
  have O_draw := okF (P := PW) (st := s__law_draw) (w := w) (base := base) X G (ck_fa c 1 (f := .glo "_law_draw")) F_draw b_draw (ok_draw F_draw T.bi)
  have O_pick := okF (P := PW) (st := s__law_pick) (w := w) (base := base) X G (ck_fa c 2 (f := .glo "_law_pick")) F_pick b_pick (ok_pick F_pick T.bi O_draw)
  have O_any_value := okF (P := PW) (st := s__law_any_value) (w := w) (base := base) X G (ck_fa c 3 (f := .glo "_law_any_value")) F_any_value b_any_value (ok_any F_any_value O_pick)
  have O_ones := okF (P := PW) (st := s__law_ones) (w := w) (base := base) X G (ck_fa c 4 (f := .glo "_law_ones")) F_ones b_ones (ok_ones F_ones T)
  have O_own := okF (P := PW) (st := s__law_own) (w := w) (base := base) X G (ck_fa c 5 (f := .glo "_law_own")) F_own b_own (ok_own F_own T)
  have O_shown := okF (P := PW) (st := s__law_shown) (w := w) (base := base) X G (ck_fa c 6 (f := .glo "_law_shown")) F_shown b_shown (ok_shown F_shown T)
  have O_above := okF (P := PW) (st := s__law_above) (w := w) (base := base) X G (ck_fa c 7 (f := .glo "_law_above")) F_above b_above (ok_above F_above T)
  have O_is_right := okF (P := PW) (st := s__law_is_right) (w := w) (base := base) X G (ck_fa c 8 (f := .glo "_law_is_right")) F_is_right b_is_right (ok_right F_is_right T O_above O_own)
  have O_power := okF (P := PW) (st := s__law_power) (w := w) (base := base) X G (ck_fa c 10 (f := .glo "_law_power")) F_power b_power (ok_power F_power T)
  exact ok_law F_law T O_pen O_any_value O_ones O_is_right O_shown O_power (ok_twos F_twos_right T O_is_right) (He.glo_ok X G (ck_fa c 9 (f := .glo "_law_twos_right"))) F_twos_right.kp b_twos_right
end
end K0
open PySem PySem.W PySem.Calls PyProof.Rows
set_option maxRecDepth 100000 in
set_option maxHeartbeats 0 in
theorem PySem.Challenge.cw_onestroke_k00_errors_and_limits_holds : PySem.Challenge.rw_onestroke_k00_errors_and_limits.Holds := by
  w_on; o_law
  refine HandSHeadRun.head_any (r := OpenLaw.row PySem.Challenge.rw_onestroke_k00_errors_and_limits) (q := view (OpenLaw.row PySem.Challenge.rw_onestroke_k00_errors_and_limits).prog [49]) (H := K0.hk) (ob := K0.ob) (M := 60000) (loose := K0.names) (d := HandSHeadRun.topDef (OpenLaw.row PySem.Challenge.rw_onestroke_k00_errors_and_limits).prog 49) (kwd := []) K0.ob_eq
    (by kernel_rfl) (fun s => by kernel_rfl) K0.run (by kernel_rfl) (by kernel_rfl) (by kernel_rfl) (by rfl) (by first | assumption | decide +kernel) (by decide +kernel) ⟨rfl, rfl, rfl, rfl, rfl, by decide +kernel⟩ ?hw ?hc
  case hw => w_witness2
  case hc =>
    refine Gd.walkG (l := PySem.Challenge.rw_onestroke_k00_errors_and_limits) (n := 63) (k := 4) (x := "_law_script") (CX := fun _ => L2.CX0) rfl (by decide) (by kernel_rfl) ⟨rfl, by decide, by decide⟩ ?F (fun _ _ _ _ _ z => z)
    intro w mg fa h Y G hmg0
    obtain ⟨K, KX, c⟩ := Y
    have hmg : mg ("law" : PySem.Str) = some (.ref fa) := by
      have e : (HandSHeadRun.topDef (OpenLaw.row PySem.Challenge.rw_onestroke_k00_errors_and_limits).prog 49).name = ("law" : PySem.Str) := by kernel_rfl
      rw [← e]
      exact hmg0
    obtain ⟨fd, hb, hF⟩ := K0.facts (w := w) KX G hmg c
    exact ⟨K, fd, K0.spLaw K, KX, hb, fun H a ns hl _ hS => ⟨a, ns, rfl, hS, fun _ => rfl⟩, hF⟩
#print axioms PySem.Challenge.cw_onestroke_k00_errors_and_limits_holds
