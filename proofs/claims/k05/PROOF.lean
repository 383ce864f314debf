import PyProof.Rows.All
import Wide.All
import OpenK.AllK
import Wide.FinOn
import HandS.ForMost
import HandS.ForExc
import HandS.IsInst
import KE.KExcSuper
import KE.KExcIs
import HandS.ExcValue
import HandS.ExcIs
import HandS.ExcField
import HandS.DictComp
import HandS.HeadEnd
import HandS.Defaults
import HandS.HeadHook1
import HandS.HeadHook2
import HandS.Head0
import HandS.Head1
import HandS.Head2
import HandS.TryMany
import HandS.Star
import HandS.ClsMeth
import HandS.Property
import HandS.Walk
import KE.GoesEnum
import HandS.WordsExc
import HandS.ExcOwn
import HandS.HeadHook4
import HandS.HeadNt
import HandS.HeadWalk
import HandS.Wide
import KE.KEqSeq
import HandS.AnyAll
import KE.KIntText
import HandS.Style
import HandS.OwnEq
import PySem.Challenge.RW_onestroke_k05_whole_bent_body_texts
set_option Elab.async false
set_option linter.all false
set_option maxRecDepth 100000
set_option maxHeartbeats 4000000
/-! The errors of the package: classes over a built-in error whose __init__ says super().__init__(..) and keeps its fields. -/
namespace ErX
open PySem PySem.W PySem.Calls PyProof.Rows PySem.Spec PySem.Builtin.ObjectAttr
/-! ### the text of an __init__ with one field -/
def iA1 (f : Str) (p1 p2 : Pos) : Arguments :=
  { posonlyargs := [], args := [⟨"self", none, p1⟩, ⟨f, none, p2⟩], vararg := none, kwonlyargs := [], kw_defaults := [], kwarg := none, defaults := [] }
def supE (es : List Expr) (q1 q2 q3 q5 : Pos) : Stmt :=
  .Expr (.Call (.Attribute (.Call (.Name "super" q1) [] [] q2) "__init__" q3) es [] q5) q5
def setE (f : Str) (q1 q2 q3 q4 : Pos) : Stmt := .Assign [.Attribute (.Name "self" q1) f q2] (.Name f q3) q4
def iB1 (f : Str) (q1 q2 q3 q4 q5 r1 r2 r3 r4 : Pos) : List Stmt := [supE [.Name f q4] q1 q2 q3 q5, setE f r1 r2 r3 r4]
def iS1 (f : Str) : Scope :=
  { kind := .function, names := [(PySem.Str.ofString "self", .local), (f, .local), (PySem.Str.ofString "__class__", .free), (PySem.Str.ofString "super", .globalImplicit)], isGenerator := false, isCoroutine := false, more := [] }
/-- what the written part says of an error class at C over the built-in B -/
structure ErrC (P : Program) (K : Frag) (mg : Str → Option Value) (B nw ini : String) (bmB : List Value) (x : Str) (C fI : Addr) : Prop where
  FB : ExcBaseFacts B nw ini bmB
  SF : StoreFacts B bmB "object.__setattr__" "object"
  KF : KxsFacts B ini
  gC : mg x = some (.ref C)
  q : excInitIn K C bmB nw = true
  hi : findIn K (.ref C) "__init__" = some (some (.ref fI))
  hf : isFn K (.ref fI) = true
  ov : excOver K C bmB = true
  sa : findIn K (.ref C) "__setattr__" = some (some (.builtin "object.__setattr__"))
  ga : findIn K (.ref C) "__getattribute__" = some (some (.builtin "BaseException.__getattribute__"))
  gg : findIn K (.ref C) "__getattr__" = some none
  kC : keepIn K (.ref C) = true
  exC : subIn K (.ref C) (.type "BaseException") = some true
  exB : subIn K (.ref C) (.type B) = some true
  tyC : typeIn K (.ref C) = some (.type "type")
  hdC : hasDictIn K C = true
  op : nsIn K cStatics "thirdparty.any" = some none
  sup : ks_superIn K C C "__init__" = some (some (.builtin ini))
  meC : mroIn K C (.ref C) = some true
  gsup : mg "super" = none
  top : (P.main.scope.names.lookup ("super" : Str)).isSome = false
/-! ### two fields -/
def iA2 (f1 f2 : Str) (p1 p2 p3 : Pos) : Arguments :=
  { posonlyargs := [], args := [⟨"self", none, p1⟩, ⟨f1, none, p2⟩, ⟨f2, none, p3⟩], vararg := none, kwonlyargs := [], kw_defaults := [], kwarg := none, defaults := [] }
def iB2 (f1 f2 : Str) (q1 q2 q3 q4 q6 q5 r1 r2 r3 r4 u1 u2 u3 u4 : Pos) : List Stmt := [supE [.Name f1 q4, .Name f2 q6] q1 q2 q3 q5, setE f1 r1 r2 r3 r4, setE f2 u1 u2 u3 u4]
def iS2 (f1 f2 : Str) : Scope :=
  { kind := .function, names := [(PySem.Str.ofString "self", .local), (f1, .local), (f2, .local), (PySem.Str.ofString "__class__", .free), (PySem.Str.ofString "super", .globalImplicit)], isGenerator := false, isCoroutine := false, more := [] }
def Fn2 (P : Program) (K : Frag) (C fI : Addr) (f1 f2 : Str) : Prop :=
  ∃ (oc : Value) (od : Option Addr) (osl : Array (Option Value)) (qn : Str) (kV doc pm : Value) (an : Option Addr) (cda : Addr) (ct : Value) (cc : Addr) (p1 p2 p3 q1 q2 q3 q4 q6 q5 r1 r2 r3 r4 u1 u2 u3 u4 : Pos)
    (ccl : Value) (cdd : Option Addr) (vs : Array Value) (ccs : Array (Option Value)) (file : Str) (tf : Tok) (cl : Value) (cld : Option Addr) (csl : Array (Option Value)),
    K.lookup fI = some ⟨oc, od, .func (ksFn "__init__" qn (iA2 f1 f2 p1 p2 p3) (iB2 f1 f2 q1 q2 q3 q4 q6 q5 r1 r2 r3 r4 u1 u2 u3 u4) (iS2 f1 f2) .none kV doc pm an (.ref cda) ct cc), osl⟩ ∧
    codeIn K (.ref cda) qn = true ∧ K.lookup cda = some ⟨ccl, cdd, .fields vs, ccs⟩ ∧ vs[2]? = some (.str file tf) ∧ ((P.main.file : Str) == file) = true ∧ (q3.endLine == q5.line) = true ∧
    K.lookup cc = some ⟨cl, cld, .cell (some (.ref C)), csl⟩
structure Nm2 (f1 f2 : Str) : Prop where
  l1 : (iS2 f1 f2).names.lookup f1 = some .local
  l2 : (iS2 f1 f2).names.lookup f2 = some .local
  s : (iS2 f1 f2).names.lookup ("self" : Str) = some .local
  c : (iS2 f1 f2).names.lookup ("__class__" : Str) = some .free
  u : (iS2 f1 f2).names.lookup ("super" : Str) = some .globalImplicit
  n : ∀ y ∈ (iS2 f1 f2).names, y.2 ≠ .cell
  m : ∀ (a b c : Value), ([(("self" : Str), a), (f1, b), (f2, c)].reverse).lookup ("self" : Str) = some a
  m1 : ∀ (a b c : Value), ([(("self" : Str), a), (f1, b), (f2, c)].reverse).lookup f1 = some b
  d1 : (f1 == ("__debug__" : Str)) = false
  d2 : (f2 == ("__debug__" : Str)) = false
  ne : ¬ f2 = f1
/-- the function object of an __init__ with one field -/
def Fn1 (P : Program) (K : Frag) (C fI : Addr) (f : Str) : Prop :=
  ∃ (oc : Value) (od : Option Addr) (osl : Array (Option Value)) (qn : Str) (kV doc pm : Value) (an : Option Addr) (cda : Addr) (ct : Value) (cc : Addr) (p1 p2 q1 q2 q3 q4 q5 r1 r2 r3 r4 : Pos)
    (ccl : Value) (cdd : Option Addr) (vs : Array Value) (ccs : Array (Option Value)) (file : Str) (tf : Tok) (cl : Value) (cld : Option Addr) (csl : Array (Option Value)),
    K.lookup fI = some ⟨oc, od, .func (ksFn "__init__" qn (iA1 f p1 p2) (iB1 f q1 q2 q3 q4 q5 r1 r2 r3 r4) (iS1 f) .none kV doc pm an (.ref cda) ct cc), osl⟩ ∧
    codeIn K (.ref cda) qn = true ∧ K.lookup cda = some ⟨ccl, cdd, .fields vs, ccs⟩ ∧ vs[2]? = some (.str file tf) ∧ ((P.main.file : Str) == file) = true ∧ (q3.endLine == q5.line) = true ∧
    K.lookup cc = some ⟨cl, cld, .cell (some (.ref C)), csl⟩
/-- what is asked of a field's name -/
structure Nm1 (f : Str) : Prop where
  l : (iS1 f).names.lookup f = some .local
  s : (iS1 f).names.lookup ("self" : Str) = some .local
  c : (iS1 f).names.lookup ("__class__" : Str) = some .free
  u : (iS1 f).names.lookup ("super" : Str) = some .globalImplicit
  n : ∀ y ∈ (iS1 f).names, y.2 ≠ .cell
  m : ∀ (a b : Value), ([(("self" : Str), a), (f, b)].reverse).lookup ("self" : Str) = some a
  d : (f == ("__debug__" : Str)) = false
/-- what an __init__ leaves of a fresh error at x: its dict at dx holds fs -/
structure InitEnd (h h' : Heap) (x C dx t1 : Addr) (m : Str → Option Value) : Prop where
  keep : ∀ b o, b ≠ x → h.get? b = some o → h'.get? b = some o
  obj : h'.get? x = some (excObj C t1 (some dx) .none)
  dbig : h.objs.size ≤ dx
  dne : dx ≠ x
  ns : h'.Ns1 dx m
section
variable {prog : Program} {w : World} {A : Around} {E : Value → Shared → Prop} {R : Result → Shared → Prop} {s : Shared} {K : Frag} {mg : Str → Option Value} {B nw ini : String} {bmB : List Value} {xn : Str} {C fI : Addr} {f : Str}
/-- the bound built-in __init__ is called: the args are laid anew -/
theorem call_mw (T : ErrC prog K mg B nw ini bmB xn C fI) {u x t0 : Addr} {dv : Option Addr} {us : List Value} {Q : Value → Shared → Prop} (X : K.In s.heap) (hu : s.heap.get? u = some (kxs_mw ini x)) (hx : s.heap.get? x = some (excObj C t0 dv .none)) (hz : us.length ≤ sizeLine)
    (hq : ∀ h' t1, (∀ b o, b ≠ x → s.heap.get? b = some o → h'.get? b = some o) → h'.get? x = some (excObj C t1 dv .none) → Q .none { s with heap := h' }) :
    wpAny (model prog w) A (call (.ref u) us) Q E s := by
  obtain ⟨nm, N', qn, bs, bm, hdct, sn, sub, ab, col, dd, k0, k1, k2, k3, k5, hC, hT⟩ := excInit_of X T.q
  obtain ⟨hh, g, d, tk, os⟩ := s
  refine wpAny_call (codeAny_of_tree ?_)
  show wpAny _ A.in1 (callAny (.ref u) ⟨us, []⟩) _ _ _
  simp only [callAny]
  refine wpAny_bind (wpAny_load hu ?_)
  have e1 : (Value.type "method-wrapper" == Value.type "method" || Value.type "method-wrapper" == Value.type "builtin_function_or_method" || Value.type "method-wrapper" == Value.type "method-wrapper") = true := by decide
  simp only [kxs_mw, e1, if_true]
  refine KFB.if_so (by decide) ?_
  refine wpAny_bind (check_bound_init T.FB.toExcCallFacts hC hx rfl ?_)
  refine wpAny_bind (wpAny_pure (wpAny_pure ?_))
  refine ⟨plainId_quiet T.FB.init.plain _, codeAny_builtin T.FB.initEntry ?_⟩
  exact exc_init_tree (cls := .ref C) (t0 := t0) (dv := dv) (c2 := .none) (c3 := .none) (b4 := .bool false) hx hz fun h' k e _ => hq h' _ k e
theorem supEval {env : Env} {e : Expr} {es : List Expr} {q1 q2 q3 q5 : Pos} (hl : (q3.endLine == q5.line) = true) (hm : methodCallForm ((e :: es).length + 0) (backTo q5 (starEach (e :: es) env)) (backToKw q5 (keywordEach [] env)) = true) :
    eval (.Call (.Attribute (.Call (.Name "super" q1) [] [] q2) "__init__" q3) (e :: es) [] q5) env = (do
      let ov ← attributeBase (.Call (.Name "super" q1) [] [] q2) "__init__" env (eval (.Call (.Name "super" q1) [] [] q2) env)
      standAt q3.atName
      let (g, first) ← holding [ov] (getMethod ov "__init__" (do return (← importBound (.Call (.Name "super" q1) [] [] q2) env).getD true))
      callWith q5 g first (backTo q5 (starEach (e :: es) env)) []) := by
  rw [arm_eval_Call]
  show (do
    let ov ← attributeBase (.Call (.Name "super" q1) [] [] q2) "__init__" env (eval (.Call (.Name "super" q1) [] [] q2) env)
    standAt q3.atName
    methodCall (.Call (.Name "super" q1) [] [] q2) "__init__" q3 q5 env ov ((e :: es).length + 0) (backTo q5 (starEach (e :: es) env)) (backToKw q5 (keywordEach [] env))) = _
  unfold methodCall calleeOf methodCallPos
  rw [hm, hl]
  rfl
/-- super().__init__(..) as a statement, in the frame L of such an __init__ -/
theorem sup_stmt (T : ErrC prog K mg B nw ini bmB xn C fI) {body : List Stmt} {qn : Str} {sc : Scope} {L cda cc x t0 : Addr} {e0 : Expr} {er : List Expr} {us : List Value} {q1 q2 q3 q5 : Pos} {m : Str → Option Value} {fd : FuncData} {oc : Value} {od : Option Addr} {osl : Array (Option Value)} {ar : Arg}
    {ccl : Value} {cdd : Option Addr} {vs : Array Value} {ccs : Array (Option Value)} {file : Str} {tf : Tok} {cl : Value} {cld : Option Addr} {csl : Array (Option Value)} {Q : Flow → Shared → Prop}
    (X : K.In s.heap) (G : s.heap.Ns mainGlobals mg) {mb : Str → Option Value} (Bl : s.heap.Ns builtinsNs mb) (hmb : mb "super" = bootBuiltins "super")
    (hfn : K.lookup fI = some ⟨oc, od, .func fd, osl⟩) (hp : (fd.params.posonlyargs ++ fd.params.args).head? = some ar) (har : ar.arg = "self")
    (hcode : K.lookup cda = some ⟨ccl, cdd, .fields vs, ccs⟩) (hvs : vs[2]? = some (.str file tf)) (hfile : ((prog.main.file : Str) == file) = true) (hcell : K.lookup cc = some ⟨cl, cld, .cell (some (.ref C)), csl⟩)
    (hsc : sc.kind = .function) (hs1 : sc.names.lookup ("self" : Str) = some .local) (hs2 : sc.names.lookup ("__class__" : Str) = some .free) (hs3 : sc.names.lookup ("super" : Str) = some .globalImplicit)
    (hn : s.heap.Ns L m) (hself : m "self" = some (.ref x)) (hx : s.heap.get? x = some (excObj C t0 none .none)) (hxL : x ≠ L)
    (hargs : ∀ s1 : Shared, s1.heap.Ns L m → ∀ Q' : List Value → Shared → Prop, Q' us s1 → wpAny (model prog w) A (spliced (backTo q5 (starEach (e0 :: er) (ksEnv qn sc L fI (.ref cda) cc)))) Q' E s1)
    (he : starEach (e0 :: er) (ksEnv qn sc L fI (.ref cda) cc) = (false, eval e0 (ksEnv qn sc L fI (.ref cda) cc)) :: starEach er (ksEnv qn sc L fI (.ref cda) cc)) (hpl : (backTo q5 (starEach er (ksEnv qn sc L fI (.ref cda) cc))).any (·.1) = false) (hus : us.length ≤ sizeLine)
    (hsw : swapsWith (.Call (.Attribute (.Call (.Name "super" q1) [] [] q2) "__init__" q3) (e0 :: er) [] q5) none q5.line (ksEnv qn sc L fI (.ref cda) cc) = pure false)
    {pl : Sem Bool} (hev : eval (.Call (.Attribute (.Call (.Name "super" q1) [] [] q2) "__init__" q3) (e0 :: er) [] q5) (ksEnv qn sc L fI (.ref cda) cc) = (do
      let ov ← attributeBase (.Call (.Name "super" q1) [] [] q2) "__init__" (ksEnv qn sc L fI (.ref cda) cc) (eval (.Call (.Name "super" q1) [] [] q2) (ksEnv qn sc L fI (.ref cda) cc))
      standAt q3.atName
      let (g, first) ← holding [ov] (getMethod ov "__init__" pl)
      callWith q5 g first (backTo q5 (starEach (e0 :: er) (ksEnv qn sc L fI (.ref cda) cc))) []))
    (hq : ∀ h' tk t1, (∀ b o, b ≠ x → s.heap.get? b = some o → h'.get? b = some o) → h'.get? x = some (excObj C t1 none .none) → h'.Ns L m → Q .next { s with heap := h', toks := tk }) :
    _root_.PySem.wpAt (model prog w) A (.func body (ksEnv qn sc L fI (.ref cda) cc)) (exec (supE (e0 :: er) q1 q2 q3 q5) (ksEnv qn sc L fI (.ref cda) cc)) Q E s := by
  have hint : interactive (ksEnv qn sc L fI (.ref cda) cc) = false := by
    unfold interactive
    rw [show (ksEnv qn sc L fI (.ref cda) cc).scope.kind = .function from hsc]
    rfl
  obtain ⟨cdD, hcD⟩ : ∃ cdD, clsIn K C = some cdD := by
    have h1 := T.sup
    unfold ks_superIn at h1
    cases e : clsIn K C with
    | none =>
      rw [e] at h1
      cases h1
    | some c => exact ⟨c, rfl⟩
  have hsup : alongIn K "__init__" ((cdD.mro.dropWhile (· != .ref C)).drop 1) = some (some (.builtin ini)) := by
    have h1 := T.sup
    unfold ks_superIn at h1
    rw [hcD] at h1
    exact h1
  obtain ⟨oD, hD1, hD2⟩ : ∃ oD, s.heap.get? C = some oD ∧ oD.data = .cls cdD := by
    unfold clsIn at hcD
    split at hcD
    · rename_i c d cd' sl ho
      cases hcD
      exact ⟨_, X _ _ ho, rfl⟩
    · cases hcD
  have I : InstAt s.heap x (excObj C t0 none .none) C none := ⟨hx, rfl, rfl, trivial⟩
  obtain ⟨hh, g, d, t, os⟩ := s
  refine ks_wpAt_Expr_any ?_ hint hsw
  refine ks_wpAt_MethodCall (pl := pl) ?_ hev
  refine ks_wpAt_super_base (env := ksEnv qn sc L fI (.ref cda) cc) hs3 hs2 (by decide +kernel) rfl (X _ _ hfn) rfl hp rfl (X _ _ hcode) rfl hvs hfile T.top ?_
  refine ks_loadName_global hsc hs3 (loadGlobal_builtin (env := ksEnv qn sc L fI (.ref cda) cc) G T.gsup Bl (hmb.trans (by decide +kernel)) ⟨rfl, ?_⟩)
  refine wpAny_loadName_free hsc hs2 rfl ⟨_, X _ _ hcell, rfl⟩ ?_
  rw [har]
  refine wpAny_loadName_local hsc hs1 hn hself ?_
  refine ks_wpAny_isType_cls hD1 hD2 ⟨rfl, ?_⟩
  refine ks_wpAny_call_super hD1 hD2 I.at_ I.cls (fun c e => by cases e) (looks_mroIn X T.meC) (fun h1 e1 k1 => ?_)
  have X1 : K.In h1 := X.keeps k1
  have I1 : InstAt h1 x (excObj C t0 none .none) C none := ⟨k1 _ _ hx, rfl, rfl, trivial⟩
  refine kxs_getMethod T.KF e1 (looks_opaque X1 T.op) (l₀ := cdD.mro) (fun A Q E s k q => wpAny_bind ((looks_clsIn X1 hcD) A _ E s k (wpAny_pure q))) rfl X1 hsup
    (I1.type.andThen (looks_subIn X1 T.exB)) (ks_ne X1 I1 hcD) (by decide +kernel) ?_
  have km : ∀ b o, h1.get? b = some o → (h1.push (kxs_mw ini x)).get? b = some o := fun b o q => Heap.get?_push_of_some _ q
  have hu : (h1.push (kxs_mw ini x)).get? h1.objs.size = some (kxs_mw ini x) := Heap.get?_push_at rfl rfl
  have kk : ∀ b o, hh.get? b = some o → (h1.push (kxs_mw ini x)).get? b = some o := fun b o q => km b o (k1 b o q)
  have hn2 : (h1.push (kxs_mw ini x)).Ns L m := Heap.Ns.keeps hn kk
  show wpAny _ _ (callWith q5 (.ref h1.objs.size) [] (backTo q5 (starEach (e0 :: er) (ksEnv qn sc L fI (.ref cda) cc))) []) _ _ _
  rw [he] at hargs ⊢
  refine kxs_callWith (i := ini) (x := x) (by show (false || (backTo q5 (starEach er (ksEnv qn sc L fI (.ref cda) cc))).any (·.1)) = false; rw [hpl]; rfl) ?_
  refine evalArgs_plain (hargs _ hn2 _ ⟨hu, ?_⟩)
  refine call_mw T (X.keeps kk) hu (kk _ _ hx) hus fun h' t1 k e => ?_
  refine hq h' _ t1 (fun b o hb q => k b o hb (kk b o q)) e ?_
  exact Heap.Ns.at hn2 fun o q => k _ o (Ne.symm hxL) q
/-- self.f = v on an error that has no dict yet -/
theorem set_new (T : ErrC prog K mg B nw ini bmB xn C fI) {x t0 : Addr} {v : Value} {Q : Unit → Shared → Prop} (X : K.In s.heap) (hx : s.heap.get? x = some (excObj C t0 none .none)) (noF : findIn K (.ref C) f = some none)
    (hq : ∀ h' tk dx, InitEnd s.heap h' x C dx t0 (fun y => if y = f then some v else none) → Q () { s with heap := h', toks := tk }) :
    wpAny (model prog w) A (setAttr (.ref x) f v) Q E s := by
  obtain ⟨cd, hcd, hh⟩ : ∃ cd, clsIn K C = some cd ∧ cd.hasDict = true := by
    have h1 := T.hdC
    unfold hasDictIn at h1
    exact any_some h1
  have ht : takerIn K C f = some none := by unfold takerIn; rw [noF]; rfl
  obtain ⟨hp, g, d, t, os⟩ := s
  refine set_plain X (ox := excObj C t0 none .none) (od := none) ⟨hx, rfl, rfl, trivial⟩ T.sa ?_
  refine osa_openX (od := none) T.SF X ⟨hx, rfl, rfl, trivial⟩ T.ov ht fun b => ?_
  have hxs : x ≠ hp.objs.size := Nat.ne_of_lt (Heap.lt_size hx)
  refine wpAny_bind (wpAny_pure (wpAny_bind (instanceDict_exc hx (looks_clsIn X hcd) hh ?_)))
  show wpAny _ _ (storeInDict hp.objs.size (.str f _) f v) _ _ _
  have hx1 : (hp.push (dictOf [] 0)).get? x = some (excObj C t0 none .none) := Heap.get?_push_of_some _ hx
  refine PX.store_in_new ?_ fun h' tk' hn' hs => ?_
  · exact ⟨_, #[], _, (Heap.get?_update_ne _ _ _ _ hxs.symm).trans (Heap.get?_push_at rfl rfl), rfl, fun e he => absurd he (by simp), fun _ => rfl⟩
  · refine hq h' tk' hp.objs.size ⟨fun b o hb ho => ?_, ?_, Nat.le_refl _, hxs.symm, hn'⟩
    · exact (hs.2 b (Nat.ne_of_lt (Heap.lt_size ho))).trans ((Heap.get?_update_ne _ _ _ _ hb).trans (Heap.get?_push_of_some _ ho))
    · exact (hs.2 x hxs).trans (Heap.get?_update_self _ hx1 rfl)
/-- self.f = v on an error that has its dict -/
theorem set_old (T : ErrC prog K mg B nw ini bmB xn C fI) {x t0 dx : Addr} {v : Value} {m0 : Str → Option Value} {nl : List Str} {Q : Unit → Shared → Prop} (X : K.In s.heap) (hx : s.heap.get? x = some (excObj C t0 (some dx) .none)) (noF : findIn K (.ref C) f = some none)
    (hns : s.heap.Ns1 dx m0) (hw : Within m0 nl) (hz : nl.length ≤ 1000)
    (hq : ∀ h' tk, (∀ b o, b ≠ dx → s.heap.get? b = some o → h'.get? b = some o) → h'.Ns1 dx (fun y => if y = f then some v else m0 y) → Q () { s with heap := h', toks := tk }) :
    wpAny (model prog w) A (setAttr (.ref x) f v) Q E s := by
  have ht : takerIn K C f = some none := by unfold takerIn; rw [noF]; rfl
  obtain ⟨hp, g, d, t, os⟩ := s
  obtain ⟨oD, esD, epD, hoD, hdD, _⟩ := hns.count hw
  refine set_plain X (ox := excObj C t0 (some dx) .none) (od := some oD) ⟨hx, rfl, rfl, hoD⟩ T.sa ?_
  refine osa_openX (od := some oD) T.SF X ⟨hx, rfl, rfl, hoD⟩ T.ov ht fun b => ?_
  refine wpAny_bind (wpAny_pure (wpAny_bind ?_))
  unfold ownDictForStores
  refine wpAny_bind (wpAny_loadPart hx ?_)
  obtain ⟨cd, hcd, hh⟩ : ∃ cd, clsIn K C = some cd ∧ cd.hasDict = true := by
    have h1 := T.hdC
    unfold hasDictIn at h1
    exact any_some h1
  dsimp only
  refine wpAny_bind ((looks_clsIn X hcd).at ?_)
  rw [hh]
  refine wpAny_pure ?_
  show wpAny _ _ (storeInDict dx (.str f _) f v) _ _ _
  refine PX.store_in_old hns hw hz fun h' tk' hn' hs => ?_
  exact hq h' tk' (fun b o hb ho => (hs.2 b hb).trans ho) hn'
/-- the name that a local holds -/
theorem ldK {qn : Str} {sc : Scope} {L cc : Addr} {cd : Value} {m : Str → Option Value} {y : Str} {pos : Pos} {v : Value} {Q : Value → Shared → Prop} (hn : s.heap.Ns L m) (hv : m y = some v) (hk : sc.kind = .function) (hl : sc.names.lookup y = some .local) (hd : (y == ("__debug__" : Str)) = false) (h : Q v s) :
    wpAny (model prog w) A (eval (.Name y pos) (ksEnv qn sc L fI cd cc)) Q E s := wpAny_Name (wpAny_loadName_local hk hl hn hv h) hd
theorem init1 (T : ErrC prog K mg B nw ini bmB xn C fI) (N : Fn1 prog K C fI f) (M : Nm1 f) (noF : findIn K (.ref C) f = some none) {x t0 : Addr} {v : Value} {args : Args} (X : K.In s.heap) (G : s.heap.Ns mainGlobals mg) (Bl : ∃ mb, s.heap.Ns builtinsNs mb ∧ mb "super" = bootBuiltins "super")
    (hlim : s.heap.NoLimit) (hx : s.heap.get? x = some (excObj C t0 none .none)) (hnx : K.lookup x = none) (hroom : A.depth < recursionLimit)
    (hbind : ∀ (qn : Str) (p1 p2 : Pos) (b : List Stmt) (kV doc pm : Value) (an : Option Addr) (cdv ct : Value) (cc : Addr), BindsTo s (ksFn "__init__" qn (iA1 f p1 p2) b (iS1 f) .none kV doc pm an cdv ct cc) args [("self", .ref x), (f, v)])
    (hq : ∀ h' tk dx t1, InitEnd s.heap h' x C dx t1 (fun y => if y = f then some v else none) → R (.ok (.ret .none)) { s with heap := h', toks := tk }) :
    codeAny (model prog w) A (.call (.ref fI) args) R s := by
  obtain ⟨oc, od, osl, qn, kV, doc, pm, an, cda, ct, cc, p1, p2, q1, q2, q3, q4, q5, r1, r2, r3, r4, ccl, cdd, vs, ccs, file, tf, cl, cld, csl, hfn, hcd, hcode, hvs, hfile, hline, hcell⟩ := N
  obtain ⟨mb, hmb, esup⟩ := Bl
  refine ks_codeAny_call_defAt (binds := [("self", .ref x), (f, v)]) hroom (X _ _ hfn) rfl hlim (codeRec_of X hcd) rfl (hbind _ _ _ _ _ _ _ _ _ _ _) M.n ?_ (fun h1 hn1 k1 => ?_) rfl rfl rfl
  · intro y hy
    rcases List.mem_cons.mp hy with rfl | hy
    · exact M.s
    · rcases List.mem_cons.mp hy with rfl | hy
      · exact M.l
      · cases hy
  · have hxL : x ≠ s.heap.objs.size := Nat.ne_of_lt (Heap.lt_size hx)
    have mf : (fun y => ([(("self" : Str), Value.ref x), (f, v)].reverse).lookup y) f = some v := by
      show (List.lookup f [(f, v), (("self" : Str), Value.ref x)]) = some v
      simp [List.lookup]
    refine ks_wpAt_execs_cons ?_
    refine sup_stmt (s := { s with heap := h1, toks := s.toks + 2 }) (us := [v]) T (X.keeps k1) (G.keeps k1) (hmb.keeps k1) esup hfn (ar := ⟨"self", none, p1⟩) rfl rfl hcode hvs hfile hcell rfl M.s M.c M.u hn1 (M.m _ _) (k1 _ _ hx) hxL
      (fun s1 hs1 Q' q' => ?_) (by rfl) (by rfl) (by rw [sizeLine_eq]; exact (by decide : 1 ≤ 16777216)) (by rfl) (supEval hline (by rfl)) (fun h2 tk2 t1 k2 e2 hn2 => ?_)
    · refine spliced_cons (ldK hs1 mf rfl M.l M.d ?_)
      exact spliced_nil q'
    · have X2 : K.In h2 := fun a o e => by
        refine k2 a o (fun z => ?_) (k1 _ _ (X a o e))
        rw [z, hnx] at e
        cases e
      refine ks_wpAt_execs_cons ?_
      refine ks_wpAt_Assign_Attr ?_ (by rfl)
      refine wpAt_of_wpAny (ldK hn2 mf rfl M.l M.d (ldK hn2 (M.m _ _) rfl M.s (by decide +kernel) ?_))
      refine set_new T X2 e2 noF fun h3 tk3 dx ie => ?_
      refine wpAt_of_wpAny (wpAny_execs_nil ?_)
      have z1 : s.heap.objs.size < h1.objs.size := hn1.lt
      have z2 : s.heap.objs.size < h2.objs.size := hn2.lt
      exact hq h3 tk3 dx t1 ⟨fun b o hb q => ie.keep b o hb (k2 b o hb (k1 b o q)), ie.obj, Nat.le_of_lt (Nat.lt_of_lt_of_le z2 ie.dbig), ie.dne, ie.ns⟩
/-! ### the class is called -/
variable {g : Array GenState} {d : Drawn} {t : Nat} {os : OsState} {hp : Heap}
theorem chk_new (T : ErrC prog K mg B nw ini bmB xn C fI) {us : List Value} {kw : List (Str × Value)} {M : Model} {Q : Unit → Shared → Prop} (X : K.In hp) (hq : Q () ⟨hp, g, d, t, os⟩) :
    wpAny M A (checkBuiltinCall nw ⟨.ref C :: us, kw⟩) Q E ⟨hp, g, d, t, os⟩ := by
  obtain ⟨nm, N', qn, bs, bm, hdct, sn, sub, ab, col, dd, k0, k1, k2, k3, k5, hC, hT⟩ := excInit_of X T.q
  have hc : (Value.ref C :: bm).contains (.type B) = true := by
    rw [List.contains_cons, hT, T.FB.hasB]
    exact Bool.or_true _
  have hstar := T.FB.noStar
  simp only [checkBuiltinCall, T.FB.newKind, T.FB.newSplit, T.FB.newRow]
  repeat (first
    | refine wpAny_loadPart_at hC ?_
    | (refine wpAny_isSubtype_exc hC ?_; rw [hc])
    | refine wpAny_staticBase_exc hC ?_
    | refine wpAny_madeBy_exc hC ?_
    | simp only [bne_self_eq_false, Bool.false_eq_true, if_false]
    | wp_step)
  exact hq
theorem run_new (T : ErrC prog K mg B nw ini bmB xn C fI) {us : List Value} {kw : List (Str × Value)} (X : K.In hp) (hz : us.length ≤ sizeLine)
    (hq : R (.ok (.ret (.ref (hp.objs.size + 1)))) ⟨(hp.push (excTup us)).push (excObj C hp.objs.size none .none), g, d, t, os⟩) :
    codeAny (model prog w) A (.builtin nw ⟨.ref C :: us, kw⟩) R ⟨hp, g, d, t, os⟩ := by
  obtain ⟨nm, N', qn, bs, bm, hdct, sn, sub, ab, col, dd, k0, k1, k2, k3, k5, hC, hT⟩ := excInit_of X T.q
  have hends := T.FB.ends
  have c1 : (Value.ref C :: bm).contains (.type B) = true := by
    rw [List.contains_cons, hT, T.FB.hasB]
    exact Bool.or_true _
  have c2 : (Value.ref C :: bm).contains (.type "AttributeError") = false := by
    rw [List.contains_cons, hT, T.FB.noAttr] <;> rfl
  have c3 : (Value.ref C :: bm).contains (.type "NameError") = false := by
    rw [List.contains_cons, hT, T.FB.noName] <;> rfl
  refine codeAny_builtinAt T.FB.entry ?_
  unfold Builtin.«BaseException.__new__»
  refine _root_.PySem.wpAt_bind ?_
  show _root_.PySem.wpAt _ _ _ (stack >>= _) _ _ _
  refine _root_.PySem.wpAt_bind (_root_.PySem.wpAt_stack fun p below => _root_.PySem.wpAt_of_wpAny ?_)
  wp_walk
  refine _root_.PySem.wpAt_of_wpAny ?_
  rw [T.FB.owner]
  repeat (first
    | with_reducible refine wpAny_madeHere_exc T.FB.canon hC ?_
    | with_reducible refine wpAny_loadPart_at hC ?_
    | (with_reducible refine wpAny_isSubtype_exc hC ?_; first | rw [c1] | rw [c2] | rw [c3])
    | wp_step)
  show R _ _
  rw [Heap.size_push]
  exact hq
theorem run_type (T : ErrC prog K mg B nw ini bmB xn C fI) {us : List Value} {kw : List (Str × Value)} {Q : Fin → Shared → Prop} (X : K.In hp) (hz : us.length ≤ sizeLine)
    (hq : codeAny (model prog w) A (.call (.ref fI) ⟨.ref (hp.objs.size + 1) :: us, kw⟩)
      (fun r s' => match r with | .ok (.ret v) => v = .none ∧ Q (.done (.ret (.ref (hp.objs.size + 1)))) s' | .ok _ => False | .error e => E e s') ⟨(hp.push (excTup us)).push (excObj C hp.objs.size none .none), g, d, t, os⟩) :
    wpAny (model prog w) A (Builtin.«type.__call__» ⟨.ref C :: us, kw⟩) Q E ⟨hp, g, d, t, os⟩ := by
  obtain ⟨nm, N', qn, bs, bm, hdct, sn, sub, ab, col, dd, k0, k1, k2, k3, k5, hC, hT⟩ := excInit_of X T.q
  repeat (first
    | with_reducible refine wpAny_loadPart_at hC ?_
    | with_reducible refine wpAny_madeBy_exc hC ?_
    | wp_step)
  refine codeAny_call_builtin_code (Code.quiet_builtin _ T.FB.quiet) (chk_new T X ?_)
  refine run_new T X hz ?_
  show wpAny _ _ _ _ _ _
  have k : ∀ b o, hp.get? b = some o → ((hp.push (excTup us)).push (excObj C hp.objs.size none .none)).get? b = some o := fun b o e =>
    Heap.get?_push_of_some _ (Heap.get?_push_of_some _ e)
  have hC1 := k _ _ hC
  have hx : ((hp.push (excTup us)).push (excObj C hp.objs.size none .none)).get? (hp.objs.size + 1) = some (excObj C hp.objs.size none .none) := by heap_get
  have hcC : (Value.ref C :: bm).contains (.ref C) = true := by simp
  have i1 := (looks_findIn (M := model prog w) X T.hi).keeps k
  have b1 := bind_fn (M := model prog w) (X.keeps k) (.ref (hp.objs.size + 1)) (beq_iff_eq.mp T.hf)
  unfold isInstance
  repeat (first
    | with_reducible refine wpAny_loadPart_at hx ?_
    | (with_reducible refine wpAny_isSubtype_exc hC1 ?_; rw [hcC])
    | wp_step)
  show wpAny _ _ (typeLookup (.ref C) _) _ _ _
  refine i1.at ?_
  refine wpAny_holding (wpAny_bind (b1.at ?_))
  refine wpAny_bind (wpAny_call (codeAny_mono hq fun r s' z => ?_))
  rcases r with e | (v | _ | _ | _) <;> first | exact z | exact z.elim | skip
  obtain ⟨rfl, z⟩ := z
  first
    | exact wpAny_pure (wpAny_pure z)
    | (wp_walk; exact z)
theorem chk_type {M : Model} {us : List Value} {kw : List (Str × Value)} {Q : Unit → Shared → Prop} (T : ErrC prog K mg B nw ini bmB xn C fI) (X : K.In hp) (hq : Q () ⟨hp, g, d, t, os⟩) :
    wpAny M A (checkBuiltinCall "type.__call__" ⟨.ref C :: us, kw⟩) Q E ⟨hp, g, d, t, os⟩ := by
  obtain ⟨nm, N', qn, bs, bm, hdct, sn, sub, ab, col, dd, k0, k1, k2, k3, k5, hC, hT⟩ := excInit_of X T.q
  have f3 := tc_sub
  have hT : (⟨hp, g, d, t, os⟩ : Shared).TypeIs (.ref C) "type" := ⟨_, hC, rfl⟩
  simp only [checkBuiltinCall, tc_kind, tc_split]
  repeat (any_goals (first
    | assumption
    | with_reducible refine wpAny_loadPart_at hC ?_
    | with_reducible refine wpAny_onRaise ?_
    | with_reducible refine wpAny_map ?_
    | wp_step))
theorem run_cls (T : ErrC prog K mg B nw ini bmB xn C fI) {us : List Value} {kw : List (Str × Value)} (X : K.In hp) (hz : us.length ≤ sizeLine)
    (hq : codeAny (model prog w) (A.under (.builtin "type.__call__" ⟨.ref C :: us, kw⟩)) (.call (.ref fI) ⟨.ref (hp.objs.size + 1) :: us, kw⟩) (InitBack (hp.objs.size + 1) R)
      ⟨(hp.push (excTup us)).push (excObj C hp.objs.size none .none), g, d, t, os⟩) :
    codeAny (model prog w) A (.call (.ref C) ⟨us, kw⟩) R ⟨hp, g, d, t, os⟩ := by
  obtain ⟨nm, N', qn, bs, bm, hdct, sn, sub, ab, col, dd, k0, k1, k2, k3, k5, hC, hT⟩ := excInit_of X T.q
  have f1 := tc_lookup
  have f2 := tc_bind (.ref C)
  have hTy : (⟨hp, g, d, t, os⟩ : Shared).TypeIs (.ref C) "type" := ⟨_, hC, rfl⟩
  refine codeAny_of_tree ?_
  show wpAny _ _ (callAny (.ref C) _) _ _ _
  repeat (any_goals (first
    | assumption
    | with_reducible refine wpAny_loadPart_at hC ?_
    | wp_step))
  refine ⟨rfl, ?_⟩
  refine codeAny_call_builtin_at (Code.quiet_builtin _ (by decide +kernel)) entry_typeCall (chk_type T X (run_type T X hz ?_))
  refine codeAny_mono hq fun r s' z => ?_
  rcases r with e | (v | _ | _ | _) <;> exact z
/-- a made error: at e, its dict at d -/
structure Made (h h' : Heap) (e C d : Addr) (m : Str → Option Value) : Prop where
  keep : ∀ b o, h.get? b = some o → h'.get? b = some o
  new : h.objs.size ≤ e
  obj : ∃ t1 : Addr, h'.get? e = some (excObj C t1 (some d) .none)
  dbig : h.objs.size ≤ d
  dne : d ≠ e
  ns : h'.Ns1 d m
theorem fresh_K (X : K.In hp) (n : Nat) : K.lookup (hp.objs.size + n) = none := by
  cases e : K.lookup (hp.objs.size + n) with
  | none => rfl
  | some o => exact absurd (Nat.lt_of_le_of_lt (Nat.le_add_right _ n) (Heap.lt_size (X _ _ e))) (Nat.lt_irrefl _)
/-- C(v), C(f = v) -/
theorem made1 (T : ErrC prog K mg B nw ini bmB xn C fI) (N : Fn1 prog K C fI f) (M : Nm1 f) (noF : findIn K (.ref C) f = some none) {v : Value} {us : List Value} {kw : List (Str × Value)} (X : K.In s.heap) (G : s.heap.Ns mainGlobals mg) (Bl : ∃ mb, s.heap.Ns builtinsNs mb ∧ mb "super" = bootBuiltins "super")
    (hlim : s.heap.NoLimit) (hroom : A.depth + 1 < recursionLimit) (hz : us.length ≤ sizeLine)
    (hbind : ∀ (s' : Shared) (x : Addr) (qn : Str) (p1 p2 : Pos) (b : List Stmt) (kV doc pm : Value) (an : Option Addr) (cdv ct : Value) (cc : Addr), BindsTo s' (ksFn "__init__" qn (iA1 f p1 p2) b (iS1 f) .none kV doc pm an cdv ct cc) ⟨.ref x :: us, kw⟩ [("self", .ref x), (f, v)])
    (hq : ∀ h' tk e dx, Made s.heap h' e C dx (fun y => if y = f then some v else none) → R (.ok (.ret (.ref e))) { s with heap := h', toks := tk }) :
    codeAny (model prog w) A (.call (.ref C) ⟨us, kw⟩) R s := by
  obtain ⟨hp, g, d, t, os⟩ := s
  have k : ∀ b o, hp.get? b = some o → ((hp.push (excTup us)).push (excObj C hp.objs.size none .none)).get? b = some o := fun b o e =>
    Heap.get?_push_of_some _ (Heap.get?_push_of_some _ e)
  have hx : ((hp.push (excTup us)).push (excObj C hp.objs.size none .none)).get? (hp.objs.size + 1) = some (excObj C hp.objs.size none .none) := by heap_get
  obtain ⟨mb, hmb, esup⟩ := Bl
  refine run_cls T X hz ?_
  refine init1 (s := ⟨(hp.push (excTup us)).push (excObj C hp.objs.size none .none), g, d, t, os⟩) T N M noF (X.keeps k) (G.keeps k) ⟨mb, hmb.keeps k, esup⟩ (hlim.keeps k) hx (fresh_K X 1) hroom (hbind _ _) fun h' tk dx t1 ie => ?_
  have old : ∀ b o, hp.get? b = some o → h'.get? b = some o := fun b o e => ie.keep b o (Nat.ne_of_lt (Nat.lt_succ_of_lt (Heap.lt_size e))) (k b o e)
  have z : hp.objs.size + 1 + 1 ≤ dx := by
    have q := ie.dbig
    rw [Heap.size_push, Heap.size_push] at q
    exact q
  exact ⟨rfl, hq h' tk (hp.objs.size + 1) dx ⟨old, Nat.le_succ _, ⟨t1, ie.obj⟩, (show hp.objs.size ≤ dx by omega), ie.dne, ie.ns⟩⟩
theorem init2 {f1 f2 : Str} (T : ErrC prog K mg B nw ini bmB xn C fI) (N : Fn2 prog K C fI f1 f2) (M : Nm2 f1 f2) (no1 : findIn K (.ref C) f1 = some none) (no2 : findIn K (.ref C) f2 = some none) {x t0 : Addr} {v1 v2 : Value} {args : Args} (X : K.In s.heap) (G : s.heap.Ns mainGlobals mg) (Bl : ∃ mb, s.heap.Ns builtinsNs mb ∧ mb "super" = bootBuiltins "super")
    (hlim : s.heap.NoLimit) (hx : s.heap.get? x = some (excObj C t0 none .none)) (hnx : K.lookup x = none) (hroom : A.depth < recursionLimit)
    (hbind : ∀ (qn : Str) (p1 p2 p3 : Pos) (b : List Stmt) (kV doc pm : Value) (an : Option Addr) (cdv ct : Value) (cc : Addr), BindsTo s (ksFn "__init__" qn (iA2 f1 f2 p1 p2 p3) b (iS2 f1 f2) .none kV doc pm an cdv ct cc) args [("self", .ref x), (f1, v1), (f2, v2)])
    (hq : ∀ h' tk dx t1, InitEnd s.heap h' x C dx t1 (fun y => if y = f2 then some v2 else if y = f1 then some v1 else none) → R (.ok (.ret .none)) { s with heap := h', toks := tk }) :
    codeAny (model prog w) A (.call (.ref fI) args) R s := by
  obtain ⟨oc, od, osl, qn, kV, doc, pm, an, cda, ct, cc, p1, p2, p3, q1, q2, q3, q4, q6, q5, r1, r2, r3, r4, u1, u2, u3, u4, ccl, cdd, vs, ccs, file, tf, cl, cld, csl, hfn, hcd, hcode, hvs, hfile, hline, hcell⟩ := N
  obtain ⟨mb, hmb, esup⟩ := Bl
  refine ks_codeAny_call_defAt (binds := [("self", .ref x), (f1, v1), (f2, v2)]) hroom (X _ _ hfn) rfl hlim (codeRec_of X hcd) rfl (hbind _ _ _ _ _ _ _ _ _ _ _ _) M.n ?_ (fun h1 hn1 k1 => ?_) rfl rfl rfl
  · intro y hy
    rcases List.mem_cons.mp hy with rfl | hy
    · exact M.s
    · rcases List.mem_cons.mp hy with rfl | hy
      · exact M.l1
      · rcases List.mem_cons.mp hy with rfl | hy
        · exact M.l2
        · cases hy
  · have hxL : x ≠ s.heap.objs.size := Nat.ne_of_lt (Heap.lt_size hx)
    have mf1 : (fun y => ([(("self" : Str), Value.ref x), (f1, v1), (f2, v2)].reverse).lookup y) f1 = some v1 := M.m1 _ _ _
    have mf2 : (fun y => ([(("self" : Str), Value.ref x), (f1, v1), (f2, v2)].reverse).lookup y) f2 = some v2 := by
      show (List.lookup f2 [(f2, v2), (f1, v1), (("self" : Str), Value.ref x)]) = some v2
      simp [List.lookup]
    refine ks_wpAt_execs_cons ?_
    refine sup_stmt (s := { s with heap := h1, toks := s.toks + 3 }) (us := [v1, v2]) T (X.keeps k1) (G.keeps k1) (hmb.keeps k1) esup hfn (ar := ⟨"self", none, p1⟩) rfl rfl hcode hvs hfile hcell rfl M.s M.c M.u hn1 (M.m _ _ _) (k1 _ _ hx) hxL
      (fun s1 hs1 Q' q' => ?_) (by rfl) (by rfl) (by rw [sizeLine_eq]; exact (by decide : 2 ≤ 16777216)) (by rfl) (supEval hline (by rfl)) (fun h2 tk2 t1 k2 e2 hn2 => ?_)
    · refine spliced_cons (ldK hs1 mf1 rfl M.l1 M.d1 ?_)
      refine spliced_cons (ldK hs1 mf2 rfl M.l2 M.d2 ?_)
      exact spliced_nil q'
    · have X2 : K.In h2 := fun a o e => by
        refine k2 a o (fun z => ?_) (k1 _ _ (X a o e))
        rw [z, hnx] at e
        cases e
      have z2 : s.heap.objs.size < h2.objs.size := hn2.lt
      refine ks_wpAt_execs_cons ?_
      refine ks_wpAt_Assign_Attr ?_ (by rfl)
      refine wpAt_of_wpAny (ldK hn2 mf1 rfl M.l1 M.d1 (ldK hn2 (M.m _ _ _) rfl M.s (by decide +kernel) ?_))
      refine set_new T X2 e2 no1 fun h3 tk3 dx ie => ?_
      have X3 : K.In h3 := fun a o e => by
        refine ie.keep a o (fun z => ?_) (X2 a o e)
        rw [z, hnx] at e
        cases e
      have hLd : s.heap.objs.size ≠ dx := Nat.ne_of_lt (Nat.lt_of_lt_of_le z2 ie.dbig)
      have hn3 : h3.Ns s.heap.objs.size (fun y => ([(("self" : Str), Value.ref x), (f1, v1), (f2, v2)].reverse).lookup y) := Heap.Ns.at hn2 fun o q => ie.keep _ o (Ne.symm hxL) q
      refine wpAt_of_wpAny (wpAny_execs_cons (plainObj_wpAny_Assign_Attribute ?_))
      refine ldK hn3 mf2 rfl M.l2 M.d2 (ldK hn3 (M.m _ _ _) rfl M.s (by decide +kernel) ?_)
      refine set_old (nl := [f1]) T X3 ie.obj no2 ie.ns (fun y hy => ?_) (show 1 ≤ 1000 by decide) fun h4 tk4 k4 ns4 => ?_
      · by_cases e : y = f1
        · rw [e]
          exact List.mem_singleton.mpr rfl
        · exact absurd (if_neg e) hy
      · refine wpAny_execs_nil ?_
        exact hq h4 tk4 dx t1 ⟨fun b o hb q => k4 b o (Nat.ne_of_lt (Nat.lt_of_lt_of_le (Nat.lt_trans (Heap.lt_size q) z2) ie.dbig)) (ie.keep b o hb (k2 b o hb (k1 b o q))), k4 _ _ (Ne.symm ie.dne) ie.obj, Nat.le_of_lt (Nat.lt_of_lt_of_le z2 ie.dbig), ie.dne, ns4⟩
theorem made2 {f1 f2 : Str} (T : ErrC prog K mg B nw ini bmB xn C fI) (N : Fn2 prog K C fI f1 f2) (M : Nm2 f1 f2) (no1 : findIn K (.ref C) f1 = some none) (no2 : findIn K (.ref C) f2 = some none) {v1 v2 : Value} {us : List Value} {kw : List (Str × Value)} (X : K.In s.heap) (G : s.heap.Ns mainGlobals mg) (Bl : ∃ mb, s.heap.Ns builtinsNs mb ∧ mb "super" = bootBuiltins "super")
    (hlim : s.heap.NoLimit) (hroom : A.depth + 1 < recursionLimit) (hz : us.length ≤ sizeLine)
    (hbind : ∀ (s' : Shared) (x : Addr) (qn : Str) (p1 p2 p3 : Pos) (b : List Stmt) (kV doc pm : Value) (an : Option Addr) (cdv ct : Value) (cc : Addr), BindsTo s' (ksFn "__init__" qn (iA2 f1 f2 p1 p2 p3) b (iS2 f1 f2) .none kV doc pm an cdv ct cc) ⟨.ref x :: us, kw⟩ [("self", .ref x), (f1, v1), (f2, v2)])
    (hq : ∀ h' tk e dx, Made s.heap h' e C dx (fun y => if y = f2 then some v2 else if y = f1 then some v1 else none) → R (.ok (.ret (.ref e))) { s with heap := h', toks := tk }) :
    codeAny (model prog w) A (.call (.ref C) ⟨us, kw⟩) R s := by
  obtain ⟨hp, g, d, t, os⟩ := s
  have k : ∀ b o, hp.get? b = some o → ((hp.push (excTup us)).push (excObj C hp.objs.size none .none)).get? b = some o := fun b o e =>
    Heap.get?_push_of_some _ (Heap.get?_push_of_some _ e)
  have hx : ((hp.push (excTup us)).push (excObj C hp.objs.size none .none)).get? (hp.objs.size + 1) = some (excObj C hp.objs.size none .none) := by heap_get
  obtain ⟨mb, hmb, esup⟩ := Bl
  refine run_cls T X hz ?_
  refine init2 (s := ⟨(hp.push (excTup us)).push (excObj C hp.objs.size none .none), g, d, t, os⟩) T N M no1 no2 (X.keeps k) (G.keeps k) ⟨mb, hmb.keeps k, esup⟩ (hlim.keeps k) hx (fresh_K X 1) hroom (hbind _ _) fun h' tk dx t1 ie => ?_
  have old : ∀ b o, hp.get? b = some o → h'.get? b = some o := fun b o e => ie.keep b o (Nat.ne_of_lt (Nat.lt_succ_of_lt (Heap.lt_size e))) (k b o e)
  have z : hp.objs.size + 1 + 1 ≤ dx := by
    have q := ie.dbig
    rw [Heap.size_push, Heap.size_push] at q
    exact q
  exact ⟨rfl, hq h' tk (hp.objs.size + 1) dx ⟨old, Nat.le_succ _, ⟨t1, ie.obj⟩, (show hp.objs.size ≤ dx by omega), ie.dne, ie.ns⟩⟩
end
end ErX

/-! The package's errors over the layer: as values, raised, read, asked by isinstance. -/
namespace ErX
open PySem PySem.Spec PyProof.Rows L2
open PySem.W (excObj)
/-- at a: an error of the class at C that nobody has raised, its dict at d -/
def erO (a C : Addr) (d : Option Addr) : HO := .ext fun h => ∃ t1 : Addr, h.get? a = some (excObj C t1 d .none)
theorem erO_ok {P : Program} {w : World} {H : Hp} {h : Heap} {a C t1 : Addr} {d : Option Addr} (e : h.get? a = some (excObj C t1 d .none)) : ObjOk P w H h a (erO a C d) :=
  ⟨⟨t1, e⟩, ⟨_, e⟩, fun _ _ ⟨t, q⟩ k => ⟨t, k _ q⟩⟩
theorem erO_at {P : Program} {w : World} {H : Hp} {h : Heap} {a C : Addr} {d : Option Addr} (hok : HOk P w H h) (e : H a = some (erO a C d)) : ∃ t1 : Addr, h.get? a = some (excObj C t1 d .none) := by
  have x : ObjOk P w H h a (.ext fun h => ∃ t1 : Addr, h.get? a = some (excObj C t1 d .none)) := hok a _ e
  exact x.1
section
variable {X : Cx} {pins : List (Addr × Obj)} {σ : L2.St} {H : Hp} {s : Shared}
/-- behind the making: the dict is tracked, the error's object not yet -/
theorem made_apart {h' : Heap} {e C d : Addr} {m : Str → Option Value} {fs : List (Str × V)} {tk : Nat} (I : Inv X pins σ H s) (M : Made s.heap h' e C d m) (r : ∀ f, RelO (fs.lookup f) (m f)) :
    ∃ G : Heap, (∀ b, b ≠ e → G.get? b = h'.get? b) ∧ G.get? e = none ∧ Inv X pins σ (upd H d (.xd fs)) { s with heap := G, toks := tk } := by
  obtain ⟨G, g1, g2⟩ := restrict h' fun b => decide (b ≠ e)
  have gk : ∀ b, b ≠ e → G.get? b = h'.get? b := fun b hb => g1 b (decide_eq_true hb)
  have ge : G.get? e = none := g2 e (by simp)
  have old : ∀ b o, s.heap.get? b = some o → G.get? b = some o := fun b o q => (gk b (Nat.ne_of_lt (Nat.lt_of_lt_of_le (Heap.lt_size q) M.new))).trans (M.keep b o q)
  exact ⟨G, gk, ge, I.laid (t' := tk) old M.dbig ⟨_, M.ns.at (fun o q => (gk d M.dne).trans q), r⟩⟩
theorem made_val {h' : Heap} {e C d : Addr} {m : Str → Option Value} {fs : List (Str × V)} {tk : Nat} (I : Inv X pins σ H s) (M : Made s.heap h' e C d m) (r : ∀ f, RelO (fs.lookup f) (m f)) :
    Inv X pins σ (upd (upd H d (.xd fs)) e (erO e C (some d))) { s with heap := h', toks := tk } ∧ H e = none ∧ H d = none := by
  obtain ⟨G, gk, ge, J⟩ := made_apart (tk := tk) I M r
  obtain ⟨t1, he⟩ := M.obj
  have hn : H e = none := I.hok.fresh M.new
  have hn2 : upd H d (.xd fs) e = none := by
    rw [upd_ne (Ne.symm M.dne)]
    exact hn
  have k : ∀ b u, G.get? b = some u → h'.get? b = some u := fun b u q => by
    by_cases hb : b = e
    · rw [hb, ge] at q
      cases q
    · exact (gk b hb).symm.trans q
  exact ⟨J.laidN (t' := tk) k ge hn2 (erO_ok he), hn, I.hok.fresh M.dbig⟩
theorem relO_1 {f : Str} {v : V} {u : Value} (r : RelV v u) (y : Str) : RelO (List.lookup y [(f, v)]) (if y = f then some u else none) := by
  by_cases h : y = f
  · subst h
    have q : List.lookup y [(y, v)] = some v := by simp [List.lookup]
    rw [if_pos rfl, q]
    exact r
  · have qw : (y == f) = false := by simpa using h
    have q : List.lookup y [(f, v)] = none := by simp [List.lookup, qw]
    rw [if_neg h, q]
    trivial
theorem relO_2 {f1 f2 : Str} {v1 v2 : V} {u1 u2 : Value} (r1 : RelV v1 u1) (r2 : RelV v2 u2) (y : Str) : RelO (List.lookup y [(f2, v2), (f1, v1)]) (if y = f2 then some u2 else if y = f1 then some u1 else none) := by
  by_cases h : y = f2
  · subst h
    have q : List.lookup y [(y, v2), (f1, v1)] = some v2 := by simp [List.lookup]
    rw [if_pos rfl, q]
    exact r2
  · have qw : (y == f2) = false := by simpa using h
    have q : List.lookup y [(f2, v2), (f1, v1)] = List.lookup y [(f1, v1)] := by simp [List.lookup, qw]
    rw [if_neg h, q]
    exact relO_1 r1 y
end
/-- one error class with one field, as the layer uses it -/
structure Er1 (P : Program) (K : PySem.W.Frag) (mg : Str → Option Value) (B : String) (x : Str) (C : Addr) (f : Str) : Prop where
  ex : ∃ nw ini bmB fI, ErrC P K mg B nw ini bmB x C fI ∧ Fn1 P K C fI f
  nm : Nm1 f
  no : PySem.W.findIn K (.ref C) f = some none
  bp : ∀ (s' : Shared) (a : Addr) (v : Value) (qn : Str) (p1 p2 : Pos) (b : List Stmt) (kV doc pm : Value) (an : Option Addr) (cdv ct : Value) (cc : Addr),
    BindsTo s' (PySem.W.ksFn "__init__" qn (iA1 f p1 p2) b (iS1 f) .none kV doc pm an cdv ct cc) ⟨[.ref a, v], []⟩ [("self", .ref a), (f, v)]
  bk : ∀ (s' : Shared) (a : Addr) (v : Value) (qn : Str) (p1 p2 : Pos) (b : List Stmt) (kV doc pm : Value) (an : Option Addr) (cdv ct : Value) (cc : Addr),
    BindsTo s' (PySem.W.ksFn "__init__" qn (iA1 f p1 p2) b (iS1 f) .none kV doc pm an cdv ct cc) ⟨[.ref a], [(f, v)]⟩ [("self", .ref a), (f, v)]
theorem nm_value : Nm1 "value" := ⟨by decide +kernel, by decide +kernel, by decide +kernel, by decide +kernel, by decide +kernel, fun _ _ => by rfl, by decide +kernel⟩
theorem bp_value (s' : Shared) (a : Addr) (v : Value) (qn : Str) (p1 p2 : Pos) (b : List Stmt) (kV doc pm : Value) (an : Option Addr) (cdv ct : Value) (cc : Addr) :
    BindsTo s' (PySem.W.ksFn "__init__" qn (iA1 "value" p1 p2) b (iS1 "value") .none kV doc pm an cdv ct cc) ⟨[.ref a, v], []⟩ [("self", .ref a), ("value", v)] := BindsTo.of_eq (by first | rfl | with_unfolding_all rfl)
theorem bk_value (s' : Shared) (a : Addr) (v : Value) (qn : Str) (p1 p2 : Pos) (b : List Stmt) (kV doc pm : Value) (an : Option Addr) (cdv ct : Value) (cc : Addr) :
    BindsTo s' (PySem.W.ksFn "__init__" qn (iA1 "value" p1 p2) b (iS1 "value") .none kV doc pm an cdv ct cc) ⟨[.ref a], [("value", v)]⟩ [("self", .ref a), ("value", v)] := BindsTo.of_eq (by first | rfl | with_unfolding_all rfl)
theorem nm_field : Nm1 "field" := ⟨by decide +kernel, by decide +kernel, by decide +kernel, by decide +kernel, by decide +kernel, fun _ _ => by rfl, by decide +kernel⟩
theorem bp_field (s' : Shared) (a : Addr) (v : Value) (qn : Str) (p1 p2 : Pos) (b : List Stmt) (kV doc pm : Value) (an : Option Addr) (cdv ct : Value) (cc : Addr) :
    BindsTo s' (PySem.W.ksFn "__init__" qn (iA1 "field" p1 p2) b (iS1 "field") .none kV doc pm an cdv ct cc) ⟨[.ref a, v], []⟩ [("self", .ref a), ("field", v)] := BindsTo.of_eq (by first | rfl | with_unfolding_all rfl)
theorem bk_field (s' : Shared) (a : Addr) (v : Value) (qn : Str) (p1 p2 : Pos) (b : List Stmt) (kV doc pm : Value) (an : Option Addr) (cdv ct : Value) (cc : Addr) :
    BindsTo s' (PySem.W.ksFn "__init__" qn (iA1 "field" p1 p2) b (iS1 "field") .none kV doc pm an cdv ct cc) ⟨[.ref a], [("field", v)]⟩ [("self", .ref a), ("field", v)] := BindsTo.of_eq (by first | rfl | with_unfolding_all rfl)
theorem nm_index : Nm1 "index" := ⟨by decide +kernel, by decide +kernel, by decide +kernel, by decide +kernel, by decide +kernel, fun _ _ => by rfl, by decide +kernel⟩
theorem bp_index (s' : Shared) (a : Addr) (v : Value) (qn : Str) (p1 p2 : Pos) (b : List Stmt) (kV doc pm : Value) (an : Option Addr) (cdv ct : Value) (cc : Addr) :
    BindsTo s' (PySem.W.ksFn "__init__" qn (iA1 "index" p1 p2) b (iS1 "index") .none kV doc pm an cdv ct cc) ⟨[.ref a, v], []⟩ [("self", .ref a), ("index", v)] := BindsTo.of_eq (by first | rfl | with_unfolding_all rfl)
theorem bk_index (s' : Shared) (a : Addr) (v : Value) (qn : Str) (p1 p2 : Pos) (b : List Stmt) (kV doc pm : Value) (an : Option Addr) (cdv ct : Value) (cc : Addr) :
    BindsTo s' (PySem.W.ksFn "__init__" qn (iA1 "index" p1 p2) b (iS1 "index") .none kV doc pm an cdv ct cc) ⟨[.ref a], [("index", v)]⟩ [("self", .ref a), ("index", v)] := BindsTo.of_eq (by first | rfl | with_unfolding_all rfl)
theorem nm_limit : Nm1 "limit" := ⟨by decide +kernel, by decide +kernel, by decide +kernel, by decide +kernel, by decide +kernel, fun _ _ => by rfl, by decide +kernel⟩
theorem bp_limit (s' : Shared) (a : Addr) (v : Value) (qn : Str) (p1 p2 : Pos) (b : List Stmt) (kV doc pm : Value) (an : Option Addr) (cdv ct : Value) (cc : Addr) :
    BindsTo s' (PySem.W.ksFn "__init__" qn (iA1 "limit" p1 p2) b (iS1 "limit") .none kV doc pm an cdv ct cc) ⟨[.ref a, v], []⟩ [("self", .ref a), ("limit", v)] := BindsTo.of_eq (by first | rfl | with_unfolding_all rfl)
theorem bk_limit (s' : Shared) (a : Addr) (v : Value) (qn : Str) (p1 p2 : Pos) (b : List Stmt) (kV doc pm : Value) (an : Option Addr) (cdv ct : Value) (cc : Addr) :
    BindsTo s' (PySem.W.ksFn "__init__" qn (iA1 "limit" p1 p2) b (iS1 "limit") .none kV doc pm an cdv ct cc) ⟨[.ref a], [("limit", v)]⟩ [("self", .ref a), ("limit", v)] := BindsTo.of_eq (by first | rfl | with_unfolding_all rfl)
theorem nm_key : Nm1 "key" := ⟨by decide +kernel, by decide +kernel, by decide +kernel, by decide +kernel, by decide +kernel, fun _ _ => by rfl, by decide +kernel⟩
theorem bp_key (s' : Shared) (a : Addr) (v : Value) (qn : Str) (p1 p2 : Pos) (b : List Stmt) (kV doc pm : Value) (an : Option Addr) (cdv ct : Value) (cc : Addr) :
    BindsTo s' (PySem.W.ksFn "__init__" qn (iA1 "key" p1 p2) b (iS1 "key") .none kV doc pm an cdv ct cc) ⟨[.ref a, v], []⟩ [("self", .ref a), ("key", v)] := BindsTo.of_eq (by first | rfl | with_unfolding_all rfl)
theorem bk_key (s' : Shared) (a : Addr) (v : Value) (qn : Str) (p1 p2 : Pos) (b : List Stmt) (kV doc pm : Value) (an : Option Addr) (cdv ct : Value) (cc : Addr) :
    BindsTo s' (PySem.W.ksFn "__init__" qn (iA1 "key" p1 p2) b (iS1 "key") .none kV doc pm an cdv ct cc) ⟨[.ref a], [("key", v)]⟩ [("self", .ref a), ("key", v)] := BindsTo.of_eq (by first | rfl | with_unfolding_all rfl)
theorem nm_pressed : Nm1 "pressed" := ⟨by decide +kernel, by decide +kernel, by decide +kernel, by decide +kernel, by decide +kernel, fun _ _ => by rfl, by decide +kernel⟩
theorem bp_pressed (s' : Shared) (a : Addr) (v : Value) (qn : Str) (p1 p2 : Pos) (b : List Stmt) (kV doc pm : Value) (an : Option Addr) (cdv ct : Value) (cc : Addr) :
    BindsTo s' (PySem.W.ksFn "__init__" qn (iA1 "pressed" p1 p2) b (iS1 "pressed") .none kV doc pm an cdv ct cc) ⟨[.ref a, v], []⟩ [("self", .ref a), ("pressed", v)] := BindsTo.of_eq (by first | rfl | with_unfolding_all rfl)
theorem bk_pressed (s' : Shared) (a : Addr) (v : Value) (qn : Str) (p1 p2 : Pos) (b : List Stmt) (kV doc pm : Value) (an : Option Addr) (cdv ct : Value) (cc : Addr) :
    BindsTo s' (PySem.W.ksFn "__init__" qn (iA1 "pressed" p1 p2) b (iS1 "pressed") .none kV doc pm an cdv ct cc) ⟨[.ref a], [("pressed", v)]⟩ [("self", .ref a), ("pressed", v)] := BindsTo.of_eq (by first | rfl | with_unfolding_all rfl)
section
variable {X : Cx} {B : String} {x : Str} {C : Addr} {f : Str} {k : Nat} {e : Expr} {ta : TA} {p pos : Pos}
theorem blt_super {pins : List (Addr × Obj)} {σ : L2.St} {H : Hp} {s : Shared} (I : Inv X pins σ H s) : ∃ mb, s.heap.Ns builtinsNs mb ∧ mb "super" = bootBuiltins "super" := by
  obtain ⟨mb, h1, h2⟩ := I.ok.mod.blt
  exact ⟨mb, h1.keeps I.bk, h2 _ (by decide)⟩
theorem run_err1 {pins : List (Addr × Obj)} {σ : L2.St} {H : Hp} {s : Shared} {A : Around} {R : Result → Shared → Prop} {v : V} {u : Value} {us : List Value} {kw : List (Str × Value)} (T : Er1 X.prog X.K X.mg B x C f) (I : Inv X pins σ H s) (rv : RelV v u) (hr : A.depth + 1 < recursionLimit)
    (ha : (us = [u] ∧ kw = []) ∨ (us = [] ∧ kw = [(f, u)]))
    (hq : ∀ h' tk a d, Made s.heap h' a C d (fun y => if y = f then some u else none) → R (.ok (.ret (.ref a))) { s with heap := h', toks := tk }) :
    codeAny (model X.prog X.w) A (.call (.ref C) ⟨us, kw⟩) R s := by
  obtain ⟨nw, ini, bmB, fI, TC, TF⟩ := T.ex
  have G : s.heap.Ns mainGlobals X.mg := I.ok.mod.glob.keeps I.bk
  rcases ha with ⟨rfl, rfl⟩ | ⟨rfl, rfl⟩
  · exact made1 TC TF T.nm T.no I.kIn G (blt_super I) I.nolimit hr (by rw [sizeLine_eq]; exact (by decide : 1 ≤ 16777216)) (fun s' a => T.bp s' a u) hq
  · exact made1 TC TF T.nm T.no I.kIn G (blt_super I) I.nolimit hr (Nat.zero_le _) (fun s' a => T.bk s' a u) hq
/-- C(e) as a value -/
def tErr1 (C : Addr) (f : Str) (ta : TA) : TE := fun σ H Q => ta σ H fun vs H1 => ∃ v, vs = [v] ∧ ∀ a d, H1 a = none → H1 d = none → d ≠ a → Q (.ref a) (upd (upd H1 d (.xd [(f, v)])) a (erO a C (some d)))
theorem val_err1 {pins : List (Addr × Obj)} {σ : L2.St} {H : Hp} {s : Shared} {Q : VK} {v : V} {u : Value} {us : List Value} {kw : List (Str × Value)} (T : Er1 X.prog X.K X.mg B x C f) (I : Inv X pins σ H s) (rv : RelV v u) (hr : X.A.depth + 1 < recursionLimit)
    (ha : (us = [u] ∧ kw = []) ∨ (us = [] ∧ kw = [(f, u)])) (q : ∀ a d, H a = none → H d = none → d ≠ a → Q (.ref a) (upd (upd H d (.xd [(f, v)])) a (erO a C (some d)))) :
    wpAny (model X.prog X.w) X.A (call (.ref C) us kw) (EP X pins σ Q) X.xe s := by
  refine wpAny_call (run_err1 T I rv hr ha fun h' tk a d M => ?_)
  obtain ⟨J, n1, n2⟩ := made_val (fs := [(f, v)]) (tk := tk) I M (relO_1 rv)
  exact ⟨.ref a, _, J, rfl, q a d n1 n2 M.dne⟩
theorem pe_err1 (T : Er1 X.prog X.K X.mg B x C f) (hr : Room k X.A) (hg : Gl X x) (ha : PA X [e] ta) (hdb : (x == ("__debug__" : Str)) = false := by decide)
    (he : starEach (e :: []) X.env = (false, eval e X.env) :: starEach [] X.env := by rfl) (hpl : (backTo pos (starEach [] X.env)).any (·.1) = false := by rfl) :
    PE X (.Call (.Name x p) [e] [] pos) (tErr1 C f ta) := by
  obtain ⟨nw, ini, bmB, fI, TC, TF⟩ := T.ex
  refine ⟨fun pins s σ H Q I h => ?_⟩
  refine wpAny_Call_Name_kw (ld_glob I hg TC.gC ?_ hdb)
  refine PySem.W.callWith_K (h₀ := X.base) I.ok.mod.kin TC.kC (thn (ha.run pos pins s σ H _ I h) fun us s1 hh => ?_) he hpl
  obtain ⟨vs, H1, I1, r1, v, ev, q1⟩ := hh
  subst ev
  refine ⟨I1.kIn, ?_⟩
  cases r1 with
  | cons rv rn =>
    cases rn
    exact val_err1 T I1 rv (by have := hr.dp; omega) (.inl ⟨rfl, rfl⟩) q1
/-- C(f = e) as a value -/
theorem pe_err1k {ta : TE} {kp : Pos} (T : Er1 X.prog X.K X.mg B x C f) (hr : Room k X.A) (hg : Gl X x) (ha : PE X e ta) (hdb : (x == ("__debug__" : Str)) = false := by decide)
    (hall : (backToKw pos (keywordEach [⟨some f, e, kp⟩] X.env)).all (·.1.isSome) = true := by rfl) (hks : (backToKw pos (keywordEach [⟨some f, e, kp⟩] X.env)).filterMap (·.1) = [f] := by rfl)
    (hpl : ((backTo pos (starEach [] X.env)).any (·.1) || (backToKw pos (keywordEach [⟨some f, e, kp⟩] X.env)).any (·.1.isNone)) = false := by rfl) :
    PE X (.Call (.Name x p) [] [⟨some f, e, kp⟩] pos) (tErr1 C f (tCons ta tNil)) := by
  obtain ⟨nw, ini, bmB, fI, TC, TF⟩ := T.ex
  refine ⟨fun pins s σ H Q I h => ?_⟩
  refine wpAny_Call_Name_kw (ld_glob I hg TC.gC ?_ hdb)
  refine PySem.W.callWith_KW0 (h₀ := X.base) I.ok.mod.kin TC.kC hall ?_ hpl
  refine thn ((pk_cons ha pk_nil).run pos pins s σ H _ I h) fun ws s2 ⟨zs, H2, I2, rz, q2⟩ => ⟨I2.kIn, ?_⟩
  obtain ⟨v, ev, q1⟩ := q2
  subst ev
  rw [hks]
  cases rz with
  | cons rv rn =>
    cases rn
    exact val_err1 T I2 rv (by have := hr.dp; omega) (.inr ⟨rfl, rfl⟩) q1
end
/-! ### two fields: mode and key -/
structure Er2 (P : Program) (K : PySem.W.Frag) (mg : Str → Option Value) (B : String) (x : Str) (C : Addr) (f1 f2 : Str) : Prop where
  ex : ∃ nw ini bmB fI, ErrC P K mg B nw ini bmB x C fI ∧ Fn2 P K C fI f1 f2
  nm : Nm2 f1 f2
  no1 : PySem.W.findIn K (.ref C) f1 = some none
  no2 : PySem.W.findIn K (.ref C) f2 = some none
  bp : ∀ (s' : Shared) (a : Addr) (v1 v2 : Value) (qn : Str) (p1 p2 p3 : Pos) (b : List Stmt) (kV doc pm : Value) (an : Option Addr) (cdv ct : Value) (cc : Addr),
    BindsTo s' (PySem.W.ksFn "__init__" qn (iA2 f1 f2 p1 p2 p3) b (iS2 f1 f2) .none kV doc pm an cdv ct cc) ⟨[.ref a, v1, v2], []⟩ [("self", .ref a), (f1, v1), (f2, v2)]
  bk : ∀ (s' : Shared) (a : Addr) (v1 v2 : Value) (qn : Str) (p1 p2 p3 : Pos) (b : List Stmt) (kV doc pm : Value) (an : Option Addr) (cdv ct : Value) (cc : Addr),
    BindsTo s' (PySem.W.ksFn "__init__" qn (iA2 f1 f2 p1 p2 p3) b (iS2 f1 f2) .none kV doc pm an cdv ct cc) ⟨[.ref a], [(f2, v2), (f1, v1)]⟩ [("self", .ref a), (f1, v1), (f2, v2)]
theorem nm_mk : Nm2 "mode" "key" := ⟨by decide +kernel, by decide +kernel, by decide +kernel, by decide +kernel, by decide +kernel, by decide +kernel, fun _ _ _ => by rfl, fun _ _ _ => by rfl, by decide +kernel, by decide +kernel, by decide +kernel⟩
theorem bp_mk (s' : Shared) (a : Addr) (v1 v2 : Value) (qn : Str) (p1 p2 p3 : Pos) (b : List Stmt) (kV doc pm : Value) (an : Option Addr) (cdv ct : Value) (cc : Addr) :
    BindsTo s' (PySem.W.ksFn "__init__" qn (iA2 "mode" "key" p1 p2 p3) b (iS2 "mode" "key") .none kV doc pm an cdv ct cc) ⟨[.ref a, v1, v2], []⟩ [("self", .ref a), ("mode", v1), ("key", v2)] := BindsTo.of_eq (by first | rfl | with_unfolding_all rfl)
theorem bk_mk (s' : Shared) (a : Addr) (v1 v2 : Value) (qn : Str) (p1 p2 p3 : Pos) (b : List Stmt) (kV doc pm : Value) (an : Option Addr) (cdv ct : Value) (cc : Addr) :
    BindsTo s' (PySem.W.ksFn "__init__" qn (iA2 "mode" "key" p1 p2 p3) b (iS2 "mode" "key") .none kV doc pm an cdv ct cc) ⟨[.ref a], [("key", v2), ("mode", v1)]⟩ [("self", .ref a), ("mode", v1), ("key", v2)] := BindsTo.of_eq (by first | rfl | with_unfolding_all rfl)
section
variable {X : Cx} {B : String} {x : Str} {C : Addr} {f1 f2 : Str} {k : Nat} {e e' : Expr} {ta : TA} {p pos : Pos}
theorem run_err2 {pins : List (Addr × Obj)} {σ : L2.St} {H : Hp} {s : Shared} {A : Around} {R : Result → Shared → Prop} {u1 u2 : Value} {us : List Value} {kw : List (Str × Value)} (T : Er2 X.prog X.K X.mg B x C f1 f2) (I : Inv X pins σ H s) (hr : A.depth + 1 < recursionLimit)
    (ha : (us = [u1, u2] ∧ kw = []) ∨ (us = [] ∧ kw = [(f2, u2), (f1, u1)]))
    (hq : ∀ h' tk a d, Made s.heap h' a C d (fun y => if y = f2 then some u2 else if y = f1 then some u1 else none) → R (.ok (.ret (.ref a))) { s with heap := h', toks := tk }) :
    codeAny (model X.prog X.w) A (.call (.ref C) ⟨us, kw⟩) R s := by
  obtain ⟨nw, ini, bmB, fI, TC, TF⟩ := T.ex
  have G : s.heap.Ns mainGlobals X.mg := I.ok.mod.glob.keeps I.bk
  rcases ha with ⟨rfl, rfl⟩ | ⟨rfl, rfl⟩
  · exact made2 TC TF T.nm T.no1 T.no2 I.kIn G (blt_super I) I.nolimit hr (by rw [sizeLine_eq]; exact (by decide : 2 ≤ 16777216)) (fun s' a => T.bp s' a u1 u2) hq
  · exact made2 TC TF T.nm T.no1 T.no2 I.kIn G (blt_super I) I.nolimit hr (Nat.zero_le _) (fun s' a => T.bk s' a u1 u2) hq
def tErr2 (C : Addr) (f1 f2 : Str) (g : List V → List V) (ta : TA) : TE := fun σ H Q => ta σ H fun vs H1 => ∃ v1 v2, g vs = [v1, v2] ∧ vs.length = 2 ∧ ∀ a d, H1 a = none → H1 d = none → d ≠ a → Q (.ref a) (upd (upd H1 d (.xd [(f2, v2), (f1, v1)])) a (erO a C (some d)))
theorem val_err2 {pins : List (Addr × Obj)} {σ : L2.St} {H : Hp} {s : Shared} {Q : VK} {v1 v2 : V} {u1 u2 : Value} {us : List Value} {kw : List (Str × Value)} (T : Er2 X.prog X.K X.mg B x C f1 f2) (I : Inv X pins σ H s) (r1 : RelV v1 u1) (r2 : RelV v2 u2) (hr : X.A.depth + 1 < recursionLimit)
    (ha : (us = [u1, u2] ∧ kw = []) ∨ (us = [] ∧ kw = [(f2, u2), (f1, u1)])) (q : ∀ a d, H a = none → H d = none → d ≠ a → Q (.ref a) (upd (upd H d (.xd [(f2, v2), (f1, v1)])) a (erO a C (some d)))) :
    wpAny (model X.prog X.w) X.A (call (.ref C) us kw) (EP X pins σ Q) X.xe s := by
  refine wpAny_call (run_err2 T I hr ha fun h' tk a d M => ?_)
  obtain ⟨J, n1, n2⟩ := made_val (fs := [(f2, v2), (f1, v1)]) (tk := tk) I M (relO_2 r1 r2)
  exact ⟨.ref a, _, J, rfl, q a d n1 n2 M.dne⟩
theorem pe_err2 (T : Er2 X.prog X.K X.mg B x C f1 f2) (hr : Room k X.A) (hg : Gl X x) (ha : PA X [e, e'] ta) (hdb : (x == ("__debug__" : Str)) = false := by decide)
    (he : starEach [e, e'] X.env = (false, eval e X.env) :: starEach [e'] X.env := by rfl) (hpl : (backTo pos (starEach [e'] X.env)).any (·.1) = false := by rfl) :
    PE X (.Call (.Name x p) [e, e'] [] pos) (tErr2 C f1 f2 id ta) := by
  obtain ⟨nw, ini, bmB, fI, TC, TF⟩ := T.ex
  refine ⟨fun pins s σ H Q I h => ?_⟩
  refine wpAny_Call_Name_kw (ld_glob I hg TC.gC ?_ hdb)
  refine PySem.W.callWith_K (h₀ := X.base) I.ok.mod.kin TC.kC (thn (ha.run pos pins s σ H _ I h) fun us s1 hh => ?_) he hpl
  obtain ⟨vs, H1, I1, r1, v1, v2, ev, _, q1⟩ := hh
  have ev2 : vs = [v1, v2] := ev
  subst ev2
  refine ⟨I1.kIn, ?_⟩
  cases r1 with
  | cons rv rn =>
    cases rn with
    | cons rw rn =>
      cases rn
      exact val_err2 T I1 rv rw (by have := hr.dp; omega) (.inl ⟨rfl, rfl⟩) q1
theorem pe_err2k {t1 t2 : TE} {kp kp' : Pos} (T : Er2 X.prog X.K X.mg B x C f1 f2) (hr : Room k X.A) (hg : Gl X x) (ha : PE X e t2) (hb : PE X e' t1) (hdb : (x == ("__debug__" : Str)) = false := by decide)
    (hall : (backToKw pos (keywordEach [⟨some f2, e, kp⟩, ⟨some f1, e', kp'⟩] X.env)).all (·.1.isSome) = true := by rfl) (hks : (backToKw pos (keywordEach [⟨some f2, e, kp⟩, ⟨some f1, e', kp'⟩] X.env)).filterMap (·.1) = [f2, f1] := by rfl)
    (hpl : ((backTo pos (starEach [] X.env)).any (·.1) || (backToKw pos (keywordEach [⟨some f2, e, kp⟩, ⟨some f1, e', kp'⟩] X.env)).any (·.1.isNone)) = false := by rfl) :
    PE X (.Call (.Name x p) [] [⟨some f2, e, kp⟩, ⟨some f1, e', kp'⟩] pos) (tErr2 C f1 f2 List.reverse (tCons t2 (tCons t1 tNil))) := by
  obtain ⟨nw, ini, bmB, fI, TC, TF⟩ := T.ex
  refine ⟨fun pins s σ H Q I h => ?_⟩
  refine wpAny_Call_Name_kw (ld_glob I hg TC.gC ?_ hdb)
  refine PySem.W.callWith_KW0 (h₀ := X.base) I.ok.mod.kin TC.kC hall ?_ hpl
  refine thn ((pk_cons ha (pk_cons hb pk_nil)).run pos pins s σ H _ I h) fun ws s2 ⟨zs, H2, I2, rz, q2⟩ => ⟨I2.kIn, ?_⟩
  obtain ⟨v1, v2, ev, hl, q1⟩ := q2
  rw [hks]
  match zs, hl, ev, rz with
  | [a, b], _, ev, rz =>
    have ev2 : [b, a] = [v1, v2] := ev
    injection ev2 with e1 e2
    injection e2 with e3 _
    subst e1 e3
    cases rz with
    | cons rv rn =>
      cases rn with
      | cons rw rn =>
        cases rn
        exact val_err2 T I2 rw rv (by have := hr.dp; omega) (.inr ⟨rfl, rfl⟩) q1
end
/-! ### no field: C() of a class without an __init__ of its own -/
section
variable {X : Cx} {x : Str} {C : Addr} {p pos : Pos}
def tErr0 (C : Addr) : TE := fun _ H Q => ∀ a, H a = none → Q (.ref a) (upd H a (erO a C none))
theorem pe_err0 {bmB : List Value} {B newId initId : String} (F : ExcBaseFacts B newId initId bmB) (q : PySem.W.excIn X.K C bmB newId = true) (gC : X.mg x = some (.ref C)) (kC : PySem.W.keepIn X.K (.ref C) = true) (hg : Gl X x) (hdb : (x == ("__debug__" : Str)) = false := by decide) :
    PE X (.Call (.Name x p) [] [] pos) (tErr0 C) := by
  refine ⟨fun pins s σ H Q I h => ?_⟩
  refine wpAny_Call_Name_kw (ld_glob I hg gC ?_ hdb)
  refine PySem.W.callWith_K0 I.kIn kC ?_
  obtain ⟨bm, N, nm, qn, bs, hdct, sn, sub, ab, col, dd, k0, k1, k2, k3, k5, mN, hC, hN, hni, T⟩ := exc_obj I.kIn q
  refine wpAny_call_exc_subT F T hC hN hni (fun h' a hm => ?_) (Nat.zero_le _)
  have hn : H a = none := I.hok.gone hm.new
  obtain ⟨t, ht, _, _⟩ := hm.there
  exact ⟨.ref a, upd H a (erO a C none), I.laidN hm.keeps hm.new hn (erO_ok ht), rfl, h a hn⟩
end
/-! ### e.f, isinstance(e, T) of an error that stands as a value -/
/-- at a: an error value of the class at C with these fields -/
def ErrV (H : Hp) (a C : Addr) (fs : List (Str × V)) : Prop := (fs = [] ∧ H a = some (erO a C none)) ∨ ∃ d, H a = some (erO a C (some d)) ∧ H d = some (.xd fs)
theorem ErrV.same {H H' : Hp} {a C : Addr} {fs : List (Str × V)} (s : Same H H') (h : ErrV H a C fs) : ErrV H' a C fs := by
  rcases h with ⟨e, h⟩ | ⟨d, h1, h2⟩
  · exact .inl ⟨e, s _ _ h⟩
  · exact .inr ⟨d, s _ _ h1, s _ _ h2⟩
section
variable {X : Cx} {pins : List (Addr × Obj)} {σ : L2.St} {H : Hp} {s : Shared}
theorem ErrV.inst {a C : Addr} {fs : List (Str × V)} (I : Inv X pins σ H s) (h : ErrV H a C fs) : ∃ ox od, PySem.W.InstAt s.heap a ox C od ∧
    (fs ≠ [] → ∃ (o2 : Obj) (mA : Str → Option Value), od = some o2 ∧ (∀ f, PySem.W.lookIn f o2 = some (mA f)) ∧ ∀ f, RelO (fs.lookup f) (mA f)) := by
  rcases h with ⟨e, h⟩ | ⟨d, h1, h2⟩
  · obtain ⟨t1, ho⟩ := erO_at I.hok h
    exact ⟨_, none, ⟨ho, rfl, rfl, trivial⟩, fun z => absurd e z⟩
  · obtain ⟨t1, ho⟩ := erO_at I.hok h1
    have hx : ObjOk X.prog X.w H s.heap d (.xd fs) := I.hok d _ h2
    obtain ⟨mA, hns, hr⟩ := hx
    obtain ⟨od, hd, hl⟩ := lookIn_ns hns
    exact ⟨_, some od, ⟨ho, rfl, rfl, hd⟩, fun _ => ⟨od, mA, rfl, hl, hr⟩⟩
end
section
variable {X : Cx} {e : Expr} {te : TE} {pos : Pos} {n : Str}
def tEfld (K : PySem.W.Frag) (n : Str) (te : TE) : TE := fun σ H Q => te σ H fun x H1 => ∃ a C fs v, x = .ref a ∧ ErrV H1 a C fs ∧ fs.lookup n = some v ∧ XfC K C ∧ PySem.W.findIn K (.ref C) n = some none ∧ Q v H1
theorem pe_efld (he : PE X e te) (hb : attributeBase e n X.env (eval e X.env) = eval e X.env := by rfl) : PE X (.Attribute e n pos) (tEfld X.K n te) := by
  refine ⟨fun pins s σ H Q I h => ?_⟩
  refine attr_of hb (thn (he.run pins s σ H _ I h) fun u s1 hh => ?_)
  obtain ⟨x, H1, I1, rx, a, C, fs, v, ex, hE, hl, T, hno, q⟩ := hh
  subst ex
  obtain rfl : u = Value.ref a := rx
  obtain ⟨ox, od, J, hz⟩ := hE.inst I1
  have hne : fs ≠ [] := fun z => by
    rw [z] at hl
    cases hl
  obtain ⟨o2, mA, rfl, hk, hr⟩ := hz hne
  obtain ⟨u, hu, ru⟩ := RelO.some_of (v := v) (o := mA n) (by rw [← hl]; exact hr n)
  exact HandSPX.exc_get I1.kIn J T.ga T.gg T.exC (PySem.W.findObj_own T.hdC hno rfl (by rw [hk, hu])) (handed_of ru) ⟨v, H1, I1.tok _, ru, q⟩
def rIsV (K : PySem.W.Frag) : List V → Hp → VK → Prop := fun xs H Q => ∃ (a C : Addr) (fs : List (Str × V)) (c : V) (cv : Value) (b : Bool), xs = [.ref a, c] ∧ ErrV H a C fs ∧ ExcC K C ∧ ClsV c cv ∧ (PySem.W.clsIn K C).isSome = true ∧ PySem.W.kitOne K (.ref C) cv = some b ∧ Q (.bl b) H
theorem call_isV : CallR X (.builtin "isinstance") (rIsV X.K) := by
  intro pins s σ H xs us Q I r h
  obtain ⟨a, C, fs, c, cv, b, rfl, hE, D, kc, hc, e, q⟩ := h
  obtain ⟨u1, u2, rfl, r1, r2⟩ := vals2 r
  have e2 := kc.eq r2
  subst e2
  obtain rfl : u1 = Value.ref a := r1
  obtain ⟨ox, od, J, _⟩ := hE.inst I
  exact PySem.W.kia_one (PySem.W.kitx_exc hc D.hg D.hk D.hs D.ha D.hn D.ht D.hm) I.kIn J e (fun z => nomatch z) fun tk => ⟨.bl b, H, I.tok tk, rfl, q⟩
end
end ErX

/-! Calls where no repr is under way (the guards of what runs around are known to be none): what repr tells then. -/
namespace Gd
open PySem PySem.Spec PyProof.Rows L2
/-- as FnOk, told only for calls where no repr is under way -/
structure FnG (P : Program) (w : World) (K : PySem.W.Frag) (mg : Str → Option Value) (base : Heap) (CX : CXT) (k : Nat) (f : Addr) (fd : FuncData) (ps : List Str) (sp : Sp) : Prop where
  len : ∀ vs H Q E, sp vs H Q E → vs.length = ps.length
  go : ∀ (A : Around) (outer : List Env) (s : Shared) (H : Hp) (args : Args) (us : List Value) (vs : List V) (Q : VK) (E : XK), A.guards = some [] → Room k A → Env0 P w K mg base A outer s H →
    BindsTo s fd args (ps.zip us) → Vals vs us → sp vs H Q E → codeAny (model P w) A (.call (.ref f) args) (CR CX outer P w H s Q E) s
/-- a def by its body, the body told where no repr is under way -/
theorem fnG_of {CX : CXT} {P : Program} {w : World} {K : PySem.W.Frag} {mg : Str → Option Value} {base : Heap} {k : Nat} {f : Addr} {fd : FuncData} {x qual : Str} {params : Arguments} {body : List Stmt} {scope : Scope} {dvs : List V} {kws : List (Str × V)} {N ps : List Str} {sp : Sp}
    (F : FunD K x qual params body scope dvs kws f fd) (S : FnScope N ps scope) (len : ∀ vs H Q E, sp vs H Q E → vs.length = ps.length)
    (hbody : ∀ (cdv : Value) (A : Around) (outer : List Env) (s : Shared) (H : Hp) (vs : List V) (Q : VK) (E : XK), (A.deeper (envOfC qual scope s.heap.objs.size f cdv)).guards = some [] → Room k (A.deeper (envOfC qual scope s.heap.objs.size f cdv)) → sp vs H Q E →
      ∃ t, PSs (cxOf CX P w K mg base N qual scope f cdv A outer s H E) body t ∧ t { nx := fun _ H' => Q .non H', rt := Q } (start N vs) H) : FnG P w K mg base CX (k + 1) f fd ps sp := by
  obtain ⟨⟨oc, od, dV, kV, doc, pm, an, cdv, ct, osl, rfl, lk, hcd, _, _⟩, _⟩ := F
  refine ⟨len, fun A outer s H args us vs Q E gA rm e0 bnd rel hsp => ?_⟩
  have lv := len _ _ _ _ hsp
  have below : ∀ b o, base.get? b = some o → s.heap.get? b = some o := fun b o e => (e0.bs b o e).1
  have KX := e0.mod.kin.keeps below
  have sorts : ∀ y ∈ ps.zip us, scope.names.lookup y.1 = some .local ∨ (scope.names.lookup y.1 = some .cell ∧ ((cellsFrom (s.heap.objs.size + 1) scope.names []).lookup y.1).isSome = true) := by
    rintro ⟨n, v⟩ hy
    rcases S.par n (List.of_mem_zip hy).1 with q | q
    · exact .inl q
    · exact .inr ⟨q, PySem.W.cellsFrom_some _ _ _ (.inl q)⟩
  refine codeAny_call_function rm.depth (KX _ _ lk) rfl S.co S.gen rfl (PySem.W.codeRec_of KX hcd) (bnd _ _ _ _ ?_)
  refine wpAny_newFunctionEnv_cells S.kind sorts fun env he s1 ic => ?_
  subst he
  refine ⟨(e0.mod.nolimit.keeps below).keeps ic.toInCall.keep, codeAny_func ?_⟩
  obtain ⟨t, ht, hq⟩ := hbody cdv A outer s H vs Q E gA (rm.deeper _) hsp
  have I0 := inv_start (CX := CX) (E := E) S rm.hd e0 lv rel ic
  refine wpAny_mono (ht.run [] s1 (start N vs) H _ I0 hq) (fun fl s' hs => ?_) fun _ _ z => z
  cases fl with
  | ret u =>
    obtain ⟨v, σ', H', J, rv, q⟩ := hs
    exact ⟨v, H', J.os, J.bare, J.base, J.hok, rv, q⟩
  | next =>
    obtain ⟨σ', H', J, q⟩ := hs
    exact ⟨.non, H', J.os, J.bare, J.base, J.hok, rfl, q⟩
  | brk =>
    obtain ⟨_, _, _, q⟩ := hs
    exact q.elim
  | cont =>
    obtain ⟨_, _, _, q⟩ := hs
    exact q.elim
section
variable {X : Cx} {CX : CXT} {k : Nat} {f : Addr} {fd : FuncData} {ps : List Str} {sp : Sp} {E : XK} {x : Str} {p pos : Pos} {e : Expr} {es : List Expr} {t : TA}
theorem pe_callG (F : FnG X.prog X.w X.K X.mg X.base CX k f fd ps sp) (gA : X.A.guards = some []) (hr : Room k X.A) (hg : Gl X x) (hm : X.mg x = some (.ref f)) (hk : PySem.W.keepIn X.K (.ref f) = true) (hb : Binds X.K fd ps []) (hx : Passes CX X E)
    (ha : PA X (e :: es) t) (hdb : (x == ("__debug__" : Str)) = false := by decide) (he : starEach (e :: es) X.env = (false, eval e X.env) :: starEach es X.env := by rfl) (hpl : (backTo pos (starEach es X.env)).any (·.1) = false := by rfl) :
    PE X (.Call (.Name x p) (e :: es) [] pos) (tCall sp [] E t) := by
  refine ⟨fun pins s σ H Q I h => ?_⟩
  refine wpAny_Call_Name_kw (ld_glob I hg hm ?_ hdb)
  refine PySem.W.callWith_K (h₀ := X.base) I.ok.mod.kin hk (thn (ha.run pos pins s σ H _ I h) fun us s1 hh => ?_) he hpl
  obtain ⟨vs, H1, I1, r, q⟩ := hh
  refine ⟨I1.kIn, ?_⟩
  have q' : sp vs H1 Q E := by
    rw [List.append_nil] at q
    exact q
  have hl : us.length = ps.length := by
    rw [← r.length]
    exact F.len _ _ _ _ q'
  have hb' := hb s1 us I1.kIn (by rw [List.append_nil]; exact hl)
  rw [List.append_nil] at hb'
  refine wpAny_call (codeAny_mono (F.go X.A X.stack s1 H1 ⟨us, []⟩ us vs Q E gA hr I1.env0 hb' r q') fun res s' hq => ?_)
  match res, hq with
  | .error e, hq => exact hx pins σ H1 s1 e s' I1 hq
  | .ok (.ret u), hq => exact I1.after hq
  | .ok .next, hq => exact hq.elim
  | .ok .brk, hq => exact hq.elim
  | .ok .cont, hq => exact hq.elim
end
/-! ### the law's own call: nothing runs around it -/
theorem law_callG {P : Program} {w : World} {K : PySem.W.Frag} {mg mb : Str → Option Value} {CX : CXT} {k : Nat} {fa a : Addr} {fd : FuncData} {x : Str} {sp : Sp} {s1 : Shared} {us : List Value} {ns : List Int}
    (KX : K.In s1.heap) (gl : s1.heap.Ns mainGlobals mg) (bl : s1.heap.Ns builtinsNs mb) (bb : ∀ x : Str, x ≠ "__name__" → mb x = bootBuiltins x) (lim : s1.heap.NoLimit) (gn : s1.gens = #[])
    (ha : s1.heap.get? a = some { cls := .type "list", data := .seq us.toArray }) (hi : IntsAre us ns) (hl : ns.length ≤ sizeLine) (hr : Room k callerA)
    (F : ∀ base : Heap, K.In base → base.Ns mainGlobals mg → FnG P w K mg base CX k fa fd [x] sp) (bnd : ∀ (s : Shared) (u : Value), BindsTo s fd ⟨[u], []⟩ [(x, u)])
    (hsp : ∀ H : Hp, Only H → SqL K H a (ns.map V.int) → sp [.ref a] H (fun v _ => v = .bl true) fun _ _ _ => False)
    (hCX : ∀ H e s', CX [] H s1 (fun _ _ _ => False) e s' → False) :
    codeAny (model P w) callerA (.call (.ref fa) ⟨[.ref a], []⟩) (fun r s' => r = .ok (.ret (.bool true)) ∧ OldK s1.heap s'.heap ∧ s'.os = s1.os ∧ AllBare s'.gens) s1 := by
  have main : ∀ H : Hp, Only H → SqL K H a (ns.map V.int) → HOk P w H s1.heap → (∀ b, H b ≠ none → b = a) → (H a ≠ none → K.lookup a = none) →
      codeAny (model P w) callerA (.call (.ref fa) ⟨[.ref a], []⟩) (fun r s' => r = .ok (.ret (.bool true)) ∧ OldK s1.heap s'.heap ∧ s'.os = s1.os ∧ AllBare s'.gens) s1 := by
    intro H only sq hok oneA notK
    have away : ∀ {b : Addr}, b ≠ a → H b = none := fun {b} hb => by
      cases q : H b with
      | none => rfl
      | some u => exact absurd (oneA b (by rw [q]; simp)) hb
    have inB : ∀ {b : Addr} {o : Obj}, s1.heap.get? b = some o → H b = none → (hidT s1.heap H).get? b = some o := fun e n => hidT_get e n
    have dictN : ∀ {b : Addr} {o : Obj} {es : Array DictEntry} {ep : Nat}, s1.heap.get? b = some o → o.data = .dict es ep → b ≠ a := fun {b o es ep} e d z => by
      rw [z, ha] at e
      cases e
      cases (show Data.seq us.toArray _ = Data.dict es ep from d)
    have nsB : ∀ {b : Addr} {m : Str → Option Value}, s1.heap.Ns b m → (hidT s1.heap H).Ns b m := by
      rintro b m ⟨o, es, ep, e, d, r⟩
      exact ⟨o, es, ep, inB e (away (dictN e d)), d, r⟩
    have KB : K.In (hidT s1.heap H) := fun b o e => inB (KX b o e) (by
      by_cases hb : b = a
      · subst hb
        cases q : H b with
        | none => rfl
        | some u =>
          rw [notK (by rw [q]; simp)] at e
          cases e
      · exact away hb)
    obtain ⟨mc, c1, c2⟩ := lim
    have M : L2.Mod K mg (hidT s1.heap H) := ⟨KB, nsB gl, ⟨mb, nsB bl, bb⟩, ⟨mc, nsB c1, c2⟩⟩
    have e0 : Env0 P w K mg (hidT s1.heap H) callerA [] s1 H :=
      ⟨rfl, M, fun b o e => of_hidT e, Nat.le_of_eq (hidT_size _ _), trivial, (fun b hb => nomatch (show b ∈ ([] : List Addr) from hb)), hok, AllBare.of_eq gn⟩
    refine codeAny_mono ((F _ KB (nsB gl)).go callerA [] s1 H ⟨[.ref a], []⟩ [.ref a] [.ref a] _ _ rfl hr e0 (bnd s1 (.ref a)) (.cons rfl .nil) (hsp H only sq)) fun r s' h => ?_
    match r, h with
    | .error e, h => exact (hCX H e s' h).elim
    | .ok .next, h => exact h.elim
    | .ok .brk, h => exact h.elim
    | .ok .cont, h => exact h.elim
    | .ok (.ret u), h =>
      obtain ⟨v, H', eos, bare, un, hok', rel, q⟩ := h
      have q2 : v = .bl true := q
      subst q2
      obtain rfl : u = Value.bool true := rel
      refine ⟨rfl, OldK.of_keep fun b o e => ?_, eos, bare⟩
      rcases only b with z | ⟨ob, xs, z⟩
      · exact un.keep b o e z (fun y => (nomatch (show b ∈ ([] : List Addr) from y))) (by simp)
      · obtain ⟨e1, _⟩ := hok b _ z
        obtain ⟨e2, _⟩ := hok' b _ (un.frzs b ob _ z)
        rw [e] at e1
        cases e1
        exact e2
  have rv := vals_ints hi
  cases hk : K.lookup a with
  | some o =>
    have e := KX a o hk
    rw [ha] at e
    cases e
    exact main (fun _ => none) (fun _ => .inl rfl) (.inr ⟨_, us.toArray, _, hk, rfl, rfl, rfl, by rw [List.size_toArray, hi.length]; exact hl, by simpa using rv⟩) (fun b u z => (nomatch (show (none : Option HO) = some u from z))) (fun b z => absurd rfl z) fun z => absurd rfl z
  | none =>
    refine main (upd (fun _ => none) a (.frz { cls := .type "list", data := .seq us.toArray } (.lst (ns.map V.int)))) (fun b => ?_) (.inl (.inr ⟨{ cls := .type "list", data := .seq us.toArray }, upd_same⟩)) (fun b u z => ?_) (fun b z => ?_) fun _ => hk
    · by_cases hb : b = a
      · rw [hb]
        exact .inr ⟨_, _, upd_same⟩
      · exact .inl (upd_ne hb)
    · by_cases hb : b = a
      · rw [hb, upd_same] at z
        cases z
        rw [hb]
        exact ⟨ha, by rw [List.length_map]; exact hl, us, _, rv, ha⟩
      · rw [upd_ne hb] at z
        cases z
    · by_cases hb : b = a
      · exact hb
      · exact absurd (upd_ne hb) z
theorem walkG {l : PySem.W.OpenLaw} {n k : Nat} {q : Program} {loose : List Str} {XP : (Str → Option Value) → Heap → Prop} {YP : World → Heap → Prop} {d : DefRec} {CX : World → CXT} {x : Str}
    (hn : l.most = some n) (hn2 : n ≤ sizeLine) (hdf : d.params.defaults = []) (hr : Room k callerA)
    (F : ∀ (w : World) (mg : Str → Option Value) (fa : Addr) (h : Heap), YP w h → h.Ns mainGlobals mg → mg d.name = some (.ref fa) →
      ∃ (K : PySem.W.Frag) (fd : FuncData) (sp : Sp), K.In h ∧ (∀ (s : Shared) (u : Value), BindsTo s fd ⟨[u], []⟩ [(x, u)]) ∧
        (∀ (H : Hp) (a : Addr) (ns : List Int), ns.length ≤ n → Only H → SqL K H a (ns.map V.int) → sp [.ref a] H (fun v _ => v = .bl true) fun _ _ _ => False) ∧
        ∀ base : Heap, K.In base → base.Ns mainGlobals mg → FnG l.prog w K mg base (CX w) k fa fd [x] sp)
    (hCX : ∀ (w : World) (H : Hp) (s : Shared) (e : Value) (s' : Shared), CX w [] H s (fun _ _ _ => False) e s' → False) :
    PySem.W.WalkO q loose XP YP l.row.toRowW d [] (fun f vs => PySem.call f vs) := by
  refine Att.attach_call hn hdf fun w s0 s1 mg mb fa o pm cd doc a us ns G Y ho hd hcd hmg hobj hints hlen hg => ?_
  obtain ⟨K, fd, sp, KX, hb, hsp, hF⟩ := F w mg fa _ Y G.T.g hmg
  exact law_callG KX G.T.g G.T.b G.T.builtins G.T.nolimit hg hobj hints (Nat.le_trans hlen hn2) hr hF hb (fun H hO hS => hsp H a ns hlen hO hS) fun H e s' => hCX w H s1 e s'
/-! ### values as data, dicts of the menu among them -/
/-- v stands for the datum d: plain data, or one of two written dicts -/
def Vd (K : PySem.W.Frag) (H : Hp) (v : V) (d : PyData) : Prop := Dp K H v d ∨ (∃ a, v = .ref a ∧ H a = some (.dK []) ∧ d = .dict []) ∨
  ∃ (a : Addr) (x : Str) (i : Int), v = .ref a ∧ H a = some (.dK [(.inr x, .int i)]) ∧ d = .dict [(.str x, .int i)]
mutual
theorem Dp.noDict {K : PySem.W.Frag} {H : Hp} : ∀ (d : PyData) (v : V), Dp K H v d → d.hasDict = false
  | .none, _, _ => rfl
  | .bool _, _, _ => rfl
  | .int _, _, _ => rfl
  | .str _, _, _ => rfl
  | .list ds, _, h => by
    cases h with
    | lst _ ha => exact Dp.noDictAll ds _ ha
  | .tuple ds, _, h => by
    cases h with
    | tup _ ha => exact Dp.noDictAll ds _ ha
  | .dict _, _, h => by cases h
theorem Dp.noDictAll {K : PySem.W.Frag} {H : Hp} : ∀ (ds : List PyData) (vs : List V), DpAll K H vs ds → PyData.hasDictAll ds = false
  | [], _, _ => rfl
  | d :: ds, _, h => by
    cases h with
    | cons h1 h2 =>
      show (d.hasDict || PyData.hasDictAll ds) = false
      rw [Dp.noDict d _ h1, Dp.noDictAll ds _ h2]
      rfl
end
section
variable {X : Cx} {pins : List (Addr × Obj)} {σ : L2.St} {H : Hp} {s : Shared}
theorem Vd.reads {v : V} {d : PyData} {u : Value} (I : Inv X pins σ H s) (h : Vd X.K H v d) (r : RelV v u) : ∃ as, Reads s.heap u d as ∧ (d.hasDict = true → sysModules ∉ as) := by
  rcases h with h | ⟨a, rfl, ha, rfl⟩ | ⟨a, x, i, rfl, ha, rfl⟩
  · obtain ⟨as, q⟩ := Dp.reads I d v u h r
    exact ⟨as, q, fun z => by rw [Dp.noDict d v h] at z; cases z⟩
  · obtain rfl : u = Value.ref a := r
    obtain ⟨_, hs, vs, kv, o, es, ep, ho, hx, hd, _, hp, _⟩ := (show ObjOk X.prog X.w H s.heap a (.dK []) from I.hok a _ ha)
    cases kv
    have he : es.toList = [] := by
      generalize es.toList = l at hp
      cases hp
      rfl
    refine ⟨_, Reads.dict (kvs := []) ho hx.1 hd (by rw [he]; exact .nil) (by rw [he]; exact .nil), fun _ z => ?_⟩
    have z2 : sysModules = a := by simpa using z
    rw [z2] at hs
    simp at hs
  · obtain rfl : u = Value.ref a := r
    obtain ⟨_, hs, vs, kv, o, es, ep, ho, hx, hd, _, hp, _⟩ := (show ObjOk X.prog X.w H s.heap a (.dK [(.inr x, .int i)]) from I.hok a _ ha)
    obtain ⟨t, rfl⟩ : ∃ t, vs = [(Sum.inr x, Value.int i t)] := by
      match vs, kv with
      | [(q1, q2)], .cons e1 .nil =>
        obtain ⟨k1, t, k2⟩ := e1
        exact ⟨t, by rw [← (show Sum.inr x = q1 from k1), (show q2 = Value.int i t from k2)]⟩
    generalize hl : es.toList = l at hp
    cases hp with
    | @cons en _ _ _ h1 h2 h3 =>
        cases h3
        obtain ⟨t2, hk⟩ : ∃ t2, en.key = Value.str x t2 := by
          rcases keyIs_shape (show keyIs (.inr x) en.key = true from h1) with ⟨j, t2, z, _⟩ | ⟨y, t2, z, e⟩
          · cases z
          · cases z
            exact ⟨t2, e⟩
        have r1 : ReadsAll s.heap (List.map (fun e => e.key) [en]) [.str x] ([] ++ []) := .cons (show Reads s.heap en.key (.str x) [] by rw [hk]; exact .str x t2) .nil
        have r2 : ReadsAll s.heap (List.map (fun e => e.val) [en]) [.int i] ([] ++ []) := .cons (show Reads s.heap en.val (.int i) [] by rw [h2]; exact .int i t) .nil
        refine ⟨_, Reads.dict (kvs := [(.str x, .int i)]) ho hx.1 hd (by rw [hl]; exact r1) (by rw [hl]; exact r2), fun _ z => ?_⟩
        have z2 : sysModules = a := by simpa using z
        rw [z2] at hs
        simp at hs
end
section
variable {X : Cx}
/-- repr(v) where no repr is under way -/
def rRepr (K : PySem.W.Frag) : List V → Hp → VK → Prop := fun xs H Q => ∃ v d, xs = [v] ∧ Vd K H v d ∧ d.showable = true ∧ d.shown.length ≤ sizeLine ∧ d.depth ≤ 60 ∧ Q (.str d.shown) H
theorem call_repr (gA : X.A.guards = some []) (hu : X.A.units + 64 < cLine) : CallR X (.builtin "repr") (rRepr X.K) := by
  intro pins s σ H xs us Q I r h
  obtain ⟨v, d, rfl, hv, h1, h2, h3, q⟩ := h
  obtain ⟨u, rfl, ru⟩ := vals1 r
  obtain ⟨as, rd, hs⟩ := Vd.reads I hv ru
  cases v with
  | ref a =>
    obtain rfl : u = Value.ref a := ru
    exact repr_of_reads' rd h1 hs gA (by omega) (fun _ _ e => e) (fun h' t tk k => ⟨.str _, H, I.kept k, ⟨t, rfl⟩, q⟩) h2
  | non =>
    obtain rfl : u = Value.none := ru
    cases rd
    exact PySem.P.repr_of_none ⟨.str _, H, I.tok _, ⟨_, rfl⟩, q⟩
  | bl b =>
    obtain rfl : u = Value.bool b := ru
    cases rd
    exact PySem.P.repr_of_bool ⟨.str _, H, I.tok _, ⟨_, rfl⟩, q⟩
  | int i =>
    obtain ⟨t, rfl⟩ := ru
    cases rd
    exact PySem.P.repr_of_int (of_decide_eq_true h1) ⟨.str _, H, I.tok _, ⟨_, rfl⟩, q⟩
  | str x =>
    obtain ⟨t, rfl⟩ := ru
    cases rd
    exact PySem.P.repr_of_str ⟨.str _, H, I.tok _, ⟨_, rfl⟩, q⟩ h2
  | byt b =>
    obtain ⟨t, rfl⟩ := ru
    cases rd
  | flt b =>
    obtain ⟨t, rfl⟩ := ru
    cases rd
  | ty n =>
    obtain rfl : u = Value.type n := ru
    cases rd
/-- v != v -/
def rNeSelf (K : PySem.W.Frag) : R2 := fun x y H Q => ∃ d, x = y ∧ Vd K H x d ∧ ((SeqAt.shaped d = true ∧ d.canLay0 = true) ∨ d.hasDict = true) ∧ Q (.bl false) H
theorem op_neSelf (hu : X.A.units + 64 < cLine) : OpR X (compareOp .NotEq) (rNeSelf X.K) := by
  intro pins s σ H x y v u Q I rx ry h
  obtain ⟨d, rfl, hv, hsh, q⟩ := h
  rcases id hv with hd | ⟨a, rfl, ha, rfl⟩ | ⟨a, y, i, rfl, ha, rfl⟩
  · obtain ⟨h2, h3⟩ := hsh.resolve_right (by rw [Dp.noDict d _ hd]; decide)
    refine op_neD hu pins s σ H x x v u Q I rx ry ⟨d, d, hd, hd, h2, h2, ?_⟩
    rw [SeqAt.eqv_refl _ h3]
    exact q
  · exact op_ne_dictA (by omega) pins s σ H _ _ v u Q I rx ry ⟨a, a, _, _, rfl, rfl, ha, ha, rfl, (fun p hp => nomatch hp), q⟩
  · refine op_ne_dictA (by omega) pins s σ H _ _ v u Q I rx ry ⟨a, a, _, _, rfl, rfl, ha, ha, rfl, fun p hp => ?_, q⟩
    obtain rfl : p = (Sum.inr y, V.int i) := by simpa using hp
    exact ⟨by simp [valV], rfl⟩
end
end Gd

/-! What the top has left, read off by one look: any test of the written part, plain defs, and the __init__ of error classes. -/
namespace Hk
open PySem PySem.Spec PyProof.Rows L2
abbrev FnX : Type := Option (Str × Str × Arguments × FuncBody × Scope × Addr × List Str × Value × Addr)
/-- a method's function object, of its closure the names alone -/
def fnX (K : PySem.W.Frag) (p : Str × Option Str) : FnX := match K.lookup (He.fAd K p) with
  | some ⟨_, _, .func fd, _⟩ => some (fd.name, fd.qualname, fd.params, fd.body, fd.scope, fd.globals, fd.closure.map (·.1), fd.defaults, fd.builtins)
  | _ => none
structure IniD where
  cls : Str
  qual : Str
  params : Arguments
  body : List Stmt
  scope : Scope
def IniD.val (d : IniD) : FnX := some ("__init__", d.qual, d.params, .stmts d.body, d.scope, mainGlobals, ["__class__"], .none, builtinsNs)
/-- the closure of an __init__ holds its class; its code is of the program's file -/
def iniB (P : Program) (K : PySem.W.Frag) (d : IniD) : Bool := match K.lookup (He.fAd K (d.cls, some "__init__")) with
  | some ⟨_, _, .func fd, _⟩ => PySem.W.codeIn K fd.code d.qual && ((match fd.closure with
      | [(_, cc)] => (match K.lookup cc with
        | some ⟨_, _, .cell (some v), _⟩ => decide (v = .ref (He.ga K d.cls))
        | _ => false)
      | _ => false) && (match fd.code with
      | .ref cda => (match K.lookup cda with
        | some ⟨_, _, .fields vs, _⟩ => (match (vs[2]? : Option Value) with
          | some (Value.str file _) => decide ((P.main.file : Str) = file)
          | _ => false)
        | _ => false)
      | _ => false))
  | _ => false
abbrev AlX : Type := Bool × List He.FnW × List FnX
structure Sheet where
  prog : Program
  ck : PySem.W.Frag → Bool
  fn : List He.DefD
  ini : List IniD
def obsX (S : Sheet) (K : PySem.W.Frag) : AlX := (S.ck K && (S.fn.all (fun d => d.ok K) && S.ini.all (fun d => iniB S.prog K d)), S.fn.map fun d => He.fnW K d.at_, S.ini.map fun d => fnX K (d.cls, some "__init__"))
def valX (S : Sheet) : AlX := (true, S.fn.map He.DefD.val, S.ini.map IniD.val)
def SaysX (S : Sheet) (K : PySem.W.Frag) : Prop := obsX S K = valX S
def fragX (n : Nat) (g : Addr → Option Obj) : PySem.W.Frag := He.frG g (He.asD g n ++ [cStatics])
def hookX (n : Nat) (S : Sheet) : PySem.W.Hook where
  α := AlX
  obs := fun s => obsX S (fragX n s.heap.get?)
  val := fun _ => valX S
  says := fun _ h => ∃ K : PySem.W.Frag, K.In h ∧ SaysX S K
  of := fun _ _ e => ⟨_, He.frG_in, e⟩
  keeps := fun _ _ _ ⟨K, hK, c⟩ k => ⟨K, PySem.W.Frag.In.keeps hK k, c⟩
theorem obsX_eq {n : Nat} {S : Sheet} {g : Addr → Option Obj} {s : Shared} (h : ∀ a, g a = s.heap.get? a) : obsX S (fragX n g) = (hookX n S).obs s := by
  have e : g = s.heap.get? := funext h
  rw [e] <;> rfl
section
variable {S : Sheet} {K : PySem.W.Frag}
theorem SaysX.ck (c : SaysX S K) : S.ck K = true := (He.ba (congrArg (fun z : AlX => z.1) c)).1
theorem SaysX.def_ (c : SaysX S K) (i : Nat) {d : He.DefD} (h : S.fn[i]? = some d := by rfl) : ∃ fd, FunD K d.name d.qual d.params d.body d.scope (d.dvs K) (d.kws K) (He.fAd K d.at_) fd := by
  have c2 := (He.ba (He.ba (congrArg (fun z : AlX => z.1) c)).2).1
  have e : S.fn.map (fun d => He.fnW K d.at_) = S.fn.map He.DefD.val := congrArg (fun z : AlX => z.2.1) c
  have e2 : (S.fn.map fun d => He.fnW K d.at_)[i]? = (S.fn.map He.DefD.val)[i]? := by rw [e]
  rw [List.getElem?_map, List.getElem?_map, h] at e2
  exact He.DefD.funD (Option.some.inj e2) (List.all_eq_true.mp c2 d (List.mem_of_getElem? h))
/-- the __init__ of the i-th error class -/
theorem SaysX.ini_ (c : SaysX S K) (i : Nat) {d : IniD} (h : S.ini[i]? = some d := by rfl) :
    ∃ (oc : Value) (od : Option Addr) (osl : Array (Option Value)) (kV doc pm : Value) (an : Option Addr) (cda : Addr) (ct : Value) (cc : Addr)
      (ccl : Value) (cdd : Option Addr) (vs : Array Value) (ccs : Array (Option Value)) (file : Str) (tf : Tok) (cl : Value) (cld : Option Addr) (csl : Array (Option Value)),
      K.lookup (He.fAd K (d.cls, some "__init__")) = some ⟨oc, od, .func (PySem.W.ksFn "__init__" d.qual d.params d.body d.scope .none kV doc pm an (.ref cda) ct cc), osl⟩ ∧
      PySem.W.codeIn K (.ref cda) d.qual = true ∧ K.lookup cda = some ⟨ccl, cdd, .fields vs, ccs⟩ ∧ vs[2]? = some (.str file tf) ∧ (S.prog.main.file : Str) = file ∧
      K.lookup cc = some ⟨cl, cld, .cell (some (.ref (He.ga K d.cls))), csl⟩ := by
  have c2 := List.all_eq_true.mp (He.ba (He.ba (congrArg (fun z : AlX => z.1) c)).2).2 d (List.mem_of_getElem? h)
  have e : S.ini.map (fun d => fnX K (d.cls, some "__init__")) = S.ini.map IniD.val := congrArg (fun z : AlX => z.2.2) c
  have e2 : (S.ini.map fun d => fnX K (d.cls, some "__init__"))[i]? = (S.ini.map IniD.val)[i]? := by rw [e]
  rw [List.getElem?_map, List.getElem?_map, h] at e2
  have e3 : fnX K (d.cls, some "__init__") = d.val := Option.some.inj e2
  unfold fnX at e3
  have c3 : iniB S.prog K d = true := c2
  unfold iniB at c3
  cases q : K.lookup (He.fAd K (d.cls, some "__init__")) with
  | none =>
    rw [q] at c3
    cases c3
  | some o =>
    obtain ⟨oc, od, dt, osl⟩ := o
    rw [q] at c3 e3
    cases dt with
    | func fd =>
      obtain ⟨n1, n2, n3, n4, n5, n6, n7, n8, n9, n10, n11, n12, n13, n14, n15⟩ := fd
      have e4 : (some (n1, n2, n3, n4, n5, n6, n7.map (·.1), n8, n15) : FnX) = (some ("__init__", d.qual, d.params, .stmts d.body, d.scope, mainGlobals, ["__class__"], .none, builtinsNs) : FnX) := e3
      simp only [Option.some.injEq, Prod.mk.injEq] at e4
      obtain ⟨h1, h2, h3, h4, h5, h6, h7, h8, h9⟩ := e4
      obtain ⟨c4, c5⟩ := He.ba c3
      obtain ⟨c6, c7⟩ := He.ba c5
      dsimp only at c4 c6 c7 h7
      match n7, h7, c6 with
      | [(y, cc)], h7, c6 =>
        have hy : y = "__class__" := by simpa using h7
        subst hy
        dsimp only at c6
        cases q2 : K.lookup cc with
        | none =>
          rw [q2] at c6
          cases c6
        | some o2 =>
          obtain ⟨cl, cld, dt2, csl⟩ := o2
          rw [q2] at c6
          cases dt2 with
          | cell v =>
            cases v with
            | none => cases c6
            | some v =>
              have hv : v = .ref (He.ga K d.cls) := of_decide_eq_true c6
              subst hv
              cases n13 with
              | ref cda =>
                dsimp only at c7
                cases q3 : K.lookup cda with
                | none =>
                  rw [q3] at c7
                  cases c7
                | some o3 =>
                  obtain ⟨ccl, cdd, dt3, ccs⟩ := o3
                  rw [q3] at c7
                  cases dt3 with
                  | fields vs =>
                    dsimp only at c7
                    cases q4 : vs[2]? with
                    | none =>
                      rw [q4] at c7
                      cases c7
                    | some z =>
                      rw [q4] at c7
                      cases z with
                      | str file tf =>
                        subst h1 h2 h3 h4 h5 h6 h8 h9
                        exact ⟨oc, od, osl, n9, n10, n11, n12, cda, n14, cc, ccl, cdd, vs, ccs, file, tf, cl, cld, csl, rfl, c4, q3, q4, of_decide_eq_true c7, q2⟩
                      | _ => cases c7
                  | _ => cases c7
              | _ => cases c7
          | _ => cases c6
    | _ => cases c3
end
/-! ### an error class -/
def eqO (a b : Option (Option Value)) : Bool := decide (a = b)
/-- all that is asked of an error class x over B, but for its __init__'s object -/
def errB (K : PySem.W.Frag) (B nw ini : String) (bmB : List Value) (x : Str) : Bool :=
  eqO (PySem.W.nsIn K mainGlobals x) (some (some (.ref (He.ga K x)))) && (PySem.W.excInitIn K (He.ga K x) bmB nw && (eqO (PySem.W.findIn K (.ref (He.ga K x)) "__init__") (some (some (.ref (He.ma K (He.ga K x) "__init__")))) &&
  (PySem.W.isFn K (.ref (He.ma K (He.ga K x) "__init__")) && (PySem.W.excOver K (He.ga K x) bmB && (eqO (PySem.W.findIn K (.ref (He.ga K x)) "__setattr__") (some (some (.builtin "object.__setattr__"))) &&
  (PySem.W.keepIn K (.ref (He.ga K x)) && (decide (PySem.W.subIn K (.ref (He.ga K x)) (.type B) = some true) && (decide (PySem.W.typeIn K (.ref (He.ga K x)) = some (.type "type")) &&
  (eqO (PySem.W.nsIn K cStatics "thirdparty.any") (some none) && (eqO (PySem.W.ks_superIn K (He.ga K x) (He.ga K x) "__init__") (some (some (.builtin ini))) && decide (PySem.W.mroIn K (He.ga K x) (.ref (He.ga K x)) = some true)))))))))))
/-- what reading a field and isinstance ask of an error class -/
def excB (K : PySem.W.Frag) (x : Str) : Bool :=
  L2.xfB K (He.ga K x) && (eqO (PySem.W.findIn K (.ref (He.ga K x)) "__class__") (some (some (.builtin "object.__class__"))) && (eqO (PySem.W.specialIn K (.builtin "object.__class__") "__get__") (some (some (.builtin "getset_descriptor.__get__"))) &&
  (decide (PySem.W.takesIn K (.builtin "object.__class__") = some true) && (decide (PySem.W.mroIn K (He.ga K x) (.type "object") = some true) && (PySem.W.clsIn K (He.ga K x)).isSome))))
theorem exc_of {K : PySem.W.Frag} {x : Str} (h : excB K x = true) : L2.XfC K (He.ga K x) ∧ L2.ExcC K (He.ga K x) ∧ (PySem.W.clsIn K (He.ga K x)).isSome = true := by
  obtain ⟨h1, h⟩ := He.ba h
  obtain ⟨h2, h⟩ := He.ba h
  obtain ⟨h3, h⟩ := He.ba h
  obtain ⟨h4, h⟩ := He.ba h
  obtain ⟨h5, h6⟩ := He.ba h
  have F := L2.xfB_ok h1
  exact ⟨F, ⟨F.ga, F.gg, F.exC, F.hdC, of_decide_eq_true h2, of_decide_eq_true h3, of_decide_eq_true h4, of_decide_eq_true h5⟩, h6⟩
theorem err_of {P : Program} {K : PySem.W.Frag} {h : Heap} {mg : Str → Option Value} {B nw ini : String} {bmB : List Value} {x : Str} (FB : ExcBaseFacts B nw ini bmB) (SF : StoreFacts B bmB "object.__setattr__" "object") (KF : PySem.W.KxsFacts B ini)
    (X : K.In h) (G : h.Ns mainGlobals mg) (c : errB K B nw ini bmB x = true) (d : L2.XfC K (He.ga K x)) (gs : mg "super" = none) (top : (P.main.scope.names.lookup ("super" : Str)).isSome = false) :
    ErX.ErrC P K mg B nw ini bmB x (He.ga K x) (He.ma K (He.ga K x) "__init__") := by
  obtain ⟨c1, c⟩ := He.ba c
  obtain ⟨c2, c⟩ := He.ba c
  obtain ⟨c3, c⟩ := He.ba c
  obtain ⟨c4, c⟩ := He.ba c
  obtain ⟨c5, c⟩ := He.ba c
  obtain ⟨c6, c⟩ := He.ba c
  obtain ⟨c7, c⟩ := He.ba c
  obtain ⟨c8, c⟩ := He.ba c
  obtain ⟨c9, c⟩ := He.ba c
  obtain ⟨c10, c⟩ := He.ba c
  obtain ⟨c11, c12⟩ := He.ba c
  exact ⟨FB, SF, KF, PySem.W.mg_of X G (of_decide_eq_true c1), c2, of_decide_eq_true c3, c4, c5, of_decide_eq_true c6, d.ga, d.gg, c7, d.exC, of_decide_eq_true c8, of_decide_eq_true c9, d.hdC, of_decide_eq_true c10, of_decide_eq_true c11, of_decide_eq_true c12, gs, top⟩
end Hk

/-! The package's errors raised and caught: raise C(e), several clauses with a name, isinstance of what was caught. -/
namespace Rz
open PySem PySem.Spec PyProof.Rows L2 ErX
section
variable {X : Cx} {B : String} {x : Str} {C : Addr} {f : Str} {k : Nat} {e : Expr} {ta : TA} {p pos pos2 : Pos}
/-- C(e) for a raise -/
def tMk1 (C : Addr) (f : Str) (ta : TA) : L2.St → Hp → XK → Prop := fun σ H Q => ta σ H fun vs G => ∃ v, vs = [v] ∧ ∀ d, G d = none → Q (.ref C) (some d) (upd G d (.xd [(f, v)]))
theorem pmk_err1 (T : Er1 X.prog X.K X.mg B x C f) (rc : PySem.W.subIn X.K (.ref C) (.type "BaseException") = some true) (rt : PySem.W.typeIn X.K (.ref C) = some (.type "type")) (hr : Room k X.A) (hg : Gl X x) (ha : PA X [e] ta) (hdb : (x == ("__debug__" : Str)) = false := by decide)
    (he : starEach (e :: []) X.env = (false, eval e X.env) :: starEach [] X.env := by rfl) (hpl : (backTo pos (starEach [] X.env)).any (·.1) = false := by rfl) : PMk X (.Call (.Name x p) [e] [] pos) (tMk1 C f ta) := by
  intro pins s σ H Q I h
  obtain ⟨nw, ini, bmB, fI, TC, TF⟩ := T.ex
  refine wpAny_Call_Name_kw (ld_glob I hg TC.gC ?_ hdb)
  refine PySem.W.callWith_K (h₀ := X.base) I.ok.mod.kin TC.kC (thn (ha.run pos pins s σ H _ I h) fun us s1 hh => ?_) he hpl
  obtain ⟨vs, G, J, r, v, rfl, q⟩ := hh
  obtain ⟨u, rfl, ru⟩ := vals1 r
  refine ⟨J.kIn, wpAny_call (run_err1 T J ru (by have := hr.dp; omega) (.inl ⟨rfl, rfl⟩) fun h' tk a d M => ?_)⟩
  obtain ⟨Z, gk, ge, J2⟩ := made_apart (fs := [(f, v)]) (tk := tk) J M (relO_1 ru)
  obtain ⟨t1, ho⟩ := M.obj
  refine ⟨a, _, _, { s1 with heap := Z, toks := tk }, _, .ref C, some d, rfl, J2, fun b o z => ?_, ge, ho, ⟨rfl, rfl⟩, rfl, by rfl, ?_, rfl, J.bare, raises_own rc rt, q d (J.hok.fresh M.dbig)⟩
  · by_cases hb : b = a
    · subst hb
      exact absurd (ge.symm.trans z) (by simp)
    · exact (gk b hb).symm.trans z
  · rw [upd_ne (Ne.symm M.dne)]
    exact J.hok.fresh M.new
def tRaise1 (C : Addr) (f : Str) (W : WX) (ta : TA) : TS := fun _ σ H => tMk1 C f ta σ H fun cls d G => W cls d σ G
theorem ps_raise1 {W : WX} (hc : X.calm = true) (tk : Takes X W) (T : Er1 X.prog X.K X.mg B x C f) (rc : PySem.W.subIn X.K (.ref C) (.type "BaseException") = some true) (rt : PySem.W.typeIn X.K (.ref C) = some (.type "type")) (hr : Room k X.A) (hg : Gl X x) (ha : PA X [e] ta)
    (hdb : (x == ("__debug__" : Str)) = false := by decide) (he : starEach (e :: []) X.env = (false, eval e X.env) :: starEach [] X.env := by rfl) (hpl : (backTo pos (starEach [] X.env)).any (·.1) = false := by rfl) :
    PS X (.Raise (some (.Call (.Name x p) [e] [] pos)) none pos2) (tRaise1 C f W ta) := ps_raise hc tk (pmk_err1 T rc rt hr hg ha hdb he hpl)
end
/-! ### isinstance of the error that a suite holds -/
def rIsC (K : PySem.W.Frag) (a : Addr) (cls : Value) (d : Option Addr) : List V → Hp → VK → Prop := fun xs H Q => ∃ (C : Addr) (c : V) (cv : Value) (b : Bool), xs = [.ref a, c] ∧ cls = .ref C ∧ (∃ dd fs, d = some dd ∧ H dd = some (.xd fs)) ∧ ExcC K C ∧ ClsV c cv ∧ (PySem.W.clsIn K C).isSome = true ∧ PySem.W.kitOne K (.ref C) cv = some b ∧ Q (.bl b) H
theorem call_isC {X : Cx} {a : Addr} {cls : Value} {d : Option Addr} {oe : Obj} {pn : List (Addr × Obj)} (hz : Zc cls d oe) (hf : ∃ vs, oe.data = .fields vs) : CallR (X.suite a ((a, oe) :: pn)) (.builtin "isinstance") (rIsC X.K a cls d) := by
  intro pins s σ H xs us Q I r h
  obtain ⟨C, c, cv, b, rfl, rfl, ⟨dd, fs, rfl, hd⟩, D, kc, hc, e, q⟩ := h
  obtain ⟨u1, u2, rfl, r1, r2⟩ := vals2 r
  have e2 := kc.eq r2
  subst e2
  obtain rfl : u1 = Value.ref a := r1
  obtain ⟨ho, _⟩ := I.pin (a, oe) (List.mem_append.mpr (.inl List.mem_cons_self))
  obtain ⟨vs, hv⟩ := hf
  have hx : ObjOk X.prog X.w H s.heap dd (.xd fs) := I.hok dd _ hd
  obtain ⟨mA, hns, _⟩ := hx
  obtain ⟨od, h3, _⟩ := lookIn_ns hns
  have J : PySem.W.InstAt s.heap a oe C (some od) := ⟨ho, hz.1, by unfold PySem.W.notCls; rw [hv] <;> rfl, by rw [hz.2]; exact h3⟩
  exact PySem.W.kia_one (PySem.W.kitx_exc hc D.hg D.hk D.hs D.ha D.hn D.ht D.hm) I.kIn J e (fun z => nomatch z) fun tk => ⟨.bl b, H, I.kept (t' := tk) fun _ _ z => z, rfl, q⟩
/-! ### try with several clauses 'except x as n', one name n (slot i) for all -/
abbrev Su := Addr → Value → Option Addr → TS
/-- the ways out of a suite: the name is gone -/
def gone (i : Nat) (D : Ends) : Ends := { nx := fun σ G => D.nx (σ.set i none) G, rt := D.rt, bk := fun σ G => D.bk (σ.set i none) G, ct := fun σ G => D.ct (σ.set i none) G }
def wNm (K : PySem.W.Frag) (i : Nat) (Wout : WX) (D : Ends) : List (Value × Su) → WX
  | [] => Wout
  | y :: r => fun cls d σ H => ∃ b, PySem.W.exmOne K cls y.1 = some b ∧ (b = true → ∀ a, H a = none → y.2 a cls d (gone i D) (σ.set i (some (.ref a))) H) ∧ (b = false → wNm K i Wout D r cls d σ H)
inductive ClN (X : Cx) (n : Str) : List ExceptHandler → List (Value × Su) → Prop
  | nil : ClN X n [] []
  | cons {x : Str} {c : Value} {ts : Su} {b0 : Stmt} {su : List Stmt} {q1 q2 : Pos} {hs : List ExceptHandler} {l : List (Value × Su)} (hc : Names X x c)
      (hsu : ∀ (a : Addr) (oe : Obj) (cls : Value) (d : Option Addr) (pn : List (Addr × Obj)), Zc cls d oe → (∃ vs, oe.data = .fields vs) → PSs (X.suite a ((a, oe) :: pn)) (b0 :: su) (ts a cls d)) (r : ClN X n hs l) :
      ClN X n (.ExceptHandler (some (.Name x q1)) (some n) (b0 :: su) q2 :: hs) ((c, ts) :: l)
section
variable {X : Cx} {n : Str} {i : Nat} {body : List Stmt} {h0 : ExceptHandler} {hs : List ExceptHandler} {l : List (Value × Su)} {pos : Pos} {tb : WX → TS} {Wout : WX}
theorem ps_try_nm (st : X.stack = X.env :: X.outer) (fr : X.env.frame = some X.env.locals) (nd : X.N.Nodup) (hi : X.N[i]? = some n) (hln : X.env.kindOf n = some .local) (tk : Takes X Wout)
    (hb : ∀ (W : WX) (pn : List (Addr × Obj)) (xe : Value → Shared → Prop), Takes (X.tr pn xe) W → PassesOwn (model X.prog X.w) X.A X.env xe → PSs (X.tr pn xe) body (tb W))
    (cl : ClN X n (h0 :: hs) l) : PS X (.Try body (h0 :: hs) [] [] pos) (fun D σ H => tb (wNm X.K i Wout D l) D σ H) := by
  refine ⟨fun pins s σ H D I h => ?_⟩
  have ok := I.ok
  have frs_ : X.A.frames = some (X.env :: X.outer) := by rw [ok.frames, st]
  let after : Value → Shared → Prop := fun e s₁ => wpAny (model X.prog X.w) X.A (noteFrame e X.env) (fun _ s₂ => wpAny (model X.prog X.w) X.A (setFlight e none) (fun _ s₃ => wpAny (model X.prog X.w) X.A (handleBy e X.env (h0 :: hs)) (SP X pins D) X.xe s₃) X.xe s₂) X.xe s₁
  refine wpAny_Try_except (wpAny_mono ((hb (wNm X.K i Wout D l) (X.pn ++ pins) after (fun u s' xx => ?_) PassesOwn.looking).run [] s σ H D (I.toTry _) h) (fun fl s1 hsp => ?_) (fun _ _ z => z))
  · obtain ⟨a, B0, sI, pins2, τ, G, cls, d, rfl, Jt, nb, up, sky, na, os, ag, wish⟩ := xx
    have J : Inv X pins τ G sI := Jt.ofTry ok
    have sky2 : Sky B0 (X.env :: X.outer) a (Zc cls d) X.env.locals s'.heap := by rw [← st]; exact sky
    show wpAny (model X.prog X.w) X.A (noteFrame (.ref a) X.env) _ _ _
    refine Sky.land Zc.steady frs_ fr sky2 fun h3 fl3 up3 => ?_
    have J3 : Inv X pins τ G { s' with heap := h3 } := J.landed nb fl3.1 (up.trans up3) os ag
    obtain ⟨oe3, vs3, he3, hz3, hd3⟩ := fl3.there
    have nfr : a ∉ frs (X.env :: X.outer) := fun hm => by
      obtain ⟨_, o2, e2, hnf⟩ := fl3.2.2.1.mem hm
      cases he3.symm.trans e2
      exact hnf _ hd3
    have nL : a ≠ X.env.locals := fun z => nfr (List.mem_filterMap.mpr ⟨X.env, List.mem_cons_self, by rw [fr, z]⟩)
    have nF : a ∉ X.fs := fun hm => by
      obtain ⟨en, hen, q⟩ := List.mem_filterMap.mp hm
      exact nfr (List.mem_filterMap.mpr ⟨en, List.mem_cons_of_mem _ hen, q⟩)
    have S3 := J3.suite he3 hd3 na nL nF
    suffices go : ∀ {hs2 : List ExceptHandler} {l2 : List (Value × Su)}, ClN X n hs2 l2 → wNm X.K i Wout D l2 cls d τ G → wpAny (model X.prog X.w) X.A (handleBy (.ref a) X.env hs2) (SP X pins D) X.xe { s' with heap := h3 } from go cl wish
    intro hs2 l2 hk
    induction hk with
    | nil =>
      intro w
      refine wpAny_handleBy_nil ?_
      obtain ⟨_, _, _, oe, vs, T, oT, ts2, he, hz, hd, h1, hr⟩ := id fl3
      unfold PySem.passOn
      refine wpAny_bind (wpAny_field he hd h1 ?_)
      rw [if_neg (show ¬ ((Value.ref T == Value.none) = true) from by simp)]
      have fin : wpAny (model X.prog X.w) X.A (setFlight (.ref a) X.env.frame) (fun _ s4 => wpAny (model X.prog X.w) X.A (throw (.ref a) : Sem Flow) (SP X pins D) X.xe s4) X.xe { s' with heap := h3 } := by
        rw [fr]
        refine HandSPX.setFlight_upZ fl3 fun h4 hh4 up4 => wpAny_throw (tk _ _ ?_)
        exact ⟨a, B0, sI, pins, τ, G, cls, d, rfl, J, nb, (up.trans up3).trans up4, .inr (.inr (by rw [st]; exact hh4)), na, os, ag, w⟩
      first
        | exact wpAny_bind (wpAny_pure (wpAny_bind fin))
        | exact wpAny_bind fin
    | @cons x c ts b0 su q1 q2 hs3 l3 hc hsu r ih =>
      intro w
      obtain ⟨b, hb1, yes, no⟩ := w
      refine wpAny_handleBy_cons (codeAny_handlers_test ?_) (by intro q; cases q)
      have LT : PySem.W.Looks (model X.prog X.w) h3 (typeOf (.ref a)) cls := fun A Q E s k q => wpAny_typeOf_ref (k _ _ he3) (by rw [hz3.1]; exact q)
      have LM := PySem.W.exm_one (M := model X.prog X.w) (J3.kIn) LT hb1
      have named : ∀ {Q : Value → Shared → Prop} {E : Value → Shared → Prop}, Q c { s' with heap := h3 } → wpAny (model X.prog X.w) (X.A.mark (some (.ref a))) (eval (.Name x q1) X.env) Q E { s' with heap := h3 } := fun {Q E} q => by
        obtain ⟨hg, hdbg, hm | ⟨hm, hv, hnn⟩⟩ := hc
        · exact ld_glob (X := X.suite a ((a, oe3) :: (X.pn ++ pins))) S3 hg hm q hdbg
        · exact ld_blt (X := X.suite a ((a, oe3) :: (X.pn ++ pins))) S3 hg hm hv q hnn hdbg
      refine named (LM.here ?_)
      cases b with
      | false =>
        show wpAny _ X.A (handleBy (.ref a) X.env hs3) _ _ _
        exact ih (no rfl)
      | true =>
        refine codeAny_handlers_suite_as (HandSPX.lands_againZ fl3 fun h4 fl4 up4 => ?_)
        have J4 : Inv X pins τ G { s' with heap := h4 } := J.landed nb fl4.1 ((up.trans up3).trans up4) os ag
        obtain ⟨oe4, vs4, he4, hz4, hd4⟩ := fl4.there
        have S4 := J4.suite he4 hd4 na nL nF
        refine store_ok (X := X.suite a ((a, oe4) :: (X.pn ++ pins))) (v := .ref a) S4 nd hi (.inl hln) rfl (fun s5 S5 => ?_) (.inr hln)
        refine wpAny_mono ((hsu a oe4 cls d (X.pn ++ pins) hz4 ⟨_, hd4⟩).run [] s5 _ G _ S5 (yes rfl a na)) (fun fw s6 hsp => ?_) (fun _ _ z => z.elim)
        have out : ∀ {τ6 : L2.St} {G6 : Hp} {Q : Shared → Prop}, Inv (X.suite a ((a, oe4) :: (X.pn ++ pins))) [] τ6 G6 s6 → (∀ s7, Inv X pins (τ6.set i none) G6 s7 → Q s7) →
            wpAny (model X.prog X.w) X.A (do bindName X.env n .none; unbindBehindTheSuite X.env n q2) (fun _ s7 => Q s7) X.xe s6 := fun {τ6 G6 Q} S6 hq => gone_ok (S6.unsuite ok) nd hi hln hq
        cases fw with
        | ret u =>
          obtain ⟨v6, τ6, G6, S6, r6, q6⟩ := hsp
          exact out S6 fun s7 J7 => ⟨_, _, _, J7, r6, q6⟩
        | next | brk | cont =>
          obtain ⟨τ6, G6, S6, q6⟩ := hsp
          exact out S6 fun s7 J7 => ⟨_, _, J7, q6⟩
  · cases fl with
    | next => exact let ⟨τ, G, J, q⟩ := hsp; wpAny_execs_nil ⟨τ, G, J.ofTry ok, q⟩
    | ret u => exact let ⟨v, τ, G, J, r, q⟩ := hsp; ⟨v, τ, G, J.ofTry ok, r, q⟩
    | brk | cont => exact let ⟨τ, G, J, q⟩ := hsp; ⟨τ, G, J.ofTry ok, q⟩
end
end Rz

/-! for i, x in enumerate(t), t a tuple. -/
namespace En
open PySem PySem.Spec PyProof.Rows L2
open AutoSeq1 (wpAny_loadPart')
set_option maxHeartbeats 2000000 in
theorem meets_new1 {v : Value} {o : Obj} {H : Heap → Prop} (B : Begins v o H) : Meets (Builtin.«enumerate.__new__» ⟨[.type "enumerate", v], []⟩) (fun _ R s => H s.heap ∧
    R (.ok (.ret (.ref (s.heap.push o).objs.size))) { s with heap := (s.heap.push o).push { cls := .type "enumerate", data := .fields #[.none, .bool false, .ref s.heap.objs.size, rawInt 0, .none, .none] } }) :=
  .of_wp fun prog w A R s h => by
    obtain ⟨hp, g, d, tk, os⟩ := s
    obtain ⟨h1, h⟩ := h
    have hsub := sub_enumerate
    have it : ∀ {A2 : Around} {E : Value → Shared → Prop} {Q : Value → Shared → Prop}, Q (.ref hp.objs.size) ⟨hp.push o, g, d, tk, os⟩ → wpAny (model prog w) A2 (pyIter v) Q E ⟨hp, g, d, tk, os⟩ := fun q => B.iter prog w _ _ ⟨hp, g, d, tk, os⟩ _ h1 q
    wp_walk using it
    refine wpAny_stack_any fun st => wpAny_pure ?_
    split
    · rename_i c _ _ _ _ _
      cases (c == Value.type "enumerate") <;> (wp_walk using it; exact ⟨_, rfl, h⟩)
    · wp_walk using it
      exact ⟨_, rfl, h⟩
theorem enum1 {prog : Program} {w : World} {A : Around} {E : Value → Shared → Prop} {s : Shared} {v : Value} {o : Obj} {H : Heap → Prop} {Q : Value → Shared → Prop} (B : Begins v o H) (h1 : H s.heap)
    (h : ∀ h', IsEnum h' (s.heap.objs.size + 1) s.heap.objs.size 0 .none → h'.get? s.heap.objs.size = some o → (∀ b u, s.heap.get? b = some u → h'.get? b = some u) → Q (.ref (s.heap.objs.size + 1)) { s with heap := h' }) :
    wpAny (model prog w) A (call (.type "enumerate") [v]) Q E s := by
  refine callType_new F.called_enumerate (by decide) (F.typeCall_enumerate_1 _) (F.newCall_enumerate_1 _) (fun obj => F.args_object_init_2 obj _) F.entry_enumerate_new (meets_new1 B) ⟨h1, ?_⟩
  have hz : (s.heap.push o).objs.size = s.heap.objs.size + 1 := Heap.size_push ..
  show _ ∧ _
  have he := Heap.get?_push_size (s.heap.push o) (o := { cls := .type "enumerate", data := .fields #[.none, .bool false, .ref s.heap.objs.size, rawInt 0, .none, .none] }) rfl
  rw [hz] at he ⊢
  exact ⟨⟨_, he, rfl⟩, h _ he (Heap.get?_push_of_some _ (Heap.get?_push_size _ B.free)) fun b u x => Heap.get?_push_of_some _ (Heap.get?_push_of_some _ x)⟩
/-- the tuple at a, each item in a new pair with its index -/
def Itet (K : PySem.W.Frag) (a : Addr) : It :=
  ⟨fun i H => ∃ (xs : List V) (x : V), SqT K H a xs ∧ xs[i]? = some x, fun i H v H' => ∃ T x, v = .ref T ∧ H T = none ∧ H' = upd H T (.tup [.int (i : Nat), x]) ∧ ∀ xs, SqT K H a xs → xs[i]? = some x, fun i H => ∃ xs : List V, SqT K H a xs ∧ xs.length = i⟩
theorem isT {h : Heap} {a : Addr} {its : Array Value} (p : IsTup h a its) : h.IsTuple a its := p
/-- the iterator at it stands at place i of whatever tuple lies at a -/
theorem turn_enumT {P : Program} {w : World} {K : PySem.W.Frag} {elts : List Expr} {kk : Nat} {tpos : Pos} (a e it : Addr) :
    Turn P w K (.Tuple elts kk tpos) (Itet K a) [e, it] e (fun i h => (∃ old, IsEnum h e it ((i : Nat) : Int) old) ∧ h.IsTupleIter it a i ∧ e ≠ it ∧ a ≠ it ∧ a ≠ e) where
  mem := by simp
  obj := fun i h st b hb => by
    obtain ⟨⟨old, he⟩, ⟨o, ho, hc, hd⟩, _⟩ := st
    rcases (show b = e ∨ b = it by simpa using hb) with z | z
    · subst z
      exact ⟨_, he, fun v q => nomatch q⟩
    · subst z
      exact ⟨o, ho, fun v q => by rw [hd] at q; cases q⟩
  keep := fun i h h' st k => let ⟨⟨old, he⟩, hi, r⟩ := st; ⟨⟨old, k e (by simp) _ he⟩, hi.at fun o q => k it (by simp) o q, r⟩
  item := by
    intro X hP hw hK hc i pins s σ H E I hf st hg
    subst hP hw hK
    obtain ⟨⟨old, he⟩, hit, n1, n2, n3⟩ := st
    obtain ⟨xs, x, hq, hx⟩ := hg
    obtain ⟨its, rv, p, hz⟩ := I.tuple hq
    obtain ⟨u, hu, ru⟩ := rv.get hx
    have D := Draws.tuple (prog := X.prog) (w := X.w) (A := X.A.in1) (I.ok.hd hc) it a n2 its.toArray
    have lt1 : e < s.heap.objs.size := Heap.lt_size he
    have lt2 : it < s.heap.objs.size := by obtain ⟨_, q, _⟩ := hit; exact Heap.lt_size q
    have li : i < its.toArray.size := by
      have := (List.getElem?_eq_some_iff.mp hu).1
      simpa using this
    refine wpAny_pyNext_enum_itemD D he ⟨hit, isT p⟩ li n1 (by simp [n1, Ne.symm n3]) fun y h' tk hy ho hst hT hsz hk => ?_
    have ey : y = u := by
      have z : its[i]? = some y := by simpa using hy
      rw [hu] at z
      exact (Option.some.inj z).symm
    subst ey
    refine ⟨_, rfl, wpAny_letOwnedTupleGo_enum (s := { s with heap := h', toks := tk + 1 }) ho fun h2 he2 sb => ?_⟩
    have hT2 : h2.get? s.heap.objs.size = some { cls := .type "tuple", data := .seq #[.int i tk, y] } := (sb.2 _ (Nat.ne_of_gt lt1)).trans hT
    have new : ObjOk X.prog X.w (upd H s.heap.objs.size (.tup [.int (i : Nat), x])) h2 s.heap.objs.size (.tup [.int (i : Nat), x]) :=
      ⟨by show 2 ≤ sizeLine; decide, [.int i tk, y], .cons ⟨_, rfl⟩ (.cons ru .nil), ⟨_, hT2, rfl, _, rfl⟩⟩
    have I1 : Inv X pins σ (upd H s.heap.objs.size (.tup [.int (i : Nat), x])) { s with heap := h2, toks := tk + 1 } :=
      I.turnedNew (ch := [e, it]) (fun b ob hb q => (sb.2 b (fun z => hb (by simp [z]))).trans (hk b ob (fun z => hb (by simp [z])) (fun z => hb (by simp [z])) q)) hf (Nat.le_refl _) new
    refine ⟨.ref s.heap.objs.size, _, I1, rfl, ⟨_, x, rfl, I.hok.fresh (Nat.le_refl _), rfl, fun ys hy => by rw [I.tuple_inj hy hq]; exact hx⟩, ⟨⟨y, by rw [show ((i + 1 : Nat) : Int) = (i : Int) + 1 by omega]; exact he2⟩, hst.1.at fun o q => (sb.2 it (Ne.symm n1)).trans q, n1, n2, n3⟩, fun b hb => ?_⟩
    have lb : b < s.heap.objs.size := by
      rcases (show b = e ∨ b = it by simpa using hb) with z | z
      · subst z; exact lt1
      · subst z; exact lt2
    rw [upd_ne (Nat.ne_of_lt lb)]
    exact (hf b hb).1
  done := by
    intro X hP hw hK hc i pins s σ H E I hf st hg
    subst hP hw hK
    obtain ⟨⟨old, he⟩, hit, n1, n2, n3⟩ := st
    obtain ⟨xs, hq, hx⟩ := hg
    obtain ⟨its, rv, p, hz⟩ := I.tuple hq
    obtain ⟨f0, f1, f2, f3, f4, f5⟩ := hf it (by simp)
    have hl := rv.length
    have D := Draws.tuple (prog := X.prog) (w := X.w) (A := X.A.in1) (I.ok.hd hc) it a n2 its.toArray
    have e1 : its.toArray.size = i := by simp; omega
    exact wpAny_pyNext_enum_endD D he (by rw [e1]; exact ⟨hit, isT p⟩) fun h' eb => ⟨rfl, I.turned (t' := s.toks) (fun b o hb q => eb b o hb q) f0 f1 f3 f4 f5⟩
  self := fun A i s Q E st h => let ⟨⟨_, he⟩, _⟩ := st; wpAny_pyIter_enum he h
def iEnumT (K : PySem.W.Frag) (ta : TA) : TI := fun σ H R => ta σ H fun vs G => ∃ a xs, vs = [.ref a] ∧ SqT K G a xs ∧ R (Itet K a) G
theorem pi_enumT {X : Cx} {e : Expr} {ta : TA} {p pos tpos : Pos} {elts : List Expr} {kk : Nat} (hg : Gl X "enumerate") (hm : X.mg "enumerate" = none) (ha : PA X [e] ta) (hs : starEach [e] X.env = [(false, eval e X.env)] := by rfl) :
    PI X (.Tuple elts kk tpos) (.Call (.Name "enumerate" p) [e] [] pos) (iEnumT X.K ta) := by
  refine ⟨fun pins s σ H R I h => ?_⟩
  refine Call_ (ld_blt I hg hm boot_enumerate (PyProof.Rows.callWith_type1 (thn (ha.run pos pins s σ H _ I h) fun us s1 ⟨vs, G, J, r, a, xs, ex, hq, q⟩ => ?_) hs rfl))
  subst ex
  obtain ⟨u, rfl, ru⟩ := vals1 r
  cases ru
  obtain ⟨its, rv, p2, hz⟩ := J.tuple hq
  obtain ⟨o0, ho0, _⟩ := id p2
  have la : a < s1.heap.objs.size := Heap.lt_size ho0
  refine enum1 (begins_tuple a its.toArray) (isT p2) fun h' he hit hk => wpAny_pyIter_enum he ?_
  have J2 : Inv X pins σ G { s1 with heap := h' } := J.kept (t' := s1.toks) hk
  refine ⟨s1.heap.objs.size + 1, [s1.heap.objs.size + 1, s1.heap.objs.size], _, _, G, rfl, J2, turn_enumT a (s1.heap.objs.size + 1) s1.heap.objs.size, ⟨⟨.none, he⟩, ⟨_, hit, rfl, rfl⟩, Nat.succ_ne_self _, Nat.ne_of_lt la, Nat.ne_of_lt (Nat.lt_succ_of_lt la)⟩, fun b hb => ?_, q⟩
  have hle : s1.heap.objs.size ≤ b := by
    rcases (show b = s1.heap.objs.size + 1 ∨ b = s1.heap.objs.size by simpa using hb) with z | z
    · subst z; exact Nat.le_add_right _ _
    · subst z; exact Nat.le_refl _
  exact J.fpOk hle (J.hok.fresh hle)
theorem walk_enumT {K : PySem.W.Frag} {a : Addr} {xs : List V} : Walk (Itet K a) xs.length (fun H => SqT K H a xs) (YPair (fun i => some (.int (i : Nat))) (fun i => xs[i]?)) := by
  refine ⟨fun i _ hi q => ⟨xs, xs[i], q, by simp [hi]⟩, fun _ q => ⟨xs, q, rfl⟩, fun i H v H' _ q y => ?_⟩
  obtain ⟨T, x, h1, h2, h3, h4⟩ := y
  exact ⟨T, .int (i : Nat), x, h1, h2, h3, rfl, h4 xs q⟩
end En

/-! Own classes: C(..) where the class is any expression, with and without a star; o.m() by the class of the object; defs by what they promise. -/
namespace Mq
open PySem PySem.Spec PyProof.Rows L2 StX
abbrev LX (P : Program) (w : World) : CXT := L2.CX P w
/-- what a def lets out goes on, where the def around has the wish E -/
theorem passE {X : Cx} {W : WX} {E : XK} (tk : Takes X W) (h : ∀ c d σ H, E c d H → W c d σ H) : Passes (LX X.prog X.w) X E := passes_call tk h
def tMkC (C : Addr) (sp : Sp) (E : XK) (tf : TE) (t : TA) : TE := fun σ H Q => tf σ H fun y H1 => y = .ref C ∧ tMakeR C sp E t σ H1 Q
section
variable {X : Cx} {CX : CXT} {k : Nat} {f C : Addr} {sp : Sp} {E : XK} {fe e : Expr} {es : List Expr} {te tf : TE} {t : TA} {p pos : Pos}
/-- F(e, ..), F gives the class at C -/
theorem pe_mkC (hf : PE X fe tf) (M : Mk X.K C f) (F : FnR X.prog X.w X.K X.mg X.base CX k f sp) (hr : Room (k + 1) X.A) (hx : Passes CX X E) (ha : PA X (e :: es) t)
    (ht : eval (.Call fe (e :: es) [] pos) X.env = (do callWith pos (← eval fe X.env) [] (backTo pos (starEach (e :: es) X.env)) (backToKw pos (keywordEach [] X.env))) := by rfl)
    (he : starEach (e :: es) X.env = (false, eval e X.env) :: starEach es X.env := by rfl) (hpl : (backTo pos (starEach es X.env)).any (·.1) = false := by rfl) : PE X (.Call fe (e :: es) [] pos) (tMkC C sp E tf t) := by
  refine ⟨fun pins s σ H Q I h => Call_ (thn (hf.run pins s σ H _ I h) fun u s1 ⟨y, G, J, ry, ey, q⟩ => ?_) ht⟩
  subst ey
  obtain rfl : u = Value.ref C := ry
  exact PySem.W.callWith_K (h₀ := X.base) I.ok.mod.kin M.kp (thn (ha.run pos pins s1 σ G _ J q) fun us s2 ⟨vs, G2, J2, r, q2⟩ => ⟨J2.kIn, run_makeR M F hr hx J2 r q2⟩) he hpl
/-- F(e, .., *y) -/
theorem pe_mkC2 (hf : PE X fe tf) (M : Mk X.K C f) (F : FnR X.prog X.w X.K X.mg X.base CX k f sp) (hr : Room (k + 1) X.A) (hx : Passes CX X E) (ha : PA X (e :: es) t)
    (ht : eval (.Call fe (e :: es) [] pos) X.env = (do callWith pos (← eval fe X.env) [] (backTo pos (starEach (e :: es) X.env)) (backToKw pos (keywordEach [] X.env))) := by rfl)
    (he : starEach (e :: es) X.env = (false, eval e X.env) :: starEach es X.env := by rfl) (hst : (backTo pos (starEach es X.env)).any (·.1) = true := by rfl) : PE X (.Call fe (e :: es) [] pos) (tMkC C sp E tf t) := by
  refine ⟨fun pins s σ H Q I h => Call_ (thn (hf.run pins s σ H _ I h) fun u s1 ⟨y, G, J, ry, ey, q⟩ => ?_) ht⟩
  subst ey
  obtain rfl : u = Value.ref C := ry
  exact PySem.W.callWith_S2 (h₀ := X.base) I.ok.mod.kin M.kp (thn (ha.run pos pins s1 σ G _ J q) fun us s2 ⟨vs, G2, J2, r, q2⟩ => ⟨J2.kIn, run_makeR M F hr hx J2 r q2⟩) he hst
/-- F(*y) -/
theorem pe_mkC1 (hf : PE X fe tf) (M : Mk X.K C f) (F : FnR X.prog X.w X.K X.mg X.base CX k f sp) (hr : Room (k + 1) X.A) (hx : Passes CX X E) (ha : PE X e te)
    (ht : eval (.Call fe [.Starred e p] [] pos) X.env = (do callWith pos (← eval fe X.env) [] (backTo pos (starEach [.Starred e p] X.env)) (backToKw pos (keywordEach [] X.env))) := by rfl)
    (hst : starEach [.Starred e p] X.env = [(true, eval e X.env)] := by rfl) : PE X (.Call fe [.Starred e p] [] pos) (tMkC C sp E tf (tStar X.K te tNil)) := by
  refine ⟨fun pins s σ H Q I h => Call_ (thn (hf.run pins s σ H _ I h) fun u s1 ⟨y, G, J, ry, ey, q⟩ => ?_) ht⟩
  subst ey
  obtain rfl : u = Value.ref C := ry
  refine PySem.W.callWith_S (h₀ := X.base) I.ok.mod.kin M.kp (thn (ha.run pins s1 σ G _ J q) fun v s2 ⟨z, G2, J2, rz, a, xs, ez, hxs, q2⟩ => ?_) hst
  subst ez
  obtain rfl : v = Value.ref a := rz
  refine star_any J2 hxs fun us s3 J3 rv => ⟨J3.kIn, ?_⟩
  have q3 : ∀ x dx, G2 x = none → G2 dx = none → dx ≠ x → sp (V.ref x :: xs) (upd (upd G2 dx (.own x)) x (.ins C dx [])) (fun v H2 => v = .non ∧ Q (.ref x) H2) E := fun x dx h1 h2 h3 => by
    have z := q2 x dx h1 h2 h3
    rw [List.append_nil] at z
    exact z
  exact run_makeR M F hr hx J3 rv q3
/-- F() -/
theorem pe_mkC0 (hf : PE X fe tf) (M : Mk X.K C f) (F : FnR X.prog X.w X.K X.mg X.base CX k f sp) (hr : Room (k + 1) X.A) (hx : Passes CX X E)
    (ht : eval (.Call fe [] [] pos) X.env = (do callWith pos (← eval fe X.env) [] (backTo pos (starEach [] X.env)) (backToKw pos (keywordEach [] X.env))) := by rfl) : PE X (.Call fe [] [] pos) (tMkC C sp E tf tNil) := by
  refine ⟨fun pins s σ H Q I h => Call_ (thn (hf.run pins s σ H _ I h) fun u s1 ⟨y, G, J, ry, ey, q⟩ => ?_) ht⟩
  subst ey
  obtain rfl : u = Value.ref C := ry
  exact PySem.W.callWith_K0 J.kIn M.kp (run_makeR M F hr hx J .nil q)
end
/-- o.m(): the class of the object and its def are told by the reading -/
def tMv (P : Program) (w : World) (K : PySem.W.Frag) (mg : Str → Option Value) (base : Heap) (k : Nat) (m : Str) (E : XK) (ta : TE) (t : TA) : TE := fun σ H Q => ta σ H fun x G => ∃ a C dx fs f sp, x = .ref a ∧ G a = some (.ins C dx fs) ∧ fs.lookup m = none ∧ Cls K C ∧ Meth K C m f ∧ FnR P w K mg base (LX P w) k f sp ∧ t σ G fun vs G2 => sp (x :: vs) G2 Q E
section
variable {X : Cx} {k : Nat} {m : Str} {E : XK} {o e : Expr} {es : List Expr} {ta : TE} {t : TA} {apos pos : Pos} {pl : Sem Bool}
theorem pe_mv0 (he : PE X o ta) (hr : Room k X.A) (hx : Passes (LX X.prog X.w) X E)
    (ht : eval (.Call (.Attribute o m apos) [] [] pos) X.env = (do
      let ov ← eval o X.env
      standAt apos.atName
      let (f, first) ← holding [ov] (getMethod ov m pl)
      callWith pos f first (backTo pos (starEach [] X.env)) (backToKw pos (keywordEach [] X.env))) := by rfl) : PE X (.Call (.Attribute o m apos) [] [] pos) (tMv X.prog X.w X.K X.mg X.base k m E ta tNil) := by
  refine ⟨fun pins s σ H Q I h => PySem.W.methodCall_KW (pl := pl) (thn (he.run pins s σ H _ I h) fun u s1 ⟨x, G, J, rx, a, C, dx, fs, f, sp, ex, ea, l, c, hm, F, q⟩ => ?_) ht⟩
  subst ex
  obtain rfl : u = Value.ref a := rx
  exact getmeth_ok J ea c hm l (PySem.W.callWith_K0 (first := [.ref a]) J.kIn hm.kp (wpAny_call (run_fnR (us := [.ref a]) (vs := [.ref a]) F hr hx J (.cons rfl .nil) q)))
theorem pe_mv (he : PE X o ta) (hr : Room k X.A) (hx : Passes (LX X.prog X.w) X E) (ha : PA X (e :: es) t)
    (hst : starEach (e :: es) X.env = (false, eval e X.env) :: starEach es X.env := by rfl) (hpl : (backTo pos (starEach es X.env)).any (·.1) = false := by rfl)
    (ht : eval (.Call (.Attribute o m apos) (e :: es) [] pos) X.env = (do
      let ov ← eval o X.env
      standAt apos.atName
      let (f, first) ← holding [ov] (getMethod ov m pl)
      callWith pos f first (backTo pos (starEach (e :: es) X.env)) (backToKw pos (keywordEach [] X.env))) := by rfl) : PE X (.Call (.Attribute o m apos) (e :: es) [] pos) (tMv X.prog X.w X.K X.mg X.base k m E ta t) := by
  refine ⟨fun pins s σ H Q I h => PySem.W.methodCall_KW (pl := pl) (thn (he.run pins s σ H _ I h) fun u s1 ⟨x, G, J, rx, a, C, dx, fs, f, sp, ex, ea, l, c, hm, F, q⟩ => ?_) ht⟩
  subst ex
  obtain rfl : u = Value.ref a := rx
  refine getmeth_ok J ea c hm l (PySem.W.callWith_K (first := [.ref a]) (h₀ := X.base) I.ok.mod.kin hm.kp (thn (ha.run pos pins s1 σ G _ J q) fun us s2 ⟨vs, G2, J2, r, q2⟩ => ⟨J2.kIn, ?_⟩) hst hpl)
  exact wpAny_call (run_fnR (us := .ref a :: us) (vs := .ref a :: vs) F hr hx J2 (.cons rfl r) q2)
end
/-- a def of the module that keeps its promise, by positional values -/
def Of (P : Program) (w : World) (K : PySem.W.Frag) (mg : Str → Option Value) (base : Heap) (k : Nat) (x : Str) (sp : Sp) : Prop := ∃ f, mg x = some (.ref f) ∧ PySem.W.keepIn K (.ref f) = true ∧ FnR P w K mg base (LX P w) k f sp
def tCf (sp : Sp) (E : XK) (t : TA) : TE := fun σ H Q => t σ H fun vs G => sp vs G Q E
section
variable {X : Cx} {k j : Nat} {sp : Sp} {E : XK} {x : Str} {e : Expr} {es : List Expr} {t : TA} {p pos : Pos}
theorem pe_of (O : Of X.prog X.w X.K X.mg X.base k x sp) (hr : Room j X.A) (hg : Gl X x) (hx : Passes (LX X.prog X.w) X E) (ha : PA X (e :: es) t) (hk : k ≤ j := by decide) (hdb : (x == ("__debug__" : Str)) = false := by decide)
    (he : starEach (e :: es) X.env = (false, eval e X.env) :: starEach es X.env := by rfl) (hpl : (backTo pos (starEach es X.env)).any (·.1) = false := by rfl) : PE X (.Call (.Name x p) (e :: es) [] pos) (tCf sp E t) := by
  obtain ⟨f, hm, kp, F⟩ := O
  refine ⟨fun pins s σ H Q I h => wpAny_Call_Name_kw (ld_glob I hg hm ?_ hdb)⟩
  exact PySem.W.callWith_K (h₀ := X.base) I.ok.mod.kin kp (thn (ha.run pos pins s σ H _ I h) fun us s1 ⟨vs, G, J, r, q⟩ => ⟨J.kIn, wpAny_call (run_fnR F (hr.mono hk) hx J r q)⟩) he hpl
end
theorem of_fn {P : Program} {w : World} {K : PySem.W.Frag} {mg : Str → Option Value} {base : Heap} {CX : CXT} {k : Nat} {f : Addr} {fd : FuncData} {ps : List Str} {sp : Sp} {x : Str} (F : FnOk P w K mg base (LX P w) k f fd ps sp) (b : Binds K fd ps []) (hm : mg x = some (.ref f)) (kp : PySem.W.keepIn K (.ref f) = true) :
    Of P w K mg base k x sp := ⟨f, hm, kp, (F.raw b .nil).imp fun vs H Q E h => by rw [List.append_nil]; exact h⟩
theorem Of.mono {P : Program} {w : World} {K : PySem.W.Frag} {mg : Str → Option Value} {base : Heap} {k j : Nat} {sp : Sp} {x : Str} (h : k ≤ j) (F : Of P w K mg base k x sp) : Of P w K mg base j x sp := let ⟨f, a, b, c⟩ := F; ⟨f, a, b, c.mono h⟩
end Mq

/-! What the top has left, by one look: tests, defs wherever they stand, the __init__ of error classes, empty tables of code objects. Facts of own classes. -/
namespace Hm
open PySem PySem.Spec PyProof.Rows L2
open Hk (eqO)
structure Sheet where
  prog : Program
  ck : PySem.W.Frag → Bool
  fn : List He5.DefA
  ini : List Hk.IniD
  tf : List He.Defn
abbrev Al : Type := Bool × List He.FnW × List Hk.FnX
def frag (n : Nat) (g : Addr → Option Obj) : PySem.W.Frag := He.frT g (He.asD g n ++ [cStatics])
def obsK (S : Sheet) (K : PySem.W.Frag) : Al := (S.ck K && (S.fn.all (fun d => d.ok K) && S.ini.all (fun d => Hk.iniB S.prog K d)), S.fn.map fun d => He5.fnA K (d.at_ K), S.ini.map fun d => Hk.fnX K (d.cls, some "__init__"))
def valK (S : Sheet) : Al := (true, S.fn.map He5.DefA.val, S.ini.map Hk.IniD.val)
def obs (n : Nat) (S : Sheet) (g : Addr → Option Obj) : Al × Bool := (obsK S (frag n g), He.tabsB g S.tf (frag n g))
structure Says (S : Sheet) (h : Heap) (K : PySem.W.Frag) : Prop where
  k : obsK S K = valK S
  hd : ∀ p ∈ S.tf, PySem.W.codeHdIn K (He.cT K p).1 (He.cT K p).2 = true
  out : ∀ p ∈ S.tf, K.lookup (He.cT K p).2 = none
  empty : ∀ p ∈ S.tf, h.get? (He.cT K p).2 = some { cls := .none, data := .fields #[] }
theorem says_of {n : Nat} {S : Sheet} {h : Heap} (e : obs n S h.get? = (valK S, true)) : Says S h (frag n h.get?) := by
  have e1 : obsK S (frag n h.get?) = valK S := congrArg (fun z : Al × Bool => z.1) e
  have e2 : He.tabsB h.get? S.tf (frag n h.get?) = true := congrArg (fun z : Al × Bool => z.2) e
  have key : ∀ p ∈ S.tf, PySem.W.codeHdIn (frag n h.get?) (He.cT (frag n h.get?) p).1 (He.cT (frag n h.get?) p).2 = true ∧ ∃ o, h.get? (He.cT (frag n h.get?) p).2 = some o ∧ He.emptyTab o = true := fun p hp => by
    obtain ⟨h3, h4⟩ := He.ba (List.all_eq_true.mp e2 p hp)
    refine ⟨h3, ?_⟩
    cases q : h.get? (He.cT (frag n h.get?) p).2 with
    | none =>
      rw [q] at h4
      cases h4
    | some o =>
      rw [q] at h4
      exact ⟨o, rfl, h4⟩
  refine ⟨e1, fun p hp => (key p hp).1, fun p hp => ?_, fun p hp => ?_⟩
  · obtain ⟨_, o, q, z⟩ := key p hp
    exact He.frT_none q z
  · obtain ⟨_, o, q, z⟩ := key p hp
    rw [q, He.emptyTab_eq z]
def hook (n : Nat) (S : Sheet) : PySem.W.Hook where
  α := Al × Bool
  obs := fun s => obs n S s.heap.get?
  val := fun _ => (valK S, true)
  says := fun _ h => ∃ K : PySem.W.Frag, K.In h ∧ Says S h K
  of := fun _ _ e => ⟨_, He.frT_in, says_of e⟩
  keeps := fun _ _ _ ⟨K, hK, c⟩ k => ⟨K, PySem.W.Frag.In.keeps hK k, ⟨c.k, c.hd, c.out, fun p hp => k _ _ (c.empty p hp)⟩⟩
theorem obs_eq {n : Nat} {S : Sheet} {g : Addr → Option Obj} {s : Shared} (h : ∀ a, g a = s.heap.get? a) : obs n S g = (hook n S).obs s := by
  have e : g = s.heap.get? := funext h
  rw [e] <;> rfl
section
variable {S : Sheet} {h : Heap} {K : PySem.W.Frag}
theorem Says.ck (c : Says S h K) : S.ck K = true := (He.ba (congrArg (fun z : Al => z.1) c.k)).1
theorem Says.def_ (c : Says S h K) (i : Nat) {d : He5.DefA} (hi : S.fn[i]? = some d := by rfl) : ∃ fd, FunD K d.name d.qual d.params d.body d.scope (d.dvs K) (d.kws K) (d.at_ K) fd := by
  have c2 := (He.ba (He.ba (congrArg (fun z : Al => z.1) c.k)).2).1
  have e : S.fn.map (fun d => He5.fnA K (d.at_ K)) = S.fn.map He5.DefA.val := congrArg (fun z : Al => z.2.1) c.k
  have e2 : (S.fn.map fun d => He5.fnA K (d.at_ K))[i]? = (S.fn.map He5.DefA.val)[i]? := by rw [e]
  rw [List.getElem?_map, List.getElem?_map, hi] at e2
  exact He5.DefA.funD (Option.some.inj e2) (List.all_eq_true.mp c2 d (List.mem_of_getElem? hi))
theorem Says.old (c : Says S h K) : Hk.SaysX ⟨S.prog, fun _ => true, [], S.ini⟩ K := by
  have c2 := (He.ba (He.ba (congrArg (fun z : Al => z.1) c.k)).2).2
  have e : S.ini.map (fun d => Hk.fnX K (d.cls, some "__init__")) = S.ini.map Hk.IniD.val := congrArg (fun z : Al => z.2.2) c.k
  show Hk.obsX _ K = Hk.valX _
  show (true && (([] : List He.DefD).all (fun d => d.ok K) && S.ini.all (fun d => Hk.iniB S.prog K d)), ([] : List He.FnW), S.ini.map fun d => Hk.fnX K (d.cls, some "__init__")) = (true, ([] : List He.FnW), S.ini.map Hk.IniD.val)
  rw [c2, e] <;> rfl
end
/-! ### own classes -/
/-- the class of plain instances: its attributes, isinstance -/
structure Kl (K : PySem.W.Frag) (C : Addr) : Prop where
  cl : Cls K C
  ha : PySem.W.findIn K (.ref C) "__class__" = some (some (.builtin "object.__class__"))
  hn : PySem.W.specialIn K (.builtin "object.__class__") "__get__" = some (some (.builtin "getset_descriptor.__get__"))
  tk : PySem.W.takesIn K (.builtin "object.__class__") = some true
  hm : PySem.W.mroIn K C (.type "object") = some true
def klB (K : PySem.W.Frag) (x : Str) : Bool := (He.Fa.cls x).ok K && (eqO (PySem.W.findIn K (.ref (He.ga K x)) "__class__") (some (some (.builtin "object.__class__"))) && (eqO (PySem.W.specialIn K (.builtin "object.__class__") "__get__") (some (some (.builtin "getset_descriptor.__get__"))) &&
  (decide (PySem.W.takesIn K (.builtin "object.__class__") = some true) && decide (PySem.W.mroIn K (He.ga K x) (.type "object") = some true))))
theorem kl_of {K : PySem.W.Frag} {x : Str} (h : klB K x = true) : Kl K (He.ga K x) := by
  obtain ⟨h1, h⟩ := He.ba h
  obtain ⟨h2, h⟩ := He.ba h
  obtain ⟨h3, h⟩ := He.ba h
  obtain ⟨h4, h5⟩ := He.ba h
  exact ⟨He.cls_ok h1, of_decide_eq_true h2, of_decide_eq_true h3, of_decide_eq_true h4, of_decide_eq_true h5⟩
theorem Kl.ty {K : PySem.W.Frag} {C : Addr} (k : Kl K C) {H : Hp} {a dx : Addr} {fs : List (Str × V)} (e : H a = some (.ins C dx fs)) : TyX K H (.ref a) (.ref C) := .base (.ins e k.cl k.ha k.hn k.tk k.hm)
/-- a class's constant that is a text -/
def conB (K : PySem.W.Frag) (C : Addr) (f z : Str) : Bool := !(PySem.W.copiedNames.contains f) && (match PySem.W.findIn K (.ref C) f with
  | some (some (.str y t)) => decide (y = z) && eqO (PySem.W.specialIn K (.str y t) "__get__") (some none)
  | _ => false)
theorem con_of {K : PySem.W.Frag} {C : Addr} {f z : Str} (h : conB K C f z = true) : ∃ u, Con K C f (.str z) u := by
  obtain ⟨h1, h2⟩ := He.ba h
  split at h2
  · rename_i y t e
    obtain ⟨h3, h4⟩ := He.ba h2
    have q := of_decide_eq_true h3
    subst q
    exact ⟨.str y t, e, ⟨t, rfl⟩, of_decide_eq_true h4, by simpa using h1⟩
  · cases h2
/-- a property -/
def prpB (K : PySem.W.Frag) (C : Addr) (f : Str) : Bool := eqO (PySem.W.findIn K (.ref C) f) (some (some (.ref (He.ma K C f)))) && (eqO (PySem.W.specialIn K (.ref (He.ma K C f)) "__get__") (some (some (.builtin "property.__get__"))) &&
  (decide (PySem.W.takesIn K (.ref (He.ma K C f)) = some true) && (match PySem.W.recIn K (He.ma K C f) "property" with
    | some (.ref _ :: _) => true
    | _ => false)))
theorem prp_of {K : PySem.W.Frag} {C : Addr} {f : Str} (h : prpB K C f = true) : PropOf K C f (He.ma K C f) (He5.wf K C "property" f) := by
  obtain ⟨h1, h⟩ := He.ba h
  obtain ⟨h2, h⟩ := He.ba h
  obtain ⟨h3, h4⟩ := He.ba h
  refine ⟨of_decide_eq_true h1, of_decide_eq_true h2, of_decide_eq_true h3, ?_⟩
  unfold He5.wf
  split at h4
  · rename_i g r e
    exact ⟨r, by rw [e]⟩
  · cases h4
/-- a classmethod, read off the class -/
def cmB (K : PySem.W.Frag) (C : Addr) (m : Str) : Bool := PySem.W.readsIn K C (.type "type") && (eqO (PySem.W.specialIn K (.ref C) "__getattribute__") (some (some (.builtin "type.__getattribute__"))) &&
  (He5.wrapB K C "classmethod" "classmethod.__get__" m && PySem.W.fnIn K (He5.wf K C "classmethod" m)))
theorem cm_of {K : PySem.W.Frag} {C : Addr} {m : Str} (h : cmB K C m = true) : ClX.CRead K C (.type "type") ∧ ClX.CMet K C (.type "type") m (He.ma K C m) (He5.wf K C "classmethod" m) := by
  obtain ⟨h1, h⟩ := He.ba h
  obtain ⟨h2, h⟩ := He.ba h
  obtain ⟨h3, h4⟩ := He.ba h
  exact ⟨⟨h1, of_decide_eq_true h2⟩, He5.cmet_of h3 h4⟩
/-- what a raise and an except clause ask of an error class -/
def rzB (K : PySem.W.Frag) (x : Str) : Bool := decide (PySem.W.subIn K (.ref (He.ga K x)) (.type "BaseException") = some true) && (decide (PySem.W.typeIn K (.ref (He.ga K x)) = some (.type "type")) && decide (PySem.W.exmOne K (.ref (He.ga K x)) (.ref (He.ga K x)) = some true))
end Hm

/-! The text of the law by places. -/
namespace Kb
open PySem PySem.Spec PyProof.Rows L2
def top (i : Nat) : Stmt := PySem.Challenge.pw_onestroke_k05_whole_bent_body_texts.main.body.getD i (.Pass ⟨0, 0, 0, 0⟩)
abbrev s_InvalidItem_init : Stmt := inClass (top 1) 0
abbrev s_InvalidText_init : Stmt := inClass (top 2) 0
abbrev s_NotAnItem_init : Stmt := inClass (top 3) 0
abbrev s_OutOfRange_init : Stmt := inClass (top 4) 0
abbrev s_TooMany_init : Stmt := inClass (top 5) 0
abbrev s_TooDeep_init : Stmt := inClass (top 6) 0
abbrev s_is_word : Stmt := top 13
theorem sc_is_word : FnScope ["value", "letter"] ["value"] (defScope s_is_word) := ⟨rfl, rfl, rfl, by decide +kernel, rfl, by decide +kernel, by decide +kernel⟩
abbrev s_is_integer : Stmt := top 14
theorem sc_is_integer : FnScope ["value"] ["value"] (defScope s_is_integer) := ⟨rfl, rfl, rfl, by decide +kernel, rfl, by decide +kernel, by decide +kernel⟩
abbrev s_is_within : Stmt := top 15
theorem sc_is_within : FnScope ["value", "least", "most"] ["value", "least", "most"] (defScope s_is_within) := ⟨rfl, rfl, rfl, by decide +kernel, rfl, by decide +kernel, by decide +kernel⟩
abbrev s_ItemReader_init : Stmt := inClass (top 19) 0
theorem sc_ItemReader_init : FnScope ["self", "text"] ["self", "text"] (defScope s_ItemReader_init) := ⟨rfl, rfl, rfl, by decide +kernel, rfl, by decide +kernel, by decide +kernel⟩
abbrev s_ItemReader_sign : Stmt := inClass (top 19) 1
theorem sc_ItemReader_sign : FnScope ["self"] ["self"] (defScope s_ItemReader_sign) := ⟨rfl, rfl, rfl, by decide +kernel, rfl, by decide +kernel, by decide +kernel⟩
abbrev s_ItemReader_fail : Stmt := inClass (top 19) 2
theorem sc_ItemReader_fail : FnScope ["self"] ["self"] (defScope s_ItemReader_fail) := ⟨rfl, rfl, rfl, by decide +kernel, rfl, by decide +kernel, by decide +kernel⟩
abbrev s_ItemReader_word : Stmt := inClass (top 19) 3
theorem sc_ItemReader_word : FnScope ["self", "begin"] ["self"] (defScope s_ItemReader_word) := ⟨rfl, rfl, rfl, by decide +kernel, rfl, by decide +kernel, by decide +kernel⟩
abbrev s_ItemReader_number_here : Stmt := inClass (top 19) 4
theorem sc_ItemReader_number_here : FnScope ["self", "begin", "digits"] ["self"] (defScope s_ItemReader_number_here) := ⟨rfl, rfl, rfl, by decide +kernel, rfl, by decide +kernel, by decide +kernel⟩
abbrev s_ItemReader_most_digits : Stmt := inClass (top 19) 5
theorem sc_ItemReader_most_digits : FnScope ["self", "begin"] ["self", "begin"] (defScope s_ItemReader_most_digits) := ⟨rfl, rfl, rfl, by decide +kernel, rfl, by decide +kernel, by decide +kernel⟩
abbrev s_ItemReader_item : Stmt := inClass (top 19) 6
theorem sc_ItemReader_item : FnScope ["self"] ["self"] (defScope s_ItemReader_item) := ⟨rfl, rfl, rfl, by decide +kernel, rfl, by decide +kernel, by decide +kernel⟩
abbrev s_ItemReader_whole : Stmt := inClass (top 19) 7
theorem sc_ItemReader_whole : FnScope ["self", "found", "many_open", "is_item_next", "is_open"] ["self"] (defScope s_ItemReader_whole) := ⟨rfl, rfl, rfl, by decide +kernel, rfl, by decide +kernel, by decide +kernel⟩
abbrev s_Item_likeness : Stmt := inClass (top 21) 1
theorem sc_Item_likeness : FnScope ["self"] ["self"] (defScope s_Item_likeness) := ⟨rfl, rfl, rfl, by decide +kernel, rfl, by decide +kernel, by decide +kernel⟩
abbrev s_Item_levels : Stmt := inClass (top 21) 2
theorem sc_Item_levels : FnScope ["self"] ["self"] (defScope s_Item_levels) := ⟨rfl, rfl, rfl, by decide +kernel, rfl, by decide +kernel, by decide +kernel⟩
abbrev s_Item_text : Stmt := inClass (top 21) 3
theorem sc_Item_text : FnScope ["self"] ["self"] (defScope s_Item_text) := ⟨rfl, rfl, rfl, by decide +kernel, rfl, by decide +kernel, by decide +kernel⟩
abbrev s_Item_eq : Stmt := inClass (top 21) 4
theorem sc_Item_eq : FnScope ["self", "other"] ["self", "other"] (defScope s_Item_eq) := ⟨rfl, rfl, rfl, by decide +kernel, rfl, by decide +kernel, by decide +kernel⟩
abbrev s_Say_init : Stmt := inClass (top 22) 1
theorem sc_Say_init : FnScope ["self", "command"] ["self", "command"] (defScope s_Say_init) := ⟨rfl, rfl, rfl, by decide +kernel, rfl, by decide +kernel, by decide +kernel⟩
abbrev s_Say_likeness : Stmt := inClass (top 22) 2
theorem sc_Say_likeness : FnScope ["self"] ["self"] (defScope s_Say_likeness) := ⟨rfl, rfl, rfl, by decide +kernel, rfl, by decide +kernel, by decide +kernel⟩
abbrev s_Say_text : Stmt := inClass (top 22) 3
theorem sc_Say_text : FnScope ["self"] ["self"] (defScope s_Say_text) := ⟨rfl, rfl, rfl, by decide +kernel, rfl, by decide +kernel, by decide +kernel⟩
abbrev s_Press_init : Stmt := inClass (top 23) 1
theorem sc_Press_init : FnScope ["self", "key"] ["self", "key"] (defScope s_Press_init) := ⟨rfl, rfl, rfl, by decide +kernel, rfl, by decide +kernel, by decide +kernel⟩
abbrev s_Press_likeness : Stmt := inClass (top 23) 2
theorem sc_Press_likeness : FnScope ["self"] ["self"] (defScope s_Press_likeness) := ⟨rfl, rfl, rfl, by decide +kernel, rfl, by decide +kernel, by decide +kernel⟩
abbrev s_Press_text : Stmt := inClass (top 23) 3
theorem sc_Press_text : FnScope ["self"] ["self"] (defScope s_Press_text) := ⟨rfl, rfl, rfl, by decide +kernel, rfl, by decide +kernel, by decide +kernel⟩
abbrev s_Go_init : Stmt := inClass (top 24) 1
theorem sc_Go_init : FnScope ["self", "mode"] ["self", "mode"] (defScope s_Go_init) := ⟨rfl, rfl, rfl, by decide +kernel, rfl, by decide +kernel, by decide +kernel⟩
abbrev s_Go_likeness : Stmt := inClass (top 24) 2
theorem sc_Go_likeness : FnScope ["self"] ["self"] (defScope s_Go_likeness) := ⟨rfl, rfl, rfl, by decide +kernel, rfl, by decide +kernel, by decide +kernel⟩
abbrev s_Go_text : Stmt := inClass (top 24) 3
theorem sc_Go_text : FnScope ["self"] ["self"] (defScope s_Go_text) := ⟨rfl, rfl, rfl, by decide +kernel, rfl, by decide +kernel, by decide +kernel⟩
abbrev s_Times_init : Stmt := inClass (top 25) 1
theorem sc_Times_init : FnScope ["self", "number", "items", "body"] ["self", "number", "items"] (defScope s_Times_init) := ⟨rfl, rfl, rfl, by decide +kernel, rfl, by decide +kernel, by decide +kernel⟩
abbrev s_Times_of : Stmt := inClass (top 25) 2
theorem sc_Times_of : FnScope ["cls", "number", "items"] ["cls", "number", "items"] (defScope s_Times_of) := ⟨rfl, rfl, rfl, by decide +kernel, rfl, by decide +kernel, by decide +kernel⟩
abbrev s_Times_likeness : Stmt := inClass (top 25) 3
theorem sc_Times_likeness : FnScope ["self"] ["self"] (defScope s_Times_likeness) := ⟨rfl, rfl, rfl, by decide +kernel, rfl, by decide +kernel, by decide +kernel⟩
abbrev s_Times_levels : Stmt := inClass (top 25) 4
theorem sc_Times_levels : FnScope ["self"] ["self"] (defScope s_Times_levels) := ⟨rfl, rfl, rfl, by decide +kernel, rfl, by decide +kernel, by decide +kernel⟩
abbrev s_Times_text : Stmt := inClass (top 25) 5
theorem sc_Times_text : FnScope ["self"] ["self"] (defScope s_Times_text) := ⟨rfl, rfl, rfl, by decide +kernel, rfl, by decide +kernel, by decide +kernel⟩
abbrev s_is_item : Stmt := top 26
theorem sc_is_item : FnScope ["value"] ["value"] (defScope s_is_item) := ⟨rfl, rfl, rfl, by decide +kernel, rfl, by decide +kernel, by decide +kernel⟩
abbrev s_Body_init : Stmt := inClass (top 27) 0
theorem sc_Body_init : FnScope ["self", "items", "index", "item", "levels", "level"] ["self", "items"] (defScope s_Body_init) := ⟨rfl, rfl, rfl, by decide +kernel, rfl, by decide +kernel, by decide +kernel⟩
abbrev s_Body_of : Stmt := inClass (top 27) 1
theorem sc_Body_of : FnScope ["cls", "items"] ["cls", "items"] (defScope s_Body_of) := ⟨rfl, rfl, rfl, by decide +kernel, rfl, by decide +kernel, by decide +kernel⟩
abbrev s_Body_read : Stmt := inClass (top 27) 2
theorem sc_Body_read : FnScope ["cls", "text", "items"] ["cls", "text"] (defScope s_Body_read) := ⟨rfl, rfl, rfl, by decide +kernel, rfl, by decide +kernel, by decide +kernel⟩
abbrev s_Body_entries : Stmt := inClass (top 27) 3
theorem sc_Body_entries : FnScope ["self"] ["self"] (defScope s_Body_entries) := ⟨rfl, rfl, rfl, by decide +kernel, rfl, by decide +kernel, by decide +kernel⟩
abbrev s_Body_depth : Stmt := inClass (top 27) 4
theorem sc_Body_depth : FnScope ["self"] ["self"] (defScope s_Body_depth) := ⟨rfl, rfl, rfl, by decide +kernel, rfl, by decide +kernel, by decide +kernel⟩
abbrev s_Body_text : Stmt := inClass (top 27) 5
theorem sc_Body_text : FnScope ["self", "item"] ["self"] (defScope s_Body_text) := ⟨rfl, rfl, rfl, by decide +kernel, rfl, by decide +kernel, by decide +kernel⟩
abbrev s_Body_iter : Stmt := inClass (top 27) 6
theorem sc_Body_iter : FnScope ["self"] ["self"] (defScope s_Body_iter) := ⟨rfl, rfl, rfl, by decide +kernel, rfl, by decide +kernel, by decide +kernel⟩
abbrev s_Body_len : Stmt := inClass (top 27) 7
theorem sc_Body_len : FnScope ["self"] ["self"] (defScope s_Body_len) := ⟨rfl, rfl, rfl, by decide +kernel, rfl, by decide +kernel, by decide +kernel⟩
abbrev s_Body_getitem : Stmt := inClass (top 27) 8
theorem sc_Body_getitem : FnScope ["self", "index"] ["self", "index"] (defScope s_Body_getitem) := ⟨rfl, rfl, rfl, by decide +kernel, rfl, by decide +kernel, by decide +kernel⟩
abbrev s_Body_eq : Stmt := inClass (top 27) 9
theorem sc_Body_eq : FnScope ["self", "other"] ["self", "other"] (defScope s_Body_eq) := ⟨rfl, rfl, rfl, by decide +kernel, rfl, by decide +kernel, by decide +kernel⟩
abbrev s_made_items : Stmt := top 28
theorem sc_made_items : FnScope ["parts", "found", "pile", "kind", "value", "items", "number"] ["parts"] (defScope s_made_items) := ⟨rfl, rfl, rfl, by decide +kernel, rfl, by decide +kernel, by decide +kernel⟩
abbrev s_made_item : Stmt := top 29
theorem sc_made_item : FnScope ["kind", "value"] ["kind", "value"] (defScope s_made_item) := ⟨rfl, rfl, rfl, by decide +kernel, rfl, by decide +kernel, by decide +kernel⟩
abbrev s__law_pen : Stmt := top 31
theorem sc__law_pen : FnScope ["_law_script"] ["_law_script"] (defScope s__law_pen) := ⟨rfl, rfl, rfl, by decide +kernel, rfl, by decide +kernel, by decide +kernel⟩
abbrev s__law_draw : Stmt := top 32
theorem sc__law_draw : FnScope ["_law_pen_here", "_law_size", "_law_digit", "_law_spot", "_law_cell", "_law_mixed"] ["_law_pen_here", "_law_size"] (defScope s__law_draw) := ⟨rfl, rfl, rfl, by decide +kernel, rfl, by decide +kernel, by decide +kernel⟩
abbrev s__law_pick : Stmt := top 33
theorem sc__law_pick : FnScope ["_law_pen_here", "_law_items_here"] ["_law_pen_here", "_law_items_here"] (defScope s__law_pick) := ⟨rfl, rfl, rfl, by decide +kernel, rfl, by decide +kernel, by decide +kernel⟩
abbrev s__law_shuffled : Stmt := top 34
theorem sc__law_shuffled : FnScope ["_law_pen_here", "_law_items_here", "_law_left", "_law_found"] ["_law_pen_here", "_law_items_here"] (defScope s__law_shuffled) := ⟨rfl, rfl, rfl, by decide +kernel, rfl, by decide +kernel, by decide +kernel⟩
abbrev s__law_words : Stmt := top 35
theorem sc__law_words : FnScope ["_law_pen_here", "_law_count", "_law_signs", "_law_stem", "_law_at", "_law_front", "_law_step", "_law_tail", "_law_found", "_law_k", "_law_sign", "_law_word"] ["_law_pen_here", "_law_count"] (defScope s__law_words) := ⟨rfl, rfl, rfl, by decide +kernel, rfl, by decide +kernel, by decide +kernel⟩
abbrev s__law_any_value : Stmt := top 36
theorem sc__law_any_value : FnScope ["_law_pen_here", "_law_some"] ["_law_pen_here"] (defScope s__law_any_value) := ⟨rfl, rfl, rfl, by decide +kernel, rfl, by decide +kernel, by decide +kernel⟩
abbrev s__law_item : Stmt := top 37
theorem sc__law_item : FnScope ["_law_pen_here", "_law_names_here", "_law_deep", "_law_lot", "_law_size"] ["_law_pen_here", "_law_names_here", "_law_deep"] (defScope s__law_item) := ⟨rfl, rfl, rfl, by decide +kernel, rfl, by decide +kernel, by decide +kernel⟩
abbrev s__law_items : Stmt := top 38
theorem sc__law_items : FnScope ["_law_pen_here", "_law_names_here", "_law_deep", "_law_topmost", "_law_k"] ["_law_pen_here", "_law_names_here", "_law_deep", "_law_topmost"] (defScope s__law_items) := ⟨rfl, rfl, rfl, by decide +kernel, rfl, by decide +kernel, by decide +kernel⟩
abbrev s__law_names : Stmt := top 39
theorem sc__law_names : FnScope ["_law_pen_here", "_law_some"] ["_law_pen_here"] (defScope s__law_names) := ⟨rfl, rfl, rfl, by decide +kernel, rfl, by decide +kernel, by decide +kernel⟩
abbrev s__law_made : Stmt := top 40
theorem sc__law_made : FnScope ["_law_one", "_law_inner"] ["_law_one"] (defScope s__law_made) := ⟨rfl, rfl, rfl, by decide +kernel, rfl, by decide +kernel, by decide +kernel⟩
abbrev s__law_plain : Stmt := top 41
theorem sc__law_plain : FnScope ["_law_item_here", "_law_one"] ["_law_item_here"] (defScope s__law_plain) := ⟨rfl, rfl, rfl, by decide +kernel, rfl, by decide +kernel, by decide +kernel⟩
abbrev s__law_depth : Stmt := top 42
theorem sc__law_depth : FnScope ["_law_items_here", "_law_one"] ["_law_items_here"] (defScope s__law_depth) := ⟨rfl, rfl, rfl, by decide +kernel, rfl, by decide +kernel, by decide +kernel⟩
abbrev s__law_text : Stmt := top 43
theorem sc__law_text : FnScope ["_law_items_here", "_law_found", "_law_one"] ["_law_items_here"] (defScope s__law_text) := ⟨rfl, rfl, rfl, by decide +kernel, rfl, by decide +kernel, by decide +kernel⟩
abbrev s__law_next : Stmt := top 44
theorem sc__law_next : FnScope ["_law_sort", "_law_size", "_law_deep", "_law_sign", "_law_signs", "_law_digits"] ["_law_sort", "_law_size", "_law_deep", "_law_sign"] (defScope s__law_next) := ⟨rfl, rfl, rfl, by decide +kernel, rfl, by decide +kernel, by decide +kernel⟩
abbrev s__law_wrong : Stmt := top 45
theorem sc__law_wrong : FnScope ["_law_text_here", "_law_here", "_law_k"] ["_law_text_here"] (defScope s__law_wrong) := ⟨rfl, rfl, rfl, by decide +kernel, rfl, by decide +kernel, by decide +kernel⟩
abbrev s__law_parsed : Stmt := top 46
theorem sc__law_parsed : FnScope ["_law_text_here", "_law_found", "_law_pile", "_law_word", "_law_sign", "_law_sort", "_law_size", "_law_outer"] ["_law_text_here"] (defScope s__law_parsed) := ⟨rfl, rfl, rfl, by decide +kernel, rfl, by decide +kernel, by decide +kernel⟩
abbrev s__law_faults : Stmt := top 47
theorem sc__law_faults : FnScope ["_law_items_here", "_law_found", "_law_one"] ["_law_items_here"] (defScope s__law_faults) := ⟨rfl, rfl, rfl, by decide +kernel, rfl, by decide +kernel, by decide +kernel⟩
abbrev s__law_told : Stmt := top 48
theorem sc__law_told : FnScope ["_law_text_here", "e", "_law_one"] ["_law_text_here"] (defScope s__law_told) := ⟨rfl, rfl, rfl, by decide +kernel, rfl, by decide +kernel, by decide +kernel⟩
abbrev s__law_bent : Stmt := top 49
theorem sc__law_bent : FnScope ["_law_pen_here", "_law_text_here", "_law_at", "_law_way", "_law_some"] ["_law_pen_here", "_law_text_here"] (defScope s__law_bent) := ⟨rfl, rfl, rfl, by decide +kernel, rfl, by decide +kernel, by decide +kernel⟩
abbrev s_law : Stmt := top 50
theorem sc_law : FnScope ["_law_script", "_law_pen_here", "_law_lap", "_law_text_here", "_law_again", "_law_wrong_here", "_law_answer", "_law_some", "_law_faults_here", "_law_odd", "_law_deep"] ["_law_script"] (defScope s_law) := ⟨rfl, rfl, rfl, by decide +kernel, rfl, by decide +kernel, by decide +kernel⟩
end Kb

namespace Kb
open PySem PySem.Spec PyProof.Rows L2 Mq
/-! ### common words -/
theorem ifT {c : Bool} {A B : Prop} (hc : c = true) (h : A) : if c = true then A else B := by
  rw [if_pos hc]
  exact h
theorem ifF {c : Bool} {A B : Prop} (hc : c = false) (h : B) : if c = true then A else B := by
  rw [hc, if_neg Bool.false_ne_true]
  exact h
theorem sz (n : Nat) (h : n ≤ 1000) : n ≤ sizeLine := Nat.le_of_lt (small1000 h)
theorem same_new {H : Hp} {d : Addr} {o : HO} (h : H d = none) : Same H (upd H d o) := fun b u e => by
  rw [upd_ne (ne_of_none e h)]
  exact e
theorem same_new2 {H : Hp} {d : Addr} {o u : HO} (h : H d = none) : Same H (upd (upd H d o) d u) := by
  rw [upd_upd]
  exact same_new h
theorem upd_none {H : Hp} {a b : Addr} {o : HO} (h : upd H a o b = none) : b ≠ a ∧ H b = none := by
  by_cases e : b = a
  · rw [e, upd_same] at h
    cases h
  · exact ⟨e, by rw [upd_ne e] at h; exact h⟩
/-- a write at a place that the old heap does not know -/
theorem same_at {H G : Hp} {x : Addr} {o : HO} (s : Same H G) (h : H x = none) : Same H (upd G x o) := fun b u e => by
  rw [upd_ne (ne_of_none e h)]
  exact s b u e
/-- a function's positional promise from its def -/
theorem rawOf {P : Program} {w : World} {K : PySem.W.Frag} {mg : Str → Option Value} {base : Heap} {k : Nat} {f : Addr} {fd : FuncData} {ps : List Str} {sp : Sp} (F : FnOk P w K mg base (LX P w) k f fd ps sp) (b : Binds K fd ps []) :
    FnR P w K mg base (LX P w) k f sp := (F.raw b .nil).imp fun vs H Q E h => by rw [List.append_nil]; exact h
/-! ### words -/
def isL (c : Nat) : Bool := decide (97 ≤ c ∧ c ≤ 122)
def isW (z : Str) : Bool := decide (1 ≤ z.length ∧ z.length ≤ 8) && z.cps.toList.all isL
/-- built-in names of the package -/
structure Bt (mg : Str → Option Value) : Prop where
  isi : mg "isinstance" = none
  str : mg "str" = none
  int : mg "int" = none
  bool : mg "bool" = none
  len : mg "len" = none
  all : mg "all" = none
  max : mg "max" = none
  tuple : mg "tuple" = none
  list : mg "list" = none
  enum : mg "enumerate" = none
  range : mg "range" = none
  min : mg "min" = none
def letters : Str := "abcdefghijklmnopqrstuvwxyz"
structure Cs (mg : Str → Option Value) : Prop where
  letters : ∃ t, mg "LETTERS" = some (.str letters t)
  longest : ∃ t, mg "LONGEST_WORD" = some (.int 8 t)
  items : ∃ t, mg "ITEMS" = some (.int 6 t)
  depth : ∃ t, mg "DEPTH" = some (.int 2 t)
  number : ∃ t, mg "NUMBER" = some (.int (10 ^ 9) t)
def spIsWord (K : PySem.W.Frag) : Sp := fun vs H Q _ => ∃ (v : V) (t : Value) (b : Bool), vs = [v] ∧ TyX K H v t ∧ PySem.W.kitOne K t (.type "str") = some b ∧ (b = false → Q (.bl false) H) ∧
  (b = true → ∃ z : Str, v = .str z ∧ z.length ≤ 1000 ∧ ∀ G, Same H G → Q (.bl (isW z)) G)
def spIsInt (K : PySem.W.Frag) : Sp := fun vs H Q _ => ∃ (v : V) (t : Value) (b c : Bool), vs = [v] ∧ TyX K H v t ∧ PySem.W.kitOne K t (.type "int") = some b ∧ PySem.W.kitOne K t (.type "bool") = some c ∧ Q (.bl (b && !c)) H
def spWithin (K : PySem.W.Frag) : Sp := fun vs H Q _ => ∃ (v : V) (lo hi : Int) (t : Value) (b c : Bool), vs = [v, .int lo, .int hi] ∧ TyX K H v t ∧ PySem.W.kitOne K t (.type "int") = some b ∧ PySem.W.kitOne K t (.type "bool") = some c ∧
  ((b && !c) = false → Q (.bl false) H) ∧ ((b && !c) = true → ∃ i, v = .int i ∧ Q (.bl (decide (lo ≤ i) && decide (i ≤ hi))) H)
section
variable {P : Program} {w : World} {K : PySem.W.Frag} {mg : Str → Option Value} {base : Heap}
theorem isL_in (c : Nat) : decide (c ∈ letters.cps.toList) = isL c := by
  have h : ∀ c : Nat, c ∈ letters.cps.toList ↔ (97 ≤ c ∧ c ≤ 122) := by
    intro c
    have e : letters.cps.toList = (List.range 26).map (· + 97) := by decide +kernel
    rw [e, List.mem_map]
    constructor
    · rintro ⟨a, h1, rfl⟩
      have := List.mem_range.mp h1
      omega
    · intro h
      exact ⟨c - 97, List.mem_range.mpr (by omega), by omega⟩
  unfold isL
  exact decide_eq_decide.mpr (h c)
theorem ok_is_integer {f : Addr} {fd : FuncData} (F : FunD K "is_integer" "is_integer" (defArgs s_is_integer) (defBody s_is_integer) (defScope s_is_integer) [] [] f fd) (T : Bt mg) : FnOk P w K mg base (LX P w) 1 f fd ["value"] (spIsInt K) := by
  refine F.ok sc_is_integer (fun vs H Q E h => ?_) (fun cdv A outer s H vs Q E hr h => ?_)
  · obtain ⟨v, t, b, c, rfl, _⟩ := h
    rfl
  · obtain ⟨v, t, b, c, rfl, ty, hb, hc, q⟩ := h
    refine ⟨_, PSs.nox (pss_one (ps_ret (pe_and (pe_callB call_isi (by rfl) T.isi (by decide +kernel) (pa_cons (pv 0) (pa_cons (pe_bltn (v := .ty "int") (by rfl) T.int (by decide +kernel) rfl) pa_nil)))
      (pe_one (pe_not (pe_callB call_isi (by rfl) T.isi (by decide +kernel) (pa_cons (pv 0) (pa_cons (pe_bltn (v := .ty "bool") (by rfl) T.bool (by decide +kernel) rfl) pa_nil)))))))), ?_⟩
    refine ⟨_, rfl, v, _, t, _, b, rfl, .ty "int", ty, hb, b, rfl, ?_⟩
    cases b with
    | false => exact q
    | true => exact ⟨_, rfl, v, _, t, _, c, rfl, .ty "bool", ty, hc, c, rfl, q⟩
theorem ok_is_within {f : Addr} {fd : FuncData} (F : FunD K "is_within" "is_within" (defArgs s_is_within) (defBody s_is_within) (defScope s_is_within) [] [] f fd) (O : Of P w K mg base 1 "is_integer" (spIsInt K)) : FnOk P w K mg base (LX P w) 2 f fd ["value", "least", "most"] (spWithin K) := by
  refine F.ok sc_is_within (fun vs H Q E h => ?_) (fun cdv A outer s H vs Q E hr h => ?_)
  · obtain ⟨v, lo, hi, t, b, c, rfl, _⟩ := h
    rfl
  · obtain ⟨v, lo, hi, t, b, c, rfl, ty, hb, hc, q0, q1⟩ := h
    refine ⟨_, PSs.nox (pss_one (ps_ret (pe_and (pe_of (E := E0) O hr rfl passL (pa_cons (pv 0) pa_nil)) (pe_one (pe_chain op_le op_le (pv 1) (pv 0) (pv 2)))))), ?_⟩
    refine ⟨_, rfl, v, t, b, c, rfl, ty, hb, hc, (b && !c), rfl, ?_⟩
    cases e : (b && !c) with
    | false => exact q0 e
    | true =>
      obtain ⟨i, rfl, q⟩ := q1 e
      refine ⟨_, rfl, _, rfl, lo, i, rfl, rfl, _, rfl, ?_⟩
      by_cases h1 : lo ≤ i
      · refine ifT (by simpa using h1) ⟨_, rfl, i, hi, rfl, rfl, ?_⟩
        simpa [h1] using q
      · refine ifF (by simpa using h1) ?_
        simpa [h1] using q
theorem ok_is_word {f : Addr} {fd : FuncData} (F : FunD K "is_word" "is_word" (defArgs s_is_word) (defBody s_is_word) (defScope s_is_word) [] [] f fd) (T : Bt mg) (C : Cs mg) : FnOk P w K mg base (LX P w) 1 f fd ["value"] (spIsWord K) := by
  refine F.ok sc_is_word (fun vs H Q E h => ?_) (fun cdv A outer s H vs Q E hr h => ?_)
  · obtain ⟨v, t, b, rfl, _⟩ := h
    rfl
  · obtain ⟨v, t, b, rfl, ty, hb, q0, q1⟩ := h
    obtain ⟨t1, g1⟩ := C.longest
    obtain ⟨t2, g2⟩ := C.letters
    refine ⟨_, PSs.nox (pss_cons (ps_if (PW.pt (pw_or (pt_not (pt_val (pe_callB call_isi (by rfl) T.isi (by decide +kernel) (pa_cons (pv 0) (pa_cons (pe_bltn (v := .ty "str") (by rfl) T.str (by decide +kernel) rfl) pa_nil)))))
        (pw_or1 (pt_not (pt_chain op_le op_le pe_int (pe_callB call_len_str (by rfl) T.len PySem.boot_len (pa_cons (pv 0) pa_nil)) (pe_glob (v := .int 8) rfl g1 ⟨_, rfl⟩))))))
        (pss_one (ps_ret pe_bl)) pss_nil)
      (pss_one (ps_ret (pe_callB (cr_all rfl) (by rfl) T.all (by decide +kernel) (pa_cons
        (pe_lc (own := [("letter", 1)]) (g := gName 1) (tt := tYes) (by rfl) sc_is_word.nd (pi_str (pv 0)) (blkOk_by (own := [("letter", 1)]) (N := ["value", "letter"]) (sc := defScope s_is_word) (by decide +kernel))
          (fun _ _ _ _ _ => pg_name (i := 1) sc_is_word.nd rfl (Or.inl rfl)) (fun _ _ _ _ _ => pts_nil) (fun _ _ _ _ _ => pe_cmpR op_in_sign (pv 1) (pe_glob (v := .str letters) rfl g2 ⟨_, rfl⟩) rfl)) pa_nil))))), ?_⟩
    refine ⟨_, rfl, v, _, t, _, b, rfl, .ty "str", ty, hb, b, rfl, ?_⟩
    cases b with
    | false => exact q0 rfl
    | true =>
      obtain ⟨z, rfl, hz, q⟩ := q1 rfl
      have hz2 : z.length ≤ sizeLine := sz _ hz
      refine ⟨_, rfl, z, rfl, hz2, _, _, rfl, rfl, _, rfl, ?_⟩
      by_cases h1 : (1 : Int) ≤ (z.length : Int)
      · refine ifT (decide_eq_true h1) ⟨_, _, rfl, rfl, _, rfl, ?_⟩
        by_cases h2 : (z.length : Int) ≤ 8
        · refine ifF (by simpa using h2) ?_
          have len : z.cps.toList.length = z.length := by simp [Str.length]
          refine ⟨_, rfl, z, rfl, fun D hD => lc_it walk_str (fun j G => Same H G ∧ G D = some (.lst ((z.cps.toList.take j).map fun c => V.bl (isL c)))) ⟨same_new hD, upd_same⟩ (fun _ _ _ _ => trivial) ?_ ?_⟩
          · rintro j x G G' hj ⟨sm, hl⟩ ⟨rfl, c, hc, rfl⟩
            refine ⟨rfl, ?_⟩
            refine ⟨_, rfl, c, letters, rfl, rfl, _, hl, ?_, same_at sm hD, ?_⟩
            · rw [List.length_map, List.length_take]
              have := small1000 (n := 1000) (Nat.le_refl _)
              omega
            · rw [upd_same, isL_in]
              have e : z.cps.toList.take (j + 1) = z.cps.toList.take j ++ [c] := by
                rw [List.take_succ, show z.cps.toList[j]? = some c by simpa using hc]
                rfl
              rw [e, List.map_append]
              rfl
          · rintro G ⟨sm, hl⟩
            have e : (z.cps.toList.take z.cps.size).map (fun c => V.bl (isL c)) = (z.cps.toList.map isL).map V.bl := by
              rw [List.take_of_length_le (by simp), List.map_map]
              rfl
            rw [e] at hl
            refine ⟨D, _, rfl, .inl (.inl hl), ?_⟩
            have w0 : isW z = (z.cps.toList.map isL).all id := by
              unfold isW
              rw [decide_eq_true (show 1 ≤ z.length ∧ z.length ≤ 8 by omega), Bool.true_and]
              simp [List.all_map]
            rw [← w0]
            exact q G sm
        · refine ifT (by simpa using h2) ?_
          have w0 : isW z = false := by
            unfold isW
            rw [decide_eq_false (show ¬ (1 ≤ z.length ∧ z.length ≤ 8) by omega), Bool.false_and]
          rw [← w0]
          exact q H fun _ _ e => e
      · refine ifF (by simpa using h1) ⟨_, rfl, ?_⟩
        refine ifT (by rfl) ?_
        have w0 : isW z = false := by
          unfold isW
          rw [decide_eq_false (show ¬ (1 ≤ z.length ∧ z.length ≤ 8) by omega), Bool.false_and]
        rw [← w0]
        exact q H fun _ _ e => e
end
end Kb

namespace Kb
open PySem PySem.Spec PyProof.Rows L2 Mq Rz En
/-! ### items and bodies in plain words -/
inductive It where
  | say (w : Str)
  | press (w : Str)
  | go (w : Str)
  | times (n : Int) (xs : List It)
mutual
def It.lv : It → Nat
  | .times _ xs => 1 + lvL xs
  | _ => 0
def lvL : List It → Nat
  | [] => 0
  | x :: r => max x.lv (lvL r)
end
abbrev cI (K : PySem.W.Frag) : Addr := He.ga K "Item"
abbrev cS (K : PySem.W.Frag) : Addr := He.ga K "Say"
abbrev cP (K : PySem.W.Frag) : Addr := He.ga K "Press"
abbrev cG (K : PySem.W.Frag) : Addr := He.ga K "Go"
abbrev cT (K : PySem.W.Frag) : Addr := He.ga K "Times"
abbrev cB (K : PySem.W.Frag) : Addr := He.ga K "Body"
mutual
inductive ItAt (K : PySem.W.Frag) (H : Hp) : V → It → Prop
  | say {a dx : Addr} {w : Str} (e : H a = some (.ins (cS K) dx [("command", .str w)])) : ItAt K H (.ref a) (.say w)
  | press {a dx : Addr} {w : Str} (e : H a = some (.ins (cP K) dx [("key", .str w)])) : ItAt K H (.ref a) (.press w)
  | go {a dx : Addr} {w : Str} (e : H a = some (.ins (cG K) dx [("mode", .str w)])) : ItAt K H (.ref a) (.go w)
  | times {a dx b : Addr} {n : Int} {xs : List It} (e : H a = some (.ins (cT K) dx [("number", .int n), ("body", .ref b)])) (hb : BdAt K H b xs) (hl : lvL xs ≤ 1) : ItAt K H (.ref a) (.times n xs)
inductive BdAt (K : PySem.W.Frag) (H : Hp) : Addr → List It → Prop
  | mk {b dx t : Addr} {vs : List V} {xs : List It} (e : H b = some (.ins (cB K) dx [("own_entries", .ref t), ("own_depth", .int (lvL xs))])) (ht : H t = some (.tup vs)) (h : ItsAt K H vs xs) (hl : xs.length ≤ 6) : BdAt K H b xs
inductive ItsAt (K : PySem.W.Frag) (H : Hp) : List V → List It → Prop
  | nil : ItsAt K H [] []
  | cons {v : V} {i : It} {vs : List V} {xs : List It} (h : ItAt K H v i) (r : ItsAt K H vs xs) : ItsAt K H (v :: vs) (i :: xs)
end
/-- instances that have fields, and tuples, stay -/
def Kin (H G : Hp) : Prop := (∀ a C dx f fs, H a = some (.ins C dx (f :: fs)) → G a = some (.ins C dx (f :: fs))) ∧ ∀ a vs, H a = some (.tup vs) → G a = some (.tup vs)
theorem Kin.of_same {H G : Hp} (s : Same H G) : Kin H G := ⟨fun _ _ _ _ _ e => s _ _ e, fun _ _ e => s _ _ e⟩
theorem Kin.trans {H G G' : Hp} (a : Kin H G) (b : Kin G G') : Kin H G' := ⟨fun _ _ _ _ _ e => b.1 _ _ _ _ _ (a.1 _ _ _ _ _ e), fun _ _ e => b.2 _ _ (a.2 _ _ e)⟩
/-- an instance without fields, or what is neither instance nor tuple, is changed -/
theorem Kin.at_ {H : Hp} {x : Addr} {u o : HO} (h : H x = some u) (h1 : ∀ C dx f fs, u ≠ .ins C dx (f :: fs)) (h2 : ∀ vs, u ≠ .tup vs) : Kin H (upd H x o) := by
  refine ⟨fun a C dx f fs e => ?_, fun a vs e => ?_⟩
  · rw [upd_ne fun z => h1 C dx f fs (Option.some.inj (h.symm.trans (by rw [← z]; exact e)))]
    exact e
  · rw [upd_ne fun z => h2 vs (Option.some.inj (h.symm.trans (by rw [← z]; exact e)))]
    exact e
mutual
theorem ItAt.kin {K : PySem.W.Frag} {H G : Hp} (k : Kin H G) : ∀ {v : V} {i : It}, ItAt K H v i → ItAt K G v i
  | _, _, .say e => .say (k.1 _ _ _ _ _ e)
  | _, _, .press e => .press (k.1 _ _ _ _ _ e)
  | _, _, .go e => .go (k.1 _ _ _ _ _ e)
  | _, _, .times e hb hl => .times (k.1 _ _ _ _ _ e) (hb.kin k) hl
theorem BdAt.kin {K : PySem.W.Frag} {H G : Hp} (k : Kin H G) : ∀ {b : Addr} {xs : List It}, BdAt K H b xs → BdAt K G b xs
  | _, _, .mk e ht h hl => .mk (k.1 _ _ _ _ _ e) (k.2 _ _ ht) (h.kin k) hl
theorem ItsAt.kin {K : PySem.W.Frag} {H G : Hp} (k : Kin H G) : ∀ {vs : List V} {xs : List It}, ItsAt K H vs xs → ItsAt K G vs xs
  | _, _, .nil => .nil
  | _, _, .cons h r => .cons (h.kin k) (r.kin k)
end
theorem ItAt.same {K : PySem.W.Frag} {H G : Hp} {v : V} {i : It} (h : ItAt K H v i) (s : Same H G) : ItAt K G v i := h.kin (.of_same s)
theorem ItsAt.same {K : PySem.W.Frag} {H G : Hp} {vs : List V} {xs : List It} (h : ItsAt K H vs xs) (s : Same H G) : ItsAt K G vs xs := h.kin (.of_same s)
theorem ItsAt.length {K : PySem.W.Frag} {H : Hp} : ∀ {vs : List V} {xs : List It}, ItsAt K H vs xs → vs.length = xs.length
  | _, _, .nil => rfl
  | _, _, .cons _ r => congrArg (· + 1) r.length
theorem ItsAt.get {K : PySem.W.Frag} {H : Hp} : ∀ {vs : List V} {xs : List It}, ItsAt K H vs xs → ∀ {i : Nat} {v : V}, vs[i]? = some v → ∃ x, xs[i]? = some x ∧ ItAt K H v x
  | _, _, .nil, i, v, e => by simp at e
  | _, _, .cons h r, 0, v, e => ⟨_, rfl, by cases e; exact h⟩
  | _, _, .cons h r, i + 1, v, e => by
    obtain ⟨x, h1, h2⟩ := r.get (i := i) (by simpa using e)
    exact ⟨x, by simpa using h1, h2⟩
theorem ItAt.lv_le {K : PySem.W.Frag} {H : Hp} {v : V} {i : It} (h : ItAt K H v i) : i.lv ≤ 2 := by
  cases h with
  | times e hb hl => simp only [It.lv]; omega
  | _ => simp [It.lv]
/-- at least the known objects but x stay -/
def Butx (x : Addr) (H G : Hp) : Prop := ∀ b o, H b = some o → b ≠ x → G b = some o
theorem Butx.of_same {x : Addr} {H G : Hp} (s : Same H G) : Butx x H G := fun b o h _ => s b o h
theorem Butx.trans {x : Addr} {H G G' : Hp} (a : Butx x H G) (b : Butx x G G') : Butx x H G' := fun c o h n => b c o (a c o h n) n
theorem Butx.upd {x : Addr} {H G : Hp} {o : HO} (a : Butx x H G) : Butx x H (upd G x o) := fun b u h n => by rw [upd_ne n]; exact a b u h n
theorem same_made {H G : Hp} {x dx : Addr} {C : Addr} {o : HO} (h1 : H x = none) (h2 : H dx = none) (b : Butx x (upd (upd H dx (.own x)) x (.ins C dx [])) G) : Same H (upd G x o) := fun c u e => by
  have n1 := ne_of_none e h1
  rw [upd_ne n1]
  refine b c u ?_ n1
  rw [upd_ne n1, upd_ne (ne_of_none e h2)]
  exact e
/-! ### facts of the text -/
structure Ee (P : Program) (K : PySem.W.Frag) (mg : Str → Option Value) (B : String) (x f : Str) : Prop where
  er : ErX.Er1 P K mg B x (He.ga K x) f
  rc : PySem.W.subIn K (.ref (He.ga K x)) (.type "BaseException") = some true
  rt : PySem.W.typeIn K (.ref (He.ga K x)) = some (.type "type")
structure Tc (P : Program) (K : PySem.W.Frag) (mg : Str → Option Value) : Prop where
  bt : Bt mg
  cs : Cs mg
  kl : ∀ x ∈ (["Say", "Press", "Go", "Times", "Body"] : List Str), Hm.Kl K (He.ga K x)
  g : ∀ x ∈ (["Item", "Say", "Press", "Go", "Times", "Body"] : List Str), mg x = some (.ref (He.ga K x))
  mkr : ∀ x ∈ (["Say", "Press", "Go", "Times", "Body"] : List Str), Mk K (He.ga K x) (He.ma K (He.ga K x) "__init__")
  na : ∀ p ∈ ([("Say", "command"), ("Press", "key"), ("Go", "mode"), ("Times", "number"), ("Times", "body"), ("Body", "own_entries"), ("Body", "own_depth")] : List (Str × Str)), NoAttr K (He.ga K p.1) p.2
  kind : ∀ p ∈ ([("Say", "say"), ("Press", "press"), ("Go", "go"), ("Times", "times")] : List (Str × Str)), ∃ u, Con K (He.ga K p.1) "KIND" (.str p.2) u
  lev : ∀ x ∈ (["Say", "Press", "Go", "Times"] : List Str), Meth K (He.ga K x) "levels" (He.ma K (He.ga K x) "levels")
  kit : ∀ x ∈ (["Say", "Press", "Go", "Times", "Body"] : List Str), ∀ y ∈ (["Item", "Say", "Press", "Go", "Times", "Body"] : List Str), PySem.W.kitOne K (.ref (He.ga K x)) (.ref (He.ga K y)) = some (decide (y = x) || (decide (y = "Item") && !decide (x = "Body")))
  kitT : ∀ t ∈ (["NoneType", "bool", "int", "str", "list", "tuple", "dict"] : List String), ∀ y ∈ (["Item", "Say", "Press", "Go", "Times", "Body"] : List Str), PySem.W.kitOne K (.type t) (.ref (He.ga K y)) = some false
  kitO : ∀ x ∈ (["Say", "Press", "Go", "Times", "Body"] : List Str), ∀ t ∈ (["str", "int", "bool"] : List String), PySem.W.kitOne K (.ref (He.ga K x)) (.type t) = some false
  dep : PropOf K (cB K) "depth" (He.ma K (cB K) "depth") (He5.wf K (cB K) "property" "depth")
  ofT : ClX.CRead K (cT K) (.type "type") ∧ ClX.CMet K (cT K) (.type "type") "of" (He.ma K (cT K) "of") (He5.wf K (cT K) "classmethod" "of")
  ofB : ClX.CRead K (cB K) (.type "type") ∧ ClX.CMet K (cB K) (.type "type") "of" (He.ma K (cB K) "of") (He5.wf K (cB K) "classmethod" "of")
  eI : Ee P K mg "ValueError" "InvalidItem" "field"
  eN : Ee P K mg "TypeError" "NotAnItem" "index"
  eM : Ee P K mg "OverflowError" "TooMany" "limit"
  eD : Ee P K mg "OverflowError" "TooDeep" "limit"
def isWV : V → Bool
  | .str z => isW z
  | _ => false
/-- a value of which is_word can be asked -/
def Wv (K : PySem.W.Frag) (H : Hp) (v : V) : Prop := ∃ (t : Value) (b : Bool), TyX K H v t ∧ PySem.W.kitOne K t (.type "str") = some b ∧ (b = true → ∃ z : Str, v = .str z ∧ z.length ≤ 1000) ∧ (b = false → isWV v = false)
theorem isWord {K : PySem.W.Frag} {H : Hp} {v : V} {Q : VK} {E : XK} (h : Wv K H v) (q : ∀ G, Same H G → Q (.bl (isWV v)) G) : spIsWord K [v] H Q E := by
  obtain ⟨t, b, h1, h2, h3, h4⟩ := h
  refine ⟨v, t, b, rfl, h1, h2, fun e => ?_, fun e => ?_⟩
  · have z := q H fun _ _ e => e
    rw [h4 e] at z
    exact z
  · obtain ⟨z, rfl, hz⟩ := h3 e
    exact ⟨z, rfl, hz, q⟩
theorem Wv.str {K : PySem.W.Frag} {H : Hp} {z : Str} (h : z.length ≤ 1000) : Wv K H (.str z) := ⟨.type "str", true, .base (.str z), kit_ty (by decide +kernel), fun _ => ⟨z, rfl, h⟩, fun e => by cases e⟩
def spWord (K : PySem.W.Frag) : Sp := fun vs H Q _ => ∃ v : V, vs = [v] ∧ Wv K H v ∧ ∀ G, Same H G → Q (.bl (isWV v)) G
theorem of_word {P : Program} {w : World} {K : PySem.W.Frag} {mg : Str → Option Value} {base : Heap} (O : Of P w K mg base 1 "is_word" (spIsWord K)) : Of P w K mg base 1 "is_word" (spWord K) :=
  let ⟨f, a, b, c⟩ := O; ⟨f, a, b, c.imp fun vs H Q E ⟨v, e, h, q⟩ => by rw [e]; exact isWord h q⟩
section
variable {P : Program} {w : World} {K : PySem.W.Frag} {mg : Str → Option Value} {base : Heap}
/-! ### Say, Press, Go -/
def spOne (K : PySem.W.Frag) (C : Addr) (f : Str) : Sp := fun vs H Q E => ∃ (x dx : Addr) (v : V), vs = [.ref x, v] ∧ H x = some (.ins C dx []) ∧ Wv K H v ∧ (isWV v = true → ∀ G, Butx x H G → Q .non (upd G x (.ins C dx [(f, v)]))) ∧
  (isWV v = false → ∀ G d, Butx x H G → G d = none → E (.ref (He.ga K "InvalidItem")) (some d) (upd G d (.xd [("field", .str f)])))
theorem ok_Say {f : Addr} {fd : FuncData} (F : FunD K "__init__" "Say.__init__" (defArgs s_Say_init) (defBody s_Say_init) (defScope s_Say_init) [] [] f fd) (T : Tc P K mg) (W : Of P w K mg base 1 "is_word" (spWord K)) :
    FnOk P w K mg base (LX P w) 2 f fd ["self", "command"] (spOne K (He.ga K "Say") "command") := by
  refine F.ok sc_Say_init (fun vs H Q E h => ?_) (fun cdv A outer s H vs Q E hr h => ?_)
  · obtain ⟨x, dx, v, rfl, _⟩ := h
    rfl
  · obtain ⟨x, dx, v, rfl, hx, hW, q1, q2⟩ := h
    refine ⟨_, pss_cons (ps_if (pt_not (pt_val (pe_of (E := E0) W hr rfl passL (pa_cons (pv 1) pa_nil)))) (pss_one (ps_raise1 rfl (takes_of (E := E) rfl rfl rfl rfl) T.eI.er T.eI.rc T.eI.rt hr rfl (pa_cons pe_str pa_nil))) pss_nil) (pss_one (ps_fld (pv 0) (pv 1) rfl)), ?_⟩
    refine ⟨_, rfl, v, rfl, hW, fun G sm => ⟨_, rfl, ?_⟩⟩
    cases e : isWV v with
    | false => exact ifT (by rfl) ⟨_, rfl, fun d hd => q2 e G d (.of_same sm) hd⟩
    | true => exact ifF (by rfl) ⟨_, rfl, _, rfl, x, _, dx, _, rfl, sm _ _ hx, (T.kl "Say" (by decide)).cl, T.na ("Say", "command") (by decide), by decide, q1 e G (.of_same sm)⟩
theorem ok_Press {f : Addr} {fd : FuncData} (F : FunD K "__init__" "Press.__init__" (defArgs s_Press_init) (defBody s_Press_init) (defScope s_Press_init) [] [] f fd) (T : Tc P K mg) (W : Of P w K mg base 1 "is_word" (spWord K)) :
    FnOk P w K mg base (LX P w) 2 f fd ["self", "key"] (spOne K (He.ga K "Press") "key") := by
  refine F.ok sc_Press_init (fun vs H Q E h => ?_) (fun cdv A outer s H vs Q E hr h => ?_)
  · obtain ⟨x, dx, v, rfl, _⟩ := h
    rfl
  · obtain ⟨x, dx, v, rfl, hx, hW, q1, q2⟩ := h
    refine ⟨_, pss_cons (ps_if (pt_not (pt_val (pe_of (E := E0) W hr rfl passL (pa_cons (pv 1) pa_nil)))) (pss_one (ps_raise1 rfl (takes_of (E := E) rfl rfl rfl rfl) T.eI.er T.eI.rc T.eI.rt hr rfl (pa_cons pe_str pa_nil))) pss_nil) (pss_one (ps_fld (pv 0) (pv 1) rfl)), ?_⟩
    refine ⟨_, rfl, v, rfl, hW, fun G sm => ⟨_, rfl, ?_⟩⟩
    cases e : isWV v with
    | false => exact ifT (by rfl) ⟨_, rfl, fun d hd => q2 e G d (.of_same sm) hd⟩
    | true => exact ifF (by rfl) ⟨_, rfl, _, rfl, x, _, dx, _, rfl, sm _ _ hx, (T.kl "Press" (by decide)).cl, T.na ("Press", "key") (by decide), by decide, q1 e G (.of_same sm)⟩
theorem ok_Go {f : Addr} {fd : FuncData} (F : FunD K "__init__" "Go.__init__" (defArgs s_Go_init) (defBody s_Go_init) (defScope s_Go_init) [] [] f fd) (T : Tc P K mg) (W : Of P w K mg base 1 "is_word" (spWord K)) :
    FnOk P w K mg base (LX P w) 2 f fd ["self", "mode"] (spOne K (He.ga K "Go") "mode") := by
  refine F.ok sc_Go_init (fun vs H Q E h => ?_) (fun cdv A outer s H vs Q E hr h => ?_)
  · obtain ⟨x, dx, v, rfl, _⟩ := h
    rfl
  · obtain ⟨x, dx, v, rfl, hx, hW, q1, q2⟩ := h
    refine ⟨_, pss_cons (ps_if (pt_not (pt_val (pe_of (E := E0) W hr rfl passL (pa_cons (pv 1) pa_nil)))) (pss_one (ps_raise1 rfl (takes_of (E := E) rfl rfl rfl rfl) T.eI.er T.eI.rc T.eI.rt hr rfl (pa_cons pe_str pa_nil))) pss_nil) (pss_one (ps_fld (pv 0) (pv 1) rfl)), ?_⟩
    refine ⟨_, rfl, v, rfl, hW, fun G sm => ⟨_, rfl, ?_⟩⟩
    cases e : isWV v with
    | false => exact ifT (by rfl) ⟨_, rfl, fun d hd => q2 e G d (.of_same sm) hd⟩
    | true => exact ifF (by rfl) ⟨_, rfl, _, rfl, x, _, dx, _, rfl, sm _ _ hx, (T.kl "Go" (by decide)).cl, T.na ("Go", "mode") (by decide), by decide, q1 e G (.of_same sm)⟩
/-! ### levels -/
def spLv0 (C : Addr) : Sp := fun vs H Q _ => ∃ (x : Addr), vs = [.ref x] ∧ Q (.int 0) H
theorem ok_levels {f : Addr} {fd : FuncData} (F : FunD K "levels" "Item.levels" (defArgs s_Item_levels) (defBody s_Item_levels) (defScope s_Item_levels) [] [] f fd) : FnOk P w K mg base (LX P w) 1 f fd ["self"] (spLv0 0) := by
  refine F.ok sc_Item_levels (fun vs H Q E h => ?_) (fun cdv A outer s H vs Q E hr h => ?_)
  · obtain ⟨x, rfl, _⟩ := h
    rfl
  · obtain ⟨x, rfl, q⟩ := h
    exact ⟨_, PSs.nox (pss_one (ps_ret pe_int)), q⟩
def spDepth (K : PySem.W.Frag) : Sp := fun vs H Q _ => ∃ (b : Addr) (xs : List It), vs = [.ref b] ∧ BdAt K H b xs ∧ Q (.int (lvL xs)) H
theorem ok_depth {f : Addr} {fd : FuncData} (F : FunD K "depth" "Body.depth" (defArgs s_Body_depth) (defBody s_Body_depth) (defScope s_Body_depth) [] [] f fd) (T : Tc P K mg) : FnOk P w K mg base (LX P w) 1 f fd ["self"] (spDepth K) := by
  refine F.ok sc_Body_depth (fun vs H Q E h => ?_) (fun cdv A outer s H vs Q E hr h => ?_)
  · obtain ⟨b, xs, rfl, _⟩ := h
    rfl
  · obtain ⟨b, xs, rfl, hB, q⟩ := h
    cases hB with
    | mk e ht h hl => exact ⟨_, PSs.nox (pss_one (ps_ret (pe_fld (pv 0) rfl))), _, rfl, b, _, _, _, _, rfl, e, (T.kl "Body" (by decide)).cl, T.na ("Body", "own_depth") (by decide), rfl, q⟩
def spLvT (K : PySem.W.Frag) : Sp := fun vs H Q _ => ∃ (x dx b : Addr) (n : Int) (xs : List It), vs = [.ref x] ∧ H x = some (.ins (cT K) dx [("number", .int n), ("body", .ref b)]) ∧ BdAt K H b xs ∧ Q (.int (1 + (lvL xs : Nat))) H
theorem BdAt.at_ {H : Hp} {b : Addr} {xs : List It} (h : BdAt K H b xs) : ∃ dx t vs, H b = some (.ins (cB K) dx [("own_entries", .ref t), ("own_depth", .int (lvL xs))]) ∧ H t = some (.tup vs) ∧ ItsAt K H vs xs ∧ xs.length ≤ 6 := by
  cases h with
  | mk e ht h hl => exact ⟨_, _, _, e, ht, h, hl⟩
theorem ok_levelsT {f g : Addr} {fd fdg : FuncData} (F : FunD K "levels" "Times.levels" (defArgs s_Times_levels) (defBody s_Times_levels) (defScope s_Times_levels) [] [] f fd) (T : Tc P K mg)
    (D : FnOk P w K mg base (LX P w) 1 (He5.wf K (cB K) "property" "depth") fdg ["self"] (spDepth K)) (bD : Binds K fdg ["self"] []) : FnOk P w K mg base (LX P w) 3 f fd ["self"] (spLvT K) := by
  refine F.ok sc_Times_levels (fun vs H Q E h => ?_) (fun cdv A outer s H vs Q E hr h => ?_)
  · obtain ⟨x, dx, b, n, xs, rfl, _⟩ := h
    rfl
  · obtain ⟨x, dx, b, n, xs, rfl, hx, hB, q⟩ := h
    obtain ⟨db, t, vs, hb, _⟩ := hB.at_
    refine ⟨_, PSs.nox (pss_one (ps_ret (pe_op op_add pe_int (pe_prop (E := E0) (pe_fld (pv 0) rfl) (T.kl "Body" (by decide)).cl T.dep D hr bD .nil passL rfl)))), ?_⟩
    exact ⟨_, rfl, x, _, dx, _, _, rfl, hx, (T.kl "Times" (by decide)).cl, T.na ("Times", "body") (by decide), rfl, b, db, _, rfl, hb, b, xs, rfl, hB, _, _, rfl, rfl, q⟩
end
end Kb

namespace Kb
open PySem PySem.Spec PyProof.Rows L2 Mq Rz En
/-- a value that is an item (which one), or none -/
inductive Cd (K : PySem.W.Frag) (H : Hp) : V → Option It → Prop
  | it {v : V} {i : It} (h : ItAt K H v i) : Cd K H v (some i)
  | no {v : V} {t : Value} (ty : TyX K H v t) (k : PySem.W.kitOne K t (.ref (cI K)) = some false) : Cd K H v none
def spIsItem (K : PySem.W.Frag) : Sp := fun vs H Q _ => ∃ (v : V) (o : Option It), vs = [v] ∧ Cd K H v o ∧ Q (.bl o.isSome) H
def clsOf (K : PySem.W.Frag) : It → Addr
  | .say _ => cS K
  | .press _ => cP K
  | .go _ => cG K
  | .times .. => cT K
def nmOf : It → Str
  | .say _ => "Say"
  | .press _ => "Press"
  | .go _ => "Go"
  | .times .. => "Times"
def kdOf : It → Str
  | .say _ => "say"
  | .press _ => "press"
  | .go _ => "go"
  | .times .. => "times"
theorem ItAt.inst {K : PySem.W.Frag} {H : Hp} {v : V} {i : It} (h : ItAt K H v i) : ∃ a dx fs, v = .ref a ∧ H a = some (.ins (He.ga K (nmOf i)) dx fs) ∧ fs.lookup ("KIND" : Str) = none ∧ fs.lookup ("levels" : Str) = none := by
  cases h with
  | say e => exact ⟨_, _, _, rfl, e, by rfl, by rfl⟩
  | press e => exact ⟨_, _, _, rfl, e, by rfl, by rfl⟩
  | go e => exact ⟨_, _, _, rfl, e, by rfl, by rfl⟩
  | times e hb hl => exact ⟨_, _, _, rfl, e, by rfl, by rfl⟩
theorem nmOf_mem (i : It) : nmOf i ∈ (["Say", "Press", "Go", "Times"] : List Str) := by cases i <;> simp [nmOf]
theorem nmOf_mem5 (i : It) : nmOf i ∈ (["Say", "Press", "Go", "Times", "Body"] : List Str) := by cases i <;> simp [nmOf]
section
variable {P : Program} {w : World} {K : PySem.W.Frag} {mg : Str → Option Value} {base : Heap}
theorem ItAt.ty {H : Hp} {v : V} {i : It} (h : ItAt K H v i) (T : Tc P K mg) : TyX K H v (.ref (He.ga K (nmOf i))) := by
  obtain ⟨a, dx, fs, rfl, e, _⟩ := h.inst
  exact (T.kl _ (nmOf_mem5 i)).ty e
theorem ItAt.kit {H : Hp} {v : V} {i : It} (h : ItAt K H v i) (T : Tc P K mg) : PySem.W.kitOne K (.ref (He.ga K (nmOf i))) (.ref (cI K)) = some true := by
  rw [T.kit _ (nmOf_mem5 i) "Item" (by decide)]
  have z : ∀ x ∈ (["Say", "Press", "Go", "Times"] : List Str), (decide (("Item" : Str) = x) || (decide (("Item" : Str) = "Item") && !decide (x = "Body"))) = true := by decide +kernel
  rw [z _ (nmOf_mem i)]
theorem ItAt.kind {H : Hp} {v : V} {i : It} (h : ItAt K H v i) (T : Tc P K mg) : ∃ u, Con K (He.ga K (nmOf i)) "KIND" (.str (kdOf i)) u := by
  cases i with
  | say _ => exact T.kind ("Say", "say") (by decide)
  | press _ => exact T.kind ("Press", "press") (by decide)
  | go _ => exact T.kind ("Go", "go") (by decide)
  | times _ _ => exact T.kind ("Times", "times") (by decide)
theorem ok_is_item {f : Addr} {fd : FuncData} (F : FunD K "is_item" "is_item" (defArgs s_is_item) (defBody s_is_item) (defScope s_is_item) [] [] f fd) (T : Tc P K mg) : FnOk P w K mg base (LX P w) 1 f fd ["value"] (spIsItem K) := by
  refine F.ok sc_is_item (fun vs H Q E h => ?_) (fun cdv A outer s H vs Q E hr h => ?_)
  · obtain ⟨v, o, rfl, _⟩ := h
    rfl
  · obtain ⟨v, o, rfl, hc, q⟩ := h
    refine ⟨_, PSs.nox (pss_one (ps_ret (pe_and (pe_callB call_isi (by rfl) T.bt.isi (by decide +kernel) (pa_cons (pv 0) (pa_cons (pe_glob (v := .ref (cI K)) rfl (T.g "Item" (by decide)) rfl) pa_nil)))
      (pe_one (pe_cmpR op_ne (pe_con (pv 0) rfl) pe_str (nomark _)))))), ?_⟩
    cases hc with
    | no ty k => exact ⟨_, rfl, v, _, _, _, false, rfl, .own _, ty, k, false, rfl, q⟩
    | @it i h =>
      obtain ⟨a, dx, fs, rfl, e, hK, _⟩ := h.inst
      obtain ⟨u, c⟩ := h.kind T
      refine ⟨_, rfl, _, _, _, _, true, rfl, .own _, h.ty T, h.kit T, true, rfl, _, rfl, a, _, dx, fs, _, u, rfl, e, (T.kl _ (nmOf_mem5 _)).cl, c, hK, rfl, ?_⟩
      have z : decide (V.str (kdOf i) = V.str "item") = false := by
        refine decide_eq_false fun e => ?_
        have z2 : ∀ y ∈ (["say", "press", "go", "times"] : List Str), y ≠ "item" := by decide +kernel
        exact z2 (kdOf i) (by cases i <;> simp [kdOf]) (V.str.inj e)
      rw [z]
      exact q
/-! ### Body.__init__ -/
def noAt (os : List (Option It)) : Option Nat := os.findIdx? Option.isNone
def spBody (K : PySem.W.Frag) : Sp := fun vs H Q E => ∃ (x dx t : Addr) (ys : List V) (os : List (Option It)), vs = [.ref x, .ref t] ∧ H x = some (.ins (cB K) dx []) ∧ H t = some (.tup ys) ∧ Paired (Cd K H) ys os ∧ ys.length ≤ 3000 ∧
  (∀ i, noAt os = some i → ∀ G d, Butx x H G → G d = none → E (.ref (He.ga K "NotAnItem")) (some d) (upd G d (.xd [("index", .int (i : Nat))]))) ∧
  (noAt os = none → 6 < ys.length → ∀ G d, Butx x H G → G d = none → E (.ref (He.ga K "TooMany")) (some d) (upd G d (.xd [("limit", .int 6)]))) ∧
  (∀ its, os = its.map some → ItsAt K H ys its → ys.length ≤ 6 → ∀ G, Butx x H G → Q .non (upd G x (.ins (cB K) dx [("own_entries", .ref t), ("own_depth", .int (lvL its : Nat))])))
theorem ty_same {H G : Hp} {v : V} {t : Value} (h : TyX K H v t) (s : Same H G) : TyX K G v t := by
  cases h with
  | base b =>
    refine .base ?_
    cases b with
    | non => exact .non
    | bl x => exact .bl x
    | int i => exact .int i
    | str x => exact .str x
    | flt x => exact .flt x
    | lst e => exact .lst (s _ _ e)
    | frz e => exact .frz (s _ _ e)
    | tup e => exact .tup (s _ _ e)
    | dK e => exact .dK (s _ _ e)
    | dT e => exact .dT (s _ _ e)
    | ins e a b c d f => exact .ins (s _ _ e) a b c d f
  | byt b => exact .byt b
  | set e => exact .set (s _ _ e)
  | kList e c => exact .kList e c
  | kTuple e c => exact .kTuple e c
  | kDict e c => exact .kDict e c
  | fTuple e => exact .fTuple (s _ _ e)
  | fDict e => exact .fDict (s _ _ e)
theorem Cd.same {H G : Hp} {v : V} {o : Option It} (h : Cd K H v o) (s : Same H G) : Cd K G v o := by
  cases h with
  | it h => exact .it (h.same s)
  | no ty k => exact .no (ty_same ty s) k
theorem paired_len {α β : Type} {R : α → β → Prop} : ∀ {xs : List α} {ys : List β}, Paired R xs ys → xs.length = ys.length
  | _, _, .nil => rfl
  | _, _, .cons _ r => congrArg (· + 1) (paired_len r)
theorem paired_get {α β : Type} {R : α → β → Prop} : ∀ {xs : List α} {ys : List β}, Paired R xs ys → ∀ {i : Nat} {x : α}, xs[i]? = some x → ∃ y, ys[i]? = some y ∧ R x y
  | _, _, .nil, i, x, e => by simp at e
  | _, _, .cons h r, 0, x, e => ⟨_, rfl, by cases e; exact h⟩
  | _, _, .cons h r, i + 1, x, e => by
    obtain ⟨y, h1, h2⟩ := paired_get r (i := i) (by simpa using e)
    exact ⟨y, by simpa using h1, h2⟩
theorem noAt_some {os : List (Option It)} {j : Nat} (ho : os[j]? = some none) (hf : ∀ i, i < j → os[i]? ≠ some none) : noAt os = some j := by
  obtain ⟨h1, h2⟩ := List.getElem?_eq_some_iff.mp ho
  refine List.findIdx?_eq_some_iff_getElem.mpr ⟨h1, by rw [h2]; rfl, fun k hk => ?_⟩
  have h3 : k < os.length := by omega
  have h4 := hf k hk
  rw [List.getElem?_eq_getElem h3] at h4
  cases e : os[k] with
  | none => rw [e] at h4; exact absurd rfl h4
  | some i => simp
theorem noAt_none {os : List (Option It)} (hf : ∀ i, i < os.length → os[i]? ≠ some none) : noAt os = none := by
  refine List.findIdx?_eq_none_iff.mpr fun o ho => ?_
  obtain ⟨i, hi, e⟩ := List.mem_iff_getElem.mp ho
  cases o with
  | none => exact absurd (by rw [List.getElem?_eq_getElem hi, e]) (hf i hi)
  | some i => rfl
theorem its_of {H : Hp} : ∀ {ys : List V} {os : List (Option It)}, Paired (Cd K H) ys os → noAt os = none → ∃ its, ItsAt K H ys its ∧ os = its.map some
  | _, _, .nil, _ => ⟨[], .nil, rfl⟩
  | _, _, .cons h r, e => by
    have e2 : ∀ o' ∈ _, Option.isNone o' = false := List.findIdx?_eq_none_iff.mp e
    cases h with
    | no ty k => exact absurd (e2 none List.mem_cons_self) (by simp)
    | it h =>
      obtain ⟨its, h1, h2⟩ := its_of r (List.findIdx?_eq_none_iff.mpr fun o ho => e2 o (List.mem_cons_of_mem _ ho))
      exact ⟨_, .cons h h1, by rw [h2]; rfl⟩
theorem lvL_max : ∀ (its : List It) (m : Int), m ∈ (0 : Int) :: its.map (fun i => (i.lv : Int)) → (∀ y ∈ (0 : Int) :: its.map (fun i => (i.lv : Int)), y ≤ m) → m = (lvL its : Nat) := by
  have key : ∀ its : List It, (∀ i ∈ its, i.lv ≤ lvL its) ∧ ((lvL its = 0) ∨ ∃ i ∈ its, i.lv = lvL its) := by
    intro its
    induction its with
    | nil => exact ⟨fun i hi => (by cases hi), .inl rfl⟩
    | cons a r ih =>
      simp only [lvL]
      refine ⟨fun i hi => ?_, ?_⟩
      · rcases List.mem_cons.mp hi with rfl | hi
        · omega
        · have := ih.1 i hi
          omega
      · by_cases c : lvL r ≤ a.lv
        · exact .inr ⟨a, List.mem_cons_self, by omega⟩
        · rcases ih.2 with z | ⟨i, hi, z⟩
          · omega
          · exact .inr ⟨i, List.mem_cons_of_mem _ hi, by omega⟩
  intro its m hm hle
  obtain ⟨k1, k2⟩ := key its
  have h0 := hle 0 List.mem_cons_self
  rcases List.mem_cons.mp hm with e | e
  · rcases k2 with z | ⟨i, hi, z⟩
    · omega
    · have := hle i.lv (List.mem_cons_of_mem _ (List.mem_map.mpr ⟨i, hi, rfl⟩))
      omega
  · obtain ⟨i, hi, rfl⟩ := List.mem_map.mp e
    have := k1 i hi
    rcases k2 with z | ⟨i2, hi2, z⟩
    · omega
    · have := hle i2.lv (List.mem_cons_of_mem _ (List.mem_map.mpr ⟨i2, hi2, rfl⟩))
      omega
theorem ok_body {f : Addr} {fd : FuncData} {fd2 fd3 : FuncData} (F : FunD K "__init__" "Body.__init__" (defArgs s_Body_init) (defBody s_Body_init) (defScope s_Body_init) [] [] f fd) (T : Tc P K mg) (O : Of P w K mg base 1 "is_item" (spIsItem K))
    (L0 : ∀ x ∈ (["Say", "Press", "Go"] : List Str), FnR P w K mg base (LX P w) 3 (He.ma K (He.ga K x) "levels") (spLv0 0)) (LT : FnR P w K mg base (LX P w) 3 (He.ma K (cT K) "levels") (spLvT K)) :
    FnR P w K mg base (LX P w) 4 f (fun vs H Q E => ∃ ws rest, vs = ws ++ rest ∧ ws.length = 1 ∧ rest.length ≤ sizeLine ∧ ∀ p, H p = Option.none → spBody K (ws ++ [V.ref p]) (upd H p (.tup rest)) Q E) := by
  obtain ⟨oc, od, dV, kV, doc, pm, an, cdv, ct, osl, rfl, lk, hcd, hD, hK⟩ := F.ex
  obtain ⟨_, rfl⟩ | ⟨e, _⟩ := hD
  rotate_left
  · exact absurd rfl e
  refine StX.fn_star (ps := ["self"]) (pv := "items") (k := 3) lk hcd sc_Body_init StX.cxUp (StX.bind_star1 (B := fun us => bindArgs (PySem.W.fnOf "__init__" "Body.__init__" (defArgs s_Body_init) (defBody s_Body_init) (defScope s_Body_init) .none kV doc pm an cdv ct) ⟨us, []⟩) (fun a => by rfl) (fun a r rs => by rfl)) fun A outer s H vs Q E hr h => ?_
  obtain ⟨g1, gi⟩ := T.cs.items
  obtain ⟨g2, gd⟩ := T.cs.depth
  have nd := sc_Body_init.nd
  refine ⟨_, pss_cons (ps_for (passes_of rfl) rfl (pi_enumT rfl T.bt.enum (pa_cons (pv 1) pa_nil)) (pg_tup rfl (pgs_cons (pg_name (i := 2) nd rfl (Or.inl rfl)) (pgs_cons (pg_name (i := 3) nd rfl (Or.inl rfl)) pgs_nil)))
      (pss_one (ps_if (pt_not (pt_val (pe_of (E := E0) O hr rfl passL (pa_cons (pv 3) pa_nil)))) (pss_one (ps_raise1 rfl (takes_of (E := E) rfl rfl rfl rfl) T.eN.er T.eN.rc T.eN.rt hr rfl (pa_cons (pv 2) pa_nil))) pss_nil)))
    (pss_cons (ps_if (pt_cmpR op_gt (pe_callB call_len_seq (by rfl) T.bt.len PySem.boot_len (pa_cons (pv 1) pa_nil)) (pe_glob (v := .int 6) rfl gi ⟨_, rfl⟩) (nomark _)) (pss_one (ps_raise1 rfl (takes_of (E := E) rfl rfl rfl rfl) T.eM.er T.eM.rc T.eM.rt hr rfl (pa_cons (pe_glob (v := .int 6) rfl gi ⟨_, rfl⟩) pa_nil))) pss_nil)
    (pss_cons (ps_setLc (i := 4) (own := [("item", 3)]) (g := gName 3) (tt := tYes) (te := tMv P w K mg base 3 "levels" E0 (tVar 3) tNil) rfl nd rfl rfl (sw_true rfl rfl rfl (by decide +kernel)) (pi_tup (pv 1)) (blkOk_by (own := [("item", 3)]) (N := ["self", "items", "index", "item", "levels", "level"]) (sc := defScope s_Body_init) (by decide +kernel))
      (fun _ _ _ _ _ => pg_name (i := 3) nd rfl (Or.inl rfl)) (fun _ _ _ _ _ => pts_nil) (fun _ _ _ _ _ => pe_mv0 (k := 3) (E := E0) (pv 3) hr passL))
    (pss_cons (ps_if (pt_not (pt_val (pe_callB (cr_all rfl) (by rfl) T.bt.all (by decide +kernel) (pa_cons (pe_lc (own := [("level", 5)]) (g := gName 5) (tt := tYes) (by rfl) nd (pi_list (pv 4)) (blkOk_by (own := [("level", 5)]) (N := ["self", "items", "index", "item", "levels", "level"]) (sc := defScope s_Body_init) (by decide +kernel))
      (fun _ _ _ _ _ => pg_name (i := 5) nd rfl (Or.inl rfl)) (fun _ _ _ _ _ => pts_nil) (fun _ _ _ _ _ => pe_cmpR op_le (pv 5) (pe_glob (v := .int 2) rfl gd ⟨_, rfl⟩) (nomark _))) pa_nil)))) (pss_one (ps_raise1 rfl (takes_of (E := E) rfl rfl rfl rfl) T.eD.er T.eD.rc T.eD.rt hr rfl (pa_cons (pe_glob (v := .int 2) rfl gd ⟨_, rfl⟩) pa_nil))) pss_nil)
    (pss_cons (ps_fld (pv 0) (pe_callTy call_tupleT (by rfl) T.bt.tuple (by decide +kernel) (pa_cons (pv 1) pa_nil)) rfl)
    (pss_one (ps_fld (pv 0) (pe_callB (cr_max rfl) (by rfl) T.bt.max (by decide +kernel) (pa_cons (pe_op op_cat (pe_lst (pa_cons pe_int pa_nil)) (pe_lc (own := [("level", 5)]) (g := gName 5) (tt := tYes) (by rfl) nd (pi_list (pv 4)) (blkOk_by (own := [("level", 5)]) (N := ["self", "items", "index", "item", "levels", "level"]) (sc := defScope s_Body_init) (by decide +kernel))
      (fun _ _ _ _ _ => pg_name (i := 5) nd rfl (Or.inl rfl)) (fun _ _ _ _ _ => pts_nil) (fun _ _ _ _ _ => pe_callTy call_int1 (by rfl) T.bt.int (by decide +kernel) (pa_cons (pv 5) pa_nil)))) pa_nil)) rfl)))))), ?_⟩
  obtain ⟨x, dx, t, ys, os, rfl, hx, ht, hP, hlen, q1, q2, q3⟩ := h
  have hol : ys.length = os.length := paired_len hP
  refine ⟨_, rfl, t, ys, rfl, SqT.of ht, for_it walk_enumT (fun j σ G => Same H G ∧ (∃ a b, σ = [some (.ref x), some (.ref t), a, b, none, none]) ∧ ∀ i, i < j → os[i]? ≠ some none) ⟨fun _ _ e => e, ⟨_, _, rfl⟩, fun i hi => absurd hi (Nat.not_lt_zero _)⟩ (fun i σ G hi h => SqT.of (h.1 _ _ ht)) ?_ ?_⟩
  · rintro j v σ G G' hj ⟨sm, ⟨a, b, rfl⟩, hf⟩ ⟨T', u, y, rfl, hT, rfl, e1, e2⟩
    cases e1
    have e2 : ys[j]? = some y := e2
    obtain ⟨o, ho, hc⟩ := paired_get hP e2
    have sm2 : Same H (upd G T' (.tup [.int (j : Nat), y])) := sm.trans (same_new hT)
    refine ⟨T', _, rfl, SqT.of upd_same, rfl, _, _, rfl, _, _, rfl, rfl, _, rfl, _, o, rfl, hc.same sm2, _, rfl, ?_⟩
    cases o with
    | none =>
      refine ifT (by rfl) ⟨_, rfl, _, rfl, fun d hd => ?_⟩
      have hn : noAt os = some j := by
        exact noAt_some ho hf
      exact q1 j hn _ d (.of_same sm2) hd
    | some i =>
      refine ifF (by rfl) ⟨sm2, ⟨_, _, rfl⟩, fun k hk => ?_⟩
      by_cases e : k = j
      · rw [e, ho]
        intro z
        cases z
      · exact hf k (by omega)
  · rintro σ G ⟨sm, ⟨a, b, rfl⟩, hf⟩
    have hn : noAt os = none := noAt_none fun i hi => hf i (by omega)
    obtain ⟨its, hI, rfl⟩ := its_of hP hn
    have hil := hI.length
    refine ⟨_, rfl, t, ys, rfl, .inr (SqT.of (sm _ _ ht)), _, _, rfl, rfl, _, rfl, ?_⟩
    by_cases h6 : 6 < ys.length
    · exact ifT (by simp; omega) ⟨_, rfl, fun d hd => q2 hn h6 G d (.of_same sm) hd⟩
    refine ifF (by simp; omega) ?_
    -- levels
    refine ⟨_, rfl, t, rfl, ⟨_, SqT.of (sm _ _ ht)⟩, fun D hD => lc_it walk_tup (fun j G2 => Same G G2 ∧ G2 D = some (.lst ((its.take j).map fun i => V.int (i.lv : Nat)))) ⟨same_new hD, upd_same⟩ (fun i G2 _ h => SqT.of (h.1 _ _ (sm _ _ ht))) ?_ ?_⟩
    · rintro j v G1 G2 hj ⟨sm1, hl⟩ ⟨rfl, hv⟩
      obtain ⟨i, hi, hiA⟩ := hI.get hv
      have hiB := hiA.same (sm.trans sm1)
      obtain ⟨ai, di, fi, rfl, ei, _, hlk⟩ := hiB.inst
      have fin : ∀ G3, G3 = G2 → ∃ acc, G3 D = some (.lst acc) ∧ acc.length < sizeLine ∧ (Same G (upd G3 D (.lst (acc ++ [V.int (i.lv : Nat)]))) ∧ upd G3 D (.lst (acc ++ [V.int (i.lv : Nat)])) D = some (.lst ((its.take (j + 1)).map fun i => V.int (i.lv : Nat)))) := by
        rintro _ rfl
        refine ⟨_, hl, ?_, same_at sm1 hD, ?_⟩
        · rw [List.length_map, List.length_take]
          have := small1000 (n := 1000) (Nat.le_refl _)
          omega
        · rw [upd_same, List.take_succ, hi, List.map_append]
          rfl
      refine ⟨rfl, ?_⟩
      cases hiB with
      | say e => exact ⟨_, rfl, ai, _, _, _, _, _, rfl, e, by rfl, (T.kl "Say" (by decide)).cl, T.lev "Say" (by decide), L0 "Say" (by decide), ai, rfl, fin _ rfl⟩
      | press e => exact ⟨_, rfl, ai, _, _, _, _, _, rfl, e, by rfl, (T.kl "Press" (by decide)).cl, T.lev "Press" (by decide), L0 "Press" (by decide), ai, rfl, fin _ rfl⟩
      | go e => exact ⟨_, rfl, ai, _, _, _, _, _, rfl, e, by rfl, (T.kl "Go" (by decide)).cl, T.lev "Go" (by decide), L0 "Go" (by decide), ai, rfl, fin _ rfl⟩
      | times e hb hl2 => exact ⟨_, rfl, ai, _, _, _, _, _, rfl, e, by rfl, (T.kl "Times" (by decide)).cl, T.lev "Times" (by decide), LT, ai, _, _, _, _, rfl, e, hb, fin _ rfl⟩
    · rintro G2 ⟨sm2, hl⟩
      have et : its.take ys.length = its := List.take_of_length_le (by omega)
      rw [et] at hl
      have hll : its.length < sizeLine := small1000 (by omega)
      -- all
      refine ⟨_, rfl, D, rfl, ⟨_, SqL.of hl⟩, fun D2 hD2 => lc_it walk_list (fun j G3 => Same G2 G3 ∧ G3 D2 = some (.lst (List.replicate j (V.bl true)))) ⟨same_new hD2, upd_same⟩ (fun i G3 _ h => SqL.of (h.1 _ _ hl)) ?_ ?_⟩
      · rintro j v G3 G4 hj ⟨sm3, h3⟩ ⟨rfl, hv⟩
        rw [List.getElem?_map] at hv
        cases e : its[j]? with
        | none => rw [e] at hv; cases hv
        | some i =>
          rw [e] at hv
          cases hv
          obtain ⟨v2, hv2⟩ : ∃ v2, ys[j]? = some v2 := by
            have := (List.getElem?_eq_some_iff.mp e).1
            exact ⟨ys[j]'(by omega), List.getElem?_eq_getElem (by omega)⟩
          obtain ⟨i2, e2, hi2⟩ := hI.get hv2
          rw [e] at e2
          cases e2
          have hlv := hi2.lv_le
          refine ⟨rfl, _, rfl, _, _, rfl, rfl, _, h3, ?_, same_at sm3 hD2, ?_⟩
          · rw [List.length_replicate]
            rw [List.length_map] at hj
            omega
          · rw [upd_same, List.replicate_succ']
            show some (HO.lst (_ ++ [V.bl (decide ((i.lv : Int) ≤ 2))])) = _
            rw [decide_eq_true (by omega)]
      · rintro G3 ⟨sm3, h3⟩
        rw [show List.replicate (List.length (its.map fun i => V.int (i.lv : Nat))) (V.bl true) = (List.replicate its.length true).map V.bl by simp] at h3
        refine ⟨D2, _, rfl, SqL.of h3, _, rfl, ?_⟩
        refine ifF (by simp) ?_
        have sm4 : Same H G3 := (sm.trans sm2).trans sm3
        -- own_entries
        refine ⟨_, rfl, t, ys, rfl, SqT.of (sm4 _ _ ht), _, rfl, x, _, dx, _, rfl, sm4 _ _ hx, (T.kl "Body" (by decide)).cl, T.na ("Body", "own_entries") (by decide), by decide, ?_⟩
        have e5 : upd G3 x (.ins (cB K) dx (putF "own_entries" (.ref t) [])) x = some (.ins (cB K) dx [("own_entries", .ref t)]) := upd_same
        have b5 : Butx x H (upd G3 x (.ins (cB K) dx (putF "own_entries" (.ref t) []))) := (Butx.of_same sm4).upd
        have hl5 : upd G3 x (.ins (cB K) dx (putF "own_entries" (.ref t) [])) D = some (.lst (its.map fun i => V.int (i.lv : Nat))) := by
          rw [upd_ne (ne_of (sm3 _ _ hl) (sm4 _ _ hx) (by intro z; cases z))]
          exact sm3 _ _ hl
        generalize upd G3 x (.ins (cB K) dx (putF "own_entries" (.ref t) [])) = G5 at e5 b5 hl5 ⊢
        refine ⟨sz 1 (by decide), fun l hl0 => ?_⟩
        have hl6 := same_new (o := .lst [.int 0]) hl0 _ _ hl5
        refine ⟨_, rfl, D, rfl, ⟨_, SqL.of hl6⟩, fun D3 hD3 => lc_it walk_list (fun j G6 => Same (upd G5 l (.lst [.int 0])) G6 ∧ G6 D3 = some (.lst ((its.take j).map fun i => V.int (i.lv : Nat)))) ⟨same_new hD3, upd_same⟩ (fun i G3 _ h => SqL.of (h.1 _ _ hl6)) ?_ ?_⟩
        · rintro j v G6 G7 hj ⟨sm6, h6⟩ ⟨rfl, hv⟩
          rw [List.getElem?_map] at hv
          cases e : its[j]? with
          | none => rw [e] at hv; cases hv
          | some i =>
            rw [e] at hv
            cases hv
            refine ⟨rfl, _, rfl, .inl ⟨_, rfl, _, h6, ?_, same_at sm6 hD3, ?_⟩⟩
            · rw [List.length_map, List.length_take]
              omega
            · rw [upd_same, List.take_succ, e, List.map_append]
              rfl
        · rintro G6 ⟨sm6, h6⟩
          rw [List.take_of_length_le (by simp)] at h6
          refine ⟨l, D3, _, _, rfl, rfl, sm6 _ _ upd_same, h6, by simp; rw [sizeLine_eq]; omega, fun p hp => ?_⟩
          refine ⟨p, 0 :: its.map (fun i => (i.lv : Int)), rfl, SqL.of ?_, by simp, fun m hm hle => ?_⟩
          · rw [upd_same, List.map_cons, List.map_map]
            rfl
          · have em := lvL_max its m hm hle
            subst em
            have sm7 : Same G5 (upd G6 p (.lst ([V.int 0] ++ its.map fun i => V.int (i.lv : Nat)))) := ((same_new hl0).trans sm6).trans (same_new hp)
            refine ⟨_, rfl, x, _, dx, _, rfl, sm7 _ _ e5, (T.kl "Body" (by decide)).cl, T.na ("Body", "own_depth") (by decide), (by show 1 < 1000; decide), ?_⟩
            exact q3 its rfl hI (by omega) _ (b5.trans (.of_same sm7))
end
end Kb

namespace Kb
open PySem PySem.Spec PyProof.Rows L2 Mq Rz En
/-! ### C(..) of the package as its caller sees it -/
/-- what Body(*ys) comes to -/
def BdOut (K : PySem.W.Frag) (ys : List V) (H : Hp) (Q : VK) (E : XK) : Prop := ∃ os, Paired (Cd K H) ys os ∧ ys.length ≤ 3000 ∧
  (∀ i, noAt os = some i → ∀ G d, Same H G → G d = none → E (.ref (He.ga K "NotAnItem")) (some d) (upd G d (.xd [("index", .int (i : Nat))]))) ∧
  (noAt os = none → 6 < ys.length → ∀ G d, Same H G → G d = none → E (.ref (He.ga K "TooMany")) (some d) (upd G d (.xd [("limit", .int 6)]))) ∧
  (∀ its, os = its.map some → ys.length ≤ 6 → ∀ G b, Same H G → H b = none → BdAt K G b its → Q (.ref b) G)
abbrev spBodyR (K : PySem.W.Frag) : Sp := fun vs H Q E => ∃ ws rest, vs = ws ++ rest ∧ ws.length = 1 ∧ rest.length ≤ sizeLine ∧ ∀ p, H p = Option.none → spBody K (ws ++ [V.ref p]) (upd H p (.tup rest)) Q E
theorem Paired.imp' {α β : Type} {R S : α → β → Prop} (h : ∀ a b, R a b → S a b) : ∀ {xs : List α} {ys : List β}, Paired R xs ys → Paired S xs ys
  | _, _, .nil => .nil
  | _, _, .cons a r => .cons (h _ _ a) (Paired.imp' h r)
section
variable {P : Program} {w : World} {K : PySem.W.Frag} {mg : Str → Option Value} {base : Heap}
theorem Same.trans' {H G G' : Hp} (a : Same H G) (b : Same G G') : Same H G' := fun c o h => b c o (a c o h)
theorem its_at {H : Hp} : ∀ {ys : List V} {its : List It}, Paired (Cd K H) ys (its.map some) → ItsAt K H ys its
  | [], [], _ => .nil
  | [], _ :: _, h => by cases h
  | _ :: _, [], h => by cases h
  | y :: ys, i :: its, h => by
    cases h with
    | cons a r =>
      cases a with
      | it h => exact .cons h (its_at r)
theorem mk_body {ys : List V} {H : Hp} {Q : VK} {E : XK} (h : BdOut K ys H Q E) : ∀ x dx, H x = none → H dx = none → dx ≠ x → spBodyR K (.ref x :: ys) (upd (upd H dx (.own x)) x (.ins (cB K) dx [])) (fun v H2 => v = .non ∧ Q (.ref x) H2) E := by
  intro x dx h1 h2 h3
  obtain ⟨os, hP, hl, q1, q2, q3⟩ := h
  refine ⟨[.ref x], ys, rfl, rfl, (by rw [sizeLine_eq]; omega), fun t ht => ?_⟩
  obtain ⟨ntx, ht1⟩ := upd_none ht
  obtain ⟨ntd, ht0⟩ := upd_none ht1
  have s0 : Same H (upd (upd H dx (.own x)) x (.ins (cB K) dx [])) := fun b u e => by
    rw [upd_ne (ne_of_none e h1), upd_ne (ne_of_none e h2)]
    exact e
  have s1 : Same H (upd (upd (upd H dx (.own x)) x (.ins (cB K) dx [])) t (.tup ys)) := s0.trans (same_new ht)
  have sG : ∀ {G : Hp}, Butx x (upd (upd (upd H dx (.own x)) x (.ins (cB K) dx [])) t (.tup ys)) G → Same H G := fun {G} b c u e => b c u (s1 c u e) (ne_of_none e h1)
  refine ⟨x, dx, t, ys, os, rfl, ?_, upd_same, Paired.imp' (fun _ _ c => c.same s1) hP, hl, fun i hi G d hb hd => q1 i hi G d (sG hb) hd, fun hn h6 G d hb hd => q2 hn h6 G d (sG hb) hd, fun its ho hI h6 G hb => ⟨rfl, ?_⟩⟩
  · rw [upd_ne (Ne.symm ntx), upd_same]
  · have sU : Same H (upd G x (.ins (cB K) dx [("own_entries", .ref t), ("own_depth", .int (lvL its : Nat))])) := same_at (sG hb) h1
    subst ho
    have hI0 := its_at hP
    refine q3 its rfl h6 _ x sU h1 (.mk (vs := ys) upd_same ?_ (hI0.same sU) (by have := hI.length; omega))
    rw [upd_ne ntx]
    exact hb _ _ upd_same ntx
/-! ### rules for the package's constructors -/
theorem pe_weak {X : Cx} {e : Expr} {t t2 : TE} (h : PE X e t) (i : ∀ σ H Q, t2 σ H Q → t σ H Q) : PE X e t2 := ⟨fun pins s σ H Q I z => h.run pins s σ H Q I (i σ H Q z)⟩
/-- Body of the values that t gives -/
def tBd (K : PySem.W.Frag) (E : XK) (tf : TE) (t : TA) : TE := fun σ H Q => tf σ H fun y G => y = .ref (cB K) ∧ t σ G fun vs G2 => BdOut K vs G2 Q E
def tBdS (K : PySem.W.Frag) (E : XK) (tf te : TE) : TE := fun σ H Q => tf σ H fun y G => y = .ref (cB K) ∧ te σ G fun z G2 => ∃ a xs, z = .ref a ∧ (SqT K G2 a xs ∨ SqL K G2 a xs) ∧ BdOut K xs G2 Q E
end
/-- a reading goes on alike where more is known behind it -/
def Mono (t : TE) : Prop := ∀ σ H (Q R : VK), (∀ v G, Q v G → R v G) → t σ H Q → t σ H R
def MonoA (t : TA) : Prop := ∀ σ H (Q R : List V → Hp → Prop), (∀ v G, Q v G → R v G) → t σ H Q → t σ H R
theorem mono_c {v : V} : Mono (tC v) := fun _ _ _ _ h q => h _ _ q
theorem mono_v {i : Nat} : Mono (tVar i) := fun _ _ _ _ h ⟨v, e, q⟩ => ⟨v, e, h _ _ q⟩
section
variable {X : Cx} {k : Nat} {f : Addr} {E : XK} {fe e : Expr} {es : List Expr} {te tf : TE} {t : TA} {p pos : Pos} {B : String} {mg : Str → Option Value}
theorem pe_bodyS (hf : PE X fe tf) (mf : Mono tf) (me : Mono te) (M : Mk X.K (cB X.K) f) (F : FnR X.prog X.w X.K X.mg X.base (LX X.prog X.w) k f (spBodyR X.K)) (hr : Room (k + 1) X.A) (hx : Passes (LX X.prog X.w) X E) (ha : PE X e te)
    (ht : eval (.Call fe [.Starred e p] [] pos) X.env = (do callWith pos (← eval fe X.env) [] (backTo pos (starEach [.Starred e p] X.env)) (backToKw pos (keywordEach [] X.env))) := by rfl)
    (hst : starEach [.Starred e p] X.env = [(true, eval e X.env)] := by rfl) : PE X (.Call fe [.Starred e p] [] pos) (tBdS X.K E tf te) :=
  pe_weak (pe_mkC1 hf M F hr hx ha ht hst) fun σ H Q h => mf σ H _ _ (fun y G ⟨ey, q⟩ => ⟨ey, me σ G _ _ (fun z G2 ⟨a, xs, ez, hq, hb⟩ => ⟨a, xs, ez, hq, fun x dx h1 h2 h3 => by
    rw [List.append_nil]
    exact mk_body hb x dx h1 h2 h3⟩) q⟩) h
theorem pe_body0 (hf : PE X fe tf) (mf : Mono tf) (M : Mk X.K (cB X.K) f) (F : FnR X.prog X.w X.K X.mg X.base (LX X.prog X.w) k f (spBodyR X.K)) (hr : Room (k + 1) X.A) (hx : Passes (LX X.prog X.w) X E)
    (ht : eval (.Call fe [] [] pos) X.env = (do callWith pos (← eval fe X.env) [] (backTo pos (starEach [] X.env)) (backToKw pos (keywordEach [] X.env))) := by rfl) : PE X (.Call fe [] [] pos) (tBd X.K E tf tNil) :=
  pe_weak (pe_mkC0 hf M F hr hx ht) fun σ H Q h => mf σ H _ _ (fun y G ⟨ey, q⟩ => ⟨ey, fun x dx h1 h2 h3 => mk_body q x dx h1 h2 h3⟩) h
theorem pe_body (hf : PE X fe tf) (mf : Mono tf) (mt : MonoA t) (M : Mk X.K (cB X.K) f) (F : FnR X.prog X.w X.K X.mg X.base (LX X.prog X.w) k f (spBodyR X.K)) (hr : Room (k + 1) X.A) (hx : Passes (LX X.prog X.w) X E) (ha : PA X (e :: es) t)
    (ht : eval (.Call fe (e :: es) [] pos) X.env = (do callWith pos (← eval fe X.env) [] (backTo pos (starEach (e :: es) X.env)) (backToKw pos (keywordEach [] X.env))) := by rfl)
    (he : starEach (e :: es) X.env = (false, eval e X.env) :: starEach es X.env := by rfl) (hpl : (backTo pos (starEach es X.env)).any (·.1) = false := by rfl) : PE X (.Call fe (e :: es) [] pos) (tBd X.K E tf t) :=
  pe_weak (pe_mkC hf M F hr hx ha ht he hpl) fun σ H Q h => mf σ H _ _ (fun y G ⟨ey, q⟩ => ⟨ey, mt σ G _ _ (fun vs G2 hb x dx h1 h2 h3 => mk_body hb x dx h1 h2 h3) q⟩) h
/-- what C(v) comes to, C one of Say, Press, Go -/
def OneOut (K : PySem.W.Frag) (C : Addr) (n : Str) (v : V) (H : Hp) (Q : VK) (E : XK) : Prop := Wv K H v ∧ (isWV v = true → ∀ a dx G, Same H G → H a = none → G a = some (.ins C dx [(n, v)]) → Q (.ref a) G) ∧
  (isWV v = false → ∀ G d, Same H G → G d = none → E (.ref (He.ga K "InvalidItem")) (some d) (upd G d (.xd [("field", .str n)])))
theorem wv_same {K : PySem.W.Frag} {H G : Hp} {v : V} (h : Wv K H v) (s : Same H G) : Wv K G v := by
  obtain ⟨t, b, h1, h2⟩ := h
  exact ⟨t, b, ty_same h1 s, h2⟩
def tOne (K : PySem.W.Frag) (C : Addr) (n : Str) (E : XK) (tf : TE) (t : TA) : TE := fun σ H Q => tf σ H fun y G => y = .ref C ∧ t σ G fun vs G2 => ∃ v, vs = [v] ∧ OneOut K C n v G2 Q E
theorem pe_mkOne {C : Addr} {n : Str} (hf : PE X fe tf) (mf : Mono tf) (mt : MonoA t) (M : Mk X.K C f) (F : FnR X.prog X.w X.K X.mg X.base (LX X.prog X.w) k f (spOne X.K C n)) (hr : Room (k + 1) X.A) (hx : Passes (LX X.prog X.w) X E) (ha : PA X (e :: es) t)
    (ht : eval (.Call fe (e :: es) [] pos) X.env = (do callWith pos (← eval fe X.env) [] (backTo pos (starEach (e :: es) X.env)) (backToKw pos (keywordEach [] X.env))) := by rfl)
    (he : starEach (e :: es) X.env = (false, eval e X.env) :: starEach es X.env := by rfl) (hpl : (backTo pos (starEach es X.env)).any (·.1) = false := by rfl) : PE X (.Call fe (e :: es) [] pos) (tOne X.K C n E tf t) := by
  refine pe_weak (pe_mkC hf M F hr hx ha ht he hpl) fun σ H Q h => mf σ H _ _ (fun y G ⟨ey, q⟩ => ⟨ey, mt σ G _ _ (fun vs G2 ⟨v, ev, hW, q1, q2⟩ x dx h1 h2 h3 => ?_) q⟩) h
  subst ev
  have s0 : Same G2 (upd (upd G2 dx (.own x)) x (.ins C dx [])) := fun b u e => by
    rw [upd_ne (ne_of_none e h1), upd_ne (ne_of_none e h2)]
    exact e
  exact ⟨x, dx, v, rfl, upd_same, wv_same hW s0, fun e G3 hb => ⟨rfl, q1 e x dx _ (same_made h1 h2 hb) h1 upd_same⟩, fun e G3 d hb hd => q2 e G3 d (fun c u z => hb c u (s0 c u z) (ne_of_none z h1)) hd⟩
end
section
variable {P : Program} {w : World} {K : PySem.W.Frag} {mg : Str → Option Value} {base : Heap}
/-! ### Times -/
def spTimes (K : PySem.W.Frag) : Sp := fun vs H Q E => ∃ (x dx t : Addr) (n : Int) (ys : List V) (its : List It), vs = [.ref x, .int n, .ref t] ∧ H x = some (.ins (cT K) dx []) ∧ H t = some (.tup ys) ∧ ItsAt K H ys its ∧ ys.length ≤ 6 ∧ 0 ≤ n ∧ n ≤ 10 ^ 9 ∧ lvL its ≤ 1 ∧
  ∀ G b, Butx x H G → BdAt K (upd G x (.ins (cT K) dx [("number", .int n), ("body", .ref b)])) b its → H b = none → Q .non (upd G x (.ins (cT K) dx [("number", .int n), ("body", .ref b)]))
abbrev spTimesR (K : PySem.W.Frag) : Sp := fun vs H Q E => ∃ ws rest, vs = ws ++ rest ∧ ws.length = 2 ∧ rest.length ≤ sizeLine ∧ ∀ p, H p = Option.none → spTimes K (ws ++ [V.ref p]) (upd H p (.tup rest)) Q E
theorem paired_of {H : Hp} : ∀ {ys : List V} {its : List It}, ItsAt K H ys its → Paired (Cd K H) ys (its.map some)
  | _, _, .nil => .nil
  | _, _, .cons h r => .cons (.it h) (paired_of r)
theorem noAt_its (its : List It) : noAt (its.map some) = none := by
  refine List.findIdx?_eq_none_iff.mpr fun o ho => ?_
  obtain ⟨i, _, rfl⟩ := List.mem_map.mp ho
  rfl
theorem map_some_inj {α : Type} : ∀ {a b : List α}, a.map some = b.map some → a = b
  | [], [], _ => rfl
  | [], _ :: _, h => by cases h
  | _ :: _, [], h => by cases h
  | x :: a, y :: b, h => by
    simp only [List.map_cons, List.cons.injEq, Option.some.injEq] at h
    rw [h.1, map_some_inj h.2]
theorem bdOut_ok {ys : List V} {its : List It} {H : Hp} {Q : VK} {E : XK} (h : ItsAt K H ys its) (hl : ys.length ≤ 6) (q : ∀ G b, Same H G → H b = none → BdAt K G b its → Q (.ref b) G) : BdOut K ys H Q E := by
  refine ⟨_, paired_of h, by omega, fun i hi => ?_, fun _ h6 => absurd h6 (by omega), fun its2 e _ G b s n hb => q G b s n ?_⟩
  · rw [noAt_its] at hi
    cases hi
  · have : its = its2 := map_some_inj e
    rw [this]
    exact hb
theorem ok_times {f : Addr} {fd fdg : FuncData} (F : FunD K "__init__" "Times.__init__" (defArgs s_Times_init) (defBody s_Times_init) (defScope s_Times_init) [] [] f fd) (T : Tc P K mg) (Wi : Of P w K mg base 2 "is_within" (spWithin K))
    (B : FnR P w K mg base (LX P w) 4 (He.ma K (cB K) "__init__") (spBodyR K)) (D : FnOk P w K mg base (LX P w) 1 (He5.wf K (cB K) "property" "depth") fdg ["self"] (spDepth K)) (bD : Binds K fdg ["self"] []) : FnR P w K mg base (LX P w) 6 f (spTimesR K) := by
  obtain ⟨oc, od, dV, kV, doc, pm, an, cdv, ct, osl, rfl, lk, hcd, hD, hK⟩ := F.ex
  obtain ⟨_, rfl⟩ | ⟨e, _⟩ := hD
  rotate_left
  · exact absurd rfl e
  refine StX.fn_star (ps := ["self", "number"]) (pv := "items") (k := 5) lk hcd sc_Times_init StX.cxUp (StX.bind_star2 (B := fun us => bindArgs (PySem.W.fnOf "__init__" "Times.__init__" (defArgs s_Times_init) (defBody s_Times_init) (defScope s_Times_init) .none kV doc pm an cdv ct) ⟨us, []⟩) (fun a b => by rfl) (fun a b r rs => by rfl)) fun A outer s H vs Q E hr h => ?_
  obtain ⟨g1, gn⟩ := T.cs.number
  obtain ⟨g2, gd⟩ := T.cs.depth
  have nd := sc_Times_init.nd
  refine ⟨_, pss_cons (ps_if (pt_not (pt_val (pe_of (E := E0) Wi hr rfl passL (pa_cons (pv 1) (pa_cons pe_int (pa_cons (pe_glob (v := .int (10 ^ 9)) rfl gn ⟨_, rfl⟩) pa_nil)))))) (pss_one (ps_raise1 rfl (takes_of (E := E) rfl rfl rfl rfl) T.eI.er T.eI.rc T.eI.rt hr rfl (pa_cons pe_str pa_nil))) pss_nil)
    (pss_cons (ps_set (i := 3) nd rfl (Or.inl rfl) (pe_bodyS (E := E0) (pe_glob (v := .ref (cB K)) rfl (T.g "Body" (by decide)) rfl) mono_c mono_v (T.mkr "Body" (by decide)) B hr passL (pv 2)))
    (pss_cons (ps_if (pt_cmpR op_ge (pe_prop (E := E0) (pv 3) (T.kl "Body" (by decide)).cl T.dep D (hr.mono (by decide)) bD .nil passL rfl) (pe_glob (v := .int 2) rfl gd ⟨_, rfl⟩) (nomark _)) (pss_one (ps_raise1 rfl (takes_of (E := E) rfl rfl rfl rfl) T.eD.er T.eD.rc T.eD.rt hr rfl (pa_cons (pe_glob (v := .int 2) rfl gd ⟨_, rfl⟩) pa_nil))) pss_nil)
    (pss_cons (ps_fld (pv 0) (pv 1) rfl) (pss_one (ps_fld (pv 0) (pv 3) rfl))))), ?_⟩
  obtain ⟨x, dx, t, n, ys, its, rfl, hx, ht, hI, hl, n0, n1, hlv, q⟩ := h
  refine ⟨_, rfl, _, 0, 10 ^ 9, _, true, false, rfl, .base (.int n), kit_ty (by decide +kernel), kit_ty (by decide +kernel), (fun e => by cases e), fun _ => ⟨n, rfl, _, rfl, ?_⟩⟩
  refine ifF (by simp; omega) ?_
  refine ⟨rfl, _, rfl, t, ys, rfl, .inl (SqT.of ht), bdOut_ok hI hl fun G b sm hb hB => ?_⟩
  obtain ⟨dxb, tb, vsb, eb, _⟩ := hB.at_
  refine ⟨_, rfl, b, dxb, _, rfl, eb, b, its, rfl, hB, _, _, rfl, rfl, _, rfl, ?_⟩
  refine ifF (by simp; omega) ?_
  refine ⟨_, rfl, _, rfl, x, _, dx, _, rfl, sm _ _ hx, (T.kl "Times" (by decide)).cl, T.na ("Times", "number") (by decide), by decide, ?_⟩
  refine ⟨_, rfl, _, rfl, x, _, dx, _, rfl, upd_same, (T.kl "Times" (by decide)).cl, T.na ("Times", "body") (by decide), (by show 1 < 1000; decide), ?_⟩
  rw [upd_upd]
  exact q G b (.of_same sm) (hB.kin (.at_ (sm _ _ hx) (fun _ _ _ _ z => by cases z) (fun _ z => by cases z))) hb
end
end Kb

namespace Kb
open PySem PySem.Spec PyProof.Rows L2 Mq Rz En StX
/-! ### Times(n, *ys), Times.of, Body.of -/
def TmOut (K : PySem.W.Frag) (vs : List V) (H : Hp) (Q : VK) : Prop := ∃ (n : Int) (ys : List V) (its : List It), vs = .int n :: ys ∧ ItsAt K H ys its ∧ ys.length ≤ 6 ∧ 0 ≤ n ∧ n ≤ 10 ^ 9 ∧ lvL its ≤ 1 ∧ ∀ G a, Same H G → H a = none → ItAt K G (.ref a) (.times n its) → Q (.ref a) G
theorem mk_times {K : PySem.W.Frag} {vs : List V} {H : Hp} {Q : VK} {E : XK} (h : TmOut K vs H Q) : ∀ x dx, H x = none → H dx = none → dx ≠ x → spTimesR K (.ref x :: vs) (upd (upd H dx (.own x)) x (.ins (cT K) dx [])) (fun v H2 => v = .non ∧ Q (.ref x) H2) E := by
  intro x dx h1 h2 h3
  obtain ⟨n, ys, its, rfl, hI, hl, n0, n1, hlv, q⟩ := h
  refine ⟨[.ref x, .int n], ys, rfl, rfl, (by rw [sizeLine_eq]; omega), fun t ht => ?_⟩
  obtain ⟨ntx, ht1⟩ := upd_none ht
  have s0 : Same H (upd (upd H dx (.own x)) x (.ins (cT K) dx [])) := fun b u e => by
    rw [upd_ne (ne_of_none e h1), upd_ne (ne_of_none e h2)]
    exact e
  have s1 : Same H (upd (upd (upd H dx (.own x)) x (.ins (cT K) dx [])) t (.tup ys)) := s0.trans (same_new ht)
  refine ⟨x, dx, t, n, ys, its, rfl, ?_, upd_same, hI.same s1, hl, n0, n1, hlv, fun G b hb hB hbn => ⟨rfl, ?_⟩⟩
  · rw [upd_ne (Ne.symm ntx), upd_same]
  · have sU : Same H (upd G x (.ins (cT K) dx [("number", .int n), ("body", .ref b)])) := same_at (fun c u e => hb c u (s1 c u e) (ne_of_none e h1)) h1
    exact q _ x sU h1 (.times upd_same hB hlv)
def tTm (K : PySem.W.Frag) (tf : TE) (t : TA) : TE := fun σ H Q => tf σ H fun y G => y = .ref (cT K) ∧ t σ G fun vs G2 => TmOut K vs G2 Q
section
variable {X : Cx} {k : Nat} {f : Addr} {E : XK} {fe e : Expr} {es : List Expr} {te tf : TE} {t : TA} {p pos : Pos}
theorem pe_timesS (hf : PE X fe tf) (mf : Mono tf) (mt : MonoA t) (M : Mk X.K (cT X.K) f) (F : FnR X.prog X.w X.K X.mg X.base (LX X.prog X.w) k f (spTimesR X.K)) (hr : Room (k + 1) X.A) (ha : PA X (e :: es) t)
    (ht : eval (.Call fe (e :: es) [] pos) X.env = (do callWith pos (← eval fe X.env) [] (backTo pos (starEach (e :: es) X.env)) (backToKw pos (keywordEach [] X.env))) := by rfl)
    (he : starEach (e :: es) X.env = (false, eval e X.env) :: starEach es X.env := by rfl) (hst : (backTo pos (starEach es X.env)).any (·.1) = true := by rfl) : PE X (.Call fe (e :: es) [] pos) (tTm X.K tf t) :=
  pe_weak (pe_mkC2 (E := E0) hf M F hr passL ha ht he hst) fun σ H Q h => mf σ H _ _ (fun y G ⟨ey, q⟩ => ⟨ey, mt σ G _ _ (fun vs G2 hb x dx h1 h2 h3 => mk_times hb x dx h1 h2 h3) q⟩) h
end
theorem mono_nil : MonoA tNil := fun _ _ _ _ h q => h _ _ q
theorem mono_cons {te : TE} {t : TA} (m : Mono te) (n : MonoA t) : MonoA (tCons te t) := fun σ H Q R h q => m σ H _ _ (fun v G z => n σ G _ _ (fun vs G2 y => h _ _ y) z) q
theorem mono_star {K : PySem.W.Frag} {te : TE} {t : TA} (m : Mono te) (n : MonoA t) : MonoA (tStar K te t) := fun σ H Q R h q => m σ H _ _ (fun v G ⟨a, xs, e, s, z⟩ => ⟨a, xs, e, s, n σ G _ _ (fun vs G2 y => h _ _ y) z⟩) q
section
variable {P : Program} {w : World} {K : PySem.W.Frag} {mg : Str → Option Value} {base : Heap}
def spTimesOf (K : PySem.W.Frag) : Sp := fun vs H Q _ => ∃ (n : Int) (l : Addr) (ys : List V), vs = [.ref (cT K), .int n, .ref l] ∧ SqL K H l ys ∧ TmOut K (.int n :: ys) H Q
theorem ok_timesOf {f : Addr} {fd : FuncData} (F : FunD K "of" "Times.of" (defArgs s_Times_of) (defBody s_Times_of) (defScope s_Times_of) [] [] f fd) (T : Tc P K mg) (I : FnR P w K mg base (LX P w) 6 (He.ma K (cT K) "__init__") (spTimesR K)) :
    FnOk P w K mg base (LX P w) 8 f fd ["cls", "number", "items"] (spTimesOf K) := by
  refine F.ok sc_Times_of (fun vs H Q E h => ?_) (fun cdv A outer s H vs Q E hr h => ?_)
  · obtain ⟨n, l, ys, rfl, _⟩ := h
    rfl
  · obtain ⟨n, l, ys, rfl, hl, ho⟩ := h
    refine ⟨_, PSs.nox (pss_one (ps_ret (pe_timesS (pv 0) mono_v (mono_cons mono_v (mono_star mono_v mono_nil)) (T.mkr "Times" (by decide)) I hr (pa_cons (pv 1) (pa_star (pv 2) pa_nil))))), ?_⟩
    refine ⟨_, rfl, rfl, _, rfl, _, rfl, l, ys, rfl, .inr hl, ?_⟩
    show TmOut K (.int n :: (ys ++ [])) H Q
    rw [List.append_nil]
    exact ho
def spBodyOf (K : PySem.W.Frag) : Sp := fun vs H Q E => ∃ (l : Addr) (ys : List V), vs = [.ref (cB K), .ref l] ∧ (SqT K H l ys ∨ SqL K H l ys) ∧ BdOut K ys H Q E
theorem ok_bodyOf {f : Addr} {fd : FuncData} (F : FunD K "of" "Body.of" (defArgs s_Body_of) (defBody s_Body_of) (defScope s_Body_of) [] [] f fd) (T : Tc P K mg) (I : FnR P w K mg base (LX P w) 4 (He.ma K (cB K) "__init__") (spBodyR K)) :
    FnOk P w K mg base (LX P w) 6 f fd ["cls", "items"] (spBodyOf K) := by
  refine F.ok sc_Body_of (fun vs H Q E h => ?_) (fun cdv A outer s H vs Q E hr h => ?_)
  · obtain ⟨l, ys, rfl, _⟩ := h
    rfl
  · obtain ⟨l, ys, rfl, hl, ho⟩ := h
    refine ⟨_, pss_one (ps_ret (pe_bodyS (E := E) (pv 0) mono_v mono_v (T.mkr "Body" (by decide)) I hr (passE (takes_of (E := E) rfl rfl rfl rfl) fun _ _ _ _ z => z) (pv 1))), ?_⟩
    exact ⟨_, rfl, rfl, _, rfl, l, ys, rfl, hl, ho⟩
end
end Kb

namespace Kb
open PySem PySem.Spec PyProof.Rows L2 Mq
/-! ### the source of draws -/
/-- all that was tracked, but for d, is as it was -/
def But (d : Addr) (H H' : Hp) : Prop := ∀ b o, H b = some o → b ≠ d → H' b = some o
theorem But.refl (d : Addr) (H : Hp) : But d H H := fun _ _ h _ => h
theorem But.trans {d : Addr} {H H1 H2 : Hp} (a : But d H H1) (b : But d H1 H2) : But d H H2 := fun c o h n => b c o (a c o h n) n
theorem But.of_same {d : Addr} {H H' : Hp} (s : Same H H') : But d H H' := fun b o h _ => s b o h
def penD (l : Addr) (n r : Int) : List (Key × V) := [(Sum.inr "cells", .ref l), (Sum.inr "spot", .int n), (Sum.inr "rest", .int r)]
/-- at d: a source of draws from which at most c cells were begun -/
def PenAt (H : Hp) (d l : Addr) (c : Int) : Prop := ∃ (ns : List Int) (n r : Int), H d = some (.dK (penD l n r)) ∧ H l = some (.lst (ns.map V.int)) ∧ 0 ≤ n ∧ n ≤ c
theorem PenAt.mono {H : Hp} {d l : Addr} {c c' : Int} (h : PenAt H d l c) (e : c ≤ c') : PenAt H d l c' := by
  obtain ⟨ns, n, r, h1, h2, h3, h4⟩ := h
  exact ⟨ns, n, r, h1, h2, h3, Int.le_trans h4 e⟩
theorem PenAt.same {H H' : Hp} {d l : Addr} {c : Int} (h : PenAt H d l c) (s : Same H H') : PenAt H' d l c := by
  obtain ⟨ns, n, r, h1, h2, h3, h4⟩ := h
  exact ⟨ns, n, r, s _ _ h1, s _ _ h2, h3, h4⟩
theorem pen_cells (l : Addr) (n r : Int) : valV (penD l n r) (Sum.inr "cells") = some (.ref l) := by rfl
theorem pen_spot (l : Addr) (n r : Int) : valV (penD l n r) (Sum.inr "spot") = some (.int n) := by rfl
theorem pen_rest (l : Addr) (n r : Int) : valV (penD l n r) (Sum.inr "rest") = some (.int r) := by rfl
theorem put_spot (l : Addr) (n r m : Int) : putK (penD l n r) (Sum.inr "spot") (.int m) = penD l m r := by rfl
theorem put_rest (l : Addr) (n r m : Int) : putK (penD l n r) (Sum.inr "rest") (.int m) = penD l n m := by rfl
def spPen (K : PySem.W.Frag) : Sp := fun vs H Q _ => ∃ (a : Addr) (ns : List Int), vs = [.ref a] ∧ SqL K H a (ns.map V.int) ∧ ∀ (d l : Addr) (H' : Hp), Same H H' → H d = none → PenAt H' d l 0 → Q (.ref d) H'
def spDraw : Sp := fun vs H Q _ => ∃ (d l : Addr) (c z : Int), vs = [.ref d, .int z] ∧ PenAt H d l c ∧ c ≤ 2 ^ 60 ∧ 0 < z ∧ z < 2 ^ 30 ∧ ∀ (k : Int) (H' : Hp), 0 ≤ k → k < z → PenAt H' d l (c + 1) → But d H H' → Q (.int k) H'
section
variable {P : Program} {w : World} {K : PySem.W.Frag} {mg : Str → Option Value} {base : Heap}
theorem ok_pen {f : Addr} {fd : FuncData} (F : FunD K "_law_pen" "_law_pen" (defArgs s__law_pen) (defBody s__law_pen) (defScope s__law_pen) [] [] f fd) (T : Bt mg) : FnOk P w K mg base (LX P w) 1 f fd ["_law_script"] (spPen K) := by
  refine F.ok sc__law_pen (fun vs H Q E h => ?_) (fun cdv A outer s H vs Q E hr h => ?_)
  · obtain ⟨a, ns, rfl, _⟩ := h
    rfl
  · obtain ⟨a, ns, rfl, hS, k⟩ := h
    refine ⟨_, PSs.nox (pss_one (ps_ret (pe_disp (pps_cons pe_str (pe_callTy call_list_of (by rfl) T.list (by decide +kernel) (pa_cons (pe_slice sl_list (pv 0) po_none (po_some pe_int)) pa_nil))
      (pps_cons pe_str pe_int (pps_cons pe_str pe_int pps_nil))) (by rfl) (by rfl) (fun z => by cases z) (by decide)))), ?_⟩
    intro d hd
    refine ⟨_, rfl, _, rfl, a, _, rfl, (same_new hd).seq hS, fun p hp => ?_⟩
    refine ⟨p, _, rfl, .inl (.inl (.inl upd_same)), fun l hl => ?_⟩
    obtain ⟨hpd, hp0⟩ := upd_none hp
    obtain ⟨hlp, hl1⟩ := upd_none hl
    obtain ⟨hld, hl0⟩ := upd_none hl1
    refine ⟨?_, [(Sum.inr "cells", .ref l), (Sum.inr "spot", .int 0), (Sum.inr "rest", .int 0)], rfl, (by show 3 ≤ 15; decide), ?_⟩
    · rw [upd_ne (Ne.symm hld), upd_ne (Ne.symm hpd), upd_same]
    · obtain ⟨ms, em⟩ : ∃ ms : List Int, cutV (ns.map V.int) none (some 63) = ms.map V.int := ⟨_, by unfold cutV; rw [← List.map_drop, ← List.map_take]⟩
      refine k d l _ (fun b o e => ?_) hd ⟨ms, 0, 0, upd_same, ?_, Int.le_refl _, Int.le_refl _⟩
      · rw [upd_ne (ne_of_none e hd), upd_ne (ne_of_none e hl0), upd_ne (ne_of_none e hp0), upd_ne (ne_of_none e hd)]
        exact e
      · rw [upd_ne hld, upd_same, em]
theorem dp_ints {K : PySem.W.Frag} {H : Hp} : ∀ ns : List Int, DpAll K H (ns.map V.int) (ns.map PyData.int)
  | [] => .nil
  | n :: ns => .cons (.int n) (dp_ints ns)
theorem fmod_lt {a b : Int} (h : 0 < b) : 0 ≤ a.fmod b ∧ a.fmod b < b := ⟨Int.fmod_nonneg_of_pos a h, Int.fmod_lt_of_pos a h⟩
theorem fmB {a b : Int} (h : 0 < b) (h2 : b ≤ 2 ^ 64) : -(2 ^ 64) < a.fmod b ∧ a.fmod b < 2 ^ 64 := by
  have := fmod_lt (a := a) h
  omega
theorem ok_draw {f : Addr} {fd : FuncData} (F : FunD K "_law_draw" "_law_draw" (defArgs s__law_draw) (defBody s__law_draw) (defScope s__law_draw) [] [] f fd) (T : Bt mg) : FnOk P w K mg base (LX P w) 1 f fd ["_law_pen_here", "_law_size"] spDraw := by
  refine F.ok sc__law_draw (fun vs H Q E h => ?_) (fun cdv A outer s H vs Q E hr h => ?_)
  · obtain ⟨d, l, c, z, rfl, _⟩ := h
    rfl
  · obtain ⟨d, l, c, z, rfl, hP, hc, hz, hz2, k⟩ := h
    have hu := hu_of hr
    obtain ⟨ns, n, r, hd, hl, hn0, hn1⟩ := hP
    have hdl : l ≠ d := ne_of hl hd (by intro z; cases z)
    refine ⟨_, PSs.nox (pss_cons (ps_if (pt_cmpR op_ge (pe_dget hu (pv 0) pe_str (fun _ _ => rfl)) (pv 1) (nomark _))
        (pss_cons (ps_set (i := 2) sc__law_draw.nd rfl (Or.inl rfl) (pe_op op_modN (pe_callTy call_int1 (by rfl) T.int (by decide +kernel) (pa_cons (pe_dget hu (pv 0) pe_str (fun _ _ => rfl)) pa_nil)) (pv 1)))
        (pss_cons (ps_dput hu (pv 0) pe_str (pe_op op_fdivN (pe_dget hu (pv 0) pe_str (fun _ _ => rfl)) (pv 1)) rfl)
        (pss_one (ps_ret (pv 2))))) pss_nil)
      (pss_cons (ps_set (i := 3) sc__law_draw.nd rfl (Or.inl rfl) (pe_dget hu (pv 0) pe_str (fun _ _ => rfl)))
      (pss_cons (ps_dput hu (pv 0) pe_str (pe_op op_add (pv 3) pe_int) rfl)
      (pss_cons (ps_set (i := 4) sc__law_draw.nd rfl (Or.inl rfl) (pe_op op_add (pe_op op_mul pe_int (pv 3)) pe_int))
      (pss_cons (ps_if (pt_cmpR (op_neD hr.units) (pe_dget hu (pv 0) pe_str (fun _ _ => rfl)) (pe_lst pa_nil) (nomark _))
        (pss_one (ps_set (i := 4) sc__law_draw.nd rfl (Or.inl rfl) (pe_ix ix_list (pe_dget hu (pv 0) pe_str (fun _ _ => rfl)) (pe_op op_modN (pe_callTy call_int1 (by rfl) T.int (by decide +kernel) (pa_cons (pv 3) pa_nil))
          (pe_callB call_len_seq (by rfl) T.len PySem.boot_len (pa_cons (pe_dget hu (pv 0) pe_str (fun _ _ => rfl)) pa_nil))) (fun _ _ => rfl)))) pss_nil)
      (pss_cons (ps_if (PW.pt (pw_and (pt_cmpR op_lt (pv 3) (pe_callB call_len_seq (by rfl) T.len PySem.boot_len (pa_cons (pe_dget hu (pv 0) pe_str (fun _ _ => rfl)) pa_nil)) (nomark _)) (pw_and1 (pt_cmpR op_ge (pv 4) (pe_op op_pow pe_int pe_int) (nomark _)))))
        (pss_cons (ps_dput hu (pv 0) pe_str (pe_op op_fdivN (pe_op op_sub (pv 4) (pe_op op_pow pe_int pe_int)) (pv 1)) rfl)
        (pss_one (ps_ret (pe_op op_modN (pe_callTy call_int1 (by rfl) T.int (by decide +kernel) (pa_cons (pe_op op_sub (pv 4) (pe_op op_pow pe_int pe_int)) pa_nil)) (pv 1))))) pss_nil)
      (pss_cons (ps_set (i := 5) sc__law_draw.nd rfl (Or.inl rfl) (pe_op op_mul (pe_op op_modN (pe_callTy call_int1 (by rfl) T.int (by decide +kernel) (pa_cons (pv 4) pa_nil)) pe_int) pe_int))
      (pss_cons (ps_set (i := 5) sc__law_draw.nd rfl (Or.inl rfl) (pe_op op_modN (pe_callTy call_int1 (by rfl) T.int (by decide +kernel) (pa_cons (pe_op op_add (pe_op op_add (pe_op op_add (pv 5) (pe_op op_mul (pe_op op_mul pe_int (pv 3)) (pv 3))) (pe_op op_mul pe_int (pv 3))) pe_int) pa_nil)) pe_int))
      (pss_cons (ps_set (i := 5) sc__law_draw.nd rfl (Or.inl rfl) (pe_op op_modN (pe_callTy call_int1 (by rfl) T.int (by decide +kernel) (pa_cons (pe_op op_mul (pv 5) (pe_op op_add (pv 5) pe_int)) pa_nil)) pe_int))
      (pss_one (ps_ret (pe_op op_modN (pe_callTy call_int1 (by rfl) T.int (by decide +kernel) (pa_cons (pe_op op_fdivN (pe_op op_modN (pe_callTy call_int1 (by rfl) T.int (by decide +kernel) (pa_cons (pe_op op_add (pe_op op_mul (pv 5) (pv 5)) (pe_op op_mul pe_int (pv 5))) pa_nil)) pe_int) pe_int) pa_nil)) (pv 1))))))))))))), ?_⟩
    -- if rest >= size
    have gR : DGet H d (.str "rest") (some (.int r)) := by
      have := DGet.k (k := (Sum.inr "rest" : Key)) hd
      rw [pen_rest] at this
      exact this
    have small : (penD l n r).length < sizeLine := small1000 (by show 3 ≤ 1000; decide)
    have hzn : z.natAbs < 1073741824 := by omega
    refine ⟨_, rfl, d, _, rfl, gR, _, rfl, _, _, rfl, rfl, _, rfl, ?_⟩
    refine ite2 (fun h1 => ?_) (fun h1 => ?_)
    · refine ⟨_, rfl, d, _, rfl, gR, .inl ⟨_, rfl, _, rfl, _, _, rfl, rfl, (by omega), ?_⟩⟩
      refine ⟨_, rfl, d, _, rfl, gR, _, rfl, _, _, rfl, rfl, ⟨by omega, hzn⟩, _, rfl, d, _, rfl, DPut.k (k := (Sum.inr "rest" : Key)) hd small, ?_⟩
      refine ⟨_, rfl, ?_⟩
      rw [put_rest]
      obtain ⟨m1, m2⟩ := fmod_lt (a := r) hz
      refine k _ _ m1 m2 ⟨ns, n, _, upd_same, ?_, hn0, by omega⟩ fun b o e hb => ?_
      · rw [upd_ne hdl]
        exact hl
      · rw [upd_ne hb]
        exact e
    · have gS : DGet H d (.str "spot") (some (.int n)) := by
        have := DGet.k (k := (Sum.inr "spot" : Key)) hd
        rw [pen_spot] at this
        exact this
      refine ⟨_, rfl, d, _, rfl, gS, ?_⟩
      refine ⟨_, rfl, _, _, rfl, rfl, _, rfl, d, _, rfl, DPut.k (k := (Sum.inr "spot" : Key)) hd small, ?_⟩
      rw [put_spot]
      have hd1 : upd H d (.dK (penD l (n + 1) r)) d = some (.dK (penD l (n + 1) r)) := upd_same
      have hl1 : upd H d (.dK (penD l (n + 1) r)) l = some (.lst (ns.map V.int)) := by
        rw [upd_ne hdl]
        exact hl
      have gC : DGet (upd H d (.dK (penD l (n + 1) r))) d (.str "cells") (some (.ref l)) := by
        have := DGet.k (k := (Sum.inr "cells" : Key)) hd1
        rw [pen_cells] at this
        exact this
      refine ⟨_, rfl, _, _, rfl, rfl, .inl ⟨by decide, by decide⟩, _, _, rfl, rfl, ?_⟩
      -- if cells != []
      refine ⟨_, rfl, d, _, rfl, gC, (by show 0 ≤ sizeLine; exact Nat.zero_le _), fun p hp => ?_⟩
      obtain ⟨hpd, hp0⟩ := upd_none hp
      have hl2 : upd (upd H d (.dK (penD l (n + 1) r))) p (.lst []) l = some (.lst (ns.map V.int)) := by
        rw [upd_ne (ne_of_none hl1 hp)]
        exact hl1
      have hd2 : upd (upd H d (.dK (penD l (n + 1) r))) p (.lst []) d = some (.dK (penD l (n + 1) r)) := by
        rw [upd_ne (Ne.symm hpd)]
        exact hd1
      have gC2 : DGet (upd (upd H d (.dK (penD l (n + 1) r))) p (.lst [])) d (.str "cells") (some (.ref l)) := by
        have := DGet.k (k := (Sum.inr "cells" : Key)) hd2
        rw [pen_cells] at this
        exact this
      have keep2 : But d H (upd (upd H d (.dK (penD l (n + 1) r))) p (.lst [])) := fun b o e hb => by
        rw [upd_ne (ne_of_none e hp0), upd_ne hb]
        exact e
      refine ⟨.list (ns.map PyData.int), .list [], .lst (.inl (.inl hl2)) (dp_ints ns), .lst (.inl (.inl upd_same)) .nil, PySem.W.ke_shaped_ints ns, by decide +kernel, _, rfl, ?_⟩
      have fin : ∀ (k' : Int), 0 ≤ k' → k' < z → Q (.int k') (upd (upd H d (.dK (penD l (n + 1) r))) p (.lst [])) := fun k' q1 q2 => k k' _ q1 q2 ⟨ns, n + 1, r, hd2, hl2, by omega, by omega⟩ keep2
      have pen2 : ∀ x : Int, upd (upd (upd H d (.dK (penD l (n + 1) r))) p (.lst [])) d (.dK (penD l (n + 1) x)) l = some (.lst (ns.map V.int)) := fun x => by
        rw [upd_ne hdl]
        exact hl2
      have nlo : -(2 ^ 64) < n := by omega
      have nhi : n < 2 ^ 64 := by omega
      refine ite2 (fun h2 => ?_) (fun h2 => ?_)
      -- cells is not empty
      rotate_left
      generalize 71 * n + 43 = cell
      rotate_left
      have hne : ns ≠ [] := fun e => by
        subst e
        exact absurd h2 (by decide +kernel)
      have hlen : 0 < ns.length := List.length_pos_iff.mpr hne
      have q1 := fmod_lt (a := n) (b := (ns.length : Int)) (by omega)
      obtain ⟨j, hj⟩ : ∃ j : Nat, n.fmod (ns.length : Int) = (j : Int) := ⟨(n.fmod (ns.length : Int)).toNat, by omega⟩
      have hj2 : j < ns.length := by omega
      have hat : atI (ns.map V.int) (n.fmod ((ns.map V.int).length : Int)) = some (.int ns[j]) := by
        rw [List.length_map, hj]
        exact atI_nat (by rw [List.getElem?_map, List.getElem?_eq_getElem hj2]; rfl)
      refine ⟨_, rfl, d, _, rfl, gC2, _, rfl, .inl ⟨_, rfl, _, rfl, d, _, rfl, gC2, l, _, rfl, .inl (.inl (.inl hl2)), _, _, rfl, rfl, (by rw [List.length_map]; omega), l, _, _, .int ns[j], rfl, rfl, .inl (.inl hl2), hat, ?_⟩⟩
      clear hat
      generalize ns[j] = cell
      all_goals
        refine ⟨_, rfl, _, rfl, d, _, rfl, gC2, l, _, rfl, .inl (.inl (.inl hl2)), _, _, rfl, rfl, _, rfl, ?_⟩
        refine ite2 (fun h3 => ?_) (fun h3 => ?_)
        · refine ⟨_, rfl, _, _, rfl, rfl, ⟨by decide, by decide, by decide⟩, _, _, rfl, rfl, _, rfl, ?_⟩
          refine ite2 (fun h4 => ?_) (fun h4 => ?_)
          · refine ⟨_, rfl, _, _, rfl, rfl, ⟨by decide, by decide, by decide⟩, _, _, rfl, rfl, _, rfl, _, _, rfl, rfl, ⟨by omega, hzn⟩, _, rfl, d, _, rfl, DPut.k (k := (Sum.inr "rest" : Key)) hd2 (small1000 (by show 3 ≤ 1000; decide)), ?_⟩
            rw [put_rest]
            refine ⟨_, rfl, _, _, rfl, rfl, ⟨by decide, by decide, by decide⟩, _, _, rfl, rfl, .inl ⟨_, rfl, _, rfl, _, _, rfl, rfl, by omega, ?_⟩⟩
            refine k _ _ (fmod_lt hz).1 (fmod_lt hz).2 ⟨ns, n + 1, _, upd_same, pen2 _, by omega, by omega⟩ fun b o e hb => ?_
            rw [upd_ne hb]
            exact keep2 b o e hb
          · refine ⟨_, rfl, .inl ⟨_, rfl, _, _, rfl, rfl, (by simp), _, _, rfl, rfl, .inr ⟨by decide, by decide⟩, ?_⟩⟩
            refine ⟨_, rfl, _, rfl, _, _, rfl, rfl, .inl ⟨by decide, by decide⟩, _, rfl, _, _, rfl, rfl, .inr ⟨nlo, nhi⟩, _, _, rfl, rfl, _, rfl, _, _, rfl, rfl, .inl ⟨by decide, by decide⟩, _, _, rfl, rfl, _, _, rfl, rfl, .inl ⟨_, rfl, _, _, rfl, rfl, (by simp), ?_⟩⟩
            refine ⟨_, rfl, _, rfl, _, _, rfl, rfl, _, _, rfl, rfl, .inl (fmB (by decide) (by decide)), .inl ⟨_, rfl, _, _, rfl, rfl, (by simp), ?_⟩⟩
            refine ⟨_, rfl, _, rfl, _, _, rfl, rfl, .inl (fmB (by decide) (by decide)), _, rfl, _, _, rfl, rfl, .inl ⟨by decide, by decide⟩, _, _, rfl, rfl, .inl ⟨_, rfl, _, _, rfl, rfl, (by simp), _, _, rfl, rfl, ⟨by decide, by decide⟩, .inl ⟨_, rfl, _, rfl, _, _, rfl, rfl, by omega, ?_⟩⟩⟩
            exact fin _ (fmod_lt hz).1 (fmod_lt hz).2
        · refine iteF ?_
          refine ⟨_, rfl, .inl ⟨_, rfl, _, _, rfl, rfl, (by simp), _, _, rfl, rfl, .inr ⟨by decide, by decide⟩, ?_⟩⟩
          refine ⟨_, rfl, _, rfl, _, _, rfl, rfl, .inl ⟨by decide, by decide⟩, _, rfl, _, _, rfl, rfl, .inr ⟨nlo, nhi⟩, _, _, rfl, rfl, _, rfl, _, _, rfl, rfl, .inl ⟨by decide, by decide⟩, _, _, rfl, rfl, _, _, rfl, rfl, .inl ⟨_, rfl, _, _, rfl, rfl, (by simp), ?_⟩⟩
          refine ⟨_, rfl, _, rfl, _, _, rfl, rfl, _, _, rfl, rfl, .inl (fmB (by decide) (by decide)), .inl ⟨_, rfl, _, _, rfl, rfl, (by simp), ?_⟩⟩
          refine ⟨_, rfl, _, rfl, _, _, rfl, rfl, .inl (fmB (by decide) (by decide)), _, rfl, _, _, rfl, rfl, .inl ⟨by decide, by decide⟩, _, _, rfl, rfl, .inl ⟨_, rfl, _, _, rfl, rfl, (by simp), _, _, rfl, rfl, ⟨by decide, by decide⟩, .inl ⟨_, rfl, _, rfl, _, _, rfl, rfl, by omega, ?_⟩⟩⟩
          exact fin _ (fmod_lt hz).1 (fmod_lt hz).2
end
theorem seq_but {K : PySem.W.Frag} {H H' : Hp} {d a : Addr} {xs : List V} {kvs : List (Key × V)} (b : But d H H') (hd : H d = some (.dK kvs)) (h : SqL K H a xs) : SqL K H' a xs := by
  rcases h with (h | ⟨o, h⟩) | h
  · exact .inl (.inl (b _ _ h (ne_of h hd (by intro z; cases z))))
  · exact .inl (.inr ⟨o, b _ _ h (ne_of h hd (by intro z; cases z))⟩)
  · exact .inr h
/-- what a value holds that is drawn from: a list, or the signs of a text -/
inductive SqV (K : PySem.W.Frag) (H : Hp) : V → List V → Prop
  | lst {a : Addr} {xs : List V} (h : SqL K H a xs) : SqV K H (.ref a) xs
  | str {z : Str} (h : z.length ≤ 1000) : SqV K H (.str z) (z.cps.toList.map fun c => V.str ⟨#[c]⟩)
def spPick (K : PySem.W.Frag) : Sp := fun vs H Q _ => ∃ (d l : Addr) (x : V) (c : Int) (xs : List V), vs = [.ref d, x] ∧ PenAt H d l c ∧ c ≤ 2 ^ 60 ∧ SqV K H x xs ∧ 0 < xs.length ∧ xs.length < 2 ^ 30 ∧
  ∀ (v : V) (H' : Hp), v ∈ xs → PenAt H' d l (c + 1) → But d H H' → Q v H'
section
variable {P : Program} {w : World} {K : PySem.W.Frag} {mg : Str → Option Value} {base : Heap}
theorem ok_pick {f : Addr} {fd : FuncData} (F : FunD K "_law_pick" "_law_pick" (defArgs s__law_pick) (defBody s__law_pick) (defScope s__law_pick) [] [] f fd) (T : Bt mg) (D : Of P w K mg base 1 "_law_draw" spDraw) :
    FnOk P w K mg base (LX P w) 2 f fd ["_law_pen_here", "_law_items_here"] (spPick K) := by
  refine F.ok sc__law_pick (fun vs H Q E h => ?_) (fun cdv A outer s H vs Q E hr h => ?_)
  · obtain ⟨d, lc, x, c, xs, rfl, _⟩ := h
    rfl
  · obtain ⟨d, lc, x, c, xs, rfl, hP, hc, hS, h0, h1, k⟩ := h
    refine ⟨_, PSs.nox (pss_one (ps_ret (pe_ix ix_seq (pv 1) (pe_of (E := E0) D hr rfl passL (pa_cons (pv 0) (pa_cons (pe_callB call_len (by rfl) T.len PySem.boot_len (pa_cons (pv 1) pa_nil)) pa_nil))) (fun _ _ => rfl)))), ?_⟩
    cases hS with
    | lst hS =>
      rename_i a
      refine ⟨_, rfl, _, rfl, _, rfl, _, _, rfl, .inl ⟨xs, hS, rfl⟩, d, lc, c, _, rfl, hP, hc, by omega, by omega, fun j H' j0 j1 hP' hb => ?_⟩
      obtain ⟨i, rfl⟩ : ∃ i : Nat, j = (i : Int) := ⟨j.toNat, by omega⟩
      have hi : i < xs.length := by omega
      obtain ⟨ns, n, r, hd, _⟩ := id hP
      exact .inl ⟨a, xs, _, xs[i], rfl, rfl, seq_but hb hd hS, atI_nat (List.getElem?_eq_getElem hi), k _ _ (List.getElem_mem hi) hP' hb⟩
    | str hz =>
      rename_i z
      have hl : (z.cps.toList.map fun c => V.str ⟨#[c]⟩).length = z.length := by simp [Str.length]
      rw [hl] at h0 h1
      refine ⟨_, rfl, _, rfl, _, rfl, _, z.length, rfl, ⟨sz _ hz, rfl⟩, d, lc, c, _, rfl, hP, hc, by omega, by omega, fun j H' j0 j1 hP' hb => ?_⟩
      obtain ⟨i, rfl⟩ : ∃ i : Nat, j = (i : Int) := ⟨j.toNat, by omega⟩
      have hi : i < z.cps.toList.length := by
        have : z.length = z.cps.toList.length := by simp [Str.length]
        omega
      exact .inr (.inr ⟨z, _, z.cps.toList[i], rfl, rfl, sz _ hz, atI_nat (List.getElem?_eq_getElem hi), k _ _ (List.mem_map.mpr ⟨_, List.getElem_mem hi, rfl⟩) hP' hb⟩)
end
end Kb

namespace Kb
open PySem PySem.Spec PyProof.Rows L2 Mq
/-! ### signs of words -/
def Al (z : Str) : Prop := ∀ c ∈ z.cps.toList, isL c = true
theorem Al.app {a b : Str} (h : Al a) (k : Al b) : Al (a ++ b) := fun c hc => by
  have e : (a ++ b).cps.toList = a.cps.toList ++ b.cps.toList := by show (a.cps ++ b.cps).toList = _; simp
  rw [e] at hc
  rcases List.mem_append.mp hc with z | z
  · exact h c z
  · exact k c z
theorem len_app (a b : Str) : (a ++ b).length = a.length + b.length := by show (a.cps ++ b.cps).size = _; simp [Str.length]
theorem Al.cut {z : Str} (h : Al z) (lo hi : Option Int) : Al (cutS z lo hi) := fun c hc => by
  unfold cutS at hc
  exact h c (List.mem_of_mem_drop (List.mem_of_mem_take hc))
theorem len_cut (z : Str) (i : Nat) (hi : i ≤ z.length) : (cutS z none (some (i : Int))).length = i ∧ (cutS z (some (i : Int)) none).length = z.length - i := by
  have hz : z.cps.toList.length = z.length := by simp [Str.length]
  unfold cutS Str.length
  rw [HT.sIx_none, HT.sIx_nat, HT.sIx_none, HT.sIx_nat]
  simp only [List.size_toArray, List.length_take, List.length_drop, hz]
  simp only [Str.length] at *
  omega
theorem Al.join : ∀ {ys : List Str}, (∀ y ∈ ys, Al y) → Al (Str.join ⟨#[]⟩ ys)
  | [], _ => fun c hc => by simp [Str.join, Str.empty] at hc
  | [x], h => h x List.mem_cons_self
  | x :: y :: r, h => ((h x List.mem_cons_self).app (fun c hc => by simp at hc)).app (Al.join fun z hz => h z (List.mem_cons_of_mem _ hz))
theorem len_join : ∀ {ys : List Str}, (∀ y ∈ ys, y.length = 1) → (Str.join ⟨#[]⟩ ys).length = ys.length
  | [], _ => rfl
  | [x], h => h x List.mem_cons_self
  | x :: y :: r, h => by
    show (x ++ ⟨#[]⟩ ++ Str.join ⟨#[]⟩ (y :: r)).length = _
    rw [len_app, len_app, len_join fun z hz => h z (List.mem_cons_of_mem _ hz), h x List.mem_cons_self]
    simp [Str.length]
    omega
theorem isW_of {z : Str} (h : Al z) (h1 : 1 ≤ z.length) (h2 : z.length ≤ 8) : isW z = true := by
  unfold isW
  rw [decide_eq_true ⟨h1, h2⟩, Bool.true_and]
  exact List.all_eq_true.mpr h
theorem but_at {H H' : Hp} {d a : Addr} {o u : HO} (b : But d H H') (hd : H d = some u) (e : H a = some o) (n : o ≠ u) : H' a = some o := b _ _ e (ne_of e hd n)
theorem PenAt.dk {H : Hp} {d l : Addr} {c : Int} (h : PenAt H d l c) : ∃ kvs, H d = some (.dK kvs) := by
  obtain ⟨ns, n, r, hd, _⟩ := h
  exact ⟨_, hd⟩
theorem PenAt.ls {H : Hp} {d l : Addr} {c : Int} (h : PenAt H d l c) : ∃ xs, H l = some (.lst xs) := by
  obtain ⟨ns, n, r, hd, hl, _⟩ := h
  exact ⟨_, hl⟩
/-- a write elsewhere -/
theorem PenAt.upd {H : Hp} {d l x : Addr} {c : Int} {o : HO} (h : PenAt H d l c) (h1 : d ≠ x) (h2 : l ≠ x) : PenAt (upd H x o) d l c := by
  obtain ⟨ns, n, r, hd, hl, e⟩ := h
  exact ⟨ns, n, r, by rw [upd_ne h1]; exact hd, by rw [upd_ne h2]; exact hl, e⟩
theorem But.at_ {d x : Addr} {H G G' : Hp} {o : HO} (b : But d H G) (hx : G x = none) (g : But d H G') : But d H (L2.upd G' x o) := fun y u e n => by
  rw [upd_ne fun z => absurd (b y u e n) (by rw [z, hx]; simp)]
  exact g y u e n
theorem But.none_ {d l x : Addr} {H G : Hp} {c : Int} (b : But d H G) (p : PenAt G d l c) (h : G x = none) : H x = none := by
  cases e : H x with
  | none => rfl
  | some o => exact absurd (b x o e (Ne.symm (ne_of_none p.dk.choose_spec h))) (by rw [h]; simp)
theorem lst_but {H H' : Hp} {d l a : Addr} {c : Int} {xs : List V} (b : But d H H') (p : PenAt H d l c) (e : H a = some (.lst xs)) : H' a = some (.lst xs) := by
  obtain ⟨kvs, hd⟩ := p.dk
  exact but_at b hd e (by intro z; cases z)
/-- a write elsewhere keeps the source of draws, unless it is at its cells -/
theorem PenAt.new {H : Hp} {d l x : Addr} {c : Int} {o : HO} (p : PenAt H d l c) (h : H x = none) : PenAt (L2.upd H x o) d l c := p.same (same_new h)
theorem sign_of {v : V} (h : v ∈ letters.cps.toList.map fun c => V.str ⟨#[c]⟩) : ∃ y : Str, v = .str y ∧ Al y ∧ y.length = 1 := by
  obtain ⟨c, hc, rfl⟩ := List.mem_map.mp h
  refine ⟨⟨#[c]⟩, rfl, fun e he => ?_, rfl⟩
  have : e = c := by simpa using he
  rw [this, ← isL_in]
  exact decide_eq_true hc
theorem pen_ne {H : Hp} {d l x : Addr} {c : Int} (p : PenAt H d l c) (h : H x = none) : d ≠ x ∧ l ≠ x := by
  obtain ⟨kvs, hd⟩ := p.dk
  obtain ⟨xs, hl⟩ := p.ls
  exact ⟨ne_of_none hd h, ne_of_none hl h⟩
def spWords : Sp := fun vs H Q _ => ∃ (d lc : Addr) (c n : Int), vs = [.ref d, .int n] ∧ PenAt H d lc c ∧ c ≤ 2 ^ 59 ∧ 0 ≤ n ∧ n ≤ 100 ∧
  ∀ (l : Addr) (ws : List Str) (G : Hp), ws.length = n.toNat → (∀ z ∈ ws, isW z = true) → H l = none → G l = some (.lst (ws.map V.str)) → PenAt G d lc (c + 10) → But d H G → Q (.ref l) G
section
variable {P : Program} {w : World} {K : PySem.W.Frag} {mg : Str → Option Value} {base : Heap}
theorem ok_words {f : Addr} {fd : FuncData} (F : FunD K "_law_words" "_law_words" (defArgs s__law_words) (defBody s__law_words) (defScope s__law_words) [] [] f fd) (T : Bt mg) (D : Of P w K mg base 1 "_law_draw" spDraw) (C : Of P w K mg base 2 "_law_pick" (spPick K)) :
    FnOk P w K mg base (LX P w) 3 f fd ["_law_pen_here", "_law_count"] spWords := by
  refine F.ok sc__law_words (fun vs H Q E h => ?_) (fun cdv A outer s H vs Q E hr h => ?_)
  · obtain ⟨d, lc, c, n, rfl, _⟩ := h
    rfl
  · obtain ⟨d, lc, c, n, rfl, hP, hc, n0, n1, k⟩ := h
    have nd := sc__law_words.nd
    refine ⟨_, PSs.nox (pss_cons (ps_set (i := 2) nd rfl (Or.inr rfl) pe_str)
      (pss_cons (ps_set (i := 3) nd rfl (Or.inl rfl) (pe_join pe_str (pe_lc (own := [("_law_k", 9)]) (g := gName 9) (tt := tYes) (by rfl) nd (pi_range1 rfl T.range (pa_cons (pe_of (E := E0) D hr rfl passL (pa_cons (pv 0) (pa_cons pe_int pa_nil))) pa_nil))
        (blkOk_by (own := [("_law_k", 9)]) (N := ["_law_pen_here", "_law_count", "_law_signs", "_law_stem", "_law_at", "_law_front", "_law_step", "_law_tail", "_law_found", "_law_k", "_law_sign", "_law_word"]) (sc := defScope s__law_words) (by decide +kernel))
        (fun _ _ _ _ _ => pg_name (i := 9) nd rfl (Or.inl rfl)) (fun _ _ _ _ _ => pts_nil) (fun _ _ _ _ _ => pe_of (E := E0) C hr rfl passL (pa_cons (pv 0) (pa_cons (pv 2) pa_nil))))))
      (pss_cons (ps_par (i := 4) (j := 5) (by rfl) nd rfl rfl (by decide) rfl rfl (pa_cons (pe_of (E := E0) D hr rfl passL (pa_cons (pv 0) (pa_cons (pe_op op_add (pe_callB call_len_str (by rfl) T.len PySem.boot_len (pa_cons (pv 3) pa_nil)) pe_int) pa_nil))) (pa_cons (pe_of (E := E0) D hr rfl passL (pa_cons (pv 0) (pa_cons pe_int pa_nil))) pa_nil)) (by rfl))
      (pss_cons (ps_par (i := 6) (j := 7) (by rfl) nd rfl rfl (by decide) rfl rfl (pa_cons (pe_of (E := E0) C hr rfl passL (pa_cons (pv 0) (pa_cons (pe_lst (pa_cons pe_int (pa_cons pe_int (pa_cons pe_int (pa_cons pe_int (pa_cons pe_int (pa_cons pe_int (pa_cons pe_int (pa_cons pe_int pa_nil))))))))) pa_nil)))
        (pa_cons (pe_of (E := E0) C hr rfl passL (pa_cons (pv 0) (pa_cons (pe_lst (pa_cons pe_str (pa_cons pe_str (pa_cons pe_str (pa_cons pe_str pa_nil))))) pa_nil))) pa_nil)) (by rfl))
      (pss_cons (ps_set (i := 8) nd rfl (Or.inl rfl) (pe_lst pa_nil))
      (pss_cons (ps_for PassesOwn.never rfl (pi_range1 rfl T.range (pa_cons (pv 1) pa_nil)) (pg_name (i := 9) nd rfl (Or.inl rfl))
        (pss_cons (ps_set (i := 10) nd rfl (Or.inl rfl) (pe_ix ix_str (pv 2) (pe_op op_modN (pe_callTy call_int1 (by rfl) T.int (by decide +kernel) (pa_cons (pe_op op_add (pv 5) (pe_op op_mul (pv 6) (pv 9))) pa_nil)) pe_int) (fun _ _ => rfl)))
        (pss_cons (ps_set (i := 11) nd rfl (Or.inl rfl) (pe_op op_add_str (pe_op op_add_str (pe_slice sl_str (pv 3) po_none (po_some (pv 4))) (pv 10)) (pe_slice sl_str (pv 3) (po_some (pv 4)) po_none)))
        (pss_one (ps_expr (pe_bm PySem.F.plainAttrs_list PySem.F.slot_list_append PySem.F.type_list_append mt_append (pv 8) (pa_cons (pe_ifExp (pt_cmpR op_eq (pe_op op_modN (pe_callTy call_int1 (by rfl) T.int (by decide +kernel) (pa_cons (pv 9) pa_nil)) pe_int) pe_int (nomark _)) (pe_op op_add_str (pv 11) (pv 7)) (pv 11)) pa_nil)))))))
      (pss_one (ps_ret (pv 8))))))))), ?_⟩
    -- the stem
    refine ⟨⟨_, rfl⟩, _, rfl, d, lc, c, 6, rfl, hP, by omega, by decide, by decide, fun j0 H1 j1 j2 hP1 hb1 => ?_⟩
    obtain ⟨m, rfl⟩ : ∃ m : Nat, j0 = (m : Int) := ⟨j0.toNat, by omega⟩
    refine ⟨m, rfl, by omega, by omega, fun L hL => lc_it walk_range (fun j G => ∃ ys : List Str, PenAt G d lc (c + 1 + j) ∧ But d H G ∧ G L = some (.lst (ys.map V.str)) ∧ ys.length = j ∧ ∀ y ∈ ys, Al y ∧ y.length = 1) ⟨[], by simpa using hP1.new hL, hb1.trans (.of_same (same_new hL)), upd_same, rfl, fun y hy => by cases hy⟩ (fun _ _ _ _ => trivial) ?_ ?_⟩
    · rintro j x G G' hj ⟨ys, gP, gb, gl, ge, ga⟩ ⟨rfl, rfl⟩
      refine ⟨rfl, ?_⟩
      refine ⟨_, rfl, _, rfl, d, lc, .str letters, _, _, rfl, gP, by omega, .str (by decide +kernel), (by decide +kernel), (by decide +kernel), fun v G2 hv hP2 hb2 => ?_⟩
      obtain ⟨y, rfl, hy1, hy2⟩ := sign_of hv
      have gl2 := lst_but hb2 gP gl
      have nL := pen_ne hP1 hL
      refine ⟨_, gl2, by rw [List.length_map]; exact small1000 (by omega), ys ++ [y], ?_, But.at_ hb1 hL (gb.trans hb2), by rw [upd_same, List.map_append]; rfl, by simp [ge], fun z hz => ?_⟩
      · refine (hP2.upd nL.1 nL.2).mono ?_
        omega
      · rcases List.mem_append.mp hz with z1 | z1
        · exact ga z z1
        · have : z = y := by simpa using z1
          rw [this]
          exact ⟨hy1, hy2⟩
    · rintro G ⟨ys, gP, gb, gl, ge, ga⟩
      have em : ((m : Int)).toNat = m := Int.toNat_natCast m
      rw [em] at gP ge
      have hsl : Al (Str.join ⟨#[]⟩ ys) := Al.join fun y hy => (ga y hy).1
      have hln : (Str.join ⟨#[]⟩ ys).length = m := by rw [len_join fun y hy => (ga y hy).2, ge]
      refine ⟨_, L, ys, rfl, rfl, .inl (.inl (.inl gl)), ?_, ?_⟩
      · have e1 : (ys.map (·.length)).sum = ys.length := by
          clear gl hsl hln ge
          induction ys with
          | nil => rfl
          | cons a r ih =>
            rw [List.map_cons, List.sum_cons, (ga a List.mem_cons_self).2, ih fun z hz => ga z (List.mem_cons_of_mem _ hz)]
            simp only [List.length_cons]
            omega
        have e2 : (Str.ofString "").length = 0 := by decide +kernel
        rw [e1, e2]
        omega
      have ej : Txt.join (Str.ofString "") ys = Str.join ⟨#[]⟩ ys := by
        rw [TL.join_eq]
        rfl
      rw [ej]
      generalize Str.join ⟨#[]⟩ ys = stem at hsl hln
      have hl8 : stem.length ≤ sizeLine := sz _ (by omega)
      -- at, front
      refine ⟨_, rfl, _, rfl, stem, rfl, hl8, _, _, rfl, rfl, d, lc, _, _, rfl, gP, by omega, by omega, by omega, fun at1 G1 a0 a1 hP2 hb2 => ?_⟩
      refine ⟨_, rfl, d, lc, _, 26, rfl, hP2, by omega, by decide, by decide, fun front G2 f0 f1 hP3 hb3 => ⟨_, _, rfl, ?_⟩⟩
      -- step, tail
      refine ⟨_, rfl, sz 8 (by decide), fun l1 hl1 => ⟨d, lc, .ref l1, _, _, rfl, hP3.new hl1, by omega, .lst (SqL.of upd_same), (by simp), (by simp), fun st G3 hst hP4 hb4 => ?_⟩⟩
      refine ⟨_, rfl, sz 4 (by decide), fun l2 hl2 => ⟨d, lc, .ref l2, _, _, rfl, hP4.new hl2, by omega, .lst (SqL.of upd_same), (by simp), (by simp), fun tl G4 htl hP5 hb5 => ⟨_, _, rfl, ?_⟩⟩⟩
      obtain ⟨step, rfl, st0, st1⟩ : ∃ i : Int, st = .int i ∧ 0 ≤ i ∧ i ≤ 17 := by
        simp only [List.mem_cons, List.not_mem_nil, or_false] at hst
        rcases hst with rfl | rfl | rfl | rfl | rfl | rfl | rfl | rfl <;> exact ⟨_, rfl, by decide, by decide⟩
      obtain ⟨tail, rfl, tl0, tl1⟩ : ∃ z : Str, tl = .str z ∧ Al z ∧ z.length ≤ 2 := by
        simp only [List.mem_cons, List.not_mem_nil, or_false] at htl
        rcases htl with rfl | rfl | rfl | rfl <;> exact ⟨_, rfl, by unfold Al; decide +kernel, by decide +kernel⟩
      have bAll : But d H G4 := ((((gb.trans hb2).trans hb3).trans (.of_same (same_new hl1))).trans hb4).trans ((But.of_same (same_new hl2)).trans hb5)
      refine ⟨sz 0 (by decide), fun l5 h5 => ?_⟩
      obtain ⟨an, rfl⟩ : ∃ an : Nat, at1 = (an : Int) := ⟨at1.toNat, by omega⟩
      refine ⟨_, rfl, n, rfl, by omega, by omega, for_it walk_range (fun j σ G => ∃ (ws : List Str) (x y z : Option V), σ = [some (.ref d), some (.int n), some (.str letters), some (.str stem), some (.int an), some (.int front), some (.int step), some (.str tail), some (.ref l5), x, y, z] ∧ Same G4 G ∧ G l5 = some (.lst (ws.map V.str)) ∧ ws.length = j ∧ ∀ y ∈ ws, isW y = true)
        ⟨[], _, _, _, rfl, ?_, upd_same, rfl, fun y hy => by cases hy⟩ (fun _ _ _ _ _ => trivial) ?_ ?_⟩
      · exact same_new h5
      · rintro j x σ G0 G' hj ⟨ws, x, y, z, rfl, sm, gl5, gw, ga5⟩ ⟨rfl, rfl⟩
        have hmod := fmod_lt (a := front + step * (0 + (j : Int))) (b := 26) (by decide)
        obtain ⟨i26, hi26⟩ : ∃ i : Nat, (front + step * (0 + (j : Int))).fmod 26 = (i : Int) := ⟨((front + step * (0 + (j : Int))).fmod 26).toNat, by omega⟩
        have hl26 : letters.cps.toList.length = 26 := by decide +kernel
        have li : i26 < letters.cps.toList.length := by omega
        refine ⟨_, rfl, _, rfl, _, rfl, _, rfl, _, _, rfl, rfl, .inl ⟨by omega, by omega⟩, _, _, rfl, rfl, .inl ⟨_, rfl, _, _, rfl, rfl, (by simp), letters, _, letters.cps.toList[i26], rfl, rfl, (by decide +kernel), ?_, ?_⟩⟩
        · rw [hi26]
          exact atI_nat (List.getElem?_eq_getElem li)
        have hsg : ∃ y : Str, V.str (⟨#[letters.cps.toList[i26]]⟩ : Str) = .str y ∧ Al y ∧ y.length = 1 := sign_of (List.mem_map.mpr ⟨_, List.getElem_mem li, rfl⟩)
        obtain ⟨sg, esg, sg0, sg1⟩ := hsg
        have esg2 : (⟨#[letters.cps.toList[i26]]⟩ : Str) = sg := V.str.inj esg
        rw [esg2]
        obtain ⟨c1, c2⟩ := len_cut stem an (by omega)
        have wl : (cutS stem none (some (an : Int)) ++ sg ++ cutS stem (some (an : Int)) none).length = stem.length + 1 := by
          rw [len_app, len_app, c1, c2, sg1]
          omega
        have wa : Al (cutS stem none (some (an : Int)) ++ sg ++ cutS stem (some (an : Int)) none) := ((hsl.cut _ _).app sg0).app (hsl.cut _ _)
        refine ⟨_, rfl, _, rfl, _, rfl, stem, rfl, hl8, _, rfl, _, _, rfl, rfl, sz _ (by omega), _, rfl, _, rfl, _, rfl, stem, rfl, hl8, _, _, rfl, rfl, ?_, ?_⟩
        · rw [len_app, c1, c2, sg1]
          exact sz _ (by omega)
        generalize cutS stem none (some (an : Int)) ++ sg ++ cutS stem (some (an : Int)) none = wd at wl wa ⊢
        have fin : ∀ wv : Str, isW wv = true → ∃ (ws2 : List Str) (x y z : Option V), [some (.ref d), some (.int n), some (.str letters), some (.str stem), some (.int an), some (.int front), some (.int step), some (.str tail), some (.ref l5), some (.int (0 + (j : Int))), some (.str sg), some (.str wd)] = [some (.ref d), some (.int n), some (.str letters), some (.str stem), some (.int an), some (.int front), some (.int step), some (.str tail), some (.ref l5), x, y, z] ∧ Same G4 (upd G' l5 (.lst (ws.map V.str ++ [V.str wv]))) ∧ upd G' l5 (.lst (ws.map V.str ++ [V.str wv])) l5 = some (.lst (ws2.map V.str)) ∧ ws2.length = j + 1 ∧ ∀ y ∈ ws2, isW y = true := by
          intro wv hwv
          refine ⟨ws ++ [wv], _, _, _, rfl, same_at sm h5, by rw [upd_same, List.map_append]; rfl, by simp [gw], fun y hy => ?_⟩
          rcases List.mem_append.mp hy with z1 | z1
          · exact ga5 y z1
          · have : y = wv := by simpa using z1
            rw [this]
            exact hwv
        refine ⟨_, rfl, .inl ⟨rfl, _, SqL.of gl5⟩, _, rfl, .inl ⟨_, rfl, _, _, rfl, rfl, (by simp), rfl, _, rfl, ?_⟩⟩
        refine ite2 (fun h7 => ?_) (fun h7 => ?_)
        · refine ⟨_, rfl, _, rfl, _, _, rfl, rfl, sz _ (by omega), l5, _, _, rfl, rfl, gl5, by rw [List.length_map]; exact small1000 (by omega), ?_⟩
          exact fin _ (isW_of (wa.app tl0) (by rw [len_app]; omega) (by rw [len_app]; omega))
        · refine ⟨_, rfl, l5, _, _, rfl, rfl, gl5, by rw [List.length_map]; exact small1000 (by omega), ?_⟩
          exact fin _ (isW_of wa (by omega) (by omega))
      · rintro σ G0 ⟨ws, x, y, z, rfl, sm, gl5, gw, ga5⟩
        refine ⟨_, rfl, k l5 ws G0 (by omega) ga5 ?_ gl5 ?_ ?_⟩
        · exact bAll.none_ hP5 h5
        · exact (hP5.same sm).mono (by omega)
        · exact bAll.trans (.of_same sm)
end
end Kb

namespace Kb
open PySem PySem.Spec PyProof.Rows L2 Mq
/-! ### names, items as plain data -/
/-- at t: three lists of three words -/
def NmAt (H : Hp) (t : Addr) : Prop := ∃ (a1 a2 a3 : Addr) (w1 w2 w3 : List Str), H t = some (.tup [.ref a1, .ref a2, .ref a3]) ∧ H a1 = some (.lst (w1.map V.str)) ∧ H a2 = some (.lst (w2.map V.str)) ∧ H a3 = some (.lst (w3.map V.str)) ∧ w1.length = 3 ∧ w2.length = 3 ∧ w3.length = 3 ∧
  (∀ z ∈ w1, isW z = true) ∧ (∀ z ∈ w2, isW z = true) ∧ ∀ z ∈ w3, isW z = true
/-- lists and tuples stay -/
def Kd (H G : Hp) : Prop := (∀ a xs, H a = some (.lst xs) → G a = some (.lst xs)) ∧ ∀ a xs, H a = some (.tup xs) → G a = some (.tup xs)
theorem Kd.of_same {H G : Hp} (s : Same H G) : Kd H G := ⟨fun _ _ e => s _ _ e, fun _ _ e => s _ _ e⟩
theorem Kd.of_but {H G : Hp} {d l : Addr} {c : Int} (p : PenAt H d l c) (b : But d H G) : Kd H G := by
  obtain ⟨kvs, hd⟩ := p.dk
  exact ⟨fun _ _ e => but_at b hd e (by intro z; cases z), fun _ _ e => but_at b hd e (by intro z; cases z)⟩
theorem NmAt.kd {H G : Hp} {t : Addr} (h : NmAt H t) (k : Kd H G) : NmAt G t := by
  obtain ⟨a1, a2, a3, w1, w2, w3, h0, h1, h2, h3, r⟩ := h
  exact ⟨a1, a2, a3, w1, w2, w3, k.2 _ _ h0, k.1 _ _ h1, k.1 _ _ h2, k.1 _ _ h3, r⟩
mutual
inductive DtAt (H : Hp) : V → It → Prop
  | say {a : Addr} {w : Str} (e : H a = some (.tup [.str "say", .str w])) (hw : isW w = true) : DtAt H (.ref a) (.say w)
  | press {a : Addr} {w : Str} (e : H a = some (.tup [.str "press", .str w])) (hw : isW w = true) : DtAt H (.ref a) (.press w)
  | go {a : Addr} {w : Str} (e : H a = some (.tup [.str "go", .str w])) (hw : isW w = true) : DtAt H (.ref a) (.go w)
  | times {a l : Addr} {n : Int} {vs : List V} {xs : List It} (e : H a = some (.tup [.str "times", .int n, .ref l])) (hl : H l = some (.lst vs)) (h : DtsAt H vs xs) (n0 : 0 ≤ n) (n1 : n ≤ 10 ^ 9) (h6 : xs.length ≤ 6) : DtAt H (.ref a) (.times n xs)
inductive DtsAt (H : Hp) : List V → List It → Prop
  | nil : DtsAt H [] []
  | cons {v : V} {i : It} {vs : List V} {xs : List It} (h : DtAt H v i) (r : DtsAt H vs xs) : DtsAt H (v :: vs) (i :: xs)
end
mutual
theorem DtAt.kd {H G : Hp} (k : Kd H G) : ∀ {v : V} {i : It}, DtAt H v i → DtAt G v i
  | _, _, .say e hw => .say (k.2 _ _ e) hw
  | _, _, .press e hw => .press (k.2 _ _ e) hw
  | _, _, .go e hw => .go (k.2 _ _ e) hw
  | _, _, .times e hl h n0 n1 h6 => .times (k.2 _ _ e) (k.1 _ _ hl) (h.kd k) n0 n1 h6
theorem DtsAt.kd {H G : Hp} (k : Kd H G) : ∀ {vs : List V} {xs : List It}, DtsAt H vs xs → DtsAt G vs xs
  | _, _, .nil => .nil
  | _, _, .cons h r => .cons (h.kd k) (r.kd k)
end
theorem DtsAt.snoc {H : Hp} : ∀ {vs : List V} {xs : List It}, DtsAt H vs xs → ∀ {v : V} {i : It}, DtAt H v i → DtsAt H (vs ++ [v]) (xs ++ [i])
  | _, _, .nil, _, _, h => .cons h .nil
  | _, _, .cons a r, _, _, h => .cons a (r.snoc h)
theorem DtsAt.length {H : Hp} : ∀ {vs : List V} {xs : List It}, DtsAt H vs xs → vs.length = xs.length
  | _, _, .nil => rfl
  | _, _, .cons _ r => congrArg (· + 1) r.length
theorem lvL_snoc : ∀ (xs : List It) (i : It), lvL (xs ++ [i]) = max (lvL xs) i.lv
  | [], i => by simp [lvL]
  | x :: r, i => by
    show max x.lv (lvL (r ++ [i])) = max (max x.lv (lvL r)) i.lv
    rw [lvL_snoc r i]
    omega
def spNames : Sp := fun vs H Q _ => ∃ (d lc : Addr) (c : Int), vs = [.ref d] ∧ PenAt H d lc c ∧ c ≤ 2 ^ 58 ∧ ∀ (t : Addr) (G : Hp), NmAt G t → PenAt G d lc (c + 12) → But d H G → Q (.ref t) G
section
variable {P : Program} {w : World} {K : PySem.W.Frag} {mg : Str → Option Value} {base : Heap}
theorem ok_names {f : Addr} {fd : FuncData} (F : FunD K "_law_names" "_law_names" (defArgs s__law_names) (defBody s__law_names) (defScope s__law_names) [] [] f fd) (W : Of P w K mg base 3 "_law_words" spWords) (C : Of P w K mg base 2 "_law_pick" (spPick K)) :
    FnOk P w K mg base (LX P w) 4 f fd ["_law_pen_here"] spNames := by
  refine F.ok sc__law_names (fun vs H Q E h => ?_) (fun cdv A outer s H vs Q E hr h => ?_)
  · obtain ⟨d, lc, c, rfl, _⟩ := h
    rfl
  · obtain ⟨d, lc, c, rfl, hP, hc, k⟩ := h
    have nd := sc__law_names.nd
    refine ⟨_, PSs.nox (pss_cons (ps_set (i := 1) nd rfl (Or.inl rfl) (pe_of (E := E0) W hr rfl passL (pa_cons (pv 0) (pa_cons pe_int pa_nil))))
      (pss_one (ps_ret (pe_tup (pa_cons (pe_slice sl_list (pv 1) po_none (po_some pe_int))
        (pa_cons (pe_of (E := E0) C hr rfl passL (pa_cons (pv 0) (pa_cons (pe_lst (pa_cons (pe_slice sl_list (pv 1) (po_some pe_int) (po_some pe_int)) (pa_cons (pe_slice sl_list (pv 1) (po_some pe_int) (po_some pe_int)) pa_nil))) pa_nil)))
        (pa_cons (pe_of (E := E0) C hr rfl passL (pa_cons (pv 0) (pa_cons (pe_lst (pa_cons (pe_slice sl_list (pv 1) (po_some pe_int) (po_some pe_int)) (pa_cons (pe_slice sl_list (pv 1) (po_some pe_int) (po_some pe_int)) pa_nil))) pa_nil))) pa_nil))))))), ?_⟩
    refine ⟨_, rfl, d, lc, c, 9, rfl, hP, by omega, by decide, by decide, fun l ws G hw ha hl gl hP1 hb1 => ?_⟩
    have hw9 : ws.length = 9 := hw
    have cut3 : ∀ (i : Nat), i + 3 ≤ 9 → ∃ us : List Str, cutV (ws.map V.str) (some (i : Int)) (some ((i + 3 : Nat) : Int)) = us.map V.str ∧ us.length = 3 ∧ ∀ z ∈ us, isW z = true := fun i hi => by
      refine ⟨(ws.drop i).take 3, ?_, by rw [List.length_take, List.length_drop]; omega, fun z hz => ha z (List.mem_of_mem_drop (List.mem_of_mem_take hz))⟩
      unfold cutV
      rw [HT.sIx_nat, HT.sIx_nat, List.length_map, hw9, Nat.min_eq_left (by omega), Nat.min_eq_left (by omega), ← List.map_drop, ← List.map_take]
      congr 2
      omega
    have cut0 : cutV (ws.map V.str) none (some 3) = cutV (ws.map V.str) (some ((0 : Nat) : Int)) (some ((0 + 3 : Nat) : Int)) := by
      unfold cutV
      rw [HT.sIx_none, HT.sIx_nat, HT.sIx_nat, Nat.zero_min]
      rfl
    obtain ⟨u0, e0, n0, a0⟩ := cut3 0 (by decide)
    obtain ⟨u3, e3, n3, a3⟩ := cut3 3 (by decide)
    obtain ⟨u1, e1, n1, a1⟩ := cut3 1 (by decide)
    obtain ⟨u6, e6, n6, a6⟩ := cut3 6 (by decide)
    obtain ⟨u4, e4, n4, a4⟩ := cut3 4 (by decide)
    rw [e0] at cut0
    refine ⟨_, rfl, _, rfl, l, _, rfl, SqL.of gl, fun p1 h1 => ?_⟩
    rw [cut0]
    have g1l := same_new (o := .lst (u0.map V.str)) h1 _ _ gl
    have hPa := hP1.new (o := .lst (u0.map V.str)) h1
    have ha0 : upd G p1 (.lst (u0.map V.str)) p1 = some (.lst (u0.map V.str)) := upd_same
    have hba : But d H (upd G p1 (.lst (u0.map V.str))) := hb1.trans (.of_same (same_new h1))
    generalize upd G p1 (.lst (u0.map V.str)) = Ga at g1l hPa ha0 hba ⊢
    refine ⟨_, rfl, _, rfl, _, rfl, _, rfl, l, _, rfl, SqL.of g1l, fun paA hpaA => ?_⟩
    rw [show cutV (ws.map V.str) (some 3) (some 6) = u3.map V.str from e3]
    have q1A := same_new (o := .lst (u3.map V.str)) hpaA _ _ g1l
    refine ⟨_, rfl, _, rfl, _, rfl, l, _, rfl, SqL.of q1A, fun pbA hpbA => ?_⟩
    rw [show cutV (ws.map V.str) (some 1) (some 4) = u1.map V.str from e1]
    refine ⟨sz 2 (by decide), fun plA hplA => ?_⟩
    have sAA : Same Ga (upd (upd (upd Ga paA (.lst (u3.map V.str))) pbA (.lst (u1.map V.str))) plA (.lst [.ref paA, .ref pbA])) := ((same_new hpaA).trans (same_new hpbA)).trans (same_new hplA)
    have w1A : upd (upd (upd Ga paA (.lst (u3.map V.str))) pbA (.lst (u1.map V.str))) plA (.lst [.ref paA, .ref pbA]) paA = some (.lst (u3.map V.str)) := same_new hplA _ _ (same_new hpbA _ _ upd_same)
    have w2A : upd (upd (upd Ga paA (.lst (u3.map V.str))) pbA (.lst (u1.map V.str))) plA (.lst [.ref paA, .ref pbA]) pbA = some (.lst (u1.map V.str)) := same_new hplA _ _ upd_same
    have w3A : upd (upd (upd Ga paA (.lst (u3.map V.str))) pbA (.lst (u1.map V.str))) plA (.lst [.ref paA, .ref pbA]) plA = some (.lst [.ref paA, .ref pbA]) := upd_same
    have hPA := hPa.same sAA
    generalize upd (upd (upd Ga paA (.lst (u3.map V.str))) pbA (.lst (u1.map V.str))) plA (.lst [.ref paA, .ref pbA]) = JA at sAA w1A w2A w3A hPA ⊢
    refine ⟨d, lc, .ref plA, _, _, rfl, hPA, by omega, .lst (SqL.of w3A), (by simp), (by simp), fun vA GA hvA hQA hBA => ?_⟩
    have hbA : But d H GA := (hba.trans (.of_same sAA)).trans hBA
    obtain ⟨xA, usA, rfl, xeA, xnA, xaA⟩ : ∃ (x : Addr) (us : List Str), vA = .ref x ∧ GA x = some (.lst (us.map V.str)) ∧ us.length = 3 ∧ ∀ z ∈ us, isW z = true := by
      simp only [List.mem_cons, List.not_mem_nil, or_false] at hvA
      rcases hvA with rfl | rfl
      · exact ⟨_, u3, rfl, lst_but hBA hPA w1A, n3, a3⟩
      · exact ⟨_, u1, rfl, lst_but hBA hPA w2A, n1, a1⟩
    have klA := lst_but hBA hPA (sAA _ _ g1l)
    have k0A := lst_but hBA hPA (sAA _ _ ha0)
    refine ⟨_, rfl, _, rfl, _, rfl, _, rfl, l, _, rfl, SqL.of klA, fun paB hpaB => ?_⟩
    rw [show cutV (ws.map V.str) (some 6) (some 9) = u6.map V.str from e6]
    have q1B := same_new (o := .lst (u6.map V.str)) hpaB _ _ klA
    refine ⟨_, rfl, _, rfl, _, rfl, l, _, rfl, SqL.of q1B, fun pbB hpbB => ?_⟩
    rw [show cutV (ws.map V.str) (some 4) (some 7) = u4.map V.str from e4]
    refine ⟨sz 2 (by decide), fun plB hplB => ?_⟩
    have sAB : Same GA (upd (upd (upd GA paB (.lst (u6.map V.str))) pbB (.lst (u4.map V.str))) plB (.lst [.ref paB, .ref pbB])) := ((same_new hpaB).trans (same_new hpbB)).trans (same_new hplB)
    have w1B : upd (upd (upd GA paB (.lst (u6.map V.str))) pbB (.lst (u4.map V.str))) plB (.lst [.ref paB, .ref pbB]) paB = some (.lst (u6.map V.str)) := same_new hplB _ _ (same_new hpbB _ _ upd_same)
    have w2B : upd (upd (upd GA paB (.lst (u6.map V.str))) pbB (.lst (u4.map V.str))) plB (.lst [.ref paB, .ref pbB]) pbB = some (.lst (u4.map V.str)) := same_new hplB _ _ upd_same
    have w3B : upd (upd (upd GA paB (.lst (u6.map V.str))) pbB (.lst (u4.map V.str))) plB (.lst [.ref paB, .ref pbB]) plB = some (.lst [.ref paB, .ref pbB]) := upd_same
    have hPB := hQA.same sAB
    generalize upd (upd (upd GA paB (.lst (u6.map V.str))) pbB (.lst (u4.map V.str))) plB (.lst [.ref paB, .ref pbB]) = JB at sAB w1B w2B w3B hPB ⊢
    refine ⟨d, lc, .ref plB, _, _, rfl, hPB, by omega, .lst (SqL.of w3B), (by simp), (by simp), fun vB GB hvB hQB hBB => ?_⟩
    have hbB : But d H GB := (hbA.trans (.of_same sAB)).trans hBB
    obtain ⟨xB, usB, rfl, xeB, xnB, xaB⟩ : ∃ (x : Addr) (us : List Str), vB = .ref x ∧ GB x = some (.lst (us.map V.str)) ∧ us.length = 3 ∧ ∀ z ∈ us, isW z = true := by
      simp only [List.mem_cons, List.not_mem_nil, or_false] at hvB
      rcases hvB with rfl | rfl
      · exact ⟨_, u6, rfl, lst_but hBB hPB w1B, n6, a6⟩
      · exact ⟨_, u4, rfl, lst_but hBB hPB w2B, n4, a4⟩
    have k0B := lst_but hBB hPB (sAB _ _ k0A)
    have k1B := lst_but hBB hPB (sAB _ _ xeA)
    refine ⟨sz 3 (by decide), fun t ht => ?_⟩
    have sT := same_new (o := .tup [.ref p1, .ref xA, .ref xB]) ht
    exact k t _ ⟨p1, xA, xB, u0, usA, usB, upd_same, sT _ _ k0B, sT _ _ k1B, sT _ _ xeB, n0, xnA, xnB, a0, xaA, xaB⟩ ((hQB.same sT).mono (by omega)) (hbB.trans (.of_same sT))
end
end Kb

namespace Kb
open PySem PySem.Spec PyProof.Rows L2 Mq
/-! ### drawn items -/
/-- of G what H did not know -/
def newp (H G : Hp) : Hp := fun b => match H b with
  | none => G b
  | some _ => none
theorem newp_at {H G : Hp} {b : Addr} {o : HO} (h : H b = none) (e : G b = some o) : newp H G b = some o := by
  unfold newp
  rw [h]
  exact e
theorem of_newp {H G : Hp} {b : Addr} {o : HO} (e : newp H G b = some o) : H b = none ∧ G b = some o := by
  unfold newp at e
  cases h : H b with
  | none =>
    rw [h] at e
    exact ⟨rfl, e⟩
  | some u =>
    rw [h] at e
    cases e
theorem Kd.newp {H G H' G' : Hp} (h : ∀ b, H b = none → (∃ o, G b = some o) → H' b = none) (k : ∀ b o, H b = none → G b = some o → (∃ xs, o = .lst xs ∨ o = .tup xs) → G' b = some o) : Kd (newp H G) (newp H' G') :=
  ⟨fun _ xs e => let ⟨a, b⟩ := of_newp e; newp_at (h _ a ⟨_, b⟩) (k _ _ a b ⟨xs, .inl rfl⟩), fun _ xs e => let ⟨a, b⟩ := of_newp e; newp_at (h _ a ⟨_, b⟩) (k _ _ a b ⟨xs, .inr rfl⟩)⟩
theorem Kd.of_newp {H G : Hp} : Kd (Kb.newp H G) G := ⟨fun _ _ e => (Kb.of_newp e).2, fun _ _ e => (Kb.of_newp e).2⟩
def cst : Nat → Int
  | 0 => 2
  | D + 1 => 4 + 3 * cst D
theorem cst_pos (D : Nat) : 2 ≤ cst D ∧ cst D ≤ cst D := by
  refine ⟨?_, Int.le_refl _⟩
  induction D with
  | zero => decide
  | succ D ih => simp only [cst]; omega
def spItem (D : Nat) : Sp := fun vs H Q _ => ∃ (d lc t : Addr) (c : Int), vs = [.ref d, .ref t, .int D] ∧ PenAt H d lc c ∧ c ≤ 2 ^ 50 + (10 - D) * 1000 ∧ NmAt H t ∧ ∀ (v : V) (i : It) (G : Hp), DtAt (newp H G) v i → i.lv ≤ D → PenAt G d lc (c + cst D) → But d H G → Q v G
def spItems (D : Nat) : Sp := fun vs H Q _ => ∃ (d lc t : Addr) (c m : Int), vs = [.ref d, .ref t, .int D, .int m] ∧ PenAt H d lc c ∧ c ≤ 2 ^ 50 + (10 - D) * 1000 - 500 ∧ NmAt H t ∧ 0 ≤ m ∧ m ≤ 10 ∧ D ≤ 2 ∧ ∀ (l : Addr) (us : List V) (xs : List It) (G : Hp), H l = none → G l = some (.lst us) → DtsAt (newp (upd H l (.lst [])) G) us xs → (xs.length : Int) ≤ m → lvL xs ≤ D → PenAt G d lc (c + 1 + m * cst D) → But d H G → Q (.ref l) G
/-- what items are asked at one level less (at level 0 nothing is) -/
def spLess : Nat → Sp
  | 0 => fun _ _ _ _ => False
  | D + 1 => spItems D
section
variable {P : Program} {w : World} {K : PySem.W.Frag} {mg : Str → Option Value} {base : Heap}
theorem ok_item {f : Addr} {fd : FuncData} {j : Nat} (D : Nat) (hD : D ≤ 2) (hj : 2 ≤ j) (F : FunD K "_law_item" "_law_item" (defArgs s__law_item) (defBody s__law_item) (defScope s__law_item) [] [] f fd) (Dr : Of P w K mg base 1 "_law_draw" spDraw) (C : Of P w K mg base 2 "_law_pick" (spPick K))
    (L : Of P w K mg base j "_law_items" (spLess D)) : FnOk P w K mg base (LX P w) (j + 1) f fd ["_law_pen_here", "_law_names_here", "_law_deep"] (spItem D) := by
  refine F.ok sc__law_item (fun vs H Q E h => ?_) (fun cdv A outer s H vs Q E hr h => ?_)
  · obtain ⟨d, lc, t, c, rfl, _⟩ := h
    rfl
  · obtain ⟨d, lc, t, c, rfl, hP, hc, hN, k⟩ := h
    have nd := sc__law_item.nd
    have hr1 : Room 2 _ := hr.mono hj
    refine ⟨_, PSs.nox (pss_cons (ps_set (i := 3) nd rfl (Or.inl rfl) (pe_of (E := E0) Dr hr1 rfl passL (pa_cons (pv 0) (pa_cons (pe_ifExp (pt_cmpR op_gt (pv 2) pe_int (nomark _)) pe_int pe_int) pa_nil))))
      (pss_cons (ps_if (pt_cmpR op_lt (pv 3) pe_int (nomark _)) (pss_one (ps_ret (pe_tup (pa_cons pe_str (pa_cons (pe_of (E := E0) C hr1 rfl passL (pa_cons (pv 0) (pa_cons (pe_ix ix_tup (pv 1) pe_int (fun _ _ => rfl)) pa_nil))) pa_nil))))) pss_nil)
      (pss_cons (ps_if (pt_cmpR op_lt (pv 3) pe_int (nomark _)) (pss_one (ps_ret (pe_tup (pa_cons pe_str (pa_cons (pe_of (E := E0) C hr1 rfl passL (pa_cons (pv 0) (pa_cons (pe_ix ix_tup (pv 1) pe_int (fun _ _ => rfl)) pa_nil))) pa_nil))))) pss_nil)
      (pss_cons (ps_if (pt_cmpR op_eq (pv 3) pe_int (nomark _)) (pss_one (ps_ret (pe_tup (pa_cons pe_str (pa_cons (pe_of (E := E0) C hr1 rfl passL (pa_cons (pv 0) (pa_cons (pe_ix ix_tup (pv 1) pe_int (fun _ _ => rfl)) pa_nil))) pa_nil))))) pss_nil)
      (pss_cons (ps_set (i := 4) nd rfl (Or.inl rfl) (pe_of (E := E0) C hr1 rfl passL (pa_cons (pv 0) (pa_cons (pe_lst (pa_cons pe_int (pa_cons pe_int (pa_cons pe_int (pa_cons pe_int (pa_cons pe_int (pa_cons (pe_op op_pow pe_int pe_int) (pa_cons (pe_of (E := E0) Dr hr1 rfl passL (pa_cons (pv 0) (pa_cons pe_int pa_nil))) pa_nil)))))))) pa_nil))))
      (pss_one (ps_ret (pe_tup (pa_cons pe_str (pa_cons (pv 4) (pa_cons (pe_of (E := E0) L hr rfl passL (pa_cons (pv 0) (pa_cons (pv 1) (pa_cons (pe_op op_sub (pv 2) pe_int) (pa_cons pe_int pa_nil)))) (Nat.le_refl _)) pa_nil))))))))))), ?_⟩
    obtain ⟨a1, a2, a3, w1, w2, w3, h0, h1, h2, h3, l1, l2, l3, k1, k2, k3⟩ := id hN
    have hcp := (cst_pos D).1
    -- the lot
    refine ⟨_, rfl, _, rfl, _, _, rfl, rfl, _, rfl, ?_⟩
    have z0 : D = 0 ∨ 0 < D := Nat.eq_zero_or_pos D
    rcases z0 with z0 | z0
    refine ifF (decide_eq_false (by omega)) ⟨d, lc, c, 6, rfl, hP, by omega, by decide, by decide, fun lot G g0 g1 hP1 hb1 => ?_⟩
    rotate_left
    refine ifT (decide_eq_true (by omega)) ⟨d, lc, c, 8, rfl, hP, by omega, by decide, by decide, fun lot G g0 g1 hP1 hb1 => ?_⟩
    all_goals
      have hlot : lot < 8 ∧ (D = 0 → lot < 6) := ⟨by omega, fun _ => by omega⟩
      clear g1
      have K1 : Kd H G := .of_but hP hb1
      refine ⟨_, rfl, _, _, rfl, rfl, _, rfl, ?_⟩
      refine ite2 (fun e1 => ?_) (fun e1 => ?_)
      · refine ⟨_, rfl, _, rfl, t, _, _, .ref a1, rfl, rfl, SqT.of (K1.2 _ _ h0), (by rfl), d, lc, .ref a1, _, _, rfl, hP1, by omega, .lst (SqL.of (K1.1 _ _ h1)), (by rw [List.length_map]; omega), (by rw [List.length_map]; omega), fun v G2 hv hP2 hb2 => ?_⟩
        obtain ⟨z, hz, rfl⟩ := List.mem_map.mp hv
        refine ⟨sz 2 (by decide), fun r hr0 => ?_⟩
        exact k _ (.say z) _ (.say (newp_at ((hb1.trans hb2).none_ hP2 hr0) upd_same) (k1 z hz)) (by simp [It.lv]) ((hP2.new hr0).mono (by omega)) ((hb1.trans hb2).trans (.of_same (same_new hr0)))
      refine ⟨_, rfl, _, _, rfl, rfl, _, rfl, ?_⟩
      refine ite2 (fun e2 => ?_) (fun e2 => ?_)
      · refine ⟨_, rfl, _, rfl, t, _, _, .ref a2, rfl, rfl, SqT.of (K1.2 _ _ h0), (by rfl), d, lc, .ref a2, _, _, rfl, hP1, by omega, .lst (SqL.of (K1.1 _ _ h2)), (by rw [List.length_map]; omega), (by rw [List.length_map]; omega), fun v G2 hv hP2 hb2 => ?_⟩
        obtain ⟨z, hz, rfl⟩ := List.mem_map.mp hv
        refine ⟨sz 2 (by decide), fun r hr0 => ?_⟩
        exact k _ (.press z) _ (.press (newp_at ((hb1.trans hb2).none_ hP2 hr0) upd_same) (k2 z hz)) (by simp [It.lv]) ((hP2.new hr0).mono (by omega)) ((hb1.trans hb2).trans (.of_same (same_new hr0)))
      refine ⟨_, rfl, rfl, _, rfl, ?_⟩
      refine ite2 (fun e3 => ?_) (fun e3 => ?_)
      · refine ⟨_, rfl, _, rfl, t, _, _, .ref a3, rfl, rfl, SqT.of (K1.2 _ _ h0), (by rfl), d, lc, .ref a3, _, _, rfl, hP1, by omega, .lst (SqL.of (K1.1 _ _ h3)), (by rw [List.length_map]; omega), (by rw [List.length_map]; omega), fun v G2 hv hP2 hb2 => ?_⟩
        obtain ⟨z, hz, rfl⟩ := List.mem_map.mp hv
        refine ⟨sz 2 (by decide), fun r hr0 => ?_⟩
        exact k _ (.go z) _ (.go (newp_at ((hb1.trans hb2).none_ hP2 hr0) upd_same) (k3 z hz)) (by simp [It.lv]) ((hP2.new hr0).mono (by omega)) ((hb1.trans hb2).trans (.of_same (same_new hr0)))
      have e1' : ¬ lot < 3 := by simpa using e1
      have e2' : ¬ lot < 5 := by simpa using e2
      have e3' : ¬ lot = 5 := by
        intro z
        subst z
        exact absurd e3 (by simp)
      obtain ⟨D0, rfl⟩ : ∃ D0, D = D0 + 1 := ⟨D - 1, by
        have := hlot.2
        omega⟩
      refine ⟨_, rfl, _, _, rfl, rfl, ⟨by decide, by decide, by decide⟩, _, rfl, d, lc, _, 1000, rfl, hP1, by omega, by decide, by decide, fun dr G3 d0 d1 hP3 hb3 => ?_⟩
      refine ⟨sz 7 (by decide), fun l7 h7 => ⟨d, lc, .ref l7, _, _, rfl, hP3.new h7, by omega, .lst (SqL.of upd_same), (by simp), (by simp), fun nv G4 hnv hP4 hb4 => ?_⟩⟩
      obtain ⟨n, rfl, n0, n1⟩ : ∃ n : Int, nv = .int n ∧ 0 ≤ n ∧ n ≤ 10 ^ 9 := by
        simp only [List.mem_cons, List.not_mem_nil, or_false] at hnv
        rcases hnv with rfl | rfl | rfl | rfl | rfl | rfl | rfl
        · exact ⟨_, rfl, by decide, by decide⟩
        · exact ⟨_, rfl, by decide, by decide⟩
        · exact ⟨_, rfl, by decide, by decide⟩
        · exact ⟨_, rfl, by decide, by decide⟩
        · exact ⟨_, rfl, by decide, by decide⟩
        · exact ⟨_, rfl, by decide, by decide⟩
        · exact ⟨dr, rfl, by omega, by omega⟩
      have b4 : But d H G4 := ((hb1.trans hb3).trans (.of_same (same_new h7))).trans hb4
      have ed : ((D0 + 1 : Nat) : Int) - 1 = (D0 : Int) := by omega
      refine ⟨_, rfl, _, rfl, _, rfl, _, rfl, _, _, rfl, rfl, ?_⟩
      refine ⟨d, lc, t, _, 3, (by show [V.ref d, V.ref t, V.int (((D0 + 1 : Nat) : Int) - 1), V.int 3] = _; rw [ed]), hP4, by omega, hN.kd (.of_but hP b4), by decide, by decide, by omega, fun l us xs G5 hl0 hl1 hds hxl hlv hP5 hb5 => ?_⟩
      refine ⟨sz 3 (by decide), fun r hr0 => ?_⟩
      have hn5 := fun b (h : G4 b = none) => b4.none_ hP4 h
      refine k _ (.times n xs) _ (.times (newp_at ((b4.trans hb5).none_ hP5 hr0) upd_same) (newp_at (hn5 _ hl0) (same_new hr0 _ _ hl1)) (hds.kd (.newp (fun b h _ => hn5 b (upd_none h).2) fun b o _ h _ => same_new hr0 _ _ h)) n0 n1 (by omega)) (by simp only [It.lv]; omega) ((hP5.new hr0).mono ?_) ((b4.trans hb5).trans (.of_same (same_new hr0)))
      have : cst (D0 + 1) = 4 + 3 * cst D0 := rfl
      omega
theorem ok_items {f : Addr} {fd : FuncData} {j : Nat} (D : Nat) (hD : D ≤ 2) (hj : 1 ≤ j) (F : FunD K "_law_items" "_law_items" (defArgs s__law_items) (defBody s__law_items) (defScope s__law_items) [] [] f fd) (T : Bt mg) (Dr : Of P w K mg base 1 "_law_draw" spDraw)
    (L : Of P w K mg base j "_law_item" (spItem D)) : FnOk P w K mg base (LX P w) (j + 1) f fd ["_law_pen_here", "_law_names_here", "_law_deep", "_law_topmost"] (spItems D) := by
  refine F.ok sc__law_items (fun vs H Q E h => ?_) (fun cdv A outer s H vs Q E hr h => ?_)
  · obtain ⟨d, lc, t, c, m, rfl, _⟩ := h
    rfl
  · obtain ⟨d, lc, t, c, m, rfl, hP, hc, hN, m0, m1, _, k⟩ := h
    have nd := sc__law_items.nd
    have hr1 : Room 1 _ := hr.mono hj
    refine ⟨_, PSs.nox (pss_one (ps_ret (pe_lc (own := [("_law_k", 4)]) (g := gName 4) (tt := tYes) (by rfl) nd (pi_range1 rfl T.range (pa_cons (pe_of (E := E0) Dr hr1 rfl passL (pa_cons (pv 0) (pa_cons (pe_op op_add (pv 3) pe_int) pa_nil))) pa_nil))
        (blkOk_by (own := [("_law_k", 4)]) (N := ["_law_pen_here", "_law_names_here", "_law_deep", "_law_topmost", "_law_k"]) (sc := defScope s__law_items) (by decide +kernel))
        (fun _ _ _ _ _ => pg_name (i := 4) nd rfl (Or.inl rfl)) (fun _ _ _ _ _ => pts_nil) (fun _ _ _ _ _ => pe_of (E := E0) L hr rfl passL (pa_cons (pv 0) (pa_cons (pv 1) (pa_cons (pv 2) pa_nil))) (Nat.le_refl _))))), ?_⟩
    have hcp := (cst_pos D).1
    have hcl : cst D ≤ 34 := by
      rcases (show D = 0 ∨ D = 1 ∨ D = 2 by omega) with rfl | rfl | rfl <;> decide
    refine ⟨_, rfl, _, rfl, _, _, rfl, rfl, d, lc, c, _, rfl, hP, by omega, by omega, by omega, fun n G n0 n1 hP1 hb1 => ?_⟩
    obtain ⟨q, rfl⟩ : ∃ q : Nat, n = (q : Int) := ⟨n.toNat, by omega⟩
    refine ⟨q, rfl, by omega, by omega, fun l hl => lc_it walk_range (fun i G2 => ∃ (us : List V) (xs : List It), PenAt G2 d lc (c + 1 + i * cst D) ∧ But d H G2 ∧ G2 l = some (.lst us) ∧ DtsAt (newp (upd H l (.lst [])) G2) us xs ∧ xs.length = i ∧ lvL xs ≤ D)
      ⟨[], [], (hP1.new hl).mono (by omega), hb1.trans (.of_same (same_new hl)), upd_same, .nil, rfl, Nat.zero_le _⟩ (fun _ _ _ _ => trivial) ?_ ?_⟩
    · rintro i x G2 G3 hi ⟨us, xs, gP, gb, gl, gd, gn, gv⟩ ⟨rfl, rfl⟩
      have hi10 : i ≤ 10 := by omega
      have hi34 : (i : Int) * cst D ≤ 340 := by
        have h1 : (i : Int) * cst D ≤ (i : Int) * 34 := Int.mul_le_mul_of_nonneg_left hcl (by omega)
        omega
      refine ⟨rfl, ?_⟩
      refine ⟨_, rfl, _, rfl, _, rfl, d, lc, t, _, rfl, gP, by omega, hN.kd (.of_but hP gb), fun v it G4 hv hlv hP4 hb4 => ?_⟩
      have K4 : Kd G3 G4 := .of_but gP hb4
      have nl := pen_ne hP1 hl
      have hl0 : H l = none := hb1.none_ hP1 hl
      have gl4 := K4.1 _ _ gl
      have hul : us.length = xs.length := gd.length
      refine ⟨us, gl4, small1000 (by omega), us ++ [v], xs ++ [it], ?_, But.at_ hb1 hl (gb.trans hb4), upd_same, DtsAt.snoc (gd.kd (.newp (fun b h _ => h) fun b o h e z => ?_)) (hv.kd (.newp (fun b h _ => ?_) fun b o h e z => ?_)), by simp [gn], by rw [lvL_snoc]; omega⟩
      · refine (hP4.upd nl.1 nl.2).mono ?_
        have : ((i + 1 : Nat) : Int) * cst D = i * cst D + cst D := by
          rw [Int.natCast_add, Int.add_mul]
          simp
        omega
      · rw [upd_ne (upd_none h).1]
        obtain ⟨xs, rfl | rfl⟩ := z
        · exact K4.1 _ _ e
        · exact K4.2 _ _ e
      · have nb : b ≠ l := Ne.symm (ne_of_none gl h)
        rw [upd_ne nb]
        exact gb.none_ gP h
      · rw [upd_ne (Ne.symm (ne_of_none gl h))]
        exact e
    · rintro G2 ⟨us, xs, gP, gb, gl, gd, gn, gv⟩
      have eq : ((q : Int)).toNat = q := Int.toNat_natCast q
      rw [eq] at gP gn
      refine k l us xs G2 (hb1.none_ hP1 hl) gl gd (by omega) gv (gP.mono ?_) gb
      have : (q : Int) * cst D ≤ m * cst D := Int.mul_le_mul_of_nonneg_right (by omega) (by omega)
      omega
/-! ### all levels -/
theorem of_less {j : Nat} {f : Addr} (hm : mg "_law_items" = some (.ref f)) (kp : PySem.W.keepIn K (.ref f) = true) : Of P w K mg base j "_law_items" (spLess 0) := ⟨f, hm, kp, fun _ _ _ _ _ _ _ _ _ _ _ h => h.elim⟩
end
end Kb

namespace Kb
open PySem PySem.Spec PyProof.Rows L2 Mq
/-! ### items made of plain data -/
def spMade (K : PySem.W.Frag) (D : Nat) : Sp := fun vs H Q _ => ∃ (v : V) (i : It), vs = [v] ∧ DtAt H v i ∧ i.lv ≤ D ∧ D ≤ 2 ∧ ∀ (r : V) (G : Hp), Same H G → ItAt K G r i → Q r G
def spMadeL (K : PySem.W.Frag) : Nat → Sp
  | 0 => fun _ _ _ _ => False
  | D + 1 => spMade K D
theorem mono_ixT {K : PySem.W.Frag} {a b : TE} (ma : Mono a) (mb : Mono b) : Mono (tOp (rIxT K) a b) := fun σ H Q R h q => ma σ H _ _ (fun x G z => mb σ G _ _ (fun y G2 ⟨p, xs, i, v, h1, h2, h3, h4, h5⟩ => ⟨p, xs, i, v, h1, h2, h3, h4, h _ _ h5⟩) z) q
theorem DtsAt.get {H : Hp} : ∀ {vs : List V} {xs : List It}, DtsAt H vs xs → ∀ {i : Nat} {v : V}, vs[i]? = some v → ∃ x, xs[i]? = some x ∧ DtAt H v x
  | _, _, .nil, i, v, e => by simp at e
  | _, _, .cons h r, 0, v, e => ⟨_, rfl, by cases e; exact h⟩
  | _, _, .cons h r, i + 1, v, e => by
    obtain ⟨x, h1, h2⟩ := r.get (i := i) (by simpa using e)
    exact ⟨x, by simpa using h1, h2⟩
theorem ItsAt.snoc {K : PySem.W.Frag} {H : Hp} : ∀ {vs : List V} {xs : List It}, ItsAt K H vs xs → ∀ {v : V} {i : It}, ItAt K H v i → ItsAt K H (vs ++ [v]) (xs ++ [i])
  | _, _, .nil, _, _, h => .cons h .nil
  | _, _, .cons a r, _, _, h => .cons a (r.snoc h)
theorem lv_mem : ∀ {xs : List It} {i : It}, i ∈ xs → i.lv ≤ lvL xs
  | x :: r, i, h => by
    simp only [lvL]
    rcases List.mem_cons.mp h with rfl | h
    · omega
    · have := lv_mem h
      omega
section
variable {P : Program} {w : World} {K : PySem.W.Frag} {mg : Str → Option Value} {base : Heap}
theorem ok_made {f : Addr} {fd : FuncData} {j : Nat} (D : Nat) (hD : D ≤ 2) (hj : 8 ≤ j) (F : FunD K "_law_made" "_law_made" (defArgs s__law_made) (defBody s__law_made) (defScope s__law_made) [] [] f fd) (T : Tc P K mg)
    (FS : FnR P w K mg base (LX P w) 2 (He.ma K (cS K) "__init__") (spOne K (cS K) "command")) (FP : FnR P w K mg base (LX P w) 2 (He.ma K (cP K) "__init__") (spOne K (cP K) "key")) (FG : FnR P w K mg base (LX P w) 2 (He.ma K (cG K) "__init__") (spOne K (cG K) "mode"))
    (FT : FnR P w K mg base (LX P w) 8 (He5.wf K (cT K) "classmethod" "of") (spTimesOf K)) (L : Of P w K mg base j "_law_made" (spMadeL K D)) : FnOk P w K mg base (LX P w) (j + 1) f fd ["_law_one"] (spMade K D) := by
  refine F.ok sc__law_made (fun vs H Q E h => ?_) (fun cdv A outer s H vs Q E hr h => ?_)
  · obtain ⟨v, i, rfl, _⟩ := h
    rfl
  · obtain ⟨v, i, rfl, hv, hlv, _, k⟩ := h
    have nd := sc__law_made.nd
    have hr3 : Room 3 _ := hr.mono (by omega)
    refine ⟨_, PSs.nox (pss_cons (ps_if (pt_cmpR op_eq (pe_ix ix_tup (pv 0) pe_int (fun _ _ => rfl)) pe_str (nomark _)) (pss_one (ps_ret (pe_mkOne (E := E0) (pe_glob (v := .ref (cS K)) rfl (T.g "Say" (by decide)) rfl) mono_c (mono_cons (mono_ixT mono_v mono_c) mono_nil) (T.mkr "Say" (by decide)) FS hr3 passL (pa_cons (pe_ix ix_tup (pv 0) pe_int (fun _ _ => rfl)) pa_nil)))) pss_nil)
      (pss_cons (ps_if (pt_cmpR op_eq (pe_ix ix_tup (pv 0) pe_int (fun _ _ => rfl)) pe_str (nomark _)) (pss_one (ps_ret (pe_mkOne (E := E0) (pe_glob (v := .ref (cP K)) rfl (T.g "Press" (by decide)) rfl) mono_c (mono_cons (mono_ixT mono_v mono_c) mono_nil) (T.mkr "Press" (by decide)) FP hr3 passL (pa_cons (pe_ix ix_tup (pv 0) pe_int (fun _ _ => rfl)) pa_nil)))) pss_nil)
      (pss_cons (ps_if (pt_cmpR op_eq (pe_ix ix_tup (pv 0) pe_int (fun _ _ => rfl)) pe_str (nomark _)) (pss_one (ps_ret (pe_mkOne (E := E0) (pe_glob (v := .ref (cG K)) rfl (T.g "Go" (by decide)) rfl) mono_c (mono_cons (mono_ixT mono_v mono_c) mono_nil) (T.mkr "Go" (by decide)) FG hr3 passL (pa_cons (pe_ix ix_tup (pv 0) pe_int (fun _ _ => rfl)) pa_nil)))) pss_nil)
      (pss_one (ps_ret (ClX.pe_cmeth (E := E0) (pe_glob (v := .ref (cT K)) rfl (T.g "Times" (by decide)) rfl) T.ofT.1 T.ofT.2 FT (hr.mono hj) passL (pa_cons (pe_ix ix_tup (pv 0) pe_int (fun _ _ => rfl)) (pa_cons
        (pe_lc (own := [("_law_inner", 1)]) (g := gName 1) (tt := tYes) (by rfl) nd (pi_list (pe_ix ix_tup (pv 0) pe_int (fun _ _ => rfl))) (blkOk_by (own := [("_law_inner", 1)]) (N := ["_law_one", "_law_inner"]) (sc := defScope s__law_made) (by decide +kernel))
          (fun _ _ _ _ _ => pg_name (i := 1) nd rfl (Or.inl rfl)) (fun _ _ _ _ _ => pts_nil) (fun _ _ _ _ _ => pe_of (E := E0) L hr rfl passL (pa_cons (pv 1) pa_nil) (Nat.le_refl _))) pa_nil)))))))), ?_⟩
    have wl : ∀ z : Str, isW z = true → z.length ≤ 1000 := fun z hz => by
      have h := of_decide_eq_true (Bool.and_eq_true_iff.mp hz).1
      omega
    have dn : ∀ x y : Str, x ≠ y → decide (V.str x = V.str y) = false := fun x y h => decide_eq_false fun e => h (V.str.inj e)
    cases hv with
    | say e hw =>
      refine ⟨_, rfl, _, _, _, .str "say", rfl, rfl, SqT.of e, (by rfl), rfl, _, rfl, ?_⟩
      refine ifT (by decide +kernel) ⟨rfl, _, rfl, _, _, _, .str _, rfl, rfl, SqT.of e, (by rfl), _, rfl, .str (wl _ hw), fun _ a dx G sm _ ga => k _ G sm (.say ga), fun z => absurd (hw.symm.trans z) (by decide)⟩
    | press e hw =>
      refine ⟨_, rfl, _, _, _, .str "press", rfl, rfl, SqT.of e, (by rfl), rfl, _, rfl, ?_⟩
      refine ifF (dn _ _ (by decide +kernel)) ?_
      refine ⟨_, rfl, _, _, _, .str "press", rfl, rfl, SqT.of e, (by rfl), rfl, _, rfl, ?_⟩
      refine ifT (by decide +kernel) ⟨rfl, _, rfl, _, _, _, .str _, rfl, rfl, SqT.of e, (by rfl), _, rfl, .str (wl _ hw), fun _ a dx G sm _ ga => k _ G sm (.press ga), fun z => absurd (hw.symm.trans z) (by decide)⟩
    | go e hw =>
      refine ⟨_, rfl, _, _, _, .str "go", rfl, rfl, SqT.of e, (by rfl), rfl, _, rfl, ?_⟩
      refine ifF (dn _ _ (by decide +kernel)) ?_
      refine ⟨_, rfl, _, _, _, .str "go", rfl, rfl, SqT.of e, (by rfl), rfl, _, rfl, ?_⟩
      refine ifF (dn _ _ (by decide +kernel)) ?_
      refine ⟨_, rfl, _, _, _, .str "go", rfl, rfl, SqT.of e, (by rfl), rfl, _, rfl, ?_⟩
      refine ifT (by decide +kernel) ⟨rfl, _, rfl, _, _, _, .str _, rfl, rfl, SqT.of e, (by rfl), _, rfl, .str (wl _ hw), fun _ a dx G sm _ ga => k _ G sm (.go ga), fun z => absurd (hw.symm.trans z) (by decide)⟩
    | times e hl hd n0 n1 h6 =>
      rename_i a l n vs xs
      have hd6 := hd.length
      simp only [It.lv] at hlv
      obtain ⟨D0, rfl⟩ : ∃ D0, D = D0 + 1 := ⟨D - 1, by omega⟩
      refine ⟨_, rfl, _, _, _, .str "times", rfl, rfl, SqT.of e, (by rfl), rfl, _, rfl, ?_⟩
      refine ifF (dn _ _ (by decide +kernel)) ?_
      refine ⟨_, rfl, _, _, _, .str "times", rfl, rfl, SqT.of e, (by rfl), rfl, _, rfl, ?_⟩
      refine ifF (dn _ _ (by decide +kernel)) ?_
      refine ⟨_, rfl, _, _, _, .str "times", rfl, rfl, SqT.of e, (by rfl), rfl, _, rfl, ?_⟩
      refine ifF (dn _ _ (by decide +kernel)) ?_
      refine ⟨rfl, _, rfl, _, _, _, .int n, rfl, rfl, SqT.of e, (by rfl), ?_⟩
      refine ⟨_, rfl, _, _, _, .ref l, rfl, rfl, SqT.of e, (by rfl), l, rfl, ⟨_, SqL.of hl⟩, fun m hm => lc_it walk_list (fun i G => ∃ us, Same H G ∧ G m = some (.lst us) ∧ ItsAt K G us (xs.take i)) ⟨[], same_new hm, upd_same, by rw [List.take_zero]; exact .nil⟩ (fun i G _ h => let ⟨_, s, _⟩ := h; SqL.of (s _ _ hl)) ?_ ?_⟩
      · rintro i x G G' hi ⟨us, sm, gm, gI⟩ ⟨rfl, hx⟩
        obtain ⟨it, hit, hdt⟩ := hd.get hx
        have hmem : it ∈ xs := List.mem_of_getElem? hit
        have hl1 := lv_mem hmem
        have hul := gI.length
        rw [List.length_take] at hul
        refine ⟨rfl, _, rfl, x, it, rfl, hdt.kd (.of_same sm), by omega, by omega, fun r G2 sm2 hr2 => ⟨us, sm2 _ _ gm, small1000 (by omega), us ++ [r], same_at (sm.trans sm2) hm, upd_same, ?_⟩⟩
        rw [List.take_succ, hit]
        have kk : Kin G2 (upd G2 m (.lst (us ++ [r]))) := .at_ (sm2 _ _ gm) (fun _ _ _ _ z => by cases z) (fun _ z => by cases z)
        exact ItsAt.snoc ((gI.same sm2).kin kk) (hr2.kin kk)
      · rintro G ⟨us, sm, gm, gI⟩
        rw [List.take_of_length_le (by omega)] at gI
        have hul := gI.length
        refine ⟨n, m, us, rfl, SqL.of gm, n, us, xs, rfl, gI, by omega, n0, n1, by omega, fun G2 a2 sm2 _ hit => k _ _ (sm.trans sm2) hit⟩
end
end Kb

namespace Kb
open PySem PySem.Spec PyProof.Rows L2 Mq Rz
/-! ### right items -/
mutual
def okI : It → Bool
  | .say w => isW w
  | .press w => isW w
  | .go w => isW w
  | .times n xs => (decide (0 ≤ n) && decide (n ≤ 10 ^ 9)) && (decide (xs.length ≤ 6) && okIs xs)
def okIs : List It → Bool
  | [] => true
  | x :: r => okI x && okIs r
end
mutual
theorem DtAt.ok {H : Hp} : ∀ {v : V} {i : It}, DtAt H v i → okI i = true
  | _, _, .say e hw => hw
  | _, _, .press e hw => hw
  | _, _, .go e hw => hw
  | _, _, .times e hl h n0 n1 h6 => by
    simp only [okI, h.ok, decide_eq_true n0, decide_eq_true n1, decide_eq_true h6, Bool.and_true]
theorem DtsAt.ok {H : Hp} : ∀ {vs : List V} {xs : List It}, DtsAt H vs xs → okIs xs = true
  | _, _, .nil => rfl
  | _, _, .cons a r => by simp only [okIs, a.ok, r.ok, Bool.and_true]
end
theorem okIs_mem : ∀ {xs : List It}, okIs xs = true ↔ ∀ x ∈ xs, okI x = true
  | [] => by simp [okIs]
  | x :: r => by simp [okIs, okIs_mem (xs := r)]
theorem isW_all {w : Str} (h : isW w = true) : w.length ≤ 8 ∧ 1 ≤ w.length ∧ ∀ c ∈ w.cps.toList, 97 ≤ c ∧ c ≤ 122 := by
  obtain ⟨h1, h2⟩ := Bool.and_eq_true_iff.mp h
  have h1 := of_decide_eq_true h1
  exact ⟨h1.2, h1.1, fun c hc => of_decide_eq_true (List.all_eq_true.mp h2 c hc)⟩
/-! ### signs -/
def sg (z : Str) : List Nat := z.cps.toList
theorem sg_app (a b : Str) : sg (a ++ b) = sg a ++ sg b := by
  show (a.cps ++ b.cps).toList = _
  rw [Array.toList_append]
  rfl
theorem sg_len (z : Str) : (sg z).length = z.length := Array.length_toList
theorem sg_inj {a b : Str} (h : sg a = sg b) : a = b := by
  obtain ⟨a⟩ := a
  obtain ⟨b⟩ := b
  have : a = b := Array.ext' h
  rw [this]
def dig (n : Int) : List Nat := sg (PySem.Str.ofString (toString n))
theorem dig_all {n : Int} (h0 : 0 ≤ n) : ∀ c ∈ dig n, 48 ≤ c ∧ c ≤ 57 := by
  obtain ⟨m, rfl⟩ := Int.eq_ofNat_of_zero_le h0
  intro c hc
  unfold dig sg at hc
  rw [PySem.W.KIN.signs_num] at hc
  obtain ⟨ch, hch, e⟩ := List.mem_map.mp hc
  have r := PyProof.Rows.digit_range (Nat.isDigit_of_mem_toDigits (by decide) (by decide) hch)
  rw [← e]
  exact r
theorem dig_len {n : Int} (h0 : 0 ≤ n) (h1 : n ≤ 10 ^ 9) : (dig n).length ≤ 10 := by
  have h := PySem.W.KT.len_num h0 (show n < 10 ^ 10 by omega)
  unfold dig
  rw [sg_len]
  exact h
mutual
def tx : It → List Nat
  | .say w => 33 :: sg w
  | .press w => sg w
  | .go w => 64 :: sg w
  | .times n xs => dig n ++ 40 :: (txL xs ++ [41])
def txL : List It → List Nat
  | [] => []
  | x :: r => tx x ++ txM r
def txM : List It → List Nat
  | [] => []
  | x :: r => 32 :: (tx x ++ txM r)
end
theorem pow_mono10 {a b : Nat} (h : a ≤ b) : 10 ^ a ≤ 10 ^ b := Nat.pow_le_pow_right (by decide) h
mutual
theorem len_tx : ∀ {i : It}, okI i = true → (tx i).length ≤ 30 * 10 ^ i.lv
  | .say w, h => by
    have := (isW_all (show isW w = true from h)).1
    simp only [tx, List.length_cons, It.lv, sg_len]
    omega
  | .press w, h => by
    have := (isW_all (show isW w = true from h)).1
    simp only [tx, It.lv, sg_len]
    omega
  | .go w, h => by
    have := (isW_all (show isW w = true from h)).1
    simp only [tx, List.length_cons, It.lv, sg_len]
    omega
  | .times n xs, h => by
    simp only [okI, Bool.and_eq_true, decide_eq_true_eq] at h
    have h1 := dig_len h.1.1 h.1.2
    have h2 := len_txL h.2.2
    have h3 : xs.length * (30 * 10 ^ lvL xs + 1) ≤ 6 * (30 * 10 ^ lvL xs + 1) := Nat.mul_le_mul_right _ h.2.1
    have h4 : 1 ≤ 10 ^ lvL xs := Nat.one_le_pow _ _ (by decide)
    have h5 : 10 ^ (1 + lvL xs) = 10 * 10 ^ lvL xs := by rw [Nat.pow_add]
    simp only [tx, List.length_append, List.length_cons, List.length_nil, It.lv, h5]
    omega
theorem len_txL : ∀ {xs : List It}, okIs xs = true → (txL xs).length ≤ xs.length * (30 * 10 ^ lvL xs + 1)
  | [], _ => by simp [txL]
  | x :: r, h => by
    simp only [okIs, Bool.and_eq_true] at h
    have h1 := len_tx h.1
    have h2 := len_txM h.2
    have h3 : 30 * 10 ^ x.lv ≤ 30 * 10 ^ max x.lv (lvL r) := Nat.mul_le_mul_left _ (pow_mono10 (Nat.le_max_left _ _))
    have h4 : r.length * (30 * 10 ^ lvL r + 1) ≤ r.length * (30 * 10 ^ max x.lv (lvL r) + 1) := Nat.mul_le_mul_left _ (by have := pow_mono10 (Nat.le_max_right x.lv (lvL r)); omega)
    simp only [txL, List.length_append, List.length_cons, lvL, Nat.add_mul, Nat.one_mul]
    omega
theorem len_txM : ∀ {xs : List It}, okIs xs = true → (txM xs).length ≤ xs.length * (30 * 10 ^ lvL xs + 1)
  | [], _ => by simp [txM]
  | x :: r, h => by
    simp only [okIs, Bool.and_eq_true] at h
    have h1 := len_tx h.1
    have h2 := len_txM h.2
    have h3 : 30 * 10 ^ x.lv ≤ 30 * 10 ^ max x.lv (lvL r) := Nat.mul_le_mul_left _ (pow_mono10 (Nat.le_max_left _ _))
    have h4 : r.length * (30 * 10 ^ lvL r + 1) ≤ r.length * (30 * 10 ^ max x.lv (lvL r) + 1) := Nat.mul_le_mul_left _ (by have := pow_mono10 (Nat.le_max_right x.lv (lvL r)); omega)
    simp only [txM, List.length_append, List.length_cons, lvL, Nat.add_mul, Nat.one_mul]
    omega
end
theorem txL_small {xs : List It} (h : okIs xs = true) (hl : lvL xs ≤ 2) (hn : xs.length ≤ 6) : (txL xs).length ≤ 20000 := by
  have h1 := len_txL h
  have h2 : 10 ^ lvL xs ≤ 10 ^ 2 := pow_mono10 hl
  have h3 : xs.length * (30 * 10 ^ lvL xs + 1) ≤ 6 * (30 * 10 ^ 2 + 1) := Nat.mul_le_mul hn (by omega)
  omega
theorem tx_small {i : It} (h : okI i = true) (hl : i.lv ≤ 2) : (tx i).length ≤ 3000 := by
  have h1 := len_tx h
  have h2 : 10 ^ i.lv ≤ 10 ^ 2 := pow_mono10 hl
  omega
theorem log_ok {n : Int} (h0 : 0 ≤ n) (h1 : n ≤ 10 ^ 9) : n.natAbs.log2 < 1920 := by
  by_cases h : n.natAbs = 0
  · rw [h]; decide
  · refine (Nat.log2_lt h).mpr ?_
    have : n.natAbs < 2 ^ 30 := by omega
    exact Nat.lt_of_lt_of_le this (Nat.pow_le_pow_right (by decide) (by decide))
/-! ### join -/
theorem join_eq (sep : Str) (l : List Str) : Txt.join sep l = Str.join sep l := eq_of_beq (PyProof.Rows.join_plain_closes sep l)
theorem sg_join : ∀ ys : List Str, sg (Str.join " " ys) = (match ys with | [] => [] | y :: r => sg y ++ (r.map fun t => 32 :: sg t).flatten)
  | [] => rfl
  | [y] => by
    show sg y = _
    simp
  | y :: z :: r => by
    show sg (y ++ " " ++ Str.join " " (z :: r)) = _
    rw [sg_app, sg_app, sg_join (z :: r)]
    have e : sg " " = [32] := by decide +kernel
    rw [e]
    simp
theorem join_txM : ∀ {ys : List Str} {xs : List It}, ys.map sg = xs.map tx → (ys.map fun t => 32 :: sg t).flatten = txM xs
  | [], [], _ => rfl
  | [], _ :: _, h => by simp at h
  | _ :: _, [], h => by simp at h
  | y :: r, x :: t, h => by
    simp only [List.map_cons, List.cons.injEq] at h
    simp only [List.map_cons, List.flatten_cons, txM, h.1, join_txM h.2, List.cons_append]
theorem join_tx {ys : List Str} {xs : List It} (h : ys.map sg = xs.map tx) : sg (Txt.join " " ys) = txL xs := by
  rw [join_eq, sg_join]
  match ys, xs, h with
  | [], [], _ => rfl
  | [], _ :: _, h => simp at h
  | _ :: _, [], h => simp at h
  | y :: r, x :: t, h =>
    simp only [List.map_cons, List.cons.injEq] at h
    simp only [txL, h.1, join_txM h.2]
end Kb

namespace Kb
open PySem PySem.Spec PyProof.Rows L2 Mq Rz
/-! ### the reader -/
abbrev cR (K : PySem.W.Frag) : Addr := He.ga K "ItemReader"
def RdAt (K : PySem.W.Frag) (H : Hp) (r : Addr) (z : Str) (p : Nat) : Prop := ∃ dr, H r = some (.ins (cR K) dr [("own_text", .str z), ("own_place", .int (p : Nat))])
/-- the sign at a place, an empty text behind the end -/
def sgn (z : Str) (p : Nat) : Str := ⟨((sg z).drop p).take 1 |>.toArray⟩
theorem sg_sgn (z : Str) (p : Nat) : sg (sgn z p) = ((sg z).drop p).take 1 := by
  unfold sgn sg
  simp
theorem cut_sgn (z : Str) (p : Nat) : cutS z (some (p : Int)) (some ((p : Int) + 1)) = sgn z p := by
  apply sg_inj
  rw [sg_sgn]
  unfold cutS sg
  rw [show ((p : Int) + 1) = ((p + 1 : Nat) : Int) by omega, HT.sIx_nat, HT.sIx_nat]
  simp only [List.toList_toArray]
  have el : z.cps.toList.length = z.length := Array.length_toList
  by_cases h : p < z.length
  · rw [Nat.min_eq_left (by omega), Nat.min_eq_left (by omega)]
    congr 1
    omega
  · rw [Nat.min_eq_right (by omega), Nat.min_eq_right (by omega), List.drop_eq_nil_of_le (by omega), List.drop_eq_nil_of_le (by omega)]
    simp
theorem cut_part (z : Str) (p q : Nat) (h : q ≤ z.length) : sg (cutS z (some (p : Int)) (some (q : Int))) = ((sg z).drop p).take (q - p) := by
  unfold cutS sg
  rw [HT.sIx_nat, HT.sIx_nat]
  simp only [List.toList_toArray]
  have el : z.cps.toList.length = z.length := Array.length_toList
  rw [Nat.min_eq_left h]
  by_cases hp : p ≤ z.length
  · rw [Nat.min_eq_left hp]
  · rw [Nat.min_eq_right (by omega), List.drop_eq_nil_of_le (by omega), List.drop_eq_nil_of_le (by omega)]
    simp
structure Tr (P : Program) (K : PySem.W.Frag) (mg : Str → Option Value) : Prop where
  kl : Hm.Kl K (cR K)
  g : mg "ItemReader" = some (.ref (cR K))
  mkr : Mk K (cR K) (He.ma K (cR K) "__init__")
  na : ∀ f ∈ (["own_text", "own_place"] : List Str), NoAttr K (cR K) f
  me : ∀ m ∈ (["sign", "word", "number_here", "most_digits", "item", "whole", "fail"] : List Str), Meth K (cR K) m (He.ma K (cR K) m)
  digits : ∃ t, mg "DIGITS" = some (.str "0123456789" t)
  most : ∃ t, mg "MOST_DIGITS" = some (.int 10 t)
  eT : Ee P K mg "ValueError" "InvalidText" "index"
section
variable {P : Program} {w : World} {K : PySem.W.Frag} {mg : Str → Option Value} {base : Heap}
def spSign (K : PySem.W.Frag) : Sp := fun vs H Q _ => ∃ r z p, vs = [.ref r] ∧ RdAt K H r z p ∧ z.length ≤ 100000 ∧ Q (.str (sgn z p)) H
theorem zl (z : Str) (h : z.length ≤ 100000) : z.length ≤ sizeLine := by rw [sizeLine_eq]; omega
theorem ok_sign {f : Addr} {fd : FuncData} (F : FunD K "sign" "ItemReader.sign" (defArgs s_ItemReader_sign) (defBody s_ItemReader_sign) (defScope s_ItemReader_sign) [] [] f fd) (R : Tr P K mg) : FnOk P w K mg base (LX P w) 1 f fd ["self"] (spSign K) := by
  refine F.ok sc_ItemReader_sign (fun vs H Q E h => ?_) (fun cdv A outer s H vs Q E hr h => ?_)
  · obtain ⟨r, z, p, rfl, _⟩ := h
    rfl
  · obtain ⟨r, z, p, rfl, ⟨dr, e⟩, hl, q⟩ := h
    refine ⟨_, PSs.nox (pss_one (ps_ret (pe_slice sl_str (pe_fld (pv 0) rfl) (po_some (pe_fld (pv 0) rfl)) (po_some (pe_op op_add (pe_fld (pv 0) rfl) pe_int))))), ?_⟩
    refine ⟨_, rfl, r, _, dr, _, _, rfl, e, R.kl.cl, R.na "own_text" (by decide), rfl, _, rfl, r, _, dr, _, _, rfl, e, R.kl.cl, R.na "own_place" (by decide), rfl, _, rfl, _, rfl, r, _, dr, _, _, rfl, e, R.kl.cl, R.na "own_place" (by decide), rfl, _, _, rfl, rfl, _, rfl, z, rfl, zl z hl, ?_⟩
    rw [cut_sgn]
    exact q
/-- self.sign() -/
def tSign (K : PySem.W.Frag) (te : TE) : TE := fun σ H Q => te σ H fun x G => ∃ r z p, x = .ref r ∧ RdAt K G r z p ∧ z.length ≤ 100000 ∧ Q (.str (sgn z p)) G
theorem pe_sign {X : Cx} {ex : Expr} {te : TE} (R : Tr X.prog X.K X.mg) (S : FnR X.prog X.w X.K X.mg X.base (LX X.prog X.w) 1 (He.ma X.K (cR X.K) "sign") (spSign X.K)) (h : PE X ex (tMv X.prog X.w X.K X.mg X.base 1 "sign" E0 te tNil)) (m : Mono te) : PE X ex (tSign X.K te) :=
  pe_weak h fun σ H Q h => m σ H _ _ (fun x G ⟨r, z, p, ex, hR, hl, q⟩ => by
    subst ex
    obtain ⟨dr, e⟩ := id hR
    exact ⟨r, _, dr, _, _, _, rfl, e, by rfl, R.kl.cl, R.me "sign" (by decide), S, r, z, p, rfl, hR, hl, q⟩) h
/-! ### most_digits -/
def spMost (K : PySem.W.Frag) : Sp := fun vs H Q _ => ∃ (r : Addr) (z : Str) (p b : Nat) (c : Nat), vs = [.ref r, .int (b : Nat)] ∧ RdAt K H r z p ∧ z.length ≤ 100000 ∧ (sg z)[b]? = some c ∧ Q (.int (if c = 48 then 1 else 10)) H
theorem ok_most {f : Addr} {fd : FuncData} (F : FunD K "most_digits" "ItemReader.most_digits" (defArgs s_ItemReader_most_digits) (defBody s_ItemReader_most_digits) (defScope s_ItemReader_most_digits) [] [] f fd) (R : Tr P K mg) : FnOk P w K mg base (LX P w) 1 f fd ["self", "begin"] (spMost K) := by
  refine F.ok sc_ItemReader_most_digits (fun vs H Q E h => ?_) (fun cdv A outer s H vs Q E hr h => ?_)
  · obtain ⟨r, z, p, b, c, rfl, _⟩ := h
    rfl
  · obtain ⟨r, z, p, b, c, rfl, ⟨dr, e⟩, hl, hc, q⟩ := h
    obtain ⟨t, g⟩ := R.most
    refine ⟨_, PSs.nox (pss_one (ps_ret (pe_ifExp (pt_cmpR op_eq (pe_ix ix_str (pe_fld (pv 0) rfl) (pv 1) (fun _ _ => rfl)) pe_str (nomark _)) pe_int (pe_glob (v := .int 10) rfl g ⟨_, rfl⟩)))), ?_⟩
    refine ⟨_, rfl, r, _, dr, _, _, rfl, e, R.kl.cl, R.na "own_text" (by decide), rfl, _, rfl, z, _, c, rfl, rfl, zl z hl, atI_nat hc, rfl, _, rfl, ?_⟩
    by_cases h : c = 48
    · subst h
      refine ifT (by decide +kernel) ?_
      exact q
    · rw [if_neg h] at q
      refine ifF (decide_eq_false fun z => h ?_) q
      have z2 := congrArg sg (V.str.inj z)
      have e0 : sg "0" = [48] := by decide +kernel
      rw [e0] at z2
      simpa [sg] using z2
def tMost (K : PySem.W.Frag) (te : TE) (t : TA) : TE := fun σ H Q => te σ H fun x G => ∃ r z p, x = .ref r ∧ RdAt K G r z p ∧ z.length ≤ 100000 ∧ t σ G fun vs G2 => ∃ (b c : Nat), G2 = G ∧ vs = [.int (b : Nat)] ∧ (sg z)[b]? = some c ∧ Q (.int (if c = 48 then 1 else 10)) G
theorem pe_most {X : Cx} {ex : Expr} {te : TE} {t : TA} (R : Tr X.prog X.K X.mg) (S : FnR X.prog X.w X.K X.mg X.base (LX X.prog X.w) 1 (He.ma X.K (cR X.K) "most_digits") (spMost X.K)) (h : PE X ex (tMv X.prog X.w X.K X.mg X.base 1 "most_digits" E0 te t)) (m : Mono te) (mt : MonoA t) : PE X ex (tMost X.K te t) :=
  pe_weak h fun σ H Q h => m σ H _ _ (fun x G ⟨r, z, p, ex, hR, hl, q⟩ => by
    subst ex
    obtain ⟨dr, e⟩ := id hR
    refine ⟨r, _, dr, _, _, _, rfl, e, by rfl, R.kl.cl, R.me "most_digits" (by decide), S, mt σ G _ _ (fun vs G2 ⟨b, c, e1, e2, h3, q⟩ => ?_) q⟩
    subst e1 e2
    exact ⟨r, z, p, b, c, rfl, hR, hl, h3, q⟩) h
end
end Kb

namespace Kb
open PySem PySem.Spec PyProof.Rows L2 Mq Rz
theorem sgn_some {z : Str} {q c : Nat} (h : (sg z)[q]? = some c) : sgn z q = ⟨#[c]⟩ := by
  apply sg_inj
  rw [sg_sgn]
  obtain ⟨h1, h2⟩ := List.getElem?_eq_some_iff.mp h
  rw [List.drop_eq_getElem_cons h1, h2]
  rfl
theorem sgn_none {z : Str} {q : Nat} (h : (sg z).drop q = []) : sgn z q = "" := by
  apply sg_inj
  rw [sg_sgn, h]
  decide +kernel
theorem sgn_at {z : Str} {q c : Nat} {r : List Nat} (h : (sg z).drop q = c :: r) : sgn z q = ⟨#[c]⟩ := by
  refine sgn_some ?_
  have e := List.getElem?_drop (xs := sg z) (i := q) (j := 0)
  rw [h] at e
  simpa using e.symm
theorem ne_emp (c : Nat) : decide (V.str ⟨#[c]⟩ = V.str "") = false := decide_eq_false fun e => by
  have z := congrArg sg (V.str.inj e)
  have e0 : sg "" = [] := by decide +kernel
  rw [e0] at z
  simp [sg] at z
theorem ne_sign {c d : Nat} {y : Str} (hy : sg y = [d]) (h : c ≠ d) : decide (V.str ⟨#[c]⟩ = V.str y) = false := decide_eq_false fun e => by
  have z := congrArg sg (V.str.inj e)
  rw [hy] at z
  simp [sg] at z
  exact h z
theorem eq_sign {d : Nat} {y : Str} (hy : sg y = [d]) : decide (V.str ⟨#[d]⟩ = V.str y) = true := decide_eq_true (by
  rw [show (⟨#[d]⟩ : Str) = y from sg_inj (by rw [hy]; rfl)])
theorem drop_more {z : Str} {p : Nat} {a b : List Nat} (h : (sg z).drop p = a ++ b) (i : Nat) : (sg z).drop (p + i) = (a ++ b).drop i := by
  rw [← List.drop_drop, h]
def isD (c : Nat) : Bool := decide (48 ≤ c ∧ c ≤ 57)
theorem isD_in (c : Nat) : decide (c ∈ ("0123456789" : Str).cps.toList) = isD c := by
  have h : ∀ c : Nat, c ∈ ("0123456789" : Str).cps.toList ↔ (48 ≤ c ∧ c ≤ 57) := by
    intro c
    have e : ("0123456789" : Str).cps.toList = (List.range 10).map (· + 48) := by decide +kernel
    rw [e, List.mem_map]
    constructor
    · rintro ⟨a, h1, rfl⟩
      have := List.mem_range.mp h1
      omega
    · intro h
      exact ⟨c - 48, List.mem_range.mpr (by omega), by omega⟩
  unfold isD
  exact decide_eq_decide.mpr (h c)
/-- a number with a leading zero is 0 -/
theorem dig_zero {n : Int} (h0 : 0 ≤ n) {r : List Nat} (h : dig n = 48 :: r) : r = [] := by
  obtain ⟨m, rfl⟩ := Int.eq_ofNat_of_zero_le h0
  have e : dig (m : Int) = (Nat.toDigits 10 m).map Char.toNat := by unfold dig sg; exact PySem.W.KIN.signs_num m
  by_cases hm : m < 10
  · rw [e, Nat.toDigits_of_lt_base hm] at h
    simp at h
    exact h.2
  · exfalso
    have hz : ∀ m : Nat, 0 < m → ∃ c r, Nat.toDigits 10 m = c :: r ∧ c.toNat ≠ 48 := by
      intro m
      induction m using Nat.strongRecOn with
      | _ m ih =>
        intro hp
        by_cases h : m < 10
        · refine ⟨_, _, Nat.toDigits_of_lt_base h, ?_⟩
          have : ∀ d : Nat, d < 10 → 0 < d → (Nat.digitChar d).toNat ≠ 48 := by decide
          exact this m h hp
        · have hm2 : m % 10 < 10 := Nat.mod_lt m (by decide)
          have t : Nat.toDigits 10 (m / 10) ++ Nat.toDigits 10 (m % 10) = Nat.toDigits 10 (10 * (m / 10) + m % 10) := Nat.toDigits_append_toDigits (by decide) (by omega) hm2
          rw [Nat.div_add_mod] at t
          obtain ⟨c, r, e1, e2⟩ := ih (m / 10) (by omega) (by omega)
          rw [e1] at t
          exact ⟨c, _, t.symm, e2⟩
    obtain ⟨c, r2, e1, e2⟩ := hz m (by omega)
    rw [e, e1] at h
    simp at h
    exact e2 h.1
theorem dig_ne (n : Int) (h0 : 0 ≤ n) : dig n ≠ [] := by
  obtain ⟨m, rfl⟩ := Int.eq_ofNat_of_zero_le h0
  have e : dig (m : Int) = (Nat.toDigits 10 m).map Char.toNat := by unfold dig sg; exact PySem.W.KIN.signs_num m
  rw [e]
  intro z
  have z2 := List.map_eq_nil_iff.mp z
  exact absurd z2 Nat.toDigits_ne_nil
section
variable {P : Program} {w : World} {K : PySem.W.Frag} {mg : Str → Option Value} {base : Heap}
theorem RdAt.upd {H G : Hp} {r : Addr} {z : Str} {p q : Nat} {dr : Addr} : RdAt K (upd G r (.ins (cR K) dr [("own_text", .str z), ("own_place", .int (q : Nat))])) r z q := ⟨dr, upd_same⟩
/-! ### word -/
def spRWord (K : PySem.W.Frag) : Sp := fun vs H Q _ => ∃ (r : Addr) (z : Str) (p : Nat) (wd rest : List Nat), vs = [.ref r] ∧ RdAt K H r z p ∧ z.length ≤ 100000 ∧ (sg z).drop p = wd ++ rest ∧ 1 ≤ wd.length ∧ wd.length ≤ 8 ∧ (∀ c ∈ wd, isL c = true) ∧ (∀ c t, rest = c :: t → isL c = false) ∧
  ∀ u G, Butx r H G → RdAt K G r z (p + wd.length) → sg u = wd → Q (.str u) G
theorem ok_rword {f : Addr} {fd : FuncData} (F : FunD K "word" "ItemReader.word" (defArgs s_ItemReader_word) (defBody s_ItemReader_word) (defScope s_ItemReader_word) [] [] f fd) (R : Tr P K mg) (C : Cs mg) (S : FnR P w K mg base (LX P w) 1 (He.ma K (cR K) "sign") (spSign K)) : FnOk P w K mg base (LX P w) 2 f fd ["self"] (spRWord K) := by
  refine F.ok sc_ItemReader_word (fun vs H Q E h => ?_) (fun cdv A outer s H vs Q E hr h => ?_)
  · obtain ⟨r, z, p, wd, rest, rfl, _⟩ := h
    rfl
  · obtain ⟨r, z, p, wd, rest, rfl, ⟨dr, e⟩, hl, hd, h1, h8, hw, hrest, q⟩ := h
    obtain ⟨t1, g1⟩ := C.longest
    obtain ⟨t2, g2⟩ := C.letters
    have nd := sc_ItemReader_word.nd
    have cl := R.kl.cl
    have nT := R.na "own_text" (by decide)
    have nP := R.na "own_place" (by decide)
    refine ⟨_, PSs.nox (pss_cons (ps_set (i := 1) nd rfl (Or.inl rfl) (pe_fld (pv 0) rfl))
      (C8.pss_cut (ps_while PassesOwn.never (PW.pt (pw_and (pt_cmpR op_ne (pe_sign R S (pe_mv0 (k := 1) (E := E0) (pv 0) hr passL) mono_v) pe_str (nomark _)) (pw_and (pt_cmpR op_in_sign (pe_sign R S (pe_mv0 (k := 1) (E := E0) (pv 0) hr passL) mono_v) (pe_glob (v := .str letters) rfl g2 ⟨_, rfl⟩) rfl) (pw_and1 (pt_cmpR op_lt (pe_op op_sub (pe_fld (pv 0) rfl) (pv 1)) (pe_glob (v := .int 8) rfl g1 ⟨_, rfl⟩) (nomark _))))))
        (pss_one (ps_fldaug (pv 0) pe_int in_add)))
      (pss_cons (ps_if (pt_cmpR op_eq (pe_fld (pv 0) rfl) (pv 1) (nomark _)) (pss_one ps_never) pss_nil)
      (pss_one (ps_ret (pe_slice sl_str (pe_fld (pv 0) rfl) (po_some (pv 1)) (po_some (pe_fld (pv 0) rfl)))))))), ?_⟩
    refine ⟨_, rfl, r, _, dr, _, _, rfl, e, cl, nP, rfl, ?_⟩
    have at_ : ∀ (G : Hp) (i : Nat), G r = some (.ins (cR K) dr [("own_text", .str z), ("own_place", .int ((p + i : Nat) : Int))]) → upd G r (.ins (cR K) dr (putF "own_place" (.int (((p + i : Nat) : Int) + 1)) [("own_text", .str z), ("own_place", .int ((p + i : Nat) : Int))])) r = some (.ins (cR K) dr [("own_text", .str z), ("own_place", .int ((p + (i + 1) : Nat) : Int))]) := fun G i _ => by
      rw [upd_same]
      rfl
    refine ⟨fun σ G => σ = [some (.ref r), some (.int (p : Nat))] ∧ Butx r H G ∧ G r = some (.ins (cR K) dr [("own_text", .str z), ("own_place", .int ((p + wd.length : Nat) : Int))]), ⟨fun m σ G => ∃ i, i ≤ wd.length ∧ m = wd.length - i ∧ σ = [some (.ref r), some (.int (p : Nat))] ∧ Butx r H G ∧ G r = some (.ins (cR K) dr [("own_text", .str z), ("own_place", .int ((p + i : Nat) : Int))]), ⟨_, 0, Nat.zero_le _, rfl, rfl, .of_same fun _ _ z => z, e⟩, ?_⟩, ?_⟩
    · rintro m σ G ⟨i, hi, rfl, rfl, hb, eG⟩
      have hdi := drop_more hd i
      have rd : RdAt K G r z (p + i) := ⟨dr, eG⟩
      refine ⟨_, rfl, r, z, p + i, rfl, rd, hl, rfl, _, rfl, ?_⟩
      by_cases hlt : i < wd.length
      · have hc : (sg z).drop (p + i) = wd[i] :: (wd ++ rest).drop (i + 1) := by
          rw [hdi, List.drop_eq_getElem_cons (by rw [List.length_append]; omega), List.getElem_append_left hlt]
        rw [sgn_at hc]
        refine ifT (by rw [ne_emp]; rfl) ?_
        refine ⟨_, rfl, r, z, p + i, rfl, rd, hl, ?_⟩
        rw [sgn_at hc]
        refine ⟨_, letters, rfl, rfl, _, rfl, ?_⟩
        rw [isL_in]
        refine ifT (hw _ (List.getElem_mem hlt)) ?_
        refine ⟨_, rfl, r, _, dr, _, _, rfl, eG, cl, nP, rfl, _, rfl, _, _, rfl, rfl, _, _, rfl, rfl, _, rfl, ?_⟩
        refine ifT (by simp; omega) ⟨fun σ G => σ = [some (.ref r), some (.int (p : Nat))] ∧ Butx r H G ∧ G r = some (.ins (cR K) dr [("own_text", .str z), ("own_place", .int ((p + (i + 1) : Nat) : Int))]), fun σ' H' ⟨e1, e2, e3⟩ => ⟨wd.length - (i + 1), by omega, i + 1, by omega, rfl, e1, e2, e3⟩, ?_⟩
        exact ⟨_, rfl, r, _, dr, _, _, rfl, eG, cl, nP, rfl, _, _, rfl, rfl, dr, _, eG, (by show 2 < 1000; decide), rfl, hb.upd, at_ G i eG⟩
      · have ei : i = wd.length := by omega
        subst ei
        rw [List.drop_left] at hdi
        cases hr2 : rest with
        | nil =>
          rw [hr2] at hdi
          rw [sgn_none hdi]
          exact ifF (by decide +kernel) (ifF (by rfl) ⟨rfl, hb, eG⟩)
        | cons c t =>
          rw [hr2] at hdi
          rw [sgn_at hdi]
          refine ifT (by rw [ne_emp]; rfl) ?_
          refine ⟨_, rfl, r, z, _, rfl, rd, hl, ?_⟩
          rw [sgn_at hdi]
          refine ⟨_, letters, rfl, rfl, _, rfl, ?_⟩
          rw [isL_in, hrest c t hr2]
          exact ifF (by rfl) (ifF (by rfl) ⟨rfl, hb, eG⟩)
    rintro σ G ⟨rfl, hb, eG⟩
    refine ⟨_, rfl, r, _, dr, _, _, rfl, eG, cl, nP, rfl, _, rfl, rfl, _, rfl, ?_⟩
    refine ifF (decide_eq_false fun z => by have := V.int.inj z; omega) ?_
    have hzl : p + wd.length ≤ z.length := by
      have := congrArg List.length hd
      rw [List.length_drop, List.length_append, sg_len] at this
      omega
    refine ⟨_, rfl, r, _, dr, _, _, rfl, eG, cl, nT, rfl, _, rfl, _, rfl, _, rfl, r, _, dr, _, _, rfl, eG, cl, nP, rfl, _, rfl, z, rfl, zl z hl, q _ G hb ⟨dr, eG⟩ ?_⟩
    rw [cut_part z p _ hzl, hd, Nat.add_sub_cancel_left, List.take_left]
end
end Kb

namespace Kb
open PySem PySem.Spec PyProof.Rows L2 Mq Rz
section
variable {P : Program} {w : World} {K : PySem.W.Frag} {mg : Str → Option Value} {base : Heap}
def tRM (K : PySem.W.Frag) (sp : Sp) (te : TE) : TE := fun σ H Q => te σ H fun x G => ∃ r z p, x = .ref r ∧ RdAt K G r z p ∧ sp [.ref r] G Q E0
/-- self.m(), m one of the reader's methods without arguments -/
theorem pe_rm {X : Cx} {ex : Expr} {te : TE} {k : Nat} {m : Str} {sp : Sp} (R : Tr X.prog X.K X.mg) (hm : m ∈ (["sign", "word", "number_here", "most_digits", "item", "whole", "fail"] : List Str)) (hn : ∀ z p, ([("own_text", V.str z), ("own_place", V.int p)] : List (Str × V)).lookup m = none) (S : FnR X.prog X.w X.K X.mg X.base (LX X.prog X.w) k (He.ma X.K (cR X.K) m) sp) (h : PE X ex (tMv X.prog X.w X.K X.mg X.base k m E0 te tNil)) (mo : Mono te) : PE X ex (tRM X.K sp te) :=
  pe_weak h fun σ H Q h => mo σ H _ _ (fun x G ⟨r, z, p, ex, hR, q⟩ => by
    subst ex
    obtain ⟨dr, e⟩ := id hR
    exact ⟨r, _, dr, _, _, _, rfl, e, hn _ _, R.kl.cl, R.me m hm, S, q⟩) h
/-! ### number_here -/
def spNum (K : PySem.W.Frag) : Sp := fun vs H Q _ => ∃ (r : Addr) (z : Str) (p : Nat) (n : Int) (rest : List Nat), vs = [.ref r] ∧ RdAt K H r z p ∧ z.length ≤ 100000 ∧ (sg z).drop p = dig n ++ 40 :: rest ∧ 0 ≤ n ∧ n ≤ 10 ^ 9 ∧
  ∀ G, Butx r H G → RdAt K G r z (p + (dig n).length + 1) → Q (.int n) G
theorem ok_num {f : Addr} {fd : FuncData} (F : FunD K "number_here" "ItemReader.number_here" (defArgs s_ItemReader_number_here) (defBody s_ItemReader_number_here) (defScope s_ItemReader_number_here) [] [] f fd) (R : Tr P K mg) (T : Bt mg) (S : FnR P w K mg base (LX P w) 1 (He.ma K (cR K) "sign") (spSign K)) (M : FnR P w K mg base (LX P w) 1 (He.ma K (cR K) "most_digits") (spMost K)) : FnOk P w K mg base (LX P w) 2 f fd ["self"] (spNum K) := by
  refine F.ok sc_ItemReader_number_here (fun vs H Q E h => ?_) (fun cdv A outer s H vs Q E hr h => ?_)
  · obtain ⟨r, z, p, n, rest, rfl, _⟩ := h
    rfl
  · obtain ⟨r, z, p, n, rest, rfl, ⟨dr, e⟩, hl, hd, n0, n1, q⟩ := h
    obtain ⟨t2, g2⟩ := R.digits
    have nd := sc_ItemReader_number_here.nd
    have cl := R.kl.cl
    have nT := R.na "own_text" (by decide)
    have nP := R.na "own_place" (by decide)
    refine ⟨_, PSs.nox (pss_cons (ps_set (i := 1) nd rfl (Or.inl rfl) (pe_fld (pv 0) rfl))
      (C8.pss_cut (ps_while PassesOwn.never (PW.pt (pw_and (pt_cmpR op_ne (pe_sign R S (pe_mv0 (k := 1) (E := E0) (pv 0) hr passL) mono_v) pe_str (nomark _)) (pw_and (pt_cmpR op_in_sign (pe_sign R S (pe_mv0 (k := 1) (E := E0) (pv 0) hr passL) mono_v) (pe_glob (v := .str "0123456789") rfl g2 ⟨_, rfl⟩) rfl) (pw_and1 (pt_cmpR op_lt (pe_op op_sub (pe_fld (pv 0) rfl) (pv 1)) (pe_most R M (pe_mv (k := 1) (E := E0) (pv 0) hr passL (pa_cons (pv 1) pa_nil)) mono_v (mono_cons mono_v mono_nil)) (nomark _))))))
        (pss_one (ps_fldaug (pv 0) pe_int in_add)))
      (pss_cons (ps_set (i := 2) nd rfl (Or.inl rfl) (pe_slice sl_str (pe_fld (pv 0) rfl) (po_some (pv 1)) (po_some (pe_fld (pv 0) rfl))))
      (pss_cons (ps_if (pt_cmpR op_ne (pe_sign R S (pe_mv0 (k := 1) (E := E0) (pv 0) hr passL) mono_v) pe_str (nomark _)) (pss_one ps_never) pss_nil)
      (pss_cons (ps_fldaug (pv 0) pe_int in_add)
      (pss_one (ps_ret (pe_callTy call_int_str (by rfl) T.int (by decide +kernel) (pa_cons (pv 2) pa_nil))))))))), ?_⟩
    have at_ : ∀ (G : Hp) (i : Nat), upd G r (.ins (cR K) dr (putF "own_place" (.int (((p + i : Nat) : Int) + 1)) [("own_text", .str z), ("own_place", .int ((p + i : Nat) : Int))])) r = some (.ins (cR K) dr [("own_text", .str z), ("own_place", .int ((p + (i + 1) : Nat) : Int))]) := fun G i => by
      rw [upd_same]
      rfl
    have dl := dig_len n0 n1
    have da := dig_all n0
    have dne := dig_ne n n0
    obtain ⟨c0, r0, ec0⟩ : ∃ c r, dig n = c :: r := by
      cases h : dig n with
      | nil => exact absurd h dne
      | cons c r => exact ⟨c, r, rfl⟩
    have h0 : (sg z)[p]? = some c0 := by
      have e2 := List.getElem?_drop (xs := sg z) (i := p) (j := 0)
      rw [hd, ec0] at e2
      simpa using e2.symm
    have lim : ∀ i, i < (dig n).length → (i : Int) < (if c0 = 48 then 1 else 10 : Int) := fun i hi => by
      split
      · rename_i h48
        subst h48
        have := dig_zero n0 ec0
        rw [ec0, this] at hi
        simp at hi
        omega
      · omega
    refine ⟨_, rfl, r, _, dr, _, _, rfl, e, cl, nP, rfl, ?_⟩
    refine ⟨fun σ G => σ = [some (.ref r), some (.int (p : Nat)), none] ∧ Butx r H G ∧ G r = some (.ins (cR K) dr [("own_text", .str z), ("own_place", .int ((p + (dig n).length : Nat) : Int))]), ⟨fun m σ G => ∃ i, i ≤ (dig n).length ∧ m = (dig n).length - i ∧ σ = [some (.ref r), some (.int (p : Nat)), none] ∧ Butx r H G ∧ G r = some (.ins (cR K) dr [("own_text", .str z), ("own_place", .int ((p + i : Nat) : Int))]), ⟨_, 0, Nat.zero_le _, rfl, rfl, .of_same fun _ _ z => z, e⟩, ?_⟩, ?_⟩
    · rintro m σ G ⟨i, hi, rfl, rfl, hb, eG⟩
      have hdi := drop_more hd i
      have rd : RdAt K G r z (p + i) := ⟨dr, eG⟩
      refine ⟨_, rfl, r, z, p + i, rfl, rd, hl, rfl, _, rfl, ?_⟩
      by_cases hlt : i < (dig n).length
      · have hc : (sg z).drop (p + i) = (dig n)[i] :: (dig n ++ 40 :: rest).drop (i + 1) := by
          rw [hdi, List.drop_eq_getElem_cons (by rw [List.length_append]; omega), List.getElem_append_left hlt]
        rw [sgn_at hc]
        refine ifT (by rw [ne_emp]; rfl) ?_
        refine ⟨_, rfl, r, z, p + i, rfl, rd, hl, ?_⟩
        rw [sgn_at hc]
        refine ⟨_, "0123456789", rfl, rfl, _, rfl, ?_⟩
        rw [isD_in]
        refine ifT (decide_eq_true (da _ (List.getElem_mem hlt))) ?_
        refine ⟨_, rfl, r, _, dr, _, _, rfl, eG, cl, nP, rfl, _, rfl, _, _, rfl, rfl, _, rfl, r, z, p + i, rfl, rd, hl, _, rfl, p, c0, rfl, rfl, h0, _, _, rfl, rfl, _, rfl, ?_⟩
        have li := lim i hlt
        refine ifT (decide_eq_true (by omega)) ⟨fun σ G => σ = [some (.ref r), some (.int (p : Nat)), none] ∧ Butx r H G ∧ G r = some (.ins (cR K) dr [("own_text", .str z), ("own_place", .int ((p + (i + 1) : Nat) : Int))]), fun σ' H' ⟨e1, e2, e3⟩ => ⟨(dig n).length - (i + 1), by omega, i + 1, by omega, rfl, e1, e2, e3⟩, ?_⟩
        exact ⟨_, rfl, r, _, dr, _, _, rfl, eG, cl, nP, rfl, _, _, rfl, rfl, dr, _, eG, (by show 2 < 1000; decide), rfl, hb.upd, at_ G i⟩
      · have ei : i = (dig n).length := by omega
        subst ei
        rw [List.drop_left] at hdi
        rw [sgn_at hdi]
        refine ifT (by rw [ne_emp]; rfl) ?_
        refine ⟨_, rfl, r, z, _, rfl, rd, hl, ?_⟩
        rw [sgn_at hdi]
        refine ⟨_, "0123456789", rfl, rfl, _, rfl, ?_⟩
        rw [isD_in]
        exact ifF (by decide) (ifF (by rfl) ⟨rfl, hb, eG⟩)
    rintro σ G ⟨rfl, hb, eG⟩
    have hzl : p + (dig n).length ≤ z.length := by
      have := congrArg List.length hd
      rw [List.length_drop, List.length_append, sg_len] at this
      simp at this
      omega
    refine ⟨_, rfl, r, _, dr, _, _, rfl, eG, cl, nT, rfl, _, rfl, _, rfl, _, rfl, r, _, dr, _, _, rfl, eG, cl, nP, rfl, _, rfl, z, rfl, zl z hl, ?_⟩
    have eu : sg (cutS z (some (p : Int)) (some ((p + (dig n).length : Nat) : Int))) = dig n := by rw [cut_part z p _ hzl, hd, Nat.add_sub_cancel_left, List.take_left]
    have hdl := drop_more hd (dig n).length
    rw [List.drop_left] at hdl
    refine ⟨_, rfl, r, z, p + (dig n).length, rfl, ⟨dr, eG⟩, hl, ?_⟩
    rw [sgn_at hdl]
    refine ⟨rfl, _, rfl, ?_⟩
    refine ifF (by rw [eq_sign (show sg "(" = [40] by decide +kernel)]; rfl) ?_
    refine ⟨_, rfl, r, _, dr, _, _, rfl, eG, cl, nP, rfl, _, _, rfl, rfl, dr, _, eG, (by show 2 < 1000; decide), ?_⟩
    have hstr : cutS z (some (p : Int)) (some ((p + (dig n).length : Nat) : Int)) = PySem.Str.ofString (toString n) := sg_inj eu
    refine ⟨_, rfl, _, n, rfl, ?_, ?_, q _ hb.upd ⟨dr, at_ G _⟩⟩
    · show PySem.intText? (cutS z (some (p : Int)) (some ((p + (dig n).length : Nat) : Int))) = some n
      rw [hstr]
      exact PySem.W.KIN.num_reads n0 (by omega)
    · show (cutS z (some (p : Int)) (some ((p + (dig n).length : Nat) : Int))).length ≤ 640
      rw [← sg_len, eu]
      omega
end
end Kb

namespace Kb
open PySem PySem.Spec PyProof.Rows L2 Mq Rz
/-! ### the parts of a text -/
inductive Tok where
  | say (w : Str)
  | press (w : Str)
  | go (w : Str)
  | op (n : Int)
  | cl
def tokV : Tok → List V
  | .say w => [.str "say", .str w]
  | .press w => [.str "press", .str w]
  | .go w => [.str "go", .str w]
  | .op n => [.str "times", .int n]
  | .cl => [.str "close", .int 0]
def tokT : Tok → List Nat
  | .say w => 33 :: sg w
  | .press w => sg w
  | .go w => 64 :: sg w
  | .op n => dig n ++ [40]
  | .cl => [41]
def okT : Tok → Prop
  | .say w => isW w = true
  | .press w => isW w = true
  | .go w => isW w = true
  | .op n => 0 ≤ n ∧ n ≤ 10 ^ 9
  | .cl => True
def isOp : Tok → Bool
  | .op _ => true
  | _ => false
def isCl : List Tok → Bool
  | .cl :: _ => true
  | _ => false
/-- what is left of a text: where an item comes next, and where not -/
def rem : List Tok → List Nat × List Nat
  | [] => ([], [])
  | .cl :: ts => ([], 41 :: (rem ts).2)
  | .op n :: ts => (dig n ++ 40 :: (if isCl ts = true then (rem ts).2 else (rem ts).1), 32 :: (dig n ++ 40 :: (if isCl ts = true then (rem ts).2 else (rem ts).1)))
  | t :: ts => (tokT t ++ (rem ts).2, 32 :: (tokT t ++ (rem ts).2))
mutual
def tk : It → List Tok
  | .say w => [.say w]
  | .press w => [.press w]
  | .go w => [.go w]
  | .times n xs => .op n :: (tks xs ++ [.cl])
def tks : List It → List Tok
  | [] => []
  | x :: r => tk x ++ tks r
end
theorem isCl_tk (x : It) (ts : List Tok) : isCl (tk x ++ ts) = false := by cases x <;> simp [tk, isCl]
theorem rem_false_tk (x : It) (ts : List Tok) : (rem (tk x ++ ts)).2 = 32 :: (rem (tk x ++ ts)).1 := by cases x <;> simp [tk, rem]
mutual
theorem rem_tk : ∀ (x : It) (ts : List Tok), (rem (tk x ++ ts)).1 = tx x ++ (rem ts).2
  | .say w, ts => by simp [tk, rem, tx, tokT]
  | .press w, ts => by simp [tk, rem, tx, tokT]
  | .go w, ts => by simp [tk, rem, tx, tokT]
  | .times n xs, ts => by
    have e : tk (.times n xs) ++ ts = .op n :: (tks xs ++ (.cl :: ts)) := by simp [tk]
    rw [e]
    simp only [rem, tx]
    cases xs with
    | nil => simp [tks, isCl, rem, txL]
    | cons x r =>
      have h1 : isCl (tks (x :: r) ++ (.cl :: ts)) = false := by
        simp only [tks, List.append_assoc]
        exact isCl_tk x _
      rw [h1, if_neg Bool.false_ne_true, rem_tks (x :: r) (.cl :: ts) (by simp)]
      simp [rem]
theorem rem_tks : ∀ (xs : List It) (ts : List Tok), xs ≠ [] → (rem (tks xs ++ ts)).1 = txL xs ++ (rem ts).2
  | [], ts, h => absurd rfl h
  | x :: r, ts, _ => by
    have e : tks (x :: r) ++ ts = tk x ++ (tks r ++ ts) := by simp [tks]
    rw [e, rem_tk x, rem_tkM r ts]
    simp [txL]
theorem rem_tkM : ∀ (r : List It) (ts : List Tok), (rem (tks r ++ ts)).2 = txM r ++ (rem ts).2
  | [], ts => by simp [tks, txM]
  | x :: r, ts => by
    have e : tks (x :: r) ++ ts = tk x ++ (tks r ++ ts) := by simp [tks]
    rw [e, rem_false_tk, rem_tk x, rem_tkM r ts]
    simp [txM]
end
/-- how many parentheses are open ahead of them -/
def bal : List Tok → Int
  | [] => 0
  | .op _ :: ts => bal ts - 1
  | .cl :: ts => bal ts + 1
  | _ :: ts => bal ts
def Wf : List Tok → Prop
  | [] => True
  | t :: ts => 0 ≤ bal (t :: ts) ∧ Wf ts
theorem Wf.bal {ts : List Tok} (h : Wf ts) : 0 ≤ bal ts := by
  cases ts with
  | nil => exact Int.le_refl _
  | cons t r => exact h.1
mutual
theorem bal_tk : ∀ (x : It) (ts : List Tok), bal (tk x ++ ts) = bal ts
  | .say w, ts => by simp [tk, bal]
  | .press w, ts => by simp [tk, bal]
  | .go w, ts => by simp [tk, bal]
  | .times n xs, ts => by
    have e : tk (.times n xs) ++ ts = .op n :: (tks xs ++ (.cl :: ts)) := by simp [tk]
    rw [e]
    simp only [bal, bal_tks xs (.cl :: ts)]
    omega
theorem bal_tks : ∀ (xs : List It) (ts : List Tok), bal (tks xs ++ ts) = bal ts
  | [], ts => by simp [tks]
  | x :: r, ts => by
    have e : tks (x :: r) ++ ts = tk x ++ (tks r ++ ts) := by simp [tks]
    rw [e, bal_tk x, bal_tks r ts]
end
mutual
theorem wf_tk : ∀ (x : It) (ts : List Tok), Wf ts → Wf (tk x ++ ts)
  | .say w, ts, h => ⟨by simpa [bal] using h.bal, h⟩
  | .press w, ts, h => ⟨by simpa [bal] using h.bal, h⟩
  | .go w, ts, h => ⟨by simpa [bal] using h.bal, h⟩
  | .times n xs, ts, h => by
    have e : tk (.times n xs) ++ ts = .op n :: (tks xs ++ (.cl :: ts)) := by simp [tk]
    have hb := h.bal
    rw [e]
    refine ⟨?_, wf_tks xs (.cl :: ts) ⟨by simp only [bal]; omega, h⟩⟩
    simp only [bal, bal_tks xs (.cl :: ts)]
    omega
theorem wf_tks : ∀ (xs : List It) (ts : List Tok), Wf ts → Wf (tks xs ++ ts)
  | [], ts, h => by simpa [tks] using h
  | x :: r, ts, h => by
    have e : tks (x :: r) ++ ts = tk x ++ (tks r ++ ts) := by simp [tks]
    rw [e]
    exact wf_tk x _ (wf_tks r ts h)
end
mutual
theorem ok_tk : ∀ (x : It), okI x = true → ∀ t ∈ tk x, okT t
  | .say w, h, t, ht => by simp only [tk, List.mem_singleton] at ht; subst ht; exact h
  | .press w, h, t, ht => by simp only [tk, List.mem_singleton] at ht; subst ht; exact h
  | .go w, h, t, ht => by simp only [tk, List.mem_singleton] at ht; subst ht; exact h
  | .times n xs, h, t, ht => by
    simp only [okI, Bool.and_eq_true, decide_eq_true_eq] at h
    simp only [tk, List.mem_cons, List.mem_append, List.not_mem_nil, or_false] at ht
    rcases ht with rfl | ht | rfl
    · exact h.1
    · exact ok_tks xs h.2.2 t ht
    · trivial
theorem ok_tks : ∀ (xs : List It), okIs xs = true → ∀ t ∈ tks xs, okT t
  | [], _, t, ht => by simp [tks] at ht
  | x :: r, h, t, ht => by
    simp only [okIs, Bool.and_eq_true] at h
    simp only [tks, List.mem_append] at ht
    rcases ht with ht | ht
    · exact ok_tk x h.1 t ht
    · exact ok_tks r h.2 t ht
end
/-- behind a word no letter comes -/
theorem rem_head : ∀ (ts : List Tok) (c : Nat) (t : List Nat), (rem ts).2 = c :: t → c = 41 ∨ c = 32
  | [], c, t, h => by simp [rem] at h
  | .cl :: ts, c, t, h => by simp [rem] at h; exact .inl h.1.symm
  | .op n :: ts, c, t, h => by simp [rem] at h; exact .inr h.1.symm
  | .say w :: ts, c, t, h => by simp [rem] at h; exact .inr h.1.symm
  | .press w :: ts, c, t, h => by simp [rem] at h; exact .inr h.1.symm
  | .go w :: ts, c, t, h => by simp [rem] at h; exact .inr h.1.symm
/-- where an item comes next -/
theorem rem_true {t : Tok} {ts : List Tok} (h : t ≠ .cl) : (rem (t :: ts)).1 = tokT t ++ (if isOp t = true then (if isCl ts = true then (rem ts).2 else (rem ts).1) else (rem ts).2) ∧ (rem (t :: ts)).2 = 32 :: (rem (t :: ts)).1 := by
  cases t <;> simp [rem, tokT, isOp] at h ⊢
/-- an item does not begin with a closing parenthesis -/
theorem rem_first {t : Tok} {ts : List Tok} (h : t ≠ .cl) (ho : okT t) : ∃ c r, (rem (t :: ts)).1 = c :: r ∧ c ≠ 41 := by
  cases t with
  | say w => exact ⟨33, _, by simp [rem, tokT]; rfl, by decide⟩
  | go w => exact ⟨64, _, by simp [rem, tokT]; rfl, by decide⟩
  | press w =>
    have hw := isW_all ho
    cases hs : sg w with
    | nil =>
      have := sg_len w
      rw [hs] at this
      simp at this
      omega
    | cons c r =>
      refine ⟨c, r ++ (rem ts).2, by simp [rem, tokT, hs], ?_⟩
      have := hw.2.2 c (by show c ∈ sg w; rw [hs]; exact List.mem_cons_self)
      omega
  | op n =>
    cases hs : dig n with
    | nil => exact absurd hs (dig_ne n ho.1)
    | cons c r =>
      refine ⟨c, _, by simp [rem, hs]; rfl, ?_⟩
      have := dig_all ho.1 c (by rw [hs]; exact List.mem_cons_self)
      omega
  | cl => exact absurd rfl h
/-! ### tokens in the heap -/
inductive TksAt (G : Hp) : List V → List Tok → Prop
  | nil : TksAt G [] []
  | cons {a : Addr} {t : Tok} {vs : List V} {ts : List Tok} (e : G a = some (.tup (tokV t))) (r : TksAt G vs ts) : TksAt G (.ref a :: vs) (t :: ts)
theorem TksAt.kin {H G : Hp} (k : ∀ a vs, H a = some (.tup vs) → G a = some (.tup vs)) : ∀ {vs : List V} {ts : List Tok}, TksAt H vs ts → TksAt G vs ts
  | _, _, .nil => .nil
  | _, _, .cons e r => .cons (k _ _ e) (r.kin k)
theorem TksAt.snoc {G : Hp} : ∀ {vs : List V} {ts : List Tok}, TksAt G vs ts → ∀ {a : Addr} {t : Tok}, G a = some (.tup (tokV t)) → TksAt G (vs ++ [.ref a]) (ts ++ [t])
  | _, _, .nil, _, _, h => .cons h .nil
  | _, _, .cons e r, _, _, h => .cons e (r.snoc h)
theorem TksAt.length {G : Hp} : ∀ {vs : List V} {ts : List Tok}, TksAt G vs ts → vs.length = ts.length
  | _, _, .nil => rfl
  | _, _, .cons _ r => congrArg (· + 1) r.length
theorem TksAt.get {G : Hp} : ∀ {vs : List V} {ts : List Tok}, TksAt G vs ts → ∀ {i : Nat} {v : V}, vs[i]? = some v → ∃ a t, v = .ref a ∧ ts[i]? = some t ∧ G a = some (.tup (tokV t))
  | _, _, .nil, i, v, e => by simp at e
  | _, _, .cons h r, 0, v, e => ⟨_, _, by cases e; rfl, rfl, h⟩
  | _, _, .cons h r, i + 1, v, e => by
    obtain ⟨a, t, h1, h2, h3⟩ := r.get (i := i) (by simpa using e)
    exact ⟨a, t, h1, by simpa using h2, h3⟩
end Kb

namespace Kb
open PySem PySem.Spec PyProof.Rows L2 Mq Rz En StX
/-! ### Times with every way out -/
def isIn : V → Bool
  | .int n => decide (0 ≤ n) && decide (n ≤ 10 ^ 9)
  | _ => false
/-- a value of which it can be asked whether it is an integer -/
def Nb (K : PySem.W.Frag) (H : Hp) (v : V) : Prop := ∃ (t : Value) (b c : Bool), TyX K H v t ∧ PySem.W.kitOne K t (.type "int") = some b ∧ PySem.W.kitOne K t (.type "bool") = some c ∧ ((b && !c) = true → ∃ i, v = .int i) ∧ ((b && !c) = false → isIn v = false)
theorem nb_same {K : PySem.W.Frag} {H G : Hp} {v : V} (h : Nb K H v) (s : Same H G) : Nb K G v := by
  obtain ⟨t, b, c, h1, h2⟩ := h
  exact ⟨t, b, c, ty_same h1 s, h2⟩
theorem Nb.int {K : PySem.W.Frag} {H : Hp} {i : Int} : Nb K H (.int i) := ⟨_, true, false, .base (.int i), kit_ty (by decide +kernel), kit_ty (by decide +kernel), fun _ => ⟨i, rfl⟩, fun e => by cases e⟩
/-- what Times(v, *ys) comes to -/
def TmX (K : PySem.W.Frag) (vs : List V) (H : Hp) (Q : VK) (E : XK) : Prop := ∃ (v : V) (ys : List V) (os : List (Option It)), vs = v :: ys ∧ Nb K H v ∧ Paired (Cd K H) ys os ∧ ys.length ≤ 3000 ∧
  (isIn v = false → ∀ G d, Same H G → G d = none → E (.ref (He.ga K "InvalidItem")) (some d) (upd G d (.xd [("field", .str "number")]))) ∧
  (isIn v = true → ∀ i, noAt os = some i → ∀ G d, Same H G → G d = none → E (.ref (He.ga K "NotAnItem")) (some d) (upd G d (.xd [("index", .int (i : Nat))]))) ∧
  (isIn v = true → noAt os = none → 6 < ys.length → ∀ G d, Same H G → G d = none → E (.ref (He.ga K "TooMany")) (some d) (upd G d (.xd [("limit", .int 6)]))) ∧
  (isIn v = true → ∀ its, os = its.map some → ys.length ≤ 6 → 2 ≤ lvL its → ∀ G d, Same H G → G d = none → E (.ref (He.ga K "TooDeep")) (some d) (upd G d (.xd [("limit", .int 2)]))) ∧
  (∀ n its, v = .int n → isIn v = true → os = its.map some → ys.length ≤ 6 → lvL its ≤ 1 → ∀ G a, Same H G → H a = none → ItAt K G (.ref a) (.times n its) → Q (.ref a) G)
def spTimesX (K : PySem.W.Frag) : Sp := fun vs H Q E => ∃ (x dx t : Addr) (v : V) (ys : List V) (os : List (Option It)), vs = [.ref x, v, .ref t] ∧ H x = some (.ins (cT K) dx []) ∧ H t = some (.tup ys) ∧ Nb K H v ∧ Paired (Cd K H) ys os ∧ ys.length ≤ 3000 ∧
  (isIn v = false → ∀ G d, Butx x H G → G d = none → E (.ref (He.ga K "InvalidItem")) (some d) (upd G d (.xd [("field", .str "number")]))) ∧
  (isIn v = true → ∀ i, noAt os = some i → ∀ G d, Butx x H G → G d = none → E (.ref (He.ga K "NotAnItem")) (some d) (upd G d (.xd [("index", .int (i : Nat))]))) ∧
  (isIn v = true → noAt os = none → 6 < ys.length → ∀ G d, Butx x H G → G d = none → E (.ref (He.ga K "TooMany")) (some d) (upd G d (.xd [("limit", .int 6)]))) ∧
  (isIn v = true → ∀ its, os = its.map some → ys.length ≤ 6 → 2 ≤ lvL its → ∀ G d, Butx x H G → G d = none → E (.ref (He.ga K "TooDeep")) (some d) (upd G d (.xd [("limit", .int 2)]))) ∧
  (∀ n its, v = .int n → isIn v = true → os = its.map some → ys.length ≤ 6 → lvL its ≤ 1 → ∀ G b, Butx x H G → BdAt K (upd G x (.ins (cT K) dx [("number", .int n), ("body", .ref b)])) b its → H b = none → Q .non (upd G x (.ins (cT K) dx [("number", .int n), ("body", .ref b)])))
abbrev spTimesXR (K : PySem.W.Frag) : Sp := fun vs H Q E => ∃ ws rest, vs = ws ++ rest ∧ ws.length = 2 ∧ rest.length ≤ sizeLine ∧ ∀ p, H p = Option.none → spTimesX K (ws ++ [V.ref p]) (upd H p (.tup rest)) Q E
theorem mk_timesX {K : PySem.W.Frag} {vs : List V} {H : Hp} {Q : VK} {E : XK} (h : TmX K vs H Q E) : ∀ x dx, H x = none → H dx = none → dx ≠ x → spTimesXR K (.ref x :: vs) (upd (upd H dx (.own x)) x (.ins (cT K) dx [])) (fun v H2 => v = .non ∧ Q (.ref x) H2) E := by
  intro x dx h1 h2 h3
  obtain ⟨v, ys, os, rfl, hN, hP, hl, q1, q2, q3, q4, q5⟩ := h
  refine ⟨[.ref x, v], ys, rfl, rfl, (by rw [sizeLine_eq]; omega), fun t ht => ?_⟩
  obtain ⟨ntx, ht1⟩ := upd_none ht
  have s0 : Same H (upd (upd H dx (.own x)) x (.ins (cT K) dx [])) := fun b u e => by
    rw [upd_ne (ne_of_none e h1), upd_ne (ne_of_none e h2)]
    exact e
  have s1 : Same H (upd (upd (upd H dx (.own x)) x (.ins (cT K) dx [])) t (.tup ys)) := s0.trans (same_new ht)
  have sG : ∀ {G : Hp}, Butx x (upd (upd (upd H dx (.own x)) x (.ins (cT K) dx [])) t (.tup ys)) G → Same H G := fun {G} b c u e => b c u (s1 c u e) (ne_of_none e h1)
  refine ⟨x, dx, t, v, ys, os, rfl, ?_, upd_same, nb_same hN s1, Paired.imp' (fun _ _ z => z.same s1) hP, hl, fun e G d hb hd => q1 e G d (sG hb) hd, fun e i hi G d hb hd => q2 e i hi G d (sG hb) hd, fun e n6 l6 G d hb hd => q3 e n6 l6 G d (sG hb) hd, fun e its ho l6 lv G d hb hd => q4 e its ho l6 lv G d (sG hb) hd, fun n its ev e ho l6 lv G b hb hB hbn => ⟨rfl, ?_⟩⟩
  · rw [upd_ne (Ne.symm ntx), upd_same]
  · exact q5 n its ev e ho l6 lv _ x (same_at (sG hb) h1) h1 (.times upd_same hB lv)
def tTmX (K : PySem.W.Frag) (E : XK) (tf : TE) (t : TA) : TE := fun σ H Q => tf σ H fun y G => y = .ref (cT K) ∧ t σ G fun vs G2 => TmX K vs G2 Q E
section
variable {X : Cx} {k : Nat} {f : Addr} {E : XK} {fe e : Expr} {es : List Expr} {te tf : TE} {t : TA} {p pos : Pos}
theorem pe_timesXS (hf : PE X fe tf) (mf : Mono tf) (mt : MonoA t) (M : Mk X.K (cT X.K) f) (F : FnR X.prog X.w X.K X.mg X.base (LX X.prog X.w) k f (spTimesXR X.K)) (hr : Room (k + 1) X.A) (hx : Passes (LX X.prog X.w) X E) (ha : PA X (e :: es) t)
    (ht : eval (.Call fe (e :: es) [] pos) X.env = (do callWith pos (← eval fe X.env) [] (backTo pos (starEach (e :: es) X.env)) (backToKw pos (keywordEach [] X.env))) := by rfl)
    (he : starEach (e :: es) X.env = (false, eval e X.env) :: starEach es X.env := by rfl) (hst : (backTo pos (starEach es X.env)).any (·.1) = true := by rfl) : PE X (.Call fe (e :: es) [] pos) (tTmX X.K E tf t) :=
  pe_weak (pe_mkC2 (E := E) hf M F hr hx ha ht he hst) fun σ H Q h => mf σ H _ _ (fun y G ⟨ey, q⟩ => ⟨ey, mt σ G _ _ (fun vs G2 hb x dx h1 h2 h3 => mk_timesX hb x dx h1 h2 h3) q⟩) h
theorem pe_timesX (hf : PE X fe tf) (mf : Mono tf) (mt : MonoA t) (M : Mk X.K (cT X.K) f) (F : FnR X.prog X.w X.K X.mg X.base (LX X.prog X.w) k f (spTimesXR X.K)) (hr : Room (k + 1) X.A) (hx : Passes (LX X.prog X.w) X E) (ha : PA X (e :: es) t)
    (ht : eval (.Call fe (e :: es) [] pos) X.env = (do callWith pos (← eval fe X.env) [] (backTo pos (starEach (e :: es) X.env)) (backToKw pos (keywordEach [] X.env))) := by rfl)
    (he : starEach (e :: es) X.env = (false, eval e X.env) :: starEach es X.env := by rfl) (hpl : (backTo pos (starEach es X.env)).any (·.1) = false := by rfl) : PE X (.Call fe (e :: es) [] pos) (tTmX X.K E tf t) :=
  pe_weak (pe_mkC hf M F hr hx ha ht he hpl) fun σ H Q h => mf σ H _ _ (fun y G ⟨ey, q⟩ => ⟨ey, mt σ G _ _ (fun vs G2 hb x dx h1 h2 h3 => mk_timesX hb x dx h1 h2 h3) q⟩) h
end
/-- a Times that is right -/
theorem tmX_ok {K : PySem.W.Frag} {n : Int} {ys : List V} {its : List It} {H : Hp} {Q : VK} {E : XK} (hI : ItsAt K H ys its) (hl : ys.length ≤ 6) (n0 : 0 ≤ n) (n1 : n ≤ 10 ^ 9) (hlv : lvL its ≤ 1) (q : ∀ G a, Same H G → H a = none → ItAt K G (.ref a) (.times n its) → Q (.ref a) G) : TmX K (.int n :: ys) H Q E := by
  have hin : isIn (.int n) = true := by
    show (decide (0 ≤ n) && decide (n ≤ 10 ^ 9)) = true
    rw [decide_eq_true n0, decide_eq_true n1] <;> rfl
  have hno := noAt_its its
  refine ⟨.int n, ys, its.map some, rfl, .int, paired_of hI, by omega, fun e => absurd (hin.symm.trans e) (by decide), fun _ i hi => ?_, fun _ _ h => absurd h (by omega), fun _ its2 e _ lv => ?_, fun n2 its2 en _ e _ lv G a sm ha hA => ?_⟩
  · rw [hno] at hi
    cases hi
  · rw [← map_some_inj e] at lv
    omega
  · cases en
    rw [← map_some_inj e] at hA
    exact q G a sm ha hA
section
variable {P : Program} {w : World} {K : PySem.W.Frag} {mg : Str → Option Value} {base : Heap}
theorem ok_timesX {f : Addr} {fd fdg : FuncData} (F : FunD K "__init__" "Times.__init__" (defArgs s_Times_init) (defBody s_Times_init) (defScope s_Times_init) [] [] f fd) (T : Tc P K mg) (Wi : Of P w K mg base 2 "is_within" (spWithin K))
    (B : FnR P w K mg base (LX P w) 4 (He.ma K (cB K) "__init__") (spBodyR K)) (D : FnOk P w K mg base (LX P w) 1 (He5.wf K (cB K) "property" "depth") fdg ["self"] (spDepth K)) (bD : Binds K fdg ["self"] []) : FnR P w K mg base (LX P w) 6 f (spTimesXR K) := by
  obtain ⟨oc, od, dV, kV, doc, pm, an, cdv, ct, osl, rfl, lk, hcd, hD, hK⟩ := F.ex
  obtain ⟨_, rfl⟩ | ⟨e, _⟩ := hD
  rotate_left
  · exact absurd rfl e
  refine StX.fn_star (ps := ["self", "number"]) (pv := "items") (k := 5) lk hcd sc_Times_init StX.cxUp (StX.bind_star2 (B := fun us => bindArgs (PySem.W.fnOf "__init__" "Times.__init__" (defArgs s_Times_init) (defBody s_Times_init) (defScope s_Times_init) .none kV doc pm an cdv ct) ⟨us, []⟩) (fun a b => by rfl) (fun a b r rs => by rfl)) fun A outer s H vs Q E hr h => ?_
  obtain ⟨g1, gn⟩ := T.cs.number
  obtain ⟨g2, gd⟩ := T.cs.depth
  have nd := sc_Times_init.nd
  refine ⟨_, pss_cons (ps_if (pt_not (pt_val (pe_of (E := E0) Wi hr rfl passL (pa_cons (pv 1) (pa_cons pe_int (pa_cons (pe_glob (v := .int (10 ^ 9)) rfl gn ⟨_, rfl⟩) pa_nil)))))) (pss_one (ps_raise1 rfl (takes_of (E := E) rfl rfl rfl rfl) T.eI.er T.eI.rc T.eI.rt hr rfl (pa_cons pe_str pa_nil))) pss_nil)
    (pss_cons (ps_set (i := 3) nd rfl (Or.inl rfl) (pe_bodyS (E := E) (pe_glob (v := .ref (cB K)) rfl (T.g "Body" (by decide)) rfl) mono_c mono_v (T.mkr "Body" (by decide)) B hr (passE (takes_of (E := E) rfl rfl rfl rfl) fun _ _ _ _ z => z) (pv 2)))
    (pss_cons (ps_if (pt_cmpR op_ge (pe_prop (E := E0) (pv 3) (T.kl "Body" (by decide)).cl T.dep D (hr.mono (by decide)) bD .nil passL rfl) (pe_glob (v := .int 2) rfl gd ⟨_, rfl⟩) (nomark _)) (pss_one (ps_raise1 rfl (takes_of (E := E) rfl rfl rfl rfl) T.eD.er T.eD.rc T.eD.rt hr rfl (pa_cons (pe_glob (v := .int 2) rfl gd ⟨_, rfl⟩) pa_nil))) pss_nil)
    (pss_cons (ps_fld (pv 0) (pv 1) rfl) (pss_one (ps_fld (pv 0) (pv 3) rfl))))), ?_⟩
  obtain ⟨x, dx, t, v, ys, os, rfl, hx, ht, ⟨ty, b, c, hT, hb, hc, b1, b0⟩, hP, hl, q1, q2, q3, q4, q5⟩ := h
  refine ⟨_, rfl, _, 0, 10 ^ 9, _, b, c, rfl, hT, hb, hc, (fun e => ⟨_, rfl, ifT (by rfl) ⟨_, rfl, ?_⟩⟩), fun e => ?_⟩
  · exact fun d hd => q1 (b0 e) H d (.of_same fun _ _ z => z) hd
  · obtain ⟨n, rfl⟩ := b1 e
    refine ⟨n, rfl, _, rfl, ?_⟩
    cases e2 : (decide (0 ≤ n) && decide (n ≤ 10 ^ 9)) with
    | false => exact ifT (by rfl) ⟨_, rfl, fun d hd => q1 e2 H d (.of_same fun _ _ z => z) hd⟩
    | true =>
    have e : isIn (.int n) = true := e2
    refine ifF (by rfl) ?_
    refine ⟨rfl, _, rfl, t, ys, rfl, .inl (SqT.of ht), os, hP, hl, fun i hi G d sm hd => q2 e i hi G d (.of_same sm) hd, fun hn h6 G d sm hd => q3 e hn h6 G d (.of_same sm) hd, fun its ho l6 G b sm hbn hB => ?_⟩
    obtain ⟨dxb, tb, vsb, eb, _⟩ := hB.at_
    refine ⟨_, rfl, b, dxb, _, rfl, eb, b, its, rfl, hB, _, _, rfl, rfl, _, rfl, ?_⟩
    by_cases hlv : 2 ≤ lvL its
    · exact ifT (by simp; omega) ⟨_, rfl, fun d hd => q4 e its ho l6 hlv G d (.of_same sm) hd⟩
    refine ifF (by simp; omega) ?_
    refine ⟨_, rfl, _, rfl, x, _, dx, _, rfl, sm _ _ hx, (T.kl "Times" (by decide)).cl, T.na ("Times", "number") (by decide), by decide, ?_⟩
    refine ⟨_, rfl, _, rfl, x, _, dx, _, rfl, upd_same, (T.kl "Times" (by decide)).cl, T.na ("Times", "body") (by decide), (by show 1 < 1000; decide), ?_⟩
    rw [upd_upd]
    exact q5 n its rfl e ho l6 (by omega) G b (.of_same sm) (hB.kin (.at_ (sm _ _ hx) (fun _ _ _ _ z => by cases z) (fun _ z => by cases z))) hbn
def spTimesOfX (K : PySem.W.Frag) : Sp := fun vs H Q E => ∃ (v : V) (l : Addr) (ys : List V), vs = [.ref (cT K), v, .ref l] ∧ SqL K H l ys ∧ TmX K (v :: ys) H Q E
theorem ok_timesOfX {f : Addr} {fd : FuncData} (F : FunD K "of" "Times.of" (defArgs s_Times_of) (defBody s_Times_of) (defScope s_Times_of) [] [] f fd) (T : Tc P K mg) (I : FnR P w K mg base (LX P w) 6 (He.ma K (cT K) "__init__") (spTimesXR K)) :
    FnOk P w K mg base (LX P w) 8 f fd ["cls", "number", "items"] (spTimesOfX K) := by
  refine F.ok sc_Times_of (fun vs H Q E h => ?_) (fun cdv A outer s H vs Q E hr h => ?_)
  · obtain ⟨n, l, ys, rfl, _⟩ := h
    rfl
  · obtain ⟨n, l, ys, rfl, hl, ho⟩ := h
    refine ⟨_, pss_one (ps_ret (pe_timesXS (E := E) (pv 0) mono_v (mono_cons mono_v (mono_star mono_v mono_nil)) (T.mkr "Times" (by decide)) I hr (passE (takes_of (E := E) rfl rfl rfl rfl) fun _ _ _ _ z => z) (pa_cons (pv 1) (pa_star (pv 2) pa_nil)))), ?_⟩
    refine ⟨_, rfl, rfl, _, rfl, _, rfl, l, ys, rfl, .inr hl, ?_⟩
    show TmX K (n :: (ys ++ [])) H Q E
    rw [List.append_nil]
    exact ho
/-- the promise of right items alone -/
theorem times_of_right {k : Nat} {f : Addr} (F : FnR P w K mg base (LX P w) k f (spTimesOfX K)) : FnR P w K mg base (LX P w) k f (spTimesOf K) := F.imp fun vs H Q E ⟨n, l, ys, ev, hl, n2, ys2, its, e2, hI, l6, n0, n1, hlv, q⟩ => by
  cases e2
  exact ⟨_, l, ys, ev, hl, tmX_ok hI l6 n0 n1 hlv q⟩
end
end Kb

namespace Kb
open PySem PySem.Spec PyProof.Rows L2 Mq
/-! ### a value of any kind -/
def menu : List PyData := [.none, .bool true, .bool false, .int 0, .int 1, .int 2, .int 3, .int (-1), .int (10 ^ 9), .int (10 ^ 9 + 1), .str "", .str "a", .str "A", .str "ab", .str "abcdefghi", .str "a b", .str "!a", .tuple [], .tuple [.str "a"], .list [], .list [.str "a"], .list [.int 1], .dict [], .dict [(.str "a", .int 1)], .tuple [.int 1, .int 2], .tuple [.str "m", .str "a"], .tuple [.none], .tuple [.str "a", .int 1], .list [.list [.str "a"]], .str "2(a)"]
def spAny (K : PySem.W.Frag) : Sp := fun vs H Q _ => ∃ (d lc : Addr) (c : Int), vs = [.ref d] ∧ PenAt H d lc c ∧ c ≤ 2 ^ 60 ∧
  ∀ (v : V) (pd : PyData) (H' : Hp), pd ∈ menu → Gd.Vd K H' v pd → PenAt H' d lc (c + 1) → But d H H' → Q v H'
section
variable {P : Program} {w : World} {K : PySem.W.Frag} {mg : Str → Option Value} {base : Heap}
theorem ok_any {f : Addr} {fd : FuncData} (F : FunD K "_law_any_value" "_law_any_value" (defArgs s__law_any_value) (defBody s__law_any_value) (defScope s__law_any_value) [] [] f fd) (C : Of P w K mg base 2 "_law_pick" (spPick K)) :
    FnOk P w K mg base (LX P w) 3 f fd ["_law_pen_here"] (spAny K) := by
  refine F.ok sc__law_any_value (fun vs H Q E h => ?_) (fun cdv A outer s H vs Q E hr h => ?_)
  · obtain ⟨d, lc, c, rfl, _⟩ := h
    rfl
  · obtain ⟨d, lc, c, rfl, hP, hc, k⟩ := h
    refine ⟨_, PSs.nox (pss_cons (ps_set (i := 1) sc__law_any_value.nd rfl (Or.inl rfl) (pe_lst (pa_cons pe_non (pa_cons pe_bl (pa_cons pe_bl (pa_cons pe_int (pa_cons pe_int (pa_cons pe_int (pa_cons pe_int (pa_cons (pe_un un_neg pe_int) (pa_cons (pe_op op_pow pe_int pe_int) (pa_cons (pe_op op_add (pe_op op_pow pe_int pe_int) pe_int) (pa_cons pe_str (pa_cons pe_str (pa_cons pe_str (pa_cons pe_str (pa_cons pe_str (pa_cons pe_str (pa_cons pe_str pa_nil))))))))))))))))))) (pss_cons (ps_set (i := 1) sc__law_any_value.nd rfl (Or.inl rfl) (pe_op op_cat (pv 1) (pe_lst (pa_cons (pe_tup pa_nil) (pa_cons (pe_tup (pa_cons pe_str pa_nil)) (pa_cons (pe_lst pa_nil) (pa_cons (pe_lst (pa_cons pe_str pa_nil)) (pa_cons (pe_lst (pa_cons pe_int pa_nil)) (pa_cons pe_dnewK (pa_cons (pe_disp (pps_cons pe_str pe_int pps_nil) (by rfl) (by rfl) (fun z => by cases z) (by decide)) (pa_cons (pe_tup (pa_cons pe_int (pa_cons pe_int pa_nil))) (pa_cons (pe_tup (pa_cons pe_str (pa_cons pe_str pa_nil))) (pa_cons (pe_tup (pa_cons pe_non pa_nil)) (pa_cons (pe_tup (pa_cons pe_str (pa_cons pe_int pa_nil))) (pa_cons (pe_lst (pa_cons (pe_lst (pa_cons pe_str pa_nil)) pa_nil)) (pa_cons pe_str pa_nil)))))))))))))))) (pss_one (ps_ret (pe_of (E := E0) C hr rfl passL (pa_cons (pv 0) (pa_cons (pv 1) pa_nil))))))), ?_⟩
    refine ⟨_, rfl, _, _, rfl, rfl, ⟨by decide, by decide, by decide⟩, _, _, rfl, rfl, ⟨by decide, by decide, by decide⟩, _, _, rfl, rfl, sz 17 (by decide), fun a0 h0 => ?_⟩
    refine ⟨_, rfl, sz 0 (by decide), fun a1 h1 => ?_⟩
    refine ⟨sz 1 (by decide), fun a2 h2 => ?_⟩
    refine ⟨sz 0 (by decide), fun a3 h3 => ?_⟩
    refine ⟨sz 1 (by decide), fun a4 h4 => ?_⟩
    refine ⟨sz 1 (by decide), fun a5 h5 => ?_⟩
    intro a6 h6
    intro a7 h7
    refine ⟨upd_same, [(Sum.inr "a", .int 1)], rfl, by decide, ?_⟩
    refine ⟨sz 2 (by decide), fun a8 h8 => ?_⟩
    refine ⟨sz 2 (by decide), fun a9 h9 => ?_⟩
    refine ⟨sz 1 (by decide), fun a10 h10 => ?_⟩
    refine ⟨sz 2 (by decide), fun a11 h11 => ?_⟩
    refine ⟨sz 1 (by decide), fun a12 h12 => ?_⟩
    refine ⟨sz 1 (by decide), fun a13 h13 => ?_⟩
    refine ⟨sz 13 (by decide), fun a14 h14 => ?_⟩
    refine ⟨a0, a14, _, _, rfl, rfl, (same_new h14 _ _ (same_new h13 _ _ (same_new h12 _ _ (same_new h11 _ _ (same_new h10 _ _ (same_new h9 _ _ (same_new h8 _ _ (same_new2 h7 _ _ (same_new h6 _ _ (same_new h5 _ _ (same_new h4 _ _ (same_new h3 _ _ (same_new h2 _ _ (same_new h1 _ _ upd_same)))))))))))))), upd_same, (by simp; rw [sizeLine_eq]; omega), fun a15 h15 => ?_⟩
    have sm : ∀ o, Same H (upd _ a15 o) := fun o => fun b u e => (same_new h15 _ _ (same_new h14 _ _ (same_new h13 _ _ (same_new h12 _ _ (same_new h11 _ _ (same_new h10 _ _ (same_new h9 _ _ (same_new h8 _ _ (same_new2 h7 _ _ (same_new h6 _ _ (same_new h5 _ _ (same_new h4 _ _ (same_new h3 _ _ (same_new h2 _ _ (same_new h1 _ _ (same_new h0 _ _ e))))))))))))))))
    refine ⟨_, rfl, _, rfl, d, lc, .ref a15, c, _, rfl, hP.same (sm _), hc, .lst (SqL.of upd_same), (by simp), (by simp), fun v H1 hv hP1 hb => ?_⟩
    obtain ⟨ns0, n0, r0, hd0, _⟩ := id hP
    have hd1 := fun o => sm o _ _ hd0
    have g1 := but_at hb (hd1 _) (o := .tup []) (same_new h15 _ _ (same_new h14 _ _ (same_new h13 _ _ (same_new h12 _ _ (same_new h11 _ _ (same_new h10 _ _ (same_new h9 _ _ (same_new h8 _ _ (same_new2 h7 _ _ (same_new h6 _ _ (same_new h5 _ _ (same_new h4 _ _ (same_new h3 _ _ (same_new h2 _ _ upd_same)))))))))))))) (by intro z; cases z)
    have g2 := but_at hb (hd1 _) (o := .tup [.str "a"]) (same_new h15 _ _ (same_new h14 _ _ (same_new h13 _ _ (same_new h12 _ _ (same_new h11 _ _ (same_new h10 _ _ (same_new h9 _ _ (same_new h8 _ _ (same_new2 h7 _ _ (same_new h6 _ _ (same_new h5 _ _ (same_new h4 _ _ (same_new h3 _ _ upd_same))))))))))))) (by intro z; cases z)
    have g3 := but_at hb (hd1 _) (o := .lst []) (same_new h15 _ _ (same_new h14 _ _ (same_new h13 _ _ (same_new h12 _ _ (same_new h11 _ _ (same_new h10 _ _ (same_new h9 _ _ (same_new h8 _ _ (same_new2 h7 _ _ (same_new h6 _ _ (same_new h5 _ _ (same_new h4 _ _ upd_same)))))))))))) (by intro z; cases z)
    have g4 := but_at hb (hd1 _) (o := .lst [.str "a"]) (same_new h15 _ _ (same_new h14 _ _ (same_new h13 _ _ (same_new h12 _ _ (same_new h11 _ _ (same_new h10 _ _ (same_new h9 _ _ (same_new h8 _ _ (same_new2 h7 _ _ (same_new h6 _ _ (same_new h5 _ _ upd_same))))))))))) (by intro z; cases z)
    have g5 := but_at hb (hd1 _) (o := .lst [.int 1]) (same_new h15 _ _ (same_new h14 _ _ (same_new h13 _ _ (same_new h12 _ _ (same_new h11 _ _ (same_new h10 _ _ (same_new h9 _ _ (same_new h8 _ _ (same_new2 h7 _ _ (same_new h6 _ _ upd_same)))))))))) (by intro z; cases z)
    have g6 := but_at hb (hd1 _) (o := .dK []) (same_new h15 _ _ (same_new h14 _ _ (same_new h13 _ _ (same_new h12 _ _ (same_new h11 _ _ (same_new h10 _ _ (same_new h9 _ _ (same_new h8 _ _ (same_new2 h7 _ _ upd_same))))))))) (by intro z; cases z)
    have g7 := but_at hb (hd1 _) (o := .dK [(Sum.inr "a", .int 1)]) (same_new h15 _ _ (same_new h14 _ _ (same_new h13 _ _ (same_new h12 _ _ (same_new h11 _ _ (same_new h10 _ _ (same_new h9 _ _ (same_new h8 _ _ upd_same)))))))) (by intro z; cases z)
    have g8 := but_at hb (hd1 _) (o := .tup [.int 1, .int 2]) (same_new h15 _ _ (same_new h14 _ _ (same_new h13 _ _ (same_new h12 _ _ (same_new h11 _ _ (same_new h10 _ _ (same_new h9 _ _ upd_same))))))) (by intro z; cases z)
    have g9 := but_at hb (hd1 _) (o := .tup [.str "m", .str "a"]) (same_new h15 _ _ (same_new h14 _ _ (same_new h13 _ _ (same_new h12 _ _ (same_new h11 _ _ (same_new h10 _ _ upd_same)))))) (by intro z; cases z)
    have g10 := but_at hb (hd1 _) (o := .tup [.non]) (same_new h15 _ _ (same_new h14 _ _ (same_new h13 _ _ (same_new h12 _ _ (same_new h11 _ _ upd_same))))) (by intro z; cases z)
    have g11 := but_at hb (hd1 _) (o := .tup [.str "a", .int 1]) (same_new h15 _ _ (same_new h14 _ _ (same_new h13 _ _ (same_new h12 _ _ upd_same)))) (by intro z; cases z)
    have g12 := but_at hb (hd1 _) (o := .lst [.str "a"]) (same_new h15 _ _ (same_new h14 _ _ (same_new h13 _ _ upd_same))) (by intro z; cases z)
    have g13 := but_at hb (hd1 _) (o := .lst [.ref a12]) (same_new h15 _ _ (same_new h14 _ _ upd_same)) (by intro z; cases z)
    have out : ∀ (pd : PyData), pd ∈ menu → Gd.Vd K H1 v pd → Q v H1 := fun pd h1 h2 => k v pd H1 h1 h2 hP1 ((But.of_same (sm _)).trans hb)
    rcases List.mem_append.mp hv with hv | hv
    · simp only [List.mem_cons, List.not_mem_nil, or_false] at hv
      rcases hv with rfl | rfl | rfl | rfl | rfl | rfl | rfl | rfl | rfl | rfl | rfl | rfl | rfl | rfl | rfl | rfl | rfl
      · exact out _ (List.mem_of_getElem? (i := 0) rfl) (.inl .non)
      · exact out _ (List.mem_of_getElem? (i := 1) rfl) (.inl (.bl true))
      · exact out _ (List.mem_of_getElem? (i := 2) rfl) (.inl (.bl false))
      · exact out _ (List.mem_of_getElem? (i := 3) rfl) (.inl (.int _))
      · exact out _ (List.mem_of_getElem? (i := 4) rfl) (.inl (.int _))
      · exact out _ (List.mem_of_getElem? (i := 5) rfl) (.inl (.int _))
      · exact out _ (List.mem_of_getElem? (i := 6) rfl) (.inl (.int _))
      · exact out _ (List.mem_of_getElem? (i := 7) rfl) (.inl (.int _))
      · exact out _ (List.mem_of_getElem? (i := 8) rfl) (.inl (.int _))
      · exact out _ (List.mem_of_getElem? (i := 9) rfl) (.inl (.int _))
      · exact out _ (List.mem_of_getElem? (i := 10) rfl) (.inl (.str _))
      · exact out _ (List.mem_of_getElem? (i := 11) rfl) (.inl (.str _))
      · exact out _ (List.mem_of_getElem? (i := 12) rfl) (.inl (.str _))
      · exact out _ (List.mem_of_getElem? (i := 13) rfl) (.inl (.str _))
      · exact out _ (List.mem_of_getElem? (i := 14) rfl) (.inl (.str _))
      · exact out _ (List.mem_of_getElem? (i := 15) rfl) (.inl (.str _))
      · exact out _ (List.mem_of_getElem? (i := 16) rfl) (.inl (.str _))
    · simp only [List.mem_cons, List.not_mem_nil, or_false] at hv
      rcases hv with rfl | rfl | rfl | rfl | rfl | rfl | rfl | rfl | rfl | rfl | rfl | rfl | rfl
      · exact out _ (List.mem_of_getElem? (i := 17) rfl) (.inl (.tup (.inl (.inl g1)) .nil))
      · exact out _ (List.mem_of_getElem? (i := 18) rfl) (.inl (.tup (.inl (.inl g2)) (.cons (.str _) .nil)))
      · exact out _ (List.mem_of_getElem? (i := 19) rfl) (.inl (.lst (.inl (.inl g3)) .nil))
      · exact out _ (List.mem_of_getElem? (i := 20) rfl) (.inl (.lst (.inl (.inl g4)) (.cons (.str _) .nil)))
      · exact out _ (List.mem_of_getElem? (i := 21) rfl) (.inl (.lst (.inl (.inl g5)) (.cons (.int _) .nil)))
      · exact out _ (List.mem_of_getElem? (i := 22) rfl) (.inr (.inl ⟨a6, rfl, g6, rfl⟩))
      · exact out _ (List.mem_of_getElem? (i := 23) rfl) (.inr (.inr ⟨a7, "a", 1, rfl, g7, rfl⟩))
      · exact out _ (List.mem_of_getElem? (i := 24) rfl) (.inl (.tup (.inl (.inl g8)) (.cons (.int _) (.cons (.int _) .nil))))
      · exact out _ (List.mem_of_getElem? (i := 25) rfl) (.inl (.tup (.inl (.inl g9)) (.cons (.str _) (.cons (.str _) .nil))))
      · exact out _ (List.mem_of_getElem? (i := 26) rfl) (.inl (.tup (.inl (.inl g10)) (.cons .non .nil)))
      · exact out _ (List.mem_of_getElem? (i := 27) rfl) (.inl (.tup (.inl (.inl g11)) (.cons (.str _) (.cons (.int _) .nil))))
      · exact out _ (List.mem_of_getElem? (i := 28) rfl) (.inl (.lst (.inl (.inl g13)) (.cons (.lst (.inl (.inl g12)) (.cons (.str _) .nil)) .nil)))
      · exact out _ (List.mem_of_getElem? (i := 29) rfl) (.inl (.str _))
end
end Kb

namespace Kb
open PySem PySem.Spec PyProof.Rows L2 Mq
/-! ### the law's automaton, in plain Lean -/
inductive As where
  | beg | opn | mrk | wrd (n : Nat) | num (n : Nat) | zer | don
  deriving DecidableEq
def nx : As → Nat → Nat → Option (As × Nat)
  | .beg, d, c => if c = 33 ∨ c = 64 then some (.mrk, d) else if isL c = true then some (.wrd 1, d) else if isD c = true then some (if c = 48 then .zer else .num 1, d) else none
  | .opn, d, c => if c = 33 ∨ c = 64 then some (.mrk, d) else if isL c = true then some (.wrd 1, d) else if isD c = true then some (if c = 48 then .zer else .num 1, d) else if c = 41 ∧ 0 < d then some (.don, d - 1) else none
  | .mrk, d, c => if isL c = true then some (.wrd 1, d) else none
  | .wrd n, d, c => if isL c = true ∧ n < 8 then some (.wrd (n + 1), d) else if c = 32 then some (.beg, d) else if c = 41 ∧ 0 < d then some (.don, d - 1) else none
  | .num n, d, c => if isD c = true ∧ n < 10 then some (.num (n + 1), d) else if c = 40 then some (.opn, d + 1) else none
  | .zer, d, c => if c = 40 then some (.opn, d + 1) else none
  | .don, d, c => if c = 32 then some (.beg, d) else if c = 41 ∧ 0 < d then some (.don, d - 1) else none
def fin : As → Bool
  | .wrd _ => true
  | .don => true
  | _ => false
/-- where the automaton dies, or the length where the end is none -/
def wr : List Nat → As → Nat → Nat → Option Nat
  | [], s, d, k => if fin s = true ∧ d = 0 then none else some k
  | c :: r, s, d, k => match nx s d c with
    | none => some k
    | some q => wr r q.1 q.2 (k + 1)
def wrong (l : List Nat) : Option Nat := if l = [] then none else wr l .beg 0 0
theorem wr_wrd : ∀ (a b : List Nat) (n d k : Nat), (∀ c ∈ a, isL c = true) → n + a.length ≤ 8 → wr (a ++ b) (.wrd n) d k = wr b (.wrd (n + a.length)) d (k + a.length)
  | [], b, n, d, k, _, _ => rfl
  | c :: a, b, n, d, k, h, hl => by
    rw [List.length_cons] at hl
    have e : nx (.wrd n) d c = some (.wrd (n + 1), d) := by
      simp only [nx]
      rw [if_pos ⟨h c List.mem_cons_self, by omega⟩]
    simp only [List.cons_append, wr, e]
    rw [wr_wrd a b (n + 1) d (k + 1) (fun c hc => h c (List.mem_cons_of_mem _ hc)) (by omega)]
    simp only [List.length_cons]
    rw [show n + 1 + a.length = n + (a.length + 1) by omega, show k + 1 + a.length = k + (a.length + 1) by omega]
theorem wr_num : ∀ (a b : List Nat) (n d k : Nat), (∀ c ∈ a, isD c = true) → n + a.length ≤ 10 → wr (a ++ b) (.num n) d k = wr b (.num (n + a.length)) d (k + a.length)
  | [], b, n, d, k, _, _ => rfl
  | c :: a, b, n, d, k, h, hl => by
    rw [List.length_cons] at hl
    have e : nx (.num n) d c = some (.num (n + 1), d) := by
      simp only [nx]
      rw [if_pos ⟨h c List.mem_cons_self, by omega⟩]
    simp only [List.cons_append, wr, e]
    rw [wr_num a b (n + 1) d (k + 1) (fun c hc => h c (List.mem_cons_of_mem _ hc)) (by omega)]
    simp only [List.length_cons]
    rw [show n + 1 + a.length = n + (a.length + 1) by omega, show k + 1 + a.length = k + (a.length + 1) by omega]
/-- the first signs that hold, at most m -/
def tw (p : Nat → Bool) : Nat → List Nat → List Nat
  | 0, _ => []
  | _, [] => []
  | m + 1, c :: r => if p c = true then c :: tw p m r else []
theorem tw_len (p : Nat → Bool) : ∀ (m : Nat) (l : List Nat), (tw p m l).length ≤ m
  | 0, _ => by simp [tw]
  | m + 1, [] => by simp [tw]
  | m + 1, c :: r => by
    simp only [tw]
    split
    · have := tw_len p m r
      simp only [List.length_cons]
      omega
    · simp
theorem tw_all (p : Nat → Bool) : ∀ (m : Nat) (l : List Nat), ∀ c ∈ tw p m l, p c = true
  | 0, _ => by simp [tw]
  | m + 1, [] => by simp [tw]
  | m + 1, c :: r => by
    simp only [tw]
    split
    · rename_i h
      intro x hx
      rcases List.mem_cons.mp hx with rfl | hx
      · exact h
      · exact tw_all p m r x hx
    · simp
theorem tw_app (p : Nat → Bool) : ∀ (m : Nat) (l : List Nat), l = tw p m l ++ l.drop (tw p m l).length
  | 0, _ => by simp [tw]
  | m + 1, [] => by simp [tw]
  | m + 1, c :: r => by
    simp only [tw]
    split
    · have := tw_app p m r
      simp only [List.length_cons, List.drop_succ_cons, List.cons_append]
      rw [← this]
    · simp
/-- where it stops: all m, the end, or a sign that does not hold -/
theorem tw_end (p : Nat → Bool) : ∀ (m : Nat) (l : List Nat), (tw p m l).length = m ∨ ∀ c t, l.drop (tw p m l).length = c :: t → p c = false
  | 0, _ => .inl (by simp [tw])
  | m + 1, [] => .inr (by simp [tw])
  | m + 1, c :: r => by
    simp only [tw]
    split
    · rcases tw_end p m r with h | h
      · exact .inl (by simp only [List.length_cons]; omega)
      · exact .inr (by simpa only [List.length_cons, List.drop_succ_cons] using h)
    · rename_i h
      refine .inr ?_
      intro c' t e
      simp only [List.length_nil, List.drop_zero, List.cons.injEq] at e
      rw [← e.1]
      exact Bool.eq_false_iff.mpr h
def mk (l : List Nat) : Str := ⟨l.toArray⟩
theorem sg_mk (l : List Nat) : sg (mk l) = l := rfl
/-- how a word is taken -/
def lw (l : List Nat) : List Nat := tw isL 8 l
def ldw (l : List Nat) : List Nat := tw isD (match l with | 48 :: _ => 1 | _ => 10) l
/-- what item() comes to at the rest l: where it fails, or the sort, the signs, and how many are read -/
inductive Io where
  | bad (i : Nat)
  | word (s : Nat) (w : List Nat) (m : Nat)
  | times (w : List Nat)
def itm : List Nat → Io
  | [] => .bad 0
  | c :: r => if c = 33 ∨ c = 64 then (if lw r = [] then .bad 1 else .word c (lw r) (1 + (lw r).length))
    else if isD c = true then (if (c :: r)[(ldw (c :: r)).length]? = some 40 then .times (ldw (c :: r)) else .bad (ldw (c :: r)).length)
    else if lw (c :: r) = [] then .bad 0 else .word 0 (lw (c :: r)) (lw (c :: r)).length
theorem isL_no {c : Nat} (h : isL c = true) : isD c = false ∧ c ≠ 33 ∧ c ≠ 64 ∧ c ≠ 41 ∧ c ≠ 32 ∧ c ≠ 40 := by
  have h1 : 97 ≤ c ∧ c ≤ 122 := of_decide_eq_true h
  refine ⟨decide_eq_false (by omega), by omega, by omega, by omega, by omega, by omega⟩
theorem isD_no {c : Nat} (h : isD c = true) : isL c = false ∧ c ≠ 33 ∧ c ≠ 64 ∧ c ≠ 41 ∧ c ≠ 32 ∧ c ≠ 40 := by
  have h1 : 48 ≤ c ∧ c ≤ 57 := of_decide_eq_true h
  refine ⟨decide_eq_false (by omega), by omega, by omega, by omega, by omega, by omega⟩
/-- a word behind its first sign -/
theorem wr_lw {l : List Nat} {s : As} {d k : Nat} (hs : ∀ c, isL c = true → nx s d c = some (.wrd 1, d)) (hne : lw l ≠ []) : wr l s d k = wr (l.drop (lw l).length) (.wrd (lw l).length) d (k + (lw l).length) := by
  have e := tw_app isL 8 l
  have ha := tw_all isL 8 l
  have hl := tw_len isL 8 l
  unfold lw at hne ⊢
  generalize tw isL 8 l = a at e ha hl hne ⊢
  cases a with
  | nil => exact absurd rfl hne
  | cons c a =>
    generalize hb : l.drop (c :: a).length = b at e ⊢
    rw [e]
    simp only [List.cons_append, wr, hs c (ha c List.mem_cons_self)]
    rw [wr_wrd a b 1 d (k + 1) (fun x hx => ha x (List.mem_cons_of_mem _ hx)) (by rw [List.length_cons] at hl; omega)]
    simp only [List.length_cons]
    rw [show 1 + a.length = a.length + 1 by omega, show k + 1 + a.length = k + (a.length + 1) by omega]
theorem lw_nil {c : Nat} {r : List Nat} (h : lw (c :: r) = []) : isL c = false := by
  unfold lw at h
  simp only [tw] at h
  split at h
  · cases h
  · rename_i z
    exact Bool.eq_false_iff.mpr z
theorem nzA (d : Nat) : nx .zer d 40 = some (.opn, d + 1) := rfl
theorem nzB {d c : Nat} (h : ¬c = 40) : nx .zer d c = none := by
  simp only [nx]
  rw [if_neg h]
/-- the automaton goes as item() does -/
theorem wr_itm {l : List Nat} {s : As} {d k : Nat} (hs : s = .beg ∨ (s = .opn ∧ ∀ r, l ≠ 41 :: r)) : match itm l with
    | .bad i => wr l s d k = some (k + i)
    | .word _ w m => wr l s d k = wr (l.drop m) (.wrd w.length) d (k + m)
    | .times w => wr l s d k = wr (l.drop (w.length + 1)) .opn (d + 1) (k + (w.length + 1)) := by
  cases l with
  | nil =>
    simp only [itm, wr]
    rcases hs with rfl | ⟨rfl, _⟩ <;> simp [fin]
  | cons c r =>
    simp only [itm]
    by_cases h1 : c = 33 ∨ c = 64
    · rw [if_pos h1]
      have e1 : nx s d c = some (.mrk, d) := by rcases hs with rfl | ⟨rfl, _⟩ <;> simp only [nx] <;> rw [if_pos h1]
      by_cases h2 : lw r = []
      · rw [if_pos h2]
        simp only [wr, e1]
        cases r with
        | nil => simp [wr, fin]
        | cons c2 r2 => simp [wr, nx, lw_nil h2]
      · rw [if_neg h2]
        simp only [wr, e1]
        rw [wr_lw (s := .mrk) (fun c hc => by simp only [nx]; rw [if_pos hc]) h2]
        rw [show 1 + (lw r).length = (lw r).length + 1 by omega, List.drop_succ_cons, show k + 1 + (lw r).length = k + ((lw r).length + 1) by omega]
    · rw [if_neg h1]
      by_cases h2 : isD c = true
      · rw [if_pos h2]
        obtain ⟨hL, _, _, n41, _, n40⟩ := isD_no h2
        have e1 : nx s d c = some (if c = 48 then .zer else .num 1, d) := by rcases hs with rfl | ⟨rfl, _⟩ <;> simp only [nx] <;> rw [if_neg h1, if_neg (by rw [hL]; decide), if_pos h2]
        by_cases h48 : c = 48
        · subst h48
          have el : ldw (48 :: r) = [48] := by simp [ldw, tw, h2]
          rw [el]
          rw [if_pos rfl] at e1
          cases r with
          | nil => simp [wr, e1, fin]
          | cons c2 r2 =>
            by_cases h40 : c2 = 40
            · subst h40
              simp [wr, e1, nzA]
            · simp [wr, e1, nzB h40, h40]
        · have el : ldw (c :: r) = tw isD 10 (c :: r) := by
            unfold ldw
            split
            · rename_i heq
              simp only [List.cons.injEq] at heq
              exact absurd heq.1 h48
            · rfl
          rw [el]
          rw [if_neg h48] at e1
          have hc : tw isD 10 (c :: r) = c :: tw isD 9 r := by simp [tw, h2]
          rw [hc]
          have ha := tw_all isD 9 r
          have hl := tw_len isD 9 r
          have hap := tw_app isD 9 r
          have hen := tw_end isD 9 r
          generalize tw isD 9 r = a at ha hl hap hen ⊢
          generalize hb : r.drop a.length = b at hap hen ⊢
          have hw : ∀ k, wr (c :: r) s d k = wr b (.num (1 + a.length)) d (k + 1 + a.length) := fun k => by
            rw [hap]
            simp only [wr, e1]
            rw [wr_num a b 1 d (k + 1) ha (by omega)]
          have hg : (c :: r)[(c :: a).length]? = b[0]? := by
            rw [hap]
            simp only [List.length_cons, List.getElem?_cons_succ]
            rw [List.getElem?_append_right (Nat.le_refl _), Nat.sub_self]
          rw [hg]
          have hdr : (c :: r).drop ((c :: a).length + 1) = b.drop 1 := by
            simp only [List.length_cons, List.drop_succ_cons]
            rw [← hb, List.drop_drop]
          cases b with
          | nil =>
            rw [if_neg (by simp)]
            show wr (c :: r) s d k = some (k + (c :: a).length)
            rw [hw, wr, if_neg (fun z => by cases z.1), List.length_cons, show k + 1 + a.length = k + (a.length + 1) by omega]
          | cons c2 b2 =>
            by_cases h40 : c2 = 40
            · subst h40
              rw [if_pos (by rfl)]
              show wr (c :: r) s d k = wr ((c :: r).drop ((c :: a).length + 1)) .opn (d + 1) (k + ((c :: a).length + 1))
              rw [hdr, hw]
              have : isD 40 = false := by decide
              simp only [wr, nx, this]
              simp
              rw [show k + 1 + a.length + 1 = k + (a.length + 1 + 1) by omega]
            · rw [if_neg (by simpa using h40)]
              show wr (c :: r) s d k = some (k + (c :: a).length)
              rw [hw]
              have hno : ¬(isD c2 = true ∧ 1 + a.length < 10) := by
                rintro ⟨z1, z2⟩
                rcases hen with h | h
                · omega
                · rw [h c2 b2 rfl] at z1
                  cases z1
              simp only [wr, nx, if_neg hno, if_neg h40, List.length_cons]
              rw [show k + 1 + a.length = k + (a.length + 1) by omega]
      · rw [if_neg h2]
        by_cases h3 : lw (c :: r) = []
        · rw [if_pos h3]
          have hL := lw_nil h3
          have e1 : nx s d c = none := by
            rcases hs with rfl | ⟨rfl, hn⟩
            · simp only [nx]
              rw [if_neg h1, if_neg (by rw [hL]; decide), if_neg h2]
            · simp only [nx]
              rw [if_neg h1, if_neg (by rw [hL]; decide), if_neg h2, if_neg (fun z => hn r (by rw [z.1]))]
          simp [wr, e1]
        · rw [if_neg h3]
          exact wr_lw (fun x hx => by
            obtain ⟨_, x1, x2, _⟩ := isL_no hx
            rcases hs with rfl | ⟨rfl, _⟩ <;> simp only [nx] <;> rw [if_neg (by omega), if_pos hx]) h3
end Kb

namespace Kb
open PySem PySem.Spec PyProof.Rows L2 Mq
/-! ### numbers by their digits -/
def valN (w : List Nat) : Nat := w.foldl (fun a c => 10 * a + (c - 48)) 0
def val (w : List Nat) : Int := (valN w : Nat)
theorem dig_nat (m : Nat) : dig (m : Int) = (Nat.toDigits 10 m).map Char.toNat := by unfold dig sg; exact PySem.W.KIN.signs_num m
theorem dig_one {d : Nat} (h : d < 10) : dig (d : Int) = [d + 48] := by
  rw [dig_nat, Nat.toDigits_of_lt_base h]
  have : ∀ d : Nat, d < 10 → [Nat.digitChar d].map Char.toNat = [d + 48] := by decide
  exact this d h
theorem dig_val : ∀ (n : Nat) (w : List Nat), w.length = n → (∀ c ∈ w, isD c = true) → w ≠ [] → (∀ r, w = 48 :: r → r = []) → dig (val w) = w := by
  intro n
  induction n with
  | zero => intro w h _ hne _; exact absurd (List.length_eq_zero_iff.mp h) hne
  | succ n ih =>
    intro w h ha hne h0
    obtain ⟨v, c, rfl⟩ : ∃ v c, w = v ++ [c] := ⟨w.dropLast, w.getLast hne, (List.dropLast_concat_getLast hne).symm⟩
    have hc : 48 ≤ c ∧ c ≤ 57 := of_decide_eq_true (ha c (by simp))
    have hv : valN (v ++ [c]) = 10 * valN v + (c - 48) := by simp [valN, List.foldl_append]
    by_cases hv0 : v = []
    · subst hv0
      have e : val ([] ++ [c]) = ((c - 48 : Nat) : Int) := by
        show ((valN ([] ++ [c]) : Nat) : Int) = _
        rw [hv]
        simp [valN]
      rw [e, dig_one (by omega)]
      simp
      omega
    · have i := ih v (by simpa using h) (fun x hx => ha x (by simp [hx])) hv0 (fun r e => by
        have z := h0 (r ++ [c]) (by rw [e]; rfl)
        simp at z)
      have hpos : 0 < valN v := by
        cases hz : valN v with
        | succ k => omega
        | zero =>
          exfalso
          have i2 := i
          unfold val at i2
          rw [hz] at i2
          have e0 : dig ((0 : Nat) : Int) = [48] := by rw [dig_one (by decide)]
          rw [e0] at i2
          have z := h0 [c] (by rw [← i2]; rfl)
          cases z
      have t : Nat.toDigits 10 (valN v) ++ Nat.toDigits 10 (c - 48) = Nat.toDigits 10 (10 * valN v + (c - 48)) := Nat.toDigits_append_toDigits (by decide) hpos (by omega)
      unfold val
      rw [hv, dig_nat, ← t, List.map_append, ← dig_nat, ← dig_nat, dig_one (show c - 48 < 10 by omega)]
      have i3 : dig ((valN v : Nat) : Int) = v := i
      rw [i3, show c - 48 + 48 = c by omega]
theorem valN_lt : ∀ (w : List Nat) (a : Nat), (∀ c ∈ w, isD c = true) → w.foldl (fun a c => 10 * a + (c - 48)) a + 1 ≤ (a + 1) * 10 ^ w.length
  | [], a, _ => by simp
  | c :: r, a, h => by
    have hc : 48 ≤ c ∧ c ≤ 57 := of_decide_eq_true (h c List.mem_cons_self)
    have i := valN_lt r (10 * a + (c - 48)) fun x hx => h x (List.mem_cons_of_mem _ hx)
    rw [List.foldl_cons, List.length_cons, Nat.pow_succ]
    refine Nat.le_trans i ?_
    rw [show (a + 1) * (10 ^ r.length * 10) = ((a + 1) * 10) * 10 ^ r.length by rw [Nat.mul_comm (10 ^ r.length) 10, ← Nat.mul_assoc]]
    exact Nat.mul_le_mul_right _ (by omega)
theorem val_small {w : List Nat} (h : ∀ c ∈ w, isD c = true) (hl : w.length ≤ 10) : 0 ≤ val w ∧ val w < 10 ^ 10 := by
  have i := valN_lt w 0 h
  have j : 10 ^ w.length ≤ 10 ^ 10 := Nat.pow_le_pow_right (by decide) hl
  unfold val valN
  omega
/-! ### the law's reading, sign by sign -/
abbrev Pile := List (Int × List It)
def flush (f : List It) : List Nat → List It
  | [] => f
  | c :: r => f ++ [if c = 33 then .say (mk r) else if c = 64 then .go (mk r) else .press (mk (c :: r))]
abbrev P3 := List It × Pile × List Nat
def pst : P3 → Nat → Option P3
  | (f, pl, w), c => if c = 40 then some ([], (val w, f) :: pl, []) else if c = 32 then some (flush f w, pl, []) else if c = 41 then (match pl with
    | [] => none
    | (n, o) :: r => some (o ++ [.times n (flush f w)], r, [])) else some (f, pl, w ++ [c])
def psl : List Nat → P3 → Option P3
  | [], s => some s
  | c :: r, s => (pst s c).bind (psl r)
theorem psl_app : ∀ (a b : List Nat) (s : P3), psl (a ++ b) s = (psl a s).bind (psl b)
  | [], b, s => rfl
  | c :: a, b, s => by
    simp only [List.cons_append, psl]
    cases h : pst s c with
    | none => rfl
    | some t => simp only [Option.bind_some]; exact psl_app a b t
theorem psl_plain : ∀ (a : List Nat) (f : List It) (pl : Pile) (w : List Nat), (∀ c ∈ a, c ≠ 40 ∧ c ≠ 32 ∧ c ≠ 41) → psl a (f, pl, w) = some (f, pl, w ++ a)
  | [], f, pl, w, _ => by simp [psl]
  | c :: a, f, pl, w, h => by
    obtain ⟨h1, h2, h3⟩ := h c List.mem_cons_self
    simp only [psl, pst, if_neg h1, if_neg h2, if_neg h3, Option.bind_some]
    rw [psl_plain a f pl (w ++ [c]) fun x hx => h x (List.mem_cons_of_mem _ hx)]
    simp
/-! ### the parts, one by one -/
def tst : List It × Pile → Tok → Option (List It × Pile)
  | (f, pl), .say w => some (f ++ [.say w], pl)
  | (f, pl), .press w => some (f ++ [.press w], pl)
  | (f, pl), .go w => some (f ++ [.go w], pl)
  | (f, pl), .op n => some ([], (n, f) :: pl)
  | (f, pl), .cl => match pl with
    | [] => none
    | (n, o) :: r => some (o ++ [.times n f], r)
def tsl : List Tok → List It × Pile → Option (List It × Pile)
  | [], s => some s
  | t :: r, s => (tst s t).bind (tsl r)
theorem tsl_app : ∀ (a b : List Tok) (s : List It × Pile), tsl (a ++ b) s = (tsl a s).bind (tsl b)
  | [], b, s => rfl
  | c :: a, b, s => by
    simp only [List.cons_append, tsl]
    cases h : tst s c with
    | none => rfl
    | some t => simp only [Option.bind_some]; exact tsl_app a b t
/-- the part that item() gives -/
def tokOf : Io → Tok
  | .bad _ => .cl
  | .word s w _ => if s = 33 then .say (mk w) else if s = 64 then .go (mk w) else .press (mk w)
  | .times w => .op (val w)
theorem lw_all (l : List Nat) : ∀ c ∈ lw l, isL c = true := tw_all isL 8 l
theorem lw_take (l : List Nat) : l.take (lw l).length = lw l := by
  have e := tw_app isL 8 l
  unfold lw
  generalize tw isL 8 l = a at e ⊢
  rw [e, List.take_left']
  rfl
theorem itm_word {l : List Nat} {s m : Nat} {w : List Nat} (h : itm l = .word s w m) : w ≠ [] ∧ w.length ≤ 8 ∧ (∀ c ∈ w, isL c = true) ∧ m ≤ l.length ∧ 1 ≤ m ∧ ((s = 33 ∨ s = 64) ∧ l.take m = s :: w ∨ s = 0 ∧ l.take m = w) := by
  have hlen : ∀ r : List Nat, (lw r).length ≤ r.length := fun r => by
    have := congrArg List.length (lw_take r)
    rw [List.length_take] at this
    omega
  cases l with
  | nil => simp [itm] at h
  | cons c r =>
    simp only [itm] at h
    by_cases h1 : c = 33 ∨ c = 64
    · rw [if_pos h1] at h
      by_cases h2 : lw r = []
      · rw [if_pos h2] at h; cases h
      · rw [if_neg h2] at h
        simp only [Io.word.injEq] at h
        obtain ⟨rfl, rfl, rfl⟩ := h
        have := hlen r
        refine ⟨h2, tw_len _ _ _, lw_all r, by simp only [List.length_cons]; omega, by omega, .inl ⟨h1, ?_⟩⟩
        rw [show 1 + (lw r).length = (lw r).length + 1 by omega, List.take_succ_cons, lw_take]
    · rw [if_neg h1] at h
      by_cases h2 : isD c = true
      · rw [if_pos h2] at h
        split at h <;> cases h
      · rw [if_neg h2] at h
        by_cases h3 : lw (c :: r) = []
        · rw [if_pos h3] at h; cases h
        · rw [if_neg h3] at h
          simp only [Io.word.injEq] at h
          obtain ⟨rfl, rfl, rfl⟩ := h
          refine ⟨h3, tw_len _ _ _, lw_all _, hlen _, ?_, .inr ⟨rfl, lw_take _⟩⟩
          exact Nat.one_le_iff_ne_zero.mpr fun z => h3 (List.length_eq_zero_iff.mp z)
theorem ldw_all (l : List Nat) : ∀ c ∈ ldw l, isD c = true := tw_all isD _ l
theorem ldw_take (l : List Nat) : l = ldw l ++ l.drop (ldw l).length := tw_app isD _ l
theorem ldw_len (l : List Nat) : (ldw l).length ≤ 10 := by
  have := tw_len isD (match l with | 48 :: _ => 1 | _ => 10) l
  unfold ldw
  refine Nat.le_trans this ?_
  split <;> omega
theorem itm_times {l w : List Nat} (h : itm l = .times w) : w ≠ [] ∧ w.length ≤ 10 ∧ (∀ c ∈ w, isD c = true) ∧ (∀ r, w = 48 :: r → r = []) ∧ w.length + 1 ≤ l.length ∧ l.take (w.length + 1) = w ++ [40] := by
  cases l with
  | nil => simp [itm] at h
  | cons c r =>
    simp only [itm] at h
    by_cases h1 : c = 33 ∨ c = 64
    · rw [if_pos h1] at h
      split at h <;> cases h
    · rw [if_neg h1] at h
      by_cases h2 : isD c = true
      · rw [if_pos h2] at h
        by_cases h3 : (c :: r)[(ldw (c :: r)).length]? = some 40
        · rw [if_pos h3] at h
          simp only [Io.times.injEq] at h
          subst h
          have e := ldw_take (c :: r)
          obtain ⟨hlt, hv⟩ := List.getElem?_eq_some_iff.mp h3
          refine ⟨?_, ldw_len _, ldw_all _, ?_, hlt, ?_⟩
          · unfold ldw
            split <;> simp [tw, h2]
          · intro r2 e2
            by_cases h48 : c = 48
            · subst h48
              have el : ldw (48 :: r) = [48] := by simp [ldw, tw, h2]
              rw [el] at e2
              simp only [List.cons.injEq, true_and] at e2
              exact e2.symm
            · exfalso
              rw [e2] at e
              simp only [List.cons_append, List.cons.injEq] at e
              exact h48 e.1
          · rw [List.take_succ, h3]
            generalize ldw (c :: r) = a at e h3 ⊢
            rw [show (c :: r).take a.length = a by rw [e, List.take_left']; rfl]
            rfl
        · rw [if_neg h3] at h; cases h
      · rw [if_neg h2] at h
        split at h <;> cases h
theorem psl_word {l : List Nat} {s m : Nat} {w : List Nat} (h : itm l = .word s w m) (f : List It) (pl : Pile) : ∃ u, u ≠ [] ∧ psl (l.take m) (f, pl, []) = some (f, pl, u) ∧ tst (f, pl) (tokOf (.word s w m)) = some (flush f u, pl) := by
  obtain ⟨hne, _, ha, _, _, hd⟩ := itm_word h
  have hpl : ∀ c ∈ w, c ≠ 40 ∧ c ≠ 32 ∧ c ≠ 41 := fun c hc => by
    obtain ⟨_, _, _, x1, x2, x3⟩ := isL_no (ha c hc)
    exact ⟨x3, x2, x1⟩
  rcases hd with ⟨hs, e⟩ | ⟨rfl, e⟩
  · refine ⟨s :: w, by simp, ?_, ?_⟩
    · rw [e, psl_plain]
      · rfl
      · intro c hc
        rcases List.mem_cons.mp hc with rfl | hc
        · rcases hs with rfl | rfl <;> decide
        · exact hpl c hc
    · rcases hs with rfl | rfl <;> simp [tokOf, tst, flush]
  · refine ⟨w, hne, ?_, ?_⟩
    · rw [e, psl_plain _ _ _ _ hpl]
      rfl
    · cases w with
      | nil => exact absurd rfl hne
      | cons c r =>
        obtain ⟨_, x1, x2, _⟩ := isL_no (ha c List.mem_cons_self)
        simp [tokOf, tst, flush, x1, x2]
theorem psl_times {l w : List Nat} (h : itm l = .times w) (f : List It) (pl : Pile) : psl (l.take (w.length + 1)) (f, pl, []) = some ([], (val w, f) :: pl, []) ∧ tst (f, pl) (tokOf (.times w)) = some ([], (val w, f) :: pl) := by
  obtain ⟨hne, _, ha, _, _, e⟩ := itm_times h
  refine ⟨?_, rfl⟩
  rw [e, psl_app, psl_plain _ _ _ _ fun c hc => by
    obtain ⟨_, _, _, x1, x2, x3⟩ := isD_no (ha c hc)
    exact ⟨x3, x2, x1⟩]
  simp [psl, pst]
/-! ### faults, in the order of closings -/
inductive Ft where
  | item | many | deep
  deriving DecidableEq
def ownF (n : Int) (xs : List It) : List Ft := (if n > 10 ^ 9 then [.item] else []) ++ ((if xs.length > 6 then [.many] else []) ++ (if lvL xs > 1 then [.deep] else []))
mutual
def fts : It → List Ft
  | .times n xs => ftsL xs ++ ownF n xs
  | _ => []
def ftsL : List It → List Ft
  | [] => []
  | x :: r => fts x ++ ftsL r
end
theorem ftsL_app : ∀ xs ys : List It, ftsL (xs ++ ys) = ftsL xs ++ ftsL ys
  | [], ys => by simp [ftsL]
  | x :: r, ys => by simp [ftsL, ftsL_app r ys]
def ftsP : Pile → List Ft
  | [] => []
  | (_, o) :: r => ftsP r ++ ftsL o
def tot (s : List It × Pile) : List Ft := ftsP s.2 ++ ftsL s.1
/-- the faults of what one part closes -/
def ownT : List It × Pile → Tok → List Ft
  | (f, (n, _) :: _), .cl => ownF n f
  | _, _ => []
theorem tot_tst {s t : List It × Pile} {k : Tok} (h : tst s k = some t) : tot t = tot s ++ ownT s k := by
  obtain ⟨f, pl⟩ := s
  cases k with
  | say w => simp only [tst, Option.some.injEq] at h; subst h; simp [tot, ftsL_app, ftsL, fts, ownT]
  | press w => simp only [tst, Option.some.injEq] at h; subst h; simp [tot, ftsL_app, ftsL, fts, ownT]
  | go w => simp only [tst, Option.some.injEq] at h; subst h; simp [tot, ftsL_app, ftsL, fts, ownT]
  | op n => simp only [tst, Option.some.injEq] at h; subst h; simp [tot, ftsP, ftsL, ownT]
  | cl =>
    cases pl with
    | nil => simp [tst] at h
    | cons p r =>
      obtain ⟨n, o⟩ := p
      simp only [tst, Option.some.injEq] at h
      subst h
      simp [tot, ftsP, ftsL_app, ftsL, fts, ownT]
theorem tot_tsl : ∀ {ts : List Tok} {s t : List It × Pile}, tsl ts s = some t → ∃ more, tot t = tot s ++ more
  | [], s, t, h => by
    simp only [tsl, Option.some.injEq] at h
    subst h
    exact ⟨[], by simp⟩
  | k :: r, s, t, h => by
    simp only [tsl] at h
    cases h2 : tst s k with
    | none => rw [h2] at h; cases h
    | some u =>
      rw [h2] at h
      obtain ⟨m, e⟩ := tot_tsl (ts := r) (s := u) h
      rw [tot_tst h2] at e
      exact ⟨ownT s k ++ m, by rw [e, List.append_assoc]⟩
end Kb

namespace Kb
open PySem PySem.Spec PyProof.Rows L2 Mq
/-! ### the automaton where no item comes next -/
def Tl (s : As) (l : List Nat) : Prop := s = .don ∨ (s = .opn ∧ ∃ r, l = 41 :: r) ∨ ∃ n, s = .wrd n ∧ (n = 8 ∨ ∀ c t, l = c :: t → isL c = false)
theorem wr_sp {s : As} {r : List Nat} {d k : Nat} (h : Tl s (32 :: r)) : wr (32 :: r) s d k = wr r .beg d (k + 1) := by
  have hL : isL 32 = false := by decide
  rcases h with rfl | ⟨rfl, r2, e⟩ | ⟨n, rfl, _⟩
  · simp [wr, nx]
  · cases e
  · simp [wr, nx, hL]
theorem wr_cl {s : As} {r : List Nat} {d k : Nat} (h : Tl s (41 :: r)) (hd : 0 < d) : wr (41 :: r) s d k = wr r .don (d - 1) (k + 1) := by
  have hL : isL 41 = false := by decide
  have hD : isD 41 = false := by decide
  rcases h with rfl | ⟨rfl, r2, e⟩ | ⟨n, rfl, _⟩
  · simp [wr, nx, hd]
  · simp [wr, nx, hL, hD, hd]
  · simp [wr, nx, hL, hd]
theorem wr_no {s : As} {l : List Nat} {d k : Nat} (h : Tl s l) (h1 : ∀ r, l ≠ 32 :: r) (h2 : ∀ r, l = 41 :: r → d = 0) (h3 : l = [] → 0 < d) : wr l s d k = some k := by
  cases l with
  | nil =>
    simp only [wr]
    rw [if_neg (fun z => by have := h3 rfl; omega)]
  | cons c r =>
    have n32 : c ≠ 32 := fun z => h1 r (by rw [z])
    have n41 : ¬(c = 41 ∧ 0 < d) := fun z => by have := h2 r (by rw [z.1]); omega
    have e : nx s d c = none := by
      rcases h with rfl | ⟨rfl, r2, e⟩ | ⟨n, rfl, hn⟩
      · simp only [nx]
        rw [if_neg n32, if_neg n41]
      · have ec : c = 41 := by simpa using congrArg List.head? e
        subst ec
        have hL : isL 41 = false := by decide
        have hD : isD 41 = false := by decide
        simp only [nx]
        rw [if_neg (by decide), if_neg (by rw [hL]; decide), if_neg (by rw [hD]; decide), if_neg (fun z => n41 ⟨rfl, z.2⟩)]
      · simp only [nx]
        rw [if_neg (fun z => ?_), if_neg n32, if_neg n41]
        rcases hn with rfl | hn
        · omega
        · rw [hn c r rfl] at z
          exact absurd z.1 (by decide)
    simp only [wr, e]
theorem wr_end {s : As} {k : Nat} (h : Tl s []) : wr [] s 0 k = none := by
  rcases h with rfl | ⟨_, r, e⟩ | ⟨n, rfl, _⟩
  · rfl
  · cases e
  · rfl
/-- behind a word -/
theorem tl_word {l : List Nat} {s m : Nat} {w : List Nat} (h : itm l = .word s w m) : Tl (.wrd w.length) (l.drop m) := by
  refine .inr (.inr ⟨_, rfl, ?_⟩)
  cases l with
  | nil => simp [itm] at h
  | cons c r =>
    simp only [itm] at h
    by_cases h1 : c = 33 ∨ c = 64
    · rw [if_pos h1] at h
      by_cases h2 : lw r = []
      · rw [if_pos h2] at h; cases h
      · rw [if_neg h2] at h
        simp only [Io.word.injEq] at h
        obtain ⟨rfl, rfl, rfl⟩ := h
        have := tw_end isL 8 r
        rw [show 1 + (lw r).length = (lw r).length + 1 by omega, List.drop_succ_cons]
        exact this
    · rw [if_neg h1] at h
      by_cases h2 : isD c = true
      · rw [if_pos h2] at h
        split at h <;> cases h
      · rw [if_neg h2] at h
        by_cases h3 : lw (c :: r) = []
        · rw [if_pos h3] at h; cases h
        · rw [if_neg h3] at h
          simp only [Io.word.injEq] at h
          obtain ⟨rfl, rfl, rfl⟩ := h
          exact tw_end isL 8 (c :: r)
/-- the two readings go side by side -/
structure Jn (l : List Nat) (p d : Nat) (ts : List Tok) (w : List Nat) : Prop where
  h : ∃ f pl, psl (l.take p) ([], [], []) = some (f, pl, w) ∧ tsl ts ([], []) = some (flush f w, pl) ∧ pl.length = d
theorem Jn.item {l : List Nat} {p d : Nat} {ts : List Tok} (j : Jn l p d ts []) (hp : p ≤ l.length) {s m : Nat} {w : List Nat} (h : itm (l.drop p) = .word s w m) : ∃ u, Jn l (p + m) d (ts ++ [tokOf (.word s w m)]) u := by
  obtain ⟨f, pl, h1, h2, h3⟩ := j.h
  obtain ⟨u, _, e1, e2⟩ := psl_word h f pl
  refine ⟨u, ⟨f, pl, ?_, ?_, h3⟩⟩
  · rw [List.take_add, psl_app, h1]
    exact e1
  · rw [tsl_app, h2]
    simp only [Option.bind_some, tsl, flush]
    rw [e2]
    rfl
theorem Jn.times {l : List Nat} {p d : Nat} {ts : List Tok} (j : Jn l p d ts []) (hp : p ≤ l.length) {w : List Nat} (h : itm (l.drop p) = .times w) : Jn l (p + (w.length + 1)) (d + 1) (ts ++ [tokOf (.times w)]) [] := by
  obtain ⟨f, pl, h1, h2, h3⟩ := j.h
  obtain ⟨e1, e2⟩ := psl_times h f pl
  refine ⟨[], (val w, f) :: pl, ?_, ?_, by simp [h3]⟩
  · rw [List.take_add, psl_app, h1]
    exact e1
  · rw [tsl_app, h2]
    simp only [Option.bind_some, tsl, flush]
    rw [e2]
    rfl
theorem Jn.space {l r : List Nat} {p d : Nat} {ts : List Tok} {w : List Nat} (j : Jn l p d ts w) (h : l.drop p = 32 :: r) : Jn l (p + 1) d ts [] := by
  obtain ⟨f, pl, h1, h2, h3⟩ := j.h
  refine ⟨flush f w, pl, ?_, by rw [h2]; rfl, h3⟩
  rw [List.take_add, h, psl_app, h1]
  simp [psl, pst]
theorem Jn.close {l r : List Nat} {p d : Nat} {ts : List Tok} {w : List Nat} (j : Jn l p d ts w) (h : l.drop p = 41 :: r) (hd : 0 < d) : Jn l (p + 1) (d - 1) (ts ++ [.cl]) [] := by
  obtain ⟨f, pl, h1, h2, h3⟩ := j.h
  cases pl with
  | nil => simp at h3; omega
  | cons q pl =>
    obtain ⟨n, o⟩ := q
    refine ⟨o ++ [.times n (flush f w)], pl, ?_, ?_, by simp at h3; omega⟩
    · rw [List.take_add, h, psl_app, h1]
      simp [psl, pst]
    · rw [tsl_app, h2]
      simp [tsl, tst, flush]
end Kb

namespace Kb
open PySem PySem.Spec PyProof.Rows L2 Mq Rz
section
variable {P : Program} {w : World} {K : PySem.W.Frag} {mg : Str → Option Value} {base : Heap}
/-- InvalidText at a place -/
def Bad (K : PySem.W.Frag) (E : XK) (G : Hp) (p : Nat) : Prop := ∀ d, G d = none → E (.ref (He.ga K "InvalidText")) (some d) (upd G d (.xd [("index", .int (p : Nat))]))
def spFail (K : PySem.W.Frag) : Sp := fun vs H Q E => ∃ r z p, vs = [.ref r] ∧ RdAt K H r z p ∧ Bad K E H p
theorem ok_fail {f : Addr} {fd : FuncData} (F : FunD K "fail" "ItemReader.fail" (defArgs s_ItemReader_fail) (defBody s_ItemReader_fail) (defScope s_ItemReader_fail) [] [] f fd) (R : Tr P K mg) : FnOk P w K mg base (LX P w) 2 f fd ["self"] (spFail K) := by
  refine F.ok sc_ItemReader_fail (fun vs H Q E h => ?_) (fun cdv A outer s H vs Q E hr h => ?_)
  · obtain ⟨r, z, p, rfl, _⟩ := h
    rfl
  · obtain ⟨r, z, p, rfl, ⟨dr, e⟩, q⟩ := h
    refine ⟨_, pss_one (ps_raise1 rfl (takes_of (E := E) rfl rfl rfl rfl) R.eT.er R.eT.rc R.eT.rt hr rfl (pa_cons (pe_fld (pv 0) rfl) pa_nil)), ?_⟩
    exact ⟨_, rfl, r, _, dr, _, _, rfl, e, R.kl.cl, R.na "own_place" (by decide), rfl, _, rfl, q⟩
def tFail (K : PySem.W.Frag) (E : XK) (te : TE) : TE := fun σ H Q => te σ H fun x G => ∃ r z p, x = .ref r ∧ RdAt K G r z p ∧ Bad K E G p
theorem pe_fail {X : Cx} {ex : Expr} {te : TE} {E : XK} (R : Tr X.prog X.K X.mg) (S : FnR X.prog X.w X.K X.mg X.base (LX X.prog X.w) 2 (He.ma X.K (cR X.K) "fail") (spFail X.K)) (h : PE X ex (tMv X.prog X.w X.K X.mg X.base 2 "fail" E te tNil)) (m : Mono te) : PE X ex (tFail X.K E te) :=
  pe_weak h fun σ H Q h => m σ H _ _ (fun x G ⟨r, z, p, ex, hR, q⟩ => by
    subst ex
    obtain ⟨dr, e⟩ := id hR
    exact ⟨r, _, dr, _, _, _, rfl, e, by rfl, R.kl.cl, R.me "fail" (by decide), S, r, z, p, rfl, hR, q⟩) h
/-! ### word, with its failing -/
def spWordX (K : PySem.W.Frag) : Sp := fun vs H Q E => ∃ (r : Addr) (z : Str) (p : Nat), vs = [.ref r] ∧ RdAt K H r z p ∧ z.length ≤ 100000 ∧
  (lw ((sg z).drop p) ≠ [] → ∀ u G, Butx r H G → RdAt K G r z (p + (lw ((sg z).drop p)).length) → sg u = lw ((sg z).drop p) → Q (.str u) G) ∧
  (lw ((sg z).drop p) = [] → ∀ G, Butx r H G → RdAt K G r z p → Bad K E G p)
theorem ok_wordX {f : Addr} {fd : FuncData} (F : FunD K "word" "ItemReader.word" (defArgs s_ItemReader_word) (defBody s_ItemReader_word) (defScope s_ItemReader_word) [] [] f fd) (R : Tr P K mg) (C : Cs mg) (S : FnR P w K mg base (LX P w) 1 (He.ma K (cR K) "sign") (spSign K)) (Fl : FnR P w K mg base (LX P w) 2 (He.ma K (cR K) "fail") (spFail K)) : FnOk P w K mg base (LX P w) 3 f fd ["self"] (spWordX K) := by
  refine F.ok sc_ItemReader_word (fun vs H Q E h => ?_) (fun cdv A outer s H vs Q E hr h => ?_)
  · obtain ⟨r, z, p, rfl, _⟩ := h
    rfl
  · obtain ⟨r, z, p, rfl, ⟨dr, e⟩, hl, q1, q2⟩ := h
    obtain ⟨t1, g1⟩ := C.longest
    obtain ⟨t2, g2⟩ := C.letters
    have nd := sc_ItemReader_word.nd
    have cl := R.kl.cl
    have nT := R.na "own_text" (by decide)
    have nP := R.na "own_place" (by decide)
    have hr1 : Room 1 _ := hr.mono (by decide)
    refine ⟨_, pss_cons (ps_set (i := 1) nd rfl (Or.inl rfl) (pe_fld (pv 0) rfl))
      (C8.pss_cut (ps_while (passes_of rfl) (PW.pt (pw_and (pt_cmpR op_ne (pe_sign R S (pe_mv0 (k := 1) (E := E0) (pv 0) hr1 passL) mono_v) pe_str (nomark _)) (pw_and (pt_cmpR op_in_sign (pe_sign R S (pe_mv0 (k := 1) (E := E0) (pv 0) hr1 passL) mono_v) (pe_glob (v := .str letters) rfl g2 ⟨_, rfl⟩) rfl) (pw_and1 (pt_cmpR op_lt (pe_op op_sub (pe_fld (pv 0) rfl) (pv 1)) (pe_glob (v := .int 8) rfl g1 ⟨_, rfl⟩) (nomark _))))))
        (pss_one (ps_fldaug (pv 0) pe_int in_add)))
      (pss_cons (ps_if (pt_cmpR op_eq (pe_fld (pv 0) rfl) (pv 1) (nomark _)) (pss_one (ps_expr (pe_fail R Fl (pe_mv0 (k := 2) (E := E) (pv 0) hr (passE (takes_of (E := E) rfl rfl rfl rfl) fun _ _ _ _ z => z)) mono_v))) pss_nil)
      (pss_one (ps_ret (pe_slice sl_str (pe_fld (pv 0) rfl) (po_some (pv 1)) (po_some (pe_fld (pv 0) rfl))))))), ?_⟩
    have hd := tw_app isL 8 ((sg z).drop p)
    have hw := lw_all ((sg z).drop p)
    have h8 := tw_len isL 8 ((sg z).drop p)
    have hend := tw_end isL 8 ((sg z).drop p)
    change (sg z).drop p = lw ((sg z).drop p) ++ _ at hd
    change (lw ((sg z).drop p)).length ≤ 8 at h8
    change (lw ((sg z).drop p)).length = 8 ∨ ∀ c t, ((sg z).drop p).drop (lw ((sg z).drop p)).length = c :: t → isL c = false at hend
    generalize hwd : lw ((sg z).drop p) = wd at hw h8 hend q1 q2
    rw [hwd] at hd
    change (sg z).drop p = wd ++ ((sg z).drop p).drop (tw isL 8 ((sg z).drop p)).length at hd
    have hwd2 : tw isL 8 ((sg z).drop p) = wd := hwd
    rw [hwd2] at hd
    generalize ((sg z).drop p).drop wd.length = rest at hd hend
    refine ⟨_, rfl, r, _, dr, _, _, rfl, e, cl, nP, rfl, ?_⟩
    have at_ : ∀ (G : Hp) (i : Nat), G r = some (.ins (cR K) dr [("own_text", .str z), ("own_place", .int ((p + i : Nat) : Int))]) → upd G r (.ins (cR K) dr (putF "own_place" (.int (((p + i : Nat) : Int) + 1)) [("own_text", .str z), ("own_place", .int ((p + i : Nat) : Int))])) r = some (.ins (cR K) dr [("own_text", .str z), ("own_place", .int ((p + (i + 1) : Nat) : Int))]) := fun G i _ => by
      rw [upd_same]
      rfl
    refine ⟨fun σ G => σ = [some (.ref r), some (.int (p : Nat))] ∧ Butx r H G ∧ G r = some (.ins (cR K) dr [("own_text", .str z), ("own_place", .int ((p + wd.length : Nat) : Int))]), ⟨fun m σ G => ∃ i, i ≤ wd.length ∧ m = wd.length - i ∧ σ = [some (.ref r), some (.int (p : Nat))] ∧ Butx r H G ∧ G r = some (.ins (cR K) dr [("own_text", .str z), ("own_place", .int ((p + i : Nat) : Int))]), ⟨_, 0, Nat.zero_le _, rfl, rfl, .of_same fun _ _ z => z, e⟩, ?_⟩, ?_⟩
    · rintro m σ G ⟨i, hi, rfl, rfl, hb, eG⟩
      have hdi := drop_more hd i
      have rd : RdAt K G r z (p + i) := ⟨dr, eG⟩
      refine ⟨_, rfl, r, z, p + i, rfl, rd, hl, rfl, _, rfl, ?_⟩
      by_cases hlt : i < wd.length
      · have hc : (sg z).drop (p + i) = wd[i] :: (wd ++ rest).drop (i + 1) := by
          rw [hdi, List.drop_eq_getElem_cons (by rw [List.length_append]; omega), List.getElem_append_left hlt]
        rw [sgn_at hc]
        refine ifT (by rw [ne_emp]; rfl) ?_
        refine ⟨_, rfl, r, z, p + i, rfl, rd, hl, ?_⟩
        rw [sgn_at hc]
        refine ⟨_, letters, rfl, rfl, _, rfl, ?_⟩
        rw [isL_in]
        refine ifT (hw _ (List.getElem_mem hlt)) ?_
        refine ⟨_, rfl, r, _, dr, _, _, rfl, eG, cl, nP, rfl, _, rfl, _, _, rfl, rfl, _, _, rfl, rfl, _, rfl, ?_⟩
        refine ifT (by simp; omega) ⟨fun σ G => σ = [some (.ref r), some (.int (p : Nat))] ∧ Butx r H G ∧ G r = some (.ins (cR K) dr [("own_text", .str z), ("own_place", .int ((p + (i + 1) : Nat) : Int))]), fun σ' H' ⟨e1, e2, e3⟩ => ⟨wd.length - (i + 1), by omega, i + 1, by omega, rfl, e1, e2, e3⟩, ?_⟩
        exact ⟨_, rfl, r, _, dr, _, _, rfl, eG, cl, nP, rfl, _, _, rfl, rfl, dr, _, eG, (by show 2 < 1000; decide), rfl, hb.upd, at_ G i eG⟩
      · have ei : i = wd.length := by omega
        subst ei
        rw [List.drop_left] at hdi
        cases hr2 : rest with
        | nil =>
          rw [hr2] at hdi
          rw [sgn_none hdi]
          exact ifF (by decide +kernel) (ifF (by rfl) ⟨rfl, hb, eG⟩)
        | cons c t =>
          rw [hr2] at hdi
          rw [sgn_at hdi]
          refine ifT (by rw [ne_emp]; rfl) ?_
          refine ⟨_, rfl, r, z, _, rfl, rd, hl, ?_⟩
          rw [sgn_at hdi]
          refine ⟨_, letters, rfl, rfl, _, rfl, ?_⟩
          rw [isL_in]
          cases hc : isL c with
          | false => exact ifF (by rfl) (ifF (by rfl) ⟨rfl, hb, eG⟩)
          | true =>
            have h88 : wd.length = 8 := by
              rcases hend with h | h
              · exact h
              · rw [h c t hr2] at hc
                cases hc
            refine ifT (by rfl) ⟨_, rfl, r, _, dr, _, _, rfl, eG, cl, nP, rfl, _, rfl, _, _, rfl, rfl, _, _, rfl, rfl, _, rfl, ?_⟩
            exact ifF (by simp; omega) ⟨rfl, hb, eG⟩
    rintro σ G ⟨rfl, hb, eG⟩
    refine ⟨_, rfl, r, _, dr, _, _, rfl, eG, cl, nP, rfl, _, rfl, rfl, _, rfl, ?_⟩
    by_cases hz0 : wd = []
    · subst hz0
      refine ifT (decide_eq_true rfl) ⟨_, rfl, r, z, p, rfl, ⟨dr, eG⟩, q2 rfl G hb ⟨dr, eG⟩⟩
    have h1 : 1 ≤ wd.length := Nat.one_le_iff_ne_zero.mpr fun z => hz0 (List.length_eq_zero_iff.mp z)
    refine ifF (decide_eq_false fun z => by have := V.int.inj z; omega) ?_
    have hzl : p + wd.length ≤ z.length := by
      have := congrArg List.length hd
      rw [List.length_drop, List.length_append, sg_len] at this
      omega
    refine ⟨_, rfl, r, _, dr, _, _, rfl, eG, cl, nT, rfl, _, rfl, _, rfl, _, rfl, r, _, dr, _, _, rfl, eG, cl, nP, rfl, _, rfl, z, rfl, zl z hl, q1 hz0 _ G hb ⟨dr, eG⟩ ?_⟩
    rw [cut_part z p _ hzl, hd, Nat.add_sub_cancel_left, List.take_left]
end
end Kb

namespace Kb
open PySem PySem.Spec PyProof.Rows L2 Mq Rz
theorem ldw_eq (c : Nat) (t : List Nat) : ldw (c :: t) = tw isD (if c = 48 then 1 else 10) (c :: t) := by
  unfold ldw
  split
  · rename_i heq
    simp only [List.cons.injEq] at heq
    rw [if_pos heq.1]
  · rename_i h
    rw [if_neg fun z => h t (by rw [z])]
section
variable {P : Program} {w : World} {K : PySem.W.Frag} {mg : Str → Option Value} {base : Heap}
/-! ### number_here, with its failing -/
def spNumX (K : PySem.W.Frag) : Sp := fun vs H Q E => ∃ (r : Addr) (z : Str) (p c : Nat) (t : List Nat), vs = [.ref r] ∧ RdAt K H r z p ∧ z.length ≤ 100000 ∧ (sg z).drop p = c :: t ∧ isD c = true ∧
  ((c :: t)[(ldw (c :: t)).length]? = some 40 → ∀ G, Butx r H G → RdAt K G r z (p + (ldw (c :: t)).length + 1) → Q (.int (val (ldw (c :: t)))) G) ∧
  (¬(c :: t)[(ldw (c :: t)).length]? = some 40 → ∀ G, Butx r H G → RdAt K G r z (p + (ldw (c :: t)).length) → Bad K E G (p + (ldw (c :: t)).length))
theorem ok_numX {f : Addr} {fd : FuncData} (F : FunD K "number_here" "ItemReader.number_here" (defArgs s_ItemReader_number_here) (defBody s_ItemReader_number_here) (defScope s_ItemReader_number_here) [] [] f fd) (R : Tr P K mg) (T : Bt mg) (S : FnR P w K mg base (LX P w) 1 (He.ma K (cR K) "sign") (spSign K)) (M : FnR P w K mg base (LX P w) 1 (He.ma K (cR K) "most_digits") (spMost K)) (Fl : FnR P w K mg base (LX P w) 2 (He.ma K (cR K) "fail") (spFail K)) : FnOk P w K mg base (LX P w) 3 f fd ["self"] (spNumX K) := by
  refine F.ok sc_ItemReader_number_here (fun vs H Q E h => ?_) (fun cdv A outer s H vs Q E hr h => ?_)
  · obtain ⟨r, z, p, c, t, rfl, _⟩ := h
    rfl
  · obtain ⟨r, z, p, c0, t0, rfl, ⟨dr, e⟩, hl, hl0, hc0, q1, q2⟩ := h
    obtain ⟨t2, g2⟩ := R.digits
    have nd := sc_ItemReader_number_here.nd
    have cl := R.kl.cl
    have nT := R.na "own_text" (by decide)
    have nP := R.na "own_place" (by decide)
    have hr1 : Room 1 _ := hr.mono (by decide)
    refine ⟨_, pss_cons (ps_set (i := 1) nd rfl (Or.inl rfl) (pe_fld (pv 0) rfl))
      (C8.pss_cut (ps_while (passes_of rfl) (PW.pt (pw_and (pt_cmpR op_ne (pe_sign R S (pe_mv0 (k := 1) (E := E0) (pv 0) hr1 passL) mono_v) pe_str (nomark _)) (pw_and (pt_cmpR op_in_sign (pe_sign R S (pe_mv0 (k := 1) (E := E0) (pv 0) hr1 passL) mono_v) (pe_glob (v := .str "0123456789") rfl g2 ⟨_, rfl⟩) rfl) (pw_and1 (pt_cmpR op_lt (pe_op op_sub (pe_fld (pv 0) rfl) (pv 1)) (pe_most R M (pe_mv (k := 1) (E := E0) (pv 0) hr1 passL (pa_cons (pv 1) pa_nil)) mono_v (mono_cons mono_v mono_nil)) (nomark _))))))
        (pss_one (ps_fldaug (pv 0) pe_int in_add)))
      (pss_cons (ps_set (i := 2) nd rfl (Or.inl rfl) (pe_slice sl_str (pe_fld (pv 0) rfl) (po_some (pv 1)) (po_some (pe_fld (pv 0) rfl))))
      (pss_cons (ps_if (pt_cmpR op_ne (pe_sign R S (pe_mv0 (k := 1) (E := E0) (pv 0) hr1 passL) mono_v) pe_str (nomark _)) (pss_one (ps_expr (pe_fail R Fl (pe_mv0 (k := 2) (E := E) (pv 0) hr (passE (takes_of (E := E) rfl rfl rfl rfl) fun _ _ _ _ z => z)) mono_v))) pss_nil)
      (pss_cons (ps_fldaug (pv 0) pe_int in_add)
      (pss_one (ps_ret (pe_callTy call_int_str (by rfl) T.int (by decide +kernel) (pa_cons (pv 2) pa_nil)))))))), ?_⟩
    have at_ : ∀ (G : Hp) (i : Nat), upd G r (.ins (cR K) dr (putF "own_place" (.int (((p + i : Nat) : Int) + 1)) [("own_text", .str z), ("own_place", .int ((p + i : Nat) : Int))])) r = some (.ins (cR K) dr [("own_text", .str z), ("own_place", .int ((p + (i + 1) : Nat) : Int))]) := fun G i => by
      rw [upd_same]
      rfl
    have hd := ldw_take (c0 :: t0)
    have da := ldw_all (c0 :: t0)
    have dl := ldw_len (c0 :: t0)
    have hlim := tw_len isD (if c0 = 48 then 1 else 10) (c0 :: t0)
    have hend := tw_end isD (if c0 = 48 then 1 else 10) (c0 :: t0)
    rw [← ldw_eq] at hlim hend
    have hne : ldw (c0 :: t0) ≠ [] := by
      rw [ldw_eq]
      split <;> simp [tw, hc0]
    have h48 : ∀ r, ldw (c0 :: t0) = 48 :: r → r = [] := by
      intro r2 e2
      by_cases h : c0 = 48
      · rw [if_pos h, e2] at hlim
        exact List.length_eq_zero_iff.mp (by simpa using hlim)
      · exfalso
        rw [e2] at hd
        simp only [List.cons_append, List.cons.injEq] at hd
        exact h hd.1
    have hg : (c0 :: t0)[(ldw (c0 :: t0)).length]? = ((c0 :: t0).drop (ldw (c0 :: t0)).length)[0]? := by rw [List.getElem?_drop]; simp
    rw [hg] at q1 q2
    have h0 : (sg z)[p]? = some c0 := by
      have e2 := List.getElem?_drop (xs := sg z) (i := p) (j := 0)
      rw [hl0] at e2
      simpa using e2.symm
    generalize ldw (c0 :: t0) = wd at hd da dl hlim hend hne h48 q1 q2
    generalize hrest : (c0 :: t0).drop wd.length = rest at hd hend q1 q2
    rw [← hl0] at hd
    have lim : ∀ i, i < wd.length → (i : Int) < (if c0 = 48 then 1 else 10 : Int) := fun i hi => by
      by_cases h : c0 = 48
      · rw [if_pos h] at hlim ⊢
        omega
      · rw [if_neg h] at hlim ⊢
        omega
    refine ⟨_, rfl, r, _, dr, _, _, rfl, e, cl, nP, rfl, ?_⟩
    refine ⟨fun σ G => σ = [some (.ref r), some (.int (p : Nat)), none] ∧ Butx r H G ∧ G r = some (.ins (cR K) dr [("own_text", .str z), ("own_place", .int ((p + wd.length : Nat) : Int))]), ⟨fun m σ G => ∃ i, i ≤ wd.length ∧ m = wd.length - i ∧ σ = [some (.ref r), some (.int (p : Nat)), none] ∧ Butx r H G ∧ G r = some (.ins (cR K) dr [("own_text", .str z), ("own_place", .int ((p + i : Nat) : Int))]), ⟨_, 0, Nat.zero_le _, rfl, rfl, .of_same fun _ _ z => z, e⟩, ?_⟩, ?_⟩
    · rintro m σ G ⟨i, hi, rfl, rfl, hb, eG⟩
      have hdi := drop_more hd i
      have rd : RdAt K G r z (p + i) := ⟨dr, eG⟩
      refine ⟨_, rfl, r, z, p + i, rfl, rd, hl, rfl, _, rfl, ?_⟩
      by_cases hlt : i < wd.length
      · have hc : (sg z).drop (p + i) = wd[i] :: (wd ++ rest).drop (i + 1) := by
          rw [hdi, List.drop_eq_getElem_cons (by rw [List.length_append]; omega), List.getElem_append_left hlt]
        rw [sgn_at hc]
        refine ifT (by rw [ne_emp]; rfl) ?_
        refine ⟨_, rfl, r, z, p + i, rfl, rd, hl, ?_⟩
        rw [sgn_at hc]
        refine ⟨_, "0123456789", rfl, rfl, _, rfl, ?_⟩
        rw [isD_in]
        refine ifT (da _ (List.getElem_mem hlt)) ?_
        refine ⟨_, rfl, r, _, dr, _, _, rfl, eG, cl, nP, rfl, _, rfl, _, _, rfl, rfl, _, rfl, r, z, p + i, rfl, rd, hl, _, rfl, p, c0, rfl, rfl, h0, _, _, rfl, rfl, _, rfl, ?_⟩
        have li := lim i hlt
        refine ifT (decide_eq_true (by omega)) ⟨fun σ G => σ = [some (.ref r), some (.int (p : Nat)), none] ∧ Butx r H G ∧ G r = some (.ins (cR K) dr [("own_text", .str z), ("own_place", .int ((p + (i + 1) : Nat) : Int))]), fun σ' H' ⟨e1, e2, e3⟩ => ⟨wd.length - (i + 1), by omega, i + 1, by omega, rfl, e1, e2, e3⟩, ?_⟩
        exact ⟨_, rfl, r, _, dr, _, _, rfl, eG, cl, nP, rfl, _, _, rfl, rfl, dr, _, eG, (by show 2 < 1000; decide), rfl, hb.upd, at_ G i⟩
      · have ei : i = wd.length := by omega
        subst ei
        rw [List.drop_left] at hdi
        cases hr2 : rest with
        | nil =>
          rw [hr2] at hdi
          rw [sgn_none hdi]
          exact ifF (by decide +kernel) (ifF (by rfl) ⟨rfl, hb, eG⟩)
        | cons c t =>
          rw [hr2] at hdi
          rw [sgn_at hdi]
          refine ifT (by rw [ne_emp]; rfl) ?_
          refine ⟨_, rfl, r, z, _, rfl, rd, hl, ?_⟩
          rw [sgn_at hdi]
          refine ⟨_, "0123456789", rfl, rfl, _, rfl, ?_⟩
          rw [isD_in]
          cases hc : isD c with
          | false => exact ifF (by rfl) (ifF (by rfl) ⟨rfl, hb, eG⟩)
          | true =>
            have h88 : wd.length = if c0 = 48 then 1 else 10 := by
              rcases hend with h | h
              · exact h
              · rw [h c t hr2] at hc
                cases hc
            refine ifT (by rfl) ⟨_, rfl, r, _, dr, _, _, rfl, eG, cl, nP, rfl, _, rfl, _, _, rfl, rfl, _, rfl, r, z, p + wd.length, rfl, rd, hl, _, rfl, p, c0, rfl, rfl, h0, _, _, rfl, rfl, _, rfl, ?_⟩
            exact ifF (decide_eq_false (by rw [h88]; split <;> omega)) ⟨rfl, hb, eG⟩
    rintro σ G ⟨rfl, hb, eG⟩
    have hzl : p + wd.length ≤ z.length := by
      have := congrArg List.length hd
      have h1 : 1 ≤ wd.length := Nat.one_le_iff_ne_zero.mpr fun z => hne (List.length_eq_zero_iff.mp z)
      rw [List.length_drop, List.length_append, sg_len] at this
      omega
    refine ⟨_, rfl, r, _, dr, _, _, rfl, eG, cl, nT, rfl, _, rfl, _, rfl, _, rfl, r, _, dr, _, _, rfl, eG, cl, nP, rfl, _, rfl, z, rfl, zl z hl, ?_⟩
    have eu : sg (cutS z (some (p : Int)) (some ((p + wd.length : Nat) : Int))) = wd := by rw [cut_part z p _ hzl, hd, Nat.add_sub_cancel_left, List.take_left]
    have hdl := drop_more hd wd.length
    rw [List.drop_left] at hdl
    refine ⟨_, rfl, r, z, p + wd.length, rfl, ⟨dr, eG⟩, hl, ?_⟩
    by_cases h40 : rest[0]? = some 40
    · obtain ⟨r2, rfl⟩ : ∃ r2, rest = 40 :: r2 := by
        cases rest with
        | nil => simp at h40
        | cons a b => exact ⟨b, by simp at h40; rw [h40]⟩
      rw [sgn_at hdl]
      refine ⟨rfl, _, rfl, ?_⟩
      refine ifF (by rw [eq_sign (show sg "(" = [40] by decide +kernel)]; rfl) ?_
      refine ⟨_, rfl, r, _, dr, _, _, rfl, eG, cl, nP, rfl, _, _, rfl, rfl, dr, _, eG, (by show 2 < 1000; decide), ?_⟩
      have ev := dig_val _ wd rfl da hne h48
      have vs := val_small da dl
      have hstr : cutS z (some (p : Int)) (some ((p + wd.length : Nat) : Int)) = PySem.Str.ofString (toString (val wd)) := sg_inj (by
        rw [eu]
        exact ev.symm)
      refine ⟨_, rfl, _, val wd, rfl, ?_, ?_, q1 h40 _ hb.upd ⟨dr, at_ G _⟩⟩
      · show PySem.intText? (cutS z (some (p : Int)) (some ((p + wd.length : Nat) : Int))) = some (val wd)
        rw [hstr]
        exact PySem.W.KIN.num_reads vs.1 (by omega)
      · show (cutS z (some (p : Int)) (some ((p + wd.length : Nat) : Int))).length ≤ 640
        rw [← sg_len, eu]
        omega
    · have hs : decide (V.str (sgn z (p + wd.length)) = V.str "(") = false := by
        cases rest with
        | nil =>
          rw [sgn_none hdl]
          decide +kernel
        | cons a b =>
          rw [sgn_at hdl]
          exact ne_sign (show sg "(" = [40] by decide +kernel) (by simpa using h40)
      refine ⟨rfl, _, rfl, ?_⟩
      refine ifT (by rw [hs]; rfl) ⟨_, rfl, r, z, p + wd.length, rfl, ⟨dr, eG⟩, q2 h40 G hb ⟨dr, eG⟩⟩
end
end Kb

namespace Kb
open PySem PySem.Spec PyProof.Rows L2 Mq Rz
def lenI : Io → Nat
  | .bad i => i
  | .word _ _ m => m
  | .times w => w.length + 1
def isBad : Io → Bool
  | .bad _ => true
  | _ => false
section
variable {P : Program} {w : World} {K : PySem.W.Frag} {mg : Str → Option Value} {base : Heap}
def tRMX (K : PySem.W.Frag) (E : XK) (sp : Sp) (te : TE) : TE := fun σ H Q => te σ H fun x G => ∃ r z p, x = .ref r ∧ RdAt K G r z p ∧ sp [.ref r] G Q E
theorem pe_rmX {X : Cx} {ex : Expr} {te : TE} {k : Nat} {m : Str} {sp : Sp} {E : XK} (R : Tr X.prog X.K X.mg) (hm : m ∈ (["sign", "word", "number_here", "most_digits", "item", "whole", "fail"] : List Str)) (hn : ∀ z p, ([("own_text", V.str z), ("own_place", V.int p)] : List (Str × V)).lookup m = none) (S : FnR X.prog X.w X.K X.mg X.base (LX X.prog X.w) k (He.ma X.K (cR X.K) m) sp) (h : PE X ex (tMv X.prog X.w X.K X.mg X.base k m E te tNil)) (mo : Mono te) : PE X ex (tRMX X.K E sp te) :=
  pe_weak h fun σ H Q h => mo σ H _ _ (fun x G ⟨r, z, p, ex, hR, q⟩ => by
    subst ex
    obtain ⟨dr, e⟩ := id hR
    exact ⟨r, _, dr, _, _, _, rfl, e, hn _ _, R.kl.cl, R.me m hm, S, q⟩) h
/-! ### item, with its failing -/
def spItemX (K : PySem.W.Frag) : Sp := fun vs H Q E => ∃ (r : Addr) (z : Str) (p : Nat), vs = [.ref r] ∧ RdAt K H r z p ∧ z.length ≤ 100000 ∧
  (isBad (itm ((sg z).drop p)) = true → ∀ G, Butx r H G → RdAt K G r z (p + lenI (itm ((sg z).drop p))) → Bad K E G (p + lenI (itm ((sg z).drop p)))) ∧
  (isBad (itm ((sg z).drop p)) = false → ∀ G a, Butx r H G → RdAt K G r z (p + lenI (itm ((sg z).drop p))) → H a = none → G a = some (.tup (tokV (tokOf (itm ((sg z).drop p))))) → Q (.ref a) G)
theorem ok_itemX {f : Addr} {fd : FuncData} (F : FunD K "item" "ItemReader.item" (defArgs s_ItemReader_item) (defBody s_ItemReader_item) (defScope s_ItemReader_item) [] [] f fd) (R : Tr P K mg) (S : FnR P w K mg base (LX P w) 1 (He.ma K (cR K) "sign") (spSign K))
    (Wd : FnR P w K mg base (LX P w) 3 (He.ma K (cR K) "word") (spWordX K)) (Nm : FnR P w K mg base (LX P w) 3 (He.ma K (cR K) "number_here") (spNumX K)) : FnOk P w K mg base (LX P w) 4 f fd ["self"] (spItemX K) := by
  refine F.ok sc_ItemReader_item (fun vs H Q E h => ?_) (fun cdv A outer s H vs Q E hr h => ?_)
  · obtain ⟨r, z, p, rfl, _⟩ := h
    rfl
  · obtain ⟨r, z, p, rfl, ⟨dr, e⟩, hl, q1, q2⟩ := h
    obtain ⟨t2, g2⟩ := R.digits
    have cl := R.kl.cl
    have nP := R.na "own_place" (by decide)
    have hr1 : Room 1 _ := hr.mono (by decide)
    refine ⟨_, pss_cons (ps_if (pt_cmpR op_eq (pe_sign R S (pe_mv0 (k := 1) (E := E0) (pv 0) hr1 passL) mono_v) pe_str (nomark _)) (pss_cons (ps_fldaug (pv 0) pe_int in_add) (pss_one (ps_ret (pe_tup (pa_cons pe_str (pa_cons (pe_rmX R (m := "word") (by decide) (fun _ _ => rfl) Wd (pe_mv0 (k := 3) (E := E) (pv 0) hr (passE (takes_of (E := E) rfl rfl rfl rfl) fun _ _ _ _ z => z)) mono_v) pa_nil)))))) pss_nil)
      (pss_cons (ps_if (pt_cmpR op_eq (pe_sign R S (pe_mv0 (k := 1) (E := E0) (pv 0) hr1 passL) mono_v) pe_str (nomark _)) (pss_cons (ps_fldaug (pv 0) pe_int in_add) (pss_one (ps_ret (pe_tup (pa_cons pe_str (pa_cons (pe_rmX R (m := "word") (by decide) (fun _ _ => rfl) Wd (pe_mv0 (k := 3) (E := E) (pv 0) hr (passE (takes_of (E := E) rfl rfl rfl rfl) fun _ _ _ _ z => z)) mono_v) pa_nil)))))) pss_nil)
      (pss_cons (ps_if (PW.pt (pw_and (pt_cmpR op_ne (pe_sign R S (pe_mv0 (k := 1) (E := E0) (pv 0) hr1 passL) mono_v) pe_str (nomark _)) (pw_and1 (pt_cmpR op_in_sign (pe_sign R S (pe_mv0 (k := 1) (E := E0) (pv 0) hr1 passL) mono_v) (pe_glob (v := .str "0123456789") rfl g2 ⟨_, rfl⟩) rfl)))) (pss_one (ps_ret (pe_tup (pa_cons pe_str (pa_cons (pe_rmX R (m := "number_here") (by decide) (fun _ _ => rfl) Nm (pe_mv0 (k := 3) (E := E) (pv 0) hr (passE (takes_of (E := E) rfl rfl rfl rfl) fun _ _ _ _ z => z)) mono_v) pa_nil))))) pss_nil)
      (pss_one (ps_ret (pe_tup (pa_cons pe_str (pa_cons (pe_rmX R (m := "word") (by decide) (fun _ _ => rfl) Wd (pe_mv0 (k := 3) (E := E) (pv 0) hr (passE (takes_of (E := E) rfl rfl rfl rfl) fun _ _ _ _ z => z)) mono_v) pa_nil))))))), ?_⟩
    have e33 : sg "!" = [33] := by decide +kernel
    have e64 : sg "@" = [64] := by decide +kernel
    have rd : RdAt K H r z p := ⟨dr, e⟩
    have up : ∀ (G : Hp), upd G r (.ins (cR K) dr (putF "own_place" (.int ((p : Int) + 1)) [("own_text", .str z), ("own_place", .int (p : Int))])) r = some (.ins (cR K) dr [("own_text", .str z), ("own_place", .int ((p + 1 : Nat) : Int))]) := fun G => by
      rw [upd_same]
      rfl
    have b1 : ∀ o, Butx r H (upd H r o) := fun o => Butx.upd (.of_same fun _ _ z => z)
    have fin : ∀ (G : Hp) (a : Addr) (q2 : Nat) (vs : List V), Butx r H G → RdAt K G r z q2 → G a = none → Butx r H (upd G a (.tup vs)) ∧ RdAt K (upd G a (.tup vs)) r z q2 ∧ H a = none := fun G a q2 vs hb ⟨dr2, hR⟩ ha => by
      have nar : a ≠ r := fun h => by rw [h, hR] at ha; cases ha
      refine ⟨hb.trans (.of_same (same_new ha)), ⟨dr2, same_new ha _ _ hR⟩, ?_⟩
      cases h : H a with
      | none => rfl
      | some o => exact absurd (hb a o h nar) (by rw [ha]; simp)
    have mks : ∀ {u : Str} {l : List Nat}, sg u = l → u = mk l := fun h => sg_inj (by rw [h, sg_mk])
    generalize hlg : (sg z).drop p = lg at q1 q2
    cases lg with
    | nil =>
      refine ⟨_, rfl, r, z, p, rfl, rd, hl, ?_⟩
      rw [sgn_none hlg]
      refine ⟨rfl, _, rfl, ifF (by decide +kernel) ?_⟩
      refine ⟨_, rfl, r, z, p, rfl, rd, hl, ?_⟩
      rw [sgn_none hlg]
      refine ⟨rfl, _, rfl, ifF (by decide +kernel) ?_⟩
      refine ⟨_, rfl, r, z, p, rfl, rd, hl, ?_⟩
      rw [sgn_none hlg]
      refine ⟨rfl, _, rfl, ifF (by decide +kernel) (ifF (by rfl) ?_)⟩
      refine ⟨_, rfl, r, z, p, rfl, rd, r, z, p, rfl, rd, hl, fun hne => ?_, fun _ G hb hR => q1 rfl G hb hR⟩
      rw [hlg] at hne
      exact absurd rfl hne
    | cons c t =>
      have hs := sgn_at hlg
      have hd1 : (sg z).drop (p + 1) = t := by
        rw [← List.drop_drop, hlg]
        rfl
      -- a word behind a sign
      by_cases h33 : c = 33
      · subst h33
        refine ⟨_, rfl, r, z, p, rfl, rd, hl, ?_⟩
        rw [hs]
        refine ⟨rfl, _, rfl, ifT (eq_sign e33) ?_⟩
        refine ⟨_, rfl, r, _, dr, _, _, rfl, e, cl, nP, rfl, _, _, rfl, rfl, dr, _, e, (by show 2 < 1000; decide), ?_⟩
        refine ⟨_, rfl, r, z, p + 1, rfl, ⟨dr, up H⟩, r, z, p + 1, rfl, ⟨dr, up H⟩, hl, fun hne u G hb hR hu => ⟨sz 2 (by decide), fun a ha => ?_⟩, fun hno G hb hR => ?_⟩
        · rw [hd1] at hne hu hR
          have ei : itm (33 :: t) = .word 33 (lw t) (1 + (lw t).length) := by simp [itm, hne]
          rw [ei] at q2
          obtain ⟨f1, f2, f3⟩ := fin G a _ [.str "say", .str u] ((b1 _).trans hb) hR ha
          rw [mks hu] at f1 f2 ⊢
          exact q2 rfl _ a f1 (by show RdAt K _ r z (p + (1 + (lw t).length)); rw [← Nat.add_assoc]; exact f2) f3 upd_same
        · rw [hd1] at hno
          have ei : itm (33 :: t) = .bad 1 := by simp [itm, hno]
          rw [ei] at q1
          exact q1 rfl G ((b1 _).trans hb) hR
      by_cases h64 : c = 64
      · subst h64
        refine ⟨_, rfl, r, z, p, rfl, rd, hl, ?_⟩
        rw [hs]
        refine ⟨rfl, _, rfl, ifF (ne_sign e33 (by decide)) ?_⟩
        refine ⟨_, rfl, r, z, p, rfl, rd, hl, ?_⟩
        rw [hs]
        refine ⟨rfl, _, rfl, ifT (eq_sign e64) ?_⟩
        refine ⟨_, rfl, r, _, dr, _, _, rfl, e, cl, nP, rfl, _, _, rfl, rfl, dr, _, e, (by show 2 < 1000; decide), ?_⟩
        refine ⟨_, rfl, r, z, p + 1, rfl, ⟨dr, up H⟩, r, z, p + 1, rfl, ⟨dr, up H⟩, hl, fun hne u G hb hR hu => ⟨sz 2 (by decide), fun a ha => ?_⟩, fun hno G hb hR => ?_⟩
        · rw [hd1] at hne hu hR
          have ei : itm (64 :: t) = .word 64 (lw t) (1 + (lw t).length) := by simp [itm, hne]
          rw [ei] at q2
          obtain ⟨f1, f2, f3⟩ := fin G a _ [.str "go", .str u] ((b1 _).trans hb) hR ha
          rw [mks hu] at f1 f2 ⊢
          exact q2 rfl _ a f1 (by show RdAt K _ r z (p + (1 + (lw t).length)); rw [← Nat.add_assoc]; exact f2) f3 upd_same
        · rw [hd1] at hno
          have ei : itm (64 :: t) = .bad 1 := by simp [itm, hno]
          rw [ei] at q1
          exact q1 rfl G ((b1 _).trans hb) hR
      have h1 : ¬(c = 33 ∨ c = 64) := by omega
      refine ⟨_, rfl, r, z, p, rfl, rd, hl, ?_⟩
      rw [hs]
      refine ⟨rfl, _, rfl, ifF (ne_sign e33 h33) ?_⟩
      refine ⟨_, rfl, r, z, p, rfl, rd, hl, ?_⟩
      rw [hs]
      refine ⟨rfl, _, rfl, ifF (ne_sign e64 h64) ?_⟩
      refine ⟨_, rfl, r, z, p, rfl, rd, hl, ?_⟩
      rw [hs]
      refine ⟨rfl, _, rfl, ifT (by rw [ne_emp]; rfl) ?_⟩
      refine ⟨_, rfl, r, z, p, rfl, rd, hl, ?_⟩
      rw [hs]
      refine ⟨_, "0123456789", rfl, rfl, _, rfl, ?_⟩
      rw [isD_in]
      by_cases h2 : isD c = true
      · refine ifT h2 ?_
        refine ⟨_, rfl, r, z, p, rfl, rd, r, z, p, c, t, rfl, rd, hl, hlg, h2, fun h40 G hb hR => ⟨sz 2 (by decide), fun a ha => ?_⟩, fun h40 G hb hR => ?_⟩
        · have ei : itm (c :: t) = .times (ldw (c :: t)) := by
            simp only [itm]
            rw [if_neg h1, if_pos h2, if_pos h40]
          rw [ei] at q2
          obtain ⟨f1, f2, f3⟩ := fin G a _ [.str "times", .int (val (ldw (c :: t)))] hb hR ha
          exact q2 rfl _ a f1 f2 f3 upd_same
        · have ei : itm (c :: t) = .bad (ldw (c :: t)).length := by
            simp only [itm]
            rw [if_neg h1, if_pos h2, if_neg h40]
          rw [ei] at q1
          exact q1 rfl G hb hR
      · have h2' : isD c = false := Bool.eq_false_iff.mpr h2
        refine ifF h2' ?_
        refine ⟨_, rfl, r, z, p, rfl, rd, r, z, p, rfl, rd, hl, fun hne u G hb hR hu => ⟨sz 2 (by decide), fun a ha => ?_⟩, fun hno G hb hR => ?_⟩
        · rw [hlg] at hne hu hR
          have ei : itm (c :: t) = .word 0 (lw (c :: t)) (lw (c :: t)).length := by
            simp only [itm]
            rw [if_neg h1, if_neg h2, if_neg hne]
          rw [ei] at q2
          obtain ⟨f1, f2, f3⟩ := fin G a _ [.str "press", .str u] hb hR ha
          rw [mks hu] at f1 f2 ⊢
          exact q2 rfl _ a f1 f2 f3 upd_same
        · rw [hlg] at hno
          have ei : itm (c :: t) = .bad 0 := by
            simp only [itm]
            rw [if_neg h1, if_neg h2, if_pos hno]
          rw [ei] at q1
          exact q1 rfl G hb hR
end
end Kb

namespace Kb
open PySem PySem.Spec PyProof.Rows L2 Mq Rz
/-! ### whole, with its failing -/
def tokK : Tok → Str
  | .say _ => "say"
  | .press _ => "press"
  | .go _ => "go"
  | .op _ => "times"
  | .cl => "close"
theorem tokK_at (t : Tok) : atI (tokV t) 0 = some (.str (tokK t)) := by cases t <;> rfl
theorem tokK_op (t : Tok) : decide (V.str (tokK t) = V.str "times") = isOp t := by
  cases t with
  | op n => exact decide_eq_true rfl
  | say w => exact decide_eq_false fun e => absurd (V.str.inj e) (by show (("say" : Str)) ≠ "times"; decide +kernel)
  | press w => exact decide_eq_false fun e => absurd (V.str.inj e) (by show (("press" : Str)) ≠ "times"; decide +kernel)
  | go w => exact decide_eq_false fun e => absurd (V.str.inj e) (by show (("go" : Str)) ≠ "times"; decide +kernel)
  | cl => exact decide_eq_false fun e => absurd (V.str.inj e) (by show (("close" : Str)) ≠ "times"; decide +kernel)
def okTX : Tok → Prop
  | .say w => isW w = true
  | .press w => isW w = true
  | .go w => isW w = true
  | .op n => 0 ≤ n ∧ n < 10 ^ 10
  | .cl => True
theorem isW_mk {l : List Nat} (h1 : l ≠ []) (h8 : l.length ≤ 8) (ha : ∀ c ∈ l, isL c = true) : isW (mk l) = true := by
  have e : (mk l).length = l.length := by rw [← sg_len, sg_mk]
  have h0 : 1 ≤ l.length := Nat.one_le_iff_ne_zero.mpr fun z => h1 (List.length_eq_zero_iff.mp z)
  unfold isW
  rw [Bool.and_eq_true_iff]
  refine ⟨decide_eq_true (by rw [e]; exact ⟨h0, h8⟩), List.all_eq_true.mpr fun c hc => ha c ?_⟩
  rw [← sg_mk l]
  exact hc
theorem okTX_itm {l : List Nat} (h : isBad (itm l) = false) : okTX (tokOf (itm l)) := by
  cases hi : itm l with
  | bad i => rw [hi] at h; cases h
  | word s w m =>
    obtain ⟨h1, h8, ha, _⟩ := itm_word hi
    have := isW_mk h1 h8 ha
    simp only [tokOf]
    split
    · exact this
    · split <;> exact this
  | times w =>
    obtain ⟨_, hl, ha, _⟩ := itm_times hi
    exact val_small ha hl
theorem lenI_pos {l : List Nat} (h : isBad (itm l) = false) : 1 ≤ lenI (itm l) ∧ lenI (itm l) ≤ l.length := by
  cases hi : itm l with
  | bad i => rw [hi] at h; cases h
  | word s w m =>
    obtain ⟨_, _, _, h1, h2, _⟩ := itm_word hi
    exact ⟨h2, h1⟩
  | times w =>
    obtain ⟨_, _, _, _, h1, _⟩ := itm_times hi
    exact ⟨by simp [lenI], h1⟩
def WhX (K : PySem.W.Frag) (H : Hp) (r l : Addr) (z : Str) (m : Nat) (σ : L2.St) (G : Hp) : Prop := ∃ (ts : List Tok) (nxt : Bool) (vs : List V) (p d : Nat) (s : As) (u : List Nat) (x4 : Option V), m = z.length - p ∧ p ≤ z.length ∧ σ = [some (.ref r), some (.ref l), some (.int (d : Nat)), some (.bl nxt), x4] ∧ Butx r H G ∧ G l = some (.lst vs) ∧ TksAt G vs ts ∧ ts.length ≤ p ∧ (∀ t ∈ ts, okTX t) ∧ RdAt K G r z p ∧ wrong (sg z) = wr ((sg z).drop p) s d p ∧ Jn (sg z) p d ts u ∧
  (nxt = true → u = [] ∧ (s = .beg ∨ (s = .opn ∧ ∀ t, (sg z).drop p ≠ 41 :: t))) ∧ (nxt = false → Tl s ((sg z).drop p))
section
variable {P : Program} {w : World} {K : PySem.W.Frag} {mg : Str → Option Value} {base : Heap}
def spWholeX (K : PySem.W.Frag) : Sp := fun vs H Q E => ∃ (r : Addr) (z : Str), vs = [.ref r] ∧ RdAt K H r z 0 ∧ z.length ≤ 100000 ∧
  (∀ k, wrong (sg z) = some k → ∀ G, Butx r H G → RdAt K G r z k → Bad K E G k) ∧
  (wrong (sg z) = none → ∀ l vs ts u G, Butx r H G → H l = none → G l = some (.lst vs) → TksAt G vs ts → ts.length ≤ z.length → (∀ t ∈ ts, okTX t) → Jn (sg z) z.length 0 ts u → Q (.ref l) G)
theorem ok_wholeX {f : Addr} {fd : FuncData} (F : FunD K "whole" "ItemReader.whole" (defArgs s_ItemReader_whole) (defBody s_ItemReader_whole) (defScope s_ItemReader_whole) [] [] f fd) (R : Tr P K mg) (T : Bt mg) (S : FnR P w K mg base (LX P w) 1 (He.ma K (cR K) "sign") (spSign K)) (Fl : FnR P w K mg base (LX P w) 2 (He.ma K (cR K) "fail") (spFail K))
    (It : FnR P w K mg base (LX P w) 4 (He.ma K (cR K) "item") (spItemX K)) : FnOk P w K mg base (LX P w) 5 f fd ["self"] (spWholeX K) := by
  refine F.ok sc_ItemReader_whole (fun vs H Q E h => ?_) (fun cdv A outer s H vs Q E hr h => ?_)
  · obtain ⟨r, z, rfl, _⟩ := h
    rfl
  · obtain ⟨r, z, rfl, ⟨dr, e⟩, hl, qb, q⟩ := h
    have nd := sc_ItemReader_whole.nd
    have cl := R.kl.cl
    have nT := R.na "own_text" (by decide)
    have nP := R.na "own_place" (by decide)
    have hr1 : Room 1 _ := hr.mono (by decide)
    have hr2 : Room 2 _ := hr.mono (by decide)
    refine ⟨_, (pss_cons (ps_par (i := 1) (j := 2) (by rfl) nd rfl rfl (by decide) rfl rfl (pa_cons (pe_lst pa_nil) (pa_cons pe_int pa_nil)) (by rfl))
      (pss_cons (ps_if (pt_cmpR op_eq (pe_fld (pv 0) rfl) pe_str (nomark _)) (pss_one (ps_ret (pv 1))) pss_nil)
      (pss_cons (ps_set (i := 3) nd rfl (Or.inl rfl) pe_bl)
      (pss_cons (ps_while (passes_of rfl) (PW.pt (pw_or (pt_val (pv 3)) (pw_or (pt_cmpR op_ne (pe_sign R S (pe_mv0 (k := 1) (E := E0) (pv 0) hr1 passL) mono_v) pe_str (nomark _)) (pw_or1 (pt_cmpR op_gt (pv 2) pe_int (nomark _))))))
        (pss_one (ps_if (pt_val (pv 3))
          (pss_cons (ps_expr (pe_bm PySem.F.plainAttrs_list PySem.F.slot_list_append PySem.F.type_list_append mt_append (pv 1) (pa_cons (pe_rmX R (m := "item") (by decide) (fun _ _ => rfl) It (pe_mv0 (k := 4) (E := E) (pv 0) hr (passE (takes_of (E := E) rfl rfl rfl rfl) fun _ _ _ _ z => z)) mono_v) pa_nil)))
          (pss_cons (ps_set (i := 4) nd rfl (Or.inl rfl) (pe_cmpR op_eq (pe_ix ix_tup (pe_ix ix_list (pv 1) (pe_un un_neg pe_int) (fun _ _ => rfl)) pe_int (fun _ _ => rfl)) pe_str (nomark _)))
          (pss_cons (ps_aug (i := 2) nd rfl (.inl rfl) (pe_callTy call_int1 (by rfl) T.int (by decide +kernel) (pa_cons (pv 4) pa_nil)) ip_add)
          (pss_one (ps_set (i := 3) nd rfl (Or.inl rfl) (pe_and (pv 4) (pe_one (pe_cmpR op_ne (pe_sign R S (pe_mv0 (k := 1) (E := E0) (pv 0) hr1 passL) mono_v) pe_str (nomark _)))))))))
          (pss_one (ps_if (pt_cmpR op_eq (pe_sign R S (pe_mv0 (k := 1) (E := E0) (pv 0) hr1 passL) mono_v) pe_str (nomark _))
            (pss_cons (ps_fldaug (pv 0) pe_int in_add) (pss_one (ps_set (i := 3) nd rfl (Or.inl rfl) pe_bl)))
            (pss_one (ps_if (PW.pt (pw_and (pt_cmpR op_eq (pe_sign R S (pe_mv0 (k := 1) (E := E0) (pv 0) hr1 passL) mono_v) pe_str (nomark _)) (pw_and1 (pt_cmpR op_gt (pv 2) pe_int (nomark _)))))
              (pss_cons (ps_fldaug (pv 0) pe_int in_add) (pss_cons (ps_aug (i := 2) nd rfl (.inl rfl) pe_int ip_sub) (pss_one (ps_expr (pe_bm PySem.F.plainAttrs_list PySem.F.slot_list_append PySem.F.type_list_append mt_append (pv 1) (pa_cons (pe_tup (pa_cons pe_str (pa_cons pe_int pa_nil))) pa_nil))))))
              (pss_one (ps_expr (pe_fail R Fl (pe_mv0 (k := 2) (E := E) (pv 0) hr2 (passE (takes_of (E := E) rfl rfl rfl rfl) fun _ _ _ _ z => z)) mono_v))))))))))
      (pss_one (ps_ret (pv 1))))))), ?_⟩
    have e32 : sg " " = [32] := by decide +kernel
    have e41 : sg ")" = [41] := by decide +kernel
    have eE : sg "" = [] := by decide +kernel
    refine ⟨sz 0 (by decide), fun l hl0 => ⟨_, _, rfl, ?_⟩⟩
    have s1 := same_new (o := .lst []) hl0
    have e1 := s1 _ _ e
    have nlr : l ≠ r := Ne.symm (ne_of_none e hl0)
    refine ⟨_, rfl, r, _, dr, _, _, rfl, e1, cl, nT, rfl, rfl, _, rfl, ?_⟩
    have rd1 : RdAt K (upd H l (.lst [])) r z 0 := ⟨dr, e1⟩
    have b1 : Butx r H (upd H l (.lst [])) := .of_same s1
    have g1 : upd H l (.lst []) l = some (.lst []) := upd_same
    generalize upd H l (.lst []) = H1 at s1 e1 rd1 b1 g1 ⊢
    have j0 : Jn (sg z) 0 0 [] [] := ⟨[], [], by simp [psl], rfl, rfl⟩
    by_cases hz : z = ""
    · subst hz
      refine ifT (by decide +kernel) ⟨_, rfl, q ?_ l [] [] [] H1 b1 hl0 g1 .nil (by simp) (by simp) j0⟩
      rw [eE]
      rfl
    have zne : sg z ≠ [] := fun h => hz (sg_inj (h.trans eE.symm))
    refine ifF (decide_eq_false fun h => hz (V.str.inj h)) ?_
    refine ⟨WhX K H r l z, ⟨_, [], true, [], 0, 0, .beg, [], none, rfl, Nat.zero_le _, rfl, b1, g1, .nil, Nat.le_refl _, by simp, rd1, ?_, j0, fun _ => ⟨rfl, .inl rfl⟩, fun h => by cases h⟩, ?_⟩
    · unfold wrong
      rw [if_neg zne]
      rfl
    rintro m σ G ⟨ts, nxt, vs, p, d, st, u, x4, rfl, hp, rfl, hb, gl, hT, htl, hok, rd, hwr, hJ, hn1, hn2⟩
    obtain ⟨dr2, eG⟩ := id rd
    have hvl := hT.length
    have up : ∀ (G : Hp), upd G r (.ins (cR K) dr2 (putF "own_place" (.int ((p : Int) + 1)) [("own_text", .str z), ("own_place", .int (p : Int))])) r = some (.ins (cR K) dr2 [("own_text", .str z), ("own_place", .int ((p + 1 : Nat) : Int))]) := fun G => by
      rw [upd_same]
      rfl
    have smallv : vs.length < sizeLine := by rw [sizeLine_eq]; omega
    refine ⟨_, rfl, _, rfl, ?_⟩
    cases nxt with
    | true =>
      obtain ⟨rfl, hs⟩ := hn1 rfl
      refine ifT (by rfl) (ifT (by rfl) ⟨fun σ' G' => ∃ m', m' < z.length - p ∧ WhX K H r l z m' σ' G', fun _ _ h => h, ?_⟩)
      refine ⟨_, rfl, _, rfl, ifT (by rfl) ?_⟩
      have hwi := wr_itm (d := d) (k := p) hs
      refine ⟨_, rfl, .inl ⟨rfl, _, SqL.of gl⟩, _, rfl, r, z, p, rfl, rd, r, z, p, rfl, rd, hl, fun hbad G2 hb2 hR2 => ?_, fun hgood G2 a hb2 hR2 ha2 hG2 => ?_⟩
      · cases hi : itm ((sg z).drop p) with
        | bad i =>
          rw [hi] at hwi hR2
          exact qb _ (hwr.trans hwi) G2 (hb.trans hb2) hR2
        | word s w m => rw [hi] at hbad; cases hbad
        | times w => rw [hi] at hbad; cases hbad
      have hot := okTX_itm hgood
      have hlen := lenI_pos hgood
      rw [List.length_drop, sg_len] at hlen
      obtain ⟨t, ht⟩ : ∃ t, t = tokOf (itm ((sg z).drop p)) := ⟨_, rfl⟩
      rw [← ht] at hG2 hot
      have gl2 := hb2 _ _ gl nlr
      refine ⟨l, vs, _, rfl, rfl, gl2, smallv, ?_⟩
      have nal : a ≠ l := fun h => by rw [h, gl] at ha2; cases ha2
      have hb3 : Butx r H (upd G2 l (.lst (vs ++ [.ref a]))) := fun b o h n => by
        rw [upd_ne (ne_of_none h hl0)]
        exact hb2 _ _ (hb _ _ h n) n
      have hT3 : TksAt (upd G2 l (.lst (vs ++ [.ref a]))) (vs ++ [.ref a]) (ts ++ [t]) := TksAt.snoc (hT.kin fun b ws h => by
        have nb : b ≠ l := fun z => by rw [z, gl] at h; cases h
        have nr : b ≠ r := fun z => by rw [z, eG] at h; cases h
        rw [upd_ne nb]
        exact hb2 _ _ h nr) (by rw [upd_ne nal]; exact hG2)
      have hR3 : RdAt K (upd G2 l (.lst (vs ++ [.ref a]))) r z (p + lenI (itm ((sg z).drop p))) := by
        obtain ⟨d3, e3⟩ := hR2
        exact ⟨d3, by rw [upd_ne (Ne.symm nlr)]; exact e3⟩
      have ga3 : upd G2 l (.lst (vs ++ [.ref a])) a = some (.tup (tokV t)) := by rw [upd_ne nal]; exact hG2
      have gl3 : upd G2 l (.lst (vs ++ [.ref a])) l = some (.lst (vs ++ [.ref a])) := upd_same
      generalize upd G2 l (.lst (vs ++ [.ref a])) = G3 at hb3 hT3 hR3 ga3 gl3 ⊢
      have okall : ∀ x ∈ ts ++ [t], okTX x := fun x hx => by
        rcases List.mem_append.mp hx with h | h
        · exact hok x h
        · rw [List.mem_singleton.mp h]
          exact hot
      refine ⟨_, rfl, _, rfl, l, _, _, .ref a, rfl, rfl, SqL.of gl3, atI_last _ _, a, _, _, _, rfl, rfl, SqT.of ga3, tokK_at t, rfl, ?_⟩
      rw [tokK_op]
      refine ⟨_, rfl, _, rfl, .inr ⟨isOp t, rfl, _, _, rfl, rfl, ?_⟩⟩
      refine ⟨_, rfl, isOp t, rfl, ?_⟩
      cases hi : itm ((sg z).drop p) with
      | bad i => rw [hi] at hgood; cases hgood
      | word s w m =>
        rw [hi] at hwi hlen hR3 ht
        have hop : isOp t = false := by
          rw [ht]
          simp only [tokOf]
          split
          · rfl
          · split <;> rfl
        obtain ⟨u2, hJ2⟩ := hJ.item (by rw [sg_len]; exact hp) hi
        rw [← ht] at hJ2
        have htl2 := tl_word hi
        have hwi2 : wr ((sg z).drop p) st d p = wr (((sg z).drop p).drop m) (.wrd w.length) d (p + m) := hwi
        rw [List.drop_drop] at hwi2 htl2
        have hl2 : 1 ≤ m ∧ m ≤ z.length - p := hlen
        rw [hop]
        exact ⟨z.length - (p + m), by omega, ts ++ [t], false, _, p + m, d, .wrd w.length, u2, some (.bl false), rfl, by omega, rfl, hb3, gl3, hT3, by simp; omega, okall, hR3, hwr.trans hwi2, hJ2, fun h => (by cases h), fun _ => htl2⟩
      | times w =>
        rw [hi] at hwi hlen hR3 ht
        have hop : isOp t = true := by rw [ht]; rfl
        have hJ2 := hJ.times (by rw [sg_len]; exact hp) hi
        rw [← ht] at hJ2
        have hwi2 : wr ((sg z).drop p) st d p = wr (((sg z).drop p).drop (w.length + 1)) .opn (d + 1) (p + (w.length + 1)) := hwi
        rw [List.drop_drop] at hwi2
        have hl2 : 1 ≤ w.length + 1 ∧ w.length + 1 ≤ z.length - p := hlen
        rw [hop]
        refine ⟨_, rfl, r, z, p + (w.length + 1), rfl, hR3, hl, rfl, ?_⟩
        by_cases h41 : ∃ y, (sg z).drop (p + (w.length + 1)) = 41 :: y
        · obtain ⟨y, hy⟩ := h41
          refine ⟨z.length - (p + (w.length + 1)), by omega, ts ++ [t], false, _, p + (w.length + 1), d + 1, .opn, [], some (.bl true), rfl, by omega, ?_, hb3, gl3, hT3, by simp; omega, okall, hR3, hwr.trans hwi2, hJ2, fun h => (by cases h), fun _ => .inr (.inl ⟨rfl, y, hy⟩)⟩
          rw [sgn_at hy, eq_sign e41]
          rfl
        · refine ⟨z.length - (p + (w.length + 1)), by omega, ts ++ [t], true, _, p + (w.length + 1), d + 1, .opn, [], some (.bl true), rfl, by omega, ?_, hb3, gl3, hT3, by simp; omega, okall, hR3, hwr.trans hwi2, hJ2, fun _ => ⟨rfl, .inr ⟨rfl, fun y hy => h41 ⟨y, hy⟩⟩⟩, fun h => (by cases h)⟩
          have hs2 : decide (V.str (sgn z (p + (w.length + 1))) = V.str ")") = false := by
            cases hq : (sg z).drop (p + (w.length + 1)) with
            | nil =>
              rw [sgn_none hq]
              decide +kernel
            | cons a b =>
              rw [sgn_at hq]
              exact ne_sign e41 fun z => h41 ⟨b, by rw [hq, z]⟩
          rw [hs2]
          rfl
    | false =>
      have hTl := hn2 rfl
      refine ifF (by rfl) ?_
      refine ⟨_, rfl, r, z, p, rfl, rd, hl, rfl, _, rfl, ?_⟩
      cases hlg : (sg z).drop p with
      | nil =>
        rw [hlg] at hTl hwr
        have hpl : p = z.length := by
          have := List.drop_eq_nil_iff.mp hlg
          rw [sg_len] at this
          omega
        have hs := sgn_none hlg
        rw [hs]
        refine ifF (by decide +kernel) ?_
        refine ⟨_, rfl, _, _, rfl, rfl, _, rfl, ?_⟩
        by_cases hd0 : d = 0
        · subst hd0
          refine ifF (by decide) ?_
          exact ⟨_, rfl, q (hwr.trans (wr_end hTl)) l vs ts u G hb hl0 gl hT (by omega) hok (hpl ▸ hJ)⟩
        · refine ifT (decide_eq_true (show ((d : Nat) : Int) > 0 by omega)) ⟨fun σ' G' => ∃ m', m' < z.length - p ∧ WhX K H r l z m' σ' G', fun _ _ h => h, ?_⟩
          refine ⟨_, rfl, _, rfl, ifF (by rfl) ?_⟩
          refine ⟨_, rfl, r, z, p, rfl, rd, hl, ?_⟩
          rw [hs]
          refine ⟨rfl, _, rfl, ifF (by decide +kernel) ?_⟩
          refine ⟨_, rfl, r, z, p, rfl, rd, hl, ?_⟩
          rw [hs]
          refine ⟨rfl, _, rfl, ifF (by decide +kernel) (ifF (by rfl) ?_)⟩
          exact ⟨_, rfl, r, z, p, rfl, rd, qb _ (hwr.trans (wr_no hTl (fun _ h => by cases h) (fun _ h => by cases h) fun _ => by omega)) G hb rd⟩
      | cons c t =>
        have hs := sgn_at hlg
        have hp1 : p + 1 ≤ z.length := by
          have := congrArg List.length hlg
          rw [List.length_drop, sg_len, List.length_cons] at this
          omega
        have hd1 : (sg z).drop (p + 1) = t := by
          rw [← List.drop_drop, hlg]
          rfl
        rw [hs]
        refine ifT (by rw [ne_emp]; rfl) (ifT (by rfl) ⟨fun σ' G' => ∃ m', m' < z.length - p ∧ WhX K H r l z m' σ' G', fun _ _ h => h, ?_⟩)
        refine ⟨_, rfl, _, rfl, ifF (by rfl) ?_⟩
        refine ⟨_, rfl, r, z, p, rfl, rd, hl, ?_⟩
        rw [hs]
        refine ⟨rfl, _, rfl, ?_⟩
        have hgl : ∀ o, upd G r o l = some (.lst vs) := fun o => by rw [upd_ne nlr]; exact gl
        have hTu : ∀ dx fs, TksAt (upd G r (.ins (cR K) dx fs)) vs ts := fun dx fs => hT.kin fun b ws h => by
          have nr : b ≠ r := fun z => by rw [z, eG] at h; cases h
          rw [upd_ne nr]
          exact h
        by_cases h32 : c = 32
        · subst h32
          refine ifT (eq_sign e32) ?_
          refine ⟨_, rfl, r, _, dr2, _, _, rfl, eG, cl, nP, rfl, _, _, rfl, rfl, dr2, _, eG, (by show 2 < 1000; decide), ?_⟩
          rw [hlg] at hTl hwr
          refine ⟨z.length - (p + 1), by omega, ts, true, vs, p + 1, d, .beg, [], x4, rfl, hp1, rfl, hb.upd, hgl _, hTu _ _, by omega, hok, ⟨dr2, up G⟩, ?_, hJ.space hlg, fun _ => ⟨rfl, .inl rfl⟩, fun h => by cases h⟩
          rw [hwr, wr_sp hTl, hd1]
        refine ifF (ne_sign e32 h32) ?_
        refine ⟨_, rfl, r, z, p, rfl, rd, hl, ?_⟩
        rw [hs]
        refine ⟨rfl, _, rfl, ?_⟩
        by_cases h41 : c = 41
        · subst h41
          refine ifT (eq_sign e41) ?_
          refine ⟨_, rfl, _, _, rfl, rfl, _, rfl, ?_⟩
          rw [hlg] at hTl hwr
          by_cases hd0 : 0 < d
          · refine ifT (decide_eq_true (show ((d : Nat) : Int) > 0 by omega)) ?_
            refine ⟨_, rfl, r, _, dr2, _, _, rfl, eG, cl, nP, rfl, _, _, rfl, rfl, dr2, _, eG, (by show 2 < 1000; decide), ?_⟩
            refine ⟨_, rfl, _, _, rfl, rfl, ?_⟩
            have gl2 := hgl (.ins (cR K) dr2 (putF "own_place" (.int ((p : Int) + 1)) [("own_text", .str z), ("own_place", .int (p : Int))]))
            refine ⟨_, rfl, .inl ⟨rfl, _, SqL.of gl2⟩, sz 2 (by decide), fun a ha => ?_⟩
            have gl3 := same_new (o := .tup [.str "close", .int 0]) ha _ _ gl2
            refine ⟨l, vs, _, rfl, rfl, gl3, smallv, ?_⟩
            have nal : a ≠ l := fun h => by rw [h, gl2] at ha; cases ha
            have nar : a ≠ r := fun h => by rw [h, up G] at ha; cases ha
            refine ⟨z.length - (p + 1), by omega, ts ++ [.cl], false, _, p + 1, d - 1, .don, [], x4, rfl, hp1, ?_, ?_, upd_same, ?_, by simp; omega, ?_, ?_, ?_, hJ.close hlg hd0, fun h => (by cases h), fun _ => .inl rfl⟩
            · rw [show ((d - 1 : Nat) : Int) = (d : Int) - 1 by omega]
              rfl
            · intro b o h n
              rw [upd_ne (ne_of_none h hl0)]
              exact same_new ha _ _ (hb.upd b o h n)
            · refine TksAt.snoc ((hTu dr2 (putF "own_place" (.int ((p : Int) + 1)) [("own_text", .str z), ("own_place", .int (p : Int))])).kin fun b ws h => ?_) (by rw [upd_ne nal, upd_same]; rfl)
              have nb : b ≠ l := fun z => by rw [z, gl2] at h; cases h
              rw [upd_ne nb]
              exact same_new ha _ _ h
            · intro x hx
              rcases List.mem_append.mp hx with h | h
              · exact hok x h
              · rw [List.mem_singleton.mp h]
                trivial
            · exact ⟨dr2, by rw [upd_ne (Ne.symm nlr)]; exact same_new ha _ _ (up G)⟩
            · rw [hwr, wr_cl hTl hd0, hd1]
          · refine ifF (decide_eq_false (show ¬((d : Nat) : Int) > 0 by omega)) ?_
            exact ⟨_, rfl, r, z, p, rfl, rd, qb _ (hwr.trans (wr_no hTl (fun _ h => by cases h) (fun _ _ => by omega) fun h => by cases h)) G hb rd⟩
        refine ifF (ne_sign e41 h41) (ifF (by rfl) ?_)
        rw [hlg] at hTl hwr
        exact ⟨_, rfl, r, z, p, rfl, rd, qb _ (hwr.trans (wr_no hTl (fun _ h => h32 (by simpa using congrArg List.head? h)) (fun _ h => absurd (by simpa using congrArg List.head? h) h41) fun h => by cases h)) G hb rd⟩
end
end Kb

namespace Kb
open PySem PySem.Spec PyProof.Rows L2 Mq Rz StX
def itOf : Tok → It
  | .say w => .say w
  | .press w => .press w
  | .go w => .go w
  | .op n => .times n []
  | .cl => .times 0 []
def isWd : Tok → Bool
  | .say _ => true
  | .press _ => true
  | .go _ => true
  | _ => false
theorem dnS (x y : Str) (h : x ≠ y) : decide (V.str x = V.str y) = false := decide_eq_false fun e => h (V.str.inj e)
/-! ### the pile -/
/-! ### the errors of the constructors -/
def errC (K : PySem.W.Frag) : Ft → Addr
  | .item => He.ga K "InvalidItem"
  | .many => He.ga K "TooMany"
  | .deep => He.ga K "TooDeep"
def errF : Ft → List (Str × V)
  | .item => [("field", .str "number")]
  | .many => [("limit", .int 6)]
  | .deep => [("limit", .int 2)]
def ErrAt (K : PySem.W.Frag) (E : XK) (H : Hp) (e : Ft) : Prop := ∀ G d, Same H G → G d = none → E (.ref (errC K e)) (some d) (upd G d (.xd (errF e)))
theorem tmX_all {K : PySem.W.Frag} {n : Int} {ys : List V} {its : List It} {H : Hp} {Q : VK} {E : XK} (hI : ItsAt K H ys its) (hl : ys.length ≤ 3000) (n0 : 0 ≤ n) (q : ownF n its = [] → ∀ G a, Same H G → H a = none → ItAt K G (.ref a) (.times n its) → Q (.ref a) G)
    (qe : ∀ e, (ownF n its).head? = some e → ErrAt K E H e) : TmX K (.int n :: ys) H Q E := by
  have hil := hI.length
  have hno := noAt_its its
  have hin : isIn (.int n) = true → n ≤ 10 ^ 9 := fun h => by
    have h2 : (decide (0 ≤ n) && decide (n ≤ 10 ^ 9)) = true := h
    exact of_decide_eq_true (Bool.and_eq_true_iff.mp h2).2
  have hout : isIn (.int n) = false → n > 10 ^ 9 := fun h => by
    have h2 : (decide (0 ≤ n) && decide (n ≤ 10 ^ 9)) = false := h
    rw [decide_eq_true n0, Bool.true_and] at h2
    have := of_decide_eq_false h2
    omega
  refine ⟨.int n, ys, its.map some, rfl, .int, paired_of hI, hl, fun h => ?_, fun _ i hi => ?_, fun h _ h6 => ?_, fun h its2 e h6 lv => ?_, fun n2 its2 en h e h6 lv G a sm ha hA => ?_⟩
  · exact qe .item (by unfold ownF; rw [if_pos (hout h)]; rfl)
  · rw [hno] at hi
    cases hi
  · exact qe .many (by unfold ownF; rw [if_neg (by have := hin h; omega), if_pos (by omega)]; rfl)
  · rw [← map_some_inj e] at lv
    exact qe .deep (by unfold ownF; rw [if_neg (by have := hin h; omega), if_neg (by omega), if_pos (by omega)]; rfl)
  · cases en
    rw [← map_some_inj e] at hA lv
    exact q (by unfold ownF; rw [if_neg (by have := hin h; omega), if_neg (by omega), if_neg (by omega)]; rfl) G a sm ha hA
/-- the frames of the pile, the last one first: their lists stand at as -/
inductive FrAt (K : PySem.W.Frag) (G : Hp) (B : Nat) : List V → List (Int × List It) → List Addr → Prop
  | nil : FrAt K G B [] [] []
  | cons {t f : Addr} {n : Int} {vs : List V} {pr : List It} {ps : List V} {fr : List (Int × List It)} {as : List Addr} (e : G t = some (.tup [.int n, .ref f])) (g : G f = some (.lst vs)) (h : ItsAt K G vs pr) (hl : vs.length ≤ B) (r : FrAt K G B ps fr as) : FrAt K G B (.ref t :: ps) ((n, pr) :: fr) (f :: as)
theorem FrAt.keep {K : PySem.W.Frag} {H G : Hp} {B B' : Nat} (k : Kin H G) (hB : B ≤ B') : ∀ {ps : List V} {fr : List (Int × List It)} {as : List Addr}, FrAt K H B ps fr as → (∀ f ∈ as, ∀ vs, H f = some (.lst vs) → G f = some (.lst vs)) → FrAt K G B' ps fr as
  | _, _, _, .nil, _ => .nil
  | _, _, _, .cons e g h hl r, l => (.cons (k.2 _ _ e) (l _ List.mem_cons_self _ g) (h.kin k) (Nat.le_trans hl hB) (r.keep k hB fun f hf vs e => l f (List.mem_cons_of_mem _ hf) vs e))
section
variable {P : Program} {w : World} {K : PySem.W.Frag} {mg : Str → Option Value} {base : Heap}
def spMI (K : PySem.W.Frag) : Sp := fun vs H Q _ => ∃ (t : Tok), vs = tokV t ∧ isWd t = true ∧ okTX t ∧ ∀ a G, Same H G → H a = none → ItAt K G (.ref a) (itOf t) → Q (.ref a) G
theorem ok_mi {f : Addr} {fd : FuncData} (F : FunD K "made_item" "made_item" (defArgs s_made_item) (defBody s_made_item) (defScope s_made_item) [] [] f fd) (T : Tc P K mg)
    (FS : FnR P w K mg base (LX P w) 2 (He.ma K (cS K) "__init__") (spOne K (cS K) "command")) (FP : FnR P w K mg base (LX P w) 2 (He.ma K (cP K) "__init__") (spOne K (cP K) "key")) (FG : FnR P w K mg base (LX P w) 2 (He.ma K (cG K) "__init__") (spOne K (cG K) "mode")) :
    FnOk P w K mg base (LX P w) 4 f fd ["kind", "value"] (spMI K) := by
  refine F.ok sc_made_item (fun vs H Q E h => ?_) (fun cdv A outer s H vs Q E hr h => ?_)
  · obtain ⟨t, rfl, hw, _⟩ := h
    cases t <;> rfl
  · obtain ⟨t, rfl, hw, ho, q⟩ := h
    refine ⟨_, PSs.nox (pss_cons (ps_if (pt_cmpR op_eq (pv 0) pe_str (nomark _)) (pss_one (ps_ret (pe_mkOne (E := E0) (pe_glob (v := .ref (cS K)) rfl (T.g "Say" (by decide)) rfl) mono_c (mono_cons mono_v mono_nil) (T.mkr "Say" (by decide)) FS hr passL (pa_cons (pv 1) pa_nil)))) pss_nil)
      (pss_one (ps_ret (pe_ifExp (pt_cmpR op_eq (pv 0) pe_str (nomark _)) (pe_mkOne (E := E0) (pe_glob (v := .ref (cP K)) rfl (T.g "Press" (by decide)) rfl) mono_c (mono_cons mono_v mono_nil) (T.mkr "Press" (by decide)) FP hr passL (pa_cons (pv 1) pa_nil))
        (pe_mkOne (E := E0) (pe_glob (v := .ref (cG K)) rfl (T.g "Go" (by decide)) rfl) mono_c (mono_cons mono_v mono_nil) (T.mkr "Go" (by decide)) FG hr passL (pa_cons (pv 1) pa_nil)))))), ?_⟩
    have wl : ∀ z : Str, isW z = true → z.length ≤ 1000 := fun z hz => by
      have := (isW_all hz).1
      omega
    cases t with
    | op n => cases hw
    | cl => cases hw
    | say v =>
      refine ⟨_, rfl, rfl, _, rfl, ?_⟩
      exact ifT (by decide +kernel) ⟨rfl, _, rfl, _, rfl, .str (wl v ho), fun _ a dx G sm n e => q a G sm n (.say e), fun z => absurd ((show isW v = true from ho).symm.trans z) (by decide)⟩
    | press v =>
      refine ⟨_, rfl, rfl, _, rfl, ?_⟩
      refine ifF (dnS _ _ (by decide +kernel)) ?_
      refine ⟨_, rfl, rfl, _, rfl, ?_⟩
      exact ifT (by decide +kernel) ⟨rfl, _, rfl, _, rfl, .str (wl v ho), fun _ a dx G sm n e => q a G sm n (.press e), fun z => absurd ((show isW v = true from ho).symm.trans z) (by decide)⟩
    | go v =>
      refine ⟨_, rfl, rfl, _, rfl, ?_⟩
      refine ifF (dnS _ _ (by decide +kernel)) ?_
      refine ⟨_, rfl, rfl, _, rfl, ?_⟩
      exact ifF (dnS _ _ (by decide +kernel)) ⟨rfl, _, rfl, _, rfl, .str (wl v ho), fun _ a dx G sm n e => q a G sm n (.go e), fun z => absurd ((show isW v = true from ho).symm.trans z) (by decide)⟩
end
end Kb

namespace Kb
open PySem PySem.Spec PyProof.Rows L2 Mq Rz StX
section
variable {P : Program} {w : World} {K : PySem.W.Frag} {mg : Str → Option Value} {base : Heap}
/-! ### made_items, with the first fault -/
def spMX (K : PySem.W.Frag) : Sp := fun vs H Q E => ∃ (l : Addr) (us : List V) (ts : List Tok) (xs : List It), vs = [.ref l] ∧ H l = some (.lst us) ∧ TksAt H us ts ∧ (∀ t ∈ ts, okTX t) ∧ ts.length ≤ 3000 ∧ tsl ts ([], []) = some (xs, []) ∧
  (ftsL xs = [] → ∀ f vs G, Same H G → H f = none → G f = some (.lst vs) → ItsAt K G vs xs → Q (.ref f) G) ∧ (∀ e, (ftsL xs).head? = some e → ErrAt K E H e)
theorem ok_misX {f : Addr} {fd : FuncData} (F : FunD K "made_items" "made_items" (defArgs s_made_items) (defBody s_made_items) (defScope s_made_items) [] [] f fd) (T : Tc P K mg) (I : Of P w K mg base 4 "made_item" (spMI K)) (Ti : FnR P w K mg base (LX P w) 6 (He.ma K (cT K) "__init__") (spTimesXR K)) :
    FnOk P w K mg base (LX P w) 8 f fd ["parts"] (spMX K) := by
  refine F.ok sc_made_items (fun vs H Q E h => ?_) (fun cdv A outer s H vs Q E hr h => ?_)
  · obtain ⟨l, us, ts, xs, rfl, _⟩ := h
    rfl
  · obtain ⟨l, us, ts, xs, rfl, hl, hT, hok, hlen, hrun, q, qe⟩ := h
    have nd := sc_made_items.nd
    refine ⟨_, (pss_cons (ps_par (i := 1) (j := 2) (by rfl) nd rfl rfl (by decide) rfl rfl (pa_cons (pe_lst pa_nil) (pa_cons (pe_lst pa_nil) pa_nil)) (by rfl))
      (pss_cons (ps_for (passes_of rfl) rfl (pi_list (pv 0)) (pg_tup rfl (pgs_cons (pg_name (i := 3) nd rfl (Or.inl rfl)) (pgs_cons (pg_name (i := 4) nd rfl (Or.inl rfl)) pgs_nil)))
        (pss_one (ps_if (pt_cmpR op_eq (pv 3) pe_str (nomark _))
          (pss_cons (ps_expr (pe_bm PySem.F.plainAttrs_list PySem.F.slot_list_append PySem.F.type_list_append mt_append (pv 2) (pa_cons (pe_tup (pa_cons (pv 4) (pa_cons (pv 1) pa_nil))) pa_nil))) (pss_one (ps_set (i := 1) nd rfl (Or.inl rfl) (pe_lst pa_nil))))
          (pss_one (ps_if (pt_cmpR op_eq (pv 3) pe_str (nomark _))
            (pss_cons (ps_set (i := 5) nd rfl (Or.inl rfl) (pv 1)) (pss_cons (ps_asg (pe_bm0 PySem.F.plainAttrs_list PySem.F.slot_list_pop PySem.F.type_list_pop mt_pop (pv 2)) (pg_tup rfl (pgs_cons (pg_name (i := 6) nd rfl (Or.inl rfl)) (pgs_cons (pg_name (i := 1) nd rfl (Or.inl rfl)) pgs_nil))))
              (pss_one (ps_expr (pe_bm PySem.F.plainAttrs_list PySem.F.slot_list_append PySem.F.type_list_append mt_append (pv 1) (pa_cons (pe_timesXS (E := E) (pe_glob (v := .ref (cT K)) rfl (T.g "Times" (by decide)) rfl) mono_c (mono_cons mono_v (mono_star mono_v mono_nil)) (T.mkr "Times" (by decide)) Ti hr (passE (takes_of (E := E) rfl rfl rfl rfl) fun _ _ _ _ z => z) (pa_cons (pv 6) (pa_star (pv 5) pa_nil))) pa_nil))))))
            (pss_one (ps_expr (pe_bm PySem.F.plainAttrs_list PySem.F.slot_list_append PySem.F.type_list_append mt_append (pv 1) (pa_cons (pe_of (E := E0) I hr rfl passL (pa_cons (pv 3) (pa_cons (pv 4) pa_nil))) pa_nil)))))))))
      (pss_one (ps_ret (pv 1))))), ?_⟩
    refine ⟨sz 0 (by decide), fun f0 h0 => ⟨sz 0 (by decide), fun pa h1 => ⟨_, _, rfl, ?_⟩⟩⟩
    obtain ⟨npf, h10⟩ := upd_none h1
    have s1 : Same H (upd (upd H f0 (.lst [])) pa (.lst [])) := (same_new h0).trans (same_new h1)
    have g0 : upd (upd H f0 (.lst [])) pa (.lst []) f0 = some (.lst []) := by rw [upd_ne (Ne.symm npf), upd_same]
    have g1 : upd (upd H f0 (.lst [])) pa (.lst []) pa = some (.lst []) := upd_same
    generalize upd (upd H f0 (.lst [])) pa (.lst []) = H1 at s1 g0 g1 ⊢
    have hul := hT.length
    refine ⟨_, rfl, l, rfl, ⟨_, SqL.of (s1 _ _ hl)⟩, for_it (walk_list (xs := us)) (fun j σ G => ∃ (fc : Addr) (cvs ps : List V) (cur : List It) (fr : List (Int × List It)) (as : List Addr) (x3 x4 x5 x6 : Option V), σ = [some (.ref l), some (.ref fc), some (.ref pa), x3, x4, x5, x6] ∧ Same H G ∧ H fc = none ∧ (∀ a ∈ as, H a = none) ∧ (fc :: as).Nodup ∧ pa ∉ (fc :: as) ∧ G fc = some (.lst cvs) ∧ ItsAt K G cvs cur ∧ cvs.length ≤ j ∧ G pa = some (.lst ps.reverse) ∧ ps.length ≤ j ∧ FrAt K G j ps fr as ∧ tsl (ts.drop j) (cur, fr) = some (xs, []) ∧ tot (cur, fr) = [] ∧ ∀ x ∈ fr, 0 ≤ x.1)
      ⟨f0, [], [], [], [], [], _, _, _, _, rfl, s1, h0, (fun a ha => by cases ha), by simp, by simpa using npf, g0, .nil, Nat.le_refl _, g1, Nat.le_refl _, .nil, hrun, rfl, by simp⟩ (fun j σ G _ h => ?_) ?_ ?_⟩
    · obtain ⟨_, _, _, _, _, _, _, _, _, _, _, sm, _⟩ := h
      exact SqL.of (sm _ _ hl)
    · rintro j y σ G G' hj ⟨fc, cvs, ps, cur, fr, as, x3, x4, x5, x6, rfl, sm, hfc, has, hnd, hpa, gf, gI, gl, gp, gpl, gF, hr2, htot, hn0⟩ ⟨rfl, hy⟩
      obtain ⟨a, t, rfl, htk, hta⟩ := hT.get hy
      have hta2 := sm _ _ hta
      have hdrop : ts.drop j = t :: ts.drop (j + 1) := by
        obtain ⟨h1, h2⟩ := List.getElem?_eq_some_iff.mp htk
        rw [List.drop_eq_getElem_cons h1, h2]
      rw [hdrop] at hr2
      have hot := hok t (List.mem_of_getElem? htk)
      have hj2 : j < 3000 := by omega
      have nfp : fc ≠ pa := fun z => hpa (by rw [z]; exact List.mem_cons_self)
      have nfa : fc ∉ as := (List.nodup_cons.mp hnd).1
      have nda := (List.nodup_cons.mp hnd).2
      have npa : pa ∉ as := fun z => hpa (List.mem_cons_of_mem _ z)
      have big : ∀ n : Nat, n ≤ j → n < sizeLine := fun n hn => by rw [sizeLine_eq]; omega
      cases t with
      | say v =>
        refine ⟨a, _, rfl, SqT.of hta2, rfl, _, _, rfl, _, _, rfl, rfl, _, rfl, rfl, _, rfl, ?_⟩
        refine ifF (dnS _ _ (by decide +kernel)) ?_
        refine ⟨_, rfl, rfl, _, rfl, ?_⟩
        refine ifF (dnS _ _ (by decide +kernel)) ?_
        refine ⟨_, rfl, .inl ⟨rfl, _, SqL.of gf⟩, _, rfl, _, rfl, .say v, rfl, rfl, hot, fun b G2 s2 hb hI => ?_⟩
        refine ⟨fc, cvs, _, rfl, rfl, s2 _ _ gf, big _ gl, ?_⟩
        have kk : Kin G2 (upd G2 fc (.lst (cvs ++ [.ref b]))) := .at_ (s2 _ _ gf) (fun _ _ _ _ z => by cases z) (fun _ z => by cases z)
        refine ⟨fc, cvs ++ [.ref b], ps, cur ++ [.say v], fr, as, _, _, _, _, rfl, same_at (sm.trans s2) hfc, hfc, has, hnd, hpa, upd_same, ItsAt.snoc ((gI.same s2).kin kk) (hI.kin kk), by rw [List.length_append]; simp; omega, by rw [upd_ne (Ne.symm nfp)]; exact s2 _ _ gp, by omega, (gF.keep (B' := j + 1) (.of_same s2) (by omega) fun f _ vs e => s2 _ _ e).keep kk (Nat.le_refl _) fun f hf vs e => ?_, ?_⟩
        · rw [upd_ne fun z => nfa (by rw [← z]; exact hf)]
          exact e
        · exact ⟨by simpa only [tsl, tst, Option.bind_some] using hr2, by simpa [tot, ftsP, ftsL_app, ftsL, fts] using htot, hn0⟩
      | press v =>
        refine ⟨a, _, rfl, SqT.of hta2, rfl, _, _, rfl, _, _, rfl, rfl, _, rfl, rfl, _, rfl, ?_⟩
        refine ifF (dnS _ _ (by decide +kernel)) ?_
        refine ⟨_, rfl, rfl, _, rfl, ?_⟩
        refine ifF (dnS _ _ (by decide +kernel)) ?_
        refine ⟨_, rfl, .inl ⟨rfl, _, SqL.of gf⟩, _, rfl, _, rfl, .press v, rfl, rfl, hot, fun b G2 s2 hb hI => ?_⟩
        refine ⟨fc, cvs, _, rfl, rfl, s2 _ _ gf, big _ gl, ?_⟩
        have kk : Kin G2 (upd G2 fc (.lst (cvs ++ [.ref b]))) := .at_ (s2 _ _ gf) (fun _ _ _ _ z => by cases z) (fun _ z => by cases z)
        refine ⟨fc, cvs ++ [.ref b], ps, cur ++ [.press v], fr, as, _, _, _, _, rfl, same_at (sm.trans s2) hfc, hfc, has, hnd, hpa, upd_same, ItsAt.snoc ((gI.same s2).kin kk) (hI.kin kk), by rw [List.length_append]; simp; omega, by rw [upd_ne (Ne.symm nfp)]; exact s2 _ _ gp, by omega, (gF.keep (B' := j + 1) (.of_same s2) (by omega) fun f _ vs e => s2 _ _ e).keep kk (Nat.le_refl _) fun f hf vs e => ?_, ?_⟩
        · rw [upd_ne fun z => nfa (by rw [← z]; exact hf)]
          exact e
        · exact ⟨by simpa only [tsl, tst, Option.bind_some] using hr2, by simpa [tot, ftsP, ftsL_app, ftsL, fts] using htot, hn0⟩
      | go v =>
        refine ⟨a, _, rfl, SqT.of hta2, rfl, _, _, rfl, _, _, rfl, rfl, _, rfl, rfl, _, rfl, ?_⟩
        refine ifF (dnS _ _ (by decide +kernel)) ?_
        refine ⟨_, rfl, rfl, _, rfl, ?_⟩
        refine ifF (dnS _ _ (by decide +kernel)) ?_
        refine ⟨_, rfl, .inl ⟨rfl, _, SqL.of gf⟩, _, rfl, _, rfl, .go v, rfl, rfl, hot, fun b G2 s2 hb hI => ?_⟩
        refine ⟨fc, cvs, _, rfl, rfl, s2 _ _ gf, big _ gl, ?_⟩
        have kk : Kin G2 (upd G2 fc (.lst (cvs ++ [.ref b]))) := .at_ (s2 _ _ gf) (fun _ _ _ _ z => by cases z) (fun _ z => by cases z)
        refine ⟨fc, cvs ++ [.ref b], ps, cur ++ [.go v], fr, as, _, _, _, _, rfl, same_at (sm.trans s2) hfc, hfc, has, hnd, hpa, upd_same, ItsAt.snoc ((gI.same s2).kin kk) (hI.kin kk), by rw [List.length_append]; simp; omega, by rw [upd_ne (Ne.symm nfp)]; exact s2 _ _ gp, by omega, (gF.keep (B' := j + 1) (.of_same s2) (by omega) fun f _ vs e => s2 _ _ e).keep kk (Nat.le_refl _) fun f hf vs e => ?_, ?_⟩
        · rw [upd_ne fun z => nfa (by rw [← z]; exact hf)]
          exact e
        · exact ⟨by simpa only [tsl, tst, Option.bind_some] using hr2, by simpa [tot, ftsP, ftsL_app, ftsL, fts] using htot, hn0⟩
      | op n =>
        refine ⟨a, _, rfl, SqT.of hta2, rfl, _, _, rfl, _, _, rfl, rfl, _, rfl, rfl, _, rfl, ?_⟩
        refine ifT (by decide +kernel) ?_
        refine ⟨_, rfl, .inl ⟨rfl, _, SqL.of gp⟩, _, rfl, _, rfl, sz 2 (by decide), fun tp htp => ?_⟩
        have s2 := same_new (o := .tup [.int n, .ref fc]) htp
        refine ⟨pa, _, _, rfl, rfl, s2 _ _ gp, by rw [List.length_reverse]; exact big _ gpl, ?_⟩
        have ntp : tp ≠ pa := fun z => by rw [z, gp] at htp; cases htp
        have kk : Kin (upd G' tp (.tup [.int n, .ref fc])) (upd (upd G' tp (.tup [.int n, .ref fc])) pa (.lst (ps.reverse ++ [.ref tp]))) := .at_ (s2 _ _ gp) (fun _ _ _ _ z => by cases z) (fun _ z => by cases z)
        have sm3 : Same H (upd (upd G' tp (.tup [.int n, .ref fc])) pa (.lst (ps.reverse ++ [.ref tp]))) := same_at (sm.trans s2) h10
        have gp3 : upd (upd G' tp (.tup [.int n, .ref fc])) pa (.lst (ps.reverse ++ [.ref tp])) pa = some (.lst (.ref tp :: ps).reverse) := by rw [upd_same, List.reverse_cons]
        have gf3 : upd (upd G' tp (.tup [.int n, .ref fc])) pa (.lst (ps.reverse ++ [.ref tp])) fc = some (.lst cvs) := by rw [upd_ne nfp]; exact s2 _ _ gf
        have gt3 : upd (upd G' tp (.tup [.int n, .ref fc])) pa (.lst (ps.reverse ++ [.ref tp])) tp = some (.tup [.int n, .ref fc]) := by rw [upd_ne ntp, upd_same]
        have gI3 := (gI.same s2).kin kk
        have gF3 := (gF.keep (B' := j + 1) (.of_same s2) (by omega) fun f _ vs e => s2 _ _ e).keep kk (Nat.le_refl _) fun f hf vs e => by
          rw [upd_ne fun z => npa (by rw [← z]; exact hf)]
          exact e
        generalize upd (upd G' tp (.tup [.int n, .ref fc])) pa (.lst (ps.reverse ++ [.ref tp])) = G3 at sm3 gp3 gf3 gt3 gI3 gF3 ⊢
        refine ⟨sz 0 (by decide), fun fn hfn => ?_⟩
        have s4 := same_new (o := .lst []) hfn
        have hfnH : H fn = none := by
          cases z : H fn with
          | none => rfl
          | some o => exact absurd (sm3 _ _ z) (by rw [hfn]; simp)
        have nfc : fn ≠ fc := fun z => by rw [z, gf3] at hfn; cases hfn
        have nfpa : fn ≠ pa := fun z => by rw [z, gp3] at hfn; cases hfn
        have asl : ∀ {ps : List V} {fr : List (Int × List It)} {as : List Addr}, FrAt K G3 (j + 1) ps fr as → fn ∉ as := fun h => by
          induction h with
          | nil => simp
          | cons e g _ _ _ ih =>
            intro z
            rcases List.mem_cons.mp z with z | z
            · rw [z, g] at hfn
              cases hfn
            · exact ih z
        have nfas := asl gF3
        refine ⟨fn, [], .ref tp :: ps, [], (n, cur) :: fr, fc :: as, _, _, _, _, rfl, sm3.trans s4, hfnH, fun b hb => ?_, ?_, ?_, upd_same, .nil, Nat.zero_le _, s4 _ _ gp3, by simp; omega, .cons (s4 _ _ gt3) (s4 _ _ gf3) (gI3.same s4) (by omega) (gF3.keep (.of_same s4) (Nat.le_refl _) fun f _ vs e => s4 _ _ e), ?_⟩
        · rcases List.mem_cons.mp hb with rfl | hb
          · exact hfc
          · exact has b hb
        · exact List.nodup_cons.mpr ⟨by simp [nfc, nfas], hnd⟩
        · intro z
          rcases List.mem_cons.mp z with z | z
          · exact nfpa z.symm
          · exact hpa z
        · exact ⟨by simpa only [tsl, tst, Option.bind_some] using hr2, by simpa [tot, ftsP, ftsL] using htot, fun x hx => by
            rcases List.mem_cons.mp hx with rfl | hx
            · exact hot.1
            · exact hn0 x hx⟩
      | cl =>
        refine ⟨a, _, rfl, SqT.of hta2, rfl, _, _, rfl, _, _, rfl, rfl, _, rfl, rfl, _, rfl, ?_⟩
        refine ifF (dnS _ _ (by decide +kernel)) ?_
        refine ⟨_, rfl, rfl, _, rfl, ?_⟩
        refine ifT (by decide +kernel) ?_
        cases gF with
        | nil => simp [tsl, tst] at hr2
        | @cons tp fp n vs pr ps2 fr2 as2 eT gT hI2 hl2 gF2 =>
        have hr3 : tsl (ts.drop (j + 1)) (pr ++ [.times n cur], fr2) = some (xs, []) := by simpa only [tsl, tst, Option.bind_some] using hr2
        have htt := tot_tst (s := (cur, (n, pr) :: fr2)) (k := .cl) (t := (pr ++ [.times n cur], fr2)) rfl
        rw [htot, List.nil_append] at htt
        have htt2 : tot (pr ++ [.times n cur], fr2) = ownF n cur := htt
        obtain ⟨more, hmore⟩ := tot_tsl hr3
        have hfin : ftsL xs = ownF n cur ++ more := by
          rw [← htt2, ← hmore]
          simp [tot, ftsP]
        have hn : 0 ≤ n := hn0 (n, pr) List.mem_cons_self
        have hcl := gI.length
        refine ⟨_, rfl, _, rfl, .inl ⟨rfl, _, SqL.of gp⟩, pa, _, .ref tp, rfl, rfl, gp, ?_, ?_⟩
        · rw [List.reverse_cons]
          simp
        have gp2 : (List.reverse (.ref tp :: ps2)).dropLast = ps2.reverse := by rw [List.reverse_cons, List.dropLast_concat]
        rw [gp2]
        have kk : Kin G' (upd G' pa (.lst ps2.reverse)) := .at_ gp (fun _ _ _ _ z => by cases z) (fun _ z => by cases z)
        have nfp2 : fp ≠ pa := fun z => npa (by rw [← z]; exact List.mem_cons_self)
        have nff : fc ≠ fp := fun z => nfa (by rw [z]; exact List.mem_cons_self)
        have sm3 : Same H (upd G' pa (.lst ps2.reverse)) := same_at sm h10
        have eT3 := kk.2 _ _ eT
        have gT3 : upd G' pa (.lst ps2.reverse) fp = some (.lst vs) := by rw [upd_ne nfp2]; exact gT
        have gf3 : upd G' pa (.lst ps2.reverse) fc = some (.lst cvs) := by rw [upd_ne nfp]; exact gf
        have gI3 := gI.kin kk
        have hI3 := hI2.kin kk
        have gF3 := gF2.keep (B' := j + 1) kk (by omega) fun f hf vs e => by
          rw [upd_ne fun z => npa (by rw [← z]; exact List.mem_cons_of_mem _ hf)]
          exact e
        have gp3 : upd G' pa (.lst ps2.reverse) pa = some (.lst ps2.reverse) := upd_same
        generalize upd G' pa (.lst ps2.reverse) = G3 at sm3 eT3 gT3 gf3 gI3 hI3 gF3 gp3 ⊢
        refine ⟨tp, _, rfl, SqT.of eT3, rfl, _, _, rfl, _, _, rfl, rfl, ?_⟩
        refine ⟨_, rfl, .inl ⟨rfl, _, SqL.of gT3⟩, rfl, _, rfl, _, rfl, fc, cvs, rfl, .inr (SqL.of gf3), ?_⟩
        try dsimp only [tNil]
        rw [List.append_nil]
        refine tmX_all gI3 (by omega) hn (fun hown G4 b s4 hb hI4 => ?_) (fun e he G5 d5 s5 hd5 => qe e (by rw [hfin, List.head?_append, he]; rfl) G5 d5 (sm3.trans s5) hd5)
        have hI4 : ItAt K G4 (.ref b) (.times n cur) := hI4
        refine ⟨fp, vs, _, rfl, rfl, s4 _ _ gT3, by rw [sizeLine_eq]; omega, ?_⟩
        have kk2 : Kin G4 (upd G4 fp (.lst (vs ++ [.ref b]))) := .at_ (s4 _ _ gT3) (fun _ _ _ _ z => by cases z) (fun _ z => by cases z)
        have nfpas : fp ∉ as2 := (List.nodup_cons.mp nda).1
        have hfpH := has fp List.mem_cons_self
        refine ⟨fp, vs ++ [.ref b], ps2, pr ++ [.times n cur], fr2, as2, _, _, _, _, rfl, same_at (sm3.trans s4) hfpH, hfpH, fun x hx => has x (List.mem_cons_of_mem _ hx), nda, npa, upd_same, ItsAt.snoc ((hI3.same s4).kin kk2) (hI4.kin kk2), ?_, by rw [upd_ne (Ne.symm nfp2)]; exact s4 _ _ gp3, by simp at gpl; omega, (gF3.keep (.of_same s4) (Nat.le_refl _) fun f _ vs e => s4 _ _ e).keep kk2 (Nat.le_refl _) fun f hf vs e => ?_, hr3, by rw [htt2]; exact hown, fun x hx => hn0 x (List.mem_cons_of_mem _ hx)⟩
        · rw [List.length_append]
          simp
          omega
        · rw [upd_ne fun z => nfpas (by rw [← z]; exact hf)]
          exact e
    · rintro σ G ⟨fc, cvs, ps, cur, fr, as, x3, x4, x5, x6, rfl, sm, hfc, has, hnd, hpa, gf, gI, gl, gp, gpl, gF, hr2, htot, hn0⟩
      rw [List.drop_eq_nil_of_le (by omega)] at hr2
      cases gF with
      | nil =>
        simp only [tsl, Option.some.injEq, Prod.mk.injEq] at hr2
        obtain ⟨rfl, _⟩ := hr2
        exact ⟨_, rfl, q (by simpa [tot, ftsP] using htot) fc cvs G sm hfc gf gI⟩
      | cons _ _ _ _ _ => simp [tsl] at hr2
end
end Kb

namespace Kb
open PySem PySem.Spec PyProof.Rows L2 Mq Rz StX
section
variable {P : Program} {w : World} {K : PySem.W.Frag} {mg : Str → Option Value} {base : Heap}
def spRI (K : PySem.W.Frag) : Sp := fun vs H Q _ => ∃ (x dx : Addr) (z : Str), vs = [.ref x, .str z] ∧ H x = some (.ins (cR K) dx []) ∧ Q .non (upd H x (.ins (cR K) dx [("own_text", .str z), ("own_place", .int 0)]))
theorem ok_ri {f : Addr} {fd : FuncData} (F : FunD K "__init__" "ItemReader.__init__" (defArgs s_ItemReader_init) (defBody s_ItemReader_init) (defScope s_ItemReader_init) [] [] f fd) (R : Tr P K mg) : FnOk P w K mg base (LX P w) 1 f fd ["self", "text"] (spRI K) := by
  refine F.ok sc_ItemReader_init (fun vs H Q E h => ?_) (fun cdv A outer s H vs Q E hr h => ?_)
  · obtain ⟨x, dx, z, rfl, _⟩ := h
    rfl
  · obtain ⟨x, dx, z, rfl, hx, q⟩ := h
    refine ⟨_, PSs.nox (pss_cons (ps_fld (pv 0) (pv 1) rfl) (pss_one (ps_fld (pv 0) pe_int rfl))), ?_⟩
    refine ⟨_, rfl, _, rfl, x, _, dx, _, rfl, hx, R.kl.cl, R.na "own_text" (by decide), by decide, ?_⟩
    refine ⟨_, rfl, x, _, dx, _, rfl, upd_same, R.kl.cl, R.na "own_place" (by decide), (by show 1 < 1000; decide), ?_⟩
    rw [upd_upd]
    exact q
def tNew (K : PySem.W.Frag) (tf : TE) (t : TA) : TE := fun σ H Q => tf σ H fun y G => y = .ref (cR K) ∧ t σ G fun vs G2 => ∃ z, vs = [.str z] ∧ ∀ r G3, Same G2 G3 → G2 r = none → RdAt K G3 r z 0 → Q (.ref r) G3
theorem mono_new {K : PySem.W.Frag} {tf : TE} {t : TA} (mf : Mono tf) (mt : MonoA t) : Mono (tNew K tf t) := fun σ H Q R h q => mf σ H _ _ (fun y G ⟨e, z⟩ => ⟨e, mt σ G _ _ (fun vs G2 ⟨v, ev, q1⟩ => ⟨v, ev, fun r G3 a b c => h _ _ (q1 r G3 a b c)⟩) z⟩) q
theorem pe_new {X : Cx} {fe e : Expr} {es : List Expr} {tf : TE} {t : TA} {pos : Pos} (R : Tr X.prog X.K X.mg) (hf : PE X fe tf) (mf : Mono tf) (mt : MonoA t) (F : FnR X.prog X.w X.K X.mg X.base (LX X.prog X.w) 1 (He.ma X.K (cR X.K) "__init__") (spRI X.K)) (hr : Room 2 X.A) (ha : PA X (e :: es) t)
    (ht : eval (.Call fe (e :: es) [] pos) X.env = (do callWith pos (← eval fe X.env) [] (backTo pos (starEach (e :: es) X.env)) (backToKw pos (keywordEach [] X.env))) := by rfl)
    (he : starEach (e :: es) X.env = (false, eval e X.env) :: starEach es X.env := by rfl) (hpl : (backTo pos (starEach es X.env)).any (·.1) = false := by rfl) : PE X (.Call fe (e :: es) [] pos) (tNew X.K tf t) := by
  refine pe_weak (pe_mkC (E := E0) hf R.mkr F hr passL ha ht he hpl) fun σ H Q h => mf σ H _ _ (fun y G ⟨ey, q⟩ => ⟨ey, mt σ G _ _ (fun vs G2 ⟨z, ev, q1⟩ x dx h1 h2 h3 => ?_) q⟩) h
  subst ev
  refine ⟨x, dx, z, rfl, upd_same, rfl, q1 x _ ?_ h1 ⟨dx, upd_same⟩⟩
  rw [upd_upd]
  exact fun b u e => by
    rw [upd_ne (ne_of_none e h1), upd_ne (ne_of_none e h2)]
    exact e
/-! ### Body.read, with its failing -/
/-- what a right text stands for -/
def Prs (l : List Nat) (xs : List It) : Prop := ∃ f u, psl l ([], [], []) = some (f, [], u) ∧ xs = flush f u
def allF (xs : List It) : List Ft := ftsL xs ++ (if xs.length > 6 then [.many] else [])
def spReadX (K : PySem.W.Frag) : Sp := fun vs H Q E => ∃ (v : V), vs = [.ref (cB K), v] ∧ ((∃ z : Str, v = .str z ∧ z.length ≤ 3000 ∧
  (∀ k, wrong (sg z) = some k → ∀ G, Same H G → Bad K E G k) ∧
  (wrong (sg z) = none → ∀ xs, Prs (sg z) xs → (∀ e, (allF xs).head? = some e → ErrAt K E H e) ∧ (allF xs = [] → ∀ G b, Same H G → H b = none → BdAt K G b xs → Q (.ref b) G))) ∨
  ∃ t, TyX K H v t ∧ PySem.W.kitOne K t (.type "str") = some false ∧ Bad K E H 0)
def tlen : List It × Pile → Nat
  | (f, pl) => f.length + (pl.map fun x => x.2.length).sum
theorem tsl_len : ∀ {ts : List Tok} {s t : List It × Pile}, tsl ts s = some t → tlen t ≤ tlen s + ts.length
  | [], s, t, h => by
    simp only [tsl, Option.some.injEq] at h
    subst h
    simp
  | k :: r, (f, pl), t, h => by
    simp only [tsl] at h
    cases h2 : tst (f, pl) k with
    | none => rw [h2] at h; cases h
    | some u =>
      rw [h2] at h
      have i := tsl_len (ts := r) (s := u) h
      have j : tlen u ≤ tlen (f, pl) + 1 := by
        cases k with
        | say w => simp only [tst, Option.some.injEq] at h2; subst h2; simp [tlen]; omega
        | press w => simp only [tst, Option.some.injEq] at h2; subst h2; simp [tlen]; omega
        | go w => simp only [tst, Option.some.injEq] at h2; subst h2; simp [tlen]; omega
        | op n => simp only [tst, Option.some.injEq] at h2; subst h2; simp [tlen]
        | cl =>
          cases pl with
          | nil => simp [tst] at h2
          | cons p r =>
            obtain ⟨n, o⟩ := p
            simp only [tst, Option.some.injEq] at h2
            subst h2
            simp [tlen]
            omega
      simp only [List.length_cons]
      omega
theorem ok_readX {f : Addr} {fd : FuncData} (F : FunD K "read" "Body.read" (defArgs s_Body_read) (defBody s_Body_read) (defScope s_Body_read) [] [] f fd) (T : Tc P K mg) (R : Tr P K mg) (RI : FnR P w K mg base (LX P w) 1 (He.ma K (cR K) "__init__") (spRI K)) (Wh : FnR P w K mg base (LX P w) 5 (He.ma K (cR K) "whole") (spWholeX K)) (Mi : Of P w K mg base 8 "made_items" (spMX K))
    (Bo : FnR P w K mg base (LX P w) 4 (He.ma K (cB K) "__init__") (spBodyR K)) : FnOk P w K mg base (LX P w) 9 f fd ["cls", "text"] (spReadX K) := by
  refine F.ok sc_Body_read (fun vs H Q E h => ?_) (fun cdv A outer s H vs Q E hr h => ?_)
  · obtain ⟨v, rfl, _⟩ := h
    rfl
  · obtain ⟨v, rfl, h⟩ := h
    have nd := sc_Body_read.nd
    have hr2 : Room 2 _ := hr.mono (by decide)
    have hr5 : Room 5 _ := hr.mono (by decide)
    refine ⟨_, (pss_cons (ps_if (pt_not (pt_val (pe_callB call_isi (by rfl) T.bt.isi (by decide +kernel) (pa_cons (pv 1) (pa_cons (pe_bltn (v := .ty "str") (by rfl) T.bt.str (by decide +kernel) rfl) pa_nil))))) (pss_one (ps_raise1 rfl (takes_of (E := E) rfl rfl rfl rfl) R.eT.er R.eT.rc R.eT.rt hr rfl (pa_cons pe_int pa_nil))) pss_nil)
      (pss_cons (ps_set (i := 2) nd rfl (Or.inl rfl) (pe_of (E := E) Mi hr rfl (passE (takes_of (E := E) rfl rfl rfl rfl) fun _ _ _ _ z => z) (pa_cons (pe_rmX R (m := "whole") (by decide) (fun _ _ => rfl) Wh (pe_mv0 (k := 5) (E := E) (pe_new R (pe_glob (v := .ref (cR K)) rfl R.g rfl) mono_c (mono_cons mono_v mono_nil) RI hr2 (pa_cons (pv 1) pa_nil)) hr5 (passE (takes_of (E := E) rfl rfl rfl rfl) fun _ _ _ _ z => z)) (mono_new mono_c (mono_cons mono_v mono_nil))) pa_nil)))
      (pss_one (ps_ret (pe_bodyS (E := E) (pv 0) mono_v mono_v (T.mkr "Body" (by decide)) Bo hr5 (passE (takes_of (E := E) rfl rfl rfl rfl) fun _ _ _ _ z => z) (pv 2)))))), ?_⟩
    rcases h with ⟨z, rfl, hzl, qb, q⟩ | ⟨t, ty, kt, qb⟩
    rotate_left
    · refine ⟨_, rfl, v, _, t, _, false, rfl, .ty "str", ty, kt, _, rfl, ?_⟩
      exact ifT (by rfl) ⟨_, rfl, qb⟩
    refine ⟨_, rfl, _, _, _, _, true, rfl, .ty "str", .base (.str z), kit_ty (by decide +kernel), true, rfl, ?_⟩
    refine ifF (by rfl) ?_
    refine ⟨rfl, _, rfl, z, rfl, fun r G1 s1 hr0 rd => ?_⟩
    refine ⟨r, z, 0, rfl, rd, r, z, rfl, rd, by omega, fun k hk G2 hb _ => ?_, fun hn l vs ts u G2 hb hl0 gl hT htl hot hJ => ?_⟩
    · exact qb k hk G2 fun b o e => hb b o (s1 b o e) (ne_of_none e hr0)
    have s2 : Same H G2 := fun b o e => hb b o (s1 b o e) (ne_of_none e hr0)
    obtain ⟨f0, pl, hp1, hp2, hp3⟩ := hJ.h
    obtain rfl := List.length_eq_zero_iff.mp hp3
    rw [List.take_of_length_le (by rw [sg_len]; exact Nat.le_refl _)] at hp1
    obtain ⟨qe, qo⟩ := q hn (flush f0 u) ⟨f0, u, hp1, rfl⟩
    have hxl := tsl_len hp2
    simp only [tlen, List.map_nil, List.sum_nil, List.length_nil, Nat.add_zero, Nat.zero_add] at hxl
    generalize flush f0 u = xs at hp2 qe qo hxl
    refine ⟨l, vs, ts, xs, rfl, gl, hT, hot, by omega, hp2, fun hft f2 us G3 s3 hf2 gf2 hI => ?_, fun e he G3 d3 s3 hd3 => qe e (by unfold allF; rw [List.head?_append, he]; rfl) G3 d3 (s2.trans s3) hd3⟩
    have hul := hI.length
    have S3 := s2.trans s3
    refine ⟨_, rfl, rfl, _, rfl, f2, us, rfl, .inr (SqL.of gf2), xs.map some, paired_of hI, by omega, fun i hi => ?_, fun _ h6 G d sm hd => ?_, fun its2 e l6 G b sm hbn hB => ?_⟩
    · rw [noAt_its] at hi
      cases hi
    · exact qe .many (by unfold allF; rw [hft, if_pos (by omega)]; rfl) G d (S3.trans sm) hd
    · rw [← map_some_inj e] at hB
      refine qo (by unfold allF; rw [hft, if_neg (by omega)]; rfl) G b (S3.trans sm) ?_ hB
      cases h : H b with
      | none => rfl
      | some o => exact absurd (S3 b o h) (by rw [hbn]; simp)
end
end Kb

namespace Kb
open PySem PySem.Spec PyProof.Rows L2 Mq
/-! ### a text that is written right can be read sign by sign -/
/-- the signs of an item that is written out -/
def Wdy (w : List Nat) : Prop := ∃ m u, w = m ++ u ∧ (m = [] ∨ m = [33] ∨ m = [64]) ∧ u ≠ [] ∧ u.length ≤ 8 ∧ ∀ c ∈ u, isL c = true
def Iw : As → List Nat → Prop
  | .beg, w => w = []
  | .opn, w => w = []
  | .don, w => w = []
  | .mrk, w => w = [33] ∨ w = [64]
  | .wrd n, w => ∃ m u, w = m ++ u ∧ (m = [] ∨ m = [33] ∨ m = [64]) ∧ u ≠ [] ∧ u.length = n ∧ n ≤ 8 ∧ ∀ c ∈ u, isL c = true
  | .num n, w => (∀ c ∈ w, isD c = true) ∧ w.length = n ∧ 1 ≤ n ∧ n ≤ 10 ∧ ∀ r, w ≠ 48 :: r
  | .zer, w => w = [48]
def Iv (s : As) (d : Nat) (q : P3) : Prop := q.2.1.length = d ∧ Iw s q.2.2
theorem iw_num {s s' : As} {d d' : Nat} {w : List Nat} (h : Iw s w) (hn : nx s d 40 = some (s', d')) : w ≠ [] ∧ w.length ≤ 10 ∧ (∀ c ∈ w, isD c = true) ∧ (∀ r, w = 48 :: r → r = []) ∧ s' = .opn ∧ d' = d + 1 := by
  have a1 : isL 40 = false := by decide
  have a2 : isD 40 = false := by decide
  cases s <;> simp [nx, a1, a2] at hn
  case num n =>
    obtain ⟨h1, h2, h3, h4, h5⟩ := h
    exact ⟨fun z => by rw [z] at h2; simp at h2; omega, by omega, h1, fun r e => absurd e (h5 r), hn.1.symm, hn.2.symm⟩
  case zer =>
    have h : w = [48] := h
    subst h
    exact ⟨by simp, by simp, by simp; decide, by simp, hn.1.symm, hn.2.symm⟩
theorem iw_end {s s' : As} {d d' c : Nat} {w : List Nat} (h : Iw s w) (hc : c = 32 ∨ c = 41) (hn : nx s d c = some (s', d')) : (w = [] ∨ Wdy w) ∧ (c = 32 → s' = .beg ∧ d' = d) ∧ (c = 41 → s' = .don ∧ d' + 1 = d) := by
  have a1 : isL 32 = false := by decide
  have a2 : isD 32 = false := by decide
  have a3 : isL 41 = false := by decide
  have a4 : isD 41 = false := by decide
  rcases hc with rfl | rfl
  · cases s <;> simp [nx, a1, a2] at hn
    case wrd n =>
      obtain ⟨m, u, h1, h2, h3, h4, h5, h6⟩ := h
      exact ⟨.inr ⟨m, u, h1, h2, h3, by omega, h6⟩, fun _ => ⟨hn.1.symm, hn.2.symm⟩, fun z => by cases z⟩
    case don => exact ⟨.inl h, fun _ => ⟨hn.1.symm, hn.2.symm⟩, fun z => by cases z⟩
  · cases s <;> simp [nx, a3, a4] at hn
    case opn => exact ⟨.inl h, (fun z => by cases z), fun _ => ⟨hn.2.1.symm, by omega⟩⟩
    case wrd n =>
      obtain ⟨m, u, h1, h2, h3, h4, h5, h6⟩ := h
      exact ⟨.inr ⟨m, u, h1, h2, h3, by omega, h6⟩, (fun z => by cases z), fun _ => ⟨hn.2.1.symm, by omega⟩⟩
    case don => exact ⟨.inl h, (fun z => by cases z), fun _ => ⟨hn.2.1.symm, by omega⟩⟩
theorem iw_more {s s' : As} {d d' c : Nat} {w : List Nat} (h : Iw s w) (h1 : c ≠ 40) (h2 : c ≠ 32) (h3 : c ≠ 41) (hn : nx s d c = some (s', d')) : Iw s' (w ++ [c]) ∧ d' = d := by
  have beg : w = [] → ∀ s', (if c = 33 ∨ c = 64 then some (As.mrk, d) else if isL c = true then some (.wrd 1, d) else if isD c = true then some (if c = 48 then .zer else .num 1, d) else none) = some (s', d') → Iw s' (w ++ [c]) ∧ d' = d := fun e s' z => by
    subst e
    split at z
    · rename_i h
      simp only [Option.some.injEq, Prod.mk.injEq] at z
      obtain ⟨rfl, rfl⟩ := z
      refine ⟨?_, rfl⟩
      rcases h with rfl | rfl
      · exact .inl rfl
      · exact .inr rfl
    · split at z
      · rename_i h
        simp only [Option.some.injEq, Prod.mk.injEq] at z
        obtain ⟨rfl, rfl⟩ := z
        exact ⟨⟨[], [c], rfl, .inl rfl, by simp, rfl, by decide, by simpa using h⟩, rfl⟩
      · split at z
        · rename_i h
          simp only [Option.some.injEq, Prod.mk.injEq] at z
          obtain ⟨rfl, rfl⟩ := z
          refine ⟨?_, rfl⟩
          split
          · rename_i e
            rw [e]
            rfl
          · rename_i e
            exact ⟨by simpa using h, rfl, by decide, by decide, fun r z => e (by simp at z; exact z.1)⟩
        · cases z
  cases s with
  | beg => exact beg h s' hn
  | opn =>
    refine beg h s' ?_
    simp only [nx] at hn
    split at hn
    · rename_i e; rw [if_pos e]; exact hn
    · rename_i e; rw [if_neg e]
      split at hn
      · rename_i e; rw [if_pos e]; exact hn
      · rename_i e; rw [if_neg e]
        split at hn
        · rename_i e; rw [if_pos e]; exact hn
        · rename_i e; rw [if_neg e]
          rw [if_neg (fun z => h3 z.1)] at hn
          exact hn
  | mrk =>
    simp only [nx] at hn
    split at hn
    · rename_i e
      simp only [Option.some.injEq, Prod.mk.injEq] at hn
      obtain ⟨rfl, rfl⟩ := hn
      exact ⟨⟨w, [c], rfl, .inr h, by simp, rfl, by decide, by simpa using e⟩, rfl⟩
    · cases hn
  | wrd n =>
    obtain ⟨m, u, e1, e2, e3, e4, e5, e6⟩ := h
    simp only [nx] at hn
    split at hn
    · rename_i e
      simp only [Option.some.injEq, Prod.mk.injEq] at hn
      obtain ⟨rfl, rfl⟩ := hn
      refine ⟨⟨m, u ++ [c], by rw [e1, List.append_assoc], e2, by simp, by simp; omega, by omega, fun x hx => ?_⟩, rfl⟩
      rcases List.mem_append.mp hx with hx | hx
      · exact e6 x hx
      · rw [List.mem_singleton.mp hx]; exact e.1
    · simp [h2, h3] at hn
  | num n =>
    obtain ⟨e1, e2, e3, e4, e7⟩ := h
    simp only [nx] at hn
    split at hn
    · rename_i e
      simp only [Option.some.injEq, Prod.mk.injEq] at hn
      obtain ⟨rfl, rfl⟩ := hn
      refine ⟨⟨fun x hx => ?_, by simp; omega, by omega, by omega, fun r z => ?_⟩, rfl⟩
      · rcases List.mem_append.mp hx with hx | hx
        · exact e1 x hx
        · rw [List.mem_singleton.mp hx]; exact e.1
      · cases w with
        | nil => simp at e2; omega
        | cons a t =>
          simp only [List.cons_append, List.cons.injEq] at z
          exact e7 t (by rw [z.1])
    · simp [h1] at hn
  | zer =>
    simp [nx, h1] at hn
  | don =>
    simp [nx, h2, h3] at hn
theorem iv_step {s s' : As} {d d' c : Nat} {q : P3} (h : Iv s d q) (hn : nx s d c = some (s', d')) : ∃ q', pst q c = some q' ∧ Iv s' d' q' := by
  obtain ⟨f, pl, w⟩ := q
  obtain ⟨hl, hw⟩ := h
  by_cases h1 : c = 40
  · subst h1
    obtain ⟨_, _, _, _, rfl, rfl⟩ := iw_num hw hn
    exact ⟨_, rfl, by simpa using hl, rfl⟩
  · by_cases h2 : c = 32
    · subst h2
      obtain ⟨_, z, _⟩ := iw_end hw (.inl rfl) hn
      obtain ⟨rfl, rfl⟩ := z rfl
      exact ⟨_, rfl, hl, rfl⟩
    · by_cases h3 : c = 41
      · subst h3
        obtain ⟨_, _, z⟩ := iw_end hw (.inr rfl) hn
        obtain ⟨rfl, hd⟩ := z rfl
        cases pl with
        | nil => simp at hl; omega
        | cons p r =>
          obtain ⟨n, o⟩ := p
          refine ⟨_, rfl, ?_, rfl⟩
          simp at hl
          show r.length = d'
          omega
      · obtain ⟨z1, rfl⟩ := iw_more hw h1 h2 h3 hn
        exact ⟨(f, pl, w ++ [c]), by simp [pst, h1, h2, h3], hl, z1⟩
theorem iv_run : ∀ (l : List Nat) (s : As) (d k : Nat) (q : P3), Iv s d q → wr l s d k = none → ∃ s' q', psl l q = some q' ∧ Iv s' 0 q' ∧ fin s' = true
  | [], s, d, k, q, h, hw => by
    simp only [wr] at hw
    split at hw
    · rename_i e
      obtain ⟨e1, rfl⟩ := e
      exact ⟨s, q, rfl, h, e1⟩
    · cases hw
  | c :: r, s, d, k, q, h, hw => by
    simp only [wr] at hw
    cases hn : nx s d c with
    | none => rw [hn] at hw; cases hw
    | some t =>
      obtain ⟨s1, d1⟩ := t
      rw [hn] at hw
      obtain ⟨q1, e1, i1⟩ := iv_step h hn
      obtain ⟨s2, q2, e2, r2⟩ := iv_run r s1 d1 (k + 1) q1 i1 hw
      exact ⟨s2, q2, by simp only [psl, e1, Option.bind_some, e2], r2⟩
theorem fin_end {s : As} {w : List Nat} (h : Iw s w) (hf : fin s = true) : w = [] ∨ Wdy w := by
  cases s <;> simp [fin] at hf
  case wrd n =>
    obtain ⟨m, u, h1, h2, h3, h4, h5, h6⟩ := h
    exact .inr ⟨m, u, h1, h2, h3, by omega, h6⟩
  case don => exact .inl h
/-! ### how deep parentheses go -/
def mpu (c n : Nat) : Nat := if c = 40 then n + 1 else if c = 41 then n - 1 else n
def gp : List Nat → Nat → Nat
  | [], n => n
  | c :: r, n => mpu c (gp r n)
theorem gp_app : ∀ (a b : List Nat) (n : Nat), gp (a ++ b) n = gp a (gp b n)
  | [], b, n => rfl
  | c :: a, b, n => by simp only [List.cons_append, gp, gp_app a b n]
theorem mpu_mono {c n m : Nat} (h : n ≤ m) : mpu c n ≤ mpu c m := by
  unfold mpu
  split
  · omega
  · split <;> omega
theorem mpu_add (c n k : Nat) : mpu c (n + k) ≤ mpu c n + k := by
  unfold mpu
  split
  · omega
  · split <;> omega
theorem mpu_up (c n : Nat) : n ≤ mpu c n + 1 := by
  unfold mpu
  split
  · omega
  · split <;> omega
theorem gp_mono : ∀ (a : List Nat) {n m : Nat}, n ≤ m → gp a n ≤ gp a m
  | [], _, _, h => h
  | c :: a, _, _, h => mpu_mono (gp_mono a h)
theorem gp_add : ∀ (a : List Nat) (n k : Nat), gp a (n + k) ≤ gp a n + k
  | [], _, _ => Nat.le_refl _
  | c :: a, n, k => Nat.le_trans (mpu_mono (gp_add a n k)) (mpu_add _ _ _)
def mp (l : List Nat) : Nat := gp l 0
/-- a piece is put in, where r signs are left out behind it -/
theorem mp_put {a b p : List Nat} (hp : ∀ n, gp p n ≤ n + 1) : mp (a ++ (p ++ b)) ≤ mp (a ++ b) + 1 := by
  unfold mp
  rw [gp_app, gp_app, gp_app]
  exact Nat.le_trans (gp_mono a (hp _)) (gp_add a _ 1)
theorem mp_drop {a b : List Nat} {c : Nat} : mp (a ++ b) ≤ mp (a ++ c :: b) + 1 := by
  unfold mp
  rw [gp_app, gp_app]
  refine Nat.le_trans (gp_mono a (mpu_up c (gp b 0))) (gp_add a _ 1)
theorem mp_take {a b : List Nat} : mp a ≤ mp (a ++ b) := by
  unfold mp
  rw [gp_app]
  exact gp_mono a (Nat.zero_le _)
theorem mp_two {a : List Nat} : mp (a ++ 32 :: a) ≤ 2 * mp a := by
  unfold mp
  rw [gp_app]
  have h : gp (32 :: a) 0 = 0 + gp a 0 := by
    show mpu 32 (gp a 0) = _
    simp [mpu]
  rw [h]
  have := gp_add a 0 (gp a 0)
  omega
theorem mp_wrap {a : List Nat} : mp (50 :: 40 :: (a ++ [41])) = mp a + 1 := by
  unfold mp
  simp only [gp]
  rw [gp_app]
  simp [gp, mpu]
theorem gp_flat : ∀ (l : List Nat), (∀ c ∈ l, c ≠ 40 ∧ c ≠ 41) → ∀ n, gp l n = n
  | [], _, _ => rfl
  | c :: r, h, n => by
    obtain ⟨h1, h2⟩ := h c List.mem_cons_self
    simp only [gp, gp_flat r (fun x hx => h x (List.mem_cons_of_mem _ hx)) n, mpu, if_neg h1, if_neg h2]
theorem flat_w {w : Str} (h : isW w = true) : ∀ c ∈ sg w, c ≠ 40 ∧ c ≠ 41 := fun c hc => by
  have := (isW_all h).2.2 c hc
  omega
mutual
theorem gp_tx : ∀ (i : It) (n : Nat), okI i = true → gp (tx i) n ≤ max i.lv n
  | .say w, n, h => by
    simp only [tx, gp, gp_flat _ (flat_w h)]
    simp [mpu, It.lv]
  | .press w, n, h => by
    simp only [tx, gp_flat _ (flat_w h)]
    omega
  | .go w, n, h => by
    simp only [tx, gp, gp_flat _ (flat_w h)]
    simp [mpu, It.lv]
  | .times k xs, n, h => by
    simp only [okI, Bool.and_eq_true, decide_eq_true_eq] at h
    have i := gp_txL xs (n - 1) h.2.2
    simp only [tx, gp_app]
    rw [gp_flat (dig k) fun c hc => by have := dig_all h.1.1 c hc; omega]
    simp only [gp, gp_app]
    have e : mpu 41 n = n - 1 := by simp [mpu]
    rw [e]
    have e2 : mpu 40 (gp (txL xs) (n - 1)) = gp (txL xs) (n - 1) + 1 := by simp [mpu]
    rw [e2]
    simp only [It.lv]
    omega
theorem gp_txL : ∀ (xs : List It) (n : Nat), okIs xs = true → gp (txL xs) n ≤ max (lvL xs) n
  | [], n, _ => by
    simp only [txL, gp]
    omega
  | x :: r, n, h => by
    simp only [okIs, Bool.and_eq_true] at h
    have i1 := gp_tx x (gp (txM r) n) h.1
    have i2 := gp_txM r n h.2
    simp only [txL, gp_app, lvL]
    omega
theorem gp_txM : ∀ (xs : List It) (n : Nat), okIs xs = true → gp (txM xs) n ≤ max (lvL xs) n
  | [], n, _ => by
    simp only [txM, gp]
    omega
  | x :: r, n, h => by
    simp only [okIs, Bool.and_eq_true] at h
    have i1 := gp_tx x (gp (txM r) n) h.1
    have i2 := gp_txM r n h.2
    simp only [txM, gp, gp_app, lvL]
    have e : ∀ m, mpu 32 m = m := fun m => by simp [mpu]
    rw [e]
    omega
end
/-- how deep the items are that a state holds -/
def Md : Pile → Nat
  | [] => 0
  | (_, o) :: r => max (Md r) (r.length + lvL o)
def Nd (f : List It) (pl : Pile) : Nat := max (Md pl) (pl.length + lvL f)
theorem lvL_app : ∀ (xs ys : List It), lvL (xs ++ ys) = max (lvL xs) (lvL ys)
  | [], ys => by simp [lvL]
  | x :: r, ys => by
    simp only [List.cons_append, lvL, lvL_app r ys]
    omega
theorem lvL_flush (f : List It) (w : List Nat) : lvL (flush f w) = lvL f := by
  cases w with
  | nil => rfl
  | cons c r =>
    simp only [flush, lvL_app, lvL]
    have : ∀ i : It, (∀ n xs, i ≠ .times n xs) → i.lv = 0 := fun i h => by
      cases i with
      | times n xs => exact absurd rfl (h n xs)
      | _ => rfl
    rw [this _ (by
      intro n xs
      split
      · simp
      · split <;> simp)]
    omega
theorem nd_run : ∀ (l : List Nat) (q q' : P3), psl l q = some q' → Nd q'.1 q'.2.1 ≤ max (Nd q.1 q.2.1) (q.2.1.length + mp l)
  | [], q, q', h => by
    simp only [psl, Option.some.injEq] at h
    subst h
    omega
  | c :: r, (f, pl, w), q', h => by
    simp only [psl] at h
    cases hs : pst (f, pl, w) c with
    | none => rw [hs] at h; cases h
    | some t =>
      rw [hs, Option.bind_some] at h
      have i := nd_run r t q' h
      refine Nat.le_trans i ?_
      unfold mp
      simp only [gp]
      change max (Nd t.1 t.2.1) (t.2.1.length + gp r 0) ≤ max (Nd f pl) (pl.length + mpu c (gp r 0))
      simp only [pst] at hs
      split at hs
      · rename_i e
        simp only [Option.some.injEq] at hs
        subst hs e
        simp only [Nd, Md, lvL, List.length_cons, mpu]
        simp only [if_true]
        omega
      · split at hs
        · rename_i e1 e
          simp only [Option.some.injEq] at hs
          subst hs e
          simp only [Nd, lvL_flush, mpu]
          simp
        · split at hs
          · rename_i e1 e2 e
            subst e
            split at hs
            · cases hs
            · rename_i n o r2
              simp only [Option.some.injEq] at hs
              subst hs
              simp only [Nd, Md, lvL_app, lvL, It.lv, lvL_flush, List.length_cons, mpu]
              simp
              omega
          · rename_i e1 e2 e3
            simp only [Option.some.injEq] at hs
            subst hs
            simp only [mpu, if_neg e1, if_neg e3]
            exact Nat.le_refl _
theorem lv_read {l : List Nat} {f : List It} {u : List Nat} (h : psl l ([], [], []) = some (f, [], u)) : lvL (flush f u) ≤ mp l := by
  have := nd_run l _ _ h
  rw [lvL_flush]
  simp only [Nd, Md, lvL, List.length_nil] at this
  omega
/-! ### how long texts are -/
def mxl : Nat → Nat
  | 0 => 9
  | n + 1 => 17 + 6 * mxl n
mutual
theorem len_it : ∀ (i : It) (D : Nat), okI i = true → i.lv ≤ D → (tx i).length ≤ mxl D
  | .say w, D, h, _ => by
    have := (isW_all h).1
    simp only [tx, List.length_cons, sg_len]
    have : 9 ≤ mxl D := by cases D <;> simp [mxl]; omega
    omega
  | .press w, D, h, _ => by
    have := (isW_all h).1
    simp only [tx, sg_len]
    have : 9 ≤ mxl D := by cases D <;> simp [mxl]; omega
    omega
  | .go w, D, h, _ => by
    have := (isW_all h).1
    simp only [tx, List.length_cons, sg_len]
    have : 9 ≤ mxl D := by cases D <;> simp [mxl]; omega
    omega
  | .times k xs, D, h, hl => by
    simp only [okI, Bool.and_eq_true, decide_eq_true_eq] at h
    simp only [It.lv] at hl
    obtain ⟨E, rfl⟩ : ∃ E, D = E + 1 := ⟨D - 1, by omega⟩
    have i := len_its xs E h.2.2 (by omega)
    have d := dig_len h.1.1 h.1.2
    have : xs.length * mxl E ≤ 6 * mxl E := Nat.mul_le_mul_right _ h.2.1
    simp only [tx, List.length_append, List.length_cons, List.length_nil, mxl]
    omega
theorem len_its : ∀ (xs : List It) (D : Nat), okIs xs = true → lvL xs ≤ D → (txL xs).length ≤ xs.length * mxl D + (xs.length - 1)
  | [], D, _, _ => by simp [txL]
  | x :: r, D, h, hl => by
    simp only [okIs, Bool.and_eq_true] at h
    simp only [lvL] at hl
    have i1 := len_it x D h.1 (by omega)
    have i2 := len_itM r D h.2 (by omega)
    simp only [txL, List.length_append, List.length_cons, Nat.add_mul, Nat.one_mul]
    omega
theorem len_itM : ∀ (xs : List It) (D : Nat), okIs xs = true → lvL xs ≤ D → (txM xs).length ≤ xs.length * mxl D + xs.length
  | [], D, _, _ => by simp [txM]
  | x :: r, D, h, hl => by
    simp only [okIs, Bool.and_eq_true] at h
    simp only [lvL] at hl
    have i1 := len_it x D h.1 (by omega)
    have i2 := len_itM r D h.2 (by omega)
    simp only [txM, List.length_append, List.length_cons, Nat.add_mul, Nat.one_mul]
    omega
end
theorem len_top {xs : List It} (h : okIs xs = true) (hl : lvL xs ≤ 2) (h5 : xs.length ≤ 5) : (txL xs).length ≤ 2219 := by
  have := len_its xs 2 h hl
  have e : mxl 2 = 443 := by decide
  rw [e] at this
  have : xs.length * 443 ≤ 5 * 443 := Nat.mul_le_mul_right _ h5
  omega
end Kb

namespace Kb
open PySem PySem.Spec PyProof.Rows L2 Mq Rz
/-! ### the law's automaton, one step -/
def nm : As → Str
  | .beg => "begin"
  | .opn => "open"
  | .mrk => "mark"
  | .wrd _ => "word"
  | .num _ => "number"
  | .zer => "zero"
  | .don => "done"
def szA : As → Nat
  | .wrd n => n
  | .num n => n
  | .zer => 1
  | _ => 0
theorem mk_in (c : Nat) : decide (c ∈ ("!@" : Str).cps.toList) = decide (c = 33 ∨ c = 64) := by
  have e : ("!@" : Str).cps.toList = [33, 64] := by decide +kernel
  rw [e]
  simp
theorem sq_at {c k : Nat} {z : Str} (hz : z = ⟨#[k]⟩) : decide (V.str ⟨#[c]⟩ = V.str z) = decide (c = k) := by
  subst hz
  simp
theorem none_of {H G : Hp} {a : Addr} (s : Same H G) (h : G a = none) : H a = none := by
  cases z : H a with
  | none => rfl
  | some o => exact absurd (s _ _ z) (by rw [h]; simp)
theorem c4L : isL 40 = false := by decide
theorem c4D : isD 40 = false := by decide
theorem c3L : isL 32 = false := by decide
theorem c3D : isD 32 = false := by decide
theorem tup_don {d : Nat} (h : 0 < d) : some (HO.tup [V.str "done", V.int 0, V.int ((d : Int) - 1)]) = some (HO.tup [V.str (nm .don), V.int (szA .don : Nat), V.int ((d - 1 : Nat) : Int)]) := by
  have : ((d - 1 : Nat) : Int) = (d : Int) - 1 := by omega
  rw [this]
  rfl
section
variable {P : Program} {w : World} {K : PySem.W.Frag} {mg : Str → Option Value} {base : Heap}
def spNx : Sp := fun vs H Q _ => ∃ (s : As) (d c : Nat), vs = [.str (nm s), .int (szA s : Nat), .int (d : Nat), .str ⟨#[c]⟩] ∧ (nx s d c = none → ∀ G, Same H G → Q .non G) ∧
  (∀ s' d', nx s d c = some (s', d') → ∀ t G, Same H G → H t = none → G t = some (.tup [.str (nm s'), .int (szA s' : Nat), .int (d' : Nat)]) → Q (.ref t) G)
theorem ok_next {f : Addr} {fd : FuncData} (F : FunD K "_law_next" "_law_next" (defArgs s__law_next) (defBody s__law_next) (defScope s__law_next) [] [] f fd) : FnOk P w K mg base (LX P w) 1 f fd ["_law_sort", "_law_size", "_law_deep", "_law_sign"] spNx := by
  refine F.ok sc__law_next (fun vs H Q E h => ?_) (fun cdv A outer sh H vs Q E hr h => ?_)
  · obtain ⟨s, d, c, rfl, _⟩ := h
    rfl
  · obtain ⟨s, d, c, rfl, q1, q2⟩ := h
    have nd := sc__law_next.nd
    refine ⟨_, PSs.nox (pss_cons (ps_asg (pe_tup (pa_cons pe_str (pa_cons pe_str pa_nil))) (pg_tup rfl (pgs_cons (pg_name (i := 4) nd rfl (Or.inl rfl)) (pgs_cons (pg_name (i := 5) nd rfl (Or.inl rfl)) pgs_nil))))
      (pss_cons (ps_if (PW.pt (pw_and (pt_cmpR op_in_seq (pv 0) (pe_tup (pa_cons pe_str (pa_cons pe_str pa_nil))) rfl) (pw_and1 (pt_cmpR op_in_sign (pv 3) pe_str rfl)))) (pss_one (ps_ret (pe_tup (pa_cons pe_str (pa_cons pe_int (pa_cons (pv 2) pa_nil)))))) pss_nil)
      (pss_cons (ps_if (PW.pt (pw_and (pt_cmpR op_in_seq (pv 0) (pe_tup (pa_cons pe_str (pa_cons pe_str (pa_cons pe_str pa_nil)))) rfl) (pw_and1 (pt_cmpR op_in_sign (pv 3) (pv 4) rfl)))) (pss_one (ps_ret (pe_tup (pa_cons pe_str (pa_cons pe_int (pa_cons (pv 2) pa_nil)))))) pss_nil)
      (pss_cons (ps_if (PW.pt (pw_and (pt_cmpR op_in_seq (pv 0) (pe_tup (pa_cons pe_str (pa_cons pe_str pa_nil))) rfl) (pw_and1 (pt_cmpR op_in_sign (pv 3) (pv 5) rfl)))) (pss_one (ps_ret (pe_tup (pa_cons (pe_ifExp (pt_cmpR op_eq (pv 3) pe_str (nomark _)) pe_str pe_str) (pa_cons pe_int (pa_cons (pv 2) pa_nil)))))) pss_nil)
      (pss_cons (ps_if (PW.pt (pw_and (pt_cmpR op_eq (pv 0) pe_str (nomark _)) (pw_and (pt_cmpR op_in_sign (pv 3) (pv 4) rfl) (pw_and1 (pt_cmpR op_lt (pv 1) pe_int (nomark _)))))) (pss_one (ps_ret (pe_tup (pa_cons pe_str (pa_cons (pe_op op_add (pv 1) pe_int) (pa_cons (pv 2) pa_nil)))))) pss_nil)
      (pss_cons (ps_if (PW.pt (pw_and (pt_cmpR op_eq (pv 0) pe_str (nomark _)) (pw_and (pt_cmpR op_in_sign (pv 3) (pv 5) rfl) (pw_and1 (pt_cmpR op_lt (pv 1) pe_int (nomark _)))))) (pss_one (ps_ret (pe_tup (pa_cons pe_str (pa_cons (pe_op op_add (pv 1) pe_int) (pa_cons (pv 2) pa_nil)))))) pss_nil)
      (pss_cons (ps_if (PW.pt (pw_and (pt_cmpR op_in_seq (pv 0) (pe_tup (pa_cons pe_str (pa_cons pe_str pa_nil))) rfl) (pw_and1 (pt_cmpR op_eq (pv 3) pe_str (nomark _))))) (pss_one (ps_ret (pe_tup (pa_cons pe_str (pa_cons pe_int (pa_cons (pe_op op_add (pv 2) pe_int) pa_nil)))))) pss_nil)
      (pss_cons (ps_if (PW.pt (pw_and (pt_cmpR op_in_seq (pv 0) (pe_tup (pa_cons pe_str (pa_cons pe_str pa_nil))) rfl) (pw_and1 (pt_cmpR op_eq (pv 3) pe_str (nomark _))))) (pss_one (ps_ret (pe_tup (pa_cons pe_str (pa_cons pe_int (pa_cons (pv 2) pa_nil)))))) pss_nil)
      (pss_one (ps_ret (pe_ifExp (PW.pt (pw_and (pt_cmpR op_in_seq (pv 0) (pe_tup (pa_cons pe_str (pa_cons pe_str (pa_cons pe_str pa_nil)))) rfl) (pw_and (pt_cmpR op_eq (pv 3) pe_str (nomark _)) (pw_and1 (pt_cmpR op_gt (pv 2) pe_int (nomark _)))))) (pe_tup (pa_cons pe_str (pa_cons pe_int (pa_cons (pe_op op_sub (pv 2) pe_int) pa_nil)))) pe_non))))))))))), ?_⟩
    refine ⟨sz 2 (by decide), fun tt htt => ⟨tt, _, rfl, SqT.of upd_same, rfl, _, _, rfl, _, _, rfl, rfl, ?_⟩⟩
    generalize hGt : upd H tt _ = G0
    have stt : Same H G0 := hGt ▸ same_new htt
    clear hGt
    cases s with
    | beg =>
      refine ⟨_, rfl, sz 2 (by decide), fun t1 ht1 => ⟨t1, _, rfl, .inr (SqT.of upd_same), rfl, (by rfl), _, rfl, ?_⟩⟩
      generalize hGt1 : upd G0 t1 _ = G1
      have st1 : Same H G1 := stt.trans (hGt1 ▸ same_new ht1)
      clear hGt1
      refine ifT (by simp only [nm]; decide +kernel) ?_
      refine ⟨_, rfl, c, "!@", rfl, rfl, _, rfl, ?_⟩
      rw [mk_in]
      by_cases e1 : c = 33 ∨ c = 64
      · refine ifT (decide_eq_true e1) ⟨_, rfl, sz 3 (by decide), fun t0 h0 => ?_⟩
        exact q2 (.mrk) (d) (by simp [nx, e1]) t0 _ (st1.trans (same_new h0)) (none_of st1 h0) (by rw [upd_same]; rfl)
      refine ifF (decide_eq_false e1) ?_
      refine ⟨_, rfl, sz 3 (by decide), fun t2 ht2 => ⟨t2, _, rfl, .inr (SqT.of upd_same), rfl, (by rfl), _, rfl, ?_⟩⟩
      generalize hGt2 : upd G1 t2 _ = G2
      have st2 : Same H G2 := st1.trans (hGt2 ▸ same_new ht2)
      clear hGt2
      refine ifT (by simp only [nm]; decide +kernel) ?_
      refine ⟨_, rfl, _, rfl, c, letters, rfl, rfl, _, rfl, ?_⟩
      rw [isL_in]
      by_cases e2 : isL c = true
      · refine ifT e2 ⟨_, rfl, sz 3 (by decide), fun t0 h0 => ?_⟩
        exact q2 (.wrd 1) (d) (by simp [nx, e1, e2]) t0 _ (st2.trans (same_new h0)) (none_of st2 h0) (by rw [upd_same]; rfl)
      refine ifF (Bool.eq_false_iff.mpr e2) ?_
      refine ⟨_, rfl, sz 2 (by decide), fun t3 ht3 => ⟨t3, _, rfl, .inr (SqT.of upd_same), rfl, (by rfl), _, rfl, ?_⟩⟩
      generalize hGt3 : upd G2 t3 _ = G3
      have st3 : Same H G3 := st2.trans (hGt3 ▸ same_new ht3)
      clear hGt3
      refine ifT (by simp only [nm]; decide +kernel) ?_
      refine ⟨_, rfl, _, rfl, c, "0123456789", rfl, rfl, _, rfl, ?_⟩
      rw [isD_in]
      by_cases e3 : isD c = true
      · refine ifT e3 ⟨_, rfl, rfl, _, rfl, ?_⟩
        rw [sq_at (k := 48) (by decide +kernel)]
        by_cases e4 : c = 48
        · refine ifT (decide_eq_true e4) ⟨_, rfl, sz 3 (by decide), fun t0 h0 => ?_⟩
          subst e4
          exact q2 (.zer) (d) (by simp [nx, e1, e2, e3]) t0 _ (st3.trans (same_new h0)) (none_of st3 h0) (by rw [upd_same]; rfl)
        · refine ifF (decide_eq_false e4) ⟨_, rfl, sz 3 (by decide), fun t0 h0 => ?_⟩
          exact q2 (.num 1) (d) (by simp [nx, e1, e2, e3, e4]) t0 _ (st3.trans (same_new h0)) (none_of st3 h0) (by rw [upd_same]; rfl)
      refine ifF (Bool.eq_false_iff.mpr e3) ?_
      refine ⟨_, rfl, rfl, _, rfl, ?_⟩
      refine ifF (dnS _ _ (by simp only [nm]; decide +kernel)) ?_
      refine ⟨_, rfl, rfl, _, rfl, ?_⟩
      refine ifF (dnS _ _ (by simp only [nm]; decide +kernel)) ?_
      refine ⟨_, rfl, sz 2 (by decide), fun t4 ht4 => ⟨t4, _, rfl, .inr (SqT.of upd_same), rfl, (by rfl), _, rfl, ?_⟩⟩
      generalize hGt4 : upd G3 t4 _ = G4
      have st4 : Same H G4 := st3.trans (hGt4 ▸ same_new ht4)
      clear hGt4
      refine ifF (by simp only [nm]; decide +kernel) ?_
      refine ⟨_, rfl, sz 2 (by decide), fun t5 ht5 => ⟨t5, _, rfl, .inr (SqT.of upd_same), rfl, (by rfl), _, rfl, ?_⟩⟩
      generalize hGt5 : upd G4 t5 _ = G5
      have st5 : Same H G5 := st4.trans (hGt5 ▸ same_new ht5)
      clear hGt5
      refine ifF (by simp only [nm]; decide +kernel) ?_
      refine ⟨_, rfl, sz 3 (by decide), fun t6 ht6 => ⟨t6, _, rfl, .inr (SqT.of upd_same), rfl, (by rfl), _, rfl, ?_⟩⟩
      generalize hGt6 : upd G5 t6 _ = G6
      have st6 : Same H G6 := st5.trans (hGt6 ▸ same_new ht6)
      clear hGt6
      refine ifF (by simp only [nm]; decide +kernel) ?_
      exact q1 (by simp [nx, e1, e2, e3]) _ st6
    | opn =>
      refine ⟨_, rfl, sz 2 (by decide), fun t7 ht7 => ⟨t7, _, rfl, .inr (SqT.of upd_same), rfl, (by rfl), _, rfl, ?_⟩⟩
      generalize hGt7 : upd G0 t7 _ = G7
      have st7 : Same H G7 := stt.trans (hGt7 ▸ same_new ht7)
      clear hGt7
      refine ifT (by simp only [nm]; decide +kernel) ?_
      refine ⟨_, rfl, c, "!@", rfl, rfl, _, rfl, ?_⟩
      rw [mk_in]
      by_cases e1 : c = 33 ∨ c = 64
      · refine ifT (decide_eq_true e1) ⟨_, rfl, sz 3 (by decide), fun t0 h0 => ?_⟩
        exact q2 (.mrk) (d) (by simp [nx, e1]) t0 _ (st7.trans (same_new h0)) (none_of st7 h0) (by rw [upd_same]; rfl)
      refine ifF (decide_eq_false e1) ?_
      refine ⟨_, rfl, sz 3 (by decide), fun t8 ht8 => ⟨t8, _, rfl, .inr (SqT.of upd_same), rfl, (by rfl), _, rfl, ?_⟩⟩
      generalize hGt8 : upd G7 t8 _ = G8
      have st8 : Same H G8 := st7.trans (hGt8 ▸ same_new ht8)
      clear hGt8
      refine ifT (by simp only [nm]; decide +kernel) ?_
      refine ⟨_, rfl, _, rfl, c, letters, rfl, rfl, _, rfl, ?_⟩
      rw [isL_in]
      by_cases e2 : isL c = true
      · refine ifT e2 ⟨_, rfl, sz 3 (by decide), fun t0 h0 => ?_⟩
        exact q2 (.wrd 1) (d) (by simp [nx, e1, e2]) t0 _ (st8.trans (same_new h0)) (none_of st8 h0) (by rw [upd_same]; rfl)
      refine ifF (Bool.eq_false_iff.mpr e2) ?_
      refine ⟨_, rfl, sz 2 (by decide), fun t9 ht9 => ⟨t9, _, rfl, .inr (SqT.of upd_same), rfl, (by rfl), _, rfl, ?_⟩⟩
      generalize hGt9 : upd G8 t9 _ = G9
      have st9 : Same H G9 := st8.trans (hGt9 ▸ same_new ht9)
      clear hGt9
      refine ifT (by simp only [nm]; decide +kernel) ?_
      refine ⟨_, rfl, _, rfl, c, "0123456789", rfl, rfl, _, rfl, ?_⟩
      rw [isD_in]
      by_cases e3 : isD c = true
      · refine ifT e3 ⟨_, rfl, rfl, _, rfl, ?_⟩
        rw [sq_at (k := 48) (by decide +kernel)]
        by_cases e4 : c = 48
        · refine ifT (decide_eq_true e4) ⟨_, rfl, sz 3 (by decide), fun t0 h0 => ?_⟩
          subst e4
          exact q2 (.zer) (d) (by simp [nx, e1, e2, e3]) t0 _ (st9.trans (same_new h0)) (none_of st9 h0) (by rw [upd_same]; rfl)
        · refine ifF (decide_eq_false e4) ⟨_, rfl, sz 3 (by decide), fun t0 h0 => ?_⟩
          exact q2 (.num 1) (d) (by simp [nx, e1, e2, e3, e4]) t0 _ (st9.trans (same_new h0)) (none_of st9 h0) (by rw [upd_same]; rfl)
      refine ifF (Bool.eq_false_iff.mpr e3) ?_
      refine ⟨_, rfl, rfl, _, rfl, ?_⟩
      refine ifF (dnS _ _ (by simp only [nm]; decide +kernel)) ?_
      refine ⟨_, rfl, rfl, _, rfl, ?_⟩
      refine ifF (dnS _ _ (by simp only [nm]; decide +kernel)) ?_
      refine ⟨_, rfl, sz 2 (by decide), fun t10 ht10 => ⟨t10, _, rfl, .inr (SqT.of upd_same), rfl, (by rfl), _, rfl, ?_⟩⟩
      generalize hGt10 : upd G9 t10 _ = G10
      have st10 : Same H G10 := st9.trans (hGt10 ▸ same_new ht10)
      clear hGt10
      refine ifF (by simp only [nm]; decide +kernel) ?_
      refine ⟨_, rfl, sz 2 (by decide), fun t11 ht11 => ⟨t11, _, rfl, .inr (SqT.of upd_same), rfl, (by rfl), _, rfl, ?_⟩⟩
      generalize hGt11 : upd G10 t11 _ = G11
      have st11 : Same H G11 := st10.trans (hGt11 ▸ same_new ht11)
      clear hGt11
      refine ifF (by simp only [nm]; decide +kernel) ?_
      refine ⟨_, rfl, sz 3 (by decide), fun t12 ht12 => ⟨t12, _, rfl, .inr (SqT.of upd_same), rfl, (by rfl), _, rfl, ?_⟩⟩
      generalize hGt12 : upd G11 t12 _ = G12
      have st12 : Same H G12 := st11.trans (hGt12 ▸ same_new ht12)
      clear hGt12
      refine ifT (by simp only [nm]; decide +kernel) ?_
      refine ⟨_, rfl, rfl, _, rfl, ?_⟩
      rw [sq_at (k := 41) (by decide +kernel)]
      by_cases e7 : c = 41
      · refine ifT (decide_eq_true e7) ⟨_, rfl, _, _, rfl, rfl, _, rfl, ?_⟩
        subst e7
        by_cases e9 : 0 < d
        · refine ifT (decide_eq_true (by show ((d : Nat) : Int) > 0; omega)) ⟨_, rfl, _, _, rfl, rfl, sz 3 (by decide), fun t0 h0 => ?_⟩
          exact q2 (.don) (d - 1) (by simp [nx, e1, e2, e3, e9]) t0 _ (st12.trans (same_new h0)) (none_of st12 h0) (by rw [upd_same]; exact tup_don e9)
        refine ifF (decide_eq_false (by show ¬((d : Nat) : Int) > 0; omega)) ?_
        exact q1 (by simp [nx, e1, e2, e3, e9]) _ st12
      refine ifF (decide_eq_false e7) ?_
      exact q1 (by simp [nx, e1, e2, e3, e7]) _ st12
    | mrk =>
      refine ⟨_, rfl, sz 2 (by decide), fun t13 ht13 => ⟨t13, _, rfl, .inr (SqT.of upd_same), rfl, (by rfl), _, rfl, ?_⟩⟩
      generalize hGt13 : upd G0 t13 _ = G13
      have st13 : Same H G13 := stt.trans (hGt13 ▸ same_new ht13)
      clear hGt13
      refine ifF (by simp only [nm]; decide +kernel) ?_
      refine ⟨_, rfl, sz 3 (by decide), fun t14 ht14 => ⟨t14, _, rfl, .inr (SqT.of upd_same), rfl, (by rfl), _, rfl, ?_⟩⟩
      generalize hGt14 : upd G13 t14 _ = G14
      have st14 : Same H G14 := st13.trans (hGt14 ▸ same_new ht14)
      clear hGt14
      refine ifT (by simp only [nm]; decide +kernel) ?_
      refine ⟨_, rfl, _, rfl, c, letters, rfl, rfl, _, rfl, ?_⟩
      rw [isL_in]
      by_cases e2 : isL c = true
      · refine ifT e2 ⟨_, rfl, sz 3 (by decide), fun t0 h0 => ?_⟩
        exact q2 (.wrd 1) (d) (by simp [nx, e2]) t0 _ (st14.trans (same_new h0)) (none_of st14 h0) (by rw [upd_same]; rfl)
      refine ifF (Bool.eq_false_iff.mpr e2) ?_
      refine ⟨_, rfl, sz 2 (by decide), fun t15 ht15 => ⟨t15, _, rfl, .inr (SqT.of upd_same), rfl, (by rfl), _, rfl, ?_⟩⟩
      generalize hGt15 : upd G14 t15 _ = G15
      have st15 : Same H G15 := st14.trans (hGt15 ▸ same_new ht15)
      clear hGt15
      refine ifF (by simp only [nm]; decide +kernel) ?_
      refine ⟨_, rfl, rfl, _, rfl, ?_⟩
      refine ifF (dnS _ _ (by simp only [nm]; decide +kernel)) ?_
      refine ⟨_, rfl, rfl, _, rfl, ?_⟩
      refine ifF (dnS _ _ (by simp only [nm]; decide +kernel)) ?_
      refine ⟨_, rfl, sz 2 (by decide), fun t16 ht16 => ⟨t16, _, rfl, .inr (SqT.of upd_same), rfl, (by rfl), _, rfl, ?_⟩⟩
      generalize hGt16 : upd G15 t16 _ = G16
      have st16 : Same H G16 := st15.trans (hGt16 ▸ same_new ht16)
      clear hGt16
      refine ifF (by simp only [nm]; decide +kernel) ?_
      refine ⟨_, rfl, sz 2 (by decide), fun t17 ht17 => ⟨t17, _, rfl, .inr (SqT.of upd_same), rfl, (by rfl), _, rfl, ?_⟩⟩
      generalize hGt17 : upd G16 t17 _ = G17
      have st17 : Same H G17 := st16.trans (hGt17 ▸ same_new ht17)
      clear hGt17
      refine ifF (by simp only [nm]; decide +kernel) ?_
      refine ⟨_, rfl, sz 3 (by decide), fun t18 ht18 => ⟨t18, _, rfl, .inr (SqT.of upd_same), rfl, (by rfl), _, rfl, ?_⟩⟩
      generalize hGt18 : upd G17 t18 _ = G18
      have st18 : Same H G18 := st17.trans (hGt18 ▸ same_new ht18)
      clear hGt18
      refine ifF (by simp only [nm]; decide +kernel) ?_
      exact q1 (by simp [nx, e2]) _ st18
    | wrd n =>
      refine ⟨_, rfl, sz 2 (by decide), fun t19 ht19 => ⟨t19, _, rfl, .inr (SqT.of upd_same), rfl, (by rfl), _, rfl, ?_⟩⟩
      generalize hGt19 : upd G0 t19 _ = G19
      have st19 : Same H G19 := stt.trans (hGt19 ▸ same_new ht19)
      clear hGt19
      refine ifF (by simp only [nm]; decide +kernel) ?_
      refine ⟨_, rfl, sz 3 (by decide), fun t20 ht20 => ⟨t20, _, rfl, .inr (SqT.of upd_same), rfl, (by rfl), _, rfl, ?_⟩⟩
      generalize hGt20 : upd G19 t20 _ = G20
      have st20 : Same H G20 := st19.trans (hGt20 ▸ same_new ht20)
      clear hGt20
      refine ifF (by simp only [nm]; decide +kernel) ?_
      refine ⟨_, rfl, sz 2 (by decide), fun t21 ht21 => ⟨t21, _, rfl, .inr (SqT.of upd_same), rfl, (by rfl), _, rfl, ?_⟩⟩
      generalize hGt21 : upd G20 t21 _ = G21
      have st21 : Same H G21 := st20.trans (hGt21 ▸ same_new ht21)
      clear hGt21
      refine ifF (by simp only [nm]; decide +kernel) ?_
      refine ⟨_, rfl, rfl, _, rfl, ?_⟩
      refine ifT (by simp only [nm]; decide +kernel) ?_
      refine ⟨_, rfl, _, rfl, c, letters, rfl, rfl, _, rfl, ?_⟩
      rw [isL_in]
      by_cases e5 : isL c = true
      · refine ifT e5 ⟨_, rfl, _, _, rfl, rfl, _, rfl, ?_⟩
        by_cases e6 : n < 8
        · refine ifT (decide_eq_true (by show ((n : Nat) : Int) < 8; omega)) ⟨_, rfl, _, _, rfl, rfl, _, rfl, sz 3 (by decide), fun t0 h0 => ?_⟩
          exact q2 (.wrd (n + 1)) (d) (by simp [nx, e5, e6]) t0 _ (st21.trans (same_new h0)) (none_of st21 h0) (by rw [upd_same]; rfl)
        refine ifF (decide_eq_false (by show ¬((n : Nat) : Int) < 8; omega)) ?_
        refine ⟨_, rfl, rfl, _, rfl, ?_⟩
        refine ifF (dnS _ _ (by simp only [nm]; decide +kernel)) ?_
        refine ⟨_, rfl, sz 2 (by decide), fun t22 ht22 => ⟨t22, _, rfl, .inr (SqT.of upd_same), rfl, (by rfl), _, rfl, ?_⟩⟩
        generalize hGt22 : upd G21 t22 _ = G22
        have st22 : Same H G22 := st21.trans (hGt22 ▸ same_new ht22)
        clear hGt22
        refine ifF (by simp only [nm]; decide +kernel) ?_
        refine ⟨_, rfl, sz 2 (by decide), fun t23 ht23 => ⟨t23, _, rfl, .inr (SqT.of upd_same), rfl, (by rfl), _, rfl, ?_⟩⟩
        generalize hGt23 : upd G22 t23 _ = G23
        have st23 : Same H G23 := st22.trans (hGt23 ▸ same_new ht23)
        clear hGt23
        refine ifT (by simp only [nm]; decide +kernel) ?_
        refine ⟨_, rfl, rfl, _, rfl, ?_⟩
        rw [sq_at (k := 32) (by decide +kernel)]
        by_cases e7 : c = 32
        · refine ifT (decide_eq_true e7) ⟨_, rfl, sz 3 (by decide), fun t0 h0 => ?_⟩
          subst e7
          exact q2 (.beg) (d) (by simp [nx, e5, e6, c3L, c3D]) t0 _ (st23.trans (same_new h0)) (none_of st23 h0) (by rw [upd_same]; rfl)
        refine ifF (decide_eq_false e7) ?_
        have e8 := e7
        clear e7
        refine ⟨_, rfl, sz 3 (by decide), fun t24 ht24 => ⟨t24, _, rfl, .inr (SqT.of upd_same), rfl, (by rfl), _, rfl, ?_⟩⟩
        generalize hGt24 : upd G23 t24 _ = G24
        have st24 : Same H G24 := st23.trans (hGt24 ▸ same_new ht24)
        clear hGt24
        refine ifT (by simp only [nm]; decide +kernel) ?_
        refine ⟨_, rfl, rfl, _, rfl, ?_⟩
        rw [sq_at (k := 41) (by decide +kernel)]
        by_cases e7 : c = 41
        · refine ifT (decide_eq_true e7) ⟨_, rfl, _, _, rfl, rfl, _, rfl, ?_⟩
          subst e7
          by_cases e9 : 0 < d
          · refine ifT (decide_eq_true (by show ((d : Nat) : Int) > 0; omega)) ⟨_, rfl, _, _, rfl, rfl, sz 3 (by decide), fun t0 h0 => ?_⟩
            exact q2 (.don) (d - 1) (by simp [nx, e5, e6, e8, e9]) t0 _ (st24.trans (same_new h0)) (none_of st24 h0) (by rw [upd_same]; exact tup_don e9)
          refine ifF (decide_eq_false (by show ¬((d : Nat) : Int) > 0; omega)) ?_
          exact q1 (by simp [nx, e5, e6, e8, e9]) _ st24
        refine ifF (decide_eq_false e7) ?_
        exact q1 (by simp [nx, e5, e6, e8, e7]) _ st24
      refine ifF (Bool.eq_false_iff.mpr e5) ?_
      refine ⟨_, rfl, rfl, _, rfl, ?_⟩
      refine ifF (dnS _ _ (by simp only [nm]; decide +kernel)) ?_
      refine ⟨_, rfl, sz 2 (by decide), fun t25 ht25 => ⟨t25, _, rfl, .inr (SqT.of upd_same), rfl, (by rfl), _, rfl, ?_⟩⟩
      generalize hGt25 : upd G21 t25 _ = G25
      have st25 : Same H G25 := st21.trans (hGt25 ▸ same_new ht25)
      clear hGt25
      refine ifF (by simp only [nm]; decide +kernel) ?_
      refine ⟨_, rfl, sz 2 (by decide), fun t26 ht26 => ⟨t26, _, rfl, .inr (SqT.of upd_same), rfl, (by rfl), _, rfl, ?_⟩⟩
      generalize hGt26 : upd G25 t26 _ = G26
      have st26 : Same H G26 := st25.trans (hGt26 ▸ same_new ht26)
      clear hGt26
      refine ifT (by simp only [nm]; decide +kernel) ?_
      refine ⟨_, rfl, rfl, _, rfl, ?_⟩
      rw [sq_at (k := 32) (by decide +kernel)]
      by_cases e7 : c = 32
      · refine ifT (decide_eq_true e7) ⟨_, rfl, sz 3 (by decide), fun t0 h0 => ?_⟩
        subst e7
        exact q2 (.beg) (d) (by simp [nx, e5, c3L, c3D]) t0 _ (st26.trans (same_new h0)) (none_of st26 h0) (by rw [upd_same]; rfl)
      refine ifF (decide_eq_false e7) ?_
      have e8 := e7
      clear e7
      refine ⟨_, rfl, sz 3 (by decide), fun t27 ht27 => ⟨t27, _, rfl, .inr (SqT.of upd_same), rfl, (by rfl), _, rfl, ?_⟩⟩
      generalize hGt27 : upd G26 t27 _ = G27
      have st27 : Same H G27 := st26.trans (hGt27 ▸ same_new ht27)
      clear hGt27
      refine ifT (by simp only [nm]; decide +kernel) ?_
      refine ⟨_, rfl, rfl, _, rfl, ?_⟩
      rw [sq_at (k := 41) (by decide +kernel)]
      by_cases e7 : c = 41
      · refine ifT (decide_eq_true e7) ⟨_, rfl, _, _, rfl, rfl, _, rfl, ?_⟩
        subst e7
        by_cases e9 : 0 < d
        · refine ifT (decide_eq_true (by show ((d : Nat) : Int) > 0; omega)) ⟨_, rfl, _, _, rfl, rfl, sz 3 (by decide), fun t0 h0 => ?_⟩
          exact q2 (.don) (d - 1) (by simp [nx, e5, e8, e9]) t0 _ (st27.trans (same_new h0)) (none_of st27 h0) (by rw [upd_same]; exact tup_don e9)
        refine ifF (decide_eq_false (by show ¬((d : Nat) : Int) > 0; omega)) ?_
        exact q1 (by simp [nx, e5, e8, e9]) _ st27
      refine ifF (decide_eq_false e7) ?_
      exact q1 (by simp [nx, e5, e8, e7]) _ st27
    | num n =>
      refine ⟨_, rfl, sz 2 (by decide), fun t28 ht28 => ⟨t28, _, rfl, .inr (SqT.of upd_same), rfl, (by rfl), _, rfl, ?_⟩⟩
      generalize hGt28 : upd G0 t28 _ = G28
      have st28 : Same H G28 := stt.trans (hGt28 ▸ same_new ht28)
      clear hGt28
      refine ifF (by simp only [nm]; decide +kernel) ?_
      refine ⟨_, rfl, sz 3 (by decide), fun t29 ht29 => ⟨t29, _, rfl, .inr (SqT.of upd_same), rfl, (by rfl), _, rfl, ?_⟩⟩
      generalize hGt29 : upd G28 t29 _ = G29
      have st29 : Same H G29 := st28.trans (hGt29 ▸ same_new ht29)
      clear hGt29
      refine ifF (by simp only [nm]; decide +kernel) ?_
      refine ⟨_, rfl, sz 2 (by decide), fun t30 ht30 => ⟨t30, _, rfl, .inr (SqT.of upd_same), rfl, (by rfl), _, rfl, ?_⟩⟩
      generalize hGt30 : upd G29 t30 _ = G30
      have st30 : Same H G30 := st29.trans (hGt30 ▸ same_new ht30)
      clear hGt30
      refine ifF (by simp only [nm]; decide +kernel) ?_
      refine ⟨_, rfl, rfl, _, rfl, ?_⟩
      refine ifF (dnS _ _ (by simp only [nm]; decide +kernel)) ?_
      refine ⟨_, rfl, rfl, _, rfl, ?_⟩
      refine ifT (by simp only [nm]; decide +kernel) ?_
      refine ⟨_, rfl, _, rfl, c, "0123456789", rfl, rfl, _, rfl, ?_⟩
      rw [isD_in]
      by_cases e5 : isD c = true
      · refine ifT e5 ⟨_, rfl, _, _, rfl, rfl, _, rfl, ?_⟩
        by_cases e6 : n < 10
        · refine ifT (decide_eq_true (by show ((n : Nat) : Int) < 10; omega)) ⟨_, rfl, _, _, rfl, rfl, _, rfl, sz 3 (by decide), fun t0 h0 => ?_⟩
          exact q2 (.num (n + 1)) (d) (by simp [nx, e5, e6]) t0 _ (st30.trans (same_new h0)) (none_of st30 h0) (by rw [upd_same]; rfl)
        refine ifF (decide_eq_false (by show ¬((n : Nat) : Int) < 10; omega)) ?_
        refine ⟨_, rfl, sz 2 (by decide), fun t31 ht31 => ⟨t31, _, rfl, .inr (SqT.of upd_same), rfl, (by rfl), _, rfl, ?_⟩⟩
        generalize hGt31 : upd G30 t31 _ = G31
        have st31 : Same H G31 := st30.trans (hGt31 ▸ same_new ht31)
        clear hGt31
        refine ifT (by simp only [nm]; decide +kernel) ?_
        refine ⟨_, rfl, rfl, _, rfl, ?_⟩
        rw [sq_at (k := 40) (by decide +kernel)]
        by_cases e7 : c = 40
        · refine ifT (decide_eq_true e7) ⟨_, rfl, _, _, rfl, rfl, sz 3 (by decide), fun t0 h0 => ?_⟩
          subst e7
          exact q2 (.opn) (d + 1) (by simp [nx, e5, e6, c4L, c4D]) t0 _ (st31.trans (same_new h0)) (none_of st31 h0) (by rw [upd_same]; rfl)
        refine ifF (decide_eq_false e7) ?_
        refine ⟨_, rfl, sz 2 (by decide), fun t32 ht32 => ⟨t32, _, rfl, .inr (SqT.of upd_same), rfl, (by rfl), _, rfl, ?_⟩⟩
        generalize hGt32 : upd G31 t32 _ = G32
        have st32 : Same H G32 := st31.trans (hGt32 ▸ same_new ht32)
        clear hGt32
        refine ifF (by simp only [nm]; decide +kernel) ?_
        refine ⟨_, rfl, sz 3 (by decide), fun t33 ht33 => ⟨t33, _, rfl, .inr (SqT.of upd_same), rfl, (by rfl), _, rfl, ?_⟩⟩
        generalize hGt33 : upd G32 t33 _ = G33
        have st33 : Same H G33 := st32.trans (hGt33 ▸ same_new ht33)
        clear hGt33
        refine ifF (by simp only [nm]; decide +kernel) ?_
        exact q1 (by simp [nx, e5, e6, e7]) _ st33
      refine ifF (Bool.eq_false_iff.mpr e5) ?_
      refine ⟨_, rfl, sz 2 (by decide), fun t34 ht34 => ⟨t34, _, rfl, .inr (SqT.of upd_same), rfl, (by rfl), _, rfl, ?_⟩⟩
      generalize hGt34 : upd G30 t34 _ = G34
      have st34 : Same H G34 := st30.trans (hGt34 ▸ same_new ht34)
      clear hGt34
      refine ifT (by simp only [nm]; decide +kernel) ?_
      refine ⟨_, rfl, rfl, _, rfl, ?_⟩
      rw [sq_at (k := 40) (by decide +kernel)]
      by_cases e7 : c = 40
      · refine ifT (decide_eq_true e7) ⟨_, rfl, _, _, rfl, rfl, sz 3 (by decide), fun t0 h0 => ?_⟩
        subst e7
        exact q2 (.opn) (d + 1) (by simp [nx, e5, c4L, c4D]) t0 _ (st34.trans (same_new h0)) (none_of st34 h0) (by rw [upd_same]; rfl)
      refine ifF (decide_eq_false e7) ?_
      refine ⟨_, rfl, sz 2 (by decide), fun t35 ht35 => ⟨t35, _, rfl, .inr (SqT.of upd_same), rfl, (by rfl), _, rfl, ?_⟩⟩
      generalize hGt35 : upd G34 t35 _ = G35
      have st35 : Same H G35 := st34.trans (hGt35 ▸ same_new ht35)
      clear hGt35
      refine ifF (by simp only [nm]; decide +kernel) ?_
      refine ⟨_, rfl, sz 3 (by decide), fun t36 ht36 => ⟨t36, _, rfl, .inr (SqT.of upd_same), rfl, (by rfl), _, rfl, ?_⟩⟩
      generalize hGt36 : upd G35 t36 _ = G36
      have st36 : Same H G36 := st35.trans (hGt36 ▸ same_new ht36)
      clear hGt36
      refine ifF (by simp only [nm]; decide +kernel) ?_
      exact q1 (by simp [nx, e5, e7]) _ st36
    | zer =>
      refine ⟨_, rfl, sz 2 (by decide), fun t37 ht37 => ⟨t37, _, rfl, .inr (SqT.of upd_same), rfl, (by rfl), _, rfl, ?_⟩⟩
      generalize hGt37 : upd G0 t37 _ = G37
      have st37 : Same H G37 := stt.trans (hGt37 ▸ same_new ht37)
      clear hGt37
      refine ifF (by simp only [nm]; decide +kernel) ?_
      refine ⟨_, rfl, sz 3 (by decide), fun t38 ht38 => ⟨t38, _, rfl, .inr (SqT.of upd_same), rfl, (by rfl), _, rfl, ?_⟩⟩
      generalize hGt38 : upd G37 t38 _ = G38
      have st38 : Same H G38 := st37.trans (hGt38 ▸ same_new ht38)
      clear hGt38
      refine ifF (by simp only [nm]; decide +kernel) ?_
      refine ⟨_, rfl, sz 2 (by decide), fun t39 ht39 => ⟨t39, _, rfl, .inr (SqT.of upd_same), rfl, (by rfl), _, rfl, ?_⟩⟩
      generalize hGt39 : upd G38 t39 _ = G39
      have st39 : Same H G39 := st38.trans (hGt39 ▸ same_new ht39)
      clear hGt39
      refine ifF (by simp only [nm]; decide +kernel) ?_
      refine ⟨_, rfl, rfl, _, rfl, ?_⟩
      refine ifF (dnS _ _ (by simp only [nm]; decide +kernel)) ?_
      refine ⟨_, rfl, rfl, _, rfl, ?_⟩
      refine ifF (dnS _ _ (by simp only [nm]; decide +kernel)) ?_
      refine ⟨_, rfl, sz 2 (by decide), fun t40 ht40 => ⟨t40, _, rfl, .inr (SqT.of upd_same), rfl, (by rfl), _, rfl, ?_⟩⟩
      generalize hGt40 : upd G39 t40 _ = G40
      have st40 : Same H G40 := st39.trans (hGt40 ▸ same_new ht40)
      clear hGt40
      refine ifT (by simp only [nm]; decide +kernel) ?_
      refine ⟨_, rfl, rfl, _, rfl, ?_⟩
      rw [sq_at (k := 40) (by decide +kernel)]
      by_cases e7 : c = 40
      · refine ifT (decide_eq_true e7) ⟨_, rfl, _, _, rfl, rfl, sz 3 (by decide), fun t0 h0 => ?_⟩
        subst e7
        exact q2 (.opn) (d + 1) (by simp [nx, c4L, c4D]) t0 _ (st40.trans (same_new h0)) (none_of st40 h0) (by rw [upd_same]; rfl)
      refine ifF (decide_eq_false e7) ?_
      refine ⟨_, rfl, sz 2 (by decide), fun t41 ht41 => ⟨t41, _, rfl, .inr (SqT.of upd_same), rfl, (by rfl), _, rfl, ?_⟩⟩
      generalize hGt41 : upd G40 t41 _ = G41
      have st41 : Same H G41 := st40.trans (hGt41 ▸ same_new ht41)
      clear hGt41
      refine ifF (by simp only [nm]; decide +kernel) ?_
      refine ⟨_, rfl, sz 3 (by decide), fun t42 ht42 => ⟨t42, _, rfl, .inr (SqT.of upd_same), rfl, (by rfl), _, rfl, ?_⟩⟩
      generalize hGt42 : upd G41 t42 _ = G42
      have st42 : Same H G42 := st41.trans (hGt42 ▸ same_new ht42)
      clear hGt42
      refine ifF (by simp only [nm]; decide +kernel) ?_
      exact q1 (by simp [nx, e7]) _ st42
    | don =>
      refine ⟨_, rfl, sz 2 (by decide), fun t43 ht43 => ⟨t43, _, rfl, .inr (SqT.of upd_same), rfl, (by rfl), _, rfl, ?_⟩⟩
      generalize hGt43 : upd G0 t43 _ = G43
      have st43 : Same H G43 := stt.trans (hGt43 ▸ same_new ht43)
      clear hGt43
      refine ifF (by simp only [nm]; decide +kernel) ?_
      refine ⟨_, rfl, sz 3 (by decide), fun t44 ht44 => ⟨t44, _, rfl, .inr (SqT.of upd_same), rfl, (by rfl), _, rfl, ?_⟩⟩
      generalize hGt44 : upd G43 t44 _ = G44
      have st44 : Same H G44 := st43.trans (hGt44 ▸ same_new ht44)
      clear hGt44
      refine ifF (by simp only [nm]; decide +kernel) ?_
      refine ⟨_, rfl, sz 2 (by decide), fun t45 ht45 => ⟨t45, _, rfl, .inr (SqT.of upd_same), rfl, (by rfl), _, rfl, ?_⟩⟩
      generalize hGt45 : upd G44 t45 _ = G45
      have st45 : Same H G45 := st44.trans (hGt45 ▸ same_new ht45)
      clear hGt45
      refine ifF (by simp only [nm]; decide +kernel) ?_
      refine ⟨_, rfl, rfl, _, rfl, ?_⟩
      refine ifF (dnS _ _ (by simp only [nm]; decide +kernel)) ?_
      refine ⟨_, rfl, rfl, _, rfl, ?_⟩
      refine ifF (dnS _ _ (by simp only [nm]; decide +kernel)) ?_
      refine ⟨_, rfl, sz 2 (by decide), fun t46 ht46 => ⟨t46, _, rfl, .inr (SqT.of upd_same), rfl, (by rfl), _, rfl, ?_⟩⟩
      generalize hGt46 : upd G45 t46 _ = G46
      have st46 : Same H G46 := st45.trans (hGt46 ▸ same_new ht46)
      clear hGt46
      refine ifF (by simp only [nm]; decide +kernel) ?_
      refine ⟨_, rfl, sz 2 (by decide), fun t47 ht47 => ⟨t47, _, rfl, .inr (SqT.of upd_same), rfl, (by rfl), _, rfl, ?_⟩⟩
      generalize hGt47 : upd G46 t47 _ = G47
      have st47 : Same H G47 := st46.trans (hGt47 ▸ same_new ht47)
      clear hGt47
      refine ifT (by simp only [nm]; decide +kernel) ?_
      refine ⟨_, rfl, rfl, _, rfl, ?_⟩
      rw [sq_at (k := 32) (by decide +kernel)]
      by_cases e7 : c = 32
      · refine ifT (decide_eq_true e7) ⟨_, rfl, sz 3 (by decide), fun t0 h0 => ?_⟩
        subst e7
        exact q2 (.beg) (d) (by simp [nx, c3L, c3D]) t0 _ (st47.trans (same_new h0)) (none_of st47 h0) (by rw [upd_same]; rfl)
      refine ifF (decide_eq_false e7) ?_
      have e8 := e7
      clear e7
      refine ⟨_, rfl, sz 3 (by decide), fun t48 ht48 => ⟨t48, _, rfl, .inr (SqT.of upd_same), rfl, (by rfl), _, rfl, ?_⟩⟩
      generalize hGt48 : upd G47 t48 _ = G48
      have st48 : Same H G48 := st47.trans (hGt48 ▸ same_new ht48)
      clear hGt48
      refine ifT (by simp only [nm]; decide +kernel) ?_
      refine ⟨_, rfl, rfl, _, rfl, ?_⟩
      rw [sq_at (k := 41) (by decide +kernel)]
      by_cases e7 : c = 41
      · refine ifT (decide_eq_true e7) ⟨_, rfl, _, _, rfl, rfl, _, rfl, ?_⟩
        subst e7
        by_cases e9 : 0 < d
        · refine ifT (decide_eq_true (by show ((d : Nat) : Int) > 0; omega)) ⟨_, rfl, _, _, rfl, rfl, sz 3 (by decide), fun t0 h0 => ?_⟩
          exact q2 (.don) (d - 1) (by simp [nx, e8, e9]) t0 _ (st48.trans (same_new h0)) (none_of st48 h0) (by rw [upd_same]; exact tup_don e9)
        refine ifF (decide_eq_false (by show ¬((d : Nat) : Int) > 0; omega)) ?_
        exact q1 (by simp [nx, e8, e9]) _ st48
      refine ifF (decide_eq_false e7) ?_
      exact q1 (by simp [nx, e8, e7]) _ st48
end
end Kb

namespace Kb
open PySem PySem.Spec PyProof.Rows L2 Mq Rz
/-! ### the law's automaton over a text -/
def spWr : Sp := fun vs H Q _ => ∃ z : Str, vs = [.str z] ∧ z.length ≤ 3000 ∧ (wrong (sg z) = none → ∀ G, Same H G → Q .non G) ∧ ∀ k, wrong (sg z) = some k → ∀ G, Same H G → Q (.int (k : Nat)) G
theorem in_fin (s : As) : inV (.str (nm s)) [.str "word", .str "done"] = fin s := by cases s <;> simp only [nm, fin] <;> decide +kernel
theorem sgAt {z : Str} {j c : Nat} (h : (sg z)[j]? = some c) : (sg z).drop j = c :: (sg z).drop (j + 1) := by
  obtain ⟨h1, h2⟩ := List.getElem?_eq_some_iff.mp h
  rw [List.drop_eq_getElem_cons h1, h2]
section
variable {P : Program} {w : World} {K : PySem.W.Frag} {mg : Str → Option Value} {base : Heap}
theorem ok_wrong {f : Addr} {fd : FuncData} (F : FunD K "_law_wrong" "_law_wrong" (defArgs s__law_wrong) (defBody s__law_wrong) (defScope s__law_wrong) [] [] f fd) (T : Bt mg) (N : Of P w K mg base 1 "_law_next" spNx) : FnOk P w K mg base (LX P w) 2 f fd ["_law_text_here"] spWr := by
  refine F.ok sc__law_wrong (fun vs H Q E h => ?_) (fun cdv A outer sh H vs Q E hr h => ?_)
  · obtain ⟨z, rfl, _⟩ := h
    rfl
  · obtain ⟨z, rfl, hz, q1, q2⟩ := h
    have nd := sc__law_wrong.nd
    have hz2 : z.length ≤ sizeLine := by rw [sizeLine_eq]; omega
    refine ⟨_, PSs.nox (pss_cons (ps_set (i := 1) nd rfl (Or.inl rfl) (pe_tup (pa_cons pe_str (pa_cons pe_int (pa_cons pe_int pa_nil)))))
      (pss_cons (ps_for PassesOwn.never rfl (pi_range1 rfl T.range (pa_cons (pe_callB call_len_str (by rfl) T.len PySem.boot_len (pa_cons (pv 0) pa_nil)) pa_nil)) (pg_name (i := 2) nd rfl (Or.inl rfl))
        (pss_cons (ps_set (i := 1) nd rfl (Or.inl rfl) (pe_of (E := E0) N hr rfl passL (pa_cons (pe_ix ix_tup (pv 1) pe_int (fun _ _ => rfl)) (pa_cons (pe_ix ix_tup (pv 1) pe_int (fun _ _ => rfl)) (pa_cons (pe_ix ix_tup (pv 1) pe_int (fun _ _ => rfl)) (pa_cons (pe_ix ix_str (pv 0) (pv 2) (fun _ _ => rfl)) pa_nil))))))
        (pss_one (ps_if (pt_cmpR op_isN (pv 1) pe_non (nomark _)) (pss_one (ps_ret (pv 2))) pss_nil))))
      (pss_one (ps_ret (pe_ifExp (PW.pt (pw_or (pt_cmpR op_eq (pv 0) pe_str (nomark _)) (pw_or1 (PW.pt (pw_and (pt_cmpR op_in_seq (pe_ix ix_tup (pv 1) pe_int (fun _ _ => rfl)) (pe_tup (pa_cons pe_str (pa_cons pe_str pa_nil))) rfl) (pw_and1 (pt_cmpR op_eq (pe_ix ix_tup (pv 1) pe_int (fun _ _ => rfl)) pe_int (nomark _)))))))) pe_non (pe_callB call_len_str (by rfl) T.len PySem.boot_len (pa_cons (pv 0) pa_nil))))))), ?_⟩
    refine ⟨sz 3 (by decide), fun t0 h0 => ?_⟩
    have s0 : Same H (upd H t0 (.tup [.str "begin", .int 0, .int 0])) := same_new h0
    have g0 : upd H t0 (.tup [.str "begin", .int 0, .int 0]) t0 = some (.tup [.str "begin", .int 0, .int 0]) := upd_same
    generalize upd H t0 (.tup [.str "begin", .int 0, .int 0]) = H0 at s0 g0 ⊢
    refine ⟨_, rfl, z, rfl, hz2, _, rfl, by omega, by omega, for_it walk_range (fun j σ G => ∃ (s : As) (d : Nat) (t : Addr) (x2 : Option V), σ = [some (.str z), some (.ref t), x2] ∧ Same H G ∧ G t = some (.tup [.str (nm s), .int (szA s : Nat), .int (d : Nat)]) ∧ wr (sg z) .beg 0 0 = wr ((sg z).drop j) s d j) ⟨.beg, 0, t0, _, rfl, s0, g0, rfl⟩ (fun _ _ _ _ _ => trivial) ?_ ?_⟩
    · rintro j x σ G G' hj ⟨s, d, t, x2, rfl, sm, gt, hw⟩ ⟨rfl, rfl⟩
      have hj2 : j < (sg z).length := by rw [sg_len]; omega
      obtain ⟨c, hc⟩ : ∃ c, (sg z)[j]? = some c := ⟨_, List.getElem?_eq_getElem hj2⟩
      have hdr := sgAt hc
      rw [hdr, wr] at hw
      have hne : sg z ≠ [] := fun e => by rw [e] at hj2; cases hj2
      refine ⟨_, rfl, _, _, _, .str (nm s), rfl, rfl, SqT.of gt, (by rfl), _, rfl, _, _, _, .int (szA s : Nat), rfl, rfl, SqT.of gt, (by rfl), _, rfl, _, _, _, .int (d : Nat), rfl, rfl, SqT.of gt, (by rfl), _, rfl, _, rfl, z, _, c, rfl, rfl, hz2, ?_, s, d, c, rfl, fun e G2 s2 => ?_, fun s' d' e t2 G2 s2 ht2 gt2 => ?_⟩
      · rw [Int.zero_add]
        exact atI_nat hc
      · rw [e] at hw
        refine ⟨_, rfl, rfl, _, rfl, ifT (decide_eq_true rfl) ⟨_, rfl, ?_⟩⟩
        have := q2 j (by unfold wrong; rw [if_neg hne]; exact hw) G2 (sm.trans s2)
        simpa using this
      · rw [e] at hw
        refine ⟨_, rfl, rfl, _, rfl, ifF (decide_eq_false (by intro e; cases e)) ?_⟩
        exact ⟨s', d', t2, _, rfl, sm.trans s2, gt2, hw⟩
    · rintro σ G ⟨s, d, t, x2, rfl, sm, gt, hw⟩
      have hlen : ((z.length : Int) - 0).toNat = z.length := by omega
      rw [List.drop_eq_nil_of_le (by rw [sg_len]; omega)] at hw
      simp only [wr] at hw
      refine ⟨_, rfl, rfl, _, rfl, ?_⟩
      by_cases e : z = ""
      · subst e
        exact ifT (decide_eq_true rfl) (q1 (by decide +kernel) G sm)
      · have hne : sg z ≠ [] := fun e2 => e (sg_inj (e2.trans (by decide +kernel)))
        refine ifF (dnS _ _ e) ?_
        refine ⟨_, rfl, _, _, _, .str (nm s), rfl, rfl, SqT.of gt, (by rfl), sz 2 (by decide), fun t1 h1 => ⟨t1, _, rfl, .inr (SqT.of upd_same), rfl, (by rfl), _, rfl, ?_⟩⟩
        have s2 : Same H (upd G t1 (.tup [.str "word", .str "done"])) := sm.trans (same_new h1)
        have gt2 := same_new (o := .tup [.str "word", .str "done"]) h1 _ _ gt
        generalize upd G t1 (.tup [.str "word", .str "done"]) = G2 at s2 gt2 ⊢
        have wq : wrong (sg z) = if fin s = true ∧ d = 0 then none else some z.length := by
          unfold wrong
          rw [if_neg hne, hw]
          congr
        show if inV (.str (nm s)) [.str "word", .str "done"] = true then _ else _
        rw [in_fin]
        by_cases e1 : fin s = true
        · refine ifT e1 ⟨_, rfl, _, _, _, .int (d : Nat), rfl, rfl, SqT.of gt2, (by rfl), rfl, _, rfl, ?_⟩
          by_cases e2 : d = 0
          · subst e2
            exact ifT (decide_eq_true rfl) (q1 (by rw [wq, if_pos ⟨e1, rfl⟩]) G2 s2)
          · refine ifF (decide_eq_false (by intro e3; injection e3 with e3; omega)) ⟨_, rfl, z, rfl, hz2, ?_⟩
            exact q2 _ (by rw [wq, if_neg (fun e => e2 e.2)]) G2 s2
        · refine ifF (Bool.eq_false_iff.mpr e1) ⟨_, rfl, z, rfl, hz2, ?_⟩
          exact q2 _ (by rw [wq, if_neg (fun e => e1 e.1)]) G2 s2
end
end Kb

namespace Kb
open PySem PySem.Spec PyProof.Rows L2 Mq Rz
/-! ### plain items as they are read, right or not -/
mutual
inductive PdAt (H : Hp) : V → It → Prop
  | say {a : Addr} {w : Str} (e : H a = some (.tup [.str "say", .str w])) (hw : isW w = true) : PdAt H (.ref a) (.say w)
  | press {a : Addr} {w : Str} (e : H a = some (.tup [.str "press", .str w])) (hw : isW w = true) : PdAt H (.ref a) (.press w)
  | go {a : Addr} {w : Str} (e : H a = some (.tup [.str "go", .str w])) (hw : isW w = true) : PdAt H (.ref a) (.go w)
  | times {a l : Addr} {n : Int} {vs : List V} {xs : List It} (e : H a = some (.tup [.str "times", .int n, .ref l])) (hl : H l = some (.lst vs)) (h : PdsAt H vs xs) (n0 : 0 ≤ n) (h6 : xs.length ≤ 3000) : PdAt H (.ref a) (.times n xs)
inductive PdsAt (H : Hp) : List V → List It → Prop
  | nil : PdsAt H [] []
  | cons {v : V} {i : It} {vs : List V} {xs : List It} (h : PdAt H v i) (r : PdsAt H vs xs) : PdsAt H (v :: vs) (i :: xs)
end
mutual
theorem PdAt.kd {H G : Hp} (k : Kd H G) : ∀ {v : V} {i : It}, PdAt H v i → PdAt G v i
  | _, _, .say e hw => .say (k.2 _ _ e) hw
  | _, _, .press e hw => .press (k.2 _ _ e) hw
  | _, _, .go e hw => .go (k.2 _ _ e) hw
  | _, _, .times e hl h n0 h6 => .times (k.2 _ _ e) (k.1 _ _ hl) (h.kd k) n0 h6
theorem PdsAt.kd {H G : Hp} (k : Kd H G) : ∀ {vs : List V} {xs : List It}, PdsAt H vs xs → PdsAt G vs xs
  | _, _, .nil => .nil
  | _, _, .cons h r => .cons (h.kd k) (r.kd k)
end
theorem PdsAt.snoc {H : Hp} : ∀ {vs : List V} {xs : List It}, PdsAt H vs xs → ∀ {v : V} {i : It}, PdAt H v i → PdsAt H (vs ++ [v]) (xs ++ [i])
  | _, _, .nil, _, _, h => .cons h .nil
  | _, _, .cons a r, _, _, h => .cons a (r.snoc h)
theorem PdsAt.length {H : Hp} : ∀ {vs : List V} {xs : List It}, PdsAt H vs xs → vs.length = xs.length
  | _, _, .nil => rfl
  | _, _, .cons _ r => congrArg (· + 1) r.length
theorem PdsAt.get {H : Hp} : ∀ {vs : List V} {xs : List It}, PdsAt H vs xs → ∀ {i : Nat} {v : V}, vs[i]? = some v → ∃ it, xs[i]? = some it ∧ PdAt H v it
  | _, _, .nil, _, _, h => by simp at h
  | _, _, .cons a r, 0, _, h => by
    simp only [List.getElem?_cons_zero, Option.some.injEq] at h
    subst h
    exact ⟨_, rfl, a⟩
  | _, _, .cons a r, i + 1, _, h => by
    simp only [List.getElem?_cons_succ] at h ⊢
    exact r.get h
mutual
theorem PdAt.dt {H : Hp} : ∀ {v : V} {i : It}, PdAt H v i → okI i = true → DtAt H v i
  | _, _, .say e hw, _ => .say e hw
  | _, _, .press e hw, _ => .press e hw
  | _, _, .go e hw, _ => .go e hw
  | _, _, .times e hl h n0 h6, ho => by
    simp only [okI, Bool.and_eq_true, decide_eq_true_eq] at ho
    exact .times e hl (h.dt ho.2.2) n0 ho.1.2 ho.2.1
theorem PdsAt.dt {H : Hp} : ∀ {vs : List V} {xs : List It}, PdsAt H vs xs → okIs xs = true → DtsAt H vs xs
  | _, _, .nil, _ => .nil
  | _, _, .cons a r, ho => by
    simp only [okIs, Bool.and_eq_true] at ho
    exact .cons (a.dt ho.1) (r.dt ho.2)
end
/-! items without a fault are right -/
mutual
theorem ok_fts {H : Hp} : ∀ {v : V} {i : It}, PdAt H v i → fts i = [] → okI i = true
  | _, _, .say e hw, _ => hw
  | _, _, .press e hw, _ => hw
  | _, _, .go e hw, _ => hw
  | _, _, .times (n := n) (xs := xs) e hl h n0 h6, hf => by
    simp only [fts, ownF, List.append_eq_nil_iff] at hf
    obtain ⟨f1, f2, f3, f4⟩ := hf
    have a1 : n ≤ 10 ^ 9 := by
      by_cases z : n > 10 ^ 9
      · rw [if_pos z] at f2; cases f2
      · omega
    have a2 : xs.length ≤ 6 := by
      by_cases z : xs.length > 6
      · rw [if_pos z] at f3; cases f3
      · omega
    simp only [okI, ok_ftsL h f1, decide_eq_true n0, decide_eq_true a1, decide_eq_true a2, Bool.and_true]
theorem ok_ftsL {H : Hp} : ∀ {vs : List V} {xs : List It}, PdsAt H vs xs → ftsL xs = [] → okIs xs = true
  | _, _, .nil, _ => rfl
  | _, _, .cons a r, hf => by
    simp only [ftsL, List.append_eq_nil_iff] at hf
    simp only [okIs, ok_fts a hf.1, ok_ftsL r hf.2, Bool.and_true]
end
mutual
theorem lv_fts : ∀ {i : It}, fts i = [] → i.lv ≤ 2
  | .say _, _ => by simp [It.lv]
  | .press _, _ => by simp [It.lv]
  | .go _, _ => by simp [It.lv]
  | .times n xs, hf => by
    simp only [fts, ownF, List.append_eq_nil_iff] at hf
    obtain ⟨f1, f2, f3, f4⟩ := hf
    have : lvL xs ≤ 1 := by
      by_cases z : lvL xs > 1
      · rw [if_pos z] at f4; cases f4
      · omega
    simp only [It.lv]
    omega
theorem lv_ftsL : ∀ {xs : List It}, ftsL xs = [] → lvL xs ≤ 2
  | [], _ => by simp [lvL]
  | x :: r, hf => by
    simp only [ftsL, List.append_eq_nil_iff] at hf
    have i1 := lv_fts hf.1
    have i2 := lv_ftsL hf.2
    simp only [lvL]
    omega
end
/-! ### the heap but for two places -/
def hid (G : Hp) (p q : Addr) : Hp := fun b => if b = p ∨ b = q then none else G b
theorem hid_at {G : Hp} {p q b : Addr} {o : HO} (e : hid G p q b = some o) : b ≠ p ∧ b ≠ q ∧ G b = some o := by
  unfold hid at e
  split at e
  · cases e
  · rename_i h
    exact ⟨fun z => h (.inl z), fun z => h (.inr z), e⟩
theorem at_hid {G : Hp} {p q b : Addr} {o : HO} (h1 : b ≠ p) (h2 : b ≠ q) (e : G b = some o) : hid G p q b = some o := by
  unfold hid
  rw [if_neg (by rintro (z | z); exact h1 z; exact h2 z)]
  exact e
theorem kd_hid {G G' : Hp} {p q p' q' : Addr} (h : ∀ b o, b ≠ p → b ≠ q → G b = some o → b ≠ p' ∧ b ≠ q' ∧ G' b = some o) : Kd (hid G p q) (hid G' p' q') :=
  ⟨fun _ _ e => let ⟨a, b, c⟩ := hid_at e; let ⟨x, y, z⟩ := h _ _ a b c; at_hid x y z, fun _ _ e => let ⟨a, b, c⟩ := hid_at e; let ⟨x, y, z⟩ := h _ _ a b c; at_hid x y z⟩
theorem Kd.trans {A B C : Hp} (h : Kd A B) (k : Kd B C) : Kd A C := ⟨fun a xs e => k.1 a xs (h.1 a xs e), fun a xs e => k.2 a xs (h.2 a xs e)⟩
theorem kd_of_hid {G : Hp} {p q : Addr} : Kd (hid G p q) G := ⟨fun _ _ e => (hid_at e).2.2, fun _ _ e => (hid_at e).2.2⟩
inductive FrP (H : Hp) (B : Nat) : List V → Pile → Prop
  | nil : FrP H B [] []
  | cons {t o : Addr} {n : Int} {vs : List V} {xs : List It} {ps : List V} {pl : Pile} (e : H t = some (.tup [.int n, .ref o])) (g : H o = some (.lst vs)) (h : PdsAt H vs xs) (hl : vs.length ≤ B) (n0 : 0 ≤ n) (r : FrP H B ps pl) : FrP H B (.ref t :: ps) ((n, xs) :: pl)
theorem FrP.kd {H G : Hp} {B B' : Nat} (k : Kd H G) (hB : B ≤ B') : ∀ {ps : List V} {pl : Pile}, FrP H B ps pl → FrP G B' ps pl
  | _, _, .nil => .nil
  | _, _, .cons e g h hl n0 r => .cons (k.2 _ _ e) (k.1 _ _ g) (h.kd k) (Nat.le_trans hl hB) n0 (r.kd k hB)
end Kb

namespace Kb
open PySem PySem.Spec PyProof.Rows L2 Mq Rz
/-! ### the law's own reading of a right text -/
def spPar : Sp := fun vs H Q _ => ∃ z : Str, vs = [.str z] ∧ z.length ≤ 3000 ∧ wrong (sg z) = none ∧ ∀ xs, Prs (sg z) xs → ∀ l us G, Same H G → H l = none → G l = some (.lst us) → PdsAt G us xs → us.length ≤ 3001 → Q (.ref l) G
theorem end_in (c : Nat) : decide (c ∈ (" )" : Str).cps.toList) = decide (c = 32 ∨ c = 41) := by
  have e : (" )" : Str).cps.toList = [32, 41] := by decide +kernel
  rw [e]
  simp
/-- what stands at each turn: the state of both readings -/
def PaI (H : Hp) (z : Str) (j : Nat) (σ : L2.St) (G : Hp) : Prop := ∃ (fc pa : Addr) (wd : Str) (cvs ps : List V) (f : List It) (pl : Pile) (x4 x5 x6 x7 : Option V), σ = [some (.str z), some (.ref fc), some (.ref pa), some (.str wd), x4, x5, x6, x7] ∧
  Same H G ∧ H fc = none ∧ H pa = none ∧ fc ≠ pa ∧ G fc = some (.lst cvs) ∧ PdsAt (hid G fc pa) cvs f ∧ cvs.length ≤ j ∧ G pa = some (.lst ps.reverse) ∧ ps.length ≤ j ∧ FrP (hid G fc pa) j ps pl ∧ wd.length ≤ j ∧
  psl ((sg z ++ [32]).take j) ([], [], []) = some (f, pl, sg wd) ∧ (j ≤ (sg z).length → ∃ s d k, Iv s d (f, pl, sg wd) ∧ wr ((sg z).drop j) s d k = none)
/-- what is known of the next sign -/
theorem pa_next {z : Str} {j c : Nat} {f : List It} {pl : Pile} {u : List Nat} (hc : (sg z ++ [32])[j]? = some c) (hj : j ≤ (sg z).length) (h : ∃ s d k, Iv s d (f, pl, u) ∧ wr ((sg z).drop j) s d k = none) :
    ∃ q', pst (f, pl, u) c = some q' ∧ (c = 40 → u ≠ [] ∧ u.length ≤ 10 ∧ (∀ c ∈ u, isD c = true) ∧ (∀ r, u = 48 :: r → r = [])) ∧ (c = 32 ∨ c = 41 → u = [] ∨ Wdy u) ∧ (j + 1 ≤ (sg z).length → ∃ s d k, Iv s d q' ∧ wr ((sg z).drop (j + 1)) s d k = none) := by
  obtain ⟨s, d, k, hI, hw⟩ := h
  by_cases hlt : j < (sg z).length
  · rw [List.getElem?_append_left hlt] at hc
    rw [sgAt hc, wr] at hw
    cases hn : nx s d c with
    | none => rw [hn] at hw; cases hw
    | some t =>
      obtain ⟨s1, d1⟩ := t
      rw [hn] at hw
      obtain ⟨q', e1, i1⟩ := iv_step hI hn
      refine ⟨q', e1, fun e => ?_, fun e => ?_, fun _ => ⟨s1, d1, _, i1, hw⟩⟩
      · subst e
        obtain ⟨a1, a2, a3, a4, _⟩ := iw_num hI.2 hn
        exact ⟨a1, a2, a3, a4⟩
      · exact (iw_end hI.2 e hn).1
  · have hj2 : j = (sg z).length := by omega
    subst hj2
    rw [List.getElem?_append_right (Nat.le_refl _), Nat.sub_self] at hc
    simp only [List.getElem?_cons_zero, Option.some.injEq] at hc
    subst hc
    rw [List.drop_eq_nil_of_le (Nat.le_refl _), wr] at hw
    split at hw
    · rename_i e
      exact ⟨_, rfl, (fun z => by cases z), fun _ => fin_end hI.2 e.1, fun z => absurd z (by omega)⟩
    · cases hw
theorem psl_snoc {l : List Nat} {c : Nat} {q q' r : P3} (h : psl l q = some q') (h2 : pst q' c = some r) : psl (l ++ [c]) q = some r := by
  rw [psl_app, h, Option.bind_some]
  simp only [psl, h2, Option.bind_some]
def dSg : List (Key × V) := [(Sum.inr "!", .str "say"), (Sum.inr "@", .str "go")]
theorem sg_get {H : Hp} {p : Addr} {c : Nat} (h : H p = some (.dK (mergeK [] dSg))) : DGet H p (.str ⟨#[c]⟩) (if c = 33 then some (.str "say") else if c = 64 then some (.str "go") else none) := by
  have g := DGet.k (k := (Sum.inr ⟨#[c]⟩ : Key)) h
  have e : valV (mergeK [] dSg) (Sum.inr ⟨#[c]⟩) = if c = 33 then some (.str "say") else if c = 64 then some (.str "go") else none := by
    by_cases h1 : c = 33
    · subst h1; rw [if_pos rfl]; decide +kernel
    · by_cases h2 : c = 64
      · subst h2; rw [if_neg (by decide), if_pos rfl]; decide +kernel
      · rw [if_neg h1, if_neg h2]
        have e0 : mergeK [] dSg = dSg := by decide +kernel
        rw [e0]
        have k1 : (Sum.inr ⟨#[c]⟩ : Key) ≠ Sum.inr ("!" : Str) := fun e => h1 (by
          have e := Sum.inr.inj e
          have e := congrArg sg e
          rw [show sg "!" = [33] by decide +kernel] at e
          simpa [sg] using e)
        have k2 : (Sum.inr ⟨#[c]⟩ : Key) ≠ Sum.inr ("@" : Str) := fun e => h2 (by
          have e := Sum.inr.inj e
          have e := congrArg sg e
          rw [show sg "@" = [64] by decide +kernel] at e
          simpa [sg] using e)
        unfold valV dSg
        simp only [List.find?_cons, decide_eq_false (Ne.symm k1), decide_eq_false (Ne.symm k2)]
        rfl
  rw [← e]
  exact g
theorem sg_drop (z : Str) (i : Nat) : sg (cutS z (some (i : Int)) none) = (sg z).drop i := by
  unfold cutS sg
  rw [HT.sIx_nat, HT.sIx_none]
  have hl : z.cps.toList.length = z.length := Array.length_toList
  rw [List.take_of_length_le (by rw [List.length_drop]; omega)]
  by_cases h : i ≤ z.length
  · rw [Nat.min_eq_left h]
  · rw [Nat.min_eq_right (by omega), List.drop_eq_nil_of_le (by omega), List.drop_eq_nil_of_le (by omega)]
theorem sg_take (z : Str) (i : Nat) : sg (cutS z none (some (i : Int))) = (sg z).take i := by
  unfold cutS sg
  rw [HT.sIx_nat, HT.sIx_none, List.drop_zero, Nat.sub_zero]
  have hl : z.cps.toList.length = z.length := Array.length_toList
  by_cases h : i ≤ z.length
  · rw [Nat.min_eq_left h]
  · rw [Nat.min_eq_right (by omega), List.take_of_length_le (by omega), List.take_of_length_le (by omega)]
theorem wdy_it {c : Nat} {r : List Nat} (h : Wdy (c :: r)) : (c = 33 ∧ isW (mk r) = true) ∨ (c = 64 ∧ isW (mk r) = true) ∨ (c ≠ 33 ∧ c ≠ 64 ∧ isW (mk (c :: r)) = true) := by
  obtain ⟨m, u, e, hm, h1, h8, ha⟩ := h
  rcases hm with rfl | rfl | rfl
  · rw [List.nil_append] at e
    obtain ⟨_, x1, x2, _⟩ := isL_no (ha c (by rw [← e]; exact List.mem_cons_self))
    exact .inr (.inr ⟨x1, x2, by rw [e]; exact isW_mk h1 h8 ha⟩)
  · simp only [List.cons_append, List.nil_append, List.cons.injEq] at e
    obtain ⟨rfl, rfl⟩ := e
    exact .inl ⟨rfl, isW_mk h1 h8 ha⟩
  · simp only [List.cons_append, List.nil_append, List.cons.injEq] at e
    obtain ⟨rfl, rfl⟩ := e
    exact .inr (.inl ⟨rfl, isW_mk h1 h8 ha⟩)
section
variable {P : Program} {w : World} {K : PySem.W.Frag} {mg : Str → Option Value} {base : Heap}
theorem ok_parsed {f : Addr} {fd : FuncData} (F : FunD K "_law_parsed" "_law_parsed" (defArgs s__law_parsed) (defBody s__law_parsed) (defScope s__law_parsed) [] [] f fd) (T : Bt mg) : FnOk P w K mg base (LX P w) 1 f fd ["_law_text_here"] spPar := by
  refine F.ok sc__law_parsed (fun vs H Q E h => ?_) (fun cdv A outer sh H vs Q E hr h => ?_)
  · obtain ⟨z, rfl, _⟩ := h
    rfl
  · obtain ⟨z, rfl, hz, hw, q⟩ := h
    have nd := sc__law_parsed.nd
    have hu := Nat.lt_of_le_of_lt (Nat.add_le_add_left (show 1 ≤ 64 by decide) _) hr.units
    refine ⟨_, PSs.nox (pss_cons (ps_par3 (i := 1) (j := 2) (l := 3) (by rfl) nd rfl rfl rfl (by decide) (by decide) (by decide) rfl rfl rfl (pa_cons (pe_lst pa_nil) (pa_cons (pe_lst pa_nil) (pa_cons pe_str pa_nil))) (by rfl))
      (pss_cons (ps_for PassesOwn.never rfl (pi_str (pe_op op_add_str (pv 0) pe_str)) (pg_name (i := 4) nd rfl (Or.inl rfl))
        (pss_one (ps_if (pt_cmpR op_eq (pv 4) pe_str (nomark _))
          (pss_cons (ps_expr (pe_bm PySem.F.plainAttrs_list PySem.F.slot_list_append PySem.F.type_list_append mt_append (pv 2) (pa_cons (pe_tup (pa_cons (pe_callTy call_int_str (by rfl) T.int (by decide +kernel) (pa_cons (pv 3) pa_nil)) (pa_cons (pv 1) pa_nil))) pa_nil)))
            (pss_one (ps_par (i := 1) (j := 3) (by rfl) nd rfl rfl (by decide) rfl rfl (pa_cons (pe_lst pa_nil) (pa_cons pe_str pa_nil)) (by rfl))))
          (pss_one (ps_if (pt_cmpR op_in_sign (pv 4) pe_str rfl)
            (C8.pss_cut (ps_if (pt_cmpR op_ne (pv 3) pe_str (nomark _))
                (pss_cons (ps_set (i := 5) nd rfl (Or.inl rfl) (pe_dget2 hu (pe_disp (pps_cons pe_str pe_str (pps_cons pe_str pe_str pps_nil)) (by rfl) (by rfl) (fun z => by cases z) (by decide)) (pe_ix ix_str (pv 3) pe_int (fun _ _ => rfl)) pe_str ⟨rfl, rfl, rfl, rfl⟩))
                  (pss_one (ps_expr (pe_bm PySem.F.plainAttrs_list PySem.F.slot_list_append PySem.F.type_list_append mt_append (pv 1) (pa_cons (pe_tup (pa_cons (pv 5) (pa_cons (pe_ifExp (pt_cmpR op_in_sign (pe_ix ix_str (pv 3) pe_int (fun _ _ => rfl)) pe_str rfl) (pe_slice sl_str (pv 3) (po_some pe_int) po_none) (pv 3)) pa_nil))) pa_nil)))))
                pss_nil)
              (pss_cons (ps_set (i := 3) nd rfl (Or.inl rfl) pe_str)
                (pss_one (ps_if (pt_cmpR op_eq (pv 4) pe_str (nomark _))
                  (pss_cons (ps_asg (pe_bm0 PySem.F.plainAttrs_list PySem.F.slot_list_pop PySem.F.type_list_pop mt_pop (pv 2)) (pg_tup rfl (pgs_cons (pg_name (i := 6) nd rfl (Or.inl rfl)) (pgs_cons (pg_name (i := 7) nd rfl (Or.inl rfl)) pgs_nil))))
                    (pss_one (ps_set (i := 1) nd rfl (Or.inl rfl) (pe_op op_cat (pv 7) (pe_lst (pa_cons (pe_tup (pa_cons pe_str (pa_cons (pv 6) (pa_cons (pv 1) pa_nil)))) pa_nil))))))
                  pss_nil))))
            (pss_one (ps_set (i := 3) nd rfl (Or.inl rfl) (pe_op op_add_str (pv 3) (pv 4)))))))))
      (pss_one (ps_ret (pv 1))))), ?_⟩
    refine ⟨sz 0 (by decide), fun f0 h0 => ⟨sz 0 (by decide), fun pa0 h1 => ⟨_, _, _, rfl, ?_⟩⟩⟩
    obtain ⟨npf, h10⟩ := upd_none h1
    have s1 : Same H (upd (upd H f0 (.lst [])) pa0 (.lst [])) := (same_new h0).trans (same_new h1)
    have g0 : upd (upd H f0 (.lst [])) pa0 (.lst []) f0 = some (.lst []) := by rw [upd_ne (Ne.symm npf), upd_same]
    have g1 : upd (upd H f0 (.lst [])) pa0 (.lst []) pa0 = some (.lst []) := upd_same
    generalize upd (upd H f0 (.lst [])) pa0 (.lst []) = H1 at s1 g0 g1 ⊢
    have hsp : sg " " = [32] := by decide +kernel
    have hl0 : wr (sg z) .beg 0 0 = none ∨ sg z = [] := by
      unfold wrong at hw
      split at hw
      · exact .inr (by assumption)
      · exact .inl hw
    have hst : ∃ s d k, Iv s d ([], [], []) ∧ wr ((sg z).drop 0) s d k = none := by
      rcases hl0 with e | e
      · exact ⟨.beg, 0, 0, ⟨rfl, rfl⟩, e⟩
      · exact ⟨.don, 0, 0, ⟨rfl, rfl⟩, by rw [e]; rfl⟩
    refine ⟨_, rfl, _, _, rfl, rfl, ?_, _, rfl, for_it walk_str (PaI H z) ⟨f0, pa0, "", [], [], [], [], _, _, _, _, rfl, s1, h0, h10, Ne.symm npf, g0, .nil, Nat.le_refl _, g1, Nat.le_refl _, .nil, (by decide +kernel), rfl, fun _ => hst⟩ (fun _ _ _ _ _ => trivial) ?_ ?_⟩
    · rw [show ((" " : Str)).length = 1 by rfl, sizeLine_eq]
      omega
    · rintro j x σ G G' hj ⟨fc, pa, wd, cvs, ps, f, pl, x4, x5, x6, x7, rfl, sm, hfc, hpa, nfp, gf, gI, gl, gp, gpl, gF, gw, hrun, hnx⟩ ⟨rfl, c, hc, rfl⟩
      have hj2 : j ≤ (sg z).length := by
        have : (z ++ (" " : Str)).cps.size = z.length + 1 := by
          have := congrArg List.length (sg_app z " ")
          simp only [List.length_append, hsp, sg_len] at this
          exact this
        rw [sg_len]
        omega
      have hc2 : (sg z ++ [32])[j]? = some c := by
        rw [← hsp, ← sg_app]
        simpa [sg] using hc
      obtain ⟨q', e1, hd40, hend, hnx2⟩ := pa_next hc2 hj2 (hnx hj2)
      have hrun2 : psl ((sg z ++ [32]).take (j + 1)) ([], [], []) = some q' := by
        rw [List.take_succ, hc2]
        exact psl_snoc hrun e1
      have hj3 : j ≤ 3000 := by rw [sg_len] at hj2; omega
      refine ⟨_, rfl, rfl, _, rfl, ?_⟩
      rw [sq_at (k := 40) (by decide +kernel)]
      by_cases e40 : c = 40
      · subst e40
        refine ifT (decide_eq_true rfl) ?_
        obtain ⟨hne, hl10, hdg, h48⟩ := hd40 rfl
        have e1 : q' = ([], (val (sg wd), f) :: pl, []) := (Option.some.inj e1).symm
        subst e1
        have ev := dig_val _ (sg wd) rfl hdg hne h48
        have vv := val_small hdg hl10
        have hit : PySem.intText? wd = some (val (sg wd)) := by
          have h := PySem.W.KIN.num_reads vv.1 (by omega)
          rw [show PySem.Str.ofString (toString (val (sg wd))) = wd from sg_inj ev] at h
          exact h
        refine ⟨_, rfl, .inl ⟨rfl, _, SqL.of gp⟩, _, rfl, wd, val (sg wd), rfl, hit, by rw [← sg_len]; omega, _, rfl, sz 2 (by decide), fun tp htp => ?_⟩
        have ntp : tp ≠ pa := fun e => by rw [e, gp] at htp; cases htp
        refine ⟨pa, _, _, rfl, rfl, (same_new htp) _ _ gp, by rw [List.length_reverse, sizeLine_eq]; omega, ?_⟩
        have key2 : ∀ b o, G' b = some o → b ≠ pa → upd (upd G' tp (.tup [.int (val (sg wd)), .ref fc])) pa (.lst (ps.reverse ++ [.ref tp])) b = some o := fun b o e n => by
          rw [upd_ne n]
          exact same_new htp _ _ e
        have sm2 : Same H (upd (upd G' tp (.tup [.int (val (sg wd)), .ref fc])) pa (.lst (ps.reverse ++ [.ref tp]))) := same_at (sm.trans (same_new htp)) hpa
        have gt2 : upd (upd G' tp (.tup [.int (val (sg wd)), .ref fc])) pa (.lst (ps.reverse ++ [.ref tp])) tp = some (.tup [.int (val (sg wd)), .ref fc]) := by rw [upd_ne ntp, upd_same]
        have gp2 : upd (upd G' tp (.tup [.int (val (sg wd)), .ref fc])) pa (.lst (ps.reverse ++ [.ref tp])) pa = some (.lst (.ref tp :: ps).reverse) := by rw [upd_same, List.reverse_cons]
        generalize upd (upd G' tp (.tup [.int (val (sg wd)), .ref fc])) pa (.lst (ps.reverse ++ [.ref tp])) = G2 at key2 sm2 gt2 gp2 ⊢
        refine ⟨sz 0 (by decide), fun fn hfn => ⟨_, _, rfl, ?_⟩⟩
        have nf : ∀ b o, G2 b = some o → b ≠ fn := fun b o e n => by rw [n, hfn] at e; cases e
        have kd1 : Kd (hid G' fc pa) (hid (upd G2 fn (.lst [])) fn pa) := kd_hid fun b o h1 h2 e => ⟨nf _ _ (key2 b o e h2), h2, by rw [upd_ne (nf _ _ (key2 b o e h2))]; exact key2 b o e h2⟩
        have gfc := key2 _ _ gf nfp
        refine ⟨fn, pa, "", [], .ref tp :: ps, [], (val (sg wd), f) :: pl, _, _, _, _, rfl, sm2.trans (same_new hfn), none_of sm2 hfn, hpa, Ne.symm (nf _ _ gp2), upd_same, .nil, Nat.zero_le _, same_new hfn _ _ gp2, by simp; omega, .cons (at_hid (nf _ _ gt2) ntp (same_new hfn _ _ gt2)) (at_hid (nf _ _ gfc) nfp (same_new hfn _ _ gfc)) (gI.kd kd1) (by omega) vv.1 (gF.kd kd1 (by omega)), Nat.zero_le _, hrun2, hnx2⟩
      · refine ifF (decide_eq_false e40) ?_
        refine ⟨_, rfl, c, " )", rfl, rfl, _, rfl, ?_⟩
        rw [end_in]
        by_cases e32 : c = 32 ∨ c = 41
        · refine ifT (decide_eq_true e32) ?_
          have hwl : wd.length ≤ sizeLine := by rw [sizeLine_eq]; omega
          refine ⟨fun σ G => ∃ (cvs : List V) (x5 : Option V), σ = [some (.str z), some (.ref fc), some (.ref pa), some (.str wd), some (.str ⟨#[c]⟩), x5, x6, x7] ∧ Same H G ∧ G fc = some (.lst cvs) ∧ PdsAt (hid G fc pa) cvs (flush f (sg wd)) ∧ cvs.length ≤ j + 1 ∧ G pa = some (.lst ps.reverse) ∧ FrP (hid G fc pa) j ps pl, ?_, ?_⟩
          · refine ⟨_, rfl, rfl, _, rfl, ?_⟩
            by_cases ew : wd = ""
            · subst ew
              refine ifF (by simp) ?_
              exact ⟨cvs, _, rfl, sm, gf, gI, by omega, gp, gF⟩
            · refine ifT (by rw [dnS _ _ ew]; rfl) ?_
              have hsne : sg wd ≠ [] := fun e => ew (sg_inj (e.trans (by decide +kernel)))
              obtain ⟨c0, r, hcr⟩ : ∃ c0 r, sg wd = c0 :: r := by
                cases h : sg wd with
                | nil => exact absurd h hsne
                | cons a b => exact ⟨a, b, rfl⟩
              have hW : Wdy (c0 :: r) := by
                rcases hend e32 with e | e
                · exact absurd e hsne
                · rw [← hcr]; exact e
              have at0 : atI wd.cps.toList 0 = some c0 := by
                have := atI_nat (xs := sg wd) (j := 0) (v := c0) (by rw [hcr]; rfl)
                exact this
              refine fun p hp => ⟨upd_same, dSg, rfl, by decide, ?_⟩
              have sp : Same G' (upd (upd G' p (.dK [])) p (.dK (mergeK [] dSg))) := by rw [upd_upd]; exact same_new hp
              have gpD : upd (upd G' p (.dK [])) p (.dK (mergeK [] dSg)) p = some (.dK (mergeK [] dSg)) := upd_same
              generalize upd (upd G' p (.dK [])) p (.dK (mergeK [] dSg)) = G2 at sp gpD ⊢
              have gf2 := sp _ _ gf
              have gp2 := sp _ _ gp
              have S2 := sm.trans sp
              have kd2 : Kd (hid G' fc pa) (hid G2 fc pa) := kd_hid fun b o h1 h2 e => ⟨h1, h2, sp _ _ e⟩
              have gI2 := gI.kd kd2
              have gF2 := gF.kd kd2 (Nat.le_refl _)
              have gl2 : cvs.length < sizeLine := by rw [sizeLine_eq]; omega
              -- the item is put behind the others
              have put : ∀ (it : It) (t : Addr) (o : List V), G2 t = none → PdAt (hid (upd G2 t (.tup o)) fc pa) (.ref t) it → flush f (sg wd) = f ++ [it] → ∀ x5, ∃ (cvs' : List V) (x5' : Option V), [some (.str z), some (.ref fc), some (.ref pa), some (.str wd), some (.str ⟨#[c]⟩), some x5, x6, x7] = [some (V.str z), some (.ref fc), some (.ref pa), some (.str wd), some (.str ⟨#[c]⟩), x5', x6, x7] ∧ Same H (upd (upd G2 t (.tup o)) fc (.lst (cvs ++ [.ref t]))) ∧ upd (upd G2 t (.tup o)) fc (.lst (cvs ++ [.ref t])) fc = some (.lst cvs') ∧ PdsAt (hid (upd (upd G2 t (.tup o)) fc (.lst (cvs ++ [.ref t]))) fc pa) cvs' (flush f (sg wd)) ∧ cvs'.length ≤ j + 1 ∧ upd (upd G2 t (.tup o)) fc (.lst (cvs ++ [.ref t])) pa = some (.lst ps.reverse) ∧ FrP (hid (upd (upd G2 t (.tup o)) fc (.lst (cvs ++ [.ref t]))) fc pa) j ps pl := fun it t o ht hit hfl x5 => by
                have k1 : Kd (hid G2 fc pa) (hid (upd G2 t (.tup o)) fc pa) := kd_hid fun b o h1 h2 e => ⟨h1, h2, same_new ht _ _ e⟩
                have k2 : Kd (hid (upd G2 t (.tup o)) fc pa) (hid (upd (upd G2 t (.tup o)) fc (.lst (cvs ++ [.ref t]))) fc pa) := kd_hid fun b o h1 h2 e => ⟨h1, h2, by rw [upd_ne h1]; exact e⟩
                refine ⟨cvs ++ [.ref t], some x5, rfl, same_at (S2.trans (same_new ht)) hfc, upd_same, ?_, by simp; omega, by rw [upd_ne (Ne.symm nfp)]; exact same_new ht _ _ gp2, (gF2.kd k1 (Nat.le_refl _)).kd k2 (Nat.le_refl _)⟩
                rw [hfl]
                exact PdsAt.snoc ((gI2.kd k1).kd k2) (hit.kd k2)
              have nft : ∀ t, G2 t = none → t ≠ fc ∧ t ≠ pa := fun t ht => ⟨(fun e => by rw [e, gf2] at ht; cases ht), fun e => by rw [e, gp2] at ht; cases ht⟩
              rcases wdy_it hW with ⟨rfl, hok⟩ | ⟨rfl, hok⟩ | ⟨n1, n2, hok⟩
              · refine ⟨p, rfl, .inl ⟨_, .inl gpD⟩, _, rfl, wd, 0, 33, rfl, rfl, hwl, at0, some (.str "say"), by have := sg_get (c := 33) gpD; simpa using this, ?_⟩
                refine ⟨_, rfl, .inl ⟨rfl, _, SqL.of gf2⟩, _, rfl, _, rfl, wd, 0, 33, rfl, rfl, hwl, at0, 33, "!@", rfl, rfl, _, rfl, ?_⟩
                rw [mk_in]
                refine ifT (by decide) ⟨_, rfl, 1, rfl, wd, rfl, hwl, sz 2 (by decide), fun t ht => ⟨fc, cvs, _, rfl, rfl, same_new ht _ _ gf2, gl2, ?_⟩⟩
                have ec : cutS wd (some 1) none = mk r := sg_inj (by rw [show (1 : Int) = ((1 : Nat) : Int) by rfl, sg_drop, hcr, sg_mk]; rfl)
                rw [ec]
                exact put (.say (mk r)) t _ ht (.say (at_hid (nft t ht).1 (nft t ht).2 upd_same) hok) (by rw [hcr]; rfl) _
              · refine ⟨p, rfl, .inl ⟨_, .inl gpD⟩, _, rfl, wd, 0, 64, rfl, rfl, hwl, at0, some (.str "go"), by have := sg_get (c := 64) gpD; simpa using this, ?_⟩
                refine ⟨_, rfl, .inl ⟨rfl, _, SqL.of gf2⟩, _, rfl, _, rfl, wd, 0, 64, rfl, rfl, hwl, at0, 64, "!@", rfl, rfl, _, rfl, ?_⟩
                rw [mk_in]
                refine ifT (by decide) ⟨_, rfl, 1, rfl, wd, rfl, hwl, sz 2 (by decide), fun t ht => ⟨fc, cvs, _, rfl, rfl, same_new ht _ _ gf2, gl2, ?_⟩⟩
                have ec : cutS wd (some 1) none = mk r := sg_inj (by rw [show (1 : Int) = ((1 : Nat) : Int) by rfl, sg_drop, hcr, sg_mk]; rfl)
                rw [ec]
                exact put (.go (mk r)) t _ ht (.go (at_hid (nft t ht).1 (nft t ht).2 upd_same) hok) (by rw [hcr]; rfl) _
              · refine ⟨p, rfl, .inl ⟨_, .inl gpD⟩, _, rfl, wd, 0, c0, rfl, rfl, hwl, at0, none, by have := sg_get (c := c0) gpD; rw [if_neg n1, if_neg n2] at this; exact this, ?_⟩
                refine ⟨_, rfl, .inl ⟨rfl, _, SqL.of gf2⟩, _, rfl, _, rfl, wd, 0, c0, rfl, rfl, hwl, at0, c0, "!@", rfl, rfl, _, rfl, ?_⟩
                rw [mk_in]
                refine ifF (decide_eq_false (by rintro (e | e); exact n1 e; exact n2 e)) ⟨_, rfl, sz 2 (by decide), fun t ht => ⟨fc, cvs, _, rfl, rfl, same_new ht _ _ gf2, gl2, ?_⟩⟩
                have ec : wd = mk (c0 :: r) := sg_inj (by rw [hcr, sg_mk])
                exact put (.press (mk (c0 :: r))) t _ ht (.press (at_hid (nft t ht).1 (nft t ht).2 (by rw [upd_same, ← ec]; rfl)) hok) (by rw [hcr]; simp only [flush, if_neg n1, if_neg n2]) _
          · rintro σ G2 ⟨cvs2, x5', rfl, sm2, gf2, gI2, gl2, gp2, gF2⟩
            refine ⟨_, rfl, rfl, _, rfl, ?_⟩
            rw [sq_at (k := 41) (by decide +kernel)]
            by_cases e41 : c = 41
            · subst e41
              refine ifT (decide_eq_true rfl) ?_
              have hlt : j < (sg z).length := by
                rcases Nat.lt_or_ge j (sg z).length with h | h
                · exact h
                · rw [List.getElem?_append_right h, show j - (sg z).length = 0 by omega] at hc2
                  cases hc2
              rw [sg_len] at hlt
              cases gF2 with
              | nil => simp [pst] at e1
              | @cons tp o n vs xs ps2 pl2 eT gT hI2 hl2 n0 gF3 =>
              have e1 : q' = (xs ++ [.times n (flush f (sg wd))], pl2, []) := by
                simp [pst] at e1
                exact e1.symm
              subst e1
              obtain ⟨ntf, ntp, eT2⟩ := hid_at eT
              obtain ⟨nof, nop, gT2⟩ := hid_at gT
              refine ⟨_, rfl, .inl ⟨rfl, _, SqL.of gp2⟩, pa, _, .ref tp, rfl, rfl, gp2, ?_, ?_⟩
              · rw [List.reverse_cons]
                simp
              have ep : (List.reverse (.ref tp :: ps2)).dropLast = ps2.reverse := by rw [List.reverse_cons, List.dropLast_concat]
              rw [ep]
              have key : ∀ b o, b ≠ pa → G2 b = some o → upd G2 pa (.lst ps2.reverse) b = some o := fun b o n e => by rw [upd_ne n]; exact e
              have sm3 : Same H (upd G2 pa (.lst ps2.reverse)) := same_at sm2 hpa
              have gp3 : upd G2 pa (.lst ps2.reverse) pa = some (.lst ps2.reverse) := upd_same
              generalize upd G2 pa (.lst ps2.reverse) = G3 at key sm3 gp3 ⊢
              refine ⟨tp, _, rfl, SqT.of (key _ _ ntp eT2), rfl, _, _, rfl, _, _, rfl, rfl, ?_⟩
              refine ⟨_, rfl, _, rfl, _, rfl, sz 3 (by decide), fun tt htt => ⟨sz 1 (by decide), fun tl htl => ⟨o, tl, _, _, rfl, rfl, same_new htl _ _ (same_new htt _ _ (key _ _ nop gT2)), upd_same, ?_, fun nw hnw => ?_⟩⟩⟩
              · rw [sizeLine_eq]
                simp
                omega
              have k3 : ∀ b o, b ≠ pa → G2 b = some o → b ≠ nw ∧ upd (upd (upd G3 tt (.tup [.str "times", .int n, .ref fc])) tl (.lst [.ref tt])) nw (.lst (vs ++ [.ref tt])) b = some o := fun b o h e => by
                have a := same_new (o := .lst [.ref tt]) htl _ _ (same_new (o := .tup [.str "times", .int n, .ref fc]) htt _ _ (key b o h e))
                exact ⟨ne_of_none a hnw, same_new hnw _ _ a⟩
              have att : upd (upd (upd G3 tt (.tup [.str "times", .int n, .ref fc])) tl (.lst [.ref tt])) nw (.lst (vs ++ [.ref tt])) tt = some (.tup [.str "times", .int n, .ref fc]) := same_new hnw _ _ (same_new htl _ _ upd_same)
              have ntt : tt ≠ nw ∧ tt ≠ pa := ⟨ne_of_none (same_new htl _ _ upd_same) hnw, fun e => by rw [e, gp3] at htt; cases htt⟩
              have smw : Same H (upd (upd (upd G3 tt (.tup [.str "times", .int n, .ref fc])) tl (.lst [.ref tt])) nw (.lst (vs ++ [.ref tt]))) := ((sm3.trans (same_new htt)).trans (same_new htl)).trans (same_new hnw)
              have gpw : upd (upd (upd G3 tt (.tup [.str "times", .int n, .ref fc])) tl (.lst [.ref tt])) nw (.lst (vs ++ [.ref tt])) pa = some (.lst ps2.reverse) := same_new hnw _ _ (same_new htl _ _ (same_new htt _ _ gp3))
              have npw : nw ≠ pa := fun e => by
                have a := same_new (o := .lst [.ref tt]) htl _ _ (same_new (o := .tup [.str "times", .int n, .ref fc]) htt _ _ gp3)
                rw [← e, hnw] at a
                cases a
              have gnw : upd (upd (upd G3 tt (.tup [.str "times", .int n, .ref fc])) tl (.lst [.ref tt])) nw (.lst (vs ++ [.ref tt])) nw = some (.lst (vs ++ [.ref tt])) := upd_same
              have hnwH : H nw = none := none_of ((sm3.trans (same_new htt)).trans (same_new htl)) hnw
              generalize upd (upd (upd G3 tt (.tup [.str "times", .int n, .ref fc])) tl (.lst [.ref tt])) nw (.lst (vs ++ [.ref tt])) = G5 at k3 att smw gpw gnw ⊢
              have kd5 : Kd (hid G2 fc pa) (hid G5 nw pa) := kd_hid fun b o h1 h2 e => ⟨(k3 b o h2 e).1, h2, (k3 b o h2 e).2⟩
              have cl2 := gI2.length
              refine ⟨nw, pa, "", vs ++ [.ref tt], ps2, xs ++ [.times n (flush f (sg wd))], pl2, _, _, _, _, rfl, smw, hnwH, hpa, npw, gnw, PdsAt.snoc (hI2.kd kd5) (.times (at_hid ntt.1 ntt.2 att) (at_hid (k3 _ _ nfp gf2).1 nfp (k3 _ _ nfp gf2).2) (gI2.kd kd5) n0 (by omega)), by simp; omega, gpw, by simp at gpl; omega, gF3.kd kd5 (by omega), Nat.zero_le _, hrun2, hnx2⟩
            · refine ifF (decide_eq_false e41) ?_
              obtain rfl : c = 32 := by rcases e32 with e | e; exact e; exact absurd e e41
              have e1 : q' = (flush f (sg wd), pl, []) := by
                simp [pst] at e1
                exact e1.symm
              subst e1
              exact ⟨fc, pa, "", cvs2, ps, flush f (sg wd), pl, _, _, _, _, rfl, sm2, hfc, hpa, nfp, gf2, gI2, gl2, gp2, by omega, gF2.kd (kd_hid fun b o h1 h2 e => ⟨h1, h2, e⟩) (by omega), Nat.zero_le _, hrun2, hnx2⟩
        · refine ifF (decide_eq_false e32) ?_
          have e32a : c ≠ 32 := fun e => e32 (.inl e)
          have e32b : c ≠ 41 := fun e => e32 (.inr e)
          have e1 : q' = (f, pl, sg wd ++ [c]) := by
            simp only [pst, if_neg e40, if_neg e32a, if_neg e32b, Option.some.injEq] at e1
            exact e1.symm
          subst e1
          have ea : sg (wd ++ ⟨#[c]⟩) = sg wd ++ [c] := sg_app _ _
          have el : (wd ++ (⟨#[c]⟩ : Str)).length = wd.length + 1 := by rw [← sg_len, ea]; simp [sg_len]
          refine ⟨_, rfl, _, rfl, _, _, rfl, rfl, ?_, ?_⟩
          · show wd.length + 1 ≤ sizeLine
            rw [sizeLine_eq]
            omega
          · exact ⟨fc, pa, wd ++ ⟨#[c]⟩, cvs, ps, f, pl, _, _, _, _, rfl, sm, hfc, hpa, nfp, gf, gI, by omega, gp, by omega, gF.kd (kd_hid fun b o h1 h2 e => ⟨h1, h2, e⟩) (by omega), by omega, by rw [ea]; exact hrun2, by rw [ea]; exact hnx2⟩
    · rintro σ G ⟨fc, pa, wd, cvs, ps, f, pl, x4, x5, x6, x7, rfl, sm, hfc, hpa, nfp, gf, gI, gl, gp, gpl, gF, gw, hrun, _⟩
      have hlen : (z ++ (" " : Str)).cps.size = (sg z).length + 1 := by
        have := congrArg List.length (sg_app z " ")
        simp only [List.length_append, hsp] at this
        rw [sg_len (z ++ (" " : Str))] at this
        exact this
      rw [List.take_of_length_le (by rw [hlen]; simp)] at hrun
      obtain ⟨s', q0, p1, p2, p3⟩ : ∃ s' q', psl (sg z) ([], [], []) = some q' ∧ Iv s' 0 q' ∧ fin s' = true := by
        obtain ⟨s, d, k, i1, i2⟩ := hst
        exact iv_run _ _ _ _ _ i1 i2
      obtain ⟨f1, pl1, u1⟩ := q0
      obtain rfl : pl1 = [] := List.length_eq_zero_iff.mp p2.1
      rw [psl_app, p1] at hrun
      simp only [Option.bind_some, psl, pst] at hrun
      have e : (flush f1 u1, ([] : Pile), ([] : List Nat)) = (f, pl, sg wd) := by simpa using hrun
      simp only [Prod.mk.injEq] at e
      obtain ⟨e1, e2, e3⟩ := e
      refine ⟨_, rfl, q (flush f1 u1) ⟨f1, u1, p1, rfl⟩ fc cvs G sm hfc gf (by rw [e1]; exact gI.kd kd_of_hid) ?_⟩
      rw [hlen, sg_len] at gl
      omega
end
end Kb

namespace Kb
open PySem PySem.Spec PyProof.Rows L2 Mq Rz LamX
theorem ix_tupK {X : Cx} {K : PySem.W.Frag} (h : X.K = K := by rfl) : IxR X (rIxT K) := h ▸ ix_tup
/-! ### the depth of plain items -/
def tv : It → Option Int
  | .times _ ys => some (1 + (lvL ys : Nat))
  | _ => none
theorem tv_max (xs : List It) (m : Int) (hm : m ∈ (0 : Int) :: xs.filterMap tv) (hle : ∀ y ∈ (0 : Int) :: xs.filterMap tv, y ≤ m) : m = (lvL xs : Nat) := by
  refine lvL_max xs m ?_ ?_
  · rcases List.mem_cons.mp hm with e | e
    · exact e ▸ List.mem_cons_self
    · obtain ⟨i, hi, h⟩ := List.mem_filterMap.mp e
      refine List.mem_cons_of_mem _ (List.mem_map.mpr ⟨i, hi, ?_⟩)
      cases i with
      | times n ys =>
        simp only [tv, Option.some.injEq] at h
        simp only [It.lv]
        omega
      | _ => simp [tv] at h
  · intro y hy
    rcases List.mem_cons.mp hy with e | e
    · exact e ▸ hle 0 List.mem_cons_self
    · obtain ⟨i, hi, rfl⟩ := List.mem_map.mp e
      cases i with
      | times n ys =>
        refine hle _ (List.mem_cons_of_mem _ (List.mem_filterMap.mpr ⟨_, hi, ?_⟩))
        simp only [tv, It.lv, Option.some.injEq]
        omega
      | _ => exact hle 0 List.mem_cons_self
def spDep (D : Nat) : Sp := fun vs H Q _ => ∃ (l : Addr) (us : List V) (xs : List It), vs = [.ref l] ∧ H l = some (.lst us) ∧ PdsAt H us xs ∧ lvL xs ≤ D ∧ xs.length ≤ 3001 ∧ ∀ G, Same H G → Q (.int (lvL xs : Nat)) G
def spDepL : Nat → Sp
  | 0 => fun _ _ _ _ => False
  | D + 1 => spDep D
/-! ### faults as plain data -/
def ftV : Ft → List V
  | .item => [.str "item", .str "number"]
  | .many => [.str "many", .int 6]
  | .deep => [.str "deep", .int 2]
inductive FsAt (H : Hp) : List V → List Ft → Prop
  | nil : FsAt H [] []
  | cons {a : Addr} {e : Ft} {vs : List V} {fs : List Ft} (h : H a = some (.tup (ftV e))) (r : FsAt H vs fs) : FsAt H (.ref a :: vs) (e :: fs)
theorem FsAt.same {H G : Hp} (s : Same H G) : ∀ {vs : List V} {fs : List Ft}, FsAt H vs fs → FsAt G vs fs
  | _, _, .nil => .nil
  | _, _, .cons h r => .cons (s _ _ h) (r.same s)
theorem FsAt.app {H : Hp} : ∀ {vs : List V} {fs : List Ft}, FsAt H vs fs → ∀ {us : List V} {gs : List Ft}, FsAt H us gs → FsAt H (vs ++ us) (fs ++ gs)
  | _, _, .nil, _, _, h => h
  | _, _, .cons a r, _, _, h => .cons a (r.app h)
theorem FsAt.length {H : Hp} : ∀ {vs : List V} {fs : List Ft}, FsAt H vs fs → vs.length = fs.length
  | _, _, .nil => rfl
  | _, _, .cons _ r => congrArg (· + 1) r.length
def spFl (D : Nat) : Sp := fun vs H Q _ => ∃ (l : Addr) (us : List V) (xs : List It), vs = [.ref l] ∧ H l = some (.lst us) ∧ PdsAt H us xs ∧ lvL xs ≤ D ∧ xs.length ≤ 3001 ∧ (ftsL xs).length ≤ 10000 ∧ ∀ p vs G, Same H G → G p = some (.lst vs) → FsAt G vs (ftsL xs) → Q (.ref p) G
def spFlL : Nat → Sp
  | 0 => fun _ _ _ _ => False
  | D + 1 => spFl D
theorem fts_take {xs : List It} {i : Nat} {it : It} (h : xs[i]? = some it) : ftsL (xs.take (i + 1)) = ftsL (xs.take i) ++ fts it ∧ (ftsL (xs.take i)).length + (fts it).length ≤ (ftsL xs).length := by
  have e : ftsL (xs.take (i + 1)) = ftsL (xs.take i) ++ fts it := by
    rw [List.take_succ, h, ftsL_app]
    simp [ftsL]
  refine ⟨e, ?_⟩
  have e2 : ftsL xs = ftsL (xs.take (i + 1)) ++ ftsL (xs.drop (i + 1)) := by rw [← ftsL_app, List.take_append_drop]
  rw [e2, e]
  simp
theorem cat1 {G : Hp} {vs : List V} {fs : List Ft} (e : Ft) {xs : List V} (hx : xs = ftV e) (hF : FsAt G vs fs) {t tl np : Addr} (ht : G t = none) (htl : upd G t (.tup xs) tl = none) (hnp : upd (upd G t (.tup xs)) tl (.lst [.ref t]) np = none) :
    Same G (upd (upd (upd G t (.tup xs)) tl (.lst [.ref t])) np (.lst (vs ++ [.ref t]))) ∧ FsAt (upd (upd (upd G t (.tup xs)) tl (.lst [.ref t])) np (.lst (vs ++ [.ref t]))) (vs ++ [.ref t]) (fs ++ [e]) := by
  subst hx
  have s := ((same_new (o := .tup (ftV e)) ht).trans (same_new (o := .lst [.ref t]) htl)).trans (same_new (o := .lst (vs ++ [.ref t])) hnp)
  exact ⟨s, (hF.same s).app (.cons (same_new hnp _ _ (same_new htl _ _ upd_same)) .nil)⟩
theorem cat0 {G : Hp} {vs : List V} {fs : List Ft} (hF : FsAt G vs fs) {tl np : Addr} (htl : G tl = none) (hnp : upd G tl (.lst []) np = none) :
    Same G (upd (upd G tl (.lst [])) np (.lst (vs ++ []))) ∧ FsAt (upd (upd G tl (.lst [])) np (.lst (vs ++ []))) (vs ++ []) (fs ++ []) := by
  have s := (same_new (o := .lst []) htl).trans (same_new (o := .lst (vs ++ [])) hnp)
  exact ⟨s, (hF.same s).app .nil⟩
section
variable {P : Program} {w : World} {K : PySem.W.Frag} {mg : Str → Option Value} {base : Heap}
theorem ok_lawDep {f : Addr} {fd : FuncData} {j : Nat} (D : Nat) (F : FunD K "_law_depth" "_law_depth" (defArgs s__law_depth) (defBody s__law_depth) (defScope s__law_depth) [] [] f fd) (T : Bt mg) (L : Of P w K mg base j "_law_depth" (spDepL D)) :
    FnOk P w K mg base (LX P w) (j + 1) f fd ["_law_items_here"] (spDep D) := by
  refine F.ok sc__law_depth (fun vs H Q E h => ?_) (fun cdv A outer s H vs Q E hr h => ?_)
  · obtain ⟨l, us, xs, rfl, _⟩ := h
    rfl
  · obtain ⟨l, us, xs, rfl, hl, hd, hlv, h10, q⟩ := h
    have nd := sc__law_depth.nd
    refine ⟨_, PSs.nox (pss_one (ps_ret (pe_callB (cr_max rfl) (by rfl) T.max (by decide +kernel) (pa_cons (pe_op op_cat (pe_lst (pa_cons pe_int pa_nil)) (pe_lc (own := [("_law_one", 1)]) (g := gName 1) (by rfl) nd (pi_list (pv 0)) (blkOk_by (own := [("_law_one", 1)]) (N := ["_law_items_here", "_law_one"]) (sc := defScope s__law_depth) (by decide +kernel))
      (fun _ _ _ _ _ => pg_name (i := 1) nd rfl (Or.inl rfl)) (fun _ _ _ _ _ => pts_one (pt_cmpR op_eq (pe_ix (ix_tupK (K := K)) (pv 1) pe_int (fun _ _ => rfl)) pe_str (nomark _)))
      (fun _ _ _ _ _ => pe_op op_add pe_int (pe_callTy call_int1 (by rfl) T.int (by decide +kernel) (pa_cons (pe_of (E := E0) L hr rfl passL (pa_cons (pe_ix (ix_tupK (K := K)) (pv 1) pe_int (fun _ _ => rfl)) pa_nil) (Nat.le_refl _)) pa_nil))))) pa_nil)))), ?_⟩
    have hul := hd.length
    refine ⟨sz 1 (by decide), fun l0 h0 => ?_⟩
    have s0 := same_new (o := .lst [.int 0]) h0
    have hl1 := s0 _ _ hl
    refine ⟨_, rfl, l, rfl, ⟨_, SqL.of hl1⟩, fun m hm => lc_it walk_list (fun i G => Same (upd H l0 (.lst [.int 0])) G ∧ G m = some (.lst (((xs.take i).filterMap tv).map V.int))) ⟨same_new hm, upd_same⟩ (fun i G _ h => SqL.of (h.1 _ _ hl1)) ?_ ?_⟩
    · rintro i x G G' hi ⟨sm, gm⟩ ⟨rfl, hx⟩
      obtain ⟨it, hit, hdt⟩ := hd.get hx
      have hdt := hdt.kd (.of_same (s0.trans sm))
      have hl1 := lv_mem (List.mem_of_getElem? hit)
      have et : (xs.take (i + 1)).filterMap tv = (xs.take i).filterMap tv ++ (tv it).toList := by
        rw [List.take_succ, hit, List.filterMap_append]
        cases h : tv it <;> simp [h]
      refine ⟨rfl, ?_⟩
      cases hdt with
      | say e hw =>
        refine ⟨_, rfl, _, _, _, .str "say", rfl, rfl, SqT.of e, (by rfl), rfl, _, rfl, ?_⟩
        refine ifF (dnS _ _ (by decide +kernel)) ⟨sm, ?_⟩
        rw [et]
        simpa [tv] using gm
      | press e hw =>
        refine ⟨_, rfl, _, _, _, .str "press", rfl, rfl, SqT.of e, (by rfl), rfl, _, rfl, ?_⟩
        refine ifF (dnS _ _ (by decide +kernel)) ⟨sm, ?_⟩
        rw [et]
        simpa [tv] using gm
      | go e hw =>
        refine ⟨_, rfl, _, _, _, .str "go", rfl, rfl, SqT.of e, (by rfl), rfl, _, rfl, ?_⟩
        refine ifF (dnS _ _ (by decide +kernel)) ⟨sm, ?_⟩
        rw [et]
        simpa [tv] using gm
      | times e hl2 hd2 n0 h6 =>
        rename_i a l2 n vs ys
        simp only [It.lv] at hl1
        obtain ⟨D0, rfl⟩ : ∃ D0, D = D0 + 1 := ⟨D - 1, by omega⟩
        refine ⟨_, rfl, _, _, _, .str "times", rfl, rfl, SqT.of e, (by rfl), rfl, _, rfl, ?_⟩
        refine ifT (by decide +kernel) ⟨_, rfl, _, _, _, .ref l2, rfl, rfl, SqT.of e, (by rfl), l2, vs, ys, rfl, hl2, hd2, by omega, by omega, fun G2 sm2 => .inl ⟨_, rfl, _, _, rfl, rfl, ?_⟩⟩
        refine ⟨_, sm2 _ _ gm, ?_, same_at (sm.trans sm2) hm, ?_⟩
        · rw [List.length_map, sizeLine_eq]
          have := List.length_filterMap_le tv (xs.take i)
          rw [List.length_take] at this
          omega
        · rw [upd_same, et]
          simp [tv]
    · rintro G ⟨sm, gm⟩
      rw [List.take_of_length_le (by omega)] at gm
      have g0 := sm _ _ (upd_same (H := H) (a := l0) (o := .lst [.int 0]))
      have hfl : (xs.filterMap tv).length ≤ 3001 := Nat.le_trans (List.length_filterMap_le _ _) h10
      refine ⟨l0, m, _, _, rfl, rfl, g0, gm, by simp; rw [sizeLine_eq]; omega, fun p hp => ?_⟩
      refine ⟨p, 0 :: xs.filterMap tv, rfl, SqL.of (by rw [upd_same]; rfl), by simp, fun v hv hle => ?_⟩
      rw [tv_max xs v hv hle]
      exact q _ ((s0.trans sm).trans (same_new hp))
theorem ok_faults {f : Addr} {fd : FuncData} {j : Nat} (D : Nat) (F : FunD K "_law_faults" "_law_faults" (defArgs s__law_faults) (defBody s__law_faults) (defScope s__law_faults) [] [] f fd) (T : Bt mg) (L : Of P w K mg base j "_law_faults" (spFlL D)) (Dp : Of P w K mg base j "_law_depth" (spDepL D)) :
    FnOk P w K mg base (LX P w) (j + 1) f fd ["_law_items_here"] (spFl D) := by
  refine F.ok sc__law_faults (fun vs H Q E h => ?_) (fun cdv A outer s H vs Q E hr h => ?_)
  · obtain ⟨l, us, xs, rfl, _⟩ := h
    rfl
  · obtain ⟨l, us, xs, rfl, hl, hd, hlv, h10, hft, q⟩ := h
    have nd := sc__law_faults.nd
    refine ⟨_, PSs.nox (pss_cons (ps_set (i := 1) nd rfl (Or.inl rfl) (pe_lst pa_nil))
      (pss_cons (ps_for PassesOwn.never rfl (pi_list (pv 0)) (pg_name (i := 2) nd rfl (Or.inl rfl))
        (pss_one (ps_if (pt_cmpR op_eq (pe_ix ix_tup (pv 2) pe_int (fun _ _ => rfl)) pe_str (nomark _))
          (C8.pss_cut (ps_set (i := 1) nd rfl (Or.inl rfl) (pe_op op_cat (pv 1) (pe_of (E := E0) L hr rfl passL (pa_cons (pe_ix ix_tup (pv 2) pe_int (fun _ _ => rfl)) pa_nil) (Nat.le_refl _))))
          (C8.pss_cut (ps_set (i := 1) nd rfl (Or.inl rfl) (pe_op op_cat (pv 1) (pe_ifExp (pt_cmpR op_gt (pe_ix ix_tup (pv 2) pe_int (fun _ _ => rfl)) (pe_op op_pow pe_int pe_int) (nomark _)) (pe_lst (pa_cons (pe_tup (pa_cons pe_str (pa_cons pe_str pa_nil))) pa_nil)) (pe_lst pa_nil))))
          (C8.pss_cut (ps_set (i := 1) nd rfl (Or.inl rfl) (pe_op op_cat (pv 1) (pe_ifExp (pt_cmpR op_gt (pe_callB call_len_seq (by rfl) T.len PySem.boot_len (pa_cons (pe_ix ix_tup (pv 2) pe_int (fun _ _ => rfl)) pa_nil)) pe_int (nomark _)) (pe_lst (pa_cons (pe_tup (pa_cons pe_str (pa_cons pe_int pa_nil))) pa_nil)) (pe_lst pa_nil))))
          (pss_one (ps_set (i := 1) nd rfl (Or.inl rfl) (pe_op op_cat (pv 1) (pe_ifExp (pt_cmpR op_gt (pe_of (E := E0) Dp hr rfl passL (pa_cons (pe_ix ix_tup (pv 2) pe_int (fun _ _ => rfl)) pa_nil) (Nat.le_refl _)) pe_int (nomark _)) (pe_lst (pa_cons (pe_tup (pa_cons pe_str (pa_cons pe_int pa_nil))) pa_nil)) (pe_lst pa_nil))))))))
          pss_nil)))
      (pss_one (ps_ret (pv 1))))), ?_⟩
    have hul := hd.length
    have bg : ∀ n m : Nat, n ≤ 10010 → m ≤ 10010 → n + m ≤ sizeLine := fun n m h1 h2 => by rw [sizeLine_eq]; omega
    refine ⟨sz 0 (by decide), fun m hm => ?_⟩
    refine ⟨_, rfl, l, rfl, ⟨_, SqL.of ((same_new hm) _ _ hl)⟩, for_it (walk_list (xs := us)) (fun i σ G => ∃ (p : Addr) (vs : List V) (x : Option V), σ = [some (.ref l), some (.ref p), x] ∧ Same H G ∧ G p = some (.lst vs) ∧ FsAt G vs (ftsL (xs.take i))) ⟨m, [], _, rfl, same_new hm, upd_same, .nil⟩ (fun i σ G _ h => ?_) ?_ ?_⟩
    · obtain ⟨_, _, _, _, sm, _⟩ := h
      exact SqL.of (sm _ _ hl)
    · rintro i y σ G' G hi ⟨p, vs, x, rfl, sm, gp, gF⟩ ⟨rfl, hy⟩
      obtain ⟨it, hit, hdt⟩ := hd.get hy
      have hl1 := lv_mem (List.mem_of_getElem? hit)
      obtain ⟨et, el⟩ := fts_take hit
      have hdt2 := hdt.kd (.of_same sm)
      rw [et]
      generalize ftsL (xs.take i) = A0 at et el gF ⊢
      cases hdt2 with
      | say e hw =>
        refine ⟨_, rfl, _, _, _, .str "say", rfl, rfl, SqT.of e, (by rfl), rfl, _, rfl, ?_⟩
        refine ifF (dnS _ _ (by decide +kernel)) ⟨p, vs, _, rfl, sm, gp, by simpa [fts] using gF⟩
      | press e hw =>
        refine ⟨_, rfl, _, _, _, .str "press", rfl, rfl, SqT.of e, (by rfl), rfl, _, rfl, ?_⟩
        refine ifF (dnS _ _ (by decide +kernel)) ⟨p, vs, _, rfl, sm, gp, by simpa [fts] using gF⟩
      | go e hw =>
        refine ⟨_, rfl, _, _, _, .str "go", rfl, rfl, SqT.of e, (by rfl), rfl, _, rfl, ?_⟩
        refine ifF (dnS _ _ (by decide +kernel)) ⟨p, vs, _, rfl, sm, gp, by simpa [fts] using gF⟩
      | @times a l2 n vs2 ys e hl2 hd2 n0 h6 =>
        simp only [It.lv] at hl1
        obtain ⟨D0, rfl⟩ : ∃ D0, D = D0 + 1 := ⟨D - 1, by omega⟩
        simp only [fts, ownF, List.length_append] at el
        refine ⟨_, rfl, _, _, _, .str "times", rfl, rfl, SqT.of e, (by rfl), rfl, _, rfl, ?_⟩
        refine ifT (by decide +kernel) ?_
        have hy2 := hd2.length
        refine ⟨fun σ G2 => ∃ (p : Addr) (vs : List V), σ = [some (.ref l), some (.ref p), some (.ref a)] ∧ Same G G2 ∧ G2 p = some (.lst vs) ∧ FsAt G2 vs (A0 ++ ftsL ys), ?_, ?_⟩
        · refine ⟨_, rfl, _, rfl, _, _, _, .ref l2, rfl, rfl, SqT.of e, (by rfl), l2, vs2, ys, rfl, hl2, hd2, by omega, by omega, by omega, fun p2 ws G2 s2 gp2 hF2 => ?_⟩
          have w1 := gF.length
          have w2 := hF2.length
          refine ⟨p, p2, _, _, rfl, rfl, s2 _ _ gp, gp2, bg _ _ (by omega) (by omega), fun np hnp => ?_⟩
          exact ⟨np, vs ++ ws, rfl, s2.trans (same_new hnp), upd_same, ((gF.same s2).app hF2).same (same_new hnp)⟩
        rintro σ G2 ⟨p2, ws, rfl, s2, gp2, hF2⟩
        have w2 := hF2.length
        rw [List.length_append] at w2
        refine ⟨fun σ G3 => ∃ (p : Addr) (vs : List V), σ = [some (.ref l), some (.ref p), some (.ref a)] ∧ Same G G3 ∧ G3 p = some (.lst vs) ∧ FsAt G3 vs ((A0 ++ ftsL ys) ++ (if n > 10 ^ 9 then [.item] else [])), ?_, ?_⟩
        · refine ⟨_, rfl, _, rfl, _, _, _, .int n, rfl, rfl, SqT.of (s2 _ _ e), (by rfl), _, _, rfl, rfl, ⟨by decide, by decide, by decide⟩, _, _, rfl, rfl, _, rfl, ?_⟩
          by_cases c : n > 10 ^ 9
          · rw [if_pos c]
            refine ifT (decide_eq_true c) ⟨sz 2 (by decide), fun t ht => ⟨sz 1 (by decide), fun tl htl => ⟨p2, tl, _, _, rfl, rfl, same_new htl _ _ (same_new ht _ _ gp2), upd_same, bg _ _ (by omega) (by simp), fun np hnp => ?_⟩⟩⟩
            obtain ⟨s3, f3⟩ := cat1 .item rfl hF2 ht htl hnp
            exact ⟨np, _, rfl, s2.trans s3, upd_same, f3⟩
          · rw [if_neg c]
            refine ifF (decide_eq_false c) ⟨sz 0 (by decide), fun tl htl => ⟨p2, tl, _, _, rfl, rfl, same_new htl _ _ gp2, upd_same, bg _ _ (by omega) (by simp), fun np hnp => ?_⟩⟩
            obtain ⟨s3, f3⟩ := cat0 hF2 htl hnp
            exact ⟨np, _, rfl, s2.trans s3, upd_same, f3⟩
        clear s2 gp2 hF2 w2
        rintro σ G3 ⟨p2, ws, rfl, s2, gp2, hF2⟩
        have w2 := hF2.length
        rw [List.length_append, List.length_append] at w2
        refine ⟨fun σ G4 => ∃ (p : Addr) (vs : List V), σ = [some (.ref l), some (.ref p), some (.ref a)] ∧ Same G G4 ∧ G4 p = some (.lst vs) ∧ FsAt G4 vs (((A0 ++ ftsL ys) ++ (if n > 10 ^ 9 then [.item] else [])) ++ (if ys.length > 6 then [.many] else [])), ?_, ?_⟩
        · refine ⟨_, rfl, _, rfl, _, _, _, .ref l2, rfl, rfl, SqT.of (s2 _ _ e), (by rfl), l2, _, rfl, .inl (SqL.of (s2 _ _ hl2)), _, _, rfl, rfl, _, rfl, ?_⟩
          by_cases c : ys.length > 6
          · rw [if_pos c]
            refine ifT (decide_eq_true (by show (vs2.length : Int) > 6; omega)) ⟨sz 2 (by decide), fun t ht => ⟨sz 1 (by decide), fun tl htl => ⟨p2, tl, _, _, rfl, rfl, same_new htl _ _ (same_new ht _ _ gp2), upd_same, bg _ _ (by omega) (by simp), fun np hnp => ?_⟩⟩⟩
            obtain ⟨s3, f3⟩ := cat1 .many rfl hF2 ht htl hnp
            exact ⟨np, _, rfl, s2.trans s3, upd_same, f3⟩
          · rw [if_neg c]
            refine ifF (decide_eq_false (by show ¬(vs2.length : Int) > 6; omega)) ⟨sz 0 (by decide), fun tl htl => ⟨p2, tl, _, _, rfl, rfl, same_new htl _ _ gp2, upd_same, bg _ _ (by omega) (by simp), fun np hnp => ?_⟩⟩
            obtain ⟨s3, f3⟩ := cat0 hF2 htl hnp
            exact ⟨np, _, rfl, s2.trans s3, upd_same, f3⟩
        clear s2 gp2 hF2 w2
        rintro σ G4 ⟨p2, ws, rfl, s2, gp2, hF2⟩
        have w2 := hF2.length
        rw [List.length_append, List.length_append, List.length_append] at w2
        have ee : A0 ++ fts (.times n ys) = (((A0 ++ ftsL ys) ++ (if n > 10 ^ 9 then [.item] else [])) ++ (if ys.length > 6 then [.many] else [])) ++ (if lvL ys > 1 then [.deep] else []) := by simp only [fts, ownF, List.append_assoc]
        rw [ee]
        refine ⟨_, rfl, _, rfl, _, _, _, .ref l2, rfl, rfl, SqT.of (s2 _ _ e), (by rfl), l2, vs2, ys, rfl, s2 _ _ hl2, hd2.kd (.of_same s2), by omega, by omega, fun G5 s5 => ⟨_, _, rfl, rfl, _, rfl, ?_⟩⟩
        have gp5 := s5 _ _ gp2
        have hF5 := hF2.same s5
        have s25 := s2.trans s5
        by_cases c : lvL ys > 1
        · rw [if_pos c]
          refine ifT (decide_eq_true (by show (lvL ys : Int) > 1; omega)) ⟨sz 2 (by decide), fun t ht => ⟨sz 1 (by decide), fun tl htl => ⟨p2, tl, _, _, rfl, rfl, same_new htl _ _ (same_new ht _ _ gp5), upd_same, bg _ _ (by omega) (by simp), fun np hnp => ?_⟩⟩⟩
          obtain ⟨s3, f3⟩ := cat1 .deep rfl hF5 ht htl hnp
          exact ⟨np, _, _, rfl, sm.trans (s25.trans s3), upd_same, f3⟩
        · rw [if_neg c]
          refine ifF (decide_eq_false (by show ¬(lvL ys : Int) > 1; omega)) ⟨sz 0 (by decide), fun tl htl => ⟨p2, tl, _, _, rfl, rfl, same_new htl _ _ gp5, upd_same, bg _ _ (by omega) (by simp), fun np hnp => ?_⟩⟩
          obtain ⟨s3, f3⟩ := cat0 hF5 htl hnp
          exact ⟨np, _, _, rfl, sm.trans (s25.trans s3), upd_same, f3⟩
    · rintro σ G ⟨p, vs, x, rfl, sm, gp, gF⟩
      rw [List.take_of_length_le (by omega)] at gF
      exact ⟨_, rfl, q p vs G sm gp gF⟩
end
end Kb

namespace Kb
open PySem PySem.Spec PyProof.Rows L2 Mq Rz
/-! ### items as plain data -/
mutual
def dI : It → PyData
  | .say w => .tuple [.str "say", .str w]
  | .press w => .tuple [.str "press", .str w]
  | .go w => .tuple [.str "go", .str w]
  | .times n xs => .tuple [.str "times", .int n, .list (dIs xs)]
def dIs : List It → List PyData
  | [] => []
  | x :: r => dI x :: dIs r
end
theorem dIs_app : ∀ xs ys : List It, dIs (xs ++ ys) = dIs xs ++ dIs ys
  | [], _ => by simp [dIs]
  | x :: r, ys => by simp [dIs, dIs_app r ys]
theorem dIs_len : ∀ xs : List It, (dIs xs).length = xs.length
  | [] => rfl
  | x :: r => by simp [dIs, dIs_len r]
section
variable {K : PySem.W.Frag}
mutual
theorem dp_same {H G : Hp} (s : Same H G) : ∀ {v : V} {d : PyData}, Dp K H v d → Dp K G v d
  | _, _, .non => .non
  | _, _, .bl b => .bl b
  | _, _, .int i => .int i
  | _, _, .str z => .str z
  | _, _, .lst h a => .lst (s.seq h) (dpAll_same s a)
  | _, _, .tup h a => .tup (SqT.ext h s) (dpAll_same s a)
theorem dpAll_same {H G : Hp} (s : Same H G) : ∀ {vs : List V} {ds : List PyData}, DpAll K H vs ds → DpAll K G vs ds
  | _, _, .nil => .nil
  | _, _, .cons a r => .cons (dp_same s a) (dpAll_same s r)
end
theorem dpAll_app {H : Hp} : ∀ {vs : List V} {ds : List PyData}, DpAll K H vs ds → ∀ {v : V} {d : PyData}, Dp K H v d → DpAll K H (vs ++ [v]) (ds ++ [d])
  | _, _, .nil, _, _, h => .cons h .nil
  | _, _, .cons a r, _, _, h => .cons a (dpAll_app r h)
theorem dpAll_len {H : Hp} : ∀ {vs : List V} {ds : List PyData}, DpAll K H vs ds → vs.length = ds.length
  | _, _, .nil => rfl
  | _, _, .cons a r => congrArg (· + 1) (dpAll_len r)
mutual
theorem DtAt.dp {H : Hp} : ∀ {v : V} {i : It}, DtAt H v i → Dp K H v (dI i)
  | _, _, .say e _ => .tup (SqT.of e) (.cons (.str _) (.cons (.str _) .nil))
  | _, _, .press e _ => .tup (SqT.of e) (.cons (.str _) (.cons (.str _) .nil))
  | _, _, .go e _ => .tup (SqT.of e) (.cons (.str _) (.cons (.str _) .nil))
  | _, _, .times e hl h _ _ _ => .tup (SqT.of e) (.cons (.str _) (.cons (.int _) (.cons (.lst (SqL.of hl) h.dp) .nil)))
theorem DtsAt.dp {H : Hp} : ∀ {vs : List V} {xs : List It}, DtsAt H vs xs → DpAll K H vs (dIs xs)
  | _, _, .nil => .nil
  | _, _, .cons a r => .cons a.dp r.dp
end
end
/-- a place that is written anew is not where plain data stands -/
def spPlain (K : PySem.W.Frag) (D : Nat) : Sp := fun vs H Q _ => ∃ (v : V) (i : It), vs = [v] ∧ ItAt K H v i ∧ okI i = true ∧ i.lv ≤ D ∧ D ≤ 2 ∧ ∀ (r : V) (G : Hp), Same H G → DtAt (newp H G) r i → Q r G
def spPlainL (K : PySem.W.Frag) : Nat → Sp
  | 0 => fun _ _ _ _ => False
  | D + 1 => spPlain K D
/-- entries of a body -/
def spEnt (K : PySem.W.Frag) : Sp := fun vs H Q _ => ∃ (b : Addr) (xs : List It), vs = [.ref b] ∧ BdAt K H b xs ∧ ∀ t us, H t = some (.tup us) → ItsAt K H us xs → Q (.ref t) H
section
variable {P : Program} {w : World} {K : PySem.W.Frag} {mg : Str → Option Value} {base : Heap}
theorem ok_entries {f : Addr} {fd : FuncData} (F : FunD K "entries" "Body.entries" (defArgs s_Body_entries) (defBody s_Body_entries) (defScope s_Body_entries) [] [] f fd) (T : Tc P K mg) : FnOk P w K mg base (LX P w) 1 f fd ["self"] (spEnt K) := by
  refine F.ok sc_Body_entries (fun vs H Q E h => ?_) (fun cdv A outer s H vs Q E hr h => ?_)
  · obtain ⟨b, xs, rfl, _⟩ := h
    rfl
  · obtain ⟨b, xs, rfl, hB, q⟩ := h
    obtain ⟨dx, t, us, e, ht, hI, _⟩ := hB.at_
    exact ⟨_, PSs.nox (pss_one (ps_ret (pe_fld (pv 0) rfl))), _, rfl, b, _, _, _, _, rfl, e, (T.kl "Body" (by decide)).cl, T.na ("Body", "own_entries") (by decide), rfl, q t us ht hI⟩
theorem isi_kit {H : Hp} {v : V} {i : It} (h : ItAt K H v i) (T : Tc P K mg) {y : Str} (hy : y ∈ (["Say", "Press", "Go", "Times"] : List Str)) : PySem.W.kitOne K (.ref (He.ga K (nmOf i))) (.ref (He.ga K y)) = some (decide (y = nmOf i)) := by
  have hy6 : y ∈ (["Item", "Say", "Press", "Go", "Times", "Body"] : List Str) := by
    simp only [List.mem_cons, List.not_mem_nil, or_false] at hy ⊢
    rcases hy with h | h | h | h <;> simp [h]
  rw [T.kit _ (nmOf_mem5 i) y hy6]
  have z : ∀ x ∈ (["Say", "Press", "Go", "Times"] : List Str), ∀ y ∈ (["Say", "Press", "Go", "Times"] : List Str), (decide (y = x) || (decide (y = "Item") && !decide (x = "Body"))) = decide (y = x) := by decide +kernel
  rw [z _ (nmOf_mem i) y hy]
theorem dp_newp {H G G2 : Hp} {v : V} {d : PyData} (h : Dp K (newp H G) v d) (s : Same G G2) : Dp K (newp H G2) v d := dp_same (fun b o e => by
  obtain ⟨a, c⟩ := of_newp e
  exact newp_at a (s _ _ c)) h
theorem dpAll_newp {H G G2 : Hp} {v : List V} {d : List PyData} (h : DpAll K (newp H G) v d) (s : ∀ b o, H b = none → G b = some o → G2 b = some o) : DpAll K (newp H G2) v d := dpAll_same (fun b o e => by
  obtain ⟨a, c⟩ := of_newp e
  exact newp_at a (s _ _ a c)) h
theorem ok_plain {f fe : Addr} {fd fde : FuncData} {j : Nat} (D : Nat) (hj : 2 ≤ j) (F : FunD K "_law_plain" "_law_plain" (defArgs s__law_plain) (defBody s__law_plain) (defScope s__law_plain) [] [] f fd) (T : Tc P K mg)
    (En : FnOk P w K mg base (LX P w) 1 (He5.wf K (cB K) "property" "entries") fde ["self"] (spEnt K)) (bE : Binds K fde ["self"] []) (pE : PropOf K (cB K) "entries" (He.ma K (cB K) "entries") (He5.wf K (cB K) "property" "entries"))
    (L : Of P w K mg base j "_law_plain" (spPlainL K D)) : FnOk P w K mg base (LX P w) (j + 1) f fd ["_law_item_here"] (spPlain K D) := by
  refine F.ok sc__law_plain (fun vs H Q E h => ?_) (fun cdv A outer s H vs Q E hr h => ?_)
  · obtain ⟨v, i, rfl, _⟩ := h
    rfl
  · obtain ⟨v, i, rfl, hv, hok, hlv, _, k⟩ := h
    have nd := sc__law_plain.nd
    refine ⟨_, PSs.nox (pss_cons (ps_if (pt_val (pe_callB call_isi (by rfl) T.bt.isi (by decide +kernel) (pa_cons (pv 0) (pa_cons (pe_glob (v := .ref (cS K)) rfl (T.g "Say" (by decide)) rfl) pa_nil)))) (pss_one (ps_ret (pe_tup (pa_cons pe_str (pa_cons (pe_fld (pv 0) rfl) pa_nil))))) pss_nil)
      (pss_cons (ps_if (pt_val (pe_callB call_isi (by rfl) T.bt.isi (by decide +kernel) (pa_cons (pv 0) (pa_cons (pe_glob (v := .ref (cP K)) rfl (T.g "Press" (by decide)) rfl) pa_nil)))) (pss_one (ps_ret (pe_tup (pa_cons pe_str (pa_cons (pe_fld (pv 0) rfl) pa_nil))))) pss_nil)
      (pss_cons (ps_if (pt_val (pe_callB call_isi (by rfl) T.bt.isi (by decide +kernel) (pa_cons (pv 0) (pa_cons (pe_glob (v := .ref (cG K)) rfl (T.g "Go" (by decide)) rfl) pa_nil)))) (pss_one (ps_ret (pe_tup (pa_cons pe_str (pa_cons (pe_fld (pv 0) rfl) pa_nil))))) pss_nil)
      (pss_one (ps_ret (pe_tup (pa_cons pe_str (pa_cons (pe_fld (pv 0) rfl) (pa_cons
        (pe_lc (own := [("_law_one", 1)]) (g := gName 1) (tt := tYes) (by rfl) nd (pi_tup (pe_prop (E := E0) (pe_fld (pv 0) rfl) (T.kl "Body" (by decide)).cl pE En (hr.mono hj) bE .nil passL rfl)) (blkOk_by (own := [("_law_one", 1)]) (N := ["_law_item_here", "_law_one"]) (sc := defScope s__law_plain) (by decide +kernel))
          (fun _ _ _ _ _ => pg_name (i := 1) nd rfl (Or.inl rfl)) (fun _ _ _ _ _ => pts_nil) (fun _ _ _ _ _ => pe_of (E := E0) L hr rfl passL (pa_cons (pv 1) pa_nil) (Nat.le_refl _))) pa_nil))))))))), ?_⟩
    have ty := hv.ty T
    have kS := isi_kit hv T (y := "Say") (by decide)
    have kP := isi_kit hv T (y := "Press") (by decide)
    have kG := isi_kit hv T (y := "Go") (by decide)
    refine ⟨_, rfl, _, _, _, _, _, rfl, .own _, ty, kS, _, rfl, ?_⟩
    cases hv with
    | @say a dx z e =>
      refine ifT (by rfl) ⟨_, rfl, a, _, _, _, _, rfl, e, (T.kl "Say" (by decide)).cl, T.na ("Say", "command") (by decide), rfl, sz 2 (by decide), fun p hp => k _ _ (same_new hp) ?_⟩
      exact .say (newp_at hp upd_same) hok
    | @press a dx z e =>
      refine ifF (show decide (("Say" : Str) = "Press") = false from by decide +kernel) ⟨_, rfl, _, _, _, _, _, rfl, .own _, ty, kP, _, rfl, ?_⟩
      refine ifT (show decide (("Press" : Str) = "Press") = true from by decide +kernel) ⟨_, rfl, a, _, _, _, _, rfl, e, (T.kl "Press" (by decide)).cl, T.na ("Press", "key") (by decide), rfl, sz 2 (by decide), fun p hp => k _ _ (same_new hp) ?_⟩
      exact .press (newp_at hp upd_same) hok
    | @go a dx z e =>
      refine ifF (show decide (("Say" : Str) = "Go") = false from by decide +kernel) ⟨_, rfl, _, _, _, _, _, rfl, .own _, ty, kP, _, rfl, ?_⟩
      refine ifF (show decide (("Press" : Str) = "Go") = false from by decide +kernel) ⟨_, rfl, _, _, _, _, _, rfl, .own _, ty, kG, _, rfl, ?_⟩
      refine ifT (show decide (("Go" : Str) = "Go") = true from by decide +kernel) ⟨_, rfl, a, _, _, _, _, rfl, e, (T.kl "Go" (by decide)).cl, T.na ("Go", "mode") (by decide), rfl, sz 2 (by decide), fun p hp => k _ _ (same_new hp) ?_⟩
      exact .go (newp_at hp upd_same) hok
    | @times a dx b n xs e hb hl =>
      simp only [It.lv] at hlv
      simp only [okI, Bool.and_eq_true, decide_eq_true_eq] at hok
      obtain ⟨D0, rfl⟩ : ∃ D0, D = D0 + 1 := ⟨D - 1, by omega⟩
      refine ifF (show decide (("Say" : Str) = "Times") = false from by decide +kernel) ⟨_, rfl, _, _, _, _, _, rfl, .own _, ty, kP, _, rfl, ?_⟩
      refine ifF (show decide (("Press" : Str) = "Times") = false from by decide +kernel) ⟨_, rfl, _, _, _, _, _, rfl, .own _, ty, kG, _, rfl, ?_⟩
      refine ifF (show decide (("Go" : Str) = "Times") = false from by decide +kernel) ⟨_, rfl, a, _, _, _, _, rfl, e, (T.kl "Times" (by decide)).cl, T.na ("Times", "number") (by decide), rfl, ?_⟩
      obtain ⟨db, tb, vb, eb, _⟩ := hb.at_
      refine ⟨_, rfl, a, _, _, _, _, rfl, e, (T.kl "Times" (by decide)).cl, T.na ("Times", "body") (by decide), rfl, b, db, _, rfl, eb, b, xs, rfl, hb, fun t us ht hI => ?_⟩
      have hul := hI.length
      have h6 : xs.length ≤ 6 := by
        obtain ⟨_, _, _, _, _, _, h6⟩ := hb.at_
        exact h6
      refine ⟨t, rfl, ⟨_, SqT.of ht⟩, fun m hm => lc_it walk_tup (fun i G => ∃ vs, Same H G ∧ G m = some (.lst vs) ∧ DtsAt (newp (upd H m (.lst [])) G) vs (xs.take i)) ⟨[], same_new hm, upd_same, by rw [List.take_zero]; exact .nil⟩ (fun i G _ h => let ⟨_, s, _⟩ := h; SqT.of (s _ _ ht)) ?_ ?_⟩
      · rintro i y G G' hi ⟨vs, sm, gm, gD⟩ ⟨rfl, hy⟩
        obtain ⟨it, hit, hiA⟩ := hI.get hy
        have hl1 := lv_mem (List.mem_of_getElem? hit)
        have hvl := gD.length
        rw [List.length_take] at hvl
        refine ⟨rfl, _, rfl, y, it, rfl, hiA.same sm, okIs_mem.mp hok.2.2 it (List.mem_of_getElem? hit), by omega, by omega, fun r G2 sm2 hr2 => ⟨vs, sm2 _ _ gm, small1000 (by omega), vs ++ [r], same_at (sm.trans sm2) hm, upd_same, ?_⟩⟩
        rw [List.take_succ, hit]
        refine DtsAt.snoc (gD.kd (.newp (fun b h _ => h) fun b o h e _ => ?_)) (hr2.kd (.newp (fun b h _ => ?_) fun b o h e _ => ?_))
        · rw [upd_ne (upd_none h).1]
          exact sm2 _ _ e
        · have nb : b ≠ m := Ne.symm (ne_of_none gm h)
          rw [upd_ne nb]
          cases z : H b with
          | none => rfl
          | some u => exact absurd (sm _ _ z) (by rw [h]; simp)
        · rw [upd_ne (Ne.symm (ne_of_none gm h))]
          exact e
      · rintro G ⟨vs, sm, gm, gD⟩
        rw [List.take_of_length_le (by omega)] at gD
        refine ⟨sz 3 (by decide), fun p hp => k _ _ (sm.trans (same_new hp)) ?_⟩
        have hpn : H p = none := by
          cases z : H p with
          | none => rfl
          | some u => exact absurd (sm _ _ z) (by rw [hp]; simp)
        exact .times (newp_at hpn upd_same) (newp_at hm (same_new hp _ _ gm)) (gD.kd (.newp (fun b h _ => (upd_none h).2) fun b o h e _ => same_new hp _ _ e)) hok.1.1 hok.1.2 h6
end
end Kb

namespace Kb
open PySem PySem.Spec PyProof.Rows L2 Mq
theorem lay_w {w : Str} (h : isW w = true) : PyData.strOk w = true := by
  unfold PyData.strOk
  rw [Array.all_eq_true_iff_forall_mem]
  intro c hc
  have := (isW_all h).2.2 c (Array.mem_toList_iff.mpr hc)
  simp only [decide_eq_true_eq]
  omega
theorem lay_ks : PyData.strOk "say" = true ∧ PyData.strOk "press" = true ∧ PyData.strOk "go" = true ∧ PyData.strOk "times" = true := by decide +kernel
mutual
theorem canLay_I : ∀ {i : It}, okI i = true → PyData.canLay0 (dI i) = true ∧ (dI i).depth ≤ 1 + 2 * i.lv
  | .say w, h => ⟨by simp only [dI, PyData.canLay0, PyData.canLayAll0, lay_w (show isW w = true from h), lay_ks.1]; rfl, by simp [dI, PyData.depth, PyData.depthAll]⟩
  | .press w, h => ⟨by simp only [dI, PyData.canLay0, PyData.canLayAll0, lay_w (show isW w = true from h), lay_ks.2.1]; rfl, by simp [dI, PyData.depth, PyData.depthAll]⟩
  | .go w, h => ⟨by simp only [dI, PyData.canLay0, PyData.canLayAll0, lay_w (show isW w = true from h), lay_ks.2.2.1]; rfl, by simp [dI, PyData.depth, PyData.depthAll]⟩
  | .times n xs, h => by
    simp only [okI, Bool.and_eq_true] at h
    obtain ⟨h1, h2⟩ := canLay_Is h.2.2
    refine ⟨by simp only [dI, PyData.canLay0, PyData.canLayAll0, h1, lay_ks.2.2.2]; rfl, ?_⟩
    simp only [dI, PyData.depth, PyData.depthAll, It.lv]
    omega
theorem canLay_Is : ∀ {xs : List It}, okIs xs = true → PyData.canLayAll0 (dIs xs) = true ∧ PyData.depthAll (dIs xs) ≤ 1 + 2 * lvL xs
  | [], _ => ⟨rfl, by simp [dIs, PyData.depthAll]⟩
  | x :: r, h => by
    simp only [okIs, Bool.and_eq_true] at h
    obtain ⟨h1, h2⟩ := canLay_I h.1
    obtain ⟨h3, h4⟩ := canLay_Is h.2
    refine ⟨by simp only [dIs, PyData.canLayAll0, h1, h3]; rfl, ?_⟩
    simp only [dIs, PyData.depthAll, lvL]
    omega
end
theorem shaped_Is {xs : List It} (h : okIs xs = true) (hl : lvL xs ≤ 2) : SeqAt.shaped (.list (dIs xs)) = true := by
  obtain ⟨h1, h2⟩ := canLay_Is h
  show (PyData.canLay0 (.list (dIs xs)) && decide ((PyData.list (dIs xs)).depth ≤ 64)) = true
  rw [show PyData.canLay0 (.list (dIs xs)) = true by simpa [PyData.canLay0] using h1, show (PyData.list (dIs xs)).depth = PyData.depthAll (dIs xs) + 1 by simp [PyData.depth], decide_eq_true (by omega)]
  rfl
theorem eqv_nil (ds : List PyData) : PyData.eqv (.list ds) (.list []) = ds.isEmpty := by
  cases ds <;> simp [PyData.eqv, PyData.eqvAll]
/-! ### the repr of plain items, by its signs -/
mutual
def rt : It → List Nat
  | .say w => sg "('say', '" ++ sg w ++ sg "')"
  | .press w => sg "('press', '" ++ sg w ++ sg "')"
  | .go w => sg "('go', '" ++ sg w ++ sg "')"
  | .times n xs => sg "('times', " ++ dig n ++ sg ", [" ++ rtL xs ++ sg "])"
def rtL : List It → List Nat
  | [] => []
  | x :: r => rt x ++ rtM r
def rtM : List It → List Nat
  | [] => []
  | x :: r => sg ", " ++ rt x ++ rtM r
end
theorem foldl_one (q : Nat) : ∀ (l : List Nat) (acc : Array Nat), (∀ c ∈ l, Builtin.Str.reprChar q c = [c]) → (l.foldl (fun out c => out ++ (Builtin.Str.reprChar q c).toArray) acc).toList = acc.toList ++ l
  | [], acc, _ => by simp
  | c :: r, acc, h => by
    rw [List.foldl_cons, foldl_one q r _ fun x hx => h x (List.mem_cons_of_mem _ hx), h c List.mem_cons_self]
    simp
theorem char_one : ∀ c : Nat, 97 ≤ c → c ≤ 122 → Builtin.Str.reprChar 39 c = [c] := by
  have h : ((List.range 26).all fun k => decide (Builtin.Str.reprChar 39 (k + 97) = [k + 97])) = true := by decide +kernel
  intro c h1 h2
  have z := of_decide_eq_true (List.all_eq_true.mp h (c - 97) (List.mem_range.mpr (by omega)))
  rw [show c - 97 + 97 = c by omega] at z
  exact z
theorem repr_word {w : Str} (h : isW w = true) : sg (reprText w) = 39 :: sg w ++ [39] := by
  have hl := (isW_all h).2.2
  have hq : reprQuote w = 39 := by
    unfold reprQuote
    have : w.cps.contains 39 = false := by
      rw [Bool.eq_false_iff]
      intro z
      have z2 : (39 : Nat) ∈ w.cps := by simpa using z
      have := hl 39 (Array.mem_toList_iff.mpr z2)
      omega
    rw [this]
    rfl
  unfold reprText sg
  rw [hq]
  show ((w.cps.foldl (fun out c => out ++ (Builtin.Str.reprChar 39 c).toArray) #[39]).push 39).toList = _
  rw [Array.toList_push, ← Array.foldl_toList, foldl_one 39 _ _ fun c hc => char_one c (hl c hc).1 (hl c hc).2]
  rfl
theorem sg_from : ∀ (ts : List Str) (k : Nat) (acc : Str), 0 < k → sg (PySem.textFrom k acc ts) = sg acc ++ (ts.map fun t => sg ", " ++ sg t).flatten
  | [], k, acc, _ => by simp [PySem.textFrom]
  | t :: r, k, acc, h => by
    show sg (PySem.textFrom (k + 1) (acc ++ (if k > 0 then ", " else "" : String) ++ t) r) = _
    rw [sg_from r (k + 1) _ (Nat.succ_pos k), if_pos h, sg_app, sg_app]
    simp
theorem sg_list : ∀ ts : List Str, sg (PySem.listText ts) = sg "[" ++ (match ts with | [] => [] | t :: r => sg t ++ (r.map fun t => sg ", " ++ sg t).flatten) ++ sg "]"
  | [] => by
    show sg (PySem.textFrom 0 "[" [] ++ "]") = _
    rw [sg_app]
    simp [PySem.textFrom]
  | t :: r => by
    show sg (PySem.textFrom 1 (("[" : Str) ++ ((if 0 > 0 then ", " else "" : String) : Str) ++ t) r ++ "]") = _
    rw [sg_app, sg_from r 1 _ (by decide), sg_app, sg_app]
    have e : sg (((if 0 > 0 then ", " else "" : String) : Str)) = [] := by decide +kernel
    rw [e]
    simp
theorem sg_tup2 (a b : Str) : sg (PySem.tupleText [a, b]) = sg "(" ++ (sg a ++ sg ", " ++ sg b) ++ sg ")" := by
  show sg (("(" : Str) ++ (a ++ ", " ++ b) ++ ")") = _
  rw [sg_app, sg_app, sg_app, sg_app]
theorem sg_tup3 (a b c : Str) : sg (PySem.tupleText [a, b, c]) = sg "(" ++ (sg a ++ sg ", " ++ (sg b ++ sg ", " ++ sg c)) ++ sg ")" := by
  show sg (("(" : Str) ++ (a ++ ", " ++ (b ++ ", " ++ c)) ++ ")") = _
  rw [sg_app, sg_app, sg_app, sg_app, sg_app, sg_app]
theorem shown_str (w : Str) : PyData.shown (.str w) = reprText w := by simp [PyData.shown]
mutual
theorem sg_I : ∀ {i : It}, okI i = true → sg (dI i).shown = rt i
  | .say w, h => by
    have e : (dI (.say w)).shown = PySem.tupleText [reprText "say", reprText w] := by simp [dI, PyData.shown, PyData.shownAll]
    rw [e, sg_tup2, repr_word (show isW w = true from h)]
    have e2 : sg (reprText "say") = sg "'say'" := by decide +kernel
    rw [e2]
    show _ = sg "('say', '" ++ sg w ++ sg "')"
    have e3 : sg "('say', '" = sg "(" ++ sg "'say'" ++ sg ", " ++ [39] := by decide +kernel
    have e4 : sg "')" = 39 :: sg ")" := by decide +kernel
    rw [e3, e4]
    simp
  | .press w, h => by
    have e : (dI (.press w)).shown = PySem.tupleText [reprText "press", reprText w] := by simp [dI, PyData.shown, PyData.shownAll]
    rw [e, sg_tup2, repr_word (show isW w = true from h)]
    have e2 : sg (reprText "press") = sg "'press'" := by decide +kernel
    rw [e2]
    show _ = sg "('press', '" ++ sg w ++ sg "')"
    have e3 : sg "('press', '" = sg "(" ++ sg "'press'" ++ sg ", " ++ [39] := by decide +kernel
    have e4 : sg "')" = 39 :: sg ")" := by decide +kernel
    rw [e3, e4]
    simp
  | .go w, h => by
    have e : (dI (.go w)).shown = PySem.tupleText [reprText "go", reprText w] := by simp [dI, PyData.shown, PyData.shownAll]
    rw [e, sg_tup2, repr_word (show isW w = true from h)]
    have e2 : sg (reprText "go") = sg "'go'" := by decide +kernel
    rw [e2]
    show _ = sg "('go', '" ++ sg w ++ sg "')"
    have e3 : sg "('go', '" = sg "(" ++ sg "'go'" ++ sg ", " ++ [39] := by decide +kernel
    have e4 : sg "')" = 39 :: sg ")" := by decide +kernel
    rw [e3, e4]
    simp
  | .times n xs, h => by
    simp only [okI, Bool.and_eq_true] at h
    have e : (dI (.times n xs)).shown = PySem.tupleText [reprText "times", PySem.Str.ofString (toString n), PySem.listText (PyData.shownAll (dIs xs))] := by simp [dI, PyData.shown, PyData.shownAll]
    rw [e, sg_tup3, sg_Ls h.2.2]
    have e2 : sg (reprText "times") = sg "'times'" := by decide +kernel
    rw [e2]
    show _ = sg "('times', " ++ dig n ++ sg ", [" ++ rtL xs ++ sg "])"
    have e3 : sg "('times', " = sg "(" ++ sg "'times'" ++ sg ", " := by decide +kernel
    have e4 : sg "])" = sg "]" ++ sg ")" := by decide +kernel
    have e5 : sg ", [" = sg ", " ++ sg "[" := by decide +kernel
    rw [e3, e4, e5]
    unfold dig
    simp
theorem sg_Ls : ∀ {xs : List It}, okIs xs = true → sg (PySem.listText (PyData.shownAll (dIs xs))) = sg "[" ++ rtL xs ++ sg "]"
  | [], _ => by
    rw [sg_list]
    simp [dIs, PyData.shownAll, rtL]
  | x :: r, h => by
    simp only [okIs, Bool.and_eq_true] at h
    rw [sg_list]
    simp only [dIs, PyData.shownAll, rtL]
    rw [sg_I h.1, sg_M h.2]
theorem sg_M : ∀ {xs : List It}, okIs xs = true → ((PyData.shownAll (dIs xs)).map fun t => sg ", " ++ sg t).flatten = rtM xs
  | [], _ => by simp [dIs, PyData.shownAll, rtM]
  | x :: r, h => by
    simp only [okIs, Bool.and_eq_true] at h
    simp only [dIs, PyData.shownAll, rtM, List.map_cons, List.flatten_cons]
    rw [sg_I h.1, sg_M h.2]
end
theorem l_say : sg "('say', '" = [40, 39, 115, 97, 121, 39, 44, 32, 39] := by decide +kernel
theorem l_press : sg "('press', '" = [40, 39, 112, 114, 101, 115, 115, 39, 44, 32, 39] := by decide +kernel
theorem l_go : sg "('go', '" = [40, 39, 103, 111, 39, 44, 32, 39] := by decide +kernel
theorem l_times : sg "('times', " = [40, 39, 116, 105, 109, 101, 115, 39, 44, 32] := by decide +kernel
theorem l_end : sg "')" = [39, 41] := by decide +kernel
theorem l_op : sg ", [" = [44, 32, 91] := by decide +kernel
theorem l_cl : sg "])" = [93, 41] := by decide +kernel
theorem l_sep : sg ", " = [44, 32] := by decide +kernel
mutual
theorem len_I : ∀ {i : It}, okI i = true → (rt i).length ≤ 60 * 10 ^ i.lv
  | .say w, h => by
    have := (isW_all (show isW w = true from h)).1
    have e : (sg w).length = w.length := Array.length_toList
    simp only [rt, l_say, l_end, List.length_append, List.length_cons, List.length_nil, It.lv, e]
    omega
  | .press w, h => by
    have := (isW_all (show isW w = true from h)).1
    have e : (sg w).length = w.length := Array.length_toList
    simp only [rt, l_press, l_end, List.length_append, List.length_cons, List.length_nil, It.lv, e]
    omega
  | .go w, h => by
    have := (isW_all (show isW w = true from h)).1
    have e : (sg w).length = w.length := Array.length_toList
    simp only [rt, l_go, l_end, List.length_append, List.length_cons, List.length_nil, It.lv, e]
    omega
  | .times n xs, h => by
    simp only [okI, Bool.and_eq_true, decide_eq_true_eq] at h
    have h1 := dig_len h.1.1 h.1.2
    have h2 := len_L h.2.2
    have h3 : xs.length * (60 * 10 ^ lvL xs + 2) ≤ 6 * (60 * 10 ^ lvL xs + 2) := Nat.mul_le_mul_right _ h.2.1
    have h4 : 1 ≤ 10 ^ lvL xs := Nat.one_le_pow _ _ (by decide)
    have h5 : 10 ^ (1 + lvL xs) = 10 * 10 ^ lvL xs := by rw [Nat.pow_add]
    simp only [rt, l_times, l_op, l_cl, List.length_append, List.length_cons, List.length_nil, It.lv, h5]
    omega
theorem len_L : ∀ {xs : List It}, okIs xs = true → (rtL xs).length ≤ xs.length * (60 * 10 ^ lvL xs + 2)
  | [], _ => by simp [rtL]
  | x :: r, h => by
    simp only [okIs, Bool.and_eq_true] at h
    have h1 := len_I h.1
    have h2 := len_M h.2
    have h3 : 60 * 10 ^ x.lv ≤ 60 * 10 ^ max x.lv (lvL r) := Nat.mul_le_mul_left _ (pow_mono10 (Nat.le_max_left _ _))
    have h4 : r.length * (60 * 10 ^ lvL r + 2) ≤ r.length * (60 * 10 ^ max x.lv (lvL r) + 2) := Nat.mul_le_mul_left _ (by have := pow_mono10 (Nat.le_max_right x.lv (lvL r)); omega)
    simp only [rtL, List.length_append, List.length_cons, lvL, Nat.add_mul, Nat.one_mul]
    omega
theorem len_M : ∀ {xs : List It}, okIs xs = true → (rtM xs).length ≤ xs.length * (60 * 10 ^ lvL xs + 2)
  | [], _ => by simp [rtM]
  | x :: r, h => by
    simp only [okIs, Bool.and_eq_true] at h
    have h1 := len_I h.1
    have h2 := len_M h.2
    have h3 : 60 * 10 ^ x.lv ≤ 60 * 10 ^ max x.lv (lvL r) := Nat.mul_le_mul_left _ (pow_mono10 (Nat.le_max_left _ _))
    have h4 : r.length * (60 * 10 ^ lvL r + 2) ≤ r.length * (60 * 10 ^ max x.lv (lvL r) + 2) := Nat.mul_le_mul_left _ (by have := pow_mono10 (Nat.le_max_right x.lv (lvL r)); omega)
    simp only [rtM, l_sep, List.length_append, List.length_cons, List.length_nil, lvL, Nat.add_mul, Nat.one_mul]
    omega
end
theorem shown_len {xs : List It} (h : okIs xs = true) (hl : lvL xs ≤ 2) (hn : xs.length ≤ 10) : (PyData.list (dIs xs)).shown.length ≤ sizeLine := by
  have e : (PyData.list (dIs xs)).shown.length = (sg "[" ++ rtL xs ++ sg "]").length := by
    rw [← sg_Ls h, show (PyData.list (dIs xs)).shown = PySem.listText (PyData.shownAll (dIs xs)) by simp [PyData.shown]]
    exact Array.length_toList.symm
  rw [e]
  have h1 := len_L h
  have h2 : 10 ^ lvL xs ≤ 10 ^ 2 := pow_mono10 hl
  have h3 : xs.length * (60 * 10 ^ lvL xs + 2) ≤ 10 * (60 * 10 ^ 2 + 2) := Nat.mul_le_mul hn (by omega)
  have e0 : sg "[" = [91] := by decide +kernel
  have e1 : sg "]" = [93] := by decide +kernel
  rw [e0, e1, sizeLine_eq]
  simp only [List.length_append, List.length_cons, List.length_nil]
  omega
mutual
theorem show_I : ∀ {i : It}, okI i = true → (dI i).showable = true
  | .say w, _ => by simp [dI, PyData.showable, PyData.showableAll]
  | .press w, _ => by simp [dI, PyData.showable, PyData.showableAll]
  | .go w, _ => by simp [dI, PyData.showable, PyData.showableAll]
  | .times n xs, h => by
    simp only [okI, Bool.and_eq_true, decide_eq_true_eq] at h
    simp [dI, PyData.showable, PyData.showableAll, show_Is h.2.2, log_ok h.1.1 h.1.2]
theorem show_Is : ∀ {xs : List It}, okIs xs = true → PyData.showableAll (dIs xs) = true
  | [], _ => rfl
  | x :: r, h => by
    simp only [okIs, Bool.and_eq_true] at h
    simp [dIs, PyData.showableAll, show_I h.1, show_Is h.2]
end
theorem depth_Is {xs : List It} (h : okIs xs = true) (hl : lvL xs ≤ 2) : (PyData.list (dIs xs)).depth ≤ 60 := by
  have := (canLay_Is h).2
  have e : (PyData.list (dIs xs)).depth = PyData.depthAll (dIs xs) + 1 := by simp [PyData.depth]
  omega
theorem show_L {xs : List It} (h : okIs xs = true) : (PyData.list (dIs xs)).showable = true := by simp [PyData.showable, show_Is h]
end Kb

namespace Kb
open PySem PySem.Spec PyProof.Rows L2 Mq Rz
/-! ### the law's own text of plain items -/
def spLTx (D : Nat) : Sp := fun vs H Q _ => ∃ (l : Addr) (us : List V) (xs : List It), vs = [.ref l] ∧ H l = some (.lst us) ∧ DtsAt H us xs ∧ lvL xs ≤ D ∧ D ≤ 2 ∧ xs.length ≤ 6 ∧ ∀ z G, Same H G → sg z = txL xs → Q (.str z) G
def spLTxL : Nat → Sp
  | 0 => fun _ _ _ _ => False
  | D + 1 => spLTx D
theorem join_small : ∀ (zs : List Str) (xs : List It), zs.map sg = xs.map tx → okIs xs = true → lvL xs ≤ 2 → (zs.map (·.length)).sum + zs.length * (" " : Str).length ≤ xs.length * 3001 := by
  intro zs
  induction zs with
  | nil => intro xs _ _ _; simp
  | cons z r ih =>
    intro xs h ho hl
    match xs, h, ho, hl with
    | x :: t, h, ho, hl =>
      simp only [List.map_cons, List.cons.injEq] at h
      simp only [okIs, Bool.and_eq_true] at ho
      simp only [lvL] at hl
      have i1 := ih t h.2 ho.2 (by omega)
      have i2 := tx_small ho.1 (show x.lv ≤ 2 by omega)
      have i3 : z.length ≤ 3000 := by rw [← sg_len, h.1]; exact i2
      have i4 : (" " : Str).length = 1 := rfl
      rw [i4] at i1 ⊢
      simp only [List.map_cons, List.sum_cons, List.length_cons]
      omega
    | [], h, _, _ => simp at h
def tDt : List (Key × V) := [(Sum.inr "say", .str "!"), (Sum.inr "press", .str ""), (Sum.inr "go", .str "@")]
theorem dt_get {H : Hp} {p : Addr} (h : H p = some (.dK (mergeK [] tDt))) : DGet H p (.str "say") (some (.str "!")) ∧ DGet H p (.str "press") (some (.str "")) ∧ DGet H p (.str "go") (some (.str "@")) :=
  ⟨DGet.k (k := (Sum.inr "say" : Key)) h, DGet.k (k := (Sum.inr "press" : Key)) h, DGet.k (k := (Sum.inr "go" : Key)) h⟩
section
variable {P : Program} {w : World} {K : PySem.W.Frag} {mg : Str → Option Value} {base : Heap}
theorem ok_ltext {f : Addr} {fd : FuncData} {j : Nat} (D : Nat) (F : FunD K "_law_text" "_law_text" (defArgs s__law_text) (defBody s__law_text) (defScope s__law_text) [] [] f fd) (T : Tc P K mg)
    (L : Of P w K mg base j "_law_text" (spLTxL D)) : FnOk P w K mg base (LX P w) (j + 1) f fd ["_law_items_here"] (spLTx D) := by
  refine F.ok sc__law_text (fun vs H Q E h => ?_) (fun cdv A outer s H vs Q E hr h => ?_)
  · obtain ⟨l, us, xs, rfl, _⟩ := h
    rfl
  · obtain ⟨l, us, xs, rfl, hl, hd, hlv, hD, h6, q⟩ := h
    have nd := sc__law_text.nd
    have hu := Nat.lt_of_le_of_lt (Nat.add_le_add_left (show 1 ≤ 64 by decide) _) hr.units
    refine ⟨_, PSs.nox (pss_cons (ps_set (i := 1) nd rfl (Or.inl rfl) (pe_lst pa_nil))
      (pss_cons (ps_for PassesOwn.never rfl (pi_list (pv 0)) (pg_name (i := 2) nd rfl (Or.inl rfl))
        (pss_one (ps_if (pt_cmpR op_eq (pe_ix ix_tup (pv 2) pe_int (fun _ _ => rfl)) pe_str (nomark _))
          (pss_one (ps_expr (pe_bm PySem.F.plainAttrs_list PySem.F.slot_list_append PySem.F.type_list_append mt_append (pv 1) (pa_cons (pe_op op_add_str (pe_op op_add_str (pe_op op_add_str (pe_callTy call_str_int (by rfl) T.bt.str (by decide +kernel) (pa_cons (pe_ix ix_tup (pv 2) pe_int (fun _ _ => rfl)) pa_nil)) pe_str) (pe_of (E := E0) L hr rfl passL (pa_cons (pe_ix ix_tup (pv 2) pe_int (fun _ _ => rfl)) pa_nil) (Nat.le_refl _))) pe_str) pa_nil))))
          (pss_one (ps_expr (pe_bm PySem.F.plainAttrs_list PySem.F.slot_list_append PySem.F.type_list_append mt_append (pv 1) (pa_cons (pe_op op_add_str (pe_dget hu (pe_disp (pps_cons pe_str pe_str (pps_cons pe_str pe_str (pps_cons pe_str pe_str pps_nil))) (by rfl) (by rfl) (fun z => by cases z) (by decide)) (pe_ix ix_tup (pv 2) pe_int (fun _ _ => rfl)) (fun _ _ => rfl)) (pe_ix ix_tup (pv 2) pe_int (fun _ _ => rfl))) pa_nil)))))))
      (pss_one (ps_ret (pe_join pe_str (pv 1)))))), ?_⟩
    refine ⟨sz 0 (by decide), fun m hm => ?_⟩
    have hul := hd.length
    have hok := hd.ok
    refine ⟨_, rfl, l, rfl, ⟨_, SqL.of ((same_new hm) _ _ hl)⟩, for_it (walk_list (xs := us)) (fun j σ G => ∃ (zs : List Str) (x : Option V), σ = [some (.ref l), some (.ref m), x] ∧ Same H G ∧ G m = some (.lst (zs.map V.str)) ∧ zs.map sg = (xs.take j).map tx) ⟨[], _, rfl, same_new hm, upd_same, rfl⟩ (fun j σ G _ h => ?_) ?_ ?_⟩
    · obtain ⟨_, _, _, sm, _⟩ := h
      exact SqL.of (sm _ _ hl)
    · rintro i y σ G' G hi ⟨zs, x, rfl, sm, gm, gz⟩ ⟨rfl, hy⟩
      obtain ⟨it, hit, hdt⟩ := hd.get hy
      have hl1 := lv_mem (List.mem_of_getElem? hit)
      have hoi := okIs_mem.mp hok it (List.mem_of_getElem? hit)
      have hzl : zs.length = (xs.take i).length := by
        have := congrArg List.length gz
        simpa using this
      rw [List.length_take] at hzl
      have hdt2 := hdt.kd (.of_same sm)
      have step : ∀ (z : Str) (G2 : Hp), Same G G2 → sg z = tx it → G2 m = some (.lst (zs.map V.str)) ∧ (zs.map V.str).length < sizeLine ∧ ∃ (zs' : List Str) (x : Option V), [some (V.ref l), some (.ref m), some y] = [some (V.ref l), some (.ref m), x] ∧ Same H (upd G2 m (.lst (zs.map V.str ++ [.str z]))) ∧ upd G2 m (.lst (zs.map V.str ++ [.str z])) m = some (.lst (zs'.map V.str)) ∧ zs'.map sg = (xs.take (i + 1)).map tx := by
        intro z G2 s2 hz
        refine ⟨s2 _ _ gm, small1000 (by rw [List.length_map]; omega), zs ++ [z], _, rfl, same_at (sm.trans s2) hm, by rw [upd_same, List.map_append]; rfl, ?_⟩
        rw [List.take_succ, hit, List.map_append, List.map_append, gz]
        show _ ++ [sg z] = _
        rw [hz]
        rfl
      clear hdt
      have dG : ∀ p, G p = none → ∀ G2, G2 = upd (upd G p (.dK [])) p (.dK (mergeK [] tDt)) → Same G G2 ∧ G2 p = some (.dK (mergeK [] tDt)) := fun p hp G2 e => by
        subst e
        rw [upd_upd]
        exact ⟨same_new hp, upd_same⟩
      have wl : ∀ z : Str, isW z = true → z.length ≤ 1000 := fun z hz => by
        have h := (isW_all hz).1
        omega
      cases hdt2 with
      | @say a w e hw =>
        refine ⟨_, rfl, _, _, _, .str "say", rfl, rfl, SqT.of e, (by rfl), rfl, _, rfl, ?_⟩
        refine ifF (dnS _ _ (by decide +kernel)) ?_
        refine ⟨_, rfl, .inl ⟨rfl, _, SqL.of gm⟩, fun p hp => ⟨upd_same, tDt, rfl, by decide, ?_⟩⟩
        obtain ⟨s2, gp⟩ := dG p hp _ rfl
        have gg := dt_get gp
        refine ⟨_, rfl, _, _, _, .str "say", rfl, rfl, SqT.of (s2 _ _ e), (by rfl), p, _, rfl, gg.1, ?_⟩
        refine ⟨_, rfl, _, _, _, .str w, rfl, rfl, SqT.of (s2 _ _ e), (by rfl), _, _, rfl, rfl, ?_, ?_⟩
        · have := wl w hw
          rw [show (("!" : Str)).length = 1 by rfl, sizeLine_eq]
          omega
        · obtain ⟨s3, s4, s5⟩ := step (("!" : Str) ++ w) _ s2 (by rw [sg_app]; rfl)
          exact ⟨m, _, _, rfl, rfl, s3, s4, s5⟩
      | @press a w e hw =>
        refine ⟨_, rfl, _, _, _, .str "press", rfl, rfl, SqT.of e, (by rfl), rfl, _, rfl, ?_⟩
        refine ifF (dnS _ _ (by decide +kernel)) ?_
        refine ⟨_, rfl, .inl ⟨rfl, _, SqL.of gm⟩, fun p hp => ⟨upd_same, tDt, rfl, by decide, ?_⟩⟩
        obtain ⟨s2, gp⟩ := dG p hp _ rfl
        have gg := dt_get gp
        refine ⟨_, rfl, _, _, _, .str "press", rfl, rfl, SqT.of (s2 _ _ e), (by rfl), p, _, rfl, gg.2.1, ?_⟩
        refine ⟨_, rfl, _, _, _, .str w, rfl, rfl, SqT.of (s2 _ _ e), (by rfl), _, _, rfl, rfl, ?_, ?_⟩
        · have := wl w hw
          rw [show (("" : Str)).length = 0 by rfl, sizeLine_eq]
          omega
        · obtain ⟨s3, s4, s5⟩ := step (("" : Str) ++ w) _ s2 (by rw [sg_app]; rfl)
          exact ⟨m, _, _, rfl, rfl, s3, s4, s5⟩
      | @go a w e hw =>
        refine ⟨_, rfl, _, _, _, .str "go", rfl, rfl, SqT.of e, (by rfl), rfl, _, rfl, ?_⟩
        refine ifF (dnS _ _ (by decide +kernel)) ?_
        refine ⟨_, rfl, .inl ⟨rfl, _, SqL.of gm⟩, fun p hp => ⟨upd_same, tDt, rfl, by decide, ?_⟩⟩
        obtain ⟨s2, gp⟩ := dG p hp _ rfl
        have gg := dt_get gp
        refine ⟨_, rfl, _, _, _, .str "go", rfl, rfl, SqT.of (s2 _ _ e), (by rfl), p, _, rfl, gg.2.2, ?_⟩
        refine ⟨_, rfl, _, _, _, .str w, rfl, rfl, SqT.of (s2 _ _ e), (by rfl), _, _, rfl, rfl, ?_, ?_⟩
        · have := wl w hw
          rw [show (("@" : Str)).length = 1 by rfl, sizeLine_eq]
          omega
        · obtain ⟨s3, s4, s5⟩ := step (("@" : Str) ++ w) _ s2 (by rw [sg_app]; rfl)
          exact ⟨m, _, _, rfl, rfl, s3, s4, s5⟩
      | @times a l2 n vs2 xs2 e hl2 hd2 n0 n1 h62 =>
        simp only [It.lv] at hl1
        simp only [okI, Bool.and_eq_true, decide_eq_true_eq] at hoi
        obtain ⟨D0, rfl⟩ : ∃ D0, D = D0 + 1 := ⟨D - 1, by omega⟩
        refine ⟨_, rfl, _, _, _, .str "times", rfl, rfl, SqT.of e, (by rfl), rfl, _, rfl, ?_⟩
        refine ifT (by decide +kernel) ?_
        have l1 := dig_len n0 n1
        have l2' := txL_small hoi.2.2 (by omega) h62
        have ld : (PySem.Str.ofString (toString n)).length ≤ 10 := by rw [← sg_len]; exact l1
        refine ⟨_, rfl, .inl ⟨rfl, _, SqL.of gm⟩, _, rfl, _, _, _, .int n, rfl, rfl, SqT.of e, (by rfl), n, rfl, log_ok n0 n1, _, _, rfl, rfl, ?_, ?_⟩
        · rw [show (("(" : Str)).length = 1 by rfl, sizeLine_eq]
          have : (PySem.Str.ofString (toString n)).length ≤ 10 := ld
          omega
        refine ⟨_, rfl, _, _, _, .ref l2, rfl, rfl, SqT.of e, (by rfl), l2, vs2, xs2, rfl, hl2, hd2, by omega, by omega, h62, fun z G2 s2 hz => ?_⟩
        have lz : z.length ≤ 20000 := by rw [← sg_len, hz]; exact l2'
        have la : (PySem.Str.ofString (toString n) ++ ("(" : Str)).length ≤ 11 := by
          rw [← sg_len, sg_app, List.length_append, sg_len, sg_len, show (("(" : Str)).length = 1 by rfl]
          omega
        refine ⟨_, _, rfl, rfl, ?_, _, _, rfl, rfl, ?_, ?_⟩
        · rw [sizeLine_eq]
          have : (PySem.Str.ofString (toString n) ++ ("(" : Str)).length ≤ 11 := la
          omega
        · rw [show ((")" : Str)).length = 1 by rfl, sizeLine_eq, ← sg_len, sg_app, List.length_append, sg_len, sg_len]
          omega
        · obtain ⟨s3, s4, s5⟩ := step (PySem.Str.ofString (toString n) ++ ("(" : Str) ++ z ++ (")" : Str)) G2 s2 (by
            rw [sg_app, sg_app, sg_app, hz]
            simp only [tx]
            have e1 : sg "(" = [40] := by decide +kernel
            have e2 : sg ")" = [41] := by decide +kernel
            rw [e1, e2]
            unfold dig
            simp)
          exact ⟨m, _, _, rfl, rfl, s3, s4, s5⟩
    · rintro σ G ⟨zs, x, rfl, sm, gm, gz⟩
      rw [List.take_of_length_le (by omega)] at gz
      have hj := join_tx gz
      refine ⟨⟨_, rfl⟩, _, rfl, " ", m, zs, rfl, rfl, .inl (SqL.of gm), ?_, q _ G sm hj⟩
      have := join_small zs xs gz hok (by omega)
      have h7 : xs.length * 3001 ≤ 6 * 3001 := Nat.mul_le_mul_right _ h6
      omega
end
end Kb

namespace Kb
open PySem PySem.Spec PyProof.Rows L2 Mq Rz LamX
/-! ### what is read right has right words -/
mutual
def wfI : It → Prop
  | .say w => isW w = true
  | .press w => isW w = true
  | .go w => isW w = true
  | .times n xs => 0 ≤ n ∧ wfL xs
def wfL : List It → Prop
  | [] => True
  | x :: r => wfI x ∧ wfL r
end
theorem wfL_app : ∀ {xs ys : List It}, wfL xs → wfL ys → wfL (xs ++ ys)
  | [], _, _, h => h
  | _ :: _, _, h, k => ⟨h.1, wfL_app h.2 k⟩
theorem wf_flush {f : List It} {u : List Nat} (hf : wfL f) (h : u = [] ∨ Wdy u) : wfL (flush f u) := by
  cases u with
  | nil => exact hf
  | cons c r =>
    have hW : Wdy (c :: r) := by
      rcases h with h | h
      · cases h
      · exact h
    refine wfL_app hf ⟨?_, trivial⟩
    clear h
    rcases wdy_it hW with ⟨rfl, h9⟩ | ⟨rfl, h9⟩ | ⟨n1, n2, h9⟩
    · exact h9
    · exact h9
    · simp only [if_neg n1, if_neg n2]
      exact h9
def wfP (pl : Pile) : Prop := ∀ x ∈ pl, 0 ≤ x.1 ∧ wfL x.2
theorem iv_wf : ∀ (l : List Nat) (s : As) (d k : Nat) (q : P3), Iv s d q → wfL q.1 → wfP q.2.1 → wr l s d k = none → ∃ s' q', psl l q = some q' ∧ Iv s' 0 q' ∧ fin s' = true ∧ wfL q'.1
  | [], s, d, k, q, h, h1, h2, hw => by
    simp only [wr] at hw
    split at hw
    · rename_i e
      obtain ⟨e1, rfl⟩ := e
      exact ⟨s, q, rfl, h, e1, h1⟩
    · cases hw
  | c :: r, s, d, k, (f, pl, u), h, h1, h2, hw => by
    simp only [wr] at hw
    cases hn : nx s d c with
    | none => rw [hn] at hw; cases hw
    | some t =>
      obtain ⟨s1, d1⟩ := t
      rw [hn] at hw
      obtain ⟨q1, e1, i1⟩ := iv_step h hn
      have hq : wfL q1.1 ∧ wfP q1.2.1 := by
        have e2 := e1
        simp only [pst] at e2
        split at e2
        · cases e2
          refine ⟨trivial, fun x hx => ?_⟩
          rcases List.mem_cons.mp hx with rfl | hx
          · exact ⟨by unfold val; omega, h1⟩
          · exact h2 x hx
        · split at e2
          · rename_i e
            subst e
            cases e2
            exact ⟨wf_flush h1 (iw_end h.2 (.inl rfl) hn).1, h2⟩
          · split at e2
            · rename_i e
              subst e
              cases pl with
              | nil => cases e2
              | cons x r2 =>
                obtain ⟨n, o⟩ := x
                cases e2
                have a := h2 (n, o) List.mem_cons_self
                exact ⟨wfL_app a.2 ⟨⟨a.1, wf_flush h1 (iw_end h.2 (.inr rfl) hn).1⟩, trivial⟩, fun x hx => h2 x (List.mem_cons_of_mem _ hx)⟩
            · cases e2
              exact ⟨h1, h2⟩
      obtain ⟨s2, q2, e2, r2⟩ := iv_wf r s1 d1 (k + 1) q1 i1 hq.1 hq.2 hw
      exact ⟨s2, q2, by simp only [psl, e1, Option.bind_some, e2], r2⟩
mutual
theorem ok_wf : ∀ {i : It}, wfI i → fts i = [] → okI i = true
  | .say _, h, _ => h
  | .press _, h, _ => h
  | .go _, h, _ => h
  | .times n xs, h, hf => by
    simp only [fts, ownF, List.append_eq_nil_iff] at hf
    obtain ⟨f1, f2, f3, f4⟩ := hf
    have a1 : n ≤ 10 ^ 9 := by
      by_cases z : n > 10 ^ 9
      · rw [if_pos z] at f2; cases f2
      · omega
    have a2 : xs.length ≤ 6 := by
      by_cases z : xs.length > 6
      · rw [if_pos z] at f3; cases f3
      · omega
    simp only [okI, ok_wfL h.2 f1, decide_eq_true h.1, decide_eq_true a1, decide_eq_true a2, Bool.and_true]
theorem ok_wfL : ∀ {xs : List It}, wfL xs → ftsL xs = [] → okIs xs = true
  | [], _, _ => rfl
  | x :: r, h, hf => by
    simp only [ftsL, List.append_eq_nil_iff] at hf
    simp only [okIs, ok_wf h.1 hf.1, ok_wfL h.2 hf.2, Bool.and_true]
end
theorem read_st {l : List Nat} (h : wrong l = none) : ∃ s d k, Iv s d ([], [], []) ∧ wr l s d k = none := by
  unfold wrong at h
  split at h
  · rename_i e
    subst e
    exact ⟨.don, 0, 0, ⟨rfl, rfl⟩, rfl⟩
  · exact ⟨.beg, 0, 0, ⟨rfl, rfl⟩, h⟩
theorem read_ex {l : List Nat} (h : wrong l = none) : ∃ xs, Prs l xs ∧ wfL xs := by
  obtain ⟨s, d, k, i, w⟩ := read_st h
  obtain ⟨s', q', e, i2, hf, hw⟩ := iv_wf l s d k _ i trivial (fun x hx => by cases hx) w
  obtain ⟨f, pl, u⟩ := q'
  obtain rfl : pl = [] := List.length_eq_zero_iff.mp i2.1
  exact ⟨flush f u, ⟨f, u, e, rfl⟩, wf_flush hw (fin_end i2.2 hf)⟩
theorem prs_eq {l : List Nat} {xs ys : List It} (h : Prs l xs) (k : Prs l ys) : xs = ys := by
  obtain ⟨f, u, e, rfl⟩ := h
  obtain ⟨g, v, e2, rfl⟩ := k
  rw [e] at e2
  cases e2
  rfl
theorem allF_nil {xs : List It} (h : allF xs = []) : ftsL xs = [] ∧ xs.length ≤ 6 := by
  unfold allF at h
  rw [List.append_eq_nil_iff] at h
  refine ⟨h.1, ?_⟩
  by_cases z : xs.length > 6
  · rw [if_pos z] at h; cases h.2
  · omega
/-! ### told -/
def er5 : List (Str × Str × Str) := [("InvalidText", "index", "text"), ("InvalidItem", "field", "item"), ("TooMany", "limit", "many"), ("TooDeep", "limit", "deep")]
def er5n : List Str := ["InvalidText", "InvalidItem", "TooMany", "TooDeep"]
structure Tt5 (P : Program) (K : PySem.W.Frag) (mg : Str → Option Value) : Prop where
  g : ∀ x ∈ er5n, mg x = some (.ref (He.ga K x))
  x : ∀ x ∈ er5n, L2.XfC K (He.ga K x)
  c : ∀ x ∈ er5n, L2.ExcC K (He.ga K x) ∧ (PySem.W.clsIn K (He.ga K x)).isSome = true
  e : ∀ x ∈ er5n, ∀ y ∈ er5n, PySem.W.exmOne K (.ref (He.ga K x)) (.ref (He.ga K y)) = some (decide (x = y))
  k : PySem.W.kitOne K (.ref (He.ga K "InvalidText")) (.type "ValueError") = some true
  fV : mg "ValueError" = none
theorem takes_len {X : Cx} {W : WX} (tk : Takes X W) : Takes X (fun c d σ H => σ.length = X.N.length → W c d σ H) := fun u s2 ⟨a, B, sI, pins, σ, H, cls, d, e, I, nb, up, sky, na, os, ag, w⟩ => tk u s2 ⟨a, B, sI, pins, σ, H, cls, d, e, I, nb, up, sky, na, os, ag, w I.len⟩
def ETold5 (K : PySem.W.Frag) (Q : VK) : XK := fun cls d G => ∃ q ∈ er5, cls = .ref (He.ga K q.1) ∧ ∃ dd u, d = some dd ∧ G dd = some (.xd [(q.2.1, u)]) ∧ ∀ p, G p = none → Q (.ref p) (upd G p (.tup [.str q.2.2, u]))
def spTold (K : PySem.W.Frag) : Sp := fun vs H Q _ => ∃ (v : V), vs = [v] ∧ ((∃ z : Str, v = .str z ∧ z.length ≤ 3000 ∧
  (∀ k, wrong (sg z) = some k → ∀ t G, Same H G → G t = some (.tup [.str "text", .int (k : Nat)]) → Q (.ref t) G) ∧
  (wrong (sg z) = none → ∀ xs, Prs (sg z) xs → (∀ e, (allF xs).head? = some e → ∀ t G, Same H G → G t = some (.tup (ftV e)) → Q (.ref t) G) ∧
    (allF xs = [] → okIs xs = true → ∀ t l us G, Same H G → G t = some (.tup [.str "read", .ref l]) → G l = some (.lst us) → DtsAt G us xs → Q (.ref t) G))) ∨
  ∃ ty, TyX K H v ty ∧ PySem.W.kitOne K ty (.type "str") = some false ∧ ∀ t G, Same H G → G t = some (.tup [.str "text", .int 0]) → Q (.ref t) G)
theorem snoc_new {H G G2 : Hp} {m : Addr} {ws : List V} {ys : List It} {r : V} {it : It} (hm : H m = none) (sm : Same H G) (s2 : Same G G2) (gm : G m = some (.lst ws)) (gD : DtsAt (newp (upd H m (.lst [])) G) ws ys) (hr : DtAt (newp G G2) r it) :
    DtsAt (newp (upd H m (.lst [])) (upd G2 m (.lst (ws ++ [r])))) (ws ++ [r]) (ys ++ [it]) := by
  refine DtsAt.snoc (gD.kd (.newp (fun b h _ => h) fun b o h e _ => ?_)) (hr.kd (.newp (fun b h _ => ?_) fun b o h e _ => ?_))
  · rw [upd_ne (upd_none h).1]
    exact s2 _ _ e
  · have nb : b ≠ m := Ne.symm (ne_of_none gm h)
    rw [upd_ne nb]
    cases z : H b with
    | none => rfl
    | some u => exact absurd (sm _ _ z) (by rw [h]; simp)
  · rw [upd_ne (Ne.symm (ne_of_none gm h))]
    exact e
theorem pss_ex {X : Cx} {b : List Stmt} {u : TS} (h : ∃ t : TS, PSs X b t ∧ ∀ D σ H, u D σ H → t D σ H) : PSs X b u :=
  let ⟨_, p, q⟩ := h
  ⟨fun pins s σ H D I z => p.run pins s σ H D I (q D σ H z)⟩
theorem mono_rdX {K : PySem.W.Frag} {vs : List V} {H : Hp} {Q R : VK} {E : XK} (h : ∀ v G, Q v G → R v G) (k : spReadX K vs H Q E) : spReadX K vs H R E := by
  obtain ⟨v, e, k⟩ := k
  refine ⟨v, e, ?_⟩
  rcases k with ⟨z, e2, hz, k1, k2⟩ | k
  · exact .inl ⟨z, e2, hz, k1, fun hn xs hp => ⟨(k2 hn xs hp).1, fun hf G b s n B => h _ _ ((k2 hn xs hp).2 hf G b s n B)⟩⟩
  · exact .inr k
/-- what the errors of the tried call come to -/
def EchW (W : WX) : XK := fun c d H => ∀ σ : L2.St, σ.length = 3 → W c d σ H
def tTry (K : PySem.W.Frag) (W : WX) : TS := fun D σ H => ∃ v, σ = [some v, none, none] ∧ spReadX K [.ref (cB K), v] H (fun r G => ∃ b xs, r = .ref b ∧ BdAt K G b xs ∧ okIs xs = true ∧ lvL xs ≤ 2 ∧ xs.length ≤ 6 ∧ ∀ t l us G2, Same G G2 → G2 t = some (.tup [.str "read", .ref l]) → G2 l = some (.lst us) → DtsAt G2 us xs → D.rt (.ref t) G2) (EchW W)
section
variable {P : Program} {w : World} {K : PySem.W.Frag} {mg : Str → Option Value} {base : Heap}
def NT : List Str := ["_law_text_here", "e", "_law_one"]
theorem ok_told {f fde : Addr} {fd fdE : FuncData} (F : FunD K "_law_told" "_law_told" (defArgs s__law_told) (defBody s__law_told) (defScope s__law_told) [] [] f fd) (T : Tc P K mg) (R : Tr P K mg) (Tt : Tt5 P K mg)
    (rdC : ClX.CRead K (cB K) (.type "type") ∧ ClX.CMet K (cB K) (.type "type") "read" (He.ma K (cB K) "read") (He5.wf K (cB K) "classmethod" "read")) (Rd : FnR P w K mg base (LX P w) 9 (He5.wf K (cB K) "classmethod" "read") (spReadX K))
    (En : FnOk P w K mg base (LX P w) 1 (He5.wf K (cB K) "property" "entries") fdE ["self"] (spEnt K)) (bE : Binds K fdE ["self"] []) (pE : PropOf K (cB K) "entries" (He.ma K (cB K) "entries") (He5.wf K (cB K) "property" "entries"))
    (Pl : Of P w K mg base 5 "_law_plain" (spPlain K 2)) : FnOk P w K mg base (LX P w) 10 f fd ["_law_text_here"] (spTold K) := by
  refine F.ok sc__law_told (fun vs H Q E h => ?_) (fun cdv A outer sh H vs Q E hr h => ?_)
  · obtain ⟨v, rfl, _⟩ := h
    rfl
  · obtain ⟨v, rfl, h⟩ := h
    have nd := sc__law_told.nd
    refine ⟨_, PSs.nox (pss_one (ps_try_nm (i := 1) (n := "e")
      (tb := tTry K)
      rfl rfl nd rfl rfl L2.takes0 (fun W pn xe tk _ => ?_)
      (.cons (c := .ref (He.ga K "InvalidText")) ⟨rfl, by decide, .inl (Tt.g "InvalidText" (by decide))⟩ (fun a oe cls d pn hz hf => pss_one (ps_ret (pe_ifExp (pt_val (pe_callB (call_isC hz hf) (by rfl) T.bt.isi (by decide +kernel) (pa_cons (pv 1) (pa_cons (pe_bltn (v := .ty "ValueError") (by rfl) Tt.fV (by decide +kernel) rfl) pa_nil)))) (pe_tup (pa_cons pe_str (pa_cons (pe_xf (Tt.x "InvalidText" (by decide)) R.eT.er.no hz hf (pv 1)) pa_nil))) (pe_tup (pa_cons pe_str (pa_cons pe_int pa_nil))))))
      (.cons (c := .ref (He.ga K "InvalidItem")) ⟨rfl, by decide, .inl (Tt.g "InvalidItem" (by decide))⟩ (fun a oe cls d pn hz hf => pss_one (ps_ret (pe_tup (pa_cons pe_str (pa_cons (pe_xf (Tt.x "InvalidItem" (by decide)) T.eI.er.no hz hf (pv 1)) pa_nil)))))
      (.cons (c := .ref (He.ga K "TooMany")) ⟨rfl, by decide, .inl (Tt.g "TooMany" (by decide))⟩ (fun a oe cls d pn hz hf => pss_one (ps_ret (pe_tup (pa_cons pe_str (pa_cons (pe_xf (Tt.x "TooMany" (by decide)) T.eM.er.no hz hf (pv 1)) pa_nil)))))
      (.cons (c := .ref (He.ga K "TooDeep")) ⟨rfl, by decide, .inl (Tt.g "TooDeep" (by decide))⟩ (fun a oe cls d pn hz hf => pss_one (ps_ret (pe_tup (pa_cons pe_str (pa_cons (pe_xf (Tt.x "TooDeep" (by decide)) T.eD.er.no hz hf (pv 1)) pa_nil))))) .nil)))))), ?_⟩
    · have hr1 : Room 2 _ := hr.mono (by decide)
      refine pss_ex ⟨_, (pss_one (ps_ret (pe_tup (pa_cons pe_str (pa_cons (pe_lc (own := [("_law_one", 2)]) (g := gName 2) (tt := tYes) (by rfl) nd (pi_tup (pe_prop (E := E0) (ClX.pe_cmeth (E := EchW W) (pe_glob (v := .ref (cB K)) rfl (T.g "Body" (by decide)) rfl) rdC.1 rdC.2 Rd hr (passE (takes_len tk) fun c d σ H h hl => h σ hl) (pa_cons (pv 0) pa_nil)) (T.kl "Body" (by decide)).cl pE En hr1 bE .nil passL rfl)) (blkOk_by (own := [("_law_one", 2)]) (N := NT) (sc := defScope s__law_told) (by decide +kernel)) (fun _ _ _ _ _ => pg_name (i := 2) nd rfl (Or.inl rfl)) (fun _ _ _ _ _ => pts_nil) (fun _ _ _ _ _ => pe_of (E := E0) Pl hr rfl passL (pa_cons (pv 2) pa_nil))) pa_nil))))), fun D σ H2 h2 => ?_⟩
      obtain ⟨v, rfl, h3⟩ := h2
      refine ⟨rfl, _, rfl, ?_⟩
      try dsimp only [tNil]
      refine mono_rdX (fun r G hq => ?_) h3
      obtain ⟨b, xs, rfl, hB, hok, hlv, h6, k⟩ := hq
      obtain ⟨dx, tb, vb, eb, _⟩ := hB.at_
      refine ⟨b, dx, _, rfl, eb, b, xs, rfl, hB, fun te ue hte hIe => ⟨te, rfl, ⟨_, SqT.of hte⟩, fun m2 hm2 => lc_it walk_tup (fun i G2 => ∃ ws, Same G G2 ∧ G2 m2 = some (.lst ws) ∧ DtsAt (newp (upd G m2 (.lst [])) G2) ws (xs.take i)) ⟨[], same_new hm2, upd_same, by rw [List.take_zero]; exact .nil⟩ (fun i G _ h => let ⟨_, s, _⟩ := h; SqT.of (s _ _ hte)) ?_ ?_⟩⟩
      · rintro i y G12 G13 hi ⟨ws, sm, gm2, gD⟩ ⟨rfl, hy⟩
        obtain ⟨it, hit, hiA⟩ := hIe.get hy
        have hl1 := lv_mem (List.mem_of_getElem? hit)
        have hvl := gD.length
        rw [List.length_take] at hvl
        refine ⟨rfl, _, rfl, y, it, rfl, hiA.same sm, okIs_mem.mp hok it (List.mem_of_getElem? hit), by omega, by decide, fun r G2 sm2 hr2 => ⟨ws, sm2 _ _ gm2, small1000 (by omega), ws ++ [r], same_at (sm.trans sm2) hm2, upd_same, ?_⟩⟩
        rw [List.take_succ, hit]
        exact snoc_new hm2 sm sm2 gm2 gD hr2
      rintro G12 ⟨ws, s12, gm2, gD⟩
      have hue := hIe.length
      rw [List.take_of_length_le (by omega)] at gD
      refine ⟨sz 2 (by decide), fun t ht => ?_⟩
      exact k t m2 ws _ (s12.trans (same_new ht)) upd_same (same_new ht _ _ gm2) ((gD.kd .of_newp).kd (.of_same (same_new ht)))
    · refine ⟨v, rfl, ?_⟩
      have ex := fun x hx y hy => Tt.e x hx y hy
      have back : ∀ (E2 : XK), (∀ cls d G, ETold5 K Q cls d G → E2 cls d G) → spReadX K [.ref (cB K), v] H (fun r G => ∃ b xs, r = .ref b ∧ BdAt K G b xs ∧ okIs xs = true ∧ lvL xs ≤ 2 ∧ xs.length ≤ 6 ∧ ∀ t l us G2, Same G G2 → G2 t = some (.tup [.str "read", .ref l]) → G2 l = some (.lst us) → DtsAt G2 us xs → Q (.ref t) G2) E2 := fun E2 hE => by
        refine ⟨v, rfl, ?_⟩
        rcases h with ⟨z, rfl, hz, k1, k2⟩ | ⟨ty, h1, h2, h3⟩
        · refine .inl ⟨z, rfl, hz, fun k hk G sm d hd => hE _ _ _ ⟨("InvalidText", "index", "text"), List.mem_of_getElem? (i := 0) rfl, rfl, d, _, rfl, upd_same, fun p hp => k1 k hk p _ ((sm.trans (same_new hd)).trans (same_new hp)) upd_same⟩, fun hn xs hp => ⟨fun e he G d sm hd => ?_, fun hf G b sm hb hB => ?_⟩⟩
          · have kk := (k2 hn xs hp).1 e he
            cases e with
            | item => exact hE _ _ _ ⟨("InvalidItem", "field", "item"), List.mem_of_getElem? (i := 1) rfl, rfl, d, _, rfl, upd_same, fun p hp => kk p _ ((sm.trans (same_new hd)).trans (same_new hp)) upd_same⟩
            | many => exact hE _ _ _ ⟨("TooMany", "limit", "many"), List.mem_of_getElem? (i := 2) rfl, rfl, d, _, rfl, upd_same, fun p hp => kk p _ ((sm.trans (same_new hd)).trans (same_new hp)) upd_same⟩
            | deep => exact hE _ _ _ ⟨("TooDeep", "limit", "deep"), List.mem_of_getElem? (i := 3) rfl, rfl, d, _, rfl, upd_same, fun p hp => kk p _ ((sm.trans (same_new hd)).trans (same_new hp)) upd_same⟩
          · obtain ⟨ys, py, wy⟩ := read_ex hn
            obtain rfl := prs_eq hp py
            obtain ⟨f1, f2⟩ := allF_nil hf
            have hok := ok_wfL wy f1
            exact ⟨b, xs, rfl, hB, hok, lv_ftsL f1, f2, fun t l us G2 s2 g1 g2 g3 => (k2 hn xs hp).2 hf hok t l us G2 (sm.trans s2) g1 g2 g3⟩
        · exact .inr ⟨ty, h1, h2, fun d hd => hE _ _ _ ⟨("InvalidText", "index", "text"), List.mem_of_getElem? (i := 0) rfl, rfl, d, _, rfl, upd_same, fun p hp => h3 p _ ((same_new hd).trans (same_new hp)) upd_same⟩⟩
      refine back _ fun cls d G hE σ' hlen => ?_
      have at1 : ∀ a : Addr, (σ'.set 1 (some (V.ref a)))[1]? = some (some (V.ref a)) := fun a => by simp [hlen]
      obtain ⟨qq, hq, rfl, dd, u, rfl, hd, k⟩ := hE
      simp only [er5, List.mem_cons, List.not_mem_nil, or_false] at hq
      rcases hq with rfl | rfl | rfl | rfl
      · refine ⟨true, ex "InvalidText" (by decide) "InvalidText" (by decide), fun _ a ha => ?_, fun z => by cases z⟩
        refine ⟨_, at1 a, _, _, _, true, rfl, rfl, ⟨dd, _, rfl, hd⟩, (Tt.c "InvalidText" (by decide)).1, .ty "ValueError", (Tt.c "InvalidText" (by decide)).2, Tt.k, true, rfl, ifT rfl ?_⟩
        exact ⟨_, at1 a, rfl, rfl, dd, _, u, rfl, hd, by rfl, sz 2 (by decide), fun p hp => k p hp⟩
      · refine ⟨false, ex "InvalidItem" (by decide) "InvalidText" (by decide), (fun z => by cases z), fun _ => ⟨true, ex "InvalidItem" (by decide) "InvalidItem" (by decide), fun _ a ha => ?_, fun z => by cases z⟩⟩
        exact ⟨_, at1 a, rfl, rfl, dd, _, u, rfl, hd, by rfl, sz 2 (by decide), fun p hp => k p hp⟩
      · refine ⟨false, ex "TooMany" (by decide) "InvalidText" (by decide), (fun z => by cases z), fun _ => ⟨false, ex "TooMany" (by decide) "InvalidItem" (by decide), (fun z => by cases z), fun _ => ⟨true, ex "TooMany" (by decide) "TooMany" (by decide), fun _ a ha => ?_, fun z => by cases z⟩⟩⟩
        exact ⟨_, at1 a, rfl, rfl, dd, _, u, rfl, hd, by rfl, sz 2 (by decide), fun p hp => k p hp⟩
      · refine ⟨false, ex "TooDeep" (by decide) "InvalidText" (by decide), (fun z => by cases z), fun _ => ⟨false, ex "TooDeep" (by decide) "InvalidItem" (by decide), (fun z => by cases z), fun _ => ⟨false, ex "TooDeep" (by decide) "TooMany" (by decide), (fun z => by cases z), fun _ => ⟨true, ex "TooDeep" (by decide) "TooDeep" (by decide), fun _ a ha => ?_, fun z => by cases z⟩⟩⟩⟩
        exact ⟨_, at1 a, rfl, rfl, dd, _, u, rfl, hd, by rfl, sz 2 (by decide), fun p hp => k p hp⟩
end
end Kb

namespace Kb
open PySem PySem.Spec PyProof.Rows L2 Mq Rz LamX
/-! ### a text with one change -/
def Bnt (l l' : List Nat) : Prop := mp l' ≤ max (2 * mp l) (mp l + 2) ∧ l'.length ≤ max (l.length + 12) 239
def pcs : List Str := [" ", "(", ")", "!", "@", "a", "A", "0", "7", "2(a)", "3()", " b", "zzzzzzzz", "10000000000", "9999999999()"]
theorem pc_at {p : Str} {l : List Nat} (e : sg p = l) (h : l.length ≤ 12) (g : ∀ n, gp l n ≤ n + 1) : (sg p).length ≤ 12 ∧ ∀ n, gp (sg p) n ≤ n + 1 := by
  rw [e]
  exact ⟨h, g⟩
theorem pc_all : ∀ p ∈ pcs, (sg p).length ≤ 12 ∧ ∀ n, gp (sg p) n ≤ n + 1 := by
  intro p hp
  simp only [pcs, List.mem_cons, List.not_mem_nil, or_false] at hp
  rcases hp with rfl | rfl | rfl | rfl | rfl | rfl | rfl | rfl | rfl | rfl | rfl | rfl | rfl | rfl | rfl
  · exact pc_at (l := [32]) (by decide +kernel) (by decide) (fun n => by simp [gp, mpu])
  · exact pc_at (l := [40]) (by decide +kernel) (by decide) (fun n => by simp [gp, mpu])
  · exact pc_at (l := [41]) (by decide +kernel) (by decide) (fun n => by simp [gp, mpu]; omega)
  · exact pc_at (l := [33]) (by decide +kernel) (by decide) (fun n => by simp [gp, mpu])
  · exact pc_at (l := [64]) (by decide +kernel) (by decide) (fun n => by simp [gp, mpu])
  · exact pc_at (l := [97]) (by decide +kernel) (by decide) (fun n => by simp [gp, mpu])
  · exact pc_at (l := [65]) (by decide +kernel) (by decide) (fun n => by simp [gp, mpu])
  · exact pc_at (l := [48]) (by decide +kernel) (by decide) (fun n => by simp [gp, mpu])
  · exact pc_at (l := [55]) (by decide +kernel) (by decide) (fun n => by simp [gp, mpu])
  · exact pc_at (l := [50, 40, 97, 41]) (by decide +kernel) (by decide) (fun n => by simp [gp, mpu])
  · exact pc_at (l := [51, 40, 41]) (by decide +kernel) (by decide) (fun n => by simp [gp, mpu])
  · exact pc_at (l := [32, 98]) (by decide +kernel) (by decide) (fun n => by simp [gp, mpu])
  · exact pc_at (l := [122, 122, 122, 122, 122, 122, 122, 122]) (by decide +kernel) (by decide) (fun n => by simp [gp, mpu])
  · exact pc_at (l := [49, 48, 48, 48, 48, 48, 48, 48, 48, 48, 48]) (by decide +kernel) (by decide) (fun n => by simp [gp, mpu])
  · exact pc_at (l := [57, 57, 57, 57, 57, 57, 57, 57, 57, 57, 40, 41]) (by decide +kernel) (by decide) (fun n => by simp [gp, mpu])
theorem mp_app_take (l : List Nat) (i : Nat) : mp (l.take i) ≤ mp l := by
  have := mp_take (a := l.take i) (b := l.drop i)
  rwa [List.take_append_drop] at this
theorem bnt_out (l : List Nat) (i : Nat) : Bnt l (l.take i ++ l.drop (i + 1)) := by
  refine ⟨?_, by rw [List.length_append, List.length_take, List.length_drop]; omega⟩
  by_cases h : i < l.length
  · have e := mp_drop (a := l.take i) (b := l.drop (i + 1)) (c := l[i])
    rw [← List.drop_eq_getElem_cons h, List.take_append_drop] at e
    omega
  · rw [List.drop_eq_nil_of_le (by omega), List.append_nil]
    have := mp_app_take l i
    omega
theorem bnt_cut (l : List Nat) (i : Nat) : Bnt l (l.take i) := ⟨by have := mp_app_take l i; omega, by rw [List.length_take]; omega⟩
theorem bnt_wrap (l : List Nat) : Bnt l (50 :: 40 :: (l ++ [41])) := ⟨by rw [mp_wrap]; omega, by simp; omega⟩
theorem bnt_two (l : List Nat) (h : l.length < 120) : Bnt l (l ++ 32 :: l) := ⟨by have := mp_two (a := l); omega, by simp; omega⟩
theorem bnt_id (l : List Nat) : Bnt l l := ⟨by omega, by omega⟩
theorem bnt_put (l : List Nat) (i r : Nat) (hr : r ≤ 1) {p : List Nat} (h : p.length ≤ 12 ∧ ∀ n, gp p n ≤ n + 1) : Bnt l (l.take i ++ (p ++ l.drop (i + r))) := by
  refine ⟨?_, by rw [List.length_append, List.length_append, List.length_take, List.length_drop]; have := h.1; omega⟩
  have e := mp_put (a := l.take i) (b := l.drop (i + r)) h.2
  rcases Nat.le_one_iff_eq_zero_or_eq_one.mp hr with rfl | rfl
  · rw [Nat.add_zero] at e ⊢
    rw [List.take_append_drop] at e
    omega
  · by_cases hl : i < l.length
    · have e2 := mp_drop (a := l.take i) (b := l.drop (i + 1)) (c := l[i])
      rw [← List.drop_eq_getElem_cons hl, List.take_append_drop] at e2
      omega
    · rw [List.drop_eq_nil_of_le (show l.length ≤ i + 1 by omega), List.append_nil] at e ⊢
      rw [List.append_nil] at e
      have := mp_app_take l i
      omega
def spBent : Sp := fun vs H Q _ => ∃ (d lc : Addr) (c : Int) (z : Str), vs = [.ref d, .str z] ∧ PenAt H d lc c ∧ c ≤ 2 ^ 58 ∧ z.length ≤ 2900 ∧ ∀ (z' : Str) (G : Hp), Bnt (sg z) (sg z') → PenAt G d lc (c + 3) → But d H G → Q (.str z') G
section
variable {P : Program} {w : World} {K : PySem.W.Frag} {mg : Str → Option Value} {base : Heap}
theorem ok_bent {f : Addr} {fd : FuncData} (F : FunD K "_law_bent" "_law_bent" (defArgs s__law_bent) (defBody s__law_bent) (defScope s__law_bent) [] [] f fd) (T : Bt mg) (Dr : Of P w K mg base 1 "_law_draw" spDraw) (C : Of P w K mg base 2 "_law_pick" (spPick K)) :
    FnOk P w K mg base (LX P w) 3 f fd ["_law_pen_here", "_law_text_here"] spBent := by
  refine F.ok sc__law_bent (fun vs H Q E h => ?_) (fun cdv A outer sh H vs Q E hr h => ?_)
  · obtain ⟨d, lc, c, z, rfl, _⟩ := h
    rfl
  · obtain ⟨d, lc, c, z, rfl, hP, hc, hz, q⟩ := h
    have nd := sc__law_bent.nd
    refine ⟨_, PSs.nox (pss_cons (ps_par (i := 2) (j := 3) (by rfl) nd rfl rfl (by decide) rfl rfl (pa_cons (pe_of (E := E0) Dr hr rfl passL (pa_cons (pv 0) (pa_cons (pe_op op_add (pe_callB call_len_str (by rfl) T.len PySem.boot_len (pa_cons (pv 1) pa_nil)) pe_int) pa_nil))) (pa_cons (pe_of (E := E0) Dr hr rfl passL (pa_cons (pv 0) (pa_cons pe_int pa_nil))) pa_nil)) (by rfl))
      (pss_cons (ps_set (i := 4) nd rfl (Or.inl rfl) (pe_lst (pa_cons pe_str (pa_cons pe_str (pa_cons pe_str (pa_cons pe_str (pa_cons pe_str (pa_cons pe_str (pa_cons pe_str (pa_cons pe_str (pa_cons pe_str (pa_cons pe_str (pa_cons pe_str (pa_cons pe_str (pa_cons pe_str (pa_cons pe_str (pa_cons pe_str pa_nil)))))))))))))))))
      (pss_cons (ps_if (pt_cmpR op_eq (pv 3) pe_int (nomark _)) (pss_one (ps_ret (pe_op op_add_str (pe_slice sl_str (pv 1) po_none (po_some (pv 2))) (pe_slice sl_str (pv 1) (po_some (pe_op op_add (pv 2) pe_int)) po_none)))) pss_nil)
      (pss_cons (ps_if (pt_cmpR op_eq (pv 3) pe_int (nomark _)) (pss_one (ps_ret (pe_slice sl_str (pv 1) po_none (po_some (pv 2))))) pss_nil)
      (pss_cons (ps_if (pt_cmpR op_eq (pv 3) pe_int (nomark _)) (pss_one (ps_ret (pe_op op_add_str (pe_op op_add_str pe_str (pv 1)) pe_str))) pss_nil)
      (pss_cons (ps_if (pt_cmpR op_eq (pv 3) pe_int (nomark _)) (pss_one (ps_ret (pe_ifExp (pt_cmpR op_lt (pe_callB call_len_str (by rfl) T.len PySem.boot_len (pa_cons (pv 1) pa_nil)) pe_int (nomark _)) (pe_op op_add_str (pe_op op_add_str (pv 1) pe_str) (pv 1)) (pv 1)))) pss_nil)
      (pss_one (ps_ret (pe_op op_add_str (pe_op op_add_str (pe_slice sl_str (pv 1) po_none (po_some (pv 2))) (pe_of (E := E0) C hr rfl passL (pa_cons (pv 0) (pa_cons (pv 4) pa_nil)))) (pe_slice sl_str (pv 1) (po_some (pe_op op_add (pv 2) (pe_callTy call_int1 (by rfl) T.int (by decide +kernel) (pa_cons (pe_cmpR op_eq (pv 3) pe_int (nomark _)) pa_nil)))) po_none)))))))))), ?_⟩
    have hz2 : z.length ≤ sizeLine := by rw [sizeLine_eq]; omega
    refine ⟨_, rfl, _, rfl, z, rfl, hz2, _, _, rfl, rfl, d, lc, c, _, rfl, hP, by omega, by omega, by omega, fun at_ G1 a0 a1 P1 b1 => ?_⟩
    refine ⟨_, rfl, d, lc, c + 1, _, rfl, P1, by omega, by decide, by decide, fun wy G2 w0 w1 P2 b2 => ⟨_, _, rfl, ?_⟩⟩
    obtain ⟨a, rfl⟩ := Int.eq_ofNat_of_zero_le a0
    refine ⟨sz 15 (by decide), fun l hl => ?_⟩
    have s3 := same_new (o := .lst (pcs.map V.str)) hl
    have g3 : upd G2 l (.lst (pcs.map V.str)) l = some (.lst (pcs.map V.str)) := upd_same
    change _ at s3
    have P3 := P2.same s3
    have B3 : But d H (upd G2 l (.lst (pcs.map V.str))) := (b1.trans b2).trans (.of_same s3)
    have ta : sg (cutS z none (some (a : Int))) = (sg z).take a := sg_take z a
    have da : sg (cutS z (some ((a : Int) + 1)) none) = (sg z).drop (a + 1) := sg_drop z (a + 1)
    have lc_ : ∀ l' h', (cutS z l' h').length ≤ z.length := fun l' h' => by
      rw [← sg_len, ← sg_len]
      unfold cutS sg
      simp only [List.length_take, List.length_drop]
      omega
    have bgs : ∀ n m : Nat, n ≤ 6000 → m ≤ 6000 → n + m ≤ sizeLine := fun n m h1 h2 => by rw [sizeLine_eq]; omega
    have al := sg_len z
    have hca := lc_ none (some (a : Int))
    refine ⟨_, rfl, rfl, _, rfl, ?_⟩
    by_cases e0 : wy = 0
    · subst e0
      refine ifT (by decide) ⟨_, rfl, _, rfl, _, rfl, z, rfl, hz2, _, rfl, _, rfl, _, _, rfl, rfl, _, rfl, z, rfl, hz2, _, _, rfl, rfl, bgs _ _ (by omega) (by have := lc_ (some ((a : Int) + 1)) none; omega), ?_⟩
      exact q _ _ (by rw [sg_app, ta, da]; exact bnt_out _ _) (P3.mono (by omega)) B3
    have dI : ∀ (x y : Int), x ≠ y → decide (V.int x = V.int y) = false := fun x y h => decide_eq_false fun e => h (V.int.inj e)
    refine ifF (dI _ _ e0) ?_
    refine ⟨_, rfl, rfl, _, rfl, ?_⟩
    by_cases e1 : wy = 1
    · subst e1
      refine ifT (by decide) ⟨_, rfl, _, rfl, _, rfl, z, rfl, hz2, ?_⟩
      exact q _ _ (by rw [ta]; exact bnt_cut _ _) (P3.mono (by omega)) B3
    refine ifF (dI _ _ e1) ?_
    refine ⟨_, rfl, rfl, _, rfl, ?_⟩
    have l2 : ("2(" : Str).length = 2 := rfl
    have l1 : (")" : Str).length = 1 := rfl
    have lsp : (" " : Str).length = 1 := rfl
    have s2 : sg "2(" = [50, 40] := by decide +kernel
    have s1 : sg ")" = [41] := by decide +kernel
    have ssp : sg " " = [32] := by decide +kernel
    have lap : ∀ a b : Str, (a ++ b).length = a.length + b.length := fun a b => by rw [← sg_len, sg_app, List.length_append, sg_len, sg_len]
    by_cases e2 : wy = 2
    · subst e2
      refine ifT (by decide) ⟨_, rfl, _, _, rfl, rfl, bgs _ _ (by omega) (by omega), _, _, rfl, rfl, bgs _ _ (by show (("2(" : Str) ++ z).length ≤ 6000; rw [lap]; omega) (by omega), ?_⟩
      refine q _ _ ?_ (P3.mono (by omega)) B3
      rw [show sg (("2(" : Str) ++ z ++ (")" : Str)) = 50 :: 40 :: (sg z ++ [41]) by rw [sg_app, sg_app, s2, s1]; simp]
      exact bnt_wrap _
    refine ifF (dI _ _ e2) ?_
    refine ⟨_, rfl, rfl, _, rfl, ?_⟩
    by_cases e3 : wy = 3
    · subst e3
      refine ifT (by decide) ⟨_, rfl, z, rfl, hz2, _, _, rfl, rfl, _, rfl, ?_⟩
      by_cases h120 : z.length < 120
      · refine ifT (decide_eq_true (by omega)) ⟨_, rfl, _, _, rfl, rfl, bgs _ _ (by omega) (by omega), _, rfl, _, _, rfl, rfl, bgs _ _ (by show (z ++ (" " : Str)).length ≤ 6000; rw [lap]; omega) (by omega), ?_⟩
        refine q _ _ ?_ (P3.mono (by omega)) B3
        rw [show sg (z ++ (" " : Str) ++ z) = sg z ++ 32 :: sg z by rw [sg_app, sg_app, ssp]; simp]
        exact bnt_two _ (by omega)
      · refine ifF (decide_eq_false (by omega)) ⟨_, rfl, ?_⟩
        exact q _ _ (bnt_id _) (P3.mono (by omega)) B3
    refine ifF (dI _ _ e3) ?_
    refine ⟨_, rfl, _, rfl, _, rfl, z, rfl, hz2, _, rfl, _, rfl, d, lc, .ref l, c + 1 + 1, _, rfl, P3, by omega, .lst (SqL.of g3), (by decide), (by decide), fun v G4 hv P4 b4 => ?_⟩
    obtain ⟨pc, hpc, rfl⟩ := List.mem_map.mp hv
    have hp := pc_all pc hpc
    have hpl : pc.length ≤ 12 := by rw [← sg_len]; exact hp.1
    refine ⟨_, _, rfl, rfl, bgs _ _ (by omega) (by omega), _, rfl, _, rfl, _, rfl, rfl, .inr ⟨_, rfl, _, _, rfl, rfl, _, rfl, z, rfl, hz2, _, _, rfl, rfl, bgs _ _ (by rw [lap]; omega) (Nat.le_trans (lc_ _ _) (by omega)), ?_⟩⟩
    refine q _ _ ?_ (P4.mono (by omega)) (B3.trans b4)
    by_cases e6 : wy = 6
    · subst e6
      have ei : (if decide (V.int 6 = V.int 6) = true then (1 : Int) else 0) = ((1 : Nat) : Int) := by decide
      rw [ei, sg_app, sg_app, ta, show ((a : Int) + ((1 : Nat) : Int)) = ((a + 1 : Nat) : Int) by omega, sg_drop, List.append_assoc]
      exact bnt_put _ _ 1 (by decide) hp
    · rw [dI _ _ e6]
      have ei : (if false = true then (1 : Int) else 0) = ((0 : Nat) : Int) := by decide
      rw [ei, sg_app, sg_app, ta, show ((a : Int) + ((0 : Nat) : Int)) = ((a + 0 : Nat) : Int) by omega, sg_drop, List.append_assoc]
      exact bnt_put _ _ 0 (by decide) hp
end
end Kb

namespace Kb
open PySem PySem.Spec PyProof.Rows L2 Mq Rz LamX
theorem op_mulS {X : Cx} : OpR X (binaryOp .Mult) (fun x y H Q => ∃ (z : Str) (n : Int), x = .str z ∧ y = .int n ∧ MulOk z n ∧ Q (.str (Txt.mul z n)) H) := by
  intro pins s σ H x y v u Q I rx ry h
  obtain ⟨z, n, rfl, rfl, ok, q⟩ := h
  obtain ⟨t, rfl⟩ := rx
  obtain ⟨t', rfl⟩ := ry
  exact SB.mul ok (fun t' tk => ⟨.str (Txt.mul z n), H, I.tok _, ⟨_, rfl⟩, q⟩)
/-! ### the deep text -/
def deepT : Str := Txt.mul "2(" 120 ++ ("a" : Str) ++ Txt.mul ")" 120
theorem deep_len : deepT.length = 361 := by decide +kernel
theorem deep_ok : wrong (sg deepT) = none := by decide +kernel
theorem deep_ft : ((psl (sg deepT) ([], [], [])).any fun q => q.2.1.isEmpty && decide ((allF (flush q.1 q.2.2)).head? = some .deep)) = true := by decide +kernel
theorem deep_cut : wrong (sg (cutS deepT none (some (-1)))) = some 360 ∧ (cutS deepT none (some (-1))).length ≤ 3000 := by decide +kernel
theorem deep_at {xs : List It} (h : Prs (sg deepT) xs) : (allF xs).head? = some .deep := by
  obtain ⟨f, u, e, rfl⟩ := h
  have d := deep_ft
  rw [e] at d
  simp only [Option.any_some, Bool.and_eq_true, decide_eq_true_eq] at d
  exact d.2
theorem str_of {K : PySem.W.Frag} {H : Hp} {v : V} {pd : PyData} (h : Gd.Vd K H v pd) : ∃ t b, TyX K H v t ∧ PySem.W.kitOne K t (.type "str") = some b := by
  rcases h with h | ⟨a, rfl, e, _⟩ | ⟨a, x, i, rfl, e, _⟩
  · cases h with
    | non => exact ⟨_, false, .base .non, kit_ty (by decide +kernel)⟩
    | bl b => exact ⟨_, false, .base (.bl b), kit_ty (by decide +kernel)⟩
    | int i => exact ⟨_, false, .base (.int i), kit_ty (by decide +kernel)⟩
    | str z => exact ⟨_, true, .base (.str z), kit_ty (by decide +kernel)⟩
    | lst e _ =>
      rcases e with (e | ⟨o, e⟩) | ⟨o, its, n, e, hc, _⟩
      · exact ⟨_, false, .base (.lst e), kit_ty (by decide +kernel)⟩
      · exact ⟨_, false, .base (.frz e), kit_ty (by decide +kernel)⟩
      · exact ⟨_, false, .kList e hc, kit_ty (by decide +kernel)⟩
    | tup e _ =>
      rcases e with (e | ⟨o, e⟩) | ⟨o, its, n, e, hc, _⟩
      · exact ⟨_, false, .base (.tup e), kit_ty (by decide +kernel)⟩
      · exact ⟨_, false, .fTuple e, kit_ty (by decide +kernel)⟩
      · exact ⟨_, false, .kTuple e hc, kit_ty (by decide +kernel)⟩
  · exact ⟨_, false, .base (.dK e), kit_ty (by decide +kernel)⟩
  · exact ⟨_, false, .base (.dK e), kit_ty (by decide +kernel)⟩
/-! ### sizes of what is read -/
theorem ftsL_flush (f : List It) (w : List Nat) : ftsL (flush f w) = ftsL f := by
  cases w with
  | nil => rfl
  | cons c r =>
    simp only [flush, ftsL_app, ftsL]
    have : ∀ i : It, (∀ n xs, i ≠ .times n xs) → fts i = [] := fun i h => by
      cases i with
      | times n xs => exact absurd rfl (h n xs)
      | _ => rfl
    rw [this _ (by
      intro n xs
      split
      · simp
      · split <;> simp)]
    simp
theorem ownF_len (n : Int) (xs : List It) : (ownF n xs).length ≤ 3 := by
  unfold ownF
  split <;> split <;> split <;> simp
theorem fl_run : ∀ (l : List Nat) (q q' : P3), psl l q = some q' → (tot (q'.1, q'.2.1)).length ≤ (tot (q.1, q.2.1)).length + 3 * l.length
  | [], q, q', h => by
    simp only [psl, Option.some.injEq] at h
    subst h
    simp
  | c :: r, (f, pl, w), q', h => by
    simp only [psl] at h
    cases hs : pst (f, pl, w) c with
    | none => rw [hs] at h; cases h
    | some t =>
      rw [hs, Option.bind_some] at h
      have i := fl_run r t q' h
      have j : (tot (t.1, t.2.1)).length ≤ (tot (f, pl)).length + 3 := by
        simp only [pst] at hs
        split at hs
        · cases hs
          simp [tot, ftsP, ftsL]
        · split at hs
          · cases hs
            simp [tot, ftsL_flush]
          · split at hs
            · cases pl with
              | nil => cases hs
              | cons x r2 =>
                obtain ⟨n, o⟩ := x
                cases hs
                have := ownF_len n (flush f w)
                simp only [tot, ftsP, ftsL_app, ftsL, fts, ftsL_flush, List.length_append, List.length_nil]
                omega
            · cases hs
              simp
      simp only [List.length_cons]
      omega
theorem prs_ft {l : List Nat} {xs : List It} (h : Prs l xs) : (ftsL xs).length ≤ 3 * l.length := by
  obtain ⟨f, u, e, rfl⟩ := h
  have := fl_run l _ _ e
  rw [ftsL_flush]
  simp only [tot, ftsP, ftsL, List.nil_append, List.length_nil, Nat.zero_add] at this
  exact this
theorem prs_lv {l : List Nat} {xs : List It} (h : Prs l xs) : lvL xs ≤ mp l := by
  obtain ⟨f, u, e, rfl⟩ := h
  exact lv_read e
/-- all functions that the law calls -/
structure Fu (P : Program) (w : World) (K : PySem.W.Frag) (mg : Str → Option Value) (base : Heap) : Prop where
  pen : Of P w K mg base 1 "_law_pen" (spPen K)
  names : Of P w K mg base 4 "_law_names" spNames
  items : Of P w K mg base 8 "_law_items" (spItems 2)
  ltx : Of P w K mg base 4 "_law_text" (spLTx 2)
  bent : Of P w K mg base 3 "_law_bent" spBent
  wrong : Of P w K mg base 2 "_law_wrong" spWr
  told : Of P w K mg base 10 "_law_told" (spTold K)
  parsed : Of P w K mg base 1 "_law_parsed" spPar
  faults : Of P w K mg base 130 "_law_faults" (spFl 128)
  any : Of P w K mg base 3 "_law_any_value" (spAny K)
def spLaw (K : PySem.W.Frag) : Sp := fun vs H Q _ => ∃ (a : Addr) (ns : List Int), vs = [.ref a] ∧ SqL K H a (ns.map V.int) ∧ ns.length ≤ 63 ∧ ∀ G, Q (.bl true) G
/-! ### data of answers -/
def fD : Ft → PyData
  | .item => .tuple [.str "item", .str "number"]
  | .many => .tuple [.str "many", .int 6]
  | .deep => .tuple [.str "deep", .int 2]
theorem fD_shaped (e : Ft) : SeqAt.shaped (fD e) = true := by cases e <;> decide +kernel
theorem dp_fD {K : PySem.W.Frag} {H : Hp} {a : Addr} {e : Ft} (h : H a = some (.tup (ftV e))) : Dp K H (.ref a) (fD e) := by
  cases e
  · exact .tup (SqT.of h) (.cons (.str _) (.cons (.str _) .nil))
  · exact .tup (SqT.of h) (.cons (.str _) (.cons (.int _) .nil))
  · exact .tup (SqT.of h) (.cons (.str _) (.cons (.int _) .nil))
theorem dp_fs {K : PySem.W.Frag} {H : Hp} : ∀ {vs : List V} {fs : List Ft}, FsAt H vs fs → DpAll K H vs (fs.map fD)
  | _, _, .nil => .nil
  | _, _, .cons h r => .cons (dp_fD h) (dp_fs r)
theorem lay_fs : ∀ fs : List Ft, PyData.canLayAll0 (fs.map fD) = true ∧ PyData.depthAll (fs.map fD) ≤ 1
  | [] => ⟨rfl, by simp [PyData.depthAll]⟩
  | e :: r => by
    obtain ⟨h1, h2⟩ := lay_fs r
    have h3 := SeqAt.canLay_of_shaped (fD_shaped e)
    have h4 : (fD e).depth ≤ 1 := by cases e <;> decide +kernel
    refine ⟨by simp only [List.map_cons, PyData.canLayAll0, h1, h3]; rfl, ?_⟩
    simp only [List.map_cons, PyData.depthAll]
    omega
theorem fs_shaped (fs : List Ft) : SeqAt.shaped (.list (fs.map fD)) = true := by
  obtain ⟨h1, h2⟩ := lay_fs fs
  show (PyData.canLay0 (.list (fs.map fD)) && decide ((PyData.list (fs.map fD)).depth ≤ 64)) = true
  rw [show PyData.canLay0 (.list (fs.map fD)) = true by simpa [PyData.canLay0] using h1, show (PyData.list (fs.map fD)).depth = PyData.depthAll (fs.map fD) + 1 by simp [PyData.depth], decide_eq_true (by omega)]
  rfl
theorem read_shaped {xs : List It} (h : okIs xs = true) (hl : lvL xs ≤ 2) : SeqAt.shaped (.tuple [.str "read", .list (dIs xs)]) = true := by
  obtain ⟨h1, h2⟩ := canLay_Is h
  have h0 : PyData.strOk "read" = true := by decide +kernel
  show (PyData.canLay0 (.tuple [.str "read", .list (dIs xs)]) && decide ((PyData.tuple [.str "read", .list (dIs xs)]).depth ≤ 64)) = true
  rw [show PyData.canLay0 (.tuple [.str "read", .list (dIs xs)]) = true by simp only [PyData.canLay0, PyData.canLayAll0, h1, h0]; rfl, decide_eq_true (by simp only [PyData.depth, PyData.depthAll]; omega)]
  rfl
theorem ti_shaped (k : Int) : SeqAt.shaped (.tuple [.str "text", .int k]) = true := by
  have h0 : PyData.strOk "text" = true := by decide +kernel
  show (PyData.canLay0 (.tuple [.str "text", .int k]) && decide ((PyData.tuple [.str "text", .int k]).depth ≤ 64)) = true
  rw [show PyData.canLay0 (.tuple [.str "text", .int k]) = true by simp only [PyData.canLay0, PyData.canLayAll0, h0]; rfl, decide_eq_true (by simp only [PyData.depth, PyData.depthAll]; omega)]
  rfl
theorem dp_ti {K : PySem.W.Frag} {H : Hp} {a : Addr} {z : Str} {k : Int} (h : H a = some (.tup [.str z, .int k])) : Dp K H (.ref a) (.tuple [.str z, .int k]) := .tup (SqT.of h) (.cons (.str _) (.cons (.int _) .nil))
theorem eqS {d : PyData} (h : SeqAt.shaped d = true) : (!PyData.eqv d d) = false := by rw [SeqAt.eqv_refl _ (SeqAt.canLay_of_shaped h)]; rfl
/-- what told answers to a right text -/
def Ans (t : Addr) (xs : List It) (G : Hp) : Prop := (∃ e, (allF xs).head? = some e ∧ G t = some (.tup (ftV e))) ∨ (allF xs = [] ∧ okIs xs = true ∧ ∃ l us, G t = some (.tup [.str "read", .ref l]) ∧ G l = some (.lst us) ∧ DtsAt G us xs)
theorem Ans.same {t : Addr} {xs : List It} {G G2 : Hp} (h : Ans t xs G) (s : Same G G2) : Ans t xs G2 := by
  rcases h with ⟨e, h1, h2⟩ | ⟨h1, h2, l, us, h3, h4, h5⟩
  · exact .inl ⟨e, h1, s _ _ h2⟩
  · exact .inr ⟨h1, h2, l, us, s _ _ h3, s _ _ h4, h5.kd (.of_same s)⟩
end Kb

namespace Kb
open PySem PySem.Spec PyProof.Rows L2 Mq Rz LamX
section
variable {P : Program} {w : World} {K : PySem.W.Frag} {mg : Str → Option Value} {base : Heap}
theorem ok_law {f : Addr} {fd : FuncData} (F : FunD K "law" "law" (defArgs s_law) (defBody s_law) (defScope s_law) [] [] f fd) (T : Bt mg) (U : Fu P w K mg base) :
    Gd.FnG P w K mg base (LX P w) 131 f fd ["_law_script"] (spLaw K) := by
  refine Gd.fnG_of (k := 130) F sc_law (fun vs H Q E h => ?_) (fun cdv A outer s H vs Q E gA hr h => ?_)
  · obtain ⟨a, ns, rfl, _⟩ := h
    rfl
  · have nd := sc_law.nd
    have hu := hr.units
    refine ⟨_, PSs.nox (pss_cons (ps_set (i := 1) nd rfl (Or.inl rfl) (pe_of (E := E0) U.pen hr rfl passL (pa_cons (pv 0) pa_nil)))
      (pss_cons (ps_for PassesOwn.never rfl (pi_range1 rfl T.range (pa_cons (pe_op op_add pe_int (pe_callB (call_min2 rfl) (by rfl) T.min (by decide +kernel) (pa_cons pe_int (pa_cons (pe_callB call_len_seq (by rfl) T.len PySem.boot_len (pa_cons (pv 0) pa_nil)) pa_nil)))) pa_nil)) (pg_name (i := 2) nd rfl (Or.inl rfl))
        (pss_cons (ps_set (i := 3) nd rfl (Or.inl rfl) (pe_of (E := E0) U.ltx hr rfl passL (pa_cons (pe_of (E := E0) U.items hr rfl passL (pa_cons (pv 1) (pa_cons (pe_of (E := E0) U.names hr rfl passL (pa_cons (pv 1) pa_nil)) (pa_cons pe_int (pa_cons pe_int pa_nil))))) pa_nil)))
        (C8.pss_cut (ps_for PassesOwn.never rfl (pi_range1 rfl T.range (pa_cons pe_int pa_nil)) (pg_name (i := 4) nd rfl (Or.inl rfl))
          (pss_cons (ps_set (i := 3) nd rfl (Or.inl rfl) (pe_of (E := E0) U.bent hr rfl passL (pa_cons (pv 1) (pa_cons (pv 3) pa_nil))))
          (C8.pss_cut (ps_par (i := 5) (j := 6) (by rfl) nd rfl rfl (by decide) rfl rfl (pa_cons (pe_of (E := E0) U.wrong hr rfl passL (pa_cons (pv 3) pa_nil)) (pa_cons (pe_of (E := E0) U.told hr rfl passL (pa_cons (pv 3) pa_nil)) pa_nil)) (by rfl))
          (pss_cons (ps_if (PW.pt (pw_and (pt_cmpR op_notN (pv 5) pe_non (nomark _)) (pw_and1 (pt_cmpR (op_neD hu) (pv 6) (pe_tup (pa_cons pe_str (pa_cons (pv 5) pa_nil))) (nomark _))))) (pss_one (ps_ret pe_bl)) pss_nil)
          (pss_one (ps_if (pt_cmpR op_isN (pv 5) pe_non (nomark _))
            (pss_cons (ps_set (i := 7) nd rfl (Or.inl rfl) (pe_of (E := E0) U.parsed hr rfl passL (pa_cons (pv 3) pa_nil)))
            (C8.pss_cut (ps_set (i := 8) nd rfl (Or.inl rfl) (pe_op op_cat (pe_of (E := E0) U.faults hr rfl passL (pa_cons (pv 7) pa_nil)) (pe_ifExp (pt_cmpR op_gt (pe_callB call_len_seq (by rfl) T.len PySem.boot_len (pa_cons (pv 7) pa_nil)) pe_int (nomark _)) (pe_lst (pa_cons (pe_tup (pa_cons pe_str (pa_cons pe_int pa_nil))) pa_nil)) (pe_lst pa_nil))))
            (pss_one (ps_if (pt_cmpR (op_neD hu) (pv 6) (pe_ifExp (pt_cmpR (op_neD hu) (pv 8) (pe_lst pa_nil) (nomark _)) (pe_ix ix_list (pv 8) pe_int (fun _ _ => rfl)) (pe_tup (pa_cons pe_str (pa_cons (pv 7) pa_nil)))) (nomark _)) (pss_one (ps_ret pe_bl)) pss_nil))))
            pss_nil))))))
        (pss_cons (ps_set (i := 9) nd rfl (Or.inl rfl) (pe_of (E := E0) U.any hr rfl passL (pa_cons (pv 1) pa_nil)))
        (pss_one (ps_if (PW.pt (pw_and (pt_not (pt_val (pe_callB call_isi (by rfl) T.isi (by decide +kernel) (pa_cons (pv 9) (pa_cons (pe_bltn (v := .ty "str") (by rfl) T.str (by decide +kernel) rfl) pa_nil))))) (pw_and1 (pt_cmpR (op_neD hu) (pe_of (E := E0) U.told hr rfl passL (pa_cons (pv 9) pa_nil)) (pe_tup (pa_cons pe_str (pa_cons pe_int pa_nil))) (nomark _))))) (pss_one (ps_ret pe_bl)) pss_nil)))))
      )
      (pss_cons (ps_set (i := 10) nd rfl (Or.inl rfl) (pe_op op_add_str (pe_op op_add_str (pe_op op_mulS pe_str pe_int) pe_str) (pe_op op_mulS pe_str pe_int)))
      (pss_cons (ps_if (PW.pt (pw_or (pt_cmpR (op_neD hu) (pe_of (E := E0) U.told hr rfl passL (pa_cons (pv 10) pa_nil)) (pe_tup (pa_cons pe_str (pa_cons pe_int pa_nil))) (nomark _)) (pw_or1 (pt_cmpR (op_neD hu) (pe_of (E := E0) U.told hr rfl passL (pa_cons (pe_slice sl_str (pv 10) po_none (po_some (pe_un un_neg pe_int))) pa_nil)) (pe_tup (pa_cons pe_str (pa_cons (pe_op op_sub (pe_callB call_len_str (by rfl) T.len PySem.boot_len (pa_cons (pv 10) pa_nil)) pe_int) pa_nil))) (nomark _))))) (pss_one (ps_ret pe_bl)) pss_nil)
      (pss_one (ps_ret (pe_and (pe_cmpR (op_eqD hu) (pe_of (E := E0) U.told hr rfl passL (pa_cons pe_str pa_nil)) (pe_tup (pa_cons pe_str (pa_cons pe_int pa_nil))) (nomark _)) (pe_and (pe_cmpR (op_eqD hu) (pe_of (E := E0) U.told hr rfl passL (pa_cons pe_str pa_nil)) (pe_tup (pa_cons pe_str (pa_cons pe_int pa_nil))) (nomark _)) (pe_one (pe_cmpR (op_eqD hu) (pe_of (E := E0) U.told hr rfl passL (pa_cons pe_str pa_nil)) (pe_tup (pa_cons pe_str (pa_cons pe_int pa_nil))) (nomark _))))))))))), ?_⟩
    obtain ⟨a, ns, rfl, hS, hn, q⟩ := h
    refine ⟨_, rfl, a, ns, rfl, hS, fun d lc H1 sm1 hd0 hP1 => ?_⟩
    refine ⟨_, rfl, a, _, rfl, .inl (sm1.seq hS), _, _, rfl, _, _, rfl, rfl, _, rfl, ?_, ?_, for_it walk_range (fun j σ G => (∃ x2 x3 x4 x5 x6 x7 x8 x9 x10, σ = [some (.ref a), some (.ref d), x2, x3, x4, x5, x6, x7, x8, x9, x10]) ∧ PenAt G d lc (j * 1000)) ⟨⟨_, _, _, _, _, _, _, _, _, rfl⟩, by simpa using hP1⟩ (fun _ _ _ _ _ => trivial) ?_ ?_⟩
    · split <;> omega
    · split <;> omega
    · rintro j x σ G0 G0' hj ⟨⟨x2, x3, x4, x5, x6, x7, x8, x9, x10, rfl⟩, gP⟩ ⟨rfl, rfl⟩
      have hc2 : cst 2 = 34 := by decide
      have hj20 : j ≤ 20 := by
        revert hj
        split <;> omega
      -- the text
      refine ⟨_, rfl, _, rfl, d, lc, _, rfl, gP, by omega, fun t G1 hN hP2 hb2 => ?_⟩
      refine ⟨d, lc, t, _, 5, rfl, hP2, by omega, hN, by decide, by decide, by decide, fun l us xs G2 hl0 hl1 hds hxl hlv P2 hb3 => ?_⟩
      have hd2 : DtsAt G2 us xs := hds.kd .of_newp
      have hok := hd2.ok
      refine ⟨l, us, xs, rfl, hl1, hd2, hlv, by decide, by omega, fun z0 G3 s3 hz0 => ?_⟩
      have P3 := P2.same s3
      have m0 : mp (sg z0) ≤ 2 := by
        rw [hz0]
        have := gp_txL xs 0 hok
        unfold mp
        omega
      have n0 : z0.length ≤ 2219 := by
        rw [← sg_len, hz0]
        exact len_top hok hlv (by omega)
      clear hds hb3 hN hb2 hP2 hd2 hl1 hl0 P2 s3 hz0
      refine ⟨fun σ G => (∃ x2 x3 x4 x5 x6 x7 x8 x9 x10, σ = [some (.ref a), some (.ref d), x2, x3, x4, x5, x6, x7, x8, x9, x10]) ∧ PenAt G d lc ((j : Int) * 1000 + 900), ?_, ?_⟩
      · refine ⟨_, rfl, by decide, by decide, for_it walk_range (fun i σ G => ∃ (z : Str) (x2 x4 x5 x6 x7 x8 x9 x10 : Option V), σ = [some (.ref a), some (.ref d), x2, some (.str z), x4, x5, x6, x7, x8, x9, x10] ∧ PenAt G d lc ((j : Int) * 1000 + 800 + 3 * i) ∧ mp (sg z) ≤ 2 ^ (i + 1) ∧ z.length ≤ 2219 + 12 * i) ⟨z0, _, _, _, _, _, _, _, _, rfl, P3.mono (by omega), m0, n0⟩ (fun _ _ _ _ _ => trivial) ?_ ?_⟩
        · rintro i x σ G4 G4' hi ⟨z, x2, x4, x5, x6, x7, x8, x9, x10, rfl, P4, hm, hl⟩ ⟨rfl, rfl⟩
          have hi6 : i < 6 := hi
          refine ⟨_, rfl, _, rfl, d, lc, _, z, rfl, P4, by omega, by omega, fun z' G5 hB P5 b5 => ?_⟩
          have hm' : mp (sg z') ≤ 2 ^ (i + 1 + 1) := by
            have h1 := hB.1
            have h2 : 2 ≤ 2 ^ (i + 1) := by
              have := Nat.one_le_two_pow (n := i)
              rw [Nat.pow_succ]
              omega
            rw [Nat.pow_succ 2 (i + 1)]
            omega
          have hl' : z'.length ≤ 2219 + 12 * (i + 1) := by
            have h1 := hB.2
            rw [sg_len, sg_len] at h1
            omega
          have hm128 : mp (sg z') ≤ 128 := Nat.le_trans hm' (by
            have : 2 ^ (i + 1 + 1) ≤ 2 ^ 7 := Nat.pow_le_pow_right (by decide) (by omega)
            omega)
          have hl3 : z'.length ≤ 3000 := by omega
          have go : ∀ (G : Hp) (y2 y4 y5 y6 y7 y8 y9 y10 : Option V), Same G5 G → ∃ (z : Str) (x2 x4 x5 x6 x7 x8 x9 x10 : Option V), [some (V.ref a), some (.ref d), y2, some (.str z'), y4, y5, y6, y7, y8, y9, y10] = [some (.ref a), some (.ref d), x2, some (.str z), x4, x5, x6, x7, x8, x9, x10] ∧ PenAt G d lc ((j : Int) * 1000 + 800 + 3 * ((i + 1 : Nat) : Int)) ∧ mp (sg z) ≤ 2 ^ (i + 1 + 1) ∧ z.length ≤ 2219 + 12 * (i + 1) := fun G y2 y4 y5 y6 y7 y8 y9 y10 s => ⟨z', _, _, _, _, _, _, _, _, rfl, (P5.same s).mono (by omega), hm', hl'⟩
          -- both answers
          refine ⟨fun σ G => ∃ (wv : V) (t : Addr), σ = [some (.ref a), some (.ref d), x2, some (.str z'), some (.int (0 + (i : Int))), some wv, some (.ref t), x7, x8, x9, x10] ∧ Same G5 G ∧ ((∃ k : Nat, wv = .int k ∧ G t = some (.tup [.str "text", .int (k : Nat)])) ∨ (wv = .non ∧ wrong (sg z') = none ∧ ∃ xs, Prs (sg z') xs ∧ Ans t xs G)), ?_, ?_⟩
          · refine ⟨_, rfl, z', rfl, hl3, fun hw G6 s6 => ?_, fun k hk G6 s6 => ?_⟩
            · obtain ⟨ys, hp, wy⟩ := read_ex hw
              refine ⟨_, rfl, .str z', rfl, .inl ⟨z', rfl, hl3, (fun k hk => by rw [hw] at hk; cases hk), fun _ ys2 hp2 => ⟨fun e he t G7 s7 gt => ⟨_, _, rfl, ?_⟩, fun hf hok2 t l us G7 s7 gt gl gD => ⟨_, _, rfl, ?_⟩⟩⟩⟩
              · exact ⟨.non, t, rfl, s6.trans s7, .inr ⟨rfl, hw, ys2, hp2, .inl ⟨e, he, gt⟩⟩⟩
              · exact ⟨.non, t, rfl, s6.trans s7, .inr ⟨rfl, hw, ys2, hp2, .inr ⟨hf, hok2, l, us, gt, gl, gD⟩⟩⟩
            · refine ⟨_, rfl, .str z', rfl, .inl ⟨z', rfl, hl3, fun k2 hk2 t G7 s7 gt => ⟨_, _, rfl, ?_⟩, fun hn => by rw [hk] at hn; cases hn⟩⟩
              rw [hk] at hk2
              cases hk2
              exact ⟨.int k, t, rfl, s6.trans s7, .inl ⟨k, rfl, gt⟩⟩
          rintro σ G6 ⟨wv, t, rfl, s6, ⟨k, rfl, gt⟩ | ⟨rfl, hw, ys, hp, hA⟩⟩
          · refine ⟨_, rfl, rfl, _, rfl, ifT (by rfl) ⟨_, rfl, _, rfl, sz 2 (by decide), fun t2 ht2 => ?_⟩⟩
            refine ⟨_, _, dp_ti (same_new ht2 _ _ gt), dp_ti upd_same, ti_shaped _, ti_shaped _, _, rfl, ifF (eqS (ti_shaped _)) ?_⟩
            refine ⟨_, rfl, rfl, _, rfl, ifF (decide_eq_false (by intro e; cases e)) ?_⟩
            exact go _ _ _ _ _ _ _ _ _ (s6.trans (same_new ht2))
          · refine ⟨_, rfl, rfl, _, rfl, ifF (by rfl) ?_⟩
            refine ⟨_, rfl, rfl, _, rfl, ifT (decide_eq_true rfl) ?_⟩
            refine ⟨_, rfl, z', rfl, hl3, hw, fun ys2 hp2 l us G7 s7 hl7 gl hPd hul => ?_⟩
            obtain rfl := prs_eq hp2 hp
            have lv8 := prs_lv hp
            have ft8 := prs_ft hp
            rw [sg_len] at ft8
            have hA7 := hA.same s7
            have hyl := hPd.length
            refine ⟨fun σ G => ∃ (p : Addr) (vs : List V), σ = [some (.ref a), some (.ref d), x2, some (.str z'), some (.int (0 + (i : Int))), some .non, some (.ref t), some (.ref l), some (.ref p), x9, x10] ∧ Same G7 G ∧ G p = some (.lst vs) ∧ FsAt G vs (allF ys2), ?_, ?_⟩
            · refine ⟨_, rfl, l, us, ys2, rfl, gl, hPd, by omega, by omega, by omega, fun p vs G8 s8 gp hF => ?_⟩
              have w1 := hF.length
              refine ⟨_, rfl, l, _, rfl, .inl (SqL.of (s8 _ _ gl)), _, _, rfl, rfl, _, rfl, ?_⟩
              unfold allF
              by_cases c : ys2.length > 6
              · rw [if_pos c]
                refine ifT (decide_eq_true (by show (us.length : Int) > 6; omega)) ⟨sz 2 (by decide), fun t2 ht => ⟨sz 1 (by decide), fun tl htl => ⟨p, tl, _, _, rfl, rfl, same_new htl _ _ (same_new ht _ _ gp), upd_same, by rw [sizeLine_eq]; simp; omega, fun np hnp => ?_⟩⟩⟩
                obtain ⟨s9, f9⟩ := cat1 .many rfl hF ht htl hnp
                exact ⟨np, _, rfl, s8.trans s9, upd_same, f9⟩
              · rw [if_neg c]
                refine ifF (decide_eq_false (by show ¬(us.length : Int) > 6; omega)) ⟨sz 0 (by decide), fun tl htl => ⟨p, tl, _, _, rfl, rfl, same_new htl _ _ gp, upd_same, by rw [sizeLine_eq]; simp; omega, fun np hnp => ?_⟩⟩
                obtain ⟨s9, f9⟩ := cat0 hF htl hnp
                exact ⟨np, _, rfl, s8.trans s9, upd_same, f9⟩
            rintro σ G8 ⟨p, vs, rfl, s8, gp, hF⟩
            have hA8 := hA7.same s8
            have S8 := s6.trans (s7.trans s8)
            refine ⟨_, rfl, _, rfl, sz 0 (by decide), fun l0 h0 => ?_⟩
            have s9 := same_new (o := .lst []) h0
            refine ⟨_, _, .lst (SqL.of (s9 _ _ gp)) (dp_fs (hF.same s9)), .lst (SqL.of upd_same) .nil, fs_shaped _, (by decide +kernel), _, rfl, ?_⟩
            rw [eqv_nil]
            have hA9 := hA8.same s9
            rcases hA9 with ⟨e, he, gt⟩ | ⟨hf, hok2, l3, us3, gt, gl3, gD⟩
            · cases hfs : allF ys2 with
              | nil => rw [hfs] at he; cases he
              | cons e2 r =>
                rw [hfs] at he hF
                cases he
                cases hF with
                | @cons a0 _ vs0 _ h0' r0 =>
                refine ifT (by rfl) ⟨_, rfl, p, _, _, .ref a0, rfl, rfl, SqL.of (s9 _ _ gp), atI_nat (j := 0) rfl, ?_⟩
                refine ⟨_, _, dp_fD gt, dp_fD (s9 _ _ h0'), fD_shaped _, fD_shaped _, _, rfl, ifF (eqS (fD_shaped _)) ?_⟩
                exact go _ _ _ _ _ _ _ _ _ (S8.trans s9)
            · rw [hf]
              have lv2 := lv_ftsL (allF_nil hf).1
              refine ifF (by rfl) ⟨_, rfl, sz 2 (by decide), fun t2 ht2 => ?_⟩
              have s10 := same_new (o := .tup [.str "read", .ref l]) ht2
              have sA := (s8.trans s9).trans s10
              refine ⟨_, _, .tup (SqT.of (s10 _ _ gt)) (.cons (.str _) (.cons (.lst (SqL.of (s10 _ _ gl3)) (gD.kd (.of_same s10)).dp) .nil)), .tup (SqT.of upd_same) (.cons (.str _) (.cons (.lst (SqL.of (sA _ _ gl)) ((hPd.dt hok2).kd (.of_same sA)).dp) .nil)), read_shaped hok2 lv2, read_shaped hok2 lv2, _, rfl, ifF (eqS (read_shaped hok2 lv2)) ?_⟩
              exact go _ _ _ _ _ _ _ _ _ ((S8.trans s9).trans s10)
        · rintro σ G ⟨z, x2, x4, x5, x6, x7, x8, x9, x10, rfl, P4, _, _⟩
          exact ⟨⟨_, _, _, _, _, _, _, _, _, rfl⟩, P4.mono (by show (j : Int) * 1000 + 800 + 3 * (6 : Nat) ≤ _; omega)⟩
      · rintro σ G ⟨⟨x2, x3, x4, x5, x6, x7, x8, x9, x10, rfl⟩, P6⟩
        refine ⟨_, rfl, d, lc, _, rfl, P6, by omega, fun v pd G2 hm hv P7 b7 => ?_⟩
        obtain ⟨ty, b, hty, kt⟩ := str_of hv
        refine ⟨_, rfl, v, _, ty, _, b, rfl, .ty "str", hty, kt, b, rfl, ?_⟩
        cases b with
        | true => exact ifF (by rfl) ⟨⟨_, _, _, _, _, _, _, _, _, rfl⟩, P7.mono (by omega)⟩
        | false =>
          refine ifT (by rfl) ⟨_, rfl, v, rfl, .inr ⟨ty, hty, kt, fun t2 G3 s3 gt => ⟨sz 2 (by decide), fun t3 ht3 => ?_⟩⟩⟩
          refine ⟨_, _, dp_ti (same_new ht3 _ _ gt), dp_ti upd_same, ti_shaped _, ti_shaped _, _, rfl, ifF (eqS (ti_shaped _)) ?_⟩
          exact ⟨⟨_, _, _, _, _, _, _, _, _, rfl⟩, ((P7.same s3).same (same_new ht3)).mono (by omega)⟩
    · rintro σ G ⟨⟨x2, x3, x4, x5, x6, x7, x8, x9, x10, rfl⟩, gP⟩
      have ok1 : MulOk "2(" 120 := by refine ⟨by decide, fun _ _ => ?_, fun _ _ => ?_⟩ <;> decide +kernel
      have ok2 : MulOk ")" 120 := by refine ⟨by decide, fun _ _ => ?_, fun _ _ => ?_⟩ <;> decide +kernel
      have ln1 : (Txt.mul "2(" 120).length = 240 := by decide +kernel
      have ln2 : (Txt.mul ")" 120).length = 120 := by decide +kernel
      have ln3 : (Txt.mul "2(" 120 ++ ("a" : Str)).length = 241 := by decide +kernel
      refine ⟨_, _, rfl, rfl, ok1, _, _, rfl, rfl, ?_, _, _, rfl, rfl, ok2, _, _, rfl, rfl, ?_, ?_⟩
      · rw [ln1, show (("a" : Str)).length = 1 by rfl, sizeLine_eq]
        decide
      · rw [ln2, ln3, sizeLine_eq]
        decide
      change _ at q
      have dl := deep_len
      have dz : deepT.length ≤ sizeLine := by rw [dl, sizeLine_eq]; decide
      refine ⟨_, rfl, .str deepT, rfl, .inl ⟨deepT, rfl, by rw [dl]; decide, fun k hk => (by rw [deep_ok] at hk; cases hk), fun _ xs hp => ⟨fun e he t1 G1 s1 g1 => ?_, fun hf => ?_⟩⟩⟩
      rotate_left
      · have := deep_at hp
        rw [hf] at this
        cases this
      have he2 := deep_at hp
      rw [he] at he2
      cases he2
      refine ⟨sz 2 (by decide), fun t2 ht2 => ?_⟩
      refine ⟨_, _, dp_fD (e := .deep) (same_new ht2 _ _ g1), dp_fD (e := .deep) upd_same, fD_shaped _, fD_shaped _, _, rfl, ifF (eqS (fD_shaped _)) ?_⟩
      refine ⟨_, rfl, _, rfl, _, rfl, deepT, rfl, dz, .str (cutS deepT none (some (-1))), rfl, .inl ⟨_, rfl, deep_cut.2, fun k hk t3 G3 s3 g3 => ?_, fun hn => (by rw [deep_cut.1] at hn; cases hn)⟩⟩
      rw [deep_cut.1] at hk
      cases hk
      refine ⟨_, rfl, deepT, rfl, dz, _, _, rfl, rfl, sz 2 (by decide), fun t4 ht4 => ?_⟩
      have e360 : ((deepT.length : Nat) : Int) - 1 = ((360 : Nat) : Int) := by rw [dl]; decide
      refine ⟨_, _, dp_ti (same_new ht4 _ _ g3), dp_ti (z := "text") (k := ((360 : Nat) : Int)) (upd_same.trans (by
        show some (HO.tup [V.str "text", V.int (((deepT.length : Nat) : Int) - 1)]) = _
        rw [e360])), ti_shaped _, ti_shaped _, _, rfl, ifF (eqS (ti_shaped _)) ?_⟩
      have eqT : ∀ k : Int, PyData.eqv (.tuple [.str "text", .int k]) (.tuple [.str "text", .int k]) = true := fun k => SeqAt.eqv_refl _ (SeqAt.canLay_of_shaped (ti_shaped k))
      have w1 : wrong (sg "01()") = some 1 := by decide +kernel
      have w2 : wrong (sg "a ") = some 2 := by decide +kernel
      have w3 : wrong (sg "3(a") = some 3 := by decide +kernel
      refine ⟨.str "01()", rfl, .inl ⟨_, rfl, by decide, fun k hk t5 G5 s5 g5 => ⟨sz 2 (by decide), fun t6 ht6 => ?_⟩, fun hn => (by rw [w1] at hn; cases hn)⟩⟩
      rw [w1] at hk
      cases hk
      refine ⟨_, _, dp_ti (same_new ht6 _ _ g5), dp_ti upd_same, ti_shaped _, ti_shaped _, _, rfl, ifT (eqT _) ?_⟩
      refine ⟨.str "a ", rfl, .inl ⟨_, rfl, by decide, fun k hk t5 G5 s5 g5 => ⟨sz 2 (by decide), fun t6 ht6 => ?_⟩, fun hn => (by rw [w2] at hn; cases hn)⟩⟩
      rw [w2] at hk
      cases hk
      refine ⟨_, _, dp_ti (same_new ht6 _ _ g5), dp_ti upd_same, ti_shaped _, ti_shaped _, _, rfl, ifT (eqT _) ?_⟩
      refine ⟨.str "3(a", rfl, .inl ⟨_, rfl, by decide, fun k hk t5 G5 s5 g5 => ⟨sz 2 (by decide), fun t6 ht6 => ?_⟩, fun hn => (by rw [w3] at hn; cases hn)⟩⟩
      rw [w3] at hk
      cases hk
      refine ⟨_, _, dp_ti (same_new ht6 _ _ g5), dp_ti upd_same, ti_shaped _, ti_shaped _, ?_⟩
      show Q (.bl (PyData.eqv (.tuple [.str "text", .int ((3 : Nat) : Int)]) (.tuple [.str "text", .int ((3 : Nat) : Int)]))) _
      rw [eqT]
      exact q _
end
end Kb

/-! What the top has left. -/
namespace Kb
open PySem PySem.Spec PyProof.Rows L2
def bmV : List Value := [.type "ValueError", .type "Exception", .type "BaseException", .type "object"]
def bmT : List Value := [.type "TypeError", .type "Exception", .type "BaseException", .type "object"]
def bmL : List Value := [.type "LookupError", .type "Exception", .type "BaseException", .type "object"]
def bmO : List Value := [.type "OverflowError", .type "ArithmeticError", .type "Exception", .type "BaseException", .type "object"]
def bmR : List Value := [.type "RuntimeError", .type "Exception", .type "BaseException", .type "object"]
def fa : List He.Fa := [.glo "is_word", .glo "is_integer", .glo "is_within", .glo "is_item", .glo "made_items", .glo "made_item", .glo "_law_pen", .glo "_law_draw", .glo "_law_pick", .glo "_law_shuffled", .glo "_law_words", .glo "_law_any_value", .glo "_law_item", .glo "_law_items", .glo "_law_names", .glo "_law_made", .glo "_law_plain", .glo "_law_depth", .glo "_law_text", .glo "_law_next", .glo "_law_wrong", .glo "_law_parsed", .glo "_law_faults", .glo "_law_told", .glo "_law_bent", .glo "law", .glo "Item", .glo "Say", .glo "Press", .glo "Go", .glo "Times", .glo "Body", .glo "ItemReader", .free "super", .free "isinstance", .free "str", .free "int", .free "bool", .free "len", .free "all", .free "max", .free "tuple", .free "list", .free "enumerate", .free "range", .free "min", .free "ValueError", .int "LONGEST_WORD" (8), .int "ITEMS" (6), .int "DEPTH" (2), .int "NUMBER" (10 ^ 9), .int "MOST_DIGITS" (10), .str "LETTERS" "abcdefghijklmnopqrstuvwxyz", .str "DIGITS" "0123456789", .mkr "Say", .mkr "Press", .mkr "Go", .mkr "Times", .mkr "Body", .mkr "ItemReader", .noat "Say" "command", .noat "Press" "key", .noat "Go" "mode", .noat "Times" "number", .noat "Times" "body", .noat "Body" "own_entries", .noat "Body" "own_depth", .noat "ItemReader" "own_text", .noat "ItemReader" "own_place", .meth "Say" "levels", .meth "Press" "levels", .meth "Go" "levels", .meth "Times" "levels", .meth "ItemReader" "sign", .meth "ItemReader" "word", .meth "ItemReader" "number_here", .meth "ItemReader" "most_digits", .meth "ItemReader" "item", .meth "ItemReader" "whole", .meth "ItemReader" "fail"]
def ckE (K : PySem.W.Frag) : Bool :=
  Hk.errB K "ValueError" "ValueError.__new__" "ValueError.__init__" bmV "InvalidItem" && (Hk.errB K "TypeError" "TypeError.__new__" "TypeError.__init__" bmT "NotAnItem" && (Hk.errB K "OverflowError" "OverflowError.__new__" "OverflowError.__init__" bmO "TooMany" && (Hk.errB K "OverflowError" "OverflowError.__new__" "OverflowError.__init__" bmO "TooDeep" && (Hk.errB K "ValueError" "ValueError.__new__" "ValueError.__init__" bmV "InvalidText"))))
def erN : List Str := ["InvalidItem", "NotAnItem", "TooMany", "TooDeep", "InvalidText"]
def ckX (K : PySem.W.Frag) : Bool := erN.all fun x => Hk.excB K x && Hm.rzB K x
def ckF (K : PySem.W.Frag) : Bool := ([("InvalidItem", "field"), ("NotAnItem", "index"), ("TooMany", "limit"), ("TooDeep", "limit"), ("InvalidText", "index")] : List (Str × Str)).all fun q => Hk.eqO (PySem.W.findIn K (.ref (He.ga K q.1)) q.2) (some none)
def ckK (K : PySem.W.Frag) : Bool := (["Say", "Press", "Go", "Times", "Body", "ItemReader"] : List Str).all fun x => Hm.klB K x
def ckD (K : PySem.W.Frag) : Bool := ([("Say", "say"), ("Press", "press"), ("Go", "go"), ("Times", "times")] : List (Str × Str)).all fun q => Hm.conB K (He.ga K q.1) "KIND" q.2
def ckP (K : PySem.W.Frag) : Bool := ([("Body", "depth"), ("Body", "entries")] : List (Str × Str)).all fun q => Hm.prpB K (He.ga K q.1) q.2
def ckC (K : PySem.W.Frag) : Bool := ([("Times", "of"), ("Body", "of"), ("Body", "read")] : List (Str × Str)).all fun q => Hm.cmB K (He.ga K q.1) q.2
def ck_kit (K : PySem.W.Frag) : Bool := (["Say", "Press", "Go", "Times", "Body"] : List Str).all fun x => (["Item", "Say", "Press", "Go", "Times", "Body"] : List Str).all fun y => decide (PySem.W.kitOne K (.ref (He.ga K x)) (.ref (He.ga K y)) = some (decide (y = x) || (decide (y = "Item") && !decide (x = "Body"))))
def ck_kitT (K : PySem.W.Frag) : Bool := (["NoneType", "bool", "int", "str", "list", "tuple", "dict"] : List String).all fun t => (["Item", "Say", "Press", "Go", "Times", "Body"] : List Str).all fun y => decide (PySem.W.kitOne K (.type t) (.ref (He.ga K y)) = some false)
def ck_kitO (K : PySem.W.Frag) : Bool := (["Say", "Press", "Go", "Times", "Body"] : List Str).all fun x => (["str", "int", "bool"] : List String).all fun t => decide (PySem.W.kitOne K (.ref (He.ga K x)) (.type t) = some false)
def ck_exm (K : PySem.W.Frag) : Bool := (["InvalidText", "InvalidItem", "TooMany", "TooDeep"] : List Str).all fun x => (["InvalidText", "InvalidItem", "TooMany", "TooDeep"] : List Str).all fun y => decide (PySem.W.exmOne K (.ref (He.ga K x)) (.ref (He.ga K y)) = some (decide (x = y)))
def ck_kV (K : PySem.W.Frag) : Bool := decide (PySem.W.kitOne K (.ref (He.ga K "InvalidText")) (.type "ValueError") = some true)
def fn : List He5.DefA := [{ at_ := fun K => He.ga K "is_word", name := "is_word", qual := "is_word", params := defArgs s_is_word, body := defBody s_is_word, scope := defScope s_is_word },
  { at_ := fun K => He.ga K "is_integer", name := "is_integer", qual := "is_integer", params := defArgs s_is_integer, body := defBody s_is_integer, scope := defScope s_is_integer },
  { at_ := fun K => He.ga K "is_within", name := "is_within", qual := "is_within", params := defArgs s_is_within, body := defBody s_is_within, scope := defScope s_is_within },
  { at_ := fun K => He.ma K (He.ga K "ItemReader") "__init__", name := "__init__", qual := "ItemReader.__init__", params := defArgs s_ItemReader_init, body := defBody s_ItemReader_init, scope := defScope s_ItemReader_init },
  { at_ := fun K => He.ma K (He.ga K "ItemReader") "sign", name := "sign", qual := "ItemReader.sign", params := defArgs s_ItemReader_sign, body := defBody s_ItemReader_sign, scope := defScope s_ItemReader_sign },
  { at_ := fun K => He.ma K (He.ga K "ItemReader") "fail", name := "fail", qual := "ItemReader.fail", params := defArgs s_ItemReader_fail, body := defBody s_ItemReader_fail, scope := defScope s_ItemReader_fail },
  { at_ := fun K => He.ma K (He.ga K "ItemReader") "word", name := "word", qual := "ItemReader.word", params := defArgs s_ItemReader_word, body := defBody s_ItemReader_word, scope := defScope s_ItemReader_word },
  { at_ := fun K => He.ma K (He.ga K "ItemReader") "number_here", name := "number_here", qual := "ItemReader.number_here", params := defArgs s_ItemReader_number_here, body := defBody s_ItemReader_number_here, scope := defScope s_ItemReader_number_here },
  { at_ := fun K => He.ma K (He.ga K "ItemReader") "most_digits", name := "most_digits", qual := "ItemReader.most_digits", params := defArgs s_ItemReader_most_digits, body := defBody s_ItemReader_most_digits, scope := defScope s_ItemReader_most_digits },
  { at_ := fun K => He.ma K (He.ga K "ItemReader") "item", name := "item", qual := "ItemReader.item", params := defArgs s_ItemReader_item, body := defBody s_ItemReader_item, scope := defScope s_ItemReader_item },
  { at_ := fun K => He.ma K (He.ga K "ItemReader") "whole", name := "whole", qual := "ItemReader.whole", params := defArgs s_ItemReader_whole, body := defBody s_ItemReader_whole, scope := defScope s_ItemReader_whole },
  { at_ := fun K => He.ma K (He.ga K "Say") "__init__", name := "__init__", qual := "Say.__init__", params := defArgs s_Say_init, body := defBody s_Say_init, scope := defScope s_Say_init },
  { at_ := fun K => He.ma K (He.ga K "Press") "__init__", name := "__init__", qual := "Press.__init__", params := defArgs s_Press_init, body := defBody s_Press_init, scope := defScope s_Press_init },
  { at_ := fun K => He.ma K (He.ga K "Go") "__init__", name := "__init__", qual := "Go.__init__", params := defArgs s_Go_init, body := defBody s_Go_init, scope := defScope s_Go_init },
  { at_ := fun K => He.ma K (He.ga K "Times") "__init__", name := "__init__", qual := "Times.__init__", params := defArgs s_Times_init, body := defBody s_Times_init, scope := defScope s_Times_init },
  { at_ := fun K => He.ma K (He.ga K "Times") "levels", name := "levels", qual := "Times.levels", params := defArgs s_Times_levels, body := defBody s_Times_levels, scope := defScope s_Times_levels },
  { at_ := fun K => He.ga K "is_item", name := "is_item", qual := "is_item", params := defArgs s_is_item, body := defBody s_is_item, scope := defScope s_is_item },
  { at_ := fun K => He.ma K (He.ga K "Body") "__init__", name := "__init__", qual := "Body.__init__", params := defArgs s_Body_init, body := defBody s_Body_init, scope := defScope s_Body_init },
  { at_ := fun K => He5.wf K (He.ga K "Body") "classmethod" "read", name := "read", qual := "Body.read", params := defArgs s_Body_read, body := defBody s_Body_read, scope := defScope s_Body_read },
  { at_ := fun K => He5.wf K (He.ga K "Body") "property" "entries", name := "entries", qual := "Body.entries", params := defArgs s_Body_entries, body := defBody s_Body_entries, scope := defScope s_Body_entries },
  { at_ := fun K => He5.wf K (He.ga K "Body") "property" "depth", name := "depth", qual := "Body.depth", params := defArgs s_Body_depth, body := defBody s_Body_depth, scope := defScope s_Body_depth },
  { at_ := fun K => He.ga K "made_items", name := "made_items", qual := "made_items", params := defArgs s_made_items, body := defBody s_made_items, scope := defScope s_made_items },
  { at_ := fun K => He.ga K "made_item", name := "made_item", qual := "made_item", params := defArgs s_made_item, body := defBody s_made_item, scope := defScope s_made_item },
  { at_ := fun K => He.ga K "_law_pen", name := "_law_pen", qual := "_law_pen", params := defArgs s__law_pen, body := defBody s__law_pen, scope := defScope s__law_pen },
  { at_ := fun K => He.ga K "_law_draw", name := "_law_draw", qual := "_law_draw", params := defArgs s__law_draw, body := defBody s__law_draw, scope := defScope s__law_draw },
  { at_ := fun K => He.ga K "_law_pick", name := "_law_pick", qual := "_law_pick", params := defArgs s__law_pick, body := defBody s__law_pick, scope := defScope s__law_pick },
  { at_ := fun K => He.ga K "_law_words", name := "_law_words", qual := "_law_words", params := defArgs s__law_words, body := defBody s__law_words, scope := defScope s__law_words },
  { at_ := fun K => He.ga K "_law_any_value", name := "_law_any_value", qual := "_law_any_value", params := defArgs s__law_any_value, body := defBody s__law_any_value, scope := defScope s__law_any_value },
  { at_ := fun K => He.ga K "_law_item", name := "_law_item", qual := "_law_item", params := defArgs s__law_item, body := defBody s__law_item, scope := defScope s__law_item },
  { at_ := fun K => He.ga K "_law_items", name := "_law_items", qual := "_law_items", params := defArgs s__law_items, body := defBody s__law_items, scope := defScope s__law_items },
  { at_ := fun K => He.ga K "_law_names", name := "_law_names", qual := "_law_names", params := defArgs s__law_names, body := defBody s__law_names, scope := defScope s__law_names },
  { at_ := fun K => He.ga K "_law_plain", name := "_law_plain", qual := "_law_plain", params := defArgs s__law_plain, body := defBody s__law_plain, scope := defScope s__law_plain },
  { at_ := fun K => He.ga K "_law_depth", name := "_law_depth", qual := "_law_depth", params := defArgs s__law_depth, body := defBody s__law_depth, scope := defScope s__law_depth },
  { at_ := fun K => He.ga K "_law_text", name := "_law_text", qual := "_law_text", params := defArgs s__law_text, body := defBody s__law_text, scope := defScope s__law_text },
  { at_ := fun K => He.ga K "_law_next", name := "_law_next", qual := "_law_next", params := defArgs s__law_next, body := defBody s__law_next, scope := defScope s__law_next },
  { at_ := fun K => He.ga K "_law_wrong", name := "_law_wrong", qual := "_law_wrong", params := defArgs s__law_wrong, body := defBody s__law_wrong, scope := defScope s__law_wrong },
  { at_ := fun K => He.ga K "_law_parsed", name := "_law_parsed", qual := "_law_parsed", params := defArgs s__law_parsed, body := defBody s__law_parsed, scope := defScope s__law_parsed },
  { at_ := fun K => He.ga K "_law_faults", name := "_law_faults", qual := "_law_faults", params := defArgs s__law_faults, body := defBody s__law_faults, scope := defScope s__law_faults },
  { at_ := fun K => He.ga K "_law_told", name := "_law_told", qual := "_law_told", params := defArgs s__law_told, body := defBody s__law_told, scope := defScope s__law_told },
  { at_ := fun K => He.ga K "_law_bent", name := "_law_bent", qual := "_law_bent", params := defArgs s__law_bent, body := defBody s__law_bent, scope := defScope s__law_bent },
  { at_ := fun K => He.ga K "law", name := "law", qual := "law", params := defArgs s_law, body := defBody s_law, scope := defScope s_law },
  { at_ := fun K => He.ma K (He.ga K "Say") "levels", name := "levels", qual := "Item.levels", params := defArgs s_Item_levels, body := defBody s_Item_levels, scope := defScope s_Item_levels },
  { at_ := fun K => He.ma K (He.ga K "Press") "levels", name := "levels", qual := "Item.levels", params := defArgs s_Item_levels, body := defBody s_Item_levels, scope := defScope s_Item_levels },
  { at_ := fun K => He.ma K (He.ga K "Go") "levels", name := "levels", qual := "Item.levels", params := defArgs s_Item_levels, body := defBody s_Item_levels, scope := defScope s_Item_levels }]
def ini : List Hk.IniD := [⟨"InvalidItem", "InvalidItem.__init__", defArgs s_InvalidItem_init, defBody s_InvalidItem_init, defScope s_InvalidItem_init⟩, ⟨"NotAnItem", "NotAnItem.__init__", defArgs s_NotAnItem_init, defBody s_NotAnItem_init, defScope s_NotAnItem_init⟩, ⟨"TooMany", "TooMany.__init__", defArgs s_TooMany_init, defBody s_TooMany_init, defScope s_TooMany_init⟩, ⟨"TooDeep", "TooDeep.__init__", defArgs s_TooDeep_init, defBody s_TooDeep_init, defScope s_TooDeep_init⟩, ⟨"InvalidText", "InvalidText.__init__", defArgs s_InvalidText_init, defBody s_InvalidText_init, defScope s_InvalidText_init⟩]
abbrev PW : Program := PySem.Challenge.pw_onestroke_k05_whole_bent_body_texts
def sheet : Hm.Sheet := ⟨PW, fun K => (fa.all fun f => f.ok K) && (ckE K && (ckX K && (ckF K && (ckK K && (ckD K && (ckP K && (ckC K && (ck_kit K && (ck_kitT K && (ck_kitO K && (ck_exm K && (ck_kV K)))))))))))), fn, ini, []⟩
abbrev R : PySem.W.OpenRow := PySem.W.OpenLaw.row PySem.Challenge.rw_onestroke_k05_whole_bent_body_texts
abbrev hk : PySem.W.Hook := Hm.hook 5 sheet
def ob (s : PySem.W.SharedT) : Hm.Al × Bool := Hm.obs 5 sheet (HandSHeadRun.getT s)
theorem ob_eq (s : PySem.W.SharedT) : ob s = hk.obs s.abs := Hm.obs_eq (HandSHeadRun.getT_eq s)
def names0 : List Str := ["InvalidItem", "InvalidText", "NotAnItem", "OutOfRange", "TooMany", "TooDeep", "ITEMS", "DEPTH", "NUMBER", "LETTERS", "LONGEST_WORD", "is_word", "is_integer", "is_within", "DIGITS", "MOST_DIGITS", "ItemReader", "Item", "Say", "Press", "Go", "Times", "is_item", "Body", "made_items", "made_item", "_law_pen", "_law_draw", "_law_pick", "_law_shuffled"]
def names1 : List Str := ["_law_words", "_law_any_value", "_law_item", "_law_items", "_law_names", "_law_made", "_law_plain", "_law_depth", "_law_text", "_law_next", "_law_wrong", "_law_parsed", "_law_faults", "_law_told", "_law_bent"]
def names : List Str := names0 ++ names1
theorem runW (w : World) : HandSHeadRun.RunEq R (PySem.W.view R.prog [50]) hk ob 60000 names w := by
  intro os
  kernel_rfl
end Kb

namespace Kb
open PySem PySem.Spec PyProof.Rows L2 Mq
theorem top_super : (PW.main.scope.names.lookup ("super" : Str)).isSome = false := by decide +kernel
section
variable {K : PySem.W.Frag} {h : Heap} {mg : Str → Option Value}
theorem ck_fa (c : Hm.Says sheet h K) (i : Nat) {f : He.Fa} (e : fa[i]? = some f := by rfl) : f.ok K = true := List.all_eq_true.mp (He.ba c.ck).1 f (List.mem_of_getElem? e)
theorem zckE (c : Hm.Says sheet h K) : ckE K = true := (He.ba (He.ba c.ck).2).1
theorem zckX (c : Hm.Says sheet h K) : ckX K = true := (He.ba (He.ba (He.ba c.ck).2).2).1
theorem zckF (c : Hm.Says sheet h K) : ckF K = true := (He.ba (He.ba (He.ba (He.ba c.ck).2).2).2).1
theorem zckK (c : Hm.Says sheet h K) : ckK K = true := (He.ba (He.ba (He.ba (He.ba (He.ba c.ck).2).2).2).2).1
theorem zckD (c : Hm.Says sheet h K) : ckD K = true := (He.ba (He.ba (He.ba (He.ba (He.ba (He.ba c.ck).2).2).2).2).2).1
theorem zckP (c : Hm.Says sheet h K) : ckP K = true := (He.ba (He.ba (He.ba (He.ba (He.ba (He.ba (He.ba c.ck).2).2).2).2).2).2).1
theorem zckC (c : Hm.Says sheet h K) : ckC K = true := (He.ba (He.ba (He.ba (He.ba (He.ba (He.ba (He.ba (He.ba c.ck).2).2).2).2).2).2).2).1
theorem zck_kit (c : Hm.Says sheet h K) : ck_kit K = true := (He.ba (He.ba (He.ba (He.ba (He.ba (He.ba (He.ba (He.ba (He.ba c.ck).2).2).2).2).2).2).2).2).1
theorem zck_kitT (c : Hm.Says sheet h K) : ck_kitT K = true := (He.ba (He.ba (He.ba (He.ba (He.ba (He.ba (He.ba (He.ba (He.ba (He.ba c.ck).2).2).2).2).2).2).2).2).2).1
theorem zck_kitO (c : Hm.Says sheet h K) : ck_kitO K = true := (He.ba (He.ba (He.ba (He.ba (He.ba (He.ba (He.ba (He.ba (He.ba (He.ba (He.ba c.ck).2).2).2).2).2).2).2).2).2).2).1
theorem zck_exm (c : Hm.Says sheet h K) : ck_exm K = true := (He.ba (He.ba (He.ba (He.ba (He.ba (He.ba (He.ba (He.ba (He.ba (He.ba (He.ba (He.ba c.ck).2).2).2).2).2).2).2).2).2).2).2).1
theorem zck_kV (c : Hm.Says sheet h K) : ck_kV K = true := (He.ba (He.ba (He.ba (He.ba (He.ba (He.ba (He.ba (He.ba (He.ba (He.ba (He.ba (He.ba c.ck).2).2).2).2).2).2).2).2).2).2).2).2
theorem ex_of (c : Hm.Says sheet h K) {x : Str} (hx : x ∈ erN) : Hk.excB K x = true ∧ Hm.rzB K x = true := He.ba (List.all_eq_true.mp (zckX c) x hx)
theorem z_super (X : K.In h) (G : h.Ns mainGlobals mg) (c : Hm.Says sheet h K) : mg "super" = none := He.free_ok X G (ck_fa c 33 (f := .free "super"))
theorem ec_InvalidItem (X : K.In h) (G : h.Ns mainGlobals mg) (c : Hm.Says sheet h K) : ErX.ErrC PW K mg "ValueError" "ValueError.__new__" "ValueError.__init__" bmV "InvalidItem" (He.ga K "InvalidItem") (He.ma K (He.ga K "InvalidItem") "__init__") :=
  Hk.err_of _root_.PySem.F.excBase_ValueError _root_.PySem.F.store_ValueError PySem.W.kxs_ValueError X G (show Hk.errB K "ValueError" "ValueError.__new__" "ValueError.__init__" bmV "InvalidItem" = true from (He.ba (zckE c)).1) (Hk.exc_of (ex_of c (by decide)).1).1 (z_super X G c) top_super
theorem ef_InvalidItem (c : Hm.Says sheet h K) : ErX.Fn1 PW K (He.ga K "InvalidItem") (He.ma K (He.ga K "InvalidItem") "__init__") "field" := by
  obtain ⟨oc, od, osl, kV, doc, pm, an, cda, ct, cc, ccl, cdd, vs, ccs, file, tf, cl, cld, csl, h1, h2, h3, h4, h5, h6⟩ := c.old.ini_ 0
  exact ⟨oc, od, osl, _, kV, doc, pm, an, cda, ct, cc, _, _, _, _, _, _, _, _, _, _, _, ccl, cdd, vs, ccs, file, tf, cl, cld, csl, h1, h2, h3, h4, by rw [← h5]; exact beq_self_eq_true _, rfl, h6⟩
theorem ee_InvalidItem (X : K.In h) (G : h.Ns mainGlobals mg) (c : Hm.Says sheet h K) : Ee PW K mg "ValueError" "InvalidItem" "field" :=
  let r := He.ba (ex_of c (x := "InvalidItem") (by decide)).2
  ⟨⟨⟨_, _, _, _, ec_InvalidItem X G c, ef_InvalidItem c⟩, ErX.nm_field, of_decide_eq_true (List.all_eq_true.mp (zckF c) ("InvalidItem", "field") (by decide)), ErX.bp_field, ErX.bk_field⟩, of_decide_eq_true r.1, of_decide_eq_true (He.ba r.2).1⟩
theorem ec_NotAnItem (X : K.In h) (G : h.Ns mainGlobals mg) (c : Hm.Says sheet h K) : ErX.ErrC PW K mg "TypeError" "TypeError.__new__" "TypeError.__init__" bmT "NotAnItem" (He.ga K "NotAnItem") (He.ma K (He.ga K "NotAnItem") "__init__") :=
  Hk.err_of _root_.PySem.F.excBase_TypeError _root_.PySem.F.store_TypeError PySem.W.kxs_TypeError X G (show Hk.errB K "TypeError" "TypeError.__new__" "TypeError.__init__" bmT "NotAnItem" = true from (He.ba ((He.ba (zckE c)).2)).1) (Hk.exc_of (ex_of c (by decide)).1).1 (z_super X G c) top_super
theorem ef_NotAnItem (c : Hm.Says sheet h K) : ErX.Fn1 PW K (He.ga K "NotAnItem") (He.ma K (He.ga K "NotAnItem") "__init__") "index" := by
  obtain ⟨oc, od, osl, kV, doc, pm, an, cda, ct, cc, ccl, cdd, vs, ccs, file, tf, cl, cld, csl, h1, h2, h3, h4, h5, h6⟩ := c.old.ini_ 1
  exact ⟨oc, od, osl, _, kV, doc, pm, an, cda, ct, cc, _, _, _, _, _, _, _, _, _, _, _, ccl, cdd, vs, ccs, file, tf, cl, cld, csl, h1, h2, h3, h4, by rw [← h5]; exact beq_self_eq_true _, rfl, h6⟩
theorem ee_NotAnItem (X : K.In h) (G : h.Ns mainGlobals mg) (c : Hm.Says sheet h K) : Ee PW K mg "TypeError" "NotAnItem" "index" :=
  let r := He.ba (ex_of c (x := "NotAnItem") (by decide)).2
  ⟨⟨⟨_, _, _, _, ec_NotAnItem X G c, ef_NotAnItem c⟩, ErX.nm_index, of_decide_eq_true (List.all_eq_true.mp (zckF c) ("NotAnItem", "index") (by decide)), ErX.bp_index, ErX.bk_index⟩, of_decide_eq_true r.1, of_decide_eq_true (He.ba r.2).1⟩
theorem ec_TooMany (X : K.In h) (G : h.Ns mainGlobals mg) (c : Hm.Says sheet h K) : ErX.ErrC PW K mg "OverflowError" "OverflowError.__new__" "OverflowError.__init__" bmO "TooMany" (He.ga K "TooMany") (He.ma K (He.ga K "TooMany") "__init__") :=
  Hk.err_of _root_.PySem.F.excBase_OverflowError _root_.PySem.F.store_OverflowError PySem.W.kxs_OverflowError X G (show Hk.errB K "OverflowError" "OverflowError.__new__" "OverflowError.__init__" bmO "TooMany" = true from (He.ba ((He.ba ((He.ba (zckE c)).2)).2)).1) (Hk.exc_of (ex_of c (by decide)).1).1 (z_super X G c) top_super
theorem ef_TooMany (c : Hm.Says sheet h K) : ErX.Fn1 PW K (He.ga K "TooMany") (He.ma K (He.ga K "TooMany") "__init__") "limit" := by
  obtain ⟨oc, od, osl, kV, doc, pm, an, cda, ct, cc, ccl, cdd, vs, ccs, file, tf, cl, cld, csl, h1, h2, h3, h4, h5, h6⟩ := c.old.ini_ 2
  exact ⟨oc, od, osl, _, kV, doc, pm, an, cda, ct, cc, _, _, _, _, _, _, _, _, _, _, _, ccl, cdd, vs, ccs, file, tf, cl, cld, csl, h1, h2, h3, h4, by rw [← h5]; exact beq_self_eq_true _, rfl, h6⟩
theorem ee_TooMany (X : K.In h) (G : h.Ns mainGlobals mg) (c : Hm.Says sheet h K) : Ee PW K mg "OverflowError" "TooMany" "limit" :=
  let r := He.ba (ex_of c (x := "TooMany") (by decide)).2
  ⟨⟨⟨_, _, _, _, ec_TooMany X G c, ef_TooMany c⟩, ErX.nm_limit, of_decide_eq_true (List.all_eq_true.mp (zckF c) ("TooMany", "limit") (by decide)), ErX.bp_limit, ErX.bk_limit⟩, of_decide_eq_true r.1, of_decide_eq_true (He.ba r.2).1⟩
theorem ec_TooDeep (X : K.In h) (G : h.Ns mainGlobals mg) (c : Hm.Says sheet h K) : ErX.ErrC PW K mg "OverflowError" "OverflowError.__new__" "OverflowError.__init__" bmO "TooDeep" (He.ga K "TooDeep") (He.ma K (He.ga K "TooDeep") "__init__") :=
  Hk.err_of _root_.PySem.F.excBase_OverflowError _root_.PySem.F.store_OverflowError PySem.W.kxs_OverflowError X G (show Hk.errB K "OverflowError" "OverflowError.__new__" "OverflowError.__init__" bmO "TooDeep" = true from (He.ba ((He.ba ((He.ba ((He.ba (zckE c)).2)).2)).2)).1) (Hk.exc_of (ex_of c (by decide)).1).1 (z_super X G c) top_super
theorem ef_TooDeep (c : Hm.Says sheet h K) : ErX.Fn1 PW K (He.ga K "TooDeep") (He.ma K (He.ga K "TooDeep") "__init__") "limit" := by
  obtain ⟨oc, od, osl, kV, doc, pm, an, cda, ct, cc, ccl, cdd, vs, ccs, file, tf, cl, cld, csl, h1, h2, h3, h4, h5, h6⟩ := c.old.ini_ 3
  exact ⟨oc, od, osl, _, kV, doc, pm, an, cda, ct, cc, _, _, _, _, _, _, _, _, _, _, _, ccl, cdd, vs, ccs, file, tf, cl, cld, csl, h1, h2, h3, h4, by rw [← h5]; exact beq_self_eq_true _, rfl, h6⟩
theorem ee_TooDeep (X : K.In h) (G : h.Ns mainGlobals mg) (c : Hm.Says sheet h K) : Ee PW K mg "OverflowError" "TooDeep" "limit" :=
  let r := He.ba (ex_of c (x := "TooDeep") (by decide)).2
  ⟨⟨⟨_, _, _, _, ec_TooDeep X G c, ef_TooDeep c⟩, ErX.nm_limit, of_decide_eq_true (List.all_eq_true.mp (zckF c) ("TooDeep", "limit") (by decide)), ErX.bp_limit, ErX.bk_limit⟩, of_decide_eq_true r.1, of_decide_eq_true (He.ba r.2).1⟩
theorem ec_InvalidText (X : K.In h) (G : h.Ns mainGlobals mg) (c : Hm.Says sheet h K) : ErX.ErrC PW K mg "ValueError" "ValueError.__new__" "ValueError.__init__" bmV "InvalidText" (He.ga K "InvalidText") (He.ma K (He.ga K "InvalidText") "__init__") :=
  Hk.err_of _root_.PySem.F.excBase_ValueError _root_.PySem.F.store_ValueError PySem.W.kxs_ValueError X G (show Hk.errB K "ValueError" "ValueError.__new__" "ValueError.__init__" bmV "InvalidText" = true from ((He.ba ((He.ba ((He.ba ((He.ba (zckE c)).2)).2)).2)).2)) (Hk.exc_of (ex_of c (by decide)).1).1 (z_super X G c) top_super
theorem ef_InvalidText (c : Hm.Says sheet h K) : ErX.Fn1 PW K (He.ga K "InvalidText") (He.ma K (He.ga K "InvalidText") "__init__") "index" := by
  obtain ⟨oc, od, osl, kV, doc, pm, an, cda, ct, cc, ccl, cdd, vs, ccs, file, tf, cl, cld, csl, h1, h2, h3, h4, h5, h6⟩ := c.old.ini_ 4
  exact ⟨oc, od, osl, _, kV, doc, pm, an, cda, ct, cc, _, _, _, _, _, _, _, _, _, _, _, ccl, cdd, vs, ccs, file, tf, cl, cld, csl, h1, h2, h3, h4, by rw [← h5]; exact beq_self_eq_true _, rfl, h6⟩
theorem ee_InvalidText (X : K.In h) (G : h.Ns mainGlobals mg) (c : Hm.Says sheet h K) : Ee PW K mg "ValueError" "InvalidText" "index" :=
  let r := He.ba (ex_of c (x := "InvalidText") (by decide)).2
  ⟨⟨⟨_, _, _, _, ec_InvalidText X G c, ef_InvalidText c⟩, ErX.nm_index, of_decide_eq_true (List.all_eq_true.mp (zckF c) ("InvalidText", "index") (by decide)), ErX.bp_index, ErX.bk_index⟩, of_decide_eq_true r.1, of_decide_eq_true (He.ba r.2).1⟩
theorem g_is_word (X : K.In h) (G : h.Ns mainGlobals mg) (c : Hm.Says sheet h K) : mg "is_word" = some (.ref (He.ga K "is_word")) := He.glo_ok X G (ck_fa c 0 (f := .glo "is_word"))
theorem g_is_integer (X : K.In h) (G : h.Ns mainGlobals mg) (c : Hm.Says sheet h K) : mg "is_integer" = some (.ref (He.ga K "is_integer")) := He.glo_ok X G (ck_fa c 1 (f := .glo "is_integer"))
theorem g_is_within (X : K.In h) (G : h.Ns mainGlobals mg) (c : Hm.Says sheet h K) : mg "is_within" = some (.ref (He.ga K "is_within")) := He.glo_ok X G (ck_fa c 2 (f := .glo "is_within"))
theorem g_is_item (X : K.In h) (G : h.Ns mainGlobals mg) (c : Hm.Says sheet h K) : mg "is_item" = some (.ref (He.ga K "is_item")) := He.glo_ok X G (ck_fa c 3 (f := .glo "is_item"))
theorem g_made_items (X : K.In h) (G : h.Ns mainGlobals mg) (c : Hm.Says sheet h K) : mg "made_items" = some (.ref (He.ga K "made_items")) := He.glo_ok X G (ck_fa c 4 (f := .glo "made_items"))
theorem g_made_item (X : K.In h) (G : h.Ns mainGlobals mg) (c : Hm.Says sheet h K) : mg "made_item" = some (.ref (He.ga K "made_item")) := He.glo_ok X G (ck_fa c 5 (f := .glo "made_item"))
theorem g__law_pen (X : K.In h) (G : h.Ns mainGlobals mg) (c : Hm.Says sheet h K) : mg "_law_pen" = some (.ref (He.ga K "_law_pen")) := He.glo_ok X G (ck_fa c 6 (f := .glo "_law_pen"))
theorem g__law_draw (X : K.In h) (G : h.Ns mainGlobals mg) (c : Hm.Says sheet h K) : mg "_law_draw" = some (.ref (He.ga K "_law_draw")) := He.glo_ok X G (ck_fa c 7 (f := .glo "_law_draw"))
theorem g__law_pick (X : K.In h) (G : h.Ns mainGlobals mg) (c : Hm.Says sheet h K) : mg "_law_pick" = some (.ref (He.ga K "_law_pick")) := He.glo_ok X G (ck_fa c 8 (f := .glo "_law_pick"))
theorem g__law_shuffled (X : K.In h) (G : h.Ns mainGlobals mg) (c : Hm.Says sheet h K) : mg "_law_shuffled" = some (.ref (He.ga K "_law_shuffled")) := He.glo_ok X G (ck_fa c 9 (f := .glo "_law_shuffled"))
theorem g__law_words (X : K.In h) (G : h.Ns mainGlobals mg) (c : Hm.Says sheet h K) : mg "_law_words" = some (.ref (He.ga K "_law_words")) := He.glo_ok X G (ck_fa c 10 (f := .glo "_law_words"))
theorem g__law_any_value (X : K.In h) (G : h.Ns mainGlobals mg) (c : Hm.Says sheet h K) : mg "_law_any_value" = some (.ref (He.ga K "_law_any_value")) := He.glo_ok X G (ck_fa c 11 (f := .glo "_law_any_value"))
theorem g__law_item (X : K.In h) (G : h.Ns mainGlobals mg) (c : Hm.Says sheet h K) : mg "_law_item" = some (.ref (He.ga K "_law_item")) := He.glo_ok X G (ck_fa c 12 (f := .glo "_law_item"))
theorem g__law_items (X : K.In h) (G : h.Ns mainGlobals mg) (c : Hm.Says sheet h K) : mg "_law_items" = some (.ref (He.ga K "_law_items")) := He.glo_ok X G (ck_fa c 13 (f := .glo "_law_items"))
theorem g__law_names (X : K.In h) (G : h.Ns mainGlobals mg) (c : Hm.Says sheet h K) : mg "_law_names" = some (.ref (He.ga K "_law_names")) := He.glo_ok X G (ck_fa c 14 (f := .glo "_law_names"))
theorem g__law_made (X : K.In h) (G : h.Ns mainGlobals mg) (c : Hm.Says sheet h K) : mg "_law_made" = some (.ref (He.ga K "_law_made")) := He.glo_ok X G (ck_fa c 15 (f := .glo "_law_made"))
theorem g__law_plain (X : K.In h) (G : h.Ns mainGlobals mg) (c : Hm.Says sheet h K) : mg "_law_plain" = some (.ref (He.ga K "_law_plain")) := He.glo_ok X G (ck_fa c 16 (f := .glo "_law_plain"))
theorem g__law_depth (X : K.In h) (G : h.Ns mainGlobals mg) (c : Hm.Says sheet h K) : mg "_law_depth" = some (.ref (He.ga K "_law_depth")) := He.glo_ok X G (ck_fa c 17 (f := .glo "_law_depth"))
theorem g__law_text (X : K.In h) (G : h.Ns mainGlobals mg) (c : Hm.Says sheet h K) : mg "_law_text" = some (.ref (He.ga K "_law_text")) := He.glo_ok X G (ck_fa c 18 (f := .glo "_law_text"))
theorem g__law_next (X : K.In h) (G : h.Ns mainGlobals mg) (c : Hm.Says sheet h K) : mg "_law_next" = some (.ref (He.ga K "_law_next")) := He.glo_ok X G (ck_fa c 19 (f := .glo "_law_next"))
theorem g__law_wrong (X : K.In h) (G : h.Ns mainGlobals mg) (c : Hm.Says sheet h K) : mg "_law_wrong" = some (.ref (He.ga K "_law_wrong")) := He.glo_ok X G (ck_fa c 20 (f := .glo "_law_wrong"))
theorem g__law_parsed (X : K.In h) (G : h.Ns mainGlobals mg) (c : Hm.Says sheet h K) : mg "_law_parsed" = some (.ref (He.ga K "_law_parsed")) := He.glo_ok X G (ck_fa c 21 (f := .glo "_law_parsed"))
theorem g__law_faults (X : K.In h) (G : h.Ns mainGlobals mg) (c : Hm.Says sheet h K) : mg "_law_faults" = some (.ref (He.ga K "_law_faults")) := He.glo_ok X G (ck_fa c 22 (f := .glo "_law_faults"))
theorem g__law_told (X : K.In h) (G : h.Ns mainGlobals mg) (c : Hm.Says sheet h K) : mg "_law_told" = some (.ref (He.ga K "_law_told")) := He.glo_ok X G (ck_fa c 23 (f := .glo "_law_told"))
theorem g__law_bent (X : K.In h) (G : h.Ns mainGlobals mg) (c : Hm.Says sheet h K) : mg "_law_bent" = some (.ref (He.ga K "_law_bent")) := He.glo_ok X G (ck_fa c 24 (f := .glo "_law_bent"))
theorem g_law (X : K.In h) (G : h.Ns mainGlobals mg) (c : Hm.Says sheet h K) : mg "law" = some (.ref (He.ga K "law")) := He.glo_ok X G (ck_fa c 25 (f := .glo "law"))
theorem g_Item (X : K.In h) (G : h.Ns mainGlobals mg) (c : Hm.Says sheet h K) : mg "Item" = some (.ref (He.ga K "Item")) := He.glo_ok X G (ck_fa c 26 (f := .glo "Item"))
theorem g_Say (X : K.In h) (G : h.Ns mainGlobals mg) (c : Hm.Says sheet h K) : mg "Say" = some (.ref (He.ga K "Say")) := He.glo_ok X G (ck_fa c 27 (f := .glo "Say"))
theorem g_Press (X : K.In h) (G : h.Ns mainGlobals mg) (c : Hm.Says sheet h K) : mg "Press" = some (.ref (He.ga K "Press")) := He.glo_ok X G (ck_fa c 28 (f := .glo "Press"))
theorem g_Go (X : K.In h) (G : h.Ns mainGlobals mg) (c : Hm.Says sheet h K) : mg "Go" = some (.ref (He.ga K "Go")) := He.glo_ok X G (ck_fa c 29 (f := .glo "Go"))
theorem g_Times (X : K.In h) (G : h.Ns mainGlobals mg) (c : Hm.Says sheet h K) : mg "Times" = some (.ref (He.ga K "Times")) := He.glo_ok X G (ck_fa c 30 (f := .glo "Times"))
theorem g_Body (X : K.In h) (G : h.Ns mainGlobals mg) (c : Hm.Says sheet h K) : mg "Body" = some (.ref (He.ga K "Body")) := He.glo_ok X G (ck_fa c 31 (f := .glo "Body"))
theorem g_ItemReader (X : K.In h) (G : h.Ns mainGlobals mg) (c : Hm.Says sheet h K) : mg "ItemReader" = some (.ref (He.ga K "ItemReader")) := He.glo_ok X G (ck_fa c 32 (f := .glo "ItemReader"))
theorem z_isinstance (X : K.In h) (G : h.Ns mainGlobals mg) (c : Hm.Says sheet h K) : mg "isinstance" = none := He.free_ok X G (ck_fa c 34 (f := .free "isinstance"))
theorem z_str (X : K.In h) (G : h.Ns mainGlobals mg) (c : Hm.Says sheet h K) : mg "str" = none := He.free_ok X G (ck_fa c 35 (f := .free "str"))
theorem z_int (X : K.In h) (G : h.Ns mainGlobals mg) (c : Hm.Says sheet h K) : mg "int" = none := He.free_ok X G (ck_fa c 36 (f := .free "int"))
theorem z_bool (X : K.In h) (G : h.Ns mainGlobals mg) (c : Hm.Says sheet h K) : mg "bool" = none := He.free_ok X G (ck_fa c 37 (f := .free "bool"))
theorem z_len (X : K.In h) (G : h.Ns mainGlobals mg) (c : Hm.Says sheet h K) : mg "len" = none := He.free_ok X G (ck_fa c 38 (f := .free "len"))
theorem z_all (X : K.In h) (G : h.Ns mainGlobals mg) (c : Hm.Says sheet h K) : mg "all" = none := He.free_ok X G (ck_fa c 39 (f := .free "all"))
theorem z_max (X : K.In h) (G : h.Ns mainGlobals mg) (c : Hm.Says sheet h K) : mg "max" = none := He.free_ok X G (ck_fa c 40 (f := .free "max"))
theorem z_tuple (X : K.In h) (G : h.Ns mainGlobals mg) (c : Hm.Says sheet h K) : mg "tuple" = none := He.free_ok X G (ck_fa c 41 (f := .free "tuple"))
theorem z_list (X : K.In h) (G : h.Ns mainGlobals mg) (c : Hm.Says sheet h K) : mg "list" = none := He.free_ok X G (ck_fa c 42 (f := .free "list"))
theorem z_enumerate (X : K.In h) (G : h.Ns mainGlobals mg) (c : Hm.Says sheet h K) : mg "enumerate" = none := He.free_ok X G (ck_fa c 43 (f := .free "enumerate"))
theorem z_range (X : K.In h) (G : h.Ns mainGlobals mg) (c : Hm.Says sheet h K) : mg "range" = none := He.free_ok X G (ck_fa c 44 (f := .free "range"))
theorem z_min (X : K.In h) (G : h.Ns mainGlobals mg) (c : Hm.Says sheet h K) : mg "min" = none := He.free_ok X G (ck_fa c 45 (f := .free "min"))
theorem z_ValueError (X : K.In h) (G : h.Ns mainGlobals mg) (c : Hm.Says sheet h K) : mg "ValueError" = none := He.free_ok X G (ck_fa c 46 (f := .free "ValueError"))
theorem i_LONGEST_WORD (X : K.In h) (G : h.Ns mainGlobals mg) (c : Hm.Says sheet h K) : ∃ t, mg "LONGEST_WORD" = some (.int (8) t) := He.int_ok X G (ck_fa c 47 (f := .int "LONGEST_WORD" (8)))
theorem i_ITEMS (X : K.In h) (G : h.Ns mainGlobals mg) (c : Hm.Says sheet h K) : ∃ t, mg "ITEMS" = some (.int (6) t) := He.int_ok X G (ck_fa c 48 (f := .int "ITEMS" (6)))
theorem i_DEPTH (X : K.In h) (G : h.Ns mainGlobals mg) (c : Hm.Says sheet h K) : ∃ t, mg "DEPTH" = some (.int (2) t) := He.int_ok X G (ck_fa c 49 (f := .int "DEPTH" (2)))
theorem i_NUMBER (X : K.In h) (G : h.Ns mainGlobals mg) (c : Hm.Says sheet h K) : ∃ t, mg "NUMBER" = some (.int (10 ^ 9) t) := He.int_ok X G (ck_fa c 50 (f := .int "NUMBER" (10 ^ 9)))
theorem i_MOST_DIGITS (X : K.In h) (G : h.Ns mainGlobals mg) (c : Hm.Says sheet h K) : ∃ t, mg "MOST_DIGITS" = some (.int (10) t) := He.int_ok X G (ck_fa c 51 (f := .int "MOST_DIGITS" (10)))
theorem i_LETTERS (X : K.In h) (G : h.Ns mainGlobals mg) (c : Hm.Says sheet h K) : ∃ t, mg "LETTERS" = some (.str "abcdefghijklmnopqrstuvwxyz" t) := He.str_ok X G (ck_fa c 52 (f := .str "LETTERS" "abcdefghijklmnopqrstuvwxyz"))
theorem i_DIGITS (X : K.In h) (G : h.Ns mainGlobals mg) (c : Hm.Says sheet h K) : ∃ t, mg "DIGITS" = some (.str "0123456789" t) := He.str_ok X G (ck_fa c 53 (f := .str "DIGITS" "0123456789"))
theorem mk_all (c : Hm.Says sheet h K) : ∀ x ∈ (["Say", "Press", "Go", "Times", "Body", "ItemReader"] : List Str), Mk K (He.ga K x) (He.ma K (He.ga K x) "__init__") := by
  intro x hx
  simp only [List.mem_cons, List.not_mem_nil, or_false] at hx
  rcases hx with rfl | rfl | rfl | rfl | rfl | rfl
  · exact He.mkr_ok (ck_fa c 54 (f := .mkr "Say"))
  · exact He.mkr_ok (ck_fa c 55 (f := .mkr "Press"))
  · exact He.mkr_ok (ck_fa c 56 (f := .mkr "Go"))
  · exact He.mkr_ok (ck_fa c 57 (f := .mkr "Times"))
  · exact He.mkr_ok (ck_fa c 58 (f := .mkr "Body"))
  · exact He.mkr_ok (ck_fa c 59 (f := .mkr "ItemReader"))
theorem kl_all (c : Hm.Says sheet h K) : ∀ x ∈ (["Say", "Press", "Go", "Times", "Body", "ItemReader"] : List Str), Hm.Kl K (He.ga K x) := fun x hx => Hm.kl_of (List.all_eq_true.mp (zckK c) x hx)
theorem na_all (c : Hm.Says sheet h K) : ∀ x ∈ ([("Say", "command"), ("Press", "key"), ("Go", "mode"), ("Times", "number"), ("Times", "body"), ("Body", "own_entries"), ("Body", "own_depth"), ("ItemReader", "own_text"), ("ItemReader", "own_place")] : List (Str × Str)), NoAttr K (He.ga K x.1) x.2 := by
  intro x hx
  simp only [List.mem_cons, List.not_mem_nil, or_false] at hx
  rcases hx with rfl | rfl | rfl | rfl | rfl | rfl | rfl | rfl | rfl
  · exact He.noat_ok (ck_fa c 60 (f := .noat "Say" "command"))
  · exact He.noat_ok (ck_fa c 61 (f := .noat "Press" "key"))
  · exact He.noat_ok (ck_fa c 62 (f := .noat "Go" "mode"))
  · exact He.noat_ok (ck_fa c 63 (f := .noat "Times" "number"))
  · exact He.noat_ok (ck_fa c 64 (f := .noat "Times" "body"))
  · exact He.noat_ok (ck_fa c 65 (f := .noat "Body" "own_entries"))
  · exact He.noat_ok (ck_fa c 66 (f := .noat "Body" "own_depth"))
  · exact He.noat_ok (ck_fa c 67 (f := .noat "ItemReader" "own_text"))
  · exact He.noat_ok (ck_fa c 68 (f := .noat "ItemReader" "own_place"))
theorem me_all (c : Hm.Says sheet h K) : ∀ x ∈ ([("Say", "levels"), ("Press", "levels"), ("Go", "levels"), ("Times", "levels"), ("ItemReader", "sign"), ("ItemReader", "word"), ("ItemReader", "number_here"), ("ItemReader", "most_digits"), ("ItemReader", "item"), ("ItemReader", "whole"), ("ItemReader", "fail")] : List (Str × Str)), Meth K (He.ga K x.1) x.2 (He.ma K (He.ga K x.1) x.2) := by
  intro x hx
  simp only [List.mem_cons, List.not_mem_nil, or_false] at hx
  rcases hx with rfl | rfl | rfl | rfl | rfl | rfl | rfl | rfl | rfl | rfl | rfl
  · exact He.meth_ok (ck_fa c 69 (f := .meth "Say" "levels"))
  · exact He.meth_ok (ck_fa c 70 (f := .meth "Press" "levels"))
  · exact He.meth_ok (ck_fa c 71 (f := .meth "Go" "levels"))
  · exact He.meth_ok (ck_fa c 72 (f := .meth "Times" "levels"))
  · exact He.meth_ok (ck_fa c 73 (f := .meth "ItemReader" "sign"))
  · exact He.meth_ok (ck_fa c 74 (f := .meth "ItemReader" "word"))
  · exact He.meth_ok (ck_fa c 75 (f := .meth "ItemReader" "number_here"))
  · exact He.meth_ok (ck_fa c 76 (f := .meth "ItemReader" "most_digits"))
  · exact He.meth_ok (ck_fa c 77 (f := .meth "ItemReader" "item"))
  · exact He.meth_ok (ck_fa c 78 (f := .meth "ItemReader" "whole"))
  · exact He.meth_ok (ck_fa c 79 (f := .meth "ItemReader" "fail"))
theorem kd_all (c : Hm.Says sheet h K) : ∀ q ∈ ([("Say", "say"), ("Press", "press"), ("Go", "go"), ("Times", "times")] : List (Str × Str)), ∃ u, Con K (He.ga K q.1) "KIND" (.str q.2) u := fun q hq => Hm.con_of (List.all_eq_true.mp (zckD c) q hq)
theorem pr_all (c : Hm.Says sheet h K) : ∀ q ∈ ([("Body", "depth"), ("Body", "entries")] : List (Str × Str)), PropOf K (He.ga K q.1) q.2 (He.ma K (He.ga K q.1) q.2) (He5.wf K (He.ga K q.1) "property" q.2) := fun q hq => Hm.prp_of (List.all_eq_true.mp (zckP c) q hq)
theorem cm_all (c : Hm.Says sheet h K) : ∀ q ∈ ([("Times", "of"), ("Body", "of"), ("Body", "read")] : List (Str × Str)), ClX.CRead K (He.ga K q.1) (.type "type") ∧ ClX.CMet K (He.ga K q.1) (.type "type") q.2 (He.ma K (He.ga K q.1) q.2) (He5.wf K (He.ga K q.1) "classmethod" q.2) := fun q hq => Hm.cm_of (List.all_eq_true.mp (zckC c) q hq)
theorem fd_is_word (c : Hm.Says sheet h K) : ∃ fd, FunD K "is_word" "is_word" (defArgs s_is_word) (defBody s_is_word) (defScope s_is_word) [] [] (He.ga K "is_word") fd := c.def_ 0
theorem bd_is_word {fd : FuncData} (F : FunD K "is_word" "is_word" (defArgs s_is_word) (defBody s_is_word) (defScope s_is_word) [] [] (He.ga K "is_word") fd) : Binds K fd ["value"] [] := FunD.bindsN F fun _ _ _ _ _ _ us hl => match us, hl with | [_], _ => rfl
theorem fd_is_integer (c : Hm.Says sheet h K) : ∃ fd, FunD K "is_integer" "is_integer" (defArgs s_is_integer) (defBody s_is_integer) (defScope s_is_integer) [] [] (He.ga K "is_integer") fd := c.def_ 1
theorem bd_is_integer {fd : FuncData} (F : FunD K "is_integer" "is_integer" (defArgs s_is_integer) (defBody s_is_integer) (defScope s_is_integer) [] [] (He.ga K "is_integer") fd) : Binds K fd ["value"] [] := FunD.bindsN F fun _ _ _ _ _ _ us hl => match us, hl with | [_], _ => rfl
theorem fd_is_within (c : Hm.Says sheet h K) : ∃ fd, FunD K "is_within" "is_within" (defArgs s_is_within) (defBody s_is_within) (defScope s_is_within) [] [] (He.ga K "is_within") fd := c.def_ 2
theorem bd_is_within {fd : FuncData} (F : FunD K "is_within" "is_within" (defArgs s_is_within) (defBody s_is_within) (defScope s_is_within) [] [] (He.ga K "is_within") fd) : Binds K fd ["value", "least", "most"] [] := FunD.bindsN F fun _ _ _ _ _ _ us hl => match us, hl with | [_, _, _], _ => rfl
theorem fd_ItemReader___init__ (c : Hm.Says sheet h K) : ∃ fd, FunD K "__init__" "ItemReader.__init__" (defArgs s_ItemReader_init) (defBody s_ItemReader_init) (defScope s_ItemReader_init) [] [] (He.ma K (He.ga K "ItemReader") "__init__") fd := c.def_ 3
theorem bd_ItemReader___init__ {fd : FuncData} (F : FunD K "__init__" "ItemReader.__init__" (defArgs s_ItemReader_init) (defBody s_ItemReader_init) (defScope s_ItemReader_init) [] [] (He.ma K (He.ga K "ItemReader") "__init__") fd) : Binds K fd ["self", "text"] [] := FunD.bindsN F fun _ _ _ _ _ _ us hl => match us, hl with | [_, _], _ => rfl
theorem fd_ItemReader_sign (c : Hm.Says sheet h K) : ∃ fd, FunD K "sign" "ItemReader.sign" (defArgs s_ItemReader_sign) (defBody s_ItemReader_sign) (defScope s_ItemReader_sign) [] [] (He.ma K (He.ga K "ItemReader") "sign") fd := c.def_ 4
theorem bd_ItemReader_sign {fd : FuncData} (F : FunD K "sign" "ItemReader.sign" (defArgs s_ItemReader_sign) (defBody s_ItemReader_sign) (defScope s_ItemReader_sign) [] [] (He.ma K (He.ga K "ItemReader") "sign") fd) : Binds K fd ["self"] [] := FunD.bindsN F fun _ _ _ _ _ _ us hl => match us, hl with | [_], _ => rfl
theorem fd_ItemReader_fail (c : Hm.Says sheet h K) : ∃ fd, FunD K "fail" "ItemReader.fail" (defArgs s_ItemReader_fail) (defBody s_ItemReader_fail) (defScope s_ItemReader_fail) [] [] (He.ma K (He.ga K "ItemReader") "fail") fd := c.def_ 5
theorem bd_ItemReader_fail {fd : FuncData} (F : FunD K "fail" "ItemReader.fail" (defArgs s_ItemReader_fail) (defBody s_ItemReader_fail) (defScope s_ItemReader_fail) [] [] (He.ma K (He.ga K "ItemReader") "fail") fd) : Binds K fd ["self"] [] := FunD.bindsN F fun _ _ _ _ _ _ us hl => match us, hl with | [_], _ => rfl
theorem fd_ItemReader_word (c : Hm.Says sheet h K) : ∃ fd, FunD K "word" "ItemReader.word" (defArgs s_ItemReader_word) (defBody s_ItemReader_word) (defScope s_ItemReader_word) [] [] (He.ma K (He.ga K "ItemReader") "word") fd := c.def_ 6
theorem bd_ItemReader_word {fd : FuncData} (F : FunD K "word" "ItemReader.word" (defArgs s_ItemReader_word) (defBody s_ItemReader_word) (defScope s_ItemReader_word) [] [] (He.ma K (He.ga K "ItemReader") "word") fd) : Binds K fd ["self"] [] := FunD.bindsN F fun _ _ _ _ _ _ us hl => match us, hl with | [_], _ => rfl
theorem fd_ItemReader_number_here (c : Hm.Says sheet h K) : ∃ fd, FunD K "number_here" "ItemReader.number_here" (defArgs s_ItemReader_number_here) (defBody s_ItemReader_number_here) (defScope s_ItemReader_number_here) [] [] (He.ma K (He.ga K "ItemReader") "number_here") fd := c.def_ 7
theorem bd_ItemReader_number_here {fd : FuncData} (F : FunD K "number_here" "ItemReader.number_here" (defArgs s_ItemReader_number_here) (defBody s_ItemReader_number_here) (defScope s_ItemReader_number_here) [] [] (He.ma K (He.ga K "ItemReader") "number_here") fd) : Binds K fd ["self"] [] := FunD.bindsN F fun _ _ _ _ _ _ us hl => match us, hl with | [_], _ => rfl
theorem fd_ItemReader_most_digits (c : Hm.Says sheet h K) : ∃ fd, FunD K "most_digits" "ItemReader.most_digits" (defArgs s_ItemReader_most_digits) (defBody s_ItemReader_most_digits) (defScope s_ItemReader_most_digits) [] [] (He.ma K (He.ga K "ItemReader") "most_digits") fd := c.def_ 8
theorem bd_ItemReader_most_digits {fd : FuncData} (F : FunD K "most_digits" "ItemReader.most_digits" (defArgs s_ItemReader_most_digits) (defBody s_ItemReader_most_digits) (defScope s_ItemReader_most_digits) [] [] (He.ma K (He.ga K "ItemReader") "most_digits") fd) : Binds K fd ["self", "begin"] [] := FunD.bindsN F fun _ _ _ _ _ _ us hl => match us, hl with | [_, _], _ => rfl
theorem fd_ItemReader_item (c : Hm.Says sheet h K) : ∃ fd, FunD K "item" "ItemReader.item" (defArgs s_ItemReader_item) (defBody s_ItemReader_item) (defScope s_ItemReader_item) [] [] (He.ma K (He.ga K "ItemReader") "item") fd := c.def_ 9
theorem bd_ItemReader_item {fd : FuncData} (F : FunD K "item" "ItemReader.item" (defArgs s_ItemReader_item) (defBody s_ItemReader_item) (defScope s_ItemReader_item) [] [] (He.ma K (He.ga K "ItemReader") "item") fd) : Binds K fd ["self"] [] := FunD.bindsN F fun _ _ _ _ _ _ us hl => match us, hl with | [_], _ => rfl
theorem fd_ItemReader_whole (c : Hm.Says sheet h K) : ∃ fd, FunD K "whole" "ItemReader.whole" (defArgs s_ItemReader_whole) (defBody s_ItemReader_whole) (defScope s_ItemReader_whole) [] [] (He.ma K (He.ga K "ItemReader") "whole") fd := c.def_ 10
theorem bd_ItemReader_whole {fd : FuncData} (F : FunD K "whole" "ItemReader.whole" (defArgs s_ItemReader_whole) (defBody s_ItemReader_whole) (defScope s_ItemReader_whole) [] [] (He.ma K (He.ga K "ItemReader") "whole") fd) : Binds K fd ["self"] [] := FunD.bindsN F fun _ _ _ _ _ _ us hl => match us, hl with | [_], _ => rfl
theorem fd_Say___init__ (c : Hm.Says sheet h K) : ∃ fd, FunD K "__init__" "Say.__init__" (defArgs s_Say_init) (defBody s_Say_init) (defScope s_Say_init) [] [] (He.ma K (He.ga K "Say") "__init__") fd := c.def_ 11
theorem bd_Say___init__ {fd : FuncData} (F : FunD K "__init__" "Say.__init__" (defArgs s_Say_init) (defBody s_Say_init) (defScope s_Say_init) [] [] (He.ma K (He.ga K "Say") "__init__") fd) : Binds K fd ["self", "command"] [] := FunD.bindsN F fun _ _ _ _ _ _ us hl => match us, hl with | [_, _], _ => rfl
theorem fd_Press___init__ (c : Hm.Says sheet h K) : ∃ fd, FunD K "__init__" "Press.__init__" (defArgs s_Press_init) (defBody s_Press_init) (defScope s_Press_init) [] [] (He.ma K (He.ga K "Press") "__init__") fd := c.def_ 12
theorem bd_Press___init__ {fd : FuncData} (F : FunD K "__init__" "Press.__init__" (defArgs s_Press_init) (defBody s_Press_init) (defScope s_Press_init) [] [] (He.ma K (He.ga K "Press") "__init__") fd) : Binds K fd ["self", "key"] [] := FunD.bindsN F fun _ _ _ _ _ _ us hl => match us, hl with | [_, _], _ => rfl
theorem fd_Go___init__ (c : Hm.Says sheet h K) : ∃ fd, FunD K "__init__" "Go.__init__" (defArgs s_Go_init) (defBody s_Go_init) (defScope s_Go_init) [] [] (He.ma K (He.ga K "Go") "__init__") fd := c.def_ 13
theorem bd_Go___init__ {fd : FuncData} (F : FunD K "__init__" "Go.__init__" (defArgs s_Go_init) (defBody s_Go_init) (defScope s_Go_init) [] [] (He.ma K (He.ga K "Go") "__init__") fd) : Binds K fd ["self", "mode"] [] := FunD.bindsN F fun _ _ _ _ _ _ us hl => match us, hl with | [_, _], _ => rfl
theorem fd_Times___init__ (c : Hm.Says sheet h K) : ∃ fd, FunD K "__init__" "Times.__init__" (defArgs s_Times_init) (defBody s_Times_init) (defScope s_Times_init) [] [] (He.ma K (He.ga K "Times") "__init__") fd := c.def_ 14
theorem fd_Times_levels (c : Hm.Says sheet h K) : ∃ fd, FunD K "levels" "Times.levels" (defArgs s_Times_levels) (defBody s_Times_levels) (defScope s_Times_levels) [] [] (He.ma K (He.ga K "Times") "levels") fd := c.def_ 15
theorem bd_Times_levels {fd : FuncData} (F : FunD K "levels" "Times.levels" (defArgs s_Times_levels) (defBody s_Times_levels) (defScope s_Times_levels) [] [] (He.ma K (He.ga K "Times") "levels") fd) : Binds K fd ["self"] [] := FunD.bindsN F fun _ _ _ _ _ _ us hl => match us, hl with | [_], _ => rfl
theorem fd_is_item (c : Hm.Says sheet h K) : ∃ fd, FunD K "is_item" "is_item" (defArgs s_is_item) (defBody s_is_item) (defScope s_is_item) [] [] (He.ga K "is_item") fd := c.def_ 16
theorem bd_is_item {fd : FuncData} (F : FunD K "is_item" "is_item" (defArgs s_is_item) (defBody s_is_item) (defScope s_is_item) [] [] (He.ga K "is_item") fd) : Binds K fd ["value"] [] := FunD.bindsN F fun _ _ _ _ _ _ us hl => match us, hl with | [_], _ => rfl
theorem fd_Body___init__ (c : Hm.Says sheet h K) : ∃ fd, FunD K "__init__" "Body.__init__" (defArgs s_Body_init) (defBody s_Body_init) (defScope s_Body_init) [] [] (He.ma K (He.ga K "Body") "__init__") fd := c.def_ 17
theorem fd_Body_read (c : Hm.Says sheet h K) : ∃ fd, FunD K "read" "Body.read" (defArgs s_Body_read) (defBody s_Body_read) (defScope s_Body_read) [] [] (He5.wf K (He.ga K "Body") "classmethod" "read") fd := c.def_ 18
theorem bd_Body_read {fd : FuncData} (F : FunD K "read" "Body.read" (defArgs s_Body_read) (defBody s_Body_read) (defScope s_Body_read) [] [] (He5.wf K (He.ga K "Body") "classmethod" "read") fd) : Binds K fd ["cls", "text"] [] := FunD.bindsN F fun _ _ _ _ _ _ us hl => match us, hl with | [_, _], _ => rfl
theorem fd_Body_entries (c : Hm.Says sheet h K) : ∃ fd, FunD K "entries" "Body.entries" (defArgs s_Body_entries) (defBody s_Body_entries) (defScope s_Body_entries) [] [] (He5.wf K (He.ga K "Body") "property" "entries") fd := c.def_ 19
theorem bd_Body_entries {fd : FuncData} (F : FunD K "entries" "Body.entries" (defArgs s_Body_entries) (defBody s_Body_entries) (defScope s_Body_entries) [] [] (He5.wf K (He.ga K "Body") "property" "entries") fd) : Binds K fd ["self"] [] := FunD.bindsN F fun _ _ _ _ _ _ us hl => match us, hl with | [_], _ => rfl
theorem fd_Body_depth (c : Hm.Says sheet h K) : ∃ fd, FunD K "depth" "Body.depth" (defArgs s_Body_depth) (defBody s_Body_depth) (defScope s_Body_depth) [] [] (He5.wf K (He.ga K "Body") "property" "depth") fd := c.def_ 20
theorem bd_Body_depth {fd : FuncData} (F : FunD K "depth" "Body.depth" (defArgs s_Body_depth) (defBody s_Body_depth) (defScope s_Body_depth) [] [] (He5.wf K (He.ga K "Body") "property" "depth") fd) : Binds K fd ["self"] [] := FunD.bindsN F fun _ _ _ _ _ _ us hl => match us, hl with | [_], _ => rfl
theorem fd_made_items (c : Hm.Says sheet h K) : ∃ fd, FunD K "made_items" "made_items" (defArgs s_made_items) (defBody s_made_items) (defScope s_made_items) [] [] (He.ga K "made_items") fd := c.def_ 21
theorem bd_made_items {fd : FuncData} (F : FunD K "made_items" "made_items" (defArgs s_made_items) (defBody s_made_items) (defScope s_made_items) [] [] (He.ga K "made_items") fd) : Binds K fd ["parts"] [] := FunD.bindsN F fun _ _ _ _ _ _ us hl => match us, hl with | [_], _ => rfl
theorem fd_made_item (c : Hm.Says sheet h K) : ∃ fd, FunD K "made_item" "made_item" (defArgs s_made_item) (defBody s_made_item) (defScope s_made_item) [] [] (He.ga K "made_item") fd := c.def_ 22
theorem bd_made_item {fd : FuncData} (F : FunD K "made_item" "made_item" (defArgs s_made_item) (defBody s_made_item) (defScope s_made_item) [] [] (He.ga K "made_item") fd) : Binds K fd ["kind", "value"] [] := FunD.bindsN F fun _ _ _ _ _ _ us hl => match us, hl with | [_, _], _ => rfl
theorem fd__law_pen (c : Hm.Says sheet h K) : ∃ fd, FunD K "_law_pen" "_law_pen" (defArgs s__law_pen) (defBody s__law_pen) (defScope s__law_pen) [] [] (He.ga K "_law_pen") fd := c.def_ 23
theorem bd__law_pen {fd : FuncData} (F : FunD K "_law_pen" "_law_pen" (defArgs s__law_pen) (defBody s__law_pen) (defScope s__law_pen) [] [] (He.ga K "_law_pen") fd) : Binds K fd ["_law_script"] [] := FunD.bindsN F fun _ _ _ _ _ _ us hl => match us, hl with | [_], _ => rfl
theorem fd__law_draw (c : Hm.Says sheet h K) : ∃ fd, FunD K "_law_draw" "_law_draw" (defArgs s__law_draw) (defBody s__law_draw) (defScope s__law_draw) [] [] (He.ga K "_law_draw") fd := c.def_ 24
theorem bd__law_draw {fd : FuncData} (F : FunD K "_law_draw" "_law_draw" (defArgs s__law_draw) (defBody s__law_draw) (defScope s__law_draw) [] [] (He.ga K "_law_draw") fd) : Binds K fd ["_law_pen_here", "_law_size"] [] := FunD.bindsN F fun _ _ _ _ _ _ us hl => match us, hl with | [_, _], _ => rfl
theorem fd__law_pick (c : Hm.Says sheet h K) : ∃ fd, FunD K "_law_pick" "_law_pick" (defArgs s__law_pick) (defBody s__law_pick) (defScope s__law_pick) [] [] (He.ga K "_law_pick") fd := c.def_ 25
theorem bd__law_pick {fd : FuncData} (F : FunD K "_law_pick" "_law_pick" (defArgs s__law_pick) (defBody s__law_pick) (defScope s__law_pick) [] [] (He.ga K "_law_pick") fd) : Binds K fd ["_law_pen_here", "_law_items_here"] [] := FunD.bindsN F fun _ _ _ _ _ _ us hl => match us, hl with | [_, _], _ => rfl
theorem fd__law_words (c : Hm.Says sheet h K) : ∃ fd, FunD K "_law_words" "_law_words" (defArgs s__law_words) (defBody s__law_words) (defScope s__law_words) [] [] (He.ga K "_law_words") fd := c.def_ 26
theorem bd__law_words {fd : FuncData} (F : FunD K "_law_words" "_law_words" (defArgs s__law_words) (defBody s__law_words) (defScope s__law_words) [] [] (He.ga K "_law_words") fd) : Binds K fd ["_law_pen_here", "_law_count"] [] := FunD.bindsN F fun _ _ _ _ _ _ us hl => match us, hl with | [_, _], _ => rfl
theorem fd__law_any_value (c : Hm.Says sheet h K) : ∃ fd, FunD K "_law_any_value" "_law_any_value" (defArgs s__law_any_value) (defBody s__law_any_value) (defScope s__law_any_value) [] [] (He.ga K "_law_any_value") fd := c.def_ 27
theorem bd__law_any_value {fd : FuncData} (F : FunD K "_law_any_value" "_law_any_value" (defArgs s__law_any_value) (defBody s__law_any_value) (defScope s__law_any_value) [] [] (He.ga K "_law_any_value") fd) : Binds K fd ["_law_pen_here"] [] := FunD.bindsN F fun _ _ _ _ _ _ us hl => match us, hl with | [_], _ => rfl
theorem fd__law_item (c : Hm.Says sheet h K) : ∃ fd, FunD K "_law_item" "_law_item" (defArgs s__law_item) (defBody s__law_item) (defScope s__law_item) [] [] (He.ga K "_law_item") fd := c.def_ 28
theorem bd__law_item {fd : FuncData} (F : FunD K "_law_item" "_law_item" (defArgs s__law_item) (defBody s__law_item) (defScope s__law_item) [] [] (He.ga K "_law_item") fd) : Binds K fd ["_law_pen_here", "_law_names_here", "_law_deep"] [] := FunD.bindsN F fun _ _ _ _ _ _ us hl => match us, hl with | [_, _, _], _ => rfl
theorem fd__law_items (c : Hm.Says sheet h K) : ∃ fd, FunD K "_law_items" "_law_items" (defArgs s__law_items) (defBody s__law_items) (defScope s__law_items) [] [] (He.ga K "_law_items") fd := c.def_ 29
theorem bd__law_items {fd : FuncData} (F : FunD K "_law_items" "_law_items" (defArgs s__law_items) (defBody s__law_items) (defScope s__law_items) [] [] (He.ga K "_law_items") fd) : Binds K fd ["_law_pen_here", "_law_names_here", "_law_deep", "_law_topmost"] [] := FunD.bindsN F fun _ _ _ _ _ _ us hl => match us, hl with | [_, _, _, _], _ => rfl
theorem fd__law_names (c : Hm.Says sheet h K) : ∃ fd, FunD K "_law_names" "_law_names" (defArgs s__law_names) (defBody s__law_names) (defScope s__law_names) [] [] (He.ga K "_law_names") fd := c.def_ 30
theorem bd__law_names {fd : FuncData} (F : FunD K "_law_names" "_law_names" (defArgs s__law_names) (defBody s__law_names) (defScope s__law_names) [] [] (He.ga K "_law_names") fd) : Binds K fd ["_law_pen_here"] [] := FunD.bindsN F fun _ _ _ _ _ _ us hl => match us, hl with | [_], _ => rfl
theorem fd__law_plain (c : Hm.Says sheet h K) : ∃ fd, FunD K "_law_plain" "_law_plain" (defArgs s__law_plain) (defBody s__law_plain) (defScope s__law_plain) [] [] (He.ga K "_law_plain") fd := c.def_ 31
theorem bd__law_plain {fd : FuncData} (F : FunD K "_law_plain" "_law_plain" (defArgs s__law_plain) (defBody s__law_plain) (defScope s__law_plain) [] [] (He.ga K "_law_plain") fd) : Binds K fd ["_law_item_here"] [] := FunD.bindsN F fun _ _ _ _ _ _ us hl => match us, hl with | [_], _ => rfl
theorem fd__law_depth (c : Hm.Says sheet h K) : ∃ fd, FunD K "_law_depth" "_law_depth" (defArgs s__law_depth) (defBody s__law_depth) (defScope s__law_depth) [] [] (He.ga K "_law_depth") fd := c.def_ 32
theorem bd__law_depth {fd : FuncData} (F : FunD K "_law_depth" "_law_depth" (defArgs s__law_depth) (defBody s__law_depth) (defScope s__law_depth) [] [] (He.ga K "_law_depth") fd) : Binds K fd ["_law_items_here"] [] := FunD.bindsN F fun _ _ _ _ _ _ us hl => match us, hl with | [_], _ => rfl
theorem fd__law_text (c : Hm.Says sheet h K) : ∃ fd, FunD K "_law_text" "_law_text" (defArgs s__law_text) (defBody s__law_text) (defScope s__law_text) [] [] (He.ga K "_law_text") fd := c.def_ 33
theorem bd__law_text {fd : FuncData} (F : FunD K "_law_text" "_law_text" (defArgs s__law_text) (defBody s__law_text) (defScope s__law_text) [] [] (He.ga K "_law_text") fd) : Binds K fd ["_law_items_here"] [] := FunD.bindsN F fun _ _ _ _ _ _ us hl => match us, hl with | [_], _ => rfl
theorem fd__law_next (c : Hm.Says sheet h K) : ∃ fd, FunD K "_law_next" "_law_next" (defArgs s__law_next) (defBody s__law_next) (defScope s__law_next) [] [] (He.ga K "_law_next") fd := c.def_ 34
theorem bd__law_next {fd : FuncData} (F : FunD K "_law_next" "_law_next" (defArgs s__law_next) (defBody s__law_next) (defScope s__law_next) [] [] (He.ga K "_law_next") fd) : Binds K fd ["_law_sort", "_law_size", "_law_deep", "_law_sign"] [] := FunD.bindsN F fun _ _ _ _ _ _ us hl => match us, hl with | [_, _, _, _], _ => rfl
theorem fd__law_wrong (c : Hm.Says sheet h K) : ∃ fd, FunD K "_law_wrong" "_law_wrong" (defArgs s__law_wrong) (defBody s__law_wrong) (defScope s__law_wrong) [] [] (He.ga K "_law_wrong") fd := c.def_ 35
theorem bd__law_wrong {fd : FuncData} (F : FunD K "_law_wrong" "_law_wrong" (defArgs s__law_wrong) (defBody s__law_wrong) (defScope s__law_wrong) [] [] (He.ga K "_law_wrong") fd) : Binds K fd ["_law_text_here"] [] := FunD.bindsN F fun _ _ _ _ _ _ us hl => match us, hl with | [_], _ => rfl
theorem fd__law_parsed (c : Hm.Says sheet h K) : ∃ fd, FunD K "_law_parsed" "_law_parsed" (defArgs s__law_parsed) (defBody s__law_parsed) (defScope s__law_parsed) [] [] (He.ga K "_law_parsed") fd := c.def_ 36
theorem bd__law_parsed {fd : FuncData} (F : FunD K "_law_parsed" "_law_parsed" (defArgs s__law_parsed) (defBody s__law_parsed) (defScope s__law_parsed) [] [] (He.ga K "_law_parsed") fd) : Binds K fd ["_law_text_here"] [] := FunD.bindsN F fun _ _ _ _ _ _ us hl => match us, hl with | [_], _ => rfl
theorem fd__law_faults (c : Hm.Says sheet h K) : ∃ fd, FunD K "_law_faults" "_law_faults" (defArgs s__law_faults) (defBody s__law_faults) (defScope s__law_faults) [] [] (He.ga K "_law_faults") fd := c.def_ 37
theorem bd__law_faults {fd : FuncData} (F : FunD K "_law_faults" "_law_faults" (defArgs s__law_faults) (defBody s__law_faults) (defScope s__law_faults) [] [] (He.ga K "_law_faults") fd) : Binds K fd ["_law_items_here"] [] := FunD.bindsN F fun _ _ _ _ _ _ us hl => match us, hl with | [_], _ => rfl
theorem fd__law_told (c : Hm.Says sheet h K) : ∃ fd, FunD K "_law_told" "_law_told" (defArgs s__law_told) (defBody s__law_told) (defScope s__law_told) [] [] (He.ga K "_law_told") fd := c.def_ 38
theorem bd__law_told {fd : FuncData} (F : FunD K "_law_told" "_law_told" (defArgs s__law_told) (defBody s__law_told) (defScope s__law_told) [] [] (He.ga K "_law_told") fd) : Binds K fd ["_law_text_here"] [] := FunD.bindsN F fun _ _ _ _ _ _ us hl => match us, hl with | [_], _ => rfl
theorem fd__law_bent (c : Hm.Says sheet h K) : ∃ fd, FunD K "_law_bent" "_law_bent" (defArgs s__law_bent) (defBody s__law_bent) (defScope s__law_bent) [] [] (He.ga K "_law_bent") fd := c.def_ 39
theorem bd__law_bent {fd : FuncData} (F : FunD K "_law_bent" "_law_bent" (defArgs s__law_bent) (defBody s__law_bent) (defScope s__law_bent) [] [] (He.ga K "_law_bent") fd) : Binds K fd ["_law_pen_here", "_law_text_here"] [] := FunD.bindsN F fun _ _ _ _ _ _ us hl => match us, hl with | [_, _], _ => rfl
theorem fd_law (c : Hm.Says sheet h K) : ∃ fd, FunD K "law" "law" (defArgs s_law) (defBody s_law) (defScope s_law) [] [] (He.ga K "law") fd := c.def_ 40
theorem bd_law {fd : FuncData} (F : FunD K "law" "law" (defArgs s_law) (defBody s_law) (defScope s_law) [] [] (He.ga K "law") fd) : Binds K fd ["_law_script"] [] := FunD.bindsN F fun _ _ _ _ _ _ us hl => match us, hl with | [_], _ => rfl
theorem fd_Say_levels (c : Hm.Says sheet h K) : ∃ fd, FunD K "levels" "Item.levels" (defArgs s_Item_levels) (defBody s_Item_levels) (defScope s_Item_levels) [] [] (He.ma K (He.ga K "Say") "levels") fd := c.def_ 41
theorem bd_Say_levels {fd : FuncData} (F : FunD K "levels" "Item.levels" (defArgs s_Item_levels) (defBody s_Item_levels) (defScope s_Item_levels) [] [] (He.ma K (He.ga K "Say") "levels") fd) : Binds K fd ["self"] [] := FunD.bindsN F fun _ _ _ _ _ _ us hl => match us, hl with | [_], _ => rfl
theorem fd_Press_levels (c : Hm.Says sheet h K) : ∃ fd, FunD K "levels" "Item.levels" (defArgs s_Item_levels) (defBody s_Item_levels) (defScope s_Item_levels) [] [] (He.ma K (He.ga K "Press") "levels") fd := c.def_ 42
theorem bd_Press_levels {fd : FuncData} (F : FunD K "levels" "Item.levels" (defArgs s_Item_levels) (defBody s_Item_levels) (defScope s_Item_levels) [] [] (He.ma K (He.ga K "Press") "levels") fd) : Binds K fd ["self"] [] := FunD.bindsN F fun _ _ _ _ _ _ us hl => match us, hl with | [_], _ => rfl
theorem fd_Go_levels (c : Hm.Says sheet h K) : ∃ fd, FunD K "levels" "Item.levels" (defArgs s_Item_levels) (defBody s_Item_levels) (defScope s_Item_levels) [] [] (He.ma K (He.ga K "Go") "levels") fd := c.def_ 43
theorem bd_Go_levels {fd : FuncData} (F : FunD K "levels" "Item.levels" (defArgs s_Item_levels) (defBody s_Item_levels) (defScope s_Item_levels) [] [] (He.ma K (He.ga K "Go") "levels") fd) : Binds K fd ["self"] [] := FunD.bindsN F fun _ _ _ _ _ _ us hl => match us, hl with | [_], _ => rfl
theorem aa2 {α β : Type} {xs : List α} {ys : List β} {q : α → β → Bool} (h : (xs.all fun x => ys.all fun y => q x y) = true) : ∀ x ∈ xs, ∀ y ∈ ys, q x y = true := fun x hx y hy => List.all_eq_true.mp (List.all_eq_true.mp h x hx) y hy
theorem bt (X : K.In h) (G : h.Ns mainGlobals mg) (c : Hm.Says sheet h K) : Bt mg := ⟨z_isinstance X G c, z_str X G c, z_int X G c, z_bool X G c, z_len X G c, z_all X G c, z_max X G c, z_tuple X G c, z_list X G c, z_enumerate X G c, z_range X G c, z_min X G c⟩
theorem cs (X : K.In h) (G : h.Ns mainGlobals mg) (c : Hm.Says sheet h K) : Cs mg := ⟨i_LETTERS X G c, i_LONGEST_WORD X G c, i_ITEMS X G c, i_DEPTH X G c, i_NUMBER X G c⟩
theorem tc (X : K.In h) (G : h.Ns mainGlobals mg) (c : Hm.Says sheet h K) : Tc PW K mg where
  bt := bt X G c
  cs := cs X G c
  kl := fun x hx => kl_all c x (List.mem_append_left (["ItemReader"] : List Str) hx)
  g := by
    intro x hx
    simp only [List.mem_cons, List.not_mem_nil, or_false] at hx
    rcases hx with rfl | rfl | rfl | rfl | rfl | rfl
    · exact g_Item X G c
    · exact g_Say X G c
    · exact g_Press X G c
    · exact g_Go X G c
    · exact g_Times X G c
    · exact g_Body X G c
  mkr := fun x hx => mk_all c x (List.mem_append_left (["ItemReader"] : List Str) hx)
  na := fun x hx => na_all c x (List.mem_append_left ([("ItemReader", "own_text"), ("ItemReader", "own_place")] : List (Str × Str)) hx)
  kind := kd_all c
  lev := by
    intro x hx
    refine me_all c (x, "levels") ?_
    simp only [List.mem_cons, List.not_mem_nil, or_false] at hx
    rcases hx with rfl | rfl | rfl | rfl <;> decide
  kit := fun x hx y hy => of_decide_eq_true (aa2 (zck_kit c) x hx y hy)
  kitT := fun x hx y hy => of_decide_eq_true (aa2 (zck_kitT c) x hx y hy)
  kitO := fun x hx y hy => of_decide_eq_true (aa2 (zck_kitO c) x hx y hy)
  dep := pr_all c ("Body", "depth") (by decide)
  ofT := cm_all c ("Times", "of") (by decide)
  ofB := cm_all c ("Body", "of") (by decide)
  eI := ee_InvalidItem X G c
  eN := ee_NotAnItem X G c
  eM := ee_TooMany X G c
  eD := ee_TooDeep X G c
theorem tr (X : K.In h) (G : h.Ns mainGlobals mg) (c : Hm.Says sheet h K) : Tr PW K mg where
  kl := kl_all c "ItemReader" (by decide)
  g := g_ItemReader X G c
  mkr := mk_all c "ItemReader" (by decide)
  na := by
    intro f hf
    refine na_all c ("ItemReader", f) ?_
    simp only [List.mem_cons, List.not_mem_nil, or_false] at hf
    rcases hf with rfl | rfl <;> decide
  me := by
    intro f hf
    refine me_all c ("ItemReader", f) ?_
    simp only [List.mem_cons, List.not_mem_nil, or_false] at hf
    rcases hf with rfl | rfl | rfl | rfl | rfl | rfl | rfl <;> decide
  digits := i_DIGITS X G c
  most := i_MOST_DIGITS X G c
  eT := ee_InvalidText X G c
theorem tt (X : K.In h) (G : h.Ns mainGlobals mg) (c : Hm.Says sheet h K) : Tt5 PW K mg where
  g := by
    intro x hx
    simp only [er5n, List.mem_cons, List.not_mem_nil, or_false] at hx
    rcases hx with rfl | rfl | rfl | rfl
    · exact (ec_InvalidText X G c).gC
    · exact (ec_InvalidItem X G c).gC
    · exact (ec_TooMany X G c).gC
    · exact (ec_TooDeep X G c).gC
  x := fun x hx => (Hk.exc_of (ex_of c (by
    simp only [er5n, List.mem_cons, List.not_mem_nil, or_false] at hx
    rcases hx with rfl | rfl | rfl | rfl <;> decide)).1).1
  c := fun x hx => (Hk.exc_of (ex_of c (by
    simp only [er5n, List.mem_cons, List.not_mem_nil, or_false] at hx
    rcases hx with rfl | rfl | rfl | rfl <;> decide)).1).2
  e := fun x hx y hy => of_decide_eq_true (aa2 (zck_exm c) x hx y hy)
  k := of_decide_eq_true (zck_kV c)
  fV := z_ValueError X G c
theorem of_fd {w : World} {base : Heap} {x : Str} {k : Nat} {ps : List Str} {sp : Sp} {fd : FuncData} (g : mg x = some (.ref (He.ga K x))) (kp : PySem.W.keepIn K (.ref (He.ga K x)) = true) (b : Binds K fd ps []) (F : FnOk PW w K mg base (LX PW w) k (He.ga K x) fd ps sp) : Of PW w K mg base k x sp := ⟨_, g, kp, rawOf F b⟩
end
end Kb

namespace Kb
open PySem PySem.Spec PyProof.Rows L2 Mq Rz
section
variable {K : PySem.W.Frag} {h : Heap} {mg : Str → Option Value}
/-- all functions that the law calls -/
theorem fu {w : World} {base : Heap} (X : K.In h) (G : h.Ns mainGlobals mg) (c : Hm.Says sheet h K) : Fu PW w K mg base := by
  have T := tc X G c
  obtain ⟨_, F1⟩ := fd_is_word c
  obtain ⟨_, F2⟩ := fd_is_integer c
  obtain ⟨_, F3⟩ := fd_is_within c
  obtain ⟨_, F4⟩ := fd_is_item c
  obtain ⟨_, F5⟩ := fd_Say___init__ c
  obtain ⟨_, F6⟩ := fd_Press___init__ c
  obtain ⟨_, F7⟩ := fd_Go___init__ c
  obtain ⟨_, F8⟩ := fd_Times___init__ c
  obtain ⟨_, F10⟩ := fd_Times_levels c
  obtain ⟨_, F11⟩ := fd_Body___init__ c
  obtain ⟨_, F13⟩ := fd_Body_depth c
  obtain ⟨_, F15⟩ := fd__law_pen c
  obtain ⟨_, F16⟩ := fd__law_draw c
  obtain ⟨_, F17⟩ := fd__law_pick c
  obtain ⟨_, F18⟩ := fd__law_words c
  obtain ⟨_, F20⟩ := fd__law_item c
  obtain ⟨_, F21⟩ := fd__law_items c
  obtain ⟨_, F22⟩ := fd__law_names c
  obtain ⟨_, F24⟩ := fd_Say_levels c
  obtain ⟨_, F25⟩ := fd_Press_levels c
  obtain ⟨_, F26⟩ := fd_Go_levels c
  have W : Of PW w K mg base 1 "is_word" (spWord K) := of_word (of_fd (g_is_word X G c) F1.kp (bd_is_word F1) (ok_is_word F1 T.bt T.cs))
  have I1 : Of PW w K mg base 1 "is_integer" (spIsInt K) := of_fd (g_is_integer X G c) F2.kp (bd_is_integer F2) (ok_is_integer F2 T.bt)
  have I2 : Of PW w K mg base 2 "is_within" (spWithin K) := of_fd (g_is_within X G c) F3.kp (bd_is_within F3) (ok_is_within F3 I1)
  have I3 : Of PW w K mg base 1 "is_item" (spIsItem K) := of_fd (g_is_item X G c) F4.kp (bd_is_item F4) (ok_is_item F4 T)
  have Sa := rawOf (ok_Say (w := w) (base := base) F5 T W) (bd_Say___init__ F5)
  have Pr := rawOf (ok_Press (w := w) (base := base) F6 T W) (bd_Press___init__ F6)
  have Go := rawOf (ok_Go (w := w) (base := base) F7 T W) (bd_Go___init__ F7)
  have De := ok_depth (w := w) (base := base) F13 T
  have L1 := rawOf (ok_levels (P := PW) (w := w) (mg := mg) (base := base) F24) (bd_Say_levels F24)
  have L2 := rawOf (ok_levels (P := PW) (w := w) (mg := mg) (base := base) F25) (bd_Press_levels F25)
  have L3 := rawOf (ok_levels (P := PW) (w := w) (mg := mg) (base := base) F26) (bd_Go_levels F26)
  have L0 : ∀ x ∈ (["Say", "Press", "Go"] : List Str), FnR PW w K mg base (LX PW w) 3 (He.ma K (He.ga K x) "levels") (spLv0 0) := by
    intro x hx
    simp only [List.mem_cons, List.not_mem_nil, or_false] at hx
    rcases hx with rfl | rfl | rfl
    · exact L1.mono (by decide)
    · exact L2.mono (by decide)
    · exact L3.mono (by decide)
  have LT := rawOf (ok_levelsT (g := 0) (w := w) (base := base) F10 T De (bd_Body_depth F13)) (bd_Times_levels F10)
  have Bo := ok_body (fd2 := default) (fd3 := default) (w := w) (base := base) F11 T I3 L0 LT
  have Ti := ok_timesX (w := w) (base := base) F8 T I2 Bo De (bd_Body_depth F13)
  have Pe : Of PW w K mg base 1 "_law_pen" (spPen K) := of_fd (g__law_pen X G c) F15.kp (bd__law_pen F15) (ok_pen F15 T.bt)
  have Dr : Of PW w K mg base 1 "_law_draw" spDraw := of_fd (g__law_draw X G c) F16.kp (bd__law_draw F16) (ok_draw F16 T.bt)
  have Pi : Of PW w K mg base 2 "_law_pick" (spPick K) := of_fd (g__law_pick X G c) F17.kp (bd__law_pick F17) (ok_pick F17 T.bt Dr)
  have Wo := of_fd (w := w) (base := base) (g__law_words X G c) F18.kp (bd__law_words F18) (ok_words F18 T.bt Dr Pi)
  have Na := of_fd (w := w) (base := base) (g__law_names X G c) F22.kp (bd__law_names F22) (ok_names F22 Wo Pi)
  have gi := g__law_items X G c
  have A0 := of_fd (w := w) (base := base) (g__law_item X G c) F20.kp (bd__law_item F20) (ok_item (j := 2) 0 (by decide) (by decide) F20 Dr Pi (of_less gi F21.kp))
  have B0 := of_fd (w := w) (base := base) gi F21.kp (bd__law_items F21) (ok_items (j := 3) 0 (by decide) (by decide) F21 T.bt Dr A0)
  have A1 := of_fd (w := w) (base := base) (g__law_item X G c) F20.kp (bd__law_item F20) (ok_item (j := 4) 1 (by decide) (by decide) F20 Dr Pi B0)
  have B1 := of_fd (w := w) (base := base) gi F21.kp (bd__law_items F21) (ok_items (j := 5) 1 (by decide) (by decide) F21 T.bt Dr A1)
  have A2 := of_fd (w := w) (base := base) (g__law_item X G c) F20.kp (bd__law_item F20) (ok_item (j := 6) 2 (by decide) (by decide) F20 Dr Pi B1)
  have B2 := of_fd (w := w) (base := base) gi F21.kp (bd__law_items F21) (ok_items (j := 7) 2 (by decide) (by decide) F21 T.bt Dr A2)
  -- plain, at, shuffled
  obtain ⟨_, F41⟩ := fd_Body_entries c
  obtain ⟨_, F42⟩ := fd__law_plain c
  have En := ok_entries (w := w) (base := base) F41 T
  have pE := pr_all c ("Body", "entries") (by decide)
  have gp := g__law_plain X G c
  have P00 : Of PW w K mg base 2 "_law_plain" (spPlainL K 0) := ⟨_, gp, F42.kp, fun _ _ _ _ _ _ _ _ _ _ _ h => h.elim⟩
  have P0 := of_fd (w := w) (base := base) gp F42.kp (bd__law_plain F42) (ok_plain (fe := 0) (j := 2) 0 (by decide) F42 T En (bd_Body_entries F41) pE P00)
  have P1 := of_fd (w := w) (base := base) gp F42.kp (bd__law_plain F42) (ok_plain (fe := 0) (j := 3) 1 (by decide) F42 T En (bd_Body_entries F41) pE P0)
  have P2 := of_fd (w := w) (base := base) gp F42.kp (bd__law_plain F42) (ok_plain (fe := 0) (j := 4) 2 (by decide) F42 T En (bd_Body_entries F41) pE P1)
  -- the law's text
  obtain ⟨_, F51⟩ := fd__law_text c
  have gt := g__law_text X G c
  have L00 : Of PW w K mg base 1 "_law_text" (spLTxL 0) := ⟨_, gt, F51.kp, fun _ _ _ _ _ _ _ _ _ _ _ h => h.elim⟩
  have LT0 := of_fd (w := w) (base := base) gt F51.kp (bd__law_text F51) (ok_ltext (j := 1) 0 F51 T L00)
  have LT1 := of_fd (w := w) (base := base) gt F51.kp (bd__law_text F51) (ok_ltext (j := 2) 1 F51 T LT0)
  have LT2 := of_fd (w := w) (base := base) gt F51.kp (bd__law_text F51) (ok_ltext (j := 3) 2 F51 T LT1)
  -- the reader
  have R := tr X G c
  obtain ⟨_, R1⟩ := fd_ItemReader___init__ c
  obtain ⟨_, R2⟩ := fd_ItemReader_sign c
  obtain ⟨_, R3⟩ := fd_ItemReader_word c
  obtain ⟨_, R4⟩ := fd_ItemReader_number_here c
  obtain ⟨_, R5⟩ := fd_ItemReader_most_digits c
  obtain ⟨_, R6⟩ := fd_ItemReader_item c
  obtain ⟨_, R7⟩ := fd_ItemReader_whole c
  obtain ⟨_, R8⟩ := fd_made_item c
  obtain ⟨_, R9⟩ := fd_made_items c
  obtain ⟨_, R10⟩ := fd_Body_read c
  obtain ⟨_, R11⟩ := fd_ItemReader_fail c
  have r1 := rawOf (ok_ri (w := w) (base := base) R1 R) (bd_ItemReader___init__ R1)
  have r2 := rawOf (ok_sign (w := w) (base := base) R2 R) (bd_ItemReader_sign R2)
  have r11 := rawOf (ok_fail (w := w) (base := base) R11 R) (bd_ItemReader_fail R11)
  have r3 := rawOf (ok_wordX (w := w) (base := base) R3 R T.cs r2 r11) (bd_ItemReader_word R3)
  have r5 := rawOf (ok_most (w := w) (base := base) R5 R) (bd_ItemReader_most_digits R5)
  have r4 := rawOf (ok_numX (w := w) (base := base) R4 R T.bt r2 r5 r11) (bd_ItemReader_number_here R4)
  have r6 := rawOf (ok_itemX (w := w) (base := base) R6 R r2 r3 r4) (bd_ItemReader_item R6)
  have r7 := rawOf (ok_wholeX (w := w) (base := base) R7 R T.bt r2 r11 r6) (bd_ItemReader_whole R7)
  have r8 := of_fd (w := w) (base := base) (g_made_item X G c) R8.kp (bd_made_item R8) (ok_mi R8 T Sa Pr Go)
  have r9 := of_fd (w := w) (base := base) (g_made_items X G c) R9.kp (bd_made_items R9) (ok_misX R9 T r8 Ti)
  have r10 := rawOf (ok_readX (w := w) (base := base) R10 T R r1 r7 r9 Bo) (bd_Body_read R10)
  -- the law's own functions
  obtain ⟨_, F19⟩ := fd__law_any_value c
  obtain ⟨_, N1⟩ := fd__law_next c
  obtain ⟨_, N2⟩ := fd__law_wrong c
  obtain ⟨_, N3⟩ := fd__law_parsed c
  obtain ⟨_, N4⟩ := fd__law_depth c
  obtain ⟨_, N5⟩ := fd__law_faults c
  obtain ⟨_, N6⟩ := fd__law_told c
  obtain ⟨_, N7⟩ := fd__law_bent c
  have An := of_fd (w := w) (base := base) (g__law_any_value X G c) F19.kp (bd__law_any_value F19) (ok_any F19 Pi)
  have n1 := of_fd (w := w) (base := base) (g__law_next X G c) N1.kp (bd__law_next N1) (ok_next N1)
  have n2 := of_fd (w := w) (base := base) (g__law_wrong X G c) N2.kp (bd__law_wrong N2) (ok_wrong N2 T.bt n1)
  have n3 := of_fd (w := w) (base := base) (g__law_parsed X G c) N3.kp (bd__law_parsed N3) (ok_parsed N3 T.bt)
  have gd := g__law_depth X G c
  have gf := g__law_faults X G c
  have lev : ∀ D : Nat, Of PW w K mg base (D + 1) "_law_depth" (spDepL D) ∧ Of PW w K mg base (D + 1) "_law_faults" (spFlL D) := by
    intro D
    induction D with
    | zero => exact ⟨⟨_, gd, N4.kp, fun _ _ _ _ _ _ _ _ _ _ _ h => h.elim⟩, ⟨_, gf, N5.kp, fun _ _ _ _ _ _ _ _ _ _ _ h => h.elim⟩⟩
    | succ D ih => exact ⟨of_fd (w := w) (base := base) gd N4.kp (bd__law_depth N4) (ok_lawDep (j := D + 1) D N4 T.bt ih.1), of_fd (w := w) (base := base) gf N5.kp (bd__law_faults N5) (ok_faults (j := D + 1) D N5 T.bt ih.2 ih.1)⟩
  have n6 := of_fd (w := w) (base := base) (g__law_told X G c) N6.kp (bd__law_told N6) (ok_told (fde := 0) N6 T R (tt X G c) (cm_all c ("Body", "read") (by decide)) r10 En (bd_Body_entries F41) pE P2)
  have n7 := of_fd (w := w) (base := base) (g__law_bent X G c) N7.kp (bd__law_bent N7) (ok_bent N7 T.bt Dr Pi)
  exact ⟨Pe, Na, B2, LT2, n7, n2, n6, n3, (lev 129).2, An⟩
theorem facts {w : World} {f : Addr} (X : K.In h) (G : h.Ns mainGlobals mg) (hfa : mg ("law" : Str) = some (.ref f)) (c : Hm.Says sheet h K) :
    ∃ fd : FuncData, (∀ (s : Shared) (v : Value), BindsTo s fd ⟨[v], []⟩ [("_law_script", v)]) ∧ ∀ base : Heap, K.In base → base.Ns mainGlobals mg → Gd.FnG PW w K mg base (LX PW w) 131 f fd ["_law_script"] (spLaw K) := by
  have e := hfa.symm.trans (g_law X G c)
  cases e
  obtain ⟨fd, F⟩ := fd_law c
  have b := FunD.bindsA (ps := ["_law_script"]) F fun _ _ _ _ _ _ us hl => match us, hl with | [_], _ => rfl
  exact ⟨fd, fun s v => b s [v] rfl, fun base _ _ => ok_law F (tc X G c).bt (fu (w := w) (base := base) X G c)⟩
end
end Kb
open PySem PySem.W PySem.Calls PyProof.Rows
set_option maxRecDepth 100000 in
set_option maxHeartbeats 0 in
theorem PySem.Challenge.cw_onestroke_k05_whole_bent_body_texts_holds : PySem.Challenge.rw_onestroke_k05_whole_bent_body_texts.Holds := by
  w_on; o_law
  refine HandSHeadRun.head_any (r := OpenLaw.row PySem.Challenge.rw_onestroke_k05_whole_bent_body_texts) (q := view (OpenLaw.row PySem.Challenge.rw_onestroke_k05_whole_bent_body_texts).prog [50]) (H := Kb.hk) (ob := Kb.ob) (M := 60000) (loose := Kb.names) (d := HandSHeadRun.topDef (OpenLaw.row PySem.Challenge.rw_onestroke_k05_whole_bent_body_texts).prog 50) (kwd := []) Kb.ob_eq
    (by kernel_rfl) (fun s => by kernel_rfl) Kb.runW (by kernel_rfl) (by kernel_rfl) (by kernel_rfl) (by rfl) (by first | assumption | decide +kernel) (by decide +kernel) ⟨rfl, rfl, rfl, rfl, rfl, by decide +kernel⟩ ?hw ?hc
  case hw => w_witness2
  case hc =>
    refine Gd.walkG (l := PySem.Challenge.rw_onestroke_k05_whole_bent_body_texts) (n := 63) (k := 131) (x := "_law_script") (CX := fun w => Mq.LX Kb.PW w) rfl (by decide) (by kernel_rfl) ⟨rfl, by decide, by decide⟩ ?F (fun w H s e s' z => ?_)
    · intro w mg fa h Y G hmg0
      obtain ⟨K, KX, c⟩ := Y
      have hmg : mg ("law" : PySem.Str) = some (.ref fa) := by
        have e : (HandSHeadRun.topDef (OpenLaw.row PySem.Challenge.rw_onestroke_k05_whole_bent_body_texts).prog 50).name = ("law" : PySem.Str) := by kernel_rfl
        rw [← e]
        exact hmg0
      obtain ⟨fd, hb, hF⟩ := Kb.facts (w := w) KX G hmg c
      exact ⟨K, fd, Kb.spLaw K, KX, hb, fun H a ns hl _ hS => ⟨a, ns, rfl, hS, hl, fun _ => rfl⟩, hF⟩
    · obtain ⟨_, _, _, _, _, _, _, _, _, _, _, _, z2⟩ := z
      exact z2.elim
#print axioms PySem.Challenge.cw_onestroke_k05_whole_bent_body_texts_holds
