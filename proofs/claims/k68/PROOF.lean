import PyProof.Rows.All
import Wide.All
import OpenK.AllK
import Wide.FinOn
import KE.KSuper
import KE.KExcSuper
import HandS.ForMost
import HandS.Exc
import HandS.ExcOwn
import HandS.ExcInit
import HandS.ExcIs
import HandS.ExcField
import HandS.TryOnly
import HandS.WordsExc
import HandS.More
import HandS.Flow
import HandS.Star
import HandS.Defaults
import HandS.SetKeys
import HandS.IsInst
import HandS.Steps
import HandS.Head0
import HandS.Head1
import HandS.Head2
import HandS.HeadEnd
import HandS.HeadHook1
import HandS.HeadHook2
import KE.KItemsList
import KE.KDictZip
import HandS.Base
import HandS.Call
import HandS.List
import HandS.Iter
import HandS.ListItems
import HandS.HotCalls
import HandS.DictComp
import HandS.Comp
import HandS.ReplaceLit
import HandS.ReplaceDef
import HandS.Text
import HandS.Codes
import HandS.ReplaceList
import PySem.Challenge.RW_treesfromyes_k68_brackets_there_and_back
set_option Elab.async false
set_option linter.all false
set_option maxRecDepth 100000
set_option maxHeartbeats 4000000
set_option maxHeartbeats 4000000
/-! Own exceptions whose maker says super().__init__(text) and then stores its arguments. -/
namespace XX
open PySem PySem.W PySem.Calls PyProof.Rows PySem.HandSPX PySem.Spec

/-- the class at C, as the top leaves it -/
structure ExW (K : Frag) (C : Addr) : Prop where
  ini : excInitIn K C [.type "ValueError", .type "Exception", .type "BaseException", .type "object"] "ValueError.__new__" = true
  md : (clsIn K C).any (fun cd => refsVE cd.mro && cd.hasDict) = true
  sa : findIn K (.ref C) "__setattr__" = some (some (.builtin "object.__setattr__"))
  ga : findIn K (.ref C) "__getattribute__" = some (some (.builtin "BaseException.__getattribute__"))
  gg : findIn K (.ref C) "__getattr__" = some none
  exC : subIn K (.ref C) (.type "BaseException") = some true
  veC : subIn K (.ref C) (.type "ValueError") = some true
  tyC : typeIn K (.ref C) = some (.type "type")
  kC : keepIn K (.ref C) = true
  own : mroIn K C (.ref C) = some true
  sup : ks_superIn K C C "__init__" = some (some (.builtin "ValueError.__init__"))
def exwB (K : Frag) (C : Addr) : Bool :=
  excInitIn K C [.type "ValueError", .type "Exception", .type "BaseException", .type "object"] "ValueError.__new__" &&
  ((clsIn K C).any (fun cd => refsVE cd.mro && cd.hasDict) &&
  (decide (findIn K (.ref C) "__setattr__" = some (some (.builtin "object.__setattr__"))) &&
  (decide (findIn K (.ref C) "__getattribute__" = some (some (.builtin "BaseException.__getattribute__"))) &&
  (decide (findIn K (.ref C) "__getattr__" = some none) &&
  (decide (subIn K (.ref C) (.type "BaseException") = some true) &&
  (decide (subIn K (.ref C) (.type "ValueError") = some true) &&
  (decide (typeIn K (.ref C) = some (.type "type")) &&
  (keepIn K (.ref C) &&
  (decide (mroIn K C (.ref C) = some true) &&
  decide (ks_superIn K C C "__init__" = some (some (.builtin "ValueError.__init__"))))))))))))
theorem exwB_ok {K : Frag} {C : Addr} (h : exwB K C = true) : ExW K C := by
  simp only [exwB, Bool.and_eq_true, decide_eq_true_eq] at h
  obtain ⟨h1, h2, h3, h4, h5, h6, h7, h8, h9, h10, h11⟩ := h
  exact ⟨h1, h2, h3, h4, h5, h6, h7, h8, h9, h10, h11⟩
theorem ExW.hasDict {K : Frag} {C : Addr} (T : ExW K C) : hasDictIn K C = true := by
  have h := T.md
  unfold hasDictIn
  cases e : clsIn K C with
  | none => rw [e] at h; cases h
  | some cd =>
    rw [e] at h
    have h' : (refsVE cd.mro && cd.hasDict) = true := h
    exact (Bool.and_eq_true_iff.mp h').2
theorem ExW.cd {K : Frag} {C : Addr} (T : ExW K C) : ∃ cd, clsIn K C = some cd ∧ refsVE cd.mro = true ∧ cd.hasDict = true := by
  have h := T.md
  cases e : clsIn K C with
  | none => rw [e] at h; cases h
  | some cd =>
    rw [e] at h
    have h' : (refsVE cd.mro && cd.hasDict) = true := h
    exact ⟨cd, rfl, Bool.and_eq_true_iff.mp h'⟩

section
variable {prog : Program} {w : World} {A : Around} {E : Value → Shared → Prop} {s : Shared} {K : Frag} {mg mb : Str → Option Value} {C : Addr}

/-- super().__init__(text) within the frame of __init__ -/
theorem sup_call {env : Env} {body : List Stmt} {p0 p1 p2 p3 p4 p5 : Pos} {k : Nat} {txt : Str} {f cc cda x t0 : Addr} {fd : FuncData} {ar : Arg} {vs : Array Value} {file : Str} {tf : Tok} {m : Str → Option Value} {Q : Flow → Shared → Prop}
    {of ocd : Obj} {cl : Value} {cld : Option Addr} {csl : Array (Option Value)}
    (T : ExW K C) (X : K.In s.heap) (G : s.heap.Ns mainGlobals mg) (hsup : mg "super" = none) (B : s.heap.Ns builtinsNs mb) (hB : ∀ y : Str, y ≠ "__name__" → mb y = bootBuiltins y)
    (hany : nsIn K cStatics "thirdparty.any" = some none)
    (ek : env.scope.kind = .function) (eg : env.globals = mainGlobals) (eb : env.builtins = builtinsNs) (e1 : env.kindOf "super" = some .globalImplicit) (e2 : env.kindOf "__class__" = some .free)
    (e3 : env.cells.lookup ("__class__" : Str) = some cc) (e4 : env.func = some f) (e5 : env.code = .ref cda) (e6 : env.kindOf ar.arg = some .local)
    (hi : interactive env = false) (hsw : swapsWith (.Call (.Attribute (.Call (.Name "super" p0) [] [] p1) "__init__" p2) [.Constant (.str txt) k p3] [] p4) none p5.line env = pure false)
    (hcall : ∃ pl : Sem Bool, eval (.Call (.Attribute (.Call (.Name "super" p0) [] [] p1) "__init__" p2) [.Constant (.str txt) k p3] [] p4) env = (do
      let ov ← attributeBase (.Call (.Name "super" p0) [] [] p1) "__init__" env (eval (.Call (.Name "super" p0) [] [] p1) env)
      standAt p2.atName
      let (g, first) ← holding [ov] (getMethod ov "__init__" pl)
      callWith p4 g first (backTo p4 (starEach [.Constant (.str txt) k p3] env)) []))
    (hst : starEach [.Constant (.str txt) k p3] env = (false, eval (.Constant (.str txt) k p3) env) :: starEach [] env)
    (hf : s.heap.get? f = some of) (hfd : of.data = .func fd) (hp : (fd.params.posonlyargs ++ fd.params.args).head? = some ar)
    (hcd : s.heap.get? cda = some ocd) (hcf : ocd.data = .fields vs) (hvs : vs[2]? = some (.str file tf)) (hfile : ((prog.main.file : Str) == file) = true) (htop : (prog.main.scope.names.lookup ("super" : Str)).isSome = false)
    (hcell : K.lookup cc = some ⟨cl, cld, .cell (some (.ref C)), csl⟩) (hn : s.heap.Ns env.locals m) (hv : m ar.arg = some (.ref x)) (hx : s.heap.get? x = some (excO C t0)) (hxC : x ≠ C)
    (hq : ∀ h' tk t1, (∀ b o, b ≠ x → s.heap.get? b = some o → h'.get? b = some o) → h'.get? x = some (excO C t1) → Q .next { s with heap := h', toks := tk }) :
    _root_.PySem.wpAt (model prog w) A (.func body env) (exec (.Expr (.Call (.Attribute (.Call (.Name "super" p0) [] [] p1) "__init__" p2) [.Constant (.str txt) k p3] [] p4) p5) env) Q E s := by
  obtain ⟨pl, hcall⟩ := hcall
  obtain ⟨cd, hD, hmr, hdd⟩ := T.cd
  obtain ⟨hh, g, d, t, os⟩ := s
  obtain ⟨oD, hD1, hD2⟩ : ∃ oD, hh.get? C = some oD ∧ oD.data = .cls cd := by
    have hD' := hD
    unfold clsIn at hD'
    split at hD'
    · rename_i c d cd' sl ho
      cases hD'
      exact ⟨_, X _ _ ho, rfl⟩
    · cases hD'
  refine ks_wpAt_Expr_any ?_ hi hsw
  refine ks_wpAt_MethodCall (pl := pl) ?_ hcall
  refine ks_wpAt_super_base (env := env) e1 e2 rfl e4 hf hfd hp e5 hcd hcf hvs hfile htop ?_
  refine ks_loadName_global ek e1 (loadGlobal_builtin (by rw [eg]; exact G) hsup (by rw [eb]; exact B) ((hB _ (by decide +kernel)).trans (by first | exact boot_super | kernel_rfl)) ⟨rfl, ?_⟩)
  refine wpAny_loadName_free ek e2 e3 ⟨_, X _ _ hcell, rfl⟩ ?_
  refine wpAny_loadName_local ek e6 hn hv ?_
  refine ks_wpAny_isType_cls hD1 hD2 ⟨rfl, ?_⟩
  refine ks_wpAny_call_super hD1 hD2 hx rfl (fun c q => by cases q) (looks_mroIn X T.own) (fun h1 es ks => ?_)
  have X1 : K.In h1 := X.keeps ks
  have hm : alongIn K "__init__" ((cd.mro.dropWhile (· != .ref C)).drop 1) = some (some (.builtin "ValueError.__init__")) := by
    have z := T.sup
    unfold ks_superIn at z
    rw [hD] at z
    exact z
  have hI : Looks (model prog w) h1 (isInstance (.ref x) (.type "ValueError")) true := by
    have I : InstAt h1 x (excO C t0) C none := ⟨ks _ _ hx, rfl, rfl, trivial⟩
    exact I.type.andThen (looks_subIn X1 T.veC)
  refine kxs_getMethod kxs_ValueError es (looks_opaque X1 hany) (l₀ := cd.mro) ?_ rfl X1 hm hI hxC (by decide) ?_
  · exact fun A Q E s k q => wpAny_bind ((looks_clsIn X1 hD) A _ E s k (wpAny_pure q))
  have hu : (h1.push (kxs_mw "ValueError.__init__" x)).get? h1.objs.size = some (kxs_mw "ValueError.__init__" x) := Heap.get?_push_at rfl rfl
  have kp : ∀ b o, h1.get? b = some o → (h1.push (kxs_mw "ValueError.__init__" x)).get? b = some o := fun b o e => Heap.get?_push_of_some _ e
  rw [hst]
  refine kxs_callWith (i := "ValueError.__init__") (x := x) (by rfl) (evalArgs_plain ?_)
  show wpAny _ _ (spliced ((false, eval (.Constant (.str txt) k p3) env) :: [])) _ _ _
  refine spliced_cons (Constant_str (spliced_nil ⟨hu, ?_⟩))
  have hx1 : (h1.push (kxs_mw "ValueError.__init__" x)).get? x = some (excO C t0) := kp _ _ (ks _ _ hx)
  have X2 : K.In (h1.push (kxs_mw "ValueError.__init__" x)) := X1.keeps kp
  obtain ⟨nm, N', qn, bs, bm, hdct, sn, sub, ab, col, dd, k0, k1, k2, k3, k5, hC, hT⟩ := excInit_of X2 T.ini
  refine wpAny_call (codeAny_of_tree ?_)
  show wpAny _ A.in1 (callAny (.ref h1.objs.size) ⟨_, []⟩) _ _ _
  simp only [callAny]
  refine wpAny_bind (wpAny_load hu ?_)
  simp only [kxs_mw, show (Value.type "method-wrapper" == Value.type "method" || Value.type "method-wrapper" == Value.type "builtin_function_or_method" || Value.type "method-wrapper" == Value.type "method-wrapper") = true by decide, if_true]
  refine KFB.if_so (by decide) ?_
  refine wpAny_bind (check_bound_init PySem.F.excBase_ValueError.toExcCallFacts hC hx1 rfl ?_)
  refine wpAny_bind (wpAny_pure (wpAny_pure ?_))
  refine ⟨plainId_quiet PySem.F.excBase_ValueError.init.plain _, codeAny_builtin PySem.F.excBase_ValueError.initEntry ?_⟩
  refine exc_init_tree (e := x) (cls := .ref C) (t0 := t0) (dv := none) (c2 := .none) (c3 := .none) (b4 := .bool false) hx1 (by rw [sizeLine_eq]; exact (by decide : 1 ≤ 16777216)) fun h' k2 e' t' => ?_
  exact hq h' _ _ (fun b o hb ho => k2 b o hb (kp _ _ (ks _ _ ho))) e'
end
end XX

set_option maxHeartbeats 4000000
namespace XX
open PySem PySem.W PySem.Calls PyProof.Rows PySem.HandSPX PySem.Spec
/-! ### the text of __init__ -/
def iArg (x : Str) (p : Pos) : Arg := { arg := x, annotation := none, pos := p }
def iArgs (xs : List Arg) : Arguments := { posonlyargs := [], args := xs, vararg := none, kwonlyargs := [], kw_defaults := [], kwarg := none, defaults := [] }
def iSup (txt : Str) (k : Nat) (p0 p1 p2 p3 p4 p5 : Pos) : Stmt := .Expr (.Call (.Attribute (.Call (.Name "super" p0) [] [] p1) "__init__" p2) [.Constant (.str txt) k p3] [] p4) p5
def iSt (n : Str) (q0 q1 q2 q3 : Pos) : Stmt := .Assign [.Attribute (.Name "self" q0) n q1] (.Name n q2) q3
def iSc (ns : List Str) : Scope := { kind := .function, names := (("self" : Str), NameKind.local) :: ns.map (fun n => (n, NameKind.local)) ++ [(("__class__" : Str), NameKind.free), (("super" : Str), NameKind.globalImplicit)], isGenerator := false, isCoroutine := false, more := [] }

section
variable {prog : Program} {w : World} {A : Around} {E : Value → Shared → Prop} {s : Shared} {K : Frag} {mg mb : Str → Option Value} {C : Addr} {env : Env} {m : Str → Option Value} {x : Addr} {n : Str} {v : Value} {q0 q1 q2 q3 : Pos} {Q : Flow → Shared → Prop}
theorem ld_own {y : Str} {p : Pos} {u : Value} {Q : Value → Shared → Prop} (ek : env.scope.kind = .function) (el : env.kindOf y = some .local) (hn : s.heap.Ns env.locals m) (hv : m y = some u) (hd : (y == ("__debug__" : Str)) = false) (h : Q u s) :
    wpAny (model prog w) A (eval (.Name y p) env) Q E s := wpAny_Name (wpAny_loadName_local ek el hn hv h) hd
/-- self.n = n: the first one -/
theorem st_first {t0 : Addr} (T : ExW K C) (X : K.In s.heap) (hno : findIn K (.ref C) n = some none) (ek : env.scope.kind = .function) (l0 : env.kindOf "self" = some .local) (l1 : env.kindOf n = some .local) (hd : (n == ("__debug__" : Str)) = false)
    (hn : s.heap.Ns env.locals m) (h0 : m "self" = some (.ref x)) (h1 : m n = some v) (hx : s.heap.get? x = some (excO C t0)) (hsw : swapsWith (.Name n q2) (some (.Attribute (.Name "self" q0) n q1)) q3.line env = pure false)
    (hq : ∀ h' tk dx, (∀ b o, b ≠ x → s.heap.get? b = some o → h'.get? b = some o) → s.heap.objs.size ≤ dx → dx ≠ x → h'.get? x = some { cls := .ref C, dict := some dx, data := (excO C t0).data } →
      h'.Ns1 dx (fun y => if y = n then some v else none) → Q .next { s with heap := h', toks := tk }) :
    wpAny (model prog w) A (exec (iSt n q0 q1 q2 q3) env) Q E s := by
  obtain ⟨cd, hD, hmr, hdd⟩ := T.cd
  refine plainObj_wpAny_Assign_Attribute ?_ hsw
  refine ld_own ek l1 hn h1 hd (ld_own ek l0 hn h0 (by decide) ?_)
  refine set_plain X (ox := excO C t0) (od := none) ⟨hx, rfl, rfl, trivial⟩ T.sa ?_
  obtain ⟨hp, g, d, t, os⟩ := s
  exact exc_osa X hx hD hmr hdd hno fun h3 tk3 dx k3 dn dne hx3 hn3 => hq h3 tk3 dx k3 dn dne hx3 hn3
/-- self.n = n: a further one -/
theorem st_next {t0 dx : Addr} {m0 : Str → Option Value} {nl : List Str} (T : ExW K C) (X : K.In s.heap) (hno : findIn K (.ref C) n = some none) (ek : env.scope.kind = .function) (l0 : env.kindOf "self" = some .local) (l1 : env.kindOf n = some .local) (hd : (n == ("__debug__" : Str)) = false)
    (hn : s.heap.Ns env.locals m) (h0 : m "self" = some (.ref x)) (h1 : m n = some v) (hx : s.heap.get? x = some { cls := .ref C, dict := some dx, data := (excO C t0).data }) (hns : s.heap.Ns1 dx m0) (hw : Within m0 nl) (hz : nl.length ≤ 1000)
    (hsw : swapsWith (.Name n q2) (some (.Attribute (.Name "self" q0) n q1)) q3.line env = pure false)
    (hq : ∀ h' tk, (∀ b o, b ≠ dx → s.heap.get? b = some o → h'.get? b = some o) → h'.Ns1 dx (fun y => if y = n then some v else m0 y) → Q .next { s with heap := h', toks := tk }) :
    wpAny (model prog w) A (exec (iSt n q0 q1 q2 q3) env) Q E s := by
  obtain ⟨cd, hD, hmr, hdd⟩ := T.cd
  obtain ⟨oD, esD, epD, hoD, hdD, _⟩ := hns.count hw
  refine plainObj_wpAny_Assign_Attribute ?_ hsw
  refine ld_own ek l1 hn h1 hd (ld_own ek l0 hn h0 (by decide) ?_)
  refine set_plain X (ox := { cls := .ref C, dict := some dx, data := (excO C t0).data }) (od := some oD) ⟨hx, rfl, rfl, hoD⟩ T.sa ?_
  obtain ⟨hp, g, d, t, os⟩ := s
  exact PySem.OEX.osa_old X hx hns hw hz hD hmr hdd hno fun h3 tk3 k3 hn3 => hq h3 tk3 k3 hn3
end

/-- what stands behind a made exception: its own dict at d holds m -/
structure Made (h h' : Heap) (e C d : Addr) (m : Str → Option Value) : Prop where
  keep : ∀ b o, h.get? b = some o → h'.get? b = some o
  new : h.objs.size ≤ e
  obj : ∃ oe vs, h'.get? e = some oe ∧ oe.cls = .ref C ∧ oe.dict = some d ∧ oe.data = .fields vs ∧ vs[1]? = some .none
  dbig : h.objs.size ≤ d
  dne : d ≠ e
  ns : h'.Ns1 d m
/-- the maker's function object: its code's file, its cell -/
structure IFn (prog : Program) (K : Frag) (C fI : Addr) (qual : Str) (params : Arguments) (body : List Stmt) (scope : Scope) : Prop where
  iC : findIn K (.ref C) "__init__" = some (some (.ref fI))
  tI : typeIn K (.ref fI) = some (.type "function")
  fn : ∃ (oc : Value) (od : Option Addr) (kV doc pm ct : Value) (an : Option Addr) (cda cc : Addr) (osl : Array (Option Value)),
    K.lookup fI = some ⟨oc, od, .func (ksFn "__init__" qual params body scope .none kV doc pm an (.ref cda) ct cc), osl⟩ ∧ codeIn K (.ref cda) qual = true ∧
    (∃ ccl cdd vs ccs file tf, K.lookup cda = some ⟨ccl, cdd, .fields vs, ccs⟩ ∧ vs[2]? = some (.str file tf) ∧ ((prog.main.file : Str) == file) = true) ∧
    ∃ cl cld csl, K.lookup cc = some ⟨cl, cld, .cell (some (.ref C)), csl⟩
/-- the call of super().__init__ as the model spells it (its positions stand on one line) -/
def SupOn (txt : Str) (k : Nat) (p0 p1 p2 p3 p4 : Pos) : Prop := ∀ env : Env, ∃ pl : Sem Bool, eval (.Call (.Attribute (.Call (.Name "super" p0) [] [] p1) "__init__" p2) [.Constant (.str txt) k p3] [] p4) env = (do
      let ov ← attributeBase (.Call (.Name "super" p0) [] [] p1) "__init__" env (eval (.Call (.Name "super" p0) [] [] p1) env)
      standAt p2.atName
      let (g, first) ← holding [ov] (getMethod ov "__init__" pl)
      callWith p4 g first (backTo p4 (starEach [.Constant (.str txt) k p3] env)) [])
/-- one name | two names behind self -/
structure Sh1 (n : Str) (params : Arguments) (body : List Stmt) (scope : Scope) : Prop where
  sh : ∃ txt k pa pb p0 p1 p2 p3 p4 p5 q0 q1 q2 q3, params = iArgs [iArg "self" pa, iArg n pb] ∧ body = [iSup txt k p0 p1 p2 p3 p4 p5, iSt n q0 q1 q2 q3] ∧ scope = iSc [n] ∧ SupOn txt k p0 p1 p2 p3 p4
structure Sh2 (n n' : Str) (params : Arguments) (body : List Stmt) (scope : Scope) : Prop where
  sh : ∃ txt k pa pb pc p0 p1 p2 p3 p4 p5 q0 q1 q2 q3 r0 r1 r2 r3, params = iArgs [iArg "self" pa, iArg n pb, iArg n' pc] ∧ body = [iSup txt k p0 p1 p2 p3 p4 p5, iSt n q0 q1 q2 q3, iSt n' r0 r1 r2 r3] ∧ scope = iSc [n, n'] ∧ SupOn txt k p0 p1 p2 p3 p4
/-- the module's part of the heap, as a def's walk knows it -/
structure Wd (K : Frag) (mg : Str → Option Value) (h : Heap) : Prop where
  kin : K.In h
  glob : h.Ns mainGlobals mg
  blt : ∃ mb, h.Ns builtinsNs mb ∧ ∀ y : Str, y ≠ "__name__" → mb y = bootBuiltins y
  lim : h.NoLimit
/-- what is read off the written names -/
structure Nm2 (n n' : Str) : Prop where
  sl : (iSc [n, n']).names.lookup ("self" : Str) = some .local
  nl : (iSc [n, n']).names.lookup n = some .local
  nl' : (iSc [n, n']).names.lookup n' = some .local
  cls : (iSc [n, n']).names.lookup ("__class__" : Str) = some .free
  sup : (iSc [n, n']).names.lookup ("super" : Str) = some .globalImplicit
  b0 : ∀ a b c : Value, List.lookup ("self" : Str) [(n', c), (n, b), (("self" : Str), a)] = some a
  b1 : ∀ a b c : Value, List.lookup n [(n', c), (n, b), (("self" : Str), a)] = some b
  d0 : (n == ("__debug__" : Str)) = false
  d1 : (n' == ("__debug__" : Str)) = false
  bd : ∀ (qual : Str) (pa pb pc : Pos) (body : List Stmt) (kV doc pm : Value) (an : Option Addr) (cdv ct : Value) (cc : Addr) (a b c : Value), bindArgs (ksFn "__init__" qual (iArgs [iArg "self" pa, iArg n pb, iArg n' pc]) body (iSc [n, n']) .none kV doc pm an cdv ct cc) ⟨[a, b, c], []⟩ = pure [(("self" : Str), a), (n, b), (n', c)]
structure Nm1 (n : Str) : Prop where
  sl : (iSc [n]).names.lookup ("self" : Str) = some .local
  nl : (iSc [n]).names.lookup n = some .local
  cls : (iSc [n]).names.lookup ("__class__" : Str) = some .free
  sup : (iSc [n]).names.lookup ("super" : Str) = some .globalImplicit
  b0 : ∀ a b : Value, List.lookup ("self" : Str) [(n, b), (("self" : Str), a)] = some a
  d0 : (n == ("__debug__" : Str)) = false
  bd : ∀ (qual : Str) (pa pb : Pos) (body : List Stmt) (kV doc pm : Value) (an : Option Addr) (cdv ct : Value) (cc : Addr) (a b : Value), bindArgs (ksFn "__init__" qual (iArgs [iArg "self" pa, iArg n pb]) body (iSc [n]) .none kV doc pm an cdv ct cc) ⟨[a, b], []⟩ = pure [(("self" : Str), a), (n, b)]
theorem nm2_word_place : Nm2 "word" "place" := ⟨rfl, rfl, rfl, rfl, rfl, fun _ _ _ => rfl, fun _ _ _ => rfl, by decide, by decide, fun _ _ _ _ _ _ _ _ _ _ _ _ _ _ _ => rfl⟩
theorem nm1_line : Nm1 "line" := ⟨rfl, rfl, rfl, rfl, fun _ _ => rfl, by decide, fun _ _ _ _ _ _ _ _ _ _ _ _ _ => rfl⟩
section
variable {prog : Program} {w : World} {A : Around} {R : Result → Shared → Prop} {s : Shared} {K : Frag} {mg : Str → Option Value} {C fI : Addr} {qual : Str} {params : Arguments} {body : List Stmt} {scope : Scope} {n n' : Str}
theorem ns_keep {h h' : Heap} {L x : Addr} {m : Str → Option Value} (hn : h.Ns L m) (k : ∀ b o, b ≠ x → h.get? b = some o → h'.get? b = some o) (ne : L ≠ x) : h'.Ns L m := by
  obtain ⟨oL, es, ep, hL, rL⟩ := hn
  exact ⟨oL, es, ep, k _ _ ne hL, rL⟩
theorem kin_keep {h h' : Heap} {x : Addr} (X : K.In h) (hx : K.lookup x = none) (k : ∀ b o, b ≠ x → h.get? b = some o → h'.get? b = some o) : K.In h' := fun a o e => k a o (fun z => by rw [z, hx] at e; cases e) (X a o e)
theorem init_two (T : ExW K C) (F : IFn prog K C fI qual params body scope) (S : Sh2 n n' params body scope) (M : Nm2 n n') (hsup : mg "super" = none) (hany : nsIn K cStatics "thirdparty.any" = some none) (htop : (prog.main.scope.names.lookup ("super" : Str)).isSome = false)
    (c1 : findIn K (.ref C) n = some none) (c2 : findIn K (.ref C) n' = some none) {x t0 : Addr} {v v' : Value} (W : Wd K mg s.heap) (hx : s.heap.get? x = some (excO C t0)) (hKx : K.lookup x = none) (hroom : A.depth < recursionLimit)
    (hq : ∀ h' tk dx, (∀ b o, b ≠ x → s.heap.get? b = some o → h'.get? b = some o) → (∃ t1, h'.get? x = some { cls := .ref C, dict := some dx, data := (excO C t1).data }) → s.heap.objs.size ≤ dx → dx ≠ x →
      h'.Ns1 dx (fun y => if y = n' then some v' else if y = n then some v else none) → R (.ok (.ret .none)) { s with heap := h', toks := tk }) :
    codeAny (model prog w) A (.call (.ref fI) ⟨[.ref x, v, v'], []⟩) R s := by
  obtain ⟨oc, od, kV, doc, pm, ct, an, cda, cc, osl, ho, hcd, ⟨ccl, cdd, vs, ccs, file, tf, hcda, hvs, hfile⟩, cl, cld, csl, hcell⟩ := F.fn
  obtain ⟨txt, k, pa, pb, pc, p0, p1, p2, p3, p4, p5, q0, q1, q2, q3, r0, r1, r2, r3, rfl, rfl, rfl, son⟩ := S.sh
  obtain ⟨mb, B, hB⟩ := W.blt
  have hxC : x ≠ C := by
    obtain ⟨cd, hD, _⟩ := T.cd
    intro z
    subst z
    unfold clsIn at hD
    rw [hKx] at hD
    cases hD
  refine ks_codeAny_call_defAt (binds := [("self", .ref x), (n, v), (n', v')]) hroom (W.kin _ _ ho) rfl W.lim (codeRec_of W.kin hcd) rfl (BindsTo.of_eq (M.bd _ _ _ _ _ _ _ _ _ _ _ _ _ _ _)) ?_ ?_ (fun h1 hns k1 => ?_) rfl rfl rfl
  · intro y hy
    simp [iSc] at hy
    rcases hy with rfl | rfl | rfl | rfl | rfl <;> simp
  · intro y hy
    simp at hy
    rcases hy with rfl | rfl | rfl
    · exact M.sl
    · exact M.nl
    · exact M.nl'
  · have b0 := M.b0 (.ref x) v v'
    have b1 := M.b1 (.ref x) v v'
    have b2 : List.lookup n' [(n', v'), (n, v), (("self" : Str), Value.ref x)] = some v' := by simp [List.lookup]
    have X1 : K.In h1 := W.kin.keeps k1
    refine ks_wpAt_execs_cons ?_
    refine sup_call (ar := iArg "self" pa) (s := { s with heap := h1, toks := _ }) T X1 (W.glob.keeps k1) hsup (B.keeps k1) hB hany rfl rfl rfl M.sup M.cls rfl rfl rfl M.sl rfl rfl (son _) rfl (k1 _ _ (W.kin _ _ ho)) rfl rfl (k1 _ _ (W.kin _ _ hcda)) rfl hvs hfile htop hcell hns b0 (k1 _ _ hx) hxC fun h2 tk2 t2 k2 hx2 => ?_
    have Lx : s.heap.objs.size ≠ x := Nat.ne_of_gt (Heap.lt_size hx)
    have hns2 := ns_keep hns k2 Lx
    have X2 : K.In h2 := kin_keep X1 hKx k2
    refine wpAt_of_wpAny (wpAny_execs_cons ?_)
    refine st_first (x := x) (v := v) T X2 c1 rfl M.sl M.nl M.d0 hns2 b0 b1 hx2 rfl fun h3 tk3 dx k3 dn dne hx3 hn3 => ?_
    have dL : s.heap.objs.size ≠ dx := fun z => by
      obtain ⟨_, _, _, hL, _⟩ := hns2
      exact absurd (Nat.lt_of_lt_of_le (Heap.lt_size hL) dn) (by rw [z]; exact Nat.lt_irrefl _)
    have hns3 := ns_keep hns2 k3 Lx
    have X3 : K.In h3 := kin_keep X2 hKx k3
    refine wpAny_execs_cons ?_
    refine st_next (x := x) (v := v') (nl := [n]) T X3 c2 rfl M.sl M.nl' M.d1 hns3 b0 b2 hx3 hn3 (Within.cons n v Within.nil) (show 1 ≤ 1000 by decide) rfl fun h4 tk4 k4 hn4 => ?_
    refine wpAny_execs_nil (hq h4 _ dx (fun b o hb hbo => ?_) ⟨t2, ?_⟩ ?_ dne hn4)
    · have lt : b < s.heap.objs.size := Heap.lt_size hbo
      have hb3 := k3 b o hb (k2 b o hb (k1 b o hbo))
      refine k4 b o (fun z => ?_) hb3
      have q2 : h2.get? b = some o := k2 b o hb (k1 b o hbo)
      rw [z] at q2
      exact absurd (Nat.lt_of_lt_of_le (Heap.lt_size q2) dn) (Nat.lt_irrefl _)
    · exact k4 x _ dne.symm hx3
    · obtain ⟨_, _, _, hL, _⟩ := hns2
      exact Nat.le_trans (Nat.le_of_lt (Heap.lt_size hL)) dn
theorem init_one (T : ExW K C) (F : IFn prog K C fI qual params body scope) (S : Sh1 n params body scope) (M : Nm1 n) (hsup : mg "super" = none) (hany : nsIn K cStatics "thirdparty.any" = some none) (htop : (prog.main.scope.names.lookup ("super" : Str)).isSome = false)
    (c1 : findIn K (.ref C) n = some none) {x t0 : Addr} {v : Value} (W : Wd K mg s.heap) (hx : s.heap.get? x = some (excO C t0)) (hKx : K.lookup x = none) (hroom : A.depth < recursionLimit)
    (hq : ∀ h' tk dx, (∀ b o, b ≠ x → s.heap.get? b = some o → h'.get? b = some o) → (∃ t1, h'.get? x = some { cls := .ref C, dict := some dx, data := (excO C t1).data }) → s.heap.objs.size ≤ dx → dx ≠ x →
      h'.Ns1 dx (fun y => if y = n then some v else none) → R (.ok (.ret .none)) { s with heap := h', toks := tk }) :
    codeAny (model prog w) A (.call (.ref fI) ⟨[.ref x, v], []⟩) R s := by
  obtain ⟨oc, od, kV, doc, pm, ct, an, cda, cc, osl, ho, hcd, ⟨ccl, cdd, vs, ccs, file, tf, hcda, hvs, hfile⟩, cl, cld, csl, hcell⟩ := F.fn
  obtain ⟨txt, k, pa, pb, p0, p1, p2, p3, p4, p5, q0, q1, q2, q3, rfl, rfl, rfl, son⟩ := S.sh
  obtain ⟨mb, B, hB⟩ := W.blt
  have hxC : x ≠ C := by
    obtain ⟨cd, hD, _⟩ := T.cd
    intro z
    subst z
    unfold clsIn at hD
    rw [hKx] at hD
    cases hD
  refine ks_codeAny_call_defAt (binds := [("self", .ref x), (n, v)]) hroom (W.kin _ _ ho) rfl W.lim (codeRec_of W.kin hcd) rfl (BindsTo.of_eq (M.bd _ _ _ _ _ _ _ _ _ _ _ _ _)) ?_ ?_ (fun h1 hns k1 => ?_) rfl rfl rfl
  · intro y hy
    simp [iSc] at hy
    rcases hy with rfl | rfl | rfl | rfl <;> simp
  · intro y hy
    simp at hy
    rcases hy with rfl | rfl
    · exact M.sl
    · exact M.nl
  · have b0 := M.b0 (.ref x) v
    have b1 : List.lookup n [(n, v), (("self" : Str), Value.ref x)] = some v := by simp [List.lookup]
    have X1 : K.In h1 := W.kin.keeps k1
    refine ks_wpAt_execs_cons ?_
    refine sup_call (ar := iArg "self" pa) (s := { s with heap := h1, toks := _ }) T X1 (W.glob.keeps k1) hsup (B.keeps k1) hB hany rfl rfl rfl M.sup M.cls rfl rfl rfl M.sl rfl rfl (son _) rfl (k1 _ _ (W.kin _ _ ho)) rfl rfl (k1 _ _ (W.kin _ _ hcda)) rfl hvs hfile htop hcell hns b0 (k1 _ _ hx) hxC fun h2 tk2 t2 k2 hx2 => ?_
    have Lx : s.heap.objs.size ≠ x := Nat.ne_of_gt (Heap.lt_size hx)
    have hns2 := ns_keep hns k2 Lx
    have X2 : K.In h2 := kin_keep X1 hKx k2
    refine wpAt_of_wpAny (wpAny_execs_cons ?_)
    refine st_first (x := x) (v := v) T X2 c1 rfl M.sl M.nl M.d0 hns2 b0 b1 hx2 rfl fun h3 tk3 dx k3 dn dne hx3 hn3 => ?_
    refine wpAny_execs_nil (hq h3 _ dx (fun b o hb hbo => k3 b o hb (k2 b o hb (k1 b o hbo))) ⟨t2, hx3⟩ ?_ dne hn3)
    obtain ⟨_, _, _, hL, _⟩ := hns2
    exact Nat.le_trans (Nat.le_of_lt (Heap.lt_size hL)) dn
end
end XX

set_option maxHeartbeats 4000000
namespace XX
open PySem PySem.W PySem.Calls PyProof.Rows PySem.HandSPX PySem.Spec
section
variable {prog : Program} {w : World} {A : Around} {R : Result → Shared → Prop} {s : Shared} {K : Frag} {mg : Str → Option Value} {C fI : Addr}
/-- C(us): __init__ is called on the new exception and leaves its dict at dx as m -/
theorem made_of (T : ExW K C) (iC : findIn K (.ref C) "__init__" = some (some (.ref fI))) (tI : typeIn K (.ref fI) = some (.type "function")) (W : Wd K mg s.heap) (hroom : A.depth + 1 < recursionLimit) {us : List Value} {m : Str → Option Value} (hl : us.length ≤ 1000)
    (hi : ∀ {A' : Around} {R' : Result → Shared → Prop} {s' : Shared} {x t0 : Addr}, A'.depth < recursionLimit → Wd K mg s'.heap → s'.heap.get? x = some (excO C t0) → K.lookup x = none →
      (∀ h' tk dx, (∀ b o, b ≠ x → s'.heap.get? b = some o → h'.get? b = some o) → (∃ t1, h'.get? x = some { cls := .ref C, dict := some dx, data := (excO C t1).data }) → s'.heap.objs.size ≤ dx → dx ≠ x →
        h'.Ns1 dx m → R' (.ok (.ret .none)) { s' with heap := h', toks := tk }) → codeAny (model prog w) A' (.call (.ref fI) ⟨.ref x :: us, []⟩) R' s')
    (hq : ∀ h' tk e d, Made s.heap h' e C d m → R (.ok (.ret (.ref e))) { s with heap := h', toks := tk }) :
    codeAny (model prog w) A (.call (.ref C) ⟨us, []⟩) R s := by
  obtain ⟨nm, N', qn, bs, bm, hdct, sn, sub, ab, col, dd, k0, k1, k2, k3, k5, hC, hT⟩ := excInit_of W.kin T.ini
  obtain ⟨hp, g, dr, tk, os⟩ := s
  have k : ∀ b o, hp.get? b = some o → ((hp.push (kdv_tup us)).push (excO C hp.objs.size)).get? b = some o := fun b o e => Heap.get?_push_of_some _ (Heap.get?_push_of_some _ e)
  have hget : ((hp.push (kdv_tup us)).push (excO C hp.objs.size)).get? (hp.objs.size + 1) = some (excO C hp.objs.size) := by heap_get
  have hnx : K.lookup (hp.objs.size + 1) = none := by
    cases e : K.lookup (hp.objs.size + 1) with
    | none => rfl
    | some o =>
      have z : hp.get? (hp.objs.size + 1) = some o := W.kin _ _ e
      exact absurd (Nat.lt_of_succ_lt (Heap.lt_size z)) (Nat.lt_irrefl _)
  have hsz : us.length ≤ sizeLine := Nat.le_trans hl (by decide)
  refine call_own PySem.F.excBase_ValueError hT hC (looks_findIn W.kin iC) (fun self => bind_fn W.kin self tI) hsz ?_
  obtain ⟨mb, B, hB⟩ := W.blt
  have W2 : Wd K mg ((hp.push (kdv_tup us)).push (excO C hp.objs.size)) := ⟨W.kin.keeps k, W.glob.keeps k, ⟨mb, B.keeps k, hB⟩, W.lim.keeps k⟩
  refine hi (s' := ⟨(hp.push (kdv_tup us)).push (excO C hp.objs.size), g, dr, tk, os⟩) (x := hp.objs.size + 1) hroom W2 hget hnx fun h' tk' dx k' ⟨t1, hx⟩ dn dne hns => ?_
  have old : ∀ b o, hp.get? b = some o → h'.get? b = some o := fun b o e => k' b o (Nat.ne_of_lt (Nat.lt_succ_of_lt (Heap.lt_size e))) (k b o e)
  have z : hp.objs.size + 1 + 1 ≤ dx := by
    have q := dn
    rw [Heap.size_push, Heap.size_push] at q
    exact q
  exact ⟨rfl, hq h' tk' (hp.objs.size + 1) dx ⟨old, Nat.le_succ _, ⟨_, _, hx, rfl, rfl, rfl, rfl⟩, Nat.le_trans (Nat.le_trans (Nat.le_succ _) (Nat.le_succ _)) z, dne, hns⟩⟩
end
end XX
namespace L2
open PySem PySem.Spec PyProof.Rows XX
theorem Inv.wd {X : Cx} {pins : List (Addr × Obj)} {σ : St} {H : Hp} {s : Shared} (I : Inv X pins σ H s) : Wd X.K X.mg s.heap :=
  ⟨I.kIn, I.mod.glob.keeps I.bk, let ⟨mb, h1, h2⟩ := I.mod.blt; ⟨mb, h1.keeps I.bk, h2⟩, I.nolimit⟩
/-- C(args): an exception of the class at C, its own dict (new) holds the arguments by these names -/
def tMkX (C : Addr) (ns : List Str) (ta : TA) : St → Hp → XK → Prop := fun σ H Q => ta σ H fun vs H1 => vs.length = ns.length ∧ ∀ d, H1 d = none → Q (.ref C) (some d) (upd H1 d (.xd (ns.zip vs)))
theorem lookup_zip1 (n : Str) (v : V) (f : Str) : List.lookup f [(n, v)] = if f = n then some v else none := by
  by_cases h : f = n
  · subst h
    simp [List.lookup]
  · have e : (f == n) = false := by simpa using h
    simp [List.lookup, e, h]
theorem lookup_zip2 (n n' : Str) (v v' : V) (f : Str) : List.lookup f [(n, v), (n', v')] = if f = n then some v else if f = n' then some v' else none := by
  by_cases h : f = n
  · subst h
    simp [List.lookup]
  · have e : (f == n) = false := by simpa using h
    simp only [List.lookup, e, h, if_false]
    exact lookup_zip1 n' v' f
section
variable {X : Cx} {C fI : Addr} {qual : Str} {params : Arguments} {body : List Stmt} {scope : Scope} {n n' : Str}
/-- the end of a making: the exception itself is let go, its dict stands -/
theorem mk_endX {pins : List (Addr × Obj)} {σ : St} {H1 : Hp} {s1 : Shared} {h' : Heap} {tk : Nat} {e d : Addr} {m : Str → Option Value} {fs : List (Str × V)} {Q : XK} (T : ExW X.K C) (I1 : Inv X pins σ H1 s1) (M : Made s1.heap h' e C d m)
    (hr : ∀ f, RelO (fs.lookup f) (m f)) (q : Q (.ref C) (some d) (upd H1 d (.xd fs))) : MkP X pins σ Q (.ref e) { s1 with heap := h', toks := tk } := by
  obtain ⟨hp, g, dr, tk0, os⟩ := s1
  obtain ⟨oe, fv, hoe, hc, hd, hdat, h1⟩ := M.obj
  have hns := M.ns
  obtain ⟨G', g1, g2⟩ := restrict h' fun b => decide (b ≠ e)
  have gk : ∀ b, b ≠ e → G'.get? b = h'.get? b := fun b hb => g1 b (decide_eq_true hb)
  have ge : G'.get? e = none := g2 e (by simp)
  have old : ∀ b o, hp.get? b = some o → G'.get? b = some o := fun b o z => (gk b (Nat.ne_of_lt (Nat.lt_of_lt_of_le (Heap.lt_size z) M.new))).trans (M.keep b o z)
  have ob : ObjOk X.prog X.w (upd H1 d (.xd fs)) G' d (.xd fs) := ⟨m, hns.at (fun o z => (gk d M.dne).trans z), hr⟩
  have J : Inv X pins σ (upd H1 d (.xd fs)) ⟨G', g, dr, tk, os⟩ := I1.laid (t' := tk) old M.dbig ob
  refine ⟨e, oe, fv, ⟨G', g, dr, tk, os⟩, _, .ref C, some d, rfl, J, fun b o z => ?_, ge, hoe, ⟨hc, hd⟩, hdat, h1, ?_, rfl, I1.bare, raises_own T.exC T.tyC, q⟩
  · by_cases hb : b = e
    · have z' : G'.get? b = some o := z
      rw [hb, ge] at z'
      cases z'
    · exact (gk b hb).symm.trans z
  · rw [upd_ne (Ne.symm M.dne)]
    exact I1.hok.fresh M.new
theorem pmk_two {x : Str} {a : Expr} {es : List Expr} {ta : TA} {p pos : Pos} {k : Nat} (T : ExW X.K C) (F : IFn X.prog X.K C fI qual params body scope) (S : Sh2 n n' params body scope) (M : Nm2 n n') (hsup : X.mg "super" = none) (hany : PySem.W.nsIn X.K cStatics "thirdparty.any" = some none)
    (htop : (X.prog.main.scope.names.lookup ("super" : Str)).isSome = false) (c1 : PySem.W.findIn X.K (.ref C) n = some none) (c2 : PySem.W.findIn X.K (.ref C) n' = some none) (dn : n' ≠ n) (hr : Room k X.A) (hm : X.mg x = some (.ref C)) (ha : PA X (a :: es) ta) (hg : Gl X x := by rfl)
    (hdb : (x == ("__debug__" : Str)) = false := by decide)
    (he : starEach (a :: es) X.env = (false, eval a X.env) :: starEach es X.env := by rfl) (hpl : (backTo pos (starEach es X.env)).any (·.1) = false := by rfl) :
    PMk X (.Call (.Name x p) (a :: es) [] pos) (tMkX C [n, n'] ta) := by
  intro pins s σ H Q I h
  refine wpAny_Call_Name_kw (ld_glob I hg hm ?_ hdb)
  refine PySem.W.callWith_K (h₀ := X.base) I.ok.mod.kin T.kC (thn (ha.run pos pins s σ H _ I h) fun us s1 hh => ?_) he hpl
  obtain ⟨vs, H1, I1, r1, hl, q1⟩ := hh
  refine ⟨I1.kIn, ?_⟩
  match vs, hl with
  | [v, v'], _ =>
    cases r1 with
    | cons rv r2 =>
      cases r2 with
      | cons rv' rn =>
        cases rn
        rename_i u u'
        refine wpAny_call (made_of (us := [u, u']) (m := fun y => if y = n' then some u' else if y = n then some u else none) T F.iC F.tI I1.wd (by have := hr.dp; omega) (by decide : 2 ≤ 1000) (fun {A' R' s' x' t0} hroom W hx hKx hq => init_two T F S M hsup hany htop c1 c2 W hx hKx hroom hq) fun h' tk' e d MM => ?_)
        refine mk_endX T I1 MM (fun f => ?_) (q1 d (I1.hok.fresh MM.dbig))
        show RelO (List.lookup f [(n, v), (n', v')]) _
        rw [lookup_zip2]
        by_cases h1 : f = n
        · have h2 : ¬ f = n' := fun z => dn (z.symm.trans h1)
          rw [if_pos h1, if_neg h2, if_pos h1]
          exact rv
        · rw [if_neg h1]
          by_cases h2 : f = n'
          · rw [if_pos h2, if_pos h2]
            exact rv'
          · rw [if_neg h2, if_neg h2, if_neg h1]
            trivial
theorem pmk_one {x : Str} {a : Expr} {ta : TA} {p pos : Pos} {k : Nat} (T : ExW X.K C) (F : IFn X.prog X.K C fI qual params body scope) (S : Sh1 n params body scope) (M : Nm1 n) (hsup : X.mg "super" = none) (hany : PySem.W.nsIn X.K cStatics "thirdparty.any" = some none)
    (htop : (X.prog.main.scope.names.lookup ("super" : Str)).isSome = false) (c1 : PySem.W.findIn X.K (.ref C) n = some none) (hr : Room k X.A) (hm : X.mg x = some (.ref C)) (ha : PA X [a] ta) (hg : Gl X x := by rfl)
    (hdb : (x == ("__debug__" : Str)) = false := by decide)
    (he : starEach [a] X.env = (false, eval a X.env) :: starEach [] X.env := by rfl) (hpl : (backTo pos (starEach [] X.env)).any (·.1) = false := by rfl) :
    PMk X (.Call (.Name x p) [a] [] pos) (tMkX C [n] ta) := by
  intro pins s σ H Q I h
  refine wpAny_Call_Name_kw (ld_glob I hg hm ?_ hdb)
  refine PySem.W.callWith_K (h₀ := X.base) I.ok.mod.kin T.kC (thn (ha.run pos pins s σ H _ I h) fun us s1 hh => ?_) he hpl
  obtain ⟨vs, H1, I1, r1, hl, q1⟩ := hh
  refine ⟨I1.kIn, ?_⟩
  match vs, hl with
  | [v], _ =>
    cases r1 with
    | cons rv rn =>
      cases rn
      rename_i u
      refine wpAny_call (made_of (us := [u]) (m := fun y => if y = n then some u else none) T F.iC F.tI I1.wd (by have := hr.dp; omega) (by decide : 1 ≤ 1000) (fun {A' R' s' x' t0} hroom W hx hKx hq => init_one T F S M hsup hany htop c1 W hx hKx hroom hq) fun h' tk' e d MM => ?_)
      refine mk_endX T I1 MM (fun f => ?_) (q1 d (I1.hok.fresh MM.dbig))
      show RelO (List.lookup f [(n, v)]) _
      rw [lookup_zip1]
      by_cases h1 : f = n
      · rw [if_pos h1, if_pos h1]
        exact rv
      · rw [if_neg h1, if_neg h1]
        trivial
end
end L2

set_option maxHeartbeats 4000000
namespace XX
open PySem PySem.W PySem.Calls PyProof.Rows PySem.HandSPX PySem.Spec L2
def excCB (K : Frag) (D : Addr) : Bool :=
  decide (findIn K (.ref D) "__getattribute__" = some (some (.builtin "BaseException.__getattribute__"))) && (decide (findIn K (.ref D) "__getattr__" = some none) && (decide (subIn K (.ref D) (.type "BaseException") = some true) &&
  (hasDictIn K D && (decide (findIn K (.ref D) "__class__" = some (some (.builtin "object.__class__"))) && (decide (specialIn K (.builtin "object.__class__") "__get__" = some (some (.builtin "getset_descriptor.__get__"))) &&
  (decide (takesIn K (.builtin "object.__class__") = some true) && decide (mroIn K D (.type "object") = some true)))))))
theorem excCB_ok {K : Frag} {D : Addr} (h : excCB K D = true) : ExcC K D := by
  simp only [excCB, Bool.and_eq_true, decide_eq_true_eq] at h
  obtain ⟨h1, h2, h3, h4, h5, h6, h7, h8⟩ := h
  exact ⟨h1, h2, h3, h4, h5, h6, h7, h8⟩
section
variable {prog : Program} {w : World} {A : Around} {E : Value → Shared → Prop} {s : Shared} {K : Frag} {x D : Addr} {ox : Obj} {od : Option Obj}
theorem found_cls (C : ExcC K D) : findObj K D od "__class__" = some (.bind (.builtin "getset_descriptor.__get__") (.builtin "object.__class__")) := by
  obtain ⟨cd, hc, _⟩ := any_some C.hd
  unfold findObj
  rw [hc, Option.bind_some, C.ha, Option.bind_some]
  simp [C.hn, C.ht]
/-- e.__class__ of an exception, with or without a dict of its own -/
theorem cls_of (C : ExcC K D) (X : K.In s.heap) (I : InstAt s.heap x ox D od) {Q : Option Value → Shared → Prop} (h : Q (some (.ref D)) { s with toks := s.toks + 1 }) : wpAny (model prog w) A (getAttr? (.ref x) "__class__") Q E s := by
  obtain ⟨hp, g, d, t, os⟩ := s
  have gaNe : (Value.builtin "BaseException.__getattribute__" == Value.builtin "object.__getattribute__") = false := by decide +kernel
  have noHook : (onTheHeap (Value.ref D) && (Value.builtin "BaseException.__getattribute__" == Value.builtin "object.__getattribute__")) = false := by rw [gaNe]; rfl
  have isB : Looks (model prog w) hp (isInstance (.ref x) (.type "BaseException")) true := I.type.andThen (looks_subIn X C.hs)
  unfold getAttr? getAttrBy? getAttrBy
  refine wpAny_bind (wpAny_mkText (wpAny_bind (wpAny_attempt (wpAny_holding (wpAny_bind (I.type.at (wpAny_bind ((looks_findIn X C.hg).at ?_))))))))
  show wpAny _ _ (if (onTheHeap (Value.ref D) && (Value.builtin "BaseException.__getattribute__" == Value.builtin "object.__getattribute__")) = true then _ else _) _ _ _
  rw [noHook, if_neg Bool.false_ne_true]
  unfold getAttrByItsOwn hookBefore
  refine wpAny_bind ?_
  have onH : onTheHeap (Value.ref D) = true := rfl
  rw [if_pos onH]
  refine (looks_findIn X C.hk).at (wpAny_bind (wpAny_attempt (wpAny_holding ?_)))
  unfold callGetattribute
  rw [if_neg (show ¬ (false && onTheHeap (Value.builtin "BaseException.__getattribute__")) = true by decide)]
  unfold boundAndCalled
  rw [PySem.F.excAttr_ValueError.ga.bind (.ref x)]
  refine wpAny_bind (wpAny_pure ?_)
  show wpAny _ _ (call (.builtin "BaseException.__getattribute__") [.ref x, .str "__class__" t]) _ _ _
  refine wpAny_call (codeAny_call_builtin PySem.F.excAttr_ValueError.ga.plain PySem.F.entry_bexc_ga ?_)
  refine @check_slot (model prog w) _ _ ⟨hp, g, d, t + 1, os⟩ "BaseException.__getattribute__" "BaseException" "__getattribute__" (.ref x) [.str "__class__" t] [] _ (by decide +kernel) (by decide +kernel) isB (PySem.F.args_bexc_ga _ _) ?_
  unfold Builtin.«object.__getattribute__»
  refine wpAny_bind (wpAny_of_eq (a := ((Value.ref x : Value), [Value.str "__class__" t])) (by first | rfl | (simp only [slotArgs]; rfl)) ?_)
  refine wpAny_bind (wpAny_pure (wpAny_bind (I.type.at (wpAny_bind ((looks_find X I (found_cls C)).at ?_)))))
  show wpAny _ _ (holding [Value.builtin "object.__class__"] (call (.builtin "getset_descriptor.__get__") [.builtin "object.__class__", .ref x, .ref D]) >>= ret) _ _ _
  refine wpAny_bind (wpAny_holding (wpAny_call (class_get (s := ⟨hp, g, d, t + 1, os⟩) (ox := ox) (od := od) X I C.hm ?_)))
  refine wpAny_pure ?_
  show wpAny _ _ (handedOut (.ref D)) _ _ _
  rw [handedOut_of (v := .ref D) rfl]
  first
    | exact wpAny_pure (wpAny_pure h)
    | exact wpAny_pure h
    | exact wpAny_pure (wpAny_bind (wpAny_pure (wpAny_pure h)))
theorem kit_exc (C : ExcC K D) : KitX K (.ref x) (.ref D) (fun h => ∃ ox od, InstAt h x ox D od) where
  ty := fun _ _ _ ⟨_, _, I⟩ => I.type
  it := fun _ _ X _ => by
    obtain ⟨cdD, hcD, _⟩ := any_some C.hd
    unfold clsIn at hcD
    split at hcD
    · rename_i ho
      intro A' Q' E' s' k q
      unfold isType loadHead
      exact wpAny_bind (wpAny_loadPart (k _ _ (X _ _ ho)) (wpAny_pure q))
    · cases hcD
  ne := fun h tp dd its n sl X htp => by
    obtain ⟨cdD, hcD, _⟩ := any_some C.hd
    refine Bool.eq_false_iff.mpr fun q => ?_
    have e : D = tp := Value.ref.inj (beq_iff_eq.mp q)
    subst e
    unfold clsIn at hcD
    split at hcD
    · rename_i ho
      have z := (X _ _ ho).symm.trans htp
      cases z
    · cases hcD
  ca := fun X ⟨_, _, I⟩ k => cls_of C X I k
end
end XX
namespace L2
open PySem PySem.Spec PyProof.Rows XX
/-- isinstance(e, c), e the exception that the suite holds, its own dict an exception's dict (xd) -/
def rIsX (K : PySem.W.Frag) (a : Addr) (cls : Value) (d : Option Addr) : List V → Hp → VK → Prop := fun xs H Q => ∃ (D : Addr) (c : V) (cv : Value) (b : Bool), xs = [.ref a, c] ∧ cls = .ref D ∧ ExcC K D ∧
  (d = none ∨ ∃ dd fs, d = some dd ∧ H dd = some (.xd fs)) ∧ (∀ u, RelV c u → u = cv) ∧ PySem.W.kitOne K (.ref D) cv = some b ∧ Q (.bl b) H
theorem call_isX {X : Cx} {a : Addr} {cls : Value} {d : Option Addr} {oe : Obj} {pn : List (Addr × Obj)} (hz : Zc cls d oe) (hf : ∃ vs, oe.data = .fields vs) : CallR (X.suite a ((a, oe) :: pn)) (.builtin "isinstance") (rIsX X.K a cls d) := by
  intro pins s σ H xs us Q I r h
  obtain ⟨D, c, cv, b, rfl, rfl, C, hd, hcv, e, q⟩ := h
  cases r with
  | cons rx rr =>
    cases rr with
    | cons rt rr =>
      cases rr
      cases rx
      have ec := hcv _ rt
      subst ec
      obtain ⟨hget, _⟩ := I.pin (a, oe) (List.mem_append.mpr (.inl List.mem_cons_self))
      obtain ⟨vs, hv⟩ := hf
      have J : ∃ od, PySem.W.InstAt s.heap a oe D od := by
        rcases hd with rfl | ⟨dd, fs, rfl, hdd⟩
        · exact ⟨none, hget, hz.1, by unfold PySem.W.notCls; rw [hv] <;> rfl, by rw [hz.2] <;> trivial⟩
        · have hx : ObjOk X.prog X.w H s.heap dd (.xd fs) := I.hok dd _ hdd
          obtain ⟨mA, ⟨od, es, ep, ho, _⟩, _⟩ := hx
          exact ⟨some od, hget, hz.1, by unfold PySem.W.notCls; rw [hv] <;> rfl, by rw [hz.2]; exact ho⟩
      obtain ⟨od, J⟩ := J
      exact PySem.W.kia_one (kit_exc C) I.kIn ⟨_, _, J⟩ e (fun z => nomatch z) fun tk => ⟨.bl b, H, I.kept (t' := tk) fun _ _ z => z, rfl, q⟩
end L2

set_option maxHeartbeats 4000000
/-! enumerate over a text. -/
namespace L2
open PySem PySem.Spec PyProof.Rows
/-- each sign of the text x with its place, in a new pair -/
def ItEs (x : Str) : It := ⟨fun i _ => i < x.cps.size, fun i H v H' => ∃ T c, v = .ref T ∧ H T = none ∧ H' = upd H T (.tup [.int (i : Nat), .str ⟨#[c]⟩]) ∧ x.cps[i]? = some c, fun i _ => x.cps.size ≤ i⟩
theorem drawsStr {P : Program} {w : World} {A : Around} (hh : A.handled = none) (it : Addr) (x : Str) (t : Tok) :
    Draws P w A it [it] x.cps.size (fun i v => ∃ c u, x.cps[i]? = some c ∧ v = .str ⟨#[c]⟩ u) (fun i h => h.IsStrIter it (strIterType x) x t i) := by
  unfold strIterType
  cases x.cps.all (· < 128)
  · exact Draws.strWide hh it x t
  · exact Draws.strAscii hh it x t
theorem turn_enumS {P : Program} {w : World} {K : PySem.W.Frag} {elts : List Expr} {kk : Nat} {tpos : Pos} (x : Str) (t : Tok) (e it : Addr) :
    Turn P w K (.Tuple elts kk tpos) (ItEs x) [e, it] e (fun i h => i ≤ x.cps.size ∧ (∃ old, IsEnum h e it ((i : Nat) : Int) old) ∧ h.IsStrIter it (strIterType x) x t i ∧ e ≠ it) where
  mem := by simp
  obj := fun i h st b hb => by
    obtain ⟨_, ⟨old, he⟩, ⟨o, ho, hc, hd⟩, _⟩ := st
    have e' : b = e ∨ b = it := by simpa using hb
    rcases e' with z | z
    · rw [z]; exact ⟨_, he, fun v q => nomatch q⟩
    · rw [z]; exact ⟨o, ho, fun v q => by rw [hd] at q; cases q⟩
  keep := fun i h h' st k => let ⟨hi, ⟨old, he⟩, ⟨o, ho, r⟩, hne⟩ := st; ⟨hi, ⟨old, k e (by simp) _ he⟩, ⟨o, k it (by simp) o ho, r⟩, hne⟩
  item := by
    intro X hP hw hK hc i pins s σ H E I hf st hg
    subst hP hw hK
    obtain ⟨_, ⟨old, he⟩, hit, hne⟩ := st
    have hlt : i < x.cps.size := hg
    have D := drawsStr (P := X.prog) (w := X.w) (A := X.A.in1) (I.ok.hd hc) it x t
    have hel : e < s.heap.objs.size := Heap.lt_size he
    have hil : it < s.heap.objs.size := by obtain ⟨_, q, _⟩ := hit; exact Heap.lt_size q
    refine wpAny_pyNext_enum_itemD D he hit hlt hne (fun z => hne (by simpa using z)) fun u h' tk hP ho hit' hT hsz hk => ?_
    obtain ⟨c, uu, hcx, rfl⟩ := hP
    refine ⟨_, rfl, wpAny_letOwnedTupleGo_enum (s := { s with heap := h', toks := tk + 1 }) ho fun h'' he' sb => ?_⟩
    have hT2 : h''.get? s.heap.objs.size = some { cls := .type "tuple", data := .seq #[.int i tk, .str ⟨#[c]⟩ uu] } := (sb.2 _ (Nat.ne_of_gt hel)).trans hT
    have new : ObjOk X.prog X.w (upd H s.heap.objs.size (.tup [.int (i : Nat), .str ⟨#[c]⟩])) h'' s.heap.objs.size (.tup [.int (i : Nat), .str ⟨#[c]⟩]) :=
      ⟨by show 2 ≤ sizeLine; decide, [.int i tk, .str ⟨#[c]⟩ uu], .cons ⟨_, rfl⟩ (.cons ⟨_, rfl⟩ .nil), ⟨_, hT2, rfl, _, rfl⟩⟩
    have I1 : Inv X pins σ (upd H s.heap.objs.size (.tup [.int (i : Nat), .str ⟨#[c]⟩])) { s with heap := h'', toks := tk + 1 } :=
      I.turnedNew (ch := [e, it]) (fun b ob hb q => (sb.2 b (fun z => hb (by simp [z]))).trans (hk b ob (fun z => hb (by simp [z])) (fun z => hb (by simp [z])) q)) hf (Nat.le_refl _) new
    refine ⟨.ref s.heap.objs.size, _, I1, rfl, ⟨_, c, rfl, I.hok.fresh (Nat.le_refl _), rfl, hcx⟩, ⟨hlt, ⟨.str ⟨#[c]⟩ uu, ?_⟩, ?_, hne⟩, fun b hb => ?_⟩
    · have e1 : ((i + 1 : Nat) : Int) = (i : Int) + 1 := by omega
      rw [e1]; exact he'
    · obtain ⟨o, ho', r⟩ := hit'
      exact ⟨o, (sb.2 it (Ne.symm hne)).trans ho', r⟩
    · have hb' : b < s.heap.objs.size := by
        have e' : b = e ∨ b = it := by simpa using hb
        rcases e' with z | z
        · rw [z]; exact hel
        · rw [z]; exact hil
      rw [upd_ne (Nat.ne_of_lt hb')]
      exact (hf b hb).1
  done := by
    intro X hP hw hK hc i pins s σ H E I hf st hg
    subst hP hw hK
    obtain ⟨hle, ⟨old, he⟩, hit, hne⟩ := st
    have e0 : i = x.cps.size := Nat.le_antisymm hle hg
    subst e0
    obtain ⟨f0, f1, f2, f3, f4, f5⟩ := hf it (by simp)
    exact wpAny_pyNext_enum_endD (drawsStr (P := X.prog) (w := X.w) (A := X.A.in1) (I.ok.hd hc) it x t) he hit fun h' eb => ⟨rfl, I.turned (t' := s.toks) (fun b o hb q => eb b o hb q) f0 f1 f3 f4 f5⟩
  self := fun A i s Q E st h => let ⟨_, ⟨_, he⟩, _⟩ := st; wpAny_pyIter_enum he h
def iEnumS (ta : TA) : TI := fun σ H R => ta σ H fun vs H1 => ∃ x, vs = [.str x] ∧ R (ItEs x) H1
theorem pi_enumS {X : Cx} {e : Expr} {ta : TA} {p pos tpos : Pos} {elts : List Expr} {kk : Nat} (hg : Gl X "enumerate") (hm : X.mg "enumerate" = none) (ha : PA X [e] ta) (hs : starEach [e] X.env = [(false, eval e X.env)] := by rfl) :
    PI X (.Tuple elts kk tpos) (.Call (.Name "enumerate" p) [e] [] pos) (iEnumS ta) := by
  refine ⟨fun pins s σ H R I h => ?_⟩
  refine Call_ (ld_blt I hg hm boot_enumerate (PyProof.Rows.callWith_type1 (thn (ha.run pos pins s σ H _ I h) fun us s1 ⟨vs, H1, I1, r1, q1⟩ => ?_) hs rfl))
  obtain ⟨x, ex, q⟩ := q1
  subst ex
  cases r1 with
  | cons r rr =>
    cases rr
    obtain ⟨t, rfl⟩ := r
    refine call_enumerate_str fun h' he hit hsz hk => wpAny_pyIter_enum he ?_
    have I2 : Inv X pins σ H1 { s1 with heap := h' } := I1.kept (t' := s1.toks) hk
    refine ⟨s1.heap.objs.size + 1, [s1.heap.objs.size + 1, s1.heap.objs.size], _, _, H1, rfl, I2, turn_enumS x t (s1.heap.objs.size + 1) s1.heap.objs.size, ⟨Nat.zero_le _, ⟨.none, he⟩, hit, Nat.succ_ne_self _⟩, fun b hb => ?_, q⟩
    have e' : b = s1.heap.objs.size + 1 ∨ b = s1.heap.objs.size := by simpa using hb
    have hle : s1.heap.objs.size ≤ b := by
      rcases e' with z | z
      · rw [z]; exact Nat.le_add_right _ _
      · rw [z]; exact Nat.le_refl _
    exact I1.fpOk hle (I1.hok.fresh hle)
end L2

set_option maxHeartbeats 4000000
/-! Readings by name, and one lemma a reading: what is left to show. -/
namespace L2
open PySem PySem.Spec PyProof.Rows
/-! ### operators and calls by name -/
def xAdd : R2 := rI0 fun i j => .int (i + j)
def xSub : R2 := rI0 fun i j => .int (i - j)
def xMul : R2 := rI CMul fun i j => .int (i * j)
def xMod : R2 := rI (fun _ j => 0 < j) fun i j => .int (i % j)
def xDiv : R2 := rI CDiv fun i j => .int (i / j)
def xPow : R2 := rI CPow fun i j => .int (i ^ j.toNat)
def xLt : R2 := rI0 fun i j => .bl (decide (i < j))
def xLe : R2 := rI0 fun i j => .bl (decide (i ≤ j))
def xGt : R2 := rI0 fun i j => .bl (decide (j < i))
def xGe : R2 := rI0 fun i j => .bl (decide (j ≤ i))
def xAddS : R2 := fun x y H Q => ∃ i j, x = .str i ∧ y = .str j ∧ i.length + j.length ≤ sizeLine ∧ Q (.str (i ++ j)) H
def xIsN : R2 := fun x y H Q => y = .non ∧ Q (.bl (decide (x = .non))) H
def xNotN : R2 := fun x y H Q => y = .non ∧ Q (.bl (!decide (x = .non))) H
def xInS : R2 := fun x y H Q => ∃ (c : Nat) (z : Str), x = .str ⟨#[c]⟩ ∧ y = .str z ∧ Q (.bl (decide (c ∈ z.cps.toList))) H
def xNinS : R2 := fun x y H Q => ∃ (c : Nat) (z : Str), x = .str ⟨#[c]⟩ ∧ y = .str z ∧ Q (.bl (!decide (c ∈ z.cps.toList))) H
def xLeS : R2 := fun x y H Q => ∃ i j, x = .str i ∧ y = .str j ∧ Q (.bl (!decide (j.cps.toList < i.cps.toList))) H
def xAbs : List V → Hp → VK → Prop := fun xs H Q => ∃ i : Int, xs = [.int i] ∧ Q (.int (if i < 0 then -i else i)) H
def xMax2 : List V → Hp → VK → Prop := fun xs H Q => ∃ i j : Int, xs = [.int i, .int j] ∧ Q (.int (if j > i then j else i)) H
def xMin2 : List V → Hp → VK → Prop := fun xs H Q => ∃ i j : Int, xs = [.int i, .int j] ∧ Q (.int (if j < i then j else i)) H
def xInt1 : List V → Hp → VK → Prop := fun xs H Q => (∃ i, xs = [.int i] ∧ Q (.int i) H) ∨ ∃ k : Bool, xs = [.bl k] ∧ Q (.int (if k then 1 else 0)) H
def xLenS : List V → Hp → VK → Prop := fun xs H Q => ∃ z, xs = [.str z] ∧ z.length ≤ sizeLine ∧ Q (.int z.length) H
def xLenQ (K : PySem.W.Frag) : List V → Hp → VK → Prop := fun xs H Q => ∃ p ys, xs = [.ref p] ∧ (SqL K H p ys ∨ SqT K H p ys) ∧ Q (.int ys.length) H
def xLenD : List V → Hp → VK → Prop := fun xs H Q => ∃ a kvs, xs = [V.ref a] ∧ H a = some (.dK kvs) ∧ Q (.int kvs.length) H
def xList (K : PySem.W.Frag) : List V → Hp → VK → Prop := fun xs H Q => ∃ p ys, xs = [.ref p] ∧ (SqL K H p ys ∨ SqT K H p ys) ∧ ∀ l, H l = none → Q (.ref l) (upd H l (.lst ys))
def xDictD : List V → Hp → VK → Prop := fun xs H Q => ∃ (a : Addr) (kvs : List (Key × V)), xs = [.ref a] ∧ Rd H a (.dK kvs) ∧ ∀ p, H p = none → Q (.ref p) (upd H p (.dK kvs))
section
variable {X : Cx}
theorem o_add : OpR X (binaryOp .Add) xAdd := op_add
theorem o_sub : OpR X (binaryOp .Sub) xSub := op_sub
theorem o_mul : OpR X (binaryOp .Mult) xMul := op_mul
theorem o_mod : OpR X (binaryOp .Mod) xMod := op_mod
theorem o_div : OpR X (binaryOp .FloorDiv) xDiv := op_fdiv
theorem o_pow : OpR X (binaryOp .Pow) xPow := op_pow
theorem o_lt : OpR X (compareOp .Lt) xLt := op_lt
theorem o_le : OpR X (compareOp .LtE) xLe := op_le
theorem o_gt : OpR X (compareOp .Gt) xGt := op_gt
theorem o_ge : OpR X (compareOp .GtE) xGe := op_ge
theorem o_eq : OpR X (compareOp .Eq) rEq := op_eq
theorem o_ne : OpR X (compareOp .NotEq) rNe := op_ne
theorem o_addS : OpR X (binaryOp .Add) xAddS := op_add_str
theorem o_isN : OpR X (compareOp .Is) xIsN := op_isN
theorem o_notN : OpR X (compareOp .IsNot) xNotN := op_notN
theorem o_inS : OpR X (compareOp .In) xInS := op_in_sign
theorem o_ninS : OpR X (compareOp .NotIn) xNinS := op_notIn_sign
theorem o_leS : OpR X (compareOp .LtE) xLeS := op_le_str
theorem c_abs : CallR X (.builtin "abs") xAbs := call_abs
theorem c_max2 (hc : X.calm = true) : CallR X (.builtin "max") xMax2 := call_max2 hc
theorem c_min2 (hc : X.calm = true) : CallR X (.builtin "min") xMin2 := call_min2 hc
theorem c_int1 : CallR X (.type "int") xInt1 := call_int1
theorem c_lenS : CallR X (.builtin "len") xLenS := call_len_str
theorem c_lenQ : CallR X (.builtin "len") (xLenQ X.K) := call_len_seq
theorem c_lenD : CallR X (.builtin "len") xLenD := call_lenD
theorem c_list : CallR X (.type "list") (xList X.K) := call_list_of
theorem c_dictD : CallR X (.type "dict") xDictD := call_dictD
theorem c_isi : CallR X (.builtin "isinstance") (rIsi X.K) := call_isi
end
/-! ### frames -/
/-- all that was tracked, but for the addresses of l, is as it was -/
def Fr (l : List Addr) (H H' : Hp) : Prop := ∀ b o, b ∉ l → H b = some o → H' b = some o
theorem Fr.refl (l : List Addr) (H : Hp) : Fr l H H := fun _ _ _ h => h
theorem Fr.trans {l : List Addr} {H H1 H2 : Hp} (a : Fr l H H1) (b : Fr l H1 H2) : Fr l H H2 := fun c o n h => b c o n (a c o n h)
theorem Fr.of {l : List Addr} {H H' : Hp} (a : Same H H') : Fr l H H' := fun c o _ h => a c o h
theorem Fr.same {H H' : Hp} (a : Fr [] H H') : Same H H' := fun c o h => a c o (by simp) h
theorem Fr.put {l : List Addr} {H : Hp} {a : Addr} {o : HO} (h : a ∈ l) : Fr l H (upd H a o) := fun c u n e => by
  rw [upd_ne (fun z => n (by rw [z]; exact h))]
  exact e
theorem Fr.new {l : List Addr} {H : Hp} {a : Addr} {o : HO} (h : H a = Option.none) : Fr l H (upd H a o) := fun c u _ e => by
  rw [upd_ne (ne_of_none e h)]
  exact e
theorem Same.new {H : Hp} {a : Addr} {o : HO} (h : H a = none) : Same H (upd H a o) := fun c u e => by
  rw [upd_ne (ne_of_none e h)]
  exact e
theorem Fr.mono {l m : List Addr} {H H' : Hp} (a : Fr l H H') (h : ∀ x ∈ l, x ∈ m) : Fr m H H' := fun c o n e => a c o (fun z => n (h c z)) e
theorem Fr.seq {l : List Addr} {K : PySem.W.Frag} {H H' : Hp} {a : Addr} {xs : List V} (e : Fr l H H') (n : a ∉ l) (h : SqL K H a xs) : SqL K H' a xs := by
  rcases h with (h | ⟨o, h⟩) | h
  · exact .inl (.inl (e _ _ n h))
  · exact .inl (.inr ⟨o, e _ _ n h⟩)
  · exact .inr h
theorem Fr.tup {l : List Addr} {K : PySem.W.Frag} {H H' : Hp} {a : Addr} {xs : List V} (e : Fr l H H') (n : a ∉ l) (h : SqT K H a xs) : SqT K H' a xs := by
  rcases h with (h | ⟨o, h⟩) | h
  · exact .inl (.inl (e _ _ n h))
  · exact .inl (.inr ⟨o, e _ _ n h⟩)
  · exact .inr h
theorem Fr.none {l : List Addr} {H H' : Hp} (e : Fr l H H') {a : Addr} (n : a ∉ l) (h : H' a = Option.none) : H a = Option.none := by
  cases q : H a with
  | none => rfl
  | some o =>
    rw [e a o n q] at h
    cases h
/-! ### one lemma a reading -/
section
variable {K : PySem.W.Frag} {σ : St} {H : Hp} {Q n : VK} {v x y : V} {i j : Int} {ta tb te tc : TE} {r : R2} {s z : Str} {b : Bool}
theorem w_var {i : Nat} (h : σ[i]? = some (some v)) (q : Q v H) : tVar i σ H Q := ⟨v, h, q⟩
theorem w_c (q : Q v H) : tC v σ H Q := q
theorem w_op (h : ta σ H fun x H1 => tb σ H1 fun y H2 => r x y H2 Q) : tOp r ta tb σ H Q := h
theorem w_add (q : Q (.int (i + j)) H) : xAdd (.int i) (.int j) H Q := ⟨i, j, rfl, rfl, q⟩
theorem w_sub (q : Q (.int (i - j)) H) : xSub (.int i) (.int j) H Q := ⟨i, j, rfl, rfl, q⟩
theorem w_mul (c : CMul i j) (q : Q (.int (i * j)) H) : xMul (.int i) (.int j) H Q := ⟨i, j, rfl, rfl, c, q⟩
theorem w_mod (c : 0 < j) (q : Q (.int (i % j)) H) : xMod (.int i) (.int j) H Q := ⟨i, j, rfl, rfl, c, q⟩
theorem w_div (c : CDiv i j) (q : Q (.int (i / j)) H) : xDiv (.int i) (.int j) H Q := ⟨i, j, rfl, rfl, c, q⟩
theorem w_pow (c : CPow i j) (q : Q (.int (i ^ j.toNat)) H) : xPow (.int i) (.int j) H Q := ⟨i, j, rfl, rfl, c, q⟩
theorem w_lt (q : Q (.bl (decide (i < j))) H) : xLt (.int i) (.int j) H Q := ⟨i, j, rfl, rfl, q⟩
theorem w_le (q : Q (.bl (decide (i ≤ j))) H) : xLe (.int i) (.int j) H Q := ⟨i, j, rfl, rfl, q⟩
theorem w_gt (q : Q (.bl (decide (j < i))) H) : xGt (.int i) (.int j) H Q := ⟨i, j, rfl, rfl, q⟩
theorem w_ge (q : Q (.bl (decide (j ≤ i))) H) : xGe (.int i) (.int j) H Q := ⟨i, j, rfl, rfl, q⟩
theorem w_eqI (q : Q (.bl (decide (i = j))) H) : rEq (.int i) (.int j) H Q := ⟨rfl, by
  have e : decide (V.int i = V.int j) = decide (i = j) := by simp
  rw [e]; exact q⟩
theorem w_neI (q : Q (.bl (!decide (i = j))) H) : rNe (.int i) (.int j) H Q := ⟨rfl, by
  have e : decide (V.int i = V.int j) = decide (i = j) := by simp
  rw [e]; exact q⟩
theorem w_eqS (q : Q (.bl (decide (s = z))) H) : rEq (.str s) (.str z) H Q := ⟨rfl, by
  have e : decide (V.str s = V.str z) = decide (s = z) := by simp
  rw [e]; exact q⟩
theorem w_neS (q : Q (.bl (!decide (s = z))) H) : rNe (.str s) (.str z) H Q := ⟨rfl, by
  have e : decide (V.str s = V.str z) = decide (s = z) := by simp
  rw [e]; exact q⟩
theorem w_addS (h : s.length + z.length ≤ sizeLine) (q : Q (.str (s ++ z)) H) : xAddS (.str s) (.str z) H Q := ⟨s, z, rfl, rfl, h, q⟩
theorem w_isN (q : Q (.bl (decide (x = .non))) H) : xIsN x .non H Q := ⟨rfl, q⟩
theorem w_notN (q : Q (.bl (!decide (x = .non))) H) : xNotN x .non H Q := ⟨rfl, q⟩
theorem w_inS {c : Nat} (q : Q (.bl (decide (c ∈ z.cps.toList))) H) : xInS (.str ⟨#[c]⟩) (.str z) H Q := ⟨c, z, rfl, rfl, q⟩
theorem w_ninS {c : Nat} (q : Q (.bl (!decide (c ∈ z.cps.toList))) H) : xNinS (.str ⟨#[c]⟩) (.str z) H Q := ⟨c, z, rfl, rfl, q⟩
theorem w_leS (q : Q (.bl (!decide (z.cps.toList < s.cps.toList))) H) : xLeS (.str s) (.str z) H Q := ⟨s, z, rfl, rfl, q⟩
theorem w_ixL {p : Addr} {xs : List V} (h : SqL K H p xs) (e : atI xs i = some v) (q : Q v H) : rIxL K (.ref p) (.int i) H Q := ⟨p, xs, i, v, rfl, rfl, h, e, q⟩
theorem w_ixT {p : Addr} {xs : List V} (h : SqT K H p xs) (e : atI xs i = some v) (q : Q v H) : rIxT K (.ref p) (.int i) H Q := ⟨p, xs, i, v, rfl, rfl, h, e, q⟩
theorem w_ixS {c : Nat} (h : z.length ≤ sizeLine) (e : atI z.cps.toList i = some c) (q : Q (.str ⟨#[c]⟩) H) : rIxS (.str z) (.int i) H Q := ⟨z, i, c, rfl, rfl, h, e, q⟩
theorem w_slS {lo hi : Option Int} (h : z.length ≤ sizeLine) (q : Q (.str (cutS z lo hi)) H) : rSlS (.str z) lo hi H Q := ⟨z, rfl, h, q⟩
theorem w_slL {p : Addr} {xs : List V} {lo hi : Option Int} (h : SqL K H p xs) (q : ∀ a, H a = none → Q (.ref a) (upd H a (.lst (cutV xs lo hi)))) : rSlL K (.ref p) lo hi H Q := ⟨p, xs, rfl, h, q⟩
theorem w_sl {rs : V → Option Int → Option Int → Hp → VK → Prop} {tl th : TO} (h : te σ H fun x H1 => tl σ H1 fun l H2 => th σ H2 fun u H3 => rs x l u H3 Q) : tSl rs te tl th σ H Q := h
theorem w_pt {Q : Option Int → Hp → Prop} (h : te σ H fun x H1 => ∃ i, x = .int i ∧ Q (some i) H1) : tPart te σ H Q := h
theorem w_npt {Q : Option Int → Hp → Prop} (h : Q none H) : tNoPart σ H Q := h
theorem w_cons {tr : TA} {Q : List V → Hp → Prop} (h : ta σ H fun x H1 => tr σ H1 fun xs H2 => Q (x :: xs) H2) : tCons ta tr σ H Q := h
theorem w_nil {Q : List V → Hp → Prop} (q : Q [] H) : tNil σ H Q := q
theorem w_cb {rc : List V → Hp → VK → Prop} {t : TA} (h : t σ H fun vs H1 => rc vs H1 Q) : tCB rc t σ H Q := h
theorem w_abs (q : Q (.int (if i < 0 then -i else i)) H) : xAbs [.int i] H Q := ⟨i, rfl, q⟩
theorem w_max2 (q : Q (.int (if j > i then j else i)) H) : xMax2 [.int i, .int j] H Q := ⟨i, j, rfl, q⟩
theorem w_min2 (q : Q (.int (if j < i then j else i)) H) : xMin2 [.int i, .int j] H Q := ⟨i, j, rfl, q⟩
theorem w_int1 (q : Q (.int i) H) : xInt1 [.int i] H Q := .inl ⟨i, rfl, q⟩
theorem w_lenS (h : z.length ≤ sizeLine) (q : Q (.int z.length) H) : xLenS [.str z] H Q := ⟨z, rfl, h, q⟩
theorem w_lenL {p : Addr} {xs : List V} (h : SqL K H p xs) (q : Q (.int xs.length) H) : xLenQ K [.ref p] H Q := ⟨p, xs, rfl, .inl h, q⟩
theorem w_lenM {α : Type} {f : α → V} {p : Addr} {xs : List α} (h : SqL K H p (xs.map f)) (q : Q (.int xs.length) H) : xLenQ K [.ref p] H Q := ⟨p, _, rfl, .inl h, by rw [List.length_map]; exact q⟩
theorem w_lenT {p : Addr} {xs : List V} (h : SqT K H p xs) (q : Q (.int xs.length) H) : xLenQ K [.ref p] H Q := ⟨p, xs, rfl, .inr h, q⟩
theorem w_lenD {p : Addr} {kvs : List (Key × V)} (h : H p = some (.dK kvs)) (q : Q (.int kvs.length) H) : xLenD [.ref p] H Q := ⟨p, kvs, rfl, h, q⟩
theorem w_listL {p : Addr} {xs : List V} (h : SqL K H p xs) (q : ∀ l, H l = none → Q (.ref l) (upd H l (.lst xs))) : xList K [.ref p] H Q := ⟨p, xs, rfl, .inl h, q⟩
theorem w_tup {t : TA} (h : t σ H fun xs H1 => xs.length ≤ sizeLine ∧ ∀ p, H1 p = none → Q (.ref p) (upd H1 p (.tup xs))) : tTup t σ H Q := h
theorem w_lst {t : TA} (h : t σ H fun xs H1 => xs.length ≤ sizeLine ∧ ∀ p, H1 p = none → Q (.ref p) (upd H1 p (.lst xs))) : tLst t σ H Q := h
theorem w_call {sp : Sp} {dvs : List V} {E : XK} {t : TA} (h : t σ H fun vs H1 => sp (vs ++ dvs) H1 Q E) : tCall sp dvs E t σ H Q := h
theorem w_calln {sp : Sp} {E : XK} {t : TA} (h : t σ H fun vs H1 => sp vs H1 Q E) : tCall sp [] E (fun σ H Q => t σ H fun vs H1 => Q (vs) H1) σ H Q ↔ t σ H fun vs H1 => sp (vs ++ []) H1 Q E := Iff.rfl
theorem w_dget {td ty : TE} (h : td σ H fun x H1 => ty σ H1 fun y H2 => ∃ a v, x = .ref a ∧ DGet H2 a y (some v) ∧ Q v H2) : tDGet td ty σ H Q := h
theorem w_din {td ty : TE} (h : ty σ H fun y H1 => td σ H1 fun x H2 => ∃ a o, x = .ref a ∧ DGet H2 a y o ∧ Q (.bl o.isSome) H2) : tDIn ty td σ H Q := h
theorem w_dnin {td ty : TE} (h : ty σ H fun y H1 => td σ H1 fun x H2 => ∃ a o, x = .ref a ∧ DGet H2 a y o ∧ Q (.bl (!o.isSome)) H2) : tDNotIn ty td σ H Q := h
theorem dget_s {H : Hp} {a : Addr} {kvs : List (Key × V)} {k : Str} (e : H a = some (.dK kvs)) : DGet H a (.str k) (valV kvs (Sum.inr k)) := DGet.k (k := Sum.inr k) e
theorem dget_i {H : Hp} {a : Addr} {kvs : List (Key × V)} {k : Int} (e : H a = some (.dK kvs)) : DGet H a (.int k) (valV kvs (Sum.inl k)) := DGet.k (k := Sum.inl k) e
theorem dget_fs {H : Hp} {a : Addr} {o : Obj} {kvs : List (Key × V)} {k : Str} (e : H a = some (.frz o (.dK kvs))) : DGet H a (.str k) (valV kvs (Sum.inr k)) := .inl ⟨kvs, Sum.inr k, .inr ⟨o, e⟩, rfl, rfl⟩
theorem w_fld {f : Str} {a C dx : Addr} {fs : List (Str × V)} (ho : H a = some (.ins C dx fs)) (hc : Cls K C) (hn : NoAttr K C f) (hl : fs.lookup f = some v) (q : Q v H) : (fun (x : V) (H1 : Hp) => ∃ a C dx fs v, x = .ref a ∧ H1 a = some (.ins C dx fs) ∧ Cls K C ∧ NoAttr K C f ∧ fs.lookup f = some v ∧ Q v H1) (.ref a) H := ⟨a, C, dx, fs, v, rfl, ho, hc, hn, hl, q⟩
/-! tests -/
theorem w_test {Q : Bool → Hp → Prop} (h : te σ H fun x H' => ∃ k, x = .bl k ∧ Q k H') : tTest te σ H Q := h
theorem w_b {Q : Bool → Hp → Prop} (h : te σ H fun x H' => ∃ k, x = .bl k ∧ Q k H') : tB te σ H Q := h
theorem w_bl {P : Bool → Prop} {k : Bool} (q : P k) : ∃ c, V.bl k = .bl c ∧ P c := ⟨k, rfl, q⟩
theorem w_and2 {t u : TT} {Q : Bool → Hp → Prop} {b c : Bool} (h1 : ∀ Q : Bool → Hp → Prop, Q b H → t σ H Q) (h2 : b = true → ∀ Q : Bool → Hp → Prop, Q c H → u σ H Q) (q : Q (b && c) H) : tAnd t u σ H Q := by
  refine h1 _ ?_
  cases b with
  | true => exact h2 rfl Q q
  | false => exact q
theorem w_or2 {t u : TT} {Q : Bool → Hp → Prop} {b c : Bool} (h1 : ∀ Q : Bool → Hp → Prop, Q b H → t σ H Q) (h2 : b = false → ∀ Q : Bool → Hp → Prop, Q c H → u σ H Q) (q : Q (b || c) H) : tOr t u σ H Q := by
  refine h1 _ ?_
  cases b with
  | true => exact q
  | false => exact h2 rfl Q q
theorem w_andV2 {b c : Bool} (h1 : ∀ Q : VK, Q (.bl b) H → ta σ H Q) (h2 : b = true → ∀ Q : VK, Q (.bl c) H → tb σ H Q) (q : Q (.bl (b && c)) H) : tAndV ta tb σ H Q := by
  refine h1 _ ⟨b, rfl, ?_⟩
  cases b with
  | true => exact h2 rfl Q q
  | false => exact q
theorem w_orV2 {b c : Bool} (h1 : ∀ Q : VK, Q (.bl b) H → ta σ H Q) (h2 : b = false → ∀ Q : VK, Q (.bl c) H → tb σ H Q) (q : Q (.bl (b || c)) H) : tOrV ta tb σ H Q := by
  refine h1 _ ⟨b, rfl, ?_⟩
  cases b with
  | true => exact q
  | false => exact h2 rfl Q q
theorem w_in {P : Int → Prop} (q : P i) : ∃ c, V.int i = .int c ∧ P c := ⟨i, rfl, q⟩
theorem w_and {t u : TT} {Q : Bool → Hp → Prop} (h : t σ H fun c H1 => if c = true then u σ H1 Q else Q false H1) : tAnd t u σ H Q := h
theorem w_or {t u : TT} {Q : Bool → Hp → Prop} (h : t σ H fun c H1 => if c = true then Q true H1 else u σ H1 Q) : tOr t u σ H Q := h
theorem w_not {t : TT} {Q : Bool → Hp → Prop} (h : t σ H fun c H1 => Q (!c) H1) : tNot t σ H Q := h
theorem w_andV (h : ta σ H fun x H1 => ∃ c, x = .bl c ∧ if c = true then tb σ H1 Q else Q (.bl false) H1) : tAndV ta tb σ H Q := h
theorem w_orV (h : ta σ H fun x H1 => ∃ c, x = .bl c ∧ if c = true then Q (.bl true) H1 else tb σ H1 Q) : tOrV ta tb σ H Q := h
theorem w_notV (h : ta σ H fun x H1 => ∃ c, x = .bl c ∧ Q (.bl (!c)) H1) : tNotV ta σ H Q := h
theorem w_ifE {t : TT} (h : t σ H fun c H1 => if c = true then ta σ H1 Q else tb σ H1 Q) : tIf t ta tb σ H Q := h
/-! statements -/
variable {N B C' : St → Hp → Prop} {R : VK} {t u : TS} {g : TG}
theorem w_seq (h : t ⟨u ⟨N, R, B, C'⟩, R, B, C'⟩ σ H) : tSeq t u ⟨N, R, B, C'⟩ σ H := h
theorem w_next (h : N σ H) : tNext ⟨N, R, B, C'⟩ σ H := h
theorem w_asg (h : te σ H fun x H1 => g x σ H1 N) : tAsg te g ⟨N, R, B, C'⟩ σ H := h
theorem w_name {i : Nat} {Q : St → Hp → Prop} (q : Q (σ.set i (some v)) H) : gName i v σ H Q := q
theorem w_ret (h : te σ H R) : tRet te ⟨N, R, B, C'⟩ σ H := h
theorem w_retN (h : R .non H) : tRetN ⟨N, R, B, C'⟩ σ H := h
theorem w_drop (h : te σ H fun _ H1 => N σ H1) : tDrop te ⟨N, R, B, C'⟩ σ H := h
theorem w_brk (h : B σ H) : tBreak ⟨N, R, B, C'⟩ σ H := h
theorem w_cont (h : C' σ H) : tCont ⟨N, R, B, C'⟩ σ H := h
theorem w_if {c : TT} (h : c σ H fun k H1 => if k = true then t ⟨N, R, B, C'⟩ σ H1 else u ⟨N, R, B, C'⟩ σ H1) : tIfS c t u ⟨N, R, B, C'⟩ σ H := h
theorem w_gsub {to ti : TE} {ts : TSet} {Q : St → Hp → Prop} (h : to σ H fun o H1 => ti σ H1 fun i H2 => ts o i v H2 fun H3 => Q σ H3) : gSub to ti ts v σ H Q := h
theorem w_setL {p : Addr} {xs : List V} {j : Nat} {Q : Hp → Prop} (h : H p = some (.lst xs)) (e : ixN xs.length i = some j) (q : Q (upd H p (.lst (xs.set j v)))) : rSetL (.ref p) (.int i) v H Q := ⟨p, xs, i, j, rfl, rfl, h, e, q⟩
theorem w_dput {td ty tv : TE} (h : tv σ H fun v H1 => td σ H1 fun x H2 => ty σ H2 fun y H3 => ∃ a H4, x = .ref a ∧ DPut H3 a y v H4 ∧ N σ H4) : sDPut td ty tv ⟨N, R, B, C'⟩ σ H := h
theorem dput_s {H : Hp} {a : Addr} {kvs : List (Key × V)} {k : Str} {v : V} (e : H a = some (.dK kvs)) (hl : kvs.length < sizeLine) : DPut H a (.str k) v (upd H a (.dK (putK kvs (Sum.inr k) v))) := DPut.k (k := Sum.inr k) e hl
theorem w_iteD {p : Prop} [Decidable p] {A B : Prop} (h1 : p → A) (h2 : ¬ p → B) : if decide p = true then A else B := by
  by_cases h : p
  · rw [if_pos (decide_eq_true h)]; exact h1 h
  · rw [if_neg (by simp [h])]; exact h2 h
theorem w_iteDN {p : Prop} [Decidable p] {A B : Prop} (h1 : ¬ p → A) (h2 : p → B) : if (!decide p) = true then A else B := by
  by_cases h : p
  · rw [if_neg (by simp [h])]; exact h2 h
  · rw [if_pos (by simp [h])]; exact h1 h
theorem w_iteB {c : Bool} {A B : Prop} (h1 : c = true → A) (h2 : c = false → B) : if c = true then A else B := by
  cases c with
  | true => exact h1 rfl
  | false => exact h2 rfl
theorem w_iteP {p : Prop} [Decidable p] {A B : Prop} (h : p) (h1 : A) : if decide p = true then A else B := by rw [if_pos (decide_eq_true h)]; exact h1
theorem w_iteN {p : Prop} [Decidable p] {A B : Prop} (h : ¬ p) (h2 : B) : if decide p = true then A else B := by rw [if_neg (by simp [h])]; exact h2
theorem w_iteNP {p : Prop} [Decidable p] {A B : Prop} (h : p) (h2 : B) : if (!decide p) = true then A else B := by rw [if_neg (by simp [h])]; exact h2
theorem w_iteNN {p : Prop} [Decidable p] {A B : Prop} (h : ¬ p) (h1 : A) : if (!decide p) = true then A else B := by rw [if_pos (by simp [h])]; exact h1
end
end L2

set_option maxHeartbeats 4000000
/-! The head's facts, with makers of exceptions that close over their class, and a Bool of one's own. -/
namespace He
open PySem PySem.Spec PyProof.Rows L2 XX
/-- an exception's maker: its class, qualified name, parameters, body, scope -/
structure IniD where
  cls : Str
  qual : Str
  params : Arguments
  body : List Stmt
  scope : Scope
abbrev FnI : Type := Option (Str × Str × Arguments × FuncBody × Scope × Addr × List Str × Value × Addr)
def obsI (K : PySem.W.Frag) (d : IniD) : FnI := match K.lookup (ma K (ga K d.cls) "__init__") with
  | some ⟨_, _, .func fd, _⟩ => some (fd.name, fd.qualname, fd.params, fd.body, fd.scope, fd.globals, fd.closure.map (·.1), fd.defaults, fd.builtins)
  | _ => none
def IniD.val (d : IniD) : FnI := some (("__init__" : Str), d.qual, d.params, .stmts d.body, d.scope, mainGlobals, [("__class__" : Str)], .none, builtinsNs)
def fileB (file : Str) (K : PySem.W.Frag) (cd : Value) : Bool := match cd with
  | .ref c => (match K.lookup c with
    | some ⟨_, _, .fields vs, _⟩ => (match (vs[2]? : Option Value) with
      | some (Value.str y _) => file == y
      | _ => false)
    | _ => false)
  | _ => false
def cellB (K : PySem.W.Frag) (C : Addr) (cl : List (Str × Addr)) : Bool := match cl with
  | q :: _ => (match K.lookup q.2 with
    | some ⟨_, _, .cell (some (.ref D)), _⟩ => decide (D = C)
    | _ => false)
  | _ => false
def iniB (file : Str) (K : PySem.W.Frag) (d : IniD) : Bool :=
  (decide (PySem.W.nsIn K cStatics "thirdparty.any" = some none) && excCB K (ga K d.cls)) && (decide (PySem.W.findIn K (.ref (ga K d.cls)) "__init__" = some (some (.ref (ma K (ga K d.cls) "__init__")))) &&
  (decide (PySem.W.typeIn K (.ref (ma K (ga K d.cls) "__init__")) = some (.type "function")) && (exwB K (ga K d.cls) &&
  (match K.lookup (ma K (ga K d.cls) "__init__") with
    | some ⟨_, _, .func fd, _⟩ => PySem.W.codeIn K fd.code d.qual && (fileB file K fd.code && cellB K (ga K d.cls) fd.closure)
    | _ => false))))
theorem ini_ok {prog : Program} {file : Str} (hfile : prog.main.file = file) {K : PySem.W.Frag} {d : IniD} (e : obsI K d = d.val) (c : iniB file K d = true) :
    ExW K (ga K d.cls) ∧ IFn prog K (ga K d.cls) (ma K (ga K d.cls) "__init__") d.qual d.params d.body d.scope := by
  obtain ⟨_, c⟩ := ba c
  obtain ⟨c1, c⟩ := ba c
  obtain ⟨c2, c⟩ := ba c
  obtain ⟨c3, c⟩ := ba c
  refine ⟨exwB_ok c3, of_decide_eq_true c1, of_decide_eq_true c2, ?_⟩
  unfold obsI at e
  cases q : K.lookup (ma K (ga K d.cls) "__init__") with
  | none => rw [q] at c; cases c
  | some o =>
    obtain ⟨oc, od, dt, osl⟩ := o
    rw [q] at c e
    cases dt with
    | func fd =>
      obtain ⟨n1, n2, n3, n4, n5, n6, n7, n8, n9, n10, n11, n12, n13, n14, n15⟩ := fd
      have e2 : (some (n1, n2, n3, n4, n5, n6, n7.map (·.1), n8, n15) : FnI) = some (("__init__" : Str), d.qual, d.params, .stmts d.body, d.scope, mainGlobals, [("__class__" : Str)], .none, builtinsNs) := e
      simp only [Option.some.injEq, Prod.mk.injEq] at e2
      obtain ⟨h1, h2, h3, h4, h5, h6, h7, h8, h9⟩ := e2
      match n7, h7 with
      | [(nm, cc)], h7 =>
        have h7' : nm = ("__class__" : Str) := by simpa using h7
        have c' : (PySem.W.codeIn K n13 d.qual && (fileB file K n13 && cellB K (ga K d.cls) [(nm, cc)])) = true := c
        obtain ⟨c4, c'⟩ := ba c'
        obtain ⟨c5, c6⟩ := ba c'
        subst h1 h2 h3 h4 h5 h6 h7' h8 h9
        unfold fileB at c5
        cases n13 with
        | ref cda =>
          have c5' : (match K.lookup cda with
            | some ⟨_, _, .fields vs, _⟩ => (match (vs[2]? : Option Value) with
              | some (Value.str y _) => file == y
              | _ => false)
            | _ => false) = true := c5
          cases q2 : K.lookup cda with
          | none => rw [q2] at c5'; cases c5'
          | some o2 =>
            obtain ⟨oc2, od2, dt2, osl2⟩ := o2
            rw [q2] at c5'
            cases dt2 with
            | fields vs =>
              have c7 : (match (vs[2]? : Option Value) with
                | some (Value.str y _) => file == y
                | _ => false) = true := c5'
              cases q3 : vs[2]? with
              | none => rw [q3] at c7; cases c7
              | some u =>
                rw [q3] at c7
                cases u with
                | str y t =>
                  have c8 : (match K.lookup cc with
                    | some ⟨_, _, .cell (some (.ref D)), _⟩ => decide (D = ga K d.cls)
                    | _ => false) = true := c6
                  cases q4 : K.lookup cc with
                  | none => rw [q4] at c8; cases c8
                  | some o4 =>
                    obtain ⟨oc4, od4, dt4, osl4⟩ := o4
                    rw [q4] at c8
                    cases dt4 with
                    | cell v =>
                      cases v with
                      | none => cases c8
                      | some v =>
                        cases v with
                        | ref D =>
                          have e8 : D = ga K d.cls := of_decide_eq_true c8
                          subst e8
                          exact ⟨oc, od, _, _, _, _, _, cda, cc, osl, rfl, c4, ⟨oc2, od2, vs, osl2, y, t, q2, q3, by rw [hfile]; exact c7⟩, oc4, od4, osl4, q4⟩
                        | _ => cases c8
                    | _ => cases c8
                | _ => cases c7
            | _ => cases c5'
        | _ => cases c5
    | _ => cases c
theorem ini_any {file : Str} {K : PySem.W.Frag} {d : IniD} (c : iniB file K d = true) : PySem.W.nsIn K cStatics "thirdparty.any" = some none := of_decide_eq_true (ba (ba c).1).1
theorem ini_exc {file : Str} {K : PySem.W.Frag} {d : IniD} (c : iniB file K d = true) : ExcC K (ga K d.cls) := excCB_ok (ba (ba c).1).2
/-! ### the Hook -/
abbrev AlZ : Type := AlD × List FnI × Bool
def obsZ (fa : List Fa) (fn : List DefD) (fi : List IniD) (file : Str) (ex : PySem.W.Frag → Bool) (K : PySem.W.Frag) : AlZ := (obsD fa fn K, fi.map (obsI K), (fi.all fun d => iniB file K d) && ex K)
def valZ (fn : List DefD) (fi : List IniD) : AlZ := (valD fn, fi.map IniD.val, true)
def SaysZ (fa : List Fa) (fn : List DefD) (fi : List IniD) (file : Str) (ex : PySem.W.Frag → Bool) (K : PySem.W.Frag) : Prop := obsZ fa fn fi file ex K = valZ fn fi
def obsZG (n : Nat) (fa : List Fa) (fn : List DefD) (fi : List IniD) (file : Str) (ex : PySem.W.Frag → Bool) (g : Addr → Option Obj) : AlZ := obsZ fa fn fi file ex (frG g (cStatics :: asD g n))
def hookZ (n : Nat) (fa : List Fa) (fn : List DefD) (fi : List IniD) (file : Str) (ex : PySem.W.Frag → Bool) : PySem.W.Hook where
  α := AlZ
  obs := fun s => obsZG n fa fn fi file ex s.heap.get?
  val := fun _ => valZ fn fi
  says := fun _ h => ∃ K : PySem.W.Frag, K.In h ∧ SaysZ fa fn fi file ex K
  of := fun _ _ e => ⟨_, frG_in, e⟩
  keeps := fun _ _ _ ⟨K, hK, c⟩ k => ⟨K, PySem.W.Frag.In.keeps hK k, c⟩
theorem obsZG_eq {n : Nat} {fa : List Fa} {fn : List DefD} {fi : List IniD} {file : Str} {ex : PySem.W.Frag → Bool} {g : Addr → Option Obj} {s : Shared} (h : ∀ a, g a = s.heap.get? a) : obsZG n fa fn fi file ex g = (hookZ n fa fn fi file ex).obs s := by
  have e : g = s.heap.get? := funext h
  rw [e] <;> rfl
section
variable {fa : List Fa} {fn : List DefD} {fi : List IniD} {file : Str} {ex : PySem.W.Frag → Bool} {K : PySem.W.Frag}
theorem SaysZ.d (c : SaysZ fa fn fi file ex K) : SaysD fa fn K := congrArg (fun z : AlZ => z.1) c
theorem SaysZ.all (c : SaysZ fa fn fi file ex K) : (fi.all fun d => iniB file K d) = true ∧ ex K = true := ba (congrArg (fun z : AlZ => z.2.2) c)
theorem SaysZ.ini (c : SaysZ fa fn fi file ex K) (i : Nat) {d : IniD} (h : fi[i]? = some d) : obsI K d = d.val ∧ iniB file K d = true := by
  have e : fi.map (obsI K) = fi.map IniD.val := congrArg (fun z : AlZ => z.2.1) c
  have e2 : (fi.map (obsI K))[i]? = (fi.map IniD.val)[i]? := by rw [e]
  rw [List.getElem?_map, List.getElem?_map, h] at e2
  exact ⟨Option.some.inj e2, List.all_eq_true.mp c.all.1 d (List.mem_of_getElem? h)⟩
end
end He
namespace L2
open PySem PySem.Spec PyProof.Rows XX He
/-- what a def's walk knows of the top: the facts fa, the defs fn, the makers fi, the Bool ex -/
structure TxG (fa : List Fa) (fn : List DefD) (fi : List IniD) (ex : PySem.W.Frag → Bool) (P : Program) (K : PySem.W.Frag) (mg : Str → Option Value) : Prop where
  hp : ∃ h : Heap, K.In h ∧ h.Ns mainGlobals mg
  c : SaysZ fa fn fi P.main.file ex K
section
variable {fa : List Fa} {fn : List DefD} {fi : List IniD} {ex : PySem.W.Frag → Bool} {P : Program} {K : PySem.W.Frag} {mg : Str → Option Value}
theorem TxG.gl (T : TxG fa fn fi ex P K mg) (i : Nat) (x : Str) (h : fa[i]? = some (.glo x)) : mg x = some (.ref (ga K x)) := let ⟨_, X, G⟩ := T.hp; glo_ok X G (T.c.d.fact i h)
theorem TxG.fr (T : TxG fa fn fi ex P K mg) (i : Nat) (x : Str) (h : fa[i]? = some (.free x)) : mg x = none := let ⟨_, X, G⟩ := T.hp; free_ok X G (T.c.d.fact i h)
theorem TxG.kI (T : TxG fa fn fi ex P K mg) (i : Nat) (x : Str) (n : Int) (h : fa[i]? = some (.int x n)) : ∃ t, mg x = some (.int n t) := let ⟨_, X, G⟩ := T.hp; int_ok X G (T.c.d.fact i h)
theorem TxG.kS (T : TxG fa fn fi ex P K mg) (i : Nat) (x z : Str) (h : fa[i]? = some (.str x z)) : ∃ t, mg x = some (.str z t) := let ⟨_, X, G⟩ := T.hp; str_ok X G (T.c.d.fact i h)
theorem TxG.cls (T : TxG fa fn fi ex P K mg) (i : Nat) (x : Str) (h : fa[i]? = some (.cls x)) : Cls K (ga K x) := cls_ok (T.c.d.fact i h)
theorem TxG.na (T : TxG fa fn fi ex P K mg) (i : Nat) (x f : Str) (h : fa[i]? = some (.noat x f)) : NoAttr K (ga K x) f := noat_ok (T.c.d.fact i h)
theorem TxG.mkc (T : TxG fa fn fi ex P K mg) (i : Nat) (x : Str) (h : fa[i]? = some (.mkr x)) : Mk K (ga K x) (fAd K (x, some ("__init__" : Str))) := mkr_ok (T.c.d.fact i h)
theorem TxG.me (T : TxG fa fn fi ex P K mg) (i : Nat) (x m : Str) (h : fa[i]? = some (.meth x m)) : Meth K (ga K x) m (fAd K (x, some m)) := meth_ok (T.c.d.fact i h)
theorem TxG.df (T : TxG fa fn fi ex P K mg) (i : Nat) {d : DefD} (h : fn[i]? = some d) : ∃ fd, FunD K d.name d.qual d.params d.body d.scope (d.dvs K) (d.kws K) (fAd K d.at_) fd := T.c.d.def_ i h
theorem TxG.ini (T : TxG fa fn fi ex P K mg) (i : Nat) {d : IniD} (h : fi[i]? = some d) : ExW K (ga K d.cls) ∧ IFn P K (ga K d.cls) (ma K (ga K d.cls) "__init__") d.qual d.params d.body d.scope :=
  let ⟨a, b⟩ := T.c.ini i h; ini_ok rfl a b
theorem TxG.any (T : TxG fa fn fi ex P K mg) (i : Nat) {d : IniD} (h : fi[i]? = some d) : PySem.W.nsIn K cStatics "thirdparty.any" = some none := ini_any (T.c.ini i h).2
theorem TxG.exc (T : TxG fa fn fi ex P K mg) (i : Nat) {d : IniD} (h : fi[i]? = some d) : ExcC K (ga K d.cls) := ini_exc (T.c.ini i h).2
theorem _root_.XX.ExW.xf {K : PySem.W.Frag} {C : Addr} (T : ExW K C) : XfC K C := ⟨T.ga, T.gg, T.exC, T.hasDict⟩
theorem TxG.extra (T : TxG fa fn fi ex P K mg) : ex K = true := T.c.all.2
/-- raise X('..'), X an own class without __init__ of its own -/
theorem TxG.pk0 {X : Cx} (T : TxG fa fn fi ex X.prog X.K X.mg) (i j : Nat) (x : Str) (h : fa[i]? = some (.glo x)) (h2 : fa[j]? = some (.exc x)) {m : Str} {k : Nat} {p p2 pos : Pos} (hg : Gl X x := by rfl) (hdb : (x == ("__debug__" : Str)) = false := by decide) :
    PMk X (.Call (.Name x p) [.Constant (.str m) k p2] [] pos) (fun _ H Q => Q (.ref (ga X.K x)) none H) := by
  obtain ⟨e1, e2, e3, e4⟩ := exc_ok (T.c.d.fact j h2)
  exact pmk_own PySem.F.excBase_ValueError e1 (T.gl i x h) e2 (raises_own e3 e4) hg hdb
end
/-- raise X('..'): the reading -/
def tRz (E : XK) (C : Addr) : TS := fun _ _ H => E (.ref C) none H
/-- raise X(e, ..), X stores its arguments by these names -/
def tRx (E : XK) (C : Addr) (ns : List Str) (ta : TA) : TS := fun _ σ H => tMkX C ns ta σ H fun cls d H' => E cls d H'
theorem w_rz {E : XK} {C : Addr} {D : Ends} {σ : St} {H : Hp} (h : E (.ref C) none H) : tRz E C D σ H := h
theorem w_rx {E : XK} {C : Addr} {ns : List Str} {ta : TA} {D : Ends} {σ : St} {H : Hp} (h : ta σ H fun vs H1 => vs.length = ns.length ∧ ∀ d, H1 d = none → E (.ref C) (some d) (upd H1 d (.xd (ns.zip vs)))) : tRx E C ns ta D σ H := h
/-- o(e, ..), o an instance of the class at C (its __call__ keeps sp) -/
def tCO (K : PySem.W.Frag) (C : Addr) (sp : Sp) (tf : TE) (t : TA) : TE := fun σ H Q => tf σ H fun y H1 => ∃ a, y = V.ref a ∧ t σ H1 fun vs H2 => (∃ dx fs, H2 a = some (.ins C dx fs)) ∧ sp (V.ref a :: vs) H2 Q E0
theorem FnOk.raw0 {P : Program} {w : World} {K : PySem.W.Frag} {mg : Str → Option Value} {base : Heap} {CX : CXT} {k : Nat} {f : Addr} {sp : Sp} {fd : FuncData} {ps : List Str} (F : FnOk P w K mg base CX k f fd ps sp) (hb : Binds K fd ps []) : FnR P w K mg base CX k f sp :=
  (F.raw hb .nil).imp fun vs H Q E h => by rw [List.append_nil]; exact h
open StX in
theorem pe_co {X : Cx} {C g : Addr} {CX : CXT} {k : Nat} {sp : Sp} {tf : TE} {t : TA} {fe e : Expr} {es : List Expr} {pos : Pos} (hf : PE X fe tf) (c : CallO X.K C g) (F : FnR X.prog X.w X.K X.mg X.base CX k g sp) (hr : Room k X.A) (hx : Passes CX X E0) (ha : PA X (e :: es) t)
    (ht : eval (.Call fe (e :: es) [] pos) X.env = (do callWith pos (← eval fe X.env) [] (backTo pos (starEach (e :: es) X.env)) (backToKw pos (keywordEach [] X.env))) := by rfl)
    (he : starEach (e :: es) X.env = (false, eval e X.env) :: starEach es X.env := by rfl) (hpl : (backTo pos (starEach es X.env)).any (·.1) = false := by rfl) : PE X (.Call fe (e :: es) [] pos) (tCO X.K C sp tf t) := by
  constructor
  intro pins s σ H Q I h
  refine Call_ (thn (hf.run pins s σ H _ I h) fun u s1 hh => ?_) ht
  obtain ⟨y, H1, I1, ry, a, ey, q⟩ := hh
  subst ey
  have eu : u = Value.ref a := ry
  subst eu
  refine callO_with (thn (ha.run pos pins s1 σ H1 _ I1 q) fun us s2 hh => ?_) he hpl
  obtain ⟨vs, H2, I2, r, hi, q2⟩ := hh
  have hi2 : InsC X H2 a C := .inr hi
  obtain ⟨ox, od, J, hd⟩ := insC_at I2 hi2
  exact ⟨⟨C, ox, od, J, hd⟩, run_callO c F hr hx I2 hi2 r q2⟩
end L2

set_option maxHeartbeats 4000000
/-! The drawing helpers of every law: the state list. -/
namespace L2
open PySem PySem.Spec PyProof.Rows
/-- the drawing state at st: its cells' list, three ints -/
def StAt (H : Hp) (st : Addr) : Prop := ∃ (c : Addr) (cells : List Int) (p t d : Int), H st = some (.lst [.ref c, .int p, .int t, .int d]) ∧ H c = some (.lst (cells.map V.int)) ∧ cells ≠ []
theorem StAt.fr {l : List Addr} {H H' : Hp} {st : Addr} (h : StAt H st) (f : Fr l H H') (n : st ∉ l) (nc : ∀ c : Addr, ∀ xs : List Int, H c = some (.lst (xs.map V.int)) → xs ≠ [] → c ∉ l) : StAt H' st := by
  obtain ⟨c, cells, p, t, d, h1, h2, h3⟩ := h
  exact ⟨c, cells, p, t, d, f _ _ n h1, f _ _ (nc c cells h2 h3) h2, h3⟩
theorem StAt.same {H H' : Hp} {st : Addr} (h : StAt H st) (f : Same H H') : StAt H' st := by
  obtain ⟨c, cells, p, t, d, h1, h2, h3⟩ := h
  exact ⟨c, cells, p, t, d, f _ _ h1, f _ _ h2, h3⟩
/-- the same, the cells' list at c -/
def StC (H : Hp) (st c : Addr) : Prop := ∃ (cells : List Int) (p t d : Int), H st = some (.lst [.ref c, .int p, .int t, .int d]) ∧ H c = some (.lst (cells.map V.int)) ∧ cells ≠ []
theorem StAt.c {H : Hp} {st : Addr} (h : StAt H st) : ∃ c, StC H st c := let ⟨c, cells, p, t, d, h⟩ := h; ⟨c, cells, p, t, d, h⟩
theorem StC.at_ {H : Hp} {st c : Addr} (h : StC H st c) : StAt H st := let ⟨cells, p, t, d, h⟩ := h; ⟨c, cells, p, t, d, h⟩
theorem StC.fr {l : List Addr} {H H' : Hp} {st c : Addr} (h : StC H st c) (f : Fr l H H') (n : st ∉ l) (nc : c ∉ l) : StC H' st c := by
  obtain ⟨cells, p, t, d, h1, h2, h3⟩ := h
  exact ⟨cells, p, t, d, f _ _ n h1, f _ _ nc h2, h3⟩
theorem StC.same {H H' : Hp} {st c : Addr} (h : StC H st c) (f : Same H H') : StC H' st c := by
  obtain ⟨cells, p, t, d, h1, h2, h3⟩ := h
  exact ⟨cells, p, t, d, f _ _ h1, f _ _ h2, h3⟩
theorem StC.ne1 {H : Hp} {st c a : Addr} (h : StC H st c) (n : H a = none) : st ≠ a := let ⟨_, _, _, _, h1, _⟩ := h; ne_of_none h1 n
theorem StC.ne2 {H : Hp} {st c a : Addr} (h : StC H st c) (n : H a = none) : c ≠ a := let ⟨_, _, _, _, _, h2, _⟩ := h; ne_of_none h2 n
theorem StC.nt {H : Hp} {st c : Addr} (h : StC H st c) : ∀ xs, H st ≠ some (.tup xs) := fun xs e => by
  obtain ⟨_, _, _, _, h1, _⟩ := h
  rw [h1] at e
  cases e
/-- a list (or any thing) elsewhere is changed -/
theorem StC.put {H : Hp} {st c a : Addr} {o : HO} (h : StC H st c) (n : st ≠ a) (nc : c ≠ a) : StC (upd H a o) st c := h.fr (l := [a]) (Fr.put (by simp)) (by simpa using n) (by simpa using nc)
def spNextC : Sp := fun vs H Q _ => ∃ (st c : Addr) (many : Int), vs = [.ref st, .int many] ∧ 0 < many ∧ many < 1073741824 ∧ StC H st c ∧
  ∀ r H', 0 ≤ r → r < many → Fr [st] H H' → StC H' st c → Q (.int r) H'
def spNext : Sp := fun vs H Q _ => ∃ (st : Addr) (many : Int), vs = [.ref st, .int many] ∧ 0 < many ∧ many < 1073741824 ∧ StAt H st ∧
  ∀ r H', 0 ≤ r → r < many → Fr [st] H H' → StAt H' st → Q (.int r) H'
def spStart (K : PySem.W.Frag) : Sp := fun vs H Q _ => ∃ (a : Addr) (ns : List Int), vs = [.ref a] ∧ SqL K H a (ns.map V.int) ∧ ns.length ≤ 63 ∧
  ∀ H' st, Same H H' → H st = none → StAt H' st → Q (.ref st) H'
end L2

set_option maxHeartbeats 4000000
/-! Texts as lists of code points; loops. -/
namespace L2
open PySem PySem.Spec PyProof.Rows
/-- the text of these code points -/
def tx (l : List Nat) : Str := ⟨l.toArray⟩
theorem tx_len (l : List Nat) : (tx l).length = l.length := by simp [tx, Str.length]
theorem tx_list (l : List Nat) : (tx l).cps.toList = l := by simp [tx]
theorem tx_of (s : Str) : s = tx s.cps.toList := by cases s; simp [tx]
theorem tx_inj {l m : List Nat} (h : tx l = tx m) : l = m := by rw [← tx_list l, h, tx_list]
theorem tx_iff {l m : List Nat} : tx l = tx m ↔ l = m := ⟨tx_inj, fun h => by rw [h]⟩
theorem tx_app (l m : List Nat) : tx l ++ tx m = tx (l ++ m) := by
  have h : (tx l ++ tx m).cps.toList = l ++ m := by
    show ((l.toArray ++ m.toArray).toList) = l ++ m
    simp
  rw [tx_of (tx l ++ tx m), h]
theorem tx_one (c : Nat) : (⟨#[c]⟩ : Str) = tx [c] := rfl
theorem tx_nil : ("" : Str) = tx [] := by decide +kernel
/-- the part from a to b -/
def cut (l : List Nat) (a b : Nat) : List Nat := (l.drop a).take (b - a)
theorem tx_cut {l : List Nat} {a b : Int} (ha : 0 ≤ a) (hb : 0 ≤ b) : cutS (tx l) (some a) (some b) = tx (cut l a.toNat b.toNat) := by
  obtain ⟨i, rfl⟩ := Int.eq_ofNat_of_zero_le ha
  obtain ⟨j, rfl⟩ := Int.eq_ofNat_of_zero_le hb
  unfold cutS cut
  rw [tx_list, tx_len, HT.sIx_nat, HT.sIx_nat, Int.toNat_natCast, Int.toNat_natCast]
  congr 1
  congr 1
  by_cases h : i ≤ l.length
  · rw [Nat.min_eq_left h]
    by_cases h2 : j ≤ l.length
    · rw [Nat.min_eq_left h2]
    · rw [Nat.min_eq_right (by omega), List.take_of_length_le (by rw [List.length_drop]; omega), List.take_of_length_le (by rw [List.length_drop]; omega)]
  · have e : min i l.length = l.length := Nat.min_eq_right (by omega)
    rw [e, List.drop_of_length_le (Nat.le_refl _), List.drop_of_length_le (by omega)]
    simp
theorem tx_cutR {l : List Nat} {b : Int} (hb : 0 ≤ b) : cutS (tx l) none (some b) = tx (l.take b.toNat) := by
  obtain ⟨j, rfl⟩ := Int.eq_ofNat_of_zero_le hb
  unfold cutS
  rw [tx_list, tx_len, HT.sIx_none, HT.sIx_nat, Int.toNat_natCast, List.drop_zero, Nat.sub_zero]
  congr 1
  congr 1
  by_cases h2 : j ≤ l.length
  · rw [Nat.min_eq_left h2]
  · rw [Nat.min_eq_right (by omega), List.take_of_length_le (Nat.le_refl _), List.take_of_length_le (by omega)]
theorem tx_cutL {l : List Nat} {a : Int} (ha : 0 ≤ a) : cutS (tx l) (some a) none = tx (l.drop a.toNat) := by
  obtain ⟨j, rfl⟩ := Int.eq_ofNat_of_zero_le ha
  unfold cutS
  rw [tx_list, tx_len, HT.sIx_none, HT.sIx_nat, Int.toNat_natCast]
  congr 1
  congr 1
  by_cases h2 : j ≤ l.length
  · rw [Nat.min_eq_left h2, List.take_of_length_le (by rw [List.length_drop]; omega)]
  · rw [Nat.min_eq_right (by omega), List.drop_of_length_le (Nat.le_refl _), List.drop_of_length_le (by omega)]
    simp
theorem sz_le {n : Nat} (h : n ≤ 1000000) : n ≤ sizeLine := Nat.le_trans h (by decide)
theorem sz_lt1 {n : Nat} (h : n < 1000000) : n < sizeLine := Nat.lt_of_lt_of_le h (by decide)
section
variable {K : PySem.W.Frag} {σ : St} {H : Hp} {Q : VK} {l m : List Nat} {c : Nat}
theorem w_addX (h : l.length + m.length ≤ 1000000) (q : Q (.str (tx (l ++ m))) H) : xAddS (.str (tx l)) (.str (tx m)) H Q := w_addS (by rw [tx_len, tx_len]; exact sz_le h) (by rw [tx_app]; exact q)
theorem w_lenX (h : l.length ≤ 1000000) (q : Q (.int l.length) H) : xLenS [.str (tx l)] H Q := w_lenS (by rw [tx_len]; exact sz_le h) (by rw [tx_len]; exact q)
theorem w_eqX (q : Q (.bl (decide (l = m))) H) : rEq (.str (tx l)) (.str (tx m)) H Q := w_eqS (by
  have e : decide (tx l = tx m) = decide (l = m) := decide_eq_decide.mpr tx_iff
  rw [e]; exact q)
theorem w_neX (q : Q (.bl (!decide (l = m))) H) : rNe (.str (tx l)) (.str (tx m)) H Q := w_neS (by
  have e : decide (tx l = tx m) = decide (l = m) := decide_eq_decide.mpr tx_iff
  rw [e]; exact q)
theorem w_inX (q : Q (.bl (decide (c ∈ l))) H) : xInS (.str (tx [c])) (.str (tx l)) H Q := w_inS (z := tx l) (by rw [tx_list]; exact q)
theorem w_ninX (q : Q (.bl (!decide (c ∈ l))) H) : xNinS (.str (tx [c])) (.str (tx l)) H Q := w_ninS (z := tx l) (by rw [tx_list]; exact q)
theorem w_leX (q : Q (.bl (!decide (m < l))) H) : xLeS (.str (tx l)) (.str (tx m)) H Q := w_leS (by rw [tx_list, tx_list]; exact q)
theorem w_ixX {i : Int} (h : l.length ≤ 1000000) (j : Nat) (e : i = j) (hc : l[j]? = some c) (q : Q (.str (tx [c])) H) : rIxS (.str (tx l)) (.int i) H Q := w_ixS (by rw [tx_len]; exact sz_le h) (by rw [tx_list, e]; exact atI_nat hc) q
theorem w_ixX0 (h : l.length ≤ 1000000) (hc : l[0]? = some c) (q : Q (.str (tx [c])) H) : rIxS (.str (tx l)) (.int 0) H Q := w_ixX h 0 rfl hc q
theorem w_ixX1 (h : l.length ≤ 1000000) (hc : l[1]? = some c) (q : Q (.str (tx [c])) H) : rIxS (.str (tx l)) (.int 1) H Q := w_ixX h 1 rfl hc q
theorem w_ixXn {j : Nat} (h : l.length ≤ 1000000) (hc : l[j]? = some c) (q : Q (.str (tx [c])) H) : rIxS (.str (tx l)) (.int (j : Nat)) H Q := w_ixX h j rfl hc q
theorem w_ixXz {j : Nat} (h : l.length ≤ 1000000) (hc : l[j]? = some c) (q : Q (.str (tx [c])) H) : rIxS (.str (tx l)) (.int (0 + (j : Nat))) H Q := w_ixX h j (Int.zero_add _) hc q
theorem w_slX {a b : Int} (h : l.length ≤ 1000000) (ha : 0 ≤ a) (hb : 0 ≤ b) (q : Q (.str (tx (cut l a.toNat b.toNat))) H) : rSlS (.str (tx l)) (some a) (some b) H Q := w_slS (by rw [tx_len]; exact sz_le h) (by rw [tx_cut ha hb]; exact q)
theorem w_slXR {b : Int} (h : l.length ≤ 1000000) (hb : 0 ≤ b) (q : Q (.str (tx (l.take b.toNat))) H) : rSlS (.str (tx l)) none (some b) H Q := w_slS (by rw [tx_len]; exact sz_le h) (by rw [tx_cutR hb]; exact q)
theorem w_slXL {a : Int} (h : l.length ≤ 1000000) (ha : 0 ≤ a) (q : Q (.str (tx (l.drop a.toNat))) H) : rSlS (.str (tx l)) (some a) none H Q := w_slS (by rw [tx_len]; exact sz_le h) (by rw [tx_cutL ha]; exact q)
end
/-! ### loops -/
/-- what a for asks of its walk -/
def ForJ (J : It) (g : TG) (tb : TS) (D : Ends) (σ : St) (H : Hp) : Prop := ∃ W : Nat → Nat → St → Hp → Prop, (∃ m, W 0 m σ H) ∧ ∀ i m σ H, W i m σ H →
  (J.stop i H ∧ D.nx σ H) ∨ (J.go i H ∧ ∃ N : St → Hp → Prop, (∀ σ' H', N σ' H' → ∃ m', m' < m ∧ W (i + 1) m' σ' H') ∧ ∀ x H', J.yld i H x H' → g x σ H' fun σ2 H2 => tb { D with nx := N, ct := N, bk := D.nx } σ2 H2)
theorem w_for {wi : TI} {g : TG} {tb : TS} {D : Ends} {σ : St} {H : Hp} (h : wi σ H fun J H1 => ForJ J g tb D σ H1) : tFor wi g tb D σ H := h
theorem forJ {J : It} {g : TG} {tb : TS} {N B C' : St → Hp → Prop} {R : VK} {σ : St} {H : Hp} (n : Nat) (Pv : Nat → St → Hp → Prop) (h0 : Pv 0 σ H) (hst : ∀ σ H, Pv n σ H → J.stop n H) (hgo : ∀ i σ H, i < n → Pv i σ H → J.go i H)
    (hs : ∀ i σ H x H', i < n → Pv i σ H → J.yld i H x H' → g x σ H' fun σ2 H2 => tb ⟨Pv (i + 1), R, N, Pv (i + 1)⟩ σ2 H2) (hd : ∀ σ H, Pv n σ H → N σ H) : ForJ J g tb ⟨N, R, B, C'⟩ σ H := by
  refine ⟨fun i m σ H => m = n - i ∧ i ≤ n ∧ Pv i σ H, ⟨n, by simp, Nat.zero_le _, h0⟩, ?_⟩
  rintro i m σ H ⟨rfl, hi, p⟩
  by_cases hlt : i < n
  · exact .inr ⟨hgo i σ H hlt p, Pv (i + 1), fun σ' H' p' => ⟨n - (i + 1), by omega, rfl, hlt, p'⟩, fun x H' y => hs i σ H x H' hlt p y⟩
  · have e : i = n := by omega
    subst e
    exact .inl ⟨hst σ H p, hd σ H p⟩
section
variable {K : PySem.W.Frag} {g : TG} {tb : TS} {N B C' : St → Hp → Prop} {R : VK} {σ : St} {H : Hp}
theorem forL {a : Addr} {α : Type} {f : α → V} {l : List α} (Pv : Nat → St → Hp → Prop) (h0 : Pv 0 σ H) (hl : ∀ i σ H, Pv i σ H → SqL K H a (l.map f))
    (hs : ∀ i y σ H, l[i]? = some y → Pv i σ H → g (f y) σ H fun σ2 H2 => tb ⟨Pv (i + 1), R, N, Pv (i + 1)⟩ σ2 H2) (hd : ∀ σ H, Pv l.length σ H → N σ H) : ForJ (Itl K a) g tb ⟨N, R, B, C'⟩ σ H := by
  refine forJ l.length Pv h0 (fun σ H p => ⟨_, hl _ σ H p, by rw [List.length_map]; exact Nat.le_refl _⟩) (fun i σ H hi p => ⟨_, f l[i], hl _ σ H p, by rw [List.getElem?_map, List.getElem?_eq_getElem hi]; rfl⟩) (fun i σ H x H' hi p y => ?_) hd
  obtain ⟨rfl, y⟩ := y
  have e := y _ (hl _ σ _ p)
  rw [List.getElem?_map, List.getElem?_eq_getElem hi] at e
  have e2 : x = f l[i] := (Option.some.inj e).symm
  rw [e2]
  exact hs i l[i] σ _ (List.getElem?_eq_getElem hi) p
theorem forR {lo : Int} {n : Nat} (Pv : Nat → St → Hp → Prop) (h0 : Pv 0 σ H) (hs : ∀ i σ H, i < n → Pv i σ H → g (.int (lo + i)) σ H fun σ2 H2 => tb ⟨Pv (i + 1), R, N, Pv (i + 1)⟩ σ2 H2) (hd : ∀ σ H, Pv n σ H → N σ H) :
    ForJ (Itr lo n) g tb ⟨N, R, B, C'⟩ σ H := by
  refine forJ n Pv h0 (fun σ H p => Nat.le_refl n) (fun i σ H hi p => hi) (fun i σ H x H' hi p y => ?_) hd
  obtain ⟨rfl, rfl⟩ := y
  exact hs i σ _ hi p
theorem forX {l : List Nat} (Pv : Nat → St → Hp → Prop) (h0 : Pv 0 σ H) (hs : ∀ i c σ H, l[i]? = some c → Pv i σ H → g (.str (tx [c])) σ H fun σ2 H2 => tb ⟨Pv (i + 1), R, N, Pv (i + 1)⟩ σ2 H2) (hd : ∀ σ H, Pv l.length σ H → N σ H) :
    ForJ (Its (tx l)) g tb ⟨N, R, B, C'⟩ σ H := by
  have hz : (tx l).cps.size = l.length := by simp [tx]
  refine forJ l.length Pv h0 (fun σ H p => by show (tx l).cps.size ≤ l.length; omega) (fun i σ H hi p => by show i < (tx l).cps.size; omega) (fun i σ H x H' hi p y => ?_) hd
  obtain ⟨rfl, c, hc, rfl⟩ := y
  refine hs i c σ _ ?_ p
  rw [← tx_list l, Array.getElem?_toList]
  exact hc
theorem forEX {l : List Nat} (Pv : Nat → St → Hp → Prop) (h0 : Pv 0 σ H)
    (hs : ∀ i c σ H p, l[i]? = some c → Pv i σ H → H p = none → g (.ref p) σ (upd H p (.tup [.int (i : Nat), .str (tx [c])])) fun σ2 H2 => tb ⟨Pv (i + 1), R, N, Pv (i + 1)⟩ σ2 H2) (hd : ∀ σ H, Pv l.length σ H → N σ H) :
    ForJ (ItEs (tx l)) g tb ⟨N, R, B, C'⟩ σ H := by
  have hz : (tx l).cps.size = l.length := by simp [tx]
  refine forJ l.length Pv h0 (fun σ H p => by show (tx l).cps.size ≤ l.length; omega) (fun i σ H hi p => by show i < (tx l).cps.size; omega) (fun i σ H x H' hi p y => ?_) hd
  obtain ⟨T, c, rfl, hT, rfl, hc⟩ := y
  refine hs i c σ _ T ?_ p hT
  rw [← tx_list l, Array.getElem?_toList]
  exact hc
theorem forE {a : Addr} {α : Type} {f : α → V} {l : List α} (Pv : Nat → St → Hp → Prop) (h0 : Pv 0 σ H) (hl : ∀ i σ H, Pv i σ H → SqL K H a (l.map f))
    (hs : ∀ i y σ H p, l[i]? = some y → Pv i σ H → H p = none → g (.ref p) σ (upd H p (.tup [.int (i : Nat), f y])) fun σ2 H2 => tb ⟨Pv (i + 1), R, N, Pv (i + 1)⟩ σ2 H2) (hd : ∀ σ H, Pv l.length σ H → N σ H) :
    ForJ (Ite K a) g tb ⟨N, R, B, C'⟩ σ H := by
  refine forJ l.length Pv h0 (fun σ H p => ⟨_, hl _ σ H p, by rw [List.length_map]; exact Nat.le_refl _⟩) (fun i σ H hi p => ⟨_, f l[i], hl _ σ H p, by rw [List.getElem?_map, List.getElem?_eq_getElem hi]; rfl⟩) (fun i σ H x H' hi p y => ?_) hd
  obtain ⟨T, z, rfl, hT, rfl, y⟩ := y
  have e := y _ (hl _ σ _ p)
  rw [List.getElem?_map, List.getElem?_eq_getElem hi] at e
  have e2 : z = f l[i] := (Option.some.inj e).symm
  rw [e2]
  exact hs i l[i] σ _ T (List.getElem?_eq_getElem hi) p hT
/-- the keys of a dict that is locked -/
theorem forK {d : Addr} {o : Obj} {kvs : List (Key × V)} (Pv : Nat → St → Hp → Prop) (h0 : Pv 0 σ H) (hl : ∀ i σ H, Pv i σ H → H d = some (.frz o (.dK kvs)))
    (hs : ∀ i k v σ H, kvs[i]? = some (k, v) → Pv i σ H → g (kV k) σ H fun σ2 H2 => tb ⟨Pv (i + 1), R, N, Pv (i + 1)⟩ σ2 H2) (hd : ∀ σ H, Pv kvs.length σ H → N σ H) : ForJ (Itk d o kvs) g tb ⟨N, R, B, C'⟩ σ H := by
  refine forJ kvs.length Pv h0 (fun σ H p => ⟨hl _ σ H p, Nat.le_refl _⟩) (fun i σ H hi p => ⟨hl _ σ H p, hi⟩) (fun i σ H x H' hi p y => ?_) hd
  obtain ⟨rfl, k, v, e, rfl⟩ := y
  exact hs i k v σ _ e p
variable {Ri : It → Hp → Prop} {te : TE} {ta : TA}
theorem w_iL (h : te σ H fun x H1 => ∃ a, x = .ref a ∧ (∃ xs, SqL K H1 a xs) ∧ Ri (Itl K a) H1) : iList K te σ H Ri := h
theorem w_iS (h : te σ H fun v H1 => ∃ x, v = .str x ∧ Ri (Its x) H1) : iStr te σ H Ri := h
theorem w_iR1 (h : ta σ H fun vs H1 => ∃ j : Int, vs = [.int j] ∧ -(2 ^ 62) ≤ j ∧ j < 2 ^ 62 ∧ Ri (Itr 0 j.toNat) H1) : iRng1 ta σ H Ri := h
theorem w_iE (h : ta σ H fun vs H1 => ∃ a xs, vs = [.ref a] ∧ SqL K H1 a xs ∧ Ri (Ite K a) H1) : iEnum K ta σ H Ri := h
theorem w_iEs (h : ta σ H fun vs H1 => ∃ x, vs = [.str x] ∧ Ri (ItEs x) H1) : iEnumS ta σ H Ri := h
theorem w_ref {P : Addr → Prop} {a : Addr} (q : P a) : ∃ b, V.ref a = .ref b ∧ P b := ⟨a, rfl, q⟩
theorem w_str {P : Str → Prop} {s : Str} (q : P s) : ∃ x, V.str s = .str x ∧ P x := ⟨s, rfl, q⟩
theorem w_str1 {P : Str → Prop} {s : Str} (q : P s) : ∃ x, [V.str s] = [.str x] ∧ P x := ⟨s, rfl, q⟩
theorem w_int1v {P : Int → Prop} {i : Int} (q : P i) : ∃ j : Int, [V.int i] = [.int j] ∧ P j := ⟨i, rfl, q⟩
theorem w_gtup {n : Nat} {t : TGs} {a : Addr} {xs : List V} {Q : St → Hp → Prop} (h : SqT K H a xs) (hl : xs.length = n) (q : t xs σ H Q) : gTup K n t (.ref a) σ H Q := ⟨a, xs, rfl, h, hl, q⟩
theorem w_gcons {t : TG} {u : TGs} {v : V} {r : List V} {Q : St → Hp → Prop} (q : t v σ H fun σ' H' => u r σ' H' Q) : gCons t u (v :: r) σ H Q := ⟨v, r, rfl, q⟩
theorem w_gnil {Q : St → Hp → Prop} (q : Q σ H) : gNil [] σ H Q := ⟨rfl, q⟩
end
/-! ### comprehensions -/
def LcJ (J : It) (g : TG) (tt : TT) (te : TE) (vs : List Nat) (σ : St) (D : Addr) (H1 : Hp) (Q : VK) : Prop := ∃ W : Nat → Nat → Hp → Prop, (∃ m, W 0 m (upd H1 D (.lst []))) ∧ ∀ i m H, W i m H →
  (J.stop i H ∧ Q (.ref D) H) ∨ (J.go i H ∧ ∃ Nx : Hp → Prop, (∀ H', Nx H' → ∃ m', m' < m ∧ W (i + 1) m' H') ∧ ∀ x H', J.yld i H x H' → g x (wipe σ vs) H' fun σ2 H2 => wipe σ2 vs = wipe σ vs ∧ tt σ2 H2 fun b H3 =>
    if b = true then te σ2 H3 fun y H4 => ∃ acc, H4 D = some (.lst acc) ∧ acc.length < sizeLine ∧ Nx (upd H4 D (.lst (acc ++ [y]))) else Nx H3)
theorem w_lc {wi : TI} {g : TG} {tt : TT} {te : TE} {vs : List Nat} {σ : St} {H : Hp} {Q : VK} (h : wi σ H fun J H1 => ∀ D, H1 D = none → LcJ J g tt te vs σ D H1 Q) : tLc wi g tt te vs σ H Q := h
/-- what a turn of a comprehension is to reach -/
def LcU (D : Addr) (i : Nat) (P : List V → Hp → Prop) (H : Hp) : Prop := ∃ acc, acc.length ≤ i + 1 ∧ H D = some (.lst acc) ∧ P acc H
def LcT (D : Addr) (i : Nat) (P : List V → Hp → Prop) (v : V) (H : Hp) : Prop := ∃ acc, H D = some (.lst acc) ∧ acc.length < sizeLine ∧ LcU D i P (upd H D (.lst (acc ++ [v])))
theorem LcT.mk {D : Addr} {i : Nat} {P : List V → Hp → Prop} {v : V} {H : Hp} {acc : List V} (h : H D = some (.lst acc)) (hl : acc.length ≤ i) (hi : i < 1000000) (p : P (acc ++ [v]) (upd H D (.lst (acc ++ [v])))) : LcT D i P v H :=
  ⟨acc, h, sz_lt1 (by omega), acc ++ [v], by rw [List.length_append, List.length_singleton]; omega, upd_same, p⟩
theorem lcJ {J : It} {g : TG} {tt : TT} {te : TE} {vs : List Nat} {σ : St} {D : Addr} {H1 : Hp} {Q : VK} (n : Nat) (hn : n ≤ 1000000) (Pv : Nat → List V → Hp → Prop) (h0 : Pv 0 [] (upd H1 D (.lst [])))
    (hst : ∀ acc H, H D = some (.lst acc) → Pv n acc H → J.stop n H) (hgo : ∀ i acc H, i < n → H D = some (.lst acc) → Pv i acc H → J.go i H)
    (hs : ∀ i acc H x H', i < n → i < 1000000 → acc.length ≤ i → H D = some (.lst acc) → Pv i acc H → J.yld i H x H' → g x (wipe σ vs) H' fun σ2 H2 => wipe σ2 vs = wipe σ vs ∧ tt σ2 H2 fun b H3 =>
      if b = true then te σ2 H3 fun v H4 => LcT D i (Pv (i + 1)) v H4 else LcU D i (Pv (i + 1)) H3)
    (hd : ∀ acc H, H D = some (.lst acc) → Pv n acc H → Q (.ref D) H) : LcJ J g tt te vs σ D H1 Q := by
  refine ⟨fun i m H => m = n - i ∧ i ≤ n ∧ ∃ acc, acc.length ≤ i ∧ H D = some (.lst acc) ∧ Pv i acc H, ⟨n, by simp, Nat.zero_le _, [], Nat.le_refl _, upd_same, h0⟩, ?_⟩
  rintro i m H ⟨rfl, hi, acc, hl, hD, p⟩
  by_cases hlt : i < n
  · exact .inr ⟨hgo i acc H hlt hD p, LcU D i (Pv (i + 1)), fun H' ⟨acc, a, b, c⟩ => ⟨n - (i + 1), by omega, rfl, hlt, acc, a, b, c⟩, fun x H' y => hs i acc H x H' hlt (by omega) hl hD p y⟩
  · have e : i = n := by omega
    subst e
    exact .inl ⟨hst acc H hD p, hd acc H hD p⟩
section
variable {K : PySem.W.Frag} {g : TG} {tt : TT} {te : TE} {vs : List Nat} {σ : St} {D : Addr} {H1 : Hp} {Q : VK}
theorem lcL {a : Addr} {α : Type} {f : α → V} {l : List α} (hn : l.length ≤ 1000000) (Pv : Nat → List V → Hp → Prop) (h0 : Pv 0 [] (upd H1 D (.lst []))) (hl : ∀ i acc H, H D = some (.lst acc) → Pv i acc H → SqL K H a (l.map f))
    (hs : ∀ i y acc H, l[i]? = some y → i < 1000000 → acc.length ≤ i → H D = some (.lst acc) → Pv i acc H → g (f y) (wipe σ vs) H fun σ2 H2 => wipe σ2 vs = wipe σ vs ∧ tt σ2 H2 fun b H3 =>
      if b = true then te σ2 H3 fun v H4 => LcT D i (Pv (i + 1)) v H4 else LcU D i (Pv (i + 1)) H3)
    (hd : ∀ acc H, H D = some (.lst acc) → Pv l.length acc H → Q (.ref D) H) : LcJ (Itl K a) g tt te vs σ D H1 Q := by
  refine lcJ l.length hn Pv h0 (fun acc H hD p => ⟨_, hl _ _ H hD p, by rw [List.length_map]; exact Nat.le_refl _⟩) (fun i acc H hi hD p => ⟨_, f l[i], hl _ _ H hD p, by rw [List.getElem?_map, List.getElem?_eq_getElem hi]; rfl⟩) (fun i acc H x H' hi hm hz hD p y => ?_) hd
  obtain ⟨rfl, y⟩ := y
  have e := y _ (hl _ _ _ hD p)
  rw [List.getElem?_map, List.getElem?_eq_getElem hi] at e
  have e2 : x = f l[i] := (Option.some.inj e).symm
  rw [e2]
  exact hs i l[i] acc _ (List.getElem?_eq_getElem hi) hm hz hD p
theorem lcR {lo : Int} {n : Nat} (hn : n ≤ 1000000) (Pv : Nat → List V → Hp → Prop) (h0 : Pv 0 [] (upd H1 D (.lst [])))
    (hs : ∀ i acc H, i < n → acc.length ≤ i → H D = some (.lst acc) → Pv i acc H → g (.int (lo + i)) (wipe σ vs) H fun σ2 H2 => wipe σ2 vs = wipe σ vs ∧ tt σ2 H2 fun b H3 =>
      if b = true then te σ2 H3 fun v H4 => LcT D i (Pv (i + 1)) v H4 else LcU D i (Pv (i + 1)) H3)
    (hd : ∀ acc H, H D = some (.lst acc) → Pv n acc H → Q (.ref D) H) : LcJ (Itr lo n) g tt te vs σ D H1 Q := by
  refine lcJ n hn Pv h0 (fun acc H hD p => Nat.le_refl n) (fun i acc H hi hD p => hi) (fun i acc H x H' hi hm hz hD p y => ?_) hd
  obtain ⟨rfl, rfl⟩ := y
  exact hs i acc _ hi hz hD p
end
theorem w_yes {σ : St} {H : Hp} {Q : Bool → Hp → Prop} (q : Q true H) : tYes σ H Q := q
theorem Same.put {H H' : Hp} {d : Addr} {o : HO} (s : Same H H') (h : H d = Option.none) : Same H (upd H' d o) := fun c u e => by
  rw [upd_ne (ne_of_none e h)]
  exact s _ _ e
section
variable {K : PySem.W.Frag} {σ : St} {H : Hp} {Q : VK} {te tv : TE} {f : Str} {N B C' : St → Hp → Prop} {R : VK}
theorem w_tfld (h : te σ H fun x H1 => ∃ a C dx fs v, x = .ref a ∧ H1 a = some (.ins C dx fs) ∧ Cls K C ∧ NoAttr K C f ∧ fs.lookup f = some v ∧ Q v H1) : tFld K te f σ H Q := h
theorem w_fldE {P : V → Prop} {a C dx : Addr} {fs : List (Str × V)} {v : V} (ho : H a = some (.ins C dx fs)) (hc : Cls K C) (hn : NoAttr K C f) (hl : fs.lookup f = some v) (q : P v) : ∃ b C dx fs v, V.ref a = .ref b ∧ H b = some (.ins C dx fs) ∧ Cls K C ∧ NoAttr K C f ∧ fs.lookup f = some v ∧ P v :=
  ⟨a, C, dx, fs, v, rfl, ho, hc, hn, hl, q⟩
theorem w_sfld (h : tv σ H fun y H1 => te σ H1 fun x H2 => ∃ a C dx fs, x = .ref a ∧ H2 a = some (.ins C dx fs) ∧ Cls K C ∧ NoAttr K C f ∧ fs.length < 1000 ∧ N σ (upd H2 a (.ins C dx (putF f y fs)))) : sFld K te tv f ⟨N, R, B, C'⟩ σ H := h
theorem w_sfldE {P : Hp → Prop} {a C dx : Addr} {fs : List (Str × V)} {y : V} (ho : H a = some (.ins C dx fs)) (hc : Cls K C) (hn : NoAttr K C f) (hl : fs.length < 1000) (q : P (upd H a (.ins C dx (putF f y fs)))) : ∃ b C dx fs, V.ref a = .ref b ∧ H b = some (.ins C dx fs) ∧ Cls K C ∧ NoAttr K C f ∧ fs.length < 1000 ∧ P (upd H b (.ins C dx (putF f y fs))) :=
  ⟨a, C, dx, fs, rfl, ho, hc, hn, hl, q⟩
theorem w_dnew (h : ∀ p, H p = Option.none → Q (.ref p) (upd H p (.dK []))) : tDNewK σ H Q := h
theorem w_dictD {p : Addr} {kvs : List (Key × V)} (h : H p = some (.dK kvs)) (q : ∀ l, H l = Option.none → Q (.ref l) (upd H l (.dK kvs))) : xDictD [.ref p] H Q := ⟨p, kvs, rfl, .inl h, q⟩
end
theorem w_seqP {σ : St} {H : Hp} {t u : TS} {N B C' : St → Hp → Prop} {R : VK} (P : St → Hp → Prop) (h1 : ∀ U : St → Hp → Prop, (∀ σ H, P σ H → U σ H) → t ⟨U, R, B, C'⟩ σ H) (h2 : ∀ σ H, P σ H → u ⟨N, R, B, C'⟩ σ H) : tSeq t u ⟨N, R, B, C'⟩ σ H := h1 _ h2
section
variable {K : PySem.W.Frag} {σ : St} {H : Hp} {Q : VK}
theorem w_bm {T : String} {r : V → List V → Hp → VK → Prop} {to : TE} {t : TA} (h : to σ H fun x H1 => tyV K T x H1 ∧ t σ H1 fun xs H2 => r x xs H2 Q) : tBM K T r to t σ H Q := h
theorem w_bm0 {T : String} {r : V → List V → Hp → VK → Prop} {to : TE} (h : to σ H fun x H1 => tyV K T x H1 ∧ r x [] H1 Q) : tBM0 K T r to σ H Q := h
theorem w_tyL {B : Prop} {a : Addr} {xs : List V} (h : SqL K H a xs) (q : B) : tyV K "list" (.ref a) H ∧ B := ⟨.inl ⟨rfl, xs, h⟩, q⟩
theorem w_tyD {B : Prop} {a : Addr} {xs : List (Key × V)} (h : H a = some (.dK xs)) (q : B) : tyV K "dict" (.ref a) H ∧ B := ⟨.inr (.inr (.inl ⟨rfl, .inl ⟨xs, h⟩⟩)), q⟩
theorem w_tyS {B : Prop} {s : Str} (q : B) : tyV K "str" (.str s) H ∧ B := ⟨rfl, q⟩
theorem w_app {l : Addr} {xs : List V} {y : V} (h : H l = some (.lst xs)) (hl : xs.length < 1000000) (q : Q .non (upd H l (.lst (xs ++ [y])))) : rAppend (.ref l) [y] H Q := ⟨l, xs, y, rfl, rfl, h, sz_lt1 hl, q⟩
end
theorem w_dgS {H : Hp} {P : V → Prop} {a : Addr} {kvs : List (Key × V)} {k : Str} {v : V} (h : H a = some (.dK kvs)) (e : valV kvs (Sum.inr k) = some v) (q : P v) : ∃ b v, V.ref a = .ref b ∧ DGet H b (.str k) (some v) ∧ P v := ⟨a, v, rfl, by rw [← e]; exact dget_s h, q⟩
theorem w_dhS {H : Hp} {P : Bool → Prop} {a : Addr} {kvs : List (Key × V)} {k : Str} (h : H a = some (.dK kvs)) (q : P (valV kvs (Sum.inr k)).isSome) : ∃ b o, V.ref a = .ref b ∧ DGet H b (.str k) o ∧ P o.isSome := ⟨a, _, rfl, dget_s h, q⟩
theorem w_dpS {H : Hp} {P : Hp → Prop} {a : Addr} {kvs : List (Key × V)} {k : Str} {v : V} (h : H a = some (.dK kvs)) (hl : kvs.length < 1000000) (q : P (upd H a (.dK (putK kvs (Sum.inr k) v)))) : ∃ b H', V.ref a = .ref b ∧ DPut H b (.str k) v H' ∧ P H' := ⟨a, _, rfl, dput_s h (sz_lt1 hl), q⟩
theorem w_if0 {c : Bool} {A B : Prop} (h : c = false) (q : B) : if c = true then A else B := by rw [if_neg (by simp [h])]; exact q
theorem w_if1 {c : Bool} {A B : Prop} (h : c = true) (q : A) : if c = true then A else B := by rw [if_pos h]; exact q
theorem w_ite1 {A B : Prop} (h : A) : if true = true then A else B := by rw [if_pos rfl]; exact h
theorem Fr.drop {D : Addr} {l : List Addr} {H H' : Hp} (f : Fr (D :: l) H H') (h : H D = Option.none) : Fr l H H' := fun b o n e => f b o (fun z => by
  rcases List.mem_cons.mp z with z | z
  · rw [z, h] at e
    cases e
  · exact n z) e
theorem w_new {n : Nat} {B : Prop} (h : n ≤ 1000000) (q : B) : n ≤ sizeLine ∧ B := ⟨sz_le h, q⟩
end L2

set_option maxHeartbeats 4000000
/-! The two drawing helpers that every law brings: their readings and what they do. -/
namespace L2
open PySem PySem.Spec PyProof.Rows
local macro_rules | `(tactic| walk_at "fd") => `(tactic| first | assumption | exact SqL.of (by assumption) | exact SqT.of (by assumption) | exact SqL.of upd_same | exact SqT.of upd_same)
local macro_rules | `(tactic| walk_at "pur") => `(tactic| (intros; (repeat walk_at "w"); first | assumption | (rename_i q; exact q)))
local macro_rules | `(tactic| walk_at "w") => `(tactic| first
  | (with_reducible refine w_seq ?_) | (with_reducible refine w_asg ?_) | ((with_reducible refine w_name ?_); dsimp only [List.set_cons_zero, List.set_cons_succ]) | (with_reducible refine w_ret ?_) | (with_reducible refine w_retN ?_)
  | (with_reducible refine w_drop ?_) | (with_reducible refine w_if ?_) | (with_reducible refine w_next ?_) | (with_reducible refine w_brk ?_) | (with_reducible refine w_cont ?_)
  | ((with_reducible refine' w_var ?hv ?_); (case hv => rfl)) | (with_reducible refine w_c ?_) | (with_reducible refine w_op ?_) | (with_reducible refine w_cb ?_) | (with_reducible refine w_cons ?_) | (with_reducible refine w_nil ?_)
  | (with_reducible refine w_add ?_) | (with_reducible refine w_sub ?_) | (with_reducible refine w_lt ?_) | (with_reducible refine w_le ?_) | (with_reducible refine w_gt ?_) | (with_reducible refine w_ge ?_)
  | (with_reducible refine w_eqI ?_) | (with_reducible refine w_neI ?_) | (with_reducible refine w_int1 ?_) | (with_reducible refine w_abs ?_) | (with_reducible refine w_max2 ?_) | (with_reducible refine w_min2 ?_)
  | (with_reducible refine w_test ?_) | (with_reducible refine w_b ?_) | (with_reducible refine w_bl ?_) | (with_reducible refine w_in ?_)
  | ((with_reducible refine' w_and2 ?h1 ?h2 ?_); (case h1 => walk_at "pur"); (case h2 => walk_at "pur")) | ((with_reducible refine' w_or2 ?h1 ?h2 ?_); (case h1 => walk_at "pur"); (case h2 => walk_at "pur"))
  | ((with_reducible refine' w_andV2 ?h1 ?h2 ?_); (case h1 => walk_at "pur"); (case h2 => walk_at "pur")) | ((with_reducible refine' w_orV2 ?h1 ?h2 ?_); (case h1 => walk_at "pur"); (case h2 => walk_at "pur"))
  | (with_reducible refine w_and ?_) | (with_reducible refine w_or ?_) | (with_reducible refine w_not ?_)
  | (with_reducible refine w_andV ?_) | (with_reducible refine w_orV ?_) | (with_reducible refine w_notV ?_) | (with_reducible refine w_ifE ?_) | (with_reducible refine w_gsub ?_)
  | (with_reducible refine w_sl ?_) | (with_reducible refine w_pt ?_) | (with_reducible refine w_npt ?_) | (with_reducible refine w_tup ?_) | (with_reducible refine w_lst ?_)
  | ((with_reducible refine' w_new ?h1 ?_); (case h1 => exact Nat.le_of_ble_eq_true rfl)) | (with_reducible refine w_yes ?_) | (with_reducible refine w_ite1 ?_)
  | (with_reducible refine w_addX (by first | (simp only [List.length_append, List.length_cons, List.length_nil]; omega) | omega) ?_) | (with_reducible refine w_lenX (by omega) ?_) | (with_reducible refine w_eqX ?_) | (with_reducible refine w_neX ?_) | (with_reducible refine w_inX ?_) | (with_reducible refine w_ninX ?_) | (with_reducible refine w_leX ?_)
  | (with_reducible refine w_for ?_) | (with_reducible refine w_iL ?_) | (with_reducible refine w_iS ?_) | (with_reducible refine w_iR1 ?_) | (with_reducible refine w_iE ?_) | (with_reducible refine w_iEs ?_) | (with_reducible refine w_ref ?_) | (with_reducible refine w_str ?_) | (with_reducible refine w_str1 ?_) | (with_reducible refine w_int1v ?_)
  | (with_reducible refine w_gcons ?_) | (with_reducible refine w_gnil ?_) | ((with_reducible refine' w_gtup ?h1 ?h2 ?_); (case h1 => walk_at "fd"); (case h2 => rfl)) | (with_reducible refine w_lc ?_) | (with_reducible refine w_call ?_) | (with_reducible refine w_dget ?_) | (with_reducible refine w_din ?_) | (with_reducible refine w_dnin ?_) | (with_reducible refine w_dput ?_)
  | ((with_reducible refine' w_ixL ?h1 ?h2 ?_); (case h1 => walk_at "fd"); (case h2 => rfl))
  | ((with_reducible refine' w_ixT ?h1 ?h2 ?_); (case h1 => walk_at "fd"); (case h2 => rfl))
  | ((with_reducible refine' w_mod ?hc ?_); (case hc => first | omega | decide)) | ((with_reducible refine' w_div ?hc ?_); (case hc => exact ⟨by omega, by omega⟩)) | ((with_reducible refine' w_pow ?hc ?_); (case hc => exact ⟨by decide, by decide, by decide⟩))
  | ((with_reducible refine' w_mul ?hc ?_); (case hc => first | exact Or.inl ⟨by omega, by omega⟩ | exact Or.inr ⟨by omega, by omega⟩))
  | ((with_reducible refine' w_lenM ?h1 ?_); (case h1 => walk_at "fd")) | ((with_reducible refine' w_lenL ?h1 ?_); (case h1 => walk_at "fd"))
  | (with_reducible refine w_eqS ?_) | (with_reducible refine w_neS ?_)
  | ((with_reducible refine' w_lenT ?h1 ?_); (case h1 => walk_at "fd"))
  | ((with_reducible refine' w_setL ?h1 ?h2 ?_); (case h1 => first | assumption | exact upd_same); (case h2 => rfl); dsimp only [Int.reduceToNat, List.set_cons_zero, List.set_cons_succ]))
abbrev N_dstart : List Str := ["script", "cells", "cell"]
def t_dstart (K : PySem.W.Frag) : TS :=
  (tSeq (tAsg (tLc (iList K (tVar 0)) (gName 2) tYes (tCB xAbs (tCons (tVar 2) tNil)) [2]) (gName 1))
    (tSeq (tIfS (tTest (tOp rEq (tCB (xLenQ K) (tCons (tVar 1) tNil)) (tC (.int 0)))) (tAsg (tLst (tCons (tC (.int 0)) tNil)) (gName 1)) tNext)
    (tRet (tLst (tCons (tVar 1) (tCons (tC (.int 0)) (tCons (tC (.int 0)) (tCons (tC (.int 0)) tNil))))))))
theorem start_dstart (a0 : V) : start N_dstart [a0] = [some a0, none, none] := rfl

abbrev N_dnext : List Str := ["state", "many", "cells", "cell", "turn", "mixed", "told"]
def t_dnext (K : PySem.W.Frag) : TS :=
  (tSeq (tAsg (tOp (rIxL K) (tVar 0) (tC (.int 0))) (gName 2))
    (tSeq (tAsg (tOp (rIxL K) (tVar 2) (tOp xMod (tCB xInt1 (tCons (tOp (rIxL K) (tVar 0) (tC (.int 1))) tNil)) (tCB (xLenQ K) (tCons (tVar 2) tNil)))) (gName 3))
    (tSeq (tIfS (tAnd (tTest (tOp xGe (tVar 3) (tOp xPow (tC (.int 10)) (tC (.int 18))))) (tTest (tOp xLt (tOp (rIxL K) (tVar 0) (tC (.int 1))) (tCB (xLenQ K) (tCons (tVar 2) tNil))))) (tSeq (tIfS (tTest (tOp rEq (tOp (rIxL K) (tVar 0) (tC (.int 3))) (tC (.int 0)))) (tAsg (tVar 3) (gSub (tVar 0) (tC (.int 2)) rSetL)) tNext)
    (tSeq (tAsg (tOp xMod (tCB xInt1 (tCons (tOp (rIxL K) (tVar 0) (tC (.int 2))) tNil)) (tVar 1)) (gName 6))
    (tSeq (tAsg (tOp xDiv (tCB xInt1 (tCons (tOp (rIxL K) (tVar 0) (tC (.int 2))) tNil)) (tVar 1)) (gSub (tVar 0) (tC (.int 2)) rSetL))
    (tSeq (tAsg (tOp xAdd (tOp (rIxL K) (tVar 0) (tC (.int 3))) (tC (.int 1))) (gSub (tVar 0) (tC (.int 3)) rSetL))
    (tSeq (tIfS (tOr (tTest (tOp rEq (tOp (rIxL K) (tVar 0) (tC (.int 2))) (tC (.int 0)))) (tTest (tOp xGe (tOp (rIxL K) (tVar 0) (tC (.int 3))) (tC (.int 60))))) (tSeq (tAsg (tOp xAdd (tOp (rIxL K) (tVar 0) (tC (.int 1))) (tC (.int 1))) (gSub (tVar 0) (tC (.int 1)) rSetL))
    (tAsg (tC (.int 0)) (gSub (tVar 0) (tC (.int 3)) rSetL))) tNext)
    (tRet (tVar 6))))))) tNext)
    (tSeq (tAsg (tOp xAdd (tOp (rIxL K) (tVar 0) (tC (.int 3))) (tOp xMul (tC (.int 7)) (tOp (rIxL K) (tVar 0) (tC (.int 1))))) (gName 4))
    (tSeq (tAsg (tOp xMul (tOp xAdd (tOp xMod (tCB xInt1 (tCons (tVar 3) tNil)) (tC (.int 2147483629))) (tC (.int 1))) (tOp xAdd (tC (.int 48271)) (tOp xMul (tC (.int 2)) (tVar 4)))) (gName 5))
    (tSeq (tAsg (tOp xMod (tCB xInt1 (tCons (tVar 5) tNil)) (tC (.int 2147483647))) (gName 5))
    (tSeq (tAsg (tOp xMod (tCB xInt1 (tCons (tOp xAdd (tOp xAdd (tOp xMul (tVar 5) (tVar 5)) (tOp xMul (tC (.int 69621)) (tVar 4))) (tC (.int 7))) tNil)) (tC (.int 2147483629))) (gName 5))
    (tSeq (tAsg (tOp xAdd (tOp (rIxL K) (tVar 0) (tC (.int 3))) (tC (.int 1))) (gSub (tVar 0) (tC (.int 3)) rSetL))
    (tSeq (tIfS (tTest (tOp xGe (tOp (rIxL K) (tVar 0) (tC (.int 3))) (tC (.int 6)))) (tSeq (tAsg (tOp xAdd (tOp (rIxL K) (tVar 0) (tC (.int 1))) (tC (.int 1))) (gSub (tVar 0) (tC (.int 1)) rSetL))
    (tAsg (tC (.int 0)) (gSub (tVar 0) (tC (.int 3)) rSetL))) tNext)
    (tRet (tOp xMod (tCB xInt1 (tCons (tOp xDiv (tVar 5) (tC (.int 5))) tNil)) (tVar 1))))))))))))
theorem start_dnext (a0 a1 : V) : start N_dnext [a0, a1] = [some a0, some a1, none, none, none, none, none] := rfl

theorem atI_mod {l : List Int} (hne : l ≠ []) (p : Int) : ∃ z, z ∈ l ∧ atI (l.map V.int) (p % (l.length : Int)) = some (.int z) := by
  have hl : 0 < (l.length : Int) := by
    cases l with
    | nil => exact absurd rfl hne
    | cons a r => simp only [List.length_cons]; omega
  have h0 := Int.emod_nonneg p (b := (l.length : Int)) (by omega)
  have h1 := Int.emod_lt_of_pos p hl
  obtain ⟨j, ej⟩ : ∃ j : Nat, p % (l.length : Int) = (j : Int) := ⟨(p % (l.length : Int)).toNat, by omega⟩
  have hj : j < l.length := by omega
  refine ⟨l[j], List.getElem_mem hj, ?_⟩
  rw [ej]
  exact atI_nat (by rw [List.getElem?_map, List.getElem?_eq_getElem hj]; rfl)
theorem pure_dnextC {K : PySem.W.Frag} (vs : List V) (H : Hp) (Q : VK) (E : XK) (h : spNextC vs H Q E) : t_dnext K { nx := fun _ H' => Q .non H', rt := Q } (start N_dnext vs) H := by
  obtain ⟨st, c, many, rfl, h0, h1, ⟨cells, p, t, d, hst, hc, hne⟩, k⟩ := h
  have ne : c ≠ st := ne_of hc hst (by intro z; cases cells with
    | nil => exact hne rfl
    | cons a l => simp at z)
  have hl : 0 < (cells.length : Int) := by
    cases cells with
    | nil => exact absurd rfl hne
    | cons a r => simp only [List.length_cons]; omega
  obtain ⟨z, hz, ez⟩ := atI_mod hne p
  have fin : ∀ (p' t' d' r : Int), 0 ≤ r → r < many → ∀ H', H' st = some (.lst [.ref c, .int p', .int t', .int d']) → (∀ b, b ≠ st → H' b = H b) → Q (.int r) H' := fun p' t' d' r r0 r1 H' e1 e2 =>
    k r H' r0 r1 (fun b o n e => by rw [e2 b (by simpa using n)]; exact e) ⟨cells, p', t', d', e1, by rw [e2 c ne]; exact hc, hne⟩
  rw [start_dnext]
  unfold t_dnext
  repeat walk_at "w"
  refine w_ixL (SqL.of hc) ez ?_
  repeat walk_at "w"
  repeat walk_at "w"
  have mo : ∀ x : Int, 0 ≤ x % many ∧ x % many < many := fun x => ⟨Int.emod_nonneg _ (by omega), Int.emod_lt_of_pos _ h0⟩
  refine w_iteB (fun hA => ?_) (fun hA => ?_)
  · repeat walk_at "w"
    refine w_iteD (fun hd => ?_) (fun hd => ?_)
    all_goals
      repeat walk_at "w"
      refine w_iteB (fun hd => ?_) (fun hd => ?_)
      all_goals
        repeat walk_at "w"
        exact fin _ _ _ _ (mo _).1 (mo _).2 _ (by first | assumption | exact upd_same) (fun b hb => by simp only [upd_ne hb])
  · repeat walk_at "w"
    refine w_iteD (fun hd => ?_) (fun hd => ?_)
    all_goals
      repeat walk_at "w"
      exact fin _ _ _ _ (mo _).1 (mo _).2 _ (by first | assumption | exact upd_same) (fun b hb => by simp only [upd_ne hb])
theorem pure_dnext {K : PySem.W.Frag} (vs : List V) (H : Hp) (Q : VK) (E : XK) (h : spNext vs H Q E) : t_dnext K { nx := fun _ H' => Q .non H', rt := Q } (start N_dnext vs) H := by
  obtain ⟨st, many, e, h0, h1, hst, k⟩ := h
  obtain ⟨c, hc⟩ := hst.c
  exact pure_dnextC vs H Q E ⟨st, c, many, e, h0, h1, hc, fun r H' a b f s => k r H' a b f s.at_⟩
theorem pure_dstart {K : PySem.W.Frag} (vs : List V) (H : Hp) (Q : VK) (E : XK) (h : spStart K vs H Q E) : t_dstart K { nx := fun _ H' => Q .non H', rt := Q } (start N_dstart vs) H := by
  obtain ⟨a, ns, rfl, hS, hlen, k⟩ := h
  have hn : ns.length ≤ 1000000 := by omega
  rw [start_dstart]
  unfold t_dstart
  repeat walk_at "w"
  refine ⟨⟨_, hS⟩, fun D hD => ?_⟩
  -- the cells: absolute values
  refine lcL (l := ns) (f := V.int) hn (fun i acc H' => (∃ ms : List Int, acc = ms.map V.int ∧ ms.length = i) ∧ Same H H') ⟨⟨[], rfl, rfl⟩, Same.new hD⟩ (fun i acc H' _ p => p.2.seq hS) (fun i y acc H' hy hm hz hDa p => ?_) (fun acc H' hDa p => ?_)
  · obtain ⟨⟨ms, rfl, hms⟩, fr⟩ := p
    dsimp only [wipe, List.set_cons_zero, List.set_cons_succ]
    repeat walk_at "w"
    refine ⟨rfl, w_yes (w_ite1 ?_)⟩
    repeat walk_at "w"
    exact LcT.mk hDa hz hm ⟨⟨ms ++ [_], by rw [List.map_append]; rfl, by rw [List.length_append, hms]; rfl⟩, ((Fr.of (l := [D]) fr).trans (Fr.put (by simp))).drop hD |>.same⟩
  · obtain ⟨⟨ms, rfl, hms⟩, fr⟩ := p
    have fin : ∀ (H1 : Hp) (C : Addr) (ms' : List Int) (p : Addr), Same H H1 → H1 C = some (.lst (ms'.map V.int)) → ms' ≠ [] → H1 p = none → Q (.ref p) (upd H1 p (.lst [.ref C, .int 0, .int 0, .int 0])) := fun H1 C ms' p s1 hC ne hp =>
      k _ p (s1.trans (Same.new hp)) (s1.free hp) ⟨C, ms', 0, 0, 0, upd_same, Same.new hp _ _ hC, ne⟩
    repeat walk_at "w"
    refine w_iteD (fun h0 => ?_) (fun h0 => ?_)
    · repeat walk_at "w"
      intro p hp
      repeat walk_at "w"
      exact fun q hq => fin _ p [0] q (fr.trans (Same.new hp)) upd_same (by simp) hq
    · repeat walk_at "w"
      exact fun q hq => fin _ D ms q fr hDa (fun z => h0 (by rw [z]; rfl)) hq
end L2

set_option maxHeartbeats 2000000
/-! list(zip(a, b)) over two lists. -/
namespace ZlX
open PySem PySem.Calls PyProof.Rows PyProof.V PySem.Spec
def St (h : Heap) (z TI TO i1 i2 l1 l2 S : Addr) (xs ys : Array Value) (i : Nat) : Prop :=
  IsPair h TI (.ref i1) (.ref i2) ∧ h.IsListIter i1 l1 i ∧ h.IsListIter i2 l2 i ∧ h.IsList l1 xs ∧ h.IsList l2 ys ∧
  ((IsZip h z TI TO .none ∧ ∃ a b, IsPair h TO a b) ∨ ∃ T f oT, IsZipHeld h z TI TO T f ∧ h.get? T = some oT ∧ T ≠ z ∧ T ≠ i1 ∧ T ≠ i2 ∧ T ≠ S)
/-- S stands apart -/
structure Off (z TI TO i1 i2 l1 l2 S : Addr) : Prop where
  z : z ≠ S
  TI : TI ≠ S
  TO : TO ≠ S
  i1 : i1 ≠ S
  i2 : i2 ≠ S
  l1 : l1 ≠ S
  l2 : l2 ≠ S
theorem St.keep {h h' : Heap} {z TI TO i1 i2 l1 l2 S : Addr} {xs ys : Array Value} {i : Nat} (st : St h z TI TO i1 i2 l1 l2 S xs ys i) (F : Off z TI TO i1 i2 l1 l2 S) (hk : ∀ b o, b ≠ S → h.get? b = some o → h'.get? b = some o) : St h' z TI TO i1 i2 l1 l2 S xs ys i := by
  obtain ⟨hTI, h1, h2, hl1, hl2, hz⟩ := st
  refine ⟨hk _ _ F.TI hTI, h1.at fun o e => hk _ o F.i1 e, h2.at fun o e => hk _ o F.i2 e, hl1.at fun o e => hk _ o F.l1 e, hl2.at fun o e => hk _ o F.l2 e, ?_⟩
  rcases hz with ⟨hz, a, b, hTO⟩ | ⟨T, f, oT, hz, hT, r1, r2, r3, r4⟩
  · exact .inl ⟨hk _ _ F.z hz, a, b, hk _ _ F.TO hTO⟩
  · exact .inr ⟨T, f, oT, hk _ _ F.z hz, hk _ _ r4 hT, r1, r2, r3, r4⟩
section
variable {prog : Program} {w : World} {A : Around} {E : Value → Shared → Prop} {s : Shared} {z TI TO i1 i2 l1 l2 S : Addr} {xs ys : Array Value}
theorem item {i : Nat} {x y : Value} {Q : Option Value → Shared → Prop} (D : ZipApart z TI TO i1 i2 l1 l2) (st : St s.heap z TI TO i1 i2 l1 l2 S xs ys i) (hS : S < s.heap.objs.size) (ex : xs[i]? = some x) (ey : ys[i]? = some y)
    (hQ : ∀ h', St h' z TI TO i1 i2 l1 l2 S xs ys (i + 1) → IsPair h' s.heap.objs.size x y → h'.objs.size = s.heap.objs.size + 1 → (∀ b o, b ≠ z → b ≠ TO → b ≠ i1 → b ≠ i2 → s.heap.get? b = some o → h'.get? b = some o) → Q (some (.ref s.heap.objs.size)) { s with heap := h' }) :
    wpAny (model prog w) A (pyNext (.ref z)) Q E s := by
  obtain ⟨hTI, h1, h2, hl1, hl2, hz⟩ := st
  have lt : ∀ {c o}, s.heap.get? c = some o → s.heap.objs.size ≠ c := fun e => Nat.ne_of_gt (Heap.lt_size e)
  have n1 : s.heap.objs.size ≠ i1 := let ⟨_, e, _⟩ := h1; lt e
  have n2 : s.heap.objs.size ≠ i2 := let ⟨_, e, _⟩ := h2; lt e
  rcases hz with ⟨hz, a, b, hTO⟩ | ⟨T, f, oT, hz, hT, r1, r2, r3, r4⟩
  · refine wpAny_pyNext_zip_item D hz hTI hTO h1 h2 hl1 hl2 ex ey fun h' a1 a2 a3 a4 a5 a6 hk => ?_
    exact hQ h' ⟨hk _ _ D.TIz D.TITO D.TIi1 D.TIi2 hTI, a3, a4, hl1.at fun o e => hk _ o D.l1z D.l1TO D.l1i1 D.l1i2 e, hl2.at fun o e => hk _ o D.l2z D.l2TO D.l2i1 D.l2i2 e,
      .inr ⟨s.heap.objs.size, false, _, a1, a5, lt hz, n1, n2, Nat.ne_of_gt hS⟩⟩ a5 a6 hk
  · refine wpAny_pyNext_zip_item_held D hz hT hTI h1 h2 hl1 hl2 ex ey fun h' a1 a3 a4 a5 a6 hk => ?_
    exact hQ h' ⟨hk _ _ D.TIz D.TIi1 D.TIi2 hTI, a3, a4, hl1.at fun o e => hk _ o D.l1z D.l1i1 D.l1i2 e, hl2.at fun o e => hk _ o D.l2z D.l2i1 D.l2i2 e,
      .inr ⟨T, true, oT, a1, hk _ _ r1 r2 r3 hT, r1, r2, r3, r4⟩⟩ a5 a6 fun b o hb _ hb1 hb2 e => hk b o hb hb1 hb2 e
theorem done {i : Nat} {Q : Option Value → Shared → Prop} (hA : A.handled = none) (D : ZipApart z TI TO i1 i2 l1 l2) (st : St s.heap z TI TO i1 i2 l1 l2 S xs ys i) (hend : xs[i]? = none ∨ ys[i]? = none)
    (hQ : ∀ h', (∀ b o, b ≠ z → b ≠ TO → b ≠ i1 → b ≠ i2 → s.heap.get? b = some o → h'.get? b = some o) → Q none { s with heap := h' }) : wpAny (model prog w) A (pyNext (.ref z)) Q E s := by
  obtain ⟨hTI, h1, h2, hl1, hl2, hz⟩ := st
  rcases hz with ⟨hz, a, b, hTO⟩ | ⟨T, f, oT, hz, hT, r1, r2, r3, r4⟩
  · exact wpAny_pyNext_zip_end hA D hz hTI hTO h1 h2 hl1 hl2 hend hQ
  · exact wpAny_pyNext_zip_end_held hA D hz hT hTI h1 h2 hl1 hl2 hend fun h' hk => hQ h' fun b o hb _ hb1 hb2 e => hk b o hb hb1 hb2 e
end
structure G (xs ys : Array Value) (lo : Addr) (h : Heap) (as : List Addr) : Prop where
  rise : as.Pairwise (· < ·)
  above : ∀ a ∈ as, lo < a
  pairs : ∀ (j : Nat) (a : Addr), as[j]? = some a → ∃ x y, xs[j]? = some x ∧ ys[j]? = some y ∧ IsPair h a x y
theorem G.there {xs ys : Array Value} {lo : Addr} {h : Heap} {as : List Addr} (g : G xs ys lo h as) {a : Addr} (ha : a ∈ as) : a < h.objs.size := by
  obtain ⟨j, hj⟩ := List.mem_iff_getElem?.mp ha
  obtain ⟨_, _, _, _, e⟩ := g.pairs j a hj
  exact Heap.lt_size e
section
variable {prog : Program} {w : World} {A : Around} {s : Shared} {R : Result → Shared → Prop} {z TI TO i1 i2 l1 l2 S : Addr} {xs ys : Array Value}
theorem loop (hh : A.handled = none) (D : ZipApart z TI TO i1 i2 l1 l2) (F : Off z TI TO i1 i2 l1 l2 S) (hlen : xs.size = ys.size) (hn : xs.size ≤ sizeLine) (res : Value) {h₁ : Heap} (low : ∀ a, S < a → a ≠ z ∧ a ≠ TO ∧ a ≠ i1 ∧ a ≠ i2)
    (hR : ∀ h' tk acc c as, (∀ b o, b ≠ S → b ≠ z → b ≠ TO → b ≠ i1 → b ≠ i2 → h₁.get? b = some o → h'.get? b = some o) → h'.get? S = some { cls := .type "list", dict := none, data := .seq acc c, slots := #[] } → as.length = xs.size → G xs ys S h' as →
      acc.toList = as.map Value.ref → R (.ok (.ret res)) { s with heap := h', toks := tk }) :
    ∀ (k i : Nat) (h : Heap) (tk c : Nat) (acc : Array Value) (as : List Addr), xs.size - i = k → i ≤ xs.size → St h z TI TO i1 i2 l1 l2 S xs ys i → (∀ b o, b ≠ S → b ≠ z → b ≠ TO → b ≠ i1 → b ≠ i2 → h₁.get? b = some o → h.get? b = some o) →
      h.get? S = some { cls := .type "list", dict := none, data := .seq acc c, slots := #[] } → acc.toList = as.map Value.ref → as.length = i → G xs ys S h as →
      codeAny (model prog w) A (.builtin "list.extend.loop" ⟨[.ref S, .ref z, res], []⟩) R { s with heap := h, toks := tk } := by
  intro k
  induction k with
  | zero =>
    intro i h tk c acc as hk hi hst hkeep hS hacc hal hG
    have hin : i = xs.size := by omega
    refine codeAny_builtin PySem.F.entry_extend_loop ?_
    rw [Around.under_plainId PySem.F.plain_extend_loop _]
    show wpAny _ A.in1 (pyNext (.ref z) >>= _) _ _ _
    refine wpAny_bind (done (s := { s with heap := h, toks := tk }) (A := A.in1) hh D hst (.inl (Array.getElem?_eq_none (by omega))) fun h' he => ?_)
    refine wpAny_pure (hR h' tk acc c as (fun b o h0 h1 h2 h3 h4 e => he b o h1 h2 h3 h4 (hkeep b o h0 h1 h2 h3 h4 e)) (he S _ F.z.symm F.TO.symm F.i1.symm F.i2.symm hS) (by omega) ⟨hG.rise, hG.above, fun j a hj => ?_⟩ hacc)
    obtain ⟨x, y, e1, e2, e3⟩ := hG.pairs j a hj
    obtain ⟨q1, q2, q3, q4⟩ := low a (hG.above a (List.mem_of_getElem? hj))
    exact ⟨x, y, e1, e2, he a _ q1 q2 q3 q4 e3⟩
  | succ k ih =>
    intro i h tk c acc as hk hi hst hkeep hS hacc hal hG
    have hlt : i < xs.size := by omega
    have hlt2 : i < ys.size := by omega
    have ex := Array.getElem?_eq_getElem hlt
    have ey := Array.getElem?_eq_getElem hlt2
    have hsz : acc.size = i := by rw [← Array.length_toList, hacc, List.length_map, hal]
    refine codeAny_builtin PySem.F.entry_extend_loop ?_
    rw [Around.under_plainId PySem.F.plain_extend_loop _]
    show wpAny _ A.in1 (pyNext (.ref z) >>= _) _ _ _
    have hSl : S < h.objs.size := Heap.lt_size hS
    refine wpAny_bind (item (s := { s with heap := h, toks := tk }) (S := S) D hst hSl ex ey fun h' hst' ht hz hkp => ?_)
    dsimp only at ht hz hkp ⊢
    have hS' := hkp S _ F.z.symm F.TO.symm F.i1.symm F.i2.symm hS
    have up : ∀ b o, b ≠ S → h'.get? b = some o → (h'.update S (Obj.mapSeq (·.push (Value.ref h.objs.size)))).get? b = some o := fun b o hb e => (Heap.get?_update_other _ _ (Ne.symm hb)).trans e
    show wpAny _ A.in1 (updateSeq S (·.push (Value.ref h.objs.size)) >>= _) _ _ _
    refine wpAny_bind ?_
    refine wpAny_updateSeq hS' rfl (wpAny_pure ⟨plainId_quiet PySem.F.plain_extend_loop _, ih (i + 1) _ tk _ (acc.push (Value.ref h.objs.size)) (as ++ [h.objs.size]) (by omega) hlt (hst'.keep F up)
      (fun b o h0 h1 h2 h3 h4 e => up b o h0 (hkp b o h1 h2 h3 h4 (hkeep b o h0 h1 h2 h3 h4 e))) (Heap.get?_update_self _ hS' rfl) (by rw [Array.toList_push, hacc, List.map_append]; rfl) (by rw [List.length_append, hal]; rfl) ⟨?_, ?_, ?_⟩⟩) (by rw [hsz]; omega) (by show (acc.push (Value.ref h.objs.size)).size ≤ sizeLine + 1; rw [Array.size_push, hsz]; omega)
    · refine List.pairwise_append.mpr ⟨hG.rise, List.pairwise_singleton _ _, fun a ha b hb => ?_⟩
      rw [List.mem_singleton.mp hb]
      exact hG.there ha
    · intro a ha
      rcases List.mem_append.mp ha with ha | ha
      · exact hG.above a ha
      · rw [List.mem_singleton.mp ha]; exact hSl
    · intro j b hj
      rcases Nat.lt_trichotomy j as.length with h1 | h1 | h1
      · rw [List.getElem?_append_left h1] at hj
        obtain ⟨x', y', e1, e2, e3⟩ := hG.pairs j b hj
        have hb := hG.above b (List.mem_of_getElem? hj)
        obtain ⟨q1, q2, q3, q4⟩ := low b hb
        exact ⟨x', y', e1, e2, up b _ (Nat.ne_of_gt hb) (hkp b _ q1 q2 q3 q4 e3)⟩
      · subst h1
        have hb : h.objs.size = b := by simpa using hj
        subst hb
        exact ⟨_, _, by rw [hal]; exact ex, by rw [hal]; exact ey, up _ _ (Nat.ne_of_gt hSl) ht⟩
      · have hnone : (as ++ [h.objs.size])[j]? = none := List.getElem?_eq_none (by rw [List.length_append, List.length_singleton]; omega)
        rw [hnone] at hj; cases hj
end
theorem zip_no_len : typeLookup (.type "zip") "__len__" = pure none := by rw [typeLookup_type, builtinLookup_eq_fast]; kernel_rfl
theorem zip_no_hint : typeLookup (.type "zip") "__length_hint__" = pure none := by rw [typeLookup_type, builtinLookup_eq_fast]; kernel_rfl
section
variable {prog : Program} {w : World} {A : Around} {E : Value → Shared → Prop} {s : Shared} {z TI TO i1 i2 l1 l2 : Addr} {xs ys : Array Value}
theorem extend {R : Result → Shared → Prop} (hh : A.handled = none) (S : Addr) (D : ZipApart z TI TO i1 i2 l1 l2) (F : Off z TI TO i1 i2 l1 l2 S) (hlen : xs.size = ys.size) (hn : xs.size ≤ sizeLine) (low : ∀ a, S < a → a ≠ z ∧ a ≠ TO ∧ a ≠ i1 ∧ a ≠ i2) (st : St s.heap z TI TO i1 i2 l1 l2 S xs ys 0) (hz : IsZip s.heap z TI TO .none) (res : Value) (c₀ : Nat) (hS : s.heap.get? S = some { cls := .type "list", data := .seq #[] c₀ })
    (hR : ∀ h' tk acc c as, (∀ b o, b ≠ S → b ≠ z → b ≠ TO → b ≠ i1 → b ≠ i2 → s.heap.get? b = some o → h'.get? b = some o) → h'.get? S = some { cls := .type "list", dict := none, data := .seq acc c, slots := #[] } → as.length = xs.size → G xs ys S h' as →
      acc.toList = as.map Value.ref → R (.ok (.ret res)) { s with heap := h', toks := tk }) :
    wpAny (model prog w) A.in1 (Builtin.List.listExtendWith (.ref S) (.ref z) res)
      (fun fin s' => match fin with | .done f => R (.ok f) s' | .again c' => c'.quiet = true ∧ codeAny (model prog w) A c' R s') (fun e s' => R (.error e) s') s := by
  have hT : s.TypeIs (.ref z) "zip" := ⟨_, hz, rfl⟩
  have key : ∀ (h : Heap) (c₁ tk : Nat), (∀ b o, b ≠ S → s.heap.get? b = some o → h.get? b = some o) →
      h.get? S = some { cls := .type "list", data := .seq #[] c₁ } → codeAny (model prog w) A (.builtin "list.extend.loop" ⟨[.ref S, .ref z, res], []⟩) R { s with heap := h, toks := tk } := by
    intro h c₁ tk hk hS₁
    exact loop (s := s) (h₁ := s.heap) hh D F hlen hn res low hR xs.size 0 h tk c₁ #[] [] (Nat.sub_zero _) (Nat.zero_le _) (st.keep F hk) (fun b o hb _ _ _ _ e => hk b o hb e) hS₁ rfl rfl
      ⟨List.Pairwise.nil, (fun _ ha => nomatch ha), (fun j a hj => by simp at hj)⟩
  unfold Builtin.List.listExtendWith
  refine wpAny_bind (wpAny_typeOf hT ?_)
  have h1 : Builtin.List.listSameRef (.ref S) (.ref z) = false := by simp [Builtin.List.listSameRef, F.z.symm]
  have h2 : (Value.type "zip" == Value.type "list") = false := by decide
  have h3 : (Value.type "zip" == Value.type "tuple") = false := by decide
  simp only [h1, h2, h3, Bool.or_false, Bool.false_eq_true, if_false]
  refine wpAny_bind (wpAny_pyIter_zip hz ?_)
  refine wpAny_bind (wpAny_holding ?_)
  unfold Builtin.List.listLengthHint
  refine wpAny_bind (wpAny_specialOf hT zip_no_len ?_)
  show wpAny _ A.in1 (specialOf (Value.ref z) (Str.ofString "__length_hint__") >>= _) _ _ _
  refine wpAny_bind (wpAny_specialOf hT zip_no_hint ?_)
  refine wpAny_pure ?_
  show wpAny _ A.in1 (rule "list.extend.makes-room" >>= fun _ => Builtin.List.listTouch (.ref S) >>= fun _ =>
    again (.builtin "list.extend.loop" ⟨[.ref S, .ref z, res], []⟩)) _ _ _
  refine wpAny_bind (wpAny_rule ?_)
  refine wpAny_bind ?_
  show wpAny _ A.in1 (updateSeq S (·.push .none) >>= fun _ => updateSeq S (·.pop)) _ _ _
  refine wpAny_bind (wpAny_updateSeq hS rfl ?_)
  have hS₂ := Heap.get?_update_self (Obj.mapSeq (·.push Value.none)) hS rfl
  refine wpAny_updateSeq (hz := by seq_fits) hS₂ rfl ?_
  have hS₃ := Heap.get?_update_self (Obj.mapSeq (·.pop)) hS₂ rfl
  refine wpAny_pure ⟨plainId_quiet PySem.F.plain_extend_loop _, key _ _ _ (fun b o hb e => ?_) hS₃⟩
  exact (Heap.get?_update_other _ _ (Ne.symm hb)).trans ((Heap.get?_update_other _ _ (Ne.symm hb)).trans e)
theorem init {R : Result → Shared → Prop} (hh : A.handled = none) (S : Addr) (D : ZipApart z TI TO i1 i2 l1 l2) (F : Off z TI TO i1 i2 l1 l2 S) (hlen : xs.size = ys.size) (hn : xs.size ≤ sizeLine) (low : ∀ a, S < a → a ≠ z ∧ a ≠ TO ∧ a ≠ i1 ∧ a ≠ i2) (st : St s.heap z TI TO i1 i2 l1 l2 S xs ys 0) (hz : IsZip s.heap z TI TO .none) (hS : s.heap.get? S = some { cls := .type "list", data := .seq #[] })
    (hR : ∀ h' tk acc c as, (∀ b o, b ≠ S → b ≠ z → b ≠ TO → b ≠ i1 → b ≠ i2 → s.heap.get? b = some o → h'.get? b = some o) → h'.get? S = some { cls := .type "list", dict := none, data := .seq acc c, slots := #[] } → as.length = xs.size → G xs ys S h' as →
      acc.toList = as.map Value.ref → R (.ok (.ret .none)) { s with heap := h', toks := tk }) :
    wpAny (model prog w) A.in1 (Builtin.«list.__init__» ⟨[.ref S, .ref z], []⟩)
      (fun fin s' => match fin with | .done f => R (.ok f) s' | .again c' => c'.quiet = true ∧ codeAny (model prog w) A c' R s') (fun e s' => R (.error e) s') s := by
  show wpAny _ _ (do let old ← Builtin.List.listItems (.ref S); Builtin.List.listUpdate (.ref S) (fun _ => #[]); letGo old.toList.reverse; Builtin.List.listExtendWith (.ref S) (.ref z) .none) _ _ s
  refine wpAny_bind ?_
  unfold Builtin.List.listItems
  refine wpAny_bind (wpAny_seqItems hS rfl (wpAny_pure ?_))
  show wpAny _ _ (updateSeq S (fun _ => #[]) >>= fun _ => letGo (#[] : Array Value).toList.reverse >>= fun _ => Builtin.List.listExtendWith (.ref S) (.ref z) .none) _ _ s
  refine wpAny_bind (wpAny_updateSeq hS rfl ?_)
  have hS₂ := Heap.get?_update_self (Obj.mapSeq (fun _ => (#[] : Array Value))) hS rfl
  have oth : ∀ b o, b ≠ S → s.heap.get? b = some o → (s.heap.update S (Obj.mapSeq (fun _ => (#[] : Array Value)))).get? b = some o :=
    fun b o hb e => (Heap.get?_update_other _ _ (Ne.symm hb)).trans e
  refine wpAny_bind (wpAny_letGo ?_)
  refine extend (A := A) hh S D F hlen hn low (st.keep F oth) (oth z _ F.z hz) .none _ hS₂ fun h' tk acc c as hk hS' hl hG hacc => ?_
  exact hR h' tk acc c as (fun b o h0 h1 h2 h3 h4 e => hk b o h0 h1 h2 h3 h4 (oth b o h0 e)) hS' hl hG hacc
theorem call_list_zip {Q : Value → Shared → Prop} (hh : A.handled = none) (D : ZipApart z TI TO i1 i2 l1 l2) (hlen : xs.size = ys.size) (hn : xs.size ≤ sizeLine) (hz : IsZip s.heap z TI TO .none) (hTI : IsPair s.heap TI (.ref i1) (.ref i2)) (hTO : ∃ a b, IsPair s.heap TO a b)
    (h1 : s.heap.IsListIter i1 l1 0) (h2 : s.heap.IsListIter i2 l2 0) (hl1 : s.heap.IsList l1 xs) (hl2 : s.heap.IsList l2 ys)
    (hQ : ∀ h' tk acc c as, (∀ b o, b ≠ z → b ≠ TO → b ≠ i1 → b ≠ i2 → s.heap.get? b = some o → h'.get? b = some o) → h'.get? s.heap.objs.size = some { cls := .type "list", dict := none, data := .seq acc c, slots := #[] } → as.length = xs.size → G xs ys s.heap.objs.size h' as →
      acc.toList = as.map Value.ref → Q (.ref s.heap.objs.size) { s with heap := h', toks := tk }) :
    wpAny (model prog w) A (call (.type "list") [.ref z]) Q E s := by
  refine callType_codes (Q₁ := fun obj s₁ => obj = .ref s.heap.objs.size ∧ s₁ = { s with heap := s.heap.push { cls := .type "list", data := .seq #[] } }) PySem.F.called_list (PySem.F.typeCall_list_1 _) PySem.F.entry_list_init
    (code_list_new _ ⟨rfl, rfl⟩) fun obj s₁ h₁ => ?_
  obtain ⟨rfl, rfl⟩ := h₁
  have hS : (s.heap.push { cls := .type "list", data := .seq #[] }).get? s.heap.objs.size = some { cls := .type "list", data := .seq #[] } := Heap.get?_push_size _ rfl
  have lt : ∀ {b o}, s.heap.get? b = some o → b < s.heap.objs.size := fun e => Heap.lt_size e
  obtain ⟨a0, b0, hTO⟩ := hTO
  have b1 : i1 < s.heap.objs.size := let ⟨_, e, _⟩ := h1; lt e
  have b2 : i2 < s.heap.objs.size := let ⟨_, e, _⟩ := h2; lt e
  have b3 : l1 < s.heap.objs.size := let ⟨_, e, _⟩ := hl1; lt e
  have b4 : l2 < s.heap.objs.size := let ⟨_, e, _⟩ := hl2; lt e
  have F : Off z TI TO i1 i2 l1 l2 s.heap.objs.size := ⟨Nat.ne_of_lt (lt hz), Nat.ne_of_lt (lt hTI), Nat.ne_of_lt (lt hTO), Nat.ne_of_lt b1, Nat.ne_of_lt b2, Nat.ne_of_lt b3, Nat.ne_of_lt b4⟩
  have psh : ∀ b o, s.heap.get? b = some o → (s.heap.push { cls := .type "list", data := .seq #[] }).get? b = some o := fun b o e => Heap.get?_push_of_some _ e
  have st : St (s.heap.push { cls := .type "list", data := .seq #[] }) z TI TO i1 i2 l1 l2 s.heap.objs.size xs ys 0 :=
    ⟨psh _ _ hTI, h1.at fun o e => psh _ o e, h2.at fun o e => psh _ o e, hl1.at fun o e => psh _ o e, hl2.at fun o e => psh _ o e, .inl ⟨psh _ _ hz, a0, b0, psh _ _ hTO⟩⟩
  refine ⟨⟨_, hS, rfl⟩, PySem.F.args_list_init_2 _ _, init (A := A.in1) hh _ D F hlen hn (fun a ha => ⟨?_, ?_, ?_, ?_⟩) st (psh _ _ hz) hS (fun h' tk acc c as hk hS' hl hG hacc => ?_)⟩
  · exact Nat.ne_of_gt (Nat.lt_trans (lt hz) ha)
  · exact Nat.ne_of_gt (Nat.lt_trans (lt hTO) ha)
  · exact Nat.ne_of_gt (Nat.lt_trans b1 ha)
  · exact Nat.ne_of_gt (Nat.lt_trans b2 ha)
  · exact ⟨rfl, hQ h' tk acc c as (fun b o h1 h2 h3 h4 e => hk b o (Nat.ne_of_lt (lt e)) h1 h2 h3 h4 (psh b o e)) hS' hl hG hacc⟩
end
end ZlX

set_option maxHeartbeats 2000000
/-! list(zip(a, b)) as an expression. -/
namespace L2
open PySem PySem.Spec PyProof.Rows
def putP : Hp → List Addr → List (V × V) → Hp
  | H, a :: as, p :: ps => putP (upd H a (.tup [p.1, p.2])) as ps
  | H, _, _ => H
theorem putP_off {b : Addr} : ∀ (as : List Addr) (ps : List (V × V)) (H : Hp), b ∉ as → putP H as ps b = H b
  | [], _, _, _ => rfl
  | _ :: _, [], _, _ => rfl
  | a :: as, p :: ps, H, h => by
    show putP (upd H a (.tup [p.1, p.2])) as ps b = H b
    rw [putP_off as ps _ (fun z => h (List.mem_cons_of_mem _ z)), upd_ne (fun z => h (by rw [z]; exact List.mem_cons_self))]
theorem putP_at : ∀ (as : List Addr) (ps : List (V × V)) (H : Hp), as.length = ps.length → as.Nodup → ∀ (j : Nat) (a : Addr), as[j]? = some a → ∃ p, ps[j]? = some p ∧ putP H as ps a = some (.tup [p.1, p.2])
  | [], [], _, _, _, j, a, h => by cases h
  | [], _ :: _, _, h, _, _, _, _ => by cases h
  | _ :: _, [], _, h, _, _, _, _ => by cases h
  | a :: as, p :: ps, H, h, hn, 0, b, hb => by
    cases hb
    refine ⟨p, rfl, ?_⟩
    show putP (upd H a (.tup [p.1, p.2])) as ps a = some (.tup [p.1, p.2])
    rw [putP_off as ps _ (List.nodup_cons.mp hn).1, upd_same]
  | a :: as, p :: ps, H, h, hn, j + 1, b, hb => putP_at as ps (upd H a (.tup [p.1, p.2])) (Nat.succ.inj h) (List.nodup_cons.mp hn).2 j b hb
/-- the pairs of two lists, each a new tuple -/
def PairsOf (H : Hp) (ts : List Addr) (xs ys : List V) : Prop := ts.length = xs.length ∧ ∀ (j : Nat) (t : Addr), ts[j]? = some t → ∃ x y, xs[j]? = some x ∧ ys[j]? = some y ∧ H t = some (.tup [x, y])
def tListZip (K : PySem.W.Frag) (ta : TA) : TE := fun σ H Q => ta σ H fun vs H1 => ∃ (a b : Addr) (xs ys : List V), vs = [.ref a, .ref b] ∧ SqL K H1 a xs ∧ SqL K H1 b ys ∧ xs.length = ys.length ∧
  ∀ (H' : Hp) (p : Addr) (ts : List Addr), (∀ c o, H1 c = some o → H' c = some o) → H1 p = none → (∀ t ∈ ts, H1 t = none) → p ∉ ts → H' p = some (.lst (ts.map V.ref)) → PairsOf H' ts xs ys → Q (.ref p) H'
section
variable {X : Cx} {e e2 : Expr} {ta : TA} {p p2 pos pos2 : Pos}
theorem zip_laid {pins : List (Addr × Obj)} {σ : L2.St} {H : Hp} {s : Shared} {h' : Heap} {tk : Nat} {xs ys : List V} {us vs : List Value} {acc : Array Value} {c : Nat} {as : List Addr} {S : Addr} (I : Inv X pins σ H s) (hz : xs.length ≤ sizeLine) (rx : Vals xs us) (ry : Vals ys vs) (hle : s.heap.objs.size ≤ S)
    (hk : ∀ b o, s.heap.get? b = some o → h'.get? b = some o) (hS : h'.get? S = some { cls := .type "list", dict := none, data := .seq acc c, slots := #[] }) (hl : as.length = us.length) (hlen : xs.length = ys.length) (hG : ZlX.G us.toArray vs.toArray S h' as) (hacc : acc.toList = as.map Value.ref) :
    ∃ H' : Hp, (∀ b o, H b = some o → H' b = some o) ∧ H S = none ∧ (∀ t ∈ as, H t = none) ∧ S ∉ as ∧ H' S = some (.lst (as.map V.ref)) ∧ PairsOf H' as xs ys ∧ Inv X pins σ H' { s with heap := h', toks := tk } := by
  have lk := rx.length
  have ly := ry.length
  have hSn : S ∉ as := fun z => Nat.lt_irrefl _ (hG.above _ z)
  have nd : as.Nodup := List.Pairwise.imp (fun {a b} (h : a < b) => Nat.ne_of_lt h) hG.rise
  have new : ∀ t ∈ as, H t = none := fun t ht => I.hok.fresh (Nat.le_trans hle (Nat.le_of_lt (hG.above t ht)))
  have newS : H S = none := I.hok.fresh hle
  have hzl : (xs.zip ys).length = xs.length := by rw [List.length_zip]; omega
  have atP := putP_at as (xs.zip ys) (upd H S (.lst (as.map V.ref))) (by omega) nd
  have zget : ∀ (j : Nat) (q : V × V), (xs.zip ys)[j]? = some q → xs[j]? = some q.1 ∧ ys[j]? = some q.2 := fun j q e => by
    rw [List.getElem?_zip_eq_some] at e
    exact e
  have off : ∀ b, b ∉ as → b ≠ S → putP (upd H S (.lst (as.map V.ref))) as (xs.zip ys) b = H b := fun b h1 h2 => by rw [putP_off as _ _ h1, upd_ne h2]
  have low : ∀ b o, s.heap.get? b = some o → b ∉ as ∧ b ≠ S := fun b o e => ⟨fun z => absurd (Heap.lt_size e) (Nat.not_lt.mpr (Nat.le_trans hle (Nat.le_of_lt (hG.above b z)))), Nat.ne_of_lt (Nat.lt_of_lt_of_le (Heap.lt_size e) hle)⟩
  have kp : ∀ b u, H b = some u → (putP (upd H S (.lst (as.map V.ref))) as (xs.zip ys)) b = some u := fun b u e => by
    rw [off b (fun z => by rw [new b z] at e; cases e) (fun z => by rw [z, newS] at e; cases e)]
    exact e
  have eS : putP (upd H S (.lst (as.map V.ref))) as (xs.zip ys) S = some (.lst (as.map V.ref)) := by rw [putP_off as _ _ hSn, upd_same]
  refine ⟨putP (upd H S (.lst (as.map V.ref))) as (xs.zip ys), kp, newS, new, hSn, eS, ⟨by omega, fun j t ht => ?_⟩, ?_⟩
  · obtain ⟨q, e1, e2⟩ := atP j t ht
    obtain ⟨e3, e4⟩ := zget j q e1
    exact ⟨_, _, e3, e4, e2⟩
  refine I.call' (ch := []) rfl ⟨fun b o q _ _ _ => hk b o q, fun b o q _ _ _ => ⟨o.slots, hk b o q⟩, fun b o q n _ => ?_, fun b o q _ => ⟨o, hk b o q⟩, fun b xs q => kp b _ q, fun b o u q => kp b _ q, fun b ps q => ⟨#[], by rw [kp b _ q]; simp⟩⟩ (fun b u q => ?_) I.bare fun b z => by simp at z
  · obtain ⟨z1, z2⟩ := low b o q
    rw [off b z1 z2]
    exact n
  · by_cases hb : b ∈ as
    · obtain ⟨j, hj⟩ := List.mem_iff_getElem?.mp hb
      obtain ⟨pk, e1, e3⟩ := atP j b hj
      rw [e3] at q
      cases q
      obtain ⟨f3, f4⟩ := zget j pk e1
      obtain ⟨x, y, g1, g2, g3⟩ := hG.pairs j b hj
      obtain ⟨u, hu, ru⟩ := rx.get f3
      obtain ⟨v, hv, rv⟩ := ry.get f4
      rw [List.getElem?_toArray, hu] at g1
      rw [List.getElem?_toArray, hv] at g2
      have ex : u = x := Option.some.inj g1
      have ey : v = y := Option.some.inj g2
      rw [← ex, ← ey] at g3
      exact ⟨by show 2 ≤ sizeLine; decide, [u, v], .cons ru (.cons rv .nil), ⟨_, g3, rfl, _, rfl⟩⟩
    · by_cases hb2 : b = S
      · rw [hb2] at q ⊢
        rw [eS] at q
        cases q
        refine ⟨by rw [List.length_map]; omega, acc.toList, c, by rw [hacc]; exact LiI.vals_refs as, ?_⟩
        rw [Array.toArray_toList]
        exact hS
      · rw [off b hb hb2] at q
        exact (I.hok b u q).stay (fun d v _ y => hk d v y) (fun d y => kp d _ y) fun d xs y => kp d _ y
theorem pe_listZip (hc : X.calm = true) (hg : Gl X "list") (hm : X.mg "list" = none) (hgz : Gl X "zip") (hmz : X.mg "zip" = none) (ha : PA X [e, e2] ta)
    (na : starEach [.Call (.Name "zip" p2) [e, e2] [] pos2] X.env = (false, eval (.Call (.Name "zip" p2) [e, e2] [] pos2) X.env) :: starEach [] X.env := by rfl)
    (hs : starEach [e, e2] X.env = (false, eval e X.env) :: starEach [e2] X.env := by rfl) (hpl : (backTo pos2 (starEach [e2] X.env)).any (·.1) = false := by rfl) :
    PE X (.Call (.Name "list" p) [.Call (.Name "zip" p2) [e, e2] [] pos2] [] pos) (tListZip X.K ta) := by
  refine ⟨fun pins s σ H Q I h => ?_⟩
  refine Call_ (ld_blt I hg hm boot_list (PyProof.Rows.callWith_type1 (args_cons ?_ na) na))
  refine Call_ (ld_blt I hgz hmz PyProof.Rows.boot_zip (PyProof.Rows.callWith_type1 (thn (ha.run pos2 pins s σ H _ I h) fun us s1 ⟨vs, H1, I1, r1, q1⟩ => ?_) hs hpl))
  obtain ⟨a, b, xs, ys, ex, hqx, hqy, hlen, q⟩ := q1
  subst ex
  cases r1 with
  | cons r rr =>
    cases rr with
    | cons r' rr =>
      cases rr
      cases r
      cases r'
      obtain ⟨its, rv, p1, hzx⟩ := I1.list hqx
      obtain ⟨its2, rv2, p2', _⟩ := I1.list hqy
      have la : a < s1.heap.objs.size := p1.lt
      have lb : b < s1.heap.objs.size := p2'.lt
      have l1 := rv.length
      have l2 := rv2.length
      refine call_zip_2 p1.isList p2'.isList fun h' hz hTI hTO h1 h2 hsz hk => args_nil ?_
      have p1' : h'.IsList a its.toArray := p1.isList.at fun o e => hk _ o e
      have p2'' : h'.IsList b its2.toArray := p2'.isList.at fun o e => hk _ o e
      refine ZlX.call_list_zip (s := { s1 with heap := h' }) (I1.ok.hd hc) (PySem.W.ktu_apart s1.heap.objs.size a b la lb) (by simp only [List.size_toArray]; omega) (by simp only [List.size_toArray]; omega) hz hTI ⟨_, _, hTO⟩ h1 h2 p1' p2'' fun h'' tk acc c as hk2 hS hl hG hacc => ?_
      have hl' : as.length = its.length := by simpa using hl
      have kp : ∀ c o, s1.heap.get? c = some o → h''.get? c = some o := fun c o e => by
        have hlt := Heap.lt_size e
        have n : ∀ k, c ≠ s1.heap.objs.size + k := fun k => Nat.ne_of_lt (Nat.lt_of_lt_of_le hlt (Nat.le_add_right _ _))
        exact hk2 c o (n 4) (n 3) (n 0) (n 1) (hk c o e)
      obtain ⟨H', k1, k2, k3, k4, k5, k6, J⟩ := zip_laid (tk := tk) (S := h'.objs.size) I1 hzx rv rv2 (by omega) kp hS hl' hlen hG hacc
      exact ⟨.ref _, H', J, rfl, q H' _ as k1 k2 k3 k4 k5 k6⟩
end
end L2

set_option maxHeartbeats 2000000
/-! A caught exception that an except suite hands to a def of its own: the def's promise is told by the exception's address, class and dict. -/
namespace L2
open PySem PySem.Spec PyProof.Rows XX L2H
abbrev SpX : Type := Addr → Value → Option Addr → Sp
structure FnP (P : Program) (w : World) (K : PySem.W.Frag) (mg : Str → Option Value) (base : Heap) (k : Nat) (f : Addr) (fd : FuncData) (ps : List Str) (sp : SpX) : Prop where
  len : ∀ a cls d vs H Q E, sp a cls d vs H Q E → vs.length = ps.length
  run : ∀ (A : Around) (outer : List Env) (s : Shared) (H : Hp) (args : Args) (us : List Value) (vs : List V) (Q : VK) (E : XK) (a : Addr) (oe : Obj) (cls : Value) (d : Option Addr), RoomH k A → PinOk outer H s (a, oe) → Zc cls d oe → (∃ fs, oe.data = .fields fs) →
    Env0 P w K mg base A outer s H → BindsTo s fd args (ps.zip us) → Vals vs us → sp a cls d vs H Q E → codeAny (model P w) A (.call (.ref f) args) (CR CX0 outer P w H s Q E) s
theorem fnP_of {P : Program} {w : World} {K : PySem.W.Frag} {mg : Str → Option Value} {base : Heap} {x qual : Str} {params : Arguments} {body : List Stmt} {scope : Scope} {f : Addr} {fd : FuncData} {N ps : List Str} {k : Nat} {sp : SpX} (F : FunD K x qual params body scope [] [] f fd) (S : FnScope N ps scope)
    (len : ∀ a cls d vs H Q E, sp a cls d vs H Q E → vs.length = ps.length)
    (hb : ∀ (cdv : Value) (A : Around) (outer : List Env) (s : Shared) (H : Hp) (vs : List V) (Q : VK) (E : XK) (a : Addr) (oe : Obj) (cls : Value) (d : Option Addr), Zc cls d oe → (∃ fs, oe.data = .fields fs) → RoomH k (A.deeper (envOfC qual scope s.heap.objs.size f cdv)) → sp a cls d vs H Q E →
      ∃ t, PSs (cxH CX0 P w K mg base N qual scope f cdv A outer s H E (a, oe)) body t ∧ t { nx := fun _ G => Q .non G, rt := Q } (start N vs) H) : FnP P w K mg base (k + 1) f fd ps sp := by
  obtain ⟨oc, od, dV, kV, doc, pm, an, cdv, ct, osl, rfl, lk, hcd, _, _⟩ := F.ex
  refine ⟨len, fun A outer s H args us vs Q E a oe cls d room pin hz hf e0 bnd rel hsp => ?_⟩
  have hlen := len _ _ _ _ _ _ _ hsp
  have below : ∀ b o, base.get? b = some o → s.heap.get? b = some o := fun b o e => (e0.bs b o e).1
  have KX : K.In s.heap := e0.mod.kin.keeps below
  have lim : s.heap.NoLimit := e0.mod.nolimit.keeps below
  have kinds : ∀ y ∈ ps.zip us, scope.names.lookup y.1 = some .local ∨ (scope.names.lookup y.1 = some .cell ∧ ((cellsFrom (s.heap.objs.size + 1) scope.names []).lookup y.1).isSome = true) := fun y hy =>
    (S.par y.1 (List.of_mem_zip (show (y.1, y.2) ∈ _ from hy)).1).elim .inl fun z => .inr ⟨z, PySem.W.cellsFrom_some _ _ _ (.inl z)⟩
  refine codeAny_call_function room.depth (KX _ _ lk) rfl S.co S.gen rfl (PySem.W.codeRec_of KX hcd) (bnd _ _ _ _ ?_)
  refine wpAny_newFunctionEnv_cells S.kind kinds fun env henv s1 inc => ?_
  subst henv
  refine ⟨lim.keeps inc.toInCall.keep, codeAny_func ?_⟩
  obtain ⟨t, run, hw⟩ := hb cdv A outer s H vs Q E a oe cls d hz hf (room.deeper _) hsp
  have I0 : Inv (cxH CX0 P w K mg base N qual scope f cdv A outer s H E (a, oe)) [] (start N vs) H s1 := inv_startH S pin e0 hlen rel inc
  have told : ∀ {τ : L2.St} {G : Hp} {v : V} {u : Value} {s2 : Shared}, Inv (cxH CX0 P w K mg base N qual scope f cdv A outer s H E (a, oe)) [] τ G s2 → RelV v u → Q v G → CE outer P w H s Q u s2 := fun J rv q => ⟨_, _, J.os, J.bare, J.base, J.hok, rv, q⟩
  refine wpAny_mono (run.run [] s1 (start N vs) H _ I0 hw) (fun fl s2 done => ?_) fun e s2 err => err
  cases fl with
  | next => obtain ⟨_, _, J, q⟩ := done; exact told (v := V.non) (u := Value.none) J rfl q
  | ret u => obtain ⟨_, _, _, J, rv, q⟩ := done; exact told J rv q
  | brk => obtain ⟨_, _, _, no⟩ := done; exact no.elim
  | cont => obtain ⟨_, _, _, no⟩ := done; exact no.elim
/-- f(e), e the suite's exception: the reading -/
def tCallP (sp : SpX) (a : Addr) (cls : Value) (d : Option Addr) (t : TA) : TE := fun σ H Q => t σ H fun vs H1 => sp a cls d vs H1 Q fun _ _ _ => False
theorem pe_callP {X : Cx} {k : Nat} {f a : Addr} {oe : Obj} {cls : Value} {d : Option Addr} {pn : List (Addr × Obj)} {fd : FuncData} {ps : List Str} {sp : SpX} {x : Str} {p pos : Pos} {e : Expr} {es : List Expr} {t : TA} (F : FnP X.prog X.w X.K X.mg X.base k f fd ps sp) (room : RoomH k X.A) (hz : Zc cls d oe) (hf : ∃ fs, oe.data = .fields fs)
    (hg : Gl X x) (hm : X.mg x = some (.ref f)) (hk : PySem.W.keepIn X.K (.ref f) = true) (bnd : Binds X.K fd ps []) (ha : PA (X.suite a ((a, oe) :: pn)) (e :: es) t) (hdb : (x == ("__debug__" : Str)) = false := by decide)
    (he : starEach (e :: es) X.env = (false, eval e X.env) :: starEach es X.env := by rfl) (hpl : (backTo pos (starEach es X.env)).any (·.1) = false := by rfl) :
    PE (X.suite a ((a, oe) :: pn)) (.Call (.Name x p) (e :: es) [] pos) (tCallP sp a cls d t) := by
  refine ⟨fun pins s σ H Q I h => ?_⟩
  refine wpAny_Call_Name_kw (ld_glob (X := X.suite a ((a, oe) :: pn)) I hg hm ?_ hdb)
  refine PySem.W.callWith_K (h₀ := X.base) I.ok.mod.kin hk (thn (ha.run pos pins s σ H _ I h) fun us s1 got => ?_) he hpl
  obtain ⟨vs, H1, I1, rel, hsp⟩ := got
  refine ⟨I1.kIn, ?_⟩
  have hlen : us.length = ps.length := by
    rw [← rel.length]
    exact F.len _ _ _ _ _ _ _ hsp
  have b := bnd s1 us I1.kIn (by rw [List.append_nil]; exact hlen)
  rw [List.append_nil] at b
  obtain ⟨g1, g2, g3, g4, g5⟩ := I1.pin (a, oe) (List.mem_append_left _ List.mem_cons_self)
  have pin : PinOk X.stack H1 s1 (a, oe) := ⟨g1, g2, fun z => (List.mem_cons.mp (I1.stkSub a z)).elim g3 g4, g5⟩
  have room2 : RoomH k (X.suite a ((a, oe) :: pn)).A := ⟨room.dp, room.un⟩
  refine wpAny_call (codeAny_mono (F.run _ X.stack s1 H1 ⟨us, []⟩ us vs Q (fun _ _ _ => False) a oe cls d room2 pin hz hf I1.env0 b rel hsp) fun r s2 out => ?_)
  cases r with
  | error er => exact (show False from out).elim
  | ok fl =>
    cases fl with
    | ret u => exact I1.after out
    | next => exact (show False from out).elim
    | brk => exact (show False from out).elim
    | cont => exact (show False from out).elim
/-- isinstance(e, c), e an exception that the context holds -/
theorem call_isP {X : Cx} {a : Addr} {cls : Value} {d : Option Addr} {oe : Obj} (hp : (a, oe) ∈ X.pn) (hz : Zc cls d oe) (hf : ∃ fs, oe.data = .fields fs) : CallR X (.builtin "isinstance") (rIsX X.K a cls d) := by
  intro pins s σ H xs us Q I r h
  obtain ⟨D, c, cv, b, rfl, rfl, C, hd, hcv, e, q⟩ := h
  obtain ⟨u1, u2, rfl, rx, rt⟩ := vals2 r
  cases rx
  obtain rfl := hcv _ rt
  obtain ⟨hget, _⟩ := I.pin (a, oe) (List.mem_append_left _ hp)
  obtain ⟨vs, hv⟩ := hf
  have nc : PySem.W.notCls oe := by unfold PySem.W.notCls; rw [hv] <;> rfl
  have J : ∃ od, PySem.W.InstAt s.heap a oe D od := by
    rcases hd with rfl | ⟨dd, fs, rfl, hdd⟩
    · exact ⟨none, hget, hz.1, nc, by rw [hz.2] <;> trivial⟩
    · obtain ⟨mA, ⟨od, es, ep, ho, _⟩, _⟩ := (show ObjOk X.prog X.w H s.heap dd (.xd fs) from I.hok dd _ hdd)
      exact ⟨some od, hget, hz.1, nc, by rw [hz.2]; exact ho⟩
  obtain ⟨od, J⟩ := J
  exact PySem.W.kia_one (kit_exc C) I.kIn ⟨_, _, J⟩ e (fun z => nomatch z) fun tk => ⟨.bl b, H, I.kept (t' := tk) fun _ _ z => z, rfl, q⟩
/-- e.n, e an exception that the context holds -/
theorem pe_xP {X : Cx} {a C : Addr} {oe : Obj} {cls : Value} {d : Option Addr} {e : Expr} {te : TE} {pos : Pos} {n : Str} (hp : (a, oe) ∈ X.pn) (T : XfC X.K C) (hno : PySem.W.findIn X.K (.ref C) n = some none) (hz : Zc cls d oe) (hf : ∃ fs, oe.data = .fields fs) (he : PE X e te)
    (hb : attributeBase e n X.env (eval e X.env) = eval e X.env := by rfl) : PE X (.Attribute e n pos) (tXf a cls d C n te) := by
  refine ⟨fun pins s σ H Q I h => ?_⟩
  refine attr_of hb (thn (he.run pins s σ H _ I h) fun u s1 got => ?_)
  obtain ⟨x, H1, I1, rx, rfl, rfl, dd, fs, v, rfl, ea, l, q⟩ := got
  cases rx
  obtain ⟨hget, _⟩ := I1.pin (a, oe) (List.mem_append_left _ hp)
  obtain ⟨vs, hd⟩ := hf
  obtain ⟨mA, hns, hr⟩ := (show ObjOk X.prog X.w H1 s1.heap dd (.xd fs) from I1.hok dd _ ea)
  obtain ⟨od, ho, hl⟩ := lookIn_ns hns
  obtain ⟨y, hy, ry⟩ := RelO.some_of (v := v) (o := mA n) (by rw [← l]; exact hr n)
  have J : PySem.W.InstAt s1.heap a oe C (some od) := ⟨hget, hz.1, by unfold PySem.W.notCls; rw [hd] <;> rfl, by rw [hz.2]; exact ho⟩
  exact HandSPX.exc_get I1.kIn J T.ga T.gg T.exC (PySem.W.findObj_own T.hdC hno rfl (by rw [hl, hy])) (handed_of ry) ⟨v, H1, I1.tok _, ry, q⟩
end L2

set_option maxHeartbeats 2000000
/-! More rules: l[i] op= v over a list; text * int; name = {..} as a comprehension. -/
namespace L2
open PySem PySem.Spec PyProof.Rows
section
variable {X : Cx}
theorem pget_list : PGet X (rIxL X.K) := by
  intro pins s σ H o i ov iv Q I ro ri h
  obtain ⟨p, xs, j, z, rfl, rfl, hq, he, q⟩ := h
  cases ro
  obtain ⟨t, rfl⟩ := ri
  obtain ⟨its, rel, pl, hz⟩ := I.list hq
  obtain ⟨n, h1, h2, h3, h4, h5⟩ := atI_get he
  obtain ⟨w, ew, rw'⟩ := rel.get h2
  have hl := rel.length
  have hn := line63
  have fin : EP X pins σ Q w s := ⟨z, H, I, rw', q⟩
  by_cases h0 : 0 ≤ j
  · have hj : j.toNat = n := by
      rw [seqIndex_of h0 h5] at h1
      exact Option.some.inj h1
    exact wpAny_getItem_list pl.isList h0 (by omega) (by rw [hj]; simpa using ew) fin
  · have hj : (j + (its.toArray.size : Int)).toNat = n := by
      rw [seqIndex_neg (by omega) h4] at h1
      rw [List.size_toArray, ← hl]
      exact Option.some.inj h1
    exact wpAny_getItem_list_neg pl.isList (by omega) (by rw [List.size_toArray] <;> omega) (by omega) (by rw [hj]; simpa using ew) fin
/-- name = {k: v for ..} on one line, the name a local -/
theorem ps_setDc {i : Nat} {y : Str} {py : Pos} {kx vx tg iter : Expr} {ifs : List Expr} {scope : Scope} {own : List (Str × Nat)} {pos spos : Pos} {wi : TI} {g : TG} {tt : TT} {tk tv : TE} (hc : X.calm = true) (hN : X.N.Nodup) (hy : X.N[i]? = some y) (hyl : X.env.scope.names.lookup y = some .local)
    (hsw : swapsWith (.DictComp kx vx [⟨tg, iter, ifs, 0⟩] scope pos) (some (.Name y py)) spos.line X.env = pure true) (hi : PI X tg iter wi) (ok : BlkOk X.N X.env.scope scope own)
    (hg : ∀ (s : Shared) (H : Hp) (C : Addr) (cl : List (Str × Addr)) (fp : List Addr), PG (X.blk s H scope (compEnvC scope cl C X.env) fp) tg g) (ht : ∀ (s : Shared) (H : Hp) (C : Addr) (cl : List (Str × Addr)) (fp : List Addr), PTs (X.blk s H scope (compEnvC scope cl C X.env) fp) ifs tt)
    (hk : ∀ (s : Shared) (H : Hp) (C : Addr) (cl : List (Str × Addr)) (fp : List Addr), PE (X.blk s H scope (compEnvC scope cl C X.env) fp) kx tk)
    (he : ∀ (s : Shared) (H : Hp) (C : Addr) (cl : List (Str × Addr)) (fp : List Addr), PE (X.blk s H scope (compEnvC scope cl C X.env) fp) vx tv) (hs : ∀ x, foldedSetIterable iter X.env x = pure x := by intro _; rfl) :
    PS X (.Assign [.Name y py] (.DictComp kx vx [⟨tg, iter, ifs, 0⟩] scope pos) spos) (tAsg (tDc wi g tt tk tv (own.map (·.2))) (gName i)) := by
  refine ⟨fun pins s σ H D I hw => ?_⟩
  rw [exec_Assign_Name_used _ _ _ _ hsw]
  refine wpAny_bind (wpAny_standAt (wpAny_bind ?_))
  show wpAny _ X.A (do let _ ← comprehension (.DictComp kx vx [⟨tg, iter, ifs, 0⟩] scope pos) scope X.env (firstIterPos [⟨tg, iter, ifs, 0⟩] pos) newDict false (eval iter X.env) (some (assign (.Name y py) X.env))) _ _ s
  have hw2 : tDc wi g tt tk tv (own.map (·.2)) σ H (fun x H1 => gName i x σ H1 D.nx) := hw
  refine wpAny_bind (thn (dc_core (Qf := fun _ s' => SP X pins D .next s') hc hN I hi ok hg ht hk he hs hw2 fun L C s' m H' I' q hn f => ?_) fun _ s' fine => wpAny_pure (wpAny_pure fine))
  show wpAny _ _ (assign (.Name y py) X.env (.ref L)) _ _ _
  refine wpAny_assign_Name (store_ok2 (v := V.ref L) I' hN hy (.inl hyl) rfl (fun s2 I2 ⟨a, sb, ha⟩ => ?_) (.inr hyl))
  obtain ⟨f0, f1, f2, f3, f4, f5⟩ := f
  have apart : C ≠ a := ha.elim (fun z => by rw [z]; exact f1) fun z e => f4 y a z e.symm
  exact ⟨m, hn.sameBut sb apart, fun h3 sb3 => ⟨_, H', I2.turned (t' := s2.toks) (fun b o hb e => (sb3.2 b hb).trans e) f0 f1 f3 f4 f5, q⟩⟩
theorem swd_true {kx vx : Expr} {gs : List Comprehension} {scope : Scope} {pos py : Pos} {y : Str} {l : Nat} {env : Env} (hk : env.scope.kind = .function) (hy : env.scope.names.lookup y = some .local) (hl : (py.line == pos.line) = true)
    (ha : (scope.names.any fun (n, k) => n == y && (k == .local || k == .cell)) = false) : swapsWith (.DictComp kx vx gs scope pos) (some (.Name y py)) l env = pure true := by
  have ky : env.kindOf y = some .local := hy
  have hb : env.blockKind = .function := by unfold Env.blockKind; rw [hk]; rfl
  unfold swapsWith
  simp only [hb, ky, ha, Expr.pos, hl]
  rfl
/-- text * int -/
def repT (x : Str) (n : Nat) : Str := ⟨(List.replicate n x.cps).foldl (· ++ ·) #[]⟩
def xMulS : R2 := fun x y H Q => ∃ (z : Str) (n : Nat), x = .str z ∧ y = .int n ∧ 2 ≤ n ∧ z.length ≠ 0 ∧ z.length * n ≤ 1000000 ∧ n ≤ 1000000 ∧ Q (.str (repT z n)) H
theorem op_mulS : OpR X (binaryOp .Mult) xMulS := by
  intro pins s σ H x y v u Q I rx ry h
  obtain ⟨z, n, rfl, rfl, h2, hz, hle, hn, q⟩ := h
  obtain ⟨t, rfl⟩ := rx
  obtain ⟨t', rfl⟩ := ry
  have h1 : ((n : Int) == 1 || z.length == 0) = false := by simp; omega
  have r63 : (decide ((n : Int) < -(2 ^ 63 : Int)) || decide ((n : Int) ≥ 2 ^ 63)) = false := by
    rw [decide_eq_false (by omega), decide_eq_false (by omega)]
    rfl
  have tl : Builtin.Str.tooLong (z.length * n) = false := decide_eq_false (by rw [sizeLine_eq]; omega)
  refine P.mul_str r63 (fun _ _ => ?_) (fun _ _ => ?_) ?_
  · have hq : (z.length : Int) * n ≤ 1000000 := by
      have e := Int.ofNat_le.mpr hle
      rwa [Int.natCast_mul] at e
    have h3 : (z.length : Int) ≤ (2 ^ 63 - 1) / (n : Int) := by
      rw [Int.le_ediv_iff_mul_le (by omega)]
      omega
    omega
  · rw [Int.toNat_natCast]
    exact tl
  · rw [if_neg (by omega), if_neg (fun e => by rw [h1] at e; cases e), Int.toNat_natCast]
    exact ⟨fits_reps tl, .str (repT z n), H, I.tok _, ⟨_, rfl⟩, q⟩
end
end L2

set_option maxHeartbeats 2000000
/-! e.replace('c', f + 'd'): the tokens; sep.join(list); upper. -/
namespace L2
open PySem PySem.Spec PyProof.Rows
def tReplA (to tg : TE) (y c : Str) : TE := fun σ H Q => to σ H fun v H1 => ∃ x, v = .str x ∧ tg σ H1 fun w H2 => ∃ z, w = .str z ∧ z.length ≠ 0 ∧ z.length + c.length ≤ 1000000 ∧ (y == z ++ c) = false ∧ x.length + (x.length + 1) * (z ++ c).length ≤ 16777216 ∧ Q (.str (Txt.replace x y (z ++ c))) H2
section
variable {X : Cx} {st : Stmt} {u : TS} {o g e : Expr} {es : List Expr} {to tg te : TE} {t : TA} {y c x : Str} {j j1 : Nat} {c0 c1 bpos apos pos p : Pos}
theorem pet_replAdd (ho : PE X o to) (hg : PE X g tg) (hc : c.length ≠ 0)
    (hst : starEach [.Constant (.str y) j c0, .BinOp g .Add (.Constant (.str c) j1 c1) bpos] X.env = [(false, eval (.Constant (.str y) j c0) X.env), (false, eval (.BinOp g .Add (.Constant (.str c) j1 c1) bpos) X.env)] := by rfl)
    (hbase : attributeBase o "replace" X.env (eval o X.env) = eval o X.env := by rfl) (hline : (apos.endLine == pos.line) = true := by rfl) :
    PET X (.Call (.Attribute o "replace" apos) [.Constant (.str y) j c0, .BinOp g .Add (.Constant (.str c) j1 c1) bpos] [] pos) (tReplA to tg y c) := by
  intro pins s σ H Q h0 I h
  refine PySem.Call_method2 hbase hst hline (wpAny_mono (PySem.wpAny_toks (ho.run pins s σ H _ I h)) (fun v s1 q => ?_) fun _ _ z => z.2)
  obtain ⟨hk, v', H1, I1, r1, a, rfl, q⟩ := q
  obtain ⟨ta, rfl⟩ := r1
  refine ⟨"str", _, PySem.F.plainAttrs_str, PySem.F.slot_str_replace, PySem.F.type_str_replace, typeIs_str _ _ _, (fun _ e => nomatch e), Calls.callWith_builtin rfl (Calls.evalArgs_plain (Calls.spliced_cons ?_))⟩
  refine Calls.Constant_str (Calls.spliced_cons (wpAny_BinOp (wpAny_mono (PySem.wpAny_toks (hg.run pins { s1 with toks := s1.toks + 1 } σ H1 _ (I1.tok _) q)) (fun w s2 got => ?_) fun _ _ z => z.2)))
  obtain ⟨hk2, w', H2, I2, r2, z, rfl, hz, hzl, hne, hb, q⟩ := got
  obtain ⟨tz, rfl⟩ := r2
  have lo : s1.toks + 1 ≤ s2.toks := hk2
  refine Calls.Constant_str (P.add_str ?_)
  have z1 : (z.length == 0) = false := by simpa using hz
  have c1' : (c.length == 0) = false := by simpa using hc
  rw [z1, c1']
  refine ⟨?_, Calls.spliced_nil (PySem.SC.replace ?_ ?_ ?_ hne hb fun t' k => ⟨.str (Txt.replace a y (z ++ c)), H2, (I2.tok k), ⟨t', rfl⟩, q⟩)⟩
  · have : (z ++ c).length = z.length + c.length := by show (z.cps ++ c.cps).size = _; rw [Array.size_append]; rfl
    rw [this, sizeLine_eq]
    omega
  · show s1.toks ≠ 0
    omega
  · show s2.toks + 1 ≠ 0
    omega
  · show s1.toks ≠ s2.toks + 1
    omega
theorem pat_one (h : PET X e te) (hs : starEach [e] X.env = (false, eval e X.env) :: starEach [] X.env := by rfl) : PAT X [e] (tCons te tNil) := by
  intro pos pins s σ H Q h0 I q
  exact args_cons (thn (h pins s σ H _ h0 I q) fun v s1 ⟨x, H1, I1, r1, q1⟩ => args_nil ⟨_, H1, I1, .cons r1 .nil, q1⟩) hs
theorem pa_strT (h : PAT X (e :: es) t) (hs : starEach (.Constant (.str x) j p :: e :: es) X.env = (false, eval (.Constant (.str x) j p) X.env) :: starEach (e :: es) X.env := by rfl) : PA X (.Constant (.str x) j p :: e :: es) (tCons (tC (.str x)) t) := by
  refine ⟨fun pos pins s σ H Q I q => ?_⟩
  rw [hs]
  show wpAny _ _ (spliced ((false, eval (.Constant (.str x) j p) X.env) :: backTo pos (starEach (e :: es) X.env))) _ _ s
  refine Calls.spliced_cons (Calls.Constant_str ?_)
  exact thn (h pos pins { s with toks := s.toks + 1 } σ H _ (Nat.le_add_left 1 s.toks) (I.tok _) q) fun us s2 ⟨xs, H2, I2, r2, q2⟩ => ⟨_, H2, I2, .cons (show RelV (.str x) _ from ⟨_, rfl⟩) r2, q2⟩
theorem psst_one (h : PST X st u) : PSsT X [st] u := psst_cons h (PSsT.of pss_nil)
theorem pst_ret (he : PET X e te) : PST X (.Return (some e) pos) (tRet te) := fun pins s σ H D h0 I h =>
  wpAny_Return_some (thn (he pins s σ H _ h0 I h) fun v s1 ⟨x, H1, I1, r1, q1⟩ => ⟨x, σ, H1, I1, r1, q1⟩)
end
theorem FunD.okT {P : Program} {w : World} {K : PySem.W.Frag} {mg : Str → Option Value} {base : Heap} {x qual : Str} {params : Arguments} {body : List Stmt} {scope : Scope} {dvs : List V} {kws : List (Str × V)} {f : Addr} {fd : FuncData} {CX : CXT} {N ps : List Str} {k : Nat} {sp : Sp}
    (F : FunD K x qual params body scope dvs kws f fd) (S : FnScope N ps scope) (hnc : ∀ y ∈ scope.names, y.2 ≠ .cell) (hps : 1 ≤ ps.length) (len : ∀ vs H Q E, sp vs H Q E → vs.length = ps.length)
    (hb : ∀ (cdv : Value) (A : Around) (outer : List Env) (s : Shared) (H : Hp) (vs : List V) (Q : VK) (E : XK), Room k (A.deeper (envOfC qual scope s.heap.objs.size f cdv)) → sp vs H Q E →
      ∃ t, PSsT (cxOf CX P w K mg base N qual scope f cdv A outer s H E) body t ∧ t { nx := fun _ G => Q .non G, rt := Q } (start N vs) H) : FnOk P w K mg base CX (k + 1) f fd ps sp := by
  obtain ⟨oc, od, dV, kV, doc, pm, an, cdv, ct, osl, rfl, lk, hcd, _, _⟩ := F.ex
  exact fn_ofT lk hcd S hnc hps len fun A outer s H vs Q E hr hsp => hb cdv A outer s H vs Q E hr hsp
/-! join, upper: the readings -/
def tJoin (K : PySem.W.Frag) (to te : TE) : TE := tM1 (fun x xs H Q => ∃ a p, ∃ ys : List Str, x = .str a ∧ xs = [.ref p] ∧ (SqL K H p (ys.map V.str) ∨ SqT K H p (ys.map V.str)) ∧ (ys.map (·.length)).sum + ys.length * a.length ≤ 16777216 ∧ Q (.str (Txt.join a ys)) H) to te
def tUpper (to : TE) : TE := tM0 (fun x xs H Q => ∃ a, x = .str a ∧ xs = [] ∧ a.length ≤ 5592405 ∧ Q (.str (Txt.upper a)) H) to
end L2

set_option maxHeartbeats 4000000
/-! More steps: join, replace, upper, lists' slices, while, comprehensions to dicts. -/
namespace L2
open PySem PySem.Spec PyProof.Rows
theorem joinL0 : ∀ ys : List (List Nat), TL.joinL [] ys = ys.flatten
  | [] => rfl
  | [p] => by show p = _; simp
  | p :: q :: r => by
    show p ++ ([] ++ TL.joinL [] (q :: r)) = _
    rw [joinL0 (q :: r), List.nil_append]
    rfl
theorem join_tx (ys : List (List Nat)) : Txt.join ("" : Str) (ys.map tx) = tx ys.flatten := by
  have h := SX.join_S [] ys
  rw [joinL0] at h
  exact h
theorem replL_one (c : Nat) (z : List Nat) : ∀ l : List Nat, StrLaws.replL [c] z l = l.flatMap fun d => if d = c then z else [d]
  | [] => StrLaws.replL_nil
  | d :: r => by
    by_cases e : d = c
    · rw [StrLaws.replL_hit (by simp) (by simp [e])]
      simp [replL_one c z r, e]
    · rw [StrLaws.replL_miss (by simp [e])]
      simp [replL_one c z r, e]
theorem repl_tx (l z : List Nat) (c : Nat) : Txt.replace (tx l) (tx [c]) (tx z) = tx (l.flatMap fun d => if d = c then z else [d]) := by
  refine TL.ext_tl ?_
  show (Txt.replace (tx l) (tx [c]) (tx z)).cps.toList = _
  rw [StrLaws.replace_list (by show 1 ≤ (tx [c]).length; rw [tx_len]; exact Nat.le_refl _), tx_list, tx_list, tx_list, replL_one]
  exact (tx_list _).symm
theorem upper_tx {l : List Nat} (h : ∀ c ∈ l, c < 128) : Txt.upper (tx l) = tx (l.map PyProof.Rows.up1) := SX.upper_S (List.all_eq_true.mpr fun c hc => decide_eq_true (h c hc))
theorem repT_tx (l : List Nat) : ∀ n : Nat, repT (tx l) n = tx (List.replicate n l).flatten := fun n => by
  refine TL.ext_tl ?_
  show ((List.replicate n (tx l).cps).foldl (· ++ ·) #[]).toList = (tx (List.replicate n l).flatten).cps.toList
  rw [tx_list]
  have go : ∀ (n : Nat) (a : Array Nat), ((List.replicate n (tx l).cps).foldl (· ++ ·) a).toList = a.toList ++ (List.replicate n l).flatten := by
    intro n
    induction n with
    | zero => intro a; simp
    | succ n ih =>
      intro a
      rw [List.replicate_succ, List.foldl_cons, ih, List.replicate_succ, List.flatten_cons, Array.toList_append, tx_list, List.append_assoc]
  rw [go]
  simp
section
variable {K : PySem.W.Frag} {σ : St} {H : Hp} {Q : VK} {te to ti tv : TE} {N B C' : St → Hp → Prop} {R : VK}
theorem w_joinT (h : te σ H fun y H2 => ∃ a p, ∃ ys : List Str, V.str "" = .str a ∧ [y] = [.ref p] ∧ (SqL K H2 p (ys.map V.str) ∨ SqT K H2 p (ys.map V.str)) ∧ (ys.map (·.length)).sum + ys.length * a.length ≤ 16777216 ∧ Q (.str (Txt.join a ys)) H2) : tJoin K (tC (.str "")) te σ H Q := ⟨⟨_, rfl⟩, h⟩
/-- what a join asks of its list -/
theorem w_joinE {P : Str → List Str → Prop} {p : Addr} {ys : List (List Nat)} (hs : SqL K H p (ys.map fun k => V.str (tx k))) (hl : ys.flatten.length ≤ 1000000) (q : P ("" : Str) (ys.map tx)) :
    ∃ a p', ∃ zs : List Str, V.str "" = .str a ∧ [V.ref p] = [.ref p'] ∧ (SqL K H p' (zs.map V.str) ∨ SqT K H p' (zs.map V.str)) ∧ (zs.map (·.length)).sum + zs.length * a.length ≤ 16777216 ∧ P a zs := by
  refine ⟨_, p, ys.map tx, rfl, rfl, .inl (by rw [List.map_map]; exact hs), ?_, q⟩
  rw [List.map_map]
  have e : (ys.map ((fun x : Str => x.length) ∘ tx)).sum = ys.flatten.length := by
    rw [List.length_flatten]
    exact congrArg List.sum (List.map_congr_left fun a _ => tx_len a)
  rw [e]
  show ys.flatten.length + (ys.map tx).length * 0 ≤ 16777216
  rw [Nat.mul_zero]
  exact Nat.le_trans hl (by decide)
theorem w_repl {y c : Str} (h : to σ H fun v H1 => ∃ x, v = .str x ∧ te σ H1 fun w H2 => ∃ z, w = .str z ∧ z.length ≠ 0 ∧ z.length + c.length ≤ 1000000 ∧ (y == z ++ c) = false ∧ x.length + (x.length + 1) * (z ++ c).length ≤ 16777216 ∧ Q (.str (Txt.replace x y (z ++ c))) H2) : tReplA to te y c σ H Q := h
theorem repl_in (l z : List Nat) : Txt.replace (tx l) (tx [40]) (tx z ++ tx [40]) = tx (l.flatMap fun d => if d = 40 then z ++ [40] else [d]) := by rw [tx_app, repl_tx]
theorem w_replC {P : Prop} {l z : List Nat} (hz : z ≠ []) (h1 : l.length ≤ 2000) (h2 : z.length ≤ 1000) (q : P) :
    (tx z).length ≠ 0 ∧ (tx z).length + (tx [40]).length ≤ 1000000 ∧ (tx [40] == tx z ++ tx [40]) = false ∧ (tx l).length + ((tx l).length + 1) * (tx z ++ tx [40]).length ≤ 16777216 ∧ P := by
  have hz2 : z.length ≠ 0 := fun e => hz (List.eq_nil_of_length_eq_zero e)
  refine ⟨by rw [tx_len]; exact hz2, by rw [tx_len, tx_len]; simp; omega, ?_, ?_, q⟩
  · refine beq_eq_false_iff_ne.mpr fun e => ?_
    rw [tx_app] at e
    have := congrArg List.length (tx_inj e)
    simp at this
    exact hz this
  · rw [tx_app, tx_len, tx_len, List.length_append, List.length_singleton]
    have : (l.length + 1) * (z.length + 1) ≤ 2001 * 1001 := Nat.mul_le_mul (by omega) (by omega)
    omega
theorem w_upper (h : to σ H fun x H1 => (∃ a, x = .str a) ∧ ∃ a, x = .str a ∧ ([] : List V) = [] ∧ a.length ≤ 5592405 ∧ Q (.str (Txt.upper a)) H1) : tUpper to σ H Q := h
theorem w_upperE {P : Str → Prop} {l : List Nat} (hl : l.length ≤ 1000000) (q : P (tx l)) : (∃ a, V.str (tx l) = .str a) ∧ ∃ a, V.str (tx l) = .str a ∧ ([] : List V) = [] ∧ a.length ≤ 5592405 ∧ P a :=
  ⟨⟨_, rfl⟩, _, rfl, rfl, by rw [tx_len]; omega, q⟩
theorem w_dgI {P : V → Prop} {a : Addr} {kvs : List (Key × V)} {k : Int} {v : V} (h : H a = some (.dK kvs)) (e : valV kvs (Sum.inl k) = some v) (q : P v) : ∃ b v, V.ref a = .ref b ∧ DGet H b (.int k) (some v) ∧ P v := ⟨a, v, rfl, by rw [← e]; exact dget_i h, q⟩
theorem w_mulX {l : List Nat} {n : Nat} (h2 : 2 ≤ n) (hl : l ≠ []) (hz : l.length * n ≤ 1000000) (hn : n ≤ 1000000) (q : Q (.str (tx (List.replicate n l).flatten)) H) : xMulS (.str (tx l)) (.int (n : Nat)) H Q :=
  ⟨_, n, rfl, rfl, h2, by rw [tx_len]; exact fun e => hl (List.eq_nil_of_length_eq_zero e), by rw [tx_len]; exact hz, hn, by rw [repT_tx]; exact q⟩
theorem w_un {r : V → Hp → VK → Prop} (h : te σ H fun x H1 => r x H1 Q) : tUn r te σ H Q := h
theorem w_neg {i : Int} (q : Q (.int (-i)) H) : rU (fun i => .int (-i)) (.int i) H Q := ⟨i, rfl, q⟩
theorem w_pop {l : Addr} {xs : List V} {y : V} (h : H l = some (.lst xs)) (hy : xs[xs.length - 1]? = some y) (q : Q y (upd H l (.lst xs.dropLast))) : rPop (.ref l) [] H Q := ⟨l, xs, y, rfl, rfl, h, hy, q⟩
theorem w_cat {l b : Addr} {xs zs : List V} (h1 : H l = some (.lst xs)) (h2 : H b = some (.lst zs)) (hl : xs.length + zs.length ≤ 1000000) (q : ∀ p, H p = none → Q (.ref p) (upd H p (.lst (xs ++ zs)))) : rCat (.ref l) (.ref b) H Q := ⟨l, b, xs, zs, rfl, rfl, h1, h2, sz_le hl, q⟩
theorem w_augS {tget : V → V → Hp → VK → Prop} {tip : TIp} {tset : TSet} (h : to σ H fun o H1 => ti σ H1 fun i H2 => tget o i H2 fun x H3 => te σ H3 fun y H4 => tip x y H4 fun z H5 => tset o i z H5 fun H6 => N σ H6) : tAugS to ti te tget tip tset ⟨N, R, B, C'⟩ σ H := h
theorem w_ip {f : Int → Int → Int} {i j : Int} (q : Q (.int (f i j)) H) : ipI f (.int i) (.int j) H Q := ⟨i, j, rfl, rfl, q⟩
/-! while -/
def WhT (m : Nat) (P : Nat → St → Hp → Prop) (tb : TS) (R : VK) (N : St → Hp → Prop) (σ : St) (H1 : Hp) : Prop := ∃ N' : St → Hp → Prop, (∀ σ' H', N' σ' H' → ∃ m', m' < m ∧ P m' σ' H') ∧ tb { nx := N', rt := R, bk := N, ct := N' } σ H1
theorem WhT.mk {m : Nat} {P : Nat → St → Hp → Prop} {tb : TS} {H1 : Hp} (h : tb ⟨fun σ' H' => ∃ m', m' < m ∧ P m' σ' H', R, N, fun σ' H' => ∃ m', m' < m ∧ P m' σ' H'⟩ σ H1) : WhT m P tb R N σ H1 := ⟨_, fun _ _ z => z, h⟩
theorem whileJ {c : TT} {tb : TS} (n : Nat) (P : Nat → St → Hp → Prop) (h0 : P n σ H) (hs : ∀ m σ H, P m σ H → c σ H fun b H1 => if b = true then WhT m P tb R N σ H1 else N σ H1) : tWhile c tb ⟨N, R, B, C'⟩ σ H := ⟨P, ⟨n, h0⟩, hs⟩
/-! reversed list -/
theorem forV {g : TG} {tb : TS} {a : Addr} {α : Type} {f : α → V} {l : List α} (Pv : Nat → St → Hp → Prop) (h0 : Pv 0 σ H) (hl : ∀ i σ H, Pv i σ H → SqL K H a (l.map f))
    (hs : ∀ i y σ H, i < l.length → l[l.length - 1 - i]? = some y → Pv i σ H → g (f y) σ H fun σ2 H2 => tb ⟨Pv (i + 1), R, N, Pv (i + 1)⟩ σ2 H2) (hd : ∀ σ H, Pv l.length σ H → N σ H) : ForJ (Itv K a l.length) g tb ⟨N, R, B, C'⟩ σ H := by
  have get : ∀ i (hi : i < l.length), (l.map f)[l.length - 1 - i]? = some (f (l[l.length - 1 - i]'(by omega))) := fun i hi => by
    rw [List.getElem?_map, List.getElem?_eq_getElem (by omega)]
    rfl
  refine forJ l.length Pv h0 (fun σ H p => Nat.le_refl _) (fun i σ H hi p => ⟨hi, _, _, hl _ σ H p, get i hi⟩) (fun i σ H x H' hi p y => ?_) hd
  obtain ⟨rfl, y⟩ := y
  have e := y _ (hl _ σ _ p)
  rw [get i hi] at e
  have e2 : x = f (l[l.length - 1 - i]'(by omega)) := (Option.some.inj e).symm
  rw [e2]
  exact hs i _ σ _ hi (List.getElem?_eq_getElem (by omega)) p
theorem w_iRev {ta : TA} {Ri : It → Hp → Prop} (h : ta σ H fun vs H1 => ∃ (a : Addr) (xs : List V), vs = [.ref a] ∧ SqL K H1 a xs ∧ Ri (Itv K a xs.length) H1) : iRev K ta σ H Ri := h
/-! comprehensions to dicts -/
def DcJ (J : It) (g : TG) (tt : TT) (tk tv : TE) (vs : List Nat) (σ : St) (D : Addr) (H1 : Hp) (Q : VK) : Prop := ∃ W : Nat → Nat → Hp → Prop, (∃ m, W 0 m (upd H1 D (.dK []))) ∧ ∀ i m H, W i m H →
  (J.stop i H ∧ Q (.ref D) H) ∨ (J.go i H ∧ ∃ Nx : Hp → Prop, (∀ H', Nx H' → ∃ m', m' < m ∧ W (i + 1) m' H') ∧ ∀ x H', J.yld i H x H' → g x (wipe σ vs) H' fun σ2 H2 => wipe σ2 vs = wipe σ vs ∧ tt σ2 H2 fun b H3 =>
    if b = true then tk σ2 H3 fun y H4 => tv σ2 H4 fun z H5 => ∃ kvs k, y = kV k ∧ H5 D = some (.dK kvs) ∧ kvs.length < sizeLine ∧ Nx (upd H5 D (.dK (putK kvs k z))) else Nx H3)
theorem w_dc {wi : TI} {g : TG} {tt : TT} {tk tv : TE} {vs : List Nat} (h : wi σ H fun J H1 => ∀ D, H1 D = none → DcJ J g tt tk tv vs σ D H1 Q) : tDc wi g tt tk tv vs σ H Q := h
/-- a turn's end -/
def DcU (D : Addr) (P : List (Key × V) → Hp → Prop) (H : Hp) : Prop := ∃ kvs, H D = some (.dK kvs) ∧ P kvs H
def DcT (D : Addr) (P : List (Key × V) → Hp → Prop) (y z : V) (H : Hp) : Prop := ∃ kvs k, y = kV k ∧ H D = some (.dK kvs) ∧ kvs.length < sizeLine ∧ DcU D P (upd H D (.dK (putK kvs k z)))
theorem DcT.mk {D : Addr} {P : List (Key × V) → Hp → Prop} {k : Key} {z : V} {kvs : List (Key × V)} (h : H D = some (.dK kvs)) (hl : kvs.length < 1000000) (p : P (putK kvs k z) (upd H D (.dK (putK kvs k z)))) : DcT D P (kV k) z H := ⟨kvs, k, rfl, h, sz_lt1 hl, _, upd_same, p⟩
theorem dcL {g : TG} {tt : TT} {tk tv : TE} {vs : List Nat} {D : Addr} {H1 : Hp} {a : Addr} {α : Type} {f : α → V} {l : List α} (Pv : Nat → List (Key × V) → Hp → Prop) (h0 : Pv 0 [] (upd H1 D (.dK []))) (hl : ∀ i kvs H, H D = some (.dK kvs) → Pv i kvs H → SqL K H a (l.map f))
    (hs : ∀ i y kvs H, l[i]? = some y → H D = some (.dK kvs) → Pv i kvs H → g (f y) (wipe σ vs) H fun σ2 H2 => wipe σ2 vs = wipe σ vs ∧ tt σ2 H2 fun b H3 => if b = true then tk σ2 H3 fun y H4 => tv σ2 H4 fun z H5 => DcT D (Pv (i + 1)) y z H5 else DcU D (Pv (i + 1)) H3)
    (hd : ∀ kvs H, H D = some (.dK kvs) → Pv l.length kvs H → Q (.ref D) H) : DcJ (Itl K a) g tt tk tv vs σ D H1 Q := by
  refine ⟨fun i m H => m = l.length - i ∧ i ≤ l.length ∧ ∃ kvs, H D = some (.dK kvs) ∧ Pv i kvs H, ⟨l.length, by simp, Nat.zero_le _, [], upd_same, h0⟩, ?_⟩
  rintro i m H ⟨rfl, hi, kvs, hD, p⟩
  have q := hl i kvs H hD p
  by_cases hlt : i < l.length
  · refine .inr ⟨⟨_, f l[i], q, by rw [List.getElem?_map, List.getElem?_eq_getElem hlt]; rfl⟩, DcU D (Pv (i + 1)), fun H' ⟨kvs, a, b⟩ => ⟨l.length - (i + 1), by omega, rfl, hlt, kvs, a, b⟩, fun x H' y => ?_⟩
    obtain ⟨rfl, y⟩ := y
    have e := y _ q
    rw [List.getElem?_map, List.getElem?_eq_getElem hlt] at e
    have e2 : x = f l[i] := (Option.some.inj e).symm
    rw [e2]
    have h := hs i l[i] kvs _ (List.getElem?_eq_getElem hlt) hD p
    exact h
  · have e : i = l.length := by omega
    subst e
    exact .inl ⟨⟨_, q, by rw [List.length_map]; exact Nat.le_refl _⟩, hd kvs H hD p⟩
theorem w_listZip {ta : TA} (h : ta σ H fun vs H1 => ∃ (a b : Addr) (xs ys : List V), vs = [.ref a, .ref b] ∧ SqL K H1 a xs ∧ SqL K H1 b ys ∧ xs.length = ys.length ∧
  ∀ (H' : Hp) (p : Addr) (ts : List Addr), (∀ c o, H1 c = some o → H' c = some o) → H1 p = none → (∀ t ∈ ts, H1 t = none) → p ∉ ts → H' p = some (.lst (ts.map V.ref)) → PairsOf H' ts xs ys → Q (.ref p) H') : tListZip K ta σ H Q := h
end
end L2

set_option maxHeartbeats 4000000
/-! Two tuples of ints and texts, alike: ==, != -/
namespace L2
open PySem PySem.Spec PyProof.Rows
def atD : V → PyData
  | .int i => .int i
  | .bl b => .bool b
  | .str s => .str s
  | _ => .none
def atOk : V → Prop
  | .int _ => True
  | .bl _ => True
  | .non => True
  | .str s => PyData.strOk s = true
  | _ => False
theorem atOk_tx {l : List Nat} (h : ∀ c ∈ l, c < 1114112) : atOk (.str (tx l)) := by
  show PyData.strOk (tx l) = true
  unfold PyData.strOk tx
  rw [← Array.all_toList]
  exact List.all_eq_true.mpr fun c hc => decide_eq_true (h c hc)
theorem dp_at {K : PySem.W.Frag} {H : Hp} : ∀ {v : V}, atOk v → Dp K H v (atD v)
  | .int i, _ => .int i
  | .bl b, _ => .bl b
  | .non, _ => .non
  | .str s, _ => .str s
  | .ref _, h => False.elim h
  | .ty _, h => False.elim h
theorem dp_all {K : PySem.W.Frag} {H : Hp} : ∀ {xs : List V}, (∀ v ∈ xs, atOk v) → DpAll K H xs (xs.map atD)
  | [], _ => .nil
  | v :: vs, h => .cons (dp_at (h v List.mem_cons_self)) (dp_all fun u hu => h u (List.mem_cons_of_mem _ hu))
theorem lay_at : ∀ {v : V}, atOk v → (atD v).canLay0 = true ∧ (atD v).depth = 0 ∧ PyData.eqv (atD v) (atD v) = true
  | .int i, _ => ⟨by simp only [atD, PyData.canLay0], by simp only [atD, PyData.depth], by simp [atD, PyData.eqv]⟩
  | .bl b, _ => ⟨by simp only [atD, PyData.canLay0], by simp only [atD, PyData.depth], by simp [atD, PyData.eqv]⟩
  | .non, _ => ⟨by simp only [atD, PyData.canLay0], by simp only [atD, PyData.depth], by simp [atD, PyData.eqv]⟩
  | .str s, h => ⟨by simp only [atD, PyData.canLay0]; exact h, by simp only [atD, PyData.depth], by simp [atD, PyData.eqv]⟩
  | .ref _, h => False.elim h
  | .ty _, h => False.elim h
theorem lay_all : ∀ {xs : List V}, (∀ v ∈ xs, atOk v) → PyData.canLayAll0 (xs.map atD) = true ∧ PyData.depthAll (xs.map atD) = 0 ∧ PyData.eqvAll (xs.map atD) (xs.map atD) = true
  | [], _ => ⟨by simp [PyData.canLayAll0], by simp [PyData.depthAll], by simp [PyData.eqvAll]⟩
  | v :: vs, h => by
    obtain ⟨a, b, c⟩ := lay_at (h v List.mem_cons_self)
    obtain ⟨d, e, f⟩ := lay_all fun u hu => h u (List.mem_cons_of_mem _ hu)
    refine ⟨?_, ?_, ?_⟩
    · rw [List.map_cons, PyData.canLayAll0, a, d]; rfl
    · rw [List.map_cons, PyData.depthAll, b, e]; rfl
    · rw [List.map_cons, PyData.eqvAll, c, f]; rfl
section
variable {K : PySem.W.Frag} {H : Hp} {Q : VK} {a b : Addr} {xs : List V}
theorem shp_all (h : ∀ v ∈ xs, atOk v) : SeqAt.shaped (.tuple (xs.map atD)) = true := by
  obtain ⟨c, d, _⟩ := lay_all h
  unfold SeqAt.shaped
  rw [PyData.canLay0, PyData.depth, c, d]
  rfl
theorem w_eqDT (h1 : SqT K H a xs) (h2 : SqT K H b xs) (h : ∀ v ∈ xs, atOk v) (q : Q (.bl true) H) : rEqD K (.ref a) (.ref b) H Q :=
  ⟨_, _, .tup h1 (dp_all h), .tup h2 (dp_all h), shp_all h, shp_all h, by rw [PyData.eqv, (lay_all h).2.2]; exact q⟩
theorem w_neDT (h1 : SqT K H a xs) (h2 : SqT K H b xs) (h : ∀ v ∈ xs, atOk v) (q : Q (.bl false) H) : rNeD K (.ref a) (.ref b) H Q :=
  ⟨_, _, .tup h1 (dp_all h), .tup h2 (dp_all h), shp_all h, shp_all h, by rw [PyData.eqv, (lay_all h).2.2]; exact q⟩
end
theorem w_xf {a : Addr} {cls : Value} {d : Option Addr} {C : Addr} {f : Str} {te : TE} {σ : L2.St} {H : Hp} {Q : VK} (h : te σ H fun x H1 => x = .ref a ∧ cls = .ref C ∧ ∃ (dd : Addr) (fs : List (Str × V)) (v : V), d = some dd ∧ H1 dd = some (.xd fs) ∧ fs.lookup f = some v ∧ Q v H1) : tXf a cls d C f te σ H Q := h
theorem w_callS {sp : Sp} {E : L2.St → XK} {t : TA} {σ : L2.St} {H : Hp} {Q : VK} (h : t σ H fun vs H1 => sp vs H1 Q (E σ)) : tCallS sp E t σ H Q := h
theorem w_callP {sp : SpX} {a : Addr} {cls : Value} {d : Option Addr} {t : TA} {σ : L2.St} {H : Hp} {Q : VK} (h : t σ H fun vs H1 => sp a cls d vs H1 Q fun _ _ _ => False) : tCallP sp a cls d t σ H Q := h
end L2

set_option maxHeartbeats 4000000
/-! Trees and their texts, in plain lists. -/
namespace L2
open PySem
inductive Tr where
  | node (l : Nat) (ks : List Tr)
def Tr.ltr : Tr → Nat
  | .node l _ => l
def Tr.kids : Tr → List Tr
  | .node _ ks => ks
mutual
def tt : Tr → List Nat
  | .node l [] => [l]
  | .node l (k :: ks) => l :: 40 :: (tt k ++ tts ks ++ [41])
def tts : List Tr → List Nat
  | [] => []
  | k :: ks => tt k ++ tts ks
end
theorem tts_flat : ∀ ks : List Tr, tts ks = ks.flatMap tt
  | [] => by rw [tts]; rfl
  | k :: ks => by rw [tts, tts_flat ks]; rfl
theorem tt_leaf (l : Nat) : tt (.node l []) = [l] := by rw [tt]
theorem tt_node {l : Nat} {ks : List Tr} (h : ks ≠ []) : tt (.node l ks) = l :: 40 :: (ks.flatMap tt ++ [41]) := by
  cases ks with
  | nil => exact absurd rfl h
  | cons k r => rw [tt, ← tts_flat, tts]
mutual
def tsz : Tr → Nat
  | .node _ ks => 1 + tszs ks
def tszs : List Tr → Nat
  | [] => 0
  | k :: ks => tsz k + tszs ks
end
theorem tszs_sum : ∀ ks : List Tr, tszs ks = (ks.map tsz).sum
  | [] => by rw [tszs]; rfl
  | k :: ks => by rw [tszs, tszs_sum ks]; rfl
theorem tsz_node (l : Nat) (ks : List Tr) : tsz (.node l ks) = 1 + (ks.map tsz).sum := by rw [tsz, tszs_sum]
theorem sum_mem {n : Nat} : ∀ {l : List Nat}, n ∈ l → n ≤ l.sum
  | a :: r, h => by
    rw [List.sum_cons]
    rcases List.mem_cons.mp h with rfl | h
    · omega
    · have := sum_mem h
      omega
/-- a rule of induction -/
theorem Tr.ind {P : Tr → Prop} (h : ∀ l ks, (∀ k ∈ ks, P k) → P (.node l ks)) : ∀ T, P T := fun T => by
  have go : ∀ n T, tsz T ≤ n → P T := by
    intro n
    induction n with
    | zero =>
      intro T hT
      cases T with
      | node l ks => rw [tsz_node] at hT; omega
    | succ n ih =>
      intro T hT
      cases T with
      | node l ks =>
        refine h l ks fun k hk => ih k ?_
        rw [tsz_node] at hT
        have : tsz k ≤ (ks.map tsz).sum := sum_mem (List.mem_map.mpr ⟨k, hk, rfl⟩)
        omega
  exact go _ T (Nat.le_refl _)
theorem tt_len (T : Tr) : (tt T).length ≤ 3 * tsz T := by
  induction T using Tr.ind with
  | h l ks ih =>
    by_cases e : ks = []
    · subst e
      rw [tt_leaf, tsz_node]
      simp
    · rw [tt_node e, tsz_node, List.length_cons, List.length_cons, List.length_append, List.length_flatMap, List.length_singleton]
      have : (ks.map fun k => (tt k).length).sum ≤ 3 * (ks.map tsz).sum := by
        clear e
        induction ks with
        | nil => simp
        | cons k r ihr =>
          have h1 := ih k List.mem_cons_self
          have h2 := ihr fun q hq => ih q (List.mem_cons_of_mem _ hq)
          simp only [List.map_cons, List.sum_cons]
          omega
      omega
theorem tt_pos (T : Tr) : 0 < (tt T).length := by
  cases T with
  | node l ks =>
    by_cases e : ks = []
    · subst e; rw [tt_leaf]; simp
    · rw [tt_node e]; simp
theorem tt_head (T : Tr) : ∃ r, tt T = T.ltr :: r := by
  cases T with
  | node l ks =>
    by_cases e : ks = []
    · subst e; exact ⟨[], by rw [tt_leaf]; rfl⟩
    · exact ⟨_, by rw [tt_node e]; rfl⟩
/-- well formed over the letters -/
inductive WT (L : List Nat) : Tr → Prop where
  | node {l : Nat} {ks : List Tr} : l ∈ L → ks.length ≤ 3 → (∀ k ∈ ks, WT L k) → WT L (.node l ks)
theorem WT.ltr {L : List Nat} {T : Tr} (h : WT L T) : T.ltr ∈ L := by cases h; assumption
theorem WT.kids {L : List Nat} {T : Tr} (h : WT L T) : ∀ k ∈ T.kids, WT L k := by cases h; assumption
/-- letters are no brackets -/
def NoBr (L : List Nat) : Prop := 40 ∉ L ∧ 41 ∉ L
theorem WT.no {L : List Nat} {T : Tr} (h : WT L T) (n : NoBr L) : T.ltr ≠ 40 ∧ T.ltr ≠ 41 := ⟨fun e => n.1 (e ▸ h.ltr), fun e => n.2 (e ▸ h.ltr)⟩
theorem tt_mem {L : List Nat} {T : Tr} (h : WT L T) : ∀ c ∈ tt T, c ∈ L ∨ c = 40 ∨ c = 41 := by
  induction T using Tr.ind with
  | h l ks ih =>
    have h1 := h.ltr
    have hk := h.kids
    intro c hc
    by_cases e : ks = []
    · subst e
      rw [tt_leaf, List.mem_singleton] at hc
      exact .inl (hc ▸ h1)
    · rw [tt_node e, List.mem_cons, List.mem_cons, List.mem_append, List.mem_flatMap, List.mem_singleton] at hc
      rcases hc with rfl | rfl | ⟨k, hm, hc⟩ | rfl
      · exact .inl h1
      · exact .inr (.inl rfl)
      · exact ih k hm (hk k hm) c hc
      · exact .inr (.inr rfl)
/-! the spans, by the walk over the signs -/
structure S3 where
  S : List Nat
  E : List Nat
  O : List Nat
def stp (s : S3) (i c : Nat) : Option S3 :=
  if c = 40 then if s.S = [] then none else some ⟨s.S, s.E, s.O ++ [s.S.length - 1]⟩
  else if c = 41 then match s.O.getLast? with
    | some o => if o < s.E.length then some ⟨s.S, s.E.set o (i + 1), s.O.dropLast⟩ else none
    | none => none
  else some ⟨s.S ++ [i], s.E ++ [i + 1], s.O⟩
def frun (s : S3) : List Nat → Nat → Option S3
  | [], _ => some s
  | c :: r, i => (stp s i c).bind fun s' => frun s' r (i + 1)
theorem frun_app (s : S3) (a b : List Nat) (i : Nat) : frun s (a ++ b) i = (frun s a i).bind fun s' => frun s' b (i + a.length) := by
  induction a generalizing s i with
  | nil => rfl
  | cons c r ih =>
    show (stp s i c).bind _ = _
    rw [show frun s (c :: r) i = (stp s i c).bind fun s' => frun s' r (i + 1) from rfl]
    cases stp s i c with
    | none => rfl
    | some s1 =>
      show frun s1 (r ++ b) (i + 1) = _
      rw [ih]
      show _ = (frun s1 r (i + 1)).bind _
      rw [List.length_cons, show i + 1 + r.length = i + (r.length + 1) by omega]
mutual
/-- the spans from off on, preorder -/
def spn : Tr → Nat → List (Nat × Nat)
  | .node l ks, off => (off, off + (tt (.node l ks)).length) :: spns ks (off + 2)
def spns : List Tr → Nat → List (Nat × Nat)
  | [], _ => []
  | k :: ks, off => spn k off ++ spns ks (off + (tt k).length)
end
theorem spn_node (l : Nat) (ks : List Tr) (off : Nat) : spn (.node l ks) off = (off, off + (tt (.node l ks)).length) :: spns ks (off + 2) := by rw [spn]
theorem spns_nil (off : Nat) : spns [] off = [] := by rw [spns]
theorem spns_cons (k : Tr) (ks : List Tr) (off : Nat) : spns (k :: ks) off = spn k off ++ spns ks (off + (tt k).length) := by rw [spns]
theorem frun_tt {L : List Nat} (n : NoBr L) (T : Tr) (h : WT L T) : ∀ (s : S3) (off : Nat), s.S.length = s.E.length →
    frun s (tt T) off = some ⟨s.S ++ (spn T off).map (·.1), s.E ++ (spn T off).map (·.2), s.O⟩ := by
  induction T using Tr.ind with
  | h l ks ih =>
    intro s off he
    obtain ⟨n0, n1⟩ := h.no n
    have n0' : l ≠ 40 := n0
    have n1' : l ≠ 41 := n1
    have hk := h.kids
    have first : stp s off l = some ⟨s.S ++ [off], s.E ++ [off + 1], s.O⟩ := by
      unfold stp
      rw [if_neg n0', if_neg n1']
    by_cases e : ks = []
    · subst e
      rw [tt_leaf, spn_node, spns_nil, tt_leaf]
      show (stp s off l).bind _ = _
      rw [first]
      rfl
    · have kids : ∀ (ks : List Tr) (s : S3) (off : Nat), (∀ k ∈ ks, ∀ (s : S3) (off : Nat), s.S.length = s.E.length → frun s (tt k) off = some ⟨s.S ++ (spn k off).map (·.1), s.E ++ (spn k off).map (·.2), s.O⟩) → s.S.length = s.E.length →
          frun s (ks.flatMap tt) off = some ⟨s.S ++ (spns ks off).map (·.1), s.E ++ (spns ks off).map (·.2), s.O⟩ := by
        intro ks
        induction ks with
        | nil =>
          intro s off _ _
          rw [spns_nil]
          simp [frun]
        | cons k r ihr =>
          intro s off hh hl
          rw [List.flatMap_cons, frun_app, hh k List.mem_cons_self s off hl, Option.bind_some, ihr _ _ (fun q hq => hh q (List.mem_cons_of_mem _ hq)) (by simp [hl]), spns_cons]
          simp
      rw [tt_node e, spn_node]
      show (stp s off l).bind _ = _
      rw [first, Option.bind_some]
      show (stp ⟨s.S ++ [off], s.E ++ [off + 1], s.O⟩ (off + 1) 40).bind _ = _
      have second : stp ⟨s.S ++ [off], s.E ++ [off + 1], s.O⟩ (off + 1) 40 = some ⟨s.S ++ [off], s.E ++ [off + 1], s.O ++ [s.S.length]⟩ := by
        unfold stp
        rw [if_pos rfl, if_neg (by simp)]
        simp
      rw [second, Option.bind_some, frun_app, kids ks _ _ (fun k hm => ih k hm (hk k hm)) (by simp [he]), Option.bind_some]
      show (stp _ _ 41).bind _ = _
      unfold stp
      rw [if_neg (by decide), if_pos rfl]
      simp only [List.getLast?_append, List.getLast?_singleton, Option.some_or]
      have hlt : s.S.length < (s.E ++ [off + 1] ++ List.map (fun x => x.2) (spns ks (off + 1 + 1))).length := by simp [he]
      rw [if_pos hlt]
      simp only [Option.bind_some, frun, List.dropLast_concat]
      congr 1
      have hset : ∀ (a : List Nat) (x y : Nat) (b : List Nat), (a ++ [x] ++ b).set a.length y = a ++ [y] ++ b := fun a x y b => by
        rw [List.append_assoc, List.append_assoc, List.set_append_right _ _ (Nat.le_refl _), Nat.sub_self]
        rfl
      rw [he, hset]
      simp only [List.map_cons, List.append_assoc, List.singleton_append, S3.mk.injEq, List.append_cancel_left_eq, and_true, true_and]
      rw [tt_node e]
      simp only [List.length_cons, List.length_append, List.length_singleton, List.length_nil, List.cons.injEq, and_true]
      omega
end L2

set_option maxHeartbeats 4000000
/-! Subtrees, brackets, bones. -/
namespace L2
open PySem
mutual
def subsT : Tr → List Tr
  | .node l ks => .node l ks :: subsTs ks
def subsTs : List Tr → List Tr
  | [] => []
  | k :: ks => subsT k ++ subsTs ks
end
theorem subsT_node (l : Nat) (ks : List Tr) : subsT (.node l ks) = .node l ks :: subsTs ks := by rw [subsT]
theorem subsTs_nil : subsTs [] = [] := by rw [subsTs]
theorem subsTs_cons (k : Tr) (ks : List Tr) : subsTs (k :: ks) = subsT k ++ subsTs ks := by rw [subsTs]
theorem subsTs_flat : ∀ ks : List Tr, subsTs ks = ks.flatMap subsT
  | [] => subsTs_nil
  | k :: ks => by rw [subsTs_cons, subsTs_flat ks]; rfl
theorem cut_mid (a b c : List Nat) : cut (a ++ b ++ c) a.length (a.length + b.length) = b := by
  unfold cut
  rw [List.append_assoc, List.drop_left, Nat.add_sub_cancel_left, List.take_left]
theorem spn_cut (T : Tr) : ∀ pre post : List Nat, (spn T pre.length).map (fun p => cut (pre ++ tt T ++ post) p.1 p.2) = (subsT T).map tt := by
  induction T using Tr.ind with
  | h l ks ih =>
    intro pre post
    have kids : ∀ (ks : List Tr) (pre post : List Nat), (∀ k ∈ ks, ∀ pre post : List Nat, (spn k pre.length).map (fun p => cut (pre ++ tt k ++ post) p.1 p.2) = (subsT k).map tt) →
        (spns ks pre.length).map (fun p => cut (pre ++ ks.flatMap tt ++ post) p.1 p.2) = (subsTs ks).map tt := by
      intro ks
      induction ks with
      | nil =>
        intro pre post _
        rw [spns_nil, subsTs_nil]
        rfl
      | cons k r ihr =>
        intro pre post hh
        rw [spns_cons, subsTs_cons, List.map_append, List.map_append]
        congr 1
        · have h1 := hh k List.mem_cons_self pre (r.flatMap tt ++ post)
          rw [List.flatMap_cons]
          simpa [List.append_assoc] using h1
        · have h1 := ihr (pre ++ tt k) post fun q hq => hh q (List.mem_cons_of_mem _ hq)
          rw [List.length_append] at h1
          rw [List.flatMap_cons]
          simpa [List.append_assoc] using h1
    rw [spn_node, subsT_node, List.map_cons, List.map_cons]
    congr 1
    · exact cut_mid pre _ post
    · by_cases e : ks = []
      · subst e
        rw [spns_nil, subsTs_nil]
        rfl
      · have h1 := kids ks (pre ++ [l, 40]) ([41] ++ post) ih
        rw [List.length_append] at h1
        rw [tt_node e]
        simpa [List.append_assoc] using h1
theorem spn_cut0 (T : Tr) : (spn T 0).map (fun p => cut (tt T) p.1 p.2) = (subsT T).map tt := by
  have h := spn_cut T [] []
  simpa using h
/-- where the spans lie -/
theorem spn_in (T : Tr) : ∀ off, ∀ p ∈ spn T off, off ≤ p.1 ∧ p.1 < p.2 ∧ p.2 ≤ off + (tt T).length := by
  induction T using Tr.ind with
  | h l ks ih =>
    intro off p hp
    have kids : ∀ (ks : List Tr) (off : Nat), (∀ k ∈ ks, ∀ off, ∀ p ∈ spn k off, off ≤ p.1 ∧ p.1 < p.2 ∧ p.2 ≤ off + (tt k).length) → ∀ p ∈ spns ks off, off ≤ p.1 ∧ p.1 < p.2 ∧ p.2 ≤ off + (ks.flatMap tt).length := by
      intro ks
      induction ks with
      | nil =>
        intro off _ p hp
        rw [spns_nil] at hp
        cases hp
      | cons k r ihr =>
        intro off hh p hp
        rw [spns_cons] at hp
        rw [List.flatMap_cons, List.length_append]
        rcases List.mem_append.mp hp with hp | hp
        · have := hh k List.mem_cons_self off p hp
          omega
        · have := ihr (off + (tt k).length) (fun q hq => hh q (List.mem_cons_of_mem _ hq)) p hp
          omega
    rw [spn_node] at hp
    rcases List.mem_cons.mp hp with rfl | hp
    · have := tt_pos (.node l ks)
      dsimp only
      omega
    · by_cases e : ks = []
      · subst e
        rw [spns_nil] at hp
        cases hp
      · have := kids ks (off + 2) ih p hp
        rw [tt_node e]
        simp only [List.length_cons, List.length_append, List.length_nil]
        omega
theorem spn_sorted (T : Tr) : ∀ off, ((spn T off).map (·.1)).Pairwise (· < ·) := by
  induction T using Tr.ind with
  | h l ks ih =>
    intro off
    have kids : ∀ (ks : List Tr) (off : Nat), (∀ k ∈ ks, ∀ off, ((spn k off).map (·.1)).Pairwise (· < ·)) → ((spns ks off).map (·.1)).Pairwise (· < ·) ∧ ∀ p ∈ spns ks off, off ≤ p.1 := by
      intro ks
      induction ks with
      | nil =>
        intro off _
        rw [spns_nil]
        exact ⟨List.Pairwise.nil, fun p hp => by cases hp⟩
      | cons k r ihr =>
        intro off hh
        obtain ⟨h1, h2⟩ := ihr (off + (tt k).length) fun q hq => hh q (List.mem_cons_of_mem _ hq)
        rw [spns_cons]
        refine ⟨?_, fun p hp => ?_⟩
        · rw [List.map_append]
          refine List.pairwise_append.mpr ⟨hh k List.mem_cons_self off, h1, fun a ha b hb => ?_⟩
          obtain ⟨p, hp, rfl⟩ := List.mem_map.mp ha
          obtain ⟨q, hq, rfl⟩ := List.mem_map.mp hb
          have := spn_in k off p hp
          have := h2 q hq
          omega
        · rcases List.mem_append.mp hp with hp | hp
          · exact (spn_in k off p hp).1
          · have := h2 p hp
            omega
    obtain ⟨h1, h2⟩ := kids ks (off + 2) ih
    rw [spn_node, List.map_cons]
    refine List.Pairwise.cons (fun a ha => ?_) h1
    obtain ⟨p, hp, rfl⟩ := List.mem_map.mp ha
    have := h2 p hp
    dsimp only
    omega
theorem spn_len (T : Tr) : ∀ off, (spn T off).length = (subsT T).length := fun off => by
  have h := congrArg List.length (spn_cut T (List.replicate off 0) [])
  rw [List.length_map, List.length_map, List.length_replicate] at h
  exact h
theorem spns_mem (a b : List Tr) (k : Tr) : ∀ off, (off + (a.flatMap tt).length, off + (a.flatMap tt).length + (tt k).length) ∈ spns (a ++ k :: b) off := by
  induction a with
  | nil =>
    intro off
    rw [List.nil_append, spns_cons]
    refine List.mem_append_left _ ?_
    cases k with
    | node l ks => rw [spn_node]; exact List.mem_cons_self
  | cons x r ih =>
    intro off
    rw [List.cons_append, spns_cons]
    refine List.mem_append_right _ ?_
    have := ih (off + (tt x).length)
    rw [List.flatMap_cons, List.length_append]
    rw [show off + ((tt x).length + (r.flatMap tt).length) = off + (tt x).length + (r.flatMap tt).length by omega]
    exact this
theorem subs_kids (T : Tr) : ∀ (j : Nat) (S : Tr), (subsT T)[j]? = some S → ∀ k ∈ S.kids, k ∈ (subsT T).drop (j + 1) := by
  induction T using Tr.ind with
  | h l ks ih =>
    intro j S hj k hk
    have kids : ∀ (ks : List Tr), (∀ q ∈ ks, ∀ (j : Nat) (S : Tr), (subsT q)[j]? = some S → ∀ k ∈ S.kids, k ∈ (subsT q).drop (j + 1)) → ∀ (j : Nat) (S : Tr), (subsTs ks)[j]? = some S → ∀ k ∈ S.kids, k ∈ (subsTs ks).drop (j + 1) := by
      intro ks
      induction ks with
      | nil =>
        intro _ j S hj
        rw [subsTs_nil] at hj
        cases hj
      | cons q r ihr =>
        intro hh j S hj k hk
        rw [subsTs_cons] at hj ⊢
        rw [List.getElem?_append] at hj
        rw [List.drop_append]
        split at hj
        · exact List.mem_append_left _ (hh q List.mem_cons_self j S hj k hk)
        · next hge =>
          have := ihr (fun x hx => hh x (List.mem_cons_of_mem _ hx)) _ S hj k hk
          rw [show j - (subsT q).length + 1 = j + 1 - (subsT q).length by omega] at this
          exact List.mem_append_right _ this
    rw [subsT_node] at hj ⊢
    cases j with
    | zero =>
      cases hj
      rw [List.drop_succ_cons, List.drop_zero, subsTs_flat]
      refine List.mem_flatMap.mpr ⟨k, hk, ?_⟩
      cases k with
      | node l2 ks2 => rw [subsT_node]; exact List.mem_cons_self
    | succ j =>
      rw [List.getElem?_cons_succ] at hj
      rw [List.drop_succ_cons]
      exact kids ks ih j S hj k hk
theorem subs_wt {L : List Nat} (T : Tr) : WT L T → ∀ S ∈ subsT T, WT L S := by
  induction T using Tr.ind with
  | h l ks ih =>
    intro h S hS
    rw [subsT_node, subsTs_flat] at hS
    rcases List.mem_cons.mp hS with rfl | hS
    · exact h
    · obtain ⟨k, hk, hS⟩ := List.mem_flatMap.mp hS
      exact ih k hk (h.kids k hk) S hS
theorem subs_len (T : Tr) : ∀ S ∈ subsT T, (tt S).length ≤ (tt T).length := by
  induction T using Tr.ind with
  | h l ks ih =>
    intro S hS
    rw [subsT_node, subsTs_flat] at hS
    rcases List.mem_cons.mp hS with rfl | hS
    · exact Nat.le_refl _
    · obtain ⟨k, hk, hS⟩ := List.mem_flatMap.mp hS
      have h1 := ih k hk S hS
      have e : ks ≠ [] := fun z => by rw [z] at hk; cases hk
      have h2 : (tt k).length ≤ (ks.flatMap tt).length := by
        rw [List.length_flatMap]
        exact sum_mem (List.mem_map.mpr ⟨k, hk, rfl⟩)
      rw [tt_node e]
      simp only [List.length_cons, List.length_append]
      omega
theorem subs_count (T : Tr) : (subsT T).length ≤ (tt T).length := by
  rw [← spn_len T 0]
  have h1 := spn_sorted T 0
  have h2 := spn_in T 0
  have : ∀ (l : List Nat) (lo hi : Nat), l.Pairwise (· < ·) → (∀ a ∈ l, lo ≤ a ∧ a < hi) → lo ≤ hi → l.length ≤ hi - lo := by
    intro l
    induction l with
    | nil => intros; simp
    | cons a r ih =>
      intro lo hi hp hb hlo
      obtain ⟨ha1, ha2⟩ := hb a List.mem_cons_self
      obtain ⟨h1, h2⟩ := List.pairwise_cons.mp hp
      have := ih (a + 1) hi h2 (fun b hb' => ⟨h1 b hb', (hb b (List.mem_cons_of_mem _ hb')).2⟩) ha2
      rw [List.length_cons]
      omega
  have := this _ 0 (tt T).length h1 (fun a ha => by
    obtain ⟨p, hp, rfl⟩ := List.mem_map.mp ha
    have := h2 p hp
    omega) (Nat.zero_le _)
  rw [List.length_map] at this
  omega
/-! flat and boned texts -/
def flatF : List Nat → List Nat
  | [] => []
  | c :: r => (if c = 40 ∨ c = 41 ∨ r.head? ≠ some 40 then [c] else []) ++ flatF r
def boneF (x : Nat) : List Nat → List Nat
  | [] => []
  | c :: r => (if c ≠ 40 ∧ c ≠ 41 ∧ r.head? = some 40 then x else c) :: boneF x r
def rpF (inner : List Nat) (l : List Nat) : List Nat := l.flatMap fun c => if c = 40 then inner ++ [40] else [c]
mutual
def ftT : Tr → List Nat
  | .node l [] => [l]
  | .node _ (k :: ks) => 40 :: (ftT k ++ ftTs ks ++ [41])
def ftTs : List Tr → List Nat
  | [] => []
  | k :: ks => ftT k ++ ftTs ks
end
theorem ftTs_flat : ∀ ks : List Tr, ftTs ks = ks.flatMap ftT
  | [] => by rw [ftTs]; rfl
  | k :: ks => by rw [ftTs, ftTs_flat ks]; rfl
theorem ft_leaf (l : Nat) : ftT (.node l []) = [l] := by rw [ftT]
theorem ft_node {l : Nat} {ks : List Tr} (h : ks ≠ []) : ftT (.node l ks) = 40 :: (ks.flatMap ftT ++ [41]) := by
  cases ks with
  | nil => exact absurd rfl h
  | cons k r => rw [ftT, ← ftTs_flat, ftTs]
mutual
def bone (x : Nat) : Tr → Tr
  | .node l [] => .node l []
  | .node _ (k :: ks) => .node x (bone x k :: bones x ks)
def bones (x : Nat) : List Tr → List Tr
  | [] => []
  | k :: ks => bone x k :: bones x ks
end
theorem bones_map (x : Nat) : ∀ ks : List Tr, bones x ks = ks.map (bone x)
  | [] => by rw [bones]; rfl
  | k :: ks => by rw [bones, bones_map x ks]; rfl
theorem bone_leaf (x l : Nat) : bone x (.node l []) = .node l [] := by rw [bone]
theorem bone_node {x l : Nat} {ks : List Tr} (h : ks ≠ []) : bone x (.node l ks) = .node x (ks.map (bone x)) := by
  cases ks with
  | nil => exact absurd rfl h
  | cons k r => rw [bone, bones_map]; rfl
theorem head_tt (T : Tr) (r : List Nat) : (tt T ++ r).head? = some T.ltr := by
  obtain ⟨q, e⟩ := tt_head T
  rw [e]
  rfl
theorem head_kids {L : List Nat} (n : NoBr L) : ∀ (ks : List Tr) (r : List Nat), (∀ k ∈ ks, WT L k) → (ks.flatMap tt ++ 41 :: r).head? ≠ some 40
  | [], r, _ => by simp
  | k :: ks, r, h => by
    rw [List.flatMap_cons, List.append_assoc, head_tt]
    intro e
    exact ((h k List.mem_cons_self).no n).1 (Option.some.inj e)
theorem flat_tt {L : List Nat} (n : NoBr L) (T : Tr) : WT L T → ∀ r : List Nat, r.head? ≠ some 40 → flatF (tt T ++ r) = ftT T ++ flatF r := by
  induction T using Tr.ind with
  | h l ks ih =>
    intro h r hr
    obtain ⟨n0, n1⟩ := h.no n
    have n0' : l ≠ 40 := n0
    have n1' : l ≠ 41 := n1
    by_cases e : ks = []
    · subst e
      rw [tt_leaf, ft_leaf]
      show (if l = 40 ∨ l = 41 ∨ r.head? ≠ some 40 then [l] else []) ++ flatF r = _
      rw [if_pos (.inr (.inr hr))]
    · have kids : ∀ (ks : List Tr), (∀ k ∈ ks, WT L k) → (∀ k ∈ ks, ∀ r : List Nat, r.head? ≠ some 40 → flatF (tt k ++ r) = ftT k ++ flatF r) → flatF (ks.flatMap tt ++ 41 :: r) = ks.flatMap ftT ++ 41 :: flatF r := by
        intro ks
        induction ks with
        | nil =>
          intro _ _
          show (if 41 = 40 ∨ 41 = 41 ∨ r.head? ≠ some 40 then [41] else []) ++ flatF r = _
          rw [if_pos (.inr (.inl rfl))]
          rfl
        | cons k q ihq =>
          intro hw hh
          rw [List.flatMap_cons, List.flatMap_cons, List.append_assoc, hh k List.mem_cons_self _ (head_kids n q r fun x hx => hw x (List.mem_cons_of_mem _ hx)), ihq (fun x hx => hw x (List.mem_cons_of_mem _ hx)) fun x hx => hh x (List.mem_cons_of_mem _ hx), List.append_assoc]
      have hk := kids ks h.kids fun k hm => ih k hm (h.kids k hm)
      rw [tt_node e, ft_node e]
      have e1 : l :: 40 :: (ks.flatMap tt ++ [41]) ++ r = l :: 40 :: (ks.flatMap tt ++ 41 :: r) := by simp
      rw [e1]
      show (if l = 40 ∨ l = 41 ∨ (40 :: (ks.flatMap tt ++ 41 :: r)).head? ≠ some 40 then [l] else []) ++ flatF (40 :: (ks.flatMap tt ++ 41 :: r)) = _
      rw [if_neg (by simp [n0', n1'])]
      show (if 40 = 40 ∨ 40 = 41 ∨ (ks.flatMap tt ++ 41 :: r).head? ≠ some 40 then [40] else []) ++ flatF (ks.flatMap tt ++ 41 :: r) = _
      rw [if_pos (.inl rfl), hk]
      simp
theorem bone_tt {L : List Nat} (n : NoBr L) (x : Nat) (T : Tr) : WT L T → ∀ r : List Nat, r.head? ≠ some 40 → boneF x (tt T ++ r) = tt (bone x T) ++ boneF x r := by
  induction T using Tr.ind with
  | h l ks ih =>
    intro h r hr
    obtain ⟨n0, n1⟩ := h.no n
    have n0' : l ≠ 40 := n0
    have n1' : l ≠ 41 := n1
    by_cases e : ks = []
    · subst e
      rw [bone_leaf, tt_leaf]
      show (if l ≠ 40 ∧ l ≠ 41 ∧ r.head? = some 40 then x else l) :: boneF x r = _
      rw [if_neg (fun z => hr z.2.2)]
      rfl
    · have kids : ∀ (ks : List Tr), (∀ k ∈ ks, WT L k) → (∀ k ∈ ks, ∀ r : List Nat, r.head? ≠ some 40 → boneF x (tt k ++ r) = tt (bone x k) ++ boneF x r) → boneF x (ks.flatMap tt ++ 41 :: r) = (ks.map (bone x)).flatMap tt ++ 41 :: boneF x r := by
        intro ks
        induction ks with
        | nil =>
          intro _ _
          show (if 41 ≠ 40 ∧ 41 ≠ 41 ∧ r.head? = some 40 then x else 41) :: boneF x r = _
          rw [if_neg (fun z => z.2.1 rfl)]
          rfl
        | cons k q ihq =>
          intro hw hh
          rw [List.flatMap_cons, List.map_cons, List.flatMap_cons, List.append_assoc, hh k List.mem_cons_self _ (head_kids n q r fun x hx => hw x (List.mem_cons_of_mem _ hx)), ihq (fun x hx => hw x (List.mem_cons_of_mem _ hx)) fun x hx => hh x (List.mem_cons_of_mem _ hx), List.append_assoc]
      have hk := kids ks h.kids fun k hm => ih k hm (h.kids k hm)
      have e2 : ks.map (bone x) ≠ [] := fun z => e (List.map_eq_nil_iff.mp z)
      rw [bone_node e, tt_node e, tt_node e2]
      have e1 : l :: 40 :: (ks.flatMap tt ++ [41]) ++ r = l :: 40 :: (ks.flatMap tt ++ 41 :: r) := by simp
      rw [e1]
      show (if l ≠ 40 ∧ l ≠ 41 ∧ (40 :: (ks.flatMap tt ++ 41 :: r)).head? = some 40 then x else l) :: (if 40 ≠ 40 ∧ 40 ≠ 41 ∧ (ks.flatMap tt ++ 41 :: r).head? = some 40 then x else 40) :: boneF x (ks.flatMap tt ++ 41 :: r) = _
      rw [if_pos ⟨n0', n1', rfl⟩, if_neg (fun z => z.1 rfl), hk]
      simp
theorem flat_tt0 {L : List Nat} (n : NoBr L) {T : Tr} (h : WT L T) : flatF (tt T) = ftT T := by
  have := flat_tt n T h [] (by simp)
  simpa [flatF] using this
theorem bone_tt0 {L : List Nat} (n : NoBr L) (x : Nat) {T : Tr} (h : WT L T) : boneF x (tt T) = tt (bone x T) := by
  have := bone_tt n x T h [] (by simp)
  simpa [boneF] using this
theorem rp_app (i a b : List Nat) : rpF i (a ++ b) = rpF i a ++ rpF i b := List.flatMap_append
theorem rp_ft {L : List Nat} (n : NoBr L) (x : Nat) (T : Tr) : WT L T → rpF [x] (ftT T) = tt (bone x T) := by
  induction T using Tr.ind with
  | h l ks ih =>
    intro h
    by_cases e : ks = []
    · subst e
      have n0 : l ≠ 40 := (h.no n).1
      rw [bone_leaf, tt_leaf, ft_leaf]
      simp [rpF, n0]
    · have kids : ∀ ks : List Tr, (∀ k ∈ ks, rpF [x] (ftT k) = tt (bone x k)) → rpF [x] (ks.flatMap ftT) = (ks.map (bone x)).flatMap tt := by
        intro ks
        induction ks with
        | nil => intro _; rfl
        | cons k q ihq =>
          intro hh
          rw [List.flatMap_cons, rp_app, hh k List.mem_cons_self, ihq fun y hy => hh y (List.mem_cons_of_mem _ hy)]
          rfl
      have e2 : ks.map (bone x) ≠ [] := fun z => e (List.map_eq_nil_iff.mp z)
      rw [bone_node e, tt_node e2, ft_node e]
      have hc : rpF [x] (40 :: (ks.flatMap ftT ++ [41])) = x :: 40 :: (rpF [x] (ks.flatMap ftT) ++ [41]) := by
        rw [show (40 :: (ks.flatMap ftT ++ [41])) = [40] ++ ks.flatMap ftT ++ [41] by simp, rp_app, rp_app]
        simp [rpF]
      rw [hc, kids ks fun k hm => ih k hm (h.kids k hm)]
theorem flat_rp {x : Nat} (h0 : x ≠ 40) (h1 : x ≠ 41) : ∀ l : List Nat, flatF (rpF [x] l) = l
  | [] => rfl
  | c :: r => by
    have ih := flat_rp h0 h1 r
    have hh : (rpF [x] r).head? ≠ some 40 := by
      cases r with
      | nil => simp [rpF]
      | cons d q =>
        by_cases e : d = 40
        · subst e
          simp [rpF, h0]
        · simp [rpF, e]
    by_cases e : c = 40
    · subst e
      have e1 : rpF [x] (40 :: r) = x :: 40 :: rpF [x] r := by simp [rpF]
      rw [e1]
      show (if x = 40 ∨ x = 41 ∨ (40 :: rpF [x] r).head? ≠ some 40 then [x] else []) ++ ((if 40 = 40 ∨ 40 = 41 ∨ (rpF [x] r).head? ≠ some 40 then [40] else []) ++ flatF (rpF [x] r)) = _
      rw [if_neg (by simp [h0, h1]), if_pos (.inl rfl), ih]
      rfl
    · have e1 : rpF [x] (c :: r) = c :: rpF [x] r := by simp [rpF, e]
      rw [e1]
      show (if c = 40 ∨ c = 41 ∨ (rpF [x] r).head? ≠ some 40 then [c] else []) ++ flatF (rpF [x] r) = _
      rw [if_pos (.inr (.inr hh)), ih]
      rfl
/-! the brackets' stack -/
def wtop (cs : List Nat) : Nat := cs.getLast?.getD 0
def wmost (cs : List Nat) : Nat := if cs.length = 1 then 1 else 3
def wstep (L cs : List Nat) (ch : Nat) : Option (List Nat) :=
  if ch = 41 then if cs.length = 1 ∨ wtop cs = 0 then none else some cs.dropLast
  else if ch = 40 ∨ ch ∈ L then if wtop cs < wmost cs then some (cs.dropLast ++ [wtop cs + 1] ++ if ch = 40 then [0] else []) else none
  else none
def wrun (L : List Nat) : List Nat → List Nat → Nat → Option Nat
  | cs, [], i => if 1 < cs.length ∨ cs.headD 0 = 0 then some i else none
  | cs, c :: r, i => match wstep L cs c with
    | none => some i
    | some cs' => wrun L cs' r (i + 1)
/-- the stack's form: never empty, no count above its most -/
def WOk (cs : List Nat) : Prop := cs ≠ [] ∧ cs.headD 0 ≤ 1 ∧ ∀ c ∈ cs, c ≤ 3
theorem wtop_snoc (a : List Nat) (t : Nat) : wtop (a ++ [t]) = t := by simp [wtop]
theorem WOk.step {L cs cs' : List Nat} {ch : Nat} (h : WOk cs) (e : wstep L cs ch = some cs') : WOk cs' := by
  obtain ⟨h0, h1, h2⟩ := h
  obtain ⟨a, t, rfl⟩ : ∃ a t, cs = a ++ [t] := ⟨cs.dropLast, cs.getLast h0, (List.dropLast_concat_getLast h0).symm⟩
  unfold wstep at e
  rw [wtop_snoc] at e
  split at e
  · split at e
    · cases e
    · next hn =>
      cases e
      rw [List.dropLast_concat]
      have ha : a ≠ [] := fun z => hn (.inl (by rw [z]; rfl))
      refine ⟨ha, ?_, fun c hc => h2 c (List.mem_append_left _ hc)⟩
      cases a with
      | nil => exact absurd rfl ha
      | cons x r => exact h1
  · split at e
    · split at e
      · next hlt =>
        cases e
        rw [List.dropLast_concat]
        refine ⟨by simp, ?_, fun c hc => ?_⟩
        · cases a with
          | nil =>
            have : wmost [t] = 1 := rfl
            have hlt : t < wmost ([] ++ [t]) := hlt
            simp at hlt ⊢
            omega
          | cons x r => exact h1
        · have hm : wmost (a ++ [t]) ≤ 3 := by unfold wmost; split <;> omega
          rcases List.mem_append.mp hc with hc | hc
          · rcases List.mem_append.mp hc with hc | hc
            · exact h2 c (List.mem_append_left _ hc)
            · rw [List.mem_singleton.mp hc]; omega
          · split at hc
            · rw [List.mem_singleton.mp hc]; omega
            · cases hc
      · cases e
    · cases e
theorem wrun_ft {L : List Nat} (n : NoBr L) (T : Tr) : WT L T → ∀ (a : List Nat) (t : Nat) (r : List Nat) (i : Nat), t < wmost (a ++ [t]) → wrun L (a ++ [t]) (ftT T ++ r) i = wrun L (a ++ [t + 1]) r (i + (ftT T).length) := by
  induction T using Tr.ind with
  | h l ks ih =>
    intro h a t r i hlt
    obtain ⟨n0, n1⟩ := h.no n
    have n0' : l ≠ 40 := n0
    have n1' : l ≠ 41 := n1
    by_cases e : ks = []
    · subst e
      rw [ft_leaf]
      have st : wstep L (a ++ [t]) l = some (a ++ [t + 1]) := by
        unfold wstep
        rw [if_neg n1', if_pos (.inr (show l ∈ L from h.ltr)), wtop_snoc, if_pos hlt, List.dropLast_concat, if_neg n0']
        simp
      show (match wstep L (a ++ [t]) l with | none => some i | some cs' => wrun L cs' r (i + 1)) = _
      rw [st]
      rfl
    · have kids : ∀ (ks : List Tr), (∀ k ∈ ks, ∀ (a : List Nat) (t : Nat) (r : List Nat) (i : Nat), t < wmost (a ++ [t]) → wrun L (a ++ [t]) (ftT k ++ r) i = wrun L (a ++ [t + 1]) r (i + (ftT k).length)) →
          ∀ (a : List Nat) (t : Nat) (r : List Nat) (i : Nat), a ≠ [] → t + ks.length ≤ 3 → wrun L (a ++ [t]) (ks.flatMap ftT ++ r) i = wrun L (a ++ [t + ks.length]) r (i + (ks.flatMap ftT).length) := by
        intro ks
        induction ks with
        | nil => intro _ a t r i _ _; rfl
        | cons k q ihq =>
          intro hh a t r i ha hl
          rw [List.length_cons] at hl
          have hm : wmost (a ++ [t]) = 3 := by
            unfold wmost
            rw [if_neg]
            rw [List.length_append, List.length_singleton]
            have := List.length_pos_iff.mpr ha
            omega
          rw [List.flatMap_cons, List.append_assoc, hh k List.mem_cons_self a t _ i (by omega), ihq (fun y hy => hh y (List.mem_cons_of_mem _ hy)) a (t + 1) r _ ha (by omega), List.length_cons, List.length_append]
          rw [show t + 1 + q.length = t + (q.length + 1) by omega, show i + (ftT k).length + (q.flatMap ftT).length = i + ((ftT k).length + (q.flatMap ftT).length) by omega]
      have hl3 : ks.length ≤ 3 := by cases h; assumption
      rw [ft_node e]
      have st : wstep L (a ++ [t]) 40 = some (a ++ [t + 1] ++ [0]) := by
        unfold wstep
        rw [if_neg (by decide), if_pos (.inl rfl), wtop_snoc, if_pos hlt, List.dropLast_concat, if_pos rfl]
      show (match wstep L (a ++ [t]) 40 with | none => some i | some cs' => wrun L cs' (ks.flatMap ftT ++ [41] ++ r) (i + 1)) = _
      rw [st]
      show wrun L (a ++ [t + 1] ++ [0]) (ks.flatMap ftT ++ [41] ++ r) (i + 1) = _
      rw [show ks.flatMap ftT ++ [41] ++ r = ks.flatMap ftT ++ ([41] ++ r) from List.append_assoc _ _ _, kids ks (fun k hm => ih k hm (h.kids k hm)) (a ++ [t + 1]) 0 ([41] ++ r) (i + 1) (by simp) (by omega), Nat.zero_add]
      have hp : 0 < ks.length := List.length_pos_iff.mpr e
      have st2 : wstep L (a ++ [t + 1] ++ [ks.length]) 41 = some (a ++ [t + 1]) := by
        unfold wstep
        rw [if_pos rfl, wtop_snoc, if_neg, List.dropLast_concat]
        rintro (z | z)
        · simp at z
        · omega
      show (match wstep L (a ++ [t + 1] ++ [ks.length]) 41 with | none => some _ | some cs' => wrun L cs' r _) = _
      rw [st2]
      simp only [List.length_cons, List.length_append, List.length_nil]
      rw [show i + 1 + (ks.flatMap ftT).length + 1 = i + ((ks.flatMap ftT).length + (0 + 1) + 1) by omega]
theorem wrun_ok {L : List Nat} (n : NoBr L) {T : Tr} (h : WT L T) : wrun L [0] (ftT T) 0 = none := by
  have := wrun_ft n T h [] 0 [] 0 (by decide)
  rw [List.append_nil] at this
  rw [show ([0] : List Nat) = [] ++ [0] from rfl, this]
  rfl
end L2

set_option maxHeartbeats 4000000
namespace L2
open PySem PySem.Spec PyProof.Rows He
/-! What the shared tree helpers promise. -/
abbrev xNeg : V → Hp → VK → Prop := rU fun i => .int (-i)
def GoodL (L : List Nat) : Prop := 1 ≤ L.length ∧ L.length ≤ 4 ∧ (∀ c ∈ L, 97 ≤ c ∧ c ≤ 122) ∧ ∀ i a b, L[i]? = some a → L[i + 1]? = some b → a < b
def AllIn (L w : List Nat) : Prop := ∀ c ∈ w, c ∈ L
/-- the first sign of w that is not one of the letters -/
def BadAt (L w : List Nat) (i : Nat) : Prop := (∃ c, w[i]? = some c ∧ c ∉ L) ∧ ∀ j c, j < i → w[j]? = some c → c ∈ L
theorem GoodL.noBr {L : List Nat} (h : GoodL L) : NoBr L := ⟨fun z => by have := h.2.2.1 _ z; omega, fun z => by have := h.2.2.1 _ z; omega⟩
def OkT (l : List Nat) : Prop := ∀ c ∈ l, c < 1114112
def spCL (K : PySem.W.Frag) : Sp := fun vs H Q E => ∃ L, vs = [.str (tx L)] ∧ L.length ≤ 1000 ∧ (GoodL L → Q .non H) ∧ (¬ GoodL L → E (.ref (ga K "BadLetters")) none H)
def spCW (K : PySem.W.Frag) : Sp := fun vs H Q E => ∃ L w, vs = [.str (tx L), .str (tx w)] ∧ L.length ≤ 1000 ∧ w.length ≤ 2000 ∧ (AllIn L w → ∀ H', Same H H' → Q .non H') ∧
  ∀ i, BadAt L w i → ∀ H' d, Same H H' → H' d = some (.xd [("word", .str (tx w)), ("place", .int (i : Nat))]) → E (.ref (ga K "BadWord")) (some d) H'
/-- a tree's text -/
def TreeV (L : List Nat) (T : Tr) : Prop := NoBr L ∧ WT L T ∧ (tt T).length ≤ 2000
def txl (l : List (List Nat)) : List V := l.map fun w => V.str (tx w)
def spSpans : Sp := fun vs H Q _ => ∃ L T, vs = [.str (tx (tt T))] ∧ TreeV L T ∧ ∀ H' p ts, Same H H' → H p = none → H' p = some (.lst (ts.map V.ref)) → PairsOf H' ts ((spn T 0).map fun q => .int (q.1 : Nat)) ((spn T 0).map fun q => .int (q.2 : Nat)) → Q (.ref p) H'
def spSubs : Sp := fun vs H Q _ => ∃ L T, vs = [.str (tx (tt T))] ∧ TreeV L T ∧ ∀ H' p, Same H H' → H p = none → H' p = some (.lst (txl ((subsT T).map tt))) → Q (.ref p) H'
def spKids : Sp := fun vs H Q _ => ∃ L T, vs = [.str (tx (tt T))] ∧ TreeV L T ∧ ∀ H' p, Same H H' → H p = none → H' p = some (.lst (txl (T.kids.map tt))) → Q (.ref p) H'
def spMade (K : PySem.W.Frag) : Sp := fun vs H Q _ => ∃ l a ks, vs = [.str (tx l), .ref a] ∧ SqL K H a (txl ks) ∧ l.length + ks.flatten.length ≤ 100000 ∧ Q (.str (tx (if ks = [] then l else l ++ [40] ++ ks.flatten ++ [41]))) H
def spAlpha : Sp := fun vs H Q _ => ∃ (st c : Addr) (m : Nat), vs = [.ref st, .int (m : Nat)] ∧ StC H st c ∧ 1 ≤ m ∧ m ≤ 4 ∧ ∀ L H', GoodL L → L.length = m → L2.Fr [st] H H' → StC H' st c → Q (.str (tx L)) H'
/-- the table of a tree's growth -/
structure Tab (n : Nat) (L sg : List Nat) (bs : List (List Nat)) : Prop where
  ls : sg.length = n
  lb : bs.length = n
  mem : ∀ c ∈ sg, c ∈ L
  up : ∀ j b, bs[j]? = some b → b.length ≤ 3 ∧ ∀ k ∈ b, j < k ∧ k < n
  one : ∀ k, 1 ≤ k → k < n → bs.flatten.count k = 1
/-- the lists of the table -/
def BsAt (H : Hp) (as : List Addr) (bs : List (List Nat)) : Prop := as.length = bs.length ∧ ∀ (i : Nat) (a : Addr) (b : List Nat), as[i]? = some a → bs[i]? = some b → H a = some (.lst (b.map fun k => V.int (k : Nat)))
def spWritten : Sp := fun vs H Q _ => ∃ (sp bp : Addr) (as : List Addr) (n : Nat) (L sg : List Nat) (bs : List (List Nat)), vs = [.ref sp, .ref bp] ∧ H sp = some (.lst (sg.map fun c => V.str (tx [c]))) ∧ H bp = some (.lst (as.map V.ref)) ∧ BsAt H as bs ∧ Tab n L sg bs ∧ 1 ≤ n ∧ n ≤ 600 ∧
  ∀ H' T, Same H H' → WT L T → tsz T ≤ n → Q (.str (tx (tt T))) H'
def spTree : Sp := fun vs H Q _ => ∃ (st c : Addr) (L : List Nat) (n : Nat), vs = [.ref st, .str (tx L), .int (n : Nat)] ∧ StC H st c ∧ L ≠ [] ∧ L.length ≤ 1000 ∧ 1 ≤ n ∧ n ≤ 600 ∧ ∀ T H', WT L T → tsz T ≤ n → L2.Fr [st] H H' → StC H' st c → Q (.str (tx (tt T))) H'
def spSame : Sp := fun vs H Q _ => ∃ l : List Nat, vs = [.str (tx l), .str (tx l)] ∧ Q (.bl true) H
def spFlat : Sp := fun vs H Q _ => ∃ l : List Nat, vs = [.str (tx l)] ∧ l.length ≤ 5000 ∧ ∀ H', Same H H' → Q (.str (tx (flatF l))) H'
def spBoned : Sp := fun vs H Q _ => ∃ (l : List Nat) (x : Nat), vs = [.str (tx l), .str (tx [x])] ∧ l.length ≤ 5000 ∧ Q (.str (tx (boneF x l))) H
def spSkel : Sp := fun vs H Q _ => ∃ L T x, vs = [.str (tx (tt T)), .str (tx [x])] ∧ TreeV L T ∧ ∀ H', Same H H' → Q (.str (tx (boneF x (tt T)))) H'
def wrI : Option Nat → Int
  | some i => (i : Nat)
  | none => -1
def spWrong : Sp := fun vs H Q _ => ∃ L l, vs = [.str (tx L), .str (tx l)] ∧ L.length ≤ 1000 ∧ l.length ≤ 2000 ∧ ∀ H', Same H H' → Q (.int (wrI (wrun L [0] l 0))) H'
def spRead (K : PySem.W.Frag) : Sp := fun vs H Q E => ∃ L i l, vs = [.str (tx L), .str (tx i), .str (tx l)] ∧ L.length ≤ 1000 ∧ i ≠ [] ∧ i.length ≤ 1000 ∧ l.length ≤ 2000 ∧ (¬ GoodL L → E (.ref (ga K "BadLetters")) none H) ∧
  (GoodL L → ∀ k, BadAt L i k → ∀ H' d, Same H H' → H' d = some (.xd [("word", .str (tx i)), ("place", .int (k : Nat))]) → E (.ref (ga K "BadWord")) (some d) H') ∧
  (GoodL L → AllIn L i → ∀ k, wrun L [0] l 0 = some k → ∀ H' d, Same H H' → H' d = some (.xd [("place", .int (k : Nat))]) → E (.ref (ga K "BadTree")) (some d) H') ∧
  (GoodL L → AllIn L i → wrun L [0] l 0 = none → ∀ H', Same H H' → Q (.str (tx (rpF i l))) H')
def spSpoil : Sp := fun vs H Q _ => ∃ (st c : Addr) (L l : List Nat), vs = [.ref st, .str (tx L), .str (tx l)] ∧ StC H st c ∧ L.length ≤ 1000 ∧ OkT L ∧ l.length ≤ 5000 ∧ OkT l ∧ ∀ m H', m.length ≤ l.length + 1 → OkT m → L2.Fr [st] H H' → StC H' st c → Q (.str (tx m)) H'
def spBadL : Sp := fun vs H Q _ => ∃ (st c : Addr) (L : List Nat), vs = [.ref st, .str (tx L)] ∧ StC H st c ∧ GoodL L ∧ ∀ m H', ¬ GoodL m → m.length ≤ 10 → L2.Fr [st] H H' → StC H' st c → Q (.str (tx m)) H'
abbrev N_dletters : List Str := ["letters", "before", "letter"]
def t_dletters (K : PySem.W.Frag) (E : XK) : TS :=
  (tSeq (tIfS (tOr (tTest (tOp xLt (tCB xLenS (tCons (tVar 0) tNil)) (tC (.int 1)))) (tTest (tOp xGt (tCB xLenS (tCons (tVar 0) tNil)) (tC (.int 4))))) (tRz E (ga K "BadLetters")) tNext)
    (tSeq (tAsg (tC (.str "")) (gName 1))
    (tFor (iStr (tVar 0)) (gName 2) (tSeq (tIfS (tOr (tTest (tOp xNinS (tVar 2) (tC (.str "abcdefghijklmnopqrstuvwxyz")))) (tTest (tOp xLeS (tVar 2) (tVar 1)))) (tRz E (ga K "BadLetters")) tNext)
    (tAsg (tVar 2) (gName 1))))))
theorem start_dletters (a0 : V) : start N_dletters [a0] = [some a0, none, none] := rfl
abbrev N_dword : List Str := ["letters", "word", "place", "letter"]
def t_dword (K : PySem.W.Frag) (E : XK) : TS :=
  (tFor (iEnumS (tCons (tVar 1) tNil)) (gTup K 2 (gCons (gName 2) (gCons (gName 3) gNil))) (tIfS (tTest (tOp xNinS (tVar 3) (tVar 0))) (tRx E (ga K "BadWord") ["word", "place"] (tCons (tVar 1) (tCons (tVar 2) tNil))) tNext))
theorem start_dword (a0 a1 : V) : start N_dword [a0, a1] = [some a0, some a1, none, none] := rfl
abbrev N_dspans : List Str := ["tree", "starts", "stops", "opened", "at", "sign"]
def t_dspans (K : PySem.W.Frag) : TS :=
  (tSeq (tAsg (tLst tNil) (gName 1))
    (tSeq (tAsg (tLst tNil) (gName 2))
    (tSeq (tAsg (tLst tNil) (gName 3))
    (tSeq (tFor (iEnumS (tCons (tVar 0) tNil)) (gTup K 2 (gCons (gName 4) (gCons (gName 5) gNil))) (tIfS (tTest (tOp rEq (tVar 5) (tC (.str "(")))) (tDrop (tBM K "list" rAppend (tVar 3) (tCons (tOp xSub (tCB (xLenQ K) (tCons (tVar 1) tNil)) (tC (.int 1))) tNil))) (tIfS (tTest (tOp rEq (tVar 5) (tC (.str ")")))) (tAsg (tOp xAdd (tVar 4) (tC (.int 1))) (gSub (tVar 2) (tBM0 K "list" rPop (tVar 3)) rSetL)) (tSeq (tDrop (tBM K "list" rAppend (tVar 1) (tCons (tVar 4) tNil)))
    (tDrop (tBM K "list" rAppend (tVar 2) (tCons (tOp xAdd (tVar 4) (tC (.int 1))) tNil)))))))
    (tRet (tListZip K (tCons (tVar 1) (tCons (tVar 2) tNil))))))))
theorem start_dspans (a0 : V) : start N_dspans [a0] = [some a0, none, none, none, none, none] := rfl
abbrev N_dsubs : List Str := ["tree", "start", "stop"]
def t_dsubs (K : PySem.W.Frag) : TS :=
  (tRet (tLc (iList K (tCall spSpans [] E0 (tCons (tVar 0) tNil))) (gTup K 2 (gCons (gName 1) (gCons (gName 2) gNil))) tYes (tSl rSlS (tVar 0) (tPart (tVar 1)) (tPart (tVar 2))) [1, 2]))
theorem start_dsubs (a0 : V) : start N_dsubs [a0] = [some a0, none, none] := rfl
abbrev N_dkids : List Str := ["tree", "stops", "told", "at", "start", "stop"]
def t_dkids (K : PySem.W.Frag) : TS :=
  (tSeq (tAsg (tDc (iList K (tCall spSpans [] E0 (tCons (tVar 0) tNil))) (gTup K 2 (gCons (gName 4) (gCons (gName 5) gNil))) tYes (tVar 4) (tVar 5) [4, 5]) (gName 1))
    (tSeq (tAsg (tLst tNil) (gName 2))
    (tSeq (tAsg (tC (.int 2)) (gName 3))
    (tSeq (tWhile (tTest (tOp xLt (tVar 3) (tOp xSub (tCB xLenS (tCons (tVar 0) tNil)) (tC (.int 1))))) (tSeq (tDrop (tBM K "list" rAppend (tVar 2) (tCons (tSl rSlS (tVar 0) (tPart (tVar 3)) (tPart (tDGet (tVar 1) (tVar 3)))) tNil)))
    (tAsg (tDGet (tVar 1) (tVar 3)) (gName 3))))
    (tRet (tVar 2))))))
theorem start_dkids (a0 : V) : start N_dkids [a0] = [some a0, none, none, none, none, none] := rfl
abbrev N_dmade : List Str := ["letter", "kids"]
def t_dmade (K : PySem.W.Frag) : TS :=
  (tSeq (tIfS (tTest (tOp rEq (tCB (xLenQ K) (tCons (tVar 1) tNil)) (tC (.int 0)))) (tRet (tVar 0)) tNext)
    (tRet (tOp xAddS (tOp xAddS (tOp xAddS (tVar 0) (tC (.str "("))) (tJoin K (tC (.str "")) (tVar 1))) (tC (.str ")")))))
theorem start_dmade (a0 a1 : V) : start N_dmade [a0, a1] = [some a0, some a1] := rfl
abbrev N_dskel : List Str := ["tree", "inner", "told", "part", "kids", "kid"]
def t_dskel (K : PySem.W.Frag) : TS :=
  (tSeq (tAsg tDNewK (gName 2))
    (tSeq (tFor (iRev K (tCons (tCall spSubs [] E0 (tCons (tVar 0) tNil)) tNil)) (gName 3) (tSeq (tAsg (tLc (iList K (tCall spKids [] E0 (tCons (tVar 3) tNil))) (gName 5) tYes (tDGet (tVar 2) (tVar 5)) [5]) (gName 4))
    (sDPut (tVar 2) (tVar 3) (tIf (tTest (tOp xGt (tCB (xLenQ K) (tCons (tVar 4) tNil)) (tC (.int 0)))) (tCall (spMade K) [] E0 (tCons (tVar 1) (tCons (tVar 4) tNil))) (tVar 3)))))
    (tRet (tDGet (tVar 2) (tVar 0)))))
theorem start_dskel (a0 a1 : V) : start N_dskel [a0, a1] = [some a0, some a1, none, none, none, none] := rfl
abbrev N_dfwb : List Str := ["letters", "text", "counts", "at", "sign", "top"]
def t_dfwb (K : PySem.W.Frag) : TS :=
  (tSeq (tAsg (tLst (tCons (tC (.int 0)) tNil)) (gName 2))
    (tSeq (tFor (iEnumS (tCons (tVar 1) tNil)) (gTup K 2 (gCons (gName 3) (gCons (gName 4) gNil))) (tSeq (tAsg (tOp xSub (tCB (xLenQ K) (tCons (tVar 2) tNil)) (tC (.int 1))) (gName 5))
    (tIfS (tTest (tOp rEq (tVar 4) (tC (.str ")")))) (tSeq (tIfS (tOr (tTest (tOp rEq (tVar 5) (tC (.int 0)))) (tTest (tOp rEq (tOp (rIxL K) (tVar 2) (tVar 5)) (tC (.int 0))))) (tRet (tVar 3)) tNext)
    (tDrop (tBM0 K "list" rPop (tVar 2)))) (tIfS (tOr (tTest (tOp rEq (tVar 4) (tC (.str "(")))) (tTest (tOp xInS (tVar 4) (tVar 0)))) (tSeq (tIfS (tTest (tOp rEq (tOp (rIxL K) (tVar 2) (tVar 5)) (tIf (tTest (tOp rEq (tVar 5) (tC (.int 0)))) (tC (.int 1)) (tC (.int 3))))) (tRet (tVar 3)) tNext)
    (tSeq (tAugS (tVar 2) (tVar 5) (tC (.int 1)) (rIxL K) (ipI (· + ·)) rSetL)
    (tIfS (tTest (tOp rEq (tVar 4) (tC (.str "(")))) (tDrop (tBM K "list" rAppend (tVar 2) (tCons (tC (.int 0)) tNil))) tNext))) (tRet (tVar 3))))))
    (tSeq (tIfS (tOr (tTest (tOp xGt (tCB (xLenQ K) (tCons (tVar 2) tNil)) (tC (.int 1)))) (tTest (tOp rEq (tOp (rIxL K) (tVar 2) (tC (.int 0))) (tC (.int 0))))) (tRet (tCB xLenS (tCons (tVar 1) tNil))) tNext)
    (tRet (tUn xNeg (tC (.int 1)))))))
theorem start_dfwb (a0 a1 : V) : start N_dfwb [a0, a1] = [some a0, some a1, none, none, none, none] := rfl
abbrev N_dreadb : List Str := ["letters", "inner", "text", "place"]
def t_dreadb (K : PySem.W.Frag) (E : XK) : TS :=
  (tSeq (tDrop (tCall (spCL K) [] E (tCons (tVar 0) tNil)))
    (tSeq (tDrop (tCall (spCW K) [] E (tCons (tVar 0) (tCons (tVar 1) tNil))))
    (tSeq (tAsg (tCall spWrong [] E0 (tCons (tVar 0) (tCons (tVar 2) tNil))) (gName 3))
    (tSeq (tIfS (tTest (tOp xGe (tVar 3) (tC (.int 0)))) (tRx E (ga K "BadTree") ["place"] (tCons (tVar 3) tNil)) tNext)
    (tRet (tReplA (tVar 2) (tVar 1) "(" "("))))))
theorem start_dreadb (a0 a1 a2 : V) : start N_dreadb [a0, a1, a2] = [some a0, some a1, some a2, none] := rfl
abbrev N_dsame : List Str := ["actual", "due"]
def t_dsame (K : PySem.W.Frag) : TS :=
  (tSeq (tIfS (tTest (tOp xIsN (tVar 1) (tC .non))) (tRet (tOp xIsN (tVar 0) (tC .non))) tNext)
    (tRet (tAndV (tCB (rIsi K) (tCons (tVar 0) (tCons (tC (.ty "str")) tNil))) (tOp rEq (tVar 0) (tVar 1)))))
theorem start_dsame (a0 a1 : V) : start N_dsame [a0, a1] = [some a0, some a1] := rfl
abbrev N_dalpha : List Str := ["state", "many", "signs", "at", "told", "k"]
def t_dalpha (K : PySem.W.Frag) : TS :=
  (tSeq (tAsg (tC (.str "abcdefghijklmnopqrstuvwxyz")) (gName 2))
    (tSeq (tAsg (tCall spNextC [] E0 (tCons (tVar 0) (tCons (tOp xSub (tC (.int 26)) (tOp xMul (tC (.int 6)) (tOp xSub (tVar 1) (tC (.int 1))))) tNil))) (gName 3))
    (tSeq (tAsg (tOp rIxS (tVar 2) (tVar 3)) (gName 4))
    (tSeq (tFor (iRng1 (tCons (tOp xSub (tVar 1) (tC (.int 1))) tNil)) (gName 5) (tSeq (tAsg (tOp xAdd (tOp xAdd (tVar 3) (tC (.int 1))) (tCall spNextC [] E0 (tCons (tVar 0) (tCons (tC (.int 6)) tNil)))) (gName 3))
    (tAsg (tOp xAddS (tVar 4) (tOp rIxS (tVar 2) (tVar 3))) (gName 4))))
    (tRet (tVar 4))))))
theorem start_dalpha (a0 a1 : V) : start N_dalpha [a0, a1] = [some a0, some a1, none, none, none, none] := rfl
abbrev N_dwritten : List Str := ["signs", "below", "texts", "k", "at", "sign", "kid"]
def t_dwritten (K : PySem.W.Frag) : TS :=
  (tSeq (tAsg (tLc (iList K (tVar 0)) (gName 5) tYes (tC (.str "")) [5]) (gName 2))
    (tSeq (tFor (iRng1 (tCons (tCB (xLenQ K) (tCons (tVar 0) tNil)) tNil)) (gName 3) (tSeq (tAsg (tOp xSub (tOp xSub (tCB (xLenQ K) (tCons (tVar 0) tNil)) (tC (.int 1))) (tVar 3)) (gName 4))
    (tSeq (tAsg (tOp (rIxL K) (tVar 0) (tVar 4)) (gSub (tVar 2) (tVar 4) rSetL))
    (tIfS (tTest (tOp xGt (tCB (xLenQ K) (tCons (tOp (rIxL K) (tVar 1) (tVar 4)) tNil)) (tC (.int 0)))) (tAsg (tOp xAddS (tOp xAddS (tOp xAddS (tOp (rIxL K) (tVar 0) (tVar 4)) (tC (.str "("))) (tJoin K (tC (.str "")) (tLc (iList K (tOp (rIxL K) (tVar 1) (tVar 4))) (gName 6) tYes (tOp (rIxL K) (tVar 2) (tVar 6)) [6]))) (tC (.str ")"))) (gSub (tVar 2) (tVar 4) rSetL)) tNext))))
    (tRet (tOp (rIxL K) (tVar 2) (tC (.int 0))))))
theorem start_dwritten (a0 a1 : V) : start N_dwritten [a0, a1] = [some a0, some a1, none, none, none, none, none] := rfl
abbrev N_dtree : List Str := ["state", "letters", "size", "signs", "below", "k", "free", "at", "spot"]
def t_dtree (K : PySem.W.Frag) : TS :=
  (tSeq (tAsg (tLst (tCons (tOp rIxS (tVar 1) (tCall spNextC [] E0 (tCons (tVar 0) (tCons (tCB xLenS (tCons (tVar 1) tNil)) tNil)))) tNil)) (gName 3))
    (tSeq (tAsg (tLst (tCons (tLst tNil) tNil)) (gName 4))
    (tSeq (tFor (iRng1 (tCons (tOp xSub (tVar 2) (tC (.int 1))) tNil)) (gName 5) (tSeq (tAsg (tLc (iRng1 (tCons (tCB (xLenQ K) (tCons (tVar 4) tNil)) tNil)) (gName 7) (tTest (tOp xLt (tCB (xLenQ K) (tCons (tOp (rIxL K) (tVar 4) (tVar 7)) tNil)) (tC (.int 3)))) (tVar 7) [7]) (gName 6))
    (tSeq (tAsg (tOp (rIxL K) (tVar 6) (tCall spNextC [] E0 (tCons (tVar 0) (tCons (tCB (xLenQ K) (tCons (tVar 6) tNil)) tNil)))) (gName 7))
    (tSeq (tIfS (tTest (tOp rEq (tCall spNextC [] E0 (tCons (tVar 0) (tCons (tC (.int 3)) tNil))) (tC (.int 0)))) (tAsg (tOp (rIxL K) (tVar 6) (tUn xNeg (tC (.int 1)))) (gName 7)) tNext)
    (tSeq (tAsg (tCall spNextC [] E0 (tCons (tVar 0) (tCons (tOp xAdd (tCB (xLenQ K) (tCons (tOp (rIxL K) (tVar 4) (tVar 7)) tNil)) (tC (.int 1))) tNil))) (gName 8))
    (tSeq (tAsg (tOp rCat (tOp rCat (tSl (rSlL K) (tOp (rIxL K) (tVar 4) (tVar 7)) tNoPart (tPart (tVar 8))) (tLst (tCons (tCB (xLenQ K) (tCons (tVar 3) tNil)) tNil))) (tSl (rSlL K) (tOp (rIxL K) (tVar 4) (tVar 7)) (tPart (tVar 8)) tNoPart)) (gSub (tVar 4) (tVar 7) rSetL))
    (tSeq (tDrop (tBM K "list" rAppend (tVar 3) (tCons (tOp rIxS (tVar 1) (tCall spNextC [] E0 (tCons (tVar 0) (tCons (tCB xLenS (tCons (tVar 1) tNil)) tNil)))) tNil)))
    (tDrop (tBM K "list" rAppend (tVar 4) (tCons (tLst tNil) tNil))))))))))
    (tRet (tCall spWritten [] E0 (tCons (tVar 3) (tCons (tVar 4) tNil)))))))
theorem start_dtree (a0 a1 a2 : V) : start N_dtree [a0, a1, a2] = [some a0, some a1, some a2, none, none, none, none, none, none] := rfl
abbrev N_dspoil : List Str := ["state", "letters", "tree", "signs", "at", "sign", "choice"]
def t_dspoil (K : PySem.W.Frag) : TS :=
  (tSeq (tAsg (tOp xAddS (tOp xAddS (tC (.str "()")) (tVar 1)) (tC (.str "-"))) (gName 3))
    (tSeq (tAsg (tCall spNextC [] E0 (tCons (tVar 0) (tCons (tOp xAdd (tCB xLenS (tCons (tVar 2) tNil)) (tC (.int 1))) tNil))) (gName 4))
    (tSeq (tAsg (tOp rIxS (tVar 3) (tCall spNextC [] E0 (tCons (tVar 0) (tCons (tCB xLenS (tCons (tVar 3) tNil)) tNil)))) (gName 5))
    (tSeq (tAsg (tCall spNextC [] E0 (tCons (tVar 0) (tCons (tC (.int 4)) tNil))) (gName 6))
    (tSeq (tIfS (tTest (tOp rEq (tVar 6) (tC (.int 0)))) (tRet (tOp xAddS (tSl rSlS (tVar 2) tNoPart (tPart (tVar 4))) (tSl rSlS (tVar 2) (tPart (tOp xAdd (tVar 4) (tC (.int 1)))) tNoPart))) tNext)
    (tSeq (tIfS (tTest (tOp rEq (tVar 6) (tC (.int 1)))) (tRet (tOp xAddS (tOp xAddS (tSl rSlS (tVar 2) tNoPart (tPart (tVar 4))) (tVar 5)) (tSl rSlS (tVar 2) (tPart (tVar 4)) tNoPart))) tNext)
    (tSeq (tIfS (tTest (tOp rEq (tVar 6) (tC (.int 2)))) (tRet (tSl rSlS (tVar 2) tNoPart (tPart (tVar 4)))) tNext)
    (tRet (tOp xAddS (tOp xAddS (tSl rSlS (tVar 2) tNoPart (tPart (tVar 4))) (tVar 5)) (tSl rSlS (tVar 2) (tPart (tOp xAdd (tVar 4) (tC (.int 1)))) tNoPart))))))))))
theorem start_dspoil (a0 a1 a2 : V) : start N_dspoil [a0, a1, a2] = [some a0, some a1, some a2, none, none, none, none] := rfl
abbrev N_dbadl : List Str := ["state", "letters"]
def t_dbadl (K : PySem.W.Frag) : TS :=
  (tRet (tOp (rIxL K) (tLst (tCons (tOp xAddS (tVar 1) (tOp rIxS (tVar 1) (tC (.int 0)))) (tCons (tUpper (tVar 1)) (tCons (tC (.str "")) (tCons (tC (.str "abcde")) (tCons (tOp xAddS (tOp rIxS (tVar 1) (tC (.int 0))) (tC (.str " "))) tNil)))))) (tCall spNextC [] E0 (tCons (tVar 0) (tCons (tC (.int 5)) tNil)))))
theorem start_dbadl (a0 a1 : V) : start N_dbadl [a0, a1] = [some a0, some a1] := rfl
abbrev N_dflat : List Str := ["tree", "told", "at"]
def t_dflat (K : PySem.W.Frag) : TS :=
  (tSeq (tAsg (tC (.str "")) (gName 1))
    (tSeq (tFor (iRng1 (tCons (tCB xLenS (tCons (tVar 0) tNil)) tNil)) (gName 2) (tIfS (tOr (tTest (tOp xInS (tOp rIxS (tVar 0) (tVar 2)) (tC (.str "()")))) (tTest (tOp rNe (tSl rSlS (tVar 0) (tPart (tOp xAdd (tVar 2) (tC (.int 1)))) (tPart (tOp xAdd (tVar 2) (tC (.int 2))))) (tC (.str "("))))) (tAsg (tOp xAddS (tVar 1) (tOp rIxS (tVar 0) (tVar 2))) (gName 1)) tNext))
    (tRet (tVar 1))))
theorem start_dflat (a0 : V) : start N_dflat [a0] = [some a0, none, none] := rfl
abbrev N_dboned : List Str := ["tree", "inner", "told", "at"]
def t_dboned (K : PySem.W.Frag) : TS :=
  (tSeq (tAsg (tC (.str "")) (gName 2))
    (tSeq (tFor (iRng1 (tCons (tCB xLenS (tCons (tVar 0) tNil)) tNil)) (gName 3) (tIfS (tAnd (tTest (tOp xNinS (tOp rIxS (tVar 0) (tVar 3)) (tC (.str "()")))) (tTest (tOp rEq (tSl rSlS (tVar 0) (tPart (tOp xAdd (tVar 3) (tC (.int 1)))) (tPart (tOp xAdd (tVar 3) (tC (.int 2))))) (tC (.str "("))))) (tAsg (tOp xAddS (tVar 2) (tVar 1)) (gName 2)) (tAsg (tOp xAddS (tVar 2) (tOp rIxS (tVar 0) (tVar 3))) (gName 2))))
    (tRet (tVar 2))))
theorem start_dboned (a0 a1 : V) : start N_dboned [a0, a1] = [some a0, some a1, none, none] := rfl
abbrev N_dlwb : List Str := ["letters", "text", "counts", "at", "sign", "most"]
def t_dlwb (K : PySem.W.Frag) : TS :=
  (tSeq (tAsg (tLst (tCons (tC (.int 0)) tNil)) (gName 2))
    (tSeq (tFor (iRng1 (tCons (tCB xLenS (tCons (tVar 1) tNil)) tNil)) (gName 3) (tSeq (tAsg (tOp rIxS (tVar 1) (tVar 3)) (gName 4))
    (tSeq (tAsg (tC (.int 3)) (gName 5))
    (tSeq (tIfS (tTest (tOp rEq (tCB (xLenQ K) (tCons (tVar 2) tNil)) (tC (.int 1)))) (tAsg (tC (.int 1)) (gName 5)) tNext)
    (tIfS (tTest (tOp rEq (tVar 4) (tC (.str ")")))) (tSeq (tIfS (tOr (tTest (tOp rEq (tCB (xLenQ K) (tCons (tVar 2) tNil)) (tC (.int 1)))) (tTest (tOp rEq (tOp (rIxL K) (tVar 2) (tUn xNeg (tC (.int 1)))) (tC (.int 0))))) (tRet (tVar 3)) tNext)
    (tAsg (tSl (rSlL K) (tVar 2) tNoPart (tPart (tUn xNeg (tC (.int 1))))) (gName 2))) (tIfS (tAnd (tOr (tTest (tOp rEq (tVar 4) (tC (.str "(")))) (tTest (tOp xInS (tVar 4) (tVar 0)))) (tTest (tOp xLt (tOp (rIxL K) (tVar 2) (tUn xNeg (tC (.int 1)))) (tVar 5)))) (tSeq (tAsg (tOp xAdd (tOp (rIxL K) (tVar 2) (tUn xNeg (tC (.int 1)))) (tC (.int 1))) (gSub (tVar 2) (tUn xNeg (tC (.int 1))) rSetL))
    (tIfS (tTest (tOp rEq (tVar 4) (tC (.str "(")))) (tDrop (tBM K "list" rAppend (tVar 2) (tCons (tC (.int 0)) tNil))) tNext)) (tRet (tVar 3))))))))
    (tSeq (tIfS (tOr (tTest (tOp xGt (tCB (xLenQ K) (tCons (tVar 2) tNil)) (tC (.int 1)))) (tTest (tOp rEq (tOp (rIxL K) (tVar 2) (tC (.int 0))) (tC (.int 0))))) (tRet (tCB xLenS (tCons (tVar 1) tNil))) tNext)
    (tRet (tUn xNeg (tC (.int 1)))))))
theorem start_dlwb (a0 a1 : V) : start N_dlwb [a0, a1] = [some a0, some a1, none, none, none, none] := rfl
end L2

set_option maxHeartbeats 4000000
namespace L2
open PySem PySem.Spec PyProof.Rows L2 He
local macro_rules | `(tactic| walk_at "fd") => `(tactic| first | assumption | exact SqL.of (by assumption) | exact SqT.of (by assumption) | exact SqL.of upd_same | exact SqT.of upd_same)
local macro_rules | `(tactic| walk_at "pur") => `(tactic| (intros; (repeat walk_at "w"); first | assumption | (rename_i q; exact q)))
local macro_rules | `(tactic| walk_at "c") => `(tactic| first
  | (with_reducible refine w_asg ?_) | ((with_reducible refine w_name ?_); dsimp only [List.set_cons_zero, List.set_cons_succ]) | (with_reducible refine w_ret ?_) | (with_reducible refine w_retN ?_)
  | (with_reducible refine w_drop ?_) | (with_reducible refine w_if ?_) | (with_reducible refine w_next ?_) | (with_reducible refine w_brk ?_) | (with_reducible refine w_cont ?_)
  | ((with_reducible refine' w_var ?hv ?_); (case hv => rfl)) | (with_reducible refine w_c ?_) | (with_reducible refine w_op ?_) | (with_reducible refine w_cb ?_) | (with_reducible refine w_cons ?_) | (with_reducible refine w_nil ?_)
  | (with_reducible refine w_add ?_) | (with_reducible refine w_sub ?_) | (with_reducible refine w_lt ?_) | (with_reducible refine w_le ?_) | (with_reducible refine w_gt ?_) | (with_reducible refine w_ge ?_)
  | (with_reducible refine w_isN ?_) | (with_reducible refine w_notN ?_) | ((with_reducible refine' w_slXR ?h1 ?h2 ?_); (case h1 => omega); (case h2 => omega)) | ((with_reducible refine' w_slXL ?h1 ?h2 ?_); (case h1 => omega); (case h2 => omega)) | (with_reducible refine w_eqI ?_) | (with_reducible refine w_neI ?_) | (with_reducible refine w_int1 ?_) | (with_reducible refine w_abs ?_) | (with_reducible refine w_max2 ?_) | (with_reducible refine w_min2 ?_)
  | (with_reducible refine w_test ?_) | (with_reducible refine w_b ?_) | (with_reducible refine w_bl ?_) | (with_reducible refine w_in ?_)
  | ((with_reducible refine' w_and2 ?h1 ?h2 ?_); (case h1 => walk_at "pur"); (case h2 => walk_at "pur")) | ((with_reducible refine' w_or2 ?h1 ?h2 ?_); (case h1 => walk_at "pur"); (case h2 => walk_at "pur"))
  | ((with_reducible refine' w_andV2 ?h1 ?h2 ?_); (case h1 => walk_at "pur"); (case h2 => walk_at "pur")) | ((with_reducible refine' w_orV2 ?h1 ?h2 ?_); (case h1 => walk_at "pur"); (case h2 => walk_at "pur"))
  | (with_reducible refine w_and ?_) | (with_reducible refine w_or ?_) | (with_reducible refine w_not ?_)
  | (with_reducible refine w_andV ?_) | (with_reducible refine w_orV ?_) | (with_reducible refine w_notV ?_) | (with_reducible refine w_ifE ?_) | (with_reducible refine w_gsub ?_)
  | (with_reducible refine w_sl ?_) | (with_reducible refine w_pt ?_) | (with_reducible refine w_npt ?_) | (with_reducible refine w_tup ?_) | (with_reducible refine w_lst ?_)
  | ((with_reducible refine' w_new ?h1 ?_); (case h1 => exact Nat.le_of_ble_eq_true rfl)) | (with_reducible refine w_yes ?_) | ((with_reducible refine' w_ixX0 ?h1 ?h2 ?_); (case h1 => omega); (case h2 => assumption)) | ((with_reducible refine' w_ixX1 ?h1 ?h2 ?_); (case h1 => omega); (case h2 => assumption)) | ((with_reducible refine' w_ixXn ?h1 ?h2 ?_); (case h1 => omega); (case h2 => assumption)) | ((with_reducible refine' w_ixXz ?h1 ?h2 ?_); (case h1 => omega); (case h2 => assumption)) | ((with_reducible refine' w_listL ?h1 ?_); (case h1 => walk_at "fd")) | (with_reducible refine w_ite1 ?_) | ((with_reducible refine' w_if0 ?h1 ?_); (case h1 => simp only [Bool.or_false, Bool.or_true, Bool.true_or, Bool.or_self, Bool.and_self, Bool.and_true, Bool.and_false, Bool.false_and, Option.isSome_none, Option.isSome_some, Bool.not_false, Bool.not_true, Option.map_some, Option.map_none]; done)) | ((with_reducible refine' w_if1 ?h1 ?_); (case h1 => simp only [Bool.or_false, Bool.or_true, Bool.true_or, Bool.or_self, Bool.and_self, Bool.and_true, Bool.and_false, Bool.false_and, Option.isSome_none, Option.isSome_some, Bool.not_false, Bool.not_true, Option.map_some, Option.map_none]; done))
  | ((with_reducible refine' w_addX ?h1 ?_); (case h1 => first | (simp only [List.length_append, List.length_cons, List.length_nil, List.length_take, List.length_drop]; omega) | omega)) | ((with_reducible refine' w_lenX ?h1 ?_); (case h1 => first | omega | (simp only [List.length_append, List.length_cons, List.length_nil, List.length_take, List.length_drop]; omega))) | (with_reducible refine w_eqX ?_) | (with_reducible refine w_neX ?_) | (with_reducible refine w_inX ?_) | (with_reducible refine w_ninX ?_) | (with_reducible refine w_leX ?_)
  | (with_reducible refine w_for ?_) | (with_reducible refine w_iL ?_) | (with_reducible refine w_iS ?_) | (with_reducible refine w_iR1 ?_) | (with_reducible refine w_iE ?_) | (with_reducible refine w_iEs ?_) | (with_reducible refine w_ref ?_) | (with_reducible refine w_str ?_) | (with_reducible refine w_str1 ?_) | (with_reducible refine w_int1v ?_)
  | (with_reducible refine w_bm ?_) | (with_reducible refine w_bm0 ?_) | (with_reducible refine w_un ?_) | (with_reducible refine w_neg ?_) | (with_reducible refine w_augS ?_) | (with_reducible refine w_ip ?_) | (with_reducible refine w_iRev ?_) | (with_reducible refine w_dc ?_) | (with_reducible refine w_listZip ?_) | (with_reducible refine w_joinT ?_) | (with_reducible refine w_repl ?_) | (with_reducible refine w_upper ?_) | ((with_reducible refine' w_tyL ?h1 ?_); (case h1 => walk_at "fd")) | (with_reducible refine w_tfld ?_) | (with_reducible refine w_sfld ?_) | ((with_reducible refine' w_fldE ?h1 ?h2 ?h3 ?h4 ?_); (case h1 => first | assumption | exact upd_same); (case h2 => assumption); (case h3 => assumption); (case h4 => rfl)) | (with_reducible refine w_rx ?_) | (with_reducible refine w_rz ?_) | (with_reducible refine w_dnew ?_) | (with_reducible refine w_gcons ?_) | (with_reducible refine w_gnil ?_) | ((with_reducible refine' w_gtup ?h1 ?h2 ?_); (case h1 => walk_at "fd"); (case h2 => rfl)) | (with_reducible refine w_lc ?_) | (with_reducible refine w_call ?_) | (with_reducible refine w_dget ?_) | (with_reducible refine w_din ?_) | (with_reducible refine w_dnin ?_) | (with_reducible refine w_dput ?_)
  | ((with_reducible refine' w_ixL ?h1 ?h2 ?_); (case h1 => walk_at "fd"); (case h2 => rfl))
  | ((with_reducible refine' w_ixT ?h1 ?h2 ?_); (case h1 => walk_at "fd"); (case h2 => rfl))
  | ((with_reducible refine' w_mod ?hc ?_); (case hc => first | omega | decide)) | ((with_reducible refine' w_div ?hc ?_); (case hc => exact ⟨by omega, by omega⟩)) | ((with_reducible refine' w_pow ?hc ?_); (case hc => exact ⟨by decide, by decide, by decide⟩))
  | ((with_reducible refine' w_mul ?hc ?_); (case hc => first | exact Or.inl ⟨by omega, by omega⟩ | exact Or.inr ⟨by omega, by omega⟩))
  | ((with_reducible refine' w_lenM ?h1 ?_); (case h1 => walk_at "fd")) | ((with_reducible refine' w_lenL ?h1 ?_); (case h1 => walk_at "fd"))
  | (with_reducible refine w_eqS ?_) | (with_reducible refine w_neS ?_)
  | ((with_reducible refine' w_lenT ?h1 ?_); (case h1 => walk_at "fd"))
  | ((with_reducible refine' w_setL ?h1 ?h2 ?_); (case h1 => first | assumption | exact upd_same); (case h2 => rfl); dsimp only [Int.reduceToNat, List.set_cons_zero, List.set_cons_succ]))
local macro_rules | `(tactic| walk_at "w") => `(tactic| first | (with_reducible refine w_seq ?_) | walk_at "c")
local macro_rules | `(tactic| walk_at "i") => `(tactic| first | ((refine' w_if0 ?h1 ?_); (case h1 => first | assumption | (simp; done) | (simp; omega))) | ((refine' w_if1 ?h1 ?_); (case h1 => first | assumption | (simp; done) | (simp; omega))))
local macro_rules | `(tactic| walk_at "z") => `(tactic| first | walk_at "w" | walk_at "i")
local macro_rules | `(tactic| walk_at "y") => `(tactic| first | walk_at "c" | walk_at "i")
section
variable {K : PySem.W.Frag} {mg : Str → Option Value}
theorem small_tx : ("abcdefghijklmnopqrstuvwxyz" : Str) = tx (List.range' 97 26) := by decide +kernel
theorem empty_tx : ("" : Str) = tx [] := by decide +kernel
theorem open_tx : ("(" : Str) = tx [40] := by decide +kernel
theorem shut_tx : (")" : Str) = tx [41] := by decide +kernel
theorem both_tx : ("()" : Str) = tx [40, 41] := by decide +kernel
theorem mem_small {c : Nat} : c ∈ List.range' 97 26 ↔ 97 ≤ c ∧ c ≤ 122 := by
  rw [List.mem_range'_1]
  omega
theorem pure_dletters (vs : List V) (H : Hp) (Q : VK) (E : XK) (h : spCL K vs H Q E) : t_dletters K E { nx := fun _ H' => Q .non H', rt := Q } (start N_dletters vs) H := by
  obtain ⟨L, rfl, hL, q, ke⟩ := h
  rw [start_dletters]
  unfold t_dletters
  rw [small_tx, empty_tx]
  repeat walk_at "w"
  refine w_iteB (fun hA => ?_) (fun hA => ?_)
  · refine w_rz (ke fun g => ?_)
    have g1 := g.1
    have g2 := g.2.1
    simp at hA
    omega
  have hl : 1 ≤ L.length ∧ L.length ≤ 4 := by
    simp at hA
    omega
  repeat walk_at "w"
  refine forX (fun i σ H' => H' = H ∧ ∃ (b : List Nat) (v : Option V), σ = [some (.str (tx L)), some (.str (tx b)), v] ∧ (i = 0 → b = []) ∧ (∀ j, i = j + 1 → ∃ a, L[j]? = some a ∧ b = [a]) ∧ (∀ j c, j < i → L[j]? = some c → 97 ≤ c ∧ c ≤ 122) ∧ ∀ j a c, j + 1 < i → L[j]? = some a → L[j + 1]? = some c → a < c)
    ⟨rfl, [], none, rfl, fun _ => rfl, fun j z => by omega, fun j c z => by omega, fun j a c z => by omega⟩ (fun i c σ H' hc p => ?_) (fun σ H' p => ?_)
  · obtain ⟨rfl, b, v, rfl, b0, bs, hin, has⟩ := p
    repeat walk_at "w"
    have asc : b < [c] ↔ ∀ j a, i = j + 1 → L[j]? = some a → a < c := by
      cases i with
      | zero =>
        rw [b0 rfl]
        exact ⟨fun _ j a z => (by omega : False).elim, fun _ => by simp⟩
      | succ j =>
        obtain ⟨a, ha, rfl⟩ := bs j rfl
        constructor
        · intro h j' a' e ha'
          obtain rfl : j = j' := by omega
          rw [ha] at ha'
          cases ha'
          rcases List.cons_lt_cons_iff.mp h with h | ⟨_, h⟩
          · exact h
          · exact absurd h (by simp)
        · intro h
          exact List.cons_lt_cons_iff.mpr (.inl (h j a rfl ha))
    refine w_iteB (fun hA => ?_) (fun hA => ?_)
    · refine w_rz (ke fun g => ?_)
      have h1 := g.2.2.1 c (List.mem_of_getElem? hc)
      have h2 : b < [c] := asc.mpr fun j a e ha => g.2.2.2 j a c ha (by rw [← e]; exact hc)
      rw [Bool.or_eq_true, Bool.not_eq_true', decide_eq_false_iff_not, Bool.not_eq_true', decide_eq_false_iff_not] at hA
      rcases hA with hA | hA
      · exact hA (mem_small.mpr h1)
      · exact hA h2
    rw [Bool.or_eq_false_iff, Bool.not_eq_false', decide_eq_true_eq, Bool.not_eq_false', decide_eq_true_eq] at hA
    obtain ⟨h1, h2⟩ := hA
    have h1' := mem_small.mp h1
    have h2' := asc.mp h2
    repeat walk_at "w"
    refine ⟨rfl, [c], _, rfl, fun z => by omega, fun j e => ?_, fun j c' hj hc' => ?_, fun j a c' hj ha hc' => ?_⟩
    · obtain rfl : i = j := by omega
      exact ⟨c, hc, rfl⟩
    · by_cases e : j = i
      · subst e
        rw [hc] at hc'
        cases hc'
        exact h1'
      · exact hin j c' (by omega) hc'
    · by_cases e : j + 1 = i
      · rw [e, hc] at hc'
        cases hc'
        exact h2' j a e.symm ha
      · exact has j a c' (by omega) ha hc'
  · obtain ⟨rfl, b, v, rfl, b0, bs, hin, has⟩ := p
    refine q ⟨hl.1, hl.2, fun c hc => ?_, fun i a b ha hb => has i a b ?_ ha hb⟩
    · obtain ⟨j, hj⟩ := List.mem_iff_getElem?.mp hc
      exact hin j c (List.getElem?_eq_some_iff.mp hj).1 hj
    · exact (List.getElem?_eq_some_iff.mp hb).1
theorem pure_dword (vs : List V) (H : Hp) (Q : VK) (E : XK) (h : spCW K vs H Q E) : t_dword K E { nx := fun _ H' => Q .non H', rt := Q } (start N_dword vs) H := by
  obtain ⟨L, w, rfl, hL, hw, kq, ke⟩ := h
  rw [start_dword]
  unfold t_dword
  repeat walk_at "w"
  refine forEX (fun i σ H' => Same H H' ∧ (∃ v1 v2 : Option V, σ = [some (.str (tx L)), some (.str (tx w)), v1, v2]) ∧ ∀ j c, j < i → w[j]? = some c → c ∈ L) ⟨Same.refl H, ⟨none, none, rfl⟩, fun j c hj => absurd hj (Nat.not_lt_zero _)⟩ (fun i c σ H' p hc P hp => ?_) (fun σ H' P => ?_)
  · obtain ⟨s1, ⟨v1, v2, rfl⟩, hin⟩ := P
    repeat walk_at "w"
    refine w_iteDN (fun hn => ?_) (fun hi => ?_)
    · repeat walk_at "w"
      refine ⟨rfl, fun d hd => ?_⟩
      exact ke i ⟨⟨c, hc, hn⟩, hin⟩ _ d ((s1.trans (Same.new hp)).trans (Same.new hd)) upd_same
    · repeat walk_at "w"
      refine ⟨s1.trans (Same.new hp), ⟨_, _, rfl⟩, fun j c' hj hc' => ?_⟩
      by_cases e : j = i
      · subst e
        rw [hc] at hc'
        cases hc'
        exact hi
      · exact hin j c' (by omega) hc'
  · obtain ⟨s1, _, hin⟩ := P
    refine kq (fun c hc => ?_) H' s1
    obtain ⟨j, hj⟩ := List.mem_iff_getElem?.mp hc
    exact hin j c (List.getElem?_eq_some_iff.mp hj).1 hj
theorem pure_dsame (vs : List V) (H : Hp) (Q : VK) (E : XK) (h : spSame vs H Q E) : t_dsame K { nx := fun _ H' => Q .non H', rt := Q } (start N_dsame vs) H := by
  obtain ⟨l, rfl, q⟩ := h
  rw [start_dsame]
  unfold t_dsame
  repeat walk_at "z"
  refine ⟨_, _, _, _, true, rfl, .ty _, .base (.str _), kit_ty (by decide +kernel), true, rfl, ?_⟩
  repeat walk_at "z"
  have e : decide (l = l) = true := decide_eq_true rfl
  rw [e]
  exact q
theorem cut1 {l : List Nat} {i : Nat} : cut l (i + 1) (i + 2) = [40] ↔ (l.drop (i + 1)).head? = some 40 := by
  unfold cut
  rw [show i + 2 - (i + 1) = 1 by omega]
  cases l.drop (i + 1) with
  | nil => simp
  | cons a r => simp
theorem drop_at {l : List Nat} {i c : Nat} (h : l[i]? = some c) : l.drop i = c :: l.drop (i + 1) := by
  obtain ⟨hi, e⟩ := List.getElem?_eq_some_iff.mp h
  rw [List.drop_eq_getElem_cons hi, e]
theorem pure_dflat (vs : List V) (H : Hp) (Q : VK) (E : XK) (h : spFlat vs H Q E) : t_dflat K { nx := fun _ H' => Q .non H', rt := Q } (start N_dflat vs) H := by
  obtain ⟨l, rfl, hl, q⟩ := h
  rw [start_dflat]
  unfold t_dflat
  rw [both_tx, empty_tx, open_tx]
  repeat walk_at "w"
  refine ⟨by omega, by omega, ?_⟩
  refine forR (fun i σ H' => H' = H ∧ ∃ (m : List Nat) (v : Option V), σ = [some (.str (tx l)), some (.str (tx m)), v] ∧ flatF l = m ++ flatF (l.drop i) ∧ m.length ≤ i)
    ⟨rfl, [], none, rfl, by simp, Nat.le_refl _⟩ (fun i σ H' hi p => ?_) (fun σ H' p => ?_)
  · have hi' : i < l.length := by omega
    obtain ⟨rfl, m, v, rfl, hm, hml⟩ := p
    have hc : l[i]? = some l[i] := List.getElem?_eq_getElem hi'
    have hd := drop_at hc
    rw [hd] at hm
    have e3 : flatF (l[i] :: l.drop (i + 1)) = (if l[i] = 40 ∨ l[i] = 41 ∨ (l.drop (i + 1)).head? ≠ some 40 then [l[i]] else []) ++ flatF (l.drop (i + 1)) := rfl
    rw [e3] at hm
    repeat walk_at "w"
    refine w_iteD (fun h1 => ?_) (fun h1 => ?_)
    · repeat walk_at "z"
      refine ⟨rfl, m ++ [l[i]], _, rfl, ?_, by rw [List.length_append, List.length_singleton]; omega⟩
      have h1' : l[i] = 40 ∨ l[i] = 41 := by simpa using h1
      rw [hm, if_pos (by rcases h1' with h | h; exact .inl h; exact .inr (.inl h)), List.append_assoc]
    · have h1' : ¬ (l[i] = 40 ∨ l[i] = 41) := by simpa using h1
      repeat walk_at "w"
      refine w_slX (by omega) (by omega) (by omega) ?_
      have t1 : ((0 : Int) + i + 1).toNat = i + 1 := by omega
      have t2 : ((0 : Int) + i + 2).toNat = i + 2 := by omega
      rw [t1, t2]
      repeat walk_at "w"
      refine w_iteDN (fun h2 => ?_) (fun h2 => ?_)
      · repeat walk_at "w"
        refine ⟨rfl, m ++ [l[i]], _, rfl, ?_, by rw [List.length_append, List.length_singleton]; omega⟩
        rw [hm, if_pos (.inr (.inr fun z => h2 (cut1.mpr z))), List.append_assoc]
      · repeat walk_at "w"
        refine ⟨rfl, m, _, rfl, ?_, by omega⟩
        rw [hm, if_neg, List.nil_append]
        rintro (z | z | z)
        · exact h1' (.inl z)
        · exact h1' (.inr z)
        · exact z (cut1.mp h2)
  · have hz : (l.length : Int).toNat = l.length := by omega
    rw [hz] at p
    obtain ⟨rfl, m, v, rfl, hm, hml⟩ := p
    repeat walk_at "w"
    rw [List.drop_length] at hm
    have e : flatF l = m := by rw [hm]; simp [flatF]
    rw [← e]
    exact q _ (Same.refl _)
theorem pure_dboned (vs : List V) (H : Hp) (Q : VK) (E : XK) (h : spBoned vs H Q E) : t_dboned K { nx := fun _ H' => Q .non H', rt := Q } (start N_dboned vs) H := by
  obtain ⟨l, x, rfl, hl, q⟩ := h
  rw [start_dboned]
  unfold t_dboned
  rw [both_tx, empty_tx, open_tx]
  repeat walk_at "w"
  refine ⟨by omega, by omega, ?_⟩
  refine forR (fun i σ H' => H' = H ∧ ∃ (m : List Nat) (v : Option V), σ = [some (.str (tx l)), some (.str (tx [x])), some (.str (tx m)), v] ∧ boneF x l = m ++ boneF x (l.drop i) ∧ m.length = i)
    ⟨rfl, [], none, rfl, by simp, rfl⟩ (fun i σ H' hi p => ?_) (fun σ H' p => ?_)
  · have hi' : i < l.length := by omega
    obtain ⟨rfl, m, v, rfl, hm, hml⟩ := p
    have hc : l[i]? = some l[i] := List.getElem?_eq_getElem hi'
    have hd := drop_at hc
    rw [hd] at hm
    have e3 : boneF x (l[i] :: l.drop (i + 1)) = (if l[i] ≠ 40 ∧ l[i] ≠ 41 ∧ (l.drop (i + 1)).head? = some 40 then x else l[i]) :: boneF x (l.drop (i + 1)) := rfl
    rw [e3] at hm
    have fin : ∀ c, (if l[i] ≠ 40 ∧ l[i] ≠ 41 ∧ (l.drop (i + 1)).head? = some 40 then x else l[i]) = c → boneF x l = m ++ [c] ++ boneF x (l.drop (i + 1)) := fun c e => by
      rw [hm, e, List.append_assoc]
      rfl
    repeat walk_at "w"
    refine w_iteDN (fun h1 => ?_) (fun h1 => ?_)
    · have h1' : ¬ (l[i] = 40 ∨ l[i] = 41) := by simpa using h1
      repeat walk_at "w"
      refine w_slX (by omega) (by omega) (by omega) ?_
      have t1 : ((0 : Int) + i + 1).toNat = i + 1 := by omega
      have t2 : ((0 : Int) + i + 2).toNat = i + 2 := by omega
      rw [t1, t2]
      repeat walk_at "w"
      refine w_iteD (fun h2 => ?_) (fun h2 => ?_)
      · repeat walk_at "w"
        refine ⟨rfl, m ++ [x], _, rfl, fin x (if_pos ⟨fun z => h1' (.inl z), fun z => h1' (.inr z), cut1.mp h2⟩), by rw [List.length_append, hml]; rfl⟩
      · repeat walk_at "w"
        refine ⟨rfl, m ++ [l[i]], _, rfl, fin _ (if_neg fun z => h2 (cut1.mpr z.2.2)), by rw [List.length_append, hml]; rfl⟩
    · have h1' : l[i] = 40 ∨ l[i] = 41 := by simpa using h1
      repeat walk_at "z"
      refine ⟨rfl, m ++ [l[i]], _, rfl, fin _ (if_neg fun z => h1'.elim z.1 z.2.1), by rw [List.length_append, hml]; rfl⟩
  · have hz : (l.length : Int).toNat = l.length := by omega
    rw [hz] at p
    obtain ⟨rfl, m, v, rfl, hm, hml⟩ := p
    repeat walk_at "w"
    rw [List.drop_length] at hm
    have e : boneF x l = m := by rw [hm]; simp [boneF]
    rw [← e]
    exact q
theorem pure_dmade (vs : List V) (H : Hp) (Q : VK) (E : XK) (h : spMade K vs H Q E) : t_dmade K { nx := fun _ H' => Q .non H', rt := Q } (start N_dmade vs) H := by
  obtain ⟨l, a, ks, rfl, hs, hl, q⟩ := h
  rw [start_dmade]
  unfold t_dmade
  rw [open_tx, shut_tx]
  repeat walk_at "w"
  refine w_iteD (fun h0 => ?_) (fun h0 => ?_)
  · repeat walk_at "w"
    rw [if_pos (List.eq_nil_of_length_eq_zero (by omega))] at q
    exact q
  · repeat walk_at "w"
    refine w_joinE hs (by omega) ?_
    rw [join_tx]
    repeat walk_at "w"
    rw [if_neg (fun e => h0 (by rw [e]; rfl))] at q
    exact q
def natl (l : List Nat) : List V := l.map fun k => V.int (k : Nat)
theorem natl_len (l : List Nat) : (natl l).length = l.length := List.length_map _
theorem frun_step {s0 fin : S3} {l : List Nat} {i c : Nat} {s : S3} (ht : frun s0 l 0 = some fin) (hc : l[i]? = some c) (hs : frun s0 (l.take i) 0 = some s) : ∃ s', stp s i c = some s' ∧ frun s0 (l.take (i + 1)) 0 = some s' := by
  have hi := (List.getElem?_eq_some_iff.mp hc).1
  have e1 : l.take (i + 1) = l.take i ++ [c] := by rw [List.take_succ, hc]; rfl
  have e2 : frun s0 (l.take (i + 1)) 0 = stp s i c := by
    rw [e1, frun_app, hs, Option.bind_some, List.length_take, Nat.min_eq_left (by omega), Nat.zero_add]
    show (stp s i c).bind _ = _
    cases stp s i c <;> rfl
  have e3 : frun s0 l 0 = (frun s0 (l.take (i + 1)) 0).bind fun s' => frun s' (l.drop (i + 1)) (0 + (l.take (i + 1)).length) := by
    rw [← frun_app, List.take_append_drop]
  cases e : stp s i c with
  | none =>
    rw [e3, e2, e] at ht
    cases ht
  | some s' => exact ⟨s', rfl, by rw [e2, e]⟩
theorem pure_dspans (vs : List V) (H : Hp) (Q : VK) (E : XK) (h : spSpans vs H Q E) : t_dspans K { nx := fun _ H' => Q .non H', rt := Q } (start N_dspans vs) H := by
  obtain ⟨L, T, rfl, ⟨nb, wt, hl⟩, q⟩ := h
  have tot := frun_tt nb T wt ⟨[], [], []⟩ 0 rfl
  rw [start_dspans]
  unfold t_dspans
  rw [open_tx, shut_tx]
  repeat walk_at "w"
  intro a1 h1
  repeat walk_at "w"
  intro a2 h2
  repeat walk_at "w"
  intro a3 h3
  have n12 : a1 ≠ a2 := ne_of_none upd_same h2
  have n23 : a2 ≠ a3 := ne_of_none upd_same h3
  have n13 : a1 ≠ a3 := ne_of_none (o := .lst []) (by rw [upd_ne n12]; exact upd_same) h3
  have f2 : H a2 = none := by rw [upd_ne n12.symm] at h2; exact h2
  have f3 : H a3 = none := by rw [upd_ne n23.symm, upd_ne n13.symm] at h3; exact h3
  have s0 : Same H (upd (upd (upd H a1 (.lst [])) a2 (.lst [])) a3 (.lst [])) := ((Same.refl H).put h1 |>.put f2).put f3
  repeat walk_at "w"
  refine forEX (fun i σ H' => ∃ v1 v2 s, σ = [some (.str (tx (tt T))), some (.ref a1), some (.ref a2), some (.ref a3), v1, v2] ∧ Same H H' ∧ frun ⟨[], [], []⟩ ((tt T).take i) 0 = some s ∧ H' a1 = some (.lst (natl s.S)) ∧ H' a2 = some (.lst (natl s.E)) ∧ H' a3 = some (.lst (natl s.O)) ∧ s.S.length ≤ i ∧ s.E.length ≤ i ∧ s.O.length ≤ i)
    ⟨none, none, ⟨[], [], []⟩, rfl, s0, rfl, by rw [upd_ne n13, upd_ne n12, upd_same]; rfl, by rw [upd_ne n23, upd_same]; rfl, by rw [upd_same]; rfl, Nat.le_refl _, Nat.le_refl _, Nat.le_refl _⟩ (fun i c σ H' p0 hc p hp0 => ?_) (fun σ H' p => ?_)
  · obtain ⟨v1, v2, ⟨S, E', O⟩, rfl, sm, hf, g1, g2, g3, l1, l2, l3⟩ := p
    obtain ⟨⟨S2, E2, O2⟩, hst, hf2⟩ := frun_step tot hc hf
    have hi := (List.getElem?_eq_some_iff.mp hc).1
    have l1' : S.length ≤ i := l1
    have l2' : E'.length ≤ i := l2
    have l3' : O.length ≤ i := l3
    have sn : Same H' (upd H' p0 (.tup [.int (i : Nat), .str (tx [c])])) := Same.new hp0
    have k1 := sn _ _ g1
    have k2 := sn _ _ g2
    have k3 := sn _ _ g3
    have sm2 := sm.trans sn
    repeat walk_at "w"
    generalize upd H' p0 (.tup [.int (i : Nat), .str (tx [c])]) = H2 at k1 k2 k3 sm2 sn
    unfold stp at hst
    have fin : ∀ (H3 : Hp) (A3 B3 C3 : List Nat), Same H H3 → (⟨A3, B3, C3⟩ : S3) = ⟨S2, E2, O2⟩ → H3 a1 = some (.lst (natl A3)) → H3 a2 = some (.lst (natl B3)) → H3 a3 = some (.lst (natl C3)) → A3.length ≤ i + 1 → B3.length ≤ i + 1 → C3.length ≤ i + 1 →
        ∃ v1 v2 s, [some (V.str (tx (tt T))), some (.ref a1), some (.ref a2), some (.ref a3), some (.int (i : Nat)), some (.str (tx [c]))] = [some (.str (tx (tt T))), some (.ref a1), some (.ref a2), some (.ref a3), v1, v2] ∧ Same H H3 ∧ frun ⟨[], [], []⟩ ((tt T).take (i + 1)) 0 = some s ∧ H3 a1 = some (.lst (natl s.S)) ∧ H3 a2 = some (.lst (natl s.E)) ∧ H3 a3 = some (.lst (natl s.O)) ∧ s.S.length ≤ i + 1 ∧ s.E.length ≤ i + 1 ∧ s.O.length ≤ i + 1 :=
      fun H3 A3 B3 C3 g e b1 b2 b3 c1 c2 c3 => ⟨_, _, ⟨A3, B3, C3⟩, rfl, g, by rw [e]; exact hf2, b1, b2, b3, c1, c2, c3⟩
    refine w_iteD (fun h40 => ?_) (fun h40 => ?_)
    · have h40' : c = 40 := by simpa using h40
      rw [if_pos h40'] at hst
      split at hst
      · cases hst
      next hS =>
      have hst := Option.some.inj hst
      have hp : 0 < S.length := List.length_pos_iff.mpr hS
      repeat walk_at "w"
      dsimp only
      refine w_app k3 (by rw [natl_len]; omega) ?_
      repeat walk_at "w"
      refine fin _ S E' (O ++ [S.length - 1]) (sm2.put f3) hst (by rw [upd_ne n13]; exact k1) (by rw [upd_ne n23]; exact k2) ?_ (by omega) (by omega) (by rw [List.length_append, List.length_singleton]; omega)
      rw [upd_same]
      unfold natl
      rw [List.map_append]
      have e : ((S.length : Int) - 1) = ((S.length - 1 : Nat) : Int) := by omega
      rw [e]
      rfl
    · have h40' : c ≠ 40 := by simpa using h40
      rw [if_neg h40'] at hst
      repeat walk_at "w"
      refine w_iteD (fun h41 => ?_) (fun h41 => ?_)
      · have h41' : c = 41 := by simpa using h41
        rw [if_pos h41'] at hst
        split at hst
        case h_2 => cases hst
        next o ho =>
        split at hst
        case isFalse => cases hst
        next hlt =>
        have hst := Option.some.inj hst
        have hlt' : o < E'.length := hlt
        repeat walk_at "w"
        have hlast : (natl O)[(natl O).length - 1]? = some (V.int (o : Nat)) := by
          have : O.getLast? = some o := ho
          rw [List.getLast?_eq_getElem?] at this
          rw [natl_len]
          unfold natl
          rw [List.getElem?_map, this]
          rfl
        refine w_pop k3 hlast ?_
        repeat walk_at "w"
        refine w_setL (xs := natl E') (j := o) (by rw [upd_ne n23]; exact k2) ?_ ?_
        · rw [natl_len]
          unfold ixN
          rw [if_pos (by omega), if_pos (by omega)]
          rfl
        repeat walk_at "w"
        refine fin _ S (E'.set o (i + 1)) O.dropLast ((sm2.put f3).put f2) hst (by rw [upd_ne n12, upd_ne n13]; exact k1) ?_ ?_ (by omega) (by rw [List.length_set]; omega) (by rw [List.length_dropLast]; omega)
        · rw [upd_same]
          unfold natl
          rw [List.map_set]
          rfl
        · rw [upd_ne n23.symm, upd_same]
          unfold natl
          rw [List.map_dropLast]
      · have h41' : c ≠ 41 := by simpa using h41
        rw [if_neg h41'] at hst
        have hst := Option.some.inj hst
        repeat walk_at "w"
        refine w_app k1 (by rw [natl_len]; omega) ?_
        repeat walk_at "w"
        refine w_tyL (SqL.of (xs := natl E') (by rw [upd_ne n12.symm]; exact k2)) ?_
        repeat walk_at "w"
        refine w_app (xs := natl E') (by rw [upd_ne n12.symm]; exact k2) (by rw [natl_len]; omega) ?_
        repeat walk_at "w"
        refine fin _ (S ++ [i]) (E' ++ [i + 1]) O ((sm2.put h1).put f2) hst ?_ ?_ (by rw [upd_ne n23.symm, upd_ne n13.symm]; exact k3) (by rw [List.length_append, List.length_singleton]; omega) (by rw [List.length_append, List.length_singleton]; omega) (by omega)
        · rw [upd_ne n12, upd_same]
          unfold natl
          rw [List.map_append]
          rfl
        · rw [upd_same]
          unfold natl
          rw [List.map_append]
          rfl
  · have hz : (tt T).take (tt T).length = tt T := List.take_length
    rw [hz] at p
    obtain ⟨v1, v2, s, rfl, sm, hf, g1, g2, g3, _⟩ := p
    rw [tot] at hf
    cases hf
    repeat walk_at "w"
    refine ⟨a1, a2, _, _, rfl, SqL.of g1, SqL.of g2, by simp [natl], fun H2 p ts h1 h2 h3 h4 h5 h6 => ?_⟩
    refine q H2 p ts (sm.trans h1) (sm.free h2) h5 ?_
    have e1 : natl (([] : List Nat) ++ (spn T 0).map (·.1)) = (spn T 0).map fun q => V.int (q.1 : Nat) := by
      unfold natl
      rw [List.nil_append, List.map_map]
      rfl
    have e2 : natl (([] : List Nat) ++ (spn T 0).map (·.2)) = (spn T 0).map fun q => V.int (q.2 : Nat) := by
      unfold natl
      rw [List.nil_append, List.map_map]
      rfl
    rw [e1, e2] at h6
    exact h6
theorem pure_dsubs (vs : List V) (H : Hp) (Q : VK) (E : XK) (h : spSubs vs H Q E) : t_dsubs K { nx := fun _ H' => Q .non H', rt := Q } (start N_dsubs vs) H := by
  obtain ⟨L, T, rfl, tv, q⟩ := h
  have hl := tv.2.2
  rw [start_dsubs]
  unfold t_dsubs
  repeat walk_at "w"
  refine ⟨L, T, rfl, tv, fun H1 p ts s1 hp hl1 pr => ?_⟩
  repeat walk_at "w"
  refine ⟨⟨_, SqL.of hl1⟩, fun D hD => ?_⟩
  have hlen : ts.length = (spn T 0).length := by rw [pr.1, List.length_map]
  have hcnt := subs_count T
  rw [← spn_len T 0] at hcnt
  have npD : p ≠ D := ne_of_none hl1 hD
  refine lcL (f := V.ref) (l := ts) (by omega) (fun i acc H' => acc = ((spn T 0).take i).map (fun q => V.str (tx (cut (tt T) q.1 q.2))) ∧ Same H1 H')
    ⟨rfl, Same.new hD⟩ (fun i acc H' hDa p' => SqL.of (p'.2 _ _ hl1)) (fun i t acc H' ht hi hz hDa p' => ?_) (fun acc H' hDa p' => ?_)
  · obtain ⟨rfl, sm⟩ := p'
    obtain ⟨x, y, hx, hy, htt⟩ := pr.2 i t ht
    have hi2 : i < (spn T 0).length := by rw [← hlen]; exact (List.getElem?_eq_some_iff.mp ht).1
    have hg : (spn T 0)[i]? = some (spn T 0)[i] := List.getElem?_eq_getElem hi2
    rw [List.getElem?_map, hg] at hx hy
    cases hx
    cases hy
    have htt' := sm _ _ htt
    have hin := spn_in T 0 (spn T 0)[i] (List.getElem_mem hi2)
    repeat walk_at "w"
    refine ⟨rfl, ?_⟩
    refine ⟨rfl, ?_⟩
    repeat walk_at "w"
    refine w_slX (by omega) (by omega) (by omega) ?_
    rw [Int.toNat_natCast, Int.toNat_natCast]
    refine LcT.mk hDa hz hi ⟨?_, sm.put hD⟩
    rw [List.take_succ, hg, List.map_append]
    rfl
  · obtain ⟨rfl, sm⟩ := p'
    rw [hlen, List.take_length] at hDa
    refine q H' D (s1.trans sm) (s1.free hD) ?_
    rw [hDa]
    unfold txl
    rw [← spn_cut0, List.map_map]
    rfl
theorem snocInd {α : Type} {P : List α → Prop} (h0 : P []) (hs : ∀ l a, P l → P (l ++ [a])) : ∀ l, P l := fun l => by
  rw [← List.reverse_reverse l]
  induction l.reverse with
  | nil => exact h0
  | cons a r ih =>
    rw [List.reverse_cons]
    exact hs _ _ ih
def tblI (es : List (Nat × Nat)) : List (Key × V) := es.foldl (fun t e => putK t (Sum.inl (e.1 : Int)) (.int (e.2 : Nat))) []
theorem tblI_snoc (es : List (Nat × Nat)) (e : Nat × Nat) : tblI (es ++ [e]) = putK (tblI es) (Sum.inl (e.1 : Int)) (.int (e.2 : Nat)) := by
  unfold tblI
  rw [List.foldl_append]
  rfl
theorem tblI_len (es : List (Nat × Nat)) : (tblI es).length ≤ es.length := by
  induction es using snocInd with
  | h0 => exact Nat.le_refl _
  | hs l e ih =>
    rw [tblI_snoc, List.length_append, List.length_singleton]
    have := length_putK (tblI l) (Sum.inl (e.1 : Int)) (.int (e.2 : Nat))
    omega
theorem tblI_get (es : List (Nat × Nat)) : (es.map (·.1)).Pairwise (· < ·) → ∀ q ∈ es, valV (tblI es) (Sum.inl (q.1 : Int)) = some (.int (q.2 : Nat)) := by
  induction es using snocInd with
  | h0 => intro _ q hq; cases hq
  | hs l e ih =>
    intro hp q hq
    rw [List.map_append] at hp
    obtain ⟨h1, _, h3⟩ := List.pairwise_append.mp hp
    rw [tblI_snoc, valV_put]
    rcases List.mem_append.mp hq with hq | hq
    · have hlt := h3 q.1 (List.mem_map.mpr ⟨q, hq, rfl⟩) e.1 (by simp)
      rw [if_neg]
      · exact ih h1 q hq
      · intro z
        have := Sum.inl.inj z
        omega
    · rw [List.mem_singleton.mp hq, if_pos rfl]
theorem pure_dkids (vs : List V) (H : Hp) (Q : VK) (E : XK) (h : spKids vs H Q E) : t_dkids K { nx := fun _ H' => Q .non H', rt := Q } (start N_dkids vs) H := by
  obtain ⟨L, T, rfl, tv, q⟩ := h
  have hl := tv.2.2
  rw [start_dkids]
  unfold t_dkids
  repeat walk_at "w"
  refine ⟨L, T, rfl, tv, fun H1 p ts s1 hp hl1 pr => ?_⟩
  repeat walk_at "w"
  refine ⟨⟨_, SqL.of hl1⟩, fun D hD => ?_⟩
  have hlen : ts.length = (spn T 0).length := by rw [pr.1, List.length_map]
  have hcnt := subs_count T
  rw [← spn_len T 0] at hcnt
  have npD : p ≠ D := ne_of_none hl1 hD
  refine dcL (f := V.ref) (l := ts) (fun i kvs H' => kvs = tblI ((spn T 0).take i) ∧ Same H1 H')
    ⟨rfl, Same.new hD⟩ (fun i kvs H' hDa p' => SqL.of (p'.2 _ _ hl1)) (fun i t kvs H' ht hDa p' => ?_) (fun kvs H2 hDa p' => ?_)
  · obtain ⟨rfl, sm⟩ := p'
    obtain ⟨x, y, hx, hy, htt⟩ := pr.2 i t ht
    have hi2 : i < (spn T 0).length := by rw [← hlen]; exact (List.getElem?_eq_some_iff.mp ht).1
    have hg : (spn T 0)[i]? = some (spn T 0)[i] := List.getElem?_eq_getElem hi2
    rw [List.getElem?_map, hg] at hx hy
    cases hx
    cases hy
    have htt' := sm _ _ htt
    have hle := tblI_len ((spn T 0).take i)
    rw [List.length_take] at hle
    repeat walk_at "w"
    refine ⟨rfl, ?_⟩
    refine ⟨rfl, ?_⟩
    repeat walk_at "w"
    refine DcT.mk (k := Sum.inl ((spn T 0)[i].1 : Int)) hDa (by omega) ⟨?_, sm.put hD⟩
    rw [List.take_succ, hg]
    exact (tblI_snoc _ _).symm
  obtain ⟨rfl, sm⟩ := p'
  rw [hlen, List.take_length] at hDa
  have look := tblI_get (spn T 0) (spn_sorted T 0)
  repeat walk_at "w"
  intro a2 h2
  have nD2 : D ≠ a2 := ne_of_none hDa h2
  have f2 : H a2 = none := s1.free (sm.free h2)
  repeat walk_at "w"
  refine whileJ T.kids.length (fun m σ H' => ∃ (a b : List Tr) (v4 v5 : Option V), T.kids = a ++ b ∧ b.length = m ∧ σ = [some (.str (tx (tt T))), some (.ref D), some (.ref a2), some (.int ((2 + (a.flatMap tt).length : Nat) : Int)), v4, v5] ∧ Same H H' ∧ H' D = some (.dK (tblI (spn T 0))) ∧ H' a2 = some (.lst (txl (a.map tt))))
    ⟨[], T.kids, _, _, rfl, rfl, rfl, (s1.trans sm).put f2, by rw [upd_ne nD2]; exact hDa, upd_same⟩ (fun m σ H' p => ?_)
  obtain ⟨a, b, v4, v5, hk, hb, rfl, sm3, hD3, ha3⟩ := p
  have hsplit : (tt T).length = if T.kids = [] then 1 else 3 + (a.flatMap tt).length + (b.flatMap tt).length := by
    cases T with
    | node l ks =>
      have hk' : ks = a ++ b := hk
      by_cases e : ks = []
      · subst e
        rw [tt_leaf, if_pos (show (Tr.node l []).kids = [] from rfl)]
        rfl
      · rw [tt_node e, if_neg (show ¬ (Tr.node l ks).kids = [] from e), hk']
        simp only [List.flatMap_append, List.length_cons, List.length_append, List.length_nil]
        omega
  repeat walk_at "w"
  cases b with
  | nil =>
    have hno : ¬ (((2 + (a.flatMap tt).length : Nat) : Int) < ((tt T).length : Int) - 1) := by
      rw [hsplit]
      split
      · omega
      · simp
        omega
    rw [decide_eq_false hno]
    repeat walk_at "w"
    rw [List.append_nil] at hk
    rw [hk] at q
    exact q H' a2 sm3 f2 ha3
  | cons k r =>
    have hne : T.kids ≠ [] := by rw [hk]; simp
    have hkl := tt_pos k
    have hyes : ((2 + (a.flatMap tt).length : Nat) : Int) < ((tt T).length : Int) - 1 := by
      rw [hsplit, if_neg hne, List.flatMap_cons, List.length_append]
      omega
    rw [decide_eq_true hyes]
    repeat walk_at "w"
    refine WhT.mk ?_
    have hm : (2 + (a.flatMap tt).length, 2 + (a.flatMap tt).length + (tt k).length) ∈ spn T 0 := by
      cases T with
      | node l ks =>
        have hk' : ks = a ++ k :: r := hk
        rw [spn_node, hk']
        refine List.mem_cons_of_mem _ ?_
        have := spns_mem a r k (0 + 2)
        exact this
    have lk := look _ hm
    have hend : 2 + (a.flatMap tt).length + (tt k).length ≤ (tt T).length := by
      have := spn_in T 0 _ hm
      omega
    repeat walk_at "w"
    refine w_dgI hD3 lk ?_
    repeat walk_at "w"
    refine w_slX (by omega) (by omega) (by omega) ?_
    rw [Int.toNat_natCast, Int.toNat_natCast]
    have hcut : cut (tt T) (2 + (a.flatMap tt).length) (2 + (a.flatMap tt).length + (tt k).length) = tt k := by
      cases T with
      | node l ks =>
        have hk' : ks = a ++ k :: r := hk
        have e : ks ≠ [] := hne
        rw [tt_node e, hk']
        have := cut_mid ([l, 40] ++ a.flatMap tt) (tt k) (r.flatMap tt ++ [41])
        rw [show (l :: 40 :: ((a ++ k :: r).flatMap tt ++ [41])) = [l, 40] ++ a.flatMap tt ++ tt k ++ (r.flatMap tt ++ [41]) by simp [List.flatMap_append, List.flatMap_cons]]
        rw [show 2 + (a.flatMap tt).length = ([l, 40] ++ a.flatMap tt).length by simp; omega]
        exact this
    rw [hcut]
    have hal : a.length ≤ (tt T).length := by
      have h1 : ∀ l : List Tr, l.length ≤ (l.flatMap tt).length := by
        intro l
        induction l with
        | nil => simp
        | cons x y ih =>
          have := tt_pos x
          rw [List.flatMap_cons, List.length_append, List.length_cons]
          omega
      have := h1 a
      omega
    repeat walk_at "w"
    refine w_app ha3 (by unfold txl; rw [List.length_map, List.length_map]; omega) ?_
    repeat walk_at "w"
    refine w_dgI (by rw [upd_ne nD2]; exact hD3) lk ?_
    repeat walk_at "w"
    refine ⟨r.length, by rw [← hb]; exact Nat.lt_succ_self _, a ++ [k], r, v4, v5, by rw [hk]; simp, rfl, ?_, sm3.put f2, by rw [upd_ne nD2]; exact hD3, ?_⟩
    · rw [show 2 + ((a ++ [k]).flatMap tt).length = 2 + (a.flatMap tt).length + (tt k).length by rw [List.flatMap_append, List.length_append]; simp; omega]
    · rw [upd_same]
      unfold txl
      rw [List.map_append, List.map_append]
      rfl
theorem boneF_len (x : Nat) : ∀ l : List Nat, (boneF x l).length = l.length
  | [] => rfl
  | c :: r => by
    show (boneF x r).length + 1 = _
    rw [boneF_len x r]
    rfl
theorem drop_atT {l : List Tr} {i : Nat} {c : Tr} (h : l[i]? = some c) : l.drop i = c :: l.drop (i + 1) := by
  obtain ⟨hi, e⟩ := List.getElem?_eq_some_iff.mp h
  rw [List.drop_eq_getElem_cons hi, e]
theorem pure_dskel (vs : List V) (H : Hp) (Q : VK) (E : XK) (h : spSkel vs H Q E) : t_dskel K { nx := fun _ H' => Q .non H', rt := Q } (start N_dskel vs) H := by
  obtain ⟨L, T, x, rfl, tv, q⟩ := h
  have hl := tv.2.2
  have nb := tv.1
  have wt := tv.2.1
  have hcnt := subs_count T
  rw [start_dskel]
  unfold t_dskel
  repeat walk_at "w"
  intro D hD
  repeat walk_at "w"
  have s0 : Same H (upd H D (.dK [])) := Same.new hD
  refine ⟨L, T, rfl, tv, fun H1 p s1 hp hl1 => ?_⟩
  have hD1 := s1 _ _ (upd_same (H := H) (a := D) (o := .dK []))
  have sm1 := s0.trans s1
  repeat walk_at "w"
  refine ⟨p, _, rfl, SqL.of hl1, ?_⟩
  have eL : (txl ((subsT T).map tt)).length = ((subsT T).map tt).length := List.length_map _
  rw [eL]
  refine forV (f := fun w => V.str (tx w)) (l := (subsT T).map tt) (fun i σ H' => ∃ (v3 v4 v5 : Option V) (kvs : List (Key × V)), σ = [some (.str (tx (tt T))), some (.str (tx [x])), some (.ref D), v3, v4, v5] ∧ Same H H' ∧ H' p = some (.lst (txl ((subsT T).map tt))) ∧ H' D = some (.dK kvs) ∧ kvs.length ≤ i ∧
      ∀ S ∈ (subsT T).drop ((subsT T).length - i), valV kvs (Sum.inr (tx (tt S))) = some (.str (tx (boneF x (tt S)))))
    ⟨none, none, none, [], rfl, sm1, hl1, hD1, Nat.le_refl _, fun S hS => by rw [Nat.sub_zero, List.drop_length] at hS; cases hS⟩ (fun i σ H' w => ?_) (fun i y σ H' hi hy w => ?_) (fun σ H' w => ?_)
  · obtain ⟨v3, v4, v5, kvs, rfl, sm, hl2, _⟩ := w
    exact SqL.of hl2
  · obtain ⟨v3, v4, v5, kvs, rfl, sm, hl2, hD2, hkl, hin⟩ := w
    rw [List.length_map] at hi hy
    rw [List.getElem?_map] at hy
    obtain ⟨S, hS, rfl⟩ := Option.map_eq_some_iff.mp hy
    have hSm := List.mem_of_getElem? hS
    have wS := subs_wt T wt S hSm
    have lS := subs_len T S hSm
    have tvS : TreeV L S := ⟨nb, wS, by omega⟩
    have kidsIn := subs_kids T _ S hS
    rw [show (subsT T).length - 1 - i + 1 = (subsT T).length - i by omega] at kidsIn
    repeat walk_at "w"
    refine ⟨L, S, rfl, tvS, fun H2 kp s2 hkp hkl2 => ?_⟩
    have hD3 := s2 _ _ hD2
    repeat walk_at "w"
    refine ⟨⟨_, SqL.of hkl2⟩, fun C hC => ?_⟩
    have nDC : D ≠ C := ne_of_none hD3 hC
    have k3 : S.kids.length ≤ 3 := by cases wS; assumption
    have sm2 := sm.trans s2
    have fC : H C = none := sm2.free hC
    refine lcL (f := fun w => V.str (tx w)) (l := S.kids.map tt) (by rw [List.length_map]; omega) (fun i acc H' => acc = txl (((S.kids.map tt).take i).map (boneF x)) ∧ Same H2 H')
      ⟨by simp [txl], Same.new hC⟩ (fun i acc H' hDa p' => SqL.of (p'.2 _ _ hkl2)) (fun j w acc H' hw hj hz hCa p' => ?_) (fun acc H' hCa p' => ?_)
    · obtain ⟨rfl, sm4⟩ := p'
      obtain ⟨k, hk, rfl⟩ := Option.map_eq_some_iff.mp (by rw [List.getElem?_map] at hw; exact hw)
      have hkm := List.mem_of_getElem? hk
      have v := hin k (kidsIn k hkm)
      repeat walk_at "w"
      refine ⟨rfl, ?_⟩
      repeat walk_at "w"
      refine w_dgS (sm4 _ _ hD3) v ?_
      refine LcT.mk hCa hz hj ⟨?_, sm4.put hC⟩
      rw [List.take_succ, hw]
      unfold txl
      rw [List.map_append, List.map_append]
      rfl
    · obtain ⟨rfl, sm4⟩ := p'
      rw [List.take_length] at hCa
      have smH := sm2.trans sm4
      have hD5 := sm4 _ _ hD3
      have hl5 := sm4 _ _ (s2 _ _ hl2)
      have bS := bone_tt0 nb x wS
      have done : ∀ kvs' : List (Key × V), kvs' = putK kvs (Sum.inr (tx (tt S))) (.str (tx (boneF x (tt S)))) → kvs'.length ≤ i + 1 ∧ ∀ S' ∈ (subsT T).drop ((subsT T).length - (i + 1)), valV kvs' (Sum.inr (tx (tt S'))) = some (.str (tx (boneF x (tt S')))) := fun kvs' e => by
        subst e
        refine ⟨by have := length_putK kvs (Sum.inr (tx (tt S))) (.str (tx (boneF x (tt S)))); omega, fun S' hS' => ?_⟩
        rw [valV_put]
        by_cases e : tt S' = tt S
        · rw [if_pos (by rw [e]), e]
        · rw [if_neg (fun z => e (tx_inj (Sum.inr.inj z)))]
          refine hin S' ?_
          rw [show (subsT T).length - (i + 1) = (subsT T).length - 1 - i by omega, drop_atT hS] at hS'
          rcases List.mem_cons.mp hS' with rfl | h
          · exact absurd rfl e
          · rw [show (subsT T).length - 1 - i + 1 = (subsT T).length - i by omega] at h
            exact h
      repeat walk_at "w"
      have el : ((S.kids.map tt).map (boneF x)).length = S.kids.length := by simp
      rw [el]
      cases S with
      | node l ks =>
        by_cases e : ks = []
        · subst e
          have hno : ¬ ((0 : Int) < ((Tr.node l []).kids.length : Int)) := by show ¬ ((0 : Int) < (([] : List Tr).length : Int)); simp
          rw [decide_eq_false hno]
          repeat walk_at "z"
          refine w_dpS hD5 (by omega) ?_
          have eb : boneF x (tt (.node l [])) = tt (.node l []) := by rw [bS, bone_leaf]
          rw [eb] at done
          obtain ⟨d1, d2⟩ := done _ rfl
          exact ⟨_, _, _, _, rfl, smH.put hD, by rw [upd_ne (ne_of hl5 hD5 (by intro z; cases z))]; exact hl5, upd_same, d1, d2⟩
        · have hp : 0 < ks.length := List.length_pos_iff.mpr e
          have hp2 : (0 : Int) < ((Tr.node l ks).kids.length : Int) := by show (0 : Int) < (ks.length : Int); omega
          rw [decide_eq_true hp2]
          repeat walk_at "w"
          have hk' : ((Tr.node l ks).kids.map tt).map (boneF x) = (ks.map (bone x)).map tt := by
            show (ks.map tt).map (boneF x) = _
            rw [List.map_map, List.map_map]
            exact List.map_congr_left fun k hk => bone_tt0 nb x (wS.kids k hk)
          have e2 : ks.map (bone x) ≠ [] := fun z => e (List.map_eq_nil_iff.mp z)
          have hb : boneF x (tt (.node l ks)) = [x] ++ [40] ++ (((Tr.node l ks).kids.map tt).map (boneF x)).flatten ++ [41] := by
            rw [bS, bone_node e, tt_node e2, hk']
            simp [List.flatMap]
          have hbl := congrArg List.length hb
          rw [boneF_len] at hbl
          simp only [List.length_append, List.length_singleton] at hbl
          refine ⟨[x], C, ((Tr.node l ks).kids.map tt).map (boneF x), rfl, SqL.of hCa, by rw [List.length_singleton]; omega, ?_⟩
          rw [if_neg (by rw [hk']; exact fun z => e2 (List.map_eq_nil_iff.mp z)), ← hb]
          repeat walk_at "w"
          obtain ⟨d1, d2⟩ := done _ rfl
          refine w_dpS hD5 (by omega) ?_
          exact ⟨_, _, _, _, rfl, smH.put hD, by rw [upd_ne (ne_of hl5 hD5 (by intro z; cases z))]; exact hl5, upd_same, d1, d2⟩
  · obtain ⟨v3, v4, v5, kvs, rfl, sm, hl2, hD2, hkl, hin⟩ := w
    rw [List.length_map] at hin
    rw [Nat.sub_self, List.drop_zero] at hin
    have hT : T ∈ subsT T := by
      cases T with
      | node l ks => rw [subsT_node]; exact List.mem_cons_self
    repeat walk_at "w"
    refine w_dgS hD2 (hin T hT) ?_
    exact q _ sm
theorem pure_dalpha (vs : List V) (H : Hp) (Q : VK) (E : XK) (h : spAlpha vs H Q E) : t_dalpha K { nx := fun _ H' => Q .non H', rt := Q } (start N_dalpha vs) H := by
  obtain ⟨st, cc, m, rfl, hst, h1, h4, q⟩ := h
  have hs : ∀ k, k < 26 → (List.range' 97 26)[k]? = some (97 + k) := fun k hk => by
    rw [List.getElem?_range' hk]
    congr 1
    omega
  have hl26 : (List.range' 97 26).length ≤ 1000000 := by decide
  rw [start_dalpha]
  unfold t_dalpha
  rw [small_tx]
  repeat walk_at "w"
  refine ⟨st, cc, _, rfl, by omega, by omega, hst, fun r H1 r0 r1 f1 s1 => ?_⟩
  obtain ⟨n, rfl⟩ := Int.eq_ofNat_of_zero_le r0
  have hn := hs n (by omega)
  repeat walk_at "w"
  refine ⟨by omega, by omega, ?_⟩
  have hz : ((m : Int) - 1).toNat = m - 1 := by omega
  rw [hz]
  refine forR (fun i σ H' => ∃ (a : Nat) (L : List Nat) (v5 : Option V), σ = [some (.ref st), some (.int (m : Nat)), some (.str (tx (List.range' 97 26))), some (.int (a : Nat)), some (.str (tx L)), v5] ∧ StC H' st cc ∧ L2.Fr [st] H H' ∧ L.length = i + 1 ∧ a + 6 * (m - 1 - i) ≤ 25 ∧ L[i]? = some (97 + a) ∧ (∀ c ∈ L, 97 ≤ c ∧ c ≤ 122) ∧ ∀ j x y, L[j]? = some x → L[j + 1]? = some y → x < y)
    ⟨n, [97 + n], none, rfl, s1, f1, rfl, by omega, rfl, fun c hc => by rw [List.mem_singleton.mp hc]; omega, fun j x y _ hy => by simp at hy⟩ (fun i σ H' hi p => ?_) (fun σ H' p => ?_)
  · obtain ⟨a, L, v5, rfl, s2, f2, hL, ha, hla, hin, has⟩ := p
    repeat walk_at "w"
    refine ⟨st, cc, 6, rfl, by omega, by omega, s2, fun r H3 r0' r1' f3 s3 => ?_⟩
    obtain ⟨k, rfl⟩ := Int.eq_ofNat_of_zero_le r0'
    have e : (a : Int) + 1 + (k : Int) = ((a + 1 + k : Nat) : Int) := by omega
    have hk := hs (a + 1 + k) (by omega)
    repeat walk_at "w"
    refine w_ixX hl26 (a + 1 + k) e hk ?_
    repeat walk_at "w"
    refine ⟨a + 1 + k, L ++ [97 + (a + 1 + k)], _, by rw [← e], s3, f2.trans f3, by rw [List.length_append, hL]; rfl, by omega, ?_, fun c hc => ?_, fun j x y hx hy => ?_⟩
    · rw [List.getElem?_append_right (by omega), hL, Nat.sub_self]
      rfl
    · rcases List.mem_append.mp hc with hc | hc
      · exact hin c hc
      · rw [List.mem_singleton.mp hc]
        omega
    · have hj2 := (List.getElem?_eq_some_iff.mp hy).1
      rw [List.length_append, List.length_singleton] at hj2
      rw [List.getElem?_append_left (by omega)] at hx
      by_cases ej : j + 1 < L.length
      · rw [List.getElem?_append_left ej] at hy
        exact has j x y hx hy
      · rw [List.getElem?_append_right (by omega), show j + 1 - L.length = 0 by omega] at hy
        cases hy
        rw [show j = i by omega, hla] at hx
        cases hx
        omega
  · obtain ⟨a, L, v5, rfl, s2, f2, hL, ha, hla, hin, has⟩ := p
    repeat walk_at "w"
    exact q L H' ⟨by omega, by omega, hin, has⟩ (by omega) f2 s2
theorem sumf (g : Nat → Nat) (k : Nat) : ∀ l : List Nat, ((l.filter fun x => decide (k ≤ x)).map g).sum = ((l.filter fun x => decide (k + 1 ≤ x)).map g).sum + l.count k * g k
  | [] => by simp
  | a :: r => by
    have ih := sumf g k r
    have fp : ∀ m, m ≤ a → ((a :: r).filter fun x => decide (m ≤ x)) = a :: r.filter fun x => decide (m ≤ x) := fun m h => by rw [List.filter_cons, if_pos (decide_eq_true h)]
    have fq : ∀ m, ¬ m ≤ a → ((a :: r).filter fun x => decide (m ≤ x)) = r.filter fun x => decide (m ≤ x) := fun m h => by rw [List.filter_cons, if_neg (by simpa using h)]
    rcases Nat.lt_trichotomy a k with h | h | h
    · rw [fq k (by omega), fq (k + 1) (by omega), List.count_cons_of_ne (by omega), ih]
    · subst h
      rw [fp a (Nat.le_refl _), fq (a + 1) (by omega), List.count_cons_self, List.map_cons, List.sum_cons, ih, Nat.add_mul, Nat.one_mul]
      omega
    · rw [fp k (by omega), fp (k + 1) (by omega), List.count_cons_of_ne (by omega), List.map_cons, List.map_cons, List.sum_cons, List.sum_cons, ih]
      omega
theorem Tab.fun_ {n : Nat} {L sg : List Nat} {bs : List (List Nat)} (t : Tab n L sg bs) : ∀ m, m ≤ n → ∃ f : Nat → Tr, ∀ i, n - m ≤ i → i < n → f i = .node (sg.getD i 0) ((bs.getD i []).map f) := by
  intro m
  induction m with
  | zero => exact fun _ => ⟨fun _ => .node 0 [], fun i h1 h2 => by omega⟩
  | succ m ih =>
    intro hm
    obtain ⟨f, hf⟩ := ih (by omega)
    refine ⟨fun j => if j = n - (m + 1) then .node (sg.getD j 0) ((bs.getD j []).map f) else f j, fun i h1 h2 => ?_⟩
    have kid : ∀ i, n - (m + 1) ≤ i → i < n → (bs.getD i []).map (fun j => if j = n - (m + 1) then Tr.node (sg.getD j 0) ((bs.getD j []).map f) else f j) = (bs.getD i []).map f := fun i h1 h2 => by
      refine List.map_congr_left fun k hk => ?_
      have hb : bs[i]? = some (bs.getD i []) := by
        rw [List.getD_eq_getElem?_getD, List.getElem?_eq_getElem (by rw [t.lb]; exact h2)]
        rfl
      have := ((t.up i _ hb).2 k hk).1
      rw [if_neg (by omega)]
    show (if i = n - (m + 1) then _ else f i) = _
    rw [kid i h1 h2]
    by_cases e : i = n - (m + 1)
    · rw [if_pos e]
    · rw [if_neg e]
      exact hf i (by omega) h2
theorem Tab.tree {n : Nat} {L sg : List Nat} {bs : List (List Nat)} (t : Tab n L sg bs) : ∃ f : Nat → Tr, (∀ i, i < n → f i = .node (sg.getD i 0) ((bs.getD i []).map f)) ∧ (∀ i, i < n → WT L (f i)) ∧ ∀ i, i < n → tsz (f i) ≤ n := by
  obtain ⟨f, hf0⟩ := t.fun_ n (Nat.le_refl n)
  have hf : ∀ i, i < n → f i = .node (sg.getD i 0) ((bs.getD i []).map f) := fun i hi => hf0 i (by omega) hi
  have hb : ∀ i, i < n → bs[i]? = some (bs.getD i []) := fun i hi => by
    rw [List.getD_eq_getElem?_getD, List.getElem?_eq_getElem (by rw [t.lb]; exact hi)]
    rfl
  have hs : ∀ i, i < n → sg.getD i 0 ∈ L := fun i hi => by
    refine t.mem _ ?_
    rw [List.getD_eq_getElem?_getD, List.getElem?_eq_getElem (by rw [t.ls]; exact hi)]
    exact List.getElem_mem _
  have wt : ∀ m, m ≤ n → ∀ i, n - m ≤ i → i < n → WT L (f i) := by
    intro m
    induction m with
    | zero => exact fun _ i h1 h2 => by omega
    | succ m ih =>
      intro hm i h1 h2
      by_cases e : i = n - (m + 1)
      · rw [hf i h2]
        refine .node (hs i h2) (by rw [List.length_map]; exact (t.up i _ (hb i h2)).1) fun k hk => ?_
        obtain ⟨j, hj, rfl⟩ := List.mem_map.mp hk
        have := (t.up i _ (hb i h2)).2 j hj
        exact ih (by omega) j (by omega) this.2
      · exact ih (by omega) i (by omega) h2
  have sz : ∀ i, i < n → tsz (f i) = 1 + ((bs.getD i []).map fun k => tsz (f k)).sum := fun i hi => by
    rw [hf i hi, tsz_node, List.map_map]
    rfl
  have pot : ∀ m, m + 1 ≤ n → ((((bs.take (n - m)).flatten).filter fun x => decide (n - m ≤ x)).map fun k => tsz (f k)).sum = m := by
    intro m
    induction m with
    | zero =>
      intro _
      rw [Nat.sub_zero, List.filter_eq_nil_iff.mpr]
      · rfl
      · intro a ha
        obtain ⟨b, hbm, hab⟩ := List.mem_flatten.mp ha
        obtain ⟨j, hj⟩ := List.mem_iff_getElem?.mp (List.mem_of_mem_take hbm)
        have := ((t.up j b hj).2 a hab).2
        simp
        omega
    | succ m ih =>
      intro hm
      have ihm := ih (by omega)
      have hk : n - m = (n - (m + 1)) + 1 := by omega
      generalize hkk : n - (m + 1) = k at hk
      rw [hk] at ihm
      have hkn : k < n := by omega
      have e1 : bs.take (k + 1) = bs.take k ++ [bs.getD k []] := by rw [List.take_succ, hb k hkn]; rfl
      have hup := t.up k _ (hb k hkn)
      rw [e1, List.flatten_append, List.filter_append, List.map_append, List.sum_append] at ihm
      have e2 : ([bs.getD k []].flatten.filter fun x => decide (k + 1 ≤ x)) = bs.getD k [] := by
        rw [List.flatten_singleton]
        exact List.filter_eq_self.mpr fun a ha => decide_eq_true (hup.2 a ha).1
      rw [e2] at ihm
      have cnt : (bs.take k).flatten.count k = 1 := by
        have h1 := t.one k (by omega) hkn
        have e3 : bs.flatten = (bs.take k).flatten ++ (bs.drop k).flatten := by rw [← List.flatten_append, List.take_append_drop]
        rw [e3, List.count_append] at h1
        have h0 : (bs.drop k).flatten.count k = 0 := by
          rw [List.count_eq_zero]
          intro hm
          obtain ⟨b, hbm, hab⟩ := List.mem_flatten.mp hm
          obtain ⟨j, hj⟩ := List.mem_iff_getElem?.mp hbm
          rw [List.getElem?_drop] at hj
          have := ((t.up _ b hj).2 k hab).1
          omega
        omega
      rw [sumf, cnt, Nat.one_mul, sz k hkn]
      omega
  refine ⟨f, hf, fun i hi => wt n (Nat.le_refl n) i (by omega) hi, fun i hi => ?_⟩
  by_cases h0 : i = 0
  · subst h0
    rw [sz 0 hi]
    have p := pot (n - 1) (by omega)
    rw [show n - (n - 1) = 1 by omega] at p
    have e1 : bs.take 1 = [bs.getD 0 []] := by rw [List.take_succ, List.take_zero, hb 0 hi]; rfl
    have e2 : (bs.getD 0 []).filter (fun x => decide (1 ≤ x)) = bs.getD 0 [] := List.filter_eq_self.mpr fun a ha => decide_eq_true ((t.up 0 _ (hb 0 hi)).2 a ha).1
    rw [e1, List.flatten_singleton, e2] at p
    have := sz 0 hi
    omega
  · have p := pot (n - i) (by omega)
    rw [show n - (n - i) = i by omega] at p
    have hm : i ∈ ((bs.take i).flatten.filter fun x => decide (i ≤ x)) := by
      refine List.mem_filter.mpr ⟨?_, by simp⟩
      have h1 := t.one i (by omega) hi
      have hmem : i ∈ bs.flatten := List.count_pos_iff.mp (by omega)
      obtain ⟨b, hbm, hab⟩ := List.mem_flatten.mp hmem
      obtain ⟨j, hj⟩ := List.mem_iff_getElem?.mp hbm
      have hji := ((t.up j b hj).2 i hab).1
      refine List.mem_flatten.mpr ⟨b, ?_, hab⟩
      refine List.mem_iff_getElem?.mpr ⟨j, ?_⟩
      rw [List.getElem?_take_of_lt hji]
      exact hj
    have hmm : tsz (f i) ∈ ((((bs.take i).flatten).filter fun x => decide (i ≤ x)).map fun k => tsz (f k)) := List.mem_map.mpr ⟨i, hm, rfl⟩
    have := sum_mem hmm
    omega
theorem count_set {x : Nat} : ∀ (l : List (List Nat)) (i : Nat) (b b' : List Nat), l[i]? = some b → (l.set i b').flatten.count x + b.count x = l.flatten.count x + b'.count x
  | [], _, _, _, h => by cases h
  | a :: r, 0, b, b', h => by
    cases h
    simp only [List.set_cons_zero, List.flatten_cons, List.count_append]
    omega
  | a :: r, i + 1, b, b', h => by
    have := count_set (x := x) r i b b' h
    simp only [List.set_cons_succ, List.flatten_cons, List.count_append]
    omega
/-- a new leaf -/
theorem Tab.grow {n : Nat} {L sg : List Nat} {bs : List (List Nat)} (t : Tab n L sg bs) (hn : 1 ≤ n) {c i k : Nat} {b : List Nat} (hc : c ∈ L) (hb : bs[i]? = some b) (hl : b.length < 3) : Tab (n + 1) L (sg ++ [c]) (bs.set i (b.take k ++ [n] ++ b.drop k) ++ [[]]) := by
  have hi : i < n := by rw [← t.lb]; exact (List.getElem?_eq_some_iff.mp hb).1
  have hup := t.up i b hb
  have hsplit : ∀ x, (b.take k ++ [n] ++ b.drop k).count x = b.count x + [n].count x := fun x => by
    have e : b.count x = (b.take k).count x + (b.drop k).count x := by rw [← List.count_append, List.take_append_drop]
    rw [List.count_append, List.count_append, e]
    omega
  refine ⟨by rw [List.length_append, t.ls]; rfl, by rw [List.length_append, List.length_set, t.lb]; rfl, fun x hx => ?_, fun j d hj => ?_, fun x h1 h2 => ?_⟩
  · rcases List.mem_append.mp hx with hx | hx
    · exact t.mem x hx
    · rw [List.mem_singleton.mp hx]
      exact hc
  · rw [List.getElem?_append] at hj
    split at hj
    · rw [List.getElem?_set] at hj
      by_cases e : i = j
      · subst e
        rw [if_pos rfl] at hj
        split at hj
        · cases hj
          refine ⟨by simp only [List.length_append, List.length_take, List.length_drop, List.length_singleton]; omega, fun x hx => ?_⟩
          have hx' : x ∈ b ∨ x = n := by
            rcases List.mem_append.mp hx with hx | hx
            · rcases List.mem_append.mp hx with hx | hx
              · exact .inl (List.mem_of_mem_take hx)
              · exact .inr (List.mem_singleton.mp hx)
            · exact .inl (List.mem_of_mem_drop hx)
          rcases hx' with hx | rfl
          · have := hup.2 x hx
            omega
          · omega
        · cases hj
      · rw [if_neg e] at hj
        have := t.up j d hj
        exact ⟨this.1, fun x hx => by have := this.2 x hx; omega⟩
    · next hge =>
      have : d = [] := by
        have := List.mem_of_getElem? hj
        simpa using this
      subst this
      exact ⟨by simp, fun x hx => by cases hx⟩
  · rw [List.flatten_append, List.count_append]
    have e0 : ([[]] : List (List Nat)).flatten.count x = 0 := by simp
    rw [e0, Nat.add_zero]
    have h3 := count_set (x := x) bs i b (b.take k ++ [n] ++ b.drop k) hb
    rw [hsplit] at h3
    by_cases e : x = n
    · subst e
      have h0 : bs.flatten.count x = 0 := by
        rw [List.count_eq_zero]
        intro hm
        obtain ⟨d, hd, hx⟩ := List.mem_flatten.mp hm
        obtain ⟨j, hj⟩ := List.mem_iff_getElem?.mp hd
        have := ((t.up j d hj).2 x hx).2
        omega
      have h5 : [x].count x = 1 := by simp
      omega
    · have h4 := t.one x h1 (by omega)
      have h5 : [n].count x = 0 := by
        rw [List.count_eq_zero]
        simpa using e
      omega
theorem wtop_le {cs : List Nat} (h : WOk cs) : wtop cs ≤ wmost cs := by
  obtain ⟨h0, h1, h2⟩ := h
  obtain ⟨a, t, rfl⟩ : ∃ a t, cs = a ++ [t] := ⟨cs.dropLast, cs.getLast h0, (List.dropLast_concat_getLast h0).symm⟩
  rw [wtop_snoc]
  unfold wmost
  cases a with
  | nil => exact h1
  | cons x r =>
    rw [if_neg (by simp)]
    exact h2 t (by simp)
theorem at_top {cs : List Nat} (h : cs ≠ []) : atI (natl cs) ((cs.length : Int) - 1) = some (V.int (wtop cs : Nat)) := by
  obtain ⟨a, t, rfl⟩ : ∃ a t, cs = a ++ [t] := ⟨cs.dropLast, cs.getLast h, (List.dropLast_concat_getLast h).symm⟩
  rw [wtop_snoc]
  have e : ((a ++ [t]).length : Int) - 1 = (a.length : Nat) := by simp
  rw [e]
  refine atI_nat ?_
  unfold natl
  rw [List.getElem?_map, List.getElem?_append_right (Nat.le_refl _), Nat.sub_self]
  rfl
theorem at_neg {cs : List Nat} (h : cs ≠ []) : atI (natl cs) (-1) = some (V.int (wtop cs : Nat)) := by
  have hp : 0 < cs.length := List.length_pos_iff.mpr h
  have e := at_top h
  unfold atI at e ⊢
  have e1 : ixN (natl cs).length (-1) = some (cs.length - 1) := by
    unfold ixN
    rw [natl_len, if_neg (by omega), if_pos (by omega)]
    congr 1
    omega
  have e2 : ixN (natl cs).length ((cs.length : Int) - 1) = some (cs.length - 1) := by
    unfold ixN
    rw [natl_len, if_pos (by omega), if_pos (by omega)]
    congr 1
    omega
  rw [e2] at e
  rw [e1]
  exact e
theorem ix_top {cs : List Nat} (h : cs ≠ []) : ixN (natl cs).length ((cs.length : Int) - 1) = some (cs.length - 1) := by
  have hp : 0 < cs.length := List.length_pos_iff.mpr h
  unfold ixN
  rw [natl_len, if_pos (by omega), if_pos (by omega)]
  congr 1
  omega
theorem ix_neg {cs : List Nat} (h : cs ≠ []) : ixN (natl cs).length (-1) = some (cs.length - 1) := by
  have hp : 0 < cs.length := List.length_pos_iff.mpr h
  unfold ixN
  rw [natl_len, if_neg (by omega), if_pos (by omega)]
  congr 1
  omega
theorem set_top {cs : List Nat} (h : cs ≠ []) (n : Nat) : (natl cs).set (cs.length - 1) (V.int (n : Nat)) = natl (cs.dropLast ++ [n]) := by
  obtain ⟨a, t, rfl⟩ : ∃ a t, cs = a ++ [t] := ⟨cs.dropLast, cs.getLast h, (List.dropLast_concat_getLast h).symm⟩
  rw [List.dropLast_concat]
  unfold natl
  rw [List.map_append, List.map_append]
  have e : (a ++ [t]).length - 1 = (a.map fun k => V.int (k : Nat)).length := by simp
  rw [e, List.set_append_right _ _ (Nat.le_refl _), Nat.sub_self]
  rfl
theorem wrun_cons (L cs : List Nat) (c : Nat) (r : List Nat) (i : Nat) : wrun L cs (c :: r) i = match wstep L cs c with | none => some i | some cs' => wrun L cs' r (i + 1) := rfl
theorem drop_at' {l : List Nat} {i c : Nat} (h : l[i]? = some c) : l.drop i = c :: l.drop (i + 1) := drop_at h
theorem w_most {cs : List Nat} {σ : L2.St} {H : Hp} {P : VK} (hp : 0 < cs.length) (p : P (.int (wmost cs : Nat)) H) : if decide ((cs.length : Int) - 1 = 0) = true then tC (.int 1) σ H P else tC (.int 3) σ H P := by
  unfold wmost at p
  by_cases e : cs.length = 1
  · rw [if_pos e] at p
    rw [decide_eq_true (by omega), if_pos rfl]
    exact p
  · rw [if_neg e] at p
    rw [decide_eq_false (by omega), if_neg (by simp)]
    exact p
theorem pure_dfwb (vs : List V) (H : Hp) (Q : VK) (E : XK) (h : spWrong vs H Q E) : t_dfwb K { nx := fun _ H' => Q .non H', rt := Q } (start N_dfwb vs) H := by
  obtain ⟨L, l, rfl, hL, hl, q⟩ := h
  rw [start_dfwb]
  unfold t_dfwb
  rw [open_tx, shut_tx]
  repeat walk_at "w"
  intro cp hcp
  repeat walk_at "w"
  refine forEX (fun i σ H' => ∃ (cs : List Nat) (v1 v2 v3 : Option V), σ = [some (.str (tx L)), some (.str (tx l)), some (.ref cp), v1, v2, v3] ∧ Same H H' ∧ H' cp = some (.lst (natl cs)) ∧ WOk cs ∧ wrun L [0] l 0 = wrun L cs (l.drop i) i ∧ cs.length ≤ i + 1)
    ⟨[0], none, none, none, rfl, Same.new hcp, upd_same, ⟨by simp, by simp, by simp⟩, rfl, Nat.le_refl _⟩ (fun i c σ H' p0 hc p hp0 => ?_) (fun σ H' p => ?_)
  · obtain ⟨cs, v1, v2, v3, rfl, sm, hcs, ok, hw, hln⟩ := p
    have sn : Same H' (upd H' p0 (.tup [.int (i : Nat), .str (tx [c])])) := Same.new hp0
    have k1 := sn _ _ hcs
    have sm2 := sm.trans sn
    have hi := (List.getElem?_eq_some_iff.mp hc).1
    rw [drop_at hc, wrun_cons] at hw
    have h0 := ok.1
    have hp : 0 < cs.length := List.length_pos_iff.mpr h0
    have hle := wtop_le ok
    have hlen : (natl cs).length = cs.length := natl_len cs
    repeat walk_at "w"
    generalize upd H' p0 (.tup [.int (i : Nat), .str (tx [c])]) = H2 at k1 sm2
    have wrong : wstep L cs c = none → Q (.int (i : Nat)) H2 := fun e => by
      rw [e] at hw
      have := q H2 sm2
      rw [hw] at this
      exact this
    have go : ∀ cs', wstep L cs c = some cs' → ∀ H3, Same H H3 → H3 cp = some (.lst (natl cs')) → cs'.length ≤ i + 1 + 1 → ∃ (ds : List Nat) (v1 v2 v3 : Option V), [some (V.str (tx L)), some (.str (tx l)), some (.ref cp), some (.int (i : Nat)), some (.str (tx [c])), some (.int ((cs.length : Int) - 1))] = [some (.str (tx L)), some (.str (tx l)), some (.ref cp), v1, v2, v3] ∧ Same H H3 ∧ H3 cp = some (.lst (natl ds)) ∧ WOk ds ∧ wrun L [0] l 0 = wrun L ds (l.drop (i + 1)) (i + 1) ∧ ds.length ≤ i + 1 + 1 :=
      fun cs' e H3 s3 h3 hl3 => ⟨cs', _, _, _, rfl, s3, h3, ok.step e, by rw [hw, e], hl3⟩
    unfold wstep at wrong go
    refine w_iteD (fun h41 => ?_) (fun h41 => ?_)
    · have h41' : c = 41 := by simpa using h41
      rw [if_pos h41'] at wrong go
      repeat walk_at "w"
      refine w_iteD (fun ht => ?_) (fun ht => ?_)
      · have h1 : cs.length = 1 := by omega
        rw [if_pos (.inl h1)] at wrong
        repeat walk_at "z"
        exact wrong rfl
      have hn1 : ¬ cs.length = 1 := by omega
      repeat walk_at "w"
      refine w_ixL (SqL.of k1) (at_top h0) ?_
      repeat walk_at "w"
      refine w_iteD (fun ht0 => ?_) (fun ht0 => ?_)
      · have h1 : wtop cs = 0 := by omega
        rw [if_pos (.inr h1)] at wrong
        repeat walk_at "w"
        exact wrong rfl
      have h1 : ¬ (cs.length = 1 ∨ wtop cs = 0) := by omega
      rw [if_neg h1] at go
      repeat walk_at "w"
      have hlast : (natl cs)[(natl cs).length - 1]? = some (V.int (wtop cs : Nat)) := by
        have e := at_top h0
        unfold atI at e
        rw [ix_top h0] at e
        rw [hlen]
        exact e
      refine w_pop k1 hlast ?_
      repeat walk_at "w"
      refine go _ rfl _ (sm2.put hcp) ?_ (by rw [List.length_dropLast]; omega)
      rw [upd_same]
      unfold natl
      rw [List.map_dropLast]
    · have h41' : c ≠ 41 := by simpa using h41
      rw [if_neg h41'] at wrong go
      have isl : ∀ (A B : TS) D σ G, ((c = 40 ∨ c ∈ L) → A D σ G) → (¬ (c = 40 ∨ c ∈ L) → B D σ G) → (if (decide ([c] = [40]) || decide (c ∈ L)) = true then A D σ G else B D σ G) := fun A B D σ G a b => by
        by_cases e : c = 40 ∨ c ∈ L
        · rw [if_pos (by simpa using e)]
          exact a e
        · rw [if_neg (by simpa using e)]
          exact b e
      repeat walk_at "w"
      refine isl _ _ _ _ _ (fun hin => ?_) (fun hin => ?_)
      · rw [if_pos hin] at wrong go
        repeat walk_at "w"
        refine w_ixL (SqL.of k1) (at_top h0) ?_
        repeat walk_at "w"
        refine w_most hp ?_
        repeat walk_at "w"
        refine w_iteD (fun he => ?_) (fun he => ?_)
        · rw [if_neg (by omega)] at wrong
          repeat walk_at "w"
          exact wrong rfl
        have hlt : wtop cs < wmost cs := by omega
        rw [if_pos hlt] at go
        repeat walk_at "w"
        refine w_ixL (SqL.of k1) (at_top h0) ?_
        repeat walk_at "w"
        have e1 : ((wtop cs : Nat) : Int) + 1 = ((wtop cs + 1 : Nat) : Int) := by omega
        refine w_setL k1 (ix_top h0) ?_
        rw [e1, set_top h0]
        repeat walk_at "w"
        refine w_iteD (fun h40 => ?_) (fun h40 => ?_)
        · have h40' : c = 40 := by simpa using h40
          rw [if_pos h40'] at go
          repeat walk_at "w"
          refine w_app upd_same (by rw [natl_len, List.length_append, List.length_dropLast, List.length_singleton]; omega) ?_
          repeat walk_at "w"
          refine go _ rfl _ ((sm2.put hcp).put hcp) ?_ (by simp only [List.length_append, List.length_dropLast, List.length_singleton]; omega)
          rw [upd_same]
          unfold natl
          simp only [List.map_append]
          rfl
        · have h40' : c ≠ 40 := by simpa using h40
          rw [if_neg h40', List.append_nil] at go
          repeat walk_at "w"
          exact go _ rfl _ (sm2.put hcp) upd_same (by simp only [List.length_append, List.length_dropLast, List.length_singleton]; omega)
      · rw [if_neg hin] at wrong
        repeat walk_at "w"
        exact wrong rfl
  · have hz : l.drop l.length = [] := List.drop_length
    rw [hz] at p
    obtain ⟨cs, v1, v2, v3, rfl, sm, hcs, ok, hw, hln⟩ := p
    have hlen : (natl cs).length = cs.length := natl_len cs
    have hw2 : wrun L cs [] l.length = if 1 < cs.length ∨ cs.headD 0 = 0 then some l.length else none := rfl
    rw [hw2] at hw
    have h0 := ok.1
    have hp : 0 < cs.length := List.length_pos_iff.mpr h0
    have h00 : atI (natl cs) 0 = some (V.int (cs.headD 0 : Nat)) := by
      cases cs with
      | nil => exact absurd rfl h0
      | cons a r => exact atI_nat (j := 0) rfl
    have qq := q H' sm
    rw [hw] at qq
    repeat walk_at "w"
    refine w_iteD (fun h1 => ?_) (fun h1 => ?_)
    · rw [if_pos (.inl (by omega))] at qq
      repeat walk_at "z"
      exact qq
    repeat walk_at "w"
    refine w_ixL (SqL.of hcs) h00 ?_
    repeat walk_at "w"
    refine w_iteD (fun h2 => ?_) (fun h2 => ?_)
    · rw [if_pos (.inr (by omega))] at qq
      repeat walk_at "w"
      exact qq
    · rw [if_neg (by omega)] at qq
      repeat walk_at "w"
      exact qq
theorem pure_dlwb (vs : List V) (H : Hp) (Q : VK) (E : XK) (h : spWrong vs H Q E) : t_dlwb K { nx := fun _ H' => Q .non H', rt := Q } (start N_dlwb vs) H := by
  obtain ⟨L, l, rfl, hL, hl, q⟩ := h
  rw [start_dlwb]
  unfold t_dlwb
  rw [open_tx, shut_tx]
  repeat walk_at "w"
  intro cp0 hcp0
  repeat walk_at "w"
  refine ⟨by omega, by omega, ?_⟩
  refine forR (fun i σ H' => ∃ (cp : Addr) (cs : List Nat) (v1 v2 v3 : Option V), σ = [some (.str (tx L)), some (.str (tx l)), some (.ref cp), v1, v2, v3] ∧ H cp = none ∧ Same H H' ∧ H' cp = some (.lst (natl cs)) ∧ WOk cs ∧ wrun L [0] l 0 = wrun L cs (l.drop i) i ∧ cs.length ≤ i + 1)
    ⟨cp0, [0], none, none, none, rfl, hcp0, Same.new hcp0, upd_same, ⟨by simp, by simp, by simp⟩, rfl, Nat.le_refl _⟩ (fun i σ H2 hi p => ?_) (fun σ H' p => ?_)
  · have hi' : i < l.length := by omega
    obtain ⟨cp, cs, v1, v2, v3, rfl, hcp, sm2, k1, ok, hw, hln⟩ := p
    obtain ⟨c, hc⟩ : ∃ c, l[i]? = some c := ⟨_, List.getElem?_eq_getElem hi'⟩
    rw [drop_at hc, wrun_cons] at hw
    have h0 := ok.1
    have hp : 0 < cs.length := List.length_pos_iff.mpr h0
    have hle := wtop_le ok
    have hlen : (natl cs).length = cs.length := natl_len cs
    have wrong : wstep L cs c = none → Q (.int (0 + (i : Int))) H2 := fun e => by
      rw [e] at hw
      have := q H2 sm2
      rw [hw] at this
      rw [Int.zero_add]
      exact this
    have go : ∀ cs', wstep L cs c = some cs' → ∀ (d : Addr) (v : V) H3, Same H H3 → H d = none → H3 d = some (.lst (natl cs')) → cs'.length ≤ i + 1 + 1 → ∃ (cp : Addr) (ds : List Nat) (v1 v2 v3 : Option V), [some (V.str (tx L)), some (.str (tx l)), some (.ref d), some (.int (0 + (i : Int))), some (.str (tx [c])), some v] = [some (.str (tx L)), some (.str (tx l)), some (.ref cp), v1, v2, v3] ∧ H cp = none ∧ Same H H3 ∧ H3 cp = some (.lst (natl ds)) ∧ WOk ds ∧ wrun L [0] l 0 = wrun L ds (l.drop (i + 1)) (i + 1) ∧ ds.length ≤ i + 1 + 1 :=
      fun cs' e d v H3 s3 hd h3 hl3 => ⟨d, cs', _, _, _, rfl, hd, s3, h3, ok.step e, by rw [hw, e], hl3⟩
    unfold wstep at wrong go
    repeat walk_at "c"
    refine w_seq ?_
    repeat walk_at "c"
    refine w_seq ?_
    repeat walk_at "c"
    refine w_seqP (fun σ H' => σ = [some (.str (tx L)), some (.str (tx l)), some (.ref cp), some (.int (0 + (i : Int))), some (.str (tx [c])), some (.int (wmost cs : Nat))] ∧ H' = H2) (fun U gU => ?_) (fun σ H3 p => ?_)
    · repeat walk_at "w"
      refine w_iteD (fun h1 => ?_) (fun h1 => ?_)
      · repeat walk_at "w"
        refine gU _ _ ⟨?_, rfl⟩
        unfold wmost
        rw [if_pos (by omega)]
        rfl
      · repeat walk_at "w"
        refine gU _ _ ⟨?_, rfl⟩
        unfold wmost
        rw [if_neg (by omega)]
        rfl
    obtain ⟨rfl, rfl⟩ := p
    repeat walk_at "w"
    refine w_iteD (fun h41 => ?_) (fun h41 => ?_)
    · have h41' : c = 41 := by simpa using h41
      rw [if_pos h41'] at wrong go
      repeat walk_at "w"
      refine w_iteD (fun ht => ?_) (fun ht => ?_)
      · have h1 : cs.length = 1 := by omega
        rw [if_pos (.inl h1)] at wrong
        repeat walk_at "z"
        exact wrong rfl
      have hn1 : ¬ cs.length = 1 := by omega
      repeat walk_at "w"
      refine w_ixL (SqL.of k1) (at_neg h0) ?_
      repeat walk_at "w"
      refine w_iteD (fun ht0 => ?_) (fun ht0 => ?_)
      · have h1 : wtop cs = 0 := by omega
        rw [if_pos (.inr h1)] at wrong
        repeat walk_at "w"
        exact wrong rfl
      have h1 : ¬ (cs.length = 1 ∨ wtop cs = 0) := by omega
      rw [if_neg h1] at go
      repeat walk_at "w"
      refine w_slL (SqL.of k1) fun d hd => ?_
      have ec : cutV (natl cs) none (some (-1)) = natl cs.dropLast := by
        unfold cutV
        have e1 : HT.sIx (natl cs).length (natl cs).length (some (-1)) = cs.length - 1 := by
          show (if (-1 : Int) < 0 then ((-1 : Int) + ((natl cs).length : Int)).toNat else min (-1 : Int).toNat (natl cs).length) = cs.length - 1
          rw [if_pos (by omega), hlen]
          omega
        rw [HT.sIx_none, e1, List.drop_zero, Nat.sub_zero]
        unfold natl
        rw [← List.map_take, List.dropLast_eq_take]
      rw [ec]
      repeat walk_at "w"
      exact go _ rfl d _ _ (sm2.put (sm2.free hd)) (sm2.free hd) upd_same (by rw [List.length_dropLast]; omega)
    · have h41' : c ≠ 41 := by simpa using h41
      rw [if_neg h41'] at wrong go
      repeat walk_at "w"
      by_cases hin : c = 40 ∨ c ∈ L
      · rw [if_pos hin] at wrong go
        rw [if_pos (by simpa using hin)]
        repeat walk_at "w"
        refine w_ixL (SqL.of k1) (at_neg h0) ?_
        repeat walk_at "w"
        refine w_iteD (fun hlt0 => ?_) (fun hge => ?_)
        · have hlt : wtop cs < wmost cs := by omega
          rw [if_pos hlt] at go
          repeat walk_at "w"
          refine w_ixL (SqL.of k1) (at_neg h0) ?_
          repeat walk_at "w"
          have e1 : ((wtop cs : Nat) : Int) + 1 = ((wtop cs + 1 : Nat) : Int) := by omega
          refine w_setL k1 (ix_neg h0) ?_
          rw [e1, set_top h0]
          repeat walk_at "w"
          refine w_iteD (fun h40 => ?_) (fun h40 => ?_)
          · have h40' : c = 40 := by simpa using h40
            rw [if_pos h40'] at go
            repeat walk_at "w"
            refine w_app upd_same (by rw [natl_len, List.length_append, List.length_dropLast, List.length_singleton]; omega) ?_
            repeat walk_at "w"
            refine go _ rfl _ _ _ ((sm2.put hcp).put hcp) hcp ?_ (by simp only [List.length_append, List.length_dropLast, List.length_singleton]; omega)
            rw [upd_same]
            unfold natl
            simp only [List.map_append]
            rfl
          · have h40' : c ≠ 40 := by simpa using h40
            rw [if_neg h40', List.append_nil] at go
            repeat walk_at "w"
            exact go _ rfl _ _ _ (sm2.put hcp) hcp upd_same (by simp only [List.length_append, List.length_dropLast, List.length_singleton]; omega)
        · rw [if_neg (by omega)] at wrong
          repeat walk_at "w"
          exact wrong rfl
      · rw [if_neg hin] at wrong
        rw [if_neg (by simpa using hin)]
        repeat walk_at "z"
        exact wrong rfl
  · have hz : (l.length : Int).toNat = l.length := by omega
    have hz2 : l.drop l.length = [] := List.drop_length
    rw [hz, hz2] at p
    obtain ⟨cp, cs, v1, v2, v3, rfl, hcp, sm, hcs, ok, hw, hln⟩ := p
    have hlen : (natl cs).length = cs.length := natl_len cs
    have hw2 : wrun L cs [] l.length = if 1 < cs.length ∨ cs.headD 0 = 0 then some l.length else none := rfl
    rw [hw2] at hw
    have h0 := ok.1
    have hp : 0 < cs.length := List.length_pos_iff.mpr h0
    have h00 : atI (natl cs) 0 = some (V.int (cs.headD 0 : Nat)) := by
      cases cs with
      | nil => exact absurd rfl h0
      | cons a r => exact atI_nat (j := 0) rfl
    have qq := q H' sm
    rw [hw] at qq
    repeat walk_at "w"
    refine w_iteD (fun h1 => ?_) (fun h1 => ?_)
    · rw [if_pos (.inl (by omega))] at qq
      repeat walk_at "z"
      exact qq
    repeat walk_at "w"
    refine w_ixL (SqL.of hcs) h00 ?_
    repeat walk_at "w"
    refine w_iteD (fun h2 => ?_) (fun h2 => ?_)
    · rw [if_pos (.inr (by omega))] at qq
      repeat walk_at "w"
      exact qq
    · rw [if_neg (by omega)] at qq
      repeat walk_at "w"
      exact qq
theorem pure_dreadb (vs : List V) (H : Hp) (Q : VK) (E : XK) (h : spRead K vs H Q E) : t_dreadb K E { nx := fun _ H' => Q .non H', rt := Q } (start N_dreadb vs) H := by
  obtain ⟨L, w, l, rfl, hL, hw, hw2, hl, q1, q2, q3, q4⟩ := h
  rw [start_dreadb]
  unfold t_dreadb
  rw [open_tx]
  repeat walk_at "w"
  refine ⟨L, rfl, hL, fun g => ?_, q1⟩
  repeat walk_at "w"
  refine ⟨L, w, rfl, hL, by omega, fun hin H1 s1 => ?_, q2 g⟩
  repeat walk_at "w"
  refine ⟨L, l, rfl, hL, hl, fun H2 s2 => ?_⟩
  have sm := s1.trans s2
  cases e : wrun L [0] l 0 with
  | some k =>
    repeat walk_at "w"
    have h0 : (0 : Int) ≤ wrI (some k) := by show (0 : Int) ≤ (k : Nat); omega
    rw [decide_eq_true h0]
    repeat walk_at "w"
    refine ⟨rfl, fun d hd => ?_⟩
    exact q3 g hin k e _ d (sm.trans (Same.new hd)) upd_same
  | none =>
    repeat walk_at "w"
    have h0 : ¬ (0 : Int) ≤ wrI none := by show ¬ (0 : Int) ≤ -1; omega
    rw [decide_eq_false h0]
    repeat walk_at "w"
    refine w_replC hw hl hw2 ?_
    rw [repl_in]
    exact q4 g hin e _ sm
theorem okT_app {l m : List Nat} (h : OkT l) (h' : OkT m) : OkT (l ++ m) := fun c hc => by
  rcases List.mem_append.mp hc with a | a
  · exact h c a
  · exact h' c a
theorem okT_one {c : Nat} (h : c < 1114112) : OkT [c] := fun x hx => by rw [List.mem_singleton.mp hx]; exact h
theorem okT_take {l : List Nat} {n : Nat} (h : OkT l) : OkT (l.take n) := fun c hc => h c (List.mem_of_mem_take hc)
theorem okT_drop {l : List Nat} {n : Nat} (h : OkT l) : OkT (l.drop n) := fun c hc => h c (List.mem_of_mem_drop hc)
theorem dash_tx : ("-" : Str) = tx [45] := by decide +kernel
theorem pure_dspoil (vs : List V) (H : Hp) (Q : VK) (E : XK) (h : spSpoil vs H Q E) : t_dspoil K { nx := fun _ H' => Q .non H', rt := Q } (start N_dspoil vs) H := by
  obtain ⟨st, cc, L, l, rfl, hst, hL, okL, hl, okl, q⟩ := h
  rw [start_dspoil]
  unfold t_dspoil
  rw [both_tx, dash_tx]
  repeat walk_at "w"
  refine ⟨st, cc, _, rfl, by omega, by omega, hst, fun r H1 r0 r1 f1 s1 => ?_⟩
  obtain ⟨n, rfl⟩ := Int.eq_ofNat_of_zero_le r0
  repeat walk_at "w"
  refine ⟨st, cc, _, rfl, by simp only [List.length_append, List.length_cons, List.length_nil]; omega, by simp only [List.length_append, List.length_cons, List.length_nil]; omega, s1, fun r2 H2 r20 r21 f2 s2 => ?_⟩
  obtain ⟨k, rfl⟩ := Int.eq_ofNat_of_zero_le r20
  have hk : k < ([40, 41] ++ L ++ [45]).length := by omega
  have hkc : ([40, 41] ++ L ++ [45])[k]? = some ([40, 41] ++ L ++ [45])[k] := List.getElem?_eq_getElem hk
  have okc : ([40, 41] ++ L ++ [45])[k] < 1114112 := by
    have hm := List.getElem_mem hk
    rcases List.mem_append.mp hm with hm | hm
    · rcases List.mem_append.mp hm with hm | hm
      · exact (show ∀ y ∈ [40, 41], y < 1114112 by decide) _ hm
      · exact okL _ hm
    · exact (show ∀ y ∈ [45], y < 1114112 by decide) _ hm
  have hsl : ([40, 41] ++ L ++ [45]).length ≤ 1000000 := by simp only [List.length_append, List.length_cons, List.length_nil]; omega
  refine w_ixXn hsl hkc ?_
  generalize ([40, 41] ++ L ++ [45])[k] = c at okc
  repeat walk_at "w"
  refine ⟨st, cc, 4, rfl, by omega, by omega, s2, fun r3 H3 r30 r31 f3 s3 => ?_⟩
  have F := (f1.trans f2).trans f3
  have n1 : n ≤ l.length := by omega
  repeat walk_at "w"
  refine w_iteD (fun _ => ?_) (fun _ => ?_)
  · repeat walk_at "w"
    refine q _ _ ?_ (okT_app (okT_take okl) (okT_drop okl)) F s3
    simp only [List.length_append, List.length_take, List.length_drop]
    omega
  repeat walk_at "w"
  refine w_iteD (fun _ => ?_) (fun _ => ?_)
  · repeat walk_at "w"
    refine q _ _ ?_ (okT_app (okT_app (okT_take okl) (okT_one okc)) (okT_drop okl)) F s3
    simp only [List.length_append, List.length_take, List.length_drop, List.length_singleton]
    omega
  repeat walk_at "w"
  refine w_iteD (fun _ => ?_) (fun _ => ?_)
  · repeat walk_at "w"
    refine q _ _ ?_ (okT_take okl) F s3
    simp only [List.length_take]
    omega
  · repeat walk_at "w"
    refine q _ _ ?_ (okT_app (okT_app (okT_take okl) (okT_one okc)) (okT_drop okl)) F s3
    simp only [List.length_append, List.length_take, List.length_drop, List.length_singleton]
    omega
theorem pure_dbadl (vs : List V) (H : Hp) (Q : VK) (E : XK) (h : spBadL vs H Q E) : t_dbadl K { nx := fun _ H' => Q .non H', rt := Q } (start N_dbadl vs) H := by
  obtain ⟨st, cc, L, rfl, hst, g, q⟩ := h
  have c1 : ("abcde" : Str) = tx [97, 98, 99, 100, 101] := by decide +kernel
  have c2 : (" " : Str) = tx [32] := by decide +kernel
  obtain ⟨g1, g2, g3, g4⟩ := g
  obtain ⟨x, hx⟩ : ∃ x, L[0]? = some x := ⟨_, List.getElem?_eq_getElem (by omega)⟩
  have hxm := List.mem_of_getElem? hx
  have hxr := g3 x hxm
  rw [start_dbadl]
  unfold t_dbadl
  rw [c1, c2, empty_tx]
  repeat walk_at "w"
  refine w_upperE (by omega) ?_
  rw [upper_tx fun c hc => by have := g3 c hc; omega]
  repeat walk_at "w"
  intro p hp
  repeat walk_at "w"
  have nst : ∀ l : List Nat, ¬ GoodL l → l.length ≤ 10 → ∀ H', L2.Fr [st] H H' → StC H' st cc → Q (.str (tx l)) H' := fun l a b H' c d => q l H' a b c d
  have bad1 : ¬ GoodL (L ++ [x]) := fun h => by
    have asc : ∀ j y : Nat, L[j]? = some y → x ≤ y := by
      intro j
      induction j with
      | zero =>
        intro y hy
        rw [hx] at hy
        cases hy
        exact Nat.le_refl _
      | succ j ih =>
        intro y hy
        have hlt := (List.getElem?_eq_some_iff.mp hy).1
        obtain ⟨z, hz⟩ : ∃ z, L[j]? = some z := ⟨_, List.getElem?_eq_getElem (by omega)⟩
        have := g4 j z y hz hy
        have := ih z hz
        omega
    obtain ⟨y, hy⟩ : ∃ y, L[L.length - 1]? = some y := ⟨_, List.getElem?_eq_getElem (by omega)⟩
    have h1 := asc _ y hy
    have h2 := h.2.2.2 (L.length - 1) y x (by rw [List.getElem?_append_left (by omega)]; exact hy) (by rw [show L.length - 1 + 1 = L.length by omega, List.getElem?_append_right (Nat.le_refl _), Nat.sub_self]; rfl)
    omega
  have bad2 : ¬ GoodL (L.map PyProof.Rows.up1) := fun h => by
    have := h.2.2.1 (PyProof.Rows.up1 x) (List.mem_map.mpr ⟨x, hxm, rfl⟩)
    unfold PyProof.Rows.up1 at this
    rw [if_pos hxr] at this
    omega
  have bad3 : ¬ GoodL [] := fun h => by have := h.1; simp at this
  have bad4 : ¬ GoodL [97, 98, 99, 100, 101] := fun h => by have := h.2.1; simp at this
  have bad5 : ¬ GoodL ([x] ++ [32]) := fun h => by have := h.2.2.1 32 (by simp); omega
  have pick : ∀ r : Int, 0 ≤ r → r < 5 → ∃ m, atI [V.str (tx (L ++ [x])), .str (tx (L.map PyProof.Rows.up1)), .str (tx []), .str (tx [97, 98, 99, 100, 101]), .str (tx ([x] ++ [32]))] r = some (.str (tx m)) ∧ ¬ GoodL m ∧ m.length ≤ 10 := fun r h0 h5 => by
    have : r = 0 ∨ r = 1 ∨ r = 2 ∨ r = 3 ∨ r = 4 := by omega
    rcases this with rfl | rfl | rfl | rfl | rfl
    · exact ⟨_, rfl, bad1, by rw [List.length_append, List.length_singleton]; omega⟩
    · exact ⟨_, rfl, bad2, by rw [List.length_map]; omega⟩
    · exact ⟨_, rfl, bad3, by simp⟩
    · exact ⟨_, rfl, bad4, by simp⟩
    · exact ⟨_, rfl, bad5, by simp⟩
  refine ⟨st, cc, 5, rfl, by omega, by omega, hst.same (Same.new hp), fun r H2 r0 r1 f2 s2 => ?_⟩
  obtain ⟨m, hm, bm, lm⟩ := pick r r0 r1
  have np : p ∉ [st] := by
    simpa using (hst.ne1 hp).symm
  refine w_ixL (SqL.of (f2 _ _ np upd_same)) hm ?_
  exact q m H2 bm lm ((Fr.of (Same.new hp)).trans f2) s2
theorem chars_len (sg : List Nat) : (sg.map fun c => V.str (tx [c])).length = sg.length := List.length_map _
theorem pure_dwritten (vs : List V) (H : Hp) (Q : VK) (E : XK) (h : spWritten vs H Q E) : t_dwritten K { nx := fun _ H' => Q .non H', rt := Q } (start N_dwritten vs) H := by
  obtain ⟨sp, bp, as, n, L, sg, bs, rfl, hsp, hbp, hbs, tb, hn, hn6, q⟩ := h
  obtain ⟨f, hf, hwt, hsz⟩ := tb.tree
  have lsg := tb.ls
  have lbs := tb.lb
  have las := hbs.1
  have hlen3 : ∀ i, i < n → (tt (f i)).length ≤ 1800 := fun i hi => by
    have := tt_len (f i)
    have := hsz i hi
    omega
  rw [start_dwritten]
  unfold t_dwritten
  rw [open_tx, shut_tx]
  repeat walk_at "w"
  refine ⟨⟨_, SqL.of hsp⟩, fun tp htp => ?_⟩
  refine lcL (f := fun c => V.str (tx [c])) (l := sg) (by omega) (fun i acc H' => acc = List.replicate i (V.str "") ∧ Same H H') ⟨rfl, Same.new htp⟩ (fun i acc H' _ p => SqL.of (p.2 _ _ hsp)) (fun i c acc H' hc him hz hDa p => ?_) (fun acc H' hDa p => ?_)
  · obtain ⟨rfl, sm⟩ := p
    repeat walk_at "w"
    refine ⟨rfl, ?_⟩
    repeat walk_at "z"
    exact LcT.mk hDa hz him ⟨by rw [List.replicate_succ'], sm.put htp⟩
  obtain ⟨rfl, sm⟩ := p
  repeat walk_at "w"
  have hsp' := sm _ _ hsp
  refine w_lenL (SqL.of hsp') ?_
  rw [chars_len]
  repeat walk_at "w"
  refine ⟨by omega, by omega, ?_⟩
  have hzz : (sg.length : Int).toNat = n := by omega
  rw [hzz]
  refine forR (fun k σ H' => ∃ (ws : List (List Nat)) (v3 v4 v5 v6 : Option V), σ = [some (.ref sp), some (.ref bp), some (.ref tp), v3, v4, v5, v6] ∧ Same H H' ∧ H' tp = some (.lst (txl ws)) ∧ ws.length = n ∧ ∀ i, n - k ≤ i → i < n → ws[i]? = some (tt (f i)))
    ⟨List.replicate n [], _, _, _, _, rfl, sm, by rw [hDa, lsg]; unfold txl; rw [List.map_replicate, ← empty_tx], List.length_replicate, fun i h1 h2 => by omega⟩ (fun k σ H2 hk p => ?_) (fun σ H2 p => ?_)
  · obtain ⟨ws, v3, v4, v5, v6, rfl, sm2, ht, hwl, hws⟩ := p
    have hsp2 := sm2 _ _ hsp
    have hbp2 := sm2 _ _ hbp
    have hj : n - 1 - k < n := by omega
    have ej : ((sg.length : Int) - 1 - (0 + (k : Int))) = ((n - 1 - k : Nat) : Int) := by omega
    generalize hjj : n - 1 - k = j at ej hj
    have hsj : sg[j]? = some (sg.getD j 0) := by
      rw [List.getD_eq_getElem?_getD, List.getElem?_eq_getElem (by omega)]
      rfl
    have hbj : bs[j]? = some (bs.getD j []) := by
      rw [List.getD_eq_getElem?_getD, List.getElem?_eq_getElem (by omega)]
      rfl
    obtain ⟨a, ha⟩ : ∃ a, as[j]? = some a := ⟨_, List.getElem?_eq_getElem (by omega)⟩
    have hab := hbs.2 j a _ ha hbj
    have hab2 := sm2 _ _ hab
    have hup := tb.up j _ hbj
    have fj := hf j hj
    have sgix : atI (sg.map fun c => V.str (tx [c])) (j : Int) = some (.str (tx [sg.getD j 0])) := atI_nat (by rw [List.getElem?_map, hsj]; rfl)
    have bpix : atI (as.map V.ref) (j : Int) = some (.ref a) := atI_nat (by rw [List.getElem?_map, ha]; rfl)
    have tix : ∀ zs : List (List Nat), zs.length = n → ixN (txl zs).length (j : Int) = some j := fun zs hz => by
      unfold txl ixN
      rw [List.length_map, hz, if_pos (by omega), if_pos (by omega)]
      rfl
    have nst : sp ≠ tp := ne_of_none hsp htp
    have nbt : bp ≠ tp := ne_of_none hbp htp
    have nat_ : a ≠ tp := ne_of_none hab htp
    have txset : ∀ (zs : List (List Nat)) (w : List Nat), (txl zs).set j (V.str (tx w)) = txl (zs.set j w) := fun zs w => by
      unfold txl
      rw [List.map_set]
    repeat walk_at "w"
    rw [ej]
    refine w_ixL (SqL.of hsp2) sgix ?_
    repeat walk_at "w"
    refine w_setL ht (tix ws hwl) ?_
    rw [txset]
    repeat walk_at "w"
    refine w_ixL (SqL.of (by rw [upd_ne nbt]; exact hbp2)) bpix ?_
    repeat walk_at "w"
    have hab3 : upd H2 tp (.lst (txl (ws.set j [sg.getD j 0]))) a = some (.lst (natl (bs.getD j []))) := by rw [upd_ne nat_]; exact hab2
    refine w_lenM (SqL.of hab3) ?_
    generalize hwj : ws.set j [sg.getD j 0] = wj at hab3
    generalize hbb : bs.getD j [] = b at hab3 hbj hup fj
    have hwjl : wj.length = n := by rw [← hwj, List.length_set]; exact hwl
    have hwjj : wj[j]? = some [sg.getD j 0] := by rw [← hwj, List.getElem?_set_self (by omega)]
    have hwjo : ∀ i, j < i → i < n → wj[i]? = some (tt (f i)) := fun i h1 h2 => by
      rw [← hwj, List.getElem?_set_ne (by omega)]
      exact hws i (by omega) h2
    by_cases hb0 : b.length = 0
    · have hbn : b = [] := List.length_eq_zero_iff.mp hb0
      subst hbn
      repeat walk_at "z"
      refine ⟨wj, _, _, _, _, rfl, sm2.put htp, upd_same, hwjl, fun i h1 h2 => ?_⟩
      by_cases e : i = j
      · rw [e, hwjj, fj, List.map_nil, tt_leaf]
      · exact hwjo i (by omega) h2
    · have hbne : b.map f ≠ [] := fun e => hb0 (by rw [← List.length_map (f := f), e]; rfl)
      have hlb : b.length ≤ 3 := hup.1
      have hflat : ((b.map (tt ∘ f)).flatten).length + 3 ≤ 1800 := by
        have e := hlen3 j hj
        rw [fj, tt_node hbne, List.flatMap_def, List.map_map, List.length_cons, List.length_cons, List.length_append, List.length_singleton] at e
        omega
      have hsp3 : upd H2 tp (HO.lst (txl wj)) sp = some (HO.lst (sg.map fun c => V.str (tx [c]))) := by rw [upd_ne nst]; exact hsp2
      have hbp3 : upd H2 tp (HO.lst (txl wj)) bp = some (HO.lst (as.map V.ref)) := by rw [upd_ne nbt]; exact hbp2
      repeat walk_at "z"
      refine w_ixL (SqL.of hsp3) sgix ?_
      repeat walk_at "z"
      refine w_ixL (SqL.of hbp3) bpix ?_
      repeat walk_at "z"
      refine ⟨⟨_, SqL.of hab3⟩, fun D hD => ?_⟩
      refine lcL (f := fun k => V.int (k : Nat)) (l := b) (by omega) (fun i acc H' => acc = txl ((b.take i).map (tt ∘ f)) ∧ Same (upd H2 tp (.lst (txl wj))) H') ⟨rfl, Same.new hD⟩ (fun i acc H' _ p => SqL.of (p.2 _ _ hab3)) (fun i c acc H' hc him hz hDa p => ?_) (fun acc H' hDa p => ?_)
      · obtain ⟨rfl, sm3⟩ := p
        have hcm := hup.2 c (List.mem_of_getElem? hc)
        have hat : atI (txl wj) (c : Int) = some (.str (tx (tt (f c)))) := atI_nat (by unfold txl; rw [List.getElem?_map, hwjo c hcm.1 hcm.2]; rfl)
        repeat walk_at "w"
        refine ⟨rfl, ?_⟩
        repeat walk_at "z"
        refine w_ixL (SqL.of (sm3 _ _ upd_same)) hat ?_
        refine LcT.mk hDa hz him ⟨?_, sm3.put hD⟩
        rw [List.take_succ, hc, Option.toList_some, List.map_append]
        unfold txl
        rw [List.map_append]
        rfl
      · obtain ⟨rfl, sm3⟩ := p
        rw [List.take_length] at hDa
        have sm4 : Same H H' := (sm2.put htp).trans sm3
        repeat walk_at "w"
        refine w_joinE (ys := b.map (tt ∘ f)) (SqL.of hDa) (by omega) ?_
        rw [join_tx]
        repeat walk_at "w"
        have hfin : [sg.getD j 0] ++ [40] ++ (b.map (tt ∘ f)).flatten ++ [41] = tt (f j) := by
          rw [fj, tt_node hbne, List.flatMap_def, List.map_map]
          simp
        rw [hfin]
        refine w_setL (sm3 _ _ upd_same) (tix wj hwjl) ?_
        rw [txset]
        refine ⟨_, _, _, _, _, rfl, sm4.put htp, upd_same, by rw [List.length_set]; exact hwjl, fun i h1 h2 => ?_⟩
        by_cases e : i = j
        · rw [e, List.getElem?_set_self (by omega)]
        · rw [List.getElem?_set_ne (by omega)]
          exact hwjo i (by omega) h2
  · obtain ⟨ws, v3, v4, v5, v6, rfl, sm2, ht, hwl, hws⟩ := p
    have h0 : atI (txl ws) 0 = some (.str (tx (tt (f 0)))) := by
      refine atI_nat (j := 0) ?_
      unfold txl
      rw [List.getElem?_map, hws 0 (by omega) (by omega)]
      rfl
    repeat walk_at "w"
    refine w_ixL (SqL.of ht) h0 ?_
    exact q H2 (f 0) sm2 (hwt 0 (by omega)) (hsz 0 (by omega))
theorem chars_snoc (sg : List Nat) (c : Nat) : (sg ++ [c]).map (fun c => V.str (tx [c])) = (sg.map fun c => V.str (tx [c])) ++ [V.str (tx [c])] := List.map_append
/-- a tree that grows: the heap -/
structure Gr (H0 H : Hp) (st c sp bp : Addr) (as : List Addr) (sg : List Nat) (bs : List (List Nat)) : Prop where
  f0 : StC H0 st c
  sc : StC H st c
  fr : L2.Fr [st] H0 H
  hs : H sp = some (.lst (sg.map fun c => V.str (tx [c])))
  hb : H bp = some (.lst (as.map V.ref))
  ba : BsAt H as bs
  n1 : sp ≠ bp
  n2 : sp ∉ as
  n3 : bp ∉ as
  f1 : H0 sp = none
  f2 : H0 bp = none
  f3 : ∀ a ∈ as, H0 a = none
theorem Gr.frame {H0 H H' : Hp} {st c sp bp : Addr} {as : List Addr} {sg : List Nat} {bs : List (List Nat)} (g : Gr H0 H st c sp bp as sg bs) (s : StC H' st c) (f : L2.Fr [st] H H') : Gr H0 H' st c sp bp as sg bs := by
  have nn : ∀ a : Addr, H0 a = none → a ∉ [st] := fun a e => by
    have := g.f0.ne1 e
    simpa using fun z : a = st => this z.symm
  exact ⟨g.f0, s, g.fr.trans f, f _ _ (nn _ g.f1) g.hs, f _ _ (nn _ g.f2) g.hb, ⟨g.ba.1, fun i a b h1 h2 => f _ _ (nn _ (g.f3 a (List.mem_of_getElem? h1))) (g.ba.2 i a b h1 h2)⟩, g.n1, g.n2, g.n3, g.f1, g.f2, g.f3⟩
theorem Gr.same {H0 H H' : Hp} {st c sp bp : Addr} {as : List Addr} {sg : List Nat} {bs : List (List Nat)} (g : Gr H0 H st c sp bp as sg bs) (f : Same H H') : Gr H0 H' st c sp bp as sg bs := g.frame (g.sc.same f) (Fr.of f)
theorem Gr.addS {H0 H : Hp} {st c sp bp : Addr} {as : List Addr} {sg : List Nat} {bs : List (List Nat)} (g : Gr H0 H st c sp bp as sg bs) (x : Nat) : Gr H0 (upd H sp (.lst ((sg.map fun c => V.str (tx [c])) ++ [V.str (tx [x])]))) st c sp bp as (sg ++ [x]) bs := by
  refine ⟨g.f0, g.sc.put (g.f0.ne1 g.f1) (g.f0.ne2 g.f1), fun a o n e => ?_, by rw [upd_same, chars_snoc], by rw [upd_ne g.n1.symm]; exact g.hb, ⟨g.ba.1, fun i a b h1 h2 => ?_⟩, g.n1, g.n2, g.n3, g.f1, g.f2, g.f3⟩
  · rw [upd_ne (ne_of_none e g.f1)]
    exact g.fr a o n e
  · have hne : a ≠ sp := fun e => g.n2 (e ▸ List.mem_of_getElem? h1)
    rw [upd_ne hne]
    exact g.ba.2 i a b h1 h2
theorem Gr.setB {H0 H : Hp} {st c sp bp p : Addr} {as : List Addr} {sg b : List Nat} {bs : List (List Nat)} (g : Gr H0 H st c sp bp as sg bs) (hp : H0 p = none) (h : H p = some (.lst (natl b))) (n1 : sp ≠ p) (n2 : bp ≠ p) (i : Nat) :
    Gr H0 (upd H bp (.lst ((as.map V.ref).set i (V.ref p)))) st c sp bp (as.set i p) sg (bs.set i b) := by
  refine ⟨g.f0, g.sc.put (g.f0.ne1 g.f2) (g.f0.ne2 g.f2), fun a o n e => ?_, by rw [upd_ne g.n1]; exact g.hs, by rw [upd_same, List.map_set], ⟨by rw [List.length_set, List.length_set]; exact g.ba.1, fun j a d h1 h2 => ?_⟩, g.n1, fun hm => ?_, fun hm => ?_, g.f1, g.f2, fun a hm => ?_⟩
  · rw [upd_ne (ne_of_none e g.f2)]
    exact g.fr a o n e
  · have hne : a ≠ bp := fun e => by
      have hm := List.mem_of_getElem? h1
      rcases List.mem_or_eq_of_mem_set hm with hm | hm
      · exact g.n3 (e ▸ hm)
      · exact n2 (e.symm.trans hm)
    rw [upd_ne hne]
    rw [List.getElem?_set] at h1 h2
    by_cases e : i = j
    · subst e
      rw [if_pos rfl] at h1 h2
      split at h1
      · split at h2
        · cases h1
          cases h2
          exact h
        · cases h2
      · cases h1
    · rw [if_neg e] at h1 h2
      exact g.ba.2 j a d h1 h2
  · rcases List.mem_or_eq_of_mem_set hm with hm | hm
    · exact g.n2 hm
    · exact n1 hm
  · rcases List.mem_or_eq_of_mem_set hm with hm | hm
    · exact g.n3 hm
    · exact n2 hm
  · rcases List.mem_or_eq_of_mem_set hm with hm | hm
    · exact g.f3 a hm
    · exact hm ▸ hp
theorem Gr.addB {H0 H : Hp} {st c sp bp p : Addr} {as : List Addr} {sg : List Nat} {bs : List (List Nat)} (g : Gr H0 H st c sp bp as sg bs) (hp : H0 p = none) (h : H p = some (.lst [])) (n1 : sp ≠ p) (n2 : bp ≠ p) :
    Gr H0 (upd H bp (.lst ((as.map V.ref) ++ [V.ref p]))) st c sp bp (as ++ [p]) sg (bs ++ [[]]) := by
  refine ⟨g.f0, g.sc.put (g.f0.ne1 g.f2) (g.f0.ne2 g.f2), fun a o n e => ?_, by rw [upd_ne g.n1]; exact g.hs, by rw [upd_same, List.map_append]; rfl, ⟨by rw [List.length_append, List.length_append, g.ba.1]; rfl, fun j a d h1 h2 => ?_⟩, g.n1, fun hm => ?_, fun hm => ?_, g.f1, g.f2, fun a hm => ?_⟩
  · rw [upd_ne (ne_of_none e g.f2)]
    exact g.fr a o n e
  · have hne : a ≠ bp := fun e => by
      have hm := List.mem_of_getElem? h1
      rcases List.mem_append.mp hm with hm | hm
      · exact g.n3 (e ▸ hm)
      · exact n2 (e.symm.trans (List.mem_singleton.mp hm))
    rw [upd_ne hne]
    by_cases e : j < as.length
    · rw [List.getElem?_append_left e] at h1
      rw [List.getElem?_append_left (by rw [← g.ba.1]; exact e)] at h2
      exact g.ba.2 j a d h1 h2
    · rw [List.getElem?_append_right (by omega)] at h1
      rw [List.getElem?_append_right (by rw [← g.ba.1]; omega)] at h2
      have e1 : a = p := by
        have := List.mem_of_getElem? h1
        simpa using this
      have e2 : d = [] := by
        have := List.mem_of_getElem? h2
        simpa using this
      rw [e1, e2]
      exact h
  · rcases List.mem_append.mp hm with hm | hm
    · exact g.n2 hm
    · exact n1 (List.mem_singleton.mp hm)
  · rcases List.mem_append.mp hm with hm | hm
    · exact g.n3 hm
    · exact n2 (List.mem_singleton.mp hm)
  · rcases List.mem_append.mp hm with hm | hm
    · exact g.f3 a hm
    · exact (List.mem_singleton.mp hm) ▸ hp
theorem natl_take (b : List Nat) (k : Nat) (hk : k ≤ b.length) : cutV (natl b) none (some (k : Int)) = natl (b.take k) := by
  unfold cutV
  have e1 : HT.sIx (natl b).length (natl b).length (some (k : Int)) = k := by
    show (if (k : Int) < 0 then ((k : Int) + ((natl b).length : Int)).toNat else min (k : Int).toNat (natl b).length) = k
    rw [if_neg (by omega), natl_len]
    omega
  rw [HT.sIx_none, e1, List.drop_zero, Nat.sub_zero]
  unfold natl
  rw [← List.map_take]
theorem natl_drop (b : List Nat) (k : Nat) (hk : k ≤ b.length) : cutV (natl b) (some (k : Int)) none = natl (b.drop k) := by
  unfold cutV
  have e1 : HT.sIx (natl b).length 0 (some (k : Int)) = k := by
    show (if (k : Int) < 0 then ((k : Int) + ((natl b).length : Int)).toNat else min (k : Int).toNat (natl b).length) = k
    rw [if_neg (by omega), natl_len]
    omega
  rw [HT.sIx_none, e1, List.take_of_length_le (by rw [List.length_drop]; exact Nat.le_refl _)]
  unfold natl
  rw [← List.map_drop]
theorem pure_dtree (vs : List V) (H : Hp) (Q : VK) (E : XK) (h : spTree vs H Q E) : t_dtree K { nx := fun _ H' => Q .non H', rt := Q } (start N_dtree vs) H := by
  obtain ⟨st, cc, L, n, rfl, hst, hL, hL1, hn, hn6, q⟩ := h
  have hLp : 0 < L.length := List.length_pos_iff.mpr hL
  rw [start_dtree]
  unfold t_dtree
  repeat walk_at "w"
  refine ⟨st, cc, _, rfl, by omega, by omega, hst, fun r H1 r0 r1 f1 s1 => ?_⟩
  obtain ⟨k, rfl⟩ := Int.eq_ofNat_of_zero_le r0
  have hk : L[k]? = some (L.getD k 0) := by
    rw [List.getD_eq_getElem?_getD, List.getElem?_eq_getElem (by omega)]
    rfl
  repeat walk_at "w"
  intro sp hsp
  repeat walk_at "w"
  intro a0 ha0
  repeat walk_at "w"
  intro bp hbp
  have u1 : H sp = none := f1.none (by simpa using fun e : sp = st => s1.ne1 hsp e.symm) hsp
  have ha0' : H1 a0 = none := (Same.new hsp).free ha0
  have u2 : H a0 = none := f1.none (by simpa using fun e : a0 = st => s1.ne1 ha0' e.symm) ha0'
  have hbp' : H1 bp = none := (Same.new hsp).free ((Same.new ha0).free hbp)
  have u3 : H bp = none := f1.none (by simpa using fun e : bp = st => s1.ne1 hbp' e.symm) hbp'
  have d1 : sp ≠ a0 := ne_of_none upd_same ha0
  have d2 : a0 ≠ bp := ne_of_none upd_same hbp
  have d3 : sp ≠ bp := ne_of_none (show upd (upd H1 sp (.lst [V.str (tx [L.getD k 0])])) a0 (.lst []) sp = some (.lst [V.str (tx [L.getD k 0])]) by rw [upd_ne d1, upd_same]) hbp
  have g0 : Gr H (upd (upd (upd H1 sp (.lst [V.str (tx [L.getD k 0])])) a0 (.lst [])) bp (.lst [V.ref a0])) st cc sp bp [a0] [L.getD k 0] [[]] := by
    refine ⟨hst, s1.same (((Same.new hsp).trans (Same.new ha0)).trans (Same.new hbp)), f1.trans (Fr.of (((Same.new hsp).trans (Same.new ha0)).trans (Same.new hbp))), by rw [upd_ne d3, upd_ne d1, upd_same]; rfl, by rw [upd_same]; rfl, ⟨rfl, fun i a b h1 h2 => ?_⟩, d3, by simpa using d1, by simpa using d2.symm, u1, u3, by simpa using u2⟩
    have e1 : a = a0 := by
      have := List.mem_of_getElem? h1
      simpa using this
    have e2 : b = [] := by
      have := List.mem_of_getElem? h2
      simpa using this
    rw [e1, e2, upd_ne d2, upd_same]
    rfl
  have t0 : Tab 1 L [L.getD k 0] [[]] := by
    refine ⟨rfl, rfl, fun c hc => by rw [List.mem_singleton.mp hc]; exact List.mem_of_getElem? hk, fun j b hj => ?_, fun k h1 h2 => by omega⟩
    have := List.mem_of_getElem? hj
    rw [List.mem_singleton.mp this]
    exact ⟨by simp, fun k hk => by cases hk⟩
  repeat walk_at "w"
  refine ⟨by omega, by omega, ?_⟩
  have hz : ((n : Int) - 1).toNat = n - 1 := by omega
  rw [hz]
  refine forR (fun i σ H' => ∃ (as : List Addr) (sg : List Nat) (bs : List (List Nat)) (v5 v6 v7 v8 : Option V), σ = [some (.ref st), some (.str (tx L)), some (.int (n : Nat)), some (.ref sp), some (.ref bp), v5, v6, v7, v8] ∧ Gr H H' st cc sp bp as sg bs ∧ Tab (i + 1) L sg bs)
    ⟨_, _, _, _, _, _, _, rfl, g0, t0⟩ (fun i σ H2 hi p => ?_) (fun σ H2 p => ?_)
  · obtain ⟨as, sg, bs, v5, v6, v7, v8, rfl, g, t⟩ := p
    have lsg := t.ls
    have lbs := t.lb
    have las := g.ba.1
    have hbp2 := g.hb
    have bpix : ∀ j, j < i + 1 → ∃ a, as[j]? = some a ∧ atI (as.map V.ref) (j : Int) = some (.ref a) ∧ bs[j]? = some (bs.getD j []) ∧ H2 a = some (.lst ((bs.getD j []).map fun k => V.int (k : Nat))) := fun j hj => by
      obtain ⟨a, ha⟩ : ∃ a, as[j]? = some a := ⟨_, List.getElem?_eq_getElem (by omega)⟩
      have hbj : bs[j]? = some (bs.getD j []) := by
        rw [List.getD_eq_getElem?_getD, List.getElem?_eq_getElem (by omega)]
        rfl
      exact ⟨a, ha, atI_nat (by rw [List.getElem?_map, ha]; rfl), hbj, g.ba.2 j a _ ha hbj⟩
    repeat walk_at "w"
    refine ⟨by omega, by omega, fun D hD => ?_⟩
    rw [show ((as.length : Int)).toNat = i + 1 by omega]
    refine lcR (by omega) (fun j acc H' => acc = natl ((List.range j).filter fun x => decide ((bs.getD x []).length < 3)) ∧ Same H2 H') ⟨rfl, Same.new hD⟩ (fun j acc H' hj hz hDa p => ?_) (fun acc H' hDa p => ?_)
    · obtain ⟨rfl, sm⟩ := p
      obtain ⟨a, ha, hix, hbj, hab⟩ := bpix j hj
      have hab' := sm _ _ hab
      have hbp' := sm _ _ hbp2
      repeat walk_at "w"
      refine ⟨rfl, ?_⟩
      repeat walk_at "w"
      rw [Int.zero_add]
      refine w_ixL (SqL.of hbp') hix ?_
      repeat walk_at "w"
      have efl : (List.range (j + 1)).filter (fun x => decide ((bs.getD x []).length < 3)) = (List.range j).filter (fun x => decide ((bs.getD x []).length < 3)) ++ if (bs.getD j []).length < 3 then [j] else [] := by
        rw [List.range_succ, List.filter_append]
        congr 1
        by_cases e : (bs.getD j []).length < 3
        · rw [if_pos e, List.filter_cons, if_pos (by simpa using e)]
          rfl
        · rw [if_neg e, List.filter_cons, if_neg (by simpa using e)]
          rfl
      refine w_iteD (fun hlt => ?_) (fun hge => ?_)
      · have hlt' : (bs.getD j []).length < 3 := by omega
        rw [if_pos hlt'] at efl
        repeat walk_at "w"
        refine LcT.mk hDa hz (by omega) ⟨?_, sm.put hD⟩
        rw [efl]
        unfold natl
        rw [List.map_append]
        rfl
      · have hge' : ¬ (bs.getD j []).length < 3 := by omega
        rw [if_neg hge', List.append_nil] at efl
        exact ⟨_, by omega, hDa, by rw [efl], sm⟩
    · obtain ⟨rfl, sm⟩ := p
      generalize hfr : (List.range (i + 1)).filter (fun x => decide ((bs.getD x []).length < 3)) = fr at hDa
      have hfi : ∀ x ∈ fr, x < i + 1 ∧ (bs.getD x []).length < 3 := fun x hx => by
        rw [← hfr, List.mem_filter, List.mem_range] at hx
        exact ⟨hx.1, of_decide_eq_true hx.2⟩
      have hlast : i ∈ fr := by
        rw [← hfr, List.mem_filter, List.mem_range]
        refine ⟨by omega, ?_⟩
        obtain ⟨a, ha, hix, hbj, hab⟩ := bpix i (by omega)
        have := (t.up i _ hbj).2
        rcases hb : bs.getD i [] with _ | ⟨x, r⟩
        · rfl
        · rw [hb] at this
          have := this x List.mem_cons_self
          omega
      have hfp : 0 < fr.length := List.length_pos_of_mem hlast
      have hfl : fr.length ≤ i + 1 := by
        rw [← hfr]
        exact Nat.le_trans (List.length_filter_le _ _) (by rw [List.length_range]; exact Nat.le_refl _)
      have g1 := g.same sm
      repeat walk_at "w"
      have nD : st ≠ D := g.sc.ne1 hD
      refine ⟨st, cc, _, rfl, by omega, by omega, g1.sc, fun r H3 r0 r1 f3 s3 => ?_⟩
      obtain ⟨k, rfl⟩ := Int.eq_ofNat_of_zero_le r0
      have g3 := g1.frame s3 f3
      have hDb := f3 _ _ (by simpa using nD.symm) hDa
      have hxk : fr[k]? = some (fr.getD k 0) := by
        rw [List.getD_eq_getElem?_getD, List.getElem?_eq_getElem (by omega)]
        rfl
      have frix : ∀ x, fr[k]? = some x → atI (natl fr) (k : Int) = some (.int (x : Nat)) := fun x hx => atI_nat (by unfold natl; rw [List.getElem?_map, hx]; rfl)
      have hxm := List.mem_of_getElem? hxk
      repeat walk_at "c"
      refine w_ixL (SqL.of hDb) (frix _ hxk) ?_
      repeat walk_at "c"
      refine w_seqP (fun σ H' => ∃ x ∈ fr, σ = [some (.ref st), some (.str (tx L)), some (.int (n : Nat)), some (.ref sp), some (.ref bp), some (.int (0 + (i : Int))), some (.ref D), some (.int (x : Nat)), v8] ∧ Gr H H' st cc sp bp as sg bs) (fun U hU => ?_) (fun σ H4 p4 => ?_)
      · repeat walk_at "c"
        refine ⟨st, cc, _, rfl, by omega, by omega, g3.sc, fun r H4 r0 r1 f4 s4 => ?_⟩
        have g4 := g3.frame s4 f4
        have hDc := f4 _ _ (by simpa using nD.symm) hDb
        repeat walk_at "c"
        refine w_iteD (fun h0 => ?_) (fun h0 => ?_)
        · repeat walk_at "c"
          have hfne : fr ≠ [] := List.length_pos_iff.mp hfp
          refine w_ixL (SqL.of hDc) (at_neg hfne) ?_
          repeat walk_at "c"
          refine hU _ _ ⟨wtop fr, ?_, rfl, g4⟩
          unfold wtop
          rw [List.getLast?_eq_some_getLast hfne]
          exact List.getLast_mem hfne
        · repeat walk_at "c"
          exact hU _ _ ⟨_, hxm, rfl, g4⟩
      · obtain ⟨x, hx, rfl, g4⟩ := p4
        obtain ⟨hxi, hx3⟩ := hfi x hx
        obtain ⟨a, ha, hix, hbx, -⟩ := bpix x hxi
        have hab := g4.ba.2 x a _ ha hbx
        have hbp4 := g4.hb
        repeat walk_at "w"
        refine w_ixL (SqL.of hbp4) hix ?_
        repeat walk_at "w"
        refine ⟨st, cc, _, rfl, by omega, by omega, g4.sc, fun r H5 r0 r1 f5 s5 => ?_⟩
        obtain ⟨u, rfl⟩ := Int.eq_ofNat_of_zero_le r0
        have hu : u ≤ (bs.getD x []).length := by omega
        have g5 := g4.frame s5 f5
        have hab5 : H5 a = some (.lst (natl (bs.getD x []))) := g5.ba.2 x a _ ha hbx
        have hbp5 := g5.hb
        have hsp5 := g5.hs
        repeat walk_at "w"
        refine w_ixL (SqL.of hbp5) hix ?_
        repeat walk_at "w"
        refine w_slL (SqL.of hab5) fun p1 hp1 => ?_
        rw [natl_take _ _ hu]
        have m1 : Same H5 (upd H5 p1 (.lst (natl ((bs.getD x []).take u)))) := Same.new hp1
        have hsp6 := m1 _ _ hsp5
        repeat walk_at "w"
        intro p2 hp2
        have m2 := m1.trans (Same.new (o := .lst [V.int (sg.length : Nat)]) hp2)
        refine w_cat ((Same.new hp2) _ _ upd_same) upd_same (by rw [natl_len, List.length_take]; simp only [List.length_singleton]; omega) fun p3 hp3 => ?_
        have m3 := m2.trans (Same.new (o := .lst (natl ((bs.getD x []).take u) ++ [V.int (sg.length : Nat)])) hp3)
        have c3 : upd (upd (upd H5 p1 (.lst (natl ((bs.getD x []).take u)))) p2 (.lst [V.int (sg.length : Nat)])) p3 (.lst (natl ((bs.getD x []).take u) ++ [V.int (sg.length : Nat)])) p3 = some (.lst (natl ((bs.getD x []).take u) ++ [V.int (sg.length : Nat)])) := upd_same
        generalize upd (upd (upd H5 p1 (.lst (natl ((bs.getD x []).take u)))) p2 (.lst [V.int (sg.length : Nat)])) p3 (.lst (natl ((bs.getD x []).take u) ++ [V.int (sg.length : Nat)])) = H6 at m3 c3
        repeat walk_at "w"
        refine w_ixL (SqL.of (m3 _ _ hbp5)) hix ?_
        repeat walk_at "w"
        refine w_slL (SqL.of (m3 _ _ hab5)) fun p4 hp4 => ?_
        rw [natl_drop _ _ hu]
        repeat walk_at "w"
        refine w_cat ((Same.new hp4) _ _ c3) upd_same (by rw [List.length_append, natl_len, natl_len, List.length_take, List.length_drop]; simp only [List.length_singleton]; omega) fun p5 hp5 => ?_
        have ec : natl ((bs.getD x []).take u) ++ [V.int (sg.length : Nat)] ++ natl ((bs.getD x []).drop u) = natl ((bs.getD x []).take u ++ [i + 1] ++ (bs.getD x []).drop u) := by
          unfold natl
          rw [List.map_append, List.map_append, lsg]
          rfl
        rw [ec]
        have m4 := m3.trans (Same.new (o := .lst (natl ((bs.getD x []).drop u))) hp4)
        have hp5n : H5 p5 = none := m4.free hp5
        have hp50 : H p5 = none := g5.fr.none (by simpa using fun e : p5 = st => g5.sc.ne1 hp5n e.symm) hp5n
        have m5 := m4.trans (Same.new (o := .lst (natl ((bs.getD x []).take u ++ [i + 1] ++ (bs.getD x []).drop u))) hp5)
        have c5 : upd (upd H6 p4 (.lst (natl ((bs.getD x []).drop u)))) p5 (.lst (natl ((bs.getD x []).take u ++ [i + 1] ++ (bs.getD x []).drop u))) p5 = some (.lst (natl ((bs.getD x []).take u ++ [i + 1] ++ (bs.getD x []).drop u))) := upd_same
        generalize upd (upd H6 p4 (.lst (natl ((bs.getD x []).drop u)))) p5 (.lst (natl ((bs.getD x []).take u ++ [i + 1] ++ (bs.getD x []).drop u))) = H7 at m5 c5
        have g7 := (g5.same m5).setB hp50 c5 (ne_of_none hsp5 hp5n) (ne_of_none hbp5 hp5n) x
        repeat walk_at "w"
        refine w_setL (m5 _ _ hbp5) (j := x) ?_ ?_
        · unfold ixN
          rw [List.length_map, if_pos (by omega), if_pos (by omega)]
          rfl
        generalize upd H7 bp (.lst ((as.map V.ref).set x (V.ref p5))) = H8 at g7
        have hsp8 := g7.hs
        repeat walk_at "w"
        refine ⟨st, cc, _, rfl, by omega, by omega, g7.sc, fun r H9 r0 r1 f9 s9 => ?_⟩
        obtain ⟨z, rfl⟩ := Int.eq_ofNat_of_zero_le r0
        have hz : L[z]? = some (L.getD z 0) := by
          rw [List.getD_eq_getElem?_getD, List.getElem?_eq_getElem (by omega)]
          rfl
        have g9 := g7.frame s9 f9
        repeat walk_at "w"
        refine w_app g9.hs (by rw [List.length_map]; omega) ?_
        have g10 := g9.addS (L.getD z 0)
        generalize upd H9 sp (.lst ((sg.map fun c => V.str (tx [c])) ++ [V.str (tx [L.getD z 0])])) = H10 at g10
        have hbp10 := g10.hb
        repeat walk_at "w"
        intro p8 hp8
        have g11 := g10.same (Same.new (o := .lst []) hp8)
        have hp80 : H p8 = none := g10.fr.none (by simpa using fun e : p8 = st => g10.sc.ne1 hp8 e.symm) hp8
        have g12 := g11.addB hp80 upd_same (ne_of_none g10.hs hp8) (ne_of_none g10.hb hp8)
        repeat walk_at "w"
        refine w_app g11.hb (by rw [List.length_map, List.length_set]; omega) ?_
        refine ⟨_, _, _, _, _, _, _, rfl, g12, t.grow (by omega) (List.mem_of_getElem? hz) hbx hx3⟩
  · obtain ⟨as, sg, bs, v5, v6, v7, v8, rfl, g, t⟩ := p
    rw [show n - 1 + 1 = n by omega] at t
    repeat walk_at "w"
    exact ⟨sp, bp, as, n, L, sg, bs, rfl, g.hs, g.hb, g.ba, t, hn, hn6, fun H' T sm wt sz => q T H' wt sz (g.fr.trans (Fr.of sm)) (g.sc.same sm)⟩
end
end L2
set_option maxHeartbeats 4000000
namespace K68
open PySem PySem.Spec PyProof.Rows L2 He
/-! What each def of the brackets law's text promises. -/
abbrev PP : Program := PySem.Challenge.pw_treesfromyes_k68_brackets_there_and_back
def top (i : Nat) : Stmt := PP.main.body.getD i (.Pass ⟨0, 0, 0, 0⟩)
/-- what the reading of a text told -/
def ReadOf (L i l : List Nat) (xs : List V) : Prop := (¬ GoodL L ∧ xs = [.str "letters"]) ∨ (GoodL L ∧ ∃ k, BadAt L i k ∧ xs = [.str "word", .str (tx i), .int (k : Nat)]) ∨
  (GoodL L ∧ AllIn L i ∧ ∃ k, wrun L [0] l 0 = some k ∧ xs = [.str "tree", .int (k : Nat)]) ∨ (GoodL L ∧ AllIn L i ∧ wrun L [0] l 0 = none ∧ xs = [.str "read", .str (tx (rpF i l))])
def spSome : Sp := fun vs H Q _ => ∃ (st c : Addr), vs = [.ref st] ∧ StC H st c ∧ ∀ L H', GoodL L → L2.Fr [st] H H' → StC H' st c → Q (.str (tx L)) H'
/-- the exception at a, of the class cls, its dict at d -/
def spRaised (K : PySem.W.Frag) : SpX := fun a cls d vs H Q _ => vs = [.ref a] ∧
  ((∃ (dd : Addr) (k : Nat), d = some dd ∧ H dd = some (.xd [("place", .int (k : Nat))]) ∧ cls = .ref (ga K "BadTree") ∧ ∀ p H', Same H H' → H' p = some (.tup [.str "tree", .int (k : Nat)]) → Q (.ref p) H') ∨
   (d = none ∧ cls = .ref (ga K "BadLetters") ∧ ∀ p H', Same H H' → H' p = some (.tup [.str "letters"]) → Q (.ref p) H'))
def spReadT (K : PySem.W.Frag) : Sp := fun vs H Q _ => ∃ L i l, vs = [.str (tx L), .str (tx i), .str (tx l)] ∧ L.length ≤ 1000 ∧ i ≠ [] ∧ i.length ≤ 1000 ∧ l.length ≤ 2000 ∧
  ∀ H' p xs, Same H H' → ReadOf L i l xs → H' p = some (.tup xs) → Q (.ref p) H'
def spOneT (K : PySem.W.Frag) : Sp := fun vs H Q _ => ∃ L x l, vs = [.str (tx L), .str (tx [x]), .str (tx l)] ∧ GoodL L ∧ x ∈ L ∧ l.length ≤ 2000 ∧ OkT l ∧ ∀ H', Same H H' → Q (.bl true) H'
def spOne (K : PySem.W.Frag) : Sp := fun vs H Q _ => ∃ (st c : Addr) (L : List Nat) (T : Tr), vs = [.ref st, .str (tx L), .str (tx (tt T))] ∧ StC H st c ∧ GoodL L ∧ WT L T ∧ tsz T ≤ 600 ∧ ∀ H', L2.Fr [st] H H' → StC H' st c → Q (.bl true) H'
def spLaw (K : PySem.W.Frag) : Sp := fun vs H Q _ => ∃ (a : Addr) (ns : List Int), vs = [.ref a] ∧ SqL K H a (ns.map V.int) ∧ ns.length ≤ 63 ∧ ∀ H', Q (.bl true) H'
end K68

set_option maxHeartbeats 4000000
namespace K68
open PySem PySem.Spec PyProof.Rows L2 He
abbrev s_check_letters : Stmt := top 9
abbrev N_check_letters : List Str := N_dletters

abbrev s_check_word : Stmt := top 10
abbrev N_check_word : List Str := N_dword

abbrev s_spans : Stmt := top 13
abbrev N_spans : List Str := N_dspans

abbrev s_subtrees : Stmt := top 14
abbrev N_subtrees : List Str := N_dsubs

abbrev s_kids_of : Stmt := top 15
abbrev N_kids_of : List Str := N_dkids

abbrev s_made_tree : Stmt := top 16
abbrev N_made_tree : List Str := N_dmade

abbrev s_bracketed : Stmt := top 18
abbrev N_bracketed : List Str := ["tree", "told", "at", "sign"]
def t_bracketed (K : PySem.W.Frag) : TS :=
  (tSeq (tAsg (tC (.str "")) (gName 1))
    (tSeq (tFor (iEnumS (tCons (tVar 0) tNil)) (gTup K 2 (gCons (gName 2) (gCons (gName 3) gNil))) (tIfS (tOr (tTest (tOp xInS (tVar 3) (tC (.str "()")))) (tTest (tOp rNe (tSl rSlS (tVar 0) (tPart (tOp xAdd (tVar 2) (tC (.int 1)))) (tPart (tOp xAdd (tVar 2) (tC (.int 2))))) (tC (.str "("))))) (tAsg (tOp xAddS (tVar 1) (tVar 3)) (gName 1)) tNext))
    (tRet (tVar 1))))
theorem start_bracketed (a0 : V) : start N_bracketed [a0] = [some a0, none, none, none] := rfl

abbrev s_skeleton : Stmt := top 19
abbrev N_skeleton : List Str := N_dskel

abbrev s_first_wrong_bracket : Stmt := top 20
abbrev N_first_wrong_bracket : List Str := N_dfwb

abbrev s_read_brackets : Stmt := top 21
abbrev N_read_brackets : List Str := N_dreadb

abbrev s_start : Stmt := top 23
abbrev N_start : List Str := N_dstart

abbrev s_next : Stmt := top 24
abbrev N_next : List Str := N_dnext

abbrev s_same : Stmt := top 25
abbrev N_same : List Str := N_dsame

abbrev s_alphabet : Stmt := top 26
abbrev N_alphabet : List Str := N_dalpha

abbrev s_written : Stmt := top 27
abbrev N_written : List Str := N_dwritten

abbrev s_tree : Stmt := top 28
abbrev N_tree : List Str := N_dtree

abbrev s_some : Stmt := top 29
abbrev N_some : List Str := ["state"]
def t_some (K : PySem.W.Frag) : TS :=
  (tRet (tCall spAlpha [] E0 (tCons (tVar 0) (tCons (tOp (rIxL K) (tLst (tCons (tC (.int 2)) (tCons (tC (.int 2)) (tCons (tC (.int 1)) (tCons (tC (.int 3)) (tCons (tC (.int 4)) tNil)))))) (tCall spNextC [] E0 (tCons (tVar 0) (tCons (tC (.int 5)) tNil)))) tNil))))
theorem start_some (a0 : V) : start N_some [a0] = [some a0] := rfl

abbrev s_raised : Stmt := top 30
abbrev N_raised : List Str := ["e"]
def t_raised (K : PySem.W.Frag) (a : Addr) (cls : Value) (d : Option Addr) : TS :=
  (tSeq (tIfS (tB (tCB (rIsX K a cls d) (tCons (tVar 0) (tCons (tC (.ref (ga K "BadTree"))) tNil)))) (tRet (tTup (tCons (tC (.str "tree")) (tCons (tXf a cls d (ga K "BadTree") "place" (tVar 0)) tNil)))) tNext)
    (tSeq (tIfS (tB (tCB (rIsX K a cls d) (tCons (tVar 0) (tCons (tC (.ref (ga K "TooMany"))) tNil)))) (tRet (tTup (tCons (tC (.str "many")) (tCons (tXf a cls d (ga K "TooMany") "limit" (tVar 0)) tNil)))) tNext)
    (tSeq (tIfS (tB (tCB (rIsX K a cls d) (tCons (tVar 0) (tCons (tC (.ref (ga K "BadLetters"))) tNil)))) (tRet (tTup (tCons (tC (.str "letters")) tNil))) tNext)
    (tRet (tTup (tCons (tC (.str "other")) tNil))))))
theorem start_raised (a0 : V) : start N_raised [a0] = [some a0] := rfl

abbrev s_spoil : Stmt := top 31
abbrev N_spoil : List Str := N_dspoil

abbrev s_badl : Stmt := top 32
abbrev N_badl : List Str := N_dbadl

abbrev s_flat : Stmt := top 33
abbrev N_flat : List Str := N_dflat

abbrev s_boned : Stmt := top 34
abbrev N_boned : List Str := N_dboned

abbrev s_wrong : Stmt := top 35
abbrev N_wrong : List Str := N_dlwb

abbrev s_readt : Stmt := top 36
abbrev N_readt : List Str := ["letters", "inner", "text", "e"]
def tb_readt (K : PySem.W.Frag) (W : WX) : TS := (tRet (tTup (tCons (tC (.str "read")) (tCons (tCallS (spRead K) (WE W) (tCons (tVar 0) (tCons (tVar 1) (tCons (tVar 2) tNil)))) tNil))))
def ts_readt (K : PySem.W.Frag) (a : Addr) (cls : Value) (d : Option Addr) : TS := (tSeq (tIfS (tB (tCB (rIsX K a cls d) (tCons (tVar 3) (tCons (tC (.ref (ga K "BadWord"))) tNil)))) (tRet (tTup (tCons (tC (.str "word")) (tCons (tXf a cls d (ga K "BadWord") "word" (tVar 3)) (tCons (tXf a cls d (ga K "BadWord") "place" (tVar 3)) tNil))))) tNext)
    (tRet (tCallP (spRaised K) a cls d (tCons (tVar 3) tNil))))
def t_readt (K : PySem.W.Frag) : TS :=
  (fun D σ H => tb_readt K (wAs K (.ref (ga K "LanguageError")) 3 (ts_readt K) (fun _ _ _ _ => False) D) D σ H)
theorem start_readt (a0 a1 a2 : V) : start N_readt [a0, a1, a2] = [some a0, some a1, some a2, none] := rfl

abbrev s_onet : Stmt := top 37
abbrev N_onet : List Str := ["letters", "inner", "text", "due", "told"]
def t_onet (K : PySem.W.Frag) : TS :=
  (tSeq (tAsg (tCall spWrong [] E0 (tCons (tVar 0) (tCons (tVar 2) tNil))) (gName 3))
    (tSeq (tAsg (tCall (spReadT K) [] E0 (tCons (tVar 0) (tCons (tVar 1) (tCons (tVar 2) tNil)))) (gName 4))
    (tSeq (tIfS (tTest (tOp xGe (tVar 3) (tC (.int 0)))) (tRet (tOp (rEqD K) (tVar 4) (tTup (tCons (tC (.str "tree")) (tCons (tVar 3) tNil))))) tNext)
    (tRet (tAndV (tOp (rEqD K) (tVar 4) (tTup (tCons (tC (.str "read")) (tCons (tReplA (tVar 2) (tVar 1) "(" "(") tNil)))) (tCall spSame [] E0 (tCons (tCall spFlat [] E0 (tCons (tOp (rIxT K) (tVar 4) (tC (.int 1))) tNil)) (tCons (tVar 2) tNil))))))))
theorem start_onet (a0 a1 a2 : V) : start N_onet [a0, a1, a2] = [some a0, some a1, some a2, none, none] := rfl

abbrev s_one : Stmt := top 38
abbrev N_one : List Str := ["state", "letters", "tree", "inner", "flat", "bones", "text", "spoil"]
def t_one (K : PySem.W.Frag) : TS :=
  (tSeq (tAsg (tOp rIxS (tVar 1) (tCall spNextC [] E0 (tCons (tVar 0) (tCons (tCB xLenS (tCons (tVar 1) tNil)) tNil)))) (gName 3))
    (tSeq (tAsg (tCall spFlat [] E0 (tCons (tVar 2) tNil)) (gName 4))
    (tSeq (tAsg (tCall spBoned [] E0 (tCons (tVar 2) (tCons (tVar 3) tNil))) (gName 5))
    (tSeq (tIfS (tOr (tNot (tB (tCall spSame [] E0 (tCons (tCall spFlat [] E0 (tCons (tVar 2) tNil)) (tCons (tVar 4) tNil))))) (tNot (tB (tCall spSame [] E0 (tCons (tCall spSkel [] E0 (tCons (tVar 2) (tCons (tVar 3) tNil))) (tCons (tVar 5) tNil)))))) (tRet (tC (.bl false))) tNext)
    (tSeq (tIfS (tTest (tOp (rNeD K) (tCall (spReadT K) [] E0 (tCons (tVar 1) (tCons (tVar 3) (tCons (tVar 4) tNil)))) (tTup (tCons (tC (.str "read")) (tCons (tVar 5) tNil))))) (tRet (tC (.bl false))) tNext)
    (tSeq (tAsg (tVar 4) (gName 6))
    (tSeq (tFor (iRng1 (tCons (tOp xAdd (tC (.int 1)) (tCall spNextC [] E0 (tCons (tVar 0) (tCons (tC (.int 3)) tNil)))) tNil)) (gName 7) (tAsg (tCall spSpoil [] E0 (tCons (tVar 0) (tCons (tVar 1) (tCons (tVar 6) tNil)))) (gName 6)))
    (tSeq (tIfS (tOr (tNot (tB (tCall (spOneT K) [] E0 (tCons (tVar 1) (tCons (tVar 3) (tCons (tVar 4) tNil)))))) (tNot (tB (tCall (spOneT K) [] E0 (tCons (tVar 1) (tCons (tVar 3) (tCons (tVar 6) tNil))))))) (tRet (tC (.bl false))) tNext)
    (tSeq (tIfS (tTest (tOp (rNeD K) (tCall (spReadT K) [] E0 (tCons (tVar 1) (tCons (tC (.str "-")) (tCons (tVar 6) tNil)))) (tTup (tCons (tC (.str "word")) (tCons (tC (.str "-")) (tCons (tC (.int 0)) tNil)))))) (tRet (tC (.bl false))) tNext)
    (tRet (tOp (rEqD K) (tCall (spReadT K) [] E0 (tCons (tCall spBadL [] E0 (tCons (tVar 0) (tCons (tVar 1) tNil))) (tCons (tC (.str "-")) (tCons (tVar 6) tNil)))) (tTup (tCons (tC (.str "letters")) tNil)))))))))))))
theorem start_one (a0 a1 a2 : V) : start N_one [a0, a1, a2] = [some a0, some a1, some a2, none, none, none, none, none] := rfl

abbrev s_law : Stmt := top 39
abbrev N_law : List Str := ["script", "state", "letters", "x", "y", "texts", "text", "turn", "size"]
def t_law (K : PySem.W.Frag) : TS :=
  (tSeq (tAsg (tCall (spStart K) [] E0 (tCons (tVar 0) tNil)) (gName 1))
    (tSeq (tAsg (tCall spSome [] E0 (tCons (tVar 1) tNil)) (gName 2))
    (tSeq (tAsg (tOp rIxS (tVar 2) (tCall spNextC [] E0 (tCons (tVar 1) (tCons (tCB xLenS (tCons (tVar 2) tNil)) tNil)))) (gName 3))
    (tSeq (tAsg (tOp rIxS (tVar 2) (tUn xNeg (tC (.int 1)))) (gName 4))
    (tSeq (tAsg (tLst (tCons (tC (.str "")) (tCons (tC (.str "(")) (tCons (tC (.str ")")) (tCons (tC (.str "()")) (tCons (tVar 3) (tCons (tOp xAddS (tVar 3) (tVar 4)) (tCons (tOp xAddS (tC (.str "(")) (tVar 3)) (tCons (tOp xAddS (tOp xAddS (tC (.str "(")) (tOp xMulS (tVar 3) (tC (.int 3)))) (tC (.str ")"))) (tCons (tOp xAddS (tOp xAddS (tC (.str "(")) (tOp xMulS (tVar 4) (tC (.int 4)))) (tC (.str ")"))) (tCons (tOp xAddS (tOp xAddS (tC (.str "((")) (tVar 3)) (tC (.str ")"))) (tCons (tOp xAddS (tOp xAddS (tC (.str "(")) (tVar 3)) (tC (.str "))"))) tNil)))))))))))) (gName 5))
    (tSeq (tFor (iList K (tOp rCat (tVar 5) (tLst (tCons (tOp xAddS (tOp xAddS (tOp xAddS (tC (.str "(")) (tVar 3)) (tC (.str ")"))) (tVar 4)) (tCons (tOp xAddS (tOp xAddS (tOp xAddS (tOp xAddS (tC (.str "(")) (tVar 3)) (tC (.str ")("))) (tVar 4)) (tC (.str ")"))) (tCons (tOp xAddS (tOp xAddS (tOp xAddS (tVar 3) (tC (.str "("))) (tVar 4)) (tC (.str ")"))) (tCons (tOp xAddS (tOp xAddS (tC (.str "((((")) (tVar 3)) (tC (.str "))))"))) (tCons (tC (.str "(A)")) tNil)))))))) (gName 6) (tIfS (tNot (tB (tCall (spOneT K) [] E0 (tCons (tVar 2) (tCons (tVar 3) (tCons (tVar 6) tNil)))))) (tRet (tC (.bl false))) tNext))
    (tSeq (tFor (iRng1 (tCons (tC (.int 5)) tNil)) (gName 7) (tSeq (tAsg (tOp xAdd (tC (.int 1)) (tCall spNextC [] E0 (tCons (tVar 1) (tCons (tC (.int 9)) tNil)))) (gName 8))
    (tSeq (tIfS (tTest (tOp rEq (tCall spNextC [] E0 (tCons (tVar 1) (tCons (tC (.int 8)) tNil))) (tC (.int 7)))) (tAsg (tOp xAdd (tC (.int 20)) (tCall spNextC [] E0 (tCons (tVar 1) (tCons (tC (.int 31)) tNil)))) (gName 8)) tNext)
    (tIfS (tNot (tB (tCall (spOne K) [] E0 (tCons (tVar 1) (tCons (tVar 2) (tCons (tCall spTree [] E0 (tCons (tVar 1) (tCons (tVar 2) (tCons (tVar 8) tNil)))) tNil)))))) (tRet (tC (.bl false))) tNext))))
    (tRet (tC (.bl true))))))))))
theorem start_law (a0 : V) : start N_law [a0] = [some a0, none, none, none, none, none, none, none, none] := rfl

def d_check_letters : He.DefD := ⟨("check_letters", none), "check_letters", "check_letters", defArgs s_check_letters, defBody s_check_letters, defScope s_check_letters, [], []⟩
def d_check_word : He.DefD := ⟨("check_word", none), "check_word", "check_word", defArgs s_check_word, defBody s_check_word, defScope s_check_word, [], []⟩
def d_spans : He.DefD := ⟨("spans", none), "spans", "spans", defArgs s_spans, defBody s_spans, defScope s_spans, [], []⟩
def d_subtrees : He.DefD := ⟨("subtrees", none), "subtrees", "subtrees", defArgs s_subtrees, defBody s_subtrees, defScope s_subtrees, [], []⟩
def d_kids_of : He.DefD := ⟨("kids_of", none), "kids_of", "kids_of", defArgs s_kids_of, defBody s_kids_of, defScope s_kids_of, [], []⟩
def d_made_tree : He.DefD := ⟨("made_tree", none), "made_tree", "made_tree", defArgs s_made_tree, defBody s_made_tree, defScope s_made_tree, [], []⟩
def d_bracketed : He.DefD := ⟨("bracketed", none), "bracketed", "bracketed", defArgs s_bracketed, defBody s_bracketed, defScope s_bracketed, [], []⟩
def d_skeleton : He.DefD := ⟨("skeleton", none), "skeleton", "skeleton", defArgs s_skeleton, defBody s_skeleton, defScope s_skeleton, [], []⟩
def d_first_wrong_bracket : He.DefD := ⟨("first_wrong_bracket", none), "first_wrong_bracket", "first_wrong_bracket", defArgs s_first_wrong_bracket, defBody s_first_wrong_bracket, defScope s_first_wrong_bracket, [], []⟩
def d_read_brackets : He.DefD := ⟨("read_brackets", none), "read_brackets", "read_brackets", defArgs s_read_brackets, defBody s_read_brackets, defScope s_read_brackets, [], []⟩
def d_start : He.DefD := ⟨("_law_start", none), "_law_start", "_law_start", defArgs s_start, defBody s_start, defScope s_start, [], []⟩
def d_next : He.DefD := ⟨("_law_next", none), "_law_next", "_law_next", defArgs s_next, defBody s_next, defScope s_next, [], []⟩
def d_same : He.DefD := ⟨("_law_same_text", none), "_law_same_text", "_law_same_text", defArgs s_same, defBody s_same, defScope s_same, [], []⟩
def d_alphabet : He.DefD := ⟨("_law_alphabet", none), "_law_alphabet", "_law_alphabet", defArgs s_alphabet, defBody s_alphabet, defScope s_alphabet, [], []⟩
def d_written : He.DefD := ⟨("_law_written", none), "_law_written", "_law_written", defArgs s_written, defBody s_written, defScope s_written, [], []⟩
def d_tree : He.DefD := ⟨("_law_tree", none), "_law_tree", "_law_tree", defArgs s_tree, defBody s_tree, defScope s_tree, [], []⟩
def d_some : He.DefD := ⟨("_law_some_letters", none), "_law_some_letters", "_law_some_letters", defArgs s_some, defBody s_some, defScope s_some, [], []⟩
def d_raised : He.DefD := ⟨("_law_raised", none), "_law_raised", "_law_raised", defArgs s_raised, defBody s_raised, defScope s_raised, [], []⟩
def d_spoil : He.DefD := ⟨("_law_spoilt_tree", none), "_law_spoilt_tree", "_law_spoilt_tree", defArgs s_spoil, defBody s_spoil, defScope s_spoil, [], []⟩
def d_badl : He.DefD := ⟨("_law_bad_letters", none), "_law_bad_letters", "_law_bad_letters", defArgs s_badl, defBody s_badl, defScope s_badl, [], []⟩
def d_flat : He.DefD := ⟨("_law_flat", none), "_law_flat", "_law_flat", defArgs s_flat, defBody s_flat, defScope s_flat, [], []⟩
def d_boned : He.DefD := ⟨("_law_boned", none), "_law_boned", "_law_boned", defArgs s_boned, defBody s_boned, defScope s_boned, [], []⟩
def d_wrong : He.DefD := ⟨("_law_wrong_bracket", none), "_law_wrong_bracket", "_law_wrong_bracket", defArgs s_wrong, defBody s_wrong, defScope s_wrong, [], []⟩
def d_readt : He.DefD := ⟨("_law_read_text", none), "_law_read_text", "_law_read_text", defArgs s_readt, defBody s_readt, defScope s_readt, [], []⟩
def d_onet : He.DefD := ⟨("_law_one_text", none), "_law_one_text", "_law_one_text", defArgs s_onet, defBody s_onet, defScope s_onet, [], []⟩
def d_one : He.DefD := ⟨("_law_one", none), "_law_one", "_law_one", defArgs s_one, defBody s_one, defScope s_one, [], []⟩
def d_law : He.DefD := ⟨("law", none), "law", "law", defArgs s_law, defBody s_law, defScope s_law, [], []⟩
def fa : List He.Fa := [
  .free "len",
  .int "MOST_KINDS_OF_LETTERS" 4,
  .glo "BadLetters",
  .exc "BadLetters",
  .str "SMALL" "abcdefghijklmnopqrstuvwxyz",
  .free "enumerate",
  .noat "BadWord" "word",
  .noat "BadWord" "place",
  .free "super",
  .glo "BadWord",
  .free "list",
  .free "zip",
  .glo "spans",
  .glo "subtrees",
  .free "reversed",
  .glo "kids_of",
  .glo "made_tree",
  .int "MOST_KIDS" 3,
  .glo "check_letters",
  .glo "check_word",
  .glo "first_wrong_bracket",
  .noat "BadTree" "place",
  .glo "BadTree",
  .free "abs",
  .free "int",
  .free "str",
  .free "isinstance",
  .glo "_law_next",
  .free "range",
  .glo "_law_written",
  .glo "_law_alphabet",
  .glo "TooMany",
  .noat "TooMany" "limit",
  .glo "read_brackets",
  .glo "_law_raised",
  .glo "LanguageError",
  .glo "_law_wrong_bracket",
  .glo "_law_read_text",
  .glo "bracketed",
  .glo "_law_same_text",
  .glo "_law_flat",
  .glo "_law_boned",
  .glo "skeleton",
  .glo "_law_spoilt_tree",
  .glo "_law_one_text",
  .glo "_law_bad_letters",
  .glo "_law_start",
  .glo "_law_some_letters",
  .glo "_law_tree",
  .glo "_law_one",
  .glo "law"]
def fn : List He.DefD := [d_check_letters, d_check_word, d_spans, d_subtrees, d_kids_of, d_made_tree, d_bracketed, d_skeleton, d_first_wrong_bracket, d_read_brackets, d_start, d_next, d_same, d_alphabet, d_written, d_tree, d_some, d_raised, d_spoil, d_badl, d_flat, d_boned, d_wrong, d_readt, d_onet, d_one, d_law]

abbrev si_BadWord : Stmt := inClass (top 3) 0
def i_BadWord : IniD := ⟨"BadWord", "BadWord.__init__", defArgs si_BadWord, defBody si_BadWord, defScope si_BadWord⟩
theorem sh_BadWord : XX.Sh2 "word" "place" (defArgs si_BadWord) (defBody si_BadWord) (defScope si_BadWord) := ⟨⟨_, _, _, _, _, _, _, _, _, _, _, _, _, _, _, _, _, _, _, rfl, rfl, rfl, fun _ => ⟨_, rfl⟩⟩⟩
theorem nm_BadWord : XX.Nm2 "word" "place" := XX.nm2_word_place
abbrev si_TooMany : Stmt := inClass (top 4) 0
def i_TooMany : IniD := ⟨"TooMany", "TooMany.__init__", defArgs si_TooMany, defBody si_TooMany, defScope si_TooMany⟩
theorem sh_TooMany : XX.Sh1 "limit" (defArgs si_TooMany) (defBody si_TooMany) (defScope si_TooMany) := ⟨⟨_, _, _, _, _, _, _, _, _, _, _, _, _, _, rfl, rfl, rfl, fun _ => ⟨_, rfl⟩⟩⟩
theorem nm_TooMany : XX.Nm1 "limit" := ⟨rfl, rfl, rfl, rfl, fun _ _ => rfl, by decide, fun _ _ _ _ _ _ _ _ _ _ _ _ _ => rfl⟩
abbrev si_BadTree : Stmt := inClass (top 5) 0
def i_BadTree : IniD := ⟨"BadTree", "BadTree.__init__", defArgs si_BadTree, defBody si_BadTree, defScope si_BadTree⟩
theorem sh_BadTree : XX.Sh1 "place" (defArgs si_BadTree) (defBody si_BadTree) (defScope si_BadTree) := ⟨⟨_, _, _, _, _, _, _, _, _, _, _, _, _, _, rfl, rfl, rfl, fun _ => ⟨_, rfl⟩⟩⟩
theorem nm_BadTree : XX.Nm1 "place" := ⟨rfl, rfl, rfl, rfl, fun _ _ => rfl, by decide, fun _ _ _ _ _ _ _ _ _ _ _ _ _ => rfl⟩
def fi : List IniD := [i_BadWord, i_TooMany, i_BadTree]
theorem top_super : (PP.main.scope.names.lookup ("super" : Str)).isSome = false := by decide +kernel
def exB (K : PySem.W.Frag) : Bool :=
  decide (PySem.W.kitOne K (.ref (ga K "BadLetters")) (.ref (ga K "BadWord")) = some false) &&
  (decide (PySem.W.kitOne K (.ref (ga K "BadLetters")) (.ref (ga K "BadTree")) = some false) &&
  (decide (PySem.W.kitOne K (.ref (ga K "BadLetters")) (.ref (ga K "TooMany")) = some false) &&
  (decide (PySem.W.kitOne K (.ref (ga K "BadLetters")) (.ref (ga K "BadLetters")) = some true) &&
  (decide (PySem.W.kitOne K (.ref (ga K "BadWord")) (.ref (ga K "BadWord")) = some true) &&
  (decide (PySem.W.kitOne K (.ref (ga K "BadWord")) (.ref (ga K "BadTree")) = some false) &&
  (decide (PySem.W.kitOne K (.ref (ga K "BadWord")) (.ref (ga K "TooMany")) = some false) &&
  (decide (PySem.W.kitOne K (.ref (ga K "BadWord")) (.ref (ga K "BadLetters")) = some false) &&
  (decide (PySem.W.kitOne K (.ref (ga K "BadTree")) (.ref (ga K "BadWord")) = some false) &&
  (decide (PySem.W.kitOne K (.ref (ga K "BadTree")) (.ref (ga K "BadTree")) = some true) &&
  (decide (PySem.W.kitOne K (.ref (ga K "BadTree")) (.ref (ga K "TooMany")) = some false) &&
  (decide (PySem.W.kitOne K (.ref (ga K "BadTree")) (.ref (ga K "BadLetters")) = some false) &&
  (decide (PySem.W.exmOne K (.ref (ga K "BadLetters")) (.ref (ga K "LanguageError")) = some true) &&
  (decide (PySem.W.exmOne K (.ref (ga K "BadWord")) (.ref (ga K "LanguageError")) = some true) &&
  (decide (PySem.W.exmOne K (.ref (ga K "BadTree")) (.ref (ga K "LanguageError")) = some true) &&
  (decide (XX.excCB K (ga K "BadLetters") = true))))))))))))))))
abbrev Tx (K : PySem.W.Frag) (mg : Str → Option Value) : Prop := TxG fa fn fi exB PP K mg
structure ExF (K : PySem.W.Frag) : Prop where
  k_BadLetters_BadWord : PySem.W.kitOne K (.ref (ga K "BadLetters")) (.ref (ga K "BadWord")) = some false
  k_BadLetters_BadTree : PySem.W.kitOne K (.ref (ga K "BadLetters")) (.ref (ga K "BadTree")) = some false
  k_BadLetters_TooMany : PySem.W.kitOne K (.ref (ga K "BadLetters")) (.ref (ga K "TooMany")) = some false
  k_BadLetters_BadLetters : PySem.W.kitOne K (.ref (ga K "BadLetters")) (.ref (ga K "BadLetters")) = some true
  k_BadWord_BadWord : PySem.W.kitOne K (.ref (ga K "BadWord")) (.ref (ga K "BadWord")) = some true
  k_BadWord_BadTree : PySem.W.kitOne K (.ref (ga K "BadWord")) (.ref (ga K "BadTree")) = some false
  k_BadWord_TooMany : PySem.W.kitOne K (.ref (ga K "BadWord")) (.ref (ga K "TooMany")) = some false
  k_BadWord_BadLetters : PySem.W.kitOne K (.ref (ga K "BadWord")) (.ref (ga K "BadLetters")) = some false
  k_BadTree_BadWord : PySem.W.kitOne K (.ref (ga K "BadTree")) (.ref (ga K "BadWord")) = some false
  k_BadTree_BadTree : PySem.W.kitOne K (.ref (ga K "BadTree")) (.ref (ga K "BadTree")) = some true
  k_BadTree_TooMany : PySem.W.kitOne K (.ref (ga K "BadTree")) (.ref (ga K "TooMany")) = some false
  k_BadTree_BadLetters : PySem.W.kitOne K (.ref (ga K "BadTree")) (.ref (ga K "BadLetters")) = some false
  e_BadLetters : PySem.W.exmOne K (.ref (ga K "BadLetters")) (.ref (ga K "LanguageError")) = some true
  e_BadWord : PySem.W.exmOne K (.ref (ga K "BadWord")) (.ref (ga K "LanguageError")) = some true
  e_BadTree : PySem.W.exmOne K (.ref (ga K "BadTree")) (.ref (ga K "LanguageError")) = some true
  z_BadLetters : XX.excCB K (ga K "BadLetters") = true
theorem exF {K : PySem.W.Frag} {mg : Str → Option Value} (T : Tx K mg) : ExF K := by
  have h := T.extra
  simp only [exB, Bool.and_eq_true, decide_eq_true_eq] at h
  obtain ⟨h0, h1, h2, h3, h4, h5, h6, h7, h8, h9, h10, h11, h12, h13, h14, h15⟩ := h
  exact ⟨h0, h1, h2, h3, h4, h5, h6, h7, h8, h9, h10, h11, h12, h13, h14, h15⟩
theorem any_of {K : PySem.W.Frag} {mg : Str → Option Value} (T : Tx K mg) : PySem.W.nsIn K cStatics "thirdparty.any" = some none := T.any 0 (d := i_BadWord) rfl
theorem na_BadWord_word {K : PySem.W.Frag} {mg : Str → Option Value} (T : Tx K mg) : NoAttr K (ga K "BadWord") "word" := T.na 6 "BadWord" "word" rfl
theorem na_BadWord_place {K : PySem.W.Frag} {mg : Str → Option Value} (T : Tx K mg) : NoAttr K (ga K "BadWord") "place" := T.na 7 "BadWord" "place" rfl
theorem na_BadTree_place {K : PySem.W.Frag} {mg : Str → Option Value} (T : Tx K mg) : NoAttr K (ga K "BadTree") "place" := T.na 21 "BadTree" "place" rfl
theorem na_TooMany_limit {K : PySem.W.Frag} {mg : Str → Option Value} (T : Tx K mg) : NoAttr K (ga K "TooMany") "limit" := T.na 32 "TooMany" "limit" rfl
theorem glo_law {K : PySem.W.Frag} {mg : Str → Option Value} (T : Tx K mg) : mg "law" = some (.ref (ga K "law")) := T.gl 50 "law" rfl
theorem exc_BadLetters {K : PySem.W.Frag} {mg : Str → Option Value} (T : Tx K mg) : ExcC K (ga K "BadLetters") := XX.excCB_ok (exF T).z_BadLetters
theorem exc_BadWord {K : PySem.W.Frag} {mg : Str → Option Value} (T : Tx K mg) : ExcC K (ga K "BadWord") := T.exc 0 (d := i_BadWord) rfl
theorem exc_TooMany {K : PySem.W.Frag} {mg : Str → Option Value} (T : Tx K mg) : ExcC K (ga K "TooMany") := T.exc 1 (d := i_TooMany) rfl
theorem exc_BadTree {K : PySem.W.Frag} {mg : Str → Option Value} (T : Tx K mg) : ExcC K (ga K "BadTree") := T.exc 2 (d := i_BadTree) rfl
end K68

set_option maxHeartbeats 4000000
namespace K68
open PySem PySem.Spec PyProof.Rows L2 He
theorem len_check_letters {K : PySem.W.Frag} {vs : List V} {H : Hp} {Q : VK} {E : XK} (h : (spCL K) vs H Q E) : vs.length = 1 := by
  unfold spCL at h
  first | (obtain ⟨_, rfl, _⟩ := h; rfl) | (obtain ⟨_, _, rfl, _⟩ := h; rfl) | (obtain ⟨_, _, _, rfl, _⟩ := h; rfl) | (obtain ⟨_, _, _, _, rfl, _⟩ := h; rfl) | (obtain ⟨_, _, _, _, _, rfl, _⟩ := h; rfl) | (obtain ⟨_, _, _, _, _, _, rfl, _⟩ := h; rfl) | (obtain ⟨_, _, _, _, _, _, _, rfl, _⟩ := h; rfl) | (obtain ⟨_, _, _, _, _, _, _, _, rfl, _⟩ := h; rfl) | (obtain ⟨_, _, _, _, _, _, _, _, _, rfl, _⟩ := h; rfl) | (obtain ⟨_, _, _, _, _, _, _, _, _, _, rfl, _⟩ := h; rfl) | (obtain ⟨_, _, _, _, _, _, _, _, _, _, _, rfl, _⟩ := h; rfl) | (obtain ⟨_, _, _, _, _, _, _, _, _, _, _, _, rfl, _⟩ := h; rfl)
theorem len_check_word {K : PySem.W.Frag} {vs : List V} {H : Hp} {Q : VK} {E : XK} (h : (spCW K) vs H Q E) : vs.length = 2 := by
  unfold spCW at h
  first | (obtain ⟨_, rfl, _⟩ := h; rfl) | (obtain ⟨_, _, rfl, _⟩ := h; rfl) | (obtain ⟨_, _, _, rfl, _⟩ := h; rfl) | (obtain ⟨_, _, _, _, rfl, _⟩ := h; rfl) | (obtain ⟨_, _, _, _, _, rfl, _⟩ := h; rfl) | (obtain ⟨_, _, _, _, _, _, rfl, _⟩ := h; rfl) | (obtain ⟨_, _, _, _, _, _, _, rfl, _⟩ := h; rfl) | (obtain ⟨_, _, _, _, _, _, _, _, rfl, _⟩ := h; rfl) | (obtain ⟨_, _, _, _, _, _, _, _, _, rfl, _⟩ := h; rfl) | (obtain ⟨_, _, _, _, _, _, _, _, _, _, rfl, _⟩ := h; rfl) | (obtain ⟨_, _, _, _, _, _, _, _, _, _, _, rfl, _⟩ := h; rfl) | (obtain ⟨_, _, _, _, _, _, _, _, _, _, _, _, rfl, _⟩ := h; rfl)
theorem len_spans {K : PySem.W.Frag} {vs : List V} {H : Hp} {Q : VK} {E : XK} (h : spSpans vs H Q E) : vs.length = 1 := by
  unfold spSpans at h
  first | (obtain ⟨_, rfl, _⟩ := h; rfl) | (obtain ⟨_, _, rfl, _⟩ := h; rfl) | (obtain ⟨_, _, _, rfl, _⟩ := h; rfl) | (obtain ⟨_, _, _, _, rfl, _⟩ := h; rfl) | (obtain ⟨_, _, _, _, _, rfl, _⟩ := h; rfl) | (obtain ⟨_, _, _, _, _, _, rfl, _⟩ := h; rfl) | (obtain ⟨_, _, _, _, _, _, _, rfl, _⟩ := h; rfl) | (obtain ⟨_, _, _, _, _, _, _, _, rfl, _⟩ := h; rfl) | (obtain ⟨_, _, _, _, _, _, _, _, _, rfl, _⟩ := h; rfl) | (obtain ⟨_, _, _, _, _, _, _, _, _, _, rfl, _⟩ := h; rfl) | (obtain ⟨_, _, _, _, _, _, _, _, _, _, _, rfl, _⟩ := h; rfl) | (obtain ⟨_, _, _, _, _, _, _, _, _, _, _, _, rfl, _⟩ := h; rfl)
theorem len_subtrees {K : PySem.W.Frag} {vs : List V} {H : Hp} {Q : VK} {E : XK} (h : spSubs vs H Q E) : vs.length = 1 := by
  unfold spSubs at h
  first | (obtain ⟨_, rfl, _⟩ := h; rfl) | (obtain ⟨_, _, rfl, _⟩ := h; rfl) | (obtain ⟨_, _, _, rfl, _⟩ := h; rfl) | (obtain ⟨_, _, _, _, rfl, _⟩ := h; rfl) | (obtain ⟨_, _, _, _, _, rfl, _⟩ := h; rfl) | (obtain ⟨_, _, _, _, _, _, rfl, _⟩ := h; rfl) | (obtain ⟨_, _, _, _, _, _, _, rfl, _⟩ := h; rfl) | (obtain ⟨_, _, _, _, _, _, _, _, rfl, _⟩ := h; rfl) | (obtain ⟨_, _, _, _, _, _, _, _, _, rfl, _⟩ := h; rfl) | (obtain ⟨_, _, _, _, _, _, _, _, _, _, rfl, _⟩ := h; rfl) | (obtain ⟨_, _, _, _, _, _, _, _, _, _, _, rfl, _⟩ := h; rfl) | (obtain ⟨_, _, _, _, _, _, _, _, _, _, _, _, rfl, _⟩ := h; rfl)
theorem len_kids_of {K : PySem.W.Frag} {vs : List V} {H : Hp} {Q : VK} {E : XK} (h : spKids vs H Q E) : vs.length = 1 := by
  unfold spKids at h
  first | (obtain ⟨_, rfl, _⟩ := h; rfl) | (obtain ⟨_, _, rfl, _⟩ := h; rfl) | (obtain ⟨_, _, _, rfl, _⟩ := h; rfl) | (obtain ⟨_, _, _, _, rfl, _⟩ := h; rfl) | (obtain ⟨_, _, _, _, _, rfl, _⟩ := h; rfl) | (obtain ⟨_, _, _, _, _, _, rfl, _⟩ := h; rfl) | (obtain ⟨_, _, _, _, _, _, _, rfl, _⟩ := h; rfl) | (obtain ⟨_, _, _, _, _, _, _, _, rfl, _⟩ := h; rfl) | (obtain ⟨_, _, _, _, _, _, _, _, _, rfl, _⟩ := h; rfl) | (obtain ⟨_, _, _, _, _, _, _, _, _, _, rfl, _⟩ := h; rfl) | (obtain ⟨_, _, _, _, _, _, _, _, _, _, _, rfl, _⟩ := h; rfl) | (obtain ⟨_, _, _, _, _, _, _, _, _, _, _, _, rfl, _⟩ := h; rfl)
theorem len_made_tree {K : PySem.W.Frag} {vs : List V} {H : Hp} {Q : VK} {E : XK} (h : (spMade K) vs H Q E) : vs.length = 2 := by
  unfold spMade at h
  first | (obtain ⟨_, rfl, _⟩ := h; rfl) | (obtain ⟨_, _, rfl, _⟩ := h; rfl) | (obtain ⟨_, _, _, rfl, _⟩ := h; rfl) | (obtain ⟨_, _, _, _, rfl, _⟩ := h; rfl) | (obtain ⟨_, _, _, _, _, rfl, _⟩ := h; rfl) | (obtain ⟨_, _, _, _, _, _, rfl, _⟩ := h; rfl) | (obtain ⟨_, _, _, _, _, _, _, rfl, _⟩ := h; rfl) | (obtain ⟨_, _, _, _, _, _, _, _, rfl, _⟩ := h; rfl) | (obtain ⟨_, _, _, _, _, _, _, _, _, rfl, _⟩ := h; rfl) | (obtain ⟨_, _, _, _, _, _, _, _, _, _, rfl, _⟩ := h; rfl) | (obtain ⟨_, _, _, _, _, _, _, _, _, _, _, rfl, _⟩ := h; rfl) | (obtain ⟨_, _, _, _, _, _, _, _, _, _, _, _, rfl, _⟩ := h; rfl)
theorem len_bracketed {K : PySem.W.Frag} {vs : List V} {H : Hp} {Q : VK} {E : XK} (h : spFlat vs H Q E) : vs.length = 1 := by
  unfold spFlat at h
  first | (obtain ⟨_, rfl, _⟩ := h; rfl) | (obtain ⟨_, _, rfl, _⟩ := h; rfl) | (obtain ⟨_, _, _, rfl, _⟩ := h; rfl) | (obtain ⟨_, _, _, _, rfl, _⟩ := h; rfl) | (obtain ⟨_, _, _, _, _, rfl, _⟩ := h; rfl) | (obtain ⟨_, _, _, _, _, _, rfl, _⟩ := h; rfl) | (obtain ⟨_, _, _, _, _, _, _, rfl, _⟩ := h; rfl) | (obtain ⟨_, _, _, _, _, _, _, _, rfl, _⟩ := h; rfl) | (obtain ⟨_, _, _, _, _, _, _, _, _, rfl, _⟩ := h; rfl) | (obtain ⟨_, _, _, _, _, _, _, _, _, _, rfl, _⟩ := h; rfl) | (obtain ⟨_, _, _, _, _, _, _, _, _, _, _, rfl, _⟩ := h; rfl) | (obtain ⟨_, _, _, _, _, _, _, _, _, _, _, _, rfl, _⟩ := h; rfl)
theorem len_skeleton {K : PySem.W.Frag} {vs : List V} {H : Hp} {Q : VK} {E : XK} (h : spSkel vs H Q E) : vs.length = 2 := by
  unfold spSkel at h
  first | (obtain ⟨_, rfl, _⟩ := h; rfl) | (obtain ⟨_, _, rfl, _⟩ := h; rfl) | (obtain ⟨_, _, _, rfl, _⟩ := h; rfl) | (obtain ⟨_, _, _, _, rfl, _⟩ := h; rfl) | (obtain ⟨_, _, _, _, _, rfl, _⟩ := h; rfl) | (obtain ⟨_, _, _, _, _, _, rfl, _⟩ := h; rfl) | (obtain ⟨_, _, _, _, _, _, _, rfl, _⟩ := h; rfl) | (obtain ⟨_, _, _, _, _, _, _, _, rfl, _⟩ := h; rfl) | (obtain ⟨_, _, _, _, _, _, _, _, _, rfl, _⟩ := h; rfl) | (obtain ⟨_, _, _, _, _, _, _, _, _, _, rfl, _⟩ := h; rfl) | (obtain ⟨_, _, _, _, _, _, _, _, _, _, _, rfl, _⟩ := h; rfl) | (obtain ⟨_, _, _, _, _, _, _, _, _, _, _, _, rfl, _⟩ := h; rfl)
theorem len_first_wrong_bracket {K : PySem.W.Frag} {vs : List V} {H : Hp} {Q : VK} {E : XK} (h : spWrong vs H Q E) : vs.length = 2 := by
  unfold spWrong at h
  first | (obtain ⟨_, rfl, _⟩ := h; rfl) | (obtain ⟨_, _, rfl, _⟩ := h; rfl) | (obtain ⟨_, _, _, rfl, _⟩ := h; rfl) | (obtain ⟨_, _, _, _, rfl, _⟩ := h; rfl) | (obtain ⟨_, _, _, _, _, rfl, _⟩ := h; rfl) | (obtain ⟨_, _, _, _, _, _, rfl, _⟩ := h; rfl) | (obtain ⟨_, _, _, _, _, _, _, rfl, _⟩ := h; rfl) | (obtain ⟨_, _, _, _, _, _, _, _, rfl, _⟩ := h; rfl) | (obtain ⟨_, _, _, _, _, _, _, _, _, rfl, _⟩ := h; rfl) | (obtain ⟨_, _, _, _, _, _, _, _, _, _, rfl, _⟩ := h; rfl) | (obtain ⟨_, _, _, _, _, _, _, _, _, _, _, rfl, _⟩ := h; rfl) | (obtain ⟨_, _, _, _, _, _, _, _, _, _, _, _, rfl, _⟩ := h; rfl)
theorem len_read_brackets {K : PySem.W.Frag} {vs : List V} {H : Hp} {Q : VK} {E : XK} (h : (spRead K) vs H Q E) : vs.length = 3 := by
  unfold spRead at h
  first | (obtain ⟨_, rfl, _⟩ := h; rfl) | (obtain ⟨_, _, rfl, _⟩ := h; rfl) | (obtain ⟨_, _, _, rfl, _⟩ := h; rfl) | (obtain ⟨_, _, _, _, rfl, _⟩ := h; rfl) | (obtain ⟨_, _, _, _, _, rfl, _⟩ := h; rfl) | (obtain ⟨_, _, _, _, _, _, rfl, _⟩ := h; rfl) | (obtain ⟨_, _, _, _, _, _, _, rfl, _⟩ := h; rfl) | (obtain ⟨_, _, _, _, _, _, _, _, rfl, _⟩ := h; rfl) | (obtain ⟨_, _, _, _, _, _, _, _, _, rfl, _⟩ := h; rfl) | (obtain ⟨_, _, _, _, _, _, _, _, _, _, rfl, _⟩ := h; rfl) | (obtain ⟨_, _, _, _, _, _, _, _, _, _, _, rfl, _⟩ := h; rfl) | (obtain ⟨_, _, _, _, _, _, _, _, _, _, _, _, rfl, _⟩ := h; rfl)
theorem len_start {K : PySem.W.Frag} {vs : List V} {H : Hp} {Q : VK} {E : XK} (h : (spStart K) vs H Q E) : vs.length = 1 := by
  unfold spStart at h
  first | (obtain ⟨_, rfl, _⟩ := h; rfl) | (obtain ⟨_, _, rfl, _⟩ := h; rfl) | (obtain ⟨_, _, _, rfl, _⟩ := h; rfl) | (obtain ⟨_, _, _, _, rfl, _⟩ := h; rfl) | (obtain ⟨_, _, _, _, _, rfl, _⟩ := h; rfl) | (obtain ⟨_, _, _, _, _, _, rfl, _⟩ := h; rfl) | (obtain ⟨_, _, _, _, _, _, _, rfl, _⟩ := h; rfl) | (obtain ⟨_, _, _, _, _, _, _, _, rfl, _⟩ := h; rfl) | (obtain ⟨_, _, _, _, _, _, _, _, _, rfl, _⟩ := h; rfl) | (obtain ⟨_, _, _, _, _, _, _, _, _, _, rfl, _⟩ := h; rfl) | (obtain ⟨_, _, _, _, _, _, _, _, _, _, _, rfl, _⟩ := h; rfl) | (obtain ⟨_, _, _, _, _, _, _, _, _, _, _, _, rfl, _⟩ := h; rfl)
theorem len_next {K : PySem.W.Frag} {vs : List V} {H : Hp} {Q : VK} {E : XK} (h : spNextC vs H Q E) : vs.length = 2 := by
  unfold spNextC at h
  first | (obtain ⟨_, rfl, _⟩ := h; rfl) | (obtain ⟨_, _, rfl, _⟩ := h; rfl) | (obtain ⟨_, _, _, rfl, _⟩ := h; rfl) | (obtain ⟨_, _, _, _, rfl, _⟩ := h; rfl) | (obtain ⟨_, _, _, _, _, rfl, _⟩ := h; rfl) | (obtain ⟨_, _, _, _, _, _, rfl, _⟩ := h; rfl) | (obtain ⟨_, _, _, _, _, _, _, rfl, _⟩ := h; rfl) | (obtain ⟨_, _, _, _, _, _, _, _, rfl, _⟩ := h; rfl) | (obtain ⟨_, _, _, _, _, _, _, _, _, rfl, _⟩ := h; rfl) | (obtain ⟨_, _, _, _, _, _, _, _, _, _, rfl, _⟩ := h; rfl) | (obtain ⟨_, _, _, _, _, _, _, _, _, _, _, rfl, _⟩ := h; rfl) | (obtain ⟨_, _, _, _, _, _, _, _, _, _, _, _, rfl, _⟩ := h; rfl)
theorem len_same {K : PySem.W.Frag} {vs : List V} {H : Hp} {Q : VK} {E : XK} (h : spSame vs H Q E) : vs.length = 2 := by
  unfold spSame at h
  first | (obtain ⟨_, rfl, _⟩ := h; rfl) | (obtain ⟨_, _, rfl, _⟩ := h; rfl) | (obtain ⟨_, _, _, rfl, _⟩ := h; rfl) | (obtain ⟨_, _, _, _, rfl, _⟩ := h; rfl) | (obtain ⟨_, _, _, _, _, rfl, _⟩ := h; rfl) | (obtain ⟨_, _, _, _, _, _, rfl, _⟩ := h; rfl) | (obtain ⟨_, _, _, _, _, _, _, rfl, _⟩ := h; rfl) | (obtain ⟨_, _, _, _, _, _, _, _, rfl, _⟩ := h; rfl) | (obtain ⟨_, _, _, _, _, _, _, _, _, rfl, _⟩ := h; rfl) | (obtain ⟨_, _, _, _, _, _, _, _, _, _, rfl, _⟩ := h; rfl) | (obtain ⟨_, _, _, _, _, _, _, _, _, _, _, rfl, _⟩ := h; rfl) | (obtain ⟨_, _, _, _, _, _, _, _, _, _, _, _, rfl, _⟩ := h; rfl)
theorem len_alphabet {K : PySem.W.Frag} {vs : List V} {H : Hp} {Q : VK} {E : XK} (h : spAlpha vs H Q E) : vs.length = 2 := by
  unfold spAlpha at h
  first | (obtain ⟨_, rfl, _⟩ := h; rfl) | (obtain ⟨_, _, rfl, _⟩ := h; rfl) | (obtain ⟨_, _, _, rfl, _⟩ := h; rfl) | (obtain ⟨_, _, _, _, rfl, _⟩ := h; rfl) | (obtain ⟨_, _, _, _, _, rfl, _⟩ := h; rfl) | (obtain ⟨_, _, _, _, _, _, rfl, _⟩ := h; rfl) | (obtain ⟨_, _, _, _, _, _, _, rfl, _⟩ := h; rfl) | (obtain ⟨_, _, _, _, _, _, _, _, rfl, _⟩ := h; rfl) | (obtain ⟨_, _, _, _, _, _, _, _, _, rfl, _⟩ := h; rfl) | (obtain ⟨_, _, _, _, _, _, _, _, _, _, rfl, _⟩ := h; rfl) | (obtain ⟨_, _, _, _, _, _, _, _, _, _, _, rfl, _⟩ := h; rfl) | (obtain ⟨_, _, _, _, _, _, _, _, _, _, _, _, rfl, _⟩ := h; rfl)
theorem len_written {K : PySem.W.Frag} {vs : List V} {H : Hp} {Q : VK} {E : XK} (h : spWritten vs H Q E) : vs.length = 2 := by
  unfold spWritten at h
  first | (obtain ⟨_, rfl, _⟩ := h; rfl) | (obtain ⟨_, _, rfl, _⟩ := h; rfl) | (obtain ⟨_, _, _, rfl, _⟩ := h; rfl) | (obtain ⟨_, _, _, _, rfl, _⟩ := h; rfl) | (obtain ⟨_, _, _, _, _, rfl, _⟩ := h; rfl) | (obtain ⟨_, _, _, _, _, _, rfl, _⟩ := h; rfl) | (obtain ⟨_, _, _, _, _, _, _, rfl, _⟩ := h; rfl) | (obtain ⟨_, _, _, _, _, _, _, _, rfl, _⟩ := h; rfl) | (obtain ⟨_, _, _, _, _, _, _, _, _, rfl, _⟩ := h; rfl) | (obtain ⟨_, _, _, _, _, _, _, _, _, _, rfl, _⟩ := h; rfl) | (obtain ⟨_, _, _, _, _, _, _, _, _, _, _, rfl, _⟩ := h; rfl) | (obtain ⟨_, _, _, _, _, _, _, _, _, _, _, _, rfl, _⟩ := h; rfl)
theorem len_tree {K : PySem.W.Frag} {vs : List V} {H : Hp} {Q : VK} {E : XK} (h : spTree vs H Q E) : vs.length = 3 := by
  unfold spTree at h
  first | (obtain ⟨_, rfl, _⟩ := h; rfl) | (obtain ⟨_, _, rfl, _⟩ := h; rfl) | (obtain ⟨_, _, _, rfl, _⟩ := h; rfl) | (obtain ⟨_, _, _, _, rfl, _⟩ := h; rfl) | (obtain ⟨_, _, _, _, _, rfl, _⟩ := h; rfl) | (obtain ⟨_, _, _, _, _, _, rfl, _⟩ := h; rfl) | (obtain ⟨_, _, _, _, _, _, _, rfl, _⟩ := h; rfl) | (obtain ⟨_, _, _, _, _, _, _, _, rfl, _⟩ := h; rfl) | (obtain ⟨_, _, _, _, _, _, _, _, _, rfl, _⟩ := h; rfl) | (obtain ⟨_, _, _, _, _, _, _, _, _, _, rfl, _⟩ := h; rfl) | (obtain ⟨_, _, _, _, _, _, _, _, _, _, _, rfl, _⟩ := h; rfl) | (obtain ⟨_, _, _, _, _, _, _, _, _, _, _, _, rfl, _⟩ := h; rfl)
theorem len_some {K : PySem.W.Frag} {vs : List V} {H : Hp} {Q : VK} {E : XK} (h : spSome vs H Q E) : vs.length = 1 := by
  unfold spSome at h
  first | (obtain ⟨_, rfl, _⟩ := h; rfl) | (obtain ⟨_, _, rfl, _⟩ := h; rfl) | (obtain ⟨_, _, _, rfl, _⟩ := h; rfl) | (obtain ⟨_, _, _, _, rfl, _⟩ := h; rfl) | (obtain ⟨_, _, _, _, _, rfl, _⟩ := h; rfl) | (obtain ⟨_, _, _, _, _, _, rfl, _⟩ := h; rfl) | (obtain ⟨_, _, _, _, _, _, _, rfl, _⟩ := h; rfl) | (obtain ⟨_, _, _, _, _, _, _, _, rfl, _⟩ := h; rfl) | (obtain ⟨_, _, _, _, _, _, _, _, _, rfl, _⟩ := h; rfl) | (obtain ⟨_, _, _, _, _, _, _, _, _, _, rfl, _⟩ := h; rfl) | (obtain ⟨_, _, _, _, _, _, _, _, _, _, _, rfl, _⟩ := h; rfl) | (obtain ⟨_, _, _, _, _, _, _, _, _, _, _, _, rfl, _⟩ := h; rfl)
theorem len_raised {K : PySem.W.Frag} {a : Addr} {cls : Value} {d : Option Addr} {vs : List V} {H : Hp} {Q : VK} {E : XK} (h : (spRaised K) a cls d vs H Q E) : vs.length = 1 := by
  unfold spRaised at h
  obtain ⟨rfl, _⟩ := h
  rfl
theorem len_spoil {K : PySem.W.Frag} {vs : List V} {H : Hp} {Q : VK} {E : XK} (h : spSpoil vs H Q E) : vs.length = 3 := by
  unfold spSpoil at h
  first | (obtain ⟨_, rfl, _⟩ := h; rfl) | (obtain ⟨_, _, rfl, _⟩ := h; rfl) | (obtain ⟨_, _, _, rfl, _⟩ := h; rfl) | (obtain ⟨_, _, _, _, rfl, _⟩ := h; rfl) | (obtain ⟨_, _, _, _, _, rfl, _⟩ := h; rfl) | (obtain ⟨_, _, _, _, _, _, rfl, _⟩ := h; rfl) | (obtain ⟨_, _, _, _, _, _, _, rfl, _⟩ := h; rfl) | (obtain ⟨_, _, _, _, _, _, _, _, rfl, _⟩ := h; rfl) | (obtain ⟨_, _, _, _, _, _, _, _, _, rfl, _⟩ := h; rfl) | (obtain ⟨_, _, _, _, _, _, _, _, _, _, rfl, _⟩ := h; rfl) | (obtain ⟨_, _, _, _, _, _, _, _, _, _, _, rfl, _⟩ := h; rfl) | (obtain ⟨_, _, _, _, _, _, _, _, _, _, _, _, rfl, _⟩ := h; rfl)
theorem len_badl {K : PySem.W.Frag} {vs : List V} {H : Hp} {Q : VK} {E : XK} (h : spBadL vs H Q E) : vs.length = 2 := by
  unfold spBadL at h
  first | (obtain ⟨_, rfl, _⟩ := h; rfl) | (obtain ⟨_, _, rfl, _⟩ := h; rfl) | (obtain ⟨_, _, _, rfl, _⟩ := h; rfl) | (obtain ⟨_, _, _, _, rfl, _⟩ := h; rfl) | (obtain ⟨_, _, _, _, _, rfl, _⟩ := h; rfl) | (obtain ⟨_, _, _, _, _, _, rfl, _⟩ := h; rfl) | (obtain ⟨_, _, _, _, _, _, _, rfl, _⟩ := h; rfl) | (obtain ⟨_, _, _, _, _, _, _, _, rfl, _⟩ := h; rfl) | (obtain ⟨_, _, _, _, _, _, _, _, _, rfl, _⟩ := h; rfl) | (obtain ⟨_, _, _, _, _, _, _, _, _, _, rfl, _⟩ := h; rfl) | (obtain ⟨_, _, _, _, _, _, _, _, _, _, _, rfl, _⟩ := h; rfl) | (obtain ⟨_, _, _, _, _, _, _, _, _, _, _, _, rfl, _⟩ := h; rfl)
theorem len_flat {K : PySem.W.Frag} {vs : List V} {H : Hp} {Q : VK} {E : XK} (h : spFlat vs H Q E) : vs.length = 1 := by
  unfold spFlat at h
  first | (obtain ⟨_, rfl, _⟩ := h; rfl) | (obtain ⟨_, _, rfl, _⟩ := h; rfl) | (obtain ⟨_, _, _, rfl, _⟩ := h; rfl) | (obtain ⟨_, _, _, _, rfl, _⟩ := h; rfl) | (obtain ⟨_, _, _, _, _, rfl, _⟩ := h; rfl) | (obtain ⟨_, _, _, _, _, _, rfl, _⟩ := h; rfl) | (obtain ⟨_, _, _, _, _, _, _, rfl, _⟩ := h; rfl) | (obtain ⟨_, _, _, _, _, _, _, _, rfl, _⟩ := h; rfl) | (obtain ⟨_, _, _, _, _, _, _, _, _, rfl, _⟩ := h; rfl) | (obtain ⟨_, _, _, _, _, _, _, _, _, _, rfl, _⟩ := h; rfl) | (obtain ⟨_, _, _, _, _, _, _, _, _, _, _, rfl, _⟩ := h; rfl) | (obtain ⟨_, _, _, _, _, _, _, _, _, _, _, _, rfl, _⟩ := h; rfl)
theorem len_boned {K : PySem.W.Frag} {vs : List V} {H : Hp} {Q : VK} {E : XK} (h : spBoned vs H Q E) : vs.length = 2 := by
  unfold spBoned at h
  first | (obtain ⟨_, rfl, _⟩ := h; rfl) | (obtain ⟨_, _, rfl, _⟩ := h; rfl) | (obtain ⟨_, _, _, rfl, _⟩ := h; rfl) | (obtain ⟨_, _, _, _, rfl, _⟩ := h; rfl) | (obtain ⟨_, _, _, _, _, rfl, _⟩ := h; rfl) | (obtain ⟨_, _, _, _, _, _, rfl, _⟩ := h; rfl) | (obtain ⟨_, _, _, _, _, _, _, rfl, _⟩ := h; rfl) | (obtain ⟨_, _, _, _, _, _, _, _, rfl, _⟩ := h; rfl) | (obtain ⟨_, _, _, _, _, _, _, _, _, rfl, _⟩ := h; rfl) | (obtain ⟨_, _, _, _, _, _, _, _, _, _, rfl, _⟩ := h; rfl) | (obtain ⟨_, _, _, _, _, _, _, _, _, _, _, rfl, _⟩ := h; rfl) | (obtain ⟨_, _, _, _, _, _, _, _, _, _, _, _, rfl, _⟩ := h; rfl)
theorem len_wrong {K : PySem.W.Frag} {vs : List V} {H : Hp} {Q : VK} {E : XK} (h : spWrong vs H Q E) : vs.length = 2 := by
  unfold spWrong at h
  first | (obtain ⟨_, rfl, _⟩ := h; rfl) | (obtain ⟨_, _, rfl, _⟩ := h; rfl) | (obtain ⟨_, _, _, rfl, _⟩ := h; rfl) | (obtain ⟨_, _, _, _, rfl, _⟩ := h; rfl) | (obtain ⟨_, _, _, _, _, rfl, _⟩ := h; rfl) | (obtain ⟨_, _, _, _, _, _, rfl, _⟩ := h; rfl) | (obtain ⟨_, _, _, _, _, _, _, rfl, _⟩ := h; rfl) | (obtain ⟨_, _, _, _, _, _, _, _, rfl, _⟩ := h; rfl) | (obtain ⟨_, _, _, _, _, _, _, _, _, rfl, _⟩ := h; rfl) | (obtain ⟨_, _, _, _, _, _, _, _, _, _, rfl, _⟩ := h; rfl) | (obtain ⟨_, _, _, _, _, _, _, _, _, _, _, rfl, _⟩ := h; rfl) | (obtain ⟨_, _, _, _, _, _, _, _, _, _, _, _, rfl, _⟩ := h; rfl)
theorem len_readt {K : PySem.W.Frag} {vs : List V} {H : Hp} {Q : VK} {E : XK} (h : (spReadT K) vs H Q E) : vs.length = 3 := by
  unfold spReadT at h
  first | (obtain ⟨_, rfl, _⟩ := h; rfl) | (obtain ⟨_, _, rfl, _⟩ := h; rfl) | (obtain ⟨_, _, _, rfl, _⟩ := h; rfl) | (obtain ⟨_, _, _, _, rfl, _⟩ := h; rfl) | (obtain ⟨_, _, _, _, _, rfl, _⟩ := h; rfl) | (obtain ⟨_, _, _, _, _, _, rfl, _⟩ := h; rfl) | (obtain ⟨_, _, _, _, _, _, _, rfl, _⟩ := h; rfl) | (obtain ⟨_, _, _, _, _, _, _, _, rfl, _⟩ := h; rfl) | (obtain ⟨_, _, _, _, _, _, _, _, _, rfl, _⟩ := h; rfl) | (obtain ⟨_, _, _, _, _, _, _, _, _, _, rfl, _⟩ := h; rfl) | (obtain ⟨_, _, _, _, _, _, _, _, _, _, _, rfl, _⟩ := h; rfl) | (obtain ⟨_, _, _, _, _, _, _, _, _, _, _, _, rfl, _⟩ := h; rfl)
theorem len_onet {K : PySem.W.Frag} {vs : List V} {H : Hp} {Q : VK} {E : XK} (h : (spOneT K) vs H Q E) : vs.length = 3 := by
  unfold spOneT at h
  first | (obtain ⟨_, rfl, _⟩ := h; rfl) | (obtain ⟨_, _, rfl, _⟩ := h; rfl) | (obtain ⟨_, _, _, rfl, _⟩ := h; rfl) | (obtain ⟨_, _, _, _, rfl, _⟩ := h; rfl) | (obtain ⟨_, _, _, _, _, rfl, _⟩ := h; rfl) | (obtain ⟨_, _, _, _, _, _, rfl, _⟩ := h; rfl) | (obtain ⟨_, _, _, _, _, _, _, rfl, _⟩ := h; rfl) | (obtain ⟨_, _, _, _, _, _, _, _, rfl, _⟩ := h; rfl) | (obtain ⟨_, _, _, _, _, _, _, _, _, rfl, _⟩ := h; rfl) | (obtain ⟨_, _, _, _, _, _, _, _, _, _, rfl, _⟩ := h; rfl) | (obtain ⟨_, _, _, _, _, _, _, _, _, _, _, rfl, _⟩ := h; rfl) | (obtain ⟨_, _, _, _, _, _, _, _, _, _, _, _, rfl, _⟩ := h; rfl)
theorem len_one {K : PySem.W.Frag} {vs : List V} {H : Hp} {Q : VK} {E : XK} (h : (spOne K) vs H Q E) : vs.length = 3 := by
  unfold spOne at h
  first | (obtain ⟨_, rfl, _⟩ := h; rfl) | (obtain ⟨_, _, rfl, _⟩ := h; rfl) | (obtain ⟨_, _, _, rfl, _⟩ := h; rfl) | (obtain ⟨_, _, _, _, rfl, _⟩ := h; rfl) | (obtain ⟨_, _, _, _, _, rfl, _⟩ := h; rfl) | (obtain ⟨_, _, _, _, _, _, rfl, _⟩ := h; rfl) | (obtain ⟨_, _, _, _, _, _, _, rfl, _⟩ := h; rfl) | (obtain ⟨_, _, _, _, _, _, _, _, rfl, _⟩ := h; rfl) | (obtain ⟨_, _, _, _, _, _, _, _, _, rfl, _⟩ := h; rfl) | (obtain ⟨_, _, _, _, _, _, _, _, _, _, rfl, _⟩ := h; rfl) | (obtain ⟨_, _, _, _, _, _, _, _, _, _, _, rfl, _⟩ := h; rfl) | (obtain ⟨_, _, _, _, _, _, _, _, _, _, _, _, rfl, _⟩ := h; rfl)
theorem len_law {K : PySem.W.Frag} {vs : List V} {H : Hp} {Q : VK} {E : XK} (h : (spLaw K) vs H Q E) : vs.length = 1 := by
  unfold spLaw at h
  first | (obtain ⟨_, rfl, _⟩ := h; rfl) | (obtain ⟨_, _, rfl, _⟩ := h; rfl) | (obtain ⟨_, _, _, rfl, _⟩ := h; rfl) | (obtain ⟨_, _, _, _, rfl, _⟩ := h; rfl) | (obtain ⟨_, _, _, _, _, rfl, _⟩ := h; rfl) | (obtain ⟨_, _, _, _, _, _, rfl, _⟩ := h; rfl) | (obtain ⟨_, _, _, _, _, _, _, rfl, _⟩ := h; rfl) | (obtain ⟨_, _, _, _, _, _, _, _, rfl, _⟩ := h; rfl) | (obtain ⟨_, _, _, _, _, _, _, _, _, rfl, _⟩ := h; rfl) | (obtain ⟨_, _, _, _, _, _, _, _, _, _, rfl, _⟩ := h; rfl) | (obtain ⟨_, _, _, _, _, _, _, _, _, _, _, rfl, _⟩ := h; rfl) | (obtain ⟨_, _, _, _, _, _, _, _, _, _, _, _, rfl, _⟩ := h; rfl)
end K68

set_option maxHeartbeats 4000000
namespace K68
open PySem PySem.Spec PyProof.Rows L2 He
local macro_rules | `(tactic| walk_at "fd") => `(tactic| first | assumption | exact SqL.of (by assumption) | exact SqT.of (by assumption) | exact SqL.of upd_same | exact SqT.of upd_same)
local macro_rules | `(tactic| walk_at "pur") => `(tactic| (intros; (repeat walk_at "w"); first | assumption | (rename_i q; exact q)))
local macro_rules | `(tactic| walk_at "c") => `(tactic| first
  | (with_reducible refine w_asg ?_) | ((with_reducible refine w_name ?_); dsimp only [List.set_cons_zero, List.set_cons_succ]) | (with_reducible refine w_ret ?_) | (with_reducible refine w_retN ?_)
  | (with_reducible refine w_drop ?_) | (with_reducible refine w_if ?_) | (with_reducible refine w_next ?_) | (with_reducible refine w_brk ?_) | (with_reducible refine w_cont ?_)
  | ((with_reducible refine' w_var ?hv ?_); (case hv => rfl)) | (with_reducible refine w_c ?_) | (with_reducible refine w_op ?_) | (with_reducible refine w_cb ?_) | (with_reducible refine w_cons ?_) | (with_reducible refine w_nil ?_)
  | (with_reducible refine w_add ?_) | (with_reducible refine w_sub ?_) | (with_reducible refine w_lt ?_) | (with_reducible refine w_le ?_) | (with_reducible refine w_gt ?_) | (with_reducible refine w_ge ?_)
  | (with_reducible refine w_isN ?_) | (with_reducible refine w_notN ?_) | ((with_reducible refine' w_slXR ?h1 ?h2 ?_); (case h1 => omega); (case h2 => omega)) | ((with_reducible refine' w_slXL ?h1 ?h2 ?_); (case h1 => omega); (case h2 => omega)) | (with_reducible refine w_eqI ?_) | (with_reducible refine w_neI ?_) | (with_reducible refine w_int1 ?_) | (with_reducible refine w_abs ?_) | (with_reducible refine w_max2 ?_) | (with_reducible refine w_min2 ?_)
  | (with_reducible refine w_test ?_) | (with_reducible refine w_b ?_) | (with_reducible refine w_bl ?_) | (with_reducible refine w_in ?_)
  | ((with_reducible refine' w_and2 ?h1 ?h2 ?_); (case h1 => walk_at "pur"); (case h2 => walk_at "pur")) | ((with_reducible refine' w_or2 ?h1 ?h2 ?_); (case h1 => walk_at "pur"); (case h2 => walk_at "pur"))
  | ((with_reducible refine' w_andV2 ?h1 ?h2 ?_); (case h1 => walk_at "pur"); (case h2 => walk_at "pur")) | ((with_reducible refine' w_orV2 ?h1 ?h2 ?_); (case h1 => walk_at "pur"); (case h2 => walk_at "pur"))
  | (with_reducible refine w_and ?_) | (with_reducible refine w_or ?_) | (with_reducible refine w_not ?_)
  | (with_reducible refine w_andV ?_) | (with_reducible refine w_orV ?_) | (with_reducible refine w_notV ?_) | (with_reducible refine w_ifE ?_) | (with_reducible refine w_gsub ?_)
  | (with_reducible refine w_sl ?_) | (with_reducible refine w_pt ?_) | (with_reducible refine w_npt ?_) | (with_reducible refine w_tup ?_) | (with_reducible refine w_lst ?_)
  | ((with_reducible refine' w_new ?h1 ?_); (case h1 => exact Nat.le_of_ble_eq_true rfl)) | (with_reducible refine w_yes ?_) | ((with_reducible refine' w_ixX0 ?h1 ?h2 ?_); (case h1 => omega); (case h2 => assumption)) | ((with_reducible refine' w_ixX1 ?h1 ?h2 ?_); (case h1 => omega); (case h2 => assumption)) | ((with_reducible refine' w_ixXn ?h1 ?h2 ?_); (case h1 => omega); (case h2 => assumption)) | ((with_reducible refine' w_ixXz ?h1 ?h2 ?_); (case h1 => omega); (case h2 => assumption)) | ((with_reducible refine' w_listL ?h1 ?_); (case h1 => walk_at "fd")) | (with_reducible refine w_ite1 ?_) | ((with_reducible refine' w_if0 ?h1 ?_); (case h1 => simp only [Bool.or_false, Bool.or_true, Bool.true_or, Bool.or_self, Bool.and_self, Bool.and_true, Bool.and_false, Bool.false_and, Option.isSome_none, Option.isSome_some, Bool.not_false, Bool.not_true, Option.map_some, Option.map_none]; done)) | ((with_reducible refine' w_if1 ?h1 ?_); (case h1 => simp only [Bool.or_false, Bool.or_true, Bool.true_or, Bool.or_self, Bool.and_self, Bool.and_true, Bool.and_false, Bool.false_and, Option.isSome_none, Option.isSome_some, Bool.not_false, Bool.not_true, Option.map_some, Option.map_none]; done))
  | ((with_reducible refine' w_addX ?h1 ?_); (case h1 => first | (simp only [List.length_append, List.length_cons, List.length_nil, List.length_take, List.length_drop]; omega) | omega)) | ((with_reducible refine' w_lenX ?h1 ?_); (case h1 => first | omega | (simp only [List.length_append, List.length_cons, List.length_nil, List.length_take, List.length_drop]; omega))) | (with_reducible refine w_eqX ?_) | (with_reducible refine w_neX ?_) | (with_reducible refine w_inX ?_) | (with_reducible refine w_ninX ?_) | (with_reducible refine w_leX ?_)
  | (with_reducible refine w_for ?_) | (with_reducible refine w_iL ?_) | (with_reducible refine w_iS ?_) | (with_reducible refine w_iR1 ?_) | (with_reducible refine w_iE ?_) | (with_reducible refine w_iEs ?_) | (with_reducible refine w_ref ?_) | (with_reducible refine w_str ?_) | (with_reducible refine w_str1 ?_) | (with_reducible refine w_int1v ?_)
  | (with_reducible refine w_bm ?_) | (with_reducible refine w_bm0 ?_) | (with_reducible refine w_un ?_) | (with_reducible refine w_neg ?_) | (with_reducible refine w_augS ?_) | (with_reducible refine w_ip ?_) | (with_reducible refine w_iRev ?_) | (with_reducible refine w_dc ?_) | (with_reducible refine w_listZip ?_) | (with_reducible refine w_joinT ?_) | (with_reducible refine w_repl ?_) | (with_reducible refine w_upper ?_) | ((with_reducible refine' w_tyL ?h1 ?_); (case h1 => walk_at "fd")) | (with_reducible refine w_tfld ?_) | (with_reducible refine w_sfld ?_) | ((with_reducible refine' w_fldE ?h1 ?h2 ?h3 ?h4 ?_); (case h1 => first | assumption | exact upd_same); (case h2 => assumption); (case h3 => assumption); (case h4 => rfl)) | (with_reducible refine w_rx ?_) | (with_reducible refine w_rz ?_) | (with_reducible refine w_dnew ?_) | (with_reducible refine w_gcons ?_) | (with_reducible refine w_gnil ?_) | ((with_reducible refine' w_gtup ?h1 ?h2 ?_); (case h1 => walk_at "fd"); (case h2 => rfl)) | (with_reducible refine w_lc ?_) | (with_reducible refine w_call ?_) | (with_reducible refine w_dget ?_) | (with_reducible refine w_din ?_) | (with_reducible refine w_dnin ?_) | (with_reducible refine w_dput ?_)
  | ((with_reducible refine' w_ixL ?h1 ?h2 ?_); (case h1 => walk_at "fd"); (case h2 => rfl))
  | ((with_reducible refine' w_ixT ?h1 ?h2 ?_); (case h1 => walk_at "fd"); (case h2 => rfl))
  | ((with_reducible refine' w_mod ?hc ?_); (case hc => first | omega | decide)) | ((with_reducible refine' w_div ?hc ?_); (case hc => exact ⟨by omega, by omega⟩)) | ((with_reducible refine' w_pow ?hc ?_); (case hc => exact ⟨by decide, by decide, by decide⟩))
  | ((with_reducible refine' w_mul ?hc ?_); (case hc => first | exact Or.inl ⟨by omega, by omega⟩ | exact Or.inr ⟨by omega, by omega⟩))
  | ((with_reducible refine' w_lenM ?h1 ?_); (case h1 => walk_at "fd")) | ((with_reducible refine' w_lenL ?h1 ?_); (case h1 => walk_at "fd"))
  | (with_reducible refine w_eqS ?_) | (with_reducible refine w_neS ?_)
  | ((with_reducible refine' w_lenT ?h1 ?_); (case h1 => walk_at "fd"))
  | ((with_reducible refine' w_setL ?h1 ?h2 ?_); (case h1 => first | assumption | exact upd_same); (case h2 => rfl); dsimp only [Int.reduceToNat, List.set_cons_zero, List.set_cons_succ]))
local macro_rules | `(tactic| walk_at "w") => `(tactic| first | (with_reducible refine w_seq ?_) | walk_at "c")
local macro_rules | `(tactic| walk_at "i") => `(tactic| first | ((refine' w_if0 ?h1 ?_); (case h1 => first | assumption | (simp; done) | (simp; omega))) | ((refine' w_if1 ?h1 ?_); (case h1 => first | assumption | (simp; done) | (simp; omega))))
local macro_rules | `(tactic| walk_at "z") => `(tactic| first | walk_at "w" | walk_at "i")
local macro_rules | `(tactic| walk_at "y") => `(tactic| first | walk_at "c" | walk_at "i")
section
variable {K : PySem.W.Frag} {mg : Str → Option Value}
theorem pure_bracketed (T : Tx K mg) (vs : List V) (H : Hp) (Q : VK) (E : XK) (h : spFlat vs H Q E) : t_bracketed K { nx := fun _ H' => Q .non H', rt := Q } (start N_bracketed vs) H := by
  obtain ⟨l, rfl, hl, q⟩ := h
  rw [start_bracketed]
  unfold t_bracketed
  rw [both_tx, empty_tx, open_tx]
  repeat walk_at "w"
  refine forEX (fun i σ H' => Same H H' ∧ ∃ (m : List Nat) (v u : Option V), σ = [some (.str (tx l)), some (.str (tx m)), v, u] ∧ flatF l = m ++ flatF (l.drop i) ∧ m.length ≤ i)
    ⟨Same.refl H, [], none, none, rfl, by simp, Nat.le_refl _⟩ (fun i c σ H' p0 hc p hp0 => ?_) (fun σ H' p => ?_)
  · have hi' : i < l.length := (List.getElem?_eq_some_iff.mp hc).1
    obtain ⟨sm, m, v, u, rfl, hm, hml⟩ := p
    have hd := drop_at hc
    rw [hd] at hm
    have e3 : flatF (c :: l.drop (i + 1)) = (if c = 40 ∨ c = 41 ∨ (l.drop (i + 1)).head? ≠ some 40 then [c] else []) ++ flatF (l.drop (i + 1)) := rfl
    rw [e3] at hm
    have sm2 := sm.trans (Same.new (o := .tup [.int (i : Nat), .str (tx [c])]) hp0)
    repeat walk_at "w"
    refine w_iteD (fun h1 => ?_) (fun h1 => ?_)
    · repeat walk_at "z"
      refine ⟨sm2, m ++ [c], _, _, rfl, ?_, by rw [List.length_append, List.length_singleton]; omega⟩
      have h1' : c = 40 ∨ c = 41 := by simpa using h1
      rw [hm, if_pos (by rcases h1' with h | h; exact .inl h; exact .inr (.inl h)), List.append_assoc]
    · have h1' : ¬ (c = 40 ∨ c = 41) := by simpa using h1
      repeat walk_at "w"
      refine w_slX (by omega) (by omega) (by omega) ?_
      have t1 : ((i : Int) + 1).toNat = i + 1 := by omega
      have t2 : ((i : Int) + 2).toNat = i + 2 := by omega
      rw [t1, t2]
      repeat walk_at "w"
      refine w_iteDN (fun h2 => ?_) (fun h2 => ?_)
      · repeat walk_at "w"
        refine ⟨sm2, m ++ [c], _, _, rfl, ?_, by rw [List.length_append, List.length_singleton]; omega⟩
        rw [hm, if_pos (.inr (.inr fun z => h2 (cut1.mpr z))), List.append_assoc]
      · repeat walk_at "w"
        refine ⟨sm2, m, _, _, rfl, ?_, by omega⟩
        rw [hm, if_neg, List.nil_append]
        rintro (z | z | z)
        · exact h1' (.inl z)
        · exact h1' (.inr z)
        · exact z (cut1.mp h2)
  · obtain ⟨sm, m, v, u, rfl, hm, hml⟩ := p
    repeat walk_at "w"
    rw [List.drop_length] at hm
    have e : flatF l = m := by rw [hm]; simp [flatF]
    rw [← e]
    exact q _ sm
theorem pure_some (T : Tx K mg) (vs : List V) (H : Hp) (Q : VK) (E : XK) (h : spSome vs H Q E) : t_some K { nx := fun _ H' => Q .non H', rt := Q } (start N_some vs) H := by
  obtain ⟨st, c, rfl, hst, q⟩ := h
  rw [start_some]
  unfold t_some
  repeat walk_at "w"
  intro p hp
  have s1 : StC (upd H p (.lst [.int 2, .int 2, .int 1, .int 3, .int 4])) st c := hst.same (Same.new hp)
  repeat walk_at "w"
  refine ⟨st, c, 5, rfl, by omega, by omega, s1, fun r H1 r0 r1 f1 s1 => ?_⟩
  obtain ⟨k, rfl⟩ := Int.eq_ofNat_of_zero_le r0
  have hl := f1 p _ (by simpa using (hst.ne1 hp).symm) upd_same
  have f2 : L2.Fr [st] H H1 := (Fr.of (Same.new hp)).trans f1
  have fin : ∀ m : Nat, 1 ≤ m → m ≤ 4 → spAlpha [.ref st, .int (m : Nat)] H1 Q E0 := fun m h1 h2 => ⟨st, c, m, rfl, s1, h1, h2, fun L H' g _ f s => q L H' g (f2.trans f) s⟩
  have hk : k = 0 ∨ k = 1 ∨ k = 2 ∨ k = 3 ∨ k = 4 := by omega
  rcases hk with rfl | rfl | rfl | rfl | rfl
  · refine w_ixL (SqL.of hl) rfl ?_
    repeat walk_at "w"
    exact fin 2 (by omega) (by omega)
  · refine w_ixL (SqL.of hl) rfl ?_
    repeat walk_at "w"
    exact fin 2 (by omega) (by omega)
  · refine w_ixL (SqL.of hl) rfl ?_
    repeat walk_at "w"
    exact fin 1 (by omega) (by omega)
  · refine w_ixL (SqL.of hl) rfl ?_
    repeat walk_at "w"
    exact fin 3 (by omega) (by omega)
  · refine w_ixL (SqL.of hl) rfl ?_
    repeat walk_at "w"
    exact fin 4 (by omega) (by omega)
theorem pure_raised (T : Tx K mg) (a : Addr) (cls : Value) (d : Option Addr) (vs : List V) (H : Hp) (Q : VK) (E : XK) (h : spRaised K a cls d vs H Q E) : t_raised K a cls d { nx := fun _ H' => Q .non H', rt := Q } (start N_raised vs) H := by
  obtain ⟨rfl, h⟩ := h
  have X := exF T
  have hc1 : ∀ u, RelV (.ref (ga K "BadTree")) u → u = .ref (ga K "BadTree") := fun u r => r
  have hc2 : ∀ u, RelV (.ref (ga K "TooMany")) u → u = .ref (ga K "TooMany") := fun u r => r
  have hc3 : ∀ u, RelV (.ref (ga K "BadLetters")) u → u = .ref (ga K "BadLetters") := fun u r => r
  rw [start_raised]
  unfold t_raised
  rcases h with ⟨dd, k, rfl, hd, rfl, q⟩ | ⟨rfl, rfl, q⟩
  · repeat walk_at "z"
    refine ⟨ga K "BadTree", _, _, true, rfl, rfl, exc_BadTree T, .inr ⟨dd, _, rfl, hd⟩, hc1, X.k_BadTree_BadTree, ?_⟩
    repeat walk_at "z"
    refine w_xf ?_
    repeat walk_at "z"
    refine ⟨rfl, rfl, dd, _, _, rfl, hd, rfl, ?_⟩
    repeat walk_at "z"
    intro p hp
    exact q p _ (Same.new hp) upd_same
  · repeat walk_at "z"
    refine ⟨ga K "BadLetters", _, _, false, rfl, rfl, exc_BadLetters T, .inl rfl, hc1, X.k_BadLetters_BadTree, ?_⟩
    repeat walk_at "z"
    refine ⟨ga K "BadLetters", _, _, false, rfl, rfl, exc_BadLetters T, .inl rfl, hc2, X.k_BadLetters_TooMany, ?_⟩
    repeat walk_at "z"
    refine ⟨ga K "BadLetters", _, _, true, rfl, rfl, exc_BadLetters T, .inl rfl, hc3, X.k_BadLetters_BadLetters, ?_⟩
    repeat walk_at "z"
    intro p hp
    exact q p _ (Same.new hp) upd_same
theorem pure_readt (T : Tx K mg) (vs : List V) (H : Hp) (Q : VK) (E : XK) (h : spReadT K vs H Q E) : t_readt K { nx := fun _ H' => Q .non H', rt := Q } (start N_readt vs) H := by
  obtain ⟨L, i, l, rfl, hL, hi, hi1, hl, q⟩ := h
  have X := exF T
  rw [start_readt]
  unfold t_readt
  repeat walk_at "w"
  show tb_readt K _ _ _ _
  unfold tb_readt
  repeat walk_at "w"
  refine w_callS ?_
  repeat walk_at "w"
  have hc1 : ∀ u, RelV (.ref (ga K "BadWord")) u → u = .ref (ga K "BadWord") := fun u r => r
  refine ⟨L, i, l, rfl, hL, hi, hi1, hl, fun nG => ?_, fun g k hb H' d sm hd => ?_, fun g ha k hw H' d sm hd => ?_, fun g ha hw H' sm => ?_⟩
  · refine ⟨true, X.e_BadLetters, fun _ a ha => ?_, fun z => by cases z⟩
    unfold ts_readt
    dsimp only [List.set_cons_zero, List.set_cons_succ]
    repeat walk_at "z"
    refine ⟨ga K "BadLetters", _, _, false, rfl, rfl, exc_BadLetters T, .inl rfl, hc1, X.k_BadLetters_BadWord, ?_⟩
    repeat walk_at "z"
    refine w_callP ?_
    repeat walk_at "z"
    exact ⟨rfl, .inr ⟨rfl, rfl, fun p H' sm hp => q H' p _ sm (.inl ⟨nG, rfl⟩) hp⟩⟩
  · refine ⟨true, X.e_BadWord, fun _ a ha => ?_, fun z => by cases z⟩
    unfold ts_readt
    dsimp only [List.set_cons_zero, List.set_cons_succ]
    repeat walk_at "z"
    refine ⟨ga K "BadWord", _, _, true, rfl, rfl, exc_BadWord T, .inr ⟨d, _, rfl, hd⟩, hc1, X.k_BadWord_BadWord, ?_⟩
    repeat walk_at "z"
    refine w_xf ?_
    repeat walk_at "z"
    refine ⟨rfl, rfl, d, _, _, rfl, hd, rfl, ?_⟩
    repeat walk_at "z"
    refine w_xf ?_
    repeat walk_at "z"
    refine ⟨rfl, rfl, d, _, _, rfl, hd, rfl, ?_⟩
    repeat walk_at "z"
    intro p hp
    exact q _ p _ (sm.trans (Same.new hp)) (.inr (.inl ⟨g, k, hb, rfl⟩)) upd_same
  · refine ⟨true, X.e_BadTree, fun _ a _ => ?_, fun z => by cases z⟩
    unfold ts_readt
    dsimp only [List.set_cons_zero, List.set_cons_succ]
    repeat walk_at "z"
    refine ⟨ga K "BadTree", _, _, false, rfl, rfl, exc_BadTree T, .inr ⟨d, _, rfl, hd⟩, hc1, X.k_BadTree_BadWord, ?_⟩
    repeat walk_at "z"
    refine w_callP ?_
    repeat walk_at "z"
    exact ⟨rfl, .inl ⟨d, k, rfl, hd, rfl, fun p H2 sm2 hp => q H2 p _ (sm.trans sm2) (.inr (.inr (.inl ⟨g, ha, k, hw, rfl⟩))) hp⟩⟩
  · repeat walk_at "z"
    intro p hp
    exact q _ p _ (sm.trans (Same.new hp)) (.inr (.inr (.inr ⟨g, ha, hw, rfl⟩))) upd_same
theorem ReadOf.ok {L : List Nat} {x : Nat} (h : x ∈ L) : AllIn L [x] := fun c hc => by rw [List.mem_singleton.mp hc]; exact h
theorem ReadOf.nb {L i : List Nat} {k : Nat} (h : AllIn L i) (b : BadAt L i k) : False := by
  obtain ⟨⟨c, hc, hn⟩, _⟩ := b
  exact hn (h c (List.mem_of_getElem? hc))
theorem ReadOf.tree {L i l : List Nat} {xs : List V} {k : Nat} (h : ReadOf L i l xs) (g : GoodL L) (ha : AllIn L i) (hw : wrun L [0] l 0 = some k) : xs = [.str "tree", .int (k : Nat)] := by
  rcases h with ⟨n, _⟩ | ⟨_, k', b, _⟩ | ⟨_, _, k', hw', e⟩ | ⟨_, _, hw', _⟩
  · exact absurd g n
  · exact (ReadOf.nb ha b).elim
  · rw [hw] at hw'
    cases hw'
    exact e
  · rw [hw] at hw'
    cases hw'
theorem ReadOf.read {L i l : List Nat} {xs : List V} (h : ReadOf L i l xs) (g : GoodL L) (ha : AllIn L i) (hw : wrun L [0] l 0 = none) : xs = [.str "read", .str (tx (rpF i l))] := by
  rcases h with ⟨n, _⟩ | ⟨_, k', b, _⟩ | ⟨_, _, k', hw', e⟩ | ⟨_, _, hw', e⟩
  · exact absurd g n
  · exact (ReadOf.nb ha b).elim
  · rw [hw] at hw'
    cases hw'
  · exact e
theorem ReadOf.bad {L i l : List Nat} {xs : List V} (h : ReadOf L i l xs) (n : ¬ GoodL L) : xs = [.str "letters"] := by
  rcases h with ⟨_, e⟩ | ⟨g, _⟩ | ⟨g, _⟩ | ⟨g, _⟩
  · exact e
  · exact absurd g n
  · exact absurd g n
  · exact absurd g n
theorem ReadOf.word {L l : List Nat} {x : Nat} {xs : List V} (h : ReadOf L [x] l xs) (g : GoodL L) (hx : x ∉ L) : xs = [.str "word", .str (tx [x]), .int 0] := by
  rcases h with ⟨n, _⟩ | ⟨_, k, ⟨⟨c, hc, hn⟩, _⟩, e⟩ | ⟨_, ha, _⟩ | ⟨_, ha, _⟩
  · exact absurd g n
  · have : k < 1 := (List.getElem?_eq_some_iff.mp hc).1
    rw [e, show k = 0 by omega]
    rfl
  · exact absurd (ha x (List.mem_singleton.mpr rfl)) hx
  · exact absurd (ha x (List.mem_singleton.mpr rfl)) hx
theorem okT_rp {x : Nat} {l : List Nat} (hx : x < 1114112) (h : OkT l) : OkT (rpF [x] l) := fun c hc => by
  unfold rpF at hc
  obtain ⟨d, hd, hc⟩ := List.mem_flatMap.mp hc
  split at hc
  · rcases List.mem_append.mp hc with a | a
    · rw [List.mem_singleton.mp a]; exact hx
    · rw [List.mem_singleton.mp a]; decide
  · rw [List.mem_singleton.mp hc]
    exact h d hd
theorem rp_len {x : Nat} : ∀ l : List Nat, (rpF [x] l).length ≤ 2 * l.length
  | [] => Nat.le_refl _
  | c :: r => by
    have ih := rp_len (x := x) r
    unfold rpF at ih ⊢
    rw [List.flatMap_cons, List.length_append, List.length_cons]
    split
    · simp only [List.length_append, List.length_singleton]; omega
    · simp only [List.length_singleton]; omega
theorem ok_word {s : Str} (h : PyData.strOk s = true) : atOk (.str s) := h
theorem pure_onet (T : Tx K mg) (vs : List V) (H : Hp) (Q : VK) (E : XK) (h : spOneT K vs H Q E) : t_onet K { nx := fun _ H' => Q .non H', rt := Q } (start N_onet vs) H := by
  obtain ⟨L, x, l, rfl, g, hx, hl, ok, q⟩ := h
  have gl := g.2.1
  have gx := g.2.2.1 x hx
  rw [start_onet]
  unfold t_onet
  rw [open_tx]
  repeat walk_at "w"
  refine ⟨L, l, rfl, by omega, hl, fun H1 s1 => ?_⟩
  repeat walk_at "w"
  refine ⟨L, [x], l, rfl, by omega, by simp, by simp, hl, fun H2 p xs s2 hr hp => ?_⟩
  repeat walk_at "w"
  rcases hw : wrun L [0] l 0 with _ | k
  · have e := hr.read g (ReadOf.ok hx) hw
    subst e
    unfold wrI
    repeat walk_at "z"
    refine w_replC (by simp) hl (by simp) ?_
    rw [repl_in]
    repeat walk_at "z"
    intro p2 hp2
    have hp' := (Same.new (o := .tup [.str "read", .str (tx (rpF [x] l))]) hp2) _ _ hp
    refine w_eqDT (SqT.of hp') (SqT.of upd_same) (fun v hv => ?_) ?_
    · simp only [List.mem_cons, List.not_mem_nil, or_false] at hv
      rcases hv with rfl | rfl
      · exact ok_word (by decide +kernel)
      · exact atOk_tx (okT_rp (by omega) ok)
    repeat walk_at "z"
    have hl2 := rp_len (x := x) l
    refine ⟨rpF [x] l, rfl, by omega, fun H3 s3 => ?_⟩
    repeat walk_at "z"
    rw [flat_rp (by omega) (by omega)]
    exact ⟨l, rfl, q _ (((s1.trans s2).trans (Same.new hp2)).trans s3)⟩
  · have e := hr.tree g (ReadOf.ok hx) hw
    subst e
    unfold wrI
    repeat walk_at "z"
    intro p2 hp2
    have hp' := (Same.new (o := .tup [.str "tree", .int (k : Nat)]) hp2) _ _ hp
    refine w_eqDT (SqT.of hp') (SqT.of upd_same) (fun v hv => ?_) (q _ ((s1.trans s2).trans (Same.new hp2)))
    simp only [List.mem_cons, List.not_mem_nil, or_false] at hv
    rcases hv with rfl | rfl
    · exact ok_word (by decide +kernel)
    · exact trivial
theorem flat_mem : ∀ (l : List Nat) (c : Nat), c ∈ flatF l → c ∈ l
  | [], _, h => h
  | a :: r, c, h => by
    unfold flatF at h
    rcases List.mem_append.mp h with h | h
    · split at h
      · rw [List.mem_singleton.mp h]; exact List.mem_cons_self
      · cases h
    · exact List.mem_cons_of_mem _ (flat_mem r c h)
theorem flat_len : ∀ l : List Nat, (flatF l).length ≤ l.length
  | [] => Nat.le_refl _
  | a :: r => by
    have ih := flat_len r
    unfold flatF
    rw [List.length_append, List.length_cons]
    split
    · simp only [List.length_singleton]; omega
    · simp only [List.length_nil]; omega
theorem bone_mem (x : Nat) : ∀ (l : List Nat) (c : Nat), c ∈ boneF x l → c = x ∨ c ∈ l
  | [], _, h => .inr h
  | a :: r, c, h => by
    unfold boneF at h
    rcases List.mem_cons.mp h with h | h
    · split at h
      · exact .inl h
      · rw [h]; exact .inr List.mem_cons_self
    · exact (bone_mem x r c h).imp id (List.mem_cons_of_mem _)
theorem bone_len (x : Nat) : ∀ l : List Nat, (boneF x l).length = l.length
  | [] => rfl
  | a :: r => by
    unfold boneF
    rw [List.length_cons, List.length_cons, bone_len x r]
theorem okT_tt {L : List Nat} {T : Tr} (g : GoodL L) (h : WT L T) : OkT (tt T) := fun c hc => by
  rcases tt_mem h c hc with h | rfl | rfl
  · have := g.2.2.1 c h
    omega
  · decide
  · decide
theorem dash_tx : ("-" : Str) = tx [45] := by decide +kernel
theorem pure_one (T : Tx K mg) (vs : List V) (H : Hp) (Q : VK) (E : XK) (h : spOne K vs H Q E) : t_one K { nx := fun _ H' => Q .non H', rt := Q } (start N_one vs) H := by
  obtain ⟨st, cc, L, B, rfl, hst, g, wt, hsz, q⟩ := h
  have gl := g.1
  have gl4 := g.2.1
  have nb := g.noBr
  have htl : (tt B).length ≤ 1800 := by
    have := tt_len B
    omega
  have okt := okT_tt g wt
  have okL : OkT L := fun c hc => by have := g.2.2.1 c hc; omega
  rw [start_one]
  unfold t_one
  rw [dash_tx]
  repeat walk_at "w"
  refine ⟨st, cc, _, rfl, by omega, by omega, hst, fun r H1 r0 r1 f1 s1 => ?_⟩
  obtain ⟨k, rfl⟩ := Int.eq_ofNat_of_zero_le r0
  have hk : L[k]? = some (L.getD k 0) := by
    rw [List.getD_eq_getElem?_getD, List.getElem?_eq_getElem (by omega)]
    rfl
  generalize L.getD k 0 = x at hk
  have hx := List.mem_of_getElem? hk
  have gx := g.2.2.1 x hx
  have efl := flat_tt0 nb wt
  have ebn := bone_tt0 nb x wt
  have okF : OkT (flatF (tt B)) := fun c hc => okt c (flat_mem _ c hc)
  have okB : OkT (boneF x (tt B)) := fun c hc => (bone_mem x _ c hc).elim (fun e => by omega) (okt c)
  have hfl := flat_len (tt B)
  have hbl := bone_len x (tt B)
  repeat walk_at "w"
  refine ⟨tt B, rfl, by omega, fun H2 s2 => ?_⟩
  have f2 := f1.trans (Fr.of s2)
  repeat walk_at "w"
  refine ⟨tt B, x, rfl, by omega, ?_⟩
  repeat walk_at "w"
  refine ⟨tt B, rfl, by omega, fun H3 s3 => ?_⟩
  have f3 := f2.trans (Fr.of s3)
  repeat walk_at "w"
  refine ⟨flatF (tt B), rfl, ?_⟩
  repeat walk_at "z"
  refine ⟨L, B, x, rfl, ⟨nb, wt, by omega⟩, fun H4 s4 => ?_⟩
  have f4 := f3.trans (Fr.of s4)
  repeat walk_at "z"
  refine ⟨boneF x (tt B), rfl, ?_⟩
  repeat walk_at "z"
  refine ⟨L, [x], flatF (tt B), rfl, by omega, by simp, by simp, by omega, fun H5 p xs s5 hr hp => ?_⟩
  have f5 := f4.trans (Fr.of s5)
  have er := hr.read g (ReadOf.ok hx) (by rw [efl]; exact wrun_ok nb wt)
  rw [efl, rp_ft nb x B wt, ← ebn] at er
  subst er
  repeat walk_at "z"
  intro p2 hp2
  have hp' := (Same.new (o := .tup [.str "read", .str (tx (boneF x (tt B)))]) hp2) _ _ hp
  refine w_neDT (SqT.of hp') (SqT.of upd_same) (fun v hv => ?_) ?_
  · simp only [List.mem_cons, List.not_mem_nil, or_false] at hv
    rcases hv with rfl | rfl
    · exact ok_word (by decide +kernel)
    · exact atOk_tx okB
  have f6 := f5.trans (Fr.of (Same.new (o := .tup [.str "read", .str (tx (boneF x (tt B)))]) hp2))
  have s6 : StC (upd H5 p2 (.tup [.str "read", .str (tx (boneF x (tt B)))])) st cc := ((((s1.same s2).same s3).same s4).same s5).same (Same.new hp2)
  generalize upd H5 p2 (.tup [.str "read", .str (tx (boneF x (tt B)))]) = H6 at f6 s6
  repeat walk_at "z"
  refine ⟨st, cc, _, rfl, by omega, by omega, s6, fun r H7 r0 r1 f7 s7 => ?_⟩
  obtain ⟨n, rfl⟩ := Int.eq_ofNat_of_zero_le r0
  have f7 := f6.trans f7
  repeat walk_at "z"
  refine ⟨by omega, by omega, ?_⟩
  rw [show ((1 : Int) + n).toNat = 1 + n by omega]
  refine forR (fun i σ H' => ∃ (m : List Nat) (v : Option V), σ = [some (.ref st), some (.str (tx L)), some (.str (tx (tt B))), some (.str (tx [x])), some (.str (tx (flatF (tt B)))), some (.str (tx (boneF x (tt B)))), some (.str (tx m)), v] ∧ L2.Fr [st] H H' ∧ StC H' st cc ∧ m.length ≤ 1800 + i ∧ OkT m)
    ⟨flatF (tt B), _, rfl, f7, s7, by omega, okF⟩ (fun i σ H' hi p => ?_) (fun σ H' p => ?_)
  · obtain ⟨m, v, rfl, f8, s8, hm, okm⟩ := p
    repeat walk_at "z"
    refine ⟨st, cc, L, m, rfl, s8, by omega, okL, by omega, okm, fun m' H9 hm' ok' f9 s9 => ?_⟩
    repeat walk_at "z"
    exact ⟨m', _, rfl, f8.trans f9, s9, by omega, ok'⟩
  · obtain ⟨m, v, rfl, f8, s8, hm, okm⟩ := p
    repeat walk_at "z"
    refine ⟨L, x, flatF (tt B), rfl, g, hx, by omega, okF, fun H9 s9 => ?_⟩
    repeat walk_at "z"
    refine ⟨L, x, m, rfl, g, hx, by omega, okm, fun H10 s10 => ?_⟩
    repeat walk_at "z"
    refine ⟨L, [45], m, rfl, by omega, by simp, by simp, by omega, fun H11 p xs s11 hr hp => ?_⟩
    have er := hr.word g (fun z => by have := g.2.2.1 45 z; omega)
    subst er
    repeat walk_at "z"
    intro p2 hp2
    have hp' := (Same.new (o := .tup [.str "word", .str (tx [45]), .int 0]) hp2) _ _ hp
    refine w_neDT (SqT.of hp') (SqT.of upd_same) (fun v hv => ?_) ?_
    · simp only [List.mem_cons, List.not_mem_nil, or_false] at hv
      rcases hv with rfl | rfl | rfl
      · exact ok_word (by decide +kernel)
      · exact atOk_tx (okT_one (by omega))
      · exact trivial
    have f12 := f8.trans (Fr.of ((((s9.trans s10).trans s11)).trans (Same.new (o := .tup [.str "word", .str (tx [45]), .int 0]) hp2)))
    have s12 : StC (upd H11 p2 (.tup [.str "word", .str (tx [45]), .int 0])) st cc := (((s8.same s9).same s10).same s11).same (Same.new hp2)
    generalize upd H11 p2 (.tup [.str "word", .str (tx [45]), .int 0]) = H12 at f12 s12
    repeat walk_at "z"
    refine ⟨st, cc, L, rfl, s12, g, fun b H13 nG hb f13 s13 => ?_⟩
    repeat walk_at "z"
    refine ⟨b, [45], m, rfl, by omega, by simp, by simp, by omega, fun H14 p xs s14 hr hp => ?_⟩
    have er := hr.bad nG
    subst er
    repeat walk_at "z"
    intro p3 hp3
    have hp' := (Same.new (o := .tup [.str "letters"]) hp3) _ _ hp
    refine w_eqDT (SqT.of hp') (SqT.of upd_same) (fun v hv => ?_) ?_
    · simp only [List.mem_cons, List.not_mem_nil, or_false] at hv
      rw [hv]
      exact ok_word (by decide +kernel)
    exact q _ ((f12.trans f13).trans (Fr.of (s14.trans (Same.new hp3)))) ((s13.same s14).same (Same.new hp3))
theorem w_ixXneg {l : List Nat} {c : Nat} {H : Hp} {Q : VK} (h : l.length ≤ 1000000) (hc : l.getLast? = some c) (q : Q (.str (tx [c])) H) : rIxS (.str (tx l)) (.int (-1)) H Q := by
  refine w_ixS (by rw [tx_len]; exact sz_le h) ?_ q
  rw [tx_list]
  rw [List.getLast?_eq_getElem?] at hc
  have hp := (List.getElem?_eq_some_iff.mp hc).1
  have e1 : ixN l.length (-1) = some (l.length - 1) := by
    unfold ixN
    rw [if_neg (by omega), if_pos (by omega)]
    congr 1
    omega
  unfold atI
  rw [e1]
  exact hc
theorem c1_tx : ("()" : Str) = tx [40, 41] := by decide +kernel
theorem c2_tx : ("((" : Str) = tx [40, 40] := by decide +kernel
theorem c3_tx : ("))" : Str) = tx [41, 41] := by decide +kernel
theorem c4_tx : (")(" : Str) = tx [41, 40] := by decide +kernel
theorem c5_tx : ("((((" : Str) = tx [40, 40, 40, 40] := by decide +kernel
theorem c6_tx : ("))))" : Str) = tx [41, 41, 41, 41] := by decide +kernel
theorem c7_tx : ("(A)" : Str) = tx [40, 65, 41] := by decide +kernel
def ltx (x y : Nat) : List (List Nat) := [[], [40], [41], [40, 41], [x], [x] ++ [y], [40] ++ [x], [40] ++ [x, x, x] ++ [41], [40] ++ [y, y, y, y] ++ [41], [40, 40] ++ [x] ++ [41], [40] ++ [x] ++ [41, 41]]
def ltx2 (x y : Nat) : List (List Nat) := [[40] ++ [x] ++ [41] ++ [y], [40] ++ [x] ++ [41, 40] ++ [y] ++ [41], [x] ++ [40] ++ [y] ++ [41], [40, 40, 40, 40] ++ [x] ++ [41, 41, 41, 41], [40, 65, 41]]
theorem ltx_ok {x y : Nat} (hx : x < 1000) (hy : y < 1000) : ∀ w ∈ ltx x y ++ ltx2 x y, w.length ≤ 2000 ∧ OkT w := fun w hw => by
  have one : ∀ c : Nat, c ∈ w → c = 40 ∨ c = 41 ∨ c = 65 ∨ c = x ∨ c = y := by
    simp only [ltx, ltx2, List.mem_append, List.mem_cons, List.not_mem_nil, or_false] at hw
    rcases hw with (rfl | rfl | rfl | rfl | rfl | rfl | rfl | rfl | rfl | rfl | rfl) | (rfl | rfl | rfl | rfl | rfl) <;> intro c hc <;> simp at hc <;> omega
  refine ⟨?_, fun c hc => by have := one c hc; omega⟩
  simp only [ltx, ltx2, List.mem_append, List.mem_cons, List.not_mem_nil, or_false] at hw
  rcases hw with (rfl | rfl | rfl | rfl | rfl | rfl | rfl | rfl | rfl | rfl | rfl) | (rfl | rfl | rfl | rfl | rfl) <;> simp
theorem pure_law (T : Tx K mg) (vs : List V) (H : Hp) (Q : VK) (E : XK) (h : spLaw K vs H Q E) : t_law K { nx := fun _ H' => Q .non H', rt := Q } (start N_law vs) H := by
  obtain ⟨a, ns, rfl, hS, hl, q⟩ := h
  rw [start_law]
  unfold t_law
  rw [c1_tx, c2_tx, c3_tx, c4_tx, c5_tx, c6_tx, c7_tx, open_tx, shut_tx, empty_tx]
  repeat walk_at "w"
  refine ⟨a, ns, rfl, hS, hl, fun H1 st sm0 hn0 hst0 => ?_⟩
  obtain ⟨cc, s1⟩ := hst0.c
  repeat walk_at "w"
  refine ⟨st, cc, rfl, s1, fun L H2 g f2 s2 => ?_⟩
  have gl := g.1
  have gl4 := g.2.1
  repeat walk_at "w"
  refine ⟨st, cc, _, rfl, by omega, by omega, s2, fun r H3 r0 r1 f3 s3 => ?_⟩
  obtain ⟨k, rfl⟩ := Int.eq_ofNat_of_zero_le r0
  have hk : L[k]? = some (L.getD k 0) := by
    rw [List.getD_eq_getElem?_getD, List.getElem?_eq_getElem (by omega)]
    rfl
  generalize L.getD k 0 = x at hk
  have hx := List.mem_of_getElem? hk
  have gx := g.2.2.1 x hx
  have hLne : L ≠ [] := fun e => by rw [e] at gl; exact absurd gl (by decide)
  obtain ⟨y, hy⟩ : ∃ y, L.getLast? = some y := ⟨_, List.getLast?_eq_some_getLast hLne⟩
  have gy := g.2.2.1 y (List.mem_of_getLast? hy)
  repeat walk_at "w"
  refine w_ixXneg (by omega) hy ?_
  repeat walk_at "w"
  refine w_mulX (n := 3) (by omega) (by simp) (by simp) (by omega) ?_
  rw [show (List.replicate 3 [x]).flatten = [x, x, x] from rfl]
  repeat walk_at "w"
  refine w_mulX (n := 4) (by omega) (by simp) (by simp) (by omega) ?_
  rw [show (List.replicate 4 [y]).flatten = [y, y, y, y] from rfl]
  repeat walk_at "w"
  intro p hp
  have m1 : Same H3 (upd H3 p (.lst ((ltx x y).map fun w => V.str (tx w)))) := Same.new hp
  repeat walk_at "w"
  intro p2 hp2
  have m2 := m1.trans (Same.new (o := .lst ((ltx2 x y).map fun w => V.str (tx w))) hp2)
  refine w_cat (xs := (ltx x y).map fun w => V.str (tx w)) (zs := (ltx2 x y).map fun w => V.str (tx w)) ((Same.new hp2) _ _ upd_same) upd_same (by simp [ltx, ltx2]) fun p3 hp3 => ?_
  have m3 := m2.trans (Same.new (o := .lst ((ltx x y ++ ltx2 x y).map fun w => V.str (tx w))) hp3)
  rw [← List.map_append]
  have c3 : upd (upd (upd H3 p (.lst ((ltx x y).map fun w => V.str (tx w)))) p2 (.lst ((ltx2 x y).map fun w => V.str (tx w)))) p3 (.lst ((ltx x y ++ ltx2 x y).map fun w => V.str (tx w))) p3 = some (.lst ((ltx x y ++ ltx2 x y).map fun w => V.str (tx w))) := upd_same
  have s4 : StC (upd (upd (upd H3 p (.lst ((ltx x y).map fun w => V.str (tx w)))) p2 (.lst ((ltx2 x y).map fun w => V.str (tx w)))) p3 (.lst ((ltx x y ++ ltx2 x y).map fun w => V.str (tx w)))) st cc := s3.same m3
  refine ⟨p3, rfl, ?_⟩
  refine ⟨⟨_, SqL.of c3⟩, ?_⟩
  have hok := ltx_ok (x := x) (y := y) (by omega) (by omega)
  refine forL (f := fun w => V.str (tx w)) (l := ltx x y ++ ltx2 x y) (fun i σ H' => ∃ v6 v7 v8 : Option V, σ = [some (.ref a), some (.ref st), some (.str (tx L)), some (.str (tx [x])), some (.str (tx [y])), some (.ref p), v6, v7, v8] ∧ Same (upd (upd (upd H3 p (.lst ((ltx x y).map fun w => V.str (tx w)))) p2 (.lst ((ltx2 x y).map fun w => V.str (tx w)))) p3 (.lst ((ltx x y ++ ltx2 x y).map fun w => V.str (tx w)))) H')
    ⟨none, none, none, rfl, Same.refl _⟩ (fun i σ H' p => ?_) (fun i w σ H' hw p => ?_) (fun σ H' p => ?_)
  · obtain ⟨_, _, _, _, sm⟩ := p
    exact SqL.of (sm _ _ c3)
  · obtain ⟨v6, v7, v8, rfl, sm⟩ := p
    obtain ⟨hw1, hw2⟩ := hok w (List.mem_of_getElem? hw)
    repeat walk_at "z"
    refine ⟨L, x, w, rfl, g, hx, hw1, hw2, fun H5 s5 => ?_⟩
    repeat walk_at "z"
    exact ⟨_, _, _, rfl, sm.trans s5⟩
  · obtain ⟨v6, v7, v8, rfl, sm⟩ := p
    have s5 := s4.same sm
    repeat walk_at "z"
    refine ⟨by decide, by decide, ?_⟩
    refine forR (fun i σ H' => ∃ v6 v7 v8 : Option V, σ = [some (.ref a), some (.ref st), some (.str (tx L)), some (.str (tx [x])), some (.str (tx [y])), some (.ref p), v6, v7, v8] ∧ StC H' st cc)
      ⟨_, _, _, rfl, s5⟩ (fun i σ H6 hi p => ?_) (fun σ H6 p => ?_)
    · obtain ⟨v6, v7, v8, rfl, s6⟩ := p
      repeat walk_at "w"
      refine ⟨st, cc, _, rfl, by omega, by omega, s6, fun r H7 r0 r1 f7 s7 => ?_⟩
      obtain ⟨n, rfl⟩ := Int.eq_ofNat_of_zero_le r0
      repeat walk_at "c"
      refine w_seqP (fun σ H' => ∃ m : Nat, 1 ≤ m ∧ m ≤ 50 ∧ σ = [some (.ref a), some (.ref st), some (.str (tx L)), some (.str (tx [x])), some (.str (tx [y])), some (.ref p), v6, some (.int (0 + (i : Int))), some (.int (m : Nat))] ∧ StC H' st cc) (fun U hU => ?_) (fun σ H8 p8 => ?_)
      · repeat walk_at "c"
        refine ⟨st, cc, _, rfl, by omega, by omega, s7, fun r H8 r0 r1 f8 s8 => ?_⟩
        repeat walk_at "c"
        refine w_iteD (fun h7 => ?_) (fun h7 => ?_)
        · repeat walk_at "c"
          refine ⟨st, cc, _, rfl, by omega, by omega, s8, fun r H9 r0 r1 f9 s9 => ?_⟩
          obtain ⟨z, rfl⟩ := Int.eq_ofNat_of_zero_le r0
          repeat walk_at "c"
          exact hU _ _ ⟨20 + z, by omega, by omega, by rw [show ((20 + z : Nat) : Int) = 20 + (z : Int) by omega], s9⟩
        · repeat walk_at "c"
          exact hU _ _ ⟨1 + n, by omega, by omega, by rw [show ((1 + n : Nat) : Int) = 1 + (n : Int) by omega], s8⟩
      · obtain ⟨m, h1, h50, rfl, s8⟩ := p8
        repeat walk_at "w"
        refine ⟨st, cc, L, m, rfl, s8, hLne, by omega, h1, by omega, fun B H9 wt sz f9 s9 => ?_⟩
        repeat walk_at "w"
        refine ⟨st, cc, L, B, rfl, s9, g, wt, by omega, fun H10 f10 s10 => ?_⟩
        repeat walk_at "z"
        exact ⟨_, _, _, rfl, s10⟩
    · obtain ⟨v6, v7, v8, rfl, s6⟩ := p
      repeat walk_at "w"
      exact q _
end
end K68
set_option maxHeartbeats 4000000
namespace K68
open PySem PySem.Spec PyProof.Rows L2 He
section
variable {w : World} {K : PySem.W.Frag} {mg : Str → Option Value} {base : Heap}
theorem sc_check_letters : FnScope N_check_letters ["letters"] (defScope s_check_letters) := ⟨rfl, rfl, rfl, by decide +kernel, rfl, by decide +kernel, by decide +kernel⟩
theorem ok_check_letters (T : Tx K mg) : ∃ fd, FunD K d_check_letters.name d_check_letters.qual d_check_letters.params d_check_letters.body d_check_letters.scope [] [] (fAd K d_check_letters.at_) fd ∧ FnOk PP w K mg base (L2.CX PP w) 2 (fAd K d_check_letters.at_) fd ["letters"] (spCL K) ∧ Binds K fd ["letters"] [] := by
  obtain ⟨fd, FF⟩ := T.df 0 (d := d_check_letters) rfl

  refine ⟨fd, FF, ?_, FF.bindsN fun _ _ _ _ _ _ us hl => match us, hl with | [_], _ => rfl⟩
  refine FunD.ok (k := 1) FF sc_check_letters (fun vs H Q E h => len_check_letters (K := K) h) (fun cdv A outer s H vs Q E hr h => ⟨t_dletters K E, ?_, pure_dletters vs H Q E h⟩)
  exact (pss_cons (ps_if (PW.pt (pw_or (pt_cmpR o_lt (pe_callB c_lenS (by rfl) (T.fr 0 "len" rfl) (by decide +kernel) (pa_cons (pv 0) pa_nil)) pe_int (nomark _)) (pw_or1 (pt_cmpR o_gt (pe_callB c_lenS (by rfl) (T.fr 0 "len" rfl) (by decide +kernel) (pa_cons (pv 0) pa_nil)) (pe_glob rfl (T.kI 1 "MOST_KINDS_OF_LETTERS" 4 rfl).choose_spec ⟨_, rfl⟩) (nomark _))))) (pss_one (ps_raise rfl (takes_of rfl rfl rfl rfl) (T.pk0 2 3 "BadLetters" rfl rfl))) pss_nil)
      (pss_cons (ps_set (i := 1) sc_check_letters.nd rfl (Or.inl rfl) pe_str)
      (pss_one (ps_for (passes_of rfl) rfl (pi_str (pv 0)) (pg_name (i := 2) sc_check_letters.nd rfl (Or.inl rfl)) (pss_cons (ps_if (PW.pt (pw_or (pt_cmpR o_ninS (pv 2) (pe_glob rfl (T.kS 4 "SMALL" "abcdefghijklmnopqrstuvwxyz" rfl).choose_spec ⟨_, rfl⟩) (by rfl)) (pw_or1 (pt_cmpR o_leS (pv 2) (pv 1) (nomark _))))) (pss_one (ps_raise rfl (takes_of rfl rfl rfl rfl) (T.pk0 2 3 "BadLetters" rfl rfl))) pss_nil)
      (pss_one (ps_set (i := 1) sc_check_letters.nd rfl (Or.inl rfl) (pv 2))))))))

theorem sc_check_word : FnScope N_check_word ["letters", "word"] (defScope s_check_word) := ⟨rfl, rfl, rfl, by decide +kernel, rfl, by decide +kernel, by decide +kernel⟩
theorem ok_check_word (T : Tx K mg) : ∃ fd, FunD K d_check_word.name d_check_word.qual d_check_word.params d_check_word.body d_check_word.scope [] [] (fAd K d_check_word.at_) fd ∧ FnOk PP w K mg base (L2.CX PP w) 2 (fAd K d_check_word.at_) fd ["letters", "word"] (spCW K) ∧ Binds K fd ["letters", "word"] [] := by
  obtain ⟨fd, FF⟩ := T.df 1 (d := d_check_word) rfl

  refine ⟨fd, FF, ?_, FF.bindsN fun _ _ _ _ _ _ us hl => match us, hl with | [_, _], _ => rfl⟩
  refine FunD.ok (k := 1) FF sc_check_word (fun vs H Q E h => len_check_word (K := K) h) (fun cdv A outer s H vs Q E hr h => ⟨t_dword K E, ?_, pure_dword vs H Q E h⟩)
  exact (pss_one (ps_for (passes_of rfl) rfl (pi_enumS rfl (T.fr 5 "enumerate" rfl) (pa_cons (pv 1) pa_nil)) (pg_tup rfl (pgs_cons (pg_name (i := 2) sc_check_word.nd rfl (Or.inl rfl)) (pgs_cons (pg_name (i := 3) sc_check_word.nd rfl (Or.inl rfl)) pgs_nil))) (pss_one (ps_if (pt_cmpR o_ninS (pv 3) (pv 0) (by rfl)) (pss_one (ps_raise rfl (takes_of rfl rfl rfl rfl) (pmk_two (T.ini 0 (d := i_BadWord) rfl).1 (T.ini 0 (d := i_BadWord) rfl).2 sh_BadWord nm_BadWord (T.fr 8 "super" rfl) (any_of T) top_super (T.na 6 "BadWord" "word" rfl) (T.na 7 "BadWord" "place" rfl) (by decide) hr (T.gl 9 "BadWord" rfl) (pa_cons (pv 1) (pa_cons (pv 2) pa_nil))))) pss_nil))))

theorem sc_spans : FnScope N_spans ["tree"] (defScope s_spans) := ⟨rfl, rfl, rfl, by decide +kernel, rfl, by decide +kernel, by decide +kernel⟩
theorem ok_spans (T : Tx K mg) : ∃ fd, FunD K d_spans.name d_spans.qual d_spans.params d_spans.body d_spans.scope [] [] (fAd K d_spans.at_) fd ∧ FnOk PP w K mg base CX0 1 (fAd K d_spans.at_) fd ["tree"] spSpans ∧ Binds K fd ["tree"] [] := by
  obtain ⟨fd, FF⟩ := T.df 2 (d := d_spans) rfl

  refine ⟨fd, FF, ?_, FF.bindsN fun _ _ _ _ _ _ us hl => match us, hl with | [_], _ => rfl⟩
  refine FunD.ok (k := 0) FF sc_spans (fun vs H Q E h => len_spans (K := K) h) (fun cdv A outer s H vs Q E hr h => ⟨t_dspans K, PSs.nox (?_), pure_dspans vs H Q E h⟩)
  exact (pss_cons (ps_set (i := 1) sc_spans.nd rfl (Or.inl rfl) (pe_lst pa_nil))
      (pss_cons (ps_set (i := 2) sc_spans.nd rfl (Or.inl rfl) (pe_lst pa_nil))
      (pss_cons (ps_set (i := 3) sc_spans.nd rfl (Or.inl rfl) (pe_lst pa_nil))
      (pss_cons (ps_for PassesOwn.never rfl (pi_enumS rfl (T.fr 5 "enumerate" rfl) (pa_cons (pv 0) pa_nil)) (pg_tup rfl (pgs_cons (pg_name (i := 4) sc_spans.nd rfl (Or.inl rfl)) (pgs_cons (pg_name (i := 5) sc_spans.nd rfl (Or.inl rfl)) pgs_nil))) (pss_one (ps_if (pt_cmpR o_eq (pv 5) pe_str (nomark _)) (pss_one (ps_expr (pe_bm PySem.F.plainAttrs_list PySem.F.slot_list_append PySem.F.type_list_append mt_append (pv 3) (pa_cons (pe_op o_sub (pe_callB c_lenQ (by rfl) (T.fr 0 "len" rfl) (by decide +kernel) (pa_cons (pv 1) pa_nil)) pe_int) pa_nil)))) (pss_one (ps_if (pt_cmpR o_eq (pv 5) pe_str (nomark _)) (pss_one (ps_asg (pe_op o_add (pv 4) pe_int) (pg_sub (pv 2) (pe_bm0 PySem.F.plainAttrs_list PySem.F.slot_list_pop PySem.F.type_list_pop mt_pop (pv 3)) set_list))) (pss_cons (ps_expr (pe_bm PySem.F.plainAttrs_list PySem.F.slot_list_append PySem.F.type_list_append mt_append (pv 1) (pa_cons (pv 4) pa_nil)))
      (pss_one (ps_expr (pe_bm PySem.F.plainAttrs_list PySem.F.slot_list_append PySem.F.type_list_append mt_append (pv 2) (pa_cons (pe_op o_add (pv 4) pe_int) pa_nil))))))))))
      (pss_one (ps_ret (pe_listZip rfl rfl (T.fr 10 "list" rfl) rfl (T.fr 11 "zip" rfl) (pa_cons (pv 1) (pa_cons (pv 2) pa_nil)))))))))

theorem sc_subtrees : FnScope N_subtrees ["tree"] (defScope s_subtrees) := ⟨rfl, rfl, rfl, by decide +kernel, rfl, by decide +kernel, by decide +kernel⟩
theorem ok_subtrees (T : Tx K mg) : ∃ fd, FunD K d_subtrees.name d_subtrees.qual d_subtrees.params d_subtrees.body d_subtrees.scope [] [] (fAd K d_subtrees.at_) fd ∧ FnOk PP w K mg base CX0 2 (fAd K d_subtrees.at_) fd ["tree"] spSubs ∧ Binds K fd ["tree"] [] := by
  obtain ⟨fd, FF⟩ := T.df 3 (d := d_subtrees) rfl
  obtain ⟨fd_spans, FF_spans, G_spans, b_spans⟩ := ok_spans (w := w) (base := base) T
  have k_spans := FF_spans.kp
  refine ⟨fd, FF, ?_, FF.bindsN fun _ _ _ _ _ _ us hl => match us, hl with | [_], _ => rfl⟩
  refine FunD.ok (k := 1) FF sc_subtrees (fun vs H Q E h => len_subtrees (K := K) h) (fun cdv A outer s H vs Q E hr h => ⟨t_dsubs K, PSs.nox (?_), pure_dsubs vs H Q E h⟩)
  exact (pss_one (ps_ret (pe_lc (own := [("start", 1), ("stop", 2)]) (g := (gTup K 2 (gCons (gName 1) (gCons (gName 2) gNil)))) (tt := tYes) rfl sc_subtrees.nd (pi_list (pe_call (E := E0) G_spans (hr.mono (by decide)) rfl (T.gl 12 "spans" rfl) k_spans b_spans .nil pass0 (pa_cons (pv 0) pa_nil))) (blkOk_by (N := N_subtrees) (sc := (defScope s_subtrees)) (by decide +kernel)) (fun _ _ _ _ _ => (pg_tup rfl (pgs_cons (pg_name (i := 1) sc_subtrees.nd rfl (Or.inl rfl)) (pgs_cons (pg_name (i := 2) sc_subtrees.nd rfl (Or.inl rfl)) pgs_nil)))) (fun _ _ _ _ _ => pts_nil) (fun _ _ _ _ _ => (pe_slice sl_str (pv 0) (po_some (pv 1)) (po_some (pv 2)))))))

theorem sc_kids_of : FnScope N_kids_of ["tree"] (defScope s_kids_of) := ⟨rfl, rfl, rfl, by decide +kernel, rfl, by decide +kernel, by decide +kernel⟩
theorem ok_kids_of (T : Tx K mg) : ∃ fd, FunD K d_kids_of.name d_kids_of.qual d_kids_of.params d_kids_of.body d_kids_of.scope [] [] (fAd K d_kids_of.at_) fd ∧ FnOk PP w K mg base CX0 2 (fAd K d_kids_of.at_) fd ["tree"] spKids ∧ Binds K fd ["tree"] [] := by
  obtain ⟨fd, FF⟩ := T.df 4 (d := d_kids_of) rfl
  obtain ⟨fd_spans, FF_spans, G_spans, b_spans⟩ := ok_spans (w := w) (base := base) T
  have k_spans := FF_spans.kp
  refine ⟨fd, FF, ?_, FF.bindsN fun _ _ _ _ _ _ us hl => match us, hl with | [_], _ => rfl⟩
  refine FunD.ok (k := 1) FF sc_kids_of (fun vs H Q E h => len_kids_of (K := K) h) (fun cdv A outer s H vs Q E hr h => ⟨t_dkids K, PSs.nox (?_), pure_dkids vs H Q E h⟩)
  exact (pss_cons (ps_setDc (i := 1) (own := [("start", 4), ("stop", 5)]) (g := (gTup K 2 (gCons (gName 4) (gCons (gName 5) gNil)))) (tt := tYes) rfl sc_kids_of.nd rfl rfl (swd_true rfl rfl rfl (by decide +kernel)) (pi_list (pe_call (E := E0) G_spans (hr.mono (by decide)) rfl (T.gl 12 "spans" rfl) k_spans b_spans .nil pass0 (pa_cons (pv 0) pa_nil))) (blkOk_by (N := N_kids_of) (sc := (defScope s_kids_of)) (by decide +kernel)) (fun _ _ _ _ _ => (pg_tup rfl (pgs_cons (pg_name (i := 4) sc_kids_of.nd rfl (Or.inl rfl)) (pgs_cons (pg_name (i := 5) sc_kids_of.nd rfl (Or.inl rfl)) pgs_nil)))) (fun _ _ _ _ _ => pts_nil) (fun _ _ _ _ _ => (pv 4)) (fun _ _ _ _ _ => (pv 5)))
      (pss_cons (ps_set (i := 2) sc_kids_of.nd rfl (Or.inl rfl) (pe_lst pa_nil))
      (pss_cons (ps_set (i := 3) sc_kids_of.nd rfl (Or.inl rfl) pe_int)
      (pss_cons (ps_while PassesOwn.never (pt_cmpR o_lt (pv 3) (pe_op o_sub (pe_callB c_lenS (by rfl) (T.fr 0 "len" rfl) (by decide +kernel) (pa_cons (pv 0) pa_nil)) pe_int) (nomark _)) (pss_cons (ps_expr (pe_bm PySem.F.plainAttrs_list PySem.F.slot_list_append PySem.F.type_list_append mt_append (pv 2) (pa_cons (pe_slice sl_str (pv 0) (po_some (pv 3)) (po_some (pe_dget (hu_of hr) (pv 1) (pv 3) (fun _ _ => rfl)))) pa_nil)))
      (pss_one (ps_set (i := 3) sc_kids_of.nd rfl (Or.inl rfl) (pe_dget (hu_of hr) (pv 1) (pv 3) (fun _ _ => rfl))))))
      (pss_one (ps_ret (pv 2)))))))

theorem sc_made_tree : FnScope N_made_tree ["letter", "kids"] (defScope s_made_tree) := ⟨rfl, rfl, rfl, by decide +kernel, rfl, by decide +kernel, by decide +kernel⟩
theorem ok_made_tree (T : Tx K mg) : ∃ fd, FunD K d_made_tree.name d_made_tree.qual d_made_tree.params d_made_tree.body d_made_tree.scope [] [] (fAd K d_made_tree.at_) fd ∧ FnOk PP w K mg base CX0 1 (fAd K d_made_tree.at_) fd ["letter", "kids"] (spMade K) ∧ Binds K fd ["letter", "kids"] [] := by
  obtain ⟨fd, FF⟩ := T.df 5 (d := d_made_tree) rfl

  refine ⟨fd, FF, ?_, FF.bindsN fun _ _ _ _ _ _ us hl => match us, hl with | [_, _], _ => rfl⟩
  refine FunD.ok (k := 0) FF sc_made_tree (fun vs H Q E h => len_made_tree (K := K) h) (fun cdv A outer s H vs Q E hr h => ⟨t_dmade K, PSs.nox (?_), pure_dmade vs H Q E h⟩)
  exact (pss_cons (ps_if (pt_cmpR o_eq (pe_callB c_lenQ (by rfl) (T.fr 0 "len" rfl) (by decide +kernel) (pa_cons (pv 1) pa_nil)) pe_int (nomark _)) (pss_one (ps_ret (pv 0))) pss_nil)
      (pss_one (ps_ret (pe_op o_addS (pe_op o_addS (pe_op o_addS (pv 0) pe_str) (pe_join pe_str (pv 1))) pe_str))))

theorem sc_bracketed : FnScope N_bracketed ["tree"] (defScope s_bracketed) := ⟨rfl, rfl, rfl, by decide +kernel, rfl, by decide +kernel, by decide +kernel⟩
theorem ok_bracketed (T : Tx K mg) : ∃ fd, FunD K d_bracketed.name d_bracketed.qual d_bracketed.params d_bracketed.body d_bracketed.scope [] [] (fAd K d_bracketed.at_) fd ∧ FnOk PP w K mg base CX0 1 (fAd K d_bracketed.at_) fd ["tree"] spFlat ∧ Binds K fd ["tree"] [] := by
  obtain ⟨fd, FF⟩ := T.df 6 (d := d_bracketed) rfl

  refine ⟨fd, FF, ?_, FF.bindsN fun _ _ _ _ _ _ us hl => match us, hl with | [_], _ => rfl⟩
  refine FunD.ok (k := 0) FF sc_bracketed (fun vs H Q E h => len_bracketed (K := K) h) (fun cdv A outer s H vs Q E hr h => ⟨t_bracketed K, PSs.nox (?_), pure_bracketed T vs H Q E h⟩)
  exact (pss_cons (ps_set (i := 1) sc_bracketed.nd rfl (Or.inl rfl) pe_str)
      (pss_cons (ps_for PassesOwn.never rfl (pi_enumS rfl (T.fr 5 "enumerate" rfl) (pa_cons (pv 0) pa_nil)) (pg_tup rfl (pgs_cons (pg_name (i := 2) sc_bracketed.nd rfl (Or.inl rfl)) (pgs_cons (pg_name (i := 3) sc_bracketed.nd rfl (Or.inl rfl)) pgs_nil))) (pss_one (ps_if (PW.pt (pw_or (pt_cmpR o_inS (pv 3) pe_str (by rfl)) (pw_or1 (pt_cmpR o_ne (pe_slice sl_str (pv 0) (po_some (pe_op o_add (pv 2) pe_int)) (po_some (pe_op o_add (pv 2) pe_int))) pe_str (nomark _))))) (pss_one (ps_set (i := 1) sc_bracketed.nd rfl (Or.inl rfl) (pe_op o_addS (pv 1) (pv 3)))) pss_nil)))
      (pss_one (ps_ret (pv 1)))))

theorem sc_skeleton : FnScope N_skeleton ["tree", "inner"] (defScope s_skeleton) := ⟨rfl, rfl, rfl, by decide +kernel, rfl, by decide +kernel, by decide +kernel⟩
theorem ok_skeleton (T : Tx K mg) : ∃ fd, FunD K d_skeleton.name d_skeleton.qual d_skeleton.params d_skeleton.body d_skeleton.scope [] [] (fAd K d_skeleton.at_) fd ∧ FnOk PP w K mg base CX0 3 (fAd K d_skeleton.at_) fd ["tree", "inner"] spSkel ∧ Binds K fd ["tree", "inner"] [] := by
  obtain ⟨fd, FF⟩ := T.df 7 (d := d_skeleton) rfl
  obtain ⟨fd_subtrees, FF_subtrees, G_subtrees, b_subtrees⟩ := ok_subtrees (w := w) (base := base) T
  have k_subtrees := FF_subtrees.kp
  obtain ⟨fd_kids_of, FF_kids_of, G_kids_of, b_kids_of⟩ := ok_kids_of (w := w) (base := base) T
  have k_kids_of := FF_kids_of.kp
  obtain ⟨fd_made_tree, FF_made_tree, G_made_tree, b_made_tree⟩ := ok_made_tree (w := w) (base := base) T
  have k_made_tree := FF_made_tree.kp
  refine ⟨fd, FF, ?_, FF.bindsN fun _ _ _ _ _ _ us hl => match us, hl with | [_, _], _ => rfl⟩
  refine FunD.ok (k := 2) FF sc_skeleton (fun vs H Q E h => len_skeleton (K := K) h) (fun cdv A outer s H vs Q E hr h => ⟨t_dskel K, PSs.nox (?_), pure_dskel vs H Q E h⟩)
  exact (pss_cons (ps_set (i := 2) sc_skeleton.nd rfl (Or.inr rfl) pe_dnewK)
      (pss_cons (ps_for PassesOwn.never rfl (pi_reversed rfl (T.fr 14 "reversed" rfl) (pa_cons (pe_call (E := E0) G_subtrees (hr.mono (by decide)) rfl (T.gl 13 "subtrees" rfl) k_subtrees b_subtrees .nil pass0 (pa_cons (pv 0) pa_nil)) pa_nil)) (pg_name (i := 3) sc_skeleton.nd rfl (Or.inl rfl)) (pss_cons (ps_setLc (i := 4) (own := [("kid", 5)]) (g := (gName 5)) (tt := tYes) rfl sc_skeleton.nd rfl rfl (sw_true rfl rfl rfl (by decide +kernel)) (pi_list (pe_call (E := E0) G_kids_of (hr.mono (by decide)) rfl (T.gl 15 "kids_of" rfl) k_kids_of b_kids_of .nil pass0 (pa_cons (pv 3) pa_nil))) (blkOk_by (N := N_skeleton) (sc := (defScope s_skeleton)) (by decide +kernel)) (fun _ _ _ _ _ => (pg_name (i := 5) sc_skeleton.nd rfl (Or.inl rfl))) (fun _ _ _ _ _ => pts_nil) (fun _ _ _ _ _ => (pe_dget (hu_of hr) (pv 2) (pv 5) (fun _ _ => rfl))))
      (pss_one (ps_dput (hu_of hr) (pv 2) (pv 3) (pe_ifExp (pt_cmpR o_gt (pe_callB c_lenQ (by rfl) (T.fr 0 "len" rfl) (by decide +kernel) (pa_cons (pv 4) pa_nil)) pe_int (nomark _)) (pe_call (E := E0) G_made_tree (hr.mono (by decide)) rfl (T.gl 16 "made_tree" rfl) k_made_tree b_made_tree .nil pass0 (pa_cons (pv 1) (pa_cons (pv 4) pa_nil))) (pv 3)) rfl))))
      (pss_one (ps_ret (pe_dget (hu_of hr) (pv 2) (pv 0) (fun _ _ => rfl))))))

theorem sc_first_wrong_bracket : FnScope N_first_wrong_bracket ["letters", "text"] (defScope s_first_wrong_bracket) := ⟨rfl, rfl, rfl, by decide +kernel, rfl, by decide +kernel, by decide +kernel⟩
theorem ok_first_wrong_bracket (T : Tx K mg) : ∃ fd, FunD K d_first_wrong_bracket.name d_first_wrong_bracket.qual d_first_wrong_bracket.params d_first_wrong_bracket.body d_first_wrong_bracket.scope [] [] (fAd K d_first_wrong_bracket.at_) fd ∧ FnOk PP w K mg base CX0 1 (fAd K d_first_wrong_bracket.at_) fd ["letters", "text"] spWrong ∧ Binds K fd ["letters", "text"] [] := by
  obtain ⟨fd, FF⟩ := T.df 8 (d := d_first_wrong_bracket) rfl

  refine ⟨fd, FF, ?_, FF.bindsN fun _ _ _ _ _ _ us hl => match us, hl with | [_, _], _ => rfl⟩
  refine FunD.ok (k := 0) FF sc_first_wrong_bracket (fun vs H Q E h => len_first_wrong_bracket (K := K) h) (fun cdv A outer s H vs Q E hr h => ⟨t_dfwb K, PSs.nox (?_), pure_dfwb vs H Q E h⟩)
  exact (pss_cons (ps_set (i := 2) sc_first_wrong_bracket.nd rfl (Or.inl rfl) (pe_lst (pa_cons pe_int pa_nil)))
      (pss_cons (ps_for PassesOwn.never rfl (pi_enumS rfl (T.fr 5 "enumerate" rfl) (pa_cons (pv 1) pa_nil)) (pg_tup rfl (pgs_cons (pg_name (i := 3) sc_first_wrong_bracket.nd rfl (Or.inl rfl)) (pgs_cons (pg_name (i := 4) sc_first_wrong_bracket.nd rfl (Or.inl rfl)) pgs_nil))) (pss_cons (ps_set (i := 5) sc_first_wrong_bracket.nd rfl (Or.inl rfl) (pe_op o_sub (pe_callB c_lenQ (by rfl) (T.fr 0 "len" rfl) (by decide +kernel) (pa_cons (pv 2) pa_nil)) pe_int))
      (pss_one (ps_if (pt_cmpR o_eq (pv 4) pe_str (nomark _)) (pss_cons (ps_if (PW.pt (pw_or (pt_cmpR o_eq (pv 5) pe_int (nomark _)) (pw_or1 (pt_cmpR o_eq (pe_ix ix_list (pv 2) (pv 5) (fun _ _ => rfl)) pe_int (nomark _))))) (pss_one (ps_ret (pv 3))) pss_nil)
      (pss_one (ps_expr (pe_bm0 PySem.F.plainAttrs_list PySem.F.slot_list_pop PySem.F.type_list_pop mt_pop (pv 2))))) (pss_one (ps_if (PW.pt (pw_or (pt_cmpR o_eq (pv 4) pe_str (nomark _)) (pw_or1 (pt_cmpR o_inS (pv 4) (pv 0) (by rfl))))) (pss_cons (ps_if (pt_cmpR o_eq (pe_ix ix_list (pv 2) (pv 5) (fun _ _ => rfl)) (pe_ifExp (pt_cmpR o_eq (pv 5) pe_int (nomark _)) pe_int (pe_glob rfl (T.kI 17 "MOST_KIDS" 3 rfl).choose_spec ⟨_, rfl⟩)) (nomark _)) (pss_one (ps_ret (pv 3))) pss_nil)
      (pss_cons (ps_augS (pv 2) (pv 5) pget_list pe_int ip_add set_list)
      (pss_one (ps_if (pt_cmpR o_eq (pv 4) pe_str (nomark _)) (pss_one (ps_expr (pe_bm PySem.F.plainAttrs_list PySem.F.slot_list_append PySem.F.type_list_append mt_append (pv 2) (pa_cons pe_int pa_nil)))) pss_nil)))) (pss_one (ps_ret (pv 3)))))))))
      (pss_cons (ps_if (PW.pt (pw_or (pt_cmpR o_gt (pe_callB c_lenQ (by rfl) (T.fr 0 "len" rfl) (by decide +kernel) (pa_cons (pv 2) pa_nil)) pe_int (nomark _)) (pw_or1 (pt_cmpR o_eq (pe_ix ix_list (pv 2) pe_int (fun _ _ => rfl)) pe_int (nomark _))))) (pss_one (ps_ret (pe_callB c_lenS (by rfl) (T.fr 0 "len" rfl) (by decide +kernel) (pa_cons (pv 1) pa_nil)))) pss_nil)
      (pss_one (ps_ret (pe_un un_neg pe_int))))))

theorem sc_read_brackets : FnScope N_read_brackets ["letters", "inner", "text"] (defScope s_read_brackets) := ⟨rfl, rfl, rfl, by decide +kernel, rfl, by decide +kernel, by decide +kernel⟩
theorem ok_read_brackets (T : Tx K mg) : ∃ fd, FunD K d_read_brackets.name d_read_brackets.qual d_read_brackets.params d_read_brackets.body d_read_brackets.scope [] [] (fAd K d_read_brackets.at_) fd ∧ FnOk PP w K mg base (L2.CX PP w) 3 (fAd K d_read_brackets.at_) fd ["letters", "inner", "text"] (spRead K) ∧ Binds K fd ["letters", "inner", "text"] [] := by
  obtain ⟨fd, FF⟩ := T.df 9 (d := d_read_brackets) rfl
  obtain ⟨fd_check_letters, FF_check_letters, G_check_letters, b_check_letters⟩ := ok_check_letters (w := w) (base := base) T
  have k_check_letters := FF_check_letters.kp
  obtain ⟨fd_check_word, FF_check_word, G_check_word, b_check_word⟩ := ok_check_word (w := w) (base := base) T
  have k_check_word := FF_check_word.kp
  obtain ⟨fd_first_wrong_bracket, FF_first_wrong_bracket, G_first_wrong_bracket, b_first_wrong_bracket⟩ := ok_first_wrong_bracket (w := w) (base := base) T
  have k_first_wrong_bracket := FF_first_wrong_bracket.kp
  refine ⟨fd, FF, ?_, FF.bindsN fun _ _ _ _ _ _ us hl => match us, hl with | [_, _, _], _ => rfl⟩
  refine FunD.okT (k := 2) FF sc_read_brackets (by decide +kernel) (by decide) (fun vs H Q E h => len_read_brackets (K := K) h) (fun cdv A outer s H vs Q E hr h => ⟨t_dreadb K E, ?_, pure_dreadb vs H Q E h⟩)
  exact (psst_cons (PST.of (ps_expr (pe_call (E := E) G_check_letters (hr.mono (by decide)) rfl (T.gl 18 "check_letters" rfl) k_check_letters b_check_letters .nil (passes_call (takes_of rfl rfl rfl rfl) fun _ _ _ _ h => h) (pa_cons (pv 0) pa_nil))))
      (psst_cons (PST.of (ps_expr (pe_call (E := E) G_check_word (hr.mono (by decide)) rfl (T.gl 19 "check_word" rfl) k_check_word b_check_word .nil (passes_call (takes_of rfl rfl rfl rfl) fun _ _ _ _ h => h) (pa_cons (pv 0) (pa_cons (pv 1) pa_nil)))))
      (psst_cons (PST.of (ps_set (i := 3) sc_read_brackets.nd rfl (Or.inl rfl) (pe_call (E := E0) G_first_wrong_bracket (hr.mono (by decide)) rfl (T.gl 20 "first_wrong_bracket" rfl) k_first_wrong_bracket b_first_wrong_bracket .nil pass0 (pa_cons (pv 0) (pa_cons (pv 2) pa_nil)))))
      (psst_cons (PST.of (ps_if (pt_cmpR o_ge (pv 3) pe_int (nomark _)) (pss_one (ps_raise rfl (takes_of rfl rfl rfl rfl) (pmk_one (T.ini 2 (d := i_BadTree) rfl).1 (T.ini 2 (d := i_BadTree) rfl).2 sh_BadTree nm_BadTree (T.fr 8 "super" rfl) (any_of T) top_super (T.na 21 "BadTree" "place" rfl)  hr (T.gl 22 "BadTree" rfl) (pa_cons (pv 3) pa_nil)))) pss_nil))
      (psst_one (pst_ret (pet_replAdd (pv 2) (pv 1) (by decide))))))))

theorem sc_start : FnScope N_start ["script"] (defScope s_start) := ⟨rfl, rfl, rfl, by decide +kernel, rfl, by decide +kernel, by decide +kernel⟩
theorem ok_start (T : Tx K mg) : ∃ fd, FunD K d_start.name d_start.qual d_start.params d_start.body d_start.scope [] [] (fAd K d_start.at_) fd ∧ FnOk PP w K mg base CX0 1 (fAd K d_start.at_) fd ["script"] (spStart K) ∧ Binds K fd ["script"] [] := by
  obtain ⟨fd, FF⟩ := T.df 10 (d := d_start) rfl

  refine ⟨fd, FF, ?_, FF.bindsN fun _ _ _ _ _ _ us hl => match us, hl with | [_], _ => rfl⟩
  refine FunD.ok (k := 0) FF sc_start (fun vs H Q E h => len_start (K := K) h) (fun cdv A outer s H vs Q E hr h => ⟨t_dstart K, PSs.nox (?_), pure_dstart vs H Q E h⟩)
  exact (pss_cons (ps_setLc (i := 1) (own := [("cell", 2)]) (g := (gName 2)) (tt := tYes) rfl sc_start.nd rfl rfl (sw_true rfl rfl rfl (by decide +kernel)) (pi_list (pv 0)) (blkOk_by (N := N_start) (sc := (defScope s_start)) (by decide +kernel)) (fun _ _ _ _ _ => (pg_name (i := 2) sc_start.nd rfl (Or.inl rfl))) (fun _ _ _ _ _ => pts_nil) (fun _ _ _ _ _ => (pe_callB c_abs (by rfl) (T.fr 23 "abs" rfl) (by decide +kernel) (pa_cons (pv 2) pa_nil))))
      (pss_cons (ps_if (pt_cmpR o_eq (pe_callB c_lenQ (by rfl) (T.fr 0 "len" rfl) (by decide +kernel) (pa_cons (pv 1) pa_nil)) pe_int (nomark _)) (pss_one (ps_set (i := 1) sc_start.nd rfl (Or.inl rfl) (pe_lst (pa_cons pe_int pa_nil)))) pss_nil)
      (pss_one (ps_ret (pe_lst (pa_cons (pv 1) (pa_cons pe_int (pa_cons pe_int (pa_cons pe_int pa_nil)))))))))

theorem sc_next : FnScope N_next ["state", "many"] (defScope s_next) := ⟨rfl, rfl, rfl, by decide +kernel, rfl, by decide +kernel, by decide +kernel⟩
theorem ok_next (T : Tx K mg) : ∃ fd, FunD K d_next.name d_next.qual d_next.params d_next.body d_next.scope [] [] (fAd K d_next.at_) fd ∧ FnOk PP w K mg base CX0 1 (fAd K d_next.at_) fd ["state", "many"] spNextC ∧ Binds K fd ["state", "many"] [] := by
  obtain ⟨fd, FF⟩ := T.df 11 (d := d_next) rfl

  refine ⟨fd, FF, ?_, FF.bindsN fun _ _ _ _ _ _ us hl => match us, hl with | [_, _], _ => rfl⟩
  refine FunD.ok (k := 0) FF sc_next (fun vs H Q E h => len_next (K := K) h) (fun cdv A outer s H vs Q E hr h => ⟨t_dnext K, PSs.nox (?_), pure_dnextC vs H Q E h⟩)
  exact (pss_cons (ps_set (i := 2) sc_next.nd rfl (Or.inl rfl) (pe_ix ix_list (pv 0) pe_int (fun _ _ => rfl)))
      (pss_cons (ps_set (i := 3) sc_next.nd rfl (Or.inl rfl) (pe_ix ix_list (pv 2) (pe_op o_mod (pe_callTy c_int1 (by rfl) (T.fr 24 "int" rfl) (by decide +kernel) (pa_cons (pe_ix ix_list (pv 0) pe_int (fun _ _ => rfl)) pa_nil)) (pe_callB c_lenQ (by rfl) (T.fr 0 "len" rfl) (by decide +kernel) (pa_cons (pv 2) pa_nil))) (fun _ _ => rfl)))
      (pss_cons (ps_if (PW.pt (pw_and (pt_cmpR o_ge (pv 3) (pe_op o_pow pe_int pe_int) (nomark _)) (pw_and1 (pt_cmpR o_lt (pe_ix ix_list (pv 0) pe_int (fun _ _ => rfl)) (pe_callB c_lenQ (by rfl) (T.fr 0 "len" rfl) (by decide +kernel) (pa_cons (pv 2) pa_nil)) (nomark _))))) (pss_cons (ps_if (pt_cmpR o_eq (pe_ix ix_list (pv 0) pe_int (fun _ _ => rfl)) pe_int (nomark _)) (pss_one (ps_asg (pv 3) (pg_sub (pv 0) pe_int set_list))) pss_nil)
      (pss_cons (ps_set (i := 6) sc_next.nd rfl (Or.inl rfl) (pe_op o_mod (pe_callTy c_int1 (by rfl) (T.fr 24 "int" rfl) (by decide +kernel) (pa_cons (pe_ix ix_list (pv 0) pe_int (fun _ _ => rfl)) pa_nil)) (pv 1)))
      (pss_cons (ps_asg (pe_op o_div (pe_callTy c_int1 (by rfl) (T.fr 24 "int" rfl) (by decide +kernel) (pa_cons (pe_ix ix_list (pv 0) pe_int (fun _ _ => rfl)) pa_nil)) (pv 1)) (pg_sub (pv 0) pe_int set_list))
      (pss_cons (ps_asg (pe_op o_add (pe_ix ix_list (pv 0) pe_int (fun _ _ => rfl)) pe_int) (pg_sub (pv 0) pe_int set_list))
      (pss_cons (ps_if (PW.pt (pw_or (pt_cmpR o_eq (pe_ix ix_list (pv 0) pe_int (fun _ _ => rfl)) pe_int (nomark _)) (pw_or1 (pt_cmpR o_ge (pe_ix ix_list (pv 0) pe_int (fun _ _ => rfl)) pe_int (nomark _))))) (pss_cons (ps_asg (pe_op o_add (pe_ix ix_list (pv 0) pe_int (fun _ _ => rfl)) pe_int) (pg_sub (pv 0) pe_int set_list))
      (pss_one (ps_asg pe_int (pg_sub (pv 0) pe_int set_list)))) pss_nil)
      (pss_one (ps_ret (pv 6)))))))) pss_nil)
      (pss_cons (ps_set (i := 4) sc_next.nd rfl (Or.inl rfl) (pe_op o_add (pe_ix ix_list (pv 0) pe_int (fun _ _ => rfl)) (pe_op o_mul pe_int (pe_ix ix_list (pv 0) pe_int (fun _ _ => rfl)))))
      (pss_cons (ps_set (i := 5) sc_next.nd rfl (Or.inl rfl) (pe_op o_mul (pe_op o_add (pe_op o_mod (pe_callTy c_int1 (by rfl) (T.fr 24 "int" rfl) (by decide +kernel) (pa_cons (pv 3) pa_nil)) pe_int) pe_int) (pe_op o_add pe_int (pe_op o_mul pe_int (pv 4)))))
      (pss_cons (ps_set (i := 5) sc_next.nd rfl (Or.inl rfl) (pe_op o_mod (pe_callTy c_int1 (by rfl) (T.fr 24 "int" rfl) (by decide +kernel) (pa_cons (pv 5) pa_nil)) pe_int))
      (pss_cons (ps_set (i := 5) sc_next.nd rfl (Or.inl rfl) (pe_op o_mod (pe_callTy c_int1 (by rfl) (T.fr 24 "int" rfl) (by decide +kernel) (pa_cons (pe_op o_add (pe_op o_add (pe_op o_mul (pv 5) (pv 5)) (pe_op o_mul pe_int (pv 4))) pe_int) pa_nil)) pe_int))
      (pss_cons (ps_asg (pe_op o_add (pe_ix ix_list (pv 0) pe_int (fun _ _ => rfl)) pe_int) (pg_sub (pv 0) pe_int set_list))
      (pss_cons (ps_if (pt_cmpR o_ge (pe_ix ix_list (pv 0) pe_int (fun _ _ => rfl)) pe_int (nomark _)) (pss_cons (ps_asg (pe_op o_add (pe_ix ix_list (pv 0) pe_int (fun _ _ => rfl)) pe_int) (pg_sub (pv 0) pe_int set_list))
      (pss_one (ps_asg pe_int (pg_sub (pv 0) pe_int set_list)))) pss_nil)
      (pss_one (ps_ret (pe_op o_mod (pe_callTy c_int1 (by rfl) (T.fr 24 "int" rfl) (by decide +kernel) (pa_cons (pe_op o_div (pv 5) pe_int) pa_nil)) (pv 1)))))))))))))

theorem sc_same : FnScope N_same ["actual", "due"] (defScope s_same) := ⟨rfl, rfl, rfl, by decide +kernel, rfl, by decide +kernel, by decide +kernel⟩
theorem ok_same (T : Tx K mg) : ∃ fd, FunD K d_same.name d_same.qual d_same.params d_same.body d_same.scope [] [] (fAd K d_same.at_) fd ∧ FnOk PP w K mg base CX0 1 (fAd K d_same.at_) fd ["actual", "due"] spSame ∧ Binds K fd ["actual", "due"] [] := by
  obtain ⟨fd, FF⟩ := T.df 12 (d := d_same) rfl

  refine ⟨fd, FF, ?_, FF.bindsN fun _ _ _ _ _ _ us hl => match us, hl with | [_, _], _ => rfl⟩
  refine FunD.ok (k := 0) FF sc_same (fun vs H Q E h => len_same (K := K) h) (fun cdv A outer s H vs Q E hr h => ⟨t_dsame K, PSs.nox (?_), pure_dsame vs H Q E h⟩)
  exact (pss_cons (ps_if (pt_cmpR o_isN (pv 1) pe_non (nomark _)) (pss_one (ps_ret (pe_cmpR o_isN (pv 0) pe_non (nomark _)))) pss_nil)
      (pss_one (ps_ret (pe_and (pe_callB c_isi (by rfl) (T.fr 26 "isinstance" rfl) (by decide +kernel) (pa_cons (pv 0) (pa_cons (pe_bltn (v := .ty "str") rfl (T.fr 25 "str" rfl) (by decide +kernel) rfl) pa_nil))) (pe_one (pe_cmpR o_eq (pv 0) (pv 1) (nomark _)))))))

theorem sc_alphabet : FnScope N_alphabet ["state", "many"] (defScope s_alphabet) := ⟨rfl, rfl, rfl, by decide +kernel, rfl, by decide +kernel, by decide +kernel⟩
theorem ok_alphabet (T : Tx K mg) : ∃ fd, FunD K d_alphabet.name d_alphabet.qual d_alphabet.params d_alphabet.body d_alphabet.scope [] [] (fAd K d_alphabet.at_) fd ∧ FnOk PP w K mg base CX0 2 (fAd K d_alphabet.at_) fd ["state", "many"] spAlpha ∧ Binds K fd ["state", "many"] [] := by
  obtain ⟨fd, FF⟩ := T.df 13 (d := d_alphabet) rfl
  obtain ⟨fd_next, FF_next, G_next, b_next⟩ := ok_next (w := w) (base := base) T
  have k_next := FF_next.kp
  refine ⟨fd, FF, ?_, FF.bindsN fun _ _ _ _ _ _ us hl => match us, hl with | [_, _], _ => rfl⟩
  refine FunD.ok (k := 1) FF sc_alphabet (fun vs H Q E h => len_alphabet (K := K) h) (fun cdv A outer s H vs Q E hr h => ⟨t_dalpha K, PSs.nox (?_), pure_dalpha vs H Q E h⟩)
  exact (pss_cons (ps_set (i := 2) sc_alphabet.nd rfl (Or.inl rfl) pe_str)
      (pss_cons (ps_set (i := 3) sc_alphabet.nd rfl (Or.inl rfl) (pe_call (E := E0) G_next (hr.mono (by decide)) rfl (T.gl 27 "_law_next" rfl) k_next b_next .nil pass0 (pa_cons (pv 0) (pa_cons (pe_op o_sub pe_int (pe_op o_mul pe_int (pe_op o_sub (pv 1) pe_int))) pa_nil))))
      (pss_cons (ps_set (i := 4) sc_alphabet.nd rfl (Or.inl rfl) (pe_ix ix_str (pv 2) (pv 3) (fun _ _ => rfl)))
      (pss_cons (ps_for PassesOwn.never rfl (pi_range1 rfl (T.fr 28 "range" rfl) (pa_cons (pe_op o_sub (pv 1) pe_int) pa_nil)) (pg_name (i := 5) sc_alphabet.nd rfl (Or.inl rfl)) (pss_cons (ps_set (i := 3) sc_alphabet.nd rfl (Or.inl rfl) (pe_op o_add (pe_op o_add (pv 3) pe_int) (pe_call (E := E0) G_next (hr.mono (by decide)) rfl (T.gl 27 "_law_next" rfl) k_next b_next .nil pass0 (pa_cons (pv 0) (pa_cons pe_int pa_nil)))))
      (pss_one (ps_set (i := 4) sc_alphabet.nd rfl (Or.inl rfl) (pe_op o_addS (pv 4) (pe_ix ix_str (pv 2) (pv 3) (fun _ _ => rfl)))))))
      (pss_one (ps_ret (pv 4)))))))

theorem sc_written : FnScope N_written ["signs", "below"] (defScope s_written) := ⟨rfl, rfl, rfl, by decide +kernel, rfl, by decide +kernel, by decide +kernel⟩
theorem ok_written (T : Tx K mg) : ∃ fd, FunD K d_written.name d_written.qual d_written.params d_written.body d_written.scope [] [] (fAd K d_written.at_) fd ∧ FnOk PP w K mg base CX0 1 (fAd K d_written.at_) fd ["signs", "below"] spWritten ∧ Binds K fd ["signs", "below"] [] := by
  obtain ⟨fd, FF⟩ := T.df 14 (d := d_written) rfl

  refine ⟨fd, FF, ?_, FF.bindsN fun _ _ _ _ _ _ us hl => match us, hl with | [_, _], _ => rfl⟩
  refine FunD.ok (k := 0) FF sc_written (fun vs H Q E h => len_written (K := K) h) (fun cdv A outer s H vs Q E hr h => ⟨t_dwritten K, PSs.nox (?_), pure_dwritten vs H Q E h⟩)
  exact (pss_cons (ps_set (i := 2) sc_written.nd rfl (Or.inr rfl) (pe_lc (own := [("sign", 5)]) (g := (gName 5)) (tt := tYes) rfl sc_written.nd (pi_list (pv 0)) (blkOk_by (N := N_written) (sc := (defScope s_written)) (by decide +kernel)) (fun _ _ _ _ _ => (pg_name (i := 5) sc_written.nd rfl (Or.inl rfl))) (fun _ _ _ _ _ => pts_nil) (fun _ _ _ _ _ => pe_str)))
      (pss_cons (ps_for PassesOwn.never rfl (pi_range1 rfl (T.fr 28 "range" rfl) (pa_cons (pe_callB c_lenQ (by rfl) (T.fr 0 "len" rfl) (by decide +kernel) (pa_cons (pv 0) pa_nil)) pa_nil)) (pg_name (i := 3) sc_written.nd rfl (Or.inl rfl)) (pss_cons (ps_set (i := 4) sc_written.nd rfl (Or.inl rfl) (pe_op o_sub (pe_op o_sub (pe_callB c_lenQ (by rfl) (T.fr 0 "len" rfl) (by decide +kernel) (pa_cons (pv 0) pa_nil)) pe_int) (pv 3)))
      (pss_cons (ps_asg (pe_ix ix_list (pv 0) (pv 4) (fun _ _ => rfl)) (pg_sub (pv 2) (pv 4) set_list))
      (pss_one (ps_if (pt_cmpR o_gt (pe_callB c_lenQ (by rfl) (T.fr 0 "len" rfl) (by decide +kernel) (pa_cons (pe_ix ix_list (pv 1) (pv 4) (fun _ _ => rfl)) pa_nil)) pe_int (nomark _)) (pss_one (ps_asg (pe_op o_addS (pe_op o_addS (pe_op o_addS (pe_ix ix_list (pv 0) (pv 4) (fun _ _ => rfl)) pe_str) (pe_join pe_str (pe_lc (own := [("kid", 6)]) (g := (gName 6)) (tt := tYes) rfl sc_written.nd (pi_list (pe_ix ix_list (pv 1) (pv 4) (fun _ _ => rfl))) (blkOk_by (N := N_written) (sc := (defScope s_written)) (by decide +kernel)) (fun _ _ _ _ _ => (pg_name (i := 6) sc_written.nd rfl (Or.inl rfl))) (fun _ _ _ _ _ => pts_nil) (fun _ _ _ _ _ => (pe_ix ix_list (pv 2) (pv 6) (fun _ _ => rfl)))))) pe_str) (pg_sub (pv 2) (pv 4) set_list))) pss_nil)))))
      (pss_one (ps_ret (pe_ix ix_list (pv 2) pe_int (fun _ _ => rfl))))))

theorem sc_tree : FnScope N_tree ["state", "letters", "size"] (defScope s_tree) := ⟨rfl, rfl, rfl, by decide +kernel, rfl, by decide +kernel, by decide +kernel⟩
theorem ok_tree (T : Tx K mg) : ∃ fd, FunD K d_tree.name d_tree.qual d_tree.params d_tree.body d_tree.scope [] [] (fAd K d_tree.at_) fd ∧ FnOk PP w K mg base CX0 2 (fAd K d_tree.at_) fd ["state", "letters", "size"] spTree ∧ Binds K fd ["state", "letters", "size"] [] := by
  obtain ⟨fd, FF⟩ := T.df 15 (d := d_tree) rfl
  obtain ⟨fd_next, FF_next, G_next, b_next⟩ := ok_next (w := w) (base := base) T
  have k_next := FF_next.kp
  obtain ⟨fd_written, FF_written, G_written, b_written⟩ := ok_written (w := w) (base := base) T
  have k_written := FF_written.kp
  refine ⟨fd, FF, ?_, FF.bindsN fun _ _ _ _ _ _ us hl => match us, hl with | [_, _, _], _ => rfl⟩
  refine FunD.ok (k := 1) FF sc_tree (fun vs H Q E h => len_tree (K := K) h) (fun cdv A outer s H vs Q E hr h => ⟨t_dtree K, PSs.nox (?_), pure_dtree vs H Q E h⟩)
  exact (pss_cons (ps_set (i := 3) sc_tree.nd rfl (Or.inl rfl) (pe_lst (pa_cons (pe_ix ix_str (pv 1) (pe_call (E := E0) G_next (hr.mono (by decide)) rfl (T.gl 27 "_law_next" rfl) k_next b_next .nil pass0 (pa_cons (pv 0) (pa_cons (pe_callB c_lenS (by rfl) (T.fr 0 "len" rfl) (by decide +kernel) (pa_cons (pv 1) pa_nil)) pa_nil))) (fun _ _ => rfl)) pa_nil)))
      (pss_cons (ps_set (i := 4) sc_tree.nd rfl (Or.inr rfl) (pe_lst (pa_cons (pe_lst pa_nil) pa_nil)))
      (pss_cons (ps_for PassesOwn.never rfl (pi_range1 rfl (T.fr 28 "range" rfl) (pa_cons (pe_op o_sub (pv 2) pe_int) pa_nil)) (pg_name (i := 5) sc_tree.nd rfl (Or.inl rfl)) (pss_cons (ps_setLc (i := 6) (own := [("at", 7)]) (g := (gName 7)) (tt := (tTest (tOp xLt (tCB (xLenQ K) (tCons (tOp (rIxL K) (tVar 4) (tVar 7)) tNil)) (tC (.int 3))))) rfl sc_tree.nd rfl rfl (sw_true rfl rfl rfl (by decide +kernel)) (pi_range1 rfl (T.fr 28 "range" rfl) (pa_cons (pe_callB c_lenQ (by rfl) (T.fr 0 "len" rfl) (by decide +kernel) (pa_cons (pv 4) pa_nil)) pa_nil)) (blkOk_by (N := N_tree) (sc := (defScope s_tree)) (by decide +kernel)) (fun _ _ _ _ _ => (pg_name (i := 7) sc_tree.nd rfl (Or.inl rfl))) (fun _ _ _ _ _ => (pts_one (pt_cmpR o_lt (pe_callB c_lenQ (by rfl) (T.fr 0 "len" rfl) (by decide +kernel) (pa_cons (pe_ix ix_list (pv 4) (pv 7) (fun _ _ => rfl)) pa_nil)) pe_int (nomark _)))) (fun _ _ _ _ _ => (pv 7)))
      (pss_cons (ps_set (i := 7) sc_tree.nd rfl (Or.inl rfl) (pe_ix ix_list (pv 6) (pe_call (E := E0) G_next (hr.mono (by decide)) rfl (T.gl 27 "_law_next" rfl) k_next b_next .nil pass0 (pa_cons (pv 0) (pa_cons (pe_callB c_lenQ (by rfl) (T.fr 0 "len" rfl) (by decide +kernel) (pa_cons (pv 6) pa_nil)) pa_nil))) (fun _ _ => rfl)))
      (pss_cons (ps_if (pt_cmpR o_eq (pe_call (E := E0) G_next (hr.mono (by decide)) rfl (T.gl 27 "_law_next" rfl) k_next b_next .nil pass0 (pa_cons (pv 0) (pa_cons pe_int pa_nil))) pe_int (nomark _)) (pss_one (ps_set (i := 7) sc_tree.nd rfl (Or.inl rfl) (pe_ix ix_list (pv 6) (pe_un un_neg pe_int) (fun _ _ => rfl)))) pss_nil)
      (pss_cons (ps_set (i := 8) sc_tree.nd rfl (Or.inl rfl) (pe_call (E := E0) G_next (hr.mono (by decide)) rfl (T.gl 27 "_law_next" rfl) k_next b_next .nil pass0 (pa_cons (pv 0) (pa_cons (pe_op o_add (pe_callB c_lenQ (by rfl) (T.fr 0 "len" rfl) (by decide +kernel) (pa_cons (pe_ix ix_list (pv 4) (pv 7) (fun _ _ => rfl)) pa_nil)) pe_int) pa_nil))))
      (pss_cons (ps_asg (pe_op op_cat (pe_op op_cat (pe_slice sl_list (pe_ix ix_list (pv 4) (pv 7) (fun _ _ => rfl)) po_none (po_some (pv 8))) (pe_lst (pa_cons (pe_callB c_lenQ (by rfl) (T.fr 0 "len" rfl) (by decide +kernel) (pa_cons (pv 3) pa_nil)) pa_nil))) (pe_slice sl_list (pe_ix ix_list (pv 4) (pv 7) (fun _ _ => rfl)) (po_some (pv 8)) po_none)) (pg_sub (pv 4) (pv 7) set_list))
      (pss_cons (ps_expr (pe_bm PySem.F.plainAttrs_list PySem.F.slot_list_append PySem.F.type_list_append mt_append (pv 3) (pa_cons (pe_ix ix_str (pv 1) (pe_call (E := E0) G_next (hr.mono (by decide)) rfl (T.gl 27 "_law_next" rfl) k_next b_next .nil pass0 (pa_cons (pv 0) (pa_cons (pe_callB c_lenS (by rfl) (T.fr 0 "len" rfl) (by decide +kernel) (pa_cons (pv 1) pa_nil)) pa_nil))) (fun _ _ => rfl)) pa_nil)))
      (pss_one (ps_expr (pe_bm PySem.F.plainAttrs_list PySem.F.slot_list_append PySem.F.type_list_append mt_append (pv 4) (pa_cons (pe_lst pa_nil) pa_nil)))))))))))
      (pss_one (ps_ret (pe_call (E := E0) G_written (hr.mono (by decide)) rfl (T.gl 29 "_law_written" rfl) k_written b_written .nil pass0 (pa_cons (pv 3) (pa_cons (pv 4) pa_nil))))))))

theorem sc_some : FnScope N_some ["state"] (defScope s_some) := ⟨rfl, rfl, rfl, by decide +kernel, rfl, by decide +kernel, by decide +kernel⟩
theorem ok_some (T : Tx K mg) : ∃ fd, FunD K d_some.name d_some.qual d_some.params d_some.body d_some.scope [] [] (fAd K d_some.at_) fd ∧ FnOk PP w K mg base CX0 3 (fAd K d_some.at_) fd ["state"] spSome ∧ Binds K fd ["state"] [] := by
  obtain ⟨fd, FF⟩ := T.df 16 (d := d_some) rfl
  obtain ⟨fd_alphabet, FF_alphabet, G_alphabet, b_alphabet⟩ := ok_alphabet (w := w) (base := base) T
  have k_alphabet := FF_alphabet.kp
  obtain ⟨fd_next, FF_next, G_next, b_next⟩ := ok_next (w := w) (base := base) T
  have k_next := FF_next.kp
  refine ⟨fd, FF, ?_, FF.bindsN fun _ _ _ _ _ _ us hl => match us, hl with | [_], _ => rfl⟩
  refine FunD.ok (k := 2) FF sc_some (fun vs H Q E h => len_some (K := K) h) (fun cdv A outer s H vs Q E hr h => ⟨t_some K, PSs.nox (?_), pure_some T vs H Q E h⟩)
  exact (pss_one (ps_ret (pe_call (E := E0) G_alphabet (hr.mono (by decide)) rfl (T.gl 30 "_law_alphabet" rfl) k_alphabet b_alphabet .nil pass0 (pa_cons (pv 0) (pa_cons (pe_ix ix_list (pe_lst (pa_cons pe_int (pa_cons pe_int (pa_cons pe_int (pa_cons pe_int (pa_cons pe_int pa_nil)))))) (pe_call (E := E0) G_next (hr.mono (by decide)) rfl (T.gl 27 "_law_next" rfl) k_next b_next .nil pass0 (pa_cons (pv 0) (pa_cons pe_int pa_nil))) (fun _ _ => rfl)) pa_nil)))))

theorem sc_raised : FnScope N_raised ["e"] (defScope s_raised) := ⟨rfl, rfl, rfl, by decide +kernel, rfl, by decide +kernel, by decide +kernel⟩
theorem ok_raised (T : Tx K mg) : ∃ fd, FunD K d_raised.name d_raised.qual d_raised.params d_raised.body d_raised.scope [] [] (fAd K d_raised.at_) fd ∧ FnP PP w K mg base 1 (fAd K d_raised.at_) fd ["e"] (spRaised K) ∧ Binds K fd ["e"] [] := by
  obtain ⟨fd, FF⟩ := T.df 17 (d := d_raised) rfl

  refine ⟨fd, FF, ?_, FF.bindsN fun _ _ _ _ _ _ us hl => match us, hl with | [_], _ => rfl⟩
  refine fnP_of (k := 0) FF sc_raised (fun a cls d vs H Q E h => len_raised (K := K) h) (fun cdv A outer s H vs Q E a oe cls d hz hf hr h => ⟨t_raised K a cls d, ?_, pure_raised T a cls d vs H Q E h⟩)
  exact (pss_cons (ps_if (pt_val (pe_callB (call_isP List.mem_cons_self hz hf) (by rfl) (T.fr 26 "isinstance" rfl) (by decide +kernel) (pa_cons (pv 0) (pa_cons (pe_glob rfl (T.gl 22 "BadTree" rfl) rfl) pa_nil)))) (pss_one (ps_ret (pe_tup (pa_cons pe_str (pa_cons (pe_xP List.mem_cons_self (T.ini 2 (d := i_BadTree) rfl).1.xf (T.na 21 "BadTree" "place" rfl) hz hf (pv 0)) pa_nil))))) pss_nil)
      (pss_cons (ps_if (pt_val (pe_callB (call_isP List.mem_cons_self hz hf) (by rfl) (T.fr 26 "isinstance" rfl) (by decide +kernel) (pa_cons (pv 0) (pa_cons (pe_glob rfl (T.gl 31 "TooMany" rfl) rfl) pa_nil)))) (pss_one (ps_ret (pe_tup (pa_cons pe_str (pa_cons (pe_xP List.mem_cons_self (T.ini 1 (d := i_TooMany) rfl).1.xf (T.na 32 "TooMany" "limit" rfl) hz hf (pv 0)) pa_nil))))) pss_nil)
      (pss_cons (ps_if (pt_val (pe_callB (call_isP List.mem_cons_self hz hf) (by rfl) (T.fr 26 "isinstance" rfl) (by decide +kernel) (pa_cons (pv 0) (pa_cons (pe_glob rfl (T.gl 2 "BadLetters" rfl) rfl) pa_nil)))) (pss_one (ps_ret (pe_tup (pa_cons pe_str pa_nil)))) pss_nil)
      (pss_one (ps_ret (pe_tup (pa_cons pe_str pa_nil)))))))

theorem sc_spoil : FnScope N_spoil ["state", "letters", "tree"] (defScope s_spoil) := ⟨rfl, rfl, rfl, by decide +kernel, rfl, by decide +kernel, by decide +kernel⟩
theorem ok_spoil (T : Tx K mg) : ∃ fd, FunD K d_spoil.name d_spoil.qual d_spoil.params d_spoil.body d_spoil.scope [] [] (fAd K d_spoil.at_) fd ∧ FnOk PP w K mg base CX0 2 (fAd K d_spoil.at_) fd ["state", "letters", "tree"] spSpoil ∧ Binds K fd ["state", "letters", "tree"] [] := by
  obtain ⟨fd, FF⟩ := T.df 18 (d := d_spoil) rfl
  obtain ⟨fd_next, FF_next, G_next, b_next⟩ := ok_next (w := w) (base := base) T
  have k_next := FF_next.kp
  refine ⟨fd, FF, ?_, FF.bindsN fun _ _ _ _ _ _ us hl => match us, hl with | [_, _, _], _ => rfl⟩
  refine FunD.ok (k := 1) FF sc_spoil (fun vs H Q E h => len_spoil (K := K) h) (fun cdv A outer s H vs Q E hr h => ⟨t_dspoil K, PSs.nox (?_), pure_dspoil vs H Q E h⟩)
  exact (pss_cons (ps_set (i := 3) sc_spoil.nd rfl (Or.inl rfl) (pe_op o_addS (pe_op o_addS pe_str (pv 1)) pe_str))
      (pss_cons (ps_set (i := 4) sc_spoil.nd rfl (Or.inl rfl) (pe_call (E := E0) G_next (hr.mono (by decide)) rfl (T.gl 27 "_law_next" rfl) k_next b_next .nil pass0 (pa_cons (pv 0) (pa_cons (pe_op o_add (pe_callB c_lenS (by rfl) (T.fr 0 "len" rfl) (by decide +kernel) (pa_cons (pv 2) pa_nil)) pe_int) pa_nil))))
      (pss_cons (ps_set (i := 5) sc_spoil.nd rfl (Or.inl rfl) (pe_ix ix_str (pv 3) (pe_call (E := E0) G_next (hr.mono (by decide)) rfl (T.gl 27 "_law_next" rfl) k_next b_next .nil pass0 (pa_cons (pv 0) (pa_cons (pe_callB c_lenS (by rfl) (T.fr 0 "len" rfl) (by decide +kernel) (pa_cons (pv 3) pa_nil)) pa_nil))) (fun _ _ => rfl)))
      (pss_cons (ps_set (i := 6) sc_spoil.nd rfl (Or.inl rfl) (pe_call (E := E0) G_next (hr.mono (by decide)) rfl (T.gl 27 "_law_next" rfl) k_next b_next .nil pass0 (pa_cons (pv 0) (pa_cons pe_int pa_nil))))
      (pss_cons (ps_if (pt_cmpR o_eq (pv 6) pe_int (nomark _)) (pss_one (ps_ret (pe_op o_addS (pe_slice sl_str (pv 2) po_none (po_some (pv 4))) (pe_slice sl_str (pv 2) (po_some (pe_op o_add (pv 4) pe_int)) po_none)))) pss_nil)
      (pss_cons (ps_if (pt_cmpR o_eq (pv 6) pe_int (nomark _)) (pss_one (ps_ret (pe_op o_addS (pe_op o_addS (pe_slice sl_str (pv 2) po_none (po_some (pv 4))) (pv 5)) (pe_slice sl_str (pv 2) (po_some (pv 4)) po_none)))) pss_nil)
      (pss_cons (ps_if (pt_cmpR o_eq (pv 6) pe_int (nomark _)) (pss_one (ps_ret (pe_slice sl_str (pv 2) po_none (po_some (pv 4))))) pss_nil)
      (pss_one (ps_ret (pe_op o_addS (pe_op o_addS (pe_slice sl_str (pv 2) po_none (po_some (pv 4))) (pv 5)) (pe_slice sl_str (pv 2) (po_some (pe_op o_add (pv 4) pe_int)) po_none)))))))))))

theorem sc_badl : FnScope N_badl ["state", "letters"] (defScope s_badl) := ⟨rfl, rfl, rfl, by decide +kernel, rfl, by decide +kernel, by decide +kernel⟩
theorem ok_badl (T : Tx K mg) : ∃ fd, FunD K d_badl.name d_badl.qual d_badl.params d_badl.body d_badl.scope [] [] (fAd K d_badl.at_) fd ∧ FnOk PP w K mg base CX0 2 (fAd K d_badl.at_) fd ["state", "letters"] spBadL ∧ Binds K fd ["state", "letters"] [] := by
  obtain ⟨fd, FF⟩ := T.df 19 (d := d_badl) rfl
  obtain ⟨fd_next, FF_next, G_next, b_next⟩ := ok_next (w := w) (base := base) T
  have k_next := FF_next.kp
  refine ⟨fd, FF, ?_, FF.bindsN fun _ _ _ _ _ _ us hl => match us, hl with | [_, _], _ => rfl⟩
  refine FunD.ok (k := 1) FF sc_badl (fun vs H Q E h => len_badl (K := K) h) (fun cdv A outer s H vs Q E hr h => ⟨t_dbadl K, PSs.nox (?_), pure_dbadl vs H Q E h⟩)
  exact (pss_one (ps_ret (pe_ix ix_list (pe_lst (pa_cons (pe_op o_addS (pv 1) (pe_ix ix_str (pv 1) pe_int (fun _ _ => rfl))) (pa_cons (pe_upper (pv 1)) (pa_cons pe_str (pa_cons pe_str (pa_cons (pe_op o_addS (pe_ix ix_str (pv 1) pe_int (fun _ _ => rfl)) pe_str) pa_nil)))))) (pe_call (E := E0) G_next (hr.mono (by decide)) rfl (T.gl 27 "_law_next" rfl) k_next b_next .nil pass0 (pa_cons (pv 0) (pa_cons pe_int pa_nil))) (fun _ _ => rfl))))

theorem sc_flat : FnScope N_flat ["tree"] (defScope s_flat) := ⟨rfl, rfl, rfl, by decide +kernel, rfl, by decide +kernel, by decide +kernel⟩
theorem ok_flat (T : Tx K mg) : ∃ fd, FunD K d_flat.name d_flat.qual d_flat.params d_flat.body d_flat.scope [] [] (fAd K d_flat.at_) fd ∧ FnOk PP w K mg base CX0 1 (fAd K d_flat.at_) fd ["tree"] spFlat ∧ Binds K fd ["tree"] [] := by
  obtain ⟨fd, FF⟩ := T.df 20 (d := d_flat) rfl

  refine ⟨fd, FF, ?_, FF.bindsN fun _ _ _ _ _ _ us hl => match us, hl with | [_], _ => rfl⟩
  refine FunD.ok (k := 0) FF sc_flat (fun vs H Q E h => len_flat (K := K) h) (fun cdv A outer s H vs Q E hr h => ⟨t_dflat K, PSs.nox (?_), pure_dflat vs H Q E h⟩)
  exact (pss_cons (ps_set (i := 1) sc_flat.nd rfl (Or.inl rfl) pe_str)
      (pss_cons (ps_for PassesOwn.never rfl (pi_range1 rfl (T.fr 28 "range" rfl) (pa_cons (pe_callB c_lenS (by rfl) (T.fr 0 "len" rfl) (by decide +kernel) (pa_cons (pv 0) pa_nil)) pa_nil)) (pg_name (i := 2) sc_flat.nd rfl (Or.inl rfl)) (pss_one (ps_if (PW.pt (pw_or (pt_cmpR o_inS (pe_ix ix_str (pv 0) (pv 2) (fun _ _ => rfl)) pe_str (by rfl)) (pw_or1 (pt_cmpR o_ne (pe_slice sl_str (pv 0) (po_some (pe_op o_add (pv 2) pe_int)) (po_some (pe_op o_add (pv 2) pe_int))) pe_str (nomark _))))) (pss_one (ps_set (i := 1) sc_flat.nd rfl (Or.inl rfl) (pe_op o_addS (pv 1) (pe_ix ix_str (pv 0) (pv 2) (fun _ _ => rfl))))) pss_nil)))
      (pss_one (ps_ret (pv 1)))))

theorem sc_boned : FnScope N_boned ["tree", "inner"] (defScope s_boned) := ⟨rfl, rfl, rfl, by decide +kernel, rfl, by decide +kernel, by decide +kernel⟩
theorem ok_boned (T : Tx K mg) : ∃ fd, FunD K d_boned.name d_boned.qual d_boned.params d_boned.body d_boned.scope [] [] (fAd K d_boned.at_) fd ∧ FnOk PP w K mg base CX0 1 (fAd K d_boned.at_) fd ["tree", "inner"] spBoned ∧ Binds K fd ["tree", "inner"] [] := by
  obtain ⟨fd, FF⟩ := T.df 21 (d := d_boned) rfl

  refine ⟨fd, FF, ?_, FF.bindsN fun _ _ _ _ _ _ us hl => match us, hl with | [_, _], _ => rfl⟩
  refine FunD.ok (k := 0) FF sc_boned (fun vs H Q E h => len_boned (K := K) h) (fun cdv A outer s H vs Q E hr h => ⟨t_dboned K, PSs.nox (?_), pure_dboned vs H Q E h⟩)
  exact (pss_cons (ps_set (i := 2) sc_boned.nd rfl (Or.inl rfl) pe_str)
      (pss_cons (ps_for PassesOwn.never rfl (pi_range1 rfl (T.fr 28 "range" rfl) (pa_cons (pe_callB c_lenS (by rfl) (T.fr 0 "len" rfl) (by decide +kernel) (pa_cons (pv 0) pa_nil)) pa_nil)) (pg_name (i := 3) sc_boned.nd rfl (Or.inl rfl)) (pss_one (ps_if (PW.pt (pw_and (pt_cmpR o_ninS (pe_ix ix_str (pv 0) (pv 3) (fun _ _ => rfl)) pe_str (by rfl)) (pw_and1 (pt_cmpR o_eq (pe_slice sl_str (pv 0) (po_some (pe_op o_add (pv 3) pe_int)) (po_some (pe_op o_add (pv 3) pe_int))) pe_str (nomark _))))) (pss_one (ps_set (i := 2) sc_boned.nd rfl (Or.inl rfl) (pe_op o_addS (pv 2) (pv 1)))) (pss_one (ps_set (i := 2) sc_boned.nd rfl (Or.inl rfl) (pe_op o_addS (pv 2) (pe_ix ix_str (pv 0) (pv 3) (fun _ _ => rfl))))))))
      (pss_one (ps_ret (pv 2)))))

theorem sc_wrong : FnScope N_wrong ["letters", "text"] (defScope s_wrong) := ⟨rfl, rfl, rfl, by decide +kernel, rfl, by decide +kernel, by decide +kernel⟩
theorem ok_wrong (T : Tx K mg) : ∃ fd, FunD K d_wrong.name d_wrong.qual d_wrong.params d_wrong.body d_wrong.scope [] [] (fAd K d_wrong.at_) fd ∧ FnOk PP w K mg base CX0 1 (fAd K d_wrong.at_) fd ["letters", "text"] spWrong ∧ Binds K fd ["letters", "text"] [] := by
  obtain ⟨fd, FF⟩ := T.df 22 (d := d_wrong) rfl

  refine ⟨fd, FF, ?_, FF.bindsN fun _ _ _ _ _ _ us hl => match us, hl with | [_, _], _ => rfl⟩
  refine FunD.ok (k := 0) FF sc_wrong (fun vs H Q E h => len_wrong (K := K) h) (fun cdv A outer s H vs Q E hr h => ⟨t_dlwb K, PSs.nox (?_), pure_dlwb vs H Q E h⟩)
  exact (pss_cons (ps_set (i := 2) sc_wrong.nd rfl (Or.inl rfl) (pe_lst (pa_cons pe_int pa_nil)))
      (pss_cons (ps_for PassesOwn.never rfl (pi_range1 rfl (T.fr 28 "range" rfl) (pa_cons (pe_callB c_lenS (by rfl) (T.fr 0 "len" rfl) (by decide +kernel) (pa_cons (pv 1) pa_nil)) pa_nil)) (pg_name (i := 3) sc_wrong.nd rfl (Or.inl rfl)) (pss_cons (ps_set (i := 4) sc_wrong.nd rfl (Or.inl rfl) (pe_ix ix_str (pv 1) (pv 3) (fun _ _ => rfl)))
      (pss_cons (ps_set (i := 5) sc_wrong.nd rfl (Or.inl rfl) pe_int)
      (pss_cons (ps_if (pt_cmpR o_eq (pe_callB c_lenQ (by rfl) (T.fr 0 "len" rfl) (by decide +kernel) (pa_cons (pv 2) pa_nil)) pe_int (nomark _)) (pss_one (ps_set (i := 5) sc_wrong.nd rfl (Or.inl rfl) pe_int)) pss_nil)
      (pss_one (ps_if (pt_cmpR o_eq (pv 4) pe_str (nomark _)) (pss_cons (ps_if (PW.pt (pw_or (pt_cmpR o_eq (pe_callB c_lenQ (by rfl) (T.fr 0 "len" rfl) (by decide +kernel) (pa_cons (pv 2) pa_nil)) pe_int (nomark _)) (pw_or1 (pt_cmpR o_eq (pe_ix ix_list (pv 2) (pe_un un_neg pe_int) (fun _ _ => rfl)) pe_int (nomark _))))) (pss_one (ps_ret (pv 3))) pss_nil)
      (pss_one (ps_set (i := 2) sc_wrong.nd rfl (Or.inl rfl) (pe_slice sl_list (pv 2) po_none (po_some (pe_un un_neg pe_int)))))) (pss_one (ps_if (PW.pt (pw_and (PW.pt (pw_or (pt_cmpR o_eq (pv 4) pe_str (nomark _)) (pw_or1 (pt_cmpR o_inS (pv 4) (pv 0) (by rfl))))) (pw_and1 (pt_cmpR o_lt (pe_ix ix_list (pv 2) (pe_un un_neg pe_int) (fun _ _ => rfl)) (pv 5) (nomark _))))) (pss_cons (ps_asg (pe_op o_add (pe_ix ix_list (pv 2) (pe_un un_neg pe_int) (fun _ _ => rfl)) pe_int) (pg_sub (pv 2) (pe_un un_neg pe_int) set_list))
      (pss_one (ps_if (pt_cmpR o_eq (pv 4) pe_str (nomark _)) (pss_one (ps_expr (pe_bm PySem.F.plainAttrs_list PySem.F.slot_list_append PySem.F.type_list_append mt_append (pv 2) (pa_cons pe_int pa_nil)))) pss_nil))) (pss_one (ps_ret (pv 3)))))))))))
      (pss_cons (ps_if (PW.pt (pw_or (pt_cmpR o_gt (pe_callB c_lenQ (by rfl) (T.fr 0 "len" rfl) (by decide +kernel) (pa_cons (pv 2) pa_nil)) pe_int (nomark _)) (pw_or1 (pt_cmpR o_eq (pe_ix ix_list (pv 2) pe_int (fun _ _ => rfl)) pe_int (nomark _))))) (pss_one (ps_ret (pe_callB c_lenS (by rfl) (T.fr 0 "len" rfl) (by decide +kernel) (pa_cons (pv 1) pa_nil)))) pss_nil)
      (pss_one (ps_ret (pe_un un_neg pe_int))))))

theorem sc_readt : FnScope N_readt ["letters", "inner", "text"] (defScope s_readt) := ⟨rfl, rfl, rfl, by decide +kernel, rfl, by decide +kernel, by decide +kernel⟩
theorem ok_readt (T : Tx K mg) : ∃ fd, FunD K d_readt.name d_readt.qual d_readt.params d_readt.body d_readt.scope [] [] (fAd K d_readt.at_) fd ∧ FnOk PP w K mg base CX0 4 (fAd K d_readt.at_) fd ["letters", "inner", "text"] (spReadT K) ∧ Binds K fd ["letters", "inner", "text"] [] := by
  obtain ⟨fd, FF⟩ := T.df 23 (d := d_readt) rfl
  obtain ⟨fd_read_brackets, FF_read_brackets, G_read_brackets, b_read_brackets⟩ := ok_read_brackets (w := w) (base := base) T
  have k_read_brackets := FF_read_brackets.kp
  obtain ⟨fd_raised, FF_raised, G_raised, b_raised⟩ := ok_raised (w := w) (base := base) T
  have k_raised := FF_raised.kp
  refine ⟨fd, FF, ?_, FF.bindsN fun _ _ _ _ _ _ us hl => match us, hl with | [_, _, _], _ => rfl⟩
  refine FunD.ok (k := 3) FF sc_readt (fun vs H Q E h => len_readt (K := K) h) (fun cdv A outer s H vs Q E hr h => ⟨t_readt K, PSs.nox (?_), pure_readt T vs H Q E h⟩)
  exact (pss_one (ps_try_as (i := 3) (tb := tb_readt K) (ts := ts_readt K) (Wout := fun _ _ _ _ => False) rfl rfl sc_readt.nd rfl rfl ⟨rfl, by decide, Or.inl (T.gl 35 "LanguageError" rfl)⟩ takes0
        (fun W pn xe tk po => (pss_one (ps_ret (pe_tup (pa_cons pe_str (pa_cons (by exact (pe_callS G_read_brackets (hr.mono (by decide)) rfl (T.gl 33 "read_brackets" rfl) k_read_brackets b_read_brackets (fun σ => passAt tk σ) (by exact (pa_cons (pv 0) (pa_cons (pv 1) (pa_cons (pv 2) pa_nil)))))) pa_nil))))))
        (fun a oe cls d pn hz hf => (pss_cons (ps_if (pt_val (pe_callB (call_isX hz hf) (by rfl) (T.fr 26 "isinstance" rfl) (by decide +kernel) (pa_cons (pv 3) (pa_cons (pe_glob rfl (T.gl 9 "BadWord" rfl) rfl) pa_nil)))) (pss_one (ps_ret (pe_tup (pa_cons pe_str (pa_cons (pe_xf (T.ini 0 (d := i_BadWord) rfl).1.xf (T.na 6 "BadWord" "word" rfl) hz hf (pv 3)) (pa_cons (pe_xf (T.ini 0 (d := i_BadWord) rfl).1.xf (T.na 7 "BadWord" "place" rfl) hz hf (pv 3)) pa_nil)))))) pss_nil)
      (pss_one (ps_ret (pe_callP (pn := pn) G_raised (L2H.roomH_of (hr.mono (by decide))) hz hf rfl (T.gl 34 "_law_raised" rfl) k_raised b_raised (pa_cons (pv 3) pa_nil))))))))

theorem sc_onet : FnScope N_onet ["letters", "inner", "text"] (defScope s_onet) := ⟨rfl, rfl, rfl, by decide +kernel, rfl, by decide +kernel, by decide +kernel⟩
theorem ok_onet (T : Tx K mg) : ∃ fd, FunD K d_onet.name d_onet.qual d_onet.params d_onet.body d_onet.scope [] [] (fAd K d_onet.at_) fd ∧ FnOk PP w K mg base CX0 5 (fAd K d_onet.at_) fd ["letters", "inner", "text"] (spOneT K) ∧ Binds K fd ["letters", "inner", "text"] [] := by
  obtain ⟨fd, FF⟩ := T.df 24 (d := d_onet) rfl
  obtain ⟨fd_wrong, FF_wrong, G_wrong, b_wrong⟩ := ok_wrong (w := w) (base := base) T
  have k_wrong := FF_wrong.kp
  obtain ⟨fd_readt, FF_readt, G_readt, b_readt⟩ := ok_readt (w := w) (base := base) T
  have k_readt := FF_readt.kp
  obtain ⟨fd_same, FF_same, G_same, b_same⟩ := ok_same (w := w) (base := base) T
  have k_same := FF_same.kp
  obtain ⟨fd_bracketed, FF_bracketed, G_bracketed, b_bracketed⟩ := ok_bracketed (w := w) (base := base) T
  have k_bracketed := FF_bracketed.kp
  refine ⟨fd, FF, ?_, FF.bindsN fun _ _ _ _ _ _ us hl => match us, hl with | [_, _, _], _ => rfl⟩
  refine FunD.ok (k := 4) FF sc_onet (fun vs H Q E h => len_onet (K := K) h) (fun cdv A outer s H vs Q E hr h => ⟨t_onet K, PSs.nox (?_), pure_onet T vs H Q E h⟩)
  exact (pss_cons (ps_set (i := 3) sc_onet.nd rfl (Or.inl rfl) (pe_call (E := E0) G_wrong (hr.mono (by decide)) rfl (T.gl 36 "_law_wrong_bracket" rfl) k_wrong b_wrong .nil pass0 (pa_cons (pv 0) (pa_cons (pv 2) pa_nil))))
      (pss_cons (ps_set (i := 4) sc_onet.nd rfl (Or.inl rfl) (pe_call (E := E0) G_readt (hr.mono (by decide)) rfl (T.gl 37 "_law_read_text" rfl) k_readt b_readt .nil pass0 (pa_cons (pv 0) (pa_cons (pv 1) (pa_cons (pv 2) pa_nil)))))
      (pss_cons (ps_if (pt_cmpR o_ge (pv 3) pe_int (nomark _)) (pss_one (ps_ret (pe_cmpR (op_eqD hr.units) (pv 4) (pe_tup (pa_cons pe_str (pa_cons (pv 3) pa_nil))) (nomark _)))) pss_nil)
      (pss_one (ps_ret (pe_and (pe_cmpR (op_eqD hr.units) (pv 4) (pe_tup (pa_strT (pat_one (pet_replAdd (pv 2) (pv 1) (by decide))))) (nomark _)) (pe_one (pe_call (E := E0) G_same (hr.mono (by decide)) rfl (T.gl 39 "_law_same_text" rfl) k_same b_same .nil pass0 (pa_cons (pe_call (E := E0) G_bracketed (hr.mono (by decide)) rfl (T.gl 38 "bracketed" rfl) k_bracketed b_bracketed .nil pass0 (pa_cons (pe_ix ix_tup (pv 4) pe_int (fun _ _ => rfl)) pa_nil)) (pa_cons (pv 2) pa_nil))))))))))

theorem sc_one : FnScope N_one ["state", "letters", "tree"] (defScope s_one) := ⟨rfl, rfl, rfl, by decide +kernel, rfl, by decide +kernel, by decide +kernel⟩
theorem ok_one (T : Tx K mg) : ∃ fd, FunD K d_one.name d_one.qual d_one.params d_one.body d_one.scope [] [] (fAd K d_one.at_) fd ∧ FnOk PP w K mg base CX0 6 (fAd K d_one.at_) fd ["state", "letters", "tree"] (spOne K) ∧ Binds K fd ["state", "letters", "tree"] [] := by
  obtain ⟨fd, FF⟩ := T.df 25 (d := d_one) rfl
  obtain ⟨fd_next, FF_next, G_next, b_next⟩ := ok_next (w := w) (base := base) T
  have k_next := FF_next.kp
  obtain ⟨fd_flat, FF_flat, G_flat, b_flat⟩ := ok_flat (w := w) (base := base) T
  have k_flat := FF_flat.kp
  obtain ⟨fd_boned, FF_boned, G_boned, b_boned⟩ := ok_boned (w := w) (base := base) T
  have k_boned := FF_boned.kp
  obtain ⟨fd_same, FF_same, G_same, b_same⟩ := ok_same (w := w) (base := base) T
  have k_same := FF_same.kp
  obtain ⟨fd_skeleton, FF_skeleton, G_skeleton, b_skeleton⟩ := ok_skeleton (w := w) (base := base) T
  have k_skeleton := FF_skeleton.kp
  obtain ⟨fd_bracketed, FF_bracketed, G_bracketed, b_bracketed⟩ := ok_bracketed (w := w) (base := base) T
  have k_bracketed := FF_bracketed.kp
  obtain ⟨fd_readt, FF_readt, G_readt, b_readt⟩ := ok_readt (w := w) (base := base) T
  have k_readt := FF_readt.kp
  obtain ⟨fd_spoil, FF_spoil, G_spoil, b_spoil⟩ := ok_spoil (w := w) (base := base) T
  have k_spoil := FF_spoil.kp
  obtain ⟨fd_onet, FF_onet, G_onet, b_onet⟩ := ok_onet (w := w) (base := base) T
  have k_onet := FF_onet.kp
  obtain ⟨fd_badl, FF_badl, G_badl, b_badl⟩ := ok_badl (w := w) (base := base) T
  have k_badl := FF_badl.kp
  refine ⟨fd, FF, ?_, FF.bindsN fun _ _ _ _ _ _ us hl => match us, hl with | [_, _, _], _ => rfl⟩
  refine FunD.ok (k := 5) FF sc_one (fun vs H Q E h => len_one (K := K) h) (fun cdv A outer s H vs Q E hr h => ⟨t_one K, PSs.nox (?_), pure_one T vs H Q E h⟩)
  exact (pss_cons (ps_set (i := 3) sc_one.nd rfl (Or.inl rfl) (pe_ix ix_str (pv 1) (pe_call (E := E0) G_next (hr.mono (by decide)) rfl (T.gl 27 "_law_next" rfl) k_next b_next .nil pass0 (pa_cons (pv 0) (pa_cons (pe_callB c_lenS (by rfl) (T.fr 0 "len" rfl) (by decide +kernel) (pa_cons (pv 1) pa_nil)) pa_nil))) (fun _ _ => rfl)))
      (pss_cons (ps_set (i := 4) sc_one.nd rfl (Or.inl rfl) (pe_call (E := E0) G_flat (hr.mono (by decide)) rfl (T.gl 40 "_law_flat" rfl) k_flat b_flat .nil pass0 (pa_cons (pv 2) pa_nil)))
      (pss_cons (ps_set (i := 5) sc_one.nd rfl (Or.inl rfl) (pe_call (E := E0) G_boned (hr.mono (by decide)) rfl (T.gl 41 "_law_boned" rfl) k_boned b_boned .nil pass0 (pa_cons (pv 2) (pa_cons (pv 3) pa_nil))))
      (pss_cons (ps_if (PW.pt (pw_or (pt_not (pt_val (pe_call (E := E0) G_same (hr.mono (by decide)) rfl (T.gl 39 "_law_same_text" rfl) k_same b_same .nil pass0 (pa_cons (pe_call (E := E0) G_bracketed (hr.mono (by decide)) rfl (T.gl 38 "bracketed" rfl) k_bracketed b_bracketed .nil pass0 (pa_cons (pv 2) pa_nil)) (pa_cons (pv 4) pa_nil))))) (pw_or1 (pt_not (pt_val (pe_call (E := E0) G_same (hr.mono (by decide)) rfl (T.gl 39 "_law_same_text" rfl) k_same b_same .nil pass0 (pa_cons (pe_call (E := E0) G_skeleton (hr.mono (by decide)) rfl (T.gl 42 "skeleton" rfl) k_skeleton b_skeleton .nil pass0 (pa_cons (pv 2) (pa_cons (pv 3) pa_nil))) (pa_cons (pv 5) pa_nil)))))))) (pss_one (ps_ret pe_bl)) pss_nil)
      (pss_cons (ps_if (pt_cmpR (op_neD hr.units) (pe_call (E := E0) G_readt (hr.mono (by decide)) rfl (T.gl 37 "_law_read_text" rfl) k_readt b_readt .nil pass0 (pa_cons (pv 1) (pa_cons (pv 3) (pa_cons (pv 4) pa_nil)))) (pe_tup (pa_cons pe_str (pa_cons (pv 5) pa_nil))) (nomark _)) (pss_one (ps_ret pe_bl)) pss_nil)
      (pss_cons (ps_set (i := 6) sc_one.nd rfl (Or.inl rfl) (pv 4))
      (pss_cons (ps_for PassesOwn.never rfl (pi_range1 rfl (T.fr 28 "range" rfl) (pa_cons (pe_op o_add pe_int (pe_call (E := E0) G_next (hr.mono (by decide)) rfl (T.gl 27 "_law_next" rfl) k_next b_next .nil pass0 (pa_cons (pv 0) (pa_cons pe_int pa_nil)))) pa_nil)) (pg_name (i := 7) sc_one.nd rfl (Or.inl rfl)) (pss_one (ps_set (i := 6) sc_one.nd rfl (Or.inl rfl) (pe_call (E := E0) G_spoil (hr.mono (by decide)) rfl (T.gl 43 "_law_spoilt_tree" rfl) k_spoil b_spoil .nil pass0 (pa_cons (pv 0) (pa_cons (pv 1) (pa_cons (pv 6) pa_nil)))))))
      (pss_cons (ps_if (PW.pt (pw_or (pt_not (pt_val (pe_call (E := E0) G_onet (hr.mono (by decide)) rfl (T.gl 44 "_law_one_text" rfl) k_onet b_onet .nil pass0 (pa_cons (pv 1) (pa_cons (pv 3) (pa_cons (pv 4) pa_nil)))))) (pw_or1 (pt_not (pt_val (pe_call (E := E0) G_onet (hr.mono (by decide)) rfl (T.gl 44 "_law_one_text" rfl) k_onet b_onet .nil pass0 (pa_cons (pv 1) (pa_cons (pv 3) (pa_cons (pv 6) pa_nil))))))))) (pss_one (ps_ret pe_bl)) pss_nil)
      (pss_cons (ps_if (pt_cmpR (op_neD hr.units) (pe_call (E := E0) G_readt (hr.mono (by decide)) rfl (T.gl 37 "_law_read_text" rfl) k_readt b_readt .nil pass0 (pa_cons (pv 1) (pa_cons pe_str (pa_cons (pv 6) pa_nil)))) (pe_tup (pa_cons pe_str (pa_cons pe_str (pa_cons pe_int pa_nil)))) (nomark _)) (pss_one (ps_ret pe_bl)) pss_nil)
      (pss_one (ps_ret (pe_cmpR (op_eqD hr.units) (pe_call (E := E0) G_readt (hr.mono (by decide)) rfl (T.gl 37 "_law_read_text" rfl) k_readt b_readt .nil pass0 (pa_cons (pe_call (E := E0) G_badl (hr.mono (by decide)) rfl (T.gl 45 "_law_bad_letters" rfl) k_badl b_badl .nil pass0 (pa_cons (pv 0) (pa_cons (pv 1) pa_nil))) (pa_cons pe_str (pa_cons (pv 6) pa_nil)))) (pe_tup (pa_cons pe_str pa_nil)) (nomark _)))))))))))))

theorem sc_law : FnScope N_law ["script"] (defScope s_law) := ⟨rfl, rfl, rfl, by decide +kernel, rfl, by decide +kernel, by decide +kernel⟩
theorem ok_law (T : Tx K mg) : ∃ fd, FunD K d_law.name d_law.qual d_law.params d_law.body d_law.scope [] [] (fAd K d_law.at_) fd ∧ FnOk PP w K mg base CX0 7 (fAd K d_law.at_) fd ["script"] (spLaw K) ∧ Binds K fd ["script"] [] := by
  obtain ⟨fd, FF⟩ := T.df 26 (d := d_law) rfl
  obtain ⟨fd_start, FF_start, G_start, b_start⟩ := ok_start (w := w) (base := base) T
  have k_start := FF_start.kp
  obtain ⟨fd_some, FF_some, G_some, b_some⟩ := ok_some (w := w) (base := base) T
  have k_some := FF_some.kp
  obtain ⟨fd_next, FF_next, G_next, b_next⟩ := ok_next (w := w) (base := base) T
  have k_next := FF_next.kp
  obtain ⟨fd_onet, FF_onet, G_onet, b_onet⟩ := ok_onet (w := w) (base := base) T
  have k_onet := FF_onet.kp
  obtain ⟨fd_one, FF_one, G_one, b_one⟩ := ok_one (w := w) (base := base) T
  have k_one := FF_one.kp
  obtain ⟨fd_tree, FF_tree, G_tree, b_tree⟩ := ok_tree (w := w) (base := base) T
  have k_tree := FF_tree.kp
  refine ⟨fd, FF, ?_, FF.bindsN fun _ _ _ _ _ _ us hl => match us, hl with | [_], _ => rfl⟩
  refine FunD.ok (k := 6) FF sc_law (fun vs H Q E h => len_law (K := K) h) (fun cdv A outer s H vs Q E hr h => ⟨t_law K, PSs.nox (?_), pure_law T vs H Q E h⟩)
  exact (pss_cons (ps_set (i := 1) sc_law.nd rfl (Or.inl rfl) (pe_call (E := E0) G_start (hr.mono (by decide)) rfl (T.gl 46 "_law_start" rfl) k_start b_start .nil pass0 (pa_cons (pv 0) pa_nil)))
      (pss_cons (ps_set (i := 2) sc_law.nd rfl (Or.inl rfl) (pe_call (E := E0) G_some (hr.mono (by decide)) rfl (T.gl 47 "_law_some_letters" rfl) k_some b_some .nil pass0 (pa_cons (pv 1) pa_nil)))
      (pss_cons (ps_set (i := 3) sc_law.nd rfl (Or.inl rfl) (pe_ix ix_str (pv 2) (pe_call (E := E0) G_next (hr.mono (by decide)) rfl (T.gl 27 "_law_next" rfl) k_next b_next .nil pass0 (pa_cons (pv 1) (pa_cons (pe_callB c_lenS (by rfl) (T.fr 0 "len" rfl) (by decide +kernel) (pa_cons (pv 2) pa_nil)) pa_nil))) (fun _ _ => rfl)))
      (pss_cons (ps_set (i := 4) sc_law.nd rfl (Or.inl rfl) (pe_ix ix_str (pv 2) (pe_un un_neg pe_int) (fun _ _ => rfl)))
      (pss_cons (ps_set (i := 5) sc_law.nd rfl (Or.inl rfl) (pe_lst (pa_cons pe_str (pa_cons pe_str (pa_cons pe_str (pa_cons pe_str (pa_cons (pv 3) (pa_cons (pe_op o_addS (pv 3) (pv 4)) (pa_cons (pe_op o_addS pe_str (pv 3)) (pa_cons (pe_op o_addS (pe_op o_addS pe_str (pe_op op_mulS (pv 3) pe_int)) pe_str) (pa_cons (pe_op o_addS (pe_op o_addS pe_str (pe_op op_mulS (pv 4) pe_int)) pe_str) (pa_cons (pe_op o_addS (pe_op o_addS pe_str (pv 3)) pe_str) (pa_cons (pe_op o_addS (pe_op o_addS pe_str (pv 3)) pe_str) pa_nil)))))))))))))
      (pss_cons (ps_for PassesOwn.never rfl (pi_list (pe_op op_cat (pv 5) (pe_lst (pa_cons (pe_op o_addS (pe_op o_addS (pe_op o_addS pe_str (pv 3)) pe_str) (pv 4)) (pa_cons (pe_op o_addS (pe_op o_addS (pe_op o_addS (pe_op o_addS pe_str (pv 3)) pe_str) (pv 4)) pe_str) (pa_cons (pe_op o_addS (pe_op o_addS (pe_op o_addS (pv 3) pe_str) (pv 4)) pe_str) (pa_cons (pe_op o_addS (pe_op o_addS pe_str (pv 3)) pe_str) (pa_cons pe_str pa_nil)))))))) (pg_name (i := 6) sc_law.nd rfl (Or.inl rfl)) (pss_one (ps_if (pt_not (pt_val (pe_call (E := E0) G_onet (hr.mono (by decide)) rfl (T.gl 44 "_law_one_text" rfl) k_onet b_onet .nil pass0 (pa_cons (pv 2) (pa_cons (pv 3) (pa_cons (pv 6) pa_nil)))))) (pss_one (ps_ret pe_bl)) pss_nil)))
      (pss_cons (ps_for PassesOwn.never rfl (pi_range1 rfl (T.fr 28 "range" rfl) (pa_cons pe_int pa_nil)) (pg_name (i := 7) sc_law.nd rfl (Or.inl rfl)) (pss_cons (ps_set (i := 8) sc_law.nd rfl (Or.inl rfl) (pe_op o_add pe_int (pe_call (E := E0) G_next (hr.mono (by decide)) rfl (T.gl 27 "_law_next" rfl) k_next b_next .nil pass0 (pa_cons (pv 1) (pa_cons pe_int pa_nil)))))
      (pss_cons (ps_if (pt_cmpR o_eq (pe_call (E := E0) G_next (hr.mono (by decide)) rfl (T.gl 27 "_law_next" rfl) k_next b_next .nil pass0 (pa_cons (pv 1) (pa_cons pe_int pa_nil))) pe_int (nomark _)) (pss_one (ps_set (i := 8) sc_law.nd rfl (Or.inl rfl) (pe_op o_add pe_int (pe_call (E := E0) G_next (hr.mono (by decide)) rfl (T.gl 27 "_law_next" rfl) k_next b_next .nil pass0 (pa_cons (pv 1) (pa_cons pe_int pa_nil)))))) pss_nil)
      (pss_one (ps_if (pt_not (pt_val (pe_call (E := E0) G_one (hr.mono (by decide)) rfl (T.gl 49 "_law_one" rfl) k_one b_one .nil pass0 (pa_cons (pv 1) (pa_cons (pv 2) (pa_cons (pe_call (E := E0) G_tree (hr.mono (by decide)) rfl (T.gl 48 "_law_tree" rfl) k_tree b_tree .nil pass0 (pa_cons (pv 1) (pa_cons (pv 2) (pa_cons (pv 8) pa_nil)))) pa_nil)))))) (pss_one (ps_ret pe_bl)) pss_nil)))))
      (pss_one (ps_ret pe_bl)))))))))
end
end K68

set_option maxHeartbeats 0
namespace K68
open PySem PySem.Spec PyProof.Rows L2 He
abbrev R : PySem.W.OpenRow := PySem.W.OpenLaw.row PySem.Challenge.rw_treesfromyes_k68_brackets_there_and_back
abbrev hk : PySem.W.Hook := He.hookZ 5 fa fn fi PP.main.file exB
def ob (s : PySem.W.SharedT) : He.AlZ := He.obsZG 5 fa fn fi PP.main.file exB (HandSHeadRun.getT s)
theorem ob_eq (s : PySem.W.SharedT) : ob s = hk.obs s.abs := He.obsZG_eq (HandSHeadRun.getT_eq s)
def loose : List Str := "LanguageError" :: "BadLetters" :: "BadWord" :: "TooMany" :: "BadTree" :: "SMALL" :: "MOST_KINDS_OF_LETTERS" :: "check_letters" :: "check_word" :: "MOST_KIDS" :: "spans" :: "subtrees" :: "kids_of" :: "made_tree" :: "bracketed" :: "skeleton" :: "first_wrong_bracket" :: "read_brackets" :: "_law_start" :: "_law_next" :: "_law_same_text" :: "_law_alphabet" :: "_law_written" :: "_law_tree" :: "_law_some_letters" :: "_law_raised" :: "_law_spoilt_tree" :: "_law_bad_letters" :: "_law_flat" :: "_law_boned" :: "_law_wrong_bracket" :: "_law_read_text" :: "_law_one_text" :: "_law_one" :: []
theorem run (w : World) : HandSHeadRun.RunEq R (PySem.W.view R.prog [39]) hk ob 3000 loose w := by
  intro os
  kernel_rfl
theorem fun_uniq {K : PySem.W.Frag} {x q x' q' : Str} {ps ps' : Arguments} {b b' : List Stmt} {sc sc' : Scope} {dv dv' : List V} {kw kw' : List (Str × V)} {f : Addr} {fd fd' : FuncData} (h : FunD K x q ps b sc dv kw f fd) (h' : FunD K x' q' ps' b' sc' dv' kw' f fd') : fd = fd' := by
  obtain ⟨_, _, _, _, _, _, _, _, _, _, _, l, _⟩ := h.ex
  obtain ⟨_, _, _, _, _, _, _, _, _, _, _, l', _⟩ := h'.ex
  rw [l] at l'
  cases l'
  rfl
theorem facts {w : World} {K : PySem.W.Frag} {h : Heap} {mg : Str → Option Value} {f : Addr} (X : K.In h) (G : h.Ns mainGlobals mg) (hfa : mg ("law" : Str) = some (.ref f)) (c : He.SaysZ fa fn fi PP.main.file exB K) :
    ∃ fd : FuncData, (∀ (s : Shared) (v : Value), BindsTo s fd ⟨[v], []⟩ [("script", v)]) ∧ ∀ base : Heap, K.In base → base.Ns mainGlobals mg → FnOk PP w K mg base CX0 7 f fd ["script"] (spLaw K) := by
  have T : Tx K mg := ⟨⟨h, X, G⟩, c⟩
  have e := hfa.symm.trans (glo_law T)
  cases e
  obtain ⟨fd, F, _, _⟩ := ok_law (w := w) (base := h) T
  have b := FunD.bindsA (ps := ["script"]) F fun _ _ _ _ _ _ us hl => match us, hl with | [_], _ => rfl
  refine ⟨fd, fun s v => b s [v] rfl, fun base _ _ => ?_⟩
  obtain ⟨fd', F', O, _⟩ := ok_law (w := w) (base := base) T
  rw [fun_uniq F F']
  exact O
end K68
open PySem PySem.W PySem.Calls PyProof.Rows
theorem PySem.Challenge.cw_treesfromyes_k68_brackets_there_and_back_holds : PySem.Challenge.rw_treesfromyes_k68_brackets_there_and_back.Holds := by
  w_on; o_law
  refine HandSHeadRun.head_any (r := K68.R) (q := view K68.R.prog [39]) (H := K68.hk) (ob := K68.ob) (M := 3000) (loose := K68.loose) (d := HandSHeadRun.topDef K68.R.prog 39) (kwd := []) K68.ob_eq
    (by kernel_rfl) (fun s => by kernel_rfl) K68.run (by kernel_rfl) (by kernel_rfl) (by kernel_rfl) (by rfl) (by first | assumption | decide +kernel) (by decide +kernel) ⟨rfl, rfl, rfl, rfl, rfl, by decide +kernel⟩ ?hw ?hc
  case hw => w_witness2
  case hc =>
    refine L2.walk_ofE (l := PySem.Challenge.rw_treesfromyes_k68_brackets_there_and_back) (n := 63) (k := 7) (x := "script") (CX := L2.CX0) rfl (by decide) (by kernel_rfl) ⟨rfl, by decide, by decide⟩ ?F (fun _ _ _ _ z => z)
    intro w mg fa h Y G hmg0
    obtain ⟨K, KX, c⟩ := Y
    have hmg : mg ("law" : PySem.Str) = some (.ref fa) := by
      have e : (HandSHeadRun.topDef K68.R.prog 39).name = ("law" : PySem.Str) := by kernel_rfl
      rw [← e]
      exact hmg0
    obtain ⟨fd, hb, hF⟩ := K68.facts (w := w) KX G hmg c
    exact ⟨K, fd, K68.spLaw K, KX, hb, fun H a ns hl _ hS => ⟨a, ns, rfl, hS, hl, fun _ => rfl⟩, hF⟩

