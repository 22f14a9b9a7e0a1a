import PyProof.Rows.All
import Wide.All
import OpenK.AllK
import Wide.FinOn
import KE.KSuper
import KE.KExcSuper
import HandS.ForMost
import HandS.Exc
import HandS.ExcOwn
import HandS.ExcInit
import HandS.ExcIs
import HandS.ExcField
import HandS.TryOnly
import HandS.WordsExc
import HandS.More
import HandS.Flow
import HandS.Star
import HandS.Defaults
import HandS.SetKeys
import HandS.IsInst
import HandS.Steps
import HandS.Head0
import HandS.Head1
import HandS.Head2
import HandS.HeadEnd
import HandS.HeadHook1
import HandS.HeadHook2
import PySem.Challenge.RW_treesfromyes_k87_turner_fits_or_clash
set_option Elab.async false
set_option linter.all false
set_option maxRecDepth 100000
set_option maxHeartbeats 4000000
set_option maxHeartbeats 4000000
/-! Own exceptions whose maker says super().__init__(text) and then stores its arguments. -/
namespace XX
open PySem PySem.W PySem.Calls PyProof.Rows PySem.HandSPX PySem.Spec

/-- the class at C, as the top leaves it -/
structure ExW (K : Frag) (C : Addr) : Prop where
  ini : excInitIn K C [.type "ValueError", .type "Exception", .type "BaseException", .type "object"] "ValueError.__new__" = true
  md : (clsIn K C).any (fun cd => refsVE cd.mro && cd.hasDict) = true
  sa : findIn K (.ref C) "__setattr__" = some (some (.builtin "object.__setattr__"))
  ga : findIn K (.ref C) "__getattribute__" = some (some (.builtin "BaseException.__getattribute__"))
  gg : findIn K (.ref C) "__getattr__" = some none
  exC : subIn K (.ref C) (.type "BaseException") = some true
  veC : subIn K (.ref C) (.type "ValueError") = some true
  tyC : typeIn K (.ref C) = some (.type "type")
  kC : keepIn K (.ref C) = true
  own : mroIn K C (.ref C) = some true
  sup : ks_superIn K C C "__init__" = some (some (.builtin "ValueError.__init__"))
def exwB (K : Frag) (C : Addr) : Bool :=
  excInitIn K C [.type "ValueError", .type "Exception", .type "BaseException", .type "object"] "ValueError.__new__" &&
  ((clsIn K C).any (fun cd => refsVE cd.mro && cd.hasDict) &&
  (decide (findIn K (.ref C) "__setattr__" = some (some (.builtin "object.__setattr__"))) &&
  (decide (findIn K (.ref C) "__getattribute__" = some (some (.builtin "BaseException.__getattribute__"))) &&
  (decide (findIn K (.ref C) "__getattr__" = some none) &&
  (decide (subIn K (.ref C) (.type "BaseException") = some true) &&
  (decide (subIn K (.ref C) (.type "ValueError") = some true) &&
  (decide (typeIn K (.ref C) = some (.type "type")) &&
  (keepIn K (.ref C) &&
  (decide (mroIn K C (.ref C) = some true) &&
  decide (ks_superIn K C C "__init__" = some (some (.builtin "ValueError.__init__"))))))))))))
theorem exwB_ok {K : Frag} {C : Addr} (h : exwB K C = true) : ExW K C := by
  simp only [exwB, Bool.and_eq_true, decide_eq_true_eq] at h
  obtain ⟨h1, h2, h3, h4, h5, h6, h7, h8, h9, h10, h11⟩ := h
  exact ⟨h1, h2, h3, h4, h5, h6, h7, h8, h9, h10, h11⟩
theorem ExW.hasDict {K : Frag} {C : Addr} (T : ExW K C) : hasDictIn K C = true := by
  have h := T.md
  unfold hasDictIn
  cases e : clsIn K C with
  | none => rw [e] at h; cases h
  | some cd =>
    rw [e] at h
    have h' : (refsVE cd.mro && cd.hasDict) = true := h
    exact (Bool.and_eq_true_iff.mp h').2
theorem ExW.cd {K : Frag} {C : Addr} (T : ExW K C) : ∃ cd, clsIn K C = some cd ∧ refsVE cd.mro = true ∧ cd.hasDict = true := by
  have h := T.md
  cases e : clsIn K C with
  | none => rw [e] at h; cases h
  | some cd =>
    rw [e] at h
    have h' : (refsVE cd.mro && cd.hasDict) = true := h
    exact ⟨cd, rfl, Bool.and_eq_true_iff.mp h'⟩

section
variable {prog : Program} {w : World} {A : Around} {E : Value → Shared → Prop} {s : Shared} {K : Frag} {mg mb : Str → Option Value} {C : Addr}

/-- super().__init__(text) within the frame of __init__ -/
theorem sup_call {env : Env} {body : List Stmt} {p0 p1 p2 p3 p4 p5 : Pos} {k : Nat} {txt : Str} {f cc cda x t0 : Addr} {fd : FuncData} {ar : Arg} {vs : Array Value} {file : Str} {tf : Tok} {m : Str → Option Value} {Q : Flow → Shared → Prop}
    {of ocd : Obj} {cl : Value} {cld : Option Addr} {csl : Array (Option Value)}
    (T : ExW K C) (X : K.In s.heap) (G : s.heap.Ns mainGlobals mg) (hsup : mg "super" = none) (B : s.heap.Ns builtinsNs mb) (hB : ∀ y : Str, y ≠ "__name__" → mb y = bootBuiltins y)
    (hany : nsIn K cStatics "thirdparty.any" = some none)
    (ek : env.scope.kind = .function) (eg : env.globals = mainGlobals) (eb : env.builtins = builtinsNs) (e1 : env.kindOf "super" = some .globalImplicit) (e2 : env.kindOf "__class__" = some .free)
    (e3 : env.cells.lookup ("__class__" : Str) = some cc) (e4 : env.func = some f) (e5 : env.code = .ref cda) (e6 : env.kindOf ar.arg = some .local)
    (hi : interactive env = false) (hsw : swapsWith (.Call (.Attribute (.Call (.Name "super" p0) [] [] p1) "__init__" p2) [.Constant (.str txt) k p3] [] p4) none p5.line env = pure false)
    (hcall : ∃ pl : Sem Bool, eval (.Call (.Attribute (.Call (.Name "super" p0) [] [] p1) "__init__" p2) [.Constant (.str txt) k p3] [] p4) env = (do
      let ov ← attributeBase (.Call (.Name "super" p0) [] [] p1) "__init__" env (eval (.Call (.Name "super" p0) [] [] p1) env)
      standAt p2.atName
      let (g, first) ← holding [ov] (getMethod ov "__init__" pl)
      callWith p4 g first (backTo p4 (starEach [.Constant (.str txt) k p3] env)) []))
    (hst : starEach [.Constant (.str txt) k p3] env = (false, eval (.Constant (.str txt) k p3) env) :: starEach [] env)
    (hf : s.heap.get? f = some of) (hfd : of.data = .func fd) (hp : (fd.params.posonlyargs ++ fd.params.args).head? = some ar)
    (hcd : s.heap.get? cda = some ocd) (hcf : ocd.data = .fields vs) (hvs : vs[2]? = some (.str file tf)) (hfile : ((prog.main.file : Str) == file) = true) (htop : (prog.main.scope.names.lookup ("super" : Str)).isSome = false)
    (hcell : K.lookup cc = some ⟨cl, cld, .cell (some (.ref C)), csl⟩) (hn : s.heap.Ns env.locals m) (hv : m ar.arg = some (.ref x)) (hx : s.heap.get? x = some (excO C t0)) (hxC : x ≠ C)
    (hq : ∀ h' tk t1, (∀ b o, b ≠ x → s.heap.get? b = some o → h'.get? b = some o) → h'.get? x = some (excO C t1) → Q .next { s with heap := h', toks := tk }) :
    _root_.PySem.wpAt (model prog w) A (.func body env) (exec (.Expr (.Call (.Attribute (.Call (.Name "super" p0) [] [] p1) "__init__" p2) [.Constant (.str txt) k p3] [] p4) p5) env) Q E s := by
  obtain ⟨pl, hcall⟩ := hcall
  obtain ⟨cd, hD, hmr, hdd⟩ := T.cd
  obtain ⟨hh, g, d, t, os⟩ := s
  obtain ⟨oD, hD1, hD2⟩ : ∃ oD, hh.get? C = some oD ∧ oD.data = .cls cd := by
    have hD' := hD
    unfold clsIn at hD'
    split at hD'
    · rename_i c d cd' sl ho
      cases hD'
      exact ⟨_, X _ _ ho, rfl⟩
    · cases hD'
  refine ks_wpAt_Expr_any ?_ hi hsw
  refine ks_wpAt_MethodCall (pl := pl) ?_ hcall
  refine ks_wpAt_super_base (env := env) e1 e2 rfl e4 hf hfd hp e5 hcd hcf hvs hfile htop ?_
  refine ks_loadName_global ek e1 (loadGlobal_builtin (by rw [eg]; exact G) hsup (by rw [eb]; exact B) ((hB _ (by decide +kernel)).trans (by first | exact boot_super | kernel_rfl)) ⟨rfl, ?_⟩)
  refine wpAny_loadName_free ek e2 e3 ⟨_, X _ _ hcell, rfl⟩ ?_
  refine wpAny_loadName_local ek e6 hn hv ?_
  refine ks_wpAny_isType_cls hD1 hD2 ⟨rfl, ?_⟩
  refine ks_wpAny_call_super hD1 hD2 hx rfl (fun c q => by cases q) (looks_mroIn X T.own) (fun h1 es ks => ?_)
  have X1 : K.In h1 := X.keeps ks
  have hm : alongIn K "__init__" ((cd.mro.dropWhile (· != .ref C)).drop 1) = some (some (.builtin "ValueError.__init__")) := by
    have z := T.sup
    unfold ks_superIn at z
    rw [hD] at z
    exact z
  have hI : Looks (model prog w) h1 (isInstance (.ref x) (.type "ValueError")) true := by
    have I : InstAt h1 x (excO C t0) C none := ⟨ks _ _ hx, rfl, rfl, trivial⟩
    exact I.type.andThen (looks_subIn X1 T.veC)
  refine kxs_getMethod kxs_ValueError es (looks_opaque X1 hany) (l₀ := cd.mro) ?_ rfl X1 hm hI hxC (by decide) ?_
  · exact fun A Q E s k q => wpAny_bind ((looks_clsIn X1 hD) A _ E s k (wpAny_pure q))
  have hu : (h1.push (kxs_mw "ValueError.__init__" x)).get? h1.objs.size = some (kxs_mw "ValueError.__init__" x) := Heap.get?_push_at rfl rfl
  have kp : ∀ b o, h1.get? b = some o → (h1.push (kxs_mw "ValueError.__init__" x)).get? b = some o := fun b o e => Heap.get?_push_of_some _ e
  rw [hst]
  refine kxs_callWith (i := "ValueError.__init__") (x := x) (by rfl) (evalArgs_plain ?_)
  show wpAny _ _ (spliced ((false, eval (.Constant (.str txt) k p3) env) :: [])) _ _ _
  refine spliced_cons (Constant_str (spliced_nil ⟨hu, ?_⟩))
  have hx1 : (h1.push (kxs_mw "ValueError.__init__" x)).get? x = some (excO C t0) := kp _ _ (ks _ _ hx)
  have X2 : K.In (h1.push (kxs_mw "ValueError.__init__" x)) := X1.keeps kp
  obtain ⟨nm, N', qn, bs, bm, hdct, sn, sub, ab, col, dd, k0, k1, k2, k3, k5, hC, hT⟩ := excInit_of X2 T.ini
  refine wpAny_call (codeAny_of_tree ?_)
  show wpAny _ A.in1 (callAny (.ref h1.objs.size) ⟨_, []⟩) _ _ _
  simp only [callAny]
  refine wpAny_bind (wpAny_load hu ?_)
  simp only [kxs_mw, show (Value.type "method-wrapper" == Value.type "method" || Value.type "method-wrapper" == Value.type "builtin_function_or_method" || Value.type "method-wrapper" == Value.type "method-wrapper") = true by decide, if_true]
  refine KFB.if_so (by decide) ?_
  refine wpAny_bind (check_bound_init PySem.F.excBase_ValueError.toExcCallFacts hC hx1 rfl ?_)
  refine wpAny_bind (wpAny_pure (wpAny_pure ?_))
  refine ⟨plainId_quiet PySem.F.excBase_ValueError.init.plain _, codeAny_builtin PySem.F.excBase_ValueError.initEntry ?_⟩
  refine exc_init_tree (e := x) (cls := .ref C) (t0 := t0) (dv := none) (c2 := .none) (c3 := .none) (b4 := .bool false) hx1 (by rw [sizeLine_eq]; exact (by decide : 1 ≤ 16777216)) fun h' k2 e' t' => ?_
  exact hq h' _ _ (fun b o hb ho => k2 b o hb (kp _ _ (ks _ _ ho))) e'
end
end XX

set_option maxHeartbeats 4000000
namespace XX
open PySem PySem.W PySem.Calls PyProof.Rows PySem.HandSPX PySem.Spec
/-! ### the text of __init__ -/
def iArg (x : Str) (p : Pos) : Arg := { arg := x, annotation := none, pos := p }
def iArgs (xs : List Arg) : Arguments := { posonlyargs := [], args := xs, vararg := none, kwonlyargs := [], kw_defaults := [], kwarg := none, defaults := [] }
def iSup (txt : Str) (k : Nat) (p0 p1 p2 p3 p4 p5 : Pos) : Stmt := .Expr (.Call (.Attribute (.Call (.Name "super" p0) [] [] p1) "__init__" p2) [.Constant (.str txt) k p3] [] p4) p5
def iSt (n : Str) (q0 q1 q2 q3 : Pos) : Stmt := .Assign [.Attribute (.Name "self" q0) n q1] (.Name n q2) q3
def iSc (ns : List Str) : Scope := { kind := .function, names := (("self" : Str), NameKind.local) :: ns.map (fun n => (n, NameKind.local)) ++ [(("__class__" : Str), NameKind.free), (("super" : Str), NameKind.globalImplicit)], isGenerator := false, isCoroutine := false, more := [] }

section
variable {prog : Program} {w : World} {A : Around} {E : Value → Shared → Prop} {s : Shared} {K : Frag} {mg mb : Str → Option Value} {C : Addr} {env : Env} {m : Str → Option Value} {x : Addr} {n : Str} {v : Value} {q0 q1 q2 q3 : Pos} {Q : Flow → Shared → Prop}
theorem ld_own {y : Str} {p : Pos} {u : Value} {Q : Value → Shared → Prop} (ek : env.scope.kind = .function) (el : env.kindOf y = some .local) (hn : s.heap.Ns env.locals m) (hv : m y = some u) (hd : (y == ("__debug__" : Str)) = false) (h : Q u s) :
    wpAny (model prog w) A (eval (.Name y p) env) Q E s := wpAny_Name (wpAny_loadName_local ek el hn hv h) hd
/-- self.n = n: the first one -/
theorem st_first {t0 : Addr} (T : ExW K C) (X : K.In s.heap) (hno : findIn K (.ref C) n = some none) (ek : env.scope.kind = .function) (l0 : env.kindOf "self" = some .local) (l1 : env.kindOf n = some .local) (hd : (n == ("__debug__" : Str)) = false)
    (hn : s.heap.Ns env.locals m) (h0 : m "self" = some (.ref x)) (h1 : m n = some v) (hx : s.heap.get? x = some (excO C t0)) (hsw : swapsWith (.Name n q2) (some (.Attribute (.Name "self" q0) n q1)) q3.line env = pure false)
    (hq : ∀ h' tk dx, (∀ b o, b ≠ x → s.heap.get? b = some o → h'.get? b = some o) → s.heap.objs.size ≤ dx → dx ≠ x → h'.get? x = some { cls := .ref C, dict := some dx, data := (excO C t0).data } →
      h'.Ns1 dx (fun y => if y = n then some v else none) → Q .next { s with heap := h', toks := tk }) :
    wpAny (model prog w) A (exec (iSt n q0 q1 q2 q3) env) Q E s := by
  obtain ⟨cd, hD, hmr, hdd⟩ := T.cd
  refine plainObj_wpAny_Assign_Attribute ?_ hsw
  refine ld_own ek l1 hn h1 hd (ld_own ek l0 hn h0 (by decide) ?_)
  refine set_plain X (ox := excO C t0) (od := none) ⟨hx, rfl, rfl, trivial⟩ T.sa ?_
  obtain ⟨hp, g, d, t, os⟩ := s
  exact exc_osa X hx hD hmr hdd hno fun h3 tk3 dx k3 dn dne hx3 hn3 => hq h3 tk3 dx k3 dn dne hx3 hn3
/-- self.n = n: a further one -/
theorem st_next {t0 dx : Addr} {m0 : Str → Option Value} {nl : List Str} (T : ExW K C) (X : K.In s.heap) (hno : findIn K (.ref C) n = some none) (ek : env.scope.kind = .function) (l0 : env.kindOf "self" = some .local) (l1 : env.kindOf n = some .local) (hd : (n == ("__debug__" : Str)) = false)
    (hn : s.heap.Ns env.locals m) (h0 : m "self" = some (.ref x)) (h1 : m n = some v) (hx : s.heap.get? x = some { cls := .ref C, dict := some dx, data := (excO C t0).data }) (hns : s.heap.Ns1 dx m0) (hw : Within m0 nl) (hz : nl.length ≤ 1000)
    (hsw : swapsWith (.Name n q2) (some (.Attribute (.Name "self" q0) n q1)) q3.line env = pure false)
    (hq : ∀ h' tk, (∀ b o, b ≠ dx → s.heap.get? b = some o → h'.get? b = some o) → h'.Ns1 dx (fun y => if y = n then some v else m0 y) → Q .next { s with heap := h', toks := tk }) :
    wpAny (model prog w) A (exec (iSt n q0 q1 q2 q3) env) Q E s := by
  obtain ⟨cd, hD, hmr, hdd⟩ := T.cd
  obtain ⟨oD, esD, epD, hoD, hdD, _⟩ := hns.count hw
  refine plainObj_wpAny_Assign_Attribute ?_ hsw
  refine ld_own ek l1 hn h1 hd (ld_own ek l0 hn h0 (by decide) ?_)
  refine set_plain X (ox := { cls := .ref C, dict := some dx, data := (excO C t0).data }) (od := some oD) ⟨hx, rfl, rfl, hoD⟩ T.sa ?_
  obtain ⟨hp, g, d, t, os⟩ := s
  exact PySem.OEX.osa_old X hx hns hw hz hD hmr hdd hno fun h3 tk3 k3 hn3 => hq h3 tk3 k3 hn3
end

/-- what stands behind a made exception: its own dict at d holds m -/
structure Made (h h' : Heap) (e C d : Addr) (m : Str → Option Value) : Prop where
  keep : ∀ b o, h.get? b = some o → h'.get? b = some o
  new : h.objs.size ≤ e
  obj : ∃ oe vs, h'.get? e = some oe ∧ oe.cls = .ref C ∧ oe.dict = some d ∧ oe.data = .fields vs ∧ vs[1]? = some .none
  dbig : h.objs.size ≤ d
  dne : d ≠ e
  ns : h'.Ns1 d m
/-- the maker's function object: its code's file, its cell -/
structure IFn (prog : Program) (K : Frag) (C fI : Addr) (qual : Str) (params : Arguments) (body : List Stmt) (scope : Scope) : Prop where
  iC : findIn K (.ref C) "__init__" = some (some (.ref fI))
  tI : typeIn K (.ref fI) = some (.type "function")
  fn : ∃ (oc : Value) (od : Option Addr) (kV doc pm ct : Value) (an : Option Addr) (cda cc : Addr) (osl : Array (Option Value)),
    K.lookup fI = some ⟨oc, od, .func (ksFn "__init__" qual params body scope .none kV doc pm an (.ref cda) ct cc), osl⟩ ∧ codeIn K (.ref cda) qual = true ∧
    (∃ ccl cdd vs ccs file tf, K.lookup cda = some ⟨ccl, cdd, .fields vs, ccs⟩ ∧ vs[2]? = some (.str file tf) ∧ ((prog.main.file : Str) == file) = true) ∧
    ∃ cl cld csl, K.lookup cc = some ⟨cl, cld, .cell (some (.ref C)), csl⟩
/-- the call of super().__init__ as the model spells it (its positions stand on one line) -/
def SupOn (txt : Str) (k : Nat) (p0 p1 p2 p3 p4 : Pos) : Prop := ∀ env : Env, ∃ pl : Sem Bool, eval (.Call (.Attribute (.Call (.Name "super" p0) [] [] p1) "__init__" p2) [.Constant (.str txt) k p3] [] p4) env = (do
      let ov ← attributeBase (.Call (.Name "super" p0) [] [] p1) "__init__" env (eval (.Call (.Name "super" p0) [] [] p1) env)
      standAt p2.atName
      let (g, first) ← holding [ov] (getMethod ov "__init__" pl)
      callWith p4 g first (backTo p4 (starEach [.Constant (.str txt) k p3] env)) [])
/-- one name | two names behind self -/
structure Sh1 (n : Str) (params : Arguments) (body : List Stmt) (scope : Scope) : Prop where
  sh : ∃ txt k pa pb p0 p1 p2 p3 p4 p5 q0 q1 q2 q3, params = iArgs [iArg "self" pa, iArg n pb] ∧ body = [iSup txt k p0 p1 p2 p3 p4 p5, iSt n q0 q1 q2 q3] ∧ scope = iSc [n] ∧ SupOn txt k p0 p1 p2 p3 p4
structure Sh2 (n n' : Str) (params : Arguments) (body : List Stmt) (scope : Scope) : Prop where
  sh : ∃ txt k pa pb pc p0 p1 p2 p3 p4 p5 q0 q1 q2 q3 r0 r1 r2 r3, params = iArgs [iArg "self" pa, iArg n pb, iArg n' pc] ∧ body = [iSup txt k p0 p1 p2 p3 p4 p5, iSt n q0 q1 q2 q3, iSt n' r0 r1 r2 r3] ∧ scope = iSc [n, n'] ∧ SupOn txt k p0 p1 p2 p3 p4
/-- the module's part of the heap, as a def's walk knows it -/
structure Wd (K : Frag) (mg : Str → Option Value) (h : Heap) : Prop where
  kin : K.In h
  glob : h.Ns mainGlobals mg
  blt : ∃ mb, h.Ns builtinsNs mb ∧ ∀ y : Str, y ≠ "__name__" → mb y = bootBuiltins y
  lim : h.NoLimit
/-- what is read off the written names -/
structure Nm2 (n n' : Str) : Prop where
  sl : (iSc [n, n']).names.lookup ("self" : Str) = some .local
  nl : (iSc [n, n']).names.lookup n = some .local
  nl' : (iSc [n, n']).names.lookup n' = some .local
  cls : (iSc [n, n']).names.lookup ("__class__" : Str) = some .free
  sup : (iSc [n, n']).names.lookup ("super" : Str) = some .globalImplicit
  b0 : ∀ a b c : Value, List.lookup ("self" : Str) [(n', c), (n, b), (("self" : Str), a)] = some a
  b1 : ∀ a b c : Value, List.lookup n [(n', c), (n, b), (("self" : Str), a)] = some b
  d0 : (n == ("__debug__" : Str)) = false
  d1 : (n' == ("__debug__" : Str)) = false
  bd : ∀ (qual : Str) (pa pb pc : Pos) (body : List Stmt) (kV doc pm : Value) (an : Option Addr) (cdv ct : Value) (cc : Addr) (a b c : Value), bindArgs (ksFn "__init__" qual (iArgs [iArg "self" pa, iArg n pb, iArg n' pc]) body (iSc [n, n']) .none kV doc pm an cdv ct cc) ⟨[a, b, c], []⟩ = pure [(("self" : Str), a), (n, b), (n', c)]
structure Nm1 (n : Str) : Prop where
  sl : (iSc [n]).names.lookup ("self" : Str) = some .local
  nl : (iSc [n]).names.lookup n = some .local
  cls : (iSc [n]).names.lookup ("__class__" : Str) = some .free
  sup : (iSc [n]).names.lookup ("super" : Str) = some .globalImplicit
  b0 : ∀ a b : Value, List.lookup ("self" : Str) [(n, b), (("self" : Str), a)] = some a
  d0 : (n == ("__debug__" : Str)) = false
  bd : ∀ (qual : Str) (pa pb : Pos) (body : List Stmt) (kV doc pm : Value) (an : Option Addr) (cdv ct : Value) (cc : Addr) (a b : Value), bindArgs (ksFn "__init__" qual (iArgs [iArg "self" pa, iArg n pb]) body (iSc [n]) .none kV doc pm an cdv ct cc) ⟨[a, b], []⟩ = pure [(("self" : Str), a), (n, b)]
theorem nm2_word_place : Nm2 "word" "place" := ⟨rfl, rfl, rfl, rfl, rfl, fun _ _ _ => rfl, fun _ _ _ => rfl, by decide, by decide, fun _ _ _ _ _ _ _ _ _ _ _ _ _ _ _ => rfl⟩
theorem nm1_line : Nm1 "line" := ⟨rfl, rfl, rfl, rfl, fun _ _ => rfl, by decide, fun _ _ _ _ _ _ _ _ _ _ _ _ _ => rfl⟩
section
variable {prog : Program} {w : World} {A : Around} {R : Result → Shared → Prop} {s : Shared} {K : Frag} {mg : Str → Option Value} {C fI : Addr} {qual : Str} {params : Arguments} {body : List Stmt} {scope : Scope} {n n' : Str}
theorem ns_keep {h h' : Heap} {L x : Addr} {m : Str → Option Value} (hn : h.Ns L m) (k : ∀ b o, b ≠ x → h.get? b = some o → h'.get? b = some o) (ne : L ≠ x) : h'.Ns L m := by
  obtain ⟨oL, es, ep, hL, rL⟩ := hn
  exact ⟨oL, es, ep, k _ _ ne hL, rL⟩
theorem kin_keep {h h' : Heap} {x : Addr} (X : K.In h) (hx : K.lookup x = none) (k : ∀ b o, b ≠ x → h.get? b = some o → h'.get? b = some o) : K.In h' := fun a o e => k a o (fun z => by rw [z, hx] at e; cases e) (X a o e)
theorem init_two (T : ExW K C) (F : IFn prog K C fI qual params body scope) (S : Sh2 n n' params body scope) (M : Nm2 n n') (hsup : mg "super" = none) (hany : nsIn K cStatics "thirdparty.any" = some none) (htop : (prog.main.scope.names.lookup ("super" : Str)).isSome = false)
    (c1 : findIn K (.ref C) n = some none) (c2 : findIn K (.ref C) n' = some none) {x t0 : Addr} {v v' : Value} (W : Wd K mg s.heap) (hx : s.heap.get? x = some (excO C t0)) (hKx : K.lookup x = none) (hroom : A.depth < recursionLimit)
    (hq : ∀ h' tk dx, (∀ b o, b ≠ x → s.heap.get? b = some o → h'.get? b = some o) → (∃ t1, h'.get? x = some { cls := .ref C, dict := some dx, data := (excO C t1).data }) → s.heap.objs.size ≤ dx → dx ≠ x →
      h'.Ns1 dx (fun y => if y = n' then some v' else if y = n then some v else none) → R (.ok (.ret .none)) { s with heap := h', toks := tk }) :
    codeAny (model prog w) A (.call (.ref fI) ⟨[.ref x, v, v'], []⟩) R s := by
  obtain ⟨oc, od, kV, doc, pm, ct, an, cda, cc, osl, ho, hcd, ⟨ccl, cdd, vs, ccs, file, tf, hcda, hvs, hfile⟩, cl, cld, csl, hcell⟩ := F.fn
  obtain ⟨txt, k, pa, pb, pc, p0, p1, p2, p3, p4, p5, q0, q1, q2, q3, r0, r1, r2, r3, rfl, rfl, rfl, son⟩ := S.sh
  obtain ⟨mb, B, hB⟩ := W.blt
  have hxC : x ≠ C := by
    obtain ⟨cd, hD, _⟩ := T.cd
    intro z
    subst z
    unfold clsIn at hD
    rw [hKx] at hD
    cases hD
  refine ks_codeAny_call_defAt (binds := [("self", .ref x), (n, v), (n', v')]) hroom (W.kin _ _ ho) rfl W.lim (codeRec_of W.kin hcd) rfl (BindsTo.of_eq (M.bd _ _ _ _ _ _ _ _ _ _ _ _ _ _ _)) ?_ ?_ (fun h1 hns k1 => ?_) rfl rfl rfl
  · intro y hy
    simp [iSc] at hy
    rcases hy with rfl | rfl | rfl | rfl | rfl <;> simp
  · intro y hy
    simp at hy
    rcases hy with rfl | rfl | rfl
    · exact M.sl
    · exact M.nl
    · exact M.nl'
  · have b0 := M.b0 (.ref x) v v'
    have b1 := M.b1 (.ref x) v v'
    have b2 : List.lookup n' [(n', v'), (n, v), (("self" : Str), Value.ref x)] = some v' := by simp [List.lookup]
    have X1 : K.In h1 := W.kin.keeps k1
    refine ks_wpAt_execs_cons ?_
    refine sup_call (ar := iArg "self" pa) (s := { s with heap := h1, toks := _ }) T X1 (W.glob.keeps k1) hsup (B.keeps k1) hB hany rfl rfl rfl M.sup M.cls rfl rfl rfl M.sl rfl rfl (son _) rfl (k1 _ _ (W.kin _ _ ho)) rfl rfl (k1 _ _ (W.kin _ _ hcda)) rfl hvs hfile htop hcell hns b0 (k1 _ _ hx) hxC fun h2 tk2 t2 k2 hx2 => ?_
    have Lx : s.heap.objs.size ≠ x := Nat.ne_of_gt (Heap.lt_size hx)
    have hns2 := ns_keep hns k2 Lx
    have X2 : K.In h2 := kin_keep X1 hKx k2
    refine wpAt_of_wpAny (wpAny_execs_cons ?_)
    refine st_first (x := x) (v := v) T X2 c1 rfl M.sl M.nl M.d0 hns2 b0 b1 hx2 rfl fun h3 tk3 dx k3 dn dne hx3 hn3 => ?_
    have dL : s.heap.objs.size ≠ dx := fun z => by
      obtain ⟨_, _, _, hL, _⟩ := hns2
      exact absurd (Nat.lt_of_lt_of_le (Heap.lt_size hL) dn) (by rw [z]; exact Nat.lt_irrefl _)
    have hns3 := ns_keep hns2 k3 Lx
    have X3 : K.In h3 := kin_keep X2 hKx k3
    refine wpAny_execs_cons ?_
    refine st_next (x := x) (v := v') (nl := [n]) T X3 c2 rfl M.sl M.nl' M.d1 hns3 b0 b2 hx3 hn3 (Within.cons n v Within.nil) (show 1 ≤ 1000 by decide) rfl fun h4 tk4 k4 hn4 => ?_
    refine wpAny_execs_nil (hq h4 _ dx (fun b o hb hbo => ?_) ⟨t2, ?_⟩ ?_ dne hn4)
    · have lt : b < s.heap.objs.size := Heap.lt_size hbo
      have hb3 := k3 b o hb (k2 b o hb (k1 b o hbo))
      refine k4 b o (fun z => ?_) hb3
      have q2 : h2.get? b = some o := k2 b o hb (k1 b o hbo)
      rw [z] at q2
      exact absurd (Nat.lt_of_lt_of_le (Heap.lt_size q2) dn) (Nat.lt_irrefl _)
    · exact k4 x _ dne.symm hx3
    · obtain ⟨_, _, _, hL, _⟩ := hns2
      exact Nat.le_trans (Nat.le_of_lt (Heap.lt_size hL)) dn
theorem init_one (T : ExW K C) (F : IFn prog K C fI qual params body scope) (S : Sh1 n params body scope) (M : Nm1 n) (hsup : mg "super" = none) (hany : nsIn K cStatics "thirdparty.any" = some none) (htop : (prog.main.scope.names.lookup ("super" : Str)).isSome = false)
    (c1 : findIn K (.ref C) n = some none) {x t0 : Addr} {v : Value} (W : Wd K mg s.heap) (hx : s.heap.get? x = some (excO C t0)) (hKx : K.lookup x = none) (hroom : A.depth < recursionLimit)
    (hq : ∀ h' tk dx, (∀ b o, b ≠ x → s.heap.get? b = some o → h'.get? b = some o) → (∃ t1, h'.get? x = some { cls := .ref C, dict := some dx, data := (excO C t1).data }) → s.heap.objs.size ≤ dx → dx ≠ x →
      h'.Ns1 dx (fun y => if y = n then some v else none) → R (.ok (.ret .none)) { s with heap := h', toks := tk }) :
    codeAny (model prog w) A (.call (.ref fI) ⟨[.ref x, v], []⟩) R s := by
  obtain ⟨oc, od, kV, doc, pm, ct, an, cda, cc, osl, ho, hcd, ⟨ccl, cdd, vs, ccs, file, tf, hcda, hvs, hfile⟩, cl, cld, csl, hcell⟩ := F.fn
  obtain ⟨txt, k, pa, pb, p0, p1, p2, p3, p4, p5, q0, q1, q2, q3, rfl, rfl, rfl, son⟩ := S.sh
  obtain ⟨mb, B, hB⟩ := W.blt
  have hxC : x ≠ C := by
    obtain ⟨cd, hD, _⟩ := T.cd
    intro z
    subst z
    unfold clsIn at hD
    rw [hKx] at hD
    cases hD
  refine ks_codeAny_call_defAt (binds := [("self", .ref x), (n, v)]) hroom (W.kin _ _ ho) rfl W.lim (codeRec_of W.kin hcd) rfl (BindsTo.of_eq (M.bd _ _ _ _ _ _ _ _ _ _ _ _ _)) ?_ ?_ (fun h1 hns k1 => ?_) rfl rfl rfl
  · intro y hy
    simp [iSc] at hy
    rcases hy with rfl | rfl | rfl | rfl <;> simp
  · intro y hy
    simp at hy
    rcases hy with rfl | rfl
    · exact M.sl
    · exact M.nl
  · have b0 := M.b0 (.ref x) v
    have b1 : List.lookup n [(n, v), (("self" : Str), Value.ref x)] = some v := by simp [List.lookup]
    have X1 : K.In h1 := W.kin.keeps k1
    refine ks_wpAt_execs_cons ?_
    refine sup_call (ar := iArg "self" pa) (s := { s with heap := h1, toks := _ }) T X1 (W.glob.keeps k1) hsup (B.keeps k1) hB hany rfl rfl rfl M.sup M.cls rfl rfl rfl M.sl rfl rfl (son _) rfl (k1 _ _ (W.kin _ _ ho)) rfl rfl (k1 _ _ (W.kin _ _ hcda)) rfl hvs hfile htop hcell hns b0 (k1 _ _ hx) hxC fun h2 tk2 t2 k2 hx2 => ?_
    have Lx : s.heap.objs.size ≠ x := Nat.ne_of_gt (Heap.lt_size hx)
    have hns2 := ns_keep hns k2 Lx
    have X2 : K.In h2 := kin_keep X1 hKx k2
    refine wpAt_of_wpAny (wpAny_execs_cons ?_)
    refine st_first (x := x) (v := v) T X2 c1 rfl M.sl M.nl M.d0 hns2 b0 b1 hx2 rfl fun h3 tk3 dx k3 dn dne hx3 hn3 => ?_
    refine wpAny_execs_nil (hq h3 _ dx (fun b o hb hbo => k3 b o hb (k2 b o hb (k1 b o hbo))) ⟨t2, hx3⟩ ?_ dne hn3)
    obtain ⟨_, _, _, hL, _⟩ := hns2
    exact Nat.le_trans (Nat.le_of_lt (Heap.lt_size hL)) dn
end
end XX

set_option maxHeartbeats 4000000
namespace XX
open PySem PySem.W PySem.Calls PyProof.Rows PySem.HandSPX PySem.Spec
section
variable {prog : Program} {w : World} {A : Around} {R : Result → Shared → Prop} {s : Shared} {K : Frag} {mg : Str → Option Value} {C fI : Addr}
/-- C(us): __init__ is called on the new exception and leaves its dict at dx as m -/
theorem made_of (T : ExW K C) (iC : findIn K (.ref C) "__init__" = some (some (.ref fI))) (tI : typeIn K (.ref fI) = some (.type "function")) (W : Wd K mg s.heap) (hroom : A.depth + 1 < recursionLimit) {us : List Value} {m : Str → Option Value} (hl : us.length ≤ 1000)
    (hi : ∀ {A' : Around} {R' : Result → Shared → Prop} {s' : Shared} {x t0 : Addr}, A'.depth < recursionLimit → Wd K mg s'.heap → s'.heap.get? x = some (excO C t0) → K.lookup x = none →
      (∀ h' tk dx, (∀ b o, b ≠ x → s'.heap.get? b = some o → h'.get? b = some o) → (∃ t1, h'.get? x = some { cls := .ref C, dict := some dx, data := (excO C t1).data }) → s'.heap.objs.size ≤ dx → dx ≠ x →
        h'.Ns1 dx m → R' (.ok (.ret .none)) { s' with heap := h', toks := tk }) → codeAny (model prog w) A' (.call (.ref fI) ⟨.ref x :: us, []⟩) R' s')
    (hq : ∀ h' tk e d, Made s.heap h' e C d m → R (.ok (.ret (.ref e))) { s with heap := h', toks := tk }) :
    codeAny (model prog w) A (.call (.ref C) ⟨us, []⟩) R s := by
  obtain ⟨nm, N', qn, bs, bm, hdct, sn, sub, ab, col, dd, k0, k1, k2, k3, k5, hC, hT⟩ := excInit_of W.kin T.ini
  obtain ⟨hp, g, dr, tk, os⟩ := s
  have k : ∀ b o, hp.get? b = some o → ((hp.push (kdv_tup us)).push (excO C hp.objs.size)).get? b = some o := fun b o e => Heap.get?_push_of_some _ (Heap.get?_push_of_some _ e)
  have hget : ((hp.push (kdv_tup us)).push (excO C hp.objs.size)).get? (hp.objs.size + 1) = some (excO C hp.objs.size) := by heap_get
  have hnx : K.lookup (hp.objs.size + 1) = none := by
    cases e : K.lookup (hp.objs.size + 1) with
    | none => rfl
    | some o =>
      have z : hp.get? (hp.objs.size + 1) = some o := W.kin _ _ e
      exact absurd (Nat.lt_of_succ_lt (Heap.lt_size z)) (Nat.lt_irrefl _)
  have hsz : us.length ≤ sizeLine := Nat.le_trans hl (by decide)
  refine call_own PySem.F.excBase_ValueError hT hC (looks_findIn W.kin iC) (fun self => bind_fn W.kin self tI) hsz ?_
  obtain ⟨mb, B, hB⟩ := W.blt
  have W2 : Wd K mg ((hp.push (kdv_tup us)).push (excO C hp.objs.size)) := ⟨W.kin.keeps k, W.glob.keeps k, ⟨mb, B.keeps k, hB⟩, W.lim.keeps k⟩
  refine hi (s' := ⟨(hp.push (kdv_tup us)).push (excO C hp.objs.size), g, dr, tk, os⟩) (x := hp.objs.size + 1) hroom W2 hget hnx fun h' tk' dx k' ⟨t1, hx⟩ dn dne hns => ?_
  have old : ∀ b o, hp.get? b = some o → h'.get? b = some o := fun b o e => k' b o (Nat.ne_of_lt (Nat.lt_succ_of_lt (Heap.lt_size e))) (k b o e)
  have z : hp.objs.size + 1 + 1 ≤ dx := by
    have q := dn
    rw [Heap.size_push, Heap.size_push] at q
    exact q
  exact ⟨rfl, hq h' tk' (hp.objs.size + 1) dx ⟨old, Nat.le_succ _, ⟨_, _, hx, rfl, rfl, rfl, rfl⟩, Nat.le_trans (Nat.le_trans (Nat.le_succ _) (Nat.le_succ _)) z, dne, hns⟩⟩
end
end XX
namespace L2
open PySem PySem.Spec PyProof.Rows XX
theorem Inv.wd {X : Cx} {pins : List (Addr × Obj)} {σ : St} {H : Hp} {s : Shared} (I : Inv X pins σ H s) : Wd X.K X.mg s.heap :=
  ⟨I.kIn, I.mod.glob.keeps I.bk, let ⟨mb, h1, h2⟩ := I.mod.blt; ⟨mb, h1.keeps I.bk, h2⟩, I.nolimit⟩
/-- C(args): an exception of the class at C, its own dict (new) holds the arguments by these names -/
def tMkX (C : Addr) (ns : List Str) (ta : TA) : St → Hp → XK → Prop := fun σ H Q => ta σ H fun vs H1 => vs.length = ns.length ∧ ∀ d, H1 d = none → Q (.ref C) (some d) (upd H1 d (.xd (ns.zip vs)))
theorem lookup_zip1 (n : Str) (v : V) (f : Str) : List.lookup f [(n, v)] = if f = n then some v else none := by
  by_cases h : f = n
  · subst h
    simp [List.lookup]
  · have e : (f == n) = false := by simpa using h
    simp [List.lookup, e, h]
theorem lookup_zip2 (n n' : Str) (v v' : V) (f : Str) : List.lookup f [(n, v), (n', v')] = if f = n then some v else if f = n' then some v' else none := by
  by_cases h : f = n
  · subst h
    simp [List.lookup]
  · have e : (f == n) = false := by simpa using h
    simp only [List.lookup, e, h, if_false]
    exact lookup_zip1 n' v' f
section
variable {X : Cx} {C fI : Addr} {qual : Str} {params : Arguments} {body : List Stmt} {scope : Scope} {n n' : Str}
/-- the end of a making: the exception itself is let go, its dict stands -/
theorem mk_endX {pins : List (Addr × Obj)} {σ : St} {H1 : Hp} {s1 : Shared} {h' : Heap} {tk : Nat} {e d : Addr} {m : Str → Option Value} {fs : List (Str × V)} {Q : XK} (T : ExW X.K C) (I1 : Inv X pins σ H1 s1) (M : Made s1.heap h' e C d m)
    (hr : ∀ f, RelO (fs.lookup f) (m f)) (q : Q (.ref C) (some d) (upd H1 d (.xd fs))) : MkP X pins σ Q (.ref e) { s1 with heap := h', toks := tk } := by
  obtain ⟨hp, g, dr, tk0, os⟩ := s1
  obtain ⟨oe, fv, hoe, hc, hd, hdat, h1⟩ := M.obj
  have hns := M.ns
  obtain ⟨G', g1, g2⟩ := restrict h' fun b => decide (b ≠ e)
  have gk : ∀ b, b ≠ e → G'.get? b = h'.get? b := fun b hb => g1 b (decide_eq_true hb)
  have ge : G'.get? e = none := g2 e (by simp)
  have old : ∀ b o, hp.get? b = some o → G'.get? b = some o := fun b o z => (gk b (Nat.ne_of_lt (Nat.lt_of_lt_of_le (Heap.lt_size z) M.new))).trans (M.keep b o z)
  have ob : ObjOk X.prog X.w (upd H1 d (.xd fs)) G' d (.xd fs) := ⟨m, hns.at (fun o z => (gk d M.dne).trans z), hr⟩
  have J : Inv X pins σ (upd H1 d (.xd fs)) ⟨G', g, dr, tk, os⟩ := I1.laid (t' := tk) old M.dbig ob
  refine ⟨e, oe, fv, ⟨G', g, dr, tk, os⟩, _, .ref C, some d, rfl, J, fun b o z => ?_, ge, hoe, ⟨hc, hd⟩, hdat, h1, ?_, rfl, I1.bare, raises_own T.exC T.tyC, q⟩
  · by_cases hb : b = e
    · have z' : G'.get? b = some o := z
      rw [hb, ge] at z'
      cases z'
    · exact (gk b hb).symm.trans z
  · rw [upd_ne (Ne.symm M.dne)]
    exact I1.hok.fresh M.new
theorem pmk_two {x : Str} {a : Expr} {es : List Expr} {ta : TA} {p pos : Pos} {k : Nat} (T : ExW X.K C) (F : IFn X.prog X.K C fI qual params body scope) (S : Sh2 n n' params body scope) (M : Nm2 n n') (hsup : X.mg "super" = none) (hany : PySem.W.nsIn X.K cStatics "thirdparty.any" = some none)
    (htop : (X.prog.main.scope.names.lookup ("super" : Str)).isSome = false) (c1 : PySem.W.findIn X.K (.ref C) n = some none) (c2 : PySem.W.findIn X.K (.ref C) n' = some none) (dn : n' ≠ n) (hr : Room k X.A) (hm : X.mg x = some (.ref C)) (ha : PA X (a :: es) ta) (hg : Gl X x := by rfl)
    (hdb : (x == ("__debug__" : Str)) = false := by decide)
    (he : starEach (a :: es) X.env = (false, eval a X.env) :: starEach es X.env := by rfl) (hpl : (backTo pos (starEach es X.env)).any (·.1) = false := by rfl) :
    PMk X (.Call (.Name x p) (a :: es) [] pos) (tMkX C [n, n'] ta) := by
  intro pins s σ H Q I h
  refine wpAny_Call_Name_kw (ld_glob I hg hm ?_ hdb)
  refine PySem.W.callWith_K (h₀ := X.base) I.ok.mod.kin T.kC (thn (ha.run pos pins s σ H _ I h) fun us s1 hh => ?_) he hpl
  obtain ⟨vs, H1, I1, r1, hl, q1⟩ := hh
  refine ⟨I1.kIn, ?_⟩
  match vs, hl with
  | [v, v'], _ =>
    cases r1 with
    | cons rv r2 =>
      cases r2 with
      | cons rv' rn =>
        cases rn
        rename_i u u'
        refine wpAny_call (made_of (us := [u, u']) (m := fun y => if y = n' then some u' else if y = n then some u else none) T F.iC F.tI I1.wd (by have := hr.dp; omega) (by decide : 2 ≤ 1000) (fun {A' R' s' x' t0} hroom W hx hKx hq => init_two T F S M hsup hany htop c1 c2 W hx hKx hroom hq) fun h' tk' e d MM => ?_)
        refine mk_endX T I1 MM (fun f => ?_) (q1 d (I1.hok.fresh MM.dbig))
        show RelO (List.lookup f [(n, v), (n', v')]) _
        rw [lookup_zip2]
        by_cases h1 : f = n
        · have h2 : ¬ f = n' := fun z => dn (z.symm.trans h1)
          rw [if_pos h1, if_neg h2, if_pos h1]
          exact rv
        · rw [if_neg h1]
          by_cases h2 : f = n'
          · rw [if_pos h2, if_pos h2]
            exact rv'
          · rw [if_neg h2, if_neg h2, if_neg h1]
            trivial
theorem pmk_one {x : Str} {a : Expr} {ta : TA} {p pos : Pos} {k : Nat} (T : ExW X.K C) (F : IFn X.prog X.K C fI qual params body scope) (S : Sh1 n params body scope) (M : Nm1 n) (hsup : X.mg "super" = none) (hany : PySem.W.nsIn X.K cStatics "thirdparty.any" = some none)
    (htop : (X.prog.main.scope.names.lookup ("super" : Str)).isSome = false) (c1 : PySem.W.findIn X.K (.ref C) n = some none) (hr : Room k X.A) (hm : X.mg x = some (.ref C)) (ha : PA X [a] ta) (hg : Gl X x := by rfl)
    (hdb : (x == ("__debug__" : Str)) = false := by decide)
    (he : starEach [a] X.env = (false, eval a X.env) :: starEach [] X.env := by rfl) (hpl : (backTo pos (starEach [] X.env)).any (·.1) = false := by rfl) :
    PMk X (.Call (.Name x p) [a] [] pos) (tMkX C [n] ta) := by
  intro pins s σ H Q I h
  refine wpAny_Call_Name_kw (ld_glob I hg hm ?_ hdb)
  refine PySem.W.callWith_K (h₀ := X.base) I.ok.mod.kin T.kC (thn (ha.run pos pins s σ H _ I h) fun us s1 hh => ?_) he hpl
  obtain ⟨vs, H1, I1, r1, hl, q1⟩ := hh
  refine ⟨I1.kIn, ?_⟩
  match vs, hl with
  | [v], _ =>
    cases r1 with
    | cons rv rn =>
      cases rn
      rename_i u
      refine wpAny_call (made_of (us := [u]) (m := fun y => if y = n then some u else none) T F.iC F.tI I1.wd (by have := hr.dp; omega) (by decide : 1 ≤ 1000) (fun {A' R' s' x' t0} hroom W hx hKx hq => init_one T F S M hsup hany htop c1 W hx hKx hroom hq) fun h' tk' e d MM => ?_)
      refine mk_endX T I1 MM (fun f => ?_) (q1 d (I1.hok.fresh MM.dbig))
      show RelO (List.lookup f [(n, v)]) _
      rw [lookup_zip1]
      by_cases h1 : f = n
      · rw [if_pos h1, if_pos h1]
        exact rv
      · rw [if_neg h1, if_neg h1]
        trivial
end
end L2

set_option maxHeartbeats 4000000
namespace XX
open PySem PySem.W PySem.Calls PyProof.Rows PySem.HandSPX PySem.Spec L2
def excCB (K : Frag) (D : Addr) : Bool :=
  decide (findIn K (.ref D) "__getattribute__" = some (some (.builtin "BaseException.__getattribute__"))) && (decide (findIn K (.ref D) "__getattr__" = some none) && (decide (subIn K (.ref D) (.type "BaseException") = some true) &&
  (hasDictIn K D && (decide (findIn K (.ref D) "__class__" = some (some (.builtin "object.__class__"))) && (decide (specialIn K (.builtin "object.__class__") "__get__" = some (some (.builtin "getset_descriptor.__get__"))) &&
  (decide (takesIn K (.builtin "object.__class__") = some true) && decide (mroIn K D (.type "object") = some true)))))))
theorem excCB_ok {K : Frag} {D : Addr} (h : excCB K D = true) : ExcC K D := by
  simp only [excCB, Bool.and_eq_true, decide_eq_true_eq] at h
  obtain ⟨h1, h2, h3, h4, h5, h6, h7, h8⟩ := h
  exact ⟨h1, h2, h3, h4, h5, h6, h7, h8⟩
section
variable {prog : Program} {w : World} {A : Around} {E : Value → Shared → Prop} {s : Shared} {K : Frag} {x D : Addr} {ox : Obj} {od : Option Obj}
theorem found_cls (C : ExcC K D) : findObj K D od "__class__" = some (.bind (.builtin "getset_descriptor.__get__") (.builtin "object.__class__")) := by
  obtain ⟨cd, hc, _⟩ := any_some C.hd
  unfold findObj
  rw [hc, Option.bind_some, C.ha, Option.bind_some]
  simp [C.hn, C.ht]
/-- e.__class__ of an exception, with or without a dict of its own -/
theorem cls_of (C : ExcC K D) (X : K.In s.heap) (I : InstAt s.heap x ox D od) {Q : Option Value → Shared → Prop} (h : Q (some (.ref D)) { s with toks := s.toks + 1 }) : wpAny (model prog w) A (getAttr? (.ref x) "__class__") Q E s := by
  obtain ⟨hp, g, d, t, os⟩ := s
  have gaNe : (Value.builtin "BaseException.__getattribute__" == Value.builtin "object.__getattribute__") = false := by decide +kernel
  have noHook : (onTheHeap (Value.ref D) && (Value.builtin "BaseException.__getattribute__" == Value.builtin "object.__getattribute__")) = false := by rw [gaNe]; rfl
  have isB : Looks (model prog w) hp (isInstance (.ref x) (.type "BaseException")) true := I.type.andThen (looks_subIn X C.hs)
  unfold getAttr? getAttrBy? getAttrBy
  refine wpAny_bind (wpAny_mkText (wpAny_bind (wpAny_attempt (wpAny_holding (wpAny_bind (I.type.at (wpAny_bind ((looks_findIn X C.hg).at ?_))))))))
  show wpAny _ _ (if (onTheHeap (Value.ref D) && (Value.builtin "BaseException.__getattribute__" == Value.builtin "object.__getattribute__")) = true then _ else _) _ _ _
  rw [noHook, if_neg Bool.false_ne_true]
  unfold getAttrByItsOwn hookBefore
  refine wpAny_bind ?_
  have onH : onTheHeap (Value.ref D) = true := rfl
  rw [if_pos onH]
  refine (looks_findIn X C.hk).at (wpAny_bind (wpAny_attempt (wpAny_holding ?_)))
  unfold callGetattribute
  rw [if_neg (show ¬ (false && onTheHeap (Value.builtin "BaseException.__getattribute__")) = true by decide)]
  unfold boundAndCalled
  rw [PySem.F.excAttr_ValueError.ga.bind (.ref x)]
  refine wpAny_bind (wpAny_pure ?_)
  show wpAny _ _ (call (.builtin "BaseException.__getattribute__") [.ref x, .str "__class__" t]) _ _ _
  refine wpAny_call (codeAny_call_builtin PySem.F.excAttr_ValueError.ga.plain PySem.F.entry_bexc_ga ?_)
  refine @check_slot (model prog w) _ _ ⟨hp, g, d, t + 1, os⟩ "BaseException.__getattribute__" "BaseException" "__getattribute__" (.ref x) [.str "__class__" t] [] _ (by decide +kernel) (by decide +kernel) isB (PySem.F.args_bexc_ga _ _) ?_
  unfold Builtin.«object.__getattribute__»
  refine wpAny_bind (wpAny_of_eq (a := ((Value.ref x : Value), [Value.str "__class__" t])) (by first | rfl | (simp only [slotArgs]; rfl)) ?_)
  refine wpAny_bind (wpAny_pure (wpAny_bind (I.type.at (wpAny_bind ((looks_find X I (found_cls C)).at ?_)))))
  show wpAny _ _ (holding [Value.builtin "object.__class__"] (call (.builtin "getset_descriptor.__get__") [.builtin "object.__class__", .ref x, .ref D]) >>= ret) _ _ _
  refine wpAny_bind (wpAny_holding (wpAny_call (class_get (s := ⟨hp, g, d, t + 1, os⟩) (ox := ox) (od := od) X I C.hm ?_)))
  refine wpAny_pure ?_
  show wpAny _ _ (handedOut (.ref D)) _ _ _
  rw [handedOut_of (v := .ref D) rfl]
  first
    | exact wpAny_pure (wpAny_pure h)
    | exact wpAny_pure h
    | exact wpAny_pure (wpAny_bind (wpAny_pure (wpAny_pure h)))
theorem kit_exc (C : ExcC K D) : KitX K (.ref x) (.ref D) (fun h => ∃ ox od, InstAt h x ox D od) where
  ty := fun _ _ _ ⟨_, _, I⟩ => I.type
  it := fun _ _ X _ => by
    obtain ⟨cdD, hcD, _⟩ := any_some C.hd
    unfold clsIn at hcD
    split at hcD
    · rename_i ho
      intro A' Q' E' s' k q
      unfold isType loadHead
      exact wpAny_bind (wpAny_loadPart (k _ _ (X _ _ ho)) (wpAny_pure q))
    · cases hcD
  ne := fun h tp dd its n sl X htp => by
    obtain ⟨cdD, hcD, _⟩ := any_some C.hd
    refine Bool.eq_false_iff.mpr fun q => ?_
    have e : D = tp := Value.ref.inj (beq_iff_eq.mp q)
    subst e
    unfold clsIn at hcD
    split at hcD
    · rename_i ho
      have z := (X _ _ ho).symm.trans htp
      cases z
    · cases hcD
  ca := fun X ⟨_, _, I⟩ k => cls_of C X I k
end
end XX
namespace L2
open PySem PySem.Spec PyProof.Rows XX
/-- isinstance(e, c), e the exception that the suite holds, its own dict an exception's dict (xd) -/
def rIsX (K : PySem.W.Frag) (a : Addr) (cls : Value) (d : Option Addr) : List V → Hp → VK → Prop := fun xs H Q => ∃ (D : Addr) (c : V) (cv : Value) (b : Bool), xs = [.ref a, c] ∧ cls = .ref D ∧ ExcC K D ∧
  (d = none ∨ ∃ dd fs, d = some dd ∧ H dd = some (.xd fs)) ∧ (∀ u, RelV c u → u = cv) ∧ PySem.W.kitOne K (.ref D) cv = some b ∧ Q (.bl b) H
theorem call_isX {X : Cx} {a : Addr} {cls : Value} {d : Option Addr} {oe : Obj} {pn : List (Addr × Obj)} (hz : Zc cls d oe) (hf : ∃ vs, oe.data = .fields vs) : CallR (X.suite a ((a, oe) :: pn)) (.builtin "isinstance") (rIsX X.K a cls d) := by
  intro pins s σ H xs us Q I r h
  obtain ⟨D, c, cv, b, rfl, rfl, C, hd, hcv, e, q⟩ := h
  cases r with
  | cons rx rr =>
    cases rr with
    | cons rt rr =>
      cases rr
      cases rx
      have ec := hcv _ rt
      subst ec
      obtain ⟨hget, _⟩ := I.pin (a, oe) (List.mem_append.mpr (.inl List.mem_cons_self))
      obtain ⟨vs, hv⟩ := hf
      have J : ∃ od, PySem.W.InstAt s.heap a oe D od := by
        rcases hd with rfl | ⟨dd, fs, rfl, hdd⟩
        · exact ⟨none, hget, hz.1, by unfold PySem.W.notCls; rw [hv] <;> rfl, by rw [hz.2] <;> trivial⟩
        · have hx : ObjOk X.prog X.w H s.heap dd (.xd fs) := I.hok dd _ hdd
          obtain ⟨mA, ⟨od, es, ep, ho, _⟩, _⟩ := hx
          exact ⟨some od, hget, hz.1, by unfold PySem.W.notCls; rw [hv] <;> rfl, by rw [hz.2]; exact ho⟩
      obtain ⟨od, J⟩ := J
      exact PySem.W.kia_one (kit_exc C) I.kIn ⟨_, _, J⟩ e (fun z => nomatch z) fun tk => ⟨.bl b, H, I.kept (t' := tk) fun _ _ z => z, rfl, q⟩
end L2

set_option maxHeartbeats 4000000
/-! enumerate over a text. -/
namespace L2
open PySem PySem.Spec PyProof.Rows
/-- each sign of the text x with its place, in a new pair -/
def ItEs (x : Str) : It := ⟨fun i _ => i < x.cps.size, fun i H v H' => ∃ T c, v = .ref T ∧ H T = none ∧ H' = upd H T (.tup [.int (i : Nat), .str ⟨#[c]⟩]) ∧ x.cps[i]? = some c, fun i _ => x.cps.size ≤ i⟩
theorem drawsStr {P : Program} {w : World} {A : Around} (hh : A.handled = none) (it : Addr) (x : Str) (t : Tok) :
    Draws P w A it [it] x.cps.size (fun i v => ∃ c u, x.cps[i]? = some c ∧ v = .str ⟨#[c]⟩ u) (fun i h => h.IsStrIter it (strIterType x) x t i) := by
  unfold strIterType
  cases x.cps.all (· < 128)
  · exact Draws.strWide hh it x t
  · exact Draws.strAscii hh it x t
theorem turn_enumS {P : Program} {w : World} {K : PySem.W.Frag} {elts : List Expr} {kk : Nat} {tpos : Pos} (x : Str) (t : Tok) (e it : Addr) :
    Turn P w K (.Tuple elts kk tpos) (ItEs x) [e, it] e (fun i h => i ≤ x.cps.size ∧ (∃ old, IsEnum h e it ((i : Nat) : Int) old) ∧ h.IsStrIter it (strIterType x) x t i ∧ e ≠ it) where
  mem := by simp
  obj := fun i h st b hb => by
    obtain ⟨_, ⟨old, he⟩, ⟨o, ho, hc, hd⟩, _⟩ := st
    have e' : b = e ∨ b = it := by simpa using hb
    rcases e' with z | z
    · rw [z]; exact ⟨_, he, fun v q => nomatch q⟩
    · rw [z]; exact ⟨o, ho, fun v q => by rw [hd] at q; cases q⟩
  keep := fun i h h' st k => let ⟨hi, ⟨old, he⟩, ⟨o, ho, r⟩, hne⟩ := st; ⟨hi, ⟨old, k e (by simp) _ he⟩, ⟨o, k it (by simp) o ho, r⟩, hne⟩
  item := by
    intro X hP hw hK hc i pins s σ H E I hf st hg
    subst hP hw hK
    obtain ⟨_, ⟨old, he⟩, hit, hne⟩ := st
    have hlt : i < x.cps.size := hg
    have D := drawsStr (P := X.prog) (w := X.w) (A := X.A.in1) (I.ok.hd hc) it x t
    have hel : e < s.heap.objs.size := Heap.lt_size he
    have hil : it < s.heap.objs.size := by obtain ⟨_, q, _⟩ := hit; exact Heap.lt_size q
    refine wpAny_pyNext_enum_itemD D he hit hlt hne (fun z => hne (by simpa using z)) fun u h' tk hP ho hit' hT hsz hk => ?_
    obtain ⟨c, uu, hcx, rfl⟩ := hP
    refine ⟨_, rfl, wpAny_letOwnedTupleGo_enum (s := { s with heap := h', toks := tk + 1 }) ho fun h'' he' sb => ?_⟩
    have hT2 : h''.get? s.heap.objs.size = some { cls := .type "tuple", data := .seq #[.int i tk, .str ⟨#[c]⟩ uu] } := (sb.2 _ (Nat.ne_of_gt hel)).trans hT
    have new : ObjOk X.prog X.w (upd H s.heap.objs.size (.tup [.int (i : Nat), .str ⟨#[c]⟩])) h'' s.heap.objs.size (.tup [.int (i : Nat), .str ⟨#[c]⟩]) :=
      ⟨by show 2 ≤ sizeLine; decide, [.int i tk, .str ⟨#[c]⟩ uu], .cons ⟨_, rfl⟩ (.cons ⟨_, rfl⟩ .nil), ⟨_, hT2, rfl, _, rfl⟩⟩
    have I1 : Inv X pins σ (upd H s.heap.objs.size (.tup [.int (i : Nat), .str ⟨#[c]⟩])) { s with heap := h'', toks := tk + 1 } :=
      I.turnedNew (ch := [e, it]) (fun b ob hb q => (sb.2 b (fun z => hb (by simp [z]))).trans (hk b ob (fun z => hb (by simp [z])) (fun z => hb (by simp [z])) q)) hf (Nat.le_refl _) new
    refine ⟨.ref s.heap.objs.size, _, I1, rfl, ⟨_, c, rfl, I.hok.fresh (Nat.le_refl _), rfl, hcx⟩, ⟨hlt, ⟨.str ⟨#[c]⟩ uu, ?_⟩, ?_, hne⟩, fun b hb => ?_⟩
    · have e1 : ((i + 1 : Nat) : Int) = (i : Int) + 1 := by omega
      rw [e1]; exact he'
    · obtain ⟨o, ho', r⟩ := hit'
      exact ⟨o, (sb.2 it (Ne.symm hne)).trans ho', r⟩
    · have hb' : b < s.heap.objs.size := by
        have e' : b = e ∨ b = it := by simpa using hb
        rcases e' with z | z
        · rw [z]; exact hel
        · rw [z]; exact hil
      rw [upd_ne (Nat.ne_of_lt hb')]
      exact (hf b hb).1
  done := by
    intro X hP hw hK hc i pins s σ H E I hf st hg
    subst hP hw hK
    obtain ⟨hle, ⟨old, he⟩, hit, hne⟩ := st
    have e0 : i = x.cps.size := Nat.le_antisymm hle hg
    subst e0
    obtain ⟨f0, f1, f2, f3, f4, f5⟩ := hf it (by simp)
    exact wpAny_pyNext_enum_endD (drawsStr (P := X.prog) (w := X.w) (A := X.A.in1) (I.ok.hd hc) it x t) he hit fun h' eb => ⟨rfl, I.turned (t' := s.toks) (fun b o hb q => eb b o hb q) f0 f1 f3 f4 f5⟩
  self := fun A i s Q E st h => let ⟨_, ⟨_, he⟩, _⟩ := st; wpAny_pyIter_enum he h
def iEnumS (ta : TA) : TI := fun σ H R => ta σ H fun vs H1 => ∃ x, vs = [.str x] ∧ R (ItEs x) H1
theorem pi_enumS {X : Cx} {e : Expr} {ta : TA} {p pos tpos : Pos} {elts : List Expr} {kk : Nat} (hg : Gl X "enumerate") (hm : X.mg "enumerate" = none) (ha : PA X [e] ta) (hs : starEach [e] X.env = [(false, eval e X.env)] := by rfl) :
    PI X (.Tuple elts kk tpos) (.Call (.Name "enumerate" p) [e] [] pos) (iEnumS ta) := by
  refine ⟨fun pins s σ H R I h => ?_⟩
  refine Call_ (ld_blt I hg hm boot_enumerate (PyProof.Rows.callWith_type1 (thn (ha.run pos pins s σ H _ I h) fun us s1 ⟨vs, H1, I1, r1, q1⟩ => ?_) hs rfl))
  obtain ⟨x, ex, q⟩ := q1
  subst ex
  cases r1 with
  | cons r rr =>
    cases rr
    obtain ⟨t, rfl⟩ := r
    refine call_enumerate_str fun h' he hit hsz hk => wpAny_pyIter_enum he ?_
    have I2 : Inv X pins σ H1 { s1 with heap := h' } := I1.kept (t' := s1.toks) hk
    refine ⟨s1.heap.objs.size + 1, [s1.heap.objs.size + 1, s1.heap.objs.size], _, _, H1, rfl, I2, turn_enumS x t (s1.heap.objs.size + 1) s1.heap.objs.size, ⟨Nat.zero_le _, ⟨.none, he⟩, hit, Nat.succ_ne_self _⟩, fun b hb => ?_, q⟩
    have e' : b = s1.heap.objs.size + 1 ∨ b = s1.heap.objs.size := by simpa using hb
    have hle : s1.heap.objs.size ≤ b := by
      rcases e' with z | z
      · rw [z]; exact Nat.le_add_right _ _
      · rw [z]; exact Nat.le_refl _
    exact I1.fpOk hle (I1.hok.fresh hle)
end L2

set_option maxHeartbeats 4000000
/-! Readings by name, and one lemma a reading: what is left to show. -/
namespace L2
open PySem PySem.Spec PyProof.Rows
/-! ### operators and calls by name -/
def xAdd : R2 := rI0 fun i j => .int (i + j)
def xSub : R2 := rI0 fun i j => .int (i - j)
def xMul : R2 := rI CMul fun i j => .int (i * j)
def xMod : R2 := rI (fun _ j => 0 < j) fun i j => .int (i % j)
def xDiv : R2 := rI CDiv fun i j => .int (i / j)
def xPow : R2 := rI CPow fun i j => .int (i ^ j.toNat)
def xLt : R2 := rI0 fun i j => .bl (decide (i < j))
def xLe : R2 := rI0 fun i j => .bl (decide (i ≤ j))
def xGt : R2 := rI0 fun i j => .bl (decide (j < i))
def xGe : R2 := rI0 fun i j => .bl (decide (j ≤ i))
def xAddS : R2 := fun x y H Q => ∃ i j, x = .str i ∧ y = .str j ∧ i.length + j.length ≤ sizeLine ∧ Q (.str (i ++ j)) H
def xIsN : R2 := fun x y H Q => y = .non ∧ Q (.bl (decide (x = .non))) H
def xNotN : R2 := fun x y H Q => y = .non ∧ Q (.bl (!decide (x = .non))) H
def xInS : R2 := fun x y H Q => ∃ (c : Nat) (z : Str), x = .str ⟨#[c]⟩ ∧ y = .str z ∧ Q (.bl (decide (c ∈ z.cps.toList))) H
def xNinS : R2 := fun x y H Q => ∃ (c : Nat) (z : Str), x = .str ⟨#[c]⟩ ∧ y = .str z ∧ Q (.bl (!decide (c ∈ z.cps.toList))) H
def xLeS : R2 := fun x y H Q => ∃ i j, x = .str i ∧ y = .str j ∧ Q (.bl (!decide (j.cps.toList < i.cps.toList))) H
def xAbs : List V → Hp → VK → Prop := fun xs H Q => ∃ i : Int, xs = [.int i] ∧ Q (.int (if i < 0 then -i else i)) H
def xMax2 : List V → Hp → VK → Prop := fun xs H Q => ∃ i j : Int, xs = [.int i, .int j] ∧ Q (.int (if j > i then j else i)) H
def xMin2 : List V → Hp → VK → Prop := fun xs H Q => ∃ i j : Int, xs = [.int i, .int j] ∧ Q (.int (if j < i then j else i)) H
def xInt1 : List V → Hp → VK → Prop := fun xs H Q => (∃ i, xs = [.int i] ∧ Q (.int i) H) ∨ ∃ k : Bool, xs = [.bl k] ∧ Q (.int (if k then 1 else 0)) H
def xLenS : List V → Hp → VK → Prop := fun xs H Q => ∃ z, xs = [.str z] ∧ z.length ≤ sizeLine ∧ Q (.int z.length) H
def xLenQ (K : PySem.W.Frag) : List V → Hp → VK → Prop := fun xs H Q => ∃ p ys, xs = [.ref p] ∧ (SqL K H p ys ∨ SqT K H p ys) ∧ Q (.int ys.length) H
def xLenD : List V → Hp → VK → Prop := fun xs H Q => ∃ a kvs, xs = [V.ref a] ∧ H a = some (.dK kvs) ∧ Q (.int kvs.length) H
def xList (K : PySem.W.Frag) : List V → Hp → VK → Prop := fun xs H Q => ∃ p ys, xs = [.ref p] ∧ (SqL K H p ys ∨ SqT K H p ys) ∧ ∀ l, H l = none → Q (.ref l) (upd H l (.lst ys))
def xDictD : List V → Hp → VK → Prop := fun xs H Q => ∃ (a : Addr) (kvs : List (Key × V)), xs = [.ref a] ∧ Rd H a (.dK kvs) ∧ ∀ p, H p = none → Q (.ref p) (upd H p (.dK kvs))
section
variable {X : Cx}
theorem o_add : OpR X (binaryOp .Add) xAdd := op_add
theorem o_sub : OpR X (binaryOp .Sub) xSub := op_sub
theorem o_mul : OpR X (binaryOp .Mult) xMul := op_mul
theorem o_mod : OpR X (binaryOp .Mod) xMod := op_mod
theorem o_div : OpR X (binaryOp .FloorDiv) xDiv := op_fdiv
theorem o_pow : OpR X (binaryOp .Pow) xPow := op_pow
theorem o_lt : OpR X (compareOp .Lt) xLt := op_lt
theorem o_le : OpR X (compareOp .LtE) xLe := op_le
theorem o_gt : OpR X (compareOp .Gt) xGt := op_gt
theorem o_ge : OpR X (compareOp .GtE) xGe := op_ge
theorem o_eq : OpR X (compareOp .Eq) rEq := op_eq
theorem o_ne : OpR X (compareOp .NotEq) rNe := op_ne
theorem o_addS : OpR X (binaryOp .Add) xAddS := op_add_str
theorem o_isN : OpR X (compareOp .Is) xIsN := op_isN
theorem o_notN : OpR X (compareOp .IsNot) xNotN := op_notN
theorem o_inS : OpR X (compareOp .In) xInS := op_in_sign
theorem o_ninS : OpR X (compareOp .NotIn) xNinS := op_notIn_sign
theorem o_leS : OpR X (compareOp .LtE) xLeS := op_le_str
theorem c_abs : CallR X (.builtin "abs") xAbs := call_abs
theorem c_max2 (hc : X.calm = true) : CallR X (.builtin "max") xMax2 := call_max2 hc
theorem c_min2 (hc : X.calm = true) : CallR X (.builtin "min") xMin2 := call_min2 hc
theorem c_int1 : CallR X (.type "int") xInt1 := call_int1
theorem c_lenS : CallR X (.builtin "len") xLenS := call_len_str
theorem c_lenQ : CallR X (.builtin "len") (xLenQ X.K) := call_len_seq
theorem c_lenD : CallR X (.builtin "len") xLenD := call_lenD
theorem c_list : CallR X (.type "list") (xList X.K) := call_list_of
theorem c_dictD : CallR X (.type "dict") xDictD := call_dictD
theorem c_isi : CallR X (.builtin "isinstance") (rIsi X.K) := call_isi
end
/-! ### frames -/
/-- all that was tracked, but for the addresses of l, is as it was -/
def Fr (l : List Addr) (H H' : Hp) : Prop := ∀ b o, b ∉ l → H b = some o → H' b = some o
theorem Fr.refl (l : List Addr) (H : Hp) : Fr l H H := fun _ _ _ h => h
theorem Fr.trans {l : List Addr} {H H1 H2 : Hp} (a : Fr l H H1) (b : Fr l H1 H2) : Fr l H H2 := fun c o n h => b c o n (a c o n h)
theorem Fr.of {l : List Addr} {H H' : Hp} (a : Same H H') : Fr l H H' := fun c o _ h => a c o h
theorem Fr.same {H H' : Hp} (a : Fr [] H H') : Same H H' := fun c o h => a c o (by simp) h
theorem Fr.put {l : List Addr} {H : Hp} {a : Addr} {o : HO} (h : a ∈ l) : Fr l H (upd H a o) := fun c u n e => by
  rw [upd_ne (fun z => n (by rw [z]; exact h))]
  exact e
theorem Fr.new {l : List Addr} {H : Hp} {a : Addr} {o : HO} (h : H a = Option.none) : Fr l H (upd H a o) := fun c u _ e => by
  rw [upd_ne (ne_of_none e h)]
  exact e
theorem Same.new {H : Hp} {a : Addr} {o : HO} (h : H a = none) : Same H (upd H a o) := fun c u e => by
  rw [upd_ne (ne_of_none e h)]
  exact e
theorem Fr.mono {l m : List Addr} {H H' : Hp} (a : Fr l H H') (h : ∀ x ∈ l, x ∈ m) : Fr m H H' := fun c o n e => a c o (fun z => n (h c z)) e
theorem Fr.seq {l : List Addr} {K : PySem.W.Frag} {H H' : Hp} {a : Addr} {xs : List V} (e : Fr l H H') (n : a ∉ l) (h : SqL K H a xs) : SqL K H' a xs := by
  rcases h with (h | ⟨o, h⟩) | h
  · exact .inl (.inl (e _ _ n h))
  · exact .inl (.inr ⟨o, e _ _ n h⟩)
  · exact .inr h
theorem Fr.tup {l : List Addr} {K : PySem.W.Frag} {H H' : Hp} {a : Addr} {xs : List V} (e : Fr l H H') (n : a ∉ l) (h : SqT K H a xs) : SqT K H' a xs := by
  rcases h with (h | ⟨o, h⟩) | h
  · exact .inl (.inl (e _ _ n h))
  · exact .inl (.inr ⟨o, e _ _ n h⟩)
  · exact .inr h
theorem Fr.none {l : List Addr} {H H' : Hp} (e : Fr l H H') {a : Addr} (n : a ∉ l) (h : H' a = Option.none) : H a = Option.none := by
  cases q : H a with
  | none => rfl
  | some o =>
    rw [e a o n q] at h
    cases h
/-! ### one lemma a reading -/
section
variable {K : PySem.W.Frag} {σ : St} {H : Hp} {Q n : VK} {v x y : V} {i j : Int} {ta tb te tc : TE} {r : R2} {s z : Str} {b : Bool}
theorem w_var {i : Nat} (h : σ[i]? = some (some v)) (q : Q v H) : tVar i σ H Q := ⟨v, h, q⟩
theorem w_c (q : Q v H) : tC v σ H Q := q
theorem w_op (h : ta σ H fun x H1 => tb σ H1 fun y H2 => r x y H2 Q) : tOp r ta tb σ H Q := h
theorem w_add (q : Q (.int (i + j)) H) : xAdd (.int i) (.int j) H Q := ⟨i, j, rfl, rfl, q⟩
theorem w_sub (q : Q (.int (i - j)) H) : xSub (.int i) (.int j) H Q := ⟨i, j, rfl, rfl, q⟩
theorem w_mul (c : CMul i j) (q : Q (.int (i * j)) H) : xMul (.int i) (.int j) H Q := ⟨i, j, rfl, rfl, c, q⟩
theorem w_mod (c : 0 < j) (q : Q (.int (i % j)) H) : xMod (.int i) (.int j) H Q := ⟨i, j, rfl, rfl, c, q⟩
theorem w_div (c : CDiv i j) (q : Q (.int (i / j)) H) : xDiv (.int i) (.int j) H Q := ⟨i, j, rfl, rfl, c, q⟩
theorem w_pow (c : CPow i j) (q : Q (.int (i ^ j.toNat)) H) : xPow (.int i) (.int j) H Q := ⟨i, j, rfl, rfl, c, q⟩
theorem w_lt (q : Q (.bl (decide (i < j))) H) : xLt (.int i) (.int j) H Q := ⟨i, j, rfl, rfl, q⟩
theorem w_le (q : Q (.bl (decide (i ≤ j))) H) : xLe (.int i) (.int j) H Q := ⟨i, j, rfl, rfl, q⟩
theorem w_gt (q : Q (.bl (decide (j < i))) H) : xGt (.int i) (.int j) H Q := ⟨i, j, rfl, rfl, q⟩
theorem w_ge (q : Q (.bl (decide (j ≤ i))) H) : xGe (.int i) (.int j) H Q := ⟨i, j, rfl, rfl, q⟩
theorem w_eqI (q : Q (.bl (decide (i = j))) H) : rEq (.int i) (.int j) H Q := ⟨rfl, by
  have e : decide (V.int i = V.int j) = decide (i = j) := by simp
  rw [e]; exact q⟩
theorem w_neI (q : Q (.bl (!decide (i = j))) H) : rNe (.int i) (.int j) H Q := ⟨rfl, by
  have e : decide (V.int i = V.int j) = decide (i = j) := by simp
  rw [e]; exact q⟩
theorem w_eqS (q : Q (.bl (decide (s = z))) H) : rEq (.str s) (.str z) H Q := ⟨rfl, by
  have e : decide (V.str s = V.str z) = decide (s = z) := by simp
  rw [e]; exact q⟩
theorem w_neS (q : Q (.bl (!decide (s = z))) H) : rNe (.str s) (.str z) H Q := ⟨rfl, by
  have e : decide (V.str s = V.str z) = decide (s = z) := by simp
  rw [e]; exact q⟩
theorem w_addS (h : s.length + z.length ≤ sizeLine) (q : Q (.str (s ++ z)) H) : xAddS (.str s) (.str z) H Q := ⟨s, z, rfl, rfl, h, q⟩
theorem w_isN (q : Q (.bl (decide (x = .non))) H) : xIsN x .non H Q := ⟨rfl, q⟩
theorem w_notN (q : Q (.bl (!decide (x = .non))) H) : xNotN x .non H Q := ⟨rfl, q⟩
theorem w_inS {c : Nat} (q : Q (.bl (decide (c ∈ z.cps.toList))) H) : xInS (.str ⟨#[c]⟩) (.str z) H Q := ⟨c, z, rfl, rfl, q⟩
theorem w_ninS {c : Nat} (q : Q (.bl (!decide (c ∈ z.cps.toList))) H) : xNinS (.str ⟨#[c]⟩) (.str z) H Q := ⟨c, z, rfl, rfl, q⟩
theorem w_leS (q : Q (.bl (!decide (z.cps.toList < s.cps.toList))) H) : xLeS (.str s) (.str z) H Q := ⟨s, z, rfl, rfl, q⟩
theorem w_ixL {p : Addr} {xs : List V} (h : SqL K H p xs) (e : atI xs i = some v) (q : Q v H) : rIxL K (.ref p) (.int i) H Q := ⟨p, xs, i, v, rfl, rfl, h, e, q⟩
theorem w_ixT {p : Addr} {xs : List V} (h : SqT K H p xs) (e : atI xs i = some v) (q : Q v H) : rIxT K (.ref p) (.int i) H Q := ⟨p, xs, i, v, rfl, rfl, h, e, q⟩
theorem w_ixS {c : Nat} (h : z.length ≤ sizeLine) (e : atI z.cps.toList i = some c) (q : Q (.str ⟨#[c]⟩) H) : rIxS (.str z) (.int i) H Q := ⟨z, i, c, rfl, rfl, h, e, q⟩
theorem w_slS {lo hi : Option Int} (h : z.length ≤ sizeLine) (q : Q (.str (cutS z lo hi)) H) : rSlS (.str z) lo hi H Q := ⟨z, rfl, h, q⟩
theorem w_slL {p : Addr} {xs : List V} {lo hi : Option Int} (h : SqL K H p xs) (q : ∀ a, H a = none → Q (.ref a) (upd H a (.lst (cutV xs lo hi)))) : rSlL K (.ref p) lo hi H Q := ⟨p, xs, rfl, h, q⟩
theorem w_sl {rs : V → Option Int → Option Int → Hp → VK → Prop} {tl th : TO} (h : te σ H fun x H1 => tl σ H1 fun l H2 => th σ H2 fun u H3 => rs x l u H3 Q) : tSl rs te tl th σ H Q := h
theorem w_pt {Q : Option Int → Hp → Prop} (h : te σ H fun x H1 => ∃ i, x = .int i ∧ Q (some i) H1) : tPart te σ H Q := h
theorem w_npt {Q : Option Int → Hp → Prop} (h : Q none H) : tNoPart σ H Q := h
theorem w_cons {tr : TA} {Q : List V → Hp → Prop} (h : ta σ H fun x H1 => tr σ H1 fun xs H2 => Q (x :: xs) H2) : tCons ta tr σ H Q := h
theorem w_nil {Q : List V → Hp → Prop} (q : Q [] H) : tNil σ H Q := q
theorem w_cb {rc : List V → Hp → VK → Prop} {t : TA} (h : t σ H fun vs H1 => rc vs H1 Q) : tCB rc t σ H Q := h
theorem w_abs (q : Q (.int (if i < 0 then -i else i)) H) : xAbs [.int i] H Q := ⟨i, rfl, q⟩
theorem w_max2 (q : Q (.int (if j > i then j else i)) H) : xMax2 [.int i, .int j] H Q := ⟨i, j, rfl, q⟩
theorem w_min2 (q : Q (.int (if j < i then j else i)) H) : xMin2 [.int i, .int j] H Q := ⟨i, j, rfl, q⟩
theorem w_int1 (q : Q (.int i) H) : xInt1 [.int i] H Q := .inl ⟨i, rfl, q⟩
theorem w_lenS (h : z.length ≤ sizeLine) (q : Q (.int z.length) H) : xLenS [.str z] H Q := ⟨z, rfl, h, q⟩
theorem w_lenL {p : Addr} {xs : List V} (h : SqL K H p xs) (q : Q (.int xs.length) H) : xLenQ K [.ref p] H Q := ⟨p, xs, rfl, .inl h, q⟩
theorem w_lenM {α : Type} {f : α → V} {p : Addr} {xs : List α} (h : SqL K H p (xs.map f)) (q : Q (.int xs.length) H) : xLenQ K [.ref p] H Q := ⟨p, _, rfl, .inl h, by rw [List.length_map]; exact q⟩
theorem w_lenT {p : Addr} {xs : List V} (h : SqT K H p xs) (q : Q (.int xs.length) H) : xLenQ K [.ref p] H Q := ⟨p, xs, rfl, .inr h, q⟩
theorem w_lenD {p : Addr} {kvs : List (Key × V)} (h : H p = some (.dK kvs)) (q : Q (.int kvs.length) H) : xLenD [.ref p] H Q := ⟨p, kvs, rfl, h, q⟩
theorem w_listL {p : Addr} {xs : List V} (h : SqL K H p xs) (q : ∀ l, H l = none → Q (.ref l) (upd H l (.lst xs))) : xList K [.ref p] H Q := ⟨p, xs, rfl, .inl h, q⟩
theorem w_tup {t : TA} (h : t σ H fun xs H1 => xs.length ≤ sizeLine ∧ ∀ p, H1 p = none → Q (.ref p) (upd H1 p (.tup xs))) : tTup t σ H Q := h
theorem w_lst {t : TA} (h : t σ H fun xs H1 => xs.length ≤ sizeLine ∧ ∀ p, H1 p = none → Q (.ref p) (upd H1 p (.lst xs))) : tLst t σ H Q := h
theorem w_call {sp : Sp} {dvs : List V} {E : XK} {t : TA} (h : t σ H fun vs H1 => sp (vs ++ dvs) H1 Q E) : tCall sp dvs E t σ H Q := h
theorem w_calln {sp : Sp} {E : XK} {t : TA} (h : t σ H fun vs H1 => sp vs H1 Q E) : tCall sp [] E (fun σ H Q => t σ H fun vs H1 => Q (vs) H1) σ H Q ↔ t σ H fun vs H1 => sp (vs ++ []) H1 Q E := Iff.rfl
theorem w_dget {td ty : TE} (h : td σ H fun x H1 => ty σ H1 fun y H2 => ∃ a v, x = .ref a ∧ DGet H2 a y (some v) ∧ Q v H2) : tDGet td ty σ H Q := h
theorem w_din {td ty : TE} (h : ty σ H fun y H1 => td σ H1 fun x H2 => ∃ a o, x = .ref a ∧ DGet H2 a y o ∧ Q (.bl o.isSome) H2) : tDIn ty td σ H Q := h
theorem w_dnin {td ty : TE} (h : ty σ H fun y H1 => td σ H1 fun x H2 => ∃ a o, x = .ref a ∧ DGet H2 a y o ∧ Q (.bl (!o.isSome)) H2) : tDNotIn ty td σ H Q := h
theorem dget_s {H : Hp} {a : Addr} {kvs : List (Key × V)} {k : Str} (e : H a = some (.dK kvs)) : DGet H a (.str k) (valV kvs (Sum.inr k)) := DGet.k (k := Sum.inr k) e
theorem dget_i {H : Hp} {a : Addr} {kvs : List (Key × V)} {k : Int} (e : H a = some (.dK kvs)) : DGet H a (.int k) (valV kvs (Sum.inl k)) := DGet.k (k := Sum.inl k) e
theorem dget_fs {H : Hp} {a : Addr} {o : Obj} {kvs : List (Key × V)} {k : Str} (e : H a = some (.frz o (.dK kvs))) : DGet H a (.str k) (valV kvs (Sum.inr k)) := .inl ⟨kvs, Sum.inr k, .inr ⟨o, e⟩, rfl, rfl⟩
theorem w_fld {f : Str} {a C dx : Addr} {fs : List (Str × V)} (ho : H a = some (.ins C dx fs)) (hc : Cls K C) (hn : NoAttr K C f) (hl : fs.lookup f = some v) (q : Q v H) : (fun (x : V) (H1 : Hp) => ∃ a C dx fs v, x = .ref a ∧ H1 a = some (.ins C dx fs) ∧ Cls K C ∧ NoAttr K C f ∧ fs.lookup f = some v ∧ Q v H1) (.ref a) H := ⟨a, C, dx, fs, v, rfl, ho, hc, hn, hl, q⟩
/-! tests -/
theorem w_test {Q : Bool → Hp → Prop} (h : te σ H fun x H' => ∃ k, x = .bl k ∧ Q k H') : tTest te σ H Q := h
theorem w_b {Q : Bool → Hp → Prop} (h : te σ H fun x H' => ∃ k, x = .bl k ∧ Q k H') : tB te σ H Q := h
theorem w_bl {P : Bool → Prop} {k : Bool} (q : P k) : ∃ c, V.bl k = .bl c ∧ P c := ⟨k, rfl, q⟩
theorem w_and2 {t u : TT} {Q : Bool → Hp → Prop} {b c : Bool} (h1 : ∀ Q : Bool → Hp → Prop, Q b H → t σ H Q) (h2 : b = true → ∀ Q : Bool → Hp → Prop, Q c H → u σ H Q) (q : Q (b && c) H) : tAnd t u σ H Q := by
  refine h1 _ ?_
  cases b with
  | true => exact h2 rfl Q q
  | false => exact q
theorem w_or2 {t u : TT} {Q : Bool → Hp → Prop} {b c : Bool} (h1 : ∀ Q : Bool → Hp → Prop, Q b H → t σ H Q) (h2 : b = false → ∀ Q : Bool → Hp → Prop, Q c H → u σ H Q) (q : Q (b || c) H) : tOr t u σ H Q := by
  refine h1 _ ?_
  cases b with
  | true => exact q
  | false => exact h2 rfl Q q
theorem w_andV2 {b c : Bool} (h1 : ∀ Q : VK, Q (.bl b) H → ta σ H Q) (h2 : b = true → ∀ Q : VK, Q (.bl c) H → tb σ H Q) (q : Q (.bl (b && c)) H) : tAndV ta tb σ H Q := by
  refine h1 _ ⟨b, rfl, ?_⟩
  cases b with
  | true => exact h2 rfl Q q
  | false => exact q
theorem w_orV2 {b c : Bool} (h1 : ∀ Q : VK, Q (.bl b) H → ta σ H Q) (h2 : b = false → ∀ Q : VK, Q (.bl c) H → tb σ H Q) (q : Q (.bl (b || c)) H) : tOrV ta tb σ H Q := by
  refine h1 _ ⟨b, rfl, ?_⟩
  cases b with
  | true => exact q
  | false => exact h2 rfl Q q
theorem w_in {P : Int → Prop} (q : P i) : ∃ c, V.int i = .int c ∧ P c := ⟨i, rfl, q⟩
theorem w_and {t u : TT} {Q : Bool → Hp → Prop} (h : t σ H fun c H1 => if c = true then u σ H1 Q else Q false H1) : tAnd t u σ H Q := h
theorem w_or {t u : TT} {Q : Bool → Hp → Prop} (h : t σ H fun c H1 => if c = true then Q true H1 else u σ H1 Q) : tOr t u σ H Q := h
theorem w_not {t : TT} {Q : Bool → Hp → Prop} (h : t σ H fun c H1 => Q (!c) H1) : tNot t σ H Q := h
theorem w_andV (h : ta σ H fun x H1 => ∃ c, x = .bl c ∧ if c = true then tb σ H1 Q else Q (.bl false) H1) : tAndV ta tb σ H Q := h
theorem w_orV (h : ta σ H fun x H1 => ∃ c, x = .bl c ∧ if c = true then Q (.bl true) H1 else tb σ H1 Q) : tOrV ta tb σ H Q := h
theorem w_notV (h : ta σ H fun x H1 => ∃ c, x = .bl c ∧ Q (.bl (!c)) H1) : tNotV ta σ H Q := h
theorem w_ifE {t : TT} (h : t σ H fun c H1 => if c = true then ta σ H1 Q else tb σ H1 Q) : tIf t ta tb σ H Q := h
/-! statements -/
variable {N B C' : St → Hp → Prop} {R : VK} {t u : TS} {g : TG}
theorem w_seq (h : t ⟨u ⟨N, R, B, C'⟩, R, B, C'⟩ σ H) : tSeq t u ⟨N, R, B, C'⟩ σ H := h
theorem w_next (h : N σ H) : tNext ⟨N, R, B, C'⟩ σ H := h
theorem w_asg (h : te σ H fun x H1 => g x σ H1 N) : tAsg te g ⟨N, R, B, C'⟩ σ H := h
theorem w_name {i : Nat} {Q : St → Hp → Prop} (q : Q (σ.set i (some v)) H) : gName i v σ H Q := q
theorem w_ret (h : te σ H R) : tRet te ⟨N, R, B, C'⟩ σ H := h
theorem w_retN (h : R .non H) : tRetN ⟨N, R, B, C'⟩ σ H := h
theorem w_drop (h : te σ H fun _ H1 => N σ H1) : tDrop te ⟨N, R, B, C'⟩ σ H := h
theorem w_brk (h : B σ H) : tBreak ⟨N, R, B, C'⟩ σ H := h
theorem w_cont (h : C' σ H) : tCont ⟨N, R, B, C'⟩ σ H := h
theorem w_if {c : TT} (h : c σ H fun k H1 => if k = true then t ⟨N, R, B, C'⟩ σ H1 else u ⟨N, R, B, C'⟩ σ H1) : tIfS c t u ⟨N, R, B, C'⟩ σ H := h
theorem w_gsub {to ti : TE} {ts : TSet} {Q : St → Hp → Prop} (h : to σ H fun o H1 => ti σ H1 fun i H2 => ts o i v H2 fun H3 => Q σ H3) : gSub to ti ts v σ H Q := h
theorem w_setL {p : Addr} {xs : List V} {j : Nat} {Q : Hp → Prop} (h : H p = some (.lst xs)) (e : ixN xs.length i = some j) (q : Q (upd H p (.lst (xs.set j v)))) : rSetL (.ref p) (.int i) v H Q := ⟨p, xs, i, j, rfl, rfl, h, e, q⟩
theorem w_dput {td ty tv : TE} (h : tv σ H fun v H1 => td σ H1 fun x H2 => ty σ H2 fun y H3 => ∃ a H4, x = .ref a ∧ DPut H3 a y v H4 ∧ N σ H4) : sDPut td ty tv ⟨N, R, B, C'⟩ σ H := h
theorem dput_s {H : Hp} {a : Addr} {kvs : List (Key × V)} {k : Str} {v : V} (e : H a = some (.dK kvs)) (hl : kvs.length < sizeLine) : DPut H a (.str k) v (upd H a (.dK (putK kvs (Sum.inr k) v))) := DPut.k (k := Sum.inr k) e hl
theorem w_iteD {p : Prop} [Decidable p] {A B : Prop} (h1 : p → A) (h2 : ¬ p → B) : if decide p = true then A else B := by
  by_cases h : p
  · rw [if_pos (decide_eq_true h)]; exact h1 h
  · rw [if_neg (by simp [h])]; exact h2 h
theorem w_iteDN {p : Prop} [Decidable p] {A B : Prop} (h1 : ¬ p → A) (h2 : p → B) : if (!decide p) = true then A else B := by
  by_cases h : p
  · rw [if_neg (by simp [h])]; exact h2 h
  · rw [if_pos (by simp [h])]; exact h1 h
theorem w_iteB {c : Bool} {A B : Prop} (h1 : c = true → A) (h2 : c = false → B) : if c = true then A else B := by
  cases c with
  | true => exact h1 rfl
  | false => exact h2 rfl
theorem w_iteP {p : Prop} [Decidable p] {A B : Prop} (h : p) (h1 : A) : if decide p = true then A else B := by rw [if_pos (decide_eq_true h)]; exact h1
theorem w_iteN {p : Prop} [Decidable p] {A B : Prop} (h : ¬ p) (h2 : B) : if decide p = true then A else B := by rw [if_neg (by simp [h])]; exact h2
theorem w_iteNP {p : Prop} [Decidable p] {A B : Prop} (h : p) (h2 : B) : if (!decide p) = true then A else B := by rw [if_neg (by simp [h])]; exact h2
theorem w_iteNN {p : Prop} [Decidable p] {A B : Prop} (h : ¬ p) (h1 : A) : if (!decide p) = true then A else B := by rw [if_pos (by simp [h])]; exact h1
end
end L2

set_option maxHeartbeats 4000000
/-! The head's facts, with makers of exceptions that close over their class, and a Bool of one's own. -/
namespace He
open PySem PySem.Spec PyProof.Rows L2 XX
/-- an exception's maker: its class, qualified name, parameters, body, scope -/
structure IniD where
  cls : Str
  qual : Str
  params : Arguments
  body : List Stmt
  scope : Scope
abbrev FnI : Type := Option (Str × Str × Arguments × FuncBody × Scope × Addr × List Str × Value × Addr)
def obsI (K : PySem.W.Frag) (d : IniD) : FnI := match K.lookup (ma K (ga K d.cls) "__init__") with
  | some ⟨_, _, .func fd, _⟩ => some (fd.name, fd.qualname, fd.params, fd.body, fd.scope, fd.globals, fd.closure.map (·.1), fd.defaults, fd.builtins)
  | _ => none
def IniD.val (d : IniD) : FnI := some (("__init__" : Str), d.qual, d.params, .stmts d.body, d.scope, mainGlobals, [("__class__" : Str)], .none, builtinsNs)
def fileB (file : Str) (K : PySem.W.Frag) (cd : Value) : Bool := match cd with
  | .ref c => (match K.lookup c with
    | some ⟨_, _, .fields vs, _⟩ => (match (vs[2]? : Option Value) with
      | some (Value.str y _) => file == y
      | _ => false)
    | _ => false)
  | _ => false
def cellB (K : PySem.W.Frag) (C : Addr) (cl : List (Str × Addr)) : Bool := match cl with
  | q :: _ => (match K.lookup q.2 with
    | some ⟨_, _, .cell (some (.ref D)), _⟩ => decide (D = C)
    | _ => false)
  | _ => false
def iniB (file : Str) (K : PySem.W.Frag) (d : IniD) : Bool :=
  (decide (PySem.W.nsIn K cStatics "thirdparty.any" = some none) && excCB K (ga K d.cls)) && (decide (PySem.W.findIn K (.ref (ga K d.cls)) "__init__" = some (some (.ref (ma K (ga K d.cls) "__init__")))) &&
  (decide (PySem.W.typeIn K (.ref (ma K (ga K d.cls) "__init__")) = some (.type "function")) && (exwB K (ga K d.cls) &&
  (match K.lookup (ma K (ga K d.cls) "__init__") with
    | some ⟨_, _, .func fd, _⟩ => PySem.W.codeIn K fd.code d.qual && (fileB file K fd.code && cellB K (ga K d.cls) fd.closure)
    | _ => false))))
theorem ini_ok {prog : Program} {file : Str} (hfile : prog.main.file = file) {K : PySem.W.Frag} {d : IniD} (e : obsI K d = d.val) (c : iniB file K d = true) :
    ExW K (ga K d.cls) ∧ IFn prog K (ga K d.cls) (ma K (ga K d.cls) "__init__") d.qual d.params d.body d.scope := by
  obtain ⟨_, c⟩ := ba c
  obtain ⟨c1, c⟩ := ba c
  obtain ⟨c2, c⟩ := ba c
  obtain ⟨c3, c⟩ := ba c
  refine ⟨exwB_ok c3, of_decide_eq_true c1, of_decide_eq_true c2, ?_⟩
  unfold obsI at e
  cases q : K.lookup (ma K (ga K d.cls) "__init__") with
  | none => rw [q] at c; cases c
  | some o =>
    obtain ⟨oc, od, dt, osl⟩ := o
    rw [q] at c e
    cases dt with
    | func fd =>
      obtain ⟨n1, n2, n3, n4, n5, n6, n7, n8, n9, n10, n11, n12, n13, n14, n15⟩ := fd
      have e2 : (some (n1, n2, n3, n4, n5, n6, n7.map (·.1), n8, n15) : FnI) = some (("__init__" : Str), d.qual, d.params, .stmts d.body, d.scope, mainGlobals, [("__class__" : Str)], .none, builtinsNs) := e
      simp only [Option.some.injEq, Prod.mk.injEq] at e2
      obtain ⟨h1, h2, h3, h4, h5, h6, h7, h8, h9⟩ := e2
      match n7, h7 with
      | [(nm, cc)], h7 =>
        have h7' : nm = ("__class__" : Str) := by simpa using h7
        have c' : (PySem.W.codeIn K n13 d.qual && (fileB file K n13 && cellB K (ga K d.cls) [(nm, cc)])) = true := c
        obtain ⟨c4, c'⟩ := ba c'
        obtain ⟨c5, c6⟩ := ba c'
        subst h1 h2 h3 h4 h5 h6 h7' h8 h9
        unfold fileB at c5
        cases n13 with
        | ref cda =>
          have c5' : (match K.lookup cda with
            | some ⟨_, _, .fields vs, _⟩ => (match (vs[2]? : Option Value) with
              | some (Value.str y _) => file == y
              | _ => false)
            | _ => false) = true := c5
          cases q2 : K.lookup cda with
          | none => rw [q2] at c5'; cases c5'
          | some o2 =>
            obtain ⟨oc2, od2, dt2, osl2⟩ := o2
            rw [q2] at c5'
            cases dt2 with
            | fields vs =>
              have c7 : (match (vs[2]? : Option Value) with
                | some (Value.str y _) => file == y
                | _ => false) = true := c5'
              cases q3 : vs[2]? with
              | none => rw [q3] at c7; cases c7
              | some u =>
                rw [q3] at c7
                cases u with
                | str y t =>
                  have c8 : (match K.lookup cc with
                    | some ⟨_, _, .cell (some (.ref D)), _⟩ => decide (D = ga K d.cls)
                    | _ => false) = true := c6
                  cases q4 : K.lookup cc with
                  | none => rw [q4] at c8; cases c8
                  | some o4 =>
                    obtain ⟨oc4, od4, dt4, osl4⟩ := o4
                    rw [q4] at c8
                    cases dt4 with
                    | cell v =>
                      cases v with
                      | none => cases c8
                      | some v =>
                        cases v with
                        | ref D =>
                          have e8 : D = ga K d.cls := of_decide_eq_true c8
                          subst e8
                          exact ⟨oc, od, _, _, _, _, _, cda, cc, osl, rfl, c4, ⟨oc2, od2, vs, osl2, y, t, q2, q3, by rw [hfile]; exact c7⟩, oc4, od4, osl4, q4⟩
                        | _ => cases c8
                    | _ => cases c8
                | _ => cases c7
            | _ => cases c5'
        | _ => cases c5
    | _ => cases c
theorem ini_any {file : Str} {K : PySem.W.Frag} {d : IniD} (c : iniB file K d = true) : PySem.W.nsIn K cStatics "thirdparty.any" = some none := of_decide_eq_true (ba (ba c).1).1
theorem ini_exc {file : Str} {K : PySem.W.Frag} {d : IniD} (c : iniB file K d = true) : ExcC K (ga K d.cls) := excCB_ok (ba (ba c).1).2
/-! ### the Hook -/
abbrev AlZ : Type := AlD × List FnI × Bool
def obsZ (fa : List Fa) (fn : List DefD) (fi : List IniD) (file : Str) (ex : PySem.W.Frag → Bool) (K : PySem.W.Frag) : AlZ := (obsD fa fn K, fi.map (obsI K), (fi.all fun d => iniB file K d) && ex K)
def valZ (fn : List DefD) (fi : List IniD) : AlZ := (valD fn, fi.map IniD.val, true)
def SaysZ (fa : List Fa) (fn : List DefD) (fi : List IniD) (file : Str) (ex : PySem.W.Frag → Bool) (K : PySem.W.Frag) : Prop := obsZ fa fn fi file ex K = valZ fn fi
def obsZG (n : Nat) (fa : List Fa) (fn : List DefD) (fi : List IniD) (file : Str) (ex : PySem.W.Frag → Bool) (g : Addr → Option Obj) : AlZ := obsZ fa fn fi file ex (frG g (cStatics :: asD g n))
def hookZ (n : Nat) (fa : List Fa) (fn : List DefD) (fi : List IniD) (file : Str) (ex : PySem.W.Frag → Bool) : PySem.W.Hook where
  α := AlZ
  obs := fun s => obsZG n fa fn fi file ex s.heap.get?
  val := fun _ => valZ fn fi
  says := fun _ h => ∃ K : PySem.W.Frag, K.In h ∧ SaysZ fa fn fi file ex K
  of := fun _ _ e => ⟨_, frG_in, e⟩
  keeps := fun _ _ _ ⟨K, hK, c⟩ k => ⟨K, PySem.W.Frag.In.keeps hK k, c⟩
theorem obsZG_eq {n : Nat} {fa : List Fa} {fn : List DefD} {fi : List IniD} {file : Str} {ex : PySem.W.Frag → Bool} {g : Addr → Option Obj} {s : Shared} (h : ∀ a, g a = s.heap.get? a) : obsZG n fa fn fi file ex g = (hookZ n fa fn fi file ex).obs s := by
  have e : g = s.heap.get? := funext h
  rw [e] <;> rfl
section
variable {fa : List Fa} {fn : List DefD} {fi : List IniD} {file : Str} {ex : PySem.W.Frag → Bool} {K : PySem.W.Frag}
theorem SaysZ.d (c : SaysZ fa fn fi file ex K) : SaysD fa fn K := congrArg (fun z : AlZ => z.1) c
theorem SaysZ.all (c : SaysZ fa fn fi file ex K) : (fi.all fun d => iniB file K d) = true ∧ ex K = true := ba (congrArg (fun z : AlZ => z.2.2) c)
theorem SaysZ.ini (c : SaysZ fa fn fi file ex K) (i : Nat) {d : IniD} (h : fi[i]? = some d) : obsI K d = d.val ∧ iniB file K d = true := by
  have e : fi.map (obsI K) = fi.map IniD.val := congrArg (fun z : AlZ => z.2.1) c
  have e2 : (fi.map (obsI K))[i]? = (fi.map IniD.val)[i]? := by rw [e]
  rw [List.getElem?_map, List.getElem?_map, h] at e2
  exact ⟨Option.some.inj e2, List.all_eq_true.mp c.all.1 d (List.mem_of_getElem? h)⟩
end
end He
namespace L2
open PySem PySem.Spec PyProof.Rows XX He
/-- what a def's walk knows of the top: the facts fa, the defs fn, the makers fi, the Bool ex -/
structure TxG (fa : List Fa) (fn : List DefD) (fi : List IniD) (ex : PySem.W.Frag → Bool) (P : Program) (K : PySem.W.Frag) (mg : Str → Option Value) : Prop where
  hp : ∃ h : Heap, K.In h ∧ h.Ns mainGlobals mg
  c : SaysZ fa fn fi P.main.file ex K
section
variable {fa : List Fa} {fn : List DefD} {fi : List IniD} {ex : PySem.W.Frag → Bool} {P : Program} {K : PySem.W.Frag} {mg : Str → Option Value}
theorem TxG.gl (T : TxG fa fn fi ex P K mg) (i : Nat) (x : Str) (h : fa[i]? = some (.glo x)) : mg x = some (.ref (ga K x)) := let ⟨_, X, G⟩ := T.hp; glo_ok X G (T.c.d.fact i h)
theorem TxG.fr (T : TxG fa fn fi ex P K mg) (i : Nat) (x : Str) (h : fa[i]? = some (.free x)) : mg x = none := let ⟨_, X, G⟩ := T.hp; free_ok X G (T.c.d.fact i h)
theorem TxG.kI (T : TxG fa fn fi ex P K mg) (i : Nat) (x : Str) (n : Int) (h : fa[i]? = some (.int x n)) : ∃ t, mg x = some (.int n t) := let ⟨_, X, G⟩ := T.hp; int_ok X G (T.c.d.fact i h)
theorem TxG.kS (T : TxG fa fn fi ex P K mg) (i : Nat) (x z : Str) (h : fa[i]? = some (.str x z)) : ∃ t, mg x = some (.str z t) := let ⟨_, X, G⟩ := T.hp; str_ok X G (T.c.d.fact i h)
theorem TxG.cls (T : TxG fa fn fi ex P K mg) (i : Nat) (x : Str) (h : fa[i]? = some (.cls x)) : Cls K (ga K x) := cls_ok (T.c.d.fact i h)
theorem TxG.na (T : TxG fa fn fi ex P K mg) (i : Nat) (x f : Str) (h : fa[i]? = some (.noat x f)) : NoAttr K (ga K x) f := noat_ok (T.c.d.fact i h)
theorem TxG.mkc (T : TxG fa fn fi ex P K mg) (i : Nat) (x : Str) (h : fa[i]? = some (.mkr x)) : Mk K (ga K x) (fAd K (x, some ("__init__" : Str))) := mkr_ok (T.c.d.fact i h)
theorem TxG.me (T : TxG fa fn fi ex P K mg) (i : Nat) (x m : Str) (h : fa[i]? = some (.meth x m)) : Meth K (ga K x) m (fAd K (x, some m)) := meth_ok (T.c.d.fact i h)
theorem TxG.df (T : TxG fa fn fi ex P K mg) (i : Nat) {d : DefD} (h : fn[i]? = some d) : ∃ fd, FunD K d.name d.qual d.params d.body d.scope (d.dvs K) (d.kws K) (fAd K d.at_) fd := T.c.d.def_ i h
theorem TxG.ini (T : TxG fa fn fi ex P K mg) (i : Nat) {d : IniD} (h : fi[i]? = some d) : ExW K (ga K d.cls) ∧ IFn P K (ga K d.cls) (ma K (ga K d.cls) "__init__") d.qual d.params d.body d.scope :=
  let ⟨a, b⟩ := T.c.ini i h; ini_ok rfl a b
theorem TxG.any (T : TxG fa fn fi ex P K mg) (i : Nat) {d : IniD} (h : fi[i]? = some d) : PySem.W.nsIn K cStatics "thirdparty.any" = some none := ini_any (T.c.ini i h).2
theorem TxG.exc (T : TxG fa fn fi ex P K mg) (i : Nat) {d : IniD} (h : fi[i]? = some d) : ExcC K (ga K d.cls) := ini_exc (T.c.ini i h).2
theorem _root_.XX.ExW.xf {K : PySem.W.Frag} {C : Addr} (T : ExW K C) : XfC K C := ⟨T.ga, T.gg, T.exC, T.hasDict⟩
theorem TxG.extra (T : TxG fa fn fi ex P K mg) : ex K = true := T.c.all.2
/-- raise X('..'), X an own class without __init__ of its own -/
theorem TxG.pk0 {X : Cx} (T : TxG fa fn fi ex X.prog X.K X.mg) (i j : Nat) (x : Str) (h : fa[i]? = some (.glo x)) (h2 : fa[j]? = some (.exc x)) {m : Str} {k : Nat} {p p2 pos : Pos} (hg : Gl X x := by rfl) (hdb : (x == ("__debug__" : Str)) = false := by decide) :
    PMk X (.Call (.Name x p) [.Constant (.str m) k p2] [] pos) (fun _ H Q => Q (.ref (ga X.K x)) none H) := by
  obtain ⟨e1, e2, e3, e4⟩ := exc_ok (T.c.d.fact j h2)
  exact pmk_own PySem.F.excBase_ValueError e1 (T.gl i x h) e2 (raises_own e3 e4) hg hdb
end
/-- raise X('..'): the reading -/
def tRz (E : XK) (C : Addr) : TS := fun _ _ H => E (.ref C) none H
/-- raise X(e, ..), X stores its arguments by these names -/
def tRx (E : XK) (C : Addr) (ns : List Str) (ta : TA) : TS := fun _ σ H => tMkX C ns ta σ H fun cls d H' => E cls d H'
theorem w_rz {E : XK} {C : Addr} {D : Ends} {σ : St} {H : Hp} (h : E (.ref C) none H) : tRz E C D σ H := h
theorem w_rx {E : XK} {C : Addr} {ns : List Str} {ta : TA} {D : Ends} {σ : St} {H : Hp} (h : ta σ H fun vs H1 => vs.length = ns.length ∧ ∀ d, H1 d = none → E (.ref C) (some d) (upd H1 d (.xd (ns.zip vs)))) : tRx E C ns ta D σ H := h
/-- o(e, ..), o an instance of the class at C (its __call__ keeps sp) -/
def tCO (K : PySem.W.Frag) (C : Addr) (sp : Sp) (tf : TE) (t : TA) : TE := fun σ H Q => tf σ H fun y H1 => ∃ a, y = V.ref a ∧ t σ H1 fun vs H2 => (∃ dx fs, H2 a = some (.ins C dx fs)) ∧ sp (V.ref a :: vs) H2 Q E0
theorem FnOk.raw0 {P : Program} {w : World} {K : PySem.W.Frag} {mg : Str → Option Value} {base : Heap} {CX : CXT} {k : Nat} {f : Addr} {sp : Sp} {fd : FuncData} {ps : List Str} (F : FnOk P w K mg base CX k f fd ps sp) (hb : Binds K fd ps []) : FnR P w K mg base CX k f sp :=
  (F.raw hb .nil).imp fun vs H Q E h => by rw [List.append_nil]; exact h
open StX in
theorem pe_co {X : Cx} {C g : Addr} {CX : CXT} {k : Nat} {sp : Sp} {tf : TE} {t : TA} {fe e : Expr} {es : List Expr} {pos : Pos} (hf : PE X fe tf) (c : CallO X.K C g) (F : FnR X.prog X.w X.K X.mg X.base CX k g sp) (hr : Room k X.A) (hx : Passes CX X E0) (ha : PA X (e :: es) t)
    (ht : eval (.Call fe (e :: es) [] pos) X.env = (do callWith pos (← eval fe X.env) [] (backTo pos (starEach (e :: es) X.env)) (backToKw pos (keywordEach [] X.env))) := by rfl)
    (he : starEach (e :: es) X.env = (false, eval e X.env) :: starEach es X.env := by rfl) (hpl : (backTo pos (starEach es X.env)).any (·.1) = false := by rfl) : PE X (.Call fe (e :: es) [] pos) (tCO X.K C sp tf t) := by
  constructor
  intro pins s σ H Q I h
  refine Call_ (thn (hf.run pins s σ H _ I h) fun u s1 hh => ?_) ht
  obtain ⟨y, H1, I1, ry, a, ey, q⟩ := hh
  subst ey
  have eu : u = Value.ref a := ry
  subst eu
  refine callO_with (thn (ha.run pos pins s1 σ H1 _ I1 q) fun us s2 hh => ?_) he hpl
  obtain ⟨vs, H2, I2, r, hi, q2⟩ := hh
  have hi2 : InsC X H2 a C := .inr hi
  obtain ⟨ox, od, J, hd⟩ := insC_at I2 hi2
  exact ⟨⟨C, ox, od, J, hd⟩, run_callO c F hr hx I2 hi2 r q2⟩
end L2

set_option maxHeartbeats 4000000
/-! The drawing helpers of every law: the state list. -/
namespace L2
open PySem PySem.Spec PyProof.Rows
/-- the drawing state at st: its cells' list, three ints -/
def StAt (H : Hp) (st : Addr) : Prop := ∃ (c : Addr) (cells : List Int) (p t d : Int), H st = some (.lst [.ref c, .int p, .int t, .int d]) ∧ H c = some (.lst (cells.map V.int)) ∧ cells ≠ []
theorem StAt.fr {l : List Addr} {H H' : Hp} {st : Addr} (h : StAt H st) (f : Fr l H H') (n : st ∉ l) (nc : ∀ c : Addr, ∀ xs : List Int, H c = some (.lst (xs.map V.int)) → xs ≠ [] → c ∉ l) : StAt H' st := by
  obtain ⟨c, cells, p, t, d, h1, h2, h3⟩ := h
  exact ⟨c, cells, p, t, d, f _ _ n h1, f _ _ (nc c cells h2 h3) h2, h3⟩
theorem StAt.same {H H' : Hp} {st : Addr} (h : StAt H st) (f : Same H H') : StAt H' st := by
  obtain ⟨c, cells, p, t, d, h1, h2, h3⟩ := h
  exact ⟨c, cells, p, t, d, f _ _ h1, f _ _ h2, h3⟩
def spNext : Sp := fun vs H Q _ => ∃ (st : Addr) (many : Int), vs = [.ref st, .int many] ∧ 0 < many ∧ many < 1073741824 ∧ StAt H st ∧
  ∀ r H', 0 ≤ r → r < many → Fr [st] H H' → StAt H' st → Q (.int r) H'
def spStart (K : PySem.W.Frag) : Sp := fun vs H Q _ => ∃ (a : Addr) (ns : List Int), vs = [.ref a] ∧ SqL K H a (ns.map V.int) ∧ ns.length ≤ 63 ∧
  ∀ H' st, Same H H' → H st = none → StAt H' st → Q (.ref st) H'
end L2

set_option maxHeartbeats 4000000
/-! Texts as lists of code points; loops. -/
namespace L2
open PySem PySem.Spec PyProof.Rows
/-- the text of these code points -/
def tx (l : List Nat) : Str := ⟨l.toArray⟩
theorem tx_len (l : List Nat) : (tx l).length = l.length := by simp [tx, Str.length]
theorem tx_list (l : List Nat) : (tx l).cps.toList = l := by simp [tx]
theorem tx_of (s : Str) : s = tx s.cps.toList := by cases s; simp [tx]
theorem tx_inj {l m : List Nat} (h : tx l = tx m) : l = m := by rw [← tx_list l, h, tx_list]
theorem tx_iff {l m : List Nat} : tx l = tx m ↔ l = m := ⟨tx_inj, fun h => by rw [h]⟩
theorem tx_app (l m : List Nat) : tx l ++ tx m = tx (l ++ m) := by
  have h : (tx l ++ tx m).cps.toList = l ++ m := by
    show ((l.toArray ++ m.toArray).toList) = l ++ m
    simp
  rw [tx_of (tx l ++ tx m), h]
theorem tx_one (c : Nat) : (⟨#[c]⟩ : Str) = tx [c] := rfl
theorem tx_nil : ("" : Str) = tx [] := by decide +kernel
/-- the part from a to b -/
def cut (l : List Nat) (a b : Nat) : List Nat := (l.drop a).take (b - a)
theorem tx_cut {l : List Nat} {a b : Int} (ha : 0 ≤ a) (hb : 0 ≤ b) : cutS (tx l) (some a) (some b) = tx (cut l a.toNat b.toNat) := by
  obtain ⟨i, rfl⟩ := Int.eq_ofNat_of_zero_le ha
  obtain ⟨j, rfl⟩ := Int.eq_ofNat_of_zero_le hb
  unfold cutS cut
  rw [tx_list, tx_len, HT.sIx_nat, HT.sIx_nat, Int.toNat_natCast, Int.toNat_natCast]
  congr 1
  congr 1
  by_cases h : i ≤ l.length
  · rw [Nat.min_eq_left h]
    by_cases h2 : j ≤ l.length
    · rw [Nat.min_eq_left h2]
    · rw [Nat.min_eq_right (by omega), List.take_of_length_le (by rw [List.length_drop]; omega), List.take_of_length_le (by rw [List.length_drop]; omega)]
  · have e : min i l.length = l.length := Nat.min_eq_right (by omega)
    rw [e, List.drop_of_length_le (Nat.le_refl _), List.drop_of_length_le (by omega)]
    simp
theorem tx_cutR {l : List Nat} {b : Int} (hb : 0 ≤ b) : cutS (tx l) none (some b) = tx (l.take b.toNat) := by
  obtain ⟨j, rfl⟩ := Int.eq_ofNat_of_zero_le hb
  unfold cutS
  rw [tx_list, tx_len, HT.sIx_none, HT.sIx_nat, Int.toNat_natCast, List.drop_zero, Nat.sub_zero]
  congr 1
  congr 1
  by_cases h2 : j ≤ l.length
  · rw [Nat.min_eq_left h2]
  · rw [Nat.min_eq_right (by omega), List.take_of_length_le (Nat.le_refl _), List.take_of_length_le (by omega)]
theorem tx_cutL {l : List Nat} {a : Int} (ha : 0 ≤ a) : cutS (tx l) (some a) none = tx (l.drop a.toNat) := by
  obtain ⟨j, rfl⟩ := Int.eq_ofNat_of_zero_le ha
  unfold cutS
  rw [tx_list, tx_len, HT.sIx_none, HT.sIx_nat, Int.toNat_natCast]
  congr 1
  congr 1
  by_cases h2 : j ≤ l.length
  · rw [Nat.min_eq_left h2, List.take_of_length_le (by rw [List.length_drop]; omega)]
  · rw [Nat.min_eq_right (by omega), List.drop_of_length_le (Nat.le_refl _), List.drop_of_length_le (by omega)]
    simp
theorem sz_le {n : Nat} (h : n ≤ 1000000) : n ≤ sizeLine := Nat.le_trans h (by decide)
theorem sz_lt1 {n : Nat} (h : n < 1000000) : n < sizeLine := Nat.lt_of_lt_of_le h (by decide)
section
variable {K : PySem.W.Frag} {σ : St} {H : Hp} {Q : VK} {l m : List Nat} {c : Nat}
theorem w_addX (h : l.length + m.length ≤ 1000000) (q : Q (.str (tx (l ++ m))) H) : xAddS (.str (tx l)) (.str (tx m)) H Q := w_addS (by rw [tx_len, tx_len]; exact sz_le h) (by rw [tx_app]; exact q)
theorem w_lenX (h : l.length ≤ 1000000) (q : Q (.int l.length) H) : xLenS [.str (tx l)] H Q := w_lenS (by rw [tx_len]; exact sz_le h) (by rw [tx_len]; exact q)
theorem w_eqX (q : Q (.bl (decide (l = m))) H) : rEq (.str (tx l)) (.str (tx m)) H Q := w_eqS (by
  have e : decide (tx l = tx m) = decide (l = m) := decide_eq_decide.mpr tx_iff
  rw [e]; exact q)
theorem w_neX (q : Q (.bl (!decide (l = m))) H) : rNe (.str (tx l)) (.str (tx m)) H Q := w_neS (by
  have e : decide (tx l = tx m) = decide (l = m) := decide_eq_decide.mpr tx_iff
  rw [e]; exact q)
theorem w_inX (q : Q (.bl (decide (c ∈ l))) H) : xInS (.str (tx [c])) (.str (tx l)) H Q := w_inS (z := tx l) (by rw [tx_list]; exact q)
theorem w_ninX (q : Q (.bl (!decide (c ∈ l))) H) : xNinS (.str (tx [c])) (.str (tx l)) H Q := w_ninS (z := tx l) (by rw [tx_list]; exact q)
theorem w_leX (q : Q (.bl (!decide (m < l))) H) : xLeS (.str (tx l)) (.str (tx m)) H Q := w_leS (by rw [tx_list, tx_list]; exact q)
theorem w_ixX {i : Int} (h : l.length ≤ 1000000) (j : Nat) (e : i = j) (hc : l[j]? = some c) (q : Q (.str (tx [c])) H) : rIxS (.str (tx l)) (.int i) H Q := w_ixS (by rw [tx_len]; exact sz_le h) (by rw [tx_list, e]; exact atI_nat hc) q
theorem w_ixX0 (h : l.length ≤ 1000000) (hc : l[0]? = some c) (q : Q (.str (tx [c])) H) : rIxS (.str (tx l)) (.int 0) H Q := w_ixX h 0 rfl hc q
theorem w_ixX1 (h : l.length ≤ 1000000) (hc : l[1]? = some c) (q : Q (.str (tx [c])) H) : rIxS (.str (tx l)) (.int 1) H Q := w_ixX h 1 rfl hc q
theorem w_ixXn {j : Nat} (h : l.length ≤ 1000000) (hc : l[j]? = some c) (q : Q (.str (tx [c])) H) : rIxS (.str (tx l)) (.int (j : Nat)) H Q := w_ixX h j rfl hc q
theorem w_ixXz {j : Nat} (h : l.length ≤ 1000000) (hc : l[j]? = some c) (q : Q (.str (tx [c])) H) : rIxS (.str (tx l)) (.int (0 + (j : Nat))) H Q := w_ixX h j (Int.zero_add _) hc q
theorem w_slX {a b : Int} (h : l.length ≤ 1000000) (ha : 0 ≤ a) (hb : 0 ≤ b) (q : Q (.str (tx (cut l a.toNat b.toNat))) H) : rSlS (.str (tx l)) (some a) (some b) H Q := w_slS (by rw [tx_len]; exact sz_le h) (by rw [tx_cut ha hb]; exact q)
theorem w_slXR {b : Int} (h : l.length ≤ 1000000) (hb : 0 ≤ b) (q : Q (.str (tx (l.take b.toNat))) H) : rSlS (.str (tx l)) none (some b) H Q := w_slS (by rw [tx_len]; exact sz_le h) (by rw [tx_cutR hb]; exact q)
theorem w_slXL {a : Int} (h : l.length ≤ 1000000) (ha : 0 ≤ a) (q : Q (.str (tx (l.drop a.toNat))) H) : rSlS (.str (tx l)) (some a) none H Q := w_slS (by rw [tx_len]; exact sz_le h) (by rw [tx_cutL ha]; exact q)
end
/-! ### loops -/
/-- what a for asks of its walk -/
def ForJ (J : It) (g : TG) (tb : TS) (D : Ends) (σ : St) (H : Hp) : Prop := ∃ W : Nat → Nat → St → Hp → Prop, (∃ m, W 0 m σ H) ∧ ∀ i m σ H, W i m σ H →
  (J.stop i H ∧ D.nx σ H) ∨ (J.go i H ∧ ∃ N : St → Hp → Prop, (∀ σ' H', N σ' H' → ∃ m', m' < m ∧ W (i + 1) m' σ' H') ∧ ∀ x H', J.yld i H x H' → g x σ H' fun σ2 H2 => tb { D with nx := N, ct := N, bk := D.nx } σ2 H2)
theorem w_for {wi : TI} {g : TG} {tb : TS} {D : Ends} {σ : St} {H : Hp} (h : wi σ H fun J H1 => ForJ J g tb D σ H1) : tFor wi g tb D σ H := h
theorem forJ {J : It} {g : TG} {tb : TS} {N B C' : St → Hp → Prop} {R : VK} {σ : St} {H : Hp} (n : Nat) (Pv : Nat → St → Hp → Prop) (h0 : Pv 0 σ H) (hst : ∀ σ H, Pv n σ H → J.stop n H) (hgo : ∀ i σ H, i < n → Pv i σ H → J.go i H)
    (hs : ∀ i σ H x H', i < n → Pv i σ H → J.yld i H x H' → g x σ H' fun σ2 H2 => tb ⟨Pv (i + 1), R, N, Pv (i + 1)⟩ σ2 H2) (hd : ∀ σ H, Pv n σ H → N σ H) : ForJ J g tb ⟨N, R, B, C'⟩ σ H := by
  refine ⟨fun i m σ H => m = n - i ∧ i ≤ n ∧ Pv i σ H, ⟨n, by simp, Nat.zero_le _, h0⟩, ?_⟩
  rintro i m σ H ⟨rfl, hi, p⟩
  by_cases hlt : i < n
  · exact .inr ⟨hgo i σ H hlt p, Pv (i + 1), fun σ' H' p' => ⟨n - (i + 1), by omega, rfl, hlt, p'⟩, fun x H' y => hs i σ H x H' hlt p y⟩
  · have e : i = n := by omega
    subst e
    exact .inl ⟨hst σ H p, hd σ H p⟩
section
variable {K : PySem.W.Frag} {g : TG} {tb : TS} {N B C' : St → Hp → Prop} {R : VK} {σ : St} {H : Hp}
theorem forL {a : Addr} {α : Type} {f : α → V} {l : List α} (Pv : Nat → St → Hp → Prop) (h0 : Pv 0 σ H) (hl : ∀ i σ H, Pv i σ H → SqL K H a (l.map f))
    (hs : ∀ i y σ H, l[i]? = some y → Pv i σ H → g (f y) σ H fun σ2 H2 => tb ⟨Pv (i + 1), R, N, Pv (i + 1)⟩ σ2 H2) (hd : ∀ σ H, Pv l.length σ H → N σ H) : ForJ (Itl K a) g tb ⟨N, R, B, C'⟩ σ H := by
  refine forJ l.length Pv h0 (fun σ H p => ⟨_, hl _ σ H p, by rw [List.length_map]; exact Nat.le_refl _⟩) (fun i σ H hi p => ⟨_, f l[i], hl _ σ H p, by rw [List.getElem?_map, List.getElem?_eq_getElem hi]; rfl⟩) (fun i σ H x H' hi p y => ?_) hd
  obtain ⟨rfl, y⟩ := y
  have e := y _ (hl _ σ _ p)
  rw [List.getElem?_map, List.getElem?_eq_getElem hi] at e
  have e2 : x = f l[i] := (Option.some.inj e).symm
  rw [e2]
  exact hs i l[i] σ _ (List.getElem?_eq_getElem hi) p
theorem forR {lo : Int} {n : Nat} (Pv : Nat → St → Hp → Prop) (h0 : Pv 0 σ H) (hs : ∀ i σ H, i < n → Pv i σ H → g (.int (lo + i)) σ H fun σ2 H2 => tb ⟨Pv (i + 1), R, N, Pv (i + 1)⟩ σ2 H2) (hd : ∀ σ H, Pv n σ H → N σ H) :
    ForJ (Itr lo n) g tb ⟨N, R, B, C'⟩ σ H := by
  refine forJ n Pv h0 (fun σ H p => Nat.le_refl n) (fun i σ H hi p => hi) (fun i σ H x H' hi p y => ?_) hd
  obtain ⟨rfl, rfl⟩ := y
  exact hs i σ _ hi p
theorem forX {l : List Nat} (Pv : Nat → St → Hp → Prop) (h0 : Pv 0 σ H) (hs : ∀ i c σ H, l[i]? = some c → Pv i σ H → g (.str (tx [c])) σ H fun σ2 H2 => tb ⟨Pv (i + 1), R, N, Pv (i + 1)⟩ σ2 H2) (hd : ∀ σ H, Pv l.length σ H → N σ H) :
    ForJ (Its (tx l)) g tb ⟨N, R, B, C'⟩ σ H := by
  have hz : (tx l).cps.size = l.length := by simp [tx]
  refine forJ l.length Pv h0 (fun σ H p => by show (tx l).cps.size ≤ l.length; omega) (fun i σ H hi p => by show i < (tx l).cps.size; omega) (fun i σ H x H' hi p y => ?_) hd
  obtain ⟨rfl, c, hc, rfl⟩ := y
  refine hs i c σ _ ?_ p
  rw [← tx_list l, Array.getElem?_toList]
  exact hc
theorem forEX {l : List Nat} (Pv : Nat → St → Hp → Prop) (h0 : Pv 0 σ H)
    (hs : ∀ i c σ H p, l[i]? = some c → Pv i σ H → H p = none → g (.ref p) σ (upd H p (.tup [.int (i : Nat), .str (tx [c])])) fun σ2 H2 => tb ⟨Pv (i + 1), R, N, Pv (i + 1)⟩ σ2 H2) (hd : ∀ σ H, Pv l.length σ H → N σ H) :
    ForJ (ItEs (tx l)) g tb ⟨N, R, B, C'⟩ σ H := by
  have hz : (tx l).cps.size = l.length := by simp [tx]
  refine forJ l.length Pv h0 (fun σ H p => by show (tx l).cps.size ≤ l.length; omega) (fun i σ H hi p => by show i < (tx l).cps.size; omega) (fun i σ H x H' hi p y => ?_) hd
  obtain ⟨T, c, rfl, hT, rfl, hc⟩ := y
  refine hs i c σ _ T ?_ p hT
  rw [← tx_list l, Array.getElem?_toList]
  exact hc
theorem forE {a : Addr} {α : Type} {f : α → V} {l : List α} (Pv : Nat → St → Hp → Prop) (h0 : Pv 0 σ H) (hl : ∀ i σ H, Pv i σ H → SqL K H a (l.map f))
    (hs : ∀ i y σ H p, l[i]? = some y → Pv i σ H → H p = none → g (.ref p) σ (upd H p (.tup [.int (i : Nat), f y])) fun σ2 H2 => tb ⟨Pv (i + 1), R, N, Pv (i + 1)⟩ σ2 H2) (hd : ∀ σ H, Pv l.length σ H → N σ H) :
    ForJ (Ite K a) g tb ⟨N, R, B, C'⟩ σ H := by
  refine forJ l.length Pv h0 (fun σ H p => ⟨_, hl _ σ H p, by rw [List.length_map]; exact Nat.le_refl _⟩) (fun i σ H hi p => ⟨_, f l[i], hl _ σ H p, by rw [List.getElem?_map, List.getElem?_eq_getElem hi]; rfl⟩) (fun i σ H x H' hi p y => ?_) hd
  obtain ⟨T, z, rfl, hT, rfl, y⟩ := y
  have e := y _ (hl _ σ _ p)
  rw [List.getElem?_map, List.getElem?_eq_getElem hi] at e
  have e2 : z = f l[i] := (Option.some.inj e).symm
  rw [e2]
  exact hs i l[i] σ _ T (List.getElem?_eq_getElem hi) p hT
/-- the keys of a dict that is locked -/
theorem forK {d : Addr} {o : Obj} {kvs : List (Key × V)} (Pv : Nat → St → Hp → Prop) (h0 : Pv 0 σ H) (hl : ∀ i σ H, Pv i σ H → H d = some (.frz o (.dK kvs)))
    (hs : ∀ i k v σ H, kvs[i]? = some (k, v) → Pv i σ H → g (kV k) σ H fun σ2 H2 => tb ⟨Pv (i + 1), R, N, Pv (i + 1)⟩ σ2 H2) (hd : ∀ σ H, Pv kvs.length σ H → N σ H) : ForJ (Itk d o kvs) g tb ⟨N, R, B, C'⟩ σ H := by
  refine forJ kvs.length Pv h0 (fun σ H p => ⟨hl _ σ H p, Nat.le_refl _⟩) (fun i σ H hi p => ⟨hl _ σ H p, hi⟩) (fun i σ H x H' hi p y => ?_) hd
  obtain ⟨rfl, k, v, e, rfl⟩ := y
  exact hs i k v σ _ e p
variable {Ri : It → Hp → Prop} {te : TE} {ta : TA}
theorem w_iL (h : te σ H fun x H1 => ∃ a, x = .ref a ∧ (∃ xs, SqL K H1 a xs) ∧ Ri (Itl K a) H1) : iList K te σ H Ri := h
theorem w_iS (h : te σ H fun v H1 => ∃ x, v = .str x ∧ Ri (Its x) H1) : iStr te σ H Ri := h
theorem w_iR1 (h : ta σ H fun vs H1 => ∃ j : Int, vs = [.int j] ∧ -(2 ^ 62) ≤ j ∧ j < 2 ^ 62 ∧ Ri (Itr 0 j.toNat) H1) : iRng1 ta σ H Ri := h
theorem w_iE (h : ta σ H fun vs H1 => ∃ a xs, vs = [.ref a] ∧ SqL K H1 a xs ∧ Ri (Ite K a) H1) : iEnum K ta σ H Ri := h
theorem w_iEs (h : ta σ H fun vs H1 => ∃ x, vs = [.str x] ∧ Ri (ItEs x) H1) : iEnumS ta σ H Ri := h
theorem w_ref {P : Addr → Prop} {a : Addr} (q : P a) : ∃ b, V.ref a = .ref b ∧ P b := ⟨a, rfl, q⟩
theorem w_str {P : Str → Prop} {s : Str} (q : P s) : ∃ x, V.str s = .str x ∧ P x := ⟨s, rfl, q⟩
theorem w_str1 {P : Str → Prop} {s : Str} (q : P s) : ∃ x, [V.str s] = [.str x] ∧ P x := ⟨s, rfl, q⟩
theorem w_int1v {P : Int → Prop} {i : Int} (q : P i) : ∃ j : Int, [V.int i] = [.int j] ∧ P j := ⟨i, rfl, q⟩
theorem w_gtup {n : Nat} {t : TGs} {a : Addr} {xs : List V} {Q : St → Hp → Prop} (h : SqT K H a xs) (hl : xs.length = n) (q : t xs σ H Q) : gTup K n t (.ref a) σ H Q := ⟨a, xs, rfl, h, hl, q⟩
theorem w_gcons {t : TG} {u : TGs} {v : V} {r : List V} {Q : St → Hp → Prop} (q : t v σ H fun σ' H' => u r σ' H' Q) : gCons t u (v :: r) σ H Q := ⟨v, r, rfl, q⟩
theorem w_gnil {Q : St → Hp → Prop} (q : Q σ H) : gNil [] σ H Q := ⟨rfl, q⟩
end
/-! ### comprehensions -/
def LcJ (J : It) (g : TG) (tt : TT) (te : TE) (vs : List Nat) (σ : St) (D : Addr) (H1 : Hp) (Q : VK) : Prop := ∃ W : Nat → Nat → Hp → Prop, (∃ m, W 0 m (upd H1 D (.lst []))) ∧ ∀ i m H, W i m H →
  (J.stop i H ∧ Q (.ref D) H) ∨ (J.go i H ∧ ∃ Nx : Hp → Prop, (∀ H', Nx H' → ∃ m', m' < m ∧ W (i + 1) m' H') ∧ ∀ x H', J.yld i H x H' → g x (wipe σ vs) H' fun σ2 H2 => wipe σ2 vs = wipe σ vs ∧ tt σ2 H2 fun b H3 =>
    if b = true then te σ2 H3 fun y H4 => ∃ acc, H4 D = some (.lst acc) ∧ acc.length < sizeLine ∧ Nx (upd H4 D (.lst (acc ++ [y]))) else Nx H3)
theorem w_lc {wi : TI} {g : TG} {tt : TT} {te : TE} {vs : List Nat} {σ : St} {H : Hp} {Q : VK} (h : wi σ H fun J H1 => ∀ D, H1 D = none → LcJ J g tt te vs σ D H1 Q) : tLc wi g tt te vs σ H Q := h
/-- what a turn of a comprehension is to reach -/
def LcU (D : Addr) (i : Nat) (P : List V → Hp → Prop) (H : Hp) : Prop := ∃ acc, acc.length ≤ i + 1 ∧ H D = some (.lst acc) ∧ P acc H
def LcT (D : Addr) (i : Nat) (P : List V → Hp → Prop) (v : V) (H : Hp) : Prop := ∃ acc, H D = some (.lst acc) ∧ acc.length < sizeLine ∧ LcU D i P (upd H D (.lst (acc ++ [v])))
theorem LcT.mk {D : Addr} {i : Nat} {P : List V → Hp → Prop} {v : V} {H : Hp} {acc : List V} (h : H D = some (.lst acc)) (hl : acc.length ≤ i) (hi : i < 1000000) (p : P (acc ++ [v]) (upd H D (.lst (acc ++ [v])))) : LcT D i P v H :=
  ⟨acc, h, sz_lt1 (by omega), acc ++ [v], by rw [List.length_append, List.length_singleton]; omega, upd_same, p⟩
theorem lcJ {J : It} {g : TG} {tt : TT} {te : TE} {vs : List Nat} {σ : St} {D : Addr} {H1 : Hp} {Q : VK} (n : Nat) (hn : n ≤ 1000000) (Pv : Nat → List V → Hp → Prop) (h0 : Pv 0 [] (upd H1 D (.lst [])))
    (hst : ∀ acc H, H D = some (.lst acc) → Pv n acc H → J.stop n H) (hgo : ∀ i acc H, i < n → H D = some (.lst acc) → Pv i acc H → J.go i H)
    (hs : ∀ i acc H x H', i < n → i < 1000000 → acc.length ≤ i → H D = some (.lst acc) → Pv i acc H → J.yld i H x H' → g x (wipe σ vs) H' fun σ2 H2 => wipe σ2 vs = wipe σ vs ∧ tt σ2 H2 fun b H3 =>
      if b = true then te σ2 H3 fun v H4 => LcT D i (Pv (i + 1)) v H4 else LcU D i (Pv (i + 1)) H3)
    (hd : ∀ acc H, H D = some (.lst acc) → Pv n acc H → Q (.ref D) H) : LcJ J g tt te vs σ D H1 Q := by
  refine ⟨fun i m H => m = n - i ∧ i ≤ n ∧ ∃ acc, acc.length ≤ i ∧ H D = some (.lst acc) ∧ Pv i acc H, ⟨n, by simp, Nat.zero_le _, [], Nat.le_refl _, upd_same, h0⟩, ?_⟩
  rintro i m H ⟨rfl, hi, acc, hl, hD, p⟩
  by_cases hlt : i < n
  · exact .inr ⟨hgo i acc H hlt hD p, LcU D i (Pv (i + 1)), fun H' ⟨acc, a, b, c⟩ => ⟨n - (i + 1), by omega, rfl, hlt, acc, a, b, c⟩, fun x H' y => hs i acc H x H' hlt (by omega) hl hD p y⟩
  · have e : i = n := by omega
    subst e
    exact .inl ⟨hst acc H hD p, hd acc H hD p⟩
section
variable {K : PySem.W.Frag} {g : TG} {tt : TT} {te : TE} {vs : List Nat} {σ : St} {D : Addr} {H1 : Hp} {Q : VK}
theorem lcL {a : Addr} {α : Type} {f : α → V} {l : List α} (hn : l.length ≤ 1000000) (Pv : Nat → List V → Hp → Prop) (h0 : Pv 0 [] (upd H1 D (.lst []))) (hl : ∀ i acc H, H D = some (.lst acc) → Pv i acc H → SqL K H a (l.map f))
    (hs : ∀ i y acc H, l[i]? = some y → i < 1000000 → acc.length ≤ i → H D = some (.lst acc) → Pv i acc H → g (f y) (wipe σ vs) H fun σ2 H2 => wipe σ2 vs = wipe σ vs ∧ tt σ2 H2 fun b H3 =>
      if b = true then te σ2 H3 fun v H4 => LcT D i (Pv (i + 1)) v H4 else LcU D i (Pv (i + 1)) H3)
    (hd : ∀ acc H, H D = some (.lst acc) → Pv l.length acc H → Q (.ref D) H) : LcJ (Itl K a) g tt te vs σ D H1 Q := by
  refine lcJ l.length hn Pv h0 (fun acc H hD p => ⟨_, hl _ _ H hD p, by rw [List.length_map]; exact Nat.le_refl _⟩) (fun i acc H hi hD p => ⟨_, f l[i], hl _ _ H hD p, by rw [List.getElem?_map, List.getElem?_eq_getElem hi]; rfl⟩) (fun i acc H x H' hi hm hz hD p y => ?_) hd
  obtain ⟨rfl, y⟩ := y
  have e := y _ (hl _ _ _ hD p)
  rw [List.getElem?_map, List.getElem?_eq_getElem hi] at e
  have e2 : x = f l[i] := (Option.some.inj e).symm
  rw [e2]
  exact hs i l[i] acc _ (List.getElem?_eq_getElem hi) hm hz hD p
theorem lcR {lo : Int} {n : Nat} (hn : n ≤ 1000000) (Pv : Nat → List V → Hp → Prop) (h0 : Pv 0 [] (upd H1 D (.lst [])))
    (hs : ∀ i acc H, i < n → acc.length ≤ i → H D = some (.lst acc) → Pv i acc H → g (.int (lo + i)) (wipe σ vs) H fun σ2 H2 => wipe σ2 vs = wipe σ vs ∧ tt σ2 H2 fun b H3 =>
      if b = true then te σ2 H3 fun v H4 => LcT D i (Pv (i + 1)) v H4 else LcU D i (Pv (i + 1)) H3)
    (hd : ∀ acc H, H D = some (.lst acc) → Pv n acc H → Q (.ref D) H) : LcJ (Itr lo n) g tt te vs σ D H1 Q := by
  refine lcJ n hn Pv h0 (fun acc H hD p => Nat.le_refl n) (fun i acc H hi hD p => hi) (fun i acc H x H' hi hm hz hD p y => ?_) hd
  obtain ⟨rfl, rfl⟩ := y
  exact hs i acc _ hi hz hD p
end
theorem w_yes {σ : St} {H : Hp} {Q : Bool → Hp → Prop} (q : Q true H) : tYes σ H Q := q
theorem Same.put {H H' : Hp} {d : Addr} {o : HO} (s : Same H H') (h : H d = Option.none) : Same H (upd H' d o) := fun c u e => by
  rw [upd_ne (ne_of_none e h)]
  exact s _ _ e
section
variable {K : PySem.W.Frag} {σ : St} {H : Hp} {Q : VK} {te tv : TE} {f : Str} {N B C' : St → Hp → Prop} {R : VK}
theorem w_tfld (h : te σ H fun x H1 => ∃ a C dx fs v, x = .ref a ∧ H1 a = some (.ins C dx fs) ∧ Cls K C ∧ NoAttr K C f ∧ fs.lookup f = some v ∧ Q v H1) : tFld K te f σ H Q := h
theorem w_fldE {P : V → Prop} {a C dx : Addr} {fs : List (Str × V)} {v : V} (ho : H a = some (.ins C dx fs)) (hc : Cls K C) (hn : NoAttr K C f) (hl : fs.lookup f = some v) (q : P v) : ∃ b C dx fs v, V.ref a = .ref b ∧ H b = some (.ins C dx fs) ∧ Cls K C ∧ NoAttr K C f ∧ fs.lookup f = some v ∧ P v :=
  ⟨a, C, dx, fs, v, rfl, ho, hc, hn, hl, q⟩
theorem w_sfld (h : tv σ H fun y H1 => te σ H1 fun x H2 => ∃ a C dx fs, x = .ref a ∧ H2 a = some (.ins C dx fs) ∧ Cls K C ∧ NoAttr K C f ∧ fs.length < 1000 ∧ N σ (upd H2 a (.ins C dx (putF f y fs)))) : sFld K te tv f ⟨N, R, B, C'⟩ σ H := h
theorem w_sfldE {P : Hp → Prop} {a C dx : Addr} {fs : List (Str × V)} {y : V} (ho : H a = some (.ins C dx fs)) (hc : Cls K C) (hn : NoAttr K C f) (hl : fs.length < 1000) (q : P (upd H a (.ins C dx (putF f y fs)))) : ∃ b C dx fs, V.ref a = .ref b ∧ H b = some (.ins C dx fs) ∧ Cls K C ∧ NoAttr K C f ∧ fs.length < 1000 ∧ P (upd H b (.ins C dx (putF f y fs))) :=
  ⟨a, C, dx, fs, rfl, ho, hc, hn, hl, q⟩
theorem w_dnew (h : ∀ p, H p = Option.none → Q (.ref p) (upd H p (.dK []))) : tDNewK σ H Q := h
theorem w_dictD {p : Addr} {kvs : List (Key × V)} (h : H p = some (.dK kvs)) (q : ∀ l, H l = Option.none → Q (.ref l) (upd H l (.dK kvs))) : xDictD [.ref p] H Q := ⟨p, kvs, rfl, .inl h, q⟩
end
theorem w_seqP {σ : St} {H : Hp} {t u : TS} {N B C' : St → Hp → Prop} {R : VK} (P : St → Hp → Prop) (h1 : ∀ U : St → Hp → Prop, (∀ σ H, P σ H → U σ H) → t ⟨U, R, B, C'⟩ σ H) (h2 : ∀ σ H, P σ H → u ⟨N, R, B, C'⟩ σ H) : tSeq t u ⟨N, R, B, C'⟩ σ H := h1 _ h2
section
variable {K : PySem.W.Frag} {σ : St} {H : Hp} {Q : VK}
theorem w_bm {T : String} {r : V → List V → Hp → VK → Prop} {to : TE} {t : TA} (h : to σ H fun x H1 => tyV K T x H1 ∧ t σ H1 fun xs H2 => r x xs H2 Q) : tBM K T r to t σ H Q := h
theorem w_bm0 {T : String} {r : V → List V → Hp → VK → Prop} {to : TE} (h : to σ H fun x H1 => tyV K T x H1 ∧ r x [] H1 Q) : tBM0 K T r to σ H Q := h
theorem w_tyL {B : Prop} {a : Addr} {xs : List V} (h : SqL K H a xs) (q : B) : tyV K "list" (.ref a) H ∧ B := ⟨.inl ⟨rfl, xs, h⟩, q⟩
theorem w_tyD {B : Prop} {a : Addr} {xs : List (Key × V)} (h : H a = some (.dK xs)) (q : B) : tyV K "dict" (.ref a) H ∧ B := ⟨.inr (.inr (.inl ⟨rfl, .inl ⟨xs, h⟩⟩)), q⟩
theorem w_tyS {B : Prop} {s : Str} (q : B) : tyV K "str" (.str s) H ∧ B := ⟨rfl, q⟩
theorem w_app {l : Addr} {xs : List V} {y : V} (h : H l = some (.lst xs)) (hl : xs.length < 1000000) (q : Q .non (upd H l (.lst (xs ++ [y])))) : rAppend (.ref l) [y] H Q := ⟨l, xs, y, rfl, rfl, h, sz_lt1 hl, q⟩
end
theorem w_dgS {H : Hp} {P : V → Prop} {a : Addr} {kvs : List (Key × V)} {k : Str} {v : V} (h : H a = some (.dK kvs)) (e : valV kvs (Sum.inr k) = some v) (q : P v) : ∃ b v, V.ref a = .ref b ∧ DGet H b (.str k) (some v) ∧ P v := ⟨a, v, rfl, by rw [← e]; exact dget_s h, q⟩
theorem w_dhS {H : Hp} {P : Bool → Prop} {a : Addr} {kvs : List (Key × V)} {k : Str} (h : H a = some (.dK kvs)) (q : P (valV kvs (Sum.inr k)).isSome) : ∃ b o, V.ref a = .ref b ∧ DGet H b (.str k) o ∧ P o.isSome := ⟨a, _, rfl, dget_s h, q⟩
theorem w_dpS {H : Hp} {P : Hp → Prop} {a : Addr} {kvs : List (Key × V)} {k : Str} {v : V} (h : H a = some (.dK kvs)) (hl : kvs.length < 1000000) (q : P (upd H a (.dK (putK kvs (Sum.inr k) v)))) : ∃ b H', V.ref a = .ref b ∧ DPut H b (.str k) v H' ∧ P H' := ⟨a, _, rfl, dput_s h (sz_lt1 hl), q⟩
theorem w_if0 {c : Bool} {A B : Prop} (h : c = false) (q : B) : if c = true then A else B := by rw [if_neg (by simp [h])]; exact q
theorem w_if1 {c : Bool} {A B : Prop} (h : c = true) (q : A) : if c = true then A else B := by rw [if_pos h]; exact q
theorem w_ite1 {A B : Prop} (h : A) : if true = true then A else B := by rw [if_pos rfl]; exact h
theorem Fr.drop {D : Addr} {l : List Addr} {H H' : Hp} (f : Fr (D :: l) H H') (h : H D = Option.none) : Fr l H H' := fun b o n e => f b o (fun z => by
  rcases List.mem_cons.mp z with z | z
  · rw [z, h] at e
    cases e
  · exact n z) e
theorem w_new {n : Nat} {B : Prop} (h : n ≤ 1000000) (q : B) : n ≤ sizeLine ∧ B := ⟨sz_le h, q⟩
end L2

set_option maxHeartbeats 4000000
/-! The two drawing helpers that every law brings: their readings and what they do. -/
namespace L2
open PySem PySem.Spec PyProof.Rows
local macro_rules | `(tactic| walk_at "fd") => `(tactic| first | assumption | exact SqL.of (by assumption) | exact SqT.of (by assumption) | exact SqL.of upd_same | exact SqT.of upd_same)
local macro_rules | `(tactic| walk_at "pur") => `(tactic| (intros; (repeat walk_at "w"); first | assumption | (rename_i q; exact q)))
local macro_rules | `(tactic| walk_at "w") => `(tactic| first
  | (with_reducible refine w_seq ?_) | (with_reducible refine w_asg ?_) | ((with_reducible refine w_name ?_); dsimp only [List.set_cons_zero, List.set_cons_succ]) | (with_reducible refine w_ret ?_) | (with_reducible refine w_retN ?_)
  | (with_reducible refine w_drop ?_) | (with_reducible refine w_if ?_) | (with_reducible refine w_next ?_) | (with_reducible refine w_brk ?_) | (with_reducible refine w_cont ?_)
  | ((with_reducible refine' w_var ?hv ?_); (case hv => rfl)) | (with_reducible refine w_c ?_) | (with_reducible refine w_op ?_) | (with_reducible refine w_cb ?_) | (with_reducible refine w_cons ?_) | (with_reducible refine w_nil ?_)
  | (with_reducible refine w_add ?_) | (with_reducible refine w_sub ?_) | (with_reducible refine w_lt ?_) | (with_reducible refine w_le ?_) | (with_reducible refine w_gt ?_) | (with_reducible refine w_ge ?_)
  | (with_reducible refine w_eqI ?_) | (with_reducible refine w_neI ?_) | (with_reducible refine w_int1 ?_) | (with_reducible refine w_abs ?_) | (with_reducible refine w_max2 ?_) | (with_reducible refine w_min2 ?_)
  | (with_reducible refine w_test ?_) | (with_reducible refine w_b ?_) | (with_reducible refine w_bl ?_) | (with_reducible refine w_in ?_)
  | ((with_reducible refine' w_and2 ?h1 ?h2 ?_); (case h1 => walk_at "pur"); (case h2 => walk_at "pur")) | ((with_reducible refine' w_or2 ?h1 ?h2 ?_); (case h1 => walk_at "pur"); (case h2 => walk_at "pur"))
  | ((with_reducible refine' w_andV2 ?h1 ?h2 ?_); (case h1 => walk_at "pur"); (case h2 => walk_at "pur")) | ((with_reducible refine' w_orV2 ?h1 ?h2 ?_); (case h1 => walk_at "pur"); (case h2 => walk_at "pur"))
  | (with_reducible refine w_and ?_) | (with_reducible refine w_or ?_) | (with_reducible refine w_not ?_)
  | (with_reducible refine w_andV ?_) | (with_reducible refine w_orV ?_) | (with_reducible refine w_notV ?_) | (with_reducible refine w_ifE ?_) | (with_reducible refine w_gsub ?_)
  | (with_reducible refine w_sl ?_) | (with_reducible refine w_pt ?_) | (with_reducible refine w_npt ?_) | (with_reducible refine w_tup ?_) | (with_reducible refine w_lst ?_)
  | ((with_reducible refine' w_new ?h1 ?_); (case h1 => exact Nat.le_of_ble_eq_true rfl)) | (with_reducible refine w_yes ?_) | (with_reducible refine w_ite1 ?_)
  | (with_reducible refine w_addX (by first | (simp only [List.length_append, List.length_cons, List.length_nil]; omega) | omega) ?_) | (with_reducible refine w_lenX (by omega) ?_) | (with_reducible refine w_eqX ?_) | (with_reducible refine w_neX ?_) | (with_reducible refine w_inX ?_) | (with_reducible refine w_ninX ?_) | (with_reducible refine w_leX ?_)
  | (with_reducible refine w_for ?_) | (with_reducible refine w_iL ?_) | (with_reducible refine w_iS ?_) | (with_reducible refine w_iR1 ?_) | (with_reducible refine w_iE ?_) | (with_reducible refine w_iEs ?_) | (with_reducible refine w_ref ?_) | (with_reducible refine w_str ?_) | (with_reducible refine w_str1 ?_) | (with_reducible refine w_int1v ?_)
  | (with_reducible refine w_gcons ?_) | (with_reducible refine w_gnil ?_) | ((with_reducible refine' w_gtup ?h1 ?h2 ?_); (case h1 => walk_at "fd"); (case h2 => rfl)) | (with_reducible refine w_lc ?_) | (with_reducible refine w_call ?_) | (with_reducible refine w_dget ?_) | (with_reducible refine w_din ?_) | (with_reducible refine w_dnin ?_) | (with_reducible refine w_dput ?_)
  | ((with_reducible refine' w_ixL ?h1 ?h2 ?_); (case h1 => walk_at "fd"); (case h2 => rfl))
  | ((with_reducible refine' w_ixT ?h1 ?h2 ?_); (case h1 => walk_at "fd"); (case h2 => rfl))
  | ((with_reducible refine' w_mod ?hc ?_); (case hc => first | omega | decide)) | ((with_reducible refine' w_div ?hc ?_); (case hc => exact ⟨by omega, by omega⟩)) | ((with_reducible refine' w_pow ?hc ?_); (case hc => exact ⟨by decide, by decide, by decide⟩))
  | ((with_reducible refine' w_mul ?hc ?_); (case hc => first | exact Or.inl ⟨by omega, by omega⟩ | exact Or.inr ⟨by omega, by omega⟩))
  | ((with_reducible refine' w_lenM ?h1 ?_); (case h1 => walk_at "fd")) | ((with_reducible refine' w_lenL ?h1 ?_); (case h1 => walk_at "fd"))
  | (with_reducible refine w_eqS ?_) | (with_reducible refine w_neS ?_)
  | ((with_reducible refine' w_lenT ?h1 ?_); (case h1 => walk_at "fd"))
  | ((with_reducible refine' w_setL ?h1 ?h2 ?_); (case h1 => first | assumption | exact upd_same); (case h2 => rfl); dsimp only [Int.reduceToNat, List.set_cons_zero, List.set_cons_succ]))
abbrev N_dstart : List Str := ["script", "cells", "cell"]
def t_dstart (K : PySem.W.Frag) : TS :=
  (tSeq (tAsg (tLc (iList K (tVar 0)) (gName 2) tYes (tCB xAbs (tCons (tVar 2) tNil)) [2]) (gName 1))
    (tSeq (tIfS (tTest (tOp rEq (tCB (xLenQ K) (tCons (tVar 1) tNil)) (tC (.int 0)))) (tAsg (tLst (tCons (tC (.int 0)) tNil)) (gName 1)) tNext)
    (tRet (tLst (tCons (tVar 1) (tCons (tC (.int 0)) (tCons (tC (.int 0)) (tCons (tC (.int 0)) tNil))))))))
theorem start_dstart (a0 : V) : start N_dstart [a0] = [some a0, none, none] := rfl

abbrev N_dnext : List Str := ["state", "many", "cells", "cell", "turn", "mixed", "told"]
def t_dnext (K : PySem.W.Frag) : TS :=
  (tSeq (tAsg (tOp (rIxL K) (tVar 0) (tC (.int 0))) (gName 2))
    (tSeq (tAsg (tOp (rIxL K) (tVar 2) (tOp xMod (tCB xInt1 (tCons (tOp (rIxL K) (tVar 0) (tC (.int 1))) tNil)) (tCB (xLenQ K) (tCons (tVar 2) tNil)))) (gName 3))
    (tSeq (tIfS (tAnd (tTest (tOp xGe (tVar 3) (tOp xPow (tC (.int 10)) (tC (.int 18))))) (tTest (tOp xLt (tOp (rIxL K) (tVar 0) (tC (.int 1))) (tCB (xLenQ K) (tCons (tVar 2) tNil))))) (tSeq (tIfS (tTest (tOp rEq (tOp (rIxL K) (tVar 0) (tC (.int 3))) (tC (.int 0)))) (tAsg (tVar 3) (gSub (tVar 0) (tC (.int 2)) rSetL)) tNext)
    (tSeq (tAsg (tOp xMod (tCB xInt1 (tCons (tOp (rIxL K) (tVar 0) (tC (.int 2))) tNil)) (tVar 1)) (gName 6))
    (tSeq (tAsg (tOp xDiv (tCB xInt1 (tCons (tOp (rIxL K) (tVar 0) (tC (.int 2))) tNil)) (tVar 1)) (gSub (tVar 0) (tC (.int 2)) rSetL))
    (tSeq (tAsg (tOp xAdd (tOp (rIxL K) (tVar 0) (tC (.int 3))) (tC (.int 1))) (gSub (tVar 0) (tC (.int 3)) rSetL))
    (tSeq (tIfS (tOr (tTest (tOp rEq (tOp (rIxL K) (tVar 0) (tC (.int 2))) (tC (.int 0)))) (tTest (tOp xGe (tOp (rIxL K) (tVar 0) (tC (.int 3))) (tC (.int 60))))) (tSeq (tAsg (tOp xAdd (tOp (rIxL K) (tVar 0) (tC (.int 1))) (tC (.int 1))) (gSub (tVar 0) (tC (.int 1)) rSetL))
    (tAsg (tC (.int 0)) (gSub (tVar 0) (tC (.int 3)) rSetL))) tNext)
    (tRet (tVar 6))))))) tNext)
    (tSeq (tAsg (tOp xAdd (tOp (rIxL K) (tVar 0) (tC (.int 3))) (tOp xMul (tC (.int 7)) (tOp (rIxL K) (tVar 0) (tC (.int 1))))) (gName 4))
    (tSeq (tAsg (tOp xMul (tOp xAdd (tOp xMod (tCB xInt1 (tCons (tVar 3) tNil)) (tC (.int 2147483629))) (tC (.int 1))) (tOp xAdd (tC (.int 48271)) (tOp xMul (tC (.int 2)) (tVar 4)))) (gName 5))
    (tSeq (tAsg (tOp xMod (tCB xInt1 (tCons (tVar 5) tNil)) (tC (.int 2147483647))) (gName 5))
    (tSeq (tAsg (tOp xMod (tCB xInt1 (tCons (tOp xAdd (tOp xAdd (tOp xMul (tVar 5) (tVar 5)) (tOp xMul (tC (.int 69621)) (tVar 4))) (tC (.int 7))) tNil)) (tC (.int 2147483629))) (gName 5))
    (tSeq (tAsg (tOp xAdd (tOp (rIxL K) (tVar 0) (tC (.int 3))) (tC (.int 1))) (gSub (tVar 0) (tC (.int 3)) rSetL))
    (tSeq (tIfS (tTest (tOp xGe (tOp (rIxL K) (tVar 0) (tC (.int 3))) (tC (.int 6)))) (tSeq (tAsg (tOp xAdd (tOp (rIxL K) (tVar 0) (tC (.int 1))) (tC (.int 1))) (gSub (tVar 0) (tC (.int 1)) rSetL))
    (tAsg (tC (.int 0)) (gSub (tVar 0) (tC (.int 3)) rSetL))) tNext)
    (tRet (tOp xMod (tCB xInt1 (tCons (tOp xDiv (tVar 5) (tC (.int 5))) tNil)) (tVar 1))))))))))))
theorem start_dnext (a0 a1 : V) : start N_dnext [a0, a1] = [some a0, some a1, none, none, none, none, none] := rfl

theorem atI_mod {l : List Int} (hne : l ≠ []) (p : Int) : ∃ z, z ∈ l ∧ atI (l.map V.int) (p % (l.length : Int)) = some (.int z) := by
  have hl : 0 < (l.length : Int) := by
    cases l with
    | nil => exact absurd rfl hne
    | cons a r => simp only [List.length_cons]; omega
  have h0 := Int.emod_nonneg p (b := (l.length : Int)) (by omega)
  have h1 := Int.emod_lt_of_pos p hl
  obtain ⟨j, ej⟩ : ∃ j : Nat, p % (l.length : Int) = (j : Int) := ⟨(p % (l.length : Int)).toNat, by omega⟩
  have hj : j < l.length := by omega
  refine ⟨l[j], List.getElem_mem hj, ?_⟩
  rw [ej]
  exact atI_nat (by rw [List.getElem?_map, List.getElem?_eq_getElem hj]; rfl)
theorem pure_dnext {K : PySem.W.Frag} (vs : List V) (H : Hp) (Q : VK) (E : XK) (h : spNext vs H Q E) : t_dnext K { nx := fun _ H' => Q .non H', rt := Q } (start N_dnext vs) H := by
  obtain ⟨st, many, rfl, h0, h1, ⟨c, cells, p, t, d, hst, hc, hne⟩, k⟩ := h
  have ne : c ≠ st := ne_of hc hst (by intro z; cases cells with
    | nil => exact hne rfl
    | cons a l => simp at z)
  have hl : 0 < (cells.length : Int) := by
    cases cells with
    | nil => exact absurd rfl hne
    | cons a r => simp only [List.length_cons]; omega
  obtain ⟨z, hz, ez⟩ := atI_mod hne p
  have fin : ∀ (p' t' d' r : Int), 0 ≤ r → r < many → ∀ H', H' st = some (.lst [.ref c, .int p', .int t', .int d']) → (∀ b, b ≠ st → H' b = H b) → Q (.int r) H' := fun p' t' d' r r0 r1 H' e1 e2 =>
    k r H' r0 r1 (fun b o n e => by rw [e2 b (by simpa using n)]; exact e) ⟨c, cells, p', t', d', e1, by rw [e2 c ne]; exact hc, hne⟩
  rw [start_dnext]
  unfold t_dnext
  repeat walk_at "w"
  refine w_ixL (SqL.of hc) ez ?_
  repeat walk_at "w"
  repeat walk_at "w"
  have mo : ∀ x : Int, 0 ≤ x % many ∧ x % many < many := fun x => ⟨Int.emod_nonneg _ (by omega), Int.emod_lt_of_pos _ h0⟩
  refine w_iteB (fun hA => ?_) (fun hA => ?_)
  · repeat walk_at "w"
    refine w_iteD (fun hd => ?_) (fun hd => ?_)
    all_goals
      repeat walk_at "w"
      refine w_iteB (fun hd => ?_) (fun hd => ?_)
      all_goals
        repeat walk_at "w"
        exact fin _ _ _ _ (mo _).1 (mo _).2 _ (by first | assumption | exact upd_same) (fun b hb => by simp only [upd_ne hb])
  · repeat walk_at "w"
    refine w_iteD (fun hd => ?_) (fun hd => ?_)
    all_goals
      repeat walk_at "w"
      exact fin _ _ _ _ (mo _).1 (mo _).2 _ (by first | assumption | exact upd_same) (fun b hb => by simp only [upd_ne hb])

theorem pure_dstart {K : PySem.W.Frag} (vs : List V) (H : Hp) (Q : VK) (E : XK) (h : spStart K vs H Q E) : t_dstart K { nx := fun _ H' => Q .non H', rt := Q } (start N_dstart vs) H := by
  obtain ⟨a, ns, rfl, hS, hlen, k⟩ := h
  have hn : ns.length ≤ 1000000 := by omega
  rw [start_dstart]
  unfold t_dstart
  repeat walk_at "w"
  refine ⟨⟨_, hS⟩, fun D hD => ?_⟩
  -- the cells: absolute values
  refine lcL (l := ns) (f := V.int) hn (fun i acc H' => (∃ ms : List Int, acc = ms.map V.int ∧ ms.length = i) ∧ Same H H') ⟨⟨[], rfl, rfl⟩, Same.new hD⟩ (fun i acc H' _ p => p.2.seq hS) (fun i y acc H' hy hm hz hDa p => ?_) (fun acc H' hDa p => ?_)
  · obtain ⟨⟨ms, rfl, hms⟩, fr⟩ := p
    dsimp only [wipe, List.set_cons_zero, List.set_cons_succ]
    repeat walk_at "w"
    refine ⟨rfl, w_yes (w_ite1 ?_)⟩
    repeat walk_at "w"
    exact LcT.mk hDa hz hm ⟨⟨ms ++ [_], by rw [List.map_append]; rfl, by rw [List.length_append, hms]; rfl⟩, ((Fr.of (l := [D]) fr).trans (Fr.put (by simp))).drop hD |>.same⟩
  · obtain ⟨⟨ms, rfl, hms⟩, fr⟩ := p
    have fin : ∀ (H1 : Hp) (C : Addr) (ms' : List Int) (p : Addr), Same H H1 → H1 C = some (.lst (ms'.map V.int)) → ms' ≠ [] → H1 p = none → Q (.ref p) (upd H1 p (.lst [.ref C, .int 0, .int 0, .int 0])) := fun H1 C ms' p s1 hC ne hp =>
      k _ p (s1.trans (Same.new hp)) (s1.free hp) ⟨C, ms', 0, 0, 0, upd_same, Same.new hp _ _ hC, ne⟩
    repeat walk_at "w"
    refine w_iteD (fun h0 => ?_) (fun h0 => ?_)
    · repeat walk_at "w"
      intro p hp
      repeat walk_at "w"
      exact fun q hq => fin _ p [0] q (fr.trans (Same.new hp)) upd_same (by simp) hq
    · repeat walk_at "w"
      exact fun q hq => fin _ D ms q fr hDa (fun z => h0 (by rw [z]; rfl)) hq
end L2

set_option maxHeartbeats 4000000
/-! What the turner law speaks of, in plain lists. -/
namespace K87
open PySem L2
abbrev Pr : Type := List Nat × List Nat
/-- the view of the word at the place i, of the size k -/
def view (w : List Nat) (i k : Nat) : List Nat := cut w (i + 1 - k) (i + 1)
/-- the views of one pair with their letters; of all pairs -/
def ents (k : Nat) (p : Pr) : List (List Nat × Nat) := (List.range p.1.length).map fun i => (view p.1 i k, p.2.getD i 0)
def entries (k : Nat) (ps : List Pr) : List (List Nat × Nat) := ps.flatMap (ents k)
def put1 (t : List (Key × V)) (e : List Nat × Nat) : List (Key × V) := putK t (Sum.inr (tx e.1)) (.str (tx [e.2]))
def tbl (es : List (List Nat × Nat)) : List (Key × V) := es.foldl put1 []
/-- the last letter put for a view -/
def lk (es : List (List Nat × Nat)) (v : List Nat) : Option Nat := (es.reverse.find? fun e => decide (e.1 = v)).map (·.2)
def Cons (es : List (List Nat × Nat)) : Prop := ∀ e ∈ es, ∀ e' ∈ es, e.1 = e'.1 → e.2 = e'.2
def imgOf (es : List (List Nat × Nat)) (k : Nat) (w : List Nat) (n : Nat) : Option (List Nat) := (List.range n).mapM fun i => lk es (view w i k)
theorem tbl_nil : tbl [] = [] := rfl
theorem tbl_snoc (es : List (List Nat × Nat)) (e : List Nat × Nat) : tbl (es ++ [e]) = put1 (tbl es) e := by
  unfold tbl
  rw [List.foldl_append]
  rfl
theorem lk_snoc (es : List (List Nat × Nat)) (e : List Nat × Nat) (v : List Nat) : lk (es ++ [e]) v = if e.1 = v then some e.2 else lk es v := by
  unfold lk
  rw [List.reverse_append, List.reverse_singleton, List.singleton_append, List.find?_cons]
  by_cases h : e.1 = v
  · simp [h]
  · simp [h]
theorem snoc_ind {α : Type} {P : List α → Prop} (h0 : P []) (hs : ∀ l a, P l → P (l ++ [a])) : ∀ l, P l := fun l => by
  rw [← List.reverse_reverse l]
  induction l.reverse with
  | nil => exact h0
  | cons a r ih =>
    rw [List.reverse_cons]
    exact hs _ _ ih
theorem key_iff (u v : List Nat) : (Sum.inr (tx u) : Key) = Sum.inr (tx v) ↔ u = v := ⟨fun h => tx_inj (Sum.inr.inj h), fun h => by rw [h]⟩
theorem tbl_get (es : List (List Nat × Nat)) (v : List Nat) : valV (tbl es) (Sum.inr (tx v)) = (lk es v).map fun c => V.str (tx [c]) := by
  induction es using snoc_ind with
  | h0 => rfl
  | hs l e ih =>
    rw [tbl_snoc, lk_snoc]
    unfold put1
    rw [valV_put]
    by_cases h : e.1 = v
    · rw [if_pos ((key_iff _ _).mpr h.symm), if_pos h]
      rfl
    · rw [if_neg (fun z => h ((key_iff _ _).mp z).symm), if_neg h]
      exact ih
theorem tbl_len (es : List (List Nat × Nat)) : (tbl es).length ≤ es.length := by
  induction es using snoc_ind with
  | h0 => exact Nat.le_refl _
  | hs l e ih =>
    rw [tbl_snoc]
    unfold put1
    have h := length_putK (tbl l) (Sum.inr (tx e.1)) (.str (tx [e.2]))
    rw [List.length_append, List.length_singleton]
    omega
theorem lk_mem {es : List (List Nat × Nat)} {v : List Nat} {c : Nat} (h : lk es v = some c) : (v, c) ∈ es := by
  unfold lk at h
  obtain ⟨e, he, rfl⟩ := Option.map_eq_some_iff.mp h
  have h1 := List.find?_some he
  have h2 := List.mem_of_find?_eq_some he
  have h3 : e.1 = v := of_decide_eq_true h1
  rw [← h3]
  exact List.mem_reverse.mp h2
theorem lk_none {es : List (List Nat × Nat)} {v : List Nat} (h : lk es v = none) : ∀ c, (v, c) ∉ es := fun c hm => by
  unfold lk at h
  have h1 := Option.map_eq_none_iff.mp h
  have h2 := List.find?_eq_none.mp h1 (v, c) (List.mem_reverse.mpr hm)
  exact h2 (decide_eq_true rfl)
theorem lk_of {es : List (List Nat × Nat)} (hc : Cons es) {v : List Nat} {c : Nat} (h : (v, c) ∈ es) : lk es v = some c := by
  cases e : lk es v with
  | none => exact absurd h (lk_none e c)
  | some c' => exact congrArg some (hc (v, c') (lk_mem e) (v, c) h rfl)
theorem mem_ents {k : Nat} {p : Pr} {e : List Nat × Nat} : e ∈ ents k p ↔ ∃ i, i < p.1.length ∧ e = (view p.1 i k, p.2.getD i 0) := by
  unfold ents
  rw [List.mem_map]
  constructor
  · rintro ⟨i, hi, rfl⟩
    exact ⟨i, List.mem_range.mp hi, rfl⟩
  · rintro ⟨i, hi, rfl⟩
    exact ⟨i, List.mem_range.mpr hi, rfl⟩
theorem mem_entries {k : Nat} {ps : List Pr} {e : List Nat × Nat} : e ∈ entries k ps ↔ ∃ (n : Nat) (p : Pr) (i : Nat), ps[n]? = some p ∧ i < p.1.length ∧ e = (view p.1 i k, p.2.getD i 0) := by
  unfold entries
  rw [List.mem_flatMap]
  constructor
  · rintro ⟨p, hp, he⟩
    obtain ⟨n, hn⟩ := List.mem_iff_getElem?.mp hp
    obtain ⟨i, hi, e⟩ := mem_ents.mp he
    exact ⟨n, p, i, hn, hi, e⟩
  · rintro ⟨n, p, i, hn, hi, e⟩
    exact ⟨p, List.mem_iff_getElem?.mpr ⟨n, hn⟩, mem_ents.mpr ⟨i, hi, e⟩⟩
/-- what was gone through: n whole pairs and i places of the next one -/
def pre (k : Nat) (ps : List Pr) (n : Nat) (p : Pr) (i : Nat) : List (List Nat × Nat) := entries k (ps.take n) ++ (ents k p).take i
theorem pre_zero (k : Nat) (ps : List Pr) (n : Nat) (p : Pr) : pre k ps n p 0 = entries k (ps.take n) := by simp [pre]
theorem pre_succ {k : Nat} {ps : List Pr} {n : Nat} {p : Pr} {i : Nat} (h : i < p.1.length) : pre k ps n p (i + 1) = pre k ps n p i ++ [(view p.1 i k, p.2.getD i 0)] := by
  unfold pre
  have e : (ents k p)[i]? = some (view p.1 i k, p.2.getD i 0) := by
    unfold ents
    rw [List.getElem?_map, List.getElem?_range h]
    rfl
  rw [List.take_succ, e, ← List.append_assoc]
  rfl
theorem pre_end {k : Nat} {ps : List Pr} {n : Nat} {p : Pr} (h : ps[n]? = some p) : pre k ps n p p.1.length = entries k (ps.take (n + 1)) := by
  unfold pre
  have e : (ents k p).take p.1.length = ents k p := List.take_of_length_le (by simp [ents])
  rw [e, List.take_succ, h]
  simp [entries]
theorem pre_sub {k : Nat} {ps : List Pr} {n : Nat} {p : Pr} {i : Nat} (h : ps[n]? = some p) : ∀ e ∈ pre k ps n p i, e ∈ entries k ps := fun e he => by
  unfold pre at he
  rcases List.mem_append.mp he with he | he
  · obtain ⟨m, q, j, hq, hj, rfl⟩ := mem_entries.mp he
    refine mem_entries.mpr ⟨m, q, j, ?_, hj, rfl⟩
    rw [List.getElem?_take] at hq
    split at hq
    · exact hq
    · cases hq
  · obtain ⟨j, hj, rfl⟩ := mem_ents.mp (List.mem_of_mem_take he)
    exact mem_entries.mpr ⟨n, p, j, h, hj, rfl⟩
theorem entries_len (k : Nat) (ps : List Pr) (B : Nat) (h : ∀ p ∈ ps, p.1.length ≤ B) : (entries k ps).length ≤ ps.length * B := by
  induction ps with
  | nil => simp [entries]
  | cons p r ih =>
    have h1 := ih fun q hq => h q (List.mem_cons_of_mem _ hq)
    have h2 := h p List.mem_cons_self
    have e : entries k (p :: r) = ents k p ++ entries k r := by simp [entries]
    rw [e, List.length_append, List.length_cons, Nat.add_mul, Nat.one_mul]
    have h3 : (ents k p).length = p.1.length := by simp [ents]
    omega
/-! the first spoilt pair -/
inductive Bad where
  | word (w : List Nat) (i : Nat)
  | text (n : Nat)
/-- the first sign of w that is not one of the letters -/
def BadAt (L w : List Nat) (i : Nat) : Prop := (∃ c, w[i]? = some c ∧ c ∉ L) ∧ ∀ j c, j < i → w[j]? = some c → c ∈ L
def AllIn (L w : List Nat) : Prop := ∀ c ∈ w, c ∈ L
def BadPr (L I : List Nat) (n : Nat) (p : Pr) : Bad → Prop
  | .word w i => (w = p.1 ∧ BadAt L p.1 i) ∨ (w = p.2 ∧ AllIn L p.1 ∧ BadAt I p.2 i)
  | .text m => m = n ∧ AllIn L p.1 ∧ AllIn I p.2 ∧ p.1.length ≠ p.2.length
def GoodPr (L I : List Nat) (p : Pr) : Prop := AllIn L p.1 ∧ AllIn I p.2 ∧ p.1.length = p.2.length
def FB (L I : List Nat) (ps : List Pr) (b : Bad) : Prop := ∃ n p, ps[n]? = some p ∧ (∀ m q, m < n → ps[m]? = some q → GoodPr L I q) ∧ BadPr L I n p b
def NoBad (L I : List Nat) (ps : List Pr) : Prop := ∀ p ∈ ps, GoodPr L I p
theorem badAt_in {L w : List Nat} {i : Nat} (h : BadAt L w i) : ¬ AllIn L w := fun a => by
  obtain ⟨⟨c, hc, hn⟩, _⟩ := h
  exact hn (a c (List.mem_of_getElem? hc))
theorem badAt_uniq {L w : List Nat} {i j : Nat} (h : BadAt L w i) (h' : BadAt L w j) : i = j := by
  obtain ⟨⟨c, hc, hn⟩, ha⟩ := h
  obtain ⟨⟨c', hc', hn'⟩, ha'⟩ := h'
  rcases Nat.lt_trichotomy i j with l | l | l
  · exact absurd (ha' i c l hc) hn
  · exact l
  · exact absurd (ha j c' l hc') hn'
theorem badPr_good {L I : List Nat} {n : Nat} {p : Pr} {b : Bad} (h : BadPr L I n p b) : ¬ GoodPr L I p := fun g => by
  cases b with
  | word w i =>
    rcases h with ⟨_, h⟩ | ⟨_, _, h⟩
    · exact badAt_in h g.1
    · exact badAt_in h g.2.1
  | text m => exact h.2.2.2 g.2.2
theorem badPr_uniq {L I : List Nat} {n : Nat} {p : Pr} {b b' : Bad} (h : BadPr L I n p b) (h' : BadPr L I n p b') : b = b' := by
  cases b with
  | word w i =>
    cases b' with
    | word w' i' =>
      rcases h with ⟨rfl, h⟩ | ⟨rfl, a, h⟩
      · rcases h' with ⟨rfl, h'⟩ | ⟨rfl, a', h'⟩
        · rw [badAt_uniq h h']
        · exact absurd a' (badAt_in h)
      · rcases h' with ⟨rfl, h'⟩ | ⟨rfl, a', h'⟩
        · exact absurd a (badAt_in h')
        · rw [badAt_uniq h h']
    | text m' =>
      rcases h with ⟨_, h⟩ | ⟨_, _, h⟩
      · exact absurd h'.2.1 (badAt_in h)
      · exact absurd h'.2.2.1 (badAt_in h)
  | text m =>
    cases b' with
    | word w' i' =>
      rcases h' with ⟨_, h'⟩ | ⟨_, _, h'⟩
      · exact absurd h.2.1 (badAt_in h')
      · exact absurd h.2.2.1 (badAt_in h')
    | text m' => rw [h.1, h'.1]
theorem fb_uniq {L I : List Nat} {ps : List Pr} {b b' : Bad} (h : FB L I ps b) (h' : FB L I ps b') : b = b' := by
  obtain ⟨n, p, hp, ha, hb⟩ := h
  obtain ⟨n', p', hp', ha', hb'⟩ := h'
  rcases Nat.lt_trichotomy n n' with l | l | l
  · exact absurd (ha' n p l hp) (badPr_good hb)
  · subst l
    rw [hp] at hp'
    cases hp'
    exact badPr_uniq hb hb'
  · exact absurd (ha n' p' l hp') (badPr_good hb')
theorem fb_no {L I : List Nat} {ps : List Pr} {b : Bad} (h : FB L I ps b) : ¬ NoBad L I ps := fun g => by
  obtain ⟨n, p, hp, ha, hb⟩ := h
  exact badPr_good hb (g p (List.mem_of_getElem? hp))
/-- letters of the right form -/
def GoodL (L : List Nat) : Prop := 1 ≤ L.length ∧ L.length ≤ 4 ∧ (∀ c ∈ L, 97 ≤ c ∧ c ≤ 122) ∧ ∀ i a b, L[i]? = some a → L[i + 1]? = some b → a < b
/-- two places of one view and different letters -/
def PtV (k : Nat) (ps : List Pr) (a : Nat × Nat) (v : List Nat) (c : Nat) : Prop := ∃ p, ps[a.1]? = some p ∧ a.2 < p.1.length ∧ v = view p.1 a.2 k ∧ p.2[a.2]? = some c
def Clash (k : Nat) (ps : List Pr) (a b : Nat × Nat) : Prop := ∃ v c c', PtV k ps a v c ∧ PtV k ps b v c' ∧ c ≠ c'
theorem ptv_mem {k : Nat} {ps : List Pr} {a : Nat × Nat} {v : List Nat} {c : Nat} (h : PtV k ps a v c) : (v, c) ∈ entries k ps := by
  obtain ⟨p, hp, hi, rfl, hc⟩ := h
  refine mem_entries.mpr ⟨a.1, p, a.2, hp, hi, ?_⟩
  rw [List.getD_eq_getElem?_getD, hc]
  rfl
theorem clash_not {k : Nat} {ps : List Pr} {a b : Nat × Nat} (h : Clash k ps a b) : ¬ Cons (entries k ps) := fun g => by
  obtain ⟨v, c, c', h1, h2, ne⟩ := h
  exact ne (g _ (ptv_mem h1) _ (ptv_mem h2) rfl)
theorem imgOf_zero (es : List (List Nat × Nat)) (k : Nat) (w : List Nat) : imgOf es k w 0 = some [] := rfl
theorem imgOf_succ (es : List (List Nat × Nat)) (k : Nat) (w : List Nat) (n : Nat) : imgOf es k w (n + 1) = (imgOf es k w n).bind fun m => (lk es (view w n k)).map fun c => m ++ [c] := by
  unfold imgOf
  rw [List.range_succ, List.mapM_append]
  cases (List.range n).mapM fun i => lk es (view w i k) with
  | none => rfl
  | some m =>
    have e1 : ([n].mapM fun i => lk es (view w i k)) = (lk es (view w n k)).map fun c => [c] := by
      rw [List.mapM_cons, List.mapM_nil]
      cases lk es (view w n k) <;> rfl
    show (do let ys ← [n].mapM fun i => lk es (view w i k); pure (m ++ ys)) = _
    rw [e1]
    cases lk es (view w n k) <;> rfl
theorem imgOf_none {es : List (List Nat × Nat)} {k : Nat} {w : List Nat} {i n : Nat} (h : i < n) (e : lk es (view w i k) = none) : imgOf es k w n = none := by
  induction n with
  | zero => exact absurd h (Nat.not_lt_zero _)
  | succ n ih =>
    rw [imgOf_succ]
    by_cases hi : i = n
    · subst hi
      cases imgOf es k w i with
      | none => rfl
      | some m => rw [Option.bind_some, e]; rfl
    · rw [ih (by omega)]
      rfl
/-- the image of a pair's own word is its image -/
theorem imgOf_pair {k : Nat} {ps : List Pr} (hc : Cons (entries k ps)) {p : Pr} (hp : p ∈ ps) (hl : p.1.length = p.2.length) : imgOf (entries k ps) k p.1 p.1.length = some p.2 := by
  have h : ∀ n, n ≤ p.1.length → imgOf (entries k ps) k p.1 n = some (p.2.take n) := by
    intro n
    induction n with
    | zero => intro _; rfl
    | succ n ih =>
      intro hn
      have hn2 : n < p.2.length := by omega
      rw [imgOf_succ, ih (by omega), Option.bind_some]
      obtain ⟨m, hm⟩ := List.mem_iff_getElem?.mp hp
      have e : lk (entries k ps) (view p.1 n k) = some p.2[n] := lk_of hc (mem_entries.mpr ⟨m, p, n, hm, by omega, by rw [List.getD_eq_getElem?_getD, List.getElem?_eq_getElem hn2]; rfl⟩)
      rw [e, List.take_succ, List.getElem?_eq_getElem hn2]
      rfl
  rw [h _ (Nat.le_refl _), hl, List.take_length]
theorem view_len (w : List Nat) (i k : Nat) : (view w i k).length ≤ w.length := by
  unfold view cut
  rw [List.length_take, List.length_drop]
  omega
end K87

set_option maxHeartbeats 4000000
namespace K87
open PySem PySem.Spec PyProof.Rows L2 He
/-! What each def of the turner law's text promises. -/
abbrev PP : Program := PySem.Challenge.pw_treesfromyes_k87_turner_fits_or_clash
def top (i : Nat) : Stmt := PP.main.body.getD i (.Pass ⟨0, 0, 0, 0⟩)
/-- the pairs' list at pp: its tuples stand at as -/
structure PairsAt (H : Hp) (pp : Addr) (as : List Addr) (ps : List Pr) : Prop where
  lst : H pp = some (.lst (as.map V.ref))
  len : as.length = ps.length
  at_ : ∀ (i : Nat) (a : Addr), as[i]? = some a → ∃ p : Pr, ps[i]? = some p ∧ H a = some (.tup [.str (tx p.1), .str (tx p.2)])
theorem PairsAt.fr {l : List Addr} {H H' : Hp} {pp : Addr} {as : List Addr} {ps : List Pr} (P : PairsAt H pp as ps) (f : L2.Fr l H H') (n : pp ∉ l) (nt : ∀ x ∈ l, ∀ xs, H x ≠ some (.tup xs)) : PairsAt H' pp as ps :=
  ⟨f _ _ n P.lst, P.len, fun i a h => let ⟨p, hp, ha⟩ := P.at_ i a h; ⟨p, hp, f _ _ (fun z => nt a z _ ha) ha⟩⟩
theorem PairsAt.same {H H' : Hp} {pp : Addr} {as : List Addr} {ps : List Pr} (P : PairsAt H pp as ps) (f : Same H H') : PairsAt H' pp as ps :=
  ⟨f _ _ P.lst, P.len, fun i a h => let ⟨p, hp, ha⟩ := P.at_ i a h; ⟨p, hp, f _ _ ha⟩⟩
theorem PairsAt.get {H : Hp} {pp : Addr} {as : List Addr} {ps : List Pr} (P : PairsAt H pp as ps) {i : Nat} {p : Pr} (h : ps[i]? = some p) : ∃ a, as[i]? = some a ∧ H a = some (.tup [.str (tx p.1), .str (tx p.2)]) := by
  have hi : i < as.length := by
    have := (List.getElem?_eq_some_iff.mp h).1
    rw [P.len]; exact this
  obtain ⟨q, hq, ha⟩ := P.at_ i as[i] (List.getElem?_eq_getElem hi)
  rw [h] at hq
  cases hq
  exact ⟨_, List.getElem?_eq_getElem hi, ha⟩
def Small (ps : List Pr) : Prop := ps.length ≤ 1000 ∧ ∀ p ∈ ps, p.1.length ≤ 1000 ∧ p.2.length ≤ 1000
def EqL (ps : List Pr) : Prop := ∀ p ∈ ps, p.1.length = p.2.length
def badX : Bad → List (Str × V)
  | .word w i => [("word", .str (tx w)), ("place", .int (i : Nat))]
  | .text n => [("line", .int (n : Nat))]
def badC (K : PySem.W.Frag) : Bad → Value
  | .word _ _ => .ref (ga K "BadWord")
  | .text _ => .ref (ga K "BadText")
def badT : Bad → List V
  | .word w i => [.str "word", .str (tx w), .int (i : Nat)]
  | .text n => [.str "text", .int (n : Nat), .int 0]
/-- a turner's attributes -/
def tf (L I : List Nat) (k : Nat) (d : Addr) : List (Str × V) := putF "table" (.ref d) (putF "size" (.int (k : Nat)) (putF "images" (.str (tx I)) (putF "letters" (.str (tx L)) [])))
def imgV : Option (List Nat) → V
  | some m => .str (tx m)
  | none => .non
def OkT (l : List Nat) : Prop := ∀ c ∈ l, c < 1114112
def Bd (B : Nat) (p : Pr) : Prop := p.1.length ≤ B ∧ p.2.length ≤ B ∧ OkT p.1 ∧ OkT p.2
def KnOk (kvs : List (Key × V)) : Prop := ∀ v y, valV kvs (Sum.inr v) = some y → ∃ c, c < 1114112 ∧ y = .str (tx [c])
def spCL : Sp := fun vs H Q _ => ∃ L, vs = [.str (tx L)] ∧ GoodL L ∧ Q .non H
def spCW (K : PySem.W.Frag) : Sp := fun vs H Q E => ∃ L w, vs = [.str (tx L), .str (tx w)] ∧ L.length ≤ 1000 ∧ w.length ≤ 1000 ∧ (AllIn L w → ∀ H', Same H H' → Q .non H') ∧
  ∀ i, BadAt L w i → ∀ H' d, Same H H' → H' d = some (.xd [("word", .str (tx w)), ("place", .int (i : Nat))]) → E (.ref (ga K "BadWord")) (some d) H'
def spView : Sp := fun vs H Q _ => ∃ (w : List Nat) (i k : Nat), vs = [.str (tx w), .int (i : Nat), .int (k : Nat)] ∧ w.length ≤ 1000 ∧ Q (.str (tx (view w i k))) H
def spTI (K : PySem.W.Frag) : Sp := fun vs H Q _ => ∃ (x dx d : Addr) (L I : List Nat) (k : Nat) (T : List (Key × V)), vs = [.ref x, .str (tx L), .str (tx I), .int (k : Nat), .ref d] ∧ H x = some (.ins (ga K "Turner") dx []) ∧ H d = some (.dK T) ∧ GoodL L ∧ GoodL I ∧
  ∀ H' d', H' x = some (.ins (ga K "Turner") dx (tf L I k d')) → H' d' = some (.dK T) → H d' = none → (∀ b o, b ≠ x → H b = some o → H' b = some o) → Q .non H'
def spTC (K : PySem.W.Frag) : Sp := fun vs H Q _ => ∃ (t dx d : Addr) (L I w : List Nat) (k : Nat) (es : List (List Nat × Nat)), vs = [.ref t, .str (tx w)] ∧ H t = some (.ins (ga K "Turner") dx (tf L I k d)) ∧ H d = some (.dK (tbl es)) ∧ L.length ≤ 1000 ∧ w.length ≤ 1000 ∧ AllIn L w ∧
  ∀ H', Same H H' → Q (imgV (imgOf es k w w.length)) H'
def spCP (K : PySem.W.Frag) : Sp := fun vs H Q E => ∃ (L I : List Nat) (pp : Addr) (as : List Addr) (ps : List Pr), vs = [.str (tx L), .str (tx I), .ref pp] ∧ GoodL L ∧ GoodL I ∧ PairsAt H pp as ps ∧ Small ps ∧ (NoBad L I ps → ∀ H', Same H H' → Q .non H') ∧
  ∀ b, FB L I ps b → ∀ H' d, Same H H' → H' d = some (.xd (badX b)) → E (badC K b) (some d) H'
def spFC (K : PySem.W.Frag) : Sp := fun vs H Q _ => ∃ (pp : Addr) (as : List Addr) (ps : List Pr) (k : Nat), vs = [.ref pp, .int (k : Nat)] ∧ PairsAt H pp as ps ∧ Small ps ∧ EqL ps ∧ (Cons (entries k ps) → ∀ H', Same H H' → Q .non H') ∧
  ∀ (a b : Nat × Nat) H' p1 p2 p, Clash k ps a b → Same H H' → H' p1 = some (.tup [.int (a.1 : Nat), .int (a.2 : Nat)]) → H' p2 = some (.tup [.int (b.1 : Nat), .int (b.2 : Nat)]) → H' p = some (.tup [.ref p1, .ref p2]) → Q (.ref p) H'
def spFit (K : PySem.W.Frag) : Sp := fun vs H Q E => ∃ (L I : List Nat) (k : Nat) (pp : Addr) (as : List Addr) (ps : List Pr), vs = [.str (tx L), .str (tx I), .int (k : Nat), .ref pp] ∧ GoodL L ∧ GoodL I ∧ PairsAt H pp as ps ∧ Small ps ∧
  (∀ b, FB L I ps b → ∀ H' d, Same H H' → H' d = some (.xd (badX b)) → E (badC K b) (some d) H') ∧
  (NoBad L I ps → Cons (entries k ps) → ∀ H' p t dx d, Same H H' → H' p = some (.tup [.str "fits", .ref t]) → H' t = some (.ins (ga K "Turner") dx (tf L I k d)) → H' d = some (.dK (tbl (entries k ps))) → H d = none → Q (.ref p) H') ∧
  (NoBad L I ps → ∀ (a b : Nat × Nat) H' p1 p2 p, Clash k ps a b → Same H H' → H' p1 = some (.tup [.int (a.1 : Nat), .int (a.2 : Nat)]) → H' p2 = some (.tup [.int (b.1 : Nat), .int (b.2 : Nat)]) → H' p = some (.tup [.str "clash", .ref p1, .ref p2]) → Q (.ref p) H')
def spInt : Sp := fun vs H Q _ => ∃ i : Int, vs = [.int i] ∧ Q (.bl true) H
def spWord : Sp := fun vs H Q _ => ∃ (st : Addr) (L : List Nat) (n : Int), vs = [.ref st, .str (tx L), .int n] ∧ StAt H st ∧ L ≠ [] ∧ L.length ≤ 1000 ∧ 0 ≤ n ∧ n ≤ 1000 ∧
  ∀ w H', w.length = n.toNat → AllIn L w → L2.Fr [st] H H' → StAt H' st → Q (.str (tx w)) H'
def spImage : Sp := fun vs H Q _ => ∃ (st kd : Addr) (w I : List Nat) (k : Nat) (kvs : List (Key × V)), vs = [.ref st, .ref kd, .str (tx w), .str (tx I), .int (k : Nat)] ∧ StAt H st ∧ H kd = some (.dK kvs) ∧ kvs.length ≤ 100000 ∧ KnOk kvs ∧ w.length ≤ 1000 ∧ I ≠ [] ∧ I.length ≤ 1000 ∧ OkT I ∧
  ∀ m H' kvs', m.length = w.length → OkT m → L2.Fr [st, kd] H H' → StAt H' st → H' kd = some (.dK kvs') → kvs'.length ≤ kvs.length + w.length → KnOk kvs' → Q (.str (tx m)) H'
def spTable (K : PySem.W.Frag) : Sp := fun vs H Q _ => ∃ (pp : Addr) (as : List Addr) (ps : List Pr) (k : Nat), vs = [.ref pp, .int (k : Nat)] ∧ PairsAt H pp as ps ∧ Small ps ∧ EqL ps ∧
  (Cons (entries k ps) → ∀ H' d, Same H H' → H' d = some (.dK (tbl (entries k ps))) → H d = none → Q (.ref d) H') ∧ (¬ Cons (entries k ps) → ∀ H', Same H H' → Q .non H')
def spPlace (K : PySem.W.Frag) : Sp := fun vs H Q _ => ∃ (pp q : Addr) (as : List Addr) (ps : List Pr) (n i : Nat) (p : Pr), vs = [.ref pp, .ref q] ∧ PairsAt H pp as ps ∧ Small ps ∧ H q = some (.tup [.int (n : Nat), .int (i : Nat)]) ∧ ps[n]? = some p ∧ i < p.1.length ∧ Q (.bl true) H
def spClash (K : PySem.W.Frag) : Sp := fun vs H Q _ => ∃ (pp an p1 p2 : Addr) (x : V) (as : List Addr) (ps : List Pr) (k : Nat) (a b : Nat × Nat), vs = [.ref pp, .int (k : Nat), .ref an] ∧ PairsAt H pp as ps ∧ Small ps ∧ H an = some (.tup [x, .ref p1, .ref p2]) ∧
  H p1 = some (.tup [.int (a.1 : Nat), .int (a.2 : Nat)]) ∧ H p2 = some (.tup [.int (b.1 : Nat), .int (b.2 : Nat)]) ∧ Clash k ps a b ∧ Q (.bl true) H
def spDue : Sp := fun vs H Q _ => ∃ (td : Addr) (w : List Nat) (k : Nat) (es : List (List Nat × Nat)), vs = [.ref td, .str (tx w), .int (k : Nat)] ∧ H td = some (.dK (tbl es)) ∧ w.length ≤ 1000 ∧ Q (imgV (imgOf es k w w.length)) H
def spGood (K : PySem.W.Frag) : Sp := fun vs H Q _ => ∃ (t dx d td pp mo : Addr) (L I : List Nat) (k : Nat) (as : List Addr) (ps : List Pr) (ws : List (List Nat)), vs = [.ref t, .str (tx L), .str (tx I), .int (k : Nat), .ref td, .ref pp, .ref mo] ∧
  H t = some (.ins (ga K "Turner") dx (tf L I k d)) ∧ H d = some (.dK (tbl (entries k ps))) ∧ H td = some (.dK (tbl (entries k ps))) ∧ d ≠ td ∧ PairsAt H pp as ps ∧ Small ps ∧ NoBad L I ps ∧ Cons (entries k ps) ∧ L.length ≤ 1000 ∧
  H mo = some (.lst (ws.map fun w => V.str (tx w))) ∧ (∀ w ∈ ws, w.length ≤ 1000 ∧ AllIn L w) ∧ ∀ H', Same H H' → Q (.bl true) H'
def spSpoil (K : PySem.W.Frag) : Sp := fun vs H Q _ => ∃ (st pp : Addr) (L I : List Nat) (as : List Addr) (ps : List Pr) (B : Nat), vs = [.ref st, .ref pp, .str (tx L), .str (tx I)] ∧ StAt H st ∧ PairsAt H pp as ps ∧ ps ≠ [] ∧ ps.length ≤ 1000 ∧ (∀ p ∈ ps, Bd B p) ∧ B ≤ 900 ∧ I ≠ [] ∧ I.length ≤ 1000 ∧ OkT I ∧
  ∀ r H' as' ps', L2.Fr [st, pp] H H' → StAt H' st → PairsAt H' pp as' ps' → ps'.length = ps.length → (∀ p ∈ ps', Bd (B + 1) p) → Q (.int r) H'
def spFB (K : PySem.W.Frag) : Sp := fun vs H Q _ => ∃ (pp : Addr) (L I : List Nat) (as : List Addr) (ps : List Pr), vs = [.ref pp, .str (tx L), .str (tx I)] ∧ PairsAt H pp as ps ∧ Small ps ∧ L.length ≤ 1000 ∧ I.length ≤ 1000 ∧ (NoBad L I ps → ∀ H', Same H H' → Q .non H') ∧
  ∀ b, FB L I ps b → ∀ H' p, Same H H' → H' p = some (.tup (badT b)) → Q (.ref p) H'
def spRef (K : PySem.W.Frag) : Sp := fun vs H Q _ => ∃ (L I : List Nat) (k : Nat) (pp bp : Addr) (as : List Addr) (ps : List Pr) (b : Bad), vs = [.str (tx L), .str (tx I), .int (k : Nat), .ref pp, .ref bp] ∧ GoodL L ∧ GoodL I ∧ PairsAt H pp as ps ∧ Small ps ∧ FB L I ps b ∧ H bp = some (.tup (badT b)) ∧
  ∀ H', Same H H' → Q (.bl true) H'
def spLaw (K : PySem.W.Frag) : Sp := fun vs H Q _ => ∃ (a : Addr) (ns : List Int), vs = [.ref a] ∧ SqL K H a (ns.map V.int) ∧ ns.length ≤ 63 ∧ ∀ H', Q (.bl true) H'
end K87

set_option maxHeartbeats 4000000
namespace K87
open PySem PySem.Spec PyProof.Rows L2 He
abbrev s_check_letters : Stmt := top 8
abbrev N_check_letters : List Str := ["letters", "before", "letter"]
def t_check_letters (K : PySem.W.Frag) (E : XK) : TS :=
  (tSeq (tIfS (tOr (tTest (tOp xLt (tCB xLenS (tCons (tVar 0) tNil)) (tC (.int 1)))) (tTest (tOp xGt (tCB xLenS (tCons (tVar 0) tNil)) (tC (.int 4))))) (tRz E (ga K "BadLetters")) tNext)
    (tSeq (tAsg (tC (.str "")) (gName 1))
    (tFor (iStr (tVar 0)) (gName 2) (tSeq (tIfS (tOr (tTest (tOp xNinS (tVar 2) (tC (.str "abcdefghijklmnopqrstuvwxyz")))) (tTest (tOp xLeS (tVar 2) (tVar 1)))) (tRz E (ga K "BadLetters")) tNext)
    (tAsg (tVar 2) (gName 1))))))
theorem start_check_letters (a0 : V) : start N_check_letters [a0] = [some a0, none, none] := rfl

abbrev s_check_word : Stmt := top 9
abbrev N_check_word : List Str := ["letters", "word", "place", "letter"]
def t_check_word (K : PySem.W.Frag) (E : XK) : TS :=
  (tFor (iEnumS (tCons (tVar 1) tNil)) (gTup K 2 (gCons (gName 2) (gCons (gName 3) gNil))) (tIfS (tTest (tOp xNinS (tVar 3) (tVar 0))) (tRx E (ga K "BadWord") ["word", "place"] (tCons (tVar 1) (tCons (tVar 2) tNil))) tNext))
theorem start_check_word (a0 a1 : V) : start N_check_word [a0, a1] = [some a0, some a1, none, none] := rfl

abbrev s_view_at : Stmt := top 11
abbrev N_view_at : List Str := ["word", "at", "size"]
def t_view_at (K : PySem.W.Frag) : TS :=
  (tRet (tSl rSlS (tVar 0) (tPart (tCB xMax2 (tCons (tC (.int 0)) (tCons (tOp xAdd (tOp xSub (tVar 1) (tVar 2)) (tC (.int 1))) tNil)))) (tPart (tOp xAdd (tVar 1) (tC (.int 1))))))
theorem start_view_at (a0 a1 a2 : V) : start N_view_at [a0, a1, a2] = [some a0, some a1, some a2] := rfl

abbrev s_tinit : Stmt := inClass (top 12) 0
abbrev N_tinit : List Str := ["self", "letters", "images", "size", "table"]
def t_tinit (K : PySem.W.Frag) : TS :=
  (tSeq (tDrop (tCall spCL [] E0 (tCons (tVar 1) tNil)))
    (tSeq (tDrop (tCall spCL [] E0 (tCons (tVar 2) tNil)))
    (tSeq (sFld K (tVar 0) (tVar 1) "letters")
    (tSeq (sFld K (tVar 0) (tVar 2) "images")
    (tSeq (sFld K (tVar 0) (tVar 3) "size")
    (sFld K (tVar 0) (tCB xDictD (tCons (tVar 4) tNil)) "table"))))))
theorem start_tinit (a0 a1 a2 a3 a4 : V) : start N_tinit [a0, a1, a2, a3, a4] = [some a0, some a1, some a2, some a3, some a4] := rfl

abbrev s_tcall : Stmt := inClass (top 12) 1
abbrev N_tcall : List Str := ["self", "word", "image", "at", "view"]
def t_tcall (K : PySem.W.Frag) : TS :=
  (tSeq (tDrop (tCall (spCW K) [] E0 (tCons (tFld K (tVar 0) "letters") (tCons (tVar 1) tNil))))
    (tSeq (tAsg (tC (.str "")) (gName 2))
    (tSeq (tFor (iRng1 (tCons (tCB xLenS (tCons (tVar 1) tNil)) tNil)) (gName 3) (tSeq (tAsg (tCall spView [] E0 (tCons (tVar 1) (tCons (tVar 3) (tCons (tFld K (tVar 0) "size") tNil)))) (gName 4))
    (tSeq (tIfS (tB (tDNotIn (tVar 4) (tFld K (tVar 0) "table"))) (tRet (tC .non)) tNext)
    (tAsg (tOp xAddS (tVar 2) (tDGet (tFld K (tVar 0) "table") (tVar 4))) (gName 2)))))
    (tRet (tVar 2)))))
theorem start_tcall (a0 a1 : V) : start N_tcall [a0, a1] = [some a0, some a1, none, none, none] := rfl

abbrev s_check_pairs : Stmt := top 13
abbrev N_check_pairs : List Str := ["letters", "images", "pairs", "number", "pair"]
def t_check_pairs (K : PySem.W.Frag) (E : XK) : TS :=
  (tSeq (tDrop (tCall spCL [] E (tCons (tVar 0) tNil)))
    (tSeq (tDrop (tCall spCL [] E (tCons (tVar 1) tNil)))
    (tFor (iEnum K (tCons (tVar 2) tNil)) (gTup K 2 (gCons (gName 3) (gCons (gName 4) gNil))) (tSeq (tDrop (tCall (spCW K) [] E (tCons (tVar 0) (tCons (tOp (rIxT K) (tVar 4) (tC (.int 0))) tNil))))
    (tSeq (tDrop (tCall (spCW K) [] E (tCons (tVar 1) (tCons (tOp (rIxT K) (tVar 4) (tC (.int 1))) tNil))))
    (tIfS (tTest (tOp rNe (tCB xLenS (tCons (tOp (rIxT K) (tVar 4) (tC (.int 0))) tNil)) (tCB xLenS (tCons (tOp (rIxT K) (tVar 4) (tC (.int 1))) tNil)))) (tRx E (ga K "BadText") ["line"] (tCons (tVar 3) tNil)) tNext))))))
theorem start_check_pairs (a0 a1 a2 : V) : start N_check_pairs [a0, a1, a2] = [some a0, some a1, some a2, none, none] := rfl

abbrev s_first_clash : Stmt := top 14
abbrev N_first_clash : List Str := ["pairs", "size", "places", "number", "at", "word", "image", "view", "earlier"]
def t_first_clash (K : PySem.W.Frag) : TS :=
  (tSeq (tAsg tDNewK (gName 2))
    (tSeq (tFor (iEnum K (tCons (tVar 0) tNil)) (gTup K 2 (gCons (gName 3) (gCons (gTup K 2 (gCons (gName 5) (gCons (gName 6) gNil))) gNil))) (tFor (iRng1 (tCons (tCB xLenS (tCons (tVar 5) tNil)) tNil)) (gName 4) (tSeq (tAsg (tCall spView [] E0 (tCons (tVar 5) (tCons (tVar 4) (tCons (tVar 1) tNil)))) (gName 7))
    (tSeq (tAsg (tDSetd (tVar 2) (tVar 7) (tTup (tCons (tVar 3) (tCons (tVar 4) tNil)))) (gName 8))
    (tIfS (tTest (tOp rNe (tOp rIxS (tOp (rIxT K) (tOp (rIxL K) (tVar 0) (tOp (rIxT K) (tVar 8) (tC (.int 0)))) (tC (.int 1))) (tOp (rIxT K) (tVar 8) (tC (.int 1)))) (tOp rIxS (tVar 6) (tVar 4)))) (tRet (tTup (tCons (tVar 8) (tCons (tTup (tCons (tVar 3) (tCons (tVar 4) tNil))) tNil)))) tNext)))))
    (tRet (tC .non))))
theorem start_first_clash (a0 a1 : V) : start N_first_clash [a0, a1] = [some a0, some a1, none, none, none, none, none, none, none] := rfl

abbrev s_fit_turner : Stmt := top 15
abbrev N_fit_turner : List Str := ["letters", "images", "size", "pairs", "clash", "table", "word", "image", "at"]
def t_fit_turner (K : PySem.W.Frag) (E : XK) : TS :=
  (tSeq (tDrop (tCall (spCP K) [] E (tCons (tVar 0) (tCons (tVar 1) (tCons (tVar 3) tNil)))))
    (tSeq (tAsg (tCall (spFC K) [] E0 (tCons (tVar 3) (tCons (tVar 2) tNil))) (gName 4))
    (tSeq (tIfS (tTest (tOp xNotN (tVar 4) (tC .non))) (tRet (tTup (tCons (tC (.str "clash")) (tCons (tOp (rIxT K) (tVar 4) (tC (.int 0))) (tCons (tOp (rIxT K) (tVar 4) (tC (.int 1))) tNil))))) tNext)
    (tSeq (tAsg tDNewK (gName 5))
    (tSeq (tFor (iList K (tVar 3)) (gTup K 2 (gCons (gName 6) (gCons (gName 7) gNil))) (tFor (iRng1 (tCons (tCB xLenS (tCons (tVar 6) tNil)) tNil)) (gName 8) (sDPut (tVar 5) (tCall spView [] E0 (tCons (tVar 6) (tCons (tVar 8) (tCons (tVar 2) tNil)))) (tOp rIxS (tVar 7) (tVar 8)))))
    (tRet (tTup (tCons (tC (.str "fits")) (tCons (tMake (ga K "Turner") (spTI K) [] E0 (tCons (tVar 0) (tCons (tVar 1) (tCons (tVar 2) (tCons (tVar 5) tNil))))) tNil)))))))))
theorem start_fit_turner (a0 a1 a2 a3 : V) : start N_fit_turner [a0, a1, a2, a3] = [some a0, some a1, some a2, some a3, none, none, none, none, none] := rfl

abbrev s_start : Stmt := top 17
abbrev N_start : List Str := N_dstart

abbrev s_next : Stmt := top 18
abbrev N_next : List Str := N_dnext

abbrev s_integer : Stmt := top 19
abbrev N_integer : List Str := ["actual"]
def t_integer (K : PySem.W.Frag) : TS :=
  (tRet (tAndV (tCB (rIsi K) (tCons (tVar 0) (tCons (tC (.ty "int")) tNil))) (tNotV (tCB (rIsi K) (tCons (tVar 0) (tCons (tC (.ty "bool")) tNil))))))
theorem start_integer (a0 : V) : start N_integer [a0] = [some a0] := rfl

abbrev s_word : Stmt := top 20
abbrev N_word : List Str := ["state", "letters", "size", "word", "k"]
def t_word (K : PySem.W.Frag) : TS :=
  (tSeq (tAsg (tC (.str "")) (gName 3))
    (tSeq (tFor (iRng1 (tCons (tVar 2) tNil)) (gName 4) (tAsg (tOp xAddS (tVar 3) (tOp rIxS (tVar 1) (tCall spNext [] E0 (tCons (tVar 0) (tCons (tCB xLenS (tCons (tVar 1) tNil)) tNil))))) (gName 3)))
    (tRet (tVar 3))))
theorem start_word (a0 a1 a2 : V) : start N_word [a0, a1, a2] = [some a0, some a1, some a2, none, none] := rfl

abbrev s_lview : Stmt := top 21
abbrev N_lview : List Str := ["word", "at", "size"]
def t_lview (K : PySem.W.Frag) : TS :=
  (tRet (tSl rSlS (tVar 0) (tPart (tCB xMax2 (tCons (tC (.int 0)) (tCons (tOp xAdd (tOp xSub (tVar 1) (tVar 2)) (tC (.int 1))) tNil)))) (tPart (tOp xAdd (tVar 1) (tC (.int 1))))))
theorem start_lview (a0 a1 a2 : V) : start N_lview [a0, a1, a2] = [some a0, some a1, some a2] := rfl

abbrev s_image : Stmt := top 22
abbrev N_image : List Str := ["state", "known", "word", "images", "size", "image", "at", "view"]
def t_image (K : PySem.W.Frag) : TS :=
  (tSeq (tAsg (tC (.str "")) (gName 5))
    (tSeq (tFor (iRng1 (tCons (tCB xLenS (tCons (tVar 2) tNil)) tNil)) (gName 6) (tSeq (tAsg (tCall spView [] E0 (tCons (tVar 2) (tCons (tVar 6) (tCons (tVar 4) tNil)))) (gName 7))
    (tSeq (tIfS (tB (tDNotIn (tVar 7) (tVar 1))) (sDPut (tVar 1) (tVar 7) (tOp rIxS (tVar 3) (tCall spNext [] E0 (tCons (tVar 0) (tCons (tCB xLenS (tCons (tVar 3) tNil)) tNil))))) tNext)
    (tAsg (tOp xAddS (tVar 5) (tDGet (tVar 1) (tVar 7))) (gName 5)))))
    (tRet (tVar 5))))
theorem start_image (a0 a1 a2 a3 a4 : V) : start N_image [a0, a1, a2, a3, a4] = [some a0, some a1, some a2, some a3, some a4, none, none, none] := rfl

abbrev s_table : Stmt := top 23
abbrev N_table : List Str := ["pairs", "size", "table", "pair", "at", "view"]
def t_table (K : PySem.W.Frag) : TS :=
  (tSeq (tAsg tDNewK (gName 2))
    (tSeq (tFor (iList K (tVar 0)) (gName 3) (tFor (iRng1 (tCons (tCB xLenS (tCons (tOp (rIxT K) (tVar 3) (tC (.int 0))) tNil)) tNil)) (gName 4) (tSeq (tAsg (tCall spView [] E0 (tCons (tOp (rIxT K) (tVar 3) (tC (.int 0))) (tCons (tVar 4) (tCons (tVar 1) tNil)))) (gName 5))
    (tSeq (tIfS (tAnd (tB (tDIn (tVar 5) (tVar 2))) (tTest (tOp rNe (tDGet (tVar 2) (tVar 5)) (tOp rIxS (tOp (rIxT K) (tVar 3) (tC (.int 1))) (tVar 4))))) (tRet (tC .non)) tNext)
    (sDPut (tVar 2) (tVar 5) (tOp rIxS (tOp (rIxT K) (tVar 3) (tC (.int 1))) (tVar 4)))))))
    (tRet (tVar 2))))
theorem start_table (a0 a1 : V) : start N_table [a0, a1] = [some a0, some a1, none, none, none, none] := rfl

abbrev s_place : Stmt := top 24
abbrev N_place : List Str := ["pairs", "place"]
def t_place (K : PySem.W.Frag) : TS :=
  (tSeq (tIfS (tOr (tNot (tB (tCB (rIsi K) (tCons (tVar 1) (tCons (tC (.ty "tuple")) tNil))))) (tTest (tOp rNe (tCB (xLenQ K) (tCons (tVar 1) tNil)) (tC (.int 2))))) (tRet (tC (.bl false))) tNext)
    (tSeq (tIfS (tOr (tNot (tB (tCall spInt [] E0 (tCons (tOp (rIxT K) (tVar 1) (tC (.int 0))) tNil)))) (tNot (tB (tCall spInt [] E0 (tCons (tOp (rIxT K) (tVar 1) (tC (.int 1))) tNil))))) (tRet (tC (.bl false))) tNext)
    (tSeq (tIfS (tOr (tTest (tOp xLt (tOp (rIxT K) (tVar 1) (tC (.int 0))) (tC (.int 0)))) (tTest (tOp xGe (tOp (rIxT K) (tVar 1) (tC (.int 0))) (tCB (xLenQ K) (tCons (tVar 0) tNil))))) (tRet (tC (.bl false))) tNext)
    (tRet (tAndV (tOp xGe (tOp (rIxT K) (tVar 1) (tC (.int 1))) (tC (.int 0))) (tOp xLt (tOp (rIxT K) (tVar 1) (tC (.int 1))) (tCB xLenS (tCons (tOp (rIxT K) (tOp (rIxL K) (tVar 0) (tOp (rIxT K) (tVar 1) (tC (.int 0)))) (tC (.int 0))) tNil))))))))
theorem start_place (a0 a1 : V) : start N_place [a0, a1] = [some a0, some a1] := rfl

abbrev s_clash : Stmt := top 25
abbrev N_clash : List Str := ["pairs", "size", "answer", "one", "two"]
def t_clash (K : PySem.W.Frag) : TS :=
  (tSeq (tIfS (tOr (tTest (tOp rNe (tCB (xLenQ K) (tCons (tVar 2) tNil)) (tC (.int 3)))) (tOr (tNot (tB (tCall (spPlace K) [] E0 (tCons (tVar 0) (tCons (tOp (rIxT K) (tVar 2) (tC (.int 1))) tNil))))) (tNot (tB (tCall (spPlace K) [] E0 (tCons (tVar 0) (tCons (tOp (rIxT K) (tVar 2) (tC (.int 2))) tNil))))))) (tRet (tC (.bl false))) tNext)
    (tSeq (tAsg (tOp (rIxL K) (tVar 0) (tOp (rIxT K) (tOp (rIxT K) (tVar 2) (tC (.int 1))) (tC (.int 0)))) (gName 3))
    (tSeq (tAsg (tOp (rIxL K) (tVar 0) (tOp (rIxT K) (tOp (rIxT K) (tVar 2) (tC (.int 2))) (tC (.int 0)))) (gName 4))
    (tSeq (tIfS (tTest (tOp rNe (tCall spView [] E0 (tCons (tOp (rIxT K) (tVar 3) (tC (.int 0))) (tCons (tOp (rIxT K) (tOp (rIxT K) (tVar 2) (tC (.int 1))) (tC (.int 1))) (tCons (tVar 1) tNil)))) (tCall spView [] E0 (tCons (tOp (rIxT K) (tVar 4) (tC (.int 0))) (tCons (tOp (rIxT K) (tOp (rIxT K) (tVar 2) (tC (.int 2))) (tC (.int 1))) (tCons (tVar 1) tNil)))))) (tRet (tC (.bl false))) tNext)
    (tRet (tOp rNe (tOp rIxS (tOp (rIxT K) (tVar 3) (tC (.int 1))) (tOp (rIxT K) (tOp (rIxT K) (tVar 2) (tC (.int 1))) (tC (.int 1)))) (tOp rIxS (tOp (rIxT K) (tVar 4) (tC (.int 1))) (tOp (rIxT K) (tOp (rIxT K) (tVar 2) (tC (.int 2))) (tC (.int 1))))))))))
theorem start_clash (a0 a1 a2 : V) : start N_clash [a0, a1, a2] = [some a0, some a1, some a2, none, none] := rfl

abbrev s_due : Stmt := top 26
abbrev N_due : List Str := ["table", "word", "size", "image", "at", "view"]
def t_due (K : PySem.W.Frag) : TS :=
  (tSeq (tAsg (tC (.str "")) (gName 3))
    (tSeq (tFor (iRng1 (tCons (tCB xLenS (tCons (tVar 1) tNil)) tNil)) (gName 4) (tSeq (tAsg (tCall spView [] E0 (tCons (tVar 1) (tCons (tVar 4) (tCons (tVar 2) tNil)))) (gName 5))
    (tSeq (tIfS (tB (tDNotIn (tVar 5) (tVar 0))) (tRet (tC .non)) tNext)
    (tAsg (tOp xAddS (tVar 3) (tDGet (tVar 0) (tVar 5))) (gName 3)))))
    (tRet (tVar 3))))
theorem start_due (a0 a1 a2 : V) : start N_due [a0, a1, a2] = [some a0, some a1, some a2, none, none, none] := rfl

abbrev s_good : Stmt := top 27
abbrev N_good : List Str := ["turner", "letters", "images", "size", "table", "pairs", "more", "view", "pair", "word", "due", "told"]
def t_good (K : PySem.W.Frag) : TS :=
  (tSeq (tIfS (tOr (tNot (tB (tCB (rIsi K) (tCons (tVar 0) (tCons (tC (.ref (ga K "Turner"))) tNil))))) (tOr (tTest (tOp rNe (tFld K (tVar 0) "letters") (tVar 1))) (tTest (tOp rNe (tFld K (tVar 0) "images") (tVar 2))))) (tRet (tC (.bl false))) tNext)
    (tSeq (tIfS (tOr (tTest (tOp rNe (tFld K (tVar 0) "size") (tVar 3))) (tOr (tNot (tB (tCB (rIsi K) (tCons (tFld K (tVar 0) "table") (tCons (tC (.ty "dict")) tNil))))) (tTest (tOp rNe (tCB xLenD (tCons (tFld K (tVar 0) "table") tNil)) (tCB xLenD (tCons (tVar 4) tNil)))))) (tRet (tC (.bl false))) tNext)
    (tSeq (tLock (tFor (iKeys (tVar 4)) (gName 7) (tIfS (tOr (tB (tDNotIn (tVar 7) (tFld K (tVar 0) "table"))) (tTest (tOp rNe (tDGet (tFld K (tVar 0) "table") (tVar 7)) (tDGet (tVar 4) (tVar 7))))) (tRet (tC (.bl false))) tNext)))
    (tSeq (tFor (iList K (tVar 5)) (gName 8) (tIfS (tTest (tOp rNe (tCO K (ga K "Turner") (spTC K) (tVar 0) (tCons (tOp (rIxT K) (tVar 8) (tC (.int 0))) tNil)) (tOp (rIxT K) (tVar 8) (tC (.int 1))))) (tRet (tC (.bl false))) tNext))
    (tSeq (tFor (iList K (tVar 6)) (gName 9) (tSeq (tAsg (tCall spDue [] E0 (tCons (tVar 4) (tCons (tVar 9) (tCons (tVar 3) tNil)))) (gName 10))
    (tSeq (tAsg (tCO K (ga K "Turner") (spTC K) (tVar 0) (tCons (tVar 9) tNil)) (gName 11))
    (tIfS (tOr (tAnd (tTest (tOp xIsN (tVar 10) (tC .non))) (tTest (tOp xNotN (tVar 11) (tC .non)))) (tAnd (tTest (tOp xNotN (tVar 10) (tC .non))) (tTest (tOp rNe (tVar 11) (tVar 10))))) (tRet (tC (.bl false))) tNext))))
    (tRet (tC (.bl true))))))))
theorem start_good (a0 a1 a2 a3 a4 a5 a6 : V) : start N_good [a0, a1, a2, a3, a4, a5, a6] = [some a0, some a1, some a2, some a3, some a4, some a5, some a6, none, none, none, none, none] := rfl

abbrev s_spoil : Stmt := top 28
abbrev N_spoil : List Str := ["state", "pairs", "letters", "images", "at", "word", "image", "choice", "where", "sign"]
def t_spoil (K : PySem.W.Frag) : TS :=
  (tSeq (tAsg (tCall spNext [] E0 (tCons (tVar 0) (tCons (tCB (xLenQ K) (tCons (tVar 1) tNil)) tNil))) (gName 4))
    (tSeq (tAsg (tOp (rIxT K) (tOp (rIxL K) (tVar 1) (tVar 4)) (tC (.int 0))) (gName 5))
    (tSeq (tAsg (tOp (rIxT K) (tOp (rIxL K) (tVar 1) (tVar 4)) (tC (.int 1))) (gName 6))
    (tSeq (tAsg (tCall spNext [] E0 (tCons (tVar 0) (tCons (tC (.int 3)) tNil))) (gName 7))
    (tSeq (tAsg (tCall spNext [] E0 (tCons (tVar 0) (tCons (tOp xAdd (tCB xLenS (tCons (tVar 5) tNil)) (tC (.int 1))) tNil))) (gName 8))
    (tSeq (tAsg (tOp (rIxL K) (tLst (tCons (tC (.str "?")) (tCons (tC (.str "A")) (tCons (tC (.str " ")) (tCons (tC (.str "0")) tNil))))) (tCall spNext [] E0 (tCons (tVar 0) (tCons (tC (.int 4)) tNil)))) (gName 9))
    (tSeq (tIfS (tTest (tOp rEq (tVar 7) (tC (.int 0)))) (tAsg (tTup (tCons (tVar 5) (tCons (tOp xAddS (tVar 6) (tOp rIxS (tVar 3) (tC (.int 0)))) tNil))) (gSub (tVar 1) (tVar 4) rSetL)) (tIfS (tTest (tOp rEq (tVar 7) (tC (.int 1)))) (tAsg (tTup (tCons (tOp xAddS (tOp xAddS (tSl rSlS (tVar 5) tNoPart (tPart (tVar 8))) (tVar 9)) (tSl rSlS (tVar 5) (tPart (tVar 8)) tNoPart)) (tCons (tOp xAddS (tVar 6) (tOp rIxS (tVar 3) (tC (.int 0)))) tNil))) (gSub (tVar 1) (tVar 4) rSetL)) (tAsg (tTup (tCons (tVar 5) (tCons (tOp xAddS (tOp xAddS (tSl rSlS (tVar 6) tNoPart (tPart (tVar 8))) (tVar 9)) (tSl rSlS (tVar 6) (tPart (tOp xAdd (tVar 8) (tC (.int 1)))) tNoPart)) tNil))) (gSub (tVar 1) (tVar 4) rSetL))))
    (tRet (tVar 4)))))))))
theorem start_spoil (a0 a1 a2 a3 : V) : start N_spoil [a0, a1, a2, a3] = [some a0, some a1, some a2, some a3, none, none, none, none, none, none] := rfl

abbrev s_firstbad : Stmt := top 29
abbrev N_firstbad : List Str := ["pairs", "letters", "images", "k", "side", "at"]
def t_firstbad (K : PySem.W.Frag) : TS :=
  (tSeq (tFor (iRng1 (tCons (tCB (xLenQ K) (tCons (tVar 0) tNil)) tNil)) (gName 3) (tSeq (tFor (iRng1 (tCons (tC (.int 2)) tNil)) (gName 4) (tFor (iRng1 (tCons (tCB xLenS (tCons (tOp (rIxT K) (tOp (rIxL K) (tVar 0) (tVar 3)) (tVar 4)) tNil)) tNil)) (gName 5) (tIfS (tTest (tOp xNinS (tOp rIxS (tOp (rIxT K) (tOp (rIxL K) (tVar 0) (tVar 3)) (tVar 4)) (tVar 5)) (tOp (rIxL K) (tLst (tCons (tVar 1) (tCons (tVar 2) tNil))) (tVar 4)))) (tRet (tTup (tCons (tC (.str "word")) (tCons (tOp (rIxT K) (tOp (rIxL K) (tVar 0) (tVar 3)) (tVar 4)) (tCons (tVar 5) tNil))))) tNext)))
    (tIfS (tTest (tOp rNe (tCB xLenS (tCons (tOp (rIxT K) (tOp (rIxL K) (tVar 0) (tVar 3)) (tC (.int 0))) tNil)) (tCB xLenS (tCons (tOp (rIxT K) (tOp (rIxL K) (tVar 0) (tVar 3)) (tC (.int 1))) tNil)))) (tRet (tTup (tCons (tC (.str "text")) (tCons (tVar 3) (tCons (tC (.int 0)) tNil))))) tNext)))
    (tRet (tC .non)))
theorem start_firstbad (a0 a1 a2 : V) : start N_firstbad [a0, a1, a2] = [some a0, some a1, some a2, none, none, none] := rfl

abbrev s_refused : Stmt := top 30
abbrev N_refused : List Str := ["letters", "images", "size", "pairs", "bad", "e"]
def tb_refused (K : PySem.W.Frag) (W : WX) : TS := (tDrop (tCallS (spFit K) (WE W) (tCons (tVar 0) (tCons (tVar 1) (tCons (tVar 2) (tCons (tVar 3) tNil))))))
def ts_refused (K : PySem.W.Frag) (a : Addr) (cls : Value) (d : Option Addr) : TS := (tSeq (tIfS (tTest (tOp rEq (tOp (rIxT K) (tVar 4) (tC (.int 0))) (tC (.str "text")))) (tRet (tAndV (tCB (rIsX K a cls d) (tCons (tVar 5) (tCons (tC (.ref (ga K "BadText"))) tNil))) (tAndV (tNotV (tCB (rIsX K a cls d) (tCons (tVar 5) (tCons (tC (.ref (ga K "BadWord"))) tNil)))) (tOp rEq (tXf a cls d (ga K "BadText") "line" (tVar 5)) (tOp (rIxT K) (tVar 4) (tC (.int 1))))))) tNext)
    (tRet (tAndV (tCB (rIsX K a cls d) (tCons (tVar 5) (tCons (tC (.ref (ga K "BadWord"))) tNil))) (tAndV (tNotV (tCB (rIsX K a cls d) (tCons (tVar 5) (tCons (tC (.ref (ga K "BadText"))) tNil)))) (tAndV (tOp rEq (tXf a cls d (ga K "BadWord") "word" (tVar 5)) (tOp (rIxT K) (tVar 4) (tC (.int 1)))) (tOp rEq (tXf a cls d (ga K "BadWord") "place" (tVar 5)) (tOp (rIxT K) (tVar 4) (tC (.int 2)))))))))
def t_refused (K : PySem.W.Frag) : TS :=
  (tSeq (fun D σ H => tb_refused K (wAs K (.ref (ga K "LanguageError")) 5 (ts_refused K) (fun _ _ _ _ => False) D) D σ H)
    (tRet (tC (.bl false))))
theorem start_refused (a0 a1 a2 a3 a4 : V) : start N_refused [a0, a1, a2, a3, a4] = [some a0, some a1, some a2, some a3, some a4, none] := rfl

abbrev s_law : Stmt := top 31
abbrev N_law : List Str := ["script", "state", "letters", "images", "hidden", "size", "many", "longest", "known", "pairs", "k", "given", "bad", "more", "answer", "table", "word", "at", "image", "where"]
def t_law (K : PySem.W.Frag) : TS :=
  (tSeq (tAsg (tCall (spStart K) [] E0 (tCons (tVar 0) tNil)) (gName 1))
    (tSeq (tAsg (tOp (rIxL K) (tLst (tCons (tC (.str "ab")) (tCons (tC (.str "a")) (tCons (tC (.str "abc")) (tCons (tC (.str "bd")) (tCons (tC (.str "acz")) (tCons (tC (.str "abcd")) tNil))))))) (tCall spNext [] E0 (tCons (tVar 1) (tCons (tC (.int 6)) tNil)))) (gName 2))
    (tSeq (tAsg (tOp (rIxL K) (tLst (tCons (tC (.str "ab")) (tCons (tC (.str "xy")) (tCons (tC (.str "pqrs")) (tCons (tC (.str "z")) (tCons (tC (.str "abc")) (tCons (tC (.str "bd")) tNil))))))) (tCall spNext [] E0 (tCons (tVar 1) (tCons (tC (.int 6)) tNil)))) (gName 3))
    (tSeq (tAsg (tOp xAdd (tC (.int 1)) (tCall spNext [] E0 (tCons (tVar 1) (tCons (tC (.int 4)) tNil)))) (gName 4))
    (tSeq (tAsg (tOp xAdd (tC (.int 1)) (tCall spNext [] E0 (tCons (tVar 1) (tCons (tC (.int 4)) tNil)))) (gName 5))
    (tSeq (tIfS (tTest (tOp rEq (tCall spNext [] E0 (tCons (tVar 1) (tCons (tC (.int 8)) tNil))) (tC (.int 3)))) (tAsg (tOp xAdd (tC (.int 5)) (tCall spNext [] E0 (tCons (tVar 1) (tCons (tC (.int 3)) tNil)))) (gName 5)) tNext)
    (tSeq (tAsg (tCall spNext [] E0 (tCons (tVar 1) (tCons (tC (.int 6)) tNil))) (gName 6))
    (tSeq (tAsg (tC (.int 6)) (gName 7))
    (tSeq (tIfS (tTest (tOp rEq (tCall spNext [] E0 (tCons (tVar 1) (tCons (tC (.int 16)) tNil))) (tC (.int 9)))) (tSeq (tAsg (tOp xAdd (tC (.int 20)) (tCall spNext [] E0 (tCons (tVar 1) (tCons (tC (.int 11)) tNil)))) (gName 6))
    (tAsg (tC (.int 24)) (gName 7))) tNext)
    (tSeq (tAsg tDNewK (gName 8))
    (tSeq (tAsg (tLst tNil) (gName 9))
    (tSeq (tFor (iRng1 (tCons (tVar 6) tNil)) (gName 10) (tSeq (tAsg (tCall spWord [] E0 (tCons (tVar 1) (tCons (tVar 2) (tCons (tCall spNext [] E0 (tCons (tVar 1) (tCons (tOp xAdd (tVar 7) (tC (.int 1))) tNil))) tNil)))) (gName 16))
    (tDrop (tBM K "list" rAppend (tVar 9) (tCons (tTup (tCons (tVar 16) (tCons (tCall spImage [] E0 (tCons (tVar 1) (tCons (tVar 8) (tCons (tVar 16) (tCons (tVar 3) (tCons (tVar 4) tNil)))))) tNil))) tNil)))))
    (tSeq (tIfS (tAnd (tTest (tOp xGt (tVar 6) (tC (.int 0)))) (tTest (tOp rEq (tCall spNext [] E0 (tCons (tVar 1) (tCons (tC (.int 2)) tNil))) (tC (.int 0))))) (tSeq (tAsg (tCall spNext [] E0 (tCons (tVar 1) (tCons (tVar 6) tNil))) (gName 17))
    (tSeq (tAsg (tOp (rIxT K) (tOp (rIxL K) (tVar 9) (tVar 17)) (tC (.int 0))) (gName 16))
    (tSeq (tAsg (tOp (rIxT K) (tOp (rIxL K) (tVar 9) (tVar 17)) (tC (.int 1))) (gName 18))
    (tSeq (tAsg (tCall spNext [] E0 (tCons (tVar 1) (tCons (tOp xAdd (tCB xLenS (tCons (tVar 16) tNil)) (tC (.int 1))) tNil))) (gName 19))
    (tIfS (tTest (tOp xLt (tVar 19) (tCB xLenS (tCons (tVar 16) tNil)))) (tAsg (tTup (tCons (tVar 16) (tCons (tOp xAddS (tOp xAddS (tSl rSlS (tVar 18) tNoPart (tPart (tVar 19))) (tOp rIxS (tVar 3) (tCall spNext [] E0 (tCons (tVar 1) (tCons (tCB xLenS (tCons (tVar 3) tNil)) tNil))))) (tSl rSlS (tVar 18) (tPart (tOp xAdd (tVar 19) (tC (.int 1)))) tNoPart)) tNil))) (gSub (tVar 9) (tVar 17) rSetL)) tNext))))) tNext)
    (tSeq (tIfS (tAnd (tTest (tOp xGt (tVar 6) (tC (.int 0)))) (tTest (tOp rEq (tCall spNext [] E0 (tCons (tVar 1) (tCons (tC (.int 6)) tNil))) (tC (.int 1))))) (tSeq (tDrop (tCall (spSpoil K) [] E0 (tCons (tVar 1) (tCons (tVar 9) (tCons (tVar 2) (tCons (tVar 3) tNil))))))
    (tIfS (tTest (tOp rEq (tCall spNext [] E0 (tCons (tVar 1) (tCons (tC (.int 2)) tNil))) (tC (.int 0)))) (tDrop (tCall (spSpoil K) [] E0 (tCons (tVar 1) (tCons (tVar 9) (tCons (tVar 2) (tCons (tVar 3) tNil)))))) tNext)) tNext)
    (tSeq (tAsg (tCB (xList K) (tCons (tVar 9) tNil)) (gName 11))
    (tSeq (tAsg (tCall (spFB K) [] E0 (tCons (tVar 9) (tCons (tVar 2) (tCons (tVar 3) tNil)))) (gName 12))
    (tSeq (tIfS (tTest (tOp xNotN (tVar 12) (tC .non))) (tRet (tAndV (tCall (spRef K) [] E0 (tCons (tVar 2) (tCons (tVar 3) (tCons (tVar 5) (tCons (tVar 11) (tCons (tVar 12) tNil)))))) (tOp (rEqD K) (tVar 11) (tVar 9)))) tNext)
    (tSeq (tAsg (tLc (iRng1 (tCons (tC (.int 5)) tNil)) (gName 10) tYes (tCall spWord [] E0 (tCons (tVar 1) (tCons (tVar 2) (tCons (tVar 10) tNil)))) [10]) (gName 13))
    (tSeq (tAsg (tCall (spFit K) [] E0 (tCons (tVar 2) (tCons (tVar 3) (tCons (tVar 5) (tCons (tVar 11) tNil))))) (gName 14))
    (tSeq (tIfS (tOr (tTest (tOp (rNeD K) (tVar 11) (tVar 9))) (tOr (tNot (tB (tCB (rIsi K) (tCons (tVar 14) (tCons (tC (.ty "tuple")) tNil))))) (tTest (tOp xLt (tCB (xLenQ K) (tCons (tVar 14) tNil)) (tC (.int 2)))))) (tRet (tC (.bl false))) tNext)
    (tSeq (tAsg (tCall (spTable K) [] E0 (tCons (tVar 9) (tCons (tVar 5) tNil))) (gName 15))
    (tSeq (tIfS (tTest (tOp xIsN (tVar 15) (tC .non))) (tRet (tAndV (tOp rEq (tOp (rIxT K) (tVar 14) (tC (.int 0))) (tC (.str "clash"))) (tCall (spClash K) [] E0 (tCons (tVar 9) (tCons (tVar 5) (tCons (tVar 14) tNil)))))) tNext)
    (tSeq (tIfS (tOr (tTest (tOp rNe (tOp (rIxT K) (tVar 14) (tC (.int 0))) (tC (.str "fits")))) (tTest (tOp rNe (tCB (xLenQ K) (tCons (tVar 14) tNil)) (tC (.int 2))))) (tRet (tC (.bl false))) tNext)
    (tRet (tCall (spGood K) [] E0 (tCons (tOp (rIxT K) (tVar 14) (tC (.int 1))) (tCons (tVar 2) (tCons (tVar 3) (tCons (tVar 5) (tCons (tVar 15) (tCons (tVar 9) (tCons (tVar 13) tNil))))))))))))))))))))))))))))))))
theorem start_law (a0 : V) : start N_law [a0] = [some a0, none, none, none, none, none, none, none, none, none, none, none, none, none, none, none, none, none, none, none] := rfl

def d_check_letters : He.DefD := ⟨("check_letters", none), "check_letters", "check_letters", defArgs s_check_letters, defBody s_check_letters, defScope s_check_letters, [], []⟩
def d_check_word : He.DefD := ⟨("check_word", none), "check_word", "check_word", defArgs s_check_word, defBody s_check_word, defScope s_check_word, [], []⟩
def d_view_at : He.DefD := ⟨("view_at", none), "view_at", "view_at", defArgs s_view_at, defBody s_view_at, defScope s_view_at, [], []⟩
def d_tinit : He.DefD := ⟨("Turner", some "__init__"), "__init__", "Turner.__init__", defArgs s_tinit, defBody s_tinit, defScope s_tinit, [], []⟩
def d_tcall : He.DefD := ⟨("Turner", some "__call__"), "__call__", "Turner.__call__", defArgs s_tcall, defBody s_tcall, defScope s_tcall, [], []⟩
def d_check_pairs : He.DefD := ⟨("check_pairs", none), "check_pairs", "check_pairs", defArgs s_check_pairs, defBody s_check_pairs, defScope s_check_pairs, [], []⟩
def d_first_clash : He.DefD := ⟨("first_clash", none), "first_clash", "first_clash", defArgs s_first_clash, defBody s_first_clash, defScope s_first_clash, [], []⟩
def d_fit_turner : He.DefD := ⟨("fit_turner", none), "fit_turner", "fit_turner", defArgs s_fit_turner, defBody s_fit_turner, defScope s_fit_turner, [], []⟩
def d_start : He.DefD := ⟨("_law_start", none), "_law_start", "_law_start", defArgs s_start, defBody s_start, defScope s_start, [], []⟩
def d_next : He.DefD := ⟨("_law_next", none), "_law_next", "_law_next", defArgs s_next, defBody s_next, defScope s_next, [], []⟩
def d_integer : He.DefD := ⟨("_law_integer", none), "_law_integer", "_law_integer", defArgs s_integer, defBody s_integer, defScope s_integer, [], []⟩
def d_word : He.DefD := ⟨("_law_word", none), "_law_word", "_law_word", defArgs s_word, defBody s_word, defScope s_word, [], []⟩
def d_lview : He.DefD := ⟨("_law_view", none), "_law_view", "_law_view", defArgs s_lview, defBody s_lview, defScope s_lview, [], []⟩
def d_image : He.DefD := ⟨("_law_image", none), "_law_image", "_law_image", defArgs s_image, defBody s_image, defScope s_image, [], []⟩
def d_table : He.DefD := ⟨("_law_table", none), "_law_table", "_law_table", defArgs s_table, defBody s_table, defScope s_table, [], []⟩
def d_place : He.DefD := ⟨("_law_place", none), "_law_place", "_law_place", defArgs s_place, defBody s_place, defScope s_place, [], []⟩
def d_clash : He.DefD := ⟨("_law_clash", none), "_law_clash", "_law_clash", defArgs s_clash, defBody s_clash, defScope s_clash, [], []⟩
def d_due : He.DefD := ⟨("_law_due_image", none), "_law_due_image", "_law_due_image", defArgs s_due, defBody s_due, defScope s_due, [], []⟩
def d_good : He.DefD := ⟨("_law_good_turner", none), "_law_good_turner", "_law_good_turner", defArgs s_good, defBody s_good, defScope s_good, [], []⟩
def d_spoil : He.DefD := ⟨("_law_spoil", none), "_law_spoil", "_law_spoil", defArgs s_spoil, defBody s_spoil, defScope s_spoil, [], []⟩
def d_firstbad : He.DefD := ⟨("_law_first_bad", none), "_law_first_bad", "_law_first_bad", defArgs s_firstbad, defBody s_firstbad, defScope s_firstbad, [], []⟩
def d_refused : He.DefD := ⟨("_law_refused", none), "_law_refused", "_law_refused", defArgs s_refused, defBody s_refused, defScope s_refused, [], []⟩
def d_law : He.DefD := ⟨("law", none), "law", "law", defArgs s_law, defBody s_law, defScope s_law, [], []⟩
def fa : List He.Fa := [
  .free "len",
  .int "MOST_KINDS_OF_LETTERS" 4,
  .glo "BadLetters",
  .exc "BadLetters",
  .str "SMALL" "abcdefghijklmnopqrstuvwxyz",
  .free "enumerate",
  .noat "BadWord" "word",
  .noat "BadWord" "place",
  .free "super",
  .glo "BadWord",
  .free "max",
  .glo "check_letters",
  .cls "Turner",
  .noat "Turner" "letters",
  .noat "Turner" "images",
  .noat "Turner" "size",
  .free "dict",
  .noat "Turner" "table",
  .glo "check_word",
  .free "range",
  .glo "view_at",
  .noat "BadText" "line",
  .glo "BadText",
  .glo "check_pairs",
  .glo "first_clash",
  .mkr "Turner",
  .glo "Turner",
  .free "abs",
  .free "int",
  .free "bool",
  .free "isinstance",
  .glo "_law_next",
  .glo "_law_view",
  .free "tuple",
  .glo "_law_integer",
  .glo "_law_place",
  .glo "_law_due_image",
  .glo "fit_turner",
  .glo "LanguageError",
  .glo "_law_start",
  .glo "_law_word",
  .glo "_law_image",
  .glo "_law_spoil",
  .free "list",
  .glo "_law_first_bad",
  .glo "_law_refused",
  .glo "_law_table",
  .glo "_law_clash",
  .glo "_law_good_turner",
  .glo "law",
  .meth "Turner" "__call__"]
def fn : List He.DefD := [d_check_letters, d_check_word, d_view_at, d_tinit, d_tcall, d_check_pairs, d_first_clash, d_fit_turner, d_start, d_next, d_integer, d_word, d_lview, d_image, d_table, d_place, d_clash, d_due, d_good, d_spoil, d_firstbad, d_refused, d_law]

abbrev si_BadWord : Stmt := inClass (top 3) 0
abbrev si_BadText : Stmt := inClass (top 4) 0
def i_BadWord : IniD := ⟨"BadWord", "BadWord.__init__", defArgs si_BadWord, defBody si_BadWord, defScope si_BadWord⟩
def i_BadText : IniD := ⟨"BadText", "BadText.__init__", defArgs si_BadText, defBody si_BadText, defScope si_BadText⟩
theorem sh_BadWord : XX.Sh2 "word" "place" (defArgs si_BadWord) (defBody si_BadWord) (defScope si_BadWord) := ⟨⟨_, _, _, _, _, _, _, _, _, _, _, _, _, _, _, _, _, _, _, rfl, rfl, rfl, fun _ => ⟨_, rfl⟩⟩⟩
theorem sh_BadText : XX.Sh1 "line" (defArgs si_BadText) (defBody si_BadText) (defScope si_BadText) := ⟨⟨_, _, _, _, _, _, _, _, _, _, _, _, _, _, rfl, rfl, rfl, fun _ => ⟨_, rfl⟩⟩⟩
theorem nm_BadWord : XX.Nm2 "word" "place" := XX.nm2_word_place
theorem nm_BadText : XX.Nm1 "line" := XX.nm1_line
def fi : List IniD := [i_BadWord, i_BadText]
theorem top_super : (PP.main.scope.names.lookup ("super" : Str)).isSome = false := by decide +kernel

def exB (K : PySem.W.Frag) : Bool :=
  PySem.W.fnIn K (fAd K ("Turner", some "__call__")) &&
  (decide (PySem.W.kitOne K (.ref (ga K "BadText")) (.ref (ga K "BadText")) = some true) &&
  (decide (PySem.W.kitOne K (.ref (ga K "BadText")) (.ref (ga K "BadWord")) = some false) &&
  (decide (PySem.W.kitOne K (.ref (ga K "BadWord")) (.ref (ga K "BadWord")) = some true) &&
  (decide (PySem.W.kitOne K (.ref (ga K "BadWord")) (.ref (ga K "BadText")) = some false) &&
  (decide (PySem.W.exmOne K (.ref (ga K "BadText")) (.ref (ga K "LanguageError")) = some true) &&
  (decide (PySem.W.exmOne K (.ref (ga K "BadWord")) (.ref (ga K "LanguageError")) = some true) &&
  (decide (PySem.W.findIn K (.ref (ga K "Turner")) "__class__" = some (some (.builtin "object.__class__"))) && (decide (PySem.W.specialIn K (.builtin "object.__class__") "__get__" = some (some (.builtin "getset_descriptor.__get__"))) &&
  (decide (PySem.W.takesIn K (.builtin "object.__class__") = some true) && (decide (PySem.W.mroIn K (ga K "Turner") (.type "object") = some true) && decide (PySem.W.kitOne K (.ref (ga K "Turner")) (.ref (ga K "Turner")) = some true)))))))))))
abbrev Tx (K : PySem.W.Frag) (mg : Str → Option Value) : Prop := TxG fa fn fi exB PP K mg
structure ExF (K : PySem.W.Frag) : Prop where
  fc : PySem.W.fnIn K (fAd K ("Turner", some "__call__")) = true
  tt : PySem.W.kitOne K (.ref (ga K "BadText")) (.ref (ga K "BadText")) = some true
  tw : PySem.W.kitOne K (.ref (ga K "BadText")) (.ref (ga K "BadWord")) = some false
  ww : PySem.W.kitOne K (.ref (ga K "BadWord")) (.ref (ga K "BadWord")) = some true
  wt : PySem.W.kitOne K (.ref (ga K "BadWord")) (.ref (ga K "BadText")) = some false
  et : PySem.W.exmOne K (.ref (ga K "BadText")) (.ref (ga K "LanguageError")) = some true
  ew : PySem.W.exmOne K (.ref (ga K "BadWord")) (.ref (ga K "LanguageError")) = some true
  c1 : PySem.W.findIn K (.ref (ga K "Turner")) "__class__" = some (some (.builtin "object.__class__"))
  c2 : PySem.W.specialIn K (.builtin "object.__class__") "__get__" = some (some (.builtin "getset_descriptor.__get__"))
  c3 : PySem.W.takesIn K (.builtin "object.__class__") = some true
  c4 : PySem.W.mroIn K (ga K "Turner") (.type "object") = some true
  c5 : PySem.W.kitOne K (.ref (ga K "Turner")) (.ref (ga K "Turner")) = some true
theorem exF {K : PySem.W.Frag} {mg : Str → Option Value} (T : Tx K mg) : ExF K := by
  have h := T.extra
  simp only [exB, Bool.and_eq_true, decide_eq_true_eq] at h
  obtain ⟨h1, h2, h3, h4, h5, h6, h7, h8, h9, h10, h11, h12⟩ := h
  exact ⟨h1, h2, h3, h4, h5, h6, h7, h8, h9, h10, h11, h12⟩
theorem any_of {K : PySem.W.Frag} {mg : Str → Option Value} (T : Tx K mg) : PySem.W.nsIn K cStatics "thirdparty.any" = some none := T.any 0 (d := i_BadWord) rfl
theorem co_Turner {K : PySem.W.Frag} {mg : Str → Option Value} (T : Tx K mg) : StX.CallO K (ga K "Turner") (fAd K ("Turner", some "__call__")) := by
  have m := T.me 50 "Turner" "__call__" rfl
  exact ⟨m.1, m.2, (exF T).fc⟩
theorem na_BadWord_word {K : PySem.W.Frag} {mg : Str → Option Value} (T : Tx K mg) : NoAttr K (ga K "BadWord") "word" := T.na 6 "BadWord" "word" rfl
theorem na_BadWord_place {K : PySem.W.Frag} {mg : Str → Option Value} (T : Tx K mg) : NoAttr K (ga K "BadWord") "place" := T.na 7 "BadWord" "place" rfl
theorem cls_Turner {K : PySem.W.Frag} {mg : Str → Option Value} (T : Tx K mg) : Cls K (ga K "Turner") := T.cls 12 "Turner" rfl
theorem na_Turner_letters {K : PySem.W.Frag} {mg : Str → Option Value} (T : Tx K mg) : NoAttr K (ga K "Turner") "letters" := T.na 13 "Turner" "letters" rfl
theorem na_Turner_images {K : PySem.W.Frag} {mg : Str → Option Value} (T : Tx K mg) : NoAttr K (ga K "Turner") "images" := T.na 14 "Turner" "images" rfl
theorem na_Turner_size {K : PySem.W.Frag} {mg : Str → Option Value} (T : Tx K mg) : NoAttr K (ga K "Turner") "size" := T.na 15 "Turner" "size" rfl
theorem na_Turner_table {K : PySem.W.Frag} {mg : Str → Option Value} (T : Tx K mg) : NoAttr K (ga K "Turner") "table" := T.na 17 "Turner" "table" rfl
theorem na_BadText_line {K : PySem.W.Frag} {mg : Str → Option Value} (T : Tx K mg) : NoAttr K (ga K "BadText") "line" := T.na 21 "BadText" "line" rfl
theorem glo_law {K : PySem.W.Frag} {mg : Str → Option Value} (T : Tx K mg) : mg "law" = some (.ref (ga K "law")) := T.gl 49 "law" rfl
end K87

set_option maxHeartbeats 4000000
namespace K87
open PySem PySem.Spec PyProof.Rows L2 He
theorem len_check_letters {K : PySem.W.Frag} {vs : List V} {H : Hp} {Q : VK} {E : XK} (h : spCL vs H Q E) : vs.length = 1 := by
  unfold spCL at h
  first | (obtain ⟨_, rfl, _⟩ := h; rfl) | (obtain ⟨_, _, rfl, _⟩ := h; rfl) | (obtain ⟨_, _, _, rfl, _⟩ := h; rfl) | (obtain ⟨_, _, _, _, rfl, _⟩ := h; rfl) | (obtain ⟨_, _, _, _, _, rfl, _⟩ := h; rfl) | (obtain ⟨_, _, _, _, _, _, rfl, _⟩ := h; rfl) | (obtain ⟨_, _, _, _, _, _, _, rfl, _⟩ := h; rfl) | (obtain ⟨_, _, _, _, _, _, _, _, rfl, _⟩ := h; rfl) | (obtain ⟨_, _, _, _, _, _, _, _, _, rfl, _⟩ := h; rfl) | (obtain ⟨_, _, _, _, _, _, _, _, _, _, rfl, _⟩ := h; rfl) | (obtain ⟨_, _, _, _, _, _, _, _, _, _, _, rfl, _⟩ := h; rfl) | (obtain ⟨_, _, _, _, _, _, _, _, _, _, _, _, rfl, _⟩ := h; rfl)
theorem len_check_word {K : PySem.W.Frag} {vs : List V} {H : Hp} {Q : VK} {E : XK} (h : (spCW K) vs H Q E) : vs.length = 2 := by
  unfold spCW at h
  first | (obtain ⟨_, rfl, _⟩ := h; rfl) | (obtain ⟨_, _, rfl, _⟩ := h; rfl) | (obtain ⟨_, _, _, rfl, _⟩ := h; rfl) | (obtain ⟨_, _, _, _, rfl, _⟩ := h; rfl) | (obtain ⟨_, _, _, _, _, rfl, _⟩ := h; rfl) | (obtain ⟨_, _, _, _, _, _, rfl, _⟩ := h; rfl) | (obtain ⟨_, _, _, _, _, _, _, rfl, _⟩ := h; rfl) | (obtain ⟨_, _, _, _, _, _, _, _, rfl, _⟩ := h; rfl) | (obtain ⟨_, _, _, _, _, _, _, _, _, rfl, _⟩ := h; rfl) | (obtain ⟨_, _, _, _, _, _, _, _, _, _, rfl, _⟩ := h; rfl) | (obtain ⟨_, _, _, _, _, _, _, _, _, _, _, rfl, _⟩ := h; rfl) | (obtain ⟨_, _, _, _, _, _, _, _, _, _, _, _, rfl, _⟩ := h; rfl)
theorem len_view_at {K : PySem.W.Frag} {vs : List V} {H : Hp} {Q : VK} {E : XK} (h : spView vs H Q E) : vs.length = 3 := by
  unfold spView at h
  first | (obtain ⟨_, rfl, _⟩ := h; rfl) | (obtain ⟨_, _, rfl, _⟩ := h; rfl) | (obtain ⟨_, _, _, rfl, _⟩ := h; rfl) | (obtain ⟨_, _, _, _, rfl, _⟩ := h; rfl) | (obtain ⟨_, _, _, _, _, rfl, _⟩ := h; rfl) | (obtain ⟨_, _, _, _, _, _, rfl, _⟩ := h; rfl) | (obtain ⟨_, _, _, _, _, _, _, rfl, _⟩ := h; rfl) | (obtain ⟨_, _, _, _, _, _, _, _, rfl, _⟩ := h; rfl) | (obtain ⟨_, _, _, _, _, _, _, _, _, rfl, _⟩ := h; rfl) | (obtain ⟨_, _, _, _, _, _, _, _, _, _, rfl, _⟩ := h; rfl) | (obtain ⟨_, _, _, _, _, _, _, _, _, _, _, rfl, _⟩ := h; rfl) | (obtain ⟨_, _, _, _, _, _, _, _, _, _, _, _, rfl, _⟩ := h; rfl)
theorem len_tinit {K : PySem.W.Frag} {vs : List V} {H : Hp} {Q : VK} {E : XK} (h : (spTI K) vs H Q E) : vs.length = 5 := by
  unfold spTI at h
  first | (obtain ⟨_, rfl, _⟩ := h; rfl) | (obtain ⟨_, _, rfl, _⟩ := h; rfl) | (obtain ⟨_, _, _, rfl, _⟩ := h; rfl) | (obtain ⟨_, _, _, _, rfl, _⟩ := h; rfl) | (obtain ⟨_, _, _, _, _, rfl, _⟩ := h; rfl) | (obtain ⟨_, _, _, _, _, _, rfl, _⟩ := h; rfl) | (obtain ⟨_, _, _, _, _, _, _, rfl, _⟩ := h; rfl) | (obtain ⟨_, _, _, _, _, _, _, _, rfl, _⟩ := h; rfl) | (obtain ⟨_, _, _, _, _, _, _, _, _, rfl, _⟩ := h; rfl) | (obtain ⟨_, _, _, _, _, _, _, _, _, _, rfl, _⟩ := h; rfl) | (obtain ⟨_, _, _, _, _, _, _, _, _, _, _, rfl, _⟩ := h; rfl) | (obtain ⟨_, _, _, _, _, _, _, _, _, _, _, _, rfl, _⟩ := h; rfl)
theorem len_tcall {K : PySem.W.Frag} {vs : List V} {H : Hp} {Q : VK} {E : XK} (h : (spTC K) vs H Q E) : vs.length = 2 := by
  unfold spTC at h
  first | (obtain ⟨_, rfl, _⟩ := h; rfl) | (obtain ⟨_, _, rfl, _⟩ := h; rfl) | (obtain ⟨_, _, _, rfl, _⟩ := h; rfl) | (obtain ⟨_, _, _, _, rfl, _⟩ := h; rfl) | (obtain ⟨_, _, _, _, _, rfl, _⟩ := h; rfl) | (obtain ⟨_, _, _, _, _, _, rfl, _⟩ := h; rfl) | (obtain ⟨_, _, _, _, _, _, _, rfl, _⟩ := h; rfl) | (obtain ⟨_, _, _, _, _, _, _, _, rfl, _⟩ := h; rfl) | (obtain ⟨_, _, _, _, _, _, _, _, _, rfl, _⟩ := h; rfl) | (obtain ⟨_, _, _, _, _, _, _, _, _, _, rfl, _⟩ := h; rfl) | (obtain ⟨_, _, _, _, _, _, _, _, _, _, _, rfl, _⟩ := h; rfl) | (obtain ⟨_, _, _, _, _, _, _, _, _, _, _, _, rfl, _⟩ := h; rfl)
theorem len_check_pairs {K : PySem.W.Frag} {vs : List V} {H : Hp} {Q : VK} {E : XK} (h : (spCP K) vs H Q E) : vs.length = 3 := by
  unfold spCP at h
  first | (obtain ⟨_, rfl, _⟩ := h; rfl) | (obtain ⟨_, _, rfl, _⟩ := h; rfl) | (obtain ⟨_, _, _, rfl, _⟩ := h; rfl) | (obtain ⟨_, _, _, _, rfl, _⟩ := h; rfl) | (obtain ⟨_, _, _, _, _, rfl, _⟩ := h; rfl) | (obtain ⟨_, _, _, _, _, _, rfl, _⟩ := h; rfl) | (obtain ⟨_, _, _, _, _, _, _, rfl, _⟩ := h; rfl) | (obtain ⟨_, _, _, _, _, _, _, _, rfl, _⟩ := h; rfl) | (obtain ⟨_, _, _, _, _, _, _, _, _, rfl, _⟩ := h; rfl) | (obtain ⟨_, _, _, _, _, _, _, _, _, _, rfl, _⟩ := h; rfl) | (obtain ⟨_, _, _, _, _, _, _, _, _, _, _, rfl, _⟩ := h; rfl) | (obtain ⟨_, _, _, _, _, _, _, _, _, _, _, _, rfl, _⟩ := h; rfl)
theorem len_first_clash {K : PySem.W.Frag} {vs : List V} {H : Hp} {Q : VK} {E : XK} (h : (spFC K) vs H Q E) : vs.length = 2 := by
  unfold spFC at h
  first | (obtain ⟨_, rfl, _⟩ := h; rfl) | (obtain ⟨_, _, rfl, _⟩ := h; rfl) | (obtain ⟨_, _, _, rfl, _⟩ := h; rfl) | (obtain ⟨_, _, _, _, rfl, _⟩ := h; rfl) | (obtain ⟨_, _, _, _, _, rfl, _⟩ := h; rfl) | (obtain ⟨_, _, _, _, _, _, rfl, _⟩ := h; rfl) | (obtain ⟨_, _, _, _, _, _, _, rfl, _⟩ := h; rfl) | (obtain ⟨_, _, _, _, _, _, _, _, rfl, _⟩ := h; rfl) | (obtain ⟨_, _, _, _, _, _, _, _, _, rfl, _⟩ := h; rfl) | (obtain ⟨_, _, _, _, _, _, _, _, _, _, rfl, _⟩ := h; rfl) | (obtain ⟨_, _, _, _, _, _, _, _, _, _, _, rfl, _⟩ := h; rfl) | (obtain ⟨_, _, _, _, _, _, _, _, _, _, _, _, rfl, _⟩ := h; rfl)
theorem len_fit_turner {K : PySem.W.Frag} {vs : List V} {H : Hp} {Q : VK} {E : XK} (h : (spFit K) vs H Q E) : vs.length = 4 := by
  unfold spFit at h
  first | (obtain ⟨_, rfl, _⟩ := h; rfl) | (obtain ⟨_, _, rfl, _⟩ := h; rfl) | (obtain ⟨_, _, _, rfl, _⟩ := h; rfl) | (obtain ⟨_, _, _, _, rfl, _⟩ := h; rfl) | (obtain ⟨_, _, _, _, _, rfl, _⟩ := h; rfl) | (obtain ⟨_, _, _, _, _, _, rfl, _⟩ := h; rfl) | (obtain ⟨_, _, _, _, _, _, _, rfl, _⟩ := h; rfl) | (obtain ⟨_, _, _, _, _, _, _, _, rfl, _⟩ := h; rfl) | (obtain ⟨_, _, _, _, _, _, _, _, _, rfl, _⟩ := h; rfl) | (obtain ⟨_, _, _, _, _, _, _, _, _, _, rfl, _⟩ := h; rfl) | (obtain ⟨_, _, _, _, _, _, _, _, _, _, _, rfl, _⟩ := h; rfl) | (obtain ⟨_, _, _, _, _, _, _, _, _, _, _, _, rfl, _⟩ := h; rfl)
theorem len_start {K : PySem.W.Frag} {vs : List V} {H : Hp} {Q : VK} {E : XK} (h : (spStart K) vs H Q E) : vs.length = 1 := by
  unfold spStart at h
  first | (obtain ⟨_, rfl, _⟩ := h; rfl) | (obtain ⟨_, _, rfl, _⟩ := h; rfl) | (obtain ⟨_, _, _, rfl, _⟩ := h; rfl) | (obtain ⟨_, _, _, _, rfl, _⟩ := h; rfl) | (obtain ⟨_, _, _, _, _, rfl, _⟩ := h; rfl) | (obtain ⟨_, _, _, _, _, _, rfl, _⟩ := h; rfl) | (obtain ⟨_, _, _, _, _, _, _, rfl, _⟩ := h; rfl) | (obtain ⟨_, _, _, _, _, _, _, _, rfl, _⟩ := h; rfl) | (obtain ⟨_, _, _, _, _, _, _, _, _, rfl, _⟩ := h; rfl) | (obtain ⟨_, _, _, _, _, _, _, _, _, _, rfl, _⟩ := h; rfl) | (obtain ⟨_, _, _, _, _, _, _, _, _, _, _, rfl, _⟩ := h; rfl) | (obtain ⟨_, _, _, _, _, _, _, _, _, _, _, _, rfl, _⟩ := h; rfl)
theorem len_next {K : PySem.W.Frag} {vs : List V} {H : Hp} {Q : VK} {E : XK} (h : spNext vs H Q E) : vs.length = 2 := by
  unfold spNext at h
  first | (obtain ⟨_, rfl, _⟩ := h; rfl) | (obtain ⟨_, _, rfl, _⟩ := h; rfl) | (obtain ⟨_, _, _, rfl, _⟩ := h; rfl) | (obtain ⟨_, _, _, _, rfl, _⟩ := h; rfl) | (obtain ⟨_, _, _, _, _, rfl, _⟩ := h; rfl) | (obtain ⟨_, _, _, _, _, _, rfl, _⟩ := h; rfl) | (obtain ⟨_, _, _, _, _, _, _, rfl, _⟩ := h; rfl) | (obtain ⟨_, _, _, _, _, _, _, _, rfl, _⟩ := h; rfl) | (obtain ⟨_, _, _, _, _, _, _, _, _, rfl, _⟩ := h; rfl) | (obtain ⟨_, _, _, _, _, _, _, _, _, _, rfl, _⟩ := h; rfl) | (obtain ⟨_, _, _, _, _, _, _, _, _, _, _, rfl, _⟩ := h; rfl) | (obtain ⟨_, _, _, _, _, _, _, _, _, _, _, _, rfl, _⟩ := h; rfl)
theorem len_integer {K : PySem.W.Frag} {vs : List V} {H : Hp} {Q : VK} {E : XK} (h : spInt vs H Q E) : vs.length = 1 := by
  unfold spInt at h
  first | (obtain ⟨_, rfl, _⟩ := h; rfl) | (obtain ⟨_, _, rfl, _⟩ := h; rfl) | (obtain ⟨_, _, _, rfl, _⟩ := h; rfl) | (obtain ⟨_, _, _, _, rfl, _⟩ := h; rfl) | (obtain ⟨_, _, _, _, _, rfl, _⟩ := h; rfl) | (obtain ⟨_, _, _, _, _, _, rfl, _⟩ := h; rfl) | (obtain ⟨_, _, _, _, _, _, _, rfl, _⟩ := h; rfl) | (obtain ⟨_, _, _, _, _, _, _, _, rfl, _⟩ := h; rfl) | (obtain ⟨_, _, _, _, _, _, _, _, _, rfl, _⟩ := h; rfl) | (obtain ⟨_, _, _, _, _, _, _, _, _, _, rfl, _⟩ := h; rfl) | (obtain ⟨_, _, _, _, _, _, _, _, _, _, _, rfl, _⟩ := h; rfl) | (obtain ⟨_, _, _, _, _, _, _, _, _, _, _, _, rfl, _⟩ := h; rfl)
theorem len_word {K : PySem.W.Frag} {vs : List V} {H : Hp} {Q : VK} {E : XK} (h : spWord vs H Q E) : vs.length = 3 := by
  unfold spWord at h
  first | (obtain ⟨_, rfl, _⟩ := h; rfl) | (obtain ⟨_, _, rfl, _⟩ := h; rfl) | (obtain ⟨_, _, _, rfl, _⟩ := h; rfl) | (obtain ⟨_, _, _, _, rfl, _⟩ := h; rfl) | (obtain ⟨_, _, _, _, _, rfl, _⟩ := h; rfl) | (obtain ⟨_, _, _, _, _, _, rfl, _⟩ := h; rfl) | (obtain ⟨_, _, _, _, _, _, _, rfl, _⟩ := h; rfl) | (obtain ⟨_, _, _, _, _, _, _, _, rfl, _⟩ := h; rfl) | (obtain ⟨_, _, _, _, _, _, _, _, _, rfl, _⟩ := h; rfl) | (obtain ⟨_, _, _, _, _, _, _, _, _, _, rfl, _⟩ := h; rfl) | (obtain ⟨_, _, _, _, _, _, _, _, _, _, _, rfl, _⟩ := h; rfl) | (obtain ⟨_, _, _, _, _, _, _, _, _, _, _, _, rfl, _⟩ := h; rfl)
theorem len_lview {K : PySem.W.Frag} {vs : List V} {H : Hp} {Q : VK} {E : XK} (h : spView vs H Q E) : vs.length = 3 := by
  unfold spView at h
  first | (obtain ⟨_, rfl, _⟩ := h; rfl) | (obtain ⟨_, _, rfl, _⟩ := h; rfl) | (obtain ⟨_, _, _, rfl, _⟩ := h; rfl) | (obtain ⟨_, _, _, _, rfl, _⟩ := h; rfl) | (obtain ⟨_, _, _, _, _, rfl, _⟩ := h; rfl) | (obtain ⟨_, _, _, _, _, _, rfl, _⟩ := h; rfl) | (obtain ⟨_, _, _, _, _, _, _, rfl, _⟩ := h; rfl) | (obtain ⟨_, _, _, _, _, _, _, _, rfl, _⟩ := h; rfl) | (obtain ⟨_, _, _, _, _, _, _, _, _, rfl, _⟩ := h; rfl) | (obtain ⟨_, _, _, _, _, _, _, _, _, _, rfl, _⟩ := h; rfl) | (obtain ⟨_, _, _, _, _, _, _, _, _, _, _, rfl, _⟩ := h; rfl) | (obtain ⟨_, _, _, _, _, _, _, _, _, _, _, _, rfl, _⟩ := h; rfl)
theorem len_image {K : PySem.W.Frag} {vs : List V} {H : Hp} {Q : VK} {E : XK} (h : spImage vs H Q E) : vs.length = 5 := by
  unfold spImage at h
  first | (obtain ⟨_, rfl, _⟩ := h; rfl) | (obtain ⟨_, _, rfl, _⟩ := h; rfl) | (obtain ⟨_, _, _, rfl, _⟩ := h; rfl) | (obtain ⟨_, _, _, _, rfl, _⟩ := h; rfl) | (obtain ⟨_, _, _, _, _, rfl, _⟩ := h; rfl) | (obtain ⟨_, _, _, _, _, _, rfl, _⟩ := h; rfl) | (obtain ⟨_, _, _, _, _, _, _, rfl, _⟩ := h; rfl) | (obtain ⟨_, _, _, _, _, _, _, _, rfl, _⟩ := h; rfl) | (obtain ⟨_, _, _, _, _, _, _, _, _, rfl, _⟩ := h; rfl) | (obtain ⟨_, _, _, _, _, _, _, _, _, _, rfl, _⟩ := h; rfl) | (obtain ⟨_, _, _, _, _, _, _, _, _, _, _, rfl, _⟩ := h; rfl) | (obtain ⟨_, _, _, _, _, _, _, _, _, _, _, _, rfl, _⟩ := h; rfl)
theorem len_table {K : PySem.W.Frag} {vs : List V} {H : Hp} {Q : VK} {E : XK} (h : (spTable K) vs H Q E) : vs.length = 2 := by
  unfold spTable at h
  first | (obtain ⟨_, rfl, _⟩ := h; rfl) | (obtain ⟨_, _, rfl, _⟩ := h; rfl) | (obtain ⟨_, _, _, rfl, _⟩ := h; rfl) | (obtain ⟨_, _, _, _, rfl, _⟩ := h; rfl) | (obtain ⟨_, _, _, _, _, rfl, _⟩ := h; rfl) | (obtain ⟨_, _, _, _, _, _, rfl, _⟩ := h; rfl) | (obtain ⟨_, _, _, _, _, _, _, rfl, _⟩ := h; rfl) | (obtain ⟨_, _, _, _, _, _, _, _, rfl, _⟩ := h; rfl) | (obtain ⟨_, _, _, _, _, _, _, _, _, rfl, _⟩ := h; rfl) | (obtain ⟨_, _, _, _, _, _, _, _, _, _, rfl, _⟩ := h; rfl) | (obtain ⟨_, _, _, _, _, _, _, _, _, _, _, rfl, _⟩ := h; rfl) | (obtain ⟨_, _, _, _, _, _, _, _, _, _, _, _, rfl, _⟩ := h; rfl)
theorem len_place {K : PySem.W.Frag} {vs : List V} {H : Hp} {Q : VK} {E : XK} (h : (spPlace K) vs H Q E) : vs.length = 2 := by
  unfold spPlace at h
  first | (obtain ⟨_, rfl, _⟩ := h; rfl) | (obtain ⟨_, _, rfl, _⟩ := h; rfl) | (obtain ⟨_, _, _, rfl, _⟩ := h; rfl) | (obtain ⟨_, _, _, _, rfl, _⟩ := h; rfl) | (obtain ⟨_, _, _, _, _, rfl, _⟩ := h; rfl) | (obtain ⟨_, _, _, _, _, _, rfl, _⟩ := h; rfl) | (obtain ⟨_, _, _, _, _, _, _, rfl, _⟩ := h; rfl) | (obtain ⟨_, _, _, _, _, _, _, _, rfl, _⟩ := h; rfl) | (obtain ⟨_, _, _, _, _, _, _, _, _, rfl, _⟩ := h; rfl) | (obtain ⟨_, _, _, _, _, _, _, _, _, _, rfl, _⟩ := h; rfl) | (obtain ⟨_, _, _, _, _, _, _, _, _, _, _, rfl, _⟩ := h; rfl) | (obtain ⟨_, _, _, _, _, _, _, _, _, _, _, _, rfl, _⟩ := h; rfl)
theorem len_clash {K : PySem.W.Frag} {vs : List V} {H : Hp} {Q : VK} {E : XK} (h : (spClash K) vs H Q E) : vs.length = 3 := by
  unfold spClash at h
  first | (obtain ⟨_, rfl, _⟩ := h; rfl) | (obtain ⟨_, _, rfl, _⟩ := h; rfl) | (obtain ⟨_, _, _, rfl, _⟩ := h; rfl) | (obtain ⟨_, _, _, _, rfl, _⟩ := h; rfl) | (obtain ⟨_, _, _, _, _, rfl, _⟩ := h; rfl) | (obtain ⟨_, _, _, _, _, _, rfl, _⟩ := h; rfl) | (obtain ⟨_, _, _, _, _, _, _, rfl, _⟩ := h; rfl) | (obtain ⟨_, _, _, _, _, _, _, _, rfl, _⟩ := h; rfl) | (obtain ⟨_, _, _, _, _, _, _, _, _, rfl, _⟩ := h; rfl) | (obtain ⟨_, _, _, _, _, _, _, _, _, _, rfl, _⟩ := h; rfl) | (obtain ⟨_, _, _, _, _, _, _, _, _, _, _, rfl, _⟩ := h; rfl) | (obtain ⟨_, _, _, _, _, _, _, _, _, _, _, _, rfl, _⟩ := h; rfl)
theorem len_due {K : PySem.W.Frag} {vs : List V} {H : Hp} {Q : VK} {E : XK} (h : spDue vs H Q E) : vs.length = 3 := by
  unfold spDue at h
  first | (obtain ⟨_, rfl, _⟩ := h; rfl) | (obtain ⟨_, _, rfl, _⟩ := h; rfl) | (obtain ⟨_, _, _, rfl, _⟩ := h; rfl) | (obtain ⟨_, _, _, _, rfl, _⟩ := h; rfl) | (obtain ⟨_, _, _, _, _, rfl, _⟩ := h; rfl) | (obtain ⟨_, _, _, _, _, _, rfl, _⟩ := h; rfl) | (obtain ⟨_, _, _, _, _, _, _, rfl, _⟩ := h; rfl) | (obtain ⟨_, _, _, _, _, _, _, _, rfl, _⟩ := h; rfl) | (obtain ⟨_, _, _, _, _, _, _, _, _, rfl, _⟩ := h; rfl) | (obtain ⟨_, _, _, _, _, _, _, _, _, _, rfl, _⟩ := h; rfl) | (obtain ⟨_, _, _, _, _, _, _, _, _, _, _, rfl, _⟩ := h; rfl) | (obtain ⟨_, _, _, _, _, _, _, _, _, _, _, _, rfl, _⟩ := h; rfl)
theorem len_good {K : PySem.W.Frag} {vs : List V} {H : Hp} {Q : VK} {E : XK} (h : (spGood K) vs H Q E) : vs.length = 7 := by
  unfold spGood at h
  first | (obtain ⟨_, rfl, _⟩ := h; rfl) | (obtain ⟨_, _, rfl, _⟩ := h; rfl) | (obtain ⟨_, _, _, rfl, _⟩ := h; rfl) | (obtain ⟨_, _, _, _, rfl, _⟩ := h; rfl) | (obtain ⟨_, _, _, _, _, rfl, _⟩ := h; rfl) | (obtain ⟨_, _, _, _, _, _, rfl, _⟩ := h; rfl) | (obtain ⟨_, _, _, _, _, _, _, rfl, _⟩ := h; rfl) | (obtain ⟨_, _, _, _, _, _, _, _, rfl, _⟩ := h; rfl) | (obtain ⟨_, _, _, _, _, _, _, _, _, rfl, _⟩ := h; rfl) | (obtain ⟨_, _, _, _, _, _, _, _, _, _, rfl, _⟩ := h; rfl) | (obtain ⟨_, _, _, _, _, _, _, _, _, _, _, rfl, _⟩ := h; rfl) | (obtain ⟨_, _, _, _, _, _, _, _, _, _, _, _, rfl, _⟩ := h; rfl)
theorem len_spoil {K : PySem.W.Frag} {vs : List V} {H : Hp} {Q : VK} {E : XK} (h : (spSpoil K) vs H Q E) : vs.length = 4 := by
  unfold spSpoil at h
  first | (obtain ⟨_, rfl, _⟩ := h; rfl) | (obtain ⟨_, _, rfl, _⟩ := h; rfl) | (obtain ⟨_, _, _, rfl, _⟩ := h; rfl) | (obtain ⟨_, _, _, _, rfl, _⟩ := h; rfl) | (obtain ⟨_, _, _, _, _, rfl, _⟩ := h; rfl) | (obtain ⟨_, _, _, _, _, _, rfl, _⟩ := h; rfl) | (obtain ⟨_, _, _, _, _, _, _, rfl, _⟩ := h; rfl) | (obtain ⟨_, _, _, _, _, _, _, _, rfl, _⟩ := h; rfl) | (obtain ⟨_, _, _, _, _, _, _, _, _, rfl, _⟩ := h; rfl) | (obtain ⟨_, _, _, _, _, _, _, _, _, _, rfl, _⟩ := h; rfl) | (obtain ⟨_, _, _, _, _, _, _, _, _, _, _, rfl, _⟩ := h; rfl) | (obtain ⟨_, _, _, _, _, _, _, _, _, _, _, _, rfl, _⟩ := h; rfl)
theorem len_firstbad {K : PySem.W.Frag} {vs : List V} {H : Hp} {Q : VK} {E : XK} (h : (spFB K) vs H Q E) : vs.length = 3 := by
  unfold spFB at h
  first | (obtain ⟨_, rfl, _⟩ := h; rfl) | (obtain ⟨_, _, rfl, _⟩ := h; rfl) | (obtain ⟨_, _, _, rfl, _⟩ := h; rfl) | (obtain ⟨_, _, _, _, rfl, _⟩ := h; rfl) | (obtain ⟨_, _, _, _, _, rfl, _⟩ := h; rfl) | (obtain ⟨_, _, _, _, _, _, rfl, _⟩ := h; rfl) | (obtain ⟨_, _, _, _, _, _, _, rfl, _⟩ := h; rfl) | (obtain ⟨_, _, _, _, _, _, _, _, rfl, _⟩ := h; rfl) | (obtain ⟨_, _, _, _, _, _, _, _, _, rfl, _⟩ := h; rfl) | (obtain ⟨_, _, _, _, _, _, _, _, _, _, rfl, _⟩ := h; rfl) | (obtain ⟨_, _, _, _, _, _, _, _, _, _, _, rfl, _⟩ := h; rfl) | (obtain ⟨_, _, _, _, _, _, _, _, _, _, _, _, rfl, _⟩ := h; rfl)
theorem len_refused {K : PySem.W.Frag} {vs : List V} {H : Hp} {Q : VK} {E : XK} (h : (spRef K) vs H Q E) : vs.length = 5 := by
  unfold spRef at h
  first | (obtain ⟨_, rfl, _⟩ := h; rfl) | (obtain ⟨_, _, rfl, _⟩ := h; rfl) | (obtain ⟨_, _, _, rfl, _⟩ := h; rfl) | (obtain ⟨_, _, _, _, rfl, _⟩ := h; rfl) | (obtain ⟨_, _, _, _, _, rfl, _⟩ := h; rfl) | (obtain ⟨_, _, _, _, _, _, rfl, _⟩ := h; rfl) | (obtain ⟨_, _, _, _, _, _, _, rfl, _⟩ := h; rfl) | (obtain ⟨_, _, _, _, _, _, _, _, rfl, _⟩ := h; rfl) | (obtain ⟨_, _, _, _, _, _, _, _, _, rfl, _⟩ := h; rfl) | (obtain ⟨_, _, _, _, _, _, _, _, _, _, rfl, _⟩ := h; rfl) | (obtain ⟨_, _, _, _, _, _, _, _, _, _, _, rfl, _⟩ := h; rfl) | (obtain ⟨_, _, _, _, _, _, _, _, _, _, _, _, rfl, _⟩ := h; rfl)
theorem len_law {K : PySem.W.Frag} {vs : List V} {H : Hp} {Q : VK} {E : XK} (h : (spLaw K) vs H Q E) : vs.length = 1 := by
  unfold spLaw at h
  first | (obtain ⟨_, rfl, _⟩ := h; rfl) | (obtain ⟨_, _, rfl, _⟩ := h; rfl) | (obtain ⟨_, _, _, rfl, _⟩ := h; rfl) | (obtain ⟨_, _, _, _, rfl, _⟩ := h; rfl) | (obtain ⟨_, _, _, _, _, rfl, _⟩ := h; rfl) | (obtain ⟨_, _, _, _, _, _, rfl, _⟩ := h; rfl) | (obtain ⟨_, _, _, _, _, _, _, rfl, _⟩ := h; rfl) | (obtain ⟨_, _, _, _, _, _, _, _, rfl, _⟩ := h; rfl) | (obtain ⟨_, _, _, _, _, _, _, _, _, rfl, _⟩ := h; rfl) | (obtain ⟨_, _, _, _, _, _, _, _, _, _, rfl, _⟩ := h; rfl) | (obtain ⟨_, _, _, _, _, _, _, _, _, _, _, rfl, _⟩ := h; rfl) | (obtain ⟨_, _, _, _, _, _, _, _, _, _, _, _, rfl, _⟩ := h; rfl)
end K87

set_option maxHeartbeats 4000000
namespace K87
open PySem PySem.Spec PyProof.Rows L2 He
local macro_rules | `(tactic| walk_at "fd") => `(tactic| first | assumption | exact SqL.of (by assumption) | exact SqT.of (by assumption) | exact SqL.of upd_same | exact SqT.of upd_same)
local macro_rules | `(tactic| walk_at "pur") => `(tactic| (intros; (repeat walk_at "w"); first | assumption | (rename_i q; exact q)))
local macro_rules | `(tactic| walk_at "c") => `(tactic| first
  | (with_reducible refine w_asg ?_) | ((with_reducible refine w_name ?_); dsimp only [List.set_cons_zero, List.set_cons_succ]) | (with_reducible refine w_ret ?_) | (with_reducible refine w_retN ?_)
  | (with_reducible refine w_drop ?_) | (with_reducible refine w_if ?_) | (with_reducible refine w_next ?_) | (with_reducible refine w_brk ?_) | (with_reducible refine w_cont ?_)
  | ((with_reducible refine' w_var ?hv ?_); (case hv => rfl)) | (with_reducible refine w_c ?_) | (with_reducible refine w_op ?_) | (with_reducible refine w_cb ?_) | (with_reducible refine w_cons ?_) | (with_reducible refine w_nil ?_)
  | (with_reducible refine w_add ?_) | (with_reducible refine w_sub ?_) | (with_reducible refine w_lt ?_) | (with_reducible refine w_le ?_) | (with_reducible refine w_gt ?_) | (with_reducible refine w_ge ?_)
  | (with_reducible refine w_isN ?_) | (with_reducible refine w_notN ?_) | ((with_reducible refine' w_slXR ?h1 ?h2 ?_); (case h1 => omega); (case h2 => omega)) | ((with_reducible refine' w_slXL ?h1 ?h2 ?_); (case h1 => omega); (case h2 => omega)) | (with_reducible refine w_eqI ?_) | (with_reducible refine w_neI ?_) | (with_reducible refine w_int1 ?_) | (with_reducible refine w_abs ?_) | (with_reducible refine w_max2 ?_) | (with_reducible refine w_min2 ?_)
  | (with_reducible refine w_test ?_) | (with_reducible refine w_b ?_) | (with_reducible refine w_bl ?_) | (with_reducible refine w_in ?_)
  | ((with_reducible refine' w_and2 ?h1 ?h2 ?_); (case h1 => walk_at "pur"); (case h2 => walk_at "pur")) | ((with_reducible refine' w_or2 ?h1 ?h2 ?_); (case h1 => walk_at "pur"); (case h2 => walk_at "pur"))
  | ((with_reducible refine' w_andV2 ?h1 ?h2 ?_); (case h1 => walk_at "pur"); (case h2 => walk_at "pur")) | ((with_reducible refine' w_orV2 ?h1 ?h2 ?_); (case h1 => walk_at "pur"); (case h2 => walk_at "pur"))
  | (with_reducible refine w_and ?_) | (with_reducible refine w_or ?_) | (with_reducible refine w_not ?_)
  | (with_reducible refine w_andV ?_) | (with_reducible refine w_orV ?_) | (with_reducible refine w_notV ?_) | (with_reducible refine w_ifE ?_) | (with_reducible refine w_gsub ?_)
  | (with_reducible refine w_sl ?_) | (with_reducible refine w_pt ?_) | (with_reducible refine w_npt ?_) | (with_reducible refine w_tup ?_) | (with_reducible refine w_lst ?_)
  | ((with_reducible refine' w_new ?h1 ?_); (case h1 => exact Nat.le_of_ble_eq_true rfl)) | (with_reducible refine w_yes ?_) | ((with_reducible refine' w_ixX0 ?h1 ?h2 ?_); (case h1 => omega); (case h2 => assumption)) | ((with_reducible refine' w_ixX1 ?h1 ?h2 ?_); (case h1 => omega); (case h2 => assumption)) | ((with_reducible refine' w_ixXn ?h1 ?h2 ?_); (case h1 => omega); (case h2 => assumption)) | ((with_reducible refine' w_ixXz ?h1 ?h2 ?_); (case h1 => omega); (case h2 => assumption)) | ((with_reducible refine' w_listL ?h1 ?_); (case h1 => walk_at "fd")) | (with_reducible refine w_ite1 ?_) | ((with_reducible refine' w_if0 ?h1 ?_); (case h1 => simp only [Bool.or_false, Bool.or_true, Bool.true_or, Bool.or_self, Bool.and_self, Bool.and_true, Bool.and_false, Bool.false_and, Option.isSome_none, Option.isSome_some, Bool.not_false, Bool.not_true, Option.map_some, Option.map_none]; done)) | ((with_reducible refine' w_if1 ?h1 ?_); (case h1 => simp only [Bool.or_false, Bool.or_true, Bool.true_or, Bool.or_self, Bool.and_self, Bool.and_true, Bool.and_false, Bool.false_and, Option.isSome_none, Option.isSome_some, Bool.not_false, Bool.not_true, Option.map_some, Option.map_none]; done))
  | ((with_reducible refine' w_addX ?h1 ?_); (case h1 => first | (simp only [List.length_append, List.length_cons, List.length_nil, List.length_take, List.length_drop]; omega) | omega)) | ((with_reducible refine' w_lenX ?h1 ?_); (case h1 => omega)) | (with_reducible refine w_eqX ?_) | (with_reducible refine w_neX ?_) | (with_reducible refine w_inX ?_) | (with_reducible refine w_ninX ?_) | (with_reducible refine w_leX ?_)
  | (with_reducible refine w_for ?_) | (with_reducible refine w_iL ?_) | (with_reducible refine w_iS ?_) | (with_reducible refine w_iR1 ?_) | (with_reducible refine w_iE ?_) | (with_reducible refine w_iEs ?_) | (with_reducible refine w_ref ?_) | (with_reducible refine w_str ?_) | (with_reducible refine w_str1 ?_) | (with_reducible refine w_int1v ?_)
  | (with_reducible refine w_bm ?_) | ((with_reducible refine' w_tyL ?h1 ?_); (case h1 => walk_at "fd")) | (with_reducible refine w_tfld ?_) | (with_reducible refine w_sfld ?_) | ((with_reducible refine' w_fldE ?h1 ?h2 ?h3 ?h4 ?_); (case h1 => first | assumption | exact upd_same); (case h2 => assumption); (case h3 => assumption); (case h4 => rfl)) | (with_reducible refine w_rx ?_) | (with_reducible refine w_rz ?_) | (with_reducible refine w_dnew ?_) | (with_reducible refine w_gcons ?_) | (with_reducible refine w_gnil ?_) | ((with_reducible refine' w_gtup ?h1 ?h2 ?_); (case h1 => walk_at "fd"); (case h2 => rfl)) | (with_reducible refine w_lc ?_) | (with_reducible refine w_call ?_) | (with_reducible refine w_dget ?_) | (with_reducible refine w_din ?_) | (with_reducible refine w_dnin ?_) | (with_reducible refine w_dput ?_)
  | ((with_reducible refine' w_ixL ?h1 ?h2 ?_); (case h1 => walk_at "fd"); (case h2 => rfl))
  | ((with_reducible refine' w_ixT ?h1 ?h2 ?_); (case h1 => walk_at "fd"); (case h2 => rfl))
  | ((with_reducible refine' w_mod ?hc ?_); (case hc => first | omega | decide)) | ((with_reducible refine' w_div ?hc ?_); (case hc => exact ⟨by omega, by omega⟩)) | ((with_reducible refine' w_pow ?hc ?_); (case hc => exact ⟨by decide, by decide, by decide⟩))
  | ((with_reducible refine' w_mul ?hc ?_); (case hc => first | exact Or.inl ⟨by omega, by omega⟩ | exact Or.inr ⟨by omega, by omega⟩))
  | ((with_reducible refine' w_lenM ?h1 ?_); (case h1 => walk_at "fd")) | ((with_reducible refine' w_lenL ?h1 ?_); (case h1 => walk_at "fd"))
  | (with_reducible refine w_eqS ?_) | (with_reducible refine w_neS ?_)
  | ((with_reducible refine' w_lenT ?h1 ?_); (case h1 => walk_at "fd"))
  | ((with_reducible refine' w_setL ?h1 ?h2 ?_); (case h1 => first | assumption | exact upd_same); (case h2 => rfl); dsimp only [Int.reduceToNat, List.set_cons_zero, List.set_cons_succ]))
local macro_rules | `(tactic| walk_at "w") => `(tactic| first | (with_reducible refine w_seq ?_) | walk_at "c")
local macro_rules | `(tactic| walk_at "i") => `(tactic| first | ((refine' w_if0 ?h1 ?_); (case h1 => first | assumption | (simp; done) | (simp; omega))) | ((refine' w_if1 ?h1 ?_); (case h1 => first | assumption | (simp; done) | (simp; omega))))
local macro_rules | `(tactic| walk_at "z") => `(tactic| first | walk_at "w" | walk_at "i")
local macro_rules | `(tactic| walk_at "y") => `(tactic| first | walk_at "c" | walk_at "i")
section
variable {K : PySem.W.Frag} {mg : Str → Option Value}
theorem pure_view_at (T : Tx K mg) (vs : List V) (H : Hp) (Q : VK) (E : XK) (h : spView vs H Q E) : t_view_at K { nx := fun _ H' => Q .non H', rt := Q } (start N_view_at vs) H := by
  obtain ⟨w, i, k, rfl, hw, q⟩ := h
  rw [start_view_at]
  unfold t_view_at
  repeat walk_at "w"
  refine w_slX (by omega) (by split <;> omega) (by omega) ?_
  have e1 : (if ((i : Int) - k + 1) > 0 then ((i : Int) - k + 1) else 0).toNat = i + 1 - k := by split <;> omega
  have e2 : ((i : Int) + 1).toNat = i + 1 := by omega
  rw [e1, e2]
  exact q
theorem pure_lview (T : Tx K mg) (vs : List V) (H : Hp) (Q : VK) (E : XK) (h : spView vs H Q E) : t_lview K { nx := fun _ H' => Q .non H', rt := Q } (start N_lview vs) H := by
  obtain ⟨w, i, k, rfl, hw, q⟩ := h
  rw [start_lview]
  unfold t_lview
  repeat walk_at "w"
  refine w_slX (by omega) (by split <;> omega) (by omega) ?_
  have e1 : (if ((i : Int) - k + 1) > 0 then ((i : Int) - k + 1) else 0).toNat = i + 1 - k := by split <;> omega
  have e2 : ((i : Int) + 1).toNat = i + 1 := by omega
  rw [e1, e2]
  exact q
theorem small_tx : ("abcdefghijklmnopqrstuvwxyz" : Str) = tx (List.range' 97 26) := by decide +kernel
theorem empty_tx : ("" : Str) = tx [] := by decide +kernel
theorem pure_check_letters (T : Tx K mg) (vs : List V) (H : Hp) (Q : VK) (E : XK) (h : spCL vs H Q E) : t_check_letters K E { nx := fun _ H' => Q .non H', rt := Q } (start N_check_letters vs) H := by
  obtain ⟨L, rfl, ⟨g1, g2, g3, g4⟩, q⟩ := h
  rw [start_check_letters]
  unfold t_check_letters
  rw [small_tx, empty_tx]
  repeat walk_at "w"
  refine w_iteB (fun hA => ?_) (fun _ => ?_)
  · simp at hA
    omega
  repeat walk_at "w"
  refine forX (fun i σ H' => H' = H ∧ ∃ (b : List Nat) (v : Option V), σ = [some (.str (tx L)), some (.str (tx b)), v] ∧ ∀ c, L[i]? = some c → b < [c]) ⟨rfl, [], none, rfl, fun c _ => by simp⟩ (fun i c σ H' hc p => ?_) (fun σ H' p => ?_)
  · obtain ⟨rfl, b, v, rfl, hb⟩ := p
    repeat walk_at "w"
    refine w_iteB (fun hA => ?_) (fun _ => ?_)
    · have h1 := g3 c (List.mem_of_getElem? hc)
      have h2 := hb c hc
      simp [h2] at hA
      omega
    repeat walk_at "w"
    refine ⟨rfl, [c], _, rfl, fun c' hc' => ?_⟩
    have h3 := g4 i c c' hc hc'
    exact List.cons_lt_cons_iff.mpr (.inl h3)
  · obtain ⟨rfl, _⟩ := p
    exact q
theorem pure_check_word (T : Tx K mg) (vs : List V) (H : Hp) (Q : VK) (E : XK) (h : spCW K vs H Q E) : t_check_word K E { nx := fun _ H' => Q .non H', rt := Q } (start N_check_word vs) H := by
  obtain ⟨L, w, rfl, hL, hw, kq, ke⟩ := h
  rw [start_check_word]
  unfold t_check_word
  repeat walk_at "w"
  refine forEX (fun i σ H' => Same H H' ∧ (∃ v1 v2 : Option V, σ = [some (.str (tx L)), some (.str (tx w)), v1, v2]) ∧ ∀ j c, j < i → w[j]? = some c → c ∈ L) ⟨Same.refl H, ⟨none, none, rfl⟩, fun j c hj => absurd hj (Nat.not_lt_zero _)⟩ (fun i c σ H' p hc P hp => ?_) (fun σ H' P => ?_)
  · obtain ⟨s1, ⟨v1, v2, rfl⟩, hin⟩ := P
    repeat walk_at "w"
    refine w_iteDN (fun hn => ?_) (fun hi => ?_)
    · refine w_rx ?_
      repeat walk_at "w"
      refine ⟨rfl, fun d hd => ?_⟩
      exact ke i ⟨⟨c, hc, hn⟩, hin⟩ _ d ((s1.trans (Same.new hp)).trans (Same.new hd)) upd_same
    · repeat walk_at "w"
      refine ⟨s1.trans (Same.new hp), ⟨_, _, rfl⟩, fun j c' hj hc' => ?_⟩
      by_cases e : j = i
      · subst e
        rw [hc] at hc'
        cases hc'
        exact hi
      · exact hin j c' (by omega) hc'
  · obtain ⟨s1, _, hin⟩ := P
    refine kq (fun c hc => ?_) H' s1
    obtain ⟨j, hj⟩ := List.mem_iff_getElem?.mp hc
    exact hin j c (List.getElem?_eq_some_iff.mp hj).1 hj
theorem pure_integer (T : Tx K mg) (vs : List V) (H : Hp) (Q : VK) (E : XK) (h : spInt vs H Q E) : t_integer K { nx := fun _ H' => Q .non H', rt := Q } (start N_integer vs) H := by
  obtain ⟨i, rfl, q⟩ := h
  rw [start_integer]
  unfold t_integer
  refine w_ret (w_andV2 (b := true) (c := true) (fun Q q => ?_) (fun _ Q q => ?_) q)
  · repeat walk_at "w"
    exact ⟨_, _, _, _, true, rfl, .ty _, .base (.int i), kit_ty (by decide +kernel), q⟩
  · repeat walk_at "w"
    exact ⟨_, _, _, _, false, rfl, .ty _, .base (.int i), kit_ty (by decide +kernel), false, rfl, q⟩
theorem pure_word (T : Tx K mg) (vs : List V) (H : Hp) (Q : VK) (E : XK) (h : spWord vs H Q E) : t_word K { nx := fun _ H' => Q .non H', rt := Q } (start N_word vs) H := by
  obtain ⟨st, L, n, rfl, hst, hL, hL2, hn0, hn1, k⟩ := h
  have hl : 0 < L.length := by
    cases L with
    | nil => exact absurd rfl hL
    | cons a r => simp
  rw [start_word]
  unfold t_word
  rw [empty_tx]
  repeat walk_at "w"
  refine ⟨by omega, by omega, ?_⟩
  refine forR (fun i σ H' => ∃ (w : List Nat) (v : Option V), σ = [some (.ref st), some (.str (tx L)), some (.int n), some (.str (tx w)), v] ∧ w.length = i ∧ AllIn L w ∧ L2.Fr [st] H H' ∧ StAt H' st) ⟨[], none, rfl, rfl, fun c hc => by simp at hc, Fr.refl _ _, hst⟩ (fun i σ H' hi p => ?_) (fun σ H' p => ?_)
  · obtain ⟨w, v, rfl, hw, hin, fr, s1⟩ := p
    repeat walk_at "w"
    refine ⟨st, (L.length : Int), rfl, by omega, by omega, s1, fun r H2 r0 r1 f2 s2 => ?_⟩
    obtain ⟨j, rfl⟩ := Int.eq_ofNat_of_zero_le r0
    have hj : j < L.length := by omega
    refine w_ixX (by omega) j rfl (List.getElem?_eq_getElem hj) ?_
    repeat walk_at "w"
    refine ⟨w ++ [L[j]], _, rfl, by rw [List.length_append, hw]; rfl, fun c hc => ?_, fr.trans f2, s2⟩
    rcases List.mem_append.mp hc with hc | hc
    · exact hin c hc
    · rw [List.mem_singleton.mp hc]
      exact List.getElem_mem hj
  · obtain ⟨w, v, rfl, hw, hin, fr, s1⟩ := p
    repeat walk_at "w"
    exact k w H' hw hin fr s1
theorem pure_image (T : Tx K mg) (vs : List V) (H : Hp) (Q : VK) (E : XK) (h : spImage vs H Q E) : t_image K { nx := fun _ H' => Q .non H', rt := Q } (start N_image vs) H := by
  obtain ⟨st, kd, w, I, k, kvs, rfl, hst, hkd, hkl, hk, hw, hI, hI2, okI, fin⟩ := h
  have hl : 0 < I.length := by
    cases I with
    | nil => exact absurd rfl hI
    | cons a r => simp
  have nsk : st ≠ kd := by
    obtain ⟨c, cells, p, t, d, h1, _⟩ := hst
    exact ne_of h1 hkd (by intro z; cases z)
  rw [start_image]
  unfold t_image
  rw [empty_tx]
  repeat walk_at "w"
  refine ⟨by omega, by omega, ?_⟩
  refine forR (fun i σ H' => ∃ (m : List Nat) (kvs' : List (Key × V)) (v1 v2 : Option V), σ = [some (.ref st), some (.ref kd), some (.str (tx w)), some (.str (tx I)), some (.int (k : Nat)), some (.str (tx m)), v1, v2] ∧ (m.length = i ∧ OkT m) ∧ L2.Fr [st, kd] H H' ∧ StAt H' st ∧ H' kd = some (.dK kvs') ∧ kvs'.length ≤ kvs.length + i ∧ KnOk kvs')
    ⟨[], kvs, none, none, rfl, ⟨rfl, fun c z => by cases z⟩, Fr.refl _ _, hst, hkd, Nat.le_refl _, hk⟩ (fun i σ H' hi p => ?_) (fun σ H' p => ?_)
  · have hi' : i < w.length := by omega
    obtain ⟨m, kvs', v1, v2, rfl, ⟨hm, hok⟩, fr, s1, hd, hkl', hk'⟩ := p
    repeat walk_at "w"
    refine ⟨w, i, k, by rw [Int.zero_add]; rfl, hw, ?_⟩
    repeat walk_at "w"
    refine ⟨kd, _, rfl, dget_s hd, w_bl ?_⟩
    -- the turn's end: the view is known in H2
    have go : ∀ (H2 : Hp) (kvs2 : List (Key × V)), L2.Fr [st, kd] H H2 → StAt H2 st → H2 kd = some (.dK kvs2) → kvs2.length ≤ kvs.length + (i + 1) → KnOk kvs2 → (valV kvs2 (Sum.inr (tx (view w i k)))).isSome = true →
        tAsg (tOp xAddS (tVar 5) (tDGet (tVar 1) (tVar 7))) (gName 5) ⟨fun σ H' => ∃ (m : List Nat) (kvs' : List (Key × V)) (v1 v2 : Option V), σ = [some (.ref st), some (.ref kd), some (.str (tx w)), some (.str (tx I)), some (.int (k : Nat)), some (.str (tx m)), v1, v2] ∧ (m.length = i + 1 ∧ OkT m) ∧ L2.Fr [st, kd] H H' ∧ StAt H' st ∧ H' kd = some (.dK kvs') ∧ kvs'.length ≤ kvs.length + (i + 1) ∧ KnOk kvs', Q,
          fun σ H => tRet (tVar 5) ⟨fun _ H' => Q .non H', Q, fun _ _ => False, fun _ _ => False⟩ σ H, fun σ H' => ∃ (m : List Nat) (kvs' : List (Key × V)) (v1 v2 : Option V), σ = [some (.ref st), some (.ref kd), some (.str (tx w)), some (.str (tx I)), some (.int (k : Nat)), some (.str (tx m)), v1, v2] ∧ (m.length = i + 1 ∧ OkT m) ∧ L2.Fr [st, kd] H H' ∧ StAt H' st ∧ H' kd = some (.dK kvs') ∧ kvs'.length ≤ kvs.length + (i + 1) ∧ KnOk kvs'⟩
          [some (.ref st), some (.ref kd), some (.str (tx w)), some (.str (tx I)), some (.int (k : Nat)), some (.str (tx m)), some (.int (0 + (i : Int))), some (.str (tx (view w i k)))] H2 := fun H2 kvs2 fr2 s2 hd2 hl2 hk2 hs => by
      obtain ⟨y, hy⟩ := Option.isSome_iff_exists.mp hs
      obtain ⟨c, hcm, rfl⟩ := hk2 _ y hy
      repeat walk_at "w"
      refine ⟨kd, _, rfl, by rw [← hy]; exact dget_s hd2, ?_⟩
      repeat walk_at "w"
      exact ⟨m ++ [c], kvs2, _, _, rfl, ⟨by rw [List.length_append, hm]; rfl, fun x hx => by
        rcases List.mem_append.mp hx with h | h
        · exact hok x h
        · rw [List.mem_singleton.mp h]; exact hcm⟩, fr2, s2, hd2, hl2, hk2⟩
    cases e : valV kvs' (Sum.inr (tx (view w i k))) with
    | some y =>
      refine go H' kvs' fr s1 hd (by omega) hk' (by rw [e]; rfl)
    | none =>
      repeat walk_at "w"
      refine ⟨st, (I.length : Int), rfl, by omega, by omega, s1, fun r H2 r0 r1 f2 s2 => ?_⟩
      obtain ⟨j, rfl⟩ := Int.eq_ofNat_of_zero_le r0
      have hj : j < I.length := by omega
      refine w_ixX (by omega) j rfl (List.getElem?_eq_getElem hj) ?_
      have hd2 : H2 kd = some (.dK kvs') := f2 _ _ (by simpa using nsk.symm) hd
      repeat walk_at "w"
      refine ⟨kd, _, rfl, dput_s hd2 (sz_lt1 (by omega)), ?_⟩
      refine go _ (putK kvs' (Sum.inr (tx (view w i k))) (.str (tx [I[j]]))) ((fr.trans (f2.mono (by simp))).trans (Fr.put (by simp))) ?_ upd_same ?_ ?_ ?_
      · obtain ⟨c, cells, p, t, d, h1, h2, h3⟩ := s2
        exact ⟨c, cells, p, t, d, by rw [upd_ne nsk]; exact h1, by rw [upd_ne (ne_of h2 hd2 (by intro z; cases z))]; exact h2, h3⟩
      · have := length_putK kvs' (Sum.inr (tx (view w i k))) (.str (tx [I[j]]))
        omega
      · intro v y hv
        rw [valV_put] at hv
        split at hv
        · cases hv
          exact ⟨_, okI _ (List.getElem_mem hj), rfl⟩
        · exact hk' v y hv
      · rw [valV_put, if_pos rfl]
        rfl
  · have hz : (w.length : Int).toNat = w.length := by omega
    rw [hz] at p
    obtain ⟨m, kvs', v1, v2, rfl, ⟨hm, hok⟩, fr, s1, hd, hkl', hk'⟩ := p
    repeat walk_at "w"
    exact fin m H' kvs' hm hok fr s1 hd hkl' hk'
theorem pure_due (T : Tx K mg) (vs : List V) (H : Hp) (Q : VK) (E : XK) (h : spDue vs H Q E) : t_due K { nx := fun _ H' => Q .non H', rt := Q } (start N_due vs) H := by
  obtain ⟨td, w, k, es, rfl, htd, hw, q⟩ := h
  rw [start_due]
  unfold t_due
  rw [empty_tx]
  repeat walk_at "w"
  refine ⟨by omega, by omega, ?_⟩
  refine forR (fun i σ H' => H' = H ∧ ∃ (m : List Nat) (v1 v2 : Option V), σ = [some (.ref td), some (.str (tx w)), some (.int (k : Nat)), some (.str (tx m)), v1, v2] ∧ imgOf es k w i = some m ∧ m.length = i)
    ⟨rfl, [], none, none, rfl, rfl, rfl⟩ (fun i σ H' hi p => ?_) (fun σ H' p => ?_)
  · have hi' : i < w.length := by omega
    obtain ⟨rfl, m, v1, v2, rfl, hm, hml⟩ := p
    repeat walk_at "w"
    refine ⟨w, i, k, by rw [Int.zero_add]; rfl, hw, ?_⟩
    repeat walk_at "w"
    refine ⟨td, _, rfl, dget_s htd, w_bl ?_⟩
    rw [tbl_get]
    cases e : lk es (view w i k) with
    | none =>
      repeat walk_at "w"
      rw [imgOf_none hi' e] at q
      exact q
    | some c =>
      repeat walk_at "w"
      refine ⟨td, .str (tx [c]), rfl, ?_, ?_⟩
      · have g := dget_s (k := tx (view w i k)) htd
        rw [tbl_get, e] at g
        exact g
      repeat walk_at "w"
      exact ⟨rfl, m ++ [c], _, _, rfl, by rw [imgOf_succ, hm, Option.bind_some, e]; rfl, by rw [List.length_append, hml]; rfl⟩
  · have hz : (w.length : Int).toNat = w.length := by omega
    rw [hz] at p
    obtain ⟨rfl, m, v1, v2, rfl, hm, hml⟩ := p
    repeat walk_at "w"
    rw [hm] at q
    exact q
theorem pure_place (T : Tx K mg) (vs : List V) (H : Hp) (Q : VK) (E : XK) (h : spPlace K vs H Q E) : t_place K { nx := fun _ H' => Q .non H', rt := Q } (start N_place vs) H := by
  obtain ⟨pp, q, as, ps, n, i, p, rfl, P, Sm, hq, hp, hi, kq⟩ := h
  obtain ⟨a, ha, hpa⟩ := P.get hp
  have hn : n < as.length := (List.getElem?_eq_some_iff.mp ha).1
  have hb := Sm.2 p (List.mem_of_getElem? hp)
  have hlst := P.lst
  rw [start_place]
  unfold t_place
  have isT : ∀ Q : VK, Q (.bl true) H → tCB (rIsi K) (tCons (tVar 1) (tCons (tC (.ty "tuple")) tNil)) [some (V.ref pp), some (.ref q)] H Q := fun Q q => by
    repeat walk_at "w"
    exact ⟨_, _, _, _, true, rfl, .ty _, .base (.tup hq), kit_ty (by decide +kernel), q⟩
  have isI : ∀ (Q : VK) (j : Nat) (z : Int), atI [V.int (n : Nat), V.int (i : Nat)] (j : Int) = some (.int z) → Q (.bl true) H → tCall spInt [] E0 (tCons (tOp (rIxT K) (tVar 1) (tC (.int (j : Nat)))) tNil) [some (V.ref pp), some (.ref q)] H Q := fun Q j z hz q => by
    repeat walk_at "w"
    refine w_ixT (SqT.of hq) hz ?_
    repeat walk_at "w"
    exact ⟨z, rfl, q⟩
  refine w_seq (w_if (w_or2 (b := false) (c := false) (fun Q q => ?_) (fun _ Q q => ?_) ?_))
  · exact w_not (w_b (isT _ (w_bl q)))
  · repeat walk_at "w"
    exact q
  repeat walk_at "w"
  refine ⟨(n : Int), rfl, w_bl ?_⟩
  repeat walk_at "w"
  refine ⟨(i : Int), rfl, w_bl ?_⟩
  repeat walk_at "w"
  refine w_iteB (fun hA => ?_) (fun _ => ?_)
  · simp at hA
    omega
  repeat walk_at "w"
  walk_at "i"
  repeat walk_at "w"
  refine w_ixL (v := .ref a) (SqL.of hlst) (atI_nat (by rw [List.getElem?_map, ha]; rfl)) ?_
  repeat walk_at "w"
  have e : decide ((i : Int) < (p.1.length : Int)) = true := decide_eq_true (by omega)
  rw [e]
  exact kq
theorem cons_snoc {es : List (List Nat × Nat)} {v : List Nat} {c : Nat} (h : Cons es) (hl : ∀ c', (v, c') ∈ es → c' = c) : Cons (es ++ [(v, c)]) := by
  intro e he e' he' q
  rcases List.mem_append.mp he with a | a <;> rcases List.mem_append.mp he' with b | b
  · exact h e a e' b q
  · rw [List.mem_singleton.mp b] at q ⊢
    exact hl e.2 (by rw [← show e.1 = v from q]; exact a)
  · rw [List.mem_singleton.mp a] at q ⊢
    exact (hl e'.2 (by rw [show v = e'.1 from q]; exact b)).symm
  · rw [List.mem_singleton.mp a, List.mem_singleton.mp b]
theorem cons_sub {es fs : List (List Nat × Nat)} (h : Cons fs) (s : ∀ e ∈ es, e ∈ fs) : Cons es := fun e he e' he' q => h e (s e he) e' (s e' he') q
theorem pre_len {k : Nat} {ps : List Pr} {n : Nat} {p : Pr} {i : Nat} (S : Small ps) (h : ps[n]? = some p) (hi : i ≤ p.1.length) : (pre k ps n p i).length ≤ n * 1000 + i ∧ n ≤ 999 ∧ i ≤ 1000 := by
  have hn : n < ps.length := (List.getElem?_eq_some_iff.mp h).1
  have h1 := entries_len k (ps.take n) 1000 (fun q hq => (S.2 q (List.mem_of_mem_take hq)).1)
  have h2 := (S.2 p (List.mem_of_getElem? h)).1
  have h3 := S.1
  unfold pre
  rw [List.length_append, List.length_take]
  rw [List.length_take] at h1
  have h4 : min n ps.length = n := by omega
  rw [h4] at h1
  refine ⟨?_, by omega, by omega⟩
  omega
theorem getD_lt {l : List Nat} {i c : Nat} (h : l[i]? = some c) : l.getD i 0 = c := by rw [List.getD_eq_getElem?_getD, h]; rfl
theorem pure_table (T : Tx K mg) (vs : List V) (H : Hp) (Q : VK) (E : XK) (h : spTable K vs H Q E) : t_table K { nx := fun _ H' => Q .non H', rt := Q } (start N_table vs) H := by
  obtain ⟨pp, as, ps, k, rfl, P, Sm, El, q1, q2⟩ := h
  rw [start_table]
  unfold t_table
  repeat walk_at "w"
  intro d hd
  repeat walk_at "w"
  have hlen := P.len
  refine ⟨⟨_, .inl (.inl (P.same (Same.put (Same.refl H) hd)).lst)⟩, ?_⟩
  refine forL (f := V.ref) (l := as) (fun n σ H' => ∃ v1 v2 v3, σ = [some (.ref pp), some (.int (k : Nat)), some (.ref d), v1, v2, v3] ∧ Same H H' ∧ H' d = some (.dK (tbl (entries k (ps.take n)))) ∧ Cons (entries k (ps.take n)))
    ⟨none, none, none, rfl, Same.put (Same.refl H) hd, upd_same, fun _ z => by simp [entries] at z⟩ (fun i σ H' p => ?_) (fun n a σ H' ha p => ?_) (fun σ H' p => ?_)
  · obtain ⟨v1, v2, v3, rfl, sm, _⟩ := p
    exact SqL.of (P.same sm).lst
  · obtain ⟨v1, v2, v3, rfl, sm, hd1, hc⟩ := p
    obtain ⟨p, hp, hap⟩ := P.at_ n a ha
    have hpm := List.mem_of_getElem? hp
    have hb := Sm.2 p hpm
    have el := El p hpm
    have hap' := sm _ _ hap
    repeat walk_at "w"
    refine ⟨by omega, by omega, ?_⟩
    refine forR (fun i σ H' => ∃ v2 v3, σ = [some (.ref pp), some (.int (k : Nat)), some (.ref d), some (.ref a), v2, v3] ∧ Same H H' ∧ H' d = some (.dK (tbl (pre k ps n p i))) ∧ Cons (pre k ps n p i))
      ⟨_, _, rfl, sm, by rw [pre_zero]; exact hd1, by rw [pre_zero]; exact hc⟩ (fun i σ H2 hi w => ?_) (fun σ H2 w => ?_)
    · have hi' : i < p.1.length := by omega
      obtain ⟨v2, v3, rfl, sm2, hd2, hc2⟩ := w
      have hap2 := sm2 _ _ hap
      have hcp : p.2[i]? = some p.2[i] := List.getElem?_eq_getElem (by omega)
      repeat walk_at "w"
      refine ⟨p.1, i, k, by rw [Int.zero_add]; rfl, hb.1, ?_⟩
      repeat walk_at "w"
      refine ⟨d, _, rfl, dget_s hd2, w_bl ?_⟩
      rw [tbl_get]
      have put : (∀ c', (view p.1 i k, c') ∈ pre k ps n p i → c' = p.2[i]) → sDPut (tVar 2) (tVar 5) (tOp rIxS (tOp (rIxT K) (tVar 3) (tC (.int 1))) (tVar 4))
          ⟨fun σ H' => ∃ v2 v3, σ = [some (.ref pp), some (.int (k : Nat)), some (.ref d), some (.ref a), v2, v3] ∧ Same H H' ∧ H' d = some (.dK (tbl (pre k ps n p (i + 1)))) ∧ Cons (pre k ps n p (i + 1)), Q, fun _ _ => True, fun _ _ => True⟩
          [some (.ref pp), some (.int (k : Nat)), some (.ref d), some (.ref a), some (.int (0 + (i : Int))), some (.str (tx (view p.1 i k)))] H2 := fun hu => by
        repeat walk_at "w"
        have hle := pre_len (k := k) Sm hp (Nat.le_of_lt hi')
        have hle2 := tbl_len (pre k ps n p i)
        refine w_dpS hd2 (by omega) ⟨_, _, rfl, Same.put sm2 hd, ?_, ?_⟩
        · rw [upd_same, pre_succ hi', tbl_snoc, getD_lt hcp]
          rfl
        · rw [pre_succ hi', getD_lt hcp]
          exact cons_snoc hc2 hu
      cases e : lk (pre k ps n p i) (view p.1 i k) with
      | none =>
        exact put fun c' hm => absurd hm (lk_none e c')
      | some c =>
        repeat walk_at "w"
        refine w_dgS (v := .str (tx [c])) hd2 (by rw [tbl_get, e]; rfl) ?_
        repeat walk_at "w"
        refine w_iteDN (fun hne => ?_) (fun heq => ?_)
        · repeat walk_at "w"
          refine q2 (fun hcc => ?_) _ sm2
          have m1 := pre_sub hp _ (lk_mem e)
          have m2 : (view p.1 i k, p.2[i]) ∈ entries k ps := mem_entries.mpr ⟨n, p, i, hp, hi', by rw [getD_lt hcp]⟩
          exact hne (by rw [show c = p.2[i] from hcc _ m1 _ m2 rfl])
        · have ce : c = p.2[i] := by simpa using heq
          refine put fun c' hm => ?_
          rw [← ce]
          exact hc2 _ hm _ (lk_mem e) rfl
    · have hz : (p.1.length : Int).toNat = p.1.length := by omega
      rw [hz, pre_end hp] at w
      obtain ⟨v2, v3, rfl, sm2, hd2, hc2⟩ := w
      exact ⟨_, _, _, rfl, sm2, hd2, hc2⟩
  · obtain ⟨v1, v2, v3, rfl, sm, hd1, hc⟩ := p
    have ht : ps.take as.length = ps := List.take_of_length_le (by omega)
    rw [ht] at hd1 hc
    repeat walk_at "w"
    exact q1 hc _ _ sm hd1 hd
theorem pure_clash (T : Tx K mg) (vs : List V) (H : Hp) (Q : VK) (E : XK) (h : spClash K vs H Q E) : t_clash K { nx := fun _ H' => Q .non H', rt := Q } (start N_clash vs) H := by
  obtain ⟨pp, an, p1, p2, x, as, ps, k, a, b, rfl, P, Sm, han, h1, h2, ⟨v, c, c', ⟨p, hp, hi, hv, hc⟩, ⟨q, hq, hj, hv', hc'⟩, ne⟩, kq⟩ := h
  obtain ⟨a1, ha1, hpa1⟩ := P.get hp
  obtain ⟨a2, ha2, hpa2⟩ := P.get hq
  have hb1 := Sm.2 p (List.mem_of_getElem? hp)
  have hb2 := Sm.2 q (List.mem_of_getElem? hq)
  have hlst := P.lst
  have l1 : atI (as.map V.ref) (a.1 : Int) = some (.ref a1) := atI_nat (by rw [List.getElem?_map, ha1]; rfl)
  have l2 : atI (as.map V.ref) (b.1 : Int) = some (.ref a2) := atI_nat (by rw [List.getElem?_map, ha2]; rfl)
  rw [start_clash]
  unfold t_clash
  repeat walk_at "w"
  walk_at "i"
  repeat walk_at "w"
  refine ⟨pp, p1, as, ps, a.1, a.2, p, rfl, P, Sm, h1, hp, hi, w_bl ?_⟩
  repeat walk_at "w"
  refine ⟨pp, p2, as, ps, b.1, b.2, q, rfl, P, Sm, h2, hq, hj, w_bl ?_⟩
  repeat walk_at "w"
  refine w_ixL (SqL.of hlst) l1 ?_
  repeat walk_at "w"
  refine w_ixL (SqL.of hlst) l2 ?_
  repeat walk_at "w"
  refine ⟨p.1, a.2, k, rfl, hb1.1, ?_⟩
  repeat walk_at "w"
  refine ⟨q.1, b.2, k, rfl, hb2.1, ?_⟩
  rw [← hv, ← hv']
  repeat walk_at "w"
  walk_at "i"
  repeat walk_at "w"
  have e : (!decide ([c] = [c'])) = true := by simpa using ne
  rw [e]
  exact kq
theorem pure_tinit (T : Tx K mg) (vs : List V) (H : Hp) (Q : VK) (E : XK) (h : spTI K vs H Q E) : t_tinit K { nx := fun _ H' => Q .non H', rt := Q } (start N_tinit vs) H := by
  obtain ⟨x, dx, d, L, I, k, kvs, rfl, hx, hd, gL, gI, q⟩ := h
  have hc := cls_Turner T
  have n1 := na_Turner_letters T
  have n2 := na_Turner_images T
  have n3 := na_Turner_size T
  have n4 := na_Turner_table T
  have nd : d ≠ x := ne_of hd hx (by intro z; cases z)
  rw [start_tinit]
  unfold t_tinit
  repeat walk_at "w"
  refine ⟨L, rfl, gL, ?_⟩
  repeat walk_at "w"
  refine ⟨I, rfl, gI, ?_⟩
  repeat walk_at "w"
  refine w_sfldE hx hc n1 (Nat.le_of_ble_eq_true rfl) ?_
  repeat walk_at "w"
  refine w_sfldE upd_same hc n2 (Nat.le_of_ble_eq_true rfl) ?_
  repeat walk_at "w"
  refine w_sfldE upd_same hc n3 (Nat.le_of_ble_eq_true rfl) ?_
  repeat walk_at "w"
  refine w_dictD (by rw [upd_ne nd, upd_ne nd, upd_ne nd]; exact hd) fun l hl => ?_
  have nx : l ≠ x := fun z => by rw [z, upd_same] at hl; cases hl
  repeat walk_at "w"
  refine w_sfldE (by rw [upd_ne nx.symm]; exact upd_same) hc n4 (Nat.le_of_ble_eq_true rfl) ?_
  repeat walk_at "w"
  refine q _ l upd_same ?_ ?_ ?_
  · rw [upd_ne nx, upd_same]
  · rw [upd_ne nx, upd_ne nx, upd_ne nx] at hl
    exact hl
  · intro b o hb h
    have nl : b ≠ l := ne_of_none (by rw [upd_ne hb, upd_ne hb, upd_ne hb]; exact h) hl
    rw [upd_ne hb, upd_ne nl, upd_ne hb, upd_ne hb, upd_ne hb]
    exact h
theorem pure_tcall (T : Tx K mg) (vs : List V) (H : Hp) (Q : VK) (E : XK) (h : spTC K vs H Q E) : t_tcall K { nx := fun _ H' => Q .non H', rt := Q } (start N_tcall vs) H := by
  obtain ⟨t, dx, d, L, I, w, k, es, rfl, ht, hd, hL, hw, hin, q⟩ := h
  have hc := cls_Turner T
  have n1 := na_Turner_letters T
  have n3 := na_Turner_size T
  have n4 := na_Turner_table T
  rw [start_tcall]
  unfold t_tcall
  rw [empty_tx]
  repeat walk_at "w"
  refine ⟨L, w, rfl, hL, hw, fun _ H1 s1 => ?_, fun i hb => absurd hin (badAt_in hb)⟩
  have ht1 := s1 _ _ ht
  have hd1 := s1 _ _ hd
  repeat walk_at "w"
  refine ⟨by omega, by omega, ?_⟩
  refine forR (fun i σ H' => H' = H1 ∧ ∃ (m : List Nat) (v1 v2 : Option V), σ = [some (.ref t), some (.str (tx w)), some (.str (tx m)), v1, v2] ∧ imgOf es k w i = some m ∧ m.length = i)
    ⟨rfl, [], none, none, rfl, rfl, rfl⟩ (fun i σ H' hi p => ?_) (fun σ H' p => ?_)
  · have hi' : i < w.length := by omega
    obtain ⟨rfl, m, v1, v2, rfl, hm, hml⟩ := p
    repeat walk_at "w"
    refine ⟨w, i, k, by rw [Int.zero_add]; rfl, hw, ?_⟩
    repeat walk_at "w"
    refine ⟨d, _, rfl, dget_s hd1, w_bl ?_⟩
    rw [tbl_get]
    cases e : lk es (view w i k) with
    | none =>
      repeat walk_at "w"
      rw [imgOf_none hi' e] at q
      exact q _ s1
    | some c =>
      repeat walk_at "w"
      refine w_dgS (v := .str (tx [c])) hd1 (by rw [tbl_get, e]; rfl) ?_
      repeat walk_at "w"
      exact ⟨rfl, m ++ [c], _, _, rfl, by rw [imgOf_succ, hm, Option.bind_some, e]; rfl, by rw [List.length_append, hml]; rfl⟩
  · have hz : (w.length : Int).toNat = w.length := by omega
    rw [hz] at p
    obtain ⟨rfl, m, v1, v2, rfl, hm, hml⟩ := p
    repeat walk_at "w"
    rw [hm] at q
    exact q _ s1
theorem pure_check_pairs (T : Tx K mg) (vs : List V) (H : Hp) (Q : VK) (E : XK) (h : spCP K vs H Q E) : t_check_pairs K E { nx := fun _ H' => Q .non H', rt := Q } (start N_check_pairs vs) H := by
  obtain ⟨L, I, pp, as, ps, rfl, gL, gI, P, Sm, q1, q2⟩ := h
  have hlen := P.len
  have gL2 := gL.2.1
  have gI2 := gI.2.1
  rw [start_check_pairs]
  unfold t_check_pairs
  repeat walk_at "w"
  refine ⟨L, rfl, gL, ?_⟩
  repeat walk_at "w"
  refine ⟨I, rfl, gI, ?_⟩
  repeat walk_at "w"
  refine ⟨pp, _, rfl, SqL.of P.lst, ?_⟩
  refine forE (f := V.ref) (l := as) (fun n σ H' => ∃ v1 v2, σ = [some (.str (tx L)), some (.str (tx I)), some (.ref pp), v1, v2] ∧ Same H H' ∧ ∀ m q, m < n → ps[m]? = some q → GoodPr L I q)
    ⟨none, none, rfl, Same.refl H, fun _ _ z => absurd z (Nat.not_lt_zero _)⟩ (fun i σ H' p => ?_) (fun n a σ H' p0 ha p hp0 => ?_) (fun σ H' p => ?_)
  · obtain ⟨v1, v2, rfl, sm, _⟩ := p
    exact SqL.of (P.same sm).lst
  · obtain ⟨v1, v2, rfl, sm, hg⟩ := p
    obtain ⟨p, hp, hap⟩ := P.at_ n a ha
    have hpm := List.mem_of_getElem? hp
    have hb := Sm.2 p hpm
    have sm2 : Same H (upd H' p0 (.tup [.int (n : Nat), .ref a])) := sm.trans (Same.new hp0)
    have hap2 := sm2 _ _ hap
    repeat walk_at "w"
    refine ⟨L, p.1, rfl, by omega, hb.1, fun g1 H3 s3 => ?_, fun i hi H3 d s3 hd => q2 (.word p.1 i) ⟨n, p, hp, hg, .inl ⟨rfl, hi⟩⟩ H3 d (sm2.trans s3) hd⟩
    have hap3 := s3 _ _ hap2
    repeat walk_at "w"
    refine ⟨I, p.2, rfl, by omega, hb.2, fun g2 H4 s4 => ?_, fun i hi H4 d s4 hd => q2 (.word p.2 i) ⟨n, p, hp, hg, .inr ⟨rfl, g1, hi⟩⟩ H4 d ((sm2.trans s3).trans s4) hd⟩
    have hap4 := s4 _ _ hap3
    repeat walk_at "w"
    refine w_iteDN (fun hne => ?_) (fun heq => ?_)
    · repeat walk_at "w"
      refine ⟨rfl, fun d hd => ?_⟩
      exact q2 (.text n) ⟨n, p, hp, hg, rfl, g1, g2, by omega⟩ _ d (((sm2.trans s3).trans s4).trans (Same.new hd)) upd_same
    · repeat walk_at "w"
      refine ⟨_, _, rfl, (sm2.trans s3).trans s4, fun m q hm hq => ?_⟩
      by_cases e : m = n
      · subst e
        rw [hp] at hq
        cases hq
        exact ⟨g1, g2, by omega⟩
      · exact hg m q (by omega) hq
  · obtain ⟨v1, v2, rfl, sm, hg⟩ := p
    refine q1 (fun p hp => ?_) _ sm
    obtain ⟨m, hm⟩ := List.mem_iff_getElem?.mp hp
    exact hg m p (by rw [hlen]; exact (List.getElem?_eq_some_iff.mp hm).1) hm
def PlOk (k : Nat) (ps : List Pr) (kvs : List (Key × V)) (H : Hp) (es : List (List Nat × Nat)) : Prop :=
  (∀ v y, valV kvs (Sum.inr (tx v)) = some y → ∃ (t : Addr) (a : Nat × Nat) (c : Nat), y = .ref t ∧ H t = some (.tup [.int (a.1 : Nat), .int (a.2 : Nat)]) ∧ PtV k ps a v c ∧ lk es v = some c) ∧ ∀ v, valV kvs (Sum.inr (tx v)) = none → lk es v = none
theorem PlOk.fr {k : Nat} {ps : List Pr} {kvs : List (Key × V)} {H H' : Hp} {es : List (List Nat × Nat)} (h : PlOk k ps kvs H es) (f : ∀ b xs, H b = some (.tup xs) → H' b = some (.tup xs)) : PlOk k ps kvs H' es :=
  ⟨fun v y hy => let ⟨t, a, c, e, ht, r⟩ := h.1 v y hy; ⟨t, a, c, e, f _ _ ht, r⟩, h.2⟩
theorem PlOk.snoc {k : Nat} {ps : List Pr} {kvs : List (Key × V)} {H : Hp} {es : List (List Nat × Nat)} {v : List Nat} {c : Nat} (h : PlOk k ps kvs H es) (e : lk es v = some c) : PlOk k ps kvs H (es ++ [(v, c)]) := by
  refine ⟨fun u y hy => ?_, fun u hu => ?_⟩
  · obtain ⟨t, a, c', e1, ht, hp, hl⟩ := h.1 u y hy
    refine ⟨t, a, c', e1, ht, hp, ?_⟩
    rw [lk_snoc]
    by_cases z : v = u
    · rw [if_pos z]
      subst z
      rw [← hl, e]
    · rw [if_neg z]
      exact hl
  · rw [lk_snoc, if_neg, h.2 u hu]
    intro z
    subst z
    rw [h.2 _ hu] at e
    cases e
theorem PlOk.put {k : Nat} {ps : List Pr} {kvs : List (Key × V)} {H : Hp} {es : List (List Nat × Nat)} {v : List Nat} {c : Nat} {t : Addr} {a : Nat × Nat} (h : PlOk k ps kvs H es) (ht : H t = some (.tup [.int (a.1 : Nat), .int (a.2 : Nat)])) (hp : PtV k ps a v c) :
    PlOk k ps (putK kvs (Sum.inr (tx v)) (.ref t)) H (es ++ [(v, c)]) := by
  refine ⟨fun u y hy => ?_, fun u hu => ?_⟩
  · rw [valV_put] at hy
    rw [lk_snoc]
    by_cases z : v = u
    · subst z
      rw [if_pos rfl] at hy ⊢
      cases hy
      exact ⟨t, a, c, rfl, ht, hp, rfl⟩
    · rw [if_neg (fun w => z ((key_iff _ _).mp w).symm)] at hy
      rw [if_neg z]
      exact h.1 u y hy
  · rw [valV_put] at hu
    by_cases z : v = u
    · subst z
      rw [if_pos rfl] at hu
      cases hu
    · rw [if_neg (fun w => z ((key_iff _ _).mp w).symm)] at hu
      rw [lk_snoc, if_neg z]
      exact h.2 u hu
theorem w_dsetd {σ : L2.St} {H : Hp} {Q : VK} {td ty tx : TE} (h : td σ H fun x H1 => ∃ a, x = .ref a ∧ IsD H1 a ∧ ty σ H1 fun y H2 => tx σ H2 fun z H3 => ∃ (kvs : List (Key × V)) (k : Key), H3 a = some (.dK kvs) ∧ y = kV k ∧ kvs.length < sizeLine ∧
  (∀ v, valV kvs k = some v → Q v H3) ∧ (valV kvs k = none → Q z (upd H3 a (.dK (putK kvs k z))))) : tDSetd td ty tx σ H Q := h
theorem pure_first_clash (T : Tx K mg) (vs : List V) (H : Hp) (Q : VK) (E : XK) (h : spFC K vs H Q E) : t_first_clash K { nx := fun _ H' => Q .non H', rt := Q } (start N_first_clash vs) H := by
  obtain ⟨pp, as, ps, k, rfl, P, Sm, El, q1, q2⟩ := h
  have hlen := P.len
  rw [start_first_clash]
  unfold t_first_clash
  repeat walk_at "w"
  intro d hd
  repeat walk_at "w"
  have s0 : Same H (upd H d (.dK [])) := Same.put (Same.refl H) hd
  refine ⟨pp, _, rfl, SqL.of (P.same s0).lst, ?_⟩
  refine forE (f := V.ref) (l := as) (fun n σ H' => ∃ v1 v2 v3 v4 v5 v6 kvs, σ = [some (.ref pp), some (.int (k : Nat)), some (.ref d), v1, v2, v3, v4, v5, v6] ∧ Same H H' ∧ H' d = some (.dK kvs) ∧ kvs.length ≤ n * 1000 ∧ PlOk k ps kvs H' (entries k (ps.take n)) ∧ Cons (entries k (ps.take n)))
    ⟨none, none, none, none, none, none, [], rfl, s0, upd_same, Nat.zero_le _, ⟨(fun v y z => by cases z), (fun v _ => by simp [entries, lk])⟩, fun _ z => by simp [entries] at z⟩ (fun i σ H' p => ?_) (fun n a σ H' p0 ha p hp0 => ?_) (fun σ H' p => ?_)
  · obtain ⟨v1, v2, v3, v4, v5, v6, kvs, rfl, sm, _⟩ := p
    exact SqL.of (P.same sm).lst
  · obtain ⟨v1, v2, v3, v4, v5, v6, kvs, rfl, sm, hd1, hk1, hpl, hc⟩ := p
    obtain ⟨p, hp, hap⟩ := P.at_ n a ha
    have hpm := List.mem_of_getElem? hp
    have hb := Sm.2 p hpm
    have el := El p hpm
    have sn : Same H' (upd H' p0 (.tup [.int (n : Nat), .ref a])) := Same.new hp0
    have sm2 := sm.trans sn
    have hap2 := sm2 _ _ hap
    have hd2 := sn _ _ hd1
    have hpl2 : PlOk k ps kvs _ (entries k (ps.take n)) := hpl.fr fun b xs e => sn b _ e
    have hn999 := (pre_len (k := k) Sm hp (Nat.zero_le _)).2.1
    repeat walk_at "w"
    refine ⟨by omega, by omega, ?_⟩
    refine forR (fun i σ H' => ∃ v2 v5 v6 kvs, σ = [some (.ref pp), some (.int (k : Nat)), some (.ref d), some (.int (n : Nat)), v2, some (.str (tx p.1)), some (.str (tx p.2)), v5, v6] ∧ Same H H' ∧ H' d = some (.dK kvs) ∧ kvs.length ≤ n * 1000 + i ∧ PlOk k ps kvs H' (pre k ps n p i) ∧ Cons (pre k ps n p i))
      ⟨_, _, _, kvs, rfl, sm2, hd2, hk1, by rw [pre_zero]; exact hpl2, by rw [pre_zero]; exact hc⟩ (fun i σ H3 hi w => ?_) (fun σ H3 w => ?_)
    · have hi' : i < p.1.length := by omega
      obtain ⟨v2, v5, v6, kvs, rfl, sm3, hd3, hk3, hpl3, hc3⟩ := w
      have hcp : p.2[i]? = some p.2[i] := List.getElem?_eq_getElem (by omega)
      have ptv : PtV k ps (n, i) (view p.1 i k) p.2[i] := ⟨p, hp, hi', rfl, hcp⟩
      repeat walk_at "w"
      refine ⟨p.1, i, k, by rw [Int.zero_add]; rfl, hb.1, ?_⟩
      repeat walk_at "w"
      refine w_dsetd ?_
      repeat walk_at "w"
      refine ⟨.inl ⟨_, .inl hd3⟩, ?_⟩
      repeat walk_at "w"
      intro t1 ht1
      have sn4 : Same H3 (upd H3 t1 (.tup [.int (n : Nat), .int (0 + (i : Int))])) := Same.new ht1
      have hd4 := sn4 _ _ hd3
      have sm4 := sm3.trans sn4
      have hpl4 := hpl3.fr fun b xs e => sn4 b _ e
      have nt1 : t1 ≠ d := (ne_of_none hd3 ht1).symm
      refine ⟨kvs, Sum.inr (tx (view p.1 i k)), hd4, rfl, sz_lt1 (by omega), fun v hv => ?_, fun hv => ?_⟩
      · obtain ⟨t, a2, c, rfl, ht, ⟨p2, hp2, hj2, hv2, hcc⟩, hlk⟩ := hpl4.1 _ _ hv
        obtain ⟨a3, ha3, hpa3⟩ := P.get hp2
        have hb2 := Sm.2 p2 (List.mem_of_getElem? hp2)
        have hpa4 := sm4 _ _ hpa3
        have hl4 := sm4 _ _ P.lst
        repeat walk_at "w"
        refine w_ixL (SqL.of hl4) (v := .ref a3) (atI_nat (by rw [List.getElem?_map, ha3]; rfl)) ?_
        repeat walk_at "w"
        refine w_iteDN (fun hne => ?_) (fun heq => ?_)
        · repeat walk_at "w"
          intro t2 ht2
          repeat walk_at "w"
          intro t3 ht3
          have n21 : t2 ≠ t := (ne_of_none ht ht2).symm
          have n31 : t3 ≠ t := (ne_of_none (o := .tup [.int (a2.1 : Nat), .int (a2.2 : Nat)]) (by rw [upd_ne n21.symm]; exact ht) ht3).symm
          have n32 : t3 ≠ t2 := (ne_of_none upd_same ht3).symm
          refine q2 a2 (n, i) _ t t2 t3 ⟨view p.1 i k, c, p.2[i], ⟨p2, hp2, hj2, hv2, hcc⟩, ptv, fun z => hne (by rw [z])⟩ ((sm4.trans (Same.new ht2)).trans (Same.new ht3)) ?_ ?_ upd_same
          · rw [upd_ne n31.symm, upd_ne n21.symm]
            exact ht
          · rw [upd_ne n32.symm, upd_same, Int.zero_add]
        · repeat walk_at "w"
          have ce : c = p.2[i] := by simpa using heq
          refine ⟨_, _, _, kvs, rfl, sm4, hd4, by omega, ?_, ?_⟩
          · rw [pre_succ hi', getD_lt hcp, ← ce]
            exact hpl4.snoc hlk
          · rw [pre_succ hi', getD_lt hcp, ← ce]
            exact cons_snoc hc3 fun c' hm => hc3 _ hm _ (lk_mem hlk) rfl
      · have ht : (upd (upd H3 t1 (.tup [.int (n : Nat), .int (0 + (i : Int))])) d (.dK (putK kvs (Sum.inr (tx (view p.1 i k))) (.ref t1)))) t1 = some (.tup [.int (n : Nat), .int (i : Nat)]) := by
          rw [upd_ne nt1, upd_same, Int.zero_add]
        have sm5 : Same H (upd (upd H3 t1 (.tup [.int (n : Nat), .int (0 + (i : Int))])) d (.dK (putK kvs (Sum.inr (tx (view p.1 i k))) (.ref t1)))) := Same.put sm4 hd
        have hap5 := sm5 _ _ hap
        have hl5 := sm5 _ _ P.lst
        have hlk := hpl4.2 _ hv
        repeat walk_at "w"
        refine w_ixL (SqL.of hl5) (v := .ref a) (atI_nat (by rw [List.getElem?_map, ha]; rfl)) ?_
        repeat walk_at "w"
        walk_at "i"
        repeat walk_at "w"
        have lp := length_putK kvs (Sum.inr (tx (view p.1 i k))) (.ref t1)
        refine ⟨_, _, _, _, rfl, sm5, upd_same, by omega, ?_, ?_⟩
        · rw [pre_succ hi', getD_lt hcp]
          refine (hpl4.fr (H' := upd (upd H3 t1 (.tup [.int (n : Nat), .int (0 + (i : Int))])) d (.dK (putK kvs (Sum.inr (tx (view p.1 i k))) (.ref t1)))) fun b xs e => ?_).put (a := (n, i)) ht ptv
          rw [upd_ne (fun z => by rw [z, hd4] at e; cases e)]
          exact e
        · rw [pre_succ hi', getD_lt hcp]
          exact cons_snoc hc3 fun c' hm => absurd hm (lk_none hlk c')
    · have hz : (p.1.length : Int).toNat = p.1.length := by omega
      rw [hz, pre_end hp] at w
      obtain ⟨v2, v5, v6, kvs, rfl, sm3, hd3, hk3, hpl3, hc3⟩ := w
      exact ⟨_, _, _, _, _, _, kvs, rfl, sm3, hd3, by omega, hpl3, hc3⟩
  · obtain ⟨v1, v2, v3, v4, v5, v6, kvs, rfl, sm, hd1, hk1, hpl, hc⟩ := p
    have ht : ps.take as.length = ps := List.take_of_length_le (by omega)
    rw [ht] at hc
    repeat walk_at "w"
    exact q1 hc _ sm
theorem w_make {σ : L2.St} {H : Hp} {Q : VK} {C : Addr} {sp : Sp} {dvs : List V} {E : XK} {t : TA} (h : t σ H fun vs H1 => ∀ x dx, H1 x = none → H1 dx = none → dx ≠ x → sp (.ref x :: (vs ++ dvs)) (upd (upd H1 dx (.own x)) x (.ins C dx [])) (fun v H2 => v = .non ∧ Q (.ref x) H2) E) : tMake C sp dvs E t σ H Q := h
theorem pure_fit_turner (T : Tx K mg) (vs : List V) (H : Hp) (Q : VK) (E : XK) (h : spFit K vs H Q E) : t_fit_turner K E { nx := fun _ H' => Q .non H', rt := Q } (start N_fit_turner vs) H := by
  obtain ⟨L, I, k, pp, as, ps, rfl, gL, gI, P, Sm, q1, q2, q3⟩ := h
  have hlen := P.len
  rw [start_fit_turner]
  unfold t_fit_turner
  repeat walk_at "w"
  refine ⟨L, I, pp, as, ps, rfl, gL, gI, P, Sm, fun nb H1 s1 => ?_, q1⟩
  have El : EqL ps := fun p hp => (nb p hp).2.2
  repeat walk_at "w"
  refine ⟨pp, as, ps, k, rfl, P.same s1, Sm, El, fun hc H2 s2 => ?_, fun a b H2 p1 p2 p cl s2 h1 h2 h => ?_⟩
  · repeat walk_at "w"
    walk_at "i"
    repeat walk_at "w"
    intro d hd
    have hdH : H d = none := (s1.trans s2).free hd
    repeat walk_at "w"
    have sa : Same H (upd H2 d (.dK [])) := Same.put (s1.trans s2) hdH
    refine ⟨⟨_, .inl (.inl (P.same sa).lst)⟩, ?_⟩
    refine forL (f := V.ref) (l := as) (fun n σ H' => ∃ v1 v2 v3 v4, σ = [some (.str (tx L)), some (.str (tx I)), some (.int (k : Nat)), some (.ref pp), v1, some (.ref d), v2, v3, v4] ∧ Same H H' ∧ H' d = some (.dK (tbl (entries k (ps.take n)))))
      ⟨_, none, none, none, rfl, sa, upd_same⟩ (fun i σ H' p => ?_) (fun n a σ H' ha p => ?_) (fun σ H' p => ?_)
    · obtain ⟨v1, v2, v3, v4, rfl, sm, _⟩ := p
      exact SqL.of (P.same sm).lst
    · obtain ⟨v1, v2, v3, v4, rfl, sm, hd1⟩ := p
      obtain ⟨p, hp, hap⟩ := P.at_ n a ha
      have hpm := List.mem_of_getElem? hp
      have hb := Sm.2 p hpm
      have el := El p hpm
      have hap' := sm _ _ hap
      repeat walk_at "w"
      refine ⟨by omega, by omega, ?_⟩
      refine forR (fun i σ H' => ∃ v1 v4, σ = [some (.str (tx L)), some (.str (tx I)), some (.int (k : Nat)), some (.ref pp), v1, some (.ref d), some (.str (tx p.1)), some (.str (tx p.2)), v4] ∧ Same H H' ∧ H' d = some (.dK (tbl (pre k ps n p i))))
        ⟨_, _, rfl, sm, by rw [pre_zero]; exact hd1⟩ (fun i σ H3 hi w => ?_) (fun σ H3 w => ?_)
      · have hi' : i < p.1.length := by omega
        obtain ⟨v1, v4, rfl, sm3, hd3⟩ := w
        have hcp : p.2[i]? = some p.2[i] := List.getElem?_eq_getElem (by omega)
        have hle := pre_len (k := k) Sm hp (Nat.le_of_lt hi')
        have hle2 := tbl_len (pre k ps n p i)
        repeat walk_at "w"
        refine ⟨p.1, i, k, by rw [Int.zero_add]; rfl, hb.1, ?_⟩
        repeat walk_at "w"
        refine w_dpS hd3 (by omega) ⟨_, _, rfl, Same.put sm3 hdH, ?_⟩
        rw [upd_same, pre_succ hi', tbl_snoc, getD_lt hcp]
        rfl
      · have hz : (p.1.length : Int).toNat = p.1.length := by omega
        rw [hz, pre_end hp] at w
        obtain ⟨v1, v4, rfl, sm3, hd3⟩ := w
        exact ⟨_, _, _, _, rfl, sm3, hd3⟩
    · obtain ⟨v1, v2, v3, v4, rfl, sm, hd1⟩ := p
      have ht : ps.take as.length = ps := List.take_of_length_le (by omega)
      rw [ht] at hd1
      repeat walk_at "w"
      refine w_make ?_
      repeat walk_at "w"
      intro x dx hx hdx nx
      have s5 : Same H' (upd (upd H' dx (.own x)) x (.ins (ga K "Turner") dx [])) := (Same.new hdx).trans (Same.new (by rw [upd_ne nx.symm]; exact hx))
      refine ⟨x, dx, d, L, I, k, tbl (entries k ps), rfl, upd_same, s5 _ _ hd1, gL, gI, fun H5 d' h1 h2 h3 h4 => ⟨rfl, ?_⟩⟩
      have hd' : H' d' = none := s5.free h3
      have s6 : Same H H5 := fun b o hb => h4 b o (ne_of_none (sm _ _ hb) hx) (s5 _ _ (sm _ _ hb))
      repeat walk_at "w"
      intro p hp
      exact q2 nb hc _ p x dx d' (s6.trans (Same.new hp)) upd_same (by rw [upd_ne (ne_of_none h1 hp)]; exact h1) (by rw [upd_ne (ne_of_none h2 hp)]; exact h2) (sm.free hd')
  · repeat walk_at "w"
    walk_at "i"
    repeat walk_at "w"
    intro t ht
    exact q3 nb a b _ p1 p2 t cl ((s1.trans s2).trans (Same.new ht)) (by rw [upd_ne (ne_of_none h1 ht)]; exact h1) (by rw [upd_ne (ne_of_none h2 ht)]; exact h2) upd_same
theorem tbl_val {es : List (List Nat × Nat)} {k : Key} {y : V} (h : valV (tbl es) k = some y) : ∃ c, y = .str (tx [c]) := by
  induction es using snoc_ind with
  | h0 => cases h
  | hs l e ih =>
    rw [tbl_snoc] at h
    unfold put1 at h
    rw [valV_put] at h
    split at h
    · cases h
      exact ⟨_, rfl⟩
    · exact ih h
theorem val_of_mem {kvs : List (Key × V)} {k : Key} {v : V} (h : (k, v) ∈ kvs) : ∃ y, valV kvs k = some y := by
  unfold valV
  cases e : kvs.find? fun kv => decide (kv.1 = k) with
  | some p => exact ⟨p.2, rfl⟩
  | none =>
    have := List.find?_eq_none.mp e (k, v) h
    simp at this
theorem w_dgR {H : Hp} {P : V → Prop} {a : Addr} {kvs : List (Key × V)} {k : Key} {v : V} (h : Rd H a (.dK kvs)) (e : valV kvs k = some v) (q : P v) : ∃ b v, V.ref a = .ref b ∧ DGet H b (kV k) (some v) ∧ P v := ⟨a, v, rfl, .inl ⟨kvs, k, h, rfl, e.symm⟩, q⟩
theorem w_dnR {H : Hp} {P : Option V → Prop} {a : Addr} {kvs : List (Key × V)} {k : Key} (h : Rd H a (.dK kvs)) (q : P (valV kvs k)) : ∃ b o, V.ref a = .ref b ∧ DGet H b (kV k) o ∧ P o := ⟨a, _, rfl, .inl ⟨kvs, k, h, rfl, rfl⟩, q⟩
theorem w_lock {t : TS} {N B C' : L2.St → Hp → Prop} {R : VK} {σ : L2.St} {H : Hp} {d : Addr} {u : HO} (h : H d = some u) (m : Mut (some u)) (q : ∀ od, t ⟨fun σ' H' => H' d = some (.frz od u) ∧ N σ' (upd H' d u), fun v H' => H' d = some (.frz od u) ∧ R v (upd H' d u), fun σ' H' => H' d = some (.frz od u) ∧ B σ' (upd H' d u), fun σ' H' => H' d = some (.frz od u) ∧ C' σ' (upd H' d u)⟩ σ (upd H d (.frz od u))) : tLock t ⟨N, R, B, C'⟩ σ H := ⟨d, u, h, m, q⟩
theorem w_keys {td : TE} {σ : L2.St} {H : Hp} {R : It → Hp → Prop} (h : td σ H fun x H1 => ∃ d o, x = .ref d ∧ ((∃ kvs, H1 d = some (.frz o (.dK kvs)) ∧ R (Itk d o kvs) H1) ∨ ∃ kvs, H1 d = some (.frz o (.dT kvs)) ∧ R (Itkt d o kvs) H1)) : iKeys td σ H R := h
theorem upd_id {H : Hp} {a : Addr} {u o : HO} (h : H a = some u) : upd (upd H a o) a u = H := by
  rw [upd_upd]
  funext b
  by_cases e : b = a
  · rw [e, upd_same, h]
  · rw [upd_ne e]
theorem w_co {K : PySem.W.Frag} {C : Addr} {sp : Sp} {tf : TE} {t : TA} {σ : L2.St} {H : Hp} {Q : VK} (h : tf σ H fun y H1 => ∃ a, y = V.ref a ∧ t σ H1 fun vs H2 => (∃ dx fs, H2 a = some (.ins C dx fs)) ∧ sp (V.ref a :: vs) H2 Q E0) : tCO K C sp tf t σ H Q := h
theorem pure_good (T : Tx K mg) (vs : List V) (H : Hp) (Q : VK) (E : XK) (h : spGood K vs H Q E) : t_good K { nx := fun _ H' => Q .non H', rt := Q } (start N_good vs) H := by
  obtain ⟨t, dx, d, td, pp, mo, L, I, k, as, ps, ws, rfl, ht, hd, htd, nd, P, Sm, nb, hc, hL, hmo, hws, q⟩ := h
  have hlen := P.len
  have El : EqL ps := fun p hp => (nb p hp).2.2
  have hcl := cls_Turner T
  have n1 := na_Turner_letters T
  have n2 := na_Turner_images T
  have n3 := na_Turner_size T
  have n4 := na_Turner_table T
  have X := exF T
  have ntd : t ≠ td := ne_of ht htd (by intro z; cases z)
  have hle2 := tbl_len (entries k ps)
  rw [start_good]
  unfold t_good
  repeat walk_at "w"
  refine ⟨_, _, _, _, true, rfl, .own _, .base (.ins ht hcl X.c1 X.c2 X.c3 X.c4), X.c5, w_bl ?_⟩
  repeat walk_at "z"
  refine ⟨_, _, _, _, true, rfl, .ty _, .base (.dK hd), kit_ty (by decide +kernel), w_bl ?_⟩
  repeat walk_at "w"
  refine w_lenD hd ?_
  repeat walk_at "w"
  refine w_lenD htd ?_
  repeat walk_at "z"
  refine w_lock htd trivial fun od => ?_
  repeat walk_at "w"
  refine w_keys ?_
  repeat walk_at "w"
  refine ⟨td, od, rfl, .inl ⟨_, upd_same, ?_⟩⟩
  have htF : (upd H td (.frz od (.dK (tbl (entries k ps))))) t = some (.ins (ga K "Turner") dx (tf L I k d)) := by rw [upd_ne ntd]; exact ht
  have hdF : (upd H td (.frz od (.dK (tbl (entries k ps))))) d = some (.dK (tbl (entries k ps))) := by rw [upd_ne nd]; exact hd
  refine forK (fun i σ H' => H' = upd H td (.frz od (.dK (tbl (entries k ps)))) ∧ ∃ v1, σ = [some (.ref t), some (.str (tx L)), some (.str (tx I)), some (.int (k : Nat)), some (.ref td), some (.ref pp), some (.ref mo), v1, none, none, none, none])
    ⟨rfl, _, rfl⟩ (fun i σ H' p => by rw [p.1]; exact upd_same) (fun i ky v σ H' hi p => ?_) (fun σ H' p => ?_)
  · obtain ⟨rfl, v1, rfl⟩ := p
    obtain ⟨y, hy⟩ := val_of_mem (List.mem_of_getElem? hi)
    obtain ⟨c, rfl⟩ := tbl_val hy
    repeat walk_at "w"
    refine w_dnR (.inl hdF) ?_
    refine w_bl ?_
    rw [hy]
    repeat walk_at "w"
    refine w_dgR (.inl hdF) hy ?_
    repeat walk_at "w"
    refine w_dgR (.inr ⟨od, upd_same⟩) hy ?_
    repeat walk_at "z"
    exact ⟨rfl, _, rfl⟩
  · obtain ⟨rfl, v1, rfl⟩ := p
    refine ⟨upd_same, ?_⟩
    rw [upd_id htd]
    repeat walk_at "w"
    refine ⟨⟨_, .inl (.inl P.lst)⟩, ?_⟩
    refine forL (f := V.ref) (l := as) (fun n σ H' => ∃ v1 v2, σ = [some (.ref t), some (.str (tx L)), some (.str (tx I)), some (.int (k : Nat)), some (.ref td), some (.ref pp), some (.ref mo), v1, v2, none, none, none] ∧ Same H H')
      ⟨_, none, rfl, Same.refl H⟩ (fun i σ H' p => ?_) (fun n a σ H' ha p => ?_) (fun σ H' p => ?_)
    · obtain ⟨v1, v2, rfl, sm⟩ := p
      exact SqL.of (P.same sm).lst
    · obtain ⟨v1, v2, rfl, sm⟩ := p
      obtain ⟨p, hp, hap⟩ := P.at_ n a ha
      have hpm := List.mem_of_getElem? hp
      have hb := Sm.2 p hpm
      have hap' := sm _ _ hap
      have ht' := sm _ _ ht
      repeat walk_at "w"
      refine w_co ?_
      repeat walk_at "w"
      refine ⟨⟨_, _, ht'⟩, t, dx, d, L, I, p.1, k, _, rfl, ht', sm _ _ hd, hL, hb.1, (nb p hpm).1, fun H2 s2 => ?_⟩
      have e : imgV (imgOf (entries k ps) k p.1 p.1.length) = .str (tx p.2) := by rw [imgOf_pair hc hpm (El p hpm)]; rfl
      rw [e]
      have hap2 := s2 _ _ hap'
      repeat walk_at "z"
      exact ⟨_, _, rfl, sm.trans s2⟩
    · obtain ⟨v1, v2, rfl, sm⟩ := p
      repeat walk_at "w"
      refine ⟨⟨_, .inl (.inl (sm _ _ hmo))⟩, ?_⟩
      refine forL (f := fun w => V.str (tx w)) (l := ws) (fun n σ H' => ∃ v1 v2 v3 v4 v5, σ = [some (.ref t), some (.str (tx L)), some (.str (tx I)), some (.int (k : Nat)), some (.ref td), some (.ref pp), some (.ref mo), v1, v2, v3, v4, v5] ∧ Same H H')
        ⟨_, _, none, none, none, rfl, sm⟩ (fun i σ H' p => ?_) (fun n w σ H' ha p => ?_) (fun σ H' p => ?_)
      · obtain ⟨v1, v2, v3, v4, v5, rfl, sm⟩ := p
        exact .inl (.inl (sm _ _ hmo))
      · obtain ⟨v1, v2, v3, v4, v5, rfl, sm⟩ := p
        obtain ⟨hw1, hw2⟩ := hws w (List.mem_of_getElem? ha)
        repeat walk_at "w"
        refine ⟨td, w, k, _, rfl, sm _ _ htd, hw1, ?_⟩
        repeat walk_at "w"
        refine w_co ?_
        repeat walk_at "w"
        refine ⟨⟨_, _, sm _ _ ht⟩, t, dx, d, L, I, w, k, _, rfl, sm _ _ ht, sm _ _ hd, hL, hw1, hw2, fun H2 s2 => ?_⟩
        cases imgOf (entries k ps) k w w.length with
        | none =>
          repeat walk_at "z"
          exact ⟨_, _, _, _, _, rfl, sm.trans s2⟩
        | some m =>
          rw [show imgV (some m) = .str (tx m) from rfl]
          repeat walk_at "z"
          exact ⟨_, _, _, _, _, rfl, sm.trans s2⟩
      · obtain ⟨v1, v2, v3, v4, v5, rfl, sm⟩ := p
        repeat walk_at "w"
        exact q _ sm
theorem pairs_set {H : Hp} {pp p : Addr} {as : List Addr} {ps : List Pr} {n : Nat} {w m : List Nat} (P : PairsAt H pp as ps) (hp : H p = none) : PairsAt (upd (upd H p (.tup [.str (tx w), .str (tx m)])) pp (.lst ((as.map V.ref).set n (.ref p)))) pp (as.set n p) (ps.set n (w, m)) := by
  have np : pp ≠ p := ne_of_none P.lst hp
  refine ⟨?_, by rw [List.length_set, List.length_set]; exact P.len, fun i a h => ?_⟩
  · rw [upd_same, List.map_set]
  · have na : ∀ a xs, (upd H p (.tup [.str (tx w), .str (tx m)])) a = some (.tup xs) → (upd (upd H p (.tup [.str (tx w), .str (tx m)])) pp (.lst ((as.map V.ref).set n (.ref p)))) a = some (.tup xs) := fun a xs e => by
      rw [upd_ne (ne_of e (show (upd H p (.tup [.str (tx w), .str (tx m)])) pp = _ by rw [upd_ne np]; exact P.lst) (by intro z; cases z))]
      exact e
    rw [List.getElem?_set] at h
    by_cases e : n = i
    · subst e
      rw [if_pos rfl] at h
      split at h
      case isFalse => cases h
      case isTrue hl =>
        cases h
        refine ⟨(w, m), ?_, na _ _ upd_same⟩
        rw [List.getElem?_set, if_pos rfl, if_pos (by rw [← P.len]; exact hl)]
    · rw [if_neg e] at h
      obtain ⟨q, hq, ha⟩ := P.at_ i a h
      refine ⟨q, by rw [List.getElem?_set, if_neg e]; exact hq, na _ _ ?_⟩
      rw [upd_ne (ne_of_none ha hp)]
      exact ha
theorem okT_app {l m : List Nat} (h : OkT l) (h' : OkT m) : OkT (l ++ m) := fun c hc => by
  rcases List.mem_append.mp hc with a | a
  · exact h c a
  · exact h' c a
theorem okT_one {c : Nat} (h : c < 1114112) : OkT [c] := fun x hx => by rw [List.mem_singleton.mp hx]; exact h
theorem okT_take {l : List Nat} {n : Nat} (h : OkT l) : OkT (l.take n) := fun c hc => h c (List.mem_of_mem_take hc)
theorem okT_drop {l : List Nat} {n : Nat} (h : OkT l) : OkT (l.drop n) := fun c hc => h c (List.mem_of_mem_drop hc)
theorem pure_spoil (T : Tx K mg) (vs : List V) (H : Hp) (Q : VK) (E : XK) (h : spSpoil K vs H Q E) : t_spoil K { nx := fun _ H' => Q .non H', rt := Q } (start N_spoil vs) H := by
  obtain ⟨st, pp, L, I, as, ps, B, rfl, hst, P, hne, hl, hB, hB9, hI, hI2, okI, q⟩ := h
  have hlen := P.len
  have hl0 : 0 < ps.length := List.length_pos_iff.mpr hne
  have hI0 : 0 < I.length := List.length_pos_iff.mpr hI
  have hi0 : I[0]? = some I[0] := List.getElem?_eq_getElem hI0
  have sgT : ∀ r : Int, 0 ≤ r → r < 4 → ∃ c : Nat, c < 1114112 ∧ atI [V.str (tx [63]), .str (tx [65]), .str (tx [32]), .str (tx [48])] r = some (.str (tx [c])) := fun r h0 h4 => by
    have : r = 0 ∨ r = 1 ∨ r = 2 ∨ r = 3 := by omega
    rcases this with rfl | rfl | rfl | rfl
    · exact ⟨63, by decide, rfl⟩
    · exact ⟨65, by decide, rfl⟩
    · exact ⟨32, by decide, rfl⟩
    · exact ⟨48, by decide, rfl⟩
  have nsp : ∀ H' : Hp, StAt H' st → ∀ x ∈ [st], ∀ xs, H' x ≠ some (.tup xs) := fun H' s x hx xs e => by
    rw [List.mem_singleton.mp hx] at e
    obtain ⟨_, _, _, _, _, h1, _⟩ := s
    rw [h1] at e
    cases e
  have nst : st ≠ pp := by
    obtain ⟨c, cells, p, t, d, h1, _⟩ := hst
    intro z
    rw [z, P.lst] at h1
    have h2 := congrArg List.length (HO.lst.inj (Option.some.inj h1))
    have h3 := HO.lst.inj (Option.some.inj h1)
    match as, h3 with
    | [], h3 => cases h3
    | [a], h3 => cases h3
    | a :: b :: r, h3 => injection h3 with _ h4; injection h4 with h5; cases h5
  have c1 : ("?" : Str) = tx [63] := by decide
  have c2 : ("A" : Str) = tx [65] := by decide
  have c3 : (" " : Str) = tx [32] := by decide
  have c4 : ("0" : Str) = tx [48] := by decide
  rw [start_spoil]
  unfold t_spoil
  rw [c1, c2, c3, c4]
  repeat walk_at "w"
  refine w_lenL (SqL.of P.lst) ?_
  repeat walk_at "w"
  refine ⟨st, _, rfl, by rw [List.length_map]; omega, by rw [List.length_map]; omega, hst, fun r H1 r0 r1 f1 s1 => ?_⟩
  obtain ⟨n, rfl⟩ := Int.eq_ofNat_of_zero_le r0
  rw [List.length_map] at r1
  have P1 := P.fr f1 (by simpa using nst.symm) (nsp H hst)
  have hn : n < ps.length := by omega
  obtain ⟨p, hp⟩ : ∃ p, ps[n]? = some p := ⟨_, List.getElem?_eq_getElem hn⟩
  obtain ⟨a, ha, hap⟩ := P1.get hp
  obtain ⟨hb1, hb2, ok1, ok2⟩ := hB p (List.mem_of_getElem? hp)
  have oki : I[0] < 1114112 := okI _ (List.getElem_mem hI0)
  have hix : atI (as.map V.ref) (n : Int) = some (.ref a) := atI_nat (by rw [List.getElem?_map, ha]; rfl)
  repeat walk_at "w"
  refine w_ixL (SqL.of P1.lst) hix ?_
  repeat walk_at "w"
  refine w_ixL (SqL.of P1.lst) hix ?_
  repeat walk_at "w"
  refine ⟨st, 3, rfl, by omega, by omega, s1, fun r2 H2 r20 r21 f2 s2 => ?_⟩
  have P2 := P1.fr f2 (by simpa using nst.symm) (nsp H1 s1)
  repeat walk_at "w"
  refine ⟨st, _, rfl, by omega, by omega, s2, fun r3 H3 r30 r31 f3 s3 => ?_⟩
  have P3 := P2.fr f3 (by simpa using nst.symm) (nsp H2 s2)
  obtain ⟨wh, rfl⟩ := Int.eq_ofNat_of_zero_le r30
  repeat walk_at "w"
  intro l hl4
  have s4 : StAt (upd H3 l (.lst [.str (tx [63]), .str (tx [65]), .str (tx [32]), .str (tx [48])])) st := s3.same (Same.new hl4)
  have P4 := P3.same (Same.new (o := .lst [.str (tx [63]), .str (tx [65]), .str (tx [32]), .str (tx [48])]) hl4)
  repeat walk_at "w"
  refine ⟨st, 4, rfl, by omega, by omega, s4, fun r5 H5 r50 r51 f5 s5 => ?_⟩
  have P5 := P4.fr f5 (by simpa using nst.symm) (nsp _ s4)
  have nl : l ∉ [st] := by
    obtain ⟨_, _, _, _, _, h1, _⟩ := s3
    simpa using (ne_of_none h1 hl4).symm
  obtain ⟨sg, hsg0, hsg⟩ := sgT r5 r50 r51
  repeat walk_at "w"
  refine w_ixL (SqL.of (f5 _ _ nl upd_same)) hsg ?_
  have F5 : L2.Fr [st, pp] H H5 := ((((f1.trans f2).trans f3).trans (Fr.of (Same.new hl4))).trans f5).mono (by simp)
  have fin : ∀ (w m : List Nat), Bd (B + 1) (w, m) → ∀ t, H5 t = none → Q (.int (n : Nat)) (upd (upd H5 t (.tup [.str (tx w), .str (tx m)])) pp (.lst ((as.map V.ref).set n (.ref t)))) := fun w m hw t ht => by
    refine q _ _ _ _ ((F5.trans (Fr.new ht)).trans (Fr.put (by simp))) ?_ (pairs_set (n := n) P5 ht) (by rw [List.length_set]) ?_
    · refine StAt.fr (l := [pp]) (s5.same (Same.new (o := .tup [.str (tx w), .str (tx m)]) ht)) (Fr.put (by simp)) (by simpa using nst) fun c xs hc hx => ?_
      intro z
      rw [List.mem_singleton.mp z, upd_ne (ne_of_none P5.lst ht), P5.lst] at hc
      have h3 := HO.lst.inj (Option.some.inj hc)
      match as, xs, h3 with
      | [], [], _ => exact hx rfl
      | [], _ :: _, h3 => cases h3
      | _ :: _, [], h3 => cases h3
      | _ :: _, _ :: _, h3 => injection h3 with h4 _; cases h4
    · intro p' hp'
      rcases List.mem_or_eq_of_mem_set hp' with h | h
      · obtain ⟨a1, a2, a3, a4⟩ := hB p' h
        exact ⟨by omega, by omega, a3, a4⟩
      · rw [h]
        exact hw
  have hnl : ixN (as.map V.ref).length (n : Int) = some n := by
    rw [List.length_map]
    unfold ixN
    rw [if_pos (by omega), if_pos (by omega)]
    rfl
  have set : ∀ (w m : List Nat) (t : Addr), Bd (B + 1) (w, m) → H5 t = none → ∀ Qn : Hp → Prop, (Q (.int (n : Nat)) (upd (upd H5 t (.tup [.str (tx w), .str (tx m)])) pp (.lst ((as.map V.ref).set n (.ref t)))) → Qn (upd (upd H5 t (.tup [.str (tx w), .str (tx m)])) pp (.lst ((as.map V.ref).set n (.ref t))))) → rSetL (.ref pp) (.int (n : Nat)) (.ref t) (upd H5 t (.tup [.str (tx w), .str (tx m)])) Qn := fun w m t hw ht Qn hq =>
    w_setL (by rw [upd_ne (ne_of_none P5.lst ht)]; exact P5.lst) hnl (hq (fin w m hw t ht))
  have wh1 : wh ≤ p.1.length := by omega
  repeat walk_at "w"
  refine w_iteD (fun _ => ?_) (fun _ => ?_)
  · repeat walk_at "w"
    intro t ht
    repeat walk_at "w"
    refine set p.1 (p.2 ++ [I[0]]) t ⟨by show p.1.length ≤ B + 1; omega, by simp only [List.length_append, List.length_singleton, List.length_take, List.length_drop]; omega, ok1, okT_app ok2 (okT_one oki)⟩ ht _ fun h => ?_
    repeat walk_at "w"
    exact h
  · repeat walk_at "w"
    refine w_iteD (fun _ => ?_) (fun _ => ?_)
    · repeat walk_at "w"
      intro t ht
      repeat walk_at "w"
      refine set _ _ t ⟨by simp only [List.length_append, List.length_singleton, List.length_take, List.length_drop]; omega, by simp only [List.length_append, List.length_singleton, List.length_take, List.length_drop]; omega, okT_app (okT_app (okT_take ok1) (okT_one hsg0)) (okT_drop ok1), okT_app ok2 (okT_one oki)⟩ ht _ fun h => ?_
      repeat walk_at "w"
      exact h
    · repeat walk_at "w"
      intro t ht
      repeat walk_at "w"
      refine set p.1 (p.2.take (wh : Int).toNat ++ [sg] ++ p.2.drop ((wh : Int) + 1).toNat) t ⟨by show p.1.length ≤ B + 1; omega, by simp only [List.length_append, List.length_singleton, List.length_take, List.length_drop]; omega, ok1, okT_app (okT_app (okT_take ok2) (okT_one hsg0)) (okT_drop ok2)⟩ ht _ fun h => ?_
      repeat walk_at "w"
      exact h
def sd (s : Nat) (p : Pr) : List Nat := if s = 0 then p.1 else p.2
def ls (s : Nat) (L I : List Nat) : List Nat := if s = 0 then L else I
theorem pure_firstbad (T : Tx K mg) (vs : List V) (H : Hp) (Q : VK) (E : XK) (h : spFB K vs H Q E) : t_firstbad K { nx := fun _ H' => Q .non H', rt := Q } (start N_firstbad vs) H := by
  obtain ⟨pp, L, I, as, ps, rfl, P, Sm, hL, hI, q1, q2⟩ := h
  have hlen := P.len
  have sm0 := Sm.1
  rw [start_firstbad]
  unfold t_firstbad
  repeat walk_at "w"
  refine w_lenL (SqL.of P.lst) ?_
  repeat walk_at "w"
  rw [List.length_map]
  refine ⟨by omega, by omega, ?_⟩
  refine forR (fun n σ H' => ∃ v1 v2 v3, σ = [some (.ref pp), some (.str (tx L)), some (.str (tx I)), v1, v2, v3] ∧ Same H H' ∧ ∀ m q, m < n → ps[m]? = some q → GoodPr L I q)
    ⟨none, none, none, rfl, Same.refl H, fun _ _ z => absurd z (Nat.not_lt_zero _)⟩ (fun n σ H' hn p => ?_) (fun σ H' p => ?_)
  · obtain ⟨v1, v2, v3, rfl, sm, hg⟩ := p
    have hn' : n < ps.length := by omega
    obtain ⟨p, hp⟩ : ∃ p, ps[n]? = some p := ⟨_, List.getElem?_eq_getElem hn'⟩
    obtain ⟨a, ha, hap⟩ := P.get hp
    have hb := Sm.2 p (List.mem_of_getElem? hp)
    have hix : atI (as.map V.ref) (0 + (n : Int)) = some (.ref a) := by rw [Int.zero_add]; exact atI_nat (by rw [List.getElem?_map, ha]; rfl)
    repeat walk_at "w"
    refine ⟨by omega, by omega, ?_⟩
    refine forR (fun s σ H' => ∃ v2 v3, σ = [some (.ref pp), some (.str (tx L)), some (.str (tx I)), some (.int (0 + (n : Int))), v2, v3] ∧ Same H H' ∧ (1 ≤ s → AllIn L p.1) ∧ (2 ≤ s → AllIn I p.2))
      ⟨_, _, rfl, sm, fun z => absurd z (by omega), fun z => absurd z (by omega)⟩ (fun s σ H' hs w => ?_) (fun σ H' w => ?_)
    · obtain ⟨v2, v3, rfl, sm, g1, g2⟩ := w
      have hs' : s = 0 ∨ s = 1 := by omega
      have hsd : atI [V.str (tx p.1), .str (tx p.2)] (0 + (s : Int)) = some (.str (tx (sd s p))) := by
        rcases hs' with rfl | rfl <;> rfl
      have hls : atI [V.str (tx L), .str (tx I)] (0 + (s : Int)) = some (.str (tx (ls s L I))) := by
        rcases hs' with rfl | rfl <;> rfl
      have hsl : (sd s p).length ≤ 1000 := by
        unfold sd
        split
        · exact hb.1
        · exact hb.2
      have hap' := sm _ _ hap
      repeat walk_at "w"
      refine w_ixL (SqL.of (sm _ _ P.lst)) hix ?_
      repeat walk_at "w"
      refine w_ixT (SqT.of hap') hsd ?_
      repeat walk_at "w"
      refine ⟨by omega, by omega, ?_⟩
      refine forR (fun i σ H' => ∃ v3, σ = [some (.ref pp), some (.str (tx L)), some (.str (tx I)), some (.int (0 + (n : Int))), some (.int (0 + (s : Int))), v3] ∧ Same H H' ∧ ∀ j c, j < i → (sd s p)[j]? = some c → c ∈ ls s L I)
        ⟨_, rfl, sm, fun _ _ z => absurd z (Nat.not_lt_zero _)⟩ (fun i σ H' hi w => ?_) (fun σ H' w => ?_)
      · obtain ⟨v3, rfl, sm, hin⟩ := w
        have hi' : i < (sd s p).length := by omega
        have hc : (sd s p)[i]? = some (sd s p)[i] := List.getElem?_eq_getElem hi'
        have hap' := sm _ _ hap
        repeat walk_at "w"
        refine w_ixL (SqL.of (sm _ _ P.lst)) hix ?_
        repeat walk_at "w"
        refine w_ixT (SqT.of hap') hsd ?_
        repeat walk_at "w"
        intro l hl
        have sl := sm.trans (Same.new (o := .lst [V.str (tx L), .str (tx I)]) hl)
        have hap2 := sl _ _ hap
        repeat walk_at "w"
        refine w_ixL (SqL.of upd_same) hls ?_
        repeat walk_at "w"
        refine w_iteDN (fun hne => ?_) (fun heq => ?_)
        · repeat walk_at "w"
          refine w_ixL (SqL.of (sl _ _ P.lst)) hix ?_
          repeat walk_at "w"
          refine w_ixT (SqT.of hap2) hsd ?_
          repeat walk_at "w"
          intro t ht
          have bad : BadAt (ls s L I) (sd s p) i := ⟨⟨_, hc, hne⟩, hin⟩
          refine q2 (.word (sd s p) i) ⟨n, p, hp, hg, ?_⟩ _ t (sl.trans (Same.new ht)) (by rw [upd_same, Int.zero_add]; rfl)
          rcases hs' with rfl | rfl
          · exact .inl ⟨rfl, bad⟩
          · exact .inr ⟨rfl, g1 (Nat.le_refl _), bad⟩
        · repeat walk_at "w"
          refine ⟨_, rfl, sl, fun j c hj hjc => ?_⟩
          by_cases e : j = i
          · subst e
            rw [hc] at hjc
            cases hjc
            exact heq
          · exact hin j c (by omega) hjc
      · obtain ⟨v3, rfl, sm, hin⟩ := w
        have hz : ((sd s p).length : Int).toNat = (sd s p).length := by omega
        rw [hz] at hin
        have all : AllIn (ls s L I) (sd s p) := fun c hc => by
          obtain ⟨j, hj⟩ := List.mem_iff_getElem?.mp hc
          exact hin j c (List.getElem?_eq_some_iff.mp hj).1 hj
        refine ⟨_, _, rfl, sm, fun _ => ?_, fun _ => ?_⟩
        · rcases hs' with rfl | rfl
          · exact all
          · exact g1 (Nat.le_refl _)
        · rcases hs' with rfl | rfl
          · omega
          · exact all
    · obtain ⟨v2, v3, rfl, sm, g1, g2⟩ := w
      have g1' := g1 (by decide)
      have g2' := g2 (by decide)
      have hap' := sm _ _ hap
      repeat walk_at "w"
      refine w_ixL (SqL.of (sm _ _ P.lst)) hix ?_
      repeat walk_at "w"
      refine w_ixL (SqL.of (sm _ _ P.lst)) hix ?_
      repeat walk_at "w"
      refine w_iteDN (fun hne => ?_) (fun heq => ?_)
      · repeat walk_at "w"
        intro t ht
        exact q2 (.text n) ⟨n, p, hp, hg, rfl, g1', g2', by omega⟩ _ t (sm.trans (Same.new ht)) (by rw [upd_same, Int.zero_add]; rfl)
      · repeat walk_at "w"
        refine ⟨_, _, _, rfl, sm, fun m q hm hq => ?_⟩
        by_cases e : m = n
        · subst e
          rw [hp] at hq
          cases hq
          exact ⟨g1', g2', by omega⟩
        · exact hg m q (by omega) hq
  · obtain ⟨v1, v2, v3, rfl, sm, hg⟩ := p
    repeat walk_at "w"
    refine q1 (fun p hp => ?_) _ sm
    obtain ⟨m, hm⟩ := List.mem_iff_getElem?.mp hp
    have := (List.getElem?_eq_some_iff.mp hm).1
    exact hg m p (by omega) hm
theorem w_xf {a : Addr} {cls : Value} {d : Option Addr} {C : Addr} {f : Str} {te : TE} {σ : L2.St} {H : Hp} {Q : VK} (h : te σ H fun x H1 => x = .ref a ∧ cls = .ref C ∧ ∃ (dd : Addr) (fs : List (Str × V)) (v : V), d = some dd ∧ H1 dd = some (.xd fs) ∧ fs.lookup f = some v ∧ Q v H1) : tXf a cls d C f te σ H Q := h
theorem w_callS {sp : Sp} {E : L2.St → XK} {t : TA} {σ : L2.St} {H : Hp} {Q : VK} (h : t σ H fun vs H1 => sp vs H1 Q (E σ)) : tCallS sp E t σ H Q := h
theorem pure_refused (T : Tx K mg) (vs : List V) (H : Hp) (Q : VK) (E : XK) (h : spRef K vs H Q E) : t_refused K { nx := fun _ H' => Q .non H', rt := Q } (start N_refused vs) H := by
  obtain ⟨L, I, k, pp, bp, as, ps, b, rfl, gL, gI, P, Sm, fb, hbp, q⟩ := h
  have X := exF T
  have c1 : ("text" : Str) = tx [116, 101, 120, 116] := by decide
  have c2 : ("word" : Str) = tx [119, 111, 114, 100] := by decide
  rw [start_refused]
  unfold t_refused
  repeat walk_at "w"
  show tb_refused K _ _ _ _
  unfold tb_refused
  repeat walk_at "w"
  refine w_callS ?_
  repeat walk_at "w"
  refine ⟨L, I, k, pp, as, ps, rfl, gL, gI, P, Sm, fun b' fb' H1 d s1 hd => ?_, fun nb => absurd nb (fb_no fb), fun nb => absurd nb (fb_no fb)⟩
  obtain rfl := fb_uniq fb fb'
  have hbp1 := s1 _ _ hbp
  have hex : PySem.W.exmOne K (badC K b) (.ref (ga K "LanguageError")) = some true := by
    cases b with
    | word w i => exact X.ew
    | text n => exact X.et
  refine ⟨true, hex, fun _ a ha => ?_, fun z => by cases z⟩
  unfold ts_refused
  dsimp only [List.set_cons_zero, List.set_cons_succ]
  have hc1 : ∀ u, RelV (.ref (ga K "BadText")) u → u = .ref (ga K "BadText") := fun u r => r
  have hc2 : ∀ u, RelV (.ref (ga K "BadWord")) u → u = .ref (ga K "BadWord") := fun u r => r
  cases b with
  | text n =>
    have hbp2 : H1 bp = some (.tup [.str "text", .int (n : Nat), .int 0]) := hbp1
    repeat walk_at "z"
    refine ⟨ga K "BadText", _, _, true, rfl, rfl, T.exc 1 (d := i_BadText) rfl, .inr ⟨d, _, rfl, hd⟩, hc1, X.tt, ?_⟩
    repeat walk_at "z"
    refine ⟨ga K "BadText", _, _, false, rfl, rfl, T.exc 1 (d := i_BadText) rfl, .inr ⟨d, _, rfl, hd⟩, hc2, X.tw, ?_⟩
    repeat walk_at "z"
    refine w_xf ?_
    repeat walk_at "z"
    refine ⟨rfl, rfl, d, _, _, rfl, hd, rfl, ?_⟩
    repeat walk_at "z"
    have e : decide ((n : Int) = n) = true := decide_eq_true rfl
    rw [e]
    exact q _ s1
  | word w i =>
    have hbp2 : H1 bp = some (.tup [.str "word", .str (tx w), .int (i : Nat)]) := hbp1
    repeat walk_at "w"
    refine w_iteD (fun z => absurd z (by decide)) (fun _ => ?_)
    repeat walk_at "z"
    refine ⟨ga K "BadWord", _, _, true, rfl, rfl, T.exc 0 (d := i_BadWord) rfl, .inr ⟨d, _, rfl, hd⟩, hc2, X.ww, ?_⟩
    repeat walk_at "z"
    refine ⟨ga K "BadWord", _, _, false, rfl, rfl, T.exc 0 (d := i_BadWord) rfl, .inr ⟨d, _, rfl, hd⟩, hc1, X.wt, ?_⟩
    repeat walk_at "z"
    refine w_xf ?_
    repeat walk_at "z"
    refine ⟨rfl, rfl, d, _, _, rfl, hd, rfl, ?_⟩
    repeat walk_at "z"
    refine w_xf ?_
    repeat walk_at "z"
    refine ⟨rfl, rfl, d, _, _, rfl, hd, rfl, ?_⟩
    repeat walk_at "z"
    have e : decide ((i : Int) = i) = true := decide_eq_true rfl
    rw [e]
    exact q _ s1
def chkL (L : List Nat) : Bool := decide (1 ≤ L.length) && decide (L.length ≤ 4) && L.all (fun c => decide (97 ≤ c) && decide (c ≤ 122)) && (L.zip L.tail).all fun p => decide (p.1 < p.2)
theorem goodL_of {L : List Nat} (h : chkL L = true) : GoodL L := by
  unfold chkL at h
  simp only [Bool.and_eq_true, decide_eq_true_eq, List.all_eq_true] at h
  obtain ⟨⟨⟨h1, h2⟩, h3⟩, h4⟩ := h
  refine ⟨h1, h2, fun c hc => h3 c hc, fun i a b ha hb => ?_⟩
  refine h4 (a, b) (List.mem_iff_getElem?.mpr ⟨i, ?_⟩)
  rw [List.getElem?_zip_eq_some]
  exact ⟨ha, by rw [List.getElem?_tail]; exact hb⟩
theorem StAt_put {H : Hp} {st D : Addr} {xs : List V} {o : HO} (s : StAt H st) (hD : H D = some (.lst xs)) (n : st ≠ D) (hx : ∀ i : Int, V.int i ∉ xs) : StAt (upd H D o) st := by
  refine StAt.fr (l := [D]) s (Fr.put (by simp)) (by simpa using n) fun c ys hc hy => ?_
  intro z
  rw [List.mem_singleton.mp z, hD] at hc
  have h3 := HO.lst.inj (Option.some.inj hc)
  match ys with
  | [] => exact hy rfl
  | y :: r => exact hx y (by rw [h3]; exact List.mem_cons_self)
theorem pairs_put {H : Hp} {pp D : Addr} {as : List Addr} {ps : List Pr} {xs : List V} {o : HO} (P : PairsAt H pp as ps) (hD : H D = some (.lst xs)) (n : pp ≠ D) : PairsAt (upd H D o) pp as ps :=
  P.fr (l := [D]) (Fr.put (by simp)) (by simpa using n) fun x hx xs e => by
    rw [List.mem_singleton.mp hx, hD] at e
    cases e
theorem pairs_putK {H : Hp} {pp D : Addr} {as : List Addr} {ps : List Pr} {kvs : List (Key × V)} {l : List Addr} {H' : Hp} (P : PairsAt H pp as ps) (f : L2.Fr l H H') (h : ∀ x ∈ l, x = D ∨ ∃ xs, H x = some (.lst xs)) (hD : H D = some (.dK kvs)) (n : pp ∉ l) : PairsAt H' pp as ps :=
  P.fr f n fun x hx xs e => by
    rcases h x hx with rfl | ⟨ys, h⟩
    · rw [hD] at e
      cases e
    · rw [h] at e
      cases e
theorem pairs_snoc {H : Hp} {pp t : Addr} {as : List Addr} {ps : List Pr} {w m : List Nat} (P : PairsAt H pp as ps) (ht : H t = none) : PairsAt (upd (upd H t (.tup [.str (tx w), .str (tx m)])) pp (.lst (as.map V.ref ++ [.ref t]))) pp (as ++ [t]) (ps ++ [(w, m)]) := by
  have np : pp ≠ t := ne_of_none P.lst ht
  refine ⟨?_, by rw [List.length_append, List.length_append, P.len]; rfl, fun i a h => ?_⟩
  · rw [upd_same, List.map_append]
    rfl
  · have na : ∀ a xs, (upd H t (.tup [.str (tx w), .str (tx m)])) a = some (.tup xs) → (upd (upd H t (.tup [.str (tx w), .str (tx m)])) pp (.lst (as.map V.ref ++ [.ref t]))) a = some (.tup xs) := fun a xs e => by
      rw [upd_ne (ne_of e (show (upd H t (.tup [.str (tx w), .str (tx m)])) pp = _ by rw [upd_ne np]; exact P.lst) (by intro z; cases z))]
      exact e
    rw [List.getElem?_append] at h
    split at h
    · obtain ⟨q, hq, ha⟩ := P.at_ i a h
      refine ⟨q, ?_, na _ _ ?_⟩
      · rw [List.getElem?_append, if_pos (List.getElem?_eq_some_iff.mp hq).1]
        exact hq
      · rw [upd_ne (ne_of_none ha ht)]
        exact ha
    · next hge =>
      have e : i - as.length = 0 := by
        have := (List.getElem?_eq_some_iff.mp h).1
        simp at this
        omega
      rw [e] at h
      cases h
      refine ⟨(w, m), ?_, na _ _ upd_same⟩
      have hl := P.len
      rw [List.getElem?_append, if_neg (by omega), show i - ps.length = 0 by omega]
      rfl
def prd (p : Pr) : PyData := .tuple [.str (tx p.1), .str (tx p.2)]
theorem okT_str {l : List Nat} (h : OkT l) : PyData.strOk (tx l) = true := by
  unfold PyData.strOk
  rw [← Array.all_toList, tx_list, List.all_eq_true]
  exact fun c hc => decide_eq_true (h c hc)
def OkP (ps : List Pr) : Prop := ∀ p ∈ ps, OkT p.1 ∧ OkT p.2
theorem prd_can : ∀ ps : List Pr, OkP ps → PyData.canLayAll0 (ps.map prd) = true
  | [], _ => by simp [PyData.canLayAll0]
  | p :: r, h => by
    have h1 := okT_str (h p List.mem_cons_self).1
    have h2 := okT_str (h p List.mem_cons_self).2
    simp [prd, PyData.canLayAll0, PyData.canLay0, prd_can r fun q hq => h q (List.mem_cons_of_mem _ hq), h1, h2]
theorem prd_depth : ∀ ps : List Pr, PyData.depthAll (ps.map prd) ≤ 1
  | [] => by simp [PyData.depthAll]
  | p :: r => by
    have := prd_depth r
    simp only [List.map_cons, prd, PyData.depthAll, PyData.depth]
    omega
theorem prd_shaped {ps : List Pr} (ok : OkP ps) : SeqAt.shaped (.list (ps.map prd)) = true := by
  have h1 := prd_depth ps
  have h2 : PyData.depth (.list (ps.map prd)) ≤ 64 := by simp only [PyData.depth]; omega
  show (PyData.canLay0 (.list (ps.map prd)) && decide (PyData.depth (.list (ps.map prd)) ≤ 64)) = true
  rw [Bool.and_eq_true]
  exact ⟨by simp only [PyData.canLay0]; exact prd_can ps ok, decide_eq_true h2⟩
theorem prd_eqv {ps : List Pr} (ok : OkP ps) : PyData.eqv (.list (ps.map prd)) (.list (ps.map prd)) = true := SeqAt.eqv_refl _ (by simp only [PyData.canLay0]; exact prd_can ps ok)
theorem prd_all {H : Hp} : ∀ (as : List Addr) (ps : List Pr), as.length = ps.length → (∀ (i : Nat) (a : Addr), as[i]? = some a → ∃ p : Pr, ps[i]? = some p ∧ H a = some (.tup [.str (tx p.1), .str (tx p.2)])) → DpAll K H (as.map V.ref) (ps.map prd)
  | [], [], _, _ => .nil
  | [], _ :: _, h, _ => by cases h
  | _ :: _, [], h, _ => by cases h
  | a :: as, p :: ps, h, f => by
    obtain ⟨q, hq, ha⟩ := f 0 a rfl
    cases hq
    exact .cons (.tup (SqT.of ha) (.cons (.str _) (.cons (.str _) .nil))) (prd_all as ps (by simpa using h) fun i b hb => f (i + 1) b hb)
theorem prd_dp {H : Hp} {pp : Addr} {as : List Addr} {ps : List Pr} (P : PairsAt H pp as ps) : Dp K H (.ref pp) (.list (ps.map prd)) := .lst (SqL.of P.lst) (prd_all as ps P.len P.at_)
theorem w_eqP {H : Hp} {Q : VK} {a b : Addr} {as bs : List Addr} {ps : List Pr} (P : PairsAt H a as ps) (P' : PairsAt H b bs ps) (ok : OkP ps) (q : Q (.bl true) H) : rEqD K (.ref a) (.ref b) H Q := ⟨_, _, prd_dp P, prd_dp P', prd_shaped ok, prd_shaped ok, by rw [prd_eqv ok]; exact q⟩
theorem w_neP {H : Hp} {Q : VK} {a b : Addr} {as bs : List Addr} {ps : List Pr} (P : PairsAt H a as ps) (P' : PairsAt H b bs ps) (ok : OkP ps) (q : Q (.bl false) H) : rNeD K (.ref a) (.ref b) H Q := ⟨_, _, prd_dp P, prd_dp P', prd_shaped ok, prd_shaped ok, by rw [prd_eqv ok]; exact q⟩
theorem st_ne {H : Hp} {st pp : Addr} {as : List Addr} {ps : List Pr} (s : StAt H st) (P : PairsAt H pp as ps) : st ≠ pp := by
  obtain ⟨c, cells, p, t, d, h1, _⟩ := s
  intro z
  rw [z, P.lst] at h1
  have h3 := HO.lst.inj (Option.some.inj h1)
  match as, h3 with
  | [], h3 => cases h3
  | [a], h3 => cases h3
  | a :: b :: r, h3 => injection h3 with _ h4; injection h4 with h5; cases h5
theorem st_nt {H : Hp} {st : Addr} (s : StAt H st) : ∀ x ∈ [st], ∀ xs, H x ≠ some (.tup xs) := fun x hx xs e => by
  rw [List.mem_singleton.mp hx] at e
  obtain ⟨_, _, _, _, _, h1, _⟩ := s
  rw [h1] at e
  cases e
theorem noint (as : List Addr) : ∀ i : Int, V.int i ∉ as.map V.ref := fun i h => by
  obtain ⟨a, _, e⟩ := List.mem_map.mp h
  cases e
def lab : List (List Nat) := [[97, 98], [97], [97, 98, 99], [98, 100], [97, 99, 122], [97, 98, 99, 100]]
def iab : List (List Nat) := [[97, 98], [120, 121], [112, 113, 114, 115], [122], [97, 98, 99], [98, 100]]
theorem pickL {ls : List (List Nat)} (hl : ls.length = 6) (hg : ∀ L ∈ ls, chkL L = true) (r : Int) (h0 : 0 ≤ r) (h6 : r < 6) : ∃ L, atI (ls.map fun L => V.str (tx L)) r = some (.str (tx L)) ∧ GoodL L := by
  obtain ⟨n, rfl⟩ := Int.eq_ofNat_of_zero_le h0
  have hn : n < ls.length := by omega
  refine ⟨ls[n], atI_nat (by rw [List.getElem?_map, List.getElem?_eq_getElem hn]; rfl), goodL_of (hg _ (List.getElem_mem hn))⟩
theorem pure_law (T : Tx K mg) (vs : List V) (H : Hp) (Q : VK) (E : XK) (h : spLaw K vs H Q E) : t_law K { nx := fun _ H' => Q .non H', rt := Q } (start N_law vs) H := by
  obtain ⟨a, ns, rfl, hsq, hns, fin⟩ := h
  have c1 : ("ab" : Str) = tx [97, 98] := by decide
  have c2 : ("a" : Str) = tx [97] := by decide
  have c3 : ("abc" : Str) = tx [97, 98, 99] := by decide
  have c4 : ("bd" : Str) = tx [98, 100] := by decide
  have c5 : ("acz" : Str) = tx [97, 99, 122] := by decide
  have c6 : ("abcd" : Str) = tx [97, 98, 99, 100] := by decide
  have c7 : ("xy" : Str) = tx [120, 121] := by decide
  have c8 : ("pqrs" : Str) = tx [112, 113, 114, 115] := by decide
  have c9 : ("z" : Str) = tx [122] := by decide
  rw [start_law]
  unfold t_law
  rw [c1, c2, c3, c4, c5, c6, c7, c8, c9]
  repeat walk_at "w"
  refine ⟨a, ns, rfl, hsq, hns, fun H1 st s1 hst0 hst => ?_⟩
  repeat walk_at "w"
  intro l1 hl1
  have hst2 := hst.same (Same.new (o := .lst (lab.map fun L => V.str (tx L))) hl1)
  repeat walk_at "w"
  refine ⟨st, 6, rfl, by omega, by omega, hst2, fun r H2 r0 r1 f2 s2 => ?_⟩
  obtain ⟨L, hL, gL⟩ := pickL (ls := lab) rfl (by decide) r r0 r1
  have nl1 : l1 ∉ [st] := by
    obtain ⟨_, _, _, _, _, h1, _⟩ := hst
    simpa using (ne_of_none h1 hl1).symm
  refine w_ixL (SqL.of (f2 _ _ nl1 upd_same)) hL ?_
  repeat walk_at "w"
  intro l2 hl2
  have hst3 := s2.same (Same.new (o := .lst (iab.map fun L => V.str (tx L))) hl2)
  repeat walk_at "w"
  refine ⟨st, 6, rfl, by omega, by omega, hst3, fun r' H3 r0' r1' f3 s3 => ?_⟩
  obtain ⟨I, hI, gI⟩ := pickL (ls := iab) rfl (by decide) r' r0' r1'
  have nl2 : l2 ∉ [st] := by
    obtain ⟨_, _, _, _, _, h1, _⟩ := s2
    simpa using (ne_of_none h1 hl2).symm
  refine w_ixL (SqL.of (f3 _ _ nl2 upd_same)) hI ?_
  repeat walk_at "w"
  refine ⟨st, 4, rfl, by omega, by omega, s3, fun hd H4 hd0 hd1 f4 s4 => ?_⟩
  obtain ⟨hid, rfl⟩ := Int.eq_ofNat_of_zero_le hd0
  have ehid : (1 : Int) + (hid : Int) = ((1 + hid : Nat) : Int) := by omega
  repeat walk_at "w"
  refine ⟨st, 4, rfl, by omega, by omega, s4, fun k0 H5 k00 k01 f5 s5 => ?_⟩
  obtain ⟨k0, rfl⟩ := Int.eq_ofNat_of_zero_le k00
  have ek : (1 : Int) + (k0 : Int) = ((1 + k0 : Nat) : Int) := by omega
  repeat walk_at "c"
  have gL1 := gL.1
  have gL2 := gL.2.1
  have gI1 := gI.1
  have okL : OkT L := fun c hc => by
    have := gL.2.2.1 c hc
    omega
  have okI : OkT I := fun c hc => by
    have := gI.2.2.1 c hc
    omega
  have gI2 := gI.2.1
  refine w_seqP (fun σ H' => ∃ k : Nat, σ = [some (.ref a), some (.ref st), some (.str (tx L)), some (.str (tx I)), some (.int (1 + (hid : Int))), some (.int (k : Nat)), none, none, none, none, none, none, none, none, none, none, none, none, none, none] ∧ StAt H' st)
    (fun U go => ?_) (fun σ H6 p => ?_)
  · repeat walk_at "w"
    refine ⟨st, 8, rfl, by omega, by omega, s5, fun r H2 r0 r1 f2 s2 => ?_⟩
    repeat walk_at "w"
    refine w_iteD (fun _ => ?_) (fun _ => ?_)
    · repeat walk_at "w"
      refine ⟨st, 3, rfl, by omega, by omega, s2, fun r H2 r0 r1 f2 s2 => ?_⟩
      obtain ⟨r, rfl⟩ := Int.eq_ofNat_of_zero_le r0
      repeat walk_at "w"
      exact go _ _ ⟨5 + r, by rw [show ((5 + r : Nat) : Int) = 5 + (r : Int) by omega], s2⟩
    · repeat walk_at "w"
      exact go _ _ ⟨1 + k0, by rw [← ek], s2⟩
  obtain ⟨k, rfl, s6⟩ := p
  refine w_seq ?_
  repeat walk_at "c"
  refine ⟨st, 6, rfl, by omega, by omega, s6, fun mn H7 mn0 mn1 f7 s7 => ?_⟩
  obtain ⟨mn, rfl⟩ := Int.eq_ofNat_of_zero_le mn0
  repeat walk_at "c"
  refine w_seq ?_
  repeat walk_at "c"
  refine w_seqP (fun σ H' => ∃ many lg : Nat, many ≤ 30 ∧ lg ≤ 24 ∧ σ = [some (.ref a), some (.ref st), some (.str (tx L)), some (.str (tx I)), some (.int (1 + (hid : Int))), some (.int (k : Nat)), some (.int (many : Nat)), some (.int (lg : Nat)), none, none, none, none, none, none, none, none, none, none, none, none] ∧ StAt H' st)
    (fun U go => ?_) (fun σ H8 p => ?_)
  · repeat walk_at "w"
    refine ⟨st, 16, rfl, by omega, by omega, s7, fun r H2 r0 r1 f2 s2 => ?_⟩
    repeat walk_at "w"
    refine w_iteD (fun _ => ?_) (fun _ => ?_)
    · repeat walk_at "w"
      refine ⟨st, 11, rfl, by omega, by omega, s2, fun r H2 r0 r1 f2 s2 => ?_⟩
      obtain ⟨r, rfl⟩ := Int.eq_ofNat_of_zero_le r0
      repeat walk_at "w"
      exact go _ _ ⟨20 + r, 24, by omega, Nat.le_refl _, by rw [show ((20 + r : Nat) : Int) = 20 + (r : Int) by omega]; rfl, s2⟩
    · repeat walk_at "w"
      exact go _ _ ⟨mn, 6, by omega, by omega, rfl, s2⟩
  obtain ⟨many, lg, hmany, hlg, rfl, s8⟩ := p
  repeat walk_at "w"
  intro kd hkd
  repeat walk_at "w"
  intro pp hpp
  have nst : st ≠ pp := by
    obtain ⟨_, _, _, _, _, h1, _⟩ := s8
    exact ne_of_none (Same.new (o := .dK []) hkd _ _ h1) hpp
  have nsk : st ≠ kd := by
    obtain ⟨_, _, _, _, _, h1, _⟩ := s8
    exact ne_of_none h1 hkd
  have npk : pp ≠ kd := (ne_of_none upd_same hpp).symm
  have s9 : StAt (upd (upd H8 kd (.dK [])) pp (.lst [])) st := s8.same ((Same.new hkd).trans (Same.new hpp))
  repeat walk_at "w"
  refine ⟨by omega, by omega, ?_⟩
  have hz : (many : Int).toNat = many := by omega
  refine forR (fun i σ H' => ∃ v10 v16 as ps kvs, σ = [some (.ref a), some (.ref st), some (.str (tx L)), some (.str (tx I)), some (.int (1 + (hid : Int))), some (.int (k : Nat)), some (.int (many : Nat)), some (.int (lg : Nat)), some (.ref kd), some (.ref pp), v10, none, none, none, none, none, v16, none, none, none] ∧
      StAt H' st ∧ H' kd = some (.dK kvs) ∧ kvs.length ≤ i * 24 ∧ KnOk kvs ∧ PairsAt H' pp as ps ∧ ps.length = i ∧ ∀ p ∈ ps, Bd 24 p)
    ⟨none, none, [], [], [], rfl, s9, by rw [upd_ne npk.symm]; exact upd_same, Nat.zero_le _, (fun v y z => by cases z), ⟨upd_same, rfl, fun i a z => by cases z⟩, rfl, fun p z => by cases z⟩ (fun i σ H' hi p => ?_) (fun σ H' p => ?_)
  · obtain ⟨v10, v16, as, ps, kvs, rfl, s1, hd1, hk1, hko, P, hpl, hpb⟩ := p
    repeat walk_at "w"
    refine ⟨st, _, rfl, by omega, by omega, s1, fun r H2 r0 r1 f2 s2 => ?_⟩
    repeat walk_at "w"
    refine ⟨st, L, r, rfl, s2, List.length_pos_iff.mp gL1, by omega, r0, by omega, fun w H3 hw hin f3 s3 => ?_⟩
    have f23 := f2.trans f3
    have hd3 := f23 _ _ (by simpa using nsk.symm) hd1
    have P3 := P.fr f23 (by simpa using nst.symm) (st_nt s1)
    have hw24 : w.length ≤ 24 := by omega
    repeat walk_at "w"
    refine w_tyL (SqL.of P3.lst) ?_
    repeat walk_at "w"
    refine ⟨st, kd, w, I, 1 + hid, kvs, by rw [← ehid]; rfl, s3, hd3, by omega, hko, by omega, List.length_pos_iff.mp gI1, by omega, okI, fun m H4 kvs' hm okm f4 s4 hd4 hk4 hko4 => ?_⟩
    have P4 : PairsAt H4 pp as ps := pairs_putK P3 f4 (fun x hx => by
      rcases List.mem_cons.mp hx with rfl | hx
      · obtain ⟨_, _, _, _, _, h1, _⟩ := s3
        exact .inr ⟨_, h1⟩
      · exact .inl (List.mem_singleton.mp hx)) hd3 (by simp; exact ⟨nst.symm, npk⟩)
    repeat walk_at "w"
    intro t ht
    have hlen := P4.len
    have hA : (upd H4 t (.tup [.str (tx w), .str (tx m)])) pp = some (.lst (as.map V.ref)) := by rw [upd_ne (ne_of_none P4.lst ht)]; exact P4.lst
    repeat walk_at "w"
    refine w_app hA (by rw [List.length_map]; omega) ?_
    repeat walk_at "w"
    refine ⟨_, _, as ++ [t], ps ++ [(w, m)], kvs', rfl, ?_, ?_, by omega, hko4, pairs_snoc P4 ht, by rw [List.length_append, hpl]; rfl, fun p hp => ?_⟩
    · exact StAt_put (xs := as.map V.ref) (s4.same (Same.new (o := .tup [.str (tx w), .str (tx m)]) ht)) hA nst (noint as)
    · rw [upd_ne npk.symm, upd_ne (ne_of_none hd4 ht)]
      exact hd4
    · rcases List.mem_append.mp hp with h | h
      · exact hpb p h
      · rw [List.mem_singleton.mp h]
        exact ⟨hw24, by show m.length ≤ 24; omega, fun c hc => okL c (hin c hc), okm⟩
  · rw [hz] at p
    obtain ⟨v10, v16, as, ps, kvs, rfl, s1, hd1, hk1, hko, P, hpl, hpb⟩ := p
    have st_pairs : ∀ {H H' : Hp} {as : List Addr} {ps : List Pr}, StAt H st → L2.Fr [st] H H' → PairsAt H pp as ps → PairsAt H' pp as ps := fun s f P => P.fr f (by simpa using nst.symm) (st_nt s)
    refine w_seqP (fun σ H' => ∃ v10 v16 v17 v18 v19 as ps, σ = [some (.ref a), some (.ref st), some (.str (tx L)), some (.str (tx I)), some (.int (1 + (hid : Int))), some (.int (k : Nat)), some (.int (many : Nat)), some (.int (lg : Nat)), some (.ref kd), some (.ref pp), v10, none, none, none, none, none, v16, v17, v18, v19] ∧
        StAt H' st ∧ PairsAt H' pp as ps ∧ ps.length = many ∧ ∀ p ∈ ps, Bd 25 p)
      (fun U go => ?_) (fun σ H9 p => ?_)
    · have b25 : ∀ p ∈ ps, Bd 25 p := fun p hp => by
        obtain ⟨h1, h2, h3, h4⟩ := hpb p hp
        exact ⟨by omega, by omega, h3, h4⟩
      repeat walk_at "w"
      refine w_iteD (fun hm0 => ?_) (fun _ => ?_)
      · repeat walk_at "w"
        refine ⟨st, 2, rfl, by omega, by omega, s1, fun r H2 r0 r1 f2 s2 => ?_⟩
        have P2 := st_pairs s1 f2 P
        repeat walk_at "w"
        refine w_iteD (fun _ => ?_) (fun _ => ?_)
        · repeat walk_at "w"
          refine ⟨st, _, rfl, by omega, by omega, s2, fun n H3 n0 n1 f3 s3 => ?_⟩
          obtain ⟨n, rfl⟩ := Int.eq_ofNat_of_zero_le n0
          have P3 := st_pairs s2 f3 P2
          obtain ⟨p, hp⟩ : ∃ p, ps[n]? = some p := ⟨_, List.getElem?_eq_getElem (by omega)⟩
          obtain ⟨a1, ha1, hap⟩ := P3.get hp
          obtain ⟨hb1, hb2, ok1, ok2⟩ := hpb p (List.mem_of_getElem? hp)
          have hix : atI (as.map V.ref) (n : Int) = some (.ref a1) := atI_nat (by rw [List.getElem?_map, ha1]; rfl)
          repeat walk_at "w"
          refine w_ixL (SqL.of P3.lst) hix ?_
          repeat walk_at "w"
          refine w_ixL (SqL.of P3.lst) hix ?_
          repeat walk_at "w"
          refine ⟨st, _, rfl, by omega, by omega, s3, fun wh H4 w0 w1 f4 s4 => ?_⟩
          obtain ⟨wh, rfl⟩ := Int.eq_ofNat_of_zero_le w0
          have P4 := st_pairs s3 f4 P3
          repeat walk_at "w"
          refine w_iteD (fun hlt => ?_) (fun _ => ?_)
          · repeat walk_at "w"
            refine ⟨st, _, rfl, by omega, by omega, s4, fun q H5 q0 q1 f5 s5 => ?_⟩
            obtain ⟨q, rfl⟩ := Int.eq_ofNat_of_zero_le q0
            have P5 := st_pairs s4 f5 P4
            have hq : q < I.length := by omega
            have hiq : I[q]? = some I[q] := List.getElem?_eq_getElem hq
            have oki : I[q] < 1114112 := okI _ (List.getElem_mem hq)
            repeat walk_at "w"
            intro t ht
            have hlen := P5.len
            have hnl : ixN (as.map V.ref).length (n : Int) = some n := by
              rw [List.length_map]
              unfold ixN
              rw [if_pos (by omega), if_pos (by omega)]
              rfl
            repeat walk_at "w"
            refine w_setL (xs := as.map V.ref) (j := n) (by rw [upd_ne (ne_of_none P5.lst ht)]; exact P5.lst) hnl ?_
            repeat walk_at "w"
            refine go _ _ ⟨_, _, _, _, _, as.set n t, _, rfl, ?_, pairs_set P5 ht, by rw [List.length_set]; exact hpl, fun p' hp' => ?_⟩
            · exact StAt_put (xs := as.map V.ref) (s5.same (Same.new ht)) (by rw [upd_ne (ne_of_none P5.lst ht)]; exact P5.lst) nst (noint as)
            · rcases List.mem_or_eq_of_mem_set hp' with h | h
              · exact b25 p' h
              · rw [h]
                refine ⟨by show p.1.length ≤ 25; omega, by simp only [List.length_append, List.length_singleton, List.length_take, List.length_drop]; omega, ok1, okT_app (okT_app (okT_take ok2) (okT_one oki)) (okT_drop ok2)⟩
          · repeat walk_at "w"
            exact go _ _ ⟨_, _, _, _, _, as, ps, rfl, s4, P4, hpl, b25⟩
        · repeat walk_at "w"
          exact go _ _ ⟨_, _, _, _, _, as, ps, rfl, s2, P2, hpl, b25⟩
      · repeat walk_at "z"
        exact go _ _ ⟨_, _, _, _, _, as, ps, rfl, s1, P, hpl, b25⟩
    obtain ⟨v10, v16, v17, v18, v19, as, ps, rfl, s9, P, hpl, hpb⟩ := p
    refine w_seqP (fun σ H' => ∃ v10 v16 v17 v18 v19 as ps, σ = [some (.ref a), some (.ref st), some (.str (tx L)), some (.str (tx I)), some (.int (1 + (hid : Int))), some (.int (k : Nat)), some (.int (many : Nat)), some (.int (lg : Nat)), some (.ref kd), some (.ref pp), v10, none, none, none, none, none, v16, v17, v18, v19] ∧
        StAt H' st ∧ PairsAt H' pp as ps ∧ ps.length = many ∧ ∀ p ∈ ps, Bd 27 p)
      (fun U go => ?_) (fun σ H10 p => ?_)
    · have up : ∀ {ps : List Pr} {B : Nat}, B ≤ 27 → (∀ p ∈ ps, Bd B p) → ∀ p ∈ ps, Bd 27 p := fun hB hb p hp => by
        obtain ⟨h1, h2, h3, h4⟩ := hb p hp
        exact ⟨by omega, by omega, h3, h4⟩
      repeat walk_at "w"
      refine w_iteD (fun hm0 => ?_) (fun _ => ?_)
      · repeat walk_at "w"
        refine ⟨st, 6, rfl, by omega, by omega, s9, fun r H2 r0 r1 f2 s2 => ?_⟩
        have P2 := st_pairs s9 f2 P
        repeat walk_at "w"
        refine w_iteD (fun _ => ?_) (fun _ => ?_)
        · repeat walk_at "w"
          refine ⟨st, pp, L, I, as, ps, 25, rfl, s2, P2, fun z => by rw [z] at hpl; simp at hpl; omega, by omega, hpb, by omega, List.length_pos_iff.mp gI1, by omega, okI, fun r3 H3 as3 ps3 f3 s3 P3 hl3 hb3 => ?_⟩
          repeat walk_at "w"
          refine ⟨st, 2, rfl, by omega, by omega, s3, fun r H4 r0 r1 f4 s4 => ?_⟩
          have P4 := st_pairs s3 f4 P3
          repeat walk_at "w"
          refine w_iteD (fun _ => ?_) (fun _ => ?_)
          · repeat walk_at "w"
            refine ⟨st, pp, L, I, as3, ps3, 26, rfl, s4, P4, fun z => by rw [z] at hl3; simp at hl3; omega, by omega, hb3, by omega, List.length_pos_iff.mp gI1, by omega, okI, fun r5 H5 as5 ps5 f5 s5 P5 hl5 hb5 => ?_⟩
            repeat walk_at "w"
            exact go _ _ ⟨_, _, _, _, _, as5, ps5, rfl, s5, P5, by omega, hb5⟩
          · repeat walk_at "w"
            exact go _ _ ⟨_, _, _, _, _, as3, ps3, rfl, s4, P4, by omega, up (by omega) hb3⟩
        · repeat walk_at "w"
          exact go _ _ ⟨_, _, _, _, _, as, ps, rfl, s2, P2, hpl, up (by omega) hpb⟩
      · repeat walk_at "z"
        exact go _ _ ⟨_, _, _, _, _, as, ps, rfl, s9, P, hpl, up (by omega) hpb⟩
    obtain ⟨v10, v16, v17, v18, v19, as, ps, rfl, s10, P, hpl, hpb⟩ := p
    have okP : OkP ps := fun p hp => (hpb p hp).2.2
    have Sm : Small ps := ⟨by omega, fun p hp => by
      obtain ⟨h1, h2, _⟩ := hpb p hp
      exact ⟨by omega, by omega⟩⟩
    have hlst := P.lst
    repeat walk_at "w"
    intro g hg
    have P11 : PairsAt (upd H10 g (.lst (as.map V.ref))) pp as ps := P.same (Same.new hg)
    have G11 : PairsAt (upd H10 g (.lst (as.map V.ref))) g as ps := ⟨upd_same, P.len, P11.at_⟩
    have s11 : StAt (upd H10 g (.lst (as.map V.ref))) st := s10.same (Same.new hg)
    have nsg : st ≠ g := st_ne s11 G11
    repeat walk_at "w"
    refine ⟨pp, L, I, as, ps, rfl, P11, Sm, by omega, by omega, fun nb H12 s12 => ?_, fun b fb H12 bp s12 hbp => ?_⟩
    · have P12 := P11.same s12
      have G12 := G11.same s12
      have t12 := s11.same s12
      repeat walk_at "z"
      refine ⟨by omega, by omega, fun D hD => ?_⟩
      have El : EqL ps := fun p hp => (nb p hp).2.2
      have nsD : st ≠ D := by
        obtain ⟨_, _, _, _, _, h1, _⟩ := t12
        exact ne_of_none h1 hD
      have npD : pp ≠ D := ne_of_none P12.lst hD
      have ngD : g ≠ D := ne_of_none G12.lst hD
      refine lcR (by decide) (fun i acc H' => ∃ ws : List (List Nat), acc = ws.map (fun w => V.str (tx w)) ∧ (∀ w ∈ ws, w.length ≤ 1000 ∧ AllIn L w) ∧ StAt H' st ∧ PairsAt H' pp as ps ∧ PairsAt H' g as ps)
        ⟨[], rfl, (fun w z => by cases z), t12.same (Same.new hD), P12.same (Same.new hD), G12.same (Same.new hD)⟩ (fun i acc H' hi hz hDa p => ?_) (fun acc H' hDa p => ?_)
      · obtain ⟨ws, rfl, hws, s1, P1, G1⟩ := p
        repeat walk_at "w"
        refine ⟨rfl, ?_⟩
        repeat walk_at "z"
        refine ⟨st, L, _, rfl, s1, List.length_pos_iff.mp gL1, by omega, by omega, by omega, fun w H2 hw hin f2 s2 => ?_⟩
        have hD2 := f2 _ _ (by simpa using nsD.symm) hDa
        refine LcT.mk hD2 hz (by omega) ⟨ws ++ [w], by rw [List.map_append]; rfl, fun x hx => ?_, StAt_put s2 hD2 nsD (fun i z => ?_), pairs_put (st_pairs s1 f2 P1) hD2 npD, pairs_put (G1.fr f2 (by simpa using nsg.symm) (st_nt s1)) hD2 ngD⟩
        · rcases List.mem_append.mp hx with h | h
          · exact hws x h
          · rw [List.mem_singleton.mp h]
            exact ⟨by omega, hin⟩
        · obtain ⟨_, _, e⟩ := List.mem_map.mp z
          cases e
      · obtain ⟨ws, rfl, hws, s1, P1, G1⟩ := p
        repeat walk_at "w"
        refine ⟨L, I, k, g, as, ps, rfl, gL, gI, G1, Sm, fun b fb => absurd nb (fb_no fb), fun _ hc H2 p t dx d s2 hp ht hd hd0 => ?_, fun _ aa bb H2 p1 p2 p cl s2 h1 h2 hp => ?_⟩
        · have P2 := P1.same s2
          repeat walk_at "z"
          refine w_neP (G1.same s2) P2 okP ?_
          repeat walk_at "z"
          refine ⟨_, _, _, _, true, rfl, .ty _, .base (.tup hp), kit_ty (by decide +kernel), w_bl ?_⟩
          repeat walk_at "z"
          refine ⟨pp, as, ps, k, rfl, P2, Sm, El, fun _ H3 td s3 htd htd0 => ?_, fun nc => absurd hc nc⟩
          have hp3 := s3 _ _ hp
          repeat walk_at "z"
          exact ⟨t, dx, d, td, pp, D, L, I, k, as, ps, ws, rfl, s3 _ _ ht, s3 _ _ hd, htd, ne_of_none hd htd0, P2.same s3, Sm, nb, hc, by omega, s3 _ _ (s2 _ _ hDa), hws, fun H4 s4 => fin _⟩
        · have P2 := P1.same s2
          have nc := clash_not cl
          repeat walk_at "z"
          refine w_neP (G1.same s2) P2 okP ?_
          repeat walk_at "z"
          refine ⟨_, _, _, _, true, rfl, .ty _, .base (.tup hp), kit_ty (by decide +kernel), w_bl ?_⟩
          repeat walk_at "z"
          refine ⟨pp, as, ps, k, rfl, P2, Sm, El, fun hc => absurd hc nc, fun _ H3 s3 => ?_⟩
          have hp3 := s3 _ _ hp
          repeat walk_at "z"
          exact ⟨pp, p, p1, p2, _, as, ps, k, aa, bb, rfl, P2.same s3, Sm, hp3, s3 _ _ h1, s3 _ _ h2, cl, fin _⟩
    · have P12 := P11.same s12
      have G12 := G11.same s12
      repeat walk_at "z"
      refine ⟨L, I, k, g, bp, as, ps, b, rfl, gL, gI, G12, Sm, fb, hbp, fun H13 s13 => ?_⟩
      repeat walk_at "z"
      refine w_eqP (G12.same s13) (P12.same s13) okP ?_
      exact fin _
end
end K87
set_option maxHeartbeats 4000000
namespace K87
open PySem PySem.Spec PyProof.Rows L2 He
section
variable {w : World} {K : PySem.W.Frag} {mg : Str → Option Value} {base : Heap}
theorem sc_check_letters : FnScope N_check_letters ["letters"] (defScope s_check_letters) := ⟨rfl, rfl, rfl, by decide +kernel, rfl, by decide +kernel, by decide +kernel⟩
theorem ok_check_letters (T : Tx K mg) : ∃ fd, FunD K d_check_letters.name d_check_letters.qual d_check_letters.params d_check_letters.body d_check_letters.scope [] [] (fAd K d_check_letters.at_) fd ∧ FnOk PP w K mg base (L2.CX PP w) 2 (fAd K d_check_letters.at_) fd ["letters"] spCL ∧ Binds K fd ["letters"] [] := by
  obtain ⟨fd, FF⟩ := T.df 0 (d := d_check_letters) rfl

  refine ⟨fd, FF, ?_, FF.bindsN fun _ _ _ _ _ _ us hl => match us, hl with | [_], _ => rfl⟩
  refine FunD.ok (k := 1) FF sc_check_letters (fun vs H Q E h => len_check_letters (K := K) h) (fun cdv A outer s H vs Q E hr h => ⟨t_check_letters K E, ?_, pure_check_letters T vs H Q E h⟩)
  exact (pss_cons (ps_if (PW.pt (pw_or (pt_cmpR o_lt (pe_callB c_lenS (by rfl) (T.fr 0 "len" rfl) (by decide +kernel) (pa_cons (pv 0) pa_nil)) pe_int (nomark _)) (pw_or1 (pt_cmpR o_gt (pe_callB c_lenS (by rfl) (T.fr 0 "len" rfl) (by decide +kernel) (pa_cons (pv 0) pa_nil)) (pe_glob rfl (T.kI 1 "MOST_KINDS_OF_LETTERS" 4 rfl).choose_spec ⟨_, rfl⟩) (nomark _))))) (pss_one (ps_raise rfl (takes_of rfl rfl rfl rfl) (T.pk0 2 3 "BadLetters" rfl rfl))) pss_nil)
      (pss_cons (ps_set (i := 1) sc_check_letters.nd rfl (Or.inl rfl) pe_str)
      (pss_one (ps_for (passes_of rfl) rfl (pi_str (pv 0)) (pg_name (i := 2) sc_check_letters.nd rfl (Or.inl rfl)) (pss_cons (ps_if (PW.pt (pw_or (pt_cmpR o_ninS (pv 2) (pe_glob rfl (T.kS 4 "SMALL" "abcdefghijklmnopqrstuvwxyz" rfl).choose_spec ⟨_, rfl⟩) (by rfl)) (pw_or1 (pt_cmpR o_leS (pv 2) (pv 1) (nomark _))))) (pss_one (ps_raise rfl (takes_of rfl rfl rfl rfl) (T.pk0 2 3 "BadLetters" rfl rfl))) pss_nil)
      (pss_one (ps_set (i := 1) sc_check_letters.nd rfl (Or.inl rfl) (pv 2))))))))

theorem sc_check_word : FnScope N_check_word ["letters", "word"] (defScope s_check_word) := ⟨rfl, rfl, rfl, by decide +kernel, rfl, by decide +kernel, by decide +kernel⟩
theorem ok_check_word (T : Tx K mg) : ∃ fd, FunD K d_check_word.name d_check_word.qual d_check_word.params d_check_word.body d_check_word.scope [] [] (fAd K d_check_word.at_) fd ∧ FnOk PP w K mg base (L2.CX PP w) 2 (fAd K d_check_word.at_) fd ["letters", "word"] (spCW K) ∧ Binds K fd ["letters", "word"] [] := by
  obtain ⟨fd, FF⟩ := T.df 1 (d := d_check_word) rfl

  refine ⟨fd, FF, ?_, FF.bindsN fun _ _ _ _ _ _ us hl => match us, hl with | [_, _], _ => rfl⟩
  refine FunD.ok (k := 1) FF sc_check_word (fun vs H Q E h => len_check_word (K := K) h) (fun cdv A outer s H vs Q E hr h => ⟨t_check_word K E, ?_, pure_check_word T vs H Q E h⟩)
  exact (pss_one (ps_for (passes_of rfl) rfl (pi_enumS rfl (T.fr 5 "enumerate" rfl) (pa_cons (pv 1) pa_nil)) (pg_tup rfl (pgs_cons (pg_name (i := 2) sc_check_word.nd rfl (Or.inl rfl)) (pgs_cons (pg_name (i := 3) sc_check_word.nd rfl (Or.inl rfl)) pgs_nil))) (pss_one (ps_if (pt_cmpR o_ninS (pv 3) (pv 0) (by rfl)) (pss_one (ps_raise rfl (takes_of rfl rfl rfl rfl) (pmk_two (T.ini 0 (d := i_BadWord) rfl).1 (T.ini 0 (d := i_BadWord) rfl).2 sh_BadWord nm_BadWord (T.fr 8 "super" rfl) (any_of T) top_super (T.na 6 "BadWord" "word" rfl) (T.na 7 "BadWord" "place" rfl) (by decide) hr (T.gl 9 "BadWord" rfl) (pa_cons (pv 1) (pa_cons (pv 2) pa_nil))))) pss_nil))))

theorem sc_view_at : FnScope N_view_at ["word", "at", "size"] (defScope s_view_at) := ⟨rfl, rfl, rfl, by decide +kernel, rfl, by decide +kernel, by decide +kernel⟩
theorem ok_view_at (T : Tx K mg) : ∃ fd, FunD K d_view_at.name d_view_at.qual d_view_at.params d_view_at.body d_view_at.scope [] [] (fAd K d_view_at.at_) fd ∧ FnOk PP w K mg base CX0 1 (fAd K d_view_at.at_) fd ["word", "at", "size"] spView ∧ Binds K fd ["word", "at", "size"] [] := by
  obtain ⟨fd, FF⟩ := T.df 2 (d := d_view_at) rfl

  refine ⟨fd, FF, ?_, FF.bindsN fun _ _ _ _ _ _ us hl => match us, hl with | [_, _, _], _ => rfl⟩
  refine FunD.ok (k := 0) FF sc_view_at (fun vs H Q E h => len_view_at (K := K) h) (fun cdv A outer s H vs Q E hr h => ⟨t_view_at K, PSs.nox (?_), pure_view_at T vs H Q E h⟩)
  exact (pss_one (ps_ret (pe_slice sl_str (pv 0) (po_some (pe_callB (c_max2 rfl) (by rfl) (T.fr 10 "max" rfl) (by decide +kernel) (pa_cons pe_int (pa_cons (pe_op o_add (pe_op o_sub (pv 1) (pv 2)) pe_int) pa_nil)))) (po_some (pe_op o_add (pv 1) pe_int)))))

theorem sc_tinit : FnScope N_tinit ["self", "letters", "images", "size", "table"] (defScope s_tinit) := ⟨rfl, rfl, rfl, by decide +kernel, rfl, by decide +kernel, by decide +kernel⟩
theorem ok_tinit (T : Tx K mg) : ∃ fd, FunD K d_tinit.name d_tinit.qual d_tinit.params d_tinit.body d_tinit.scope [] [] (fAd K d_tinit.at_) fd ∧ FnOk PP w K mg base CX0 3 (fAd K d_tinit.at_) fd ["self", "letters", "images", "size", "table"] (spTI K) ∧ Binds K fd ["self", "letters", "images", "size", "table"] [] := by
  obtain ⟨fd, FF⟩ := T.df 3 (d := d_tinit) rfl
  obtain ⟨fd_check_letters, FF_check_letters, G_check_letters, b_check_letters⟩ := ok_check_letters (w := w) (base := base) T
  have k_check_letters := FF_check_letters.kp
  refine ⟨fd, FF, ?_, FF.bindsN fun _ _ _ _ _ _ us hl => match us, hl with | [_, _, _, _, _], _ => rfl⟩
  refine FunD.ok (k := 2) FF sc_tinit (fun vs H Q E h => len_tinit (K := K) h) (fun cdv A outer s H vs Q E hr h => ⟨t_tinit K, PSs.nox (?_), pure_tinit T vs H Q E h⟩)
  exact (pss_cons (ps_expr (pe_call (E := E0) G_check_letters (hr.mono (by decide)) rfl (T.gl 11 "check_letters" rfl) k_check_letters b_check_letters .nil passL (pa_cons (pv 1) pa_nil)))
      (pss_cons (ps_expr (pe_call (E := E0) G_check_letters (hr.mono (by decide)) rfl (T.gl 11 "check_letters" rfl) k_check_letters b_check_letters .nil passL (pa_cons (pv 2) pa_nil)))
      (pss_cons (ps_fld (pv 0) (pv 1) rfl)
      (pss_cons (ps_fld (pv 0) (pv 2) rfl)
      (pss_cons (ps_fld (pv 0) (pv 3) rfl)
      (pss_one (ps_fld (pv 0) (pe_callTy c_dictD (by rfl) (T.fr 16 "dict" rfl) (by decide +kernel) (pa_cons (pv 4) pa_nil)) rfl)))))))

theorem sc_tcall : FnScope N_tcall ["self", "word"] (defScope s_tcall) := ⟨rfl, rfl, rfl, by decide +kernel, rfl, by decide +kernel, by decide +kernel⟩
theorem ok_tcall (T : Tx K mg) : ∃ fd, FunD K d_tcall.name d_tcall.qual d_tcall.params d_tcall.body d_tcall.scope [] [] (fAd K d_tcall.at_) fd ∧ FnOk PP w K mg base CX0 3 (fAd K d_tcall.at_) fd ["self", "word"] (spTC K) ∧ Binds K fd ["self", "word"] [] := by
  obtain ⟨fd, FF⟩ := T.df 4 (d := d_tcall) rfl
  obtain ⟨fd_check_word, FF_check_word, G_check_word, b_check_word⟩ := ok_check_word (w := w) (base := base) T
  have k_check_word := FF_check_word.kp
  obtain ⟨fd_view_at, FF_view_at, G_view_at, b_view_at⟩ := ok_view_at (w := w) (base := base) T
  have k_view_at := FF_view_at.kp
  refine ⟨fd, FF, ?_, FF.bindsN fun _ _ _ _ _ _ us hl => match us, hl with | [_, _], _ => rfl⟩
  refine FunD.ok (k := 2) FF sc_tcall (fun vs H Q E h => len_tcall (K := K) h) (fun cdv A outer s H vs Q E hr h => ⟨t_tcall K, PSs.nox (?_), pure_tcall T vs H Q E h⟩)
  exact (pss_cons (ps_expr (pe_call (E := E0) G_check_word (hr.mono (by decide)) rfl (T.gl 18 "check_word" rfl) k_check_word b_check_word .nil passL (pa_cons (pe_fld (pv 0) rfl) (pa_cons (pv 1) pa_nil))))
      (pss_cons (ps_set (i := 2) sc_tcall.nd rfl (Or.inl rfl) pe_str)
      (pss_cons (ps_for PassesOwn.never rfl (pi_range1 rfl (T.fr 19 "range" rfl) (pa_cons (pe_callB c_lenS (by rfl) (T.fr 0 "len" rfl) (by decide +kernel) (pa_cons (pv 1) pa_nil)) pa_nil)) (pg_name (i := 3) sc_tcall.nd rfl (Or.inl rfl)) (pss_cons (ps_set (i := 4) sc_tcall.nd rfl (Or.inl rfl) (pe_call (E := E0) G_view_at (hr.mono (by decide)) rfl (T.gl 20 "view_at" rfl) k_view_at b_view_at .nil pass0 (pa_cons (pv 1) (pa_cons (pv 3) (pa_cons (pe_fld (pv 0) rfl) pa_nil)))))
      (pss_cons (ps_if (pt_cmp (pc_dnotin (hu_of hr) (pv 4) (pe_fld (pv 0) rfl))) (pss_one (ps_ret pe_non)) pss_nil)
      (pss_one (ps_set (i := 2) sc_tcall.nd rfl (Or.inl rfl) (pe_op o_addS (pv 2) (pe_dget (hu_of hr) (pe_fld (pv 0) rfl) (pv 4) (fun _ _ => rfl))))))))
      (pss_one (ps_ret (pv 2))))))

theorem sc_check_pairs : FnScope N_check_pairs ["letters", "images", "pairs"] (defScope s_check_pairs) := ⟨rfl, rfl, rfl, by decide +kernel, rfl, by decide +kernel, by decide +kernel⟩
theorem ok_check_pairs (T : Tx K mg) : ∃ fd, FunD K d_check_pairs.name d_check_pairs.qual d_check_pairs.params d_check_pairs.body d_check_pairs.scope [] [] (fAd K d_check_pairs.at_) fd ∧ FnOk PP w K mg base (L2.CX PP w) 3 (fAd K d_check_pairs.at_) fd ["letters", "images", "pairs"] (spCP K) ∧ Binds K fd ["letters", "images", "pairs"] [] := by
  obtain ⟨fd, FF⟩ := T.df 5 (d := d_check_pairs) rfl
  obtain ⟨fd_check_letters, FF_check_letters, G_check_letters, b_check_letters⟩ := ok_check_letters (w := w) (base := base) T
  have k_check_letters := FF_check_letters.kp
  obtain ⟨fd_check_word, FF_check_word, G_check_word, b_check_word⟩ := ok_check_word (w := w) (base := base) T
  have k_check_word := FF_check_word.kp
  refine ⟨fd, FF, ?_, FF.bindsN fun _ _ _ _ _ _ us hl => match us, hl with | [_, _, _], _ => rfl⟩
  refine FunD.ok (k := 2) FF sc_check_pairs (fun vs H Q E h => len_check_pairs (K := K) h) (fun cdv A outer s H vs Q E hr h => ⟨t_check_pairs K E, ?_, pure_check_pairs T vs H Q E h⟩)
  exact (pss_cons (ps_expr (pe_call (E := E) G_check_letters (hr.mono (by decide)) rfl (T.gl 11 "check_letters" rfl) k_check_letters b_check_letters .nil (passes_call (takes_of rfl rfl rfl rfl) fun _ _ _ _ h => h) (pa_cons (pv 0) pa_nil)))
      (pss_cons (ps_expr (pe_call (E := E) G_check_letters (hr.mono (by decide)) rfl (T.gl 11 "check_letters" rfl) k_check_letters b_check_letters .nil (passes_call (takes_of rfl rfl rfl rfl) fun _ _ _ _ h => h) (pa_cons (pv 1) pa_nil)))
      (pss_one (ps_for (passes_of rfl) rfl (pi_enum rfl (T.fr 5 "enumerate" rfl) (pa_cons (pv 2) pa_nil)) (pg_tup rfl (pgs_cons (pg_name (i := 3) sc_check_pairs.nd rfl (Or.inl rfl)) (pgs_cons (pg_name (i := 4) sc_check_pairs.nd rfl (Or.inl rfl)) pgs_nil))) (pss_cons (ps_expr (pe_call (E := E) G_check_word (hr.mono (by decide)) rfl (T.gl 18 "check_word" rfl) k_check_word b_check_word .nil (passes_call (takes_of rfl rfl rfl rfl) fun _ _ _ _ h => h) (pa_cons (pv 0) (pa_cons (pe_ix ix_tup (pv 4) pe_int (fun _ _ => rfl)) pa_nil))))
      (pss_cons (ps_expr (pe_call (E := E) G_check_word (hr.mono (by decide)) rfl (T.gl 18 "check_word" rfl) k_check_word b_check_word .nil (passes_call (takes_of rfl rfl rfl rfl) fun _ _ _ _ h => h) (pa_cons (pv 1) (pa_cons (pe_ix ix_tup (pv 4) pe_int (fun _ _ => rfl)) pa_nil))))
      (pss_one (ps_if (pt_cmpR o_ne (pe_callB c_lenS (by rfl) (T.fr 0 "len" rfl) (by decide +kernel) (pa_cons (pe_ix ix_tup (pv 4) pe_int (fun _ _ => rfl)) pa_nil)) (pe_callB c_lenS (by rfl) (T.fr 0 "len" rfl) (by decide +kernel) (pa_cons (pe_ix ix_tup (pv 4) pe_int (fun _ _ => rfl)) pa_nil)) (nomark _)) (pss_one (ps_raise rfl (takes_of rfl rfl rfl rfl) (pmk_one (T.ini 1 (d := i_BadText) rfl).1 (T.ini 1 (d := i_BadText) rfl).2 sh_BadText nm_BadText (T.fr 8 "super" rfl) (any_of T) top_super (T.na 21 "BadText" "line" rfl)  hr (T.gl 22 "BadText" rfl) (pa_cons (pv 3) pa_nil)))) pss_nil))))))))

theorem sc_first_clash : FnScope N_first_clash ["pairs", "size"] (defScope s_first_clash) := ⟨rfl, rfl, rfl, by decide +kernel, rfl, by decide +kernel, by decide +kernel⟩
theorem ok_first_clash (T : Tx K mg) : ∃ fd, FunD K d_first_clash.name d_first_clash.qual d_first_clash.params d_first_clash.body d_first_clash.scope [] [] (fAd K d_first_clash.at_) fd ∧ FnOk PP w K mg base CX0 2 (fAd K d_first_clash.at_) fd ["pairs", "size"] (spFC K) ∧ Binds K fd ["pairs", "size"] [] := by
  obtain ⟨fd, FF⟩ := T.df 6 (d := d_first_clash) rfl
  obtain ⟨fd_view_at, FF_view_at, G_view_at, b_view_at⟩ := ok_view_at (w := w) (base := base) T
  have k_view_at := FF_view_at.kp
  refine ⟨fd, FF, ?_, FF.bindsN fun _ _ _ _ _ _ us hl => match us, hl with | [_, _], _ => rfl⟩
  refine FunD.ok (k := 1) FF sc_first_clash (fun vs H Q E h => len_first_clash (K := K) h) (fun cdv A outer s H vs Q E hr h => ⟨t_first_clash K, PSs.nox (?_), pure_first_clash T vs H Q E h⟩)
  exact (pss_cons (ps_set (i := 2) sc_first_clash.nd rfl (Or.inl rfl) pe_dnewK)
      (pss_cons (ps_for PassesOwn.never rfl (pi_enum rfl (T.fr 5 "enumerate" rfl) (pa_cons (pv 0) pa_nil)) (pg_tup rfl (pgs_cons (pg_name (i := 3) sc_first_clash.nd rfl (Or.inl rfl)) (pgs_cons (pg_tup rfl (pgs_cons (pg_name (i := 5) sc_first_clash.nd rfl (Or.inl rfl)) (pgs_cons (pg_name (i := 6) sc_first_clash.nd rfl (Or.inl rfl)) pgs_nil))) pgs_nil))) (pss_one (ps_for PassesOwn.never rfl (pi_range1 rfl (T.fr 19 "range" rfl) (pa_cons (pe_callB c_lenS (by rfl) (T.fr 0 "len" rfl) (by decide +kernel) (pa_cons (pv 5) pa_nil)) pa_nil)) (pg_name (i := 4) sc_first_clash.nd rfl (Or.inl rfl)) (pss_cons (ps_set (i := 7) sc_first_clash.nd rfl (Or.inl rfl) (pe_call (E := E0) G_view_at (hr.mono (by decide)) rfl (T.gl 20 "view_at" rfl) k_view_at b_view_at .nil pass0 (pa_cons (pv 5) (pa_cons (pv 4) (pa_cons (pv 1) pa_nil)))))
      (pss_cons (ps_set (i := 8) sc_first_clash.nd rfl (Or.inl rfl) (pe_dsetd (pv 2) (pv 7) (pe_tup (pa_cons (pv 3) (pa_cons (pv 4) pa_nil))) ⟨rfl, rfl, rfl, rfl⟩))
      (pss_one (ps_if (pt_cmpR o_ne (pe_ix ix_str (pe_ix ix_tup (pe_ix ix_list (pv 0) (pe_ix ix_tup (pv 8) pe_int (fun _ _ => rfl)) (fun _ _ => rfl)) pe_int (fun _ _ => rfl)) (pe_ix ix_tup (pv 8) pe_int (fun _ _ => rfl)) (fun _ _ => rfl)) (pe_ix ix_str (pv 6) (pv 4) (fun _ _ => rfl)) (nomark _)) (pss_one (ps_ret (pe_tup (pa_cons (pv 8) (pa_cons (pe_tup (pa_cons (pv 3) (pa_cons (pv 4) pa_nil))) pa_nil))))) pss_nil)))))))
      (pss_one (ps_ret pe_non))))

theorem sc_fit_turner : FnScope N_fit_turner ["letters", "images", "size", "pairs"] (defScope s_fit_turner) := ⟨rfl, rfl, rfl, by decide +kernel, rfl, by decide +kernel, by decide +kernel⟩
theorem ok_fit_turner (T : Tx K mg) : ∃ fd, FunD K d_fit_turner.name d_fit_turner.qual d_fit_turner.params d_fit_turner.body d_fit_turner.scope [] [] (fAd K d_fit_turner.at_) fd ∧ FnOk PP w K mg base (L2.CX PP w) 5 (fAd K d_fit_turner.at_) fd ["letters", "images", "size", "pairs"] (spFit K) ∧ Binds K fd ["letters", "images", "size", "pairs"] [] := by
  obtain ⟨fd, FF⟩ := T.df 7 (d := d_fit_turner) rfl
  obtain ⟨fd_check_pairs, FF_check_pairs, G_check_pairs, b_check_pairs⟩ := ok_check_pairs (w := w) (base := base) T
  have k_check_pairs := FF_check_pairs.kp
  obtain ⟨fd_first_clash, FF_first_clash, G_first_clash, b_first_clash⟩ := ok_first_clash (w := w) (base := base) T
  have k_first_clash := FF_first_clash.kp
  obtain ⟨fd_view_at, FF_view_at, G_view_at, b_view_at⟩ := ok_view_at (w := w) (base := base) T
  have k_view_at := FF_view_at.kp
  obtain ⟨fd_tinit, FF_tinit, G_tinit, b_tinit⟩ := ok_tinit (w := w) (base := base) T
  have k_tinit := FF_tinit.kp
  refine ⟨fd, FF, ?_, FF.bindsN fun _ _ _ _ _ _ us hl => match us, hl with | [_, _, _, _], _ => rfl⟩
  refine FunD.ok (k := 4) FF sc_fit_turner (fun vs H Q E h => len_fit_turner (K := K) h) (fun cdv A outer s H vs Q E hr h => ⟨t_fit_turner K E, ?_, pure_fit_turner T vs H Q E h⟩)
  exact (pss_cons (ps_expr (pe_call (E := E) G_check_pairs (hr.mono (by decide)) rfl (T.gl 23 "check_pairs" rfl) k_check_pairs b_check_pairs .nil (passes_call (takes_of rfl rfl rfl rfl) fun _ _ _ _ h => h) (pa_cons (pv 0) (pa_cons (pv 1) (pa_cons (pv 3) pa_nil)))))
      (pss_cons (ps_set (i := 4) sc_fit_turner.nd rfl (Or.inl rfl) (pe_call (E := E0) G_first_clash (hr.mono (by decide)) rfl (T.gl 24 "first_clash" rfl) k_first_clash b_first_clash .nil pass0 (pa_cons (pv 3) (pa_cons (pv 2) pa_nil))))
      (pss_cons (ps_if (pt_cmpR o_notN (pv 4) pe_non (nomark _)) (pss_one (ps_ret (pe_tup (pa_cons pe_str (pa_cons (pe_ix ix_tup (pv 4) pe_int (fun _ _ => rfl)) (pa_cons (pe_ix ix_tup (pv 4) pe_int (fun _ _ => rfl)) pa_nil)))))) pss_nil)
      (pss_cons (ps_set (i := 5) sc_fit_turner.nd rfl (Or.inl rfl) pe_dnewK)
      (pss_cons (ps_for (passes_of rfl) rfl (pi_list (pv 3)) (pg_tup rfl (pgs_cons (pg_name (i := 6) sc_fit_turner.nd rfl (Or.inl rfl)) (pgs_cons (pg_name (i := 7) sc_fit_turner.nd rfl (Or.inl rfl)) pgs_nil))) (pss_one (ps_for (passes_of rfl) rfl (pi_range1 rfl (T.fr 19 "range" rfl) (pa_cons (pe_callB c_lenS (by rfl) (T.fr 0 "len" rfl) (by decide +kernel) (pa_cons (pv 6) pa_nil)) pa_nil)) (pg_name (i := 8) sc_fit_turner.nd rfl (Or.inl rfl)) (pss_one (ps_dput (hu_of hr) (pv 5) (pe_call (E := E0) G_view_at (hr.mono (by decide)) rfl (T.gl 20 "view_at" rfl) k_view_at b_view_at .nil pass0 (pa_cons (pv 6) (pa_cons (pv 8) (pa_cons (pv 2) pa_nil)))) (pe_ix ix_str (pv 7) (pv 8) (fun _ _ => rfl)) rfl)))))
      (pss_one (ps_ret (pe_tup (pa_cons pe_str (pa_cons (pe_make (E := E0) (T.mkc 25 "Turner" rfl) G_tinit (hr.mono (by decide)) rfl (T.gl 26 "Turner" rfl) b_tinit .nil pass0 (pa_cons (pv 0) (pa_cons (pv 1) (pa_cons (pv 2) (pa_cons (pv 5) pa_nil))))) pa_nil))))))))))

theorem sc_start : FnScope N_start ["script"] (defScope s_start) := ⟨rfl, rfl, rfl, by decide +kernel, rfl, by decide +kernel, by decide +kernel⟩
theorem ok_start (T : Tx K mg) : ∃ fd, FunD K d_start.name d_start.qual d_start.params d_start.body d_start.scope [] [] (fAd K d_start.at_) fd ∧ FnOk PP w K mg base CX0 1 (fAd K d_start.at_) fd ["script"] (spStart K) ∧ Binds K fd ["script"] [] := by
  obtain ⟨fd, FF⟩ := T.df 8 (d := d_start) rfl

  refine ⟨fd, FF, ?_, FF.bindsN fun _ _ _ _ _ _ us hl => match us, hl with | [_], _ => rfl⟩
  refine FunD.ok (k := 0) FF sc_start (fun vs H Q E h => len_start (K := K) h) (fun cdv A outer s H vs Q E hr h => ⟨t_dstart K, PSs.nox (?_), pure_dstart vs H Q E h⟩)
  exact (pss_cons (ps_setLc (i := 1) (own := [("cell", 2)]) (g := gName 2) (tt := tYes) rfl sc_start.nd rfl rfl (sw_true rfl rfl rfl (by decide +kernel)) (pi_list (pv 0)) (blkOk_by (N := N_start) (sc := (defScope s_start)) (by decide +kernel)) (fun _ _ _ _ _ => pg_name (i := 2) sc_start.nd rfl (Or.inl rfl)) (fun _ _ _ _ _ => pts_nil) (fun _ _ _ _ _ => (pe_callB c_abs (by rfl) (T.fr 27 "abs" rfl) (by decide +kernel) (pa_cons (pv 2) pa_nil))))
      (pss_cons (ps_if (pt_cmpR o_eq (pe_callB c_lenQ (by rfl) (T.fr 0 "len" rfl) (by decide +kernel) (pa_cons (pv 1) pa_nil)) pe_int (nomark _)) (pss_one (ps_set (i := 1) sc_start.nd rfl (Or.inl rfl) (pe_lst (pa_cons pe_int pa_nil)))) pss_nil)
      (pss_one (ps_ret (pe_lst (pa_cons (pv 1) (pa_cons pe_int (pa_cons pe_int (pa_cons pe_int pa_nil)))))))))

theorem sc_next : FnScope N_next ["state", "many"] (defScope s_next) := ⟨rfl, rfl, rfl, by decide +kernel, rfl, by decide +kernel, by decide +kernel⟩
theorem ok_next (T : Tx K mg) : ∃ fd, FunD K d_next.name d_next.qual d_next.params d_next.body d_next.scope [] [] (fAd K d_next.at_) fd ∧ FnOk PP w K mg base CX0 1 (fAd K d_next.at_) fd ["state", "many"] spNext ∧ Binds K fd ["state", "many"] [] := by
  obtain ⟨fd, FF⟩ := T.df 9 (d := d_next) rfl

  refine ⟨fd, FF, ?_, FF.bindsN fun _ _ _ _ _ _ us hl => match us, hl with | [_, _], _ => rfl⟩
  refine FunD.ok (k := 0) FF sc_next (fun vs H Q E h => len_next (K := K) h) (fun cdv A outer s H vs Q E hr h => ⟨t_dnext K, PSs.nox (?_), pure_dnext vs H Q E h⟩)
  exact (pss_cons (ps_set (i := 2) sc_next.nd rfl (Or.inl rfl) (pe_ix ix_list (pv 0) pe_int (fun _ _ => rfl)))
      (pss_cons (ps_set (i := 3) sc_next.nd rfl (Or.inl rfl) (pe_ix ix_list (pv 2) (pe_op o_mod (pe_callTy c_int1 (by rfl) (T.fr 28 "int" rfl) (by decide +kernel) (pa_cons (pe_ix ix_list (pv 0) pe_int (fun _ _ => rfl)) pa_nil)) (pe_callB c_lenQ (by rfl) (T.fr 0 "len" rfl) (by decide +kernel) (pa_cons (pv 2) pa_nil))) (fun _ _ => rfl)))
      (pss_cons (ps_if (PW.pt (pw_and (pt_cmpR o_ge (pv 3) (pe_op o_pow pe_int pe_int) (nomark _)) (pw_and1 (pt_cmpR o_lt (pe_ix ix_list (pv 0) pe_int (fun _ _ => rfl)) (pe_callB c_lenQ (by rfl) (T.fr 0 "len" rfl) (by decide +kernel) (pa_cons (pv 2) pa_nil)) (nomark _))))) (pss_cons (ps_if (pt_cmpR o_eq (pe_ix ix_list (pv 0) pe_int (fun _ _ => rfl)) pe_int (nomark _)) (pss_one (ps_asg (pv 3) (pg_sub (pv 0) pe_int set_list))) pss_nil)
      (pss_cons (ps_set (i := 6) sc_next.nd rfl (Or.inl rfl) (pe_op o_mod (pe_callTy c_int1 (by rfl) (T.fr 28 "int" rfl) (by decide +kernel) (pa_cons (pe_ix ix_list (pv 0) pe_int (fun _ _ => rfl)) pa_nil)) (pv 1)))
      (pss_cons (ps_asg (pe_op o_div (pe_callTy c_int1 (by rfl) (T.fr 28 "int" rfl) (by decide +kernel) (pa_cons (pe_ix ix_list (pv 0) pe_int (fun _ _ => rfl)) pa_nil)) (pv 1)) (pg_sub (pv 0) pe_int set_list))
      (pss_cons (ps_asg (pe_op o_add (pe_ix ix_list (pv 0) pe_int (fun _ _ => rfl)) pe_int) (pg_sub (pv 0) pe_int set_list))
      (pss_cons (ps_if (PW.pt (pw_or (pt_cmpR o_eq (pe_ix ix_list (pv 0) pe_int (fun _ _ => rfl)) pe_int (nomark _)) (pw_or1 (pt_cmpR o_ge (pe_ix ix_list (pv 0) pe_int (fun _ _ => rfl)) pe_int (nomark _))))) (pss_cons (ps_asg (pe_op o_add (pe_ix ix_list (pv 0) pe_int (fun _ _ => rfl)) pe_int) (pg_sub (pv 0) pe_int set_list))
      (pss_one (ps_asg pe_int (pg_sub (pv 0) pe_int set_list)))) pss_nil)
      (pss_one (ps_ret (pv 6)))))))) pss_nil)
      (pss_cons (ps_set (i := 4) sc_next.nd rfl (Or.inl rfl) (pe_op o_add (pe_ix ix_list (pv 0) pe_int (fun _ _ => rfl)) (pe_op o_mul pe_int (pe_ix ix_list (pv 0) pe_int (fun _ _ => rfl)))))
      (pss_cons (ps_set (i := 5) sc_next.nd rfl (Or.inl rfl) (pe_op o_mul (pe_op o_add (pe_op o_mod (pe_callTy c_int1 (by rfl) (T.fr 28 "int" rfl) (by decide +kernel) (pa_cons (pv 3) pa_nil)) pe_int) pe_int) (pe_op o_add pe_int (pe_op o_mul pe_int (pv 4)))))
      (pss_cons (ps_set (i := 5) sc_next.nd rfl (Or.inl rfl) (pe_op o_mod (pe_callTy c_int1 (by rfl) (T.fr 28 "int" rfl) (by decide +kernel) (pa_cons (pv 5) pa_nil)) pe_int))
      (pss_cons (ps_set (i := 5) sc_next.nd rfl (Or.inl rfl) (pe_op o_mod (pe_callTy c_int1 (by rfl) (T.fr 28 "int" rfl) (by decide +kernel) (pa_cons (pe_op o_add (pe_op o_add (pe_op o_mul (pv 5) (pv 5)) (pe_op o_mul pe_int (pv 4))) pe_int) pa_nil)) pe_int))
      (pss_cons (ps_asg (pe_op o_add (pe_ix ix_list (pv 0) pe_int (fun _ _ => rfl)) pe_int) (pg_sub (pv 0) pe_int set_list))
      (pss_cons (ps_if (pt_cmpR o_ge (pe_ix ix_list (pv 0) pe_int (fun _ _ => rfl)) pe_int (nomark _)) (pss_cons (ps_asg (pe_op o_add (pe_ix ix_list (pv 0) pe_int (fun _ _ => rfl)) pe_int) (pg_sub (pv 0) pe_int set_list))
      (pss_one (ps_asg pe_int (pg_sub (pv 0) pe_int set_list)))) pss_nil)
      (pss_one (ps_ret (pe_op o_mod (pe_callTy c_int1 (by rfl) (T.fr 28 "int" rfl) (by decide +kernel) (pa_cons (pe_op o_div (pv 5) pe_int) pa_nil)) (pv 1)))))))))))))

theorem sc_integer : FnScope N_integer ["actual"] (defScope s_integer) := ⟨rfl, rfl, rfl, by decide +kernel, rfl, by decide +kernel, by decide +kernel⟩
theorem ok_integer (T : Tx K mg) : ∃ fd, FunD K d_integer.name d_integer.qual d_integer.params d_integer.body d_integer.scope [] [] (fAd K d_integer.at_) fd ∧ FnOk PP w K mg base CX0 1 (fAd K d_integer.at_) fd ["actual"] spInt ∧ Binds K fd ["actual"] [] := by
  obtain ⟨fd, FF⟩ := T.df 10 (d := d_integer) rfl

  refine ⟨fd, FF, ?_, FF.bindsN fun _ _ _ _ _ _ us hl => match us, hl with | [_], _ => rfl⟩
  refine FunD.ok (k := 0) FF sc_integer (fun vs H Q E h => len_integer (K := K) h) (fun cdv A outer s H vs Q E hr h => ⟨t_integer K, PSs.nox (?_), pure_integer T vs H Q E h⟩)
  exact (pss_one (ps_ret (pe_and (pe_callB c_isi (by rfl) (T.fr 30 "isinstance" rfl) (by decide +kernel) (pa_cons (pv 0) (pa_cons (pe_bltn (v := .ty "int") rfl (T.fr 28 "int" rfl) (by decide +kernel) rfl) pa_nil))) (pe_one (pe_not (pe_callB c_isi (by rfl) (T.fr 30 "isinstance" rfl) (by decide +kernel) (pa_cons (pv 0) (pa_cons (pe_bltn (v := .ty "bool") rfl (T.fr 29 "bool" rfl) (by decide +kernel) rfl) pa_nil))))))))

theorem sc_word : FnScope N_word ["state", "letters", "size"] (defScope s_word) := ⟨rfl, rfl, rfl, by decide +kernel, rfl, by decide +kernel, by decide +kernel⟩
theorem ok_word (T : Tx K mg) : ∃ fd, FunD K d_word.name d_word.qual d_word.params d_word.body d_word.scope [] [] (fAd K d_word.at_) fd ∧ FnOk PP w K mg base CX0 2 (fAd K d_word.at_) fd ["state", "letters", "size"] spWord ∧ Binds K fd ["state", "letters", "size"] [] := by
  obtain ⟨fd, FF⟩ := T.df 11 (d := d_word) rfl
  obtain ⟨fd_next, FF_next, G_next, b_next⟩ := ok_next (w := w) (base := base) T
  have k_next := FF_next.kp
  refine ⟨fd, FF, ?_, FF.bindsN fun _ _ _ _ _ _ us hl => match us, hl with | [_, _, _], _ => rfl⟩
  refine FunD.ok (k := 1) FF sc_word (fun vs H Q E h => len_word (K := K) h) (fun cdv A outer s H vs Q E hr h => ⟨t_word K, PSs.nox (?_), pure_word T vs H Q E h⟩)
  exact (pss_cons (ps_set (i := 3) sc_word.nd rfl (Or.inl rfl) pe_str)
      (pss_cons (ps_for PassesOwn.never rfl (pi_range1 rfl (T.fr 19 "range" rfl) (pa_cons (pv 2) pa_nil)) (pg_name (i := 4) sc_word.nd rfl (Or.inl rfl)) (pss_one (ps_set (i := 3) sc_word.nd rfl (Or.inl rfl) (pe_op o_addS (pv 3) (pe_ix ix_str (pv 1) (pe_call (E := E0) G_next (hr.mono (by decide)) rfl (T.gl 31 "_law_next" rfl) k_next b_next .nil pass0 (pa_cons (pv 0) (pa_cons (pe_callB c_lenS (by rfl) (T.fr 0 "len" rfl) (by decide +kernel) (pa_cons (pv 1) pa_nil)) pa_nil))) (fun _ _ => rfl))))))
      (pss_one (ps_ret (pv 3)))))

theorem sc_lview : FnScope N_lview ["word", "at", "size"] (defScope s_lview) := ⟨rfl, rfl, rfl, by decide +kernel, rfl, by decide +kernel, by decide +kernel⟩
theorem ok_lview (T : Tx K mg) : ∃ fd, FunD K d_lview.name d_lview.qual d_lview.params d_lview.body d_lview.scope [] [] (fAd K d_lview.at_) fd ∧ FnOk PP w K mg base CX0 1 (fAd K d_lview.at_) fd ["word", "at", "size"] spView ∧ Binds K fd ["word", "at", "size"] [] := by
  obtain ⟨fd, FF⟩ := T.df 12 (d := d_lview) rfl

  refine ⟨fd, FF, ?_, FF.bindsN fun _ _ _ _ _ _ us hl => match us, hl with | [_, _, _], _ => rfl⟩
  refine FunD.ok (k := 0) FF sc_lview (fun vs H Q E h => len_lview (K := K) h) (fun cdv A outer s H vs Q E hr h => ⟨t_lview K, PSs.nox (?_), pure_lview T vs H Q E h⟩)
  exact (pss_one (ps_ret (pe_slice sl_str (pv 0) (po_some (pe_callB (c_max2 rfl) (by rfl) (T.fr 10 "max" rfl) (by decide +kernel) (pa_cons pe_int (pa_cons (pe_op o_add (pe_op o_sub (pv 1) (pv 2)) pe_int) pa_nil)))) (po_some (pe_op o_add (pv 1) pe_int)))))

theorem sc_image : FnScope N_image ["state", "known", "word", "images", "size"] (defScope s_image) := ⟨rfl, rfl, rfl, by decide +kernel, rfl, by decide +kernel, by decide +kernel⟩
theorem ok_image (T : Tx K mg) : ∃ fd, FunD K d_image.name d_image.qual d_image.params d_image.body d_image.scope [] [] (fAd K d_image.at_) fd ∧ FnOk PP w K mg base CX0 2 (fAd K d_image.at_) fd ["state", "known", "word", "images", "size"] spImage ∧ Binds K fd ["state", "known", "word", "images", "size"] [] := by
  obtain ⟨fd, FF⟩ := T.df 13 (d := d_image) rfl
  obtain ⟨fd_lview, FF_lview, G_lview, b_lview⟩ := ok_lview (w := w) (base := base) T
  have k_lview := FF_lview.kp
  obtain ⟨fd_next, FF_next, G_next, b_next⟩ := ok_next (w := w) (base := base) T
  have k_next := FF_next.kp
  refine ⟨fd, FF, ?_, FF.bindsN fun _ _ _ _ _ _ us hl => match us, hl with | [_, _, _, _, _], _ => rfl⟩
  refine FunD.ok (k := 1) FF sc_image (fun vs H Q E h => len_image (K := K) h) (fun cdv A outer s H vs Q E hr h => ⟨t_image K, PSs.nox (?_), pure_image T vs H Q E h⟩)
  exact (pss_cons (ps_set (i := 5) sc_image.nd rfl (Or.inl rfl) pe_str)
      (pss_cons (ps_for PassesOwn.never rfl (pi_range1 rfl (T.fr 19 "range" rfl) (pa_cons (pe_callB c_lenS (by rfl) (T.fr 0 "len" rfl) (by decide +kernel) (pa_cons (pv 2) pa_nil)) pa_nil)) (pg_name (i := 6) sc_image.nd rfl (Or.inl rfl)) (pss_cons (ps_set (i := 7) sc_image.nd rfl (Or.inl rfl) (pe_call (E := E0) G_lview (hr.mono (by decide)) rfl (T.gl 32 "_law_view" rfl) k_lview b_lview .nil pass0 (pa_cons (pv 2) (pa_cons (pv 6) (pa_cons (pv 4) pa_nil)))))
      (pss_cons (ps_if (pt_cmp (pc_dnotin (hu_of hr) (pv 7) (pv 1))) (pss_one (ps_dput (hu_of hr) (pv 1) (pv 7) (pe_ix ix_str (pv 3) (pe_call (E := E0) G_next (hr.mono (by decide)) rfl (T.gl 31 "_law_next" rfl) k_next b_next .nil pass0 (pa_cons (pv 0) (pa_cons (pe_callB c_lenS (by rfl) (T.fr 0 "len" rfl) (by decide +kernel) (pa_cons (pv 3) pa_nil)) pa_nil))) (fun _ _ => rfl)) rfl)) pss_nil)
      (pss_one (ps_set (i := 5) sc_image.nd rfl (Or.inl rfl) (pe_op o_addS (pv 5) (pe_dget (hu_of hr) (pv 1) (pv 7) (fun _ _ => rfl))))))))
      (pss_one (ps_ret (pv 5)))))

theorem sc_table : FnScope N_table ["pairs", "size"] (defScope s_table) := ⟨rfl, rfl, rfl, by decide +kernel, rfl, by decide +kernel, by decide +kernel⟩
theorem ok_table (T : Tx K mg) : ∃ fd, FunD K d_table.name d_table.qual d_table.params d_table.body d_table.scope [] [] (fAd K d_table.at_) fd ∧ FnOk PP w K mg base CX0 2 (fAd K d_table.at_) fd ["pairs", "size"] (spTable K) ∧ Binds K fd ["pairs", "size"] [] := by
  obtain ⟨fd, FF⟩ := T.df 14 (d := d_table) rfl
  obtain ⟨fd_lview, FF_lview, G_lview, b_lview⟩ := ok_lview (w := w) (base := base) T
  have k_lview := FF_lview.kp
  refine ⟨fd, FF, ?_, FF.bindsN fun _ _ _ _ _ _ us hl => match us, hl with | [_, _], _ => rfl⟩
  refine FunD.ok (k := 1) FF sc_table (fun vs H Q E h => len_table (K := K) h) (fun cdv A outer s H vs Q E hr h => ⟨t_table K, PSs.nox (?_), pure_table T vs H Q E h⟩)
  exact (pss_cons (ps_set (i := 2) sc_table.nd rfl (Or.inl rfl) pe_dnewK)
      (pss_cons (ps_for PassesOwn.never rfl (pi_list (pv 0)) (pg_name (i := 3) sc_table.nd rfl (Or.inl rfl)) (pss_one (ps_for PassesOwn.never rfl (pi_range1 rfl (T.fr 19 "range" rfl) (pa_cons (pe_callB c_lenS (by rfl) (T.fr 0 "len" rfl) (by decide +kernel) (pa_cons (pe_ix ix_tup (pv 3) pe_int (fun _ _ => rfl)) pa_nil)) pa_nil)) (pg_name (i := 4) sc_table.nd rfl (Or.inl rfl)) (pss_cons (ps_set (i := 5) sc_table.nd rfl (Or.inl rfl) (pe_call (E := E0) G_lview (hr.mono (by decide)) rfl (T.gl 32 "_law_view" rfl) k_lview b_lview .nil pass0 (pa_cons (pe_ix ix_tup (pv 3) pe_int (fun _ _ => rfl)) (pa_cons (pv 4) (pa_cons (pv 1) pa_nil)))))
      (pss_cons (ps_if (PW.pt (pw_and (pt_cmp (pc_din (hu_of hr) (pv 5) (pv 2))) (pw_and1 (pt_cmpR o_ne (pe_dget (hu_of hr) (pv 2) (pv 5) (fun _ _ => rfl)) (pe_ix ix_str (pe_ix ix_tup (pv 3) pe_int (fun _ _ => rfl)) (pv 4) (fun _ _ => rfl)) (nomark _))))) (pss_one (ps_ret pe_non)) pss_nil)
      (pss_one (ps_dput (hu_of hr) (pv 2) (pv 5) (pe_ix ix_str (pe_ix ix_tup (pv 3) pe_int (fun _ _ => rfl)) (pv 4) (fun _ _ => rfl)) rfl)))))))
      (pss_one (ps_ret (pv 2)))))

theorem sc_place : FnScope N_place ["pairs", "place"] (defScope s_place) := ⟨rfl, rfl, rfl, by decide +kernel, rfl, by decide +kernel, by decide +kernel⟩
theorem ok_place (T : Tx K mg) : ∃ fd, FunD K d_place.name d_place.qual d_place.params d_place.body d_place.scope [] [] (fAd K d_place.at_) fd ∧ FnOk PP w K mg base CX0 2 (fAd K d_place.at_) fd ["pairs", "place"] (spPlace K) ∧ Binds K fd ["pairs", "place"] [] := by
  obtain ⟨fd, FF⟩ := T.df 15 (d := d_place) rfl
  obtain ⟨fd_integer, FF_integer, G_integer, b_integer⟩ := ok_integer (w := w) (base := base) T
  have k_integer := FF_integer.kp
  refine ⟨fd, FF, ?_, FF.bindsN fun _ _ _ _ _ _ us hl => match us, hl with | [_, _], _ => rfl⟩
  refine FunD.ok (k := 1) FF sc_place (fun vs H Q E h => len_place (K := K) h) (fun cdv A outer s H vs Q E hr h => ⟨t_place K, PSs.nox (?_), pure_place T vs H Q E h⟩)
  exact (pss_cons (ps_if (PW.pt (pw_or (pt_not (pt_val (pe_callB c_isi (by rfl) (T.fr 30 "isinstance" rfl) (by decide +kernel) (pa_cons (pv 1) (pa_cons (pe_bltn (v := .ty "tuple") rfl (T.fr 33 "tuple" rfl) (by decide +kernel) rfl) pa_nil))))) (pw_or1 (pt_cmpR o_ne (pe_callB c_lenQ (by rfl) (T.fr 0 "len" rfl) (by decide +kernel) (pa_cons (pv 1) pa_nil)) pe_int (nomark _))))) (pss_one (ps_ret pe_bl)) pss_nil)
      (pss_cons (ps_if (PW.pt (pw_or (pt_not (pt_val (pe_call (E := E0) G_integer (hr.mono (by decide)) rfl (T.gl 34 "_law_integer" rfl) k_integer b_integer .nil pass0 (pa_cons (pe_ix ix_tup (pv 1) pe_int (fun _ _ => rfl)) pa_nil)))) (pw_or1 (pt_not (pt_val (pe_call (E := E0) G_integer (hr.mono (by decide)) rfl (T.gl 34 "_law_integer" rfl) k_integer b_integer .nil pass0 (pa_cons (pe_ix ix_tup (pv 1) pe_int (fun _ _ => rfl)) pa_nil))))))) (pss_one (ps_ret pe_bl)) pss_nil)
      (pss_cons (ps_if (PW.pt (pw_or (pt_cmpR o_lt (pe_ix ix_tup (pv 1) pe_int (fun _ _ => rfl)) pe_int (nomark _)) (pw_or1 (pt_cmpR o_ge (pe_ix ix_tup (pv 1) pe_int (fun _ _ => rfl)) (pe_callB c_lenQ (by rfl) (T.fr 0 "len" rfl) (by decide +kernel) (pa_cons (pv 0) pa_nil)) (nomark _))))) (pss_one (ps_ret pe_bl)) pss_nil)
      (pss_one (ps_ret (pe_and (pe_cmpR o_ge (pe_ix ix_tup (pv 1) pe_int (fun _ _ => rfl)) pe_int (nomark _)) (pe_one (pe_cmpR o_lt (pe_ix ix_tup (pv 1) pe_int (fun _ _ => rfl)) (pe_callB c_lenS (by rfl) (T.fr 0 "len" rfl) (by decide +kernel) (pa_cons (pe_ix ix_tup (pe_ix ix_list (pv 0) (pe_ix ix_tup (pv 1) pe_int (fun _ _ => rfl)) (fun _ _ => rfl)) pe_int (fun _ _ => rfl)) pa_nil)) (nomark _)))))))))

theorem sc_clash : FnScope N_clash ["pairs", "size", "answer"] (defScope s_clash) := ⟨rfl, rfl, rfl, by decide +kernel, rfl, by decide +kernel, by decide +kernel⟩
theorem ok_clash (T : Tx K mg) : ∃ fd, FunD K d_clash.name d_clash.qual d_clash.params d_clash.body d_clash.scope [] [] (fAd K d_clash.at_) fd ∧ FnOk PP w K mg base CX0 3 (fAd K d_clash.at_) fd ["pairs", "size", "answer"] (spClash K) ∧ Binds K fd ["pairs", "size", "answer"] [] := by
  obtain ⟨fd, FF⟩ := T.df 16 (d := d_clash) rfl
  obtain ⟨fd_place, FF_place, G_place, b_place⟩ := ok_place (w := w) (base := base) T
  have k_place := FF_place.kp
  obtain ⟨fd_lview, FF_lview, G_lview, b_lview⟩ := ok_lview (w := w) (base := base) T
  have k_lview := FF_lview.kp
  refine ⟨fd, FF, ?_, FF.bindsN fun _ _ _ _ _ _ us hl => match us, hl with | [_, _, _], _ => rfl⟩
  refine FunD.ok (k := 2) FF sc_clash (fun vs H Q E h => len_clash (K := K) h) (fun cdv A outer s H vs Q E hr h => ⟨t_clash K, PSs.nox (?_), pure_clash T vs H Q E h⟩)
  exact (pss_cons (ps_if (PW.pt (pw_or (pt_cmpR o_ne (pe_callB c_lenQ (by rfl) (T.fr 0 "len" rfl) (by decide +kernel) (pa_cons (pv 2) pa_nil)) pe_int (nomark _)) (pw_or (pt_not (pt_val (pe_call (E := E0) G_place (hr.mono (by decide)) rfl (T.gl 35 "_law_place" rfl) k_place b_place .nil pass0 (pa_cons (pv 0) (pa_cons (pe_ix ix_tup (pv 2) pe_int (fun _ _ => rfl)) pa_nil))))) (pw_or1 (pt_not (pt_val (pe_call (E := E0) G_place (hr.mono (by decide)) rfl (T.gl 35 "_law_place" rfl) k_place b_place .nil pass0 (pa_cons (pv 0) (pa_cons (pe_ix ix_tup (pv 2) pe_int (fun _ _ => rfl)) pa_nil))))))))) (pss_one (ps_ret pe_bl)) pss_nil)
      (pss_cons (ps_set (i := 3) sc_clash.nd rfl (Or.inl rfl) (pe_ix ix_list (pv 0) (pe_ix ix_tup (pe_ix ix_tup (pv 2) pe_int (fun _ _ => rfl)) pe_int (fun _ _ => rfl)) (fun _ _ => rfl)))
      (pss_cons (ps_set (i := 4) sc_clash.nd rfl (Or.inl rfl) (pe_ix ix_list (pv 0) (pe_ix ix_tup (pe_ix ix_tup (pv 2) pe_int (fun _ _ => rfl)) pe_int (fun _ _ => rfl)) (fun _ _ => rfl)))
      (pss_cons (ps_if (pt_cmpR o_ne (pe_call (E := E0) G_lview (hr.mono (by decide)) rfl (T.gl 32 "_law_view" rfl) k_lview b_lview .nil pass0 (pa_cons (pe_ix ix_tup (pv 3) pe_int (fun _ _ => rfl)) (pa_cons (pe_ix ix_tup (pe_ix ix_tup (pv 2) pe_int (fun _ _ => rfl)) pe_int (fun _ _ => rfl)) (pa_cons (pv 1) pa_nil)))) (pe_call (E := E0) G_lview (hr.mono (by decide)) rfl (T.gl 32 "_law_view" rfl) k_lview b_lview .nil pass0 (pa_cons (pe_ix ix_tup (pv 4) pe_int (fun _ _ => rfl)) (pa_cons (pe_ix ix_tup (pe_ix ix_tup (pv 2) pe_int (fun _ _ => rfl)) pe_int (fun _ _ => rfl)) (pa_cons (pv 1) pa_nil)))) (nomark _)) (pss_one (ps_ret pe_bl)) pss_nil)
      (pss_one (ps_ret (pe_cmpR o_ne (pe_ix ix_str (pe_ix ix_tup (pv 3) pe_int (fun _ _ => rfl)) (pe_ix ix_tup (pe_ix ix_tup (pv 2) pe_int (fun _ _ => rfl)) pe_int (fun _ _ => rfl)) (fun _ _ => rfl)) (pe_ix ix_str (pe_ix ix_tup (pv 4) pe_int (fun _ _ => rfl)) (pe_ix ix_tup (pe_ix ix_tup (pv 2) pe_int (fun _ _ => rfl)) pe_int (fun _ _ => rfl)) (fun _ _ => rfl)) (nomark _))))))))

theorem sc_due : FnScope N_due ["table", "word", "size"] (defScope s_due) := ⟨rfl, rfl, rfl, by decide +kernel, rfl, by decide +kernel, by decide +kernel⟩
theorem ok_due (T : Tx K mg) : ∃ fd, FunD K d_due.name d_due.qual d_due.params d_due.body d_due.scope [] [] (fAd K d_due.at_) fd ∧ FnOk PP w K mg base CX0 2 (fAd K d_due.at_) fd ["table", "word", "size"] spDue ∧ Binds K fd ["table", "word", "size"] [] := by
  obtain ⟨fd, FF⟩ := T.df 17 (d := d_due) rfl
  obtain ⟨fd_lview, FF_lview, G_lview, b_lview⟩ := ok_lview (w := w) (base := base) T
  have k_lview := FF_lview.kp
  refine ⟨fd, FF, ?_, FF.bindsN fun _ _ _ _ _ _ us hl => match us, hl with | [_, _, _], _ => rfl⟩
  refine FunD.ok (k := 1) FF sc_due (fun vs H Q E h => len_due (K := K) h) (fun cdv A outer s H vs Q E hr h => ⟨t_due K, PSs.nox (?_), pure_due T vs H Q E h⟩)
  exact (pss_cons (ps_set (i := 3) sc_due.nd rfl (Or.inl rfl) pe_str)
      (pss_cons (ps_for PassesOwn.never rfl (pi_range1 rfl (T.fr 19 "range" rfl) (pa_cons (pe_callB c_lenS (by rfl) (T.fr 0 "len" rfl) (by decide +kernel) (pa_cons (pv 1) pa_nil)) pa_nil)) (pg_name (i := 4) sc_due.nd rfl (Or.inl rfl)) (pss_cons (ps_set (i := 5) sc_due.nd rfl (Or.inl rfl) (pe_call (E := E0) G_lview (hr.mono (by decide)) rfl (T.gl 32 "_law_view" rfl) k_lview b_lview .nil pass0 (pa_cons (pv 1) (pa_cons (pv 4) (pa_cons (pv 2) pa_nil)))))
      (pss_cons (ps_if (pt_cmp (pc_dnotin (hu_of hr) (pv 5) (pv 0))) (pss_one (ps_ret pe_non)) pss_nil)
      (pss_one (ps_set (i := 3) sc_due.nd rfl (Or.inl rfl) (pe_op o_addS (pv 3) (pe_dget (hu_of hr) (pv 0) (pv 5) (fun _ _ => rfl))))))))
      (pss_one (ps_ret (pv 3)))))

theorem sc_good : FnScope N_good ["turner", "letters", "images", "size", "table", "pairs", "more"] (defScope s_good) := ⟨rfl, rfl, rfl, by decide +kernel, rfl, by decide +kernel, by decide +kernel⟩
theorem ok_good (T : Tx K mg) : ∃ fd, FunD K d_good.name d_good.qual d_good.params d_good.body d_good.scope [] [] (fAd K d_good.at_) fd ∧ FnOk PP w K mg base CX0 4 (fAd K d_good.at_) fd ["turner", "letters", "images", "size", "table", "pairs", "more"] (spGood K) ∧ Binds K fd ["turner", "letters", "images", "size", "table", "pairs", "more"] [] := by
  obtain ⟨fd, FF⟩ := T.df 18 (d := d_good) rfl
  obtain ⟨fd_tcall, FF_tcall, G_tcall, b_tcall⟩ := ok_tcall (w := w) (base := base) T
  have k_tcall := FF_tcall.kp
  obtain ⟨fd_due, FF_due, G_due, b_due⟩ := ok_due (w := w) (base := base) T
  have k_due := FF_due.kp
  refine ⟨fd, FF, ?_, FF.bindsN fun _ _ _ _ _ _ us hl => match us, hl with | [_, _, _, _, _, _, _], _ => rfl⟩
  refine FunD.ok (k := 3) FF sc_good (fun vs H Q E h => len_good (K := K) h) (fun cdv A outer s H vs Q E hr h => ⟨t_good K, PSs.nox (?_), pure_good T vs H Q E h⟩)
  exact (pss_cons (ps_if (PW.pt (pw_or (pt_not (pt_val (pe_callB c_isi (by rfl) (T.fr 30 "isinstance" rfl) (by decide +kernel) (pa_cons (pv 0) (pa_cons (pe_glob rfl (T.gl 26 "Turner" rfl) rfl) pa_nil))))) (pw_or (pt_cmpR o_ne (pe_fld (pv 0) rfl) (pv 1) (nomark _)) (pw_or1 (pt_cmpR o_ne (pe_fld (pv 0) rfl) (pv 2) (nomark _)))))) (pss_one (ps_ret pe_bl)) pss_nil)
      (pss_cons (ps_if (PW.pt (pw_or (pt_cmpR o_ne (pe_fld (pv 0) rfl) (pv 3) (nomark _)) (pw_or (pt_not (pt_val (pe_callB c_isi (by rfl) (T.fr 30 "isinstance" rfl) (by decide +kernel) (pa_cons (pe_fld (pv 0) rfl) (pa_cons (pe_bltn (v := .ty "dict") rfl (T.fr 16 "dict" rfl) (by decide +kernel) rfl) pa_nil))))) (pw_or1 (pt_cmpR o_ne (pe_callB c_lenD (by rfl) (T.fr 0 "len" rfl) (by decide +kernel) (pa_cons (pe_fld (pv 0) rfl) pa_nil)) (pe_callB c_lenD (by rfl) (T.fr 0 "len" rfl) (by decide +kernel) (pa_cons (pv 4) pa_nil)) (nomark _)))))) (pss_one (ps_ret pe_bl)) pss_nil)
      (pss_cons (ps_lock (ps_for PassesOwn.never rfl (pi_keys (pv 4)) (pg_name (i := 7) sc_good.nd rfl (Or.inl rfl)) (pss_one (ps_if (PW.pt (pw_or (pt_cmp (pc_dnotin (hu_of hr) (pv 7) (pe_fld (pv 0) rfl))) (pw_or1 (pt_cmpR o_ne (pe_dget (hu_of hr) (pe_fld (pv 0) rfl) (pv 7) (fun _ _ => rfl)) (pe_dget (hu_of hr) (pv 4) (pv 7) (fun _ _ => rfl)) (nomark _))))) (pss_one (ps_ret pe_bl)) pss_nil))))
      (pss_cons (ps_for PassesOwn.never rfl (pi_list (pv 5)) (pg_name (i := 8) sc_good.nd rfl (Or.inl rfl)) (pss_one (ps_if (pt_cmpR o_ne (pe_co (pv 0) (co_Turner T) (FnOk.raw0 G_tcall b_tcall) (hr.mono (by decide)) pass0 (pa_cons (pe_ix ix_tup (pv 8) pe_int (fun _ _ => rfl)) pa_nil)) (pe_ix ix_tup (pv 8) pe_int (fun _ _ => rfl)) (nomark _)) (pss_one (ps_ret pe_bl)) pss_nil)))
      (pss_cons (ps_for PassesOwn.never rfl (pi_list (pv 6)) (pg_name (i := 9) sc_good.nd rfl (Or.inl rfl)) (pss_cons (ps_set (i := 10) sc_good.nd rfl (Or.inl rfl) (pe_call (E := E0) G_due (hr.mono (by decide)) rfl (T.gl 36 "_law_due_image" rfl) k_due b_due .nil pass0 (pa_cons (pv 4) (pa_cons (pv 9) (pa_cons (pv 3) pa_nil)))))
      (pss_cons (ps_set (i := 11) sc_good.nd rfl (Or.inl rfl) (pe_co (pv 0) (co_Turner T) (FnOk.raw0 G_tcall b_tcall) (hr.mono (by decide)) pass0 (pa_cons (pv 9) pa_nil)))
      (pss_one (ps_if (PW.pt (pw_or (PW.pt (pw_and (pt_cmpR o_isN (pv 10) pe_non (nomark _)) (pw_and1 (pt_cmpR o_notN (pv 11) pe_non (nomark _))))) (pw_or1 (PW.pt (pw_and (pt_cmpR o_notN (pv 10) pe_non (nomark _)) (pw_and1 (pt_cmpR o_ne (pv 11) (pv 10) (nomark _)))))))) (pss_one (ps_ret pe_bl)) pss_nil)))))
      (pss_one (ps_ret pe_bl)))))))

theorem sc_spoil : FnScope N_spoil ["state", "pairs", "letters", "images"] (defScope s_spoil) := ⟨rfl, rfl, rfl, by decide +kernel, rfl, by decide +kernel, by decide +kernel⟩
theorem ok_spoil (T : Tx K mg) : ∃ fd, FunD K d_spoil.name d_spoil.qual d_spoil.params d_spoil.body d_spoil.scope [] [] (fAd K d_spoil.at_) fd ∧ FnOk PP w K mg base CX0 2 (fAd K d_spoil.at_) fd ["state", "pairs", "letters", "images"] (spSpoil K) ∧ Binds K fd ["state", "pairs", "letters", "images"] [] := by
  obtain ⟨fd, FF⟩ := T.df 19 (d := d_spoil) rfl
  obtain ⟨fd_next, FF_next, G_next, b_next⟩ := ok_next (w := w) (base := base) T
  have k_next := FF_next.kp
  refine ⟨fd, FF, ?_, FF.bindsN fun _ _ _ _ _ _ us hl => match us, hl with | [_, _, _, _], _ => rfl⟩
  refine FunD.ok (k := 1) FF sc_spoil (fun vs H Q E h => len_spoil (K := K) h) (fun cdv A outer s H vs Q E hr h => ⟨t_spoil K, PSs.nox (?_), pure_spoil T vs H Q E h⟩)
  exact (pss_cons (ps_set (i := 4) sc_spoil.nd rfl (Or.inl rfl) (pe_call (E := E0) G_next (hr.mono (by decide)) rfl (T.gl 31 "_law_next" rfl) k_next b_next .nil pass0 (pa_cons (pv 0) (pa_cons (pe_callB c_lenQ (by rfl) (T.fr 0 "len" rfl) (by decide +kernel) (pa_cons (pv 1) pa_nil)) pa_nil))))
      (pss_cons (ps_set (i := 5) sc_spoil.nd rfl (Or.inl rfl) (pe_ix ix_tup (pe_ix ix_list (pv 1) (pv 4) (fun _ _ => rfl)) pe_int (fun _ _ => rfl)))
      (pss_cons (ps_set (i := 6) sc_spoil.nd rfl (Or.inl rfl) (pe_ix ix_tup (pe_ix ix_list (pv 1) (pv 4) (fun _ _ => rfl)) pe_int (fun _ _ => rfl)))
      (pss_cons (ps_set (i := 7) sc_spoil.nd rfl (Or.inl rfl) (pe_call (E := E0) G_next (hr.mono (by decide)) rfl (T.gl 31 "_law_next" rfl) k_next b_next .nil pass0 (pa_cons (pv 0) (pa_cons pe_int pa_nil))))
      (pss_cons (ps_set (i := 8) sc_spoil.nd rfl (Or.inl rfl) (pe_call (E := E0) G_next (hr.mono (by decide)) rfl (T.gl 31 "_law_next" rfl) k_next b_next .nil pass0 (pa_cons (pv 0) (pa_cons (pe_op o_add (pe_callB c_lenS (by rfl) (T.fr 0 "len" rfl) (by decide +kernel) (pa_cons (pv 5) pa_nil)) pe_int) pa_nil))))
      (pss_cons (ps_set (i := 9) sc_spoil.nd rfl (Or.inl rfl) (pe_ix ix_list (pe_lst (pa_cons pe_str (pa_cons pe_str (pa_cons pe_str (pa_cons pe_str pa_nil))))) (pe_call (E := E0) G_next (hr.mono (by decide)) rfl (T.gl 31 "_law_next" rfl) k_next b_next .nil pass0 (pa_cons (pv 0) (pa_cons pe_int pa_nil))) (fun _ _ => rfl)))
      (pss_cons (ps_if (pt_cmpR o_eq (pv 7) pe_int (nomark _)) (pss_one (ps_asg (pe_tup (pa_cons (pv 5) (pa_cons (pe_op o_addS (pv 6) (pe_ix ix_str (pv 3) pe_int (fun _ _ => rfl))) pa_nil))) (pg_sub (pv 1) (pv 4) set_list))) (pss_one (ps_if (pt_cmpR o_eq (pv 7) pe_int (nomark _)) (pss_one (ps_asg (pe_tup (pa_cons (pe_op o_addS (pe_op o_addS (pe_slice sl_str (pv 5) po_none (po_some (pv 8))) (pv 9)) (pe_slice sl_str (pv 5) (po_some (pv 8)) po_none)) (pa_cons (pe_op o_addS (pv 6) (pe_ix ix_str (pv 3) pe_int (fun _ _ => rfl))) pa_nil))) (pg_sub (pv 1) (pv 4) set_list))) (pss_one (ps_asg (pe_tup (pa_cons (pv 5) (pa_cons (pe_op o_addS (pe_op o_addS (pe_slice sl_str (pv 6) po_none (po_some (pv 8))) (pv 9)) (pe_slice sl_str (pv 6) (po_some (pe_op o_add (pv 8) pe_int)) po_none)) pa_nil))) (pg_sub (pv 1) (pv 4) set_list))))))
      (pss_one (ps_ret (pv 4))))))))))

theorem sc_firstbad : FnScope N_firstbad ["pairs", "letters", "images"] (defScope s_firstbad) := ⟨rfl, rfl, rfl, by decide +kernel, rfl, by decide +kernel, by decide +kernel⟩
theorem ok_firstbad (T : Tx K mg) : ∃ fd, FunD K d_firstbad.name d_firstbad.qual d_firstbad.params d_firstbad.body d_firstbad.scope [] [] (fAd K d_firstbad.at_) fd ∧ FnOk PP w K mg base CX0 1 (fAd K d_firstbad.at_) fd ["pairs", "letters", "images"] (spFB K) ∧ Binds K fd ["pairs", "letters", "images"] [] := by
  obtain ⟨fd, FF⟩ := T.df 20 (d := d_firstbad) rfl

  refine ⟨fd, FF, ?_, FF.bindsN fun _ _ _ _ _ _ us hl => match us, hl with | [_, _, _], _ => rfl⟩
  refine FunD.ok (k := 0) FF sc_firstbad (fun vs H Q E h => len_firstbad (K := K) h) (fun cdv A outer s H vs Q E hr h => ⟨t_firstbad K, PSs.nox (?_), pure_firstbad T vs H Q E h⟩)
  exact (pss_cons (ps_for PassesOwn.never rfl (pi_range1 rfl (T.fr 19 "range" rfl) (pa_cons (pe_callB c_lenQ (by rfl) (T.fr 0 "len" rfl) (by decide +kernel) (pa_cons (pv 0) pa_nil)) pa_nil)) (pg_name (i := 3) sc_firstbad.nd rfl (Or.inl rfl)) (pss_cons (ps_for PassesOwn.never rfl (pi_range1 rfl (T.fr 19 "range" rfl) (pa_cons pe_int pa_nil)) (pg_name (i := 4) sc_firstbad.nd rfl (Or.inl rfl)) (pss_one (ps_for PassesOwn.never rfl (pi_range1 rfl (T.fr 19 "range" rfl) (pa_cons (pe_callB c_lenS (by rfl) (T.fr 0 "len" rfl) (by decide +kernel) (pa_cons (pe_ix ix_tup (pe_ix ix_list (pv 0) (pv 3) (fun _ _ => rfl)) (pv 4) (fun _ _ => rfl)) pa_nil)) pa_nil)) (pg_name (i := 5) sc_firstbad.nd rfl (Or.inl rfl)) (pss_one (ps_if (pt_cmpR o_ninS (pe_ix ix_str (pe_ix ix_tup (pe_ix ix_list (pv 0) (pv 3) (fun _ _ => rfl)) (pv 4) (fun _ _ => rfl)) (pv 5) (fun _ _ => rfl)) (pe_ix ix_list (pe_lst (pa_cons (pv 1) (pa_cons (pv 2) pa_nil))) (pv 4) (fun _ _ => rfl)) (by rfl)) (pss_one (ps_ret (pe_tup (pa_cons pe_str (pa_cons (pe_ix ix_tup (pe_ix ix_list (pv 0) (pv 3) (fun _ _ => rfl)) (pv 4) (fun _ _ => rfl)) (pa_cons (pv 5) pa_nil)))))) pss_nil)))))
      (pss_one (ps_if (pt_cmpR o_ne (pe_callB c_lenS (by rfl) (T.fr 0 "len" rfl) (by decide +kernel) (pa_cons (pe_ix ix_tup (pe_ix ix_list (pv 0) (pv 3) (fun _ _ => rfl)) pe_int (fun _ _ => rfl)) pa_nil)) (pe_callB c_lenS (by rfl) (T.fr 0 "len" rfl) (by decide +kernel) (pa_cons (pe_ix ix_tup (pe_ix ix_list (pv 0) (pv 3) (fun _ _ => rfl)) pe_int (fun _ _ => rfl)) pa_nil)) (nomark _)) (pss_one (ps_ret (pe_tup (pa_cons pe_str (pa_cons (pv 3) (pa_cons pe_int pa_nil)))))) pss_nil))))
      (pss_one (ps_ret pe_non)))

theorem sc_refused : FnScope N_refused ["letters", "images", "size", "pairs", "bad"] (defScope s_refused) := ⟨rfl, rfl, rfl, by decide +kernel, rfl, by decide +kernel, by decide +kernel⟩
theorem ok_refused (T : Tx K mg) : ∃ fd, FunD K d_refused.name d_refused.qual d_refused.params d_refused.body d_refused.scope [] [] (fAd K d_refused.at_) fd ∧ FnOk PP w K mg base CX0 6 (fAd K d_refused.at_) fd ["letters", "images", "size", "pairs", "bad"] (spRef K) ∧ Binds K fd ["letters", "images", "size", "pairs", "bad"] [] := by
  obtain ⟨fd, FF⟩ := T.df 21 (d := d_refused) rfl
  obtain ⟨fd_fit_turner, FF_fit_turner, G_fit_turner, b_fit_turner⟩ := ok_fit_turner (w := w) (base := base) T
  have k_fit_turner := FF_fit_turner.kp
  refine ⟨fd, FF, ?_, FF.bindsN fun _ _ _ _ _ _ us hl => match us, hl with | [_, _, _, _, _], _ => rfl⟩
  refine FunD.ok (k := 5) FF sc_refused (fun vs H Q E h => len_refused (K := K) h) (fun cdv A outer s H vs Q E hr h => ⟨t_refused K, PSs.nox (?_), pure_refused T vs H Q E h⟩)
  exact (pss_cons (ps_try_as (i := 5) (tb := tb_refused K) (ts := ts_refused K) (Wout := fun _ _ _ _ => False) rfl rfl sc_refused.nd rfl rfl ⟨rfl, by decide, Or.inl (T.gl 38 "LanguageError" rfl)⟩ takes0
        (fun W pn xe tk po => (pss_one (ps_expr (by exact (pe_callS G_fit_turner (hr.mono (by decide)) rfl (T.gl 37 "fit_turner" rfl) k_fit_turner b_fit_turner (fun σ => passAt tk σ) (by exact (pa_cons (pv 0) (pa_cons (pv 1) (pa_cons (pv 2) (pa_cons (pv 3) pa_nil))))))))))
        (fun a oe cls d pn hz hf => (pss_cons (ps_if (pt_cmpR o_eq (pe_ix ix_tup (pv 4) pe_int (fun _ _ => rfl)) pe_str (nomark _)) (pss_one (ps_ret (pe_and (pe_callB (call_isX hz hf) (by rfl) (T.fr 30 "isinstance" rfl) (by decide +kernel) (pa_cons (pv 5) (pa_cons (pe_glob rfl (T.gl 22 "BadText" rfl) rfl) pa_nil))) (pe_and (pe_not (pe_callB (call_isX hz hf) (by rfl) (T.fr 30 "isinstance" rfl) (by decide +kernel) (pa_cons (pv 5) (pa_cons (pe_glob rfl (T.gl 9 "BadWord" rfl) rfl) pa_nil)))) (pe_one (pe_cmpR o_eq (pe_xf (T.ini 1 (d := i_BadText) rfl).1.xf (T.na 21 "BadText" "line" rfl) hz hf (pv 5)) (pe_ix ix_tup (pv 4) pe_int (fun _ _ => rfl)) (nomark _))))))) pss_nil)
      (pss_one (ps_ret (pe_and (pe_callB (call_isX hz hf) (by rfl) (T.fr 30 "isinstance" rfl) (by decide +kernel) (pa_cons (pv 5) (pa_cons (pe_glob rfl (T.gl 9 "BadWord" rfl) rfl) pa_nil))) (pe_and (pe_not (pe_callB (call_isX hz hf) (by rfl) (T.fr 30 "isinstance" rfl) (by decide +kernel) (pa_cons (pv 5) (pa_cons (pe_glob rfl (T.gl 22 "BadText" rfl) rfl) pa_nil)))) (pe_and (pe_cmpR o_eq (pe_xf (T.ini 0 (d := i_BadWord) rfl).1.xf (T.na 6 "BadWord" "word" rfl) hz hf (pv 5)) (pe_ix ix_tup (pv 4) pe_int (fun _ _ => rfl)) (nomark _)) (pe_one (pe_cmpR o_eq (pe_xf (T.ini 0 (d := i_BadWord) rfl).1.xf (T.na 7 "BadWord" "place" rfl) hz hf (pv 5)) (pe_ix ix_tup (pv 4) pe_int (fun _ _ => rfl)) (nomark _)))))))))))
      (pss_one (ps_ret pe_bl)))

theorem sc_law : FnScope N_law ["script"] (defScope s_law) := ⟨rfl, rfl, rfl, by decide +kernel, rfl, by decide +kernel, by decide +kernel⟩
theorem ok_law (T : Tx K mg) : ∃ fd, FunD K d_law.name d_law.qual d_law.params d_law.body d_law.scope [] [] (fAd K d_law.at_) fd ∧ FnOk PP w K mg base CX0 7 (fAd K d_law.at_) fd ["script"] (spLaw K) ∧ Binds K fd ["script"] [] := by
  obtain ⟨fd, FF⟩ := T.df 22 (d := d_law) rfl
  obtain ⟨fd_start, FF_start, G_start, b_start⟩ := ok_start (w := w) (base := base) T
  have k_start := FF_start.kp
  obtain ⟨fd_next, FF_next, G_next, b_next⟩ := ok_next (w := w) (base := base) T
  have k_next := FF_next.kp
  obtain ⟨fd_word, FF_word, G_word, b_word⟩ := ok_word (w := w) (base := base) T
  have k_word := FF_word.kp
  obtain ⟨fd_image, FF_image, G_image, b_image⟩ := ok_image (w := w) (base := base) T
  have k_image := FF_image.kp
  obtain ⟨fd_spoil, FF_spoil, G_spoil, b_spoil⟩ := ok_spoil (w := w) (base := base) T
  have k_spoil := FF_spoil.kp
  obtain ⟨fd_firstbad, FF_firstbad, G_firstbad, b_firstbad⟩ := ok_firstbad (w := w) (base := base) T
  have k_firstbad := FF_firstbad.kp
  obtain ⟨fd_refused, FF_refused, G_refused, b_refused⟩ := ok_refused (w := w) (base := base) T
  have k_refused := FF_refused.kp
  obtain ⟨fd_fit_turner, FF_fit_turner, G_fit_turner, b_fit_turner⟩ := ok_fit_turner (w := w) (base := base) T
  have k_fit_turner := FF_fit_turner.kp
  obtain ⟨fd_table, FF_table, G_table, b_table⟩ := ok_table (w := w) (base := base) T
  have k_table := FF_table.kp
  obtain ⟨fd_clash, FF_clash, G_clash, b_clash⟩ := ok_clash (w := w) (base := base) T
  have k_clash := FF_clash.kp
  obtain ⟨fd_good, FF_good, G_good, b_good⟩ := ok_good (w := w) (base := base) T
  have k_good := FF_good.kp
  refine ⟨fd, FF, ?_, FF.bindsN fun _ _ _ _ _ _ us hl => match us, hl with | [_], _ => rfl⟩
  refine FunD.ok (k := 6) FF sc_law (fun vs H Q E h => len_law (K := K) h) (fun cdv A outer s H vs Q E hr h => ⟨t_law K, PSs.nox (?_), pure_law T vs H Q E h⟩)
  exact (pss_cons (ps_set (i := 1) sc_law.nd rfl (Or.inr rfl) (pe_call (E := E0) G_start (hr.mono (by decide)) rfl (T.gl 39 "_law_start" rfl) k_start b_start .nil pass0 (pa_cons (pv 0) pa_nil)))
      (pss_cons (ps_set (i := 2) sc_law.nd rfl (Or.inr rfl) (pe_ix ix_list (pe_lst (pa_cons pe_str (pa_cons pe_str (pa_cons pe_str (pa_cons pe_str (pa_cons pe_str (pa_cons pe_str pa_nil))))))) (pe_call (E := E0) G_next (hr.mono (by decide)) rfl (T.gl 31 "_law_next" rfl) k_next b_next .nil pass0 (pa_cons (pv 1) (pa_cons pe_int pa_nil))) (fun _ _ => rfl)))
      (pss_cons (ps_set (i := 3) sc_law.nd rfl (Or.inl rfl) (pe_ix ix_list (pe_lst (pa_cons pe_str (pa_cons pe_str (pa_cons pe_str (pa_cons pe_str (pa_cons pe_str (pa_cons pe_str pa_nil))))))) (pe_call (E := E0) G_next (hr.mono (by decide)) rfl (T.gl 31 "_law_next" rfl) k_next b_next .nil pass0 (pa_cons (pv 1) (pa_cons pe_int pa_nil))) (fun _ _ => rfl)))
      (pss_cons (ps_set (i := 4) sc_law.nd rfl (Or.inl rfl) (pe_op o_add pe_int (pe_call (E := E0) G_next (hr.mono (by decide)) rfl (T.gl 31 "_law_next" rfl) k_next b_next .nil pass0 (pa_cons (pv 1) (pa_cons pe_int pa_nil)))))
      (pss_cons (ps_set (i := 5) sc_law.nd rfl (Or.inl rfl) (pe_op o_add pe_int (pe_call (E := E0) G_next (hr.mono (by decide)) rfl (T.gl 31 "_law_next" rfl) k_next b_next .nil pass0 (pa_cons (pv 1) (pa_cons pe_int pa_nil)))))
      (pss_cons (ps_if (pt_cmpR o_eq (pe_call (E := E0) G_next (hr.mono (by decide)) rfl (T.gl 31 "_law_next" rfl) k_next b_next .nil pass0 (pa_cons (pv 1) (pa_cons pe_int pa_nil))) pe_int (nomark _)) (pss_one (ps_set (i := 5) sc_law.nd rfl (Or.inl rfl) (pe_op o_add pe_int (pe_call (E := E0) G_next (hr.mono (by decide)) rfl (T.gl 31 "_law_next" rfl) k_next b_next .nil pass0 (pa_cons (pv 1) (pa_cons pe_int pa_nil)))))) pss_nil)
      (pss_cons (ps_set (i := 6) sc_law.nd rfl (Or.inl rfl) (pe_call (E := E0) G_next (hr.mono (by decide)) rfl (T.gl 31 "_law_next" rfl) k_next b_next .nil pass0 (pa_cons (pv 1) (pa_cons pe_int pa_nil))))
      (pss_cons (ps_set (i := 7) sc_law.nd rfl (Or.inl rfl) pe_int)
      (pss_cons (ps_if (pt_cmpR o_eq (pe_call (E := E0) G_next (hr.mono (by decide)) rfl (T.gl 31 "_law_next" rfl) k_next b_next .nil pass0 (pa_cons (pv 1) (pa_cons pe_int pa_nil))) pe_int (nomark _)) (pss_cons (ps_set (i := 6) sc_law.nd rfl (Or.inl rfl) (pe_op o_add pe_int (pe_call (E := E0) G_next (hr.mono (by decide)) rfl (T.gl 31 "_law_next" rfl) k_next b_next .nil pass0 (pa_cons (pv 1) (pa_cons pe_int pa_nil)))))
      (pss_one (ps_set (i := 7) sc_law.nd rfl (Or.inl rfl) pe_int))) pss_nil)
      (pss_cons (ps_set (i := 8) sc_law.nd rfl (Or.inl rfl) pe_dnewK)
      (pss_cons (ps_set (i := 9) sc_law.nd rfl (Or.inl rfl) (pe_lst pa_nil))
      (pss_cons (ps_for PassesOwn.never rfl (pi_range1 rfl (T.fr 19 "range" rfl) (pa_cons (pv 6) pa_nil)) (pg_name (i := 10) sc_law.nd rfl (Or.inl rfl)) (pss_cons (ps_set (i := 16) sc_law.nd rfl (Or.inl rfl) (pe_call (E := E0) G_word (hr.mono (by decide)) rfl (T.gl 40 "_law_word" rfl) k_word b_word .nil pass0 (pa_cons (pv 1) (pa_cons (pv 2) (pa_cons (pe_call (E := E0) G_next (hr.mono (by decide)) rfl (T.gl 31 "_law_next" rfl) k_next b_next .nil pass0 (pa_cons (pv 1) (pa_cons (pe_op o_add (pv 7) pe_int) pa_nil))) pa_nil)))))
      (pss_one (ps_expr (pe_bm PySem.F.plainAttrs_list PySem.F.slot_list_append PySem.F.type_list_append mt_append (pv 9) (pa_cons (pe_tup (pa_cons (pv 16) (pa_cons (pe_call (E := E0) G_image (hr.mono (by decide)) rfl (T.gl 41 "_law_image" rfl) k_image b_image .nil pass0 (pa_cons (pv 1) (pa_cons (pv 8) (pa_cons (pv 16) (pa_cons (pv 3) (pa_cons (pv 4) pa_nil)))))) pa_nil))) pa_nil))))))
      (pss_cons (ps_if (PW.pt (pw_and (pt_cmpR o_gt (pv 6) pe_int (nomark _)) (pw_and1 (pt_cmpR o_eq (pe_call (E := E0) G_next (hr.mono (by decide)) rfl (T.gl 31 "_law_next" rfl) k_next b_next .nil pass0 (pa_cons (pv 1) (pa_cons pe_int pa_nil))) pe_int (nomark _))))) (pss_cons (ps_set (i := 17) sc_law.nd rfl (Or.inl rfl) (pe_call (E := E0) G_next (hr.mono (by decide)) rfl (T.gl 31 "_law_next" rfl) k_next b_next .nil pass0 (pa_cons (pv 1) (pa_cons (pv 6) pa_nil))))
      (pss_cons (ps_set (i := 16) sc_law.nd rfl (Or.inl rfl) (pe_ix ix_tup (pe_ix ix_list (pv 9) (pv 17) (fun _ _ => rfl)) pe_int (fun _ _ => rfl)))
      (pss_cons (ps_set (i := 18) sc_law.nd rfl (Or.inl rfl) (pe_ix ix_tup (pe_ix ix_list (pv 9) (pv 17) (fun _ _ => rfl)) pe_int (fun _ _ => rfl)))
      (pss_cons (ps_set (i := 19) sc_law.nd rfl (Or.inl rfl) (pe_call (E := E0) G_next (hr.mono (by decide)) rfl (T.gl 31 "_law_next" rfl) k_next b_next .nil pass0 (pa_cons (pv 1) (pa_cons (pe_op o_add (pe_callB c_lenS (by rfl) (T.fr 0 "len" rfl) (by decide +kernel) (pa_cons (pv 16) pa_nil)) pe_int) pa_nil))))
      (pss_one (ps_if (pt_cmpR o_lt (pv 19) (pe_callB c_lenS (by rfl) (T.fr 0 "len" rfl) (by decide +kernel) (pa_cons (pv 16) pa_nil)) (nomark _)) (pss_one (ps_asg (pe_tup (pa_cons (pv 16) (pa_cons (pe_op o_addS (pe_op o_addS (pe_slice sl_str (pv 18) po_none (po_some (pv 19))) (pe_ix ix_str (pv 3) (pe_call (E := E0) G_next (hr.mono (by decide)) rfl (T.gl 31 "_law_next" rfl) k_next b_next .nil pass0 (pa_cons (pv 1) (pa_cons (pe_callB c_lenS (by rfl) (T.fr 0 "len" rfl) (by decide +kernel) (pa_cons (pv 3) pa_nil)) pa_nil))) (fun _ _ => rfl))) (pe_slice sl_str (pv 18) (po_some (pe_op o_add (pv 19) pe_int)) po_none)) pa_nil))) (pg_sub (pv 9) (pv 17) set_list))) pss_nil)))))) pss_nil)
      (pss_cons (ps_if (PW.pt (pw_and (pt_cmpR o_gt (pv 6) pe_int (nomark _)) (pw_and1 (pt_cmpR o_eq (pe_call (E := E0) G_next (hr.mono (by decide)) rfl (T.gl 31 "_law_next" rfl) k_next b_next .nil pass0 (pa_cons (pv 1) (pa_cons pe_int pa_nil))) pe_int (nomark _))))) (pss_cons (ps_expr (pe_call (E := E0) G_spoil (hr.mono (by decide)) rfl (T.gl 42 "_law_spoil" rfl) k_spoil b_spoil .nil pass0 (pa_cons (pv 1) (pa_cons (pv 9) (pa_cons (pv 2) (pa_cons (pv 3) pa_nil))))))
      (pss_one (ps_if (pt_cmpR o_eq (pe_call (E := E0) G_next (hr.mono (by decide)) rfl (T.gl 31 "_law_next" rfl) k_next b_next .nil pass0 (pa_cons (pv 1) (pa_cons pe_int pa_nil))) pe_int (nomark _)) (pss_one (ps_expr (pe_call (E := E0) G_spoil (hr.mono (by decide)) rfl (T.gl 42 "_law_spoil" rfl) k_spoil b_spoil .nil pass0 (pa_cons (pv 1) (pa_cons (pv 9) (pa_cons (pv 2) (pa_cons (pv 3) pa_nil))))))) pss_nil))) pss_nil)
      (pss_cons (ps_set (i := 11) sc_law.nd rfl (Or.inl rfl) (pe_callTy c_list (by rfl) (T.fr 43 "list" rfl) (by decide +kernel) (pa_cons (pv 9) pa_nil)))
      (pss_cons (ps_set (i := 12) sc_law.nd rfl (Or.inl rfl) (pe_call (E := E0) G_firstbad (hr.mono (by decide)) rfl (T.gl 44 "_law_first_bad" rfl) k_firstbad b_firstbad .nil pass0 (pa_cons (pv 9) (pa_cons (pv 2) (pa_cons (pv 3) pa_nil)))))
      (pss_cons (ps_if (pt_cmpR o_notN (pv 12) pe_non (nomark _)) (pss_one (ps_ret (pe_and (pe_call (E := E0) G_refused (hr.mono (by decide)) rfl (T.gl 45 "_law_refused" rfl) k_refused b_refused .nil pass0 (pa_cons (pv 2) (pa_cons (pv 3) (pa_cons (pv 5) (pa_cons (pv 11) (pa_cons (pv 12) pa_nil)))))) (pe_one (pe_cmpR (op_eqD hr.units) (pv 11) (pv 9) (nomark _)))))) pss_nil)
      (pss_cons (ps_setLc (i := 13) (own := [("k", 10)]) (g := gName 10) (tt := tYes) rfl sc_law.nd rfl rfl (sw_true rfl rfl rfl (by decide +kernel)) (pi_range1 rfl (T.fr 19 "range" rfl) (pa_cons pe_int pa_nil)) (blkOk_by (N := N_law) (sc := (defScope s_law)) (by decide +kernel)) (fun _ _ _ _ _ => pg_name (i := 10) sc_law.nd rfl (Or.inl rfl)) (fun _ _ _ _ _ => pts_nil) (fun _ _ _ _ _ => (pe_call (E := E0) G_word (hr.mono (by decide)) rfl (T.gl 40 "_law_word" rfl) k_word b_word .nil pass0 (pa_cons (pv 1) (pa_cons (pv 2) (pa_cons (pv 10) pa_nil))))))
      (pss_cons (ps_set (i := 14) sc_law.nd rfl (Or.inl rfl) (pe_call (E := E0) G_fit_turner (hr.mono (by decide)) rfl (T.gl 37 "fit_turner" rfl) k_fit_turner b_fit_turner .nil passL (pa_cons (pv 2) (pa_cons (pv 3) (pa_cons (pv 5) (pa_cons (pv 11) pa_nil))))))
      (pss_cons (ps_if (PW.pt (pw_or (pt_cmpR (op_neD hr.units) (pv 11) (pv 9) (nomark _)) (pw_or (pt_not (pt_val (pe_callB c_isi (by rfl) (T.fr 30 "isinstance" rfl) (by decide +kernel) (pa_cons (pv 14) (pa_cons (pe_bltn (v := .ty "tuple") rfl (T.fr 33 "tuple" rfl) (by decide +kernel) rfl) pa_nil))))) (pw_or1 (pt_cmpR o_lt (pe_callB c_lenQ (by rfl) (T.fr 0 "len" rfl) (by decide +kernel) (pa_cons (pv 14) pa_nil)) pe_int (nomark _)))))) (pss_one (ps_ret pe_bl)) pss_nil)
      (pss_cons (ps_set (i := 15) sc_law.nd rfl (Or.inl rfl) (pe_call (E := E0) G_table (hr.mono (by decide)) rfl (T.gl 46 "_law_table" rfl) k_table b_table .nil pass0 (pa_cons (pv 9) (pa_cons (pv 5) pa_nil))))
      (pss_cons (ps_if (pt_cmpR o_isN (pv 15) pe_non (nomark _)) (pss_one (ps_ret (pe_and (pe_cmpR o_eq (pe_ix ix_tup (pv 14) pe_int (fun _ _ => rfl)) pe_str (nomark _)) (pe_one (pe_call (E := E0) G_clash (hr.mono (by decide)) rfl (T.gl 47 "_law_clash" rfl) k_clash b_clash .nil pass0 (pa_cons (pv 9) (pa_cons (pv 5) (pa_cons (pv 14) pa_nil)))))))) pss_nil)
      (pss_cons (ps_if (PW.pt (pw_or (pt_cmpR o_ne (pe_ix ix_tup (pv 14) pe_int (fun _ _ => rfl)) pe_str (nomark _)) (pw_or1 (pt_cmpR o_ne (pe_callB c_lenQ (by rfl) (T.fr 0 "len" rfl) (by decide +kernel) (pa_cons (pv 14) pa_nil)) pe_int (nomark _))))) (pss_one (ps_ret pe_bl)) pss_nil)
      (pss_one (ps_ret (pe_call (E := E0) G_good (hr.mono (by decide)) rfl (T.gl 48 "_law_good_turner" rfl) k_good b_good .nil pass0 (pa_cons (pe_ix ix_tup (pv 14) pe_int (fun _ _ => rfl)) (pa_cons (pv 2) (pa_cons (pv 3) (pa_cons (pv 5) (pa_cons (pv 15) (pa_cons (pv 9) (pa_cons (pv 13) pa_nil)))))))))))))))))))))))))))))))))
end
end K87

set_option maxHeartbeats 0
namespace K87
open PySem PySem.Spec PyProof.Rows L2 He
abbrev R : PySem.W.OpenRow := PySem.W.OpenLaw.row PySem.Challenge.rw_treesfromyes_k87_turner_fits_or_clash
abbrev hk : PySem.W.Hook := He.hookZ 5 fa fn fi PP.main.file exB
def ob (s : PySem.W.SharedT) : He.AlZ := He.obsZG 5 fa fn fi PP.main.file exB (HandSHeadRun.getT s)
theorem ob_eq (s : PySem.W.SharedT) : ob s = hk.obs s.abs := He.obsZG_eq (HandSHeadRun.getT_eq s)
def loose : List Str := ["LanguageError", "BadLetters", "BadWord", "BadText", "SMALL", "MOST_KINDS_OF_LETTERS", "check_letters", "check_word", "view_at", "Turner", "check_pairs", "first_clash", "fit_turner", "_law_start", "_law_next", "_law_integer", "_law_word", "_law_view", "_law_image", "_law_table", "_law_place", "_law_clash", "_law_due_image", "_law_good_turner", "_law_spoil", "_law_first_bad", "_law_refused"]
theorem run (w : World) : HandSHeadRun.RunEq R (PySem.W.view R.prog [31]) hk ob 2000 loose w := by
  intro os
  kernel_rfl
theorem fun_uniq {K : PySem.W.Frag} {x q x' q' : Str} {ps ps' : Arguments} {b b' : List Stmt} {sc sc' : Scope} {dv dv' : List V} {kw kw' : List (Str × V)} {f : Addr} {fd fd' : FuncData} (h : FunD K x q ps b sc dv kw f fd) (h' : FunD K x' q' ps' b' sc' dv' kw' f fd') : fd = fd' := by
  obtain ⟨_, _, _, _, _, _, _, _, _, _, _, l, _⟩ := h.ex
  obtain ⟨_, _, _, _, _, _, _, _, _, _, _, l', _⟩ := h'.ex
  rw [l] at l'
  cases l'
  rfl
theorem facts {w : World} {K : PySem.W.Frag} {h : Heap} {mg : Str → Option Value} {f : Addr} (X : K.In h) (G : h.Ns mainGlobals mg) (hfa : mg ("law" : Str) = some (.ref f)) (c : He.SaysZ fa fn fi PP.main.file exB K) :
    ∃ fd : FuncData, (∀ (s : Shared) (v : Value), BindsTo s fd ⟨[v], []⟩ [("script", v)]) ∧ ∀ base : Heap, K.In base → base.Ns mainGlobals mg → FnOk PP w K mg base CX0 7 f fd ["script"] (spLaw K) := by
  have T : Tx K mg := ⟨⟨h, X, G⟩, c⟩
  have e := hfa.symm.trans (glo_law T)
  cases e
  obtain ⟨fd, F, _, _⟩ := ok_law (w := w) (base := h) T
  have b := FunD.bindsA (ps := ["script"]) F fun _ _ _ _ _ _ us hl => match us, hl with | [_], _ => rfl
  refine ⟨fd, fun s v => b s [v] rfl, fun base _ _ => ?_⟩
  obtain ⟨fd', F', O, _⟩ := ok_law (w := w) (base := base) T
  rw [fun_uniq F F']
  exact O
end K87
open PySem PySem.W PySem.Calls PyProof.Rows
theorem PySem.Challenge.cw_treesfromyes_k87_turner_fits_or_clash_holds : PySem.Challenge.rw_treesfromyes_k87_turner_fits_or_clash.Holds := by
  w_on; o_law
  refine HandSHeadRun.head_any (r := K87.R) (q := view K87.R.prog [31]) (H := K87.hk) (ob := K87.ob) (M := 2000) (loose := K87.loose) (d := HandSHeadRun.topDef K87.R.prog 31) (kwd := []) K87.ob_eq
    (by kernel_rfl) (fun s => by kernel_rfl) K87.run (by kernel_rfl) (by kernel_rfl) (by kernel_rfl) (by rfl) (by first | assumption | decide +kernel) (by decide +kernel) ⟨rfl, rfl, rfl, rfl, rfl, by decide +kernel⟩ ?hw ?hc
  case hw => w_witness2
  case hc =>
    refine L2.walk_ofE (l := PySem.Challenge.rw_treesfromyes_k87_turner_fits_or_clash) (n := 63) (k := 7) (x := "script") (CX := L2.CX0) rfl (by decide) (by kernel_rfl) ⟨rfl, by decide, by decide⟩ ?F (fun _ _ _ _ z => z)
    intro w mg fa h Y G hmg0
    obtain ⟨K, KX, c⟩ := Y
    have hmg : mg ("law" : PySem.Str) = some (.ref fa) := by
      have e : (HandSHeadRun.topDef K87.R.prog 31).name = ("law" : PySem.Str) := by kernel_rfl
      rw [← e]
      exact hmg0
    obtain ⟨fd, hb, hF⟩ := K87.facts (w := w) KX G hmg c
    exact ⟨K, fd, K87.spLaw K, KX, hb, fun H a ns hl _ hS => ⟨a, ns, rfl, hS, hl, fun _ => rfl⟩, hF⟩

