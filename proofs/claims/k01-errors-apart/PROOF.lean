import PyProof.Rows.All
import Wide.All
import OpenK.AllK
import Wide.FinOn
import KE.KExcSuper
import HandS.ForExc
import HandS.ExcInit
import HandS.ForMost
import HandS.ExcValue
import HandS.IsInst
import KE.KExcIs
import HandS.ExcCtx
import HandS.HotCalls
import KE.KExcMake
import PyProof.ReprRoads
import PySem.Challenge.RW_blindrepair_k01_errors_apart
import HandS.Walk
set_option Elab.async false
set_option linter.all false
set_option maxRecDepth 100000
set_option maxHeartbeats 4000000
namespace BR
open PySem PySem.W PySem.Calls PyProof.Rows
/-! errors of the package: __init__ says super().__init__(text), then stores its fields -/
structure Ps where
  a1 : Pos
  a2 : Pos
  a3 : Pos
  a4 : Pos
  a5 : Pos
  a6 : Pos
/-- super().__init__(msg) -/
def sup (msg : Str) (p : Ps) : Stmt :=
  .Expr (.Call (.Attribute (.Call (.Name "super" p.a1) [] [] p.a2) "__init__" p.a3) [.Constant (.str msg) 0 p.a4] [] p.a5) p.a6
/-- self.f = f -/
def sto (f : Str) (p : Ps) : Stmt := .Assign [.Attribute (.Name "self" p.a1) f p.a2] (.Name f p.a3) p.a4
/-- the call of super().__init__(msg) is read as a method's call (its text stands on one line) -/
def SupRead (msg : Str) (p : Ps) : Prop := ∀ env : Env, ∃ pl : Sem Bool,
  eval (.Call (.Attribute (.Call (.Name "super" p.a1) [] [] p.a2) "__init__" p.a3) [.Constant (.str msg) 0 p.a4] [] p.a5) env = (do
    let ov ← attributeBase (.Call (.Name "super" p.a1) [] [] p.a2) "__init__" env (eval (.Call (.Name "super" p.a1) [] [] p.a2) env)
    standAt p.a3.atName
    let (f, first) ← holding [ov] (getMethod ov "__init__" pl)
    callWith p.a5 f first (backTo p.a5 (starEach [.Constant (.str msg) 0 p.a4] env)) [])
def ar (x : Str) (p : Pos) : Arg := { arg := x, annotation := none, pos := p }
def argsOf (xs : List Arg) : Arguments :=
  { posonlyargs := [], args := xs, vararg := none, kwonlyargs := [], kw_defaults := [], kwarg := none, defaults := [] }
def scopeOf (ns : List (Str × NameKind)) : Scope :=
  { kind := .function, names := ns, isGenerator := false, isCoroutine := false, more := [] }
def sc1 (f : Str) : Scope := scopeOf [(Str.ofString "self", .local), (f, .local), (Str.ofString "__class__", .free), (Str.ofString "super", .globalImplicit)]
def sc2 (f g : Str) : Scope :=
  scopeOf [(Str.ofString "self", .local), (f, .local), (g, .local), (Str.ofString "__class__", .free), (Str.ofString "super", .globalImplicit)]


/-- what the written part tells of an error's class at C and of its __init__ at fI -/
structure ErrTxt (prog : Program) (K : Frag) (mg : Str → Option Value) (C fI : Addr) (x : Str) : Prop where
  gC : mg x = some (.ref C)
  gS : mg "super" = none
  top : (prog.main.scope.names.lookup ("super" : Str)).isSome = false
  cls : ∃ nm q N bs bm sn sub ab col dd k0 k1 k2 k3 k5,
    K.lookup C = some (excClassObj nm q C N bs bm true sn sub ab col dd k0 k1 k2 k3 k5 "ValueError.__new__") ∧ HandSPX.refsVE bm = true ∧
    alongIn K "__init__" bm = some (some (.builtin "ValueError.__init__"))
  st : nsIn K cStatics "thirdparty.any" = some none
  sV : subIn K (.ref C) (.type "ValueError") = some true
  sS : mroIn K C (.ref C) = some true
  sa : findIn K (.ref C) "__setattr__" = some (some (.builtin "object.__setattr__"))
  iC : findIn K (.ref C) "__init__" = some (some (.ref fI))
  tI : typeIn K (.ref fI) = some (.type "function")
  kC : keepIn K (.ref C) = true
/-- .. and of the def itself -/
structure IniTxt (prog : Program) (K : Frag) (C fI cc cda : Addr) (qual : Str) (as : Arguments) (body : List Stmt) (sc : Scope) : Prop where
  fn : ∃ (oc : Value) (od : Option Addr) (kV doc pm : Value) (an : Option Addr) (ct : Value) (osl : Array (Option Value)),
    K.lookup fI = some ⟨oc, od, .func (ksFn "__init__" qual as body sc .none kV doc pm an (.ref cda) ct cc), osl⟩
  cd : codeIn K (.ref cda) qual = true
  file : ∃ ccl cdd vs ccs file tf, K.lookup cda = some ⟨ccl, cdd, .fields vs, ccs⟩ ∧ vs[2]? = some (.str file tf) ∧ ((prog.main.file : Str) == file) = true
  cell : ∃ cl cld csl, K.lookup cc = some ⟨cl, cld, .cell (some (.ref C)), csl⟩

/-- the module's two name tables, as the frame sees them -/
structure Two (mg : Str → Option Value) (h : Heap) : Prop where
  g : h.Ns mainGlobals mg
  b : ∃ mb, h.Ns builtinsNs mb ∧ mb "super" = some (.type "super")
theorem Two.keeps {mg : Str → Option Value} {h h' : Heap} (t : Two mg h) (k : ∀ b o, h.get? b = some o → h'.get? b = some o) : Two mg h' :=
  ⟨t.g.keeps k, let ⟨mb, h1, h2⟩ := t.b; ⟨mb, h1.keeps k, h2⟩⟩

section
variable {prog : Program} {w : World} {A : Around} {E : Value → Shared → Prop} {s : Shared} {K : Frag} {mg : Str → Option Value} {C fI cc cda : Addr} {xn qual : Str} {as : Arguments} {body : List Stmt} {ns : List (Str × NameKind)}

theorem cls_of (T : ErrTxt prog K mg C fI xn) : ∃ cd, clsIn K C = some cd ∧ HandSPX.refsVE cd.mro = true ∧ cd.hasDict = true ∧
    alongIn K "__init__" ((cd.mro.dropWhile (· != .ref C)).drop 1) = some (some (.builtin "ValueError.__init__")) := by
  obtain ⟨nm, q, N, bs, bm, sn, sub, ab, col, dd, k0, k1, k2, k3, k5, hC, hbm, hal⟩ := T.cls
  refine ⟨{ name := nm, bases := bs, mro := .ref C :: bm, ns := N, qualname := q, hasDict := true, slotNames := sn, subclasses := sub, abstract := ab, collection := col, hasDel := false }, ?_, hbm, rfl, ?_⟩
  · unfold clsIn
    rw [hC] <;> rfl
  · show alongIn K "__init__" (((Value.ref C :: bm).dropWhile (· != .ref C)).drop 1) = _
    rw [List.dropWhile_cons, if_neg (by simp)]
    exact hal

/-- the statement super().__init__(msg) in the frame of __init__ -/
theorem sup_ok (T : ErrTxt prog K mg C fI xn) (I : IniTxt prog K C fI cc cda qual as body (scopeOf ns)) {ar' : Arg} (hp : (as.posonlyargs ++ as.args).head? = some ar') (ha : ar'.arg = "self")
    (k1 : ns.lookup ("super" : Str) = some .globalImplicit) (k2 : ns.lookup ("__class__" : Str) = some .free) (k3 : ns.lookup ("self" : Str) = some .local)
    {L x t0 : Addr} {m : Str → Option Value} {msg : Str} {p : Ps} {Q : Flow → Shared → Prop} (hre : SupRead msg p) (X : K.In s.heap) (G : Two mg s.heap) (hn : s.heap.Ns L m) (hm : m "self" = some (.ref x)) (hx : s.heap.get? x = some (HandSPX.excO C t0))
    (hq : ∀ h' tk t1, (∀ b o, b ≠ x → s.heap.get? b = some o → h'.get? b = some o) → h'.get? x = some (HandSPX.excO C t1) → Q .next { s with heap := h', toks := tk }) :
    _root_.PySem.wpAt (model prog w) A (.func body (ksEnv qual (scopeOf ns) L fI (.ref cda) cc)) (exec (sup msg p) (ksEnv qual (scopeOf ns) L fI (.ref cda) cc)) Q E s := by
  obtain ⟨nm, q, N, bs, bm, sn, sub, ab, col, dd, k0', k1', k2', k3', k5', hC, hbm, hal⟩ := T.cls
  obtain ⟨cd, hcd, hmro, hhd, hsup⟩ := cls_of T
  obtain ⟨oc, od, kV, doc, pm, an, ct, osl, hfn⟩ := I.fn
  obtain ⟨ccl, cdd, vs, ccs, file, tf, hcode, hvs, hfile⟩ := I.file
  obtain ⟨cl, cld, csl, hcell⟩ := I.cell
  obtain ⟨mb, hb, hbs⟩ := G.b
  have hCl := X _ _ hC
  unfold sup
  obtain ⟨pl, hre⟩ := hre (ksEnv qual (scopeOf ns) L fI (.ref cda) cc)
  refine ks_wpAt_Expr_any (env := ksEnv qual (scopeOf ns) L fI (.ref cda) cc) (ks_wpAt_MethodCall (env := ksEnv qual (scopeOf ns) L fI (.ref cda) cc) (pl := pl) ?_ hre)
  refine ks_wpAt_super_base (env := ksEnv qual (scopeOf ns) L fI (.ref cda) cc) k1 k2 (by decide) rfl (X _ _ hfn) rfl hp rfl (X _ _ hcode) rfl hvs hfile T.top ?_
  refine ks_loadName_global rfl k1 (loadGlobal_builtin (env := ksEnv qual (scopeOf ns) L fI (.ref cda) cc) G.g T.gS hb hbs ⟨rfl, ?_⟩)
  refine wpAny_loadName_free rfl k2 rfl ⟨_, X _ _ hcell, rfl⟩ ?_
  rw [ha]
  refine wpAny_loadName_local rfl k3 hn hm ?_
  have hxC : x ≠ C := fun z => by
    rw [z, hCl] at hx
    cases hx
  have II : InstAt s.heap x (HandSPX.excO C t0) C none := ⟨hx, rfl, rfl, trivial⟩
  have hI : Looks (model prog w) s.heap (isInstance (.ref x) (.type "ValueError")) true := II.type.andThen (looks_subIn X T.sV)
  obtain ⟨hp, g, d, t, os⟩ := s
  refine ks_wpAny_isType_cls hCl rfl ⟨rfl, ?_⟩
  refine ks_wpAny_call_super hCl rfl hx rfl (fun c e => by cases e) (looks_mroIn X T.sS) (fun h1 e1 kp1 => ?_)
  have X1 : K.In h1 := X.keeps kp1
  refine kxs_getMethod kxs_ValueError e1 (looks_opaque X1 T.st) (l₀ := cd.mro) (fun A Q E s k q => wpAny_bind ((looks_clsIn X1 hcd) A _ E s k (wpAny_pure q))) rfl X1 hsup (hI.keeps kp1) hxC (by decide) ?_
  have kp2 : ∀ b o, hp.get? b = some o → (h1.push (kxs_mw "ValueError.__init__" x)).get? b = some o := fun b o e => Heap.get?_push_of_some _ (kp1 b o e)
  have hu : (h1.push (kxs_mw "ValueError.__init__" x)).get? h1.objs.size = some (kxs_mw "ValueError.__init__" x) := Heap.get?_push_at rfl rfl
  refine kxs_callWith (i := "ValueError.__init__") (x := x) rfl ?_
  show wpAny _ _ (evalArgs _ true ((false, eval (.Constant (.str msg) 0 p.a4) (ksEnv qual (scopeOf ns) L fI (.ref cda) cc)) :: []) []) _ _ _
  refine evalArgs_plain ?_
  refine Calls.spliced_cons ?_
  refine Calls.Constant_str ?_
  refine Calls.spliced_nil ⟨hu, ?_⟩
  show wpAny _ _ (call (.ref h1.objs.size) [.str msg _]) _ _ _
  refine wpAny_call (codeAny_of_tree ?_)
  show wpAny _ A.in1 (callAny (.ref h1.objs.size) ⟨[.str msg _], []⟩) _ _ _
  simp only [callAny]
  refine wpAny_bind (wpAny_load hu ?_)
  simp only [kxs_mw, show (Value.type "method-wrapper" == Value.type "method" || Value.type "method-wrapper" == Value.type "builtin_function_or_method" || Value.type "method-wrapper" == Value.type "method-wrapper") = true by decide, if_true]
  refine KFB.if_so (by decide) ?_
  refine wpAny_bind (check_bound_init F.excBase_ValueError.toExcCallFacts (kp2 _ _ hCl) (kp2 _ _ hx) rfl ?_)
  refine wpAny_bind (wpAny_pure (wpAny_pure ?_))
  refine ⟨plainId_quiet F.excBase_ValueError.init.plain _, codeAny_builtin F.excBase_ValueError.initEntry ?_⟩
  refine exc_init_tree (cls := .ref C) (t0 := t0) (dv := none) (c2 := .none) (c3 := .none) (b4 := .bool false) (kp2 _ _ hx) ?_ fun h' k e' t' => ?_
  · rw [sizeLine_eq]
    exact (by decide : 1 ≤ 16777216)
  · exact hq h' _ _ (fun b o hb e => k b o hb (kp2 b o e)) e'

/-- what __init__ leaves of a fresh error at x -/
structure Made0 (h h' : Heap) (x C dx t1 : Addr) (mA : Str → Option Value) : Prop where
  keep : ∀ b o, b ≠ x → h.get? b = some o → h'.get? b = some o
  obj : h'.get? x = some { cls := .ref C, dict := some dx, data := .fields #[.ref t1, .none, .none, .none, .bool false, .none] }
  dbig : h.objs.size ≤ dx
  dne : dx ≠ x
  ns : h'.Ns1 dx mA
abbrev fm1 (f : Str) (v : Value) : Str → Option Value := fun y => if y = f then some v else none
abbrev fm2 (f : Str) (v : Value) (g : Str) (u : Value) : Str → Option Value := fun y => if y = g then some u else fm1 f v y

theorem ld_loc {env : Env} {m : Str → Option Value} {x : Str} {pos : Pos} {v : Value} {Q : Value → Shared → Prop} (hn : s.heap.Ns env.locals m) (hv : m x = some v) (hk : env.scope.kind = .function) (hl : env.kindOf x = some .local)
    (hd : (x == ("__debug__" : Str)) = false) (h : Q v s) : wpAny (model prog w) A (eval (.Name x pos) env) Q E s := wpAny_Name (wpAny_loadName_local hk hl hn hv h) hd

/-- self.f = f, the first field -/
theorem sto_new (T : ErrTxt prog K mg C fI xn) {env : Env} {m : Str → Option Value} {f : Str} {v : Value} {x t0 : Addr} {p : Ps} {Q : Flow → Shared → Prop} (X : K.In s.heap) (hn : s.heap.Ns env.locals m) (hk : env.scope.kind = .function)
    (h1 : m "self" = some (.ref x)) (h2 : m f = some v) (l1 : env.kindOf "self" = some .local) (l2 : env.kindOf f = some .local) (hd : (f == ("__debug__" : Str)) = false) (hno : findIn K (.ref C) f = some none)
    (hx : s.heap.get? x = some (HandSPX.excO C t0)) (hs : swapsWith (.Name f p.a3) (some (.Attribute (.Name "self" p.a1) f p.a2)) p.a4.line env = pure false)
    (hq : ∀ h' tk dx, Made0 s.heap h' x C dx t0 (fm1 f v) → Q .next { s with heap := h', toks := tk }) : wpAny (model prog w) A (exec (sto f p) env) Q E s := by
  obtain ⟨cd, hcd, hmro, hhd, _⟩ := cls_of T
  unfold sto
  refine plainObj_wpAny_Assign_Attribute ?_ hs
  refine ld_loc hn h2 hk l2 hd (ld_loc hn h1 hk l1 (by decide) ?_)
  refine set_plain X (ox := HandSPX.excO C t0) (od := none) ⟨hx, rfl, rfl, trivial⟩ T.sa ?_
  obtain ⟨hp, g, d, t, os⟩ := s
  exact HandSPX.exc_osa X hx hcd hmro hhd hno fun h3 tk3 dx k3 dn dne hx3 hn3 => hq h3 tk3 dx ⟨k3, hx3, dn, dne, hn3⟩
/-- self.g = g, the second one -/
theorem sto_old (T : ErrTxt prog K mg C fI xn) {env : Env} {m : Str → Option Value} {f g : Str} {v u : Value} {x t0 dx : Addr} {p : Ps} {h : Heap} {Q : Flow → Shared → Prop} (X : K.In s.heap) (hn : s.heap.Ns env.locals m) (hk : env.scope.kind = .function)
    (h1 : m "self" = some (.ref x)) (h2 : m g = some u) (l1 : env.kindOf "self" = some .local) (l2 : env.kindOf g = some .local) (hd : (g == ("__debug__" : Str)) = false) (hno : findIn K (.ref C) g = some none)
    (hM : Made0 h s.heap x C dx t0 (fm1 f v)) (hs : swapsWith (.Name g p.a3) (some (.Attribute (.Name "self" p.a1) g p.a2)) p.a4.line env = pure false)
    (hq : ∀ h' tk, Made0 h h' x C dx t0 (fm2 f v g u) → Q .next { s with heap := h', toks := tk }) : wpAny (model prog w) A (exec (sto g p) env) Q E s := by
  obtain ⟨cd, hcd, hmro, hhd, _⟩ := cls_of T
  have hw : Within (fm1 f v) [f] := fun y hy => by
    by_cases e : y = f
    · rw [e]
      exact List.mem_singleton.mpr rfl
    · exact absurd (if_neg e) hy
  obtain ⟨oD, _, _, hoD, _, _⟩ := hM.ns.count hw
  unfold sto
  refine plainObj_wpAny_Assign_Attribute ?_ hs
  refine ld_loc hn h2 hk l2 hd (ld_loc hn h1 hk l1 (by decide) ?_)
  refine set_plain X (ox := { cls := .ref C, dict := some dx, data := .fields #[.ref t0, .none, .none, .none, .bool false, .none] }) (od := some oD) ⟨hM.obj, rfl, rfl, hoD⟩ T.sa ?_
  obtain ⟨hp, g', d, t, os⟩ := s
  refine OEX.osa_old X hM.obj hM.ns hw (show 1 ≤ 1000 by decide) hcd hmro hhd hno fun h3 tk3 k3 hn3 => hq h3 tk3 ?_
  refine ⟨fun b o hb e => ?_, k3 _ _ hM.dne.symm hM.obj, hM.dbig, hM.dne, hn3⟩
  have q := hM.keep b o hb e
  have nb : b ≠ dx := fun z => absurd (Nat.lt_of_lt_of_le (Heap.lt_size e) hM.dbig) (by rw [z]; exact Nat.lt_irrefl _)
  exact k3 b o nb q

theorem beq_ff {f g : Str} (h : f ≠ g) : (f == g) = false := by simpa using h
/-- names of a field that are fit -/
structure Fit (f : Str) : Prop where
  s : f ≠ "self"
  d : f ≠ "__debug__"
theorem Fit.self {f : Str} (x : Fit f) : ("self" : Str) ≠ f := Ne.symm x.s

abbrev ns1 (f : Str) : List (Str × NameKind) := [(Str.ofString "self", .local), (f, .local), (Str.ofString "__class__", .free), (Str.ofString "super", .globalImplicit)]
abbrev ns2 (f g : Str) : List (Str × NameKind) := [(Str.ofString "self", .local), (f, .local), (g, .local), (Str.ofString "__class__", .free), (Str.ofString "super", .globalImplicit)]
abbrev bd1 (msg f : Str) (p q : Ps) : List Stmt := [sup msg p, sto f q]
abbrev bd2 (msg f g : Str) (p q r : Ps) : List Stmt := [sup msg p, sto f q, sto g r]
abbrev as1 (f : Str) (p q : Pos) : Arguments := argsOf [ar "self" p, ar f q]
abbrev as2 (f g : Str) (p q r : Pos) : Arguments := argsOf [ar "self" p, ar f q, ar g r]

/-- the __init__ of an error with one field -/
theorem init1 {f msg : Str} {p q : Ps} {pa pb : Pos} (hf : Fit f) (hc1 : ("__class__" : Str) ≠ f) (hc2 : ("super" : Str) ≠ f) (T : ErrTxt prog K mg C fI xn) (I : IniTxt prog K C fI cc cda qual (as1 f pa pb) (bd1 msg f p q) (scopeOf (ns1 f)))
    (hno : findIn K (.ref C) f = some none) (hre : SupRead msg p) (hsw : ∀ env, swapsWith (.Name f q.a3) (some (.Attribute (.Name "self" q.a1) f q.a2)) q.a4.line env = pure false)
    {x t0 : Addr} {v : Value} {args : Args} {R : Result → Shared → Prop} (X : K.In s.heap) (hlim : s.heap.NoLimit) (G : Two mg s.heap) (hx : s.heap.get? x = some (HandSPX.excO C t0)) (hnx : K.lookup x = none) (hroom : A.depth < recursionLimit)
    (hb : ∀ fd, (∃ kV doc pm an ct, fd = ksFn "__init__" qual (as1 f pa pb) (bd1 msg f p q) (scopeOf (ns1 f)) .none kV doc pm an (.ref cda) ct cc) → BindsTo s fd args [("self", .ref x), (f, v)])
    (hq : ∀ h' tk dx t1, Made0 s.heap h' x C dx t1 (fm1 f v) → R (.ok (.ret .none)) { s with heap := h', toks := tk }) :
    codeAny (model prog w) A (.call (.ref fI) args) R s := by
  obtain ⟨oc, od, kV, doc, pm, an, ct, osl, hfn⟩ := I.fn
  have lS : (ns1 f).lookup ("super" : Str) = some .globalImplicit := by simp [ns1, List.lookup, beq_ff hc2]; rfl
  have lC : (ns1 f).lookup ("__class__" : Str) = some .free := by simp [ns1, List.lookup, beq_ff hc1]; rfl
  have lF : (ns1 f).lookup f = some .local := by simp [ns1, List.lookup, beq_ff hf.s]
  have e1 : [(("self" : Str), Value.ref x), (f, v)].reverse.lookup ("self" : Str) = some (.ref x) := by simp [List.lookup, beq_ff hf.self]
  have e2 : [(("self" : Str), Value.ref x), (f, v)].reverse.lookup f = some v := by simp [List.lookup]
  refine ks_codeAny_call_defAt (fd := ksFn "__init__" qual (as1 f pa pb) (bd1 msg f p q) (scopeOf (ns1 f)) .none kV doc pm an (.ref cda) ct cc) (body := bd1 msg f p q) hroom (X _ _ hfn) rfl hlim (codeRec_of X I.cd) rfl
    (hb _ ⟨kV, doc, pm, an, ct, rfl⟩) (by simp [scopeOf, ns1]) (fun y hy => ?_) (fun h1 hns hk1 => ?_) rfl rfl rfl
  · rcases List.mem_cons.mp hy with rfl | hy
    · rfl
    · obtain rfl := List.mem_singleton.mp hy
      exact lF
  · show _root_.PySem.wpAt (model prog w) (A.deeper (ksEnv qual (scopeOf (ns1 f)) s.heap.objs.size fI (.ref cda) cc)) (.func (bd1 msg f p q) (ksEnv qual (scopeOf (ns1 f)) s.heap.objs.size fI (.ref cda) cc)) (execs [sup msg p, sto f q] (ksEnv qual (scopeOf (ns1 f)) s.heap.objs.size fI (.ref cda) cc)) _ _ _
    have xL : x ≠ s.heap.objs.size := Nat.ne_of_lt (Heap.lt_size hx)
    refine ks_wpAt_execs_cons (sup_ok T I rfl rfl lS lC rfl hre (X.keeps hk1) (G.keeps hk1) hns e1 (hk1 _ _ hx) fun h2 tk2 t1 k2 hx2 => ?_)
    have kk : ∀ b o, b ≠ x → s.heap.get? b = some o → h2.get? b = some o := fun b o hb e => k2 b o hb (hk1 b o e)
    have X2 : K.In h2 := fun a o e => kk a o (fun z => by rw [z, hnx] at e; cases e) (X a o e)
    have hns2 : h2.Ns s.heap.objs.size (fun y => [(("self" : Str), Value.ref x), (f, v)].reverse.lookup y) := by
      obtain ⟨oL, es, ep, hL, r⟩ := hns
      exact ⟨oL, es, ep, k2 _ _ (Ne.symm xL) hL, r⟩
    refine wpAt_of_wpAny (wpAny_execs_cons (sto_new (s := ⟨h2, s.gens, s.drawn, tk2, s.os⟩) T X2 hns2 rfl e1 e2 rfl lF (beq_ff hf.d) hno hx2 (hsw _) fun h3 tk3 dx M => ?_))
    refine wpAny_execs_nil (hq h3 tk3 dx t1 ⟨fun b o hb e => M.keep b o hb (kk b o hb e), M.obj, ?_, M.dne, M.ns⟩)
    have z : s.heap.objs.size < h2.objs.size := hns2.lt
    exact Nat.le_of_lt (Nat.lt_of_lt_of_le z M.dbig)
/-- .. with two fields -/
theorem init2 {f g msg : Str} {p q r : Ps} {pa pb pc : Pos} (hf : Fit f) (hg : Fit g) (hfg : f ≠ g) (hc : ("__class__" : Str) ≠ f ∧ ("super" : Str) ≠ f ∧ ("__class__" : Str) ≠ g ∧ ("super" : Str) ≠ g) (T : ErrTxt prog K mg C fI xn)
    (I : IniTxt prog K C fI cc cda qual (as2 f g pa pb pc) (bd2 msg f g p q r) (scopeOf (ns2 f g))) (hno : findIn K (.ref C) f = some none) (hno' : findIn K (.ref C) g = some none) (hre : SupRead msg p)
    (hsw : ∀ env, swapsWith (.Name f q.a3) (some (.Attribute (.Name "self" q.a1) f q.a2)) q.a4.line env = pure false) (hsw' : ∀ env, swapsWith (.Name g r.a3) (some (.Attribute (.Name "self" r.a1) g r.a2)) r.a4.line env = pure false)
    {x t0 : Addr} {v u : Value} {args : Args} {R : Result → Shared → Prop} (X : K.In s.heap) (hlim : s.heap.NoLimit) (G : Two mg s.heap) (hx : s.heap.get? x = some (HandSPX.excO C t0)) (hnx : K.lookup x = none) (hroom : A.depth < recursionLimit)
    (hb : ∀ fd, (∃ kV doc pm an ct, fd = ksFn "__init__" qual (as2 f g pa pb pc) (bd2 msg f g p q r) (scopeOf (ns2 f g)) .none kV doc pm an (.ref cda) ct cc) → BindsTo s fd args [("self", .ref x), (f, v), (g, u)])
    (hq : ∀ h' tk dx t1, Made0 s.heap h' x C dx t1 (fm2 f v g u) → R (.ok (.ret .none)) { s with heap := h', toks := tk }) :
    codeAny (model prog w) A (.call (.ref fI) args) R s := by
  obtain ⟨c1, c2, c3, c4⟩ := hc
  obtain ⟨oc, od, kV, doc, pm, an, ct, osl, hfn⟩ := I.fn
  have lS : (ns2 f g).lookup ("super" : Str) = some .globalImplicit := by simp [ns2, List.lookup, beq_ff c2, beq_ff c4]; rfl
  have lC : (ns2 f g).lookup ("__class__" : Str) = some .free := by simp [ns2, List.lookup, beq_ff c1, beq_ff c3]; rfl
  have lF : (ns2 f g).lookup f = some .local := by simp [ns2, List.lookup, beq_ff hf.s]
  have lG : (ns2 f g).lookup g = some .local := by simp [ns2, List.lookup, beq_ff hg.s, beq_ff (Ne.symm hfg)]
  have e1 : [(("self" : Str), Value.ref x), (f, v), (g, u)].reverse.lookup ("self" : Str) = some (.ref x) := by simp [List.lookup, beq_ff hf.self, beq_ff hg.self]
  have e2 : [(("self" : Str), Value.ref x), (f, v), (g, u)].reverse.lookup f = some v := by simp [List.lookup, beq_ff hfg]
  have e3 : [(("self" : Str), Value.ref x), (f, v), (g, u)].reverse.lookup g = some u := by simp [List.lookup]
  refine ks_codeAny_call_defAt (fd := ksFn "__init__" qual (as2 f g pa pb pc) (bd2 msg f g p q r) (scopeOf (ns2 f g)) .none kV doc pm an (.ref cda) ct cc) (body := bd2 msg f g p q r) hroom (X _ _ hfn) rfl hlim (codeRec_of X I.cd) rfl
    (hb _ ⟨kV, doc, pm, an, ct, rfl⟩) (by simp [scopeOf, ns2]) (fun y hy => ?_) (fun h1 hns hk1 => ?_) rfl rfl rfl
  · rcases List.mem_cons.mp hy with rfl | hy
    · rfl
    · rcases List.mem_cons.mp hy with rfl | hy
      · exact lF
      · obtain rfl := List.mem_singleton.mp hy
        exact lG
  · show _root_.PySem.wpAt (model prog w) (A.deeper (ksEnv qual (scopeOf (ns2 f g)) s.heap.objs.size fI (.ref cda) cc)) (.func (bd2 msg f g p q r) (ksEnv qual (scopeOf (ns2 f g)) s.heap.objs.size fI (.ref cda) cc))
      (execs [sup msg p, sto f q, sto g r] (ksEnv qual (scopeOf (ns2 f g)) s.heap.objs.size fI (.ref cda) cc)) _ _ _
    have xL : x ≠ s.heap.objs.size := Nat.ne_of_lt (Heap.lt_size hx)
    refine ks_wpAt_execs_cons (sup_ok T I rfl rfl lS lC rfl hre (X.keeps hk1) (G.keeps hk1) hns e1 (hk1 _ _ hx) fun h2 tk2 t1 k2 hx2 => ?_)
    have kk : ∀ b o, b ≠ x → s.heap.get? b = some o → h2.get? b = some o := fun b o hb e => k2 b o hb (hk1 b o e)
    have nK : ∀ a o, K.lookup a = some o → a ≠ x := fun a o e z => by rw [z, hnx] at e; cases e
    have X2 : K.In h2 := fun a o e => kk a o (nK a o e) (X a o e)
    obtain ⟨oL, es, ep, hL, rL⟩ := hns
    have hL2 := k2 _ _ (Ne.symm xL) hL
    refine wpAt_of_wpAny (wpAny_execs_cons (sto_new (s := ⟨h2, s.gens, s.drawn, tk2, s.os⟩) T X2 ⟨oL, es, ep, hL2, rL⟩ rfl e1 e2 rfl lF (beq_ff hf.d) hno hx2 (hsw _) fun h3 tk3 dx M => ?_))
    have X3 : K.In h3 := fun a o e => M.keep a o (nK a o e) (X2 a o e)
    have hL3 := M.keep _ _ (Ne.symm xL) hL2
    refine wpAny_execs_cons (sto_old (s := ⟨h3, s.gens, s.drawn, tk3, s.os⟩) (h := h2) T X3 ⟨oL, es, ep, hL3, rL⟩ rfl e1 e3 rfl lG (beq_ff hg.d) hno' M (hsw' _) fun h4 tk4 M4 => ?_)
    refine wpAny_execs_nil (hq h4 tk4 dx t1 ⟨fun b o hb e => M4.keep b o hb (kk b o hb e), M4.obj, ?_, M4.dne, M4.ns⟩)
    exact Nat.le_of_lt (Nat.lt_of_lt_of_le (Heap.lt_size hL2) M4.dbig)
end
end BR
namespace BR
open PySem PySem.W PySem.Calls HandSPX
/-! C(.., k = v): an own error's class called with keywords -/
section
variable {M : Model} {A : Around} {E : Value → Shared → Prop} {h : Heap} {g : Array GenState} {d : Drawn} {t : Nat} {os : OsState}
variable {nm q : Str} {C N : Addr} {bs bm bmB : List Value} {hdct : Bool} {sn : List Str} {sub : List Value} {ab : Bool} {col : Option Bool} {dd : Option Addr} {k0 k1 k2 k3 k5 : Option Value} {B newId initId : String}
theorem kw_check_new (F : ExcBaseFacts B newId initId bmB) (hT : ∀ X : String, bm.contains (.type X) = bmB.contains (.type X)) {rest : List Value} {kw : List (Str × Value)} {Q : Unit → Shared → Prop}
    (hC : h.get? C = some (excClassObj nm q C N bs bm hdct sn sub ab col dd k0 k1 k2 k3 k5 newId)) (hq : Q () ⟨h, g, d, t, os⟩) : wpAny M A (checkBuiltinCall newId ⟨.ref C :: rest, kw⟩) Q E ⟨h, g, d, t, os⟩ := by
  have hb : (Value.ref C :: bm).contains (.type B) = true := by
    rw [List.contains_cons, hT, F.hasB, Bool.or_true]
  have hstar := F.noStar
  simp only [checkBuiltinCall, F.newKind, F.newSplit, F.newRow]
  repeat (first
    | refine wpAny_loadPart_at hC ?_
    | (refine wpAny_isSubtype_exc hC ?_; rw [hb])
    | refine wpAny_staticBase_exc hC ?_
    | refine wpAny_madeBy_exc hC ?_
    | simp only [bne_self_eq_false, Bool.false_eq_true, if_false]
    | wp_step)
  exact hq
end
section
variable {prog : Program} {w : World} {A : Around} {E : Value → Shared → Prop} {R : Result → Shared → Prop} {h : Heap} {g : Array GenState} {d : Drawn} {t : Nat} {os : OsState}
variable {nm q : Str} {C N : Addr} {bs bm bmB : List Value} {hdct : Bool} {sn : List Str} {sub : List Value} {ab : Bool} {col : Option Bool} {dd : Option Addr} {k0 k1 k2 k3 k5 : Option Value} {B newId initId : String}
theorem kw_new (F : ExcBaseFacts B newId initId bmB) (hT : ∀ X : String, bm.contains (.type X) = bmB.contains (.type X)) {rest : List Value} {kw : List (Str × Value)}
    (hC : h.get? C = some (excClassObj nm q C N bs bm hdct sn sub ab col dd k0 k1 k2 k3 k5 newId))
    (hq : R (.ok (.ret (.ref (h.objs.size + 1)))) ⟨(h.push (kdv_tup rest)).push (excO C h.objs.size), g, d, t, os⟩) (hrest : rest.length ≤ sizeLine) :
    codeAny (model prog w) A (.builtin newId ⟨.ref C :: rest, kw⟩) R ⟨h, g, d, t, os⟩ := by
  have hends := F.ends
  have hb : (Value.ref C :: bm).contains (.type B) = true := by
    rw [List.contains_cons, hT, F.hasB, Bool.or_true]
  have ha : (Value.ref C :: bm).contains (.type "AttributeError") = false := by
    rw [List.contains_cons, hT, F.noAttr]
    rfl
  have hn : (Value.ref C :: bm).contains (.type "NameError") = false := by
    rw [List.contains_cons, hT, F.noName]
    rfl
  refine codeAny_builtinAt F.entry ?_
  unfold Builtin.«BaseException.__new__»
  refine wpAt_bind ?_
  show _root_.PySem.wpAt _ _ _ (stack >>= _) _ _ _
  refine wpAt_bind (wpAt_stack fun p below => wpAt_of_wpAny ?_)
  wp_walk
  refine wpAt_of_wpAny ?_
  rw [F.owner]
  repeat (first
    | with_reducible refine wpAny_madeHere_exc F.canon hC ?_
    | with_reducible refine wpAny_loadPart_at hC ?_
    | (with_reducible refine wpAny_isSubtype_exc hC ?_; first | rw [hb] | rw [ha] | rw [hn])
    | wp_step)
  show R _ _
  rw [Heap.size_push]
  exact hq

theorem kw_type_call (F : ExcBaseFacts B newId initId bmB) (hT : ∀ X : String, bm.contains (.type X) = bmB.contains (.type X)) {rest : List Value} {kw : List (Str × Value)} {fI : Addr} {Q : Fin → Shared → Prop}
    (hC : h.get? C = some (excClassObj nm q C N bs bm hdct sn sub ab col dd k0 k1 k2 k3 k5 newId)) (hi : Looks (model prog w) h (typeLookup (.ref C) "__init__") (some (.ref fI)))
    (hb : ∀ self, Looks (model prog w) h (bindSpecial (.ref fI) self) (.ref fI, [self])) (hrest : rest.length ≤ sizeLine)
    (hq : codeAny (model prog w) A (.call (.ref fI) ⟨.ref (h.objs.size + 1) :: rest, kw⟩)
      (fun r s' => match r with | .ok (.ret v) => v = .none ∧ Q (.done (.ret (.ref (h.objs.size + 1)))) s' | .ok _ => False | .error e => E e s')
      ⟨(h.push (kdv_tup rest)).push (excO C h.objs.size), g, d, t, os⟩) :
    wpAny (model prog w) A (Builtin.«type.__call__» ⟨.ref C :: rest, kw⟩) Q E ⟨h, g, d, t, os⟩ := by
  repeat (first | with_reducible refine wpAny_loadPart_at hC ?_ | with_reducible refine wpAny_madeBy_exc hC ?_ | wp_step)
  refine codeAny_call_builtin_code (Code.quiet_builtin _ F.quiet) (kw_check_new F hT hC ?_)
  refine kw_new F hT hC ?_ hrest
  show wpAny _ _ _ _ _ _
  have k : ∀ b o, h.get? b = some o → ((h.push (kdv_tup rest)).push (excO C h.objs.size)).get? b = some o :=
    fun b o e => Heap.get?_push_of_some _ (Heap.get?_push_of_some _ e)
  have c1 := k _ _ hC
  have hget : ((h.push (kdv_tup rest)).push (excO C h.objs.size)).get? (h.objs.size + 1) = some (excO C h.objs.size) := by
    heap_get
  have cc : (Value.ref C :: bm).contains (.ref C) = true := by simp
  have i1 := hi.keeps k
  have b1 := (hb (.ref (h.objs.size + 1))).keeps k
  unfold isInstance
  repeat (first
    | with_reducible refine wpAny_loadPart_at hget ?_
    | (with_reducible refine wpAny_isSubtype_exc c1 ?_; rw [cc])
    | wp_step)
  show wpAny _ _ (typeLookup (.ref C) _) _ _ _
  refine i1.at (wpAny_holding (wpAny_bind (b1.at ?_)))
  refine wpAny_bind (wpAny_call (codeAny_mono hq fun r s' z => ?_))
  rcases r with e | fl
  · exact z
  · cases fl with
    | ret v =>
      obtain ⟨rfl, z⟩ := z
      first
        | exact wpAny_pure (wpAny_pure z)
        | (wp_walk; exact z)
    | next => exact z.elim
    | brk => exact z.elim
    | cont => exact z.elim
theorem kw_call (F : ExcBaseFacts B newId initId bmB) (hT : ∀ X : String, bm.contains (.type X) = bmB.contains (.type X)) {rest : List Value} {kw : List (Str × Value)} {fI : Addr}
    (hC : h.get? C = some (excClassObj nm q C N bs bm hdct sn sub ab col dd k0 k1 k2 k3 k5 newId)) (hi : Looks (model prog w) h (typeLookup (.ref C) "__init__") (some (.ref fI)))
    (hb : ∀ self, Looks (model prog w) h (bindSpecial (.ref fI) self) (.ref fI, [self])) (hrest : rest.length ≤ sizeLine)
    (hq : codeAny (model prog w) (A.under (.builtin "type.__call__" ⟨.ref C :: rest, kw⟩)) (.call (.ref fI) ⟨.ref (h.objs.size + 1) :: rest, kw⟩) (InitBack (h.objs.size + 1) R)
      ⟨(h.push (kdv_tup rest)).push (excO C h.objs.size), g, d, t, os⟩) :
    codeAny (model prog w) A (.call (.ref C) ⟨rest, kw⟩) R ⟨h, g, d, t, os⟩ := by
  have f1 := tc_lookup
  have f2 := tc_bind (.ref C)
  have hTy : (⟨h, g, d, t, os⟩ : Shared).TypeIs (.ref C) "type" := ⟨_, hC, rfl⟩
  refine codeAny_of_tree ?_
  show wpAny _ _ (callAny (.ref C) _) _ _ _
  repeat (any_goals (first | assumption | with_reducible refine wpAny_loadPart_at hC ?_ | wp_step))
  refine ⟨rfl, ?_⟩
  refine codeAny_call_builtin_at (Code.quiet_builtin _ (by decide +kernel)) entry_typeCall (wpAny_check_type_call_sub hC (kw_type_call F hT hC hi hb hrest ?_))
  refine codeAny_mono hq fun r s' z => ?_
  rcases r with e | (v | _ | _ | _) <;> exact z
end
end BR
namespace BR
open PySem PySem.Spec PyProof.Rows L2

/-- a new error at e, its own dict at d -/
structure MadeE (h h' : Heap) (e C d : Addr) (mA : Str → Option Value) : Prop where
  keep : ∀ b o, h.get? b = some o → h'.get? b = some o
  new : h.objs.size ≤ e
  obj : ∃ t1 : Addr, h'.get? e = some { cls := .ref C, dict := some d, data := .fields #[.ref t1, .none, .none, .none, .bool false, .none] }
  dbig : h.objs.size ≤ d
  dne : d ≠ e
  ns : h'.Ns1 d mA
/-- C called with these arguments makes an error with these fields -/
def Makes (prog : Program) (w : World) (K : PySem.W.Frag) (mg : Str → Option Value) (C : Addr) (us : List Value) (kw : List (Str × Value)) (mA : Str → Option Value) : Prop :=
  ∀ (A : Around) (s : Shared) (R : Result → Shared → Prop), K.In s.heap → s.heap.NoLimit → Two mg s.heap → A.depth + 1 < recursionLimit →
    (∀ h' tk e d, MadeE s.heap h' e C d mA → R (.ok (.ret (.ref e))) { s with heap := h', toks := tk }) → codeAny (model prog w) A (.call (.ref C) ⟨us, kw⟩) R s

section
variable {prog : Program} {w : World} {K : PySem.W.Frag} {mg : Str → Option Value} {C fI cc cda : Addr} {xn qual : Str}
theorem fresh_K {h : Heap} {x : Addr} (X : K.In h) (hx : h.objs.size ≤ x) : K.lookup x = none := by
  cases e : K.lookup x with
  | none => rfl
  | some o => exact absurd (Nat.lt_of_lt_of_le (Heap.lt_size (X _ _ e)) hx) (Nat.lt_irrefl _)
theorem makes_of (T : ErrTxt prog K mg C fI xn) {us : List Value} {kw : List (Str × Value)} {mA : Str → Option Value} (hus : us.length ≤ 1000)
    (hI : ∀ (A : Around) (s : Shared) (R : Result → Shared → Prop) (x t0 : Addr), K.In s.heap → s.heap.NoLimit → Two mg s.heap → s.heap.get? x = some (HandSPX.excO C t0) → K.lookup x = none → A.depth < recursionLimit →
      (∀ h' tk dx t1, Made0 s.heap h' x C dx t1 mA → R (.ok (.ret .none)) { s with heap := h', toks := tk }) → codeAny (model prog w) A (.call (.ref fI) ⟨.ref x :: us, kw⟩) R s) :
    Makes prog w K mg C us kw mA := by
  intro A s R X hlim G hroom hq
  obtain ⟨nm, q, N, bs, bm, sn, sub, ab, col, dd, k0, k1, k2, k3, k5, hC, hbm, hal⟩ := T.cls
  obtain ⟨hp, g, d, t, os⟩ := s
  have k : ∀ b o, hp.get? b = some o → ((hp.push (PySem.W.kdv_tup us)).push (HandSPX.excO C hp.objs.size)).get? b = some o :=
    fun b o e => Heap.get?_push_of_some _ (Heap.get?_push_of_some _ e)
  have hget : ((hp.push (PySem.W.kdv_tup us)).push (HandSPX.excO C hp.objs.size)).get? (hp.objs.size + 1) = some (HandSPX.excO C hp.objs.size) := by
    heap_get
  have hz : us.length ≤ sizeLine := by
    rw [sizeLine_eq]
    omega
  refine kw_call F.excBase_ValueError (fun Y => HandSPX.refsVE_contains Y bm hbm) (X _ _ hC) (PySem.W.looks_findIn X T.iC) (fun self => PySem.W.bind_fn X self T.tI) hz ?_
  refine hI _ ⟨(hp.push (PySem.W.kdv_tup us)).push (HandSPX.excO C hp.objs.size), g, d, t, os⟩ _ (hp.objs.size + 1) hp.objs.size (X.keeps k) (hlim.keeps k) (G.keeps k) hget (fresh_K X (Nat.le_succ _)) ?_ fun h' tk dx t1 M => ?_
  · rw [make_depth]
    exact hroom
  · have sz : ((hp.push (PySem.W.kdv_tup us)).push (HandSPX.excO C hp.objs.size)).objs.size = hp.objs.size + 1 + 1 := by
      rw [Heap.size_push, Heap.size_push]
    refine ⟨rfl, hq h' tk (hp.objs.size + 1) dx ⟨fun b o e => ?_, Nat.le_succ _, ⟨_, M.obj⟩, ?_, M.dne, M.ns⟩⟩
    · exact M.keep b o (Nat.ne_of_lt (Nat.lt_succ_of_lt (Heap.lt_size e))) (k b o e)
    · have z : hp.objs.size + 1 + 1 ≤ dx := sz ▸ M.dbig
      show hp.objs.size ≤ dx
      omega
end

/-- an error as a value -/
def erv (a C : Addr) (d : Option Addr) : HO := .ext fun h => ∃ (oe : Obj) (vs : Array Value), h.get? a = some oe ∧ oe.cls = .ref C ∧ oe.dict = d ∧ oe.data = .fields vs
theorem erv_ok {P : Program} {w : World} {H : Hp} {h : Heap} {a C : Addr} {d : Option Addr} {oe : Obj} {vs : Array Value} (h1 : h.get? a = some oe) (h2 : oe.cls = .ref C) (h3 : oe.dict = d) (h4 : oe.data = .fields vs) : ObjOk P w H h a (erv a C d) :=
  ⟨⟨oe, vs, h1, h2, h3, h4⟩, ⟨oe, h1⟩, fun _ _ ⟨o, v, q, r⟩ k => ⟨o, v, k o q, r⟩⟩
theorem erv_at {P : Program} {w : World} {H : Hp} {h : Heap} {a C : Addr} {d : Option Addr} (hok : HOk P w H h) (e : H a = some (erv a C d)) : ∃ (oe : Obj) (vs : Array Value), h.get? a = some oe ∧ oe.cls = .ref C ∧ oe.dict = d ∧ oe.data = .fields vs := by
  have x : ObjOk P w H h a (.ext _) := hok a _ e
  exact x.1

section
variable {X : Cx}
/-- the new heap holds the error and its dict -/
theorem inv_made {pins : List (Addr × Obj)} {σ : L2.St} {H : Hp} {s : Shared} {h' : Heap} {tk : Nat} {e C d : Addr} {mA : Str → Option Value} {fs : List (Str × V)} (I : Inv X pins σ H s) (M : MadeE s.heap h' e C d mA)
    (r : ∀ f, RelO (fs.lookup f) (mA f)) : H e = none ∧ H d = none ∧ Inv X pins σ (upd (upd H d (.xd fs)) e (erv e C (some d))) { s with heap := h', toks := tk } := by
  obtain ⟨G, g1, g2⟩ := restrict h' fun b => decide (b ≠ e)
  have gk : ∀ b, b ≠ e → G.get? b = h'.get? b := fun b hb => g1 b (decide_eq_true hb)
  have ge : G.get? e = none := g2 e (by simp)
  have old : ∀ b o, s.heap.get? b = some o → G.get? b = some o := fun b o q => (gk b (Nat.ne_of_lt (Nat.lt_of_lt_of_le (Heap.lt_size q) M.new))).trans (M.keep b o q)
  have ob : ObjOk X.prog X.w (upd H d (.xd fs)) G d (.xd fs) := ⟨_, M.ns.at (fun o q => (gk d M.dne).trans q), r⟩
  have J := I.laid (t' := tk) old M.dbig ob
  have hn : upd H d (.xd fs) e = none := by
    rw [upd_ne M.dne.symm]
    exact I.hok.fresh M.new
  obtain ⟨t1, ho⟩ := M.obj
  refine ⟨I.hok.fresh M.new, I.hok.fresh M.dbig, J.laidN (t' := tk) (fun b u q => ?_) ge hn (erv_ok ho rfl rfl rfl)⟩
  by_cases hb : b = e
  · have q' : G.get? b = some u := q
    rw [hb, ge] at q'
    cases q'
  · exact (gk b hb).symm.trans q

/-- X(e, ..) -/
def tEr (C : Addr) (ff : List V → Option (List (Str × V))) (ta : TA) : TE := fun σ H Q => ta σ H fun vs H1 => ∃ fs, ff vs = some fs ∧ ∀ a d, H1 a = none → H1 d = none → d ≠ a → Q (.ref a) (upd (upd H1 d (.xd fs)) a (erv a C (some d)))
/-- the class keeps what tEr says: by place, by names -/
structure ErC (prog : Program) (w : World) (K : PySem.W.Frag) (mg : Str → Option Value) (x : Str) (C : Addr) (ff : List V → Option (List (Str × V))) (ks : List Str) (fk : List V → Option (List (Str × V))) : Prop where
  g : mg x = some (.ref C)
  k : PySem.W.keepIn K (.ref C) = true
  mkP : ∀ vs us fs, Vals vs us → ff vs = some fs → ∃ mA, (∀ f, RelO (fs.lookup f) (mA f)) ∧ Makes prog w K mg C us [] mA
  mkK : ∀ vs us fs, Vals vs us → fk vs = some fs → ∃ mA, (∀ f, RelO (fs.lookup f) (mA f)) ∧ Makes prog w K mg C [] (ks.zip us) mA
theorem two_of {pins : List (Addr × Obj)} {σ : L2.St} {H : Hp} {s : Shared} (I : Inv X pins σ H s) : Two X.mg s.heap := by
  obtain ⟨mb, h1, h2⟩ := I.mod.blt
  exact ⟨I.mod.glob.keeps I.bk, mb, h1.keeps I.bk, (h2 "super" (by decide)).trans (by first | boot_by_name | rfl | kernel_rfl)⟩
variable {x : Str} {C : Addr} {ff fk : List V → Option (List (Str × V))} {ks : List Str} {e : Expr} {es : List Expr} {ta : TA} {p pos : Pos} {k : Nat} {kws : List Keyword}
theorem pe_er (T : ErC X.prog X.w X.K X.mg x C ff ks fk) (hr : Room k X.A) (hg : Gl X x) (ha : PA X (e :: es) ta) (hdb : (x == ("__debug__" : Str)) = false := by decide)
    (he : starEach (e :: es) X.env = (false, eval e X.env) :: starEach es X.env := by rfl) (hpl : (backTo pos (starEach es X.env)).any (·.1) = false := by rfl) : PE X (.Call (.Name x p) (e :: es) [] pos) (tEr C ff ta) := by
  refine ⟨fun pins s σ H Q I h => wpAny_Call_Name_kw (ld_glob I hg T.g ?_ hdb)⟩
  refine PySem.W.callWith_K (h₀ := X.base) I.ok.mod.kin T.k (thn (ha.run pos pins s σ H _ I h) fun us s1 hh => ?_) he hpl
  obtain ⟨vs, H1, I1, r1, fs, ef, q1⟩ := hh
  obtain ⟨mA, rel, mk⟩ := T.mkP vs us fs r1 ef
  refine ⟨I1.kIn, wpAny_call (mk _ s1 _ I1.kIn I1.nolimit (two_of I1) (by have := hr.dp; omega) fun h' tk a d M => ?_)⟩
  obtain ⟨na, nd, J⟩ := inv_made (tk := tk) I1 M rel
  exact ⟨.ref a, _, J, rfl, q1 a d na nd M.dne⟩
theorem pe_erK (T : ErC X.prog X.w X.K X.mg x C ff ks fk) (hr : Room k X.A) (hg : Gl X x) (hkw : PK X kws ta) (hdb : (x == ("__debug__" : Str)) = false := by decide)
    (hall : (backToKw pos (keywordEach kws X.env)).all (·.1.isSome) = true := by rfl) (hks : (backToKw pos (keywordEach kws X.env)).filterMap (·.1) = ks := by rfl)
    (hpl : ((backTo pos (starEach [] X.env)).any (·.1) || (backToKw pos (keywordEach kws X.env)).any (·.1.isNone)) = false := by rfl) : PE X (.Call (.Name x p) [] kws pos) (tEr C fk ta) := by
  refine ⟨fun pins s σ H Q I h => wpAny_Call_Name_kw (ld_glob I hg T.g ?_ hdb)⟩
  refine PySem.W.callWith_KW0 (h₀ := X.base) I.ok.mod.kin T.k hall (thn (hkw.run pos pins s σ H _ I h) fun us s1 hh => ?_) hpl
  obtain ⟨vs, H1, I1, r1, fs, ef, q1⟩ := hh
  obtain ⟨mA, rel, mk⟩ := T.mkK vs us fs r1 ef
  rw [hks]
  refine ⟨I1.kIn, wpAny_call (mk _ s1 _ I1.kIn I1.nolimit (two_of I1) (by have := hr.dp; omega) fun h' tk a d M => ?_)⟩
  obtain ⟨na, nd, J⟩ := inv_made (tk := tk) I1 M rel
  exact ⟨.ref a, _, J, rfl, q1 a d na nd M.dne⟩
end
end BR
namespace BR
open PySem PySem.Spec PyProof.Rows L2

/-! errors with one field, with two -/
abbrev ff1 (f : Str) : List V → Option (List (Str × V)) := fun vs => match vs with | [v] => some [(f, v)] | _ => none
abbrev ff2 (f g : Str) : List V → Option (List (Str × V)) := fun vs => match vs with | [v, u] => some [(f, v), (g, u)] | _ => none
/-- told by names, the last one first -/
abbrev fk2 (f g : Str) : List V → Option (List (Str × V)) := fun vs => match vs with | [u, v] => some [(f, v), (g, u)] | _ => none
theorem relO_fm1 {f : Str} {v : V} {u : Value} (r : RelV v u) (g : Str) : RelO ([(f, v)].lookup g) (fm1 f u g) := by
  by_cases e : g = f
  · subst e
    rw [show fm1 g u g = some u from if_pos rfl]
    simp [List.lookup]
    exact r
  · rw [show fm1 f u g = none from if_neg e]
    simp [List.lookup, beq_ff e]
    trivial
theorem relO_fm2 {f g : Str} {v y : V} {u z : Value} (hfg : f ≠ g) (r : RelV v u) (q : RelV y z) (k : Str) : RelO ([(f, v), (g, y)].lookup k) (fm2 f u g z k) := by
  by_cases e : k = g
  · subst e
    rw [show fm2 f u k z k = some z from if_pos rfl]
    simp [List.lookup, beq_ff (Ne.symm hfg)]
    exact q
  · rw [show fm2 f u g z k = fm1 f u k from if_neg e]
    by_cases e' : k = f
    · subst e'
      rw [show fm1 k u k = some u from if_pos rfl]
      simp [List.lookup]
      exact r
    · rw [show fm1 f u k = none from if_neg e']
      simp [List.lookup, beq_ff e, beq_ff e']
      trivial
section
variable {prog : Program} {w : World} {K : PySem.W.Frag} {mg : Str → Option Value} {C fI cc cda : Addr} {xn qual : Str}
theorem erc1 {f msg : Str} {p q : Ps} {pa pb : Pos} (hf : Fit f) (hc1 : ("__class__" : Str) ≠ f) (hc2 : ("super" : Str) ≠ f) (T : ErrTxt prog K mg C fI xn) (I : IniTxt prog K C fI cc cda qual (as1 f pa pb) (bd1 msg f p q) (scopeOf (ns1 f)))
    (hno : PySem.W.findIn K (.ref C) f = some none) (hre : SupRead msg p) (hsw : ∀ env, swapsWith (.Name f q.a3) (some (.Attribute (.Name "self" q.a1) f q.a2)) q.a4.line env = pure false)
    (b1 : ∀ kV doc pm an ct (x v : Value), bindArgs (PySem.W.ksFn "__init__" qual (as1 f pa pb) (bd1 msg f p q) (scopeOf (ns1 f)) .none kV doc pm an (.ref cda) ct cc) ⟨[x, v], []⟩ = pure [(("self" : Str), x), (f, v)])
    (b2 : ∀ kV doc pm an ct (x v : Value), bindArgs (PySem.W.ksFn "__init__" qual (as1 f pa pb) (bd1 msg f p q) (scopeOf (ns1 f)) .none kV doc pm an (.ref cda) ct cc) ⟨[x], [(f, v)]⟩ = pure [(("self" : Str), x), (f, v)]) :
    ErC prog w K mg xn C (ff1 f) [f] (ff1 f) := by
  refine ⟨T.gC, T.kC, fun vs us fs r e => ?_, fun vs us fs r e => ?_⟩
  · match vs, r, e with
    | [v], .cons (b := u) rv .nil, e =>
      obtain rfl := Option.some.inj e
      exact ⟨fm1 f u, relO_fm1 rv, makes_of T (by show 1 ≤ 1000; decide) fun A s R x t0 X hl G hx hn hr hq =>
        init1 hf hc1 hc2 T I hno hre hsw X hl G hx hn hr (fun fd ⟨kV, doc, pm, an, ct, e⟩ => by rw [e]; exact .of_eq (b1 ..)) hq⟩
  · match vs, r, e with
    | [v], .cons (b := u) rv .nil, e =>
      obtain rfl := Option.some.inj e
      exact ⟨fm1 f u, relO_fm1 rv, makes_of T (by show 0 ≤ 1000; decide) fun A s R x t0 X hl G hx hn hr hq =>
        init1 hf hc1 hc2 T I hno hre hsw X hl G hx hn hr (fun fd ⟨kV, doc, pm, an, ct, e⟩ => by rw [e]; exact .of_eq (b2 ..)) hq⟩
theorem erc2 {f g msg : Str} {p q r' : Ps} {pa pb pc : Pos} (hf : Fit f) (hg : Fit g) (hfg : f ≠ g) (hc : ("__class__" : Str) ≠ f ∧ ("super" : Str) ≠ f ∧ ("__class__" : Str) ≠ g ∧ ("super" : Str) ≠ g) (T : ErrTxt prog K mg C fI xn)
    (I : IniTxt prog K C fI cc cda qual (as2 f g pa pb pc) (bd2 msg f g p q r') (scopeOf (ns2 f g))) (hno : PySem.W.findIn K (.ref C) f = some none) (hno' : PySem.W.findIn K (.ref C) g = some none) (hre : SupRead msg p)
    (hsw : ∀ env, swapsWith (.Name f q.a3) (some (.Attribute (.Name "self" q.a1) f q.a2)) q.a4.line env = pure false) (hsw' : ∀ env, swapsWith (.Name g r'.a3) (some (.Attribute (.Name "self" r'.a1) g r'.a2)) r'.a4.line env = pure false)
    (b1 : ∀ kV doc pm an ct (x v u : Value), bindArgs (PySem.W.ksFn "__init__" qual (as2 f g pa pb pc) (bd2 msg f g p q r') (scopeOf (ns2 f g)) .none kV doc pm an (.ref cda) ct cc) ⟨[x, v, u], []⟩ = pure [(("self" : Str), x), (f, v), (g, u)])
    (b2 : ∀ kV doc pm an ct (x v u : Value), bindArgs (PySem.W.ksFn "__init__" qual (as2 f g pa pb pc) (bd2 msg f g p q r') (scopeOf (ns2 f g)) .none kV doc pm an (.ref cda) ct cc) ⟨[x], [(g, u), (f, v)]⟩ = pure [(("self" : Str), x), (f, v), (g, u)]) :
    ErC prog w K mg xn C (ff2 f g) [g, f] (fk2 f g) := by
  refine ⟨T.gC, T.kC, fun vs us fs r e => ?_, fun vs us fs r e => ?_⟩
  · match vs, r, e with
    | [v, y], .cons (b := u) rv (.cons (b := z) ry .nil), e =>
      obtain rfl := Option.some.inj e
      exact ⟨fm2 f u g z, relO_fm2 hfg rv ry, makes_of T (by show 2 ≤ 1000; decide) fun A s R x t0 X hl G hx hn hr hq =>
        init2 hf hg hfg hc T I hno hno' hre hsw hsw' X hl G hx hn hr (fun fd ⟨kV, doc, pm, an, ct, e⟩ => by rw [e]; exact .of_eq (b1 ..)) hq⟩
  · match vs, r, e with
    | [y, v], .cons (b := z) ry (.cons (b := u) rv .nil), e =>
      obtain rfl := Option.some.inj e
      exact ⟨fm2 f u g z, relO_fm2 hfg rv ry, makes_of T (by show 0 ≤ 1000; decide) fun A s R x t0 X hl G hx hn hr hq =>
        init2 hf hg hfg hc T I hno hno' hre hsw hsw' X hl G hx hn hr (fun fd ⟨kV, doc, pm, an, ct, e⟩ => by rw [e]; exact .of_eq (b2 ..)) hq⟩
end

/-! an error's kind, its fields -/
/-- what isinstance and the fields ask of the class -/
structure ErK (K : PySem.W.Frag) (C : Addr) : Prop where
  cl : (PySem.W.clsIn K C).isSome = true
  hd : PySem.W.hasDictIn K C = true
  ga : PySem.W.findIn K (.ref C) "__getattribute__" = some (some (.builtin "BaseException.__getattribute__"))
  gg : PySem.W.findIn K (.ref C) "__getattr__" = some none
  ex : PySem.W.subIn K (.ref C) (.type "BaseException") = some true
  ca : PySem.W.findIn K (.ref C) "__class__" = some (some (.builtin "object.__class__"))
  cn : PySem.W.specialIn K (.builtin "object.__class__") "__get__" = some (some (.builtin "getset_descriptor.__get__"))
  ct : PySem.W.takesIn K (.builtin "object.__class__") = some true
  ob : PySem.W.mroIn K C (.type "object") = some true
/-- at a: an error of the class C with these fields, tracked, or held by an except suite -/
def ErIs (X : Cx) (H : Hp) (a C : Addr) (fs : List (Str × V)) : Prop :=
  (∃ d, H a = some (erv a C (some d)) ∧ H d = some (.xd fs)) ∨ (fs = [] ∧ H a = some (erv a C none)) ∨
  (∃ oe, (a, oe) ∈ X.pn ∧ oe.cls = .ref C ∧ (∃ vs, oe.data = .fields vs) ∧ ((fs = [] ∧ oe.dict = none) ∨ ∃ d, oe.dict = some d ∧ H d = some (.xd fs)))
section
variable {X : Cx} {pins : List (Addr × Obj)} {σ : L2.St} {H : Hp} {s : Shared}
theorem xd_obj {fs : List (Str × V)} {d : Addr} (hok : HOk X.prog X.w H s.heap) (e : H d = some (.xd fs)) : ∃ (mA : Str → Option Value) (od : Obj), s.heap.Ns1 d mA ∧ (∀ f, RelO (fs.lookup f) (mA f)) ∧ s.heap.get? d = some od ∧ ∀ f, PySem.W.lookIn f od = some (mA f) := by
  have x : ObjOk X.prog X.w H s.heap d (.xd fs) := hok d _ e
  obtain ⟨mA, hn, r⟩ := x
  obtain ⟨od, ho, hl⟩ := lookIn_ns hn
  exact ⟨mA, od, hn, r, ho, hl⟩
theorem ErIs.inst {a C : Addr} {fs : List (Str × V)} (I : Inv X pins σ H s) (h : ErIs X H a C fs) : ∃ oe od, PySem.W.InstAt s.heap a oe C od ∧ ((od = none ∧ fs = []) ∨ ∃ (o : Obj) (mA : Str → Option Value), od = some o ∧ (∀ f, RelO (fs.lookup f) (mA f)) ∧ ∀ f, PySem.W.lookIn f o = some (mA f)) := by
  have key : ∀ {oe : Obj} {vs : Array Value}, s.heap.get? a = some oe → oe.cls = .ref C → oe.data = .fields vs → ((fs = [] ∧ oe.dict = none) ∨ ∃ d, oe.dict = some d ∧ H d = some (.xd fs)) →
      ∃ oe od, PySem.W.InstAt s.heap a oe C od ∧ ((od = none ∧ fs = []) ∨ ∃ (o : Obj) (mA : Str → Option Value), od = some o ∧ (∀ f, RelO (fs.lookup f) (mA f)) ∧ ∀ f, PySem.W.lookIn f o = some (mA f)) := fun {oe vs} h1 h2 h3 h4 => by
    have nc : PySem.W.notCls oe = true := by
      unfold PySem.W.notCls
      rw [h3] <;> rfl
    rcases h4 with ⟨e1, e2⟩ | ⟨d, e1, e2⟩
    · exact ⟨oe, none, ⟨h1, h2, nc, by rw [e2]; trivial⟩, .inl ⟨rfl, e1⟩⟩
    · obtain ⟨mA, od, _, r, ho, hl⟩ := xd_obj I.hok e2
      exact ⟨oe, some od, ⟨h1, h2, nc, by rw [e1]; exact ho⟩, .inr ⟨od, mA, rfl, r, hl⟩⟩
  rcases h with ⟨d, h1, h2⟩ | ⟨e0, h1⟩ | ⟨oe, h1, h2, ⟨vs, h3⟩, h4⟩
  · obtain ⟨oe, vs, q1, q2, q3, q4⟩ := erv_at I.hok h1
    exact key q1 q2 q4 (.inr ⟨d, q3, h2⟩)
  · obtain ⟨oe, vs, q1, q2, q3, q4⟩ := erv_at I.hok h1
    exact key q1 q2 q4 (.inl ⟨e0, q3⟩)
  · obtain ⟨q, _⟩ := I.pin (a, oe) (List.mem_append_left _ h1)
    exact key q h2 h3 h4
/-- isinstance(e, c) -/
def rIsE (X : Cx) : List V → Hp → VK → Prop := fun xs H Q => ∃ (a C : Addr) (fs : List (Str × V)) (c : V) (u : Value) (b : Bool), xs = [.ref a, c] ∧ ClsV c u ∧ ErIs X H a C fs ∧ ErK X.K C ∧ PySem.W.kitOne X.K (.ref C) u = some b ∧ Q (.bl b) H
theorem call_isE : CallR X (.builtin "isinstance") (rIsE X) := by
  intro pins s σ H xs us Q I r h
  obtain ⟨a, C, fs, c, u, b, rfl, k, er, T, e, q⟩ := h
  obtain ⟨u1, u2, rfl, r1, r2⟩ := vals2 r
  obtain rfl := k.eq r2
  cases (show u1 = Value.ref a from r1)
  obtain ⟨oe, od, J, _⟩ := ErIs.inst I er
  exact PySem.W.kia_one (PySem.W.kitx_exc T.cl T.ga T.gg T.ex T.ca T.cn T.ct T.ob) I.kIn J e (fun z => nomatch z) fun tk => ⟨.bl b, H, I.tok tk, rfl, q⟩
/-- e.f -/
def tErF (X : Cx) (f : Str) (te : TE) : TE := fun σ H Q => te σ H fun x H1 => ∃ (a C : Addr) (fs : List (Str × V)) (v : V), x = .ref a ∧ ErIs X H1 a C fs ∧ ErK X.K C ∧ PySem.W.findIn X.K (.ref C) f = some none ∧ fs.lookup f = some v ∧ Q v H1
theorem pe_erf {e : Expr} {te : TE} {f : Str} {pos : Pos} (he : PE X e te) (hb : attributeBase e f X.env (eval e X.env) = eval e X.env := by rfl) : PE X (.Attribute e f pos) (tErF X f te) := by
  refine ⟨fun pins s σ H Q I h => attr_of hb (thn (he.run pins s σ H _ I h) fun u s1 hh => ?_)⟩
  obtain ⟨x, H1, I1, rx, a, C, fs, v, rfl, er, T, hno, hl, q⟩ := hh
  obtain rfl : u = Value.ref a := rx
  obtain ⟨oe, od, J, o⟩ := ErIs.inst I1 er
  rcases o with ⟨_, e0⟩ | ⟨o, mA, rfl, rel, hm⟩
  · rw [e0] at hl
    cases hl
  · obtain ⟨u, hu, ru⟩ := RelO.some_of (v := v) (o := mA f) (by rw [← hl]; exact rel f)
    exact HandSPX.exc_get I1.kIn J T.ga T.gg T.ex (PySem.W.findObj_own T.hd hno rfl (by rw [hm, hu])) (handed_of ru) ⟨v, H1, I1.tok _, ru, q⟩
end
end BR
namespace BR
open PySem PySem.Spec PyProof.Rows L2
open L2H (RoomH Hot1 PinOk HotC cxH inv_startH)

/-! ### a def's promise where no repr is under way -/
def FnG (P : Program) (w : World) (K : PySem.W.Frag) (mg : Str → Option Value) (base : Heap) (CX : CXT) (k : Nat) (f : Addr) (fd : FuncData) (ps : List Str) (sp : Sp) : Prop :=
  ∀ (A : Around) (outer : List Env) (s : Shared) (H : Hp) (args : Args) (us : List Value) (vs : List V) (Q : VK) (E : XK),
    A.guards = some [] → Room k A → Env0 P w K mg base A outer s H → BindsTo s fd args (ps.zip us) → Vals vs us → sp vs H Q E → codeAny (model P w) A (.call (.ref f) args) (CR CX outer P w H s Q E) s
/-- .. within an except suite that holds p -/
def FnHp (P : Program) (w : World) (K : PySem.W.Frag) (mg : Str → Option Value) (base : Heap) (CX : CXT) (k : Nat) (f : Addr) (fd : FuncData) (ps : List Str) (p : Addr × Obj) (sp : Sp) : Prop :=
  ∀ (A : Around) (outer : List Env) (s : Shared) (H : Hp) (args : Args) (us : List Value) (vs : List V) (Q : VK) (E : XK),
    RoomH k A → Hot1 A p → PinOk outer H s p → Env0 P w K mg base A outer s H → BindsTo s fd args (ps.zip us) → Vals vs us → sp vs H Q E → codeAny (model P w) A (.call (.ref f) args) (CR CX outer P w H s Q E) s
section
variable {CX : CXT} {P : Program} {w : World} {K : PySem.W.Frag} {mg : Str → Option Value} {base : Heap} {k : Nat} {f : Addr} {name qual : Str} {params : Arguments} {body : List Stmt} {scope : Scope} {dV kV doc pm cdv ct oc : Value} {an od : Option Addr}
  {osl : Array (Option Value)} {N ps : List Str} {sp : Sp}
/-- the end of a body, for both -/
theorem ends_ok {X : Cx} {outer : List Env} {s s' : Shared} {H : Hp} {Q : VK} {fl : Flow} (e1 : X.fs = frs outer) (e2 : X.ex = []) (e3 : X.H_0 = H) (e4 : X.s_0 = s) (e5 : X.prog = P) (e6 : X.w = w)
    (h : SP X [] { nx := fun _ H' => Q .non H', rt := Q } fl s') (R : Value → Prop) (hR : ∀ u, CE outer P w H s Q u s' → R u) : R (match fl with | .ret v => v | _ => .none) := by
  have fin : ∀ {σ' : L2.St} {H' : Hp} {v : V} {u : Value}, Inv X [] σ' H' s' → RelV v u → Q v H' → CE outer P w H s Q u s' := fun {σ' H' v u} J rv q => by
    have b := J.base
    have o := J.os
    have hk := J.hok
    rw [e1, e2, e3, e4] at b
    rw [e4] at o
    rw [e5, e6] at hk
    exact ⟨v, H', o, J.bare, b, hk, rv, q⟩
  cases fl with
  | ret u =>
    obtain ⟨v, σ', H', J, rv, q⟩ := h
    exact hR _ (fin J rv q)
  | next =>
    obtain ⟨σ', H', J, q⟩ := h
    exact hR _ (fin (v := V.non) (u := Value.none) J rfl q)
  | brk =>
    obtain ⟨_, _, _, q⟩ := h
    exact q.elim
  | cont =>
    obtain ⟨_, _, _, q⟩ := h
    exact q.elim
theorem kinds_ok (S : FnScope N ps scope) (n : Nat) (us : List Value) : ∀ y ∈ ps.zip us, scope.names.lookup y.1 = some .local ∨ (scope.names.lookup y.1 = some .cell ∧ ((cellsFrom n scope.names []).lookup y.1).isSome = true) := fun y hy => by
  rcases S.par y.1 (List.of_mem_zip (a := y.1) (b := y.2) hy).1 with q | q
  · exact .inl q
  · exact .inr ⟨q, PySem.W.cellsFrom_some _ _ _ (.inl q)⟩
theorem fn_ofG (lk : K.lookup f = some ⟨oc, od, .func (PySem.W.fnOf name qual params body scope dV kV doc pm an cdv ct), osl⟩) (hcd : PySem.W.codeIn K cdv qual = true) (S : FnScope N ps scope) (len : ∀ vs H Q E, sp vs H Q E → vs.length = ps.length)
    (hbody : ∀ (A : Around) (outer : List Env) (s : Shared) (H : Hp) (vs : List V) (Q : VK) (E : XK), A.guards = some [] → Room k (A.deeper (envOfC qual scope s.heap.objs.size f cdv)) → sp vs H Q E →
      ∃ t, PSs (cxOf CX P w K mg base N qual scope f cdv A outer s H E) body t ∧ t { nx := fun _ H' => Q .non H', rt := Q } (start N vs) H) :
    FnG P w K mg base CX (k + 1) f (PySem.W.fnOf name qual params body scope dV kV doc pm an cdv ct) ps sp := by
  intro A outer s H args us vs Q E hG hr e0 hb r hsp
  have KX : K.In s.heap := e0.mod.kin.keeps fun b o e => (e0.bs b o e).1
  refine codeAny_call_function hr.depth (KX _ _ lk) rfl S.co S.gen rfl (PySem.W.codeRec_of KX hcd) (hb _ _ _ _ (wpAny_newFunctionEnv_cells S.kind (kinds_ok S _ us) fun env he s1 x => ?_))
  subst he
  refine ⟨(e0.mod.nolimit.keeps fun b o e => (e0.bs b o e).1).keeps x.toInCall.keep, codeAny_func ?_⟩
  obtain ⟨t, ht, hq⟩ := hbody A outer s H vs Q E hG (hr.deeper _) hsp
  exact wpAny_mono (ht.run [] s1 (start N vs) H _ (inv_start S hr.hd e0 (len _ _ _ _ hsp) r x) hq) (fun fl s' hs => by cases fl <;> first | exact ends_ok (outer := outer) (s := s) (H := H) (P := P) (w := w) rfl rfl rfl rfl rfl rfl hs (fun u => CR CX outer P w H s Q E (.ok (.ret u)) s') fun u z => z | exact (ends_ok (outer := outer) (s := s) (H := H) (P := P) (w := w) rfl rfl rfl rfl rfl rfl hs (fun u => CR CX outer P w H s Q E (.ok (.ret u)) s') fun u z => z)) fun e s' hs => hs
theorem fn_ofHp {p : Addr × Obj} (lk : K.lookup f = some ⟨oc, od, .func (PySem.W.fnOf name qual params body scope dV kV doc pm an cdv ct), osl⟩) (hcd : PySem.W.codeIn K cdv qual = true) (S : FnScope N ps scope) (len : ∀ vs H Q E, sp vs H Q E → vs.length = ps.length)
    (hbody : ∀ (A : Around) (outer : List Env) (s : Shared) (H : Hp) (vs : List V) (Q : VK) (E : XK), Hot1 A p → RoomH k (A.deeper (envOfC qual scope s.heap.objs.size f cdv)) → sp vs H Q E →
      ∃ t, PSs (cxH CX P w K mg base N qual scope f cdv A outer s H E p) body t ∧ t { nx := fun _ H' => Q .non H', rt := Q } (start N vs) H) :
    FnHp P w K mg base CX (k + 1) f (PySem.W.fnOf name qual params body scope dV kV doc pm an cdv ct) ps p sp := by
  intro A outer s H args us vs Q E hr hot hpin e0 hb r hsp
  have KX : K.In s.heap := e0.mod.kin.keeps fun b o e => (e0.bs b o e).1
  refine codeAny_call_function hr.depth (KX _ _ lk) rfl S.co S.gen rfl (PySem.W.codeRec_of KX hcd) (hb _ _ _ _ (wpAny_newFunctionEnv_cells S.kind (kinds_ok S _ us) fun env he s1 x => ?_))
  subst he
  refine ⟨(e0.mod.nolimit.keeps fun b o e => (e0.bs b o e).1).keeps x.toInCall.keep, codeAny_func ?_⟩
  obtain ⟨t, ht, hq⟩ := hbody A outer s H vs Q E hot (hr.deeper _) hsp
  exact wpAny_mono (ht.run [] s1 (start N vs) H _ (inv_startH S hpin e0 (len _ _ _ _ hsp) r x) hq) (fun fl s' hs => by cases fl <;> first | exact ends_ok (outer := outer) (s := s) (H := H) (P := P) (w := w) rfl rfl rfl rfl rfl rfl hs (fun u => CR CX outer P w H s Q E (.ok (.ret u)) s') fun u z => z | exact (ends_ok (outer := outer) (s := s) (H := H) (P := P) (w := w) rfl rfl rfl rfl rfl rfl hs (fun u => CR CX outer P w H s Q E (.ok (.ret u)) s') fun u z => z)) fun e s' hs => hs
end
section
variable {X : Cx} {CX : CXT} {k : Nat} {f : Addr} {fd : FuncData} {ps : List Str} {sp : Sp} {x : Str} {q pos : Pos} {e : Expr} {es : List Expr} {t : TA}
/-- f(e, ..) within an except suite; nothing leaves f -/
theorem pe_callHp {p : Addr × Obj} (F : FnHp X.prog X.w X.K X.mg X.base CX0 k f fd ps p sp) (hlen : ∀ vs H Q E, sp vs H Q E → vs.length = ps.length) (hr : RoomH k X.A) (hot : Hot1 X.A p) (hp : p ∈ X.pn) (hg : Gl X x) (hm : X.mg x = some (.ref f)) (hk : PySem.W.keepIn X.K (.ref f) = true)
    (hb : Binds X.K fd ps []) (ha : PA X (e :: es) t) (hdb : (x == ("__debug__" : Str)) = false := by decide) (he : starEach (e :: es) X.env = (false, eval e X.env) :: starEach es X.env := by rfl) (hpl : (backTo pos (starEach es X.env)).any (·.1) = false := by rfl) :
    PE X (.Call (.Name x q) (e :: es) [] pos) (tCall sp [] E0 t) := by
  refine ⟨fun pins s σ H Q I h => wpAny_Call_Name_kw (ld_glob I hg hm ?_ hdb)⟩
  refine PySem.W.callWith_K (h₀ := X.base) I.ok.mod.kin hk (thn (ha.run pos pins s σ H _ I h) fun us s1 ⟨vs, H1, I1, r, q⟩ => ⟨I1.kIn, ?_⟩) he hpl
  replace q : sp (vs ++ []) H1 Q _ := q
  rw [List.append_nil] at q
  have hl : us.length = ps.length := by
    rw [← r.length]
    exact hlen _ _ _ _ q
  have b := hb s1 us I1.kIn (by rw [List.append_nil]; exact hl)
  rw [List.append_nil] at b
  have P1 := I1.pin p (List.mem_append_left _ hp)
  have hpin : PinOk X.stack H1 s1 p := ⟨P1.1, P1.2.1, fun hm => (List.mem_cons.mp (I1.stkSub p.1 hm)).elim P1.2.2.1 P1.2.2.2.1, P1.2.2.2.2⟩
  refine wpAny_call (codeAny_mono (F X.A X.stack s1 H1 ⟨us, []⟩ us vs Q E0 hr hot hpin I1.env0 b r q) fun r s' hq => ?_)
  cases r with
  | error e => exact False.elim hq
  | ok fl =>
    cases fl with
    | ret u => exact I1.after hq
    | next => exact False.elim hq
    | brk => exact False.elim hq
    | cont => exact False.elim hq
/-- f(e, ..) of a def that wants to know that no repr is under way -/
theorem pe_callG (F : FnG X.prog X.w X.K X.mg X.base CX k f fd ps sp) (hlen : ∀ vs H Q E, sp vs H Q E → vs.length = ps.length) (hG : X.A.guards = some []) (hr : Room k X.A) (hg : Gl X x) (hm : X.mg x = some (.ref f)) (hk : PySem.W.keepIn X.K (.ref f) = true)
    (hb : Binds X.K fd ps []) {E : XK} (hx : Passes CX X E) (ha : PA X (e :: es) t) (hdb : (x == ("__debug__" : Str)) = false := by decide) (he : starEach (e :: es) X.env = (false, eval e X.env) :: starEach es X.env := by rfl) (hpl : (backTo pos (starEach es X.env)).any (·.1) = false := by rfl) :
    PE X (.Call (.Name x q) (e :: es) [] pos) (tCall sp [] E t) := by
  refine ⟨fun pins s σ H Q I h => wpAny_Call_Name_kw (ld_glob I hg hm ?_ hdb)⟩
  refine PySem.W.callWith_K (h₀ := X.base) I.ok.mod.kin hk (thn (ha.run pos pins s σ H _ I h) fun us s1 ⟨vs, H1, I1, r, q⟩ => ⟨I1.kIn, ?_⟩) he hpl
  replace q : sp (vs ++ []) H1 Q _ := q
  rw [List.append_nil] at q
  have hl : us.length = ps.length := by
    rw [← r.length]
    exact hlen _ _ _ _ q
  have b := hb s1 us I1.kIn (by rw [List.append_nil]; exact hl)
  rw [List.append_nil] at b
  refine wpAny_call (codeAny_mono (F X.A X.stack s1 H1 ⟨us, []⟩ us vs Q E hG hr I1.env0 b r q) fun r s' hq => ?_)
  cases r with
  | error e => exact hx pins σ H1 s1 e s' I1 hq
  | ok fl =>
    cases fl with
    | ret u => exact I1.after hq
    | next => exact False.elim hq
    | brk => exact False.elim hq
    | cont => exact False.elim hq
end
end BR
namespace BR
open PySem PySem.Spec PyProof.Rows L2

/-! ### errors without fields -/
structure Er0 (K : PySem.W.Frag) (mg : Str → Option Value) (x : Str) (C : Addr) : Prop where
  g : mg x = some (.ref C)
  k : PySem.W.keepIn K (.ref C) = true
  cls : ∃ nm q N bs bm sn sub ab col dd k0 k1 k2 k3 k5, K.lookup C = some (excClassObj nm q C N bs bm true sn sub ab col dd k0 k1 k2 k3 k5 "ValueError.__new__") ∧ HandSPX.refsVE bm = true
  ini : PySem.W.findIn K (.ref C) "__init__" = some (some (.builtin "ValueError.__init__"))
section
variable {X : Cx} {x : Str} {C : Addr} {ff fk : List V → Option (List (Str × V))} {ks : List Str} {e : Expr} {es : List Expr} {ta : TA} {p pos : Pos} {k : Nat} {kws : List Keyword}
theorem er0_made {A : Around} {E : Value → Shared → Prop} {s : Shared} {Q : Value → Shared → Prop} (T : Er0 X.K X.mg x C) (KX : X.K.In s.heap)
    (hq : ∀ h' e t, (∀ b o, s.heap.get? b = some o → h'.get? b = some o) → s.heap.objs.size ≤ e → h'.get? e = some { cls := .ref C, data := .fields #[.ref t, .none, .none, .none, .bool false, .none] } → Q (.ref e) { s with heap := h' }) :
    wpAny (model X.prog X.w) A (call (.ref C) []) Q E s := by
  obtain ⟨nm, q, N, bs, bm, sn, sub, ab, col, dd, k0, k1, k2, k3, k5, hC, hbm⟩ := T.cls
  obtain ⟨hp, g, d, t, os⟩ := s
  exact PySem.W.call_B F.excBase_ValueError (fun Y => HandSPX.refsVE_contains Y bm hbm) (KX _ _ hC) (PySem.W.looks_findIn KX T.ini) (Nat.zero_le _) fun h' kp ho _ => hq h' _ _ kp (Nat.le_succ _) ho
def tEr0 (C : Addr) : TE := fun σ H Q => ∀ a, H a = none → Q (.ref a) (upd H a (erv a C none))
theorem callE0 {A : Around} {E : Value → Shared → Prop} {s : Shared} {Q : Value → Shared → Prop} (kC : PySem.W.keepIn X.K (.ref C) = true) (KB : X.K.In X.base) (KX : X.K.In s.heap) (h : wpAny (model X.prog X.w) A (call (.ref C) []) Q E s) :
    wpAny (model X.prog X.w) A (callWith pos (.ref C) [] (backTo pos (starEach [] X.env)) (backToKw pos (keywordEach [] X.env))) Q E s :=
  PySem.W.callWith_KW0 (h₀ := X.base) (kws := []) KB kC rfl (wpAny_evalAll_nil ⟨KX, h⟩) rfl
theorem pe_er0 (T : Er0 X.K X.mg x C) (hg : Gl X x) (hdb : (x == ("__debug__" : Str)) = false := by decide) : PE X (.Call (.Name x p) [] [] pos) (tEr0 C) := by
  refine ⟨fun pins s σ H Q I h => wpAny_Call_Name_kw (ld_glob I hg T.g (callE0 T.k I.ok.mod.kin I.kIn (er0_made T I.kIn fun h' a t kp new ho => ?_)) hdb)⟩
  have na := I.hok.fresh new
  exact ⟨.ref a, _, I.laid (t' := s.toks) kp new (erv_ok ho rfl rfl rfl), rfl, h a na⟩

/-! ### raised (where nothing is handled: their context is None) -/
def tMkE (C : Addr) (ff : List V → Option (List (Str × V))) (ta : TA) : L2.St → Hp → XK → Prop := fun σ H Q => ta σ H fun vs H1 => ∃ fs, ff vs = some fs ∧ ∀ d, H1 d = none → Q (.ref C) (some d) (upd H1 d (.xd fs))
theorem pmk_er (T : ErC X.prog X.w X.K X.mg x C ff ks fk) (hR : Raises X (.ref C)) (hr : Room k X.A) (hg : Gl X x) (ha : PA X (e :: es) ta) (hdb : (x == ("__debug__" : Str)) = false := by decide)
    (he : starEach (e :: es) X.env = (false, eval e X.env) :: starEach es X.env := by rfl) (hpl : (backTo pos (starEach es X.env)).any (·.1) = false := by rfl) : L2N.PMk X (.Call (.Name x p) (e :: es) [] pos) (tMkE C ff ta) := by
  intro pins s σ H Q I h
  refine wpAny_Call_Name_kw (ld_glob I hg T.g ?_ hdb)
  refine PySem.W.callWith_K (h₀ := X.base) I.ok.mod.kin T.k (thn (ha.run pos pins s σ H _ I h) fun us s1 hh => ?_) he hpl
  obtain ⟨vs, H1, I1, r1, fs, ef, q1⟩ := hh
  obtain ⟨mA, rel, mk⟩ := T.mkP vs us fs r1 ef
  refine ⟨I1.kIn, wpAny_call (mk _ s1 _ I1.kIn I1.nolimit (two_of I1) (by have := hr.dp; omega) fun h' tk a d M => ?_)⟩
  obtain ⟨hp, g, dr, tk1, os⟩ := s1
  obtain ⟨G, g1, g2⟩ := restrict h' fun b => decide (b ≠ a)
  have gk : ∀ b, b ≠ a → G.get? b = h'.get? b := fun b hb => g1 b (decide_eq_true hb)
  have ge : G.get? a = none := g2 a (by simp)
  have old : ∀ b o, hp.get? b = some o → G.get? b = some o := fun b o q => (gk b (Nat.ne_of_lt (Nat.lt_of_lt_of_le (Heap.lt_size q) M.new))).trans (M.keep b o q)
  have ob : ObjOk X.prog X.w (upd H1 d (.xd fs)) G d (.xd fs) := ⟨_, M.ns.at (fun o q => (gk d M.dne).trans q), rel⟩
  have J : Inv X pins σ (upd H1 d (.xd fs)) ⟨G, g, dr, tk, os⟩ := I1.laid (t' := tk) old M.dbig ob
  obtain ⟨t1, ho⟩ := M.obj
  refine ⟨a, _, _, ⟨G, g, dr, tk, os⟩, _, .ref C, some d, rfl, J, fun b o q => ?_, ge, ho, ⟨rfl, rfl, fun vs e => by cases e; rfl⟩, rfl, rfl, ?_, rfl, I1.bare, hR, q1 d (I1.hok.fresh M.dbig)⟩
  · by_cases hb : b = a
    · have q' : G.get? b = some o := q
      rw [hb, ge] at q'
      cases q'
    · exact (gk b hb).symm.trans q
  · rw [upd_ne M.dne.symm]
    exact I1.hok.fresh M.new
def tMk0 (C : Addr) : L2.St → Hp → XK → Prop := fun σ H Q => Q (.ref C) none H
theorem pmk_er0 (T : Er0 X.K X.mg x C) (hR : Raises X (.ref C)) (hg : Gl X x) (hdb : (x == ("__debug__" : Str)) = false := by decide) : L2N.PMk X (.Call (.Name x p) [] [] pos) (tMk0 C) := by
  intro pins s σ H Q I h
  refine wpAny_Call_Name_kw (ld_glob I hg T.g (callE0 T.k I.ok.mod.kin I.kIn (er0_made T I.kIn fun h' a t kp new ho => ?_)) hdb)
  exact ⟨a, _, _, s, H, .ref C, none, rfl, I, kp, Heap.get?_none_of_le new, ho, ⟨rfl, rfl, fun vs e => by cases e; rfl⟩, rfl, rfl, I.hok.fresh new, rfl, I.bare, hR, h⟩
end
end BR
namespace BR
open PySem PySem.Spec PyProof.Rows L2

/-! ### repr of data -/
def kD : Key → PyData
  | .inl i => .int i
  | .inr x => .str x
mutual
/-- a value of the abstract heap, as data -/
inductive Rp (H : Hp) : V → PyData → Prop
  | non : Rp H .non .none
  | bl (b : Bool) : Rp H (.bl b) (.bool b)
  | int (i : Int) : Rp H (.int i) (.int i)
  | str (x : Str) : Rp H (.str x) (.str x)
  | lst {a : Addr} {xs : List V} {ds : List PyData} : H a = some (.lst xs) → RpAll H xs ds → Rp H (.ref a) (.list ds)
  | tup {a : Addr} {xs : List V} {ds : List PyData} : H a = some (.tup xs) → RpAll H xs ds → Rp H (.ref a) (.tuple ds)
  | dic {a : Addr} {kvs : List (Key × V)} {ds : List (PyData × PyData)} : H a = some (.dK kvs) → ds.map (·.1) = kvs.map (fun p => kD p.1) → RpAll H (kvs.map (·.2)) (ds.map (·.2)) → Rp H (.ref a) (.dict ds)
inductive RpAll (H : Hp) : List V → List PyData → Prop
  | nil : RpAll H [] []
  | cons {v : V} {vs : List V} {d : PyData} {ds : List PyData} : Rp H v d → RpAll H vs ds → RpAll H (v :: vs) (d :: ds)
end
section
variable {P : Program} {w : World} {H : Hp} {h : Heap}
theorem key_reads {k : Key} {v : Value} (e : keyIs k v = true) : Reads h v (kD k) [] := by
  rcases keyIs_shape e with ⟨i, t, rfl, rfl⟩ | ⟨x, t, rfl, rfl⟩
  · exact .int i t
  · exact .str x t

theorem pairs_reads {knd : KeyKind P w Key} (hk : ∀ k v, knd.is k v = true → keyIs k v = true) : ∀ {es : List DictEntry} {vs : List (Key × Value)}, Pairs knd es vs →
    ReadsAll h (es.map (·.key)) (vs.map fun p => kD p.1) [] ∧ es.map (·.val) = vs.map (·.2)
  | _, _, .nil => ⟨.nil, rfl⟩
  | _, _, .cons h1 h2 r => by
    obtain ⟨q1, q2⟩ := pairs_reads hk r
    refine ⟨?_, ?_⟩
    · rw [List.map_cons, List.map_cons]
      exact ReadsAll.cons (as := []) (bs := []) (key_reads (hk _ _ h1)) q1
    · rw [List.map_cons, List.map_cons, h2, q2]
theorem kv_split : ∀ {kvs : List (Key × V)} {vs : List (Key × Value)}, KV kvs vs → (vs.map fun p => kD p.1) = (kvs.map fun p => kD p.1) ∧ Vals (kvs.map (·.2)) (vs.map (·.2))
  | _, _, .nil => ⟨rfl, .nil⟩
  | _, _, .cons e r => by
    obtain ⟨q1, q2⟩ := kv_split r
    exact ⟨by rw [List.map_cons, List.map_cons, q1, e.1], .cons e.2 q2⟩
mutual
theorem Rp.reads (hok : HOk P w H h) (h1 : ∀ a o, H a = some o → a ≠ sysModules) : ∀ {v : V} {d : PyData} {u : Value}, Rp H v d → RelV v u → ∃ as, Reads h u d as ∧ sysModules ∉ as
  | _, _, _, .non, r => by
    cases r
    exact ⟨[], .none, by simp⟩
  | _, _, _, .bl b, r => by
    cases r
    exact ⟨[], .bool b, by simp⟩
  | _, _, _, .int i, r => by
    obtain ⟨t, rfl⟩ := r
    exact ⟨[], .int i t, by simp⟩
  | _, _, _, .str x, r => by
    obtain ⟨t, rfl⟩ := r
    exact ⟨[], .str x t, by simp⟩
  | _, _, _, .lst (a := a) e q, r => by
    cases (show _ = Value.ref a from r)
    obtain ⟨_, its, n, rv, ho⟩ := hok a _ e
    obtain ⟨as, ra, na⟩ := RpAll.reads hok h1 q rv
    exact ⟨a :: as, .list ho rfl rfl ra, by simp [na, Ne.symm (h1 a _ e)]⟩
  | _, _, _, .tup (a := a) e q, r => by
    cases (show _ = Value.ref a from r)
    obtain ⟨_, its, rv, o, ho, hc, n, hd⟩ := hok a _ e
    obtain ⟨as, ra, na⟩ := RpAll.reads hok h1 q rv
    exact ⟨as, .tuple ho hc hd ra, na⟩
  | _, _, _, .dic (a := a) (kvs := kvs) e ek q, r => by
    cases (show _ = Value.ref a from r)
    obtain ⟨_, _, vs, kv, o, es, ep, ho, hx, hd, _, hp, _⟩ := hok a _ e
    obtain ⟨rk, ev⟩ := pairs_reads (h := h) (fun k v z => z) hp
    obtain ⟨k1, k2⟩ := kv_split kv
    obtain ⟨bs, rb, nb⟩ := RpAll.reads hok h1 q k2
    rw [k1, ← ek] at rk
    rw [← ev] at rb
    exact ⟨_, .dict ho hx.1 hd rk rb, by simp [nb, Ne.symm (h1 a _ e)]⟩
theorem RpAll.reads (hok : HOk P w H h) (h1 : ∀ a o, H a = some o → a ≠ sysModules) : ∀ {vs : List V} {ds : List PyData} {us : List Value}, RpAll H vs ds → Vals vs us → ∃ as, ReadsAll h us ds as ∧ sysModules ∉ as
  | _, _, _, .nil, .nil => ⟨[], .nil, by simp⟩
  | _, _, _, .cons a q, .cons r t => by
    obtain ⟨as, ra, na⟩ := Rp.reads hok h1 a r
    obtain ⟨bs, rb, nb⟩ := RpAll.reads hok h1 q t
    exact ⟨as ++ bs, .cons ra rb, by simp [na, nb]⟩
end
end
section
variable {X : Cx} {pins : List (Addr × Obj)} {σ : L2.St} {H : Hp} {s : Shared}
theorem no_sys (hS : ∃ mm, X.base.Ns sysModules mm) (I : Inv X pins σ H s) : ∀ a o, H a = some o → a ≠ sysModules := fun a o e z => by
  obtain ⟨_, ob, _, _, h1, _⟩ := hS
  have n := (I.bs _ _ h1).2
  rw [z, n] at e
  cases e
/-- repr(x), x a list, a tuple or a dict of data -/
def rRepr : List V → Hp → VK → Prop := fun xs H Q => ∃ (a : Addr) (d : PyData), xs = [.ref a] ∧ Rp H (.ref a) d ∧ d.showable = true ∧ d.depth ≤ 30 ∧ d.shown.length ≤ sizeLine ∧ Q (.str d.shown) H
theorem call_repr (hS : ∃ mm, X.base.Ns sysModules mm) (hG : X.A.guards = some []) {k : Nat} (hr : Room k X.A) : CallR X (.builtin "repr") rRepr := by
  intro pins s σ H xs us Q I r h
  obtain ⟨a, d, rfl, rp, hs, hd, hz, q⟩ := h
  obtain ⟨u1, rfl, r1⟩ : ∃ u1, us = [u1] ∧ RelV (.ref a) u1 := by
    cases r with
    | cons r1 t =>
      cases t
      exact ⟨_, rfl, r1⟩
  cases (show u1 = Value.ref a from r1)
  obtain ⟨as, ra, na⟩ := Rp.reads I.hok (no_sys hS I) rp rfl
  exact repr_of_reads' ra hs (fun _ => na) hG (by have := hr.un; omega) (fun _ _ e => e) (fun h' u tk kp => ⟨.str d.shown, H, I.kept (t' := tk) kp, ⟨u, rfl⟩, q⟩) hz
end
end BR
namespace BR
open PySem PySem.Spec PyProof.Rows L2

/-! ### the law's own call: no repr is under way there -/
section
variable {P : Program} {w : World} {K : PySem.W.Frag} {mg mb : Str → Option Value} {CX : CXT} {k : Nat} {fa a : Addr} {fd : FuncData} {x : Str} {sp : Sp} {s₁ : Shared} {vs : List Value} {ns : List Int} {H : Hp}
/-- nothing is tracked but a list that the written part does not have -/
def Lone (K : PySem.W.Frag) (h : Heap) (H : Hp) : Prop := ∀ b, H b = none ∨ ((∃ o xs n, h.get? b = some o ∧ o.data = .seq xs n) ∧ K.lookup b = none)
theorem lone_ns (L : Lone K s₁.heap H) {b : Addr} {m : Str → Option Value} (n : s₁.heap.Ns b m) : (hidT s₁.heap H).Ns b m := by
  obtain ⟨o, es, ep, e, d, r⟩ := n
  rcases L b with z | ⟨⟨o', xs, n', e', d'⟩, _⟩
  · exact ⟨o, es, ep, hidT_get e z, d, r⟩
  · rw [e'] at e
    obtain rfl := Option.some.inj e
    rw [d'] at d
    cases d
theorem lone_k (L : Lone K s₁.heap H) (KX : K.In s₁.heap) : K.In (hidT s₁.heap H) := fun b o e => by
  rcases L b with z | ⟨_, z⟩
  · exact hidT_get (KX b o e) z
  · rw [z] at e
    cases e
theorem env0_caller (L : Lone K s₁.heap H) (KX : K.In s₁.heap) (hns : s₁.heap.Ns mainGlobals mg) (hb : s₁.heap.Ns builtinsNs mb) (hbb : ∀ x : Str, x ≠ "__name__" → mb x = bootBuiltins x) (hlim : s₁.heap.NoLimit) (hg : s₁.gens = #[]) (hok : HOk P w H s₁.heap) :
    Env0 P w K mg (hidT s₁.heap H) callerA [] s₁ H where
  frames := rfl
  mod := ⟨lone_k L KX, lone_ns L hns, ⟨mb, lone_ns L hb, hbb⟩, let ⟨mc, h1, h2⟩ := hlim; ⟨mc, lone_ns L h1, h2⟩⟩
  bs := fun b o e => of_hidT e
  bsz := Nat.le_of_eq (hidT_size _ _)
  funs := trivial
  frf := fun b hb => absurd (show b ∈ ([] : List Addr) from hb) (by simp)
  hok := hok
  bare := .of_eq hg
theorem lawG_at (L : Lone K s₁.heap H) (hO : Only H) (KX : K.In s₁.heap) (hns : s₁.heap.Ns mainGlobals mg) (hb : s₁.heap.Ns builtinsNs mb) (hbb : ∀ x : Str, x ≠ "__name__" → mb x = bootBuiltins x) (hlim : s₁.heap.NoLimit) (hsy : ∃ mm, s₁.heap.Ns sysModules mm) (hg : s₁.gens = #[]) (hok : HOk P w H s₁.heap)
    (hr : Room k callerA) (F : ∀ base : Heap, K.In base → base.Ns mainGlobals mg → (∃ mm, base.Ns sysModules mm) → FnG P w K mg base CX k fa fd [x] sp) (hbind : ∀ (s : Shared) (u : Value), BindsTo s fd ⟨[u], []⟩ [(x, u)]) (hsp : sp [.ref a] H (fun v _ => v = .bl true) fun _ _ _ => False)
    (hCX : ∀ H e s', CX [] H s₁ (fun _ _ _ => False) e s' → False) :
    codeAny (model P w) callerA (.call (.ref fa) ⟨[.ref a], []⟩) (fun r s' => r = .ok (.ret (.bool true)) ∧ OldK s₁.heap s'.heap ∧ s'.os = s₁.os ∧ AllBare s'.gens) s₁ := by
  refine codeAny_mono (F _ (lone_k L KX) (lone_ns L hns) (let ⟨mm, z⟩ := hsy; ⟨mm, lone_ns L z⟩) callerA [] s₁ H ⟨[.ref a], []⟩ [.ref a] [.ref a] _ _ rfl hr (env0_caller L KX hns hb hbb hlim hg hok) (hbind s₁ (.ref a)) (.cons rfl .nil) hsp) fun r s' h => ?_
  rcases r with e | fl
  · exact (hCX H e s' h).elim
  · cases fl with
    | next => exact False.elim h
    | brk => exact False.elim h
    | cont => exact False.elim h
    | ret u =>
      obtain ⟨v, H', os, bare, un, hok', r', q⟩ := h
      obtain rfl : v = .bl true := q
      obtain rfl : u = Value.bool true := r'
      refine ⟨rfl, OldK.of_keep fun b o e => ?_, os, bare⟩
      rcases hO b with z | ⟨ob, xs, z⟩
      · exact un.keep b o e z (by intro y; exact absurd (show b ∈ ([] : List Addr) from y) (by simp)) (by simp)
      · obtain ⟨e1, _⟩ := hok b _ z
        obtain ⟨e2, _⟩ := hok' b _ (un.frzs b ob _ z)
        rw [e] at e1
        obtain rfl := Option.some.inj e1
        exact e2
theorem law_callG (KX : K.In s₁.heap) (hns : s₁.heap.Ns mainGlobals mg) (hb : s₁.heap.Ns builtinsNs mb) (hbb : ∀ x : Str, x ≠ "__name__" → mb x = bootBuiltins x) (hlim : s₁.heap.NoLimit) (hsy : ∃ mm, s₁.heap.Ns sysModules mm) (hg : s₁.gens = #[])
    (ha : s₁.heap.get? a = some { cls := .type "list", data := .seq vs.toArray }) (hi : IntsAre vs ns) (hl : ns.length ≤ sizeLine) (hr : Room k callerA)
    (F : ∀ base : Heap, K.In base → base.Ns mainGlobals mg → (∃ mm, base.Ns sysModules mm) → FnG P w K mg base CX k fa fd [x] sp) (hbind : ∀ (s : Shared) (u : Value), BindsTo s fd ⟨[u], []⟩ [(x, u)])
    (hsp : ∀ H : Hp, Only H → SqL K H a (ns.map V.int) → sp [.ref a] H (fun v _ => v = .bl true) fun _ _ _ => False) (hCX : ∀ H e s', CX [] H s₁ (fun _ _ _ => False) e s' → False) :
    codeAny (model P w) callerA (.call (.ref fa) ⟨[.ref a], []⟩) (fun r s' => r = .ok (.ret (.bool true)) ∧ OldK s₁.heap s'.heap ∧ s'.os = s₁.os ∧ AllBare s'.gens) s₁ := by
  cases hk : K.lookup a with
  | some o =>
    have e := KX a o hk
    rw [ha] at e
    obtain rfl := Option.some.inj e
    refine lawG_at (H := fun _ => none) (fun b => .inl rfl) (fun _ => .inl rfl) KX hns hb hbb hlim hsy hg (fun b u z => by cases (show (none : Option HO) = some u from z)) hr F hbind (hsp _ (fun _ => .inl rfl) (.inr ⟨_, vs.toArray, _, hk, rfl, rfl, rfl, ?_, ?_⟩)) hCX
    · rw [List.size_toArray, hi.length]
      exact hl
    · simpa using vals_ints hi
  | none =>
    have hO : Only (fun b => if b = a then some (HO.frz { cls := .type "list", data := .seq vs.toArray } (.lst (ns.map V.int))) else none) := fun b => by
      by_cases q : b = a
      · exact .inr ⟨_, _, if_pos q⟩
      · exact .inl (if_neg q)
    refine lawG_at (H := fun b => if b = a then some (HO.frz { cls := .type "list", data := .seq vs.toArray } (.lst (ns.map V.int))) else none) (fun b => ?_) hO KX hns hb hbb hlim hsy hg (fun b u z => ?_) hr F hbind
      (hsp _ hO (.inl (.inr ⟨{ cls := .type "list", data := .seq vs.toArray }, if_pos rfl⟩))) hCX
    · by_cases q : b = a
      · subst q
        exact .inr ⟨⟨_, _, _, ha, rfl⟩, hk⟩
      · exact .inl (if_neg q)
    · by_cases q : b = a
      · subst q
        have z' := (if_pos rfl).symm.trans z
        obtain rfl := Option.some.inj z'
        exact ⟨ha, by rw [List.length_map]; exact hl, vs, _, vals_ints hi, ha⟩
      · have z' := (if_neg q).symm.trans z
        cases z'
end
/-- the goal that k_head leaves, from the law's promise -/
theorem walkG {l : PySem.W.OpenLaw} {n k : Nat} {q : Program} {loose : List Str} {XP : (Str → Option Value) → Heap → Prop} {YP : World → Heap → Prop} {d : DefRec} {K : Params → PySem.W.Frag} {CX : World → CXT} {sp : World → Sp} {x : Str}
    (hn : l.most = some n) (hn2 : n ≤ sizeLine) (hdf : d.params.defaults = []) (him : importsNone q = true) (hr : Room k callerA) (hY : ∀ (w : World) (h : Heap), YP w h → (K w.params).In h)
    (F : ∀ (w : World) (mg : Str → Option Value) (fa : Addr) (h : Heap), (K w.params).In h → h.Ns mainGlobals mg → mg d.name = some (.ref fa) →
      ∃ fd : FuncData, (∀ (s : Shared) (u : Value), BindsTo s fd ⟨[u], []⟩ [(x, u)]) ∧ ∀ base : Heap, (K w.params).In base → base.Ns mainGlobals mg → (∃ mm, base.Ns sysModules mm) → FnG l.prog w (K w.params) mg base (CX w) k fa fd [x] (sp w))
    (hsp : ∀ (w : World) (H : Hp) (a : Addr) (ns : List Int), ns.length ≤ n → Only H → SqL (K w.params) H a (ns.map V.int) → sp w [.ref a] H (fun v _ => v = .bl true) fun _ _ _ => False)
    (hCX : ∀ (w : World) (H : Hp) (s : Shared) (e : Value) (s' : Shared), CX w [] H s (fun _ _ _ => False) e s' → False) : PySem.W.WalkO q loose XP YP l.row.toRowW d [] (fun f vs => PySem.call f vs) := by
  refine Att.attach_call hn hdf fun w s₀ s₁ mg mb fa o pm cd doc a vs ns G Y ho hd hcd hmg hobj hints hlen hg => ?_
  obtain ⟨fd, hb, hF⟩ := F w mg fa _ (hY w _ Y) G.T.g hmg
  exact law_callG (hY w _ Y) G.T.g G.T.b G.T.builtins G.T.nolimit (let ⟨mm, z, _⟩ := (G.T.seer him).mods; ⟨mm, z⟩) hg hobj hints (Nat.le_trans hlen hn2) hr hF hb (fun H hO hS => hsp w H a ns hlen hO hS) fun H e s' => hCX w H s₁ e s'
end BR
namespace BR
open PySem PySem.Spec PyProof.Rows L2
def top (i : Nat) : Stmt := PySem.Challenge.pw_blindrepair_k01_errors_apart.main.body.getD i (.Pass ⟨0, 0, 0, 0⟩)
abbrev sPen : Stmt := top 28
abbrev sDraw : Stmt := top 29
abbrev sPick : Stmt := top 30
theorem scPen : FnScope ["_law_script"] ["_law_script"] (defScope sPen) := ⟨rfl, rfl, rfl, by decide +kernel, rfl, by decide +kernel, by decide +kernel⟩
theorem scDraw : FnScope ["_law_pen_here", "_law_many", "_law_digit", "_law_spot", "_law_cell", "_law_great", "_law_stirred"] ["_law_pen_here", "_law_many"] (defScope sDraw) :=
  ⟨rfl, rfl, rfl, by decide +kernel, rfl, by decide +kernel, by decide +kernel⟩
theorem scPick : FnScope ["_law_pen_here", "_law_some"] ["_law_pen_here", "_law_some"] (defScope sPick) := ⟨rfl, rfl, rfl, by decide +kernel, rfl, by decide +kernel, by decide +kernel⟩

/-- the pen at p: the cells at c, how many are used, what is left of a great one -/
def pen (c : Addr) (i g : Int) : HO := .lst [.ref c, .int i, .int g]
structure PenAt (H : Hp) (p c : Addr) (ns : List Int) (i g : Int) : Prop where
  p : H p = some (pen c i g)
  c : H c = some (.lst (ns.map V.int))
  lo : 0 ≤ i
  hi : i ≤ 100000
  g : 0 ≤ g
  n : ns.length ≤ 63
theorem PenAt.ne {H : Hp} {p c : Addr} {ns : List Int} {i g : Int} (x : PenAt H p c ns i g) : c ≠ p := fun e => by
  have h := x.c
  rw [e, x.p] at h
  have h' := Option.some.inj h
  cases ns with
  | nil => cases h'
  | cons a r =>
    have := congrArg (fun o => match o with | HO.lst (v :: _) => some v | _ => none) h'
    cases this
structure Names0 (mg : Str → Option Value) : Prop where
  int : mg "int" = none
  len : mg "len" = none
  abs : mg "abs" = none
  list : mg "list" = none
section
variable {P : Program} {w : World} {K : PySem.W.Frag} {mg : Str → Option Value} {base : Heap}
def spPen (K : PySem.W.Frag) : Sp := fun vs H Q _ => ∃ (a : Addr) (ns : List Int), vs = [.ref a] ∧ SqL K H a (ns.map V.int) ∧ ns.length ≤ 63 ∧
  ∀ H' p c, Same H H' → H p = none → PenAt H' p c ns 0 0 → Q (.ref p) H'
theorem same_upd {H : Hp} {p : Addr} {o : HO} (h : H p = none) : Same H (upd H p o) := fun b x e => by
  rw [upd_ne (ne_of_none e h)]
  exact e
theorem ok_pen {f : Addr} {fd : FuncData} {k : Nat} (F : Fun K "_law_pen" "_law_pen" sPen f fd) (T : Names0 mg) : FnOk P w K mg base CX0 (k + 1) f fd ["_law_script"] (spPen K) := by
  refine F.ok scPen (fun vs H Q E h => ?_) (fun cdv A outer s H vs Q E hr h => ?_)
  · obtain ⟨a, ns, rfl, _⟩ := h
    rfl
  · obtain ⟨a, ns, rfl, hS, hlen, q⟩ := h
    refine ⟨_, pss_one (ps_ret (pe_lst (pa_cons (pe_callTy call_list_of (by rfl) T.list (by decide +kernel) (pa_cons (pe_slice sl_list (pv 0) po_none (po_some pe_int)) pa_nil)) (pa_cons pe_int (pa_cons pe_int pa_nil))))), ?_⟩
    refine ⟨.ref a, rfl, 63, rfl, a, _, rfl, hS, fun u nu => ?_⟩
    have ec : cutV (ns.map V.int) none (some 63) = ns.map V.int := by
      unfold cutV
      rw [HT.sIx_none, show HT.sIx (ns.map V.int).length (ns.map V.int).length (some 63) = min 63 (ns.map V.int).length from HT.sIx_nat _ _ 63]
      rw [List.length_map, Nat.min_eq_right hlen, Nat.sub_zero, List.drop_zero]
      exact List.take_of_length_le (by rw [List.length_map]; exact Nat.le_refl _)
    rw [ec]
    refine ⟨u, _, rfl, .inl (SqL.of upd_same), fun c nc => ?_⟩
    refine ⟨by show 3 ≤ sizeLine; decide, fun p np => ?_⟩
    have s1 := same_upd (o := .lst (ns.map V.int)) nu
    have s2 := same_upd (o := .lst (ns.map V.int)) nc
    have s3 := same_upd (o := pen c 0 0) np
    refine q _ p c ((s1.trans s2).trans s3) (s1.free (s2.free np)) ⟨upd_same, s3 _ _ upd_same, by decide, by decide, by decide, hlen⟩


theorem canLay_ints : ∀ ns : List Int, PyData.canLayAll0 (ns.map PyData.int) = true ∧ PyData.depthAll (ns.map PyData.int) = 0
  | [] => ⟨rfl, rfl⟩
  | n :: r => by
    obtain ⟨h1, h2⟩ := canLay_ints r
    rw [List.map_cons]
    exact ⟨by rw [PyData.canLayAll0, h1]; rfl, by rw [PyData.depthAll, h2]; rfl⟩
theorem shaped_ints (ns : List Int) : SeqAt.shaped (.list (ns.map PyData.int)) = true := by
  obtain ⟨h1, h2⟩ := canLay_ints ns
  unfold SeqAt.shaped
  rw [PyData.canLay0, h1, PyData.depth, h2]
  rfl
theorem dp_ints {K : PySem.W.Frag} {H : Hp} : ∀ ns : List Int, DpAll K H (ns.map V.int) (ns.map PyData.int)
  | [] => .nil
  | n :: r => .cons (.int n) (dp_ints r)
theorem eqv_nil : ∀ ns : List Int, PyData.eqv (.list (ns.map PyData.int)) (.list []) = decide (ns = [])
  | [] => rfl
  | _ :: _ => rfl
/-- all but the pen is as it was -/
def Gr (p : Addr) (H H' : Hp) : Prop := ∀ b o, b ≠ p → H b = some o → H' b = some o
theorem Gr.trans {p : Addr} {H H1 H2 : Hp} (x : Gr p H H1) (y : Gr p H1 H2) : Gr p H H2 := fun b o n e => y b o n (x b o n e)
theorem Gr.of_same {p : Addr} {H H' : Hp} (s : Same H H') : Gr p H H' := fun b o _ e => s b o e
theorem Gr.upd {p : Addr} {H H' : Hp} {o : HO} (x : Gr p H H') : Gr p H (upd H' p o) := fun b u n e => by
  rw [upd_ne n]
  exact x b u n e
theorem Gr.seq {p a : Addr} {K : PySem.W.Frag} {H H' : Hp} {xs : List V} (x : Gr p H H') (n : a ≠ p) (h : SqL K H a xs) : SqL K H' a xs := by
  rcases h with (h | ⟨o, h⟩) | h
  · exact .inl (.inl (x _ _ n h))
  · exact .inl (.inr ⟨o, x _ _ n h⟩)
  · exact .inr h
/-- a draw: a number below m; the pen goes on -/
def spDraw : Sp := fun vs H Q _ => ∃ (p c : Addr) (ns : List Int) (i g m : Int), vs = [.ref p, .int m] ∧ PenAt H p c ns i g ∧ i < 100000 ∧ 0 < m ∧ m ≤ 1000 ∧
  ∀ d i' g' H', 0 ≤ d → d < m → Gr p H H' → PenAt H' p c ns i' g' → i' ≤ i + 1 → Q (.int d) H'
theorem fmod_ok {x m : Int} (hm : 0 < m) : 0 ≤ x.fmod m ∧ x.fmod m < m := by
  rw [Int.fmod_eq_emod_of_nonneg _ (Int.le_of_lt hm)]
  exact ⟨Int.emod_nonneg _ (by omega), Int.emod_lt_of_pos _ hm⟩
theorem fdiv_nn {x m : Int} (hx : 0 ≤ x) (hm : 0 < m) : 0 ≤ x.fdiv m := by
  rw [Int.fdiv_eq_ediv_of_nonneg _ (Int.le_of_lt hm)]
  exact Int.ediv_nonneg hx (Int.le_of_lt hm)

theorem bnd1 {x i a : Int} (A B : Int) (h0 : 0 ≤ i) (h1 : i ≤ 100000) (ha : 0 < a) (ha2 : a ≤ 4294967296) (hA : 0 ≤ A) (hA2 : A ≤ 4294967296) (hB : 0 ≤ B) (hB2 : B ≤ 4294967296) : (x.fmod a + A * i + B).natAbs < 2 ^ 64 := by
  obtain ⟨c1, c2⟩ := fmod_ok (x := x) ha
  have m1 : 0 ≤ A * i := Int.mul_nonneg hA h0
  have m2 : A * i ≤ 4294967296 * 100000 := Int.mul_le_mul hA2 h1 h0 (by decide)
  omega
theorem bnd2 {x i a : Int} (A B C : Int) (h0 : 0 ≤ i) (h1 : i ≤ 100000) (ha : 0 < a) (ha2 : a ≤ 4294967296) (hA : 0 ≤ A) (hA2 : A ≤ 1000000) (hB : 0 ≤ B) (hB2 : B ≤ 1000000) (hC : 0 ≤ C) (hC2 : C ≤ 4294967296) : (x.fmod a * (2 * i + A) + B * i * i + C).natAbs < 2 ^ 64 := by
  obtain ⟨c1, c2⟩ := fmod_ok (x := x) ha
  have m1 : 0 ≤ x.fmod a * (2 * i + A) := Int.mul_nonneg c1 (by omega)
  have m2 : x.fmod a * (2 * i + A) ≤ 4294967296 * 1200000 := Int.mul_le_mul (by omega) (by omega) (by omega) (by decide)
  have m3 : 0 ≤ B * i := Int.mul_nonneg hB h0
  have m4 : B * i ≤ 1000000 * 100000 := Int.mul_le_mul hB2 h1 h0 (by decide)
  have m5 : 0 ≤ B * i * i := Int.mul_nonneg m3 h0
  have m6 : B * i * i ≤ (1000000 * 100000) * 100000 := Int.mul_le_mul m4 h1 h0 (by decide)
  omega
theorem bnd3 {i : Int} (B : Int) (h0 : 0 ≤ i) (h1 : i ≤ 100000) (hB : 0 ≤ B) (hB2 : B ≤ 1000000) : -(2 ^ 64) < B * i ∧ B * i < 2 ^ 64 := by
  have m3 : 0 ≤ B * i := Int.mul_nonneg hB h0
  have m4 : B * i ≤ 1000000 * 100000 := Int.mul_le_mul hB2 h1 h0 (by decide)
  omega
theorem bnd4 {x a : Int} (ha : 0 < a) (ha2 : a ≤ 4294967296) : -(2 ^ 64) < x.fmod a ∧ x.fmod a < 2 ^ 64 := by
  obtain ⟨c1, c2⟩ := fmod_ok (x := x) ha
  omega
theorem ok_draw {f : Addr} {fd : FuncData} {k : Nat} (F : Fun K "_law_draw" "_law_draw" sDraw f fd) (T : Names0 mg) : FnOk P w K mg base CX0 (k + 1) f fd ["_law_pen_here", "_law_many"] spDraw := by
  refine F.ok scDraw (fun vs H Q E h => ?_) (fun cdv A outer s H vs Q E hr h => ?_)
  · obtain ⟨p, c, ns, i, g, m, rfl, _⟩ := h
    rfl
  · obtain ⟨p, c, ns, i, g, m, rfl, hP, hi, hm, hm2, q⟩ := h
    refine ⟨_, (pss_cons (ps_if (pt_cmpR op_gt (pe_ix ix_list (pv 0) pe_int (fun _ _ => rfl)) pe_int (nomark _))
 (pss_cons (ps_set (i := 2) scDraw.nd rfl (.inl rfl) (pe_op op_modN (pe_callTy call_int1 (by rfl) T.int (by decide +kernel) (pa_cons (pe_ix ix_list (pv 0) pe_int (fun _ _ => rfl)) pa_nil)) (pv 1)))
 (pss_cons (ps_asg (pe_op op_fdivN (pe_callTy call_int1 (by rfl) T.int (by decide +kernel) (pa_cons (pe_ix ix_list (pv 0) pe_int (fun _ _ => rfl)) pa_nil)) (pv 1)) (pg_sub (pv 0) pe_int set_list))
 (pss_one (ps_ret (pv 2)))))
 pss_nil)
 (pss_cons (ps_set (i := 3) scDraw.nd rfl (.inl rfl) (pe_ix ix_list (pv 0) pe_int (fun _ _ => rfl)))
 (pss_cons (ps_asg (pe_op op_add (pv 3) pe_int) (pg_sub (pv 0) pe_int set_list))
 (pss_cons (ps_set (i := 4) scDraw.nd rfl (.inl rfl) (pe_op op_add (pe_op op_mul pe_int (pv 3)) pe_int))
 (pss_cons (ps_if (pt_cmpR (op_neD hr.units) (pe_ix ix_list (pv 0) pe_int (fun _ _ => rfl)) (pe_lst pa_nil) (nomark _))
 (pss_one (ps_set (i := 4) scDraw.nd rfl (.inl rfl) (pe_ix ix_list (pe_ix ix_list (pv 0) pe_int (fun _ _ => rfl)) (pe_op op_modN (pe_callTy call_int1 (by rfl) T.int (by decide +kernel) (pa_cons (pv 3) pa_nil)) (pe_callB call_len_seq (by rfl) T.len PySem.boot_len (pa_cons (pe_ix ix_list (pv 0) pe_int (fun _ _ => rfl)) pa_nil))) (fun _ _ => rfl))))
 pss_nil)
 (pss_cons (ps_if (PW.pt (pw_and (pt_cmpR op_lt (pv 3) (pe_callB call_len_seq (by rfl) T.len PySem.boot_len (pa_cons (pe_ix ix_list (pv 0) pe_int (fun _ _ => rfl)) pa_nil)) (nomark _)) (pw_and1 (pt_cmpR op_ge (pe_callB call_abs (by rfl) T.abs (by decide +kernel) (pa_cons (pv 4) pa_nil)) (pe_op op_pow pe_int pe_int) (nomark _)))))
 (pss_cons (ps_set (i := 5) scDraw.nd rfl (.inl rfl) (pe_op op_add (pe_op op_mul pe_int (pe_op op_sub (pe_callB call_abs (by rfl) T.abs (by decide +kernel) (pa_cons (pv 4) pa_nil)) (pe_op op_pow pe_int pe_int))) (pe_callTy call_int1 (by rfl) T.int (by decide +kernel) (pa_cons (pe_cmpR op_lt (pv 4) pe_int (nomark _)) pa_nil))))
 (pss_cons (ps_asg (pe_op op_fdivN (pe_callTy call_int1 (by rfl) T.int (by decide +kernel) (pa_cons (pv 5) pa_nil)) (pv 1)) (pg_sub (pv 0) pe_int set_list))
 (pss_one (ps_ret (pe_op op_modN (pe_callTy call_int1 (by rfl) T.int (by decide +kernel) (pa_cons (pv 5) pa_nil)) (pv 1))))))
 pss_nil)
 (pss_cons (ps_set (i := 6) scDraw.nd rfl (.inl rfl) (pe_op op_modN (pe_callTy call_int1 (by rfl) T.int (by decide +kernel) (pa_cons (pe_op op_pow (pe_op op_add (pe_op op_add (pe_op op_modN (pe_callTy call_int1 (by rfl) T.int (by decide +kernel) (pa_cons (pv 4) pa_nil)) pe_int) (pe_op op_mul pe_int (pv 3))) pe_int) pe_int) pa_nil)) pe_int))
 (pss_cons (ps_set (i := 6) scDraw.nd rfl (.inl rfl) (pe_op op_modN (pe_callTy call_int1 (by rfl) T.int (by decide +kernel) (pa_cons (pe_op op_pow (pe_op op_add (pe_op op_add (pe_op op_mul (pv 6) (pe_op op_add (pe_op op_mul pe_int (pv 3)) pe_int)) (pe_op op_mul (pe_op op_mul pe_int (pv 3)) (pv 3))) pe_int) pe_int) pa_nil)) pe_int))
 (pss_one (ps_ret (pe_op op_modN (pe_callTy call_int1 (by rfl) T.int (by decide +kernel) (pa_cons (pe_op op_fdivN (pv 6) pe_int) pa_nil)) (pv 1)))))))))))), ?_⟩
    have hS : SqL K H p [.ref c, .int i, .int g] := SqL.of hP.p
    have mne : m ≠ 0 := by omega
    have i0 := hP.lo
    have i1 := hP.hi
    have mab : m.natAbs < 1073741824 := by omega
    refine ⟨.ref p, rfl, p, _, 2, .int g, rfl, rfl, hS, rfl, g, 0, rfl, rfl, _, rfl, ite2 (fun e => ?_) (fun e => ?_)⟩
    · -- a digit of a great cell
      have hg0 : 0 < g := by simpa using e
      refine ⟨.ref p, rfl, p, _, 2, .int g, rfl, rfl, hS, rfl, .inl ⟨g, rfl, .int m, rfl, g, m, rfl, rfl, mne, ?_⟩⟩
      refine ⟨.ref p, rfl, p, _, 2, .int g, rfl, rfl, hS, rfl, .inl ⟨g, rfl, .int m, rfl, g, m, rfl, rfl, ⟨mne, mab⟩, ?_⟩⟩
      refine ⟨.ref p, rfl, p, _, 2, 2, rfl, rfl, hP.p, rfl, ?_⟩
      refine ⟨_, rfl, ?_⟩
      exact q _ i _ _ (fmod_ok hm).1 (fmod_ok hm).2 (Gr.of_same (Same.refl H)).upd ⟨upd_same, by rw [upd_ne hP.ne]; exact hP.c, hP.lo, hP.hi, fdiv_nn (Int.le_of_lt hg0) hm, hP.n⟩ (by omega)
    · -- the next cell
      refine ⟨.ref p, rfl, p, _, 1, .int i, rfl, rfl, hS, rfl, ?_⟩
      refine ⟨.int i, rfl, i, 1, rfl, rfl, .ref p, rfl, p, _, 1, 1, rfl, rfl, hP.p, rfl, ?_⟩
      have h1 : SqL K (upd H p (pen c (i + 1) g)) p [.ref c, .int (i + 1), .int g] := SqL.of upd_same
      have hc1 : SqL K (upd H p (pen c (i + 1) g)) c (ns.map V.int) := SqL.of (by rw [upd_ne hP.ne]; exact hP.c)
      refine ⟨.int i, rfl, 70121, i, rfl, rfl, .inl ⟨by decide, by decide⟩, _, 1109, rfl, rfl, ?_⟩
      refine ⟨.ref p, rfl, p, _, 0, .ref c, rfl, rfl, h1, rfl, Nat.zero_le _, fun l nl => ?_⟩
      have sl := same_upd (o := .lst []) nl
      refine ⟨.list (ns.map PyData.int), .list [], .lst (sl.seq hc1) (dp_ints ns), .lst (SqL.of upd_same) .nil, shaped_ints ns, rfl, _, rfl, ?_⟩
      rw [eqv_nil]
      have h1' : SqL K (upd (upd H p (pen c (i + 1) g)) l (.lst [])) p [.ref c, .int (i + 1), .int g] := sl.seq h1
      have hp' : upd (upd H p (pen c (i + 1) g)) l (.lst []) p = some (pen c (i + 1) g) := sl _ _ upd_same
      have hc' : SqL K (upd (upd H p (pen c (i + 1) g)) l (.lst [])) c (ns.map V.int) := sl.seq hc1
      have hcc : upd (upd H p (pen c (i + 1) g)) l (.lst []) c = some (.lst (ns.map V.int)) := sl _ _ (by rw [upd_ne hP.ne]; exact hP.c)
      by_cases hns : ns = []
      case' pos =>
        rw [decide_eq_true hns]
        refine iteF ?_
      case' neg =>
        rw [decide_eq_false hns]
        refine iteT ?_
        have npos : 0 < ((ns.map V.int).length : Int) := by
          rw [List.length_map]
          cases ns with
          | nil => exact absurd rfl hns
          | cons a r => rw [List.length_cons]; omega
        obtain ⟨b1, b2⟩ := fmod_ok (x := i) npos
        obtain ⟨z, hz⟩ : ∃ z, (ns.map V.int)[(i.fmod ((ns.map V.int).length : Int)).toNat]? = some (.int z) := by
          have hj : (i.fmod ((ns.map V.int).length : Int)).toNat < (ns.map V.int).length := by omega
          rw [List.getElem?_eq_getElem hj, List.getElem_map]
          exact ⟨_, rfl⟩
        refine ⟨.ref p, rfl, p, _, 0, .ref c, rfl, rfl, h1', rfl, .int i, rfl, .inl ⟨i, rfl, .ref p, rfl, p, _, 0, .ref c, rfl, rfl, h1', rfl, c, _, rfl, .inl hc', i, _, rfl, rfl, by omega, c, _, _, .int z, rfl, rfl, hc', ?_, ?_⟩⟩
        · have e3 := atI_nat hz
          rw [Int.toNat_of_nonneg b1] at e3
          exact e3
      all_goals
        refine ⟨.int i, rfl, .ref p, rfl, p, _, 0, .ref c, rfl, rfl, h1', rfl, c, _, rfl, .inl hc', i, _, rfl, rfl, _, rfl, ite2 (fun e1 => ?_) (fun e1 => ?_)⟩
        case' refine_1 =>
          refine ⟨_, rfl, _, rfl, 10, 18, rfl, rfl, ⟨by decide, by decide, by decide⟩, _, _, rfl, rfl, _, rfl, ite2 (fun e2 => ?_) (fun e2 => ?_)⟩
          case' refine_1 =>
            have e3 := of_decide_eq_true e2
            refine ⟨_, rfl, _, rfl, 10, 18, rfl, rfl, ⟨by decide, by decide, by decide⟩, _, _, rfl, rfl, 2, _, rfl, rfl, .inl ⟨by decide, by decide⟩, _, rfl, _, _, rfl, rfl, .inr ⟨_, rfl, _, _, rfl, rfl, ?_⟩⟩
            refine ⟨_, rfl, .inl ⟨_, rfl, .int m, rfl, _, m, rfl, rfl, ⟨mne, mab⟩, .ref p, rfl, p, _, 2, 2, rfl, rfl, hp', rfl, ?_⟩⟩
            refine ⟨_, rfl, .inl ⟨_, rfl, .int m, rfl, _, m, rfl, rfl, mne, ?_⟩⟩
            refine q _ (i + 1) _ _ (fmod_ok hm).1 (fmod_ok hm).2 (((Gr.of_same (Same.refl H)).upd.trans (Gr.of_same sl)).upd) ⟨upd_same, by rw [upd_ne hP.ne]; exact hcc, by omega, by omega, fdiv_nn ?_ hm, hP.n⟩ (by omega)
            generalize (10 : Int) ^ Int.toNat 18 = tt at e3 ⊢
            have z0 : ∀ b : Bool, 0 ≤ (if b = true then (1 : Int) else 0) := fun b => by cases b <;> decide
            exact Int.add_nonneg (Int.mul_nonneg (by decide) (by omega)) (z0 _)
        all_goals
          refine ⟨_, rfl, .inl ⟨_, rfl, _, 2147483647, rfl, rfl, (show (2147483647 : Int) ≠ 0 by decide), .int i, rfl, 51307, i, rfl, rfl, .inl ⟨by decide, by decide⟩, _, _, rfl, rfl, _, 611, rfl, rfl, _, 5, rfl, rfl, ⟨by decide, by decide, bnd1 51307 611 i0 i1 (by decide) (by decide) (by decide) (by decide) (by decide) (by decide)⟩, .inl ⟨_, rfl, _, 2147483549, rfl, rfl, (show (2147483549 : Int) ≠ 0 by decide), ?_⟩⟩⟩
          refine ⟨_, rfl, .int i, rfl, 2, i, rfl, rfl, .inl ⟨by decide, by decide⟩, _, 191, rfl, rfl, _, _, rfl, rfl, .inl (bnd4 (by decide) (by decide)), .int i, rfl, 44017, i, rfl, rfl, .inl ⟨by decide, by decide⟩, .int i, rfl, _, i, rfl, rfl, .inl (bnd3 44017 i0 i1 (by decide) (by decide)), _, _, rfl, rfl, _, 271, rfl, rfl, _, 3, rfl, rfl,
            ⟨by decide, by decide, bnd2 191 44017 271 i0 i1 (by decide) (by decide) (by decide) (by decide) (by decide) (by decide) (by decide) (by decide)⟩, .inl ⟨_, rfl, _, 2147483489, rfl, rfl, (show (2147483489 : Int) ≠ 0 by decide), ?_⟩⟩
          refine ⟨_, rfl, _, 32, rfl, rfl, (show (32 : Int) ≠ 0 ∧ (32 : Int).natAbs < 1073741824 by decide), .inl ⟨_, rfl, .int m, rfl, _, m, rfl, rfl, mne, ?_⟩⟩
          exact q _ (i + 1) g _ (fmod_ok hm).1 (fmod_ok hm).2 ((Gr.of_same (Same.refl H)).upd.trans (Gr.of_same sl)) ⟨hp', hcc, by omega, by omega, hP.g, hP.n⟩ (by omega)
end
end BR
namespace BR
open PySem PySem.Spec PyProof.Rows L2
abbrev sThing : Stmt := top 31
theorem scThing : FnScope ["_law_pen_here", "_law_some"] ["_law_pen_here"] (defScope sThing) := ⟨rfl, rfl, rfl, by decide +kernel, rfl, by decide +kernel, by decide +kernel⟩
mutual
theorem Rp.mono {H H' : Hp} (s : Same H H') : ∀ {v : V} {d : PyData}, Rp H v d → Rp H' v d
  | _, _, .non => .non
  | _, _, .bl b => .bl b
  | _, _, .int i => .int i
  | _, _, .str x => .str x
  | _, _, .lst e q => .lst (s _ _ e) (RpAll.mono s q)
  | _, _, .tup e q => .tup (s _ _ e) (RpAll.mono s q)
  | _, _, .dic e k q => .dic (s _ _ e) k (RpAll.mono s q)
theorem RpAll.mono {H H' : Hp} (s : Same H H') : ∀ {vs : List V} {ds : List PyData}, RpAll H vs ds → RpAll H' vs ds
  | _, _, .nil => .nil
  | _, _, .cons a q => .cons (Rp.mono s a) (RpAll.mono s q)
end
/-- a value that can be shown, apart from the pen -/
def Thing (p : Addr) (H : Hp) (v : V) (d : PyData) : Prop := Rp (delH H p) v d ∧ d.showable = true ∧ d.depth ≤ 2 ∧ d.shown.length ≤ 100
theorem gr_del {p : Addr} {H H' : Hp} (x : Gr p H H') : Same (delH H p) (delH H' p) := fun b o e => by
  by_cases q : b = p
  · rw [q, delH_same] at e
    cases e
  · rw [delH_ne q] at e ⊢
    exact x b o q e
theorem del_sub {p : Addr} {H : Hp} : Same (delH H p) H := fun b o e => by
  by_cases q : b = p
  · rw [q, delH_same] at e
    cases e
  · rw [delH_ne q] at e
    exact e
theorem Thing.mono {p : Addr} {H H' : Hp} {v : V} {d : PyData} (x : Gr p H H') (t : Thing p H v d) : Thing p H' v d := ⟨t.1.mono (gr_del x), t.2⟩
section
variable {P : Program} {w : World} {K : PySem.W.Frag} {mg : Str → Option Value} {base : Heap}
def spPick (K : PySem.W.Frag) : Sp := fun vs H Q _ => ∃ (p c l : Addr) (ns : List Int) (i g : Int) (xs : List V), vs = [.ref p, .ref l] ∧ PenAt H p c ns i g ∧ i < 100000 ∧ l ≠ p ∧ SqL K H l xs ∧ 0 < xs.length ∧ xs.length ≤ 1000 ∧
  ∀ (j : Nat) v i' g' H', xs[j]? = some v → Gr p H H' → PenAt H' p c ns i' g' → i' ≤ i + 1 → Q v H'
theorem ok_pick {f fD : Addr} {fd fdD : FuncData} {k : Nat} (F : Fun K "_law_pick" "_law_pick" sPick f fd) (T : Names0 mg) (FD : Fun K "_law_draw" "_law_draw" sDraw fD fdD) (bD : Binds K fdD ["_law_pen_here", "_law_many"] []) (gD : mg "_law_draw" = some (.ref fD)) :
    FnOk P w K mg base CX0 (k + 2) f fd ["_law_pen_here", "_law_some"] (spPick K) := by
  have GD : FnOk P w K mg base CX0 (k + 1) fD fdD ["_law_pen_here", "_law_many"] spDraw := ok_draw FD T
  refine F.ok scPick (fun vs H Q E h => ?_) (fun cdv A outer s H vs Q E hr h => ?_)
  · obtain ⟨p, c, l, ns, i, g, xs, rfl, _⟩ := h
    rfl
  · obtain ⟨p, c, l, ns, i, g, xs, rfl, hP, hi, hlp, hS, h0, h1, q⟩ := h
    refine ⟨_, (pss_one (ps_ret (pe_ix ix_list (pv 1) (pe_call GD hr (by rfl) gD FD.kp bD .nil pass0 (pa_cons (pv 0) (pa_cons (pe_callB call_len_seq (by rfl) T.len PySem.boot_len (pa_cons (pv 1) pa_nil)) pa_nil))) (fun _ _ => rfl)))), ?_⟩
    refine ⟨.ref l, rfl, .ref p, rfl, .ref l, rfl, l, xs, rfl, .inl hS, p, c, ns, i, g, _, rfl, hP, hi, by omega, by omega, fun d i' g' H' d0 d1 gr hP' hi' => ?_⟩
    have hj : d.toNat < xs.length := by omega
    refine ⟨l, xs, d, xs[d.toNat], rfl, rfl, gr.seq hlp hS, ?_, q d.toNat _ i' g' H' (List.getElem?_eq_getElem hj) gr hP' hi'⟩
    have e := atI_nat (List.getElem?_eq_getElem hj)
    rw [Int.toNat_of_nonneg d0] at e
    exact e
def spThing : Sp := fun vs H Q _ => ∃ (p c : Addr) (ns : List Int) (i g : Int), vs = [.ref p] ∧ PenAt H p c ns i g ∧ i < 100000 ∧
  ∀ v d i' g' H', Gr p H H' → PenAt H' p c ns i' g' → i' ≤ i + 1 → Thing p H' v d → Q v H'
theorem ok_thing {f fK : Addr} {fd fdK : FuncData} {k : Nat} (F : Fun K "_law_thing" "_law_thing" sThing f fd) (T : Names0 mg) (GK : FnOk P w K mg base CX0 k fK fdK ["_law_pen_here", "_law_some"] (spPick K)) (kK : PySem.W.keepIn K (.ref fK) = true)
    (bK : Binds K fdK ["_law_pen_here", "_law_some"] []) (gK : mg "_law_pick" = some (.ref fK)) : FnOk P w K mg base CX0 (k + 1) f fd ["_law_pen_here"] spThing := by
  refine F.ok scThing (fun vs H Q E h => ?_) (fun cdv A outer s H vs Q E hr h => ?_)
  · obtain ⟨p, c, ns, i, g, rfl, _⟩ := h
    rfl
  · obtain ⟨p, c, ns, i, g, rfl, hP, hi, q⟩ := h
    refine ⟨_, (pss_cons (ps_set (i := 1) scThing.nd rfl (.inl rfl) (pe_lst (pa_cons pe_non (pa_cons pe_bl (pa_cons pe_bl (pa_cons pe_int (pa_cons pe_int (pa_cons (pe_un un_neg pe_int) (pa_cons (pe_op op_pow pe_int pe_int) (pa_cons pe_str (pa_cons pe_str (pa_cons pe_str (pa_cons (pe_tup pa_nil) (pa_cons (pe_tup (pa_cons pe_str (pa_cons pe_int pa_nil))) (pa_cons (pe_lst pa_nil) (pa_cons (pe_lst (pa_cons pe_str pa_nil)) (pa_cons pe_dnewK (pa_cons (pe_disp (pps_cons pe_str pe_str pps_nil) (by rfl) (by rfl) (fun z => by cases z) (by decide)) (pa_cons pe_str pa_nil)))))))))))))))))))
 (pss_one (ps_ret (pe_call GK hr (by rfl) gK kK bK .nil pass0 (pa_cons (pv 0) (pa_cons (pv 1) pa_nil)))))), ?_⟩
    refine ⟨7, rfl, 10, 59, rfl, rfl, ⟨by decide, by decide, by decide⟩, Nat.zero_le _, fun t0 m0 => ?_⟩
    refine ⟨by show 2 ≤ sizeLine; decide, fun t1 m1 => ⟨Nat.zero_le _, fun l0 m2 => ⟨by show 1 ≤ sizeLine; decide, fun l1 m3 => ?_⟩⟩⟩
    intro d0 m4 d1 m5
    refine ⟨upd_same, [(Sum.inr "e", .str "xc")], rfl, by decide, ?_⟩
    rw [upd_upd]
    refine ⟨by show 17 ≤ sizeLine; decide, fun l nl => ?_⟩
    have s0 := same_upd (o := .tup []) m0
    have s1 := same_upd (o := .tup [.str "a", .int 1]) m1
    have s2 := same_upd (o := .lst []) m2
    have s3 := same_upd (o := .lst [.str "e"]) m3
    have s4 := same_upd (o := .dK []) m4
    have s5 := same_upd (o := .dK (mergeK [] [(Sum.inr "e", .str "xc")])) m5
    have S : Same H _ := ((((s0.trans s1).trans s2).trans s3).trans s4).trans s5
    have nlp : l ≠ p := (ne_of_none (S _ _ hP.p) nl).symm
    have sl := same_upd (o := HO.lst [V.non, .bl true, .bl false, .int 0, .int 1, .int (-7), .int (10 ^ Int.toNat 59), .str "", .str "a", .str "xc", .ref t0, .ref t1, .ref l0, .ref l1, .ref d0, .ref d1, .str "two words"]) nl
    have hP6 : PenAt _ p c ns i g := ⟨sl _ _ (S _ _ hP.p), sl _ _ (S _ _ hP.c), hP.lo, hP.hi, hP.g, hP.n⟩
    have at_ : ∀ {a : Addr} {o : HO} {Hx : Hp}, Hx a = none → Same H Hx → ∀ {H9 : Hp}, H9 a = some o → delH H9 p a = some o := fun {a o Hx} n sx {H9} e => by
      have na : a ≠ p := (ne_of_none (sx _ _ hP.p) n).symm
      rw [delH_ne na]
      exact e
    have e0 := at_ m0 (Same.refl H) (sl _ _ (s5 _ _ (s4 _ _ (s3 _ _ (s2 _ _ (s1 _ _ upd_same))))))
    have e1 := at_ m1 s0 (sl _ _ (s5 _ _ (s4 _ _ (s3 _ _ (s2 _ _ upd_same)))))
    have e2 := at_ m2 (s0.trans s1) (sl _ _ (s5 _ _ (s4 _ _ (s3 _ _ upd_same))))
    have e3 := at_ m3 ((s0.trans s1).trans s2) (sl _ _ (s5 _ _ (s4 _ _ upd_same)))
    have e4 := at_ m4 (((s0.trans s1).trans s2).trans s3) (sl _ _ (s5 _ _ upd_same))
    have e5 := at_ m5 ((((s0.trans s1).trans s2).trans s3).trans s4) (sl _ _ upd_same)
    refine ⟨.ref p, rfl, .ref l, rfl, p, c, l, ns, i, g, _, rfl, hP6, hi, nlp, SqL.of upd_same, by show 0 < 17; decide, by show 17 ≤ 1000; decide, fun j v i' g' H' hv gr hP' hi' => ?_⟩
    suffices key : ∃ d, Thing p _ v d by
      obtain ⟨d, td⟩ := key
      exact q v d i' g' H' ((Gr.of_same S).trans ((Gr.of_same sl).trans gr)) hP' hi' (td.mono gr)
    have hm := List.mem_of_getElem? hv
    simp only [List.mem_cons, List.mem_nil_iff, or_false] at hm
    rcases hm with rfl | rfl | rfl | rfl | rfl | rfl | rfl | rfl | rfl | rfl | rfl | rfl | rfl | rfl | rfl | rfl | rfl
    · exact ⟨_, .non, rfl, by decide, by decide +kernel⟩
    · exact ⟨_, .bl _, rfl, by decide, by decide +kernel⟩
    · exact ⟨_, .bl _, rfl, by decide, by decide +kernel⟩
    · exact ⟨_, .int _, by decide +kernel, by decide, by decide +kernel⟩
    · exact ⟨_, .int _, by decide +kernel, by decide, by decide +kernel⟩
    · exact ⟨_, .int _, by decide +kernel, by decide, by decide +kernel⟩
    · exact ⟨_, .int _, by decide +kernel, by decide, by decide +kernel⟩
    · exact ⟨_, .str _, rfl, by decide, by decide +kernel⟩
    · exact ⟨_, .str _, rfl, by decide, by decide +kernel⟩
    · exact ⟨_, .str _, rfl, by decide, by decide +kernel⟩
    · exact ⟨_, .tup e0 .nil, by decide +kernel, by decide +kernel, by decide +kernel⟩
    · exact ⟨_, .tup e1 (.cons (.str _) (.cons (.int _) .nil)), by decide +kernel, by decide +kernel, by decide +kernel⟩
    · exact ⟨_, .lst e2 .nil, by decide +kernel, by decide +kernel, by decide +kernel⟩
    · exact ⟨_, .lst e3 (.cons (.str _) .nil), by decide +kernel, by decide +kernel, by decide +kernel⟩
    · exact ⟨.dict [], .dic e4 rfl .nil, by decide +kernel, by decide +kernel, by decide +kernel⟩
    · exact ⟨.dict [(.str "e", .str "xc")], .dic e5 rfl (.cons (.str _) .nil), by decide +kernel, by decide +kernel, by decide +kernel⟩
    · exact ⟨_, .str _, rfl, by decide, by decide +kernel⟩
end
end BR
namespace BR
open PySem PySem.Spec PyProof.Rows L2
abbrev sSingles : Stmt := top 32
abbrev sDoubles : Stmt := top 33
abbrev sSF : Stmt := top 34
abbrev sDF : Stmt := top 35
abbrev sKinds : Stmt := top 36
theorem scSingles : FnScope ["_law_thing_here", "_law_is_named"] ["_law_thing_here", "_law_is_named"] (defScope sSingles) := ⟨rfl, rfl, rfl, by decide +kernel, rfl, by decide +kernel, by decide +kernel⟩
theorem scDoubles : FnScope ["_law_thing_here", "_law_more", "_law_is_named"] ["_law_thing_here", "_law_more", "_law_is_named"] (defScope sDoubles) := ⟨rfl, rfl, rfl, by decide +kernel, rfl, by decide +kernel, by decide +kernel⟩
theorem scSF : FnScope ["_law_some"] ["_law_some"] (defScope sSF) := ⟨rfl, rfl, rfl, by decide +kernel, rfl, by decide +kernel, by decide +kernel⟩
theorem scDF : FnScope ["_law_some"] ["_law_some"] (defScope sDF) := ⟨rfl, rfl, rfl, by decide +kernel, rfl, by decide +kernel, by decide +kernel⟩
theorem scKinds : FnScope ["_law_error"] ["_law_error"] (defScope sKinds) := ⟨rfl, rfl, rfl, by decide +kernel, rfl, by decide +kernel, by decide +kernel⟩
/-! the classes in the order of _law_kinds -/
def nm (i : Nat) : Str := (["BadLetter", "BadWord", "BadNumber", "BadCode", "BadName", "BadImage", "NoSign", "Unlike", "BadTable", "BadRight", "Unread", "Barred", "BadList", "BadRow", "BadFixer", "NoOrigin", "Ring", "NoName", "BadCommand", "Merging", "Several", "TooMany", "BadText", "NoImage", "Nothing"] : List Str).getD i ""
def fl (i : Nat) : Str := (["value", "value", "value", "value", "value", "letter", "letter", "letter", "part", "part", "at", "at", "at", "at", "at", "text", "text", "name", "word"] : List Str).getD i ""
def f1 (i : Nat) : Str := (["one", "one", "what", "line"] : List Str).getD i ""
def f2 (i : Nat) : Str := (["other", "other", "most", "word"] : List Str).getD i ""
structure Tab (P : Program) (w : World) (K : PySem.W.Frag) (mg : Str → Option Value) (cs : Nat → Addr) (cR : Addr) : Prop where
  s : ∀ i, i < 19 → ErC P w K mg (nm i) (cs i) (ff1 (fl i)) [fl i] (ff1 (fl i))
  d : ∀ i, i < 4 → ErC P w K mg (nm (19 + i)) (cs (19 + i)) (ff2 (f1 i) (f2 i)) [f2 i, f1 i] (fk2 (f1 i) (f2 i))
  z : ∀ i, i < 2 → Er0 K mg (nm (23 + i)) (cs (23 + i))
  g : ∀ i, i < 25 → mg (nm i) = some (.ref (cs i))
  k : ∀ i, i < 25 → ErK K (cs i)
  kit : ∀ i j, i < 25 → j < 25 → PySem.W.kitOne K (.ref (cs i)) (.ref (cs j)) = some (i == j)
  gR : mg "RepairError" = some (.ref cR)
  kR : ∀ i, i < 25 → PySem.W.kitOne K (.ref (cs i)) (.ref cR) = some true
  kV : ∀ i, i < 25 → PySem.W.kitOne K (.ref (cs i)) (.type "ValueError") = some true
  ns : ∀ i, i < 19 → PySem.W.findIn K (.ref (cs i)) (fl i) = some none
  n1 : ∀ i, i < 4 → PySem.W.findIn K (.ref (cs (19 + i))) (f1 i) = some none
  n2 : ∀ i, i < 4 → PySem.W.findIn K (.ref (cs (19 + i))) (f2 i) = some none
  ex : ∀ i, i < 25 → PySem.W.exmOne K (.ref (cs i)) (.ref cR) = some true
  ty : ∀ i, i < 25 → PySem.W.typeIn K (.ref (cs i)) = some (.type "type")
  mV : mg "ValueError" = none
  mI : mg "isinstance" = none
/-- an error of these fields, tracked -/
def ErT (H : Hp) (a C : Addr) (fs : List (Str × V)) : Prop := (∃ d, H a = some (erv a C (some d)) ∧ H d = some (.xd fs)) ∨ (fs = [] ∧ H a = some (erv a C none))
theorem ErT.is {X : Cx} {H : Hp} {a C : Addr} {fs : List (Str × V)} (h : ErT H a C fs) : ErIs X H a C fs := h.elim .inl fun z => .inr (.inl z)
theorem ErT.mono {H H' : Hp} {a C : Addr} {fs : List (Str × V)} (s : Same H H') (h : ErT H a C fs) : ErT H' a C fs := by
  rcases h with ⟨d, h1, h2⟩ | ⟨h1, h2⟩
  · exact .inl ⟨d, s _ _ h1, s _ _ h2⟩
  · exact .inr ⟨h1, s _ _ h2⟩
/-- errors in a row -/
inductive Errs (H : Hp) : List (Addr × List (Str × V)) → List V → Prop
  | nil : Errs H [] []
  | cons {a C : Addr} {fs : List (Str × V)} {L : List (Addr × List (Str × V))} {vs : List V} : ErT H a C fs → Errs H L vs → Errs H ((C, fs) :: L) (.ref a :: vs)
theorem Errs.mono {H H' : Hp} (s : Same H H') : ∀ {L : List (Addr × List (Str × V))} {vs : List V}, Errs H L vs → Errs H' L vs
  | _, _, .nil => .nil
  | _, _, .cons a q => .cons (a.mono s) (Errs.mono s q)
theorem Errs.get {H : Hp} : ∀ {L : List (Addr × List (Str × V))} {vs : List V} {k : Nat} {C : Addr} {fs : List (Str × V)}, Errs H L vs → L[k]? = some (C, fs) → ∃ a, vs[k]? = some (.ref a) ∧ ErT H a C fs
  | _, _, k, _, _, .nil, e => by simp at e
  | _, _, 0, _, _, .cons (a := a) h q, e => by
    simp at e
    obtain ⟨rfl, rfl⟩ := e
    exact ⟨a, rfl, h⟩
  | _, _, k + 1, _, _, .cons h q, e => by
    obtain ⟨a, h1, h2⟩ := Errs.get (k := k) q (by simpa using e)
    exact ⟨a, by simpa using h1, h2⟩
theorem Errs.len {H : Hp} : ∀ {L : List (Addr × List (Str × V))} {vs : List V}, Errs H L vs → vs.length = L.length
  | _, _, .nil => rfl
  | _, _, .cons h q => by rw [List.length_cons, List.length_cons, q.len]
/-- argument lists that make errors -/
def IsErs (ta : TA) (σ : L2.St) (L : List (Addr × List (Str × V))) : Prop := ∀ H Q, (∀ vs H', Same H H' → Errs H' L vs → Q vs H') → ta σ H Q
/-- .. that give values and change nothing -/
def IsVs (ta : TA) (σ : L2.St) (H : Hp) (vs : List V) : Prop := ∀ Q, Q vs H → ta σ H Q
theorem ers_nil {σ : L2.St} : IsErs tNil σ [] := fun H Q h => h [] H (Same.refl H) .nil
theorem ers_cons {σ : L2.St} {C : Addr} {ff : List V → Option (List (Str × V))} {ta tb : TA} {vs : List V} {fs : List (Str × V)} {L : List (Addr × List (Str × V))} (h1 : ∀ H, IsVs ta σ H vs) (h2 : ff vs = some fs) (h3 : IsErs tb σ L) : IsErs (tCons (tEr C ff ta) tb) σ ((C, fs) :: L) := by
  intro H Q h
  refine h1 H _ ⟨fs, h2, fun a d na nd dne => ?_⟩
  have s1 := same_upd (o := .xd fs) nd
  have na' : upd H d (.xd fs) a = none := by
    rw [upd_ne dne.symm]
    exact na
  have s2 := same_upd (o := erv a C (some d)) na'
  refine h3 _ _ fun vs H' s e => h _ H' ((s1.trans s2).trans s) (.cons (.inl ⟨d, s _ _ upd_same, s _ _ (s2 _ _ upd_same)⟩) e)
theorem vs_nil {σ : L2.St} {H : Hp} : IsVs tNil σ H [] := fun Q h => h
theorem vs_var {σ : L2.St} {H : Hp} {i : Nat} {v : V} {ta : TA} {vs : List V} (e : σ[i]? = some (some v)) (h : IsVs ta σ H vs) : IsVs (tCons (tVar i) ta) σ H (v :: vs) := fun Q q => ⟨v, e, h _ q⟩
section
variable {P : Program} {w : World} {K : PySem.W.Frag} {mg : Str → Option Value} {base : Heap} {cs : Nat → Addr} {cR : Addr}
def Ls (cs : Nat → Addr) (v : V) : List (Addr × List (Str × V)) := (List.range 19).map fun i => (cs i, [(fl i, v)])
def Ld (cs : Nat → Addr) (v u : V) : List (Addr × List (Str × V)) := (List.range 4).map fun i => (cs (19 + i), [(f1 i, v), (f2 i, u)])
def spSingles (cs : Nat → Addr) : Sp := fun vs H Q _ => ∃ (v : V) (b : Bool), vs = [v, .bl b] ∧ ∀ l es H', Same H H' → H l = none → H' l = some (.lst es) → Errs H' (Ls cs v) es → Q (.ref l) H'
def spDoubles (cs : Nat → Addr) : Sp := fun vs H Q _ => ∃ (v u : V) (b : Bool), vs = [v, u, .bl b] ∧ ∀ l es H', Same H H' → H l = none → H' l = some (.lst es) → Errs H' (Ld cs v u) es → Q (.ref l) H'
theorem lst_ers {ta : TA} {σ : L2.St} {L : List (Addr × List (Str × V))} {H : Hp} {Q : VK} (h : IsErs ta σ L) (hl : L.length ≤ 1000) (q : ∀ l es H', Same H H' → H l = none → H' l = some (.lst es) → Errs H' L es → Q (.ref l) H') : tLst ta σ H Q := by
  refine h H _ fun vs H' s e => ⟨?_, fun l nl => ?_⟩
  · rw [e.len, sizeLine_eq]
    omega
  · have s2 := same_upd (o := .lst vs) nl
    exact q l vs _ (s.trans s2) (s.free nl) upd_same (e.mono s2)
theorem ok_singles {f : Addr} {fd : FuncData} {k : Nat} (F : Fun K "_law_singles" "_law_singles" sSingles f fd) (T : Tab P w K mg cs cR) : FnOk P w K mg base CX0 (k + 1) f fd ["_law_thing_here", "_law_is_named"] (spSingles cs) := by
  refine F.ok scSingles (fun vs H Q E h => ?_) (fun cdv A outer s H vs Q E hr h => ?_)
  · obtain ⟨v, b, rfl, _⟩ := h
    rfl
  · obtain ⟨v, b, rfl, q⟩ := h
    refine ⟨_, (pss_cons (ps_if (pt_val (pv 1))
 (pss_one (ps_ret (pe_lst (pa_cons (pe_erK (T.s 0 (by decide)) hr (by rfl) (pk_cons (pv 0) pk_nil)) (pa_cons (pe_erK (T.s 1 (by decide)) hr (by rfl) (pk_cons (pv 0) pk_nil)) (pa_cons (pe_erK (T.s 2 (by decide)) hr (by rfl) (pk_cons (pv 0) pk_nil)) (pa_cons (pe_erK (T.s 3 (by decide)) hr (by rfl) (pk_cons (pv 0) pk_nil)) (pa_cons (pe_erK (T.s 4 (by decide)) hr (by rfl) (pk_cons (pv 0) pk_nil)) (pa_cons (pe_erK (T.s 5 (by decide)) hr (by rfl) (pk_cons (pv 0) pk_nil)) (pa_cons (pe_erK (T.s 6 (by decide)) hr (by rfl) (pk_cons (pv 0) pk_nil)) (pa_cons (pe_erK (T.s 7 (by decide)) hr (by rfl) (pk_cons (pv 0) pk_nil)) (pa_cons (pe_erK (T.s 8 (by decide)) hr (by rfl) (pk_cons (pv 0) pk_nil)) (pa_cons (pe_erK (T.s 9 (by decide)) hr (by rfl) (pk_cons (pv 0) pk_nil)) (pa_cons (pe_erK (T.s 10 (by decide)) hr (by rfl) (pk_cons (pv 0) pk_nil)) (pa_cons (pe_erK (T.s 11 (by decide)) hr (by rfl) (pk_cons (pv 0) pk_nil)) (pa_cons (pe_erK (T.s 12 (by decide)) hr (by rfl) (pk_cons (pv 0) pk_nil)) (pa_cons (pe_erK (T.s 13 (by decide)) hr (by rfl) (pk_cons (pv 0) pk_nil)) (pa_cons (pe_erK (T.s 14 (by decide)) hr (by rfl) (pk_cons (pv 0) pk_nil)) (pa_cons (pe_erK (T.s 15 (by decide)) hr (by rfl) (pk_cons (pv 0) pk_nil)) (pa_cons (pe_erK (T.s 16 (by decide)) hr (by rfl) (pk_cons (pv 0) pk_nil)) (pa_cons (pe_erK (T.s 17 (by decide)) hr (by rfl) (pk_cons (pv 0) pk_nil)) (pa_cons (pe_erK (T.s 18 (by decide)) hr (by rfl) (pk_cons (pv 0) pk_nil)) pa_nil))))))))))))))))))))))
 pss_nil)
 (pss_one (ps_ret (pe_lst (pa_cons (pe_er (T.s 0 (by decide)) hr (by rfl) (pa_cons (pv 0) pa_nil)) (pa_cons (pe_er (T.s 1 (by decide)) hr (by rfl) (pa_cons (pv 0) pa_nil)) (pa_cons (pe_er (T.s 2 (by decide)) hr (by rfl) (pa_cons (pv 0) pa_nil)) (pa_cons (pe_er (T.s 3 (by decide)) hr (by rfl) (pa_cons (pv 0) pa_nil)) (pa_cons (pe_er (T.s 4 (by decide)) hr (by rfl) (pa_cons (pv 0) pa_nil)) (pa_cons (pe_er (T.s 5 (by decide)) hr (by rfl) (pa_cons (pv 0) pa_nil)) (pa_cons (pe_er (T.s 6 (by decide)) hr (by rfl) (pa_cons (pv 0) pa_nil)) (pa_cons (pe_er (T.s 7 (by decide)) hr (by rfl) (pa_cons (pv 0) pa_nil)) (pa_cons (pe_er (T.s 8 (by decide)) hr (by rfl) (pa_cons (pv 0) pa_nil)) (pa_cons (pe_er (T.s 9 (by decide)) hr (by rfl) (pa_cons (pv 0) pa_nil)) (pa_cons (pe_er (T.s 10 (by decide)) hr (by rfl) (pa_cons (pv 0) pa_nil)) (pa_cons (pe_er (T.s 11 (by decide)) hr (by rfl) (pa_cons (pv 0) pa_nil)) (pa_cons (pe_er (T.s 12 (by decide)) hr (by rfl) (pa_cons (pv 0) pa_nil)) (pa_cons (pe_er (T.s 13 (by decide)) hr (by rfl) (pa_cons (pv 0) pa_nil)) (pa_cons (pe_er (T.s 14 (by decide)) hr (by rfl) (pa_cons (pv 0) pa_nil)) (pa_cons (pe_er (T.s 15 (by decide)) hr (by rfl) (pa_cons (pv 0) pa_nil)) (pa_cons (pe_er (T.s 16 (by decide)) hr (by rfl) (pa_cons (pv 0) pa_nil)) (pa_cons (pe_er (T.s 17 (by decide)) hr (by rfl) (pa_cons (pv 0) pa_nil)) (pa_cons (pe_er (T.s 18 (by decide)) hr (by rfl) (pa_cons (pv 0) pa_nil)) pa_nil))))))))))))))))))))))), ?_⟩
    refine ⟨.bl b, rfl, b, rfl, ?_⟩
    have key : ∀ (σ : L2.St), σ[0]? = some (some v) → ∀ (i : Nat) H, IsVs (tCons (tVar 0) tNil) σ H [v] := fun σ e i H => vs_var e vs_nil
    cases b with
    | true =>
      refine iteT ?_
      refine lst_ers (L := Ls cs v) ?_ (by show 19 ≤ 1000; decide) q
      exact (ers_cons (key _ rfl 0) rfl (ers_cons (key _ rfl 0) rfl (ers_cons (key _ rfl 0) rfl (ers_cons (key _ rfl 0) rfl (ers_cons (key _ rfl 0) rfl (ers_cons (key _ rfl 0) rfl (ers_cons (key _ rfl 0) rfl (ers_cons (key _ rfl 0) rfl (ers_cons (key _ rfl 0) rfl (ers_cons (key _ rfl 0) rfl (ers_cons (key _ rfl 0) rfl (ers_cons (key _ rfl 0) rfl (ers_cons (key _ rfl 0) rfl (ers_cons (key _ rfl 0) rfl (ers_cons (key _ rfl 0) rfl (ers_cons (key _ rfl 0) rfl (ers_cons (key _ rfl 0) rfl (ers_cons (key _ rfl 0) rfl (ers_cons (key _ rfl 0) rfl ers_nil)))))))))))))))))))
    | false =>
      refine iteF ?_
      unfold tNext
      dsimp only
      refine lst_ers (L := Ls cs v) ?_ (by show 19 ≤ 1000; decide) q
      exact (ers_cons (key _ rfl 0) rfl (ers_cons (key _ rfl 0) rfl (ers_cons (key _ rfl 0) rfl (ers_cons (key _ rfl 0) rfl (ers_cons (key _ rfl 0) rfl (ers_cons (key _ rfl 0) rfl (ers_cons (key _ rfl 0) rfl (ers_cons (key _ rfl 0) rfl (ers_cons (key _ rfl 0) rfl (ers_cons (key _ rfl 0) rfl (ers_cons (key _ rfl 0) rfl (ers_cons (key _ rfl 0) rfl (ers_cons (key _ rfl 0) rfl (ers_cons (key _ rfl 0) rfl (ers_cons (key _ rfl 0) rfl (ers_cons (key _ rfl 0) rfl (ers_cons (key _ rfl 0) rfl (ers_cons (key _ rfl 0) rfl (ers_cons (key _ rfl 0) rfl ers_nil)))))))))))))))))))
theorem ok_doubles {f : Addr} {fd : FuncData} {k : Nat} (F : Fun K "_law_doubles" "_law_doubles" sDoubles f fd) (T : Tab P w K mg cs cR) : FnOk P w K mg base CX0 (k + 1) f fd ["_law_thing_here", "_law_more", "_law_is_named"] (spDoubles cs) := by
  refine F.ok scDoubles (fun vs H Q E h => ?_) (fun cdv A outer s H vs Q E hr h => ?_)
  · obtain ⟨v, u, b, rfl, _⟩ := h
    rfl
  · obtain ⟨v, u, b, rfl, q⟩ := h
    refine ⟨_, (pss_cons (ps_if (pt_val (pv 2))
 (pss_one (ps_ret (pe_lst (pa_cons (pe_erK (T.d 0 (by decide)) hr (by rfl) (pk_cons (pv 1) (pk_cons (pv 0) pk_nil))) (pa_cons (pe_erK (T.d 1 (by decide)) hr (by rfl) (pk_cons (pv 1) (pk_cons (pv 0) pk_nil))) (pa_cons (pe_erK (T.d 2 (by decide)) hr (by rfl) (pk_cons (pv 1) (pk_cons (pv 0) pk_nil))) (pa_cons (pe_erK (T.d 3 (by decide)) hr (by rfl) (pk_cons (pv 1) (pk_cons (pv 0) pk_nil))) pa_nil)))))))
 pss_nil)
 (pss_one (ps_ret (pe_lst (pa_cons (pe_er (T.d 0 (by decide)) hr (by rfl) (pa_cons (pv 0) (pa_cons (pv 1) pa_nil))) (pa_cons (pe_er (T.d 1 (by decide)) hr (by rfl) (pa_cons (pv 0) (pa_cons (pv 1) pa_nil))) (pa_cons (pe_er (T.d 2 (by decide)) hr (by rfl) (pa_cons (pv 0) (pa_cons (pv 1) pa_nil))) (pa_cons (pe_er (T.d 3 (by decide)) hr (by rfl) (pa_cons (pv 0) (pa_cons (pv 1) pa_nil))) pa_nil)))))))), ?_⟩
    refine ⟨.bl b, rfl, b, rfl, ?_⟩
    cases b with
    | true =>
      refine iteT ?_
      refine lst_ers (L := Ld cs v u) ?_ (by show 4 ≤ 1000; decide) q
      exact ers_cons (fun H => vs_var rfl (vs_var rfl vs_nil)) rfl (ers_cons (fun H => vs_var rfl (vs_var rfl vs_nil)) rfl (ers_cons (fun H => vs_var rfl (vs_var rfl vs_nil)) rfl (ers_cons (fun H => vs_var rfl (vs_var rfl vs_nil)) rfl ers_nil)))
    | false =>
      refine iteF ?_
      unfold tNext
      dsimp only
      refine lst_ers (L := Ld cs v u) ?_ (by show 4 ≤ 1000; decide) q
      exact ers_cons (fun H => vs_var rfl (vs_var rfl vs_nil)) rfl (ers_cons (fun H => vs_var rfl (vs_var rfl vs_nil)) rfl (ers_cons (fun H => vs_var rfl (vs_var rfl vs_nil)) rfl (ers_cons (fun H => vs_var rfl (vs_var rfl vs_nil)) rfl ers_nil)))

/-! the fields -/
theorem vs_fld {X : Cx} {σ : L2.St} {H : Hp} {i k : Nat} {l a C : Addr} {vs ws : List V} {fs : List (Str × V)} {f : Str} {v : V} {ta : TA} (e : σ[i]? = some (some (.ref l))) (hl : H l = some (.lst vs)) (hv : vs[k]? = some (.ref a)) (er : ErT H a C fs) (T : ErK X.K C)
    (hn : PySem.W.findIn X.K (.ref C) f = some none) (hf : fs.lookup f = some v) (h : IsVs ta σ H ws) : IsVs (tCons (tErF X f (tOp (rIxL X.K) (tVar i) (tC (.int (k : Int))))) ta) σ H (v :: ws) :=
  fun Q q => ⟨.ref l, e, l, vs, (k : Int), .ref a, rfl, rfl, SqL.of hl, atI_nat hv, a, C, fs, v, rfl, er.is, T, hn, hf, h _ q⟩
def spSF (cs : Nat → Addr) : Sp := fun vs H Q _ => ∃ (l : Addr) (es : List V) (v : V), vs = [.ref l] ∧ H l = some (.lst es) ∧ Errs H (Ls cs v) es ∧ ∀ r H', Same H H' → H r = none → H' r = some (.lst (List.replicate 19 v)) → Q (.ref r) H'
theorem lk1 (f : Str) (v : V) : [(f, v)].lookup f = some v := by simp [List.lookup]
theorem ok_sf {f : Addr} {fd : FuncData} {k : Nat} (F : Fun K "_law_single_fields" "_law_single_fields" sSF f fd) (T : Tab P w K mg cs cR) : FnOk P w K mg base CX0 (k + 1) f fd ["_law_some"] (spSF cs) := by
  refine F.ok scSF (fun vs H Q E h => ?_) (fun cdv A outer s H vs Q E hr h => ?_)
  · obtain ⟨l, es, v, rfl, _⟩ := h
    rfl
  · obtain ⟨l, es, v, rfl, hl, er, q⟩ := h
    refine ⟨_, (pss_one (ps_ret (pe_lst (pa_cons (pe_erf (pe_ix ix_list (pv 0) pe_int (fun _ _ => rfl))) (pa_cons (pe_erf (pe_ix ix_list (pv 0) pe_int (fun _ _ => rfl))) (pa_cons (pe_erf (pe_ix ix_list (pv 0) pe_int (fun _ _ => rfl))) (pa_cons (pe_erf (pe_ix ix_list (pv 0) pe_int (fun _ _ => rfl))) (pa_cons (pe_erf (pe_ix ix_list (pv 0) pe_int (fun _ _ => rfl))) (pa_cons (pe_erf (pe_ix ix_list (pv 0) pe_int (fun _ _ => rfl))) (pa_cons (pe_erf (pe_ix ix_list (pv 0) pe_int (fun _ _ => rfl))) (pa_cons (pe_erf (pe_ix ix_list (pv 0) pe_int (fun _ _ => rfl))) (pa_cons (pe_erf (pe_ix ix_list (pv 0) pe_int (fun _ _ => rfl))) (pa_cons (pe_erf (pe_ix ix_list (pv 0) pe_int (fun _ _ => rfl))) (pa_cons (pe_erf (pe_ix ix_list (pv 0) pe_int (fun _ _ => rfl))) (pa_cons (pe_erf (pe_ix ix_list (pv 0) pe_int (fun _ _ => rfl))) (pa_cons (pe_erf (pe_ix ix_list (pv 0) pe_int (fun _ _ => rfl))) (pa_cons (pe_erf (pe_ix ix_list (pv 0) pe_int (fun _ _ => rfl))) (pa_cons (pe_erf (pe_ix ix_list (pv 0) pe_int (fun _ _ => rfl))) (pa_cons (pe_erf (pe_ix ix_list (pv 0) pe_int (fun _ _ => rfl))) (pa_cons (pe_erf (pe_ix ix_list (pv 0) pe_int (fun _ _ => rfl))) (pa_cons (pe_erf (pe_ix ix_list (pv 0) pe_int (fun _ _ => rfl))) (pa_cons (pe_erf (pe_ix ix_list (pv 0) pe_int (fun _ _ => rfl))) pa_nil)))))))))))))))))))))), ?_⟩
    have key : ∀ (X : Cx) (k : Nat) (_ : X.K = K) (hk : k < 19) {ta : TA} {ws : List V}, IsVs ta (L2.start ["_law_some"] [.ref l]) H ws → IsVs (tCons (tErF X (fl k) (tOp (rIxL X.K) (tVar 0) (tC (.int (k : Int))))) ta) (L2.start ["_law_some"] [.ref l]) H (v :: ws) := fun X k hX hk {ta ws} h => by
      obtain ⟨a, ha, ea⟩ := er.get (k := k) (C := cs k) (fs := [(fl k, v)]) (by
        unfold Ls
        rw [List.getElem?_map, List.getElem?_range hk]
        rfl)
      exact vs_fld rfl hl ha ea (by rw [hX]; exact T.k k (by omega)) (by rw [hX]; exact T.ns k hk) (lk1 _ _) h
    show tLst _ _ _ _
    refine (?_ : IsVs _ _ H (List.replicate 19 v)) _ ⟨by show 19 ≤ sizeLine; decide, fun r nr => q r _ (same_upd nr) nr upd_same⟩
    exact (key _ 0 rfl (by decide) (key _ 1 rfl (by decide) (key _ 2 rfl (by decide) (key _ 3 rfl (by decide) (key _ 4 rfl (by decide) (key _ 5 rfl (by decide) (key _ 6 rfl (by decide) (key _ 7 rfl (by decide) (key _ 8 rfl (by decide) (key _ 9 rfl (by decide) (key _ 10 rfl (by decide) (key _ 11 rfl (by decide) (key _ 12 rfl (by decide) (key _ 13 rfl (by decide) (key _ 14 rfl (by decide) (key _ 15 rfl (by decide) (key _ 16 rfl (by decide) (key _ 17 rfl (by decide) (key _ 18 rfl (by decide) vs_nil)))))))))))))))))))
end
end BR
namespace BR
open PySem PySem.Spec PyProof.Rows L2
abbrev sCaught : Stmt := top 37
theorem scCaught : FnScope ["_law_way", "_law_error"] ["_law_way"] (defScope sCaught) := ⟨rfl, rfl, rfl, by decide +kernel, rfl, by decide +kernel, by decide +kernel⟩
inductive Rows (H : Hp) (xs : List V) : Nat → List V → Prop
  | nil : Rows H xs 0 []
  | cons {a : Addr} {n : Nat} {ls : List V} : H a = some (.lst xs) → Rows H xs n ls → Rows H xs (n + 1) (.ref a :: ls)
theorem Rows.mono {H H' : Hp} {xs : List V} (s : Same H H') : ∀ {n : Nat} {ls : List V}, Rows H xs n ls → Rows H' xs n ls
  | _, _, .nil => .nil
  | _, _, .cons a q => .cons (s _ _ a) (q.mono s)
theorem Rows.len {H : Hp} {xs : List V} : ∀ {n : Nat} {ls : List V}, Rows H xs n ls → ls.length = n
  | _, _, .nil => rfl
  | _, _, .cons a q => by rw [List.length_cons, q.len]
def IsRows (ta : TA) (σ : L2.St) (H : Hp) (xs : List V) (n : Nat) : Prop := ∀ H1, Same H H1 → ∀ Q, (∀ ls H', Same H1 H' → Rows H' xs n ls → Q ls H') → ta σ H1 Q
theorem rows_nil {σ : L2.St} {H : Hp} {xs : List V} : IsRows tNil σ H xs 0 := fun H1 _ Q h => h [] H1 (Same.refl _) .nil
theorem rows_cons {σ : L2.St} {H : Hp} {xs : List V} {n : Nat} {ta tb : TA} (h1 : ∀ H1, Same H H1 → IsVs ta σ H1 xs) (hx : xs.length ≤ 1000) (h2 : IsRows tb σ H xs n) : IsRows (tCons (tLst ta) tb) σ H xs (n + 1) := fun H1 s Q h => by
  refine h1 H1 s _ ⟨by rw [sizeLine_eq]; omega, fun l nl => ?_⟩
  have sl := same_upd (o := .lst xs) nl
  exact h2 _ (s.trans sl) _ fun ls H' s' r => h _ H' (sl.trans s') (.cons (s' _ _ upd_same) r)
section
variable {P : Program} {w : World} {K : PySem.W.Frag} {mg : Str → Option Value} {base : Heap} {cs : Nat → Addr} {cR : Addr}
def spDF (cs : Nat → Addr) : Sp := fun vs H Q _ => ∃ (l : Addr) (es : List V) (v u : V), vs = [.ref l] ∧ H l = some (.lst es) ∧ Errs H (Ld cs v u) es ∧ ∀ r ls H', Same H H' → H r = none → H' r = some (.lst ls) → Rows H' [v, u] 4 ls → Q (.ref r) H'
theorem f12 : ∀ k, k < 4 → f2 k ≠ f1 k := by decide +kernel
theorem lk2 {f g : Str} (h : g ≠ f) (v u : V) : [(f, v), (g, u)].lookup g = some u := by simp [List.lookup, beq_ff h]
theorem lk2' (f g : Str) (v u : V) : [(f, v), (g, u)].lookup f = some v := by simp [List.lookup]
theorem ok_df {f : Addr} {fd : FuncData} {k : Nat} (F : Fun K "_law_double_fields" "_law_double_fields" sDF f fd) (T : Tab P w K mg cs cR) : FnOk P w K mg base CX0 (k + 1) f fd ["_law_some"] (spDF cs) := by
  refine F.ok scDF (fun vs H Q E h => ?_) (fun cdv A outer s H vs Q E hr h => ?_)
  · obtain ⟨l, es, v, u, rfl, _⟩ := h
    rfl
  · obtain ⟨l, es, v, u, rfl, hl, er, q⟩ := h
    refine ⟨_, (pss_one (ps_ret (pe_lst (pa_cons (pe_lst (pa_cons (pe_erf (pe_ix ix_list (pv 0) pe_int (fun _ _ => rfl))) (pa_cons (pe_erf (pe_ix ix_list (pv 0) pe_int (fun _ _ => rfl))) pa_nil))) (pa_cons (pe_lst (pa_cons (pe_erf (pe_ix ix_list (pv 0) pe_int (fun _ _ => rfl))) (pa_cons (pe_erf (pe_ix ix_list (pv 0) pe_int (fun _ _ => rfl))) pa_nil))) (pa_cons (pe_lst (pa_cons (pe_erf (pe_ix ix_list (pv 0) pe_int (fun _ _ => rfl))) (pa_cons (pe_erf (pe_ix ix_list (pv 0) pe_int (fun _ _ => rfl))) pa_nil))) (pa_cons (pe_lst (pa_cons (pe_erf (pe_ix ix_list (pv 0) pe_int (fun _ _ => rfl))) (pa_cons (pe_erf (pe_ix ix_list (pv 0) pe_int (fun _ _ => rfl))) pa_nil))) pa_nil))))))), ?_⟩
    have key : ∀ (X : Cx) (k : Nat) (_ : X.K = K) (hk : k < 4) (H1 : Hp), Same H H1 → IsVs (tCons (tErF X (f1 k) (tOp (rIxL X.K) (tVar 0) (tC (.int (k : Int))))) (tCons (tErF X (f2 k) (tOp (rIxL X.K) (tVar 0) (tC (.int (k : Int))))) tNil)) (L2.start ["_law_some"] [.ref l]) H1 [v, u] := fun X k hX hk H1 s => by
      obtain ⟨a, ha, ea⟩ := er.get (k := k) (C := cs (19 + k)) (fs := [(f1 k, v), (f2 k, u)]) (by
        unfold Ld
        rw [List.getElem?_map, List.getElem?_range hk]
        rfl)
      exact vs_fld rfl (s _ _ hl) ha (ea.mono s) (by rw [hX]; exact T.k _ (by omega)) (by rw [hX]; exact T.n1 k hk) (lk2' _ _ _ _)
        (vs_fld rfl (s _ _ hl) ha (ea.mono s) (by rw [hX]; exact T.k _ (by omega)) (by rw [hX]; exact T.n2 k hk) (lk2 (f12 k hk) _ _) vs_nil)
    show tLst _ _ _ _
    refine (?_ : IsRows _ _ H [v, u] 4) H (Same.refl H) _ fun ls H' s' r => ⟨by rw [r.len, sizeLine_eq]; omega, fun r' nr => ?_⟩
    · exact rows_cons (key _ 0 rfl (by decide)) (show 2 ≤ 1000 by decide) (rows_cons (key _ 1 rfl (by decide)) (show 2 ≤ 1000 by decide) (rows_cons (key _ 2 rfl (by decide)) (show 2 ≤ 1000 by decide) (rows_cons (key _ 3 rfl (by decide)) (show 2 ≤ 1000 by decide) rows_nil)))
    · have s2 := same_upd (o := .lst ls) nr
      exact q r' ls _ (s'.trans s2) (s'.free nr) upd_same (r.mono s2)

/-! which class -/
def bools (i : Nat) : List V := (List.range 25).map fun j => .bl (i == j)
theorem vs_isi {X : Cx} {σ : L2.St} {H : Hp} {i j k : Nat} {a : Addr} {fs : List (Str × V)} {ws : List V} {ta : TA} (T : Tab P w K mg cs cR) (hX : X.K = K) (e : σ[k]? = some (some (.ref a))) (hi : i < 25) (hj : j < 25) (er : ErIs X H a (cs i) fs) (h : IsVs ta σ H ws) :
    IsVs (tCons (tCB (rIsE X) (tCons (tVar k) (tCons (tC (.ref (cs j))) tNil))) ta) σ H (.bl (i == j) :: ws) :=
  fun Q q => ⟨.ref a, e, a, cs i, fs, .ref (cs j), .ref (cs j), i == j, rfl, .own _, er, by rw [hX]; exact T.k i hi, by rw [hX]; exact T.kit i j hi hj, h _ q⟩
def spKinds (cs : Nat → Addr) : Sp := fun vs H Q _ => ∃ (a : Addr) (i : Nat) (fs : List (Str × V)), vs = [.ref a] ∧ i < 25 ∧ ErT H a (cs i) fs ∧ ∀ l H', Same H H' → H l = none → H' l = some (.lst (bools i)) → Q (.ref l) H'
theorem ok_kinds {f : Addr} {fd : FuncData} {k : Nat} (F : Fun K "_law_kinds" "_law_kinds" sKinds f fd) (T : Tab P w K mg cs cR) : FnOk P w K mg base CX0 (k + 1) f fd ["_law_error"] (spKinds cs) := by
  refine F.ok scKinds (fun vs H Q E h => ?_) (fun cdv A outer s H vs Q E hr h => ?_)
  · obtain ⟨a, i, fs, rfl, _⟩ := h
    rfl
  · obtain ⟨a, i, fs, rfl, hi, er, q⟩ := h
    refine ⟨_, (pss_one (ps_ret (pe_lst (pa_cons (pe_callB call_isE (by rfl) T.mI (by decide +kernel) (pa_cons (pv 0) (pa_cons (pe_glob (v := .ref (cs 0)) rfl (T.g 0 (by decide)) rfl) pa_nil))) (pa_cons (pe_callB call_isE (by rfl) T.mI (by decide +kernel) (pa_cons (pv 0) (pa_cons (pe_glob (v := .ref (cs 1)) rfl (T.g 1 (by decide)) rfl) pa_nil))) (pa_cons (pe_callB call_isE (by rfl) T.mI (by decide +kernel) (pa_cons (pv 0) (pa_cons (pe_glob (v := .ref (cs 2)) rfl (T.g 2 (by decide)) rfl) pa_nil))) (pa_cons (pe_callB call_isE (by rfl) T.mI (by decide +kernel) (pa_cons (pv 0) (pa_cons (pe_glob (v := .ref (cs 3)) rfl (T.g 3 (by decide)) rfl) pa_nil))) (pa_cons (pe_callB call_isE (by rfl) T.mI (by decide +kernel) (pa_cons (pv 0) (pa_cons (pe_glob (v := .ref (cs 4)) rfl (T.g 4 (by decide)) rfl) pa_nil))) (pa_cons (pe_callB call_isE (by rfl) T.mI (by decide +kernel) (pa_cons (pv 0) (pa_cons (pe_glob (v := .ref (cs 5)) rfl (T.g 5 (by decide)) rfl) pa_nil))) (pa_cons (pe_callB call_isE (by rfl) T.mI (by decide +kernel) (pa_cons (pv 0) (pa_cons (pe_glob (v := .ref (cs 6)) rfl (T.g 6 (by decide)) rfl) pa_nil))) (pa_cons (pe_callB call_isE (by rfl) T.mI (by decide +kernel) (pa_cons (pv 0) (pa_cons (pe_glob (v := .ref (cs 7)) rfl (T.g 7 (by decide)) rfl) pa_nil))) (pa_cons (pe_callB call_isE (by rfl) T.mI (by decide +kernel) (pa_cons (pv 0) (pa_cons (pe_glob (v := .ref (cs 8)) rfl (T.g 8 (by decide)) rfl) pa_nil))) (pa_cons (pe_callB call_isE (by rfl) T.mI (by decide +kernel) (pa_cons (pv 0) (pa_cons (pe_glob (v := .ref (cs 9)) rfl (T.g 9 (by decide)) rfl) pa_nil))) (pa_cons (pe_callB call_isE (by rfl) T.mI (by decide +kernel) (pa_cons (pv 0) (pa_cons (pe_glob (v := .ref (cs 10)) rfl (T.g 10 (by decide)) rfl) pa_nil))) (pa_cons (pe_callB call_isE (by rfl) T.mI (by decide +kernel) (pa_cons (pv 0) (pa_cons (pe_glob (v := .ref (cs 11)) rfl (T.g 11 (by decide)) rfl) pa_nil))) (pa_cons (pe_callB call_isE (by rfl) T.mI (by decide +kernel) (pa_cons (pv 0) (pa_cons (pe_glob (v := .ref (cs 12)) rfl (T.g 12 (by decide)) rfl) pa_nil))) (pa_cons (pe_callB call_isE (by rfl) T.mI (by decide +kernel) (pa_cons (pv 0) (pa_cons (pe_glob (v := .ref (cs 13)) rfl (T.g 13 (by decide)) rfl) pa_nil))) (pa_cons (pe_callB call_isE (by rfl) T.mI (by decide +kernel) (pa_cons (pv 0) (pa_cons (pe_glob (v := .ref (cs 14)) rfl (T.g 14 (by decide)) rfl) pa_nil))) (pa_cons (pe_callB call_isE (by rfl) T.mI (by decide +kernel) (pa_cons (pv 0) (pa_cons (pe_glob (v := .ref (cs 15)) rfl (T.g 15 (by decide)) rfl) pa_nil))) (pa_cons (pe_callB call_isE (by rfl) T.mI (by decide +kernel) (pa_cons (pv 0) (pa_cons (pe_glob (v := .ref (cs 16)) rfl (T.g 16 (by decide)) rfl) pa_nil))) (pa_cons (pe_callB call_isE (by rfl) T.mI (by decide +kernel) (pa_cons (pv 0) (pa_cons (pe_glob (v := .ref (cs 17)) rfl (T.g 17 (by decide)) rfl) pa_nil))) (pa_cons (pe_callB call_isE (by rfl) T.mI (by decide +kernel) (pa_cons (pv 0) (pa_cons (pe_glob (v := .ref (cs 18)) rfl (T.g 18 (by decide)) rfl) pa_nil))) (pa_cons (pe_callB call_isE (by rfl) T.mI (by decide +kernel) (pa_cons (pv 0) (pa_cons (pe_glob (v := .ref (cs 19)) rfl (T.g 19 (by decide)) rfl) pa_nil))) (pa_cons (pe_callB call_isE (by rfl) T.mI (by decide +kernel) (pa_cons (pv 0) (pa_cons (pe_glob (v := .ref (cs 20)) rfl (T.g 20 (by decide)) rfl) pa_nil))) (pa_cons (pe_callB call_isE (by rfl) T.mI (by decide +kernel) (pa_cons (pv 0) (pa_cons (pe_glob (v := .ref (cs 21)) rfl (T.g 21 (by decide)) rfl) pa_nil))) (pa_cons (pe_callB call_isE (by rfl) T.mI (by decide +kernel) (pa_cons (pv 0) (pa_cons (pe_glob (v := .ref (cs 22)) rfl (T.g 22 (by decide)) rfl) pa_nil))) (pa_cons (pe_callB call_isE (by rfl) T.mI (by decide +kernel) (pa_cons (pv 0) (pa_cons (pe_glob (v := .ref (cs 23)) rfl (T.g 23 (by decide)) rfl) pa_nil))) (pa_cons (pe_callB call_isE (by rfl) T.mI (by decide +kernel) (pa_cons (pv 0) (pa_cons (pe_glob (v := .ref (cs 24)) rfl (T.g 24 (by decide)) rfl) pa_nil))) pa_nil)))))))))))))))))))))))))))), ?_⟩
    show tLst _ _ _ _
    refine (?_ : IsVs _ _ H (bools i)) _ ⟨by show 25 ≤ sizeLine; decide, fun r nr => q r _ (same_upd nr) nr upd_same⟩
    exact (vs_isi (i := i) (j := 0) T rfl rfl hi (by decide) er.is (vs_isi (i := i) (j := 1) T rfl rfl hi (by decide) er.is (vs_isi (i := i) (j := 2) T rfl rfl hi (by decide) er.is (vs_isi (i := i) (j := 3) T rfl rfl hi (by decide) er.is (vs_isi (i := i) (j := 4) T rfl rfl hi (by decide) er.is (vs_isi (i := i) (j := 5) T rfl rfl hi (by decide) er.is (vs_isi (i := i) (j := 6) T rfl rfl hi (by decide) er.is (vs_isi (i := i) (j := 7) T rfl rfl hi (by decide) er.is (vs_isi (i := i) (j := 8) T rfl rfl hi (by decide) er.is (vs_isi (i := i) (j := 9) T rfl rfl hi (by decide) er.is (vs_isi (i := i) (j := 10) T rfl rfl hi (by decide) er.is (vs_isi (i := i) (j := 11) T rfl rfl hi (by decide) er.is (vs_isi (i := i) (j := 12) T rfl rfl hi (by decide) er.is (vs_isi (i := i) (j := 13) T rfl rfl hi (by decide) er.is (vs_isi (i := i) (j := 14) T rfl rfl hi (by decide) er.is (vs_isi (i := i) (j := 15) T rfl rfl hi (by decide) er.is (vs_isi (i := i) (j := 16) T rfl rfl hi (by decide) er.is (vs_isi (i := i) (j := 17) T rfl rfl hi (by decide) er.is (vs_isi (i := i) (j := 18) T rfl rfl hi (by decide) er.is (vs_isi (i := i) (j := 19) T rfl rfl hi (by decide) er.is (vs_isi (i := i) (j := 20) T rfl rfl hi (by decide) er.is (vs_isi (i := i) (j := 21) T rfl rfl hi (by decide) er.is (vs_isi (i := i) (j := 22) T rfl rfl hi (by decide) er.is (vs_isi (i := i) (j := 23) T rfl rfl hi (by decide) er.is (vs_isi (i := i) (j := 24) T rfl rfl hi (by decide) er.is vs_nil)))))))))))))))))))))))))
/-- .. of an error that an except suite holds -/
def spKindsH (cs : Nat → Addr) (a : Addr) (cls : Value) (d : Option Addr) : Sp := fun vs H Q _ => vs = [.ref a] ∧ ∃ (i : Nat) (fs : List (Str × V)), i < 25 ∧ cls = .ref (cs i) ∧ ((fs = [] ∧ d = none) ∨ ∃ dd, d = some dd ∧ H dd = some (.xd fs)) ∧
  ∀ l H', Same H H' → H l = none → H' l = some (.lst (bools i)) → Q (.ref l) H'
theorem ok_kindsH {f : Addr} {fd : FuncData} {k : Nat} {a : Addr} {oe : Obj} {cls : Value} {d : Option Addr} (F : Fun K "_law_kinds" "_law_kinds" sKinds f fd) (T : Tab P w K mg cs cR) (hc : oe.cls = cls) (hd : oe.dict = d) (hv : ∃ vs, oe.data = .fields vs) :
    FnHp P w K mg base CX0 (k + 1) f fd ["_law_error"] (a, oe) (spKindsH cs a cls d) := by
  obtain ⟨oc, od, kV, doc, pm, an, cdv, ct, osl, rfl, lk, hcd⟩ := F.ex
  refine fn_ofHp lk hcd scKinds (fun vs H Q E h => ?_) (fun A outer s H vs Q E hot hr h => ?_)
  · obtain ⟨rfl, _⟩ := h
    rfl
  · obtain ⟨rfl, i, fs, hi, ec, hfs, q⟩ := h
    refine ⟨_, (pss_one (ps_ret (pe_lst (pa_cons (pe_callB call_isE (by rfl) T.mI (by decide +kernel) (pa_cons (pv 0) (pa_cons (pe_glob (v := .ref (cs 0)) rfl (T.g 0 (by decide)) rfl) pa_nil))) (pa_cons (pe_callB call_isE (by rfl) T.mI (by decide +kernel) (pa_cons (pv 0) (pa_cons (pe_glob (v := .ref (cs 1)) rfl (T.g 1 (by decide)) rfl) pa_nil))) (pa_cons (pe_callB call_isE (by rfl) T.mI (by decide +kernel) (pa_cons (pv 0) (pa_cons (pe_glob (v := .ref (cs 2)) rfl (T.g 2 (by decide)) rfl) pa_nil))) (pa_cons (pe_callB call_isE (by rfl) T.mI (by decide +kernel) (pa_cons (pv 0) (pa_cons (pe_glob (v := .ref (cs 3)) rfl (T.g 3 (by decide)) rfl) pa_nil))) (pa_cons (pe_callB call_isE (by rfl) T.mI (by decide +kernel) (pa_cons (pv 0) (pa_cons (pe_glob (v := .ref (cs 4)) rfl (T.g 4 (by decide)) rfl) pa_nil))) (pa_cons (pe_callB call_isE (by rfl) T.mI (by decide +kernel) (pa_cons (pv 0) (pa_cons (pe_glob (v := .ref (cs 5)) rfl (T.g 5 (by decide)) rfl) pa_nil))) (pa_cons (pe_callB call_isE (by rfl) T.mI (by decide +kernel) (pa_cons (pv 0) (pa_cons (pe_glob (v := .ref (cs 6)) rfl (T.g 6 (by decide)) rfl) pa_nil))) (pa_cons (pe_callB call_isE (by rfl) T.mI (by decide +kernel) (pa_cons (pv 0) (pa_cons (pe_glob (v := .ref (cs 7)) rfl (T.g 7 (by decide)) rfl) pa_nil))) (pa_cons (pe_callB call_isE (by rfl) T.mI (by decide +kernel) (pa_cons (pv 0) (pa_cons (pe_glob (v := .ref (cs 8)) rfl (T.g 8 (by decide)) rfl) pa_nil))) (pa_cons (pe_callB call_isE (by rfl) T.mI (by decide +kernel) (pa_cons (pv 0) (pa_cons (pe_glob (v := .ref (cs 9)) rfl (T.g 9 (by decide)) rfl) pa_nil))) (pa_cons (pe_callB call_isE (by rfl) T.mI (by decide +kernel) (pa_cons (pv 0) (pa_cons (pe_glob (v := .ref (cs 10)) rfl (T.g 10 (by decide)) rfl) pa_nil))) (pa_cons (pe_callB call_isE (by rfl) T.mI (by decide +kernel) (pa_cons (pv 0) (pa_cons (pe_glob (v := .ref (cs 11)) rfl (T.g 11 (by decide)) rfl) pa_nil))) (pa_cons (pe_callB call_isE (by rfl) T.mI (by decide +kernel) (pa_cons (pv 0) (pa_cons (pe_glob (v := .ref (cs 12)) rfl (T.g 12 (by decide)) rfl) pa_nil))) (pa_cons (pe_callB call_isE (by rfl) T.mI (by decide +kernel) (pa_cons (pv 0) (pa_cons (pe_glob (v := .ref (cs 13)) rfl (T.g 13 (by decide)) rfl) pa_nil))) (pa_cons (pe_callB call_isE (by rfl) T.mI (by decide +kernel) (pa_cons (pv 0) (pa_cons (pe_glob (v := .ref (cs 14)) rfl (T.g 14 (by decide)) rfl) pa_nil))) (pa_cons (pe_callB call_isE (by rfl) T.mI (by decide +kernel) (pa_cons (pv 0) (pa_cons (pe_glob (v := .ref (cs 15)) rfl (T.g 15 (by decide)) rfl) pa_nil))) (pa_cons (pe_callB call_isE (by rfl) T.mI (by decide +kernel) (pa_cons (pv 0) (pa_cons (pe_glob (v := .ref (cs 16)) rfl (T.g 16 (by decide)) rfl) pa_nil))) (pa_cons (pe_callB call_isE (by rfl) T.mI (by decide +kernel) (pa_cons (pv 0) (pa_cons (pe_glob (v := .ref (cs 17)) rfl (T.g 17 (by decide)) rfl) pa_nil))) (pa_cons (pe_callB call_isE (by rfl) T.mI (by decide +kernel) (pa_cons (pv 0) (pa_cons (pe_glob (v := .ref (cs 18)) rfl (T.g 18 (by decide)) rfl) pa_nil))) (pa_cons (pe_callB call_isE (by rfl) T.mI (by decide +kernel) (pa_cons (pv 0) (pa_cons (pe_glob (v := .ref (cs 19)) rfl (T.g 19 (by decide)) rfl) pa_nil))) (pa_cons (pe_callB call_isE (by rfl) T.mI (by decide +kernel) (pa_cons (pv 0) (pa_cons (pe_glob (v := .ref (cs 20)) rfl (T.g 20 (by decide)) rfl) pa_nil))) (pa_cons (pe_callB call_isE (by rfl) T.mI (by decide +kernel) (pa_cons (pv 0) (pa_cons (pe_glob (v := .ref (cs 21)) rfl (T.g 21 (by decide)) rfl) pa_nil))) (pa_cons (pe_callB call_isE (by rfl) T.mI (by decide +kernel) (pa_cons (pv 0) (pa_cons (pe_glob (v := .ref (cs 22)) rfl (T.g 22 (by decide)) rfl) pa_nil))) (pa_cons (pe_callB call_isE (by rfl) T.mI (by decide +kernel) (pa_cons (pv 0) (pa_cons (pe_glob (v := .ref (cs 23)) rfl (T.g 23 (by decide)) rfl) pa_nil))) (pa_cons (pe_callB call_isE (by rfl) T.mI (by decide +kernel) (pa_cons (pv 0) (pa_cons (pe_glob (v := .ref (cs 24)) rfl (T.g 24 (by decide)) rfl) pa_nil))) pa_nil)))))))))))))))))))))))))))), ?_⟩
    have er : ErIs (L2H.cxH CX0 P w K mg base ["_law_error"] "_law_kinds" (defScope sKinds) f cdv A outer s H E (a, oe)) H a (cs i) fs := .inr (.inr ⟨oe, List.mem_singleton.mpr rfl, hc.trans ec, hv, by
      rcases hfs with ⟨z1, z2⟩ | ⟨dd, z1, z2⟩
      · exact .inl ⟨z1, hd.trans z2⟩
      · exact .inr ⟨dd, hd.trans z1, z2⟩⟩)
    show tLst _ _ _ _
    refine (?_ : IsVs _ _ H (bools i)) _ ⟨by show 25 ≤ sizeLine; decide, fun r nr => q r _ (same_upd nr) nr upd_same⟩
    exact (vs_isi (i := i) (j := 0) T rfl rfl hi (by decide) er (vs_isi (i := i) (j := 1) T rfl rfl hi (by decide) er (vs_isi (i := i) (j := 2) T rfl rfl hi (by decide) er (vs_isi (i := i) (j := 3) T rfl rfl hi (by decide) er (vs_isi (i := i) (j := 4) T rfl rfl hi (by decide) er (vs_isi (i := i) (j := 5) T rfl rfl hi (by decide) er (vs_isi (i := i) (j := 6) T rfl rfl hi (by decide) er (vs_isi (i := i) (j := 7) T rfl rfl hi (by decide) er (vs_isi (i := i) (j := 8) T rfl rfl hi (by decide) er (vs_isi (i := i) (j := 9) T rfl rfl hi (by decide) er (vs_isi (i := i) (j := 10) T rfl rfl hi (by decide) er (vs_isi (i := i) (j := 11) T rfl rfl hi (by decide) er (vs_isi (i := i) (j := 12) T rfl rfl hi (by decide) er (vs_isi (i := i) (j := 13) T rfl rfl hi (by decide) er (vs_isi (i := i) (j := 14) T rfl rfl hi (by decide) er (vs_isi (i := i) (j := 15) T rfl rfl hi (by decide) er (vs_isi (i := i) (j := 16) T rfl rfl hi (by decide) er (vs_isi (i := i) (j := 17) T rfl rfl hi (by decide) er (vs_isi (i := i) (j := 18) T rfl rfl hi (by decide) er (vs_isi (i := i) (j := 19) T rfl rfl hi (by decide) er (vs_isi (i := i) (j := 20) T rfl rfl hi (by decide) er (vs_isi (i := i) (j := 21) T rfl rfl hi (by decide) er (vs_isi (i := i) (j := 22) T rfl rfl hi (by decide) er (vs_isi (i := i) (j := 23) T rfl rfl hi (by decide) er (vs_isi (i := i) (j := 24) T rfl rfl hi (by decide) er vs_nil)))))))))))))))))))))))))
end
end BR
namespace BR
open PySem PySem.Spec PyProof.Rows L2
section
variable {P : Program} {w : World} {K : PySem.W.Frag} {mg : Str → Option Value} {base : Heap} {cs : Nat → Addr} {cR : Addr}
theorem takesN {X : Cx} : L2N.Takes X (fun _ _ _ _ => False) := fun u s' ⟨a, B, sI, pins, σ, H, cls, d, e, I, nb, up, sky, na, os, ag, w⟩ => w.elim
theorem Tab.raises {X : Cx} (T : Tab P w K mg cs cR) (hX : X.K = K) (i : Nat) (hi : i < 25) : Raises X (.ref (cs i)) := raises_own (by rw [hX]; exact (T.k i hi).ex) (by rw [hX]; exact T.ty i hi)
def wayOf (n : Int) : Nat := if n = 0 then 23 else if n = 1 then 24 else 21
def spCaught (cs : Nat → Addr) : Sp := fun vs H Q _ => ∃ n : Int, vs = [.int n] ∧ ∀ l H', Same H H' → H l = none → H' l = some (.lst (bools (wayOf n))) → Q (.ref l) H'
theorem hot_of {A : Around} {a : Addr} {oe : Obj} {cls : Value} {d : Option Addr} (hA : A.handled = some (.ref a)) (hz : L2N.Zn cls d oe) (hf : ∃ vs, oe.data = .fields vs) : L2H.Hot1 A (a, oe) := by
  obtain ⟨vs, hv⟩ := hf
  exact ⟨hA, vs, hv, hz.2.2 vs hv⟩
theorem ok_caught {f fK : Addr} {fd fdK : FuncData} {k : Nat} (F : Fun K "_law_caught" "_law_caught" sCaught f fd) (T : Tab P w K mg cs cR) (FK : Fun K "_law_kinds" "_law_kinds" sKinds fK fdK) (bK : Binds K fdK ["_law_error"] []) (gK : mg "_law_kinds" = some (.ref fK)) :
    FnOk P w K mg base CX0 (k + 2) f fd ["_law_way"] (spCaught cs) := by
  refine F.ok scCaught (fun vs H Q E h => ?_) (fun cdv A outer s H vs Q E hr h => ?_)
  · obtain ⟨n, rfl, _⟩ := h
    rfl
  · obtain ⟨n, rfl, q⟩ := h
    refine ⟨_, pss_cons (L2N.ps_try_as (i := 1) rfl rfl scCaught.nd rfl rfl ⟨rfl, by decide, .inl T.gR⟩ takesN
        (fun W pn xe tk _ => pss_cons (ps_if (pt_cmpR op_eq (pv 0) pe_int (nomark _)) (pss_one (L2N.ps_raise rfl tk (pmk_er0 (T.z 0 (by decide)) (T.raises rfl 23 (by decide)) (by rfl)))) pss_nil)
          (pss_cons (ps_if (pt_cmpR op_eq (pv 0) pe_int (nomark _)) (pss_one (L2N.ps_raise rfl tk (pmk_er0 (T.z 1 (by decide)) (T.raises rfl 24 (by decide)) (by rfl)))) pss_nil)
          (pss_one (L2N.ps_raise rfl tk (pmk_er (T.d 2 (by decide)) (T.raises rfl 21 (by decide)) hr (by rfl) (pa_cons pe_str (pa_cons (pv 0) pa_nil)))))))
        (fun a oe cls d pn hz hf => pss_one (ps_ret (pe_callHp (ok_kindsH (k := k) FK T hz.1 hz.2.1 hf) (fun vs H Q E h => by obtain ⟨rfl, _⟩ := h; rfl) ⟨hr.dp, hr.un⟩ (hot_of rfl hz hf) List.mem_cons_self (by rfl) gK FK.kp bK (pa_cons (pv 1) pa_nil)))))
      (pss_one (ps_ret (pe_lst pa_nil))), ?_⟩
    have fin : ∀ (j : Nat), j < 25 → wayOf n = j → ∀ (H1 : Hp) (a : Addr) (d : Option Addr) (fs : List (Str × V)), Same H H1 → ((fs = [] ∧ d = none) ∨ ∃ dd, d = some dd ∧ H1 dd = some (.xd fs)) →
        spKindsH cs a (.ref (cs j)) d [.ref a] H1 Q E0 := fun j hj e H1 a d fs s1 hd => ⟨rfl, j, fs, hj, rfl, hd, fun l H' s2 nl hl => q l H' (s1.trans s2) (s1.free nl) (by rw [e]; exact hl)⟩
    refine ⟨.int n, rfl, rfl, _, rfl, ite2 (fun e => ?_) (fun e => ?_)⟩
    · have en : n = 0 := V.int.inj (of_decide_eq_true e)
      refine ⟨true, T.ex 23 (by decide), fun _ a na => ?_, fun z => nomatch z⟩
      refine ⟨.ref a, rfl, ?_⟩
      exact fin 23 (by decide) (by rw [en]; rfl) H a none [] (Same.refl H) (.inl ⟨rfl, rfl⟩)
    · refine ⟨.int n, rfl, rfl, _, rfl, ite2 (fun e' => ?_) (fun e' => ?_)⟩
      · have en : n = 1 := V.int.inj (of_decide_eq_true e')
        refine ⟨true, T.ex 24 (by decide), fun _ a na => ?_, fun z => nomatch z⟩
        refine ⟨.ref a, rfl, ?_⟩
        exact fin 24 (by decide) (by rw [en]; rfl) H a none [] (Same.refl H) (.inl ⟨rfl, rfl⟩)
      · have n0 : n ≠ 0 := fun z => e (decide_eq_true (by rw [z]))
        have n1 : n ≠ 1 := fun z => e' (decide_eq_true (by rw [z]))
        refine ⟨.int n, rfl, [("what", .str "effects"), ("most", .int n)], rfl, fun d nd => ⟨true, T.ex 21 (by decide), fun _ a na => ?_, fun z => nomatch z⟩⟩
        refine ⟨.ref a, rfl, ?_⟩
        exact fin 21 (by decide) (by unfold wayOf; rw [if_neg n0, if_neg n1]) _ a (some d) _ (same_upd nd) (.inr ⟨d, rfl, upd_same⟩)
end
end BR
namespace BR
open PySem PySem.Spec PyProof.Rows L2
abbrev sLaw : Stmt := top 38
abbrev NL : List Str := ["_law_script", "_law_pen_here", "_law_turn", "_law_thing_here", "_law_more", "_law_is_named", "_law_singles_here", "_law_doubles_here", "_law_k", "_law_error", "_law_heard", "_law_each", "_law_way"]
theorem scLaw : FnScope NL ["_law_script"] (defScope sLaw) := ⟨rfl, rfl, rfl, by decide +kernel, rfl, by decide +kernel, by decide +kernel⟩
structure Fns (P : Program) (w : World) (K : PySem.W.Frag) (mg : Str → Option Value) (base : Heap) (cs : Nat → Addr) (cR : Addr) (fP fT fD fS fDb fSF fDF fK fC : Addr) (dP dT dD dS dDb dSF dDF dK dC : FuncData) : Prop where
  T : Tab P w K mg cs cR
  pen : FnOk P w K mg base CX0 3 fP dP ["_law_script"] (spPen K)
  thing : FnOk P w K mg base CX0 3 fT dT ["_law_pen_here"] spThing
  draw : FnOk P w K mg base CX0 3 fD dD ["_law_pen_here", "_law_many"] spDraw
  singles : FnOk P w K mg base CX0 3 fS dS ["_law_thing_here", "_law_is_named"] (spSingles cs)
  doubles : FnOk P w K mg base CX0 3 fDb dDb ["_law_thing_here", "_law_more", "_law_is_named"] (spDoubles cs)
  sf : FnOk P w K mg base CX0 3 fSF dSF ["_law_some"] (spSF cs)
  df : FnOk P w K mg base CX0 3 fDF dDF ["_law_some"] (spDF cs)
  kinds : FnOk P w K mg base CX0 3 fK dK ["_law_error"] (spKinds cs)
  caught : FnOk P w K mg base CX0 3 fC dC ["_law_way"] (spCaught cs)
  bpen : Binds K dP ["_law_script"] []
  bthing : Binds K dT ["_law_pen_here"] []
  bdraw : Binds K dD ["_law_pen_here", "_law_many"] []
  bsingles : Binds K dS ["_law_thing_here", "_law_is_named"] []
  bdoubles : Binds K dDb ["_law_thing_here", "_law_more", "_law_is_named"] []
  bsf : Binds K dSF ["_law_some"] []
  bdf : Binds K dDF ["_law_some"] []
  bkinds : Binds K dK ["_law_error"] []
  bcaught : Binds K dC ["_law_way"] []
  gpen : mg "_law_pen" = some (.ref fP)
  gthing : mg "_law_thing" = some (.ref fT)
  gdraw : mg "_law_draw" = some (.ref fD)
  gsingles : mg "_law_singles" = some (.ref fS)
  gdoubles : mg "_law_doubles" = some (.ref fDb)
  gsf : mg "_law_single_fields" = some (.ref fSF)
  gdf : mg "_law_double_fields" = some (.ref fDF)
  gkinds : mg "_law_kinds" = some (.ref fK)
  gcaught : mg "_law_caught" = some (.ref fC)
  kpen : PySem.W.keepIn K (.ref fP) = true
  kthing : PySem.W.keepIn K (.ref fT) = true
  kdraw : PySem.W.keepIn K (.ref fD) = true
  ksingles : PySem.W.keepIn K (.ref fS) = true
  kdoubles : PySem.W.keepIn K (.ref fDb) = true
  ksf : PySem.W.keepIn K (.ref fSF) = true
  kdf : PySem.W.keepIn K (.ref fDF) = true
  kkinds : PySem.W.keepIn K (.ref fK) = true
  kcaught : PySem.W.keepIn K (.ref fC) = true
  range : mg "range" = none
  enumerate : mg "enumerate" = none
  repr : mg "repr" = none
  sys : ∃ mm, base.Ns sysModules mm

/-! comprehensions that only lay new things -/
theorem gr_newD {D : Addr} {H1 H : Hp} {o : HO} (n : H1 D = none) (s : Same H1 H) : Same H1 (upd H D o) := fun b x e => by
  rw [upd_ne (ne_of_none e n)]
  exact s b x e
theorem gr_updD {D : Addr} {H : Hp} {o : HO} : Gr D H (upd H D o) := fun b x nb e => by
  rw [upd_ne nb]
  exact e
/-- one more of them -/
theorem rows_snoc {R : Hp → Nat → V → Prop} {D : Addr} {H H' : Hp} {ys : List V} {y : V} (hR : ∀ H H' j y, Gr D H H' → R H j y → R H' j y) (gr : Gr D H H') (h : ∀ (j : Nat) z, ys[j]? = some z → R H j z) (hy : R H' ys.length y) :
    ∀ (j : Nat) z, (ys ++ [y])[j]? = some z → R H' j z := fun j z e => by
  by_cases q : j < ys.length
  · rw [List.getElem?_append_left q] at e
    exact hR _ _ _ _ gr (h j z e)
  · rw [List.getElem?_append_right (by omega)] at e
    cases k : j - ys.length with
    | zero =>
      rw [k] at e
      have e' : y = z := by simpa using e
      rw [← e', show j = ys.length by omega]
      exact hy
    | succ m =>
      rw [k] at e
      simp at e
theorem lcR {n : Nat} {te : TE} {i : Nat} {σ : L2.St} {H1 : Hp} {D : Addr} {Qd : Hp → Prop} (nD : H1 D = none) (hn : n ≤ 1000) (hw : ∀ x, wipe ((wipe σ [i]).set i (some x)) [i] = wipe σ [i]) (R : Hp → Nat → V → Prop) (hR : ∀ H H' j y, Gr D H H' → R H j y → R H' j y)
    (hstep : ∀ (j : Nat) H, j < n → Same H1 H → H D ≠ none → ∀ Q : VK, (∀ y H', Same H H' → R H' j y → Q y H') → te ((wipe σ [i]).set i (some (.int (0 + (j : Int))))) H Q)
    (hd : ∀ H' ys, Same H1 H' → H' D = some (.lst ys) → ys.length = n → (∀ (j : Nat) y, ys[j]? = some y → R H' j y) → Qd H') :
    ∃ W : Nat → Nat → Hp → Prop, (∃ m, W 0 m (upd H1 D (.lst []))) ∧ ∀ i' m H, W i' m H →
      ((Itr 0 n).stop i' H ∧ Qd H) ∨ ((Itr 0 n).go i' H ∧ ∃ Nx : Hp → Prop, (∀ H', Nx H' → ∃ m', m' < m ∧ W (i' + 1) m' H') ∧ ∀ x H', (Itr 0 n).yld i' H x H' → gName i x (wipe σ [i]) H' fun σ2 H2 => wipe σ2 [i] = wipe σ [i] ∧ tYes σ2 H2 fun b H3 =>
        if b = true then te σ2 H3 fun y H4 => ∃ acc, H4 D = some (.lst acc) ∧ acc.length < sizeLine ∧ Nx (upd H4 D (.lst (acc ++ [y]))) else Nx H3) := by
  refine lc_range (lo := 0) (n := n) (fun j H => ∃ ys, Same H1 H ∧ H D = some (.lst ys) ∧ ys.length = j ∧ ∀ (k : Nat) y, ys[k]? = some y → R H k y) ⟨[], gr_newD nD (Same.refl H1), upd_same, rfl, fun k y e => by simp at e⟩ (fun j H hj hp => ?_) (fun H hp => ?_)
  · obtain ⟨ys, s, hD, hl, hr⟩ := hp
    refine ⟨hw _, ?_⟩
    unfold tYes
    dsimp only
    rw [if_pos rfl]
    refine hstep j H hj s (by rw [hD]; simp) _ fun y H' s' ry => ?_
    refine ⟨ys, s' _ _ hD, ?_, ys ++ [y], gr_newD nD (s.trans s'), upd_same, by rw [List.length_append, hl]; rfl, ?_⟩
    · rw [sizeLine_eq]
      omega
    · exact rows_snoc hR ((Gr.of_same s').trans gr_updD) hr (by rw [hl]; exact hR _ _ _ _ gr_updD ry)
  · obtain ⟨ys, s, hD, hl, hr⟩ := hp
    exact hd H ys s hD hl hr
/-- over a written list of three -/
theorem lcL {te : TE} {K : PySem.W.Frag} {a : Addr} {xs : List V} {i : Nat} {σ : L2.St} {H1 : Hp} {D : Addr} {Qd : Hp → Prop} (nD : H1 D = none) (hn : xs.length ≤ 1000) (ha : SqL K H1 a xs) (hw : ∀ x, wipe ((wipe σ [i]).set i (some x)) [i] = wipe σ [i]) (R : Hp → Nat → V → Prop) (hR : ∀ H H' j y, Gr D H H' → R H j y → R H' j y)
    (hstep : ∀ (j : Nat) x H, xs[j]? = some x → Same H1 H → H D ≠ none → ∀ Q : VK, (∀ y H', Same H H' → R H' j y → Q y H') → te ((wipe σ [i]).set i (some x)) H Q)
    (hd : ∀ H' ys, Same H1 H' → H' D = some (.lst ys) → ys.length = xs.length → (∀ (j : Nat) y, ys[j]? = some y → R H' j y) → Qd H') :
    ∃ W : Nat → Nat → Hp → Prop, (∃ m, W 0 m (upd H1 D (.lst []))) ∧ ∀ i' m H, W i' m H →
      ((Itl K a).stop i' H ∧ Qd H) ∨ ((Itl K a).go i' H ∧ ∃ Nx : Hp → Prop, (∀ H', Nx H' → ∃ m', m' < m ∧ W (i' + 1) m' H') ∧ ∀ x H', (Itl K a).yld i' H x H' → gName i x (wipe σ [i]) H' fun σ2 H2 => wipe σ2 [i] = wipe σ [i] ∧ tYes σ2 H2 fun b H3 =>
        if b = true then te σ2 H3 fun y H4 => ∃ acc, H4 D = some (.lst acc) ∧ acc.length < sizeLine ∧ Nx (upd H4 D (.lst (acc ++ [y]))) else Nx H3) := by
  refine lc_list (K := K) (a := a) (xs := xs) (fun j H => ∃ ys, Same H1 H ∧ H D = some (.lst ys) ∧ ys.length = j ∧ ∀ (k : Nat) y, ys[k]? = some y → R H k y) ⟨[], gr_newD nD (Same.refl H1), upd_same, rfl, fun k y e => by simp at e⟩ (fun j H _ hp => ?_) (fun j x H hj hp => ?_) (fun H hp => ?_)
  · obtain ⟨ys, s, _⟩ := hp
    exact s.seq ha
  · obtain ⟨ys, s, hD, hl, hr⟩ := hp
    refine ⟨hw _, ?_⟩
    unfold tYes
    dsimp only
    rw [if_pos rfl]
    refine hstep j x H hj s (by rw [hD]; simp) _ fun y H' s' ry => ?_
    have hj' : j < xs.length := (List.getElem?_eq_some_iff.mp hj).1
    refine ⟨ys, s' _ _ hD, ?_, ys ++ [y], gr_newD nD (s.trans s'), upd_same, by rw [List.length_append, hl]; rfl, ?_⟩
    · rw [sizeLine_eq]
      omega
    · exact rows_snoc hR ((Gr.of_same s').trans gr_updD) hr (by rw [hl]; exact hR _ _ _ _ gr_updD ry)
  · obtain ⟨ys, s, hD, hl, hr⟩ := hp
    exact hd H ys s hD hl hr
theorem eq_of_fn {f : Nat → V} {n : Nat} {ys : List V} (hl : ys.length = n) (h : ∀ (j : Nat) y, ys[j]? = some y → y = f j) : ys = (List.range n).map f := by
  refine List.ext_getElem? fun j => ?_
  by_cases q : j < n
  · rw [List.getElem?_map, List.getElem?_range q]
    have e := List.getElem?_eq_getElem (l := ys) (i := j) (by omega)
    rw [e, h j _ e]
    rfl
  · rw [List.getElem?_eq_none (by omega), List.getElem?_eq_none (by rw [List.length_map, List.length_range]; omega)]

theorem bools_dp {K : PySem.W.Frag} {H : Hp} : ∀ bs : List Bool, DpAll K H (bs.map V.bl) (bs.map PyData.bool)
  | [] => .nil
  | b :: r => .cons (.bl b) (bools_dp r)
theorem canLay_bools : ∀ bs : List Bool, PyData.canLayAll0 (bs.map PyData.bool) = true ∧ PyData.depthAll (bs.map PyData.bool) = 0
  | [] => ⟨rfl, rfl⟩
  | n :: r => by
    obtain ⟨h1, h2⟩ := canLay_bools r
    rw [List.map_cons]
    exact ⟨by rw [PyData.canLayAll0, h1]; rfl, by rw [PyData.depthAll, h2]; rfl⟩
theorem shaped_bools (bs : List Bool) : SeqAt.shaped (.list (bs.map PyData.bool)) = true := by
  obtain ⟨h1, h2⟩ := canLay_bools bs
  unfold SeqAt.shaped
  rw [PyData.canLay0, h1, PyData.depth, h2]
  rfl
def bl25 (i : Nat) : List Bool := (List.range 25).map fun j => i == j
theorem bools_eq (i : Nat) : bools i = (bl25 i).map V.bl := by
  unfold bools bl25
  rw [List.map_map]
  rfl
theorem dp_bools {K : PySem.W.Frag} {H : Hp} {l : Addr} {i : Nat} (h : H l = some (.lst (bools i))) : Dp K H (.ref l) (.list ((bl25 i).map PyData.bool)) := by
  rw [bools_eq] at h
  exact .lst (SqL.of h) (bools_dp _)
theorem eqv_same {d : PyData} (h : SeqAt.shaped d = true) : PyData.eqv d d = true := SeqAt.eqv_refl d (SeqAt.canLay_of_shaped h)
/-- the 25 errors -/
theorem errs_at {H : Hp} {cs : Nat → Addr} {v u : V} {es es2 : List V} {e3 e4 : Addr} (h1 : Errs H (Ls cs v) es) (h2 : Errs H (Ld cs v u) es2) (h3 : H e3 = some (erv e3 (cs 23) none)) (h4 : H e4 = some (erv e4 (cs 24) none)) {j : Nat} {x : V}
    (e : (es ++ es2 ++ [.ref e3, .ref e4])[j]? = some x) : j < 25 ∧ ∃ a fs, x = .ref a ∧ ErT H a (cs j) fs := by
  have l1 : es.length = 19 := h1.len
  have l2 : es2.length = 4 := h2.len
  have l12 : (es ++ es2).length = 23 := by rw [List.length_append, l1, l2]
  by_cases q : j < 23
  · rw [List.getElem?_append_left (by omega)] at e
    refine ⟨by omega, ?_⟩
    by_cases q1 : j < 19
    · rw [List.getElem?_append_left (by omega)] at e
      obtain ⟨a, ha, ea⟩ := h1.get (k := j) (C := cs j) (fs := [(fl j, v)]) (by
        unfold Ls
        rw [List.getElem?_map, List.getElem?_range q1]
        rfl)
      rw [ha] at e
      exact ⟨a, _, (Option.some.inj e).symm, ea⟩
    · rw [List.getElem?_append_right (by omega), l1] at e
      obtain ⟨a, ha, ea⟩ := h2.get (k := j - 19) (C := cs (19 + (j - 19))) (fs := [(f1 (j - 19), v), (f2 (j - 19), u)]) (by
        unfold Ld
        rw [List.getElem?_map, List.getElem?_range (by omega)]
        rfl)
      rw [ha] at e
      rw [show 19 + (j - 19) = j by omega] at ea
      exact ⟨a, _, (Option.some.inj e).symm, ea⟩
  · rw [List.getElem?_append_right (by omega), l12] at e
    match hk : j - 23, e with
    | 0, e =>
      have ej : j = 23 := by omega
      subst ej
      exact ⟨by omega, e3, [], (Option.some.inj e).symm, .inr ⟨rfl, h3⟩⟩
    | 1, e =>
      have ej : j = 24 := by omega
      subst ej
      exact ⟨by omega, e4, [], (Option.some.inj e).symm, .inr ⟨rfl, h4⟩⟩
    | k + 2, e => simp at e

/-! data of both sides -/
theorem rp_rep {H : Hp} {v : V} {d : PyData} (h : Rp H v d) : ∀ n, RpAll H (List.replicate n v) (List.replicate n d)
  | 0 => .nil
  | n + 1 => .cons h (rp_rep h n)
theorem rp_rows {H : Hp} {xs : List V} {ds : List PyData} (h : RpAll H xs ds) : ∀ {n : Nat} {ls : List V}, Rows H xs n ls → RpAll H ls (List.replicate n (.list ds))
  | _, _, .nil => .nil
  | _, _, .cons a q => .cons (.lst a h) (rp_rows h q)
theorem rep_all {d : PyData} (h : d.showable = true) : ∀ n, PyData.showableAll (List.replicate n d) = true
  | 0 => rfl
  | n + 1 => by
    show (d.showable && PyData.showableAll (List.replicate n d)) = true
    rw [h, rep_all h n]
    rfl
theorem rep_depth {d : PyData} {m : Nat} (h : d.depth ≤ m) : ∀ n, PyData.depthAll (List.replicate n d) ≤ m
  | 0 => Nat.zero_le _
  | n + 1 => by
    show max d.depth (PyData.depthAll (List.replicate n d)) ≤ m
    have := rep_depth h n
    omega
theorem rep_shown (d : PyData) : ∀ n, PyData.shownAll (List.replicate n d) = List.replicate n d.shown
  | 0 => rfl
  | n + 1 => by
    show d.shown :: PyData.shownAll (List.replicate n d) = _
    rw [rep_shown d n]
    rfl
theorem sum_rep (s : Str) : ∀ n, ((List.replicate n s).map (·.length)).sum = n * s.length
  | 0 => by simp
  | n + 1 => by
    rw [List.replicate_succ, List.map_cons, List.sum_cons, sum_rep s n, Nat.add_mul]
    omega
theorem rep_len {d : PyData} {m n : Nat} (h : d.shown.length ≤ m) : (PyData.list (List.replicate n d)).shown.length ≤ n * m + 2 * n + 3 := by
  have e := listText_len_le (List.replicate n d.shown)
  rw [sum_rep, List.length_replicate] at e
  have e2 : (PyData.list (List.replicate n d)).shown = listText (List.replicate n d.shown) := by
    show listText (PyData.shownAll (List.replicate n d)) = _
    rw [rep_shown]
  rw [e2]
  have := Nat.mul_le_mul_left n h
  omega
/-- what repr asks of n times the same -/
theorem rep_ok {d : PyData} {m n k : Nat} (h1 : d.showable = true) (h2 : d.depth ≤ k) (h3 : d.shown.length ≤ m) : (PyData.list (List.replicate n d)).showable = true ∧ (PyData.list (List.replicate n d)).depth ≤ k + 1 ∧ (PyData.list (List.replicate n d)).shown.length ≤ n * m + 2 * n + 3 :=
  ⟨rep_all h1 n, by show PyData.depthAll (List.replicate n d) + 1 ≤ k + 1; have := rep_depth h2 n; omega, rep_len h3⟩
theorem two_ok {d e : PyData} (h1 : d.showable = true) (h2 : d.depth ≤ 2) (h3 : d.shown.length ≤ 100) (k1 : e.showable = true) (k2 : e.depth ≤ 2) (k3 : e.shown.length ≤ 100) :
    (PyData.list [d, e]).showable = true ∧ (PyData.list [d, e]).depth ≤ 3 ∧ (PyData.list [d, e]).shown.length ≤ 207 := by
  refine ⟨?_, ?_, ?_⟩
  · show (d.showable && (e.showable && true)) = true
    rw [h1, k1]
    rfl
  · show max d.depth (max e.depth 0) + 1 ≤ 3
    omega
  · have q := listText_len_le [d.shown, e.shown]
    have e2 : (PyData.list [d, e]).shown = listText [d.shown, e.shown] := rfl
    rw [e2]
    simp only [List.map_cons, List.map_nil, List.sum_cons, List.sum_nil, List.length_cons, List.length_nil] at q
    omega
theorem fit_line {n : Nat} (h : n ≤ 10000) : n ≤ sizeLine := by
  rw [sizeLine_eq]
  omega
theorem eq_rep {v : V} {n : Nat} {ys : List V} (hl : ys.length = n) (h : ∀ (j : Nat) y, ys[j]? = some y → y = v) : ys = List.replicate n v := List.eq_replicate_iff.mpr ⟨hl, fun b hb => by
  obtain ⟨j, hj⟩ := List.getElem?_of_mem hb
  exact h j b hj⟩
theorem rows_of {H : Hp} {xs : List V} : ∀ {n : Nat} {ys : List V}, ys.length = n → (∀ (j : Nat) y, ys[j]? = some y → ∃ a, y = .ref a ∧ H a = some (.lst xs)) → Rows H xs n ys
  | 0, [], _, _ => .nil
  | n + 1, y :: r, hl, h => by
    obtain ⟨a, rfl, ha⟩ := h 0 y rfl
    exact .cons ha (rows_of (by simpa using hl) fun j z e => h (j + 1) z (by simpa using e))

/-- what the three caught errors and the law's own rows are as data -/
def tri (f : Nat → Nat) : List PyData := [f 0, f 1, f 2].map fun i => .list ((bl25 i).map PyData.bool)
theorem dp_tri {K : PySem.W.Frag} {H : Hp} {D : Addr} {ys : List V} {f : Nat → Nat} (hD : H D = some (.lst ys)) (hl : ys.length = 3) (h : ∀ (j : Nat) y, ys[j]? = some y → ∃ e, y = .ref e ∧ e ≠ D ∧ H e = some (.lst (bools (f j)))) : Dp K H (.ref D) (.list (tri f)) := by
  match ys, hl with
  | [a, b, c], _ =>
    obtain ⟨e0, rfl, _, h0⟩ := h 0 a rfl
    obtain ⟨e1, rfl, _, h1⟩ := h 1 b rfl
    obtain ⟨e2, rfl, _, h2⟩ := h 2 c rfl
    exact .lst (SqL.of hD) (.cons (dp_bools h0) (.cons (dp_bools h1) (.cons (dp_bools h2) .nil)))
theorem shaped_tri (f : Nat → Nat) : SeqAt.shaped (.list (tri f)) = true := by
  have key : ∀ i, (PyData.list ((bl25 i).map PyData.bool)).canLay0 = true ∧ (PyData.list ((bl25 i).map PyData.bool)).depth = 1 := fun i => by
    obtain ⟨h1, h2⟩ := canLay_bools (bl25 i)
    exact ⟨h1, by show PyData.depthAll _ + 1 = 1; rw [h2]⟩
  unfold SeqAt.shaped
  show (((PyData.list ((bl25 (f 0)).map PyData.bool)).canLay0 && ((PyData.list ((bl25 (f 1)).map PyData.bool)).canLay0 && ((PyData.list ((bl25 (f 2)).map PyData.bool)).canLay0 && true))) && decide (max (PyData.list ((bl25 (f 0)).map PyData.bool)).depth (max (PyData.list ((bl25 (f 1)).map PyData.bool)).depth (max (PyData.list ((bl25 (f 2)).map PyData.bool)).depth 0)) + 1 ≤ 64)) = true
  rw [(key (f 0)).1, (key (f 1)).1, (key (f 2)).1, (key (f 0)).2, (key (f 1)).2, (key (f 2)).2]
  rfl
section
variable {P : Program} {w : World} {K : PySem.W.Frag} {mg : Str → Option Value} {base : Heap} {cs : Nat → Addr} {cR : Addr}
def spLaw (K : PySem.W.Frag) : Sp := fun vs H Q _ => ∃ (a : Addr) (ns : List Int), vs = [.ref a] ∧ SqL K H a (ns.map V.int) ∧ ns.length ≤ 63 ∧ ∀ H', Q (.bl true) H'
theorem ok_law {f fP fT fD fS fDb fSF fDF fK fC : Addr} {fd dP dT dD dS dDb dSF dDF dK dC : FuncData} (F : Fun K "law" "law" sLaw f fd) (Fs : Fns P w K mg base cs cR fP fT fD fS fDb fSF fDF fK fC dP dT dD dS dDb dSF dDF dK dC) : FnG P w K mg base CX0 4 f fd ["_law_script"] (spLaw K) := by
  obtain ⟨oc, od, kV, doc, pm, an, cdv, ct, osl, rfl, lk, hcd⟩ := F.ex
  have T := Fs.T
  refine fn_ofG lk hcd scLaw (fun vs H Q E h => ?_) (fun A outer s H vs Q E hG hr h => ?_)
  · obtain ⟨a, ns, rfl, _⟩ := h
    rfl
  · obtain ⟨a, ns, rfl, hS, hlen, q⟩ := h
    refine ⟨_, PSs.nox (pss_cons (ps_set (i := 1) scLaw.nd rfl (.inl rfl) (pe_call Fs.pen hr (by rfl) Fs.gpen Fs.kpen Fs.bpen .nil pass0 (pa_cons (pv 0) pa_nil)))
 (pss_cons (ps_for PassesOwn.never rfl (pi_range1 (by rfl) Fs.range (pa_cons pe_int pa_nil)) (pg_name (i := 2) scLaw.nd rfl (.inl rfl))
 (pss_cons (ps_asg (pe_tup (pa_cons (pe_call Fs.thing hr (by rfl) Fs.gthing Fs.kthing Fs.bthing .nil pass0 (pa_cons (pv 1) pa_nil)) (pa_cons (pe_call Fs.thing hr (by rfl) Fs.gthing Fs.kthing Fs.bthing .nil pass0 (pa_cons (pv 1) pa_nil)) pa_nil))) (pg_tup rfl (pgs_cons (pg_name (i := 3) scLaw.nd rfl (.inr rfl)) (pgs_cons (pg_name (i := 4) scLaw.nd rfl (.inr rfl)) pgs_nil))))
 (pss_cons (ps_set (i := 5) scLaw.nd rfl (.inl rfl) (pe_cmpR op_eq (pe_call Fs.draw hr (by rfl) Fs.gdraw Fs.kdraw Fs.bdraw .nil pass0 (pa_cons (pv 1) (pa_cons pe_int pa_nil))) pe_int (nomark _)))
 (pss_cons (ps_par (i := 6) (j := 7) (by rfl) scLaw.nd rfl rfl (by decide) rfl rfl (pa_cons (pe_call Fs.singles hr (by rfl) Fs.gsingles Fs.ksingles Fs.bsingles .nil pass0 (pa_cons (pv 3) (pa_cons (pv 5) pa_nil))) (pa_cons (pe_call Fs.doubles hr (by rfl) Fs.gdoubles Fs.kdoubles Fs.bdoubles .nil pass0 (pa_cons (pv 3) (pa_cons (pv 4) (pa_cons (pv 5) pa_nil)))) pa_nil)) (by rfl))
 (pss_cons (ps_for PassesOwn.never rfl (pi_enum (by rfl) Fs.enumerate (pa_cons (pe_op op_cat (pe_op op_cat (pv 6) (pv 7)) (pe_lst (pa_cons (pe_er0 (T.z 0 (by decide)) (by rfl)) (pa_cons (pe_er0 (T.z 1 (by decide)) (by rfl)) pa_nil)))) pa_nil)) (pg_tup rfl (pgs_cons (pg_name (i := 8) scLaw.nd rfl (.inr rfl)) (pgs_cons (pg_name (i := 9) scLaw.nd rfl (.inl rfl)) pgs_nil)))
 (pss_cons (ps_if (pt_cmpR (op_neD hr.units) (pe_call Fs.kinds hr (by rfl) Fs.gkinds Fs.kkinds Fs.bkinds .nil pass0 (pa_cons (pv 9) pa_nil)) (pe_lc (own := [("_law_each", 11)]) (g := gName 11) rfl scLaw.nd (pi_range1 (by rfl) Fs.range (pa_cons pe_int pa_nil)) (blkOk_by (own := [("_law_each", 11)]) (N := NL) (sc := defScope sLaw) (by decide +kernel)) (fun _ _ _ _ _ => pg_name (i := 11) scLaw.nd rfl (Or.inl rfl)) (fun _ _ _ _ _ => pts_nil) (fun _ _ _ _ _ => (pe_cmpR op_eq (pv 8) (pv 11) (nomark _)))) (nomark _))
 (pss_one (ps_ret pe_bl))
 pss_nil)
 (pss_one (ps_if (PW.pt (pw_or (pt_not (pt_val (pe_callB call_isE (by rfl) T.mI (by decide +kernel) (pa_cons (pv 9) (pa_cons (pe_glob (v := .ref cR) rfl T.gR rfl) pa_nil))))) (pw_or1 (pt_not (pt_val (pe_callB call_isE (by rfl) T.mI (by decide +kernel) (pa_cons (pv 9) (pa_cons (pe_bltn (v := .ty "ValueError") (by rfl) T.mV PyProof.Rows.Boot.«ValueError» rfl) pa_nil))))))))
 (pss_one (ps_ret pe_bl))
 pss_nil))))
 (pss_cons (ps_if (pt_cmpR op_ne (pe_callB (call_repr Fs.sys hG hr) (by rfl) Fs.repr (by decide +kernel) (pa_cons (pe_call Fs.sf hr (by rfl) Fs.gsf Fs.ksf Fs.bsf .nil pass0 (pa_cons (pv 6) pa_nil)) pa_nil)) (pe_callB (call_repr Fs.sys hG hr) (by rfl) Fs.repr (by decide +kernel) (pa_cons (pe_lc (own := [("_law_each", 11)]) (g := gName 11) rfl scLaw.nd (pi_range1 (by rfl) Fs.range (pa_cons pe_int pa_nil)) (blkOk_by (own := [("_law_each", 11)]) (N := NL) (sc := defScope sLaw) (by decide +kernel)) (fun _ _ _ _ _ => pg_name (i := 11) scLaw.nd rfl (Or.inl rfl)) (fun _ _ _ _ _ => pts_nil) (fun _ _ _ _ _ => (pv 3))) pa_nil)) (nomark _))
 (pss_one (ps_ret pe_bl))
 pss_nil)
 (pss_one (ps_if (pt_cmpR op_ne (pe_callB (call_repr Fs.sys hG hr) (by rfl) Fs.repr (by decide +kernel) (pa_cons (pe_call Fs.df hr (by rfl) Fs.gdf Fs.kdf Fs.bdf .nil pass0 (pa_cons (pv 7) pa_nil)) pa_nil)) (pe_callB (call_repr Fs.sys hG hr) (by rfl) Fs.repr (by decide +kernel) (pa_cons (pe_lc (own := [("_law_each", 11)]) (g := gName 11) rfl scLaw.nd (pi_range1 (by rfl) Fs.range (pa_cons pe_int pa_nil)) (blkOk_by (own := [("_law_each", 11)]) (N := NL) (sc := defScope sLaw) (by decide +kernel)) (fun _ _ _ _ _ => pg_name (i := 11) scLaw.nd rfl (Or.inl rfl)) (fun _ _ _ _ _ => pts_nil) (fun _ _ _ _ _ => (pe_lst (pa_cons (pv 3) (pa_cons (pv 4) pa_nil))))) pa_nil)) (nomark _))
 (pss_one (ps_ret pe_bl))
 pss_nil))))))))
 (pss_cons (ps_setLc (i := 10)  (own := [("_law_way", 12)]) (g := gName 12) rfl scLaw.nd rfl rfl (sw_true rfl rfl rfl (by decide +kernel)) (pi_range1 (by rfl) Fs.range (pa_cons pe_int pa_nil)) (blkOk_by (own := [("_law_way", 12)]) (N := NL) (sc := defScope sLaw) (by decide +kernel)) (fun _ _ _ _ _ => pg_name (i := 12) scLaw.nd rfl (Or.inl rfl)) (fun _ _ _ _ _ => pts_nil) (fun _ _ _ _ _ => (pe_call Fs.caught hr (by rfl) Fs.gcaught Fs.kcaught Fs.bcaught .nil pass0 (pa_cons (pv 12) pa_nil))))
 (pss_one (ps_ret (pe_cmpR (op_eqD hr.units) (pv 10) (pe_lc (own := [("_law_k", 8)]) (g := gName 8) rfl scLaw.nd (pi_list (pe_lst (pa_cons pe_int (pa_cons pe_int (pa_cons pe_int pa_nil))))) (blkOk_by (own := [("_law_k", 8)]) (N := NL) (sc := defScope sLaw) (by decide +kernel)) (fun _ _ _ _ _ => pg_name (i := 8) scLaw.nd rfl (Or.inr rfl)) (fun _ _ _ _ _ => pts_nil) (fun _ _ _ _ _ => pe_lc (own := [("_law_each", 11)]) (g := gName 11) rfl scLaw.nd (pi_range1 (by rfl) Fs.range (pa_cons pe_int pa_nil)) (blkOk_by (own := [("_law_each", 11)]) (N := NL) (sc := scopeOf [(Str.ofString ".0", .local), (Str.ofString "_law_k", .cell), (Str.ofString "range", .globalImplicit)]) (by decide +kernel)) (fun _ _ _ _ _ => pg_name (i := 11) scLaw.nd rfl (Or.inl rfl)) (fun _ _ _ _ _ => pts_nil) (fun _ _ _ _ _ => pe_cmpR op_eq (pv 8) (pv 11) (nomark _)))) (nomark _))))))), ?_⟩
    refine ⟨.ref a, rfl, a, ns, rfl, hS, hlen, fun H1 p c s1 np hP => ?_⟩
    refine ⟨4, rfl, by decide, by decide, for_range (lo := 0) (n := 4) (fun i σ H2 => ∃ y2 y3 y4 y5 y6 y7 y8 y9 y10 y11 y12, σ = [some (.ref a), some (.ref p), y2, y3, y4, y5, y6, y7, y8, y9, y10, y11, y12] ∧ ∃ n g, PenAt H2 p c ns n g ∧ n ≤ 3 * (i : Int))
      ⟨none, none, none, none, none, none, none, none, none, none, none, rfl, 0, 0, hP, by decide⟩ (fun i σ H2 hi hp => ?_) (fun σ H2 hp => ?_)⟩
    · obtain ⟨y2, y3, y4, y5, y6, y7, y8, y9, y10, y11, y12, rfl, n, g, hP2, hn⟩ := hp
      -- two things
      refine ⟨.ref p, rfl, p, c, ns, n, g, rfl, hP2, by omega, fun v dv n3 g3 H3 gr3 hP3 hn3 tv => ?_⟩
      refine ⟨.ref p, rfl, p, c, ns, n3, g3, rfl, hP3, by omega, fun u du n4 g4 H4 gr4 hP4 hn4 tu => ?_⟩
      refine ⟨by show 2 ≤ sizeLine; decide, fun t nt => ?_⟩
      refine ⟨t, [v, u], rfl, .inl (.inl upd_same), rfl, v, [u], rfl, u, [], rfl, rfl, ?_⟩
      have st := same_upd (o := .tup [v, u]) nt
      have hP5 : PenAt (upd H4 t (.tup [v, u])) p c ns n4 g4 := ⟨st _ _ hP4.p, st _ _ hP4.c, hP4.lo, hP4.hi, hP4.g, hP4.n⟩
      -- a way
      refine ⟨.ref p, rfl, p, c, ns, n4, g4, 2, rfl, hP5, by omega, by decide, by decide, fun d n6 g6 H6 d0 d1 gr6 hP6 hn6 => ⟨rfl, ?_⟩⟩
      have tv6 : Thing p H6 v dv := tv.mono (gr4.trans ((Gr.of_same st).trans gr6))
      have tu6 : Thing p H6 u du := tu.mono ((Gr.of_same st).trans gr6)
      generalize decide (V.int d = V.int 0) = b
      -- the errors
      refine ⟨v, rfl, .bl b, rfl, v, b, rfl, fun ls es H7 s7 nls hls er1 => ?_⟩
      refine ⟨v, rfl, u, rfl, .bl b, rfl, v, u, b, rfl, fun ld es2 H8 s8 nld hld er2 => ⟨_, _, rfl, ?_⟩⟩
      have er1' := er1.mono s8
      have hls' := s8 _ _ hls
      have l1 : es.length = 19 := er1.len
      have l2 : es2.length = 4 := er2.len
      refine ⟨.ref ls, rfl, .ref ld, rfl, ls, ld, es, es2, rfl, rfl, hls', hld, by rw [sizeLine_eq]; omega, fun c1 nc1 => ?_⟩
      intro e3 ne3 e4 ne4
      refine ⟨by show 2 ≤ sizeLine; decide, fun l9 nl9 => ?_⟩
      have sa := same_upd (o := .lst (es ++ es2)) nc1
      have sb := same_upd (o := erv e3 (cs 23) none) ne3
      have sc := same_upd (o := erv e4 (cs 24) none) ne4
      have sd := same_upd (o := .lst [.ref e3, .ref e4]) nl9
      refine ⟨c1, l9, es ++ es2, [.ref e3, .ref e4], rfl, rfl, sd _ _ (sc _ _ (sb _ _ upd_same)), upd_same, by rw [sizeLine_eq, List.length_append]; show es.length + es2.length + 2 ≤ _; omega, fun c2 nc2 => ?_⟩
      have se := same_upd (o := .lst (es ++ es2 ++ [.ref e3, .ref e4])) nc2
      have s89 : Same H8 _ := (((sa.trans sb).trans sc).trans sd).trans se
      refine ⟨c2, es ++ es2 ++ [.ref e3, .ref e4], rfl, SqL.of upd_same, ?_⟩
      have h3 := se _ _ (sd _ _ (sc _ _ (upd_same (H := upd H8 c1 (.lst (es ++ es2))) (a := e3) (o := erv e3 (cs 23) none))))
      have h4 := se _ _ (sd _ _ (upd_same (H := upd (upd H8 c1 (.lst (es ++ es2))) e3 (erv e3 (cs 23) none)) (a := e4) (o := erv e4 (cs 24) none)))
      have all25 := @errs_at _ cs v u es es2 e3 e4 (er1'.mono s89) (er2.mono s89) h3 h4
      have hc2 : SqL K _ c2 (es ++ es2 ++ [.ref e3, .ref e4]) := SqL.of (upd_same (H := upd (upd (upd (upd H8 c1 (.lst (es ++ es2))) e3 (erv e3 (cs 23) none)) e4 (erv e4 (cs 24) none)) l9 (.lst [.ref e3, .ref e4])))
      generalize upd (upd (upd (upd (upd H8 c1 (.lst (es ++ es2))) e3 (erv e3 (cs 23) none)) e4 (erv e4 (cs 24) none)) l9 (.lst [.ref e3, .ref e4])) c2 (.lst (es ++ es2 ++ [.ref e3, .ref e4])) = H9 at *
      generalize es ++ es2 ++ [.ref e3, .ref e4] = xs at *
      refine for_it (walk_enum (K := K) (a := c2) (xs := xs)) (fun j σ Hx => ∃ z2 z8 z9 z10 z11 z12, σ = [some (.ref a), some (.ref p), z2, some v, some u, some (.bl b), some (.ref ls), some (.ref ld), z8, z9, z10, z11, z12] ∧ Same H9 Hx)
        ⟨_, _, _, _, _, _, rfl, Same.refl H9⟩ (fun j σ Hx _ hp => ?_) (fun j x σ Hx Hy hj hp hy => ?_) (fun σ Hx hp => ?_)
      · obtain ⟨z2, z8, z9, z10, z11, z12, _, s⟩ := hp
        exact s.seq hc2
      · obtain ⟨z2, z8, z9, z10, z11, z12, rfl, s⟩ := hp
        obtain ⟨t2, x1, x2, rfl, nt2, rfl, ex1, ex2⟩ := hy
        have ex1 : V.int (j : Int) = x1 := Option.some.inj ex1
        subst ex1
        obtain ⟨j25, ae, fs, rfl, era⟩ := all25 ex2
        have s2 := same_upd (o := .tup [.int (j : Int), .ref ae]) nt2
        refine ⟨t2, [.int (j : Int), .ref ae], rfl, .inl (.inl upd_same), rfl, .int (j : Int), [.ref ae], rfl, .ref ae, [], rfl, rfl, ?_⟩
        refine ⟨.ref ae, rfl, ae, j, fs, rfl, j25, (era.mono s).mono s2, fun lk H10 s10 nlk hlk => ?_⟩
        refine ⟨25, rfl, by decide, by decide, fun D nD => ?_⟩
        refine lcR (n := 25) (i := 11) nD (by decide) (fun _ => rfl) (fun _ k y => y = .bl (j == k)) (fun _ _ _ _ _ h => h) (fun k Hk hk _ _ Q' hQ => ?_) (fun H11 ys s11 hD hly hr => ?_)
        · refine ⟨.int (j : Int), rfl, .int (0 + (k : Int)), rfl, rfl, ?_⟩
          refine hQ _ Hk (Same.refl Hk) (congrArg V.bl ?_)
          by_cases q : j = k
          · rw [decide_eq_true (by rw [q, Int.zero_add])]
            simp [q]
          · rw [decide_eq_false (fun z => q (by have := V.int.inj z; omega))]
            simp [q]
        · have ey : ys = bools j := eq_of_fn hly hr
          rw [ey] at hD
          refine ⟨_, _, dp_bools (s11 _ _ hlk), dp_bools hD, shaped_bools _, shaped_bools _, _, rfl, ?_⟩
          rw [eqv_same (shaped_bools _)]
          refine iteF ?_
          have s9 : Same H9 H11 := ((s.trans s2).trans s10).trans s11
          refine ⟨.ref ae, rfl, ae, cs j, fs, .ref cR, .ref cR, true, rfl, .own _, (era.mono s9).is, T.k j j25, T.kR j j25, _, rfl, iteF ?_⟩
          refine ⟨.ref ae, rfl, ae, cs j, fs, .ty "ValueError", .type "ValueError", true, rfl, .ty _, (era.mono s9).is, T.k j j25, T.kV j j25, _, rfl, iteF ?_⟩
          exact ⟨_, _, _, _, _, _, rfl, s9⟩
      · obtain ⟨z2, z8, z9, z10, z11, z12, rfl, s⟩ := hp
        have s6 : Same H6 Hx := ((s7.trans s8).trans s89).trans s
        have tvx : Thing p Hx v dv := tv6.mono (Gr.of_same s6)
        have tux : Thing p Hx u du := tu6.mono (Gr.of_same s6)
        have rv : ∀ {H' : Hp}, Same Hx H' → Rp H' v dv := fun s' => (tvx.1.mono del_sub).mono s'
        have ru : ∀ {H' : Hp}, Same Hx H' → Rp H' u du := fun s' => (tux.1.mono del_sub).mono s'
        obtain ⟨k1, k2, k3⟩ := rep_ok (n := 19) tvx.2.1 tvx.2.2.1 tvx.2.2.2
        -- the fields of the errors with one
        refine ⟨.ref ls, rfl, ls, es, v, rfl, s _ _ (s89 _ _ hls'), (er1'.mono s89).mono s, fun r1 H12 s12 nr1 hr1 => ?_⟩
        refine ⟨r1, .list (List.replicate 19 dv), rfl, .lst hr1 (rp_rep (rv s12) 19), k1, by omega, fit_line (by omega), ?_⟩
        refine ⟨19, rfl, by decide, by decide, fun D nD => ?_⟩
        refine lcR (n := 19) (i := 11) nD (by decide) (fun _ => rfl) (fun _ k y => y = v) (fun _ _ _ _ _ h => h) (fun k Hk hk _ _ Q' hQ => ⟨v, rfl, hQ v Hk (Same.refl Hk) rfl⟩) (fun H13 ys s13 hD hly hr => ?_)
        rw [eq_rep hly hr] at hD
        refine ⟨D, .list (List.replicate 19 dv), rfl, .lst hD (rp_rep (rv (s12.trans s13)) 19), k1, by omega, fit_line (by omega), rfl, _, rfl, iteNS rfl ?_⟩
        -- .. with two
        obtain ⟨m1, m2, m3⟩ := two_ok tvx.2.1 tvx.2.2.1 tvx.2.2.2 tux.2.1 tux.2.2.1 tux.2.2.2
        obtain ⟨k4, k5, k6⟩ := rep_ok (n := 4) m1 m2 m3
        have s14 := s12.trans s13
        refine ⟨.ref ld, rfl, ld, es2, v, u, rfl, s14 _ _ (s _ _ (s89 _ _ hld)), ((er2.mono s89).mono s).mono s14, fun r2 rows H15 s15 nr2 hr2 hrows => ?_⟩
        refine ⟨r2, .list (List.replicate 4 (.list [dv, du])), rfl, .lst hr2 (rp_rows (.cons (rv (s14.trans s15)) (.cons (ru (s14.trans s15)) .nil)) hrows), k4, by omega, fit_line (by omega), ?_⟩
        refine ⟨4, rfl, by decide, by decide, fun D2 nD2 => ?_⟩
        refine lcR (n := 4) (i := 11) nD2 (by decide) (fun _ => rfl) (fun Hz k y => ∃ e, y = .ref e ∧ e ≠ D2 ∧ Hz e = some (.lst [v, u])) (fun Hz Hz' k y gr hh => ?_) (fun k Hk hk _ hDk Q' hQ => ?_) (fun H16 ys2 s16 hD2 hly2 hr2' => ?_)
        · obtain ⟨e, h1, h2, h3⟩ := hh
          exact ⟨e, h1, h2, gr _ _ h2 h3⟩
        · refine ⟨v, rfl, u, rfl, by show 2 ≤ sizeLine; decide, fun e ne => hQ _ _ (same_upd ne) ⟨e, rfl, fun z => hDk (by rw [← z]; exact ne), upd_same⟩⟩
        · have rows2 : Rows H16 [v, u] 4 ys2 := rows_of hly2 fun j y e => by
            obtain ⟨e', h1, _, h3⟩ := hr2' j y e
            exact ⟨e', h1, h3⟩
          have sx := (s14.trans s15).trans s16
          refine ⟨D2, .list (List.replicate 4 (.list [dv, du])), rfl, .lst hD2 (rp_rows (.cons (rv sx) (.cons (ru sx) .nil)) rows2), k4, by omega, fit_line (by omega), rfl, _, rfl, iteNS rfl ?_⟩
          have sy := s6.trans sx
          exact ⟨_, _, _, _, _, _, _, _, _, _, _, rfl, n6, g6, ⟨sy _ _ hP6.p, sy _ _ hP6.c, hP6.lo, hP6.hi, hP6.g, hP6.n⟩, by push_cast; omega⟩
    · obtain ⟨y2, y3, y4, y5, y6, y7, y8, y9, y10, y11, y12, rfl, n, g, hP2, hn⟩ := hp
      refine ⟨3, rfl, by decide, by decide, fun D nD => ?_⟩
      refine lcR (n := 3) (i := 12) nD (by decide) (fun _ => rfl) (fun Hz k y => ∃ e, y = .ref e ∧ e ≠ D ∧ Hz e = some (.lst (bools (wayOf (k : Int))))) (fun Hz Hz' k y gr hh => ?_) (fun k Hk hk _ hDk Q' hQ => ?_) (fun H3 ys s3 hD hly hr => ?_)
      · obtain ⟨e, h1, h2, h3⟩ := hh
        exact ⟨e, h1, h2, gr _ _ h2 h3⟩
      · refine ⟨.int (0 + (k : Int)), rfl, 0 + (k : Int), rfl, fun l H' s' nl hl => hQ _ _ s' ⟨l, rfl, fun z => hDk (by rw [← z]; exact nl), by rw [Int.zero_add] at hl; exact hl⟩⟩
      · refine ⟨.ref D, rfl, by show 3 ≤ sizeLine; decide, fun l nl => ?_⟩
        have sl := same_upd (o := .lst [.int 23, .int 24, .int 21]) nl
        refine ⟨l, rfl, ⟨_, SqL.of upd_same⟩, fun D2 nD2 => ?_⟩
        refine lcL (K := K) (a := l) (xs := [.int 23, .int 24, .int 21]) (i := 8) nD2 (by decide) (SqL.of upd_same) (fun _ => rfl) (fun Hz k y => ∃ e, y = .ref e ∧ e ≠ D2 ∧ Hz e = some (.lst (bools (wayOf (k : Int))))) (fun Hz Hz' k y gr hh => ?_) (fun k x Hk hx _ hDk Q' hQ => ?_) (fun H4 ys2 s4 hD2 hly2 hr2 => ?_)
        · obtain ⟨e, h1, h2, h3⟩ := hh
          exact ⟨e, h1, h2, gr _ _ h2 h3⟩
        · obtain ⟨m, rfl, em⟩ : ∃ m : Nat, x = .int (m : Int) ∧ wayOf (k : Int) = m := by
            match k, hx with
            | 0, hx => exact ⟨23, (Option.some.inj hx).symm, rfl⟩
            | 1, hx => exact ⟨24, (Option.some.inj hx).symm, rfl⟩
            | 2, hx => exact ⟨21, (Option.some.inj hx).symm, rfl⟩
            | k + 3, hx => simp at hx
          refine ⟨25, rfl, by decide, by decide, fun D3 nD3 => ?_⟩
          refine lcR (n := 25) (i := 11) nD3 (by decide) (fun _ => rfl) (fun _ k y => y = .bl (m == k)) (fun _ _ _ _ _ h => h) (fun k2 Hk2 hk2 _ _ Q2 hQ2 => ?_) (fun H5 ys3 s5 hD3 hly3 hr3 => ?_)
          · refine ⟨.int (m : Int), rfl, .int (0 + (k2 : Int)), rfl, rfl, ?_⟩
            refine hQ2 _ Hk2 (Same.refl Hk2) (congrArg V.bl ?_)
            by_cases q : m = k2
            · rw [decide_eq_true (by rw [q, Int.zero_add])]
              simp [q]
            · rw [decide_eq_false (fun z => q (by have := V.int.inj z; omega))]
              simp [q]
          · have ey : ys3 = bools m := eq_of_fn hly3 hr3
            rw [ey] at hD3
            exact hQ _ H5 s5 ⟨D3, rfl, fun z => hDk (by rw [← z]; exact nD3), by rw [em]; exact hD3⟩
        · have hl3 : ys2.length = 3 := hly2
          have s34 := sl.trans s4
          have nDD : ∀ {e : Addr} {o : HO}, H3 e = some o → e ≠ D → H4 e = some o := fun h _ => s34 _ _ h
          refine ⟨_, _, dp_tri (f := fun k => wayOf (k : Int)) (s34 _ _ hD) hly (fun j y e => ?_), dp_tri (f := fun k => wayOf (k : Int)) hD2 hl3 hr2, shaped_tri _, shaped_tri _, ?_⟩
          · obtain ⟨e', h1, h2, h3⟩ := hr j y e
            exact ⟨e', h1, h2, s34 _ _ h3⟩
          · rw [eqv_same (shaped_tri _)]
            exact q H4
end
end BR
namespace BR
open PySem PySem.Spec PyProof.Rows L2
open PySem.W (nsIn findIn typeIn keepIn subIn mroIn clsIn hasDictIn specialIn takesIn kitOne exmOne alongIn codeIn)
section
variable {prog : Program} {w : World} {K : PySem.W.Frag} {mg : Str → Option Value} {h : Heap} {C fI cc cda N : Addr} {x qual nm' q' : Str} {bs bm : List Value} {sn : List Str} {sub : List Value} {ab : Bool} {col : Option Bool} {dd od an cdd cld : Option Addr} {k0 k1 k2 k3 k5 : Option Value}
  {oc kV doc pm ct ccl cl : Value} {osl ccs csl : Array (Option Value)} {vs : Array Value} {file : Str} {tf : Tok}
theorem mkT (X : K.In h) (G : h.Ns mainGlobals mg) (a1 : nsIn K mainGlobals x = some (some (.ref C))) (a2 : nsIn K mainGlobals "super" = some none)
    (a3 : K.lookup C = some (excClassObj nm' q' C N bs bm true sn sub ab col dd k0 k1 k2 k3 k5 "ValueError.__new__")) (a4 : HandSPX.refsVE bm = true) (a5 : alongIn K "__init__" bm = some (some (.builtin "ValueError.__init__")))
    (a6 : nsIn K cStatics "thirdparty.any" = some none) (a7 : subIn K (.ref C) (.type "ValueError") = some true) (a8 : mroIn K C (.ref C) = some true) (a9 : findIn K (.ref C) "__setattr__" = some (some (.builtin "object.__setattr__")))
    (a10 : findIn K (.ref C) "__init__" = some (some (.ref fI))) (a11 : typeIn K (.ref fI) = some (.type "function")) (a12 : keepIn K (.ref C) = true) (top : (prog.main.scope.names.lookup ("super" : Str)).isSome = false) : ErrTxt prog K mg C fI x :=
  ⟨PySem.W.mg_of X G a1, PySem.W.mg_none_of X G a2, top, ⟨nm', q', N, bs, bm, sn, sub, ab, col, dd, k0, k1, k2, k3, k5, a3, a4, a5⟩, a6, a7, a8, a9, a10, a11, a12⟩
theorem mk0 (X : K.In h) (G : h.Ns mainGlobals mg) (a1 : nsIn K mainGlobals x = some (some (.ref C))) (a3 : K.lookup C = some (excClassObj nm' q' C N bs bm true sn sub ab col dd k0 k1 k2 k3 k5 "ValueError.__new__")) (a4 : HandSPX.refsVE bm = true)
    (a10 : findIn K (.ref C) "__init__" = some (some (.builtin "ValueError.__init__"))) (a12 : keepIn K (.ref C) = true) : Er0 K mg x C :=
  ⟨PySem.W.mg_of X G a1, a12, ⟨nm', q', N, bs, bm, sn, sub, ab, col, dd, k0, k1, k2, k3, k5, a3, a4⟩, a10⟩
theorem mkI {as : Arguments} {body : List Stmt} {sc : Scope} (a13 : K.lookup fI = some ⟨oc, od, .func (PySem.W.ksFn "__init__" qual as body sc .none kV doc pm an (.ref cda) ct cc), osl⟩) (a14 : codeIn K (.ref cda) qual = true)
    (a15 : K.lookup cda = some ⟨ccl, cdd, .fields vs, ccs⟩) (a16 : vs[2]? = some (.str file tf)) (a17 : ((prog.main.file : Str) == file) = true) (a18 : K.lookup cc = some ⟨cl, cld, .cell (some (.ref C)), csl⟩) : IniTxt prog K C fI cc cda qual as body sc :=
  ⟨⟨oc, od, kV, doc, pm, an, ct, osl, a13⟩, a14, ⟨ccl, cdd, vs, ccs, file, tf, a15, a16, a17⟩, ⟨cl, cld, csl, a18⟩⟩
end
def cK (K : PySem.W.Frag) (C : Addr) : Bool :=
  (clsIn K C).isSome && hasDictIn K C && (findIn K (.ref C) "__getattribute__" == some (some (.builtin "BaseException.__getattribute__"))) && (findIn K (.ref C) "__getattr__" == some none) && (subIn K (.ref C) (.type "BaseException") == some true) &&
  (findIn K (.ref C) "__class__" == some (some (.builtin "object.__class__"))) && (specialIn K (.builtin "object.__class__") "__get__" == some (some (.builtin "getset_descriptor.__get__"))) && (takesIn K (.builtin "object.__class__") == some true) && (mroIn K C (.type "object") == some true)
theorem cK_ok {K : PySem.W.Frag} {C : Addr} (e : cK K C = true) : ErK K C := by
  unfold cK at e
  simp only [Bool.and_eq_true, beq_iff_eq] at e
  obtain ⟨⟨⟨⟨⟨⟨⟨⟨h1, h2⟩, h3⟩, h4⟩, h5⟩, h6⟩, h7⟩, h8⟩, h9⟩ := e
  exact ⟨h1, h2, h3, h4, h5, h6, h7, h8, h9⟩
/-- what is asked of all the classes at once -/
def cAll (K : PySem.W.Frag) (l : List Addr) (cR : Addr) : Bool :=
  (List.range 25).all fun i => cK K (l.getD i 0) && (typeIn K (.ref (l.getD i 0)) == some (.type "type")) && (exmOne K (.ref (l.getD i 0)) (.ref cR) == some true) && (kitOne K (.ref (l.getD i 0)) (.ref cR) == some true) && (kitOne K (.ref (l.getD i 0)) (.type "ValueError") == some true) &&
    ((List.range 25).all fun j => kitOne K (.ref (l.getD i 0)) (.ref (l.getD j 0)) == some (i == j))
theorem cAll_ok {K : PySem.W.Frag} {l : List Addr} {cR : Addr} (e : cAll K l cR = true) (i : Nat) (hi : i < 25) : ErK K (l.getD i 0) ∧ typeIn K (.ref (l.getD i 0)) = some (.type "type") ∧ exmOne K (.ref (l.getD i 0)) (.ref cR) = some true ∧ kitOne K (.ref (l.getD i 0)) (.ref cR) = some true ∧
    kitOne K (.ref (l.getD i 0)) (.type "ValueError") = some true ∧ ∀ j, j < 25 → kitOne K (.ref (l.getD i 0)) (.ref (l.getD j 0)) = some (i == j) := by
  unfold cAll at e
  have q := List.all_eq_true.mp e i (List.mem_range.mpr hi)
  simp only [Bool.and_eq_true, beq_iff_eq] at q
  obtain ⟨⟨⟨⟨⟨h1, h2⟩, h3⟩, h4⟩, h5⟩, h6⟩ := q
  exact ⟨cK_ok h1, h2, h3, h4, h5, fun j hj => by simpa using List.all_eq_true.mp h6 j (List.mem_range.mpr hj)⟩
end BR
namespace BR
open PySem PySem.Spec PyProof.Rows L2
open PySem.W (nsIn findIn typeIn keepIn subIn mroIn clsIn hasDictIn specialIn takesIn kitOne exmOne alongIn codeIn)
def cFl (K : PySem.W.Frag) (l : List Addr) : Bool :=
  ((List.range 19).all fun i => findIn K (.ref (l.getD i 0)) (fl i) == some none) && ((List.range 4).all fun i => (findIn K (.ref (l.getD (19 + i) 0)) (f1 i) == some none) && (findIn K (.ref (l.getD (19 + i) 0)) (f2 i) == some none))
theorem cFl_ok {K : PySem.W.Frag} {l : List Addr} (e : cFl K l = true) : (∀ i, i < 19 → findIn K (.ref (l.getD i 0)) (fl i) = some none) ∧ (∀ i, i < 4 → findIn K (.ref (l.getD (19 + i) 0)) (f1 i) = some none) ∧ (∀ i, i < 4 → findIn K (.ref (l.getD (19 + i) 0)) (f2 i) = some none) := by
  unfold cFl at e
  rw [Bool.and_eq_true] at e
  refine ⟨fun i hi => by simpa using List.all_eq_true.mp e.1 i (List.mem_range.mpr hi), fun i hi => ?_, fun i hi => ?_⟩
  · have q := List.all_eq_true.mp e.2 i (List.mem_range.mpr hi)
    rw [Bool.and_eq_true] at q
    simpa using q.1
  · have q := List.all_eq_true.mp e.2 i (List.mem_range.mpr hi)
    rw [Bool.and_eq_true] at q
    simpa using q.2

theorem fin {l : PySem.W.OpenLaw} {w : World} {K : PySem.W.Frag} {h : Heap} {mg : Str → Option Value} {fa cR c0 c1 c2 c3 c4 c5 c6 c7 c8 c9 c10 c11 c12 c13 c14 c15 c16 c17 c18 c19 c20 c21 c22 c23 c24 fP fD fQ fT fS fB fF fG fK fC fL : Addr}
    {odP anP : Option Addr} {slP : Array (Option Value)} {ocP kVP dcP pmP cdP ctP : Value}
    {odD anD : Option Addr} {slD : Array (Option Value)} {ocD kVD dcD pmD cdD ctD : Value}
    {odQ anQ : Option Addr} {slQ : Array (Option Value)} {ocQ kVQ dcQ pmQ cdQ ctQ : Value}
    {odT anT : Option Addr} {slT : Array (Option Value)} {ocT kVT dcT pmT cdT ctT : Value}
    {odS anS : Option Addr} {slS : Array (Option Value)} {ocS kVS dcS pmS cdS ctS : Value}
    {odB anB : Option Addr} {slB : Array (Option Value)} {ocB kVB dcB pmB cdB ctB : Value}
    {odF anF : Option Addr} {slF : Array (Option Value)} {ocF kVF dcF pmF cdF ctF : Value}
    {odG anG : Option Addr} {slG : Array (Option Value)} {ocG kVG dcG pmG cdG ctG : Value}
    {odK anK : Option Addr} {slK : Array (Option Value)} {ocK kVK dcK pmK cdK ctK : Value}
    {odC anC : Option Addr} {slC : Array (Option Value)} {ocC kVC dcC pmC cdC ctC : Value}
    {odL anL : Option Addr} {slL : Array (Option Value)} {ocL kVL dcL pmL cdL ctL : Value}
    (X : K.In h) (G : h.Ns mainGlobals mg) (hfa : mg "law" = some (.ref fa))
    (e0 : ErC l.prog w K mg "BadLetter" c0 (ff1 "value") ["value"] (ff1 "value"))
    (e1 : ErC l.prog w K mg "BadWord" c1 (ff1 "value") ["value"] (ff1 "value"))
    (e2 : ErC l.prog w K mg "BadNumber" c2 (ff1 "value") ["value"] (ff1 "value"))
    (e3 : ErC l.prog w K mg "BadCode" c3 (ff1 "value") ["value"] (ff1 "value"))
    (e4 : ErC l.prog w K mg "BadName" c4 (ff1 "value") ["value"] (ff1 "value"))
    (e5 : ErC l.prog w K mg "BadImage" c5 (ff1 "letter") ["letter"] (ff1 "letter"))
    (e6 : ErC l.prog w K mg "NoSign" c6 (ff1 "letter") ["letter"] (ff1 "letter"))
    (e7 : ErC l.prog w K mg "Unlike" c7 (ff1 "letter") ["letter"] (ff1 "letter"))
    (e8 : ErC l.prog w K mg "BadTable" c8 (ff1 "part") ["part"] (ff1 "part"))
    (e9 : ErC l.prog w K mg "BadRight" c9 (ff1 "part") ["part"] (ff1 "part"))
    (e10 : ErC l.prog w K mg "Unread" c10 (ff1 "at") ["at"] (ff1 "at"))
    (e11 : ErC l.prog w K mg "Barred" c11 (ff1 "at") ["at"] (ff1 "at"))
    (e12 : ErC l.prog w K mg "BadList" c12 (ff1 "at") ["at"] (ff1 "at"))
    (e13 : ErC l.prog w K mg "BadRow" c13 (ff1 "at") ["at"] (ff1 "at"))
    (e14 : ErC l.prog w K mg "BadFixer" c14 (ff1 "at") ["at"] (ff1 "at"))
    (e15 : ErC l.prog w K mg "NoOrigin" c15 (ff1 "text") ["text"] (ff1 "text"))
    (e16 : ErC l.prog w K mg "Ring" c16 (ff1 "text") ["text"] (ff1 "text"))
    (e17 : ErC l.prog w K mg "NoName" c17 (ff1 "name") ["name"] (ff1 "name"))
    (e18 : ErC l.prog w K mg "BadCommand" c18 (ff1 "word") ["word"] (ff1 "word"))
    (e19 : ErC l.prog w K mg "Merging" c19 (ff2 "one" "other") ["other", "one"] (fk2 "one" "other"))
    (e20 : ErC l.prog w K mg "Several" c20 (ff2 "one" "other") ["other", "one"] (fk2 "one" "other"))
    (e21 : ErC l.prog w K mg "TooMany" c21 (ff2 "what" "most") ["most", "what"] (fk2 "what" "most"))
    (e22 : ErC l.prog w K mg "BadText" c22 (ff2 "line" "word") ["word", "line"] (fk2 "line" "word"))
    (e23 : Er0 K mg "NoImage" c23)
    (e24 : Er0 K mg "Nothing" c24)
    (A1 : cAll K [c0, c1, c2, c3, c4, c5, c6, c7, c8, c9, c10, c11, c12, c13, c14, c15, c16, c17, c18, c19, c20, c21, c22, c23, c24] cR = true) (A2 : cFl K [c0, c1, c2, c3, c4, c5, c6, c7, c8, c9, c10, c11, c12, c13, c14, c15, c16, c17, c18, c19, c20, c21, c22, c23, c24] = true) (gR : nsIn K mainGlobals "RepairError" = some (some (.ref cR)))
    (n_ValueError : nsIn K mainGlobals "ValueError" = some none)
    (n_isinstance : nsIn K mainGlobals "isinstance" = some none)
    (n_int : nsIn K mainGlobals "int" = some none)
    (n_len : nsIn K mainGlobals "len" = some none)
    (n_abs : nsIn K mainGlobals "abs" = some none)
    (n_list : nsIn K mainGlobals "list" = some none)
    (n_range : nsIn K mainGlobals "range" = some none)
    (n_enumerate : nsIn K mainGlobals "enumerate" = some none)
    (n_repr : nsIn K mainGlobals "repr" = some none)
    (aP : nsIn K mainGlobals "_law_pen" = some (some (.ref fP))) (lP : K.lookup fP = some ⟨ocP, odP, .func (PySem.W.fnOf "_law_pen" "_law_pen" (defArgs sPen) (defBody sPen) (defScope sPen) .none kVP dcP pmP anP cdP ctP), slP⟩) (kP : keepIn K (.ref fP) = true) (qP : codeIn K cdP "_law_pen" = true)
    (aD : nsIn K mainGlobals "_law_draw" = some (some (.ref fD))) (lD : K.lookup fD = some ⟨ocD, odD, .func (PySem.W.fnOf "_law_draw" "_law_draw" (defArgs sDraw) (defBody sDraw) (defScope sDraw) .none kVD dcD pmD anD cdD ctD), slD⟩) (kD : keepIn K (.ref fD) = true) (qD : codeIn K cdD "_law_draw" = true)
    (aQ : nsIn K mainGlobals "_law_pick" = some (some (.ref fQ))) (lQ : K.lookup fQ = some ⟨ocQ, odQ, .func (PySem.W.fnOf "_law_pick" "_law_pick" (defArgs sPick) (defBody sPick) (defScope sPick) .none kVQ dcQ pmQ anQ cdQ ctQ), slQ⟩) (kQ : keepIn K (.ref fQ) = true) (qQ : codeIn K cdQ "_law_pick" = true)
    (aT : nsIn K mainGlobals "_law_thing" = some (some (.ref fT))) (lT : K.lookup fT = some ⟨ocT, odT, .func (PySem.W.fnOf "_law_thing" "_law_thing" (defArgs sThing) (defBody sThing) (defScope sThing) .none kVT dcT pmT anT cdT ctT), slT⟩) (kT : keepIn K (.ref fT) = true) (qT : codeIn K cdT "_law_thing" = true)
    (aS : nsIn K mainGlobals "_law_singles" = some (some (.ref fS))) (lS : K.lookup fS = some ⟨ocS, odS, .func (PySem.W.fnOf "_law_singles" "_law_singles" (defArgs sSingles) (defBody sSingles) (defScope sSingles) .none kVS dcS pmS anS cdS ctS), slS⟩) (kS : keepIn K (.ref fS) = true) (qS : codeIn K cdS "_law_singles" = true)
    (aB : nsIn K mainGlobals "_law_doubles" = some (some (.ref fB))) (lB : K.lookup fB = some ⟨ocB, odB, .func (PySem.W.fnOf "_law_doubles" "_law_doubles" (defArgs sDoubles) (defBody sDoubles) (defScope sDoubles) .none kVB dcB pmB anB cdB ctB), slB⟩) (kB : keepIn K (.ref fB) = true) (qB : codeIn K cdB "_law_doubles" = true)
    (aF : nsIn K mainGlobals "_law_single_fields" = some (some (.ref fF))) (lF : K.lookup fF = some ⟨ocF, odF, .func (PySem.W.fnOf "_law_single_fields" "_law_single_fields" (defArgs sSF) (defBody sSF) (defScope sSF) .none kVF dcF pmF anF cdF ctF), slF⟩) (kF : keepIn K (.ref fF) = true) (qF : codeIn K cdF "_law_single_fields" = true)
    (aG : nsIn K mainGlobals "_law_double_fields" = some (some (.ref fG))) (lG : K.lookup fG = some ⟨ocG, odG, .func (PySem.W.fnOf "_law_double_fields" "_law_double_fields" (defArgs sDF) (defBody sDF) (defScope sDF) .none kVG dcG pmG anG cdG ctG), slG⟩) (kG : keepIn K (.ref fG) = true) (qG : codeIn K cdG "_law_double_fields" = true)
    (aK : nsIn K mainGlobals "_law_kinds" = some (some (.ref fK))) (lK : K.lookup fK = some ⟨ocK, odK, .func (PySem.W.fnOf "_law_kinds" "_law_kinds" (defArgs sKinds) (defBody sKinds) (defScope sKinds) .none kVK dcK pmK anK cdK ctK), slK⟩) (kK : keepIn K (.ref fK) = true) (qK : codeIn K cdK "_law_kinds" = true)
    (aC : nsIn K mainGlobals "_law_caught" = some (some (.ref fC))) (lC : K.lookup fC = some ⟨ocC, odC, .func (PySem.W.fnOf "_law_caught" "_law_caught" (defArgs sCaught) (defBody sCaught) (defScope sCaught) .none kVC dcC pmC anC cdC ctC), slC⟩) (kC : keepIn K (.ref fC) = true) (qC : codeIn K cdC "_law_caught" = true)
    (aL : nsIn K mainGlobals "law" = some (some (.ref fL))) (lL : K.lookup fL = some ⟨ocL, odL, .func (PySem.W.fnOf "law" "law" (defArgs sLaw) (defBody sLaw) (defScope sLaw) .none kVL dcL pmL anL cdL ctL), slL⟩) (kL : keepIn K (.ref fL) = true) (qL : codeIn K cdL "law" = true)
    : ∃ fd : FuncData, (∀ (s : Shared) (v : Value), BindsTo s fd ⟨[v], []⟩ [("_law_script", v)]) ∧ ∀ base : Heap, K.In base → base.Ns mainGlobals mg → (∃ mm, base.Ns sysModules mm) → FnG l.prog w K mg base CX0 4 fa fd ["_law_script"] (spLaw K) := by
  obtain ⟨u1, u2, u3⟩ := cFl_ok A2
  have A := cAll_ok A1
  have T : Tab l.prog w K mg (fun i => ([c0, c1, c2, c3, c4, c5, c6, c7, c8, c9, c10, c11, c12, c13, c14, c15, c16, c17, c18, c19, c20, c21, c22, c23, c24] : List Addr).getD i 0) cR := {
    s := fun i hi => match i, hi with | 0, _ => e0 | 1, _ => e1 | 2, _ => e2 | 3, _ => e3 | 4, _ => e4 | 5, _ => e5 | 6, _ => e6 | 7, _ => e7 | 8, _ => e8 | 9, _ => e9 | 10, _ => e10 | 11, _ => e11 | 12, _ => e12 | 13, _ => e13 | 14, _ => e14 | 15, _ => e15 | 16, _ => e16 | 17, _ => e17 | 18, _ => e18 | i + 19, hi => absurd hi (by omega)
    d := fun i hi => match i, hi with | 0, _ => e19 | 1, _ => e20 | 2, _ => e21 | 3, _ => e22 | i + 4, hi => absurd hi (by omega)
    z := fun i hi => match i, hi with | 0, _ => e23 | 1, _ => e24 | i + 2, hi => absurd hi (by omega)
    g := fun i hi => match i, hi with | 0, _ => e0.g | 1, _ => e1.g | 2, _ => e2.g | 3, _ => e3.g | 4, _ => e4.g | 5, _ => e5.g | 6, _ => e6.g | 7, _ => e7.g | 8, _ => e8.g | 9, _ => e9.g | 10, _ => e10.g | 11, _ => e11.g | 12, _ => e12.g | 13, _ => e13.g | 14, _ => e14.g | 15, _ => e15.g | 16, _ => e16.g | 17, _ => e17.g | 18, _ => e18.g | 19, _ => e19.g | 20, _ => e20.g | 21, _ => e21.g | 22, _ => e22.g | 23, _ => e23.g | 24, _ => e24.g | i + 25, hi => absurd hi (by omega)
    k := fun i hi => (A i hi).1
    kit := fun i j hi hj => (A i hi).2.2.2.2.2 j hj
    gR := PySem.W.mg_of X G gR
    kR := fun i hi => (A i hi).2.2.2.1
    kV := fun i hi => (A i hi).2.2.2.2.1
    ns := u1
    n1 := u2
    n2 := u3
    ex := fun i hi => (A i hi).2.2.1
    ty := fun i hi => (A i hi).2.1
    mV := PySem.W.mg_none_of X G n_ValueError
    mI := PySem.W.mg_none_of X G n_isinstance }
  have N0 : Names0 mg := ⟨PySem.W.mg_none_of X G n_int, PySem.W.mg_none_of X G n_len, PySem.W.mg_none_of X G n_abs, PySem.W.mg_none_of X G n_list⟩
  have FP := fun_mk (st := sPen) lP qP kP
  have bP := FP.binds (ps := ["_law_script"]) fun _ _ _ _ _ _ us hl => match us, hl with | [_], _ => rfl
  have gP := PySem.W.mg_of X G aP
  have FD := fun_mk (st := sDraw) lD qD kD
  have bD := FD.binds (ps := ["_law_pen_here", "_law_many"]) fun _ _ _ _ _ _ us hl => match us, hl with | [_, _], _ => rfl
  have gD := PySem.W.mg_of X G aD
  have FQ := fun_mk (st := sPick) lQ qQ kQ
  have bQ := FQ.binds (ps := ["_law_pen_here", "_law_some"]) fun _ _ _ _ _ _ us hl => match us, hl with | [_, _], _ => rfl
  have gQ := PySem.W.mg_of X G aQ
  have FT := fun_mk (st := sThing) lT qT kT
  have bT := FT.binds (ps := ["_law_pen_here"]) fun _ _ _ _ _ _ us hl => match us, hl with | [_], _ => rfl
  have gT := PySem.W.mg_of X G aT
  have FS := fun_mk (st := sSingles) lS qS kS
  have bS := FS.binds (ps := ["_law_thing_here", "_law_is_named"]) fun _ _ _ _ _ _ us hl => match us, hl with | [_, _], _ => rfl
  have gS := PySem.W.mg_of X G aS
  have FB := fun_mk (st := sDoubles) lB qB kB
  have bB := FB.binds (ps := ["_law_thing_here", "_law_more", "_law_is_named"]) fun _ _ _ _ _ _ us hl => match us, hl with | [_, _, _], _ => rfl
  have gB := PySem.W.mg_of X G aB
  have FF := fun_mk (st := sSF) lF qF kF
  have bF := FF.binds (ps := ["_law_some"]) fun _ _ _ _ _ _ us hl => match us, hl with | [_], _ => rfl
  have gF := PySem.W.mg_of X G aF
  have FG := fun_mk (st := sDF) lG qG kG
  have bG := FG.binds (ps := ["_law_some"]) fun _ _ _ _ _ _ us hl => match us, hl with | [_], _ => rfl
  have gG := PySem.W.mg_of X G aG
  have FK := fun_mk (st := sKinds) lK qK kK
  have bK := FK.binds (ps := ["_law_error"]) fun _ _ _ _ _ _ us hl => match us, hl with | [_], _ => rfl
  have gK := PySem.W.mg_of X G aK
  have FC := fun_mk (st := sCaught) lC qC kC
  have bC := FC.binds (ps := ["_law_way"]) fun _ _ _ _ _ _ us hl => match us, hl with | [_], _ => rfl
  have gC := PySem.W.mg_of X G aC
  have FL := fun_mk (st := sLaw) lL qL kL
  have e := hfa.symm.trans (PySem.W.mg_of X G aL)
  cases e
  refine ⟨_, fun s v => BindsTo.of_eq (fd := PySem.W.fnOf "law" "law" (defArgs sLaw) (defBody sLaw) (defScope sLaw) .none kVL dcL pmL anL cdL ctL) rfl, fun base _ _ sy => ?_⟩
  exact ok_law FL ⟨T, ok_pen FP N0, ok_thing (k := 2) FT N0 (ok_pick FQ N0 FD bD gD) FQ.kp bQ gQ, ok_draw FD N0, ok_singles FS T, ok_doubles FB T, ok_sf FF T, ok_df FG T, ok_kinds FK T, ok_caught (k := 1) FC T FK bK gK, bP, bT, bD, bS, bB, bF, bG, bK, bC, gP, gT, gD, gS, gB, gF, gG, gK, gC, kP, kT, kD, kS, kB, kF, kG, kK, kC, PySem.W.mg_none_of X G n_range, PySem.W.mg_none_of X G n_enumerate, PySem.W.mg_none_of X G n_repr, sy⟩
end BR
open PySem PySem.W PyProof.Rows
set_option maxRecDepth 100000 in
set_option maxHeartbeats 0 in
theorem PySem.Challenge.cw_blindrepair_k01_errors_apart_holds : PySem.Challenge.rw_blindrepair_k01_errors_apart.Holds := by
  w_on
  o_law
  k_head
  (case hw => w_witness2)
  k_fill
  refine BR.walkG (l := PySem.Challenge.rw_blindrepair_k01_errors_apart) (n := 63) (k := 4) (x := "_law_script") (CX := fun _ => L2.CX0) (sp := fun w => BR.spLaw _) rfl (by decide) rfl ?im ⟨rfl, by decide, by decide⟩ (fun w h Y => PySem.W.kIn_of Y) ?F (fun _ _ a ns hl _ hS => ⟨a, ns, rfl, hS, hl, fun _ => rfl⟩) (fun _ _ _ _ _ z => z)
  case im => kernel_rfl
  case F =>
    intro w mg fa h KX G hmg
    refine' BR.fin KX G hmg ?e0 ?e1 ?e2 ?e3 ?e4 ?e5 ?e6 ?e7 ?e8 ?e9 ?e10 ?e11 ?e12 ?e13 ?e14 ?e15 ?e16 ?e17 ?e18 ?e19 ?e20 ?e21 ?e22 ?e23 ?e24 ?A1 ?A2 ?gR ?n_ValueError ?n_isinstance ?n_int ?n_len ?n_abs ?n_list ?n_range ?n_enumerate ?n_repr ?aP ?lP ?kP ?qP ?aD ?lD ?kD ?qD ?aQ ?lQ ?kQ ?qQ ?aT ?lT ?kT ?qT ?aS ?lS ?kS ?qS ?aB ?lB ?kB ?qB ?aF ?lF ?kF ?qF ?aG ?lG ?kG ?qG ?aK ?lK ?kK ?qK ?aC ?lC ?kC ?qC ?aL ?lL ?kL ?qL
    case e0 =>
      refine' BR.erc1 (msg := "not such a letter") (p := ⟨⟨7, 8, 7, 13⟩, ⟨7, 8, 7, 15⟩, ⟨7, 8, 7, 24⟩, ⟨7, 25, 7, 44⟩, ⟨7, 8, 7, 45⟩, ⟨7, 8, 7, 45⟩⟩) (q := ⟨⟨8, 8, 8, 12⟩, ⟨8, 8, 8, 18⟩, ⟨8, 21, 8, 26⟩, ⟨8, 8, 8, 26⟩, ⟨0, 0, 0, 0⟩, ⟨0, 0, 0, 0⟩⟩) (pa := ⟨6, 17, 6, 21⟩) (pb := ⟨6, 23, 6, 28⟩) ⟨by decide +kernel, by decide +kernel⟩ (by decide +kernel) (by decide +kernel) (BR.mkT KX G ?a1 ?a2 ?a3 ?a4 ?a5 ?a6 ?a7 ?a8 ?a9 ?a10 ?a11 ?a12 ?tp) (BR.mkI ?a13 ?a14 ?a15 ?a16 ?a17 ?a18) ?hno (fun _ => ⟨_, rfl⟩) (fun _ => rfl) (fun _ _ _ _ _ _ _ => rfl) (fun _ _ _ _ _ _ _ => rfl)
      (case a1 => k_is)
      (case a2 => k_is)
      (case a3 => k_is)
      (case a4 => kernel_rfl)
      (case a5 => kernel_rfl)
      (case a6 => k_is)
      (case a7 => k_is)
      (case a8 => k_is)
      (case a9 => k_is)
      (case a10 => k_is)
      (case a11 => k_is)
      (case a12 => k_is)
      (case tp => kernel_rfl)
      (case a13 => k_is)
      (case a14 => k_is)
      (case a15 => k_is)
      (case a16 => rfl)
      (case a17 => kernel_rfl)
      (case a18 => k_is)
      (case hno => k_is)
    case e1 =>
      refine' BR.erc1 (msg := "not a text") (p := ⟨⟨12, 8, 12, 13⟩, ⟨12, 8, 12, 15⟩, ⟨12, 8, 12, 24⟩, ⟨12, 25, 12, 37⟩, ⟨12, 8, 12, 38⟩, ⟨12, 8, 12, 38⟩⟩) (q := ⟨⟨13, 8, 13, 12⟩, ⟨13, 8, 13, 18⟩, ⟨13, 21, 13, 26⟩, ⟨13, 8, 13, 26⟩, ⟨0, 0, 0, 0⟩, ⟨0, 0, 0, 0⟩⟩) (pa := ⟨11, 17, 11, 21⟩) (pb := ⟨11, 23, 11, 28⟩) ⟨by decide +kernel, by decide +kernel⟩ (by decide +kernel) (by decide +kernel) (BR.mkT KX G ?a1 ?a2 ?a3 ?a4 ?a5 ?a6 ?a7 ?a8 ?a9 ?a10 ?a11 ?a12 ?tp) (BR.mkI ?a13 ?a14 ?a15 ?a16 ?a17 ?a18) ?hno (fun _ => ⟨_, rfl⟩) (fun _ => rfl) (fun _ _ _ _ _ _ _ => rfl) (fun _ _ _ _ _ _ _ => rfl)
      (case a1 => k_is)
      (case a2 => k_is)
      (case a3 => k_is)
      (case a4 => kernel_rfl)
      (case a5 => kernel_rfl)
      (case a6 => k_is)
      (case a7 => k_is)
      (case a8 => k_is)
      (case a9 => k_is)
      (case a10 => k_is)
      (case a11 => k_is)
      (case a12 => k_is)
      (case tp => kernel_rfl)
      (case a13 => k_is)
      (case a14 => k_is)
      (case a15 => k_is)
      (case a16 => rfl)
      (case a17 => kernel_rfl)
      (case a18 => k_is)
      (case hno => k_is)
    case e2 =>
      refine' BR.erc1 (msg := "not such a number") (p := ⟨⟨22, 8, 22, 13⟩, ⟨22, 8, 22, 15⟩, ⟨22, 8, 22, 24⟩, ⟨22, 25, 22, 44⟩, ⟨22, 8, 22, 45⟩, ⟨22, 8, 22, 45⟩⟩) (q := ⟨⟨23, 8, 23, 12⟩, ⟨23, 8, 23, 18⟩, ⟨23, 21, 23, 26⟩, ⟨23, 8, 23, 26⟩, ⟨0, 0, 0, 0⟩, ⟨0, 0, 0, 0⟩⟩) (pa := ⟨21, 17, 21, 21⟩) (pb := ⟨21, 23, 21, 28⟩) ⟨by decide +kernel, by decide +kernel⟩ (by decide +kernel) (by decide +kernel) (BR.mkT KX G ?a1 ?a2 ?a3 ?a4 ?a5 ?a6 ?a7 ?a8 ?a9 ?a10 ?a11 ?a12 ?tp) (BR.mkI ?a13 ?a14 ?a15 ?a16 ?a17 ?a18) ?hno (fun _ => ⟨_, rfl⟩) (fun _ => rfl) (fun _ _ _ _ _ _ _ => rfl) (fun _ _ _ _ _ _ _ => rfl)
      (case a1 => k_is)
      (case a2 => k_is)
      (case a3 => k_is)
      (case a4 => kernel_rfl)
      (case a5 => kernel_rfl)
      (case a6 => k_is)
      (case a7 => k_is)
      (case a8 => k_is)
      (case a9 => k_is)
      (case a10 => k_is)
      (case a11 => k_is)
      (case a12 => k_is)
      (case tp => kernel_rfl)
      (case a13 => k_is)
      (case a14 => k_is)
      (case a15 => k_is)
      (case a16 => rfl)
      (case a17 => kernel_rfl)
      (case a18 => k_is)
      (case hno => k_is)
    case e3 =>
      refine' BR.erc1 (msg := "not a code") (p := ⟨⟨32, 8, 32, 13⟩, ⟨32, 8, 32, 15⟩, ⟨32, 8, 32, 24⟩, ⟨32, 25, 32, 37⟩, ⟨32, 8, 32, 38⟩, ⟨32, 8, 32, 38⟩⟩) (q := ⟨⟨33, 8, 33, 12⟩, ⟨33, 8, 33, 18⟩, ⟨33, 21, 33, 26⟩, ⟨33, 8, 33, 26⟩, ⟨0, 0, 0, 0⟩, ⟨0, 0, 0, 0⟩⟩) (pa := ⟨31, 17, 31, 21⟩) (pb := ⟨31, 23, 31, 28⟩) ⟨by decide +kernel, by decide +kernel⟩ (by decide +kernel) (by decide +kernel) (BR.mkT KX G ?a1 ?a2 ?a3 ?a4 ?a5 ?a6 ?a7 ?a8 ?a9 ?a10 ?a11 ?a12 ?tp) (BR.mkI ?a13 ?a14 ?a15 ?a16 ?a17 ?a18) ?hno (fun _ => ⟨_, rfl⟩) (fun _ => rfl) (fun _ _ _ _ _ _ _ => rfl) (fun _ _ _ _ _ _ _ => rfl)
      (case a1 => k_is)
      (case a2 => k_is)
      (case a3 => k_is)
      (case a4 => kernel_rfl)
      (case a5 => kernel_rfl)
      (case a6 => k_is)
      (case a7 => k_is)
      (case a8 => k_is)
      (case a9 => k_is)
      (case a10 => k_is)
      (case a11 => k_is)
      (case a12 => k_is)
      (case tp => kernel_rfl)
      (case a13 => k_is)
      (case a14 => k_is)
      (case a15 => k_is)
      (case a16 => rfl)
      (case a17 => kernel_rfl)
      (case a18 => k_is)
      (case hno => k_is)
    case e4 =>
      refine' BR.erc1 (msg := "not a name") (p := ⟨⟨101, 8, 101, 13⟩, ⟨101, 8, 101, 15⟩, ⟨101, 8, 101, 24⟩, ⟨101, 25, 101, 37⟩, ⟨101, 8, 101, 38⟩, ⟨101, 8, 101, 38⟩⟩) (q := ⟨⟨102, 8, 102, 12⟩, ⟨102, 8, 102, 18⟩, ⟨102, 21, 102, 26⟩, ⟨102, 8, 102, 26⟩, ⟨0, 0, 0, 0⟩, ⟨0, 0, 0, 0⟩⟩) (pa := ⟨100, 17, 100, 21⟩) (pb := ⟨100, 23, 100, 28⟩) ⟨by decide +kernel, by decide +kernel⟩ (by decide +kernel) (by decide +kernel) (BR.mkT KX G ?a1 ?a2 ?a3 ?a4 ?a5 ?a6 ?a7 ?a8 ?a9 ?a10 ?a11 ?a12 ?tp) (BR.mkI ?a13 ?a14 ?a15 ?a16 ?a17 ?a18) ?hno (fun _ => ⟨_, rfl⟩) (fun _ => rfl) (fun _ _ _ _ _ _ _ => rfl) (fun _ _ _ _ _ _ _ => rfl)
      (case a1 => k_is)
      (case a2 => k_is)
      (case a3 => k_is)
      (case a4 => kernel_rfl)
      (case a5 => kernel_rfl)
      (case a6 => k_is)
      (case a7 => k_is)
      (case a8 => k_is)
      (case a9 => k_is)
      (case a10 => k_is)
      (case a11 => k_is)
      (case a12 => k_is)
      (case tp => kernel_rfl)
      (case a13 => k_is)
      (case a14 => k_is)
      (case a15 => k_is)
      (case a16 => rfl)
      (case a17 => kernel_rfl)
      (case a18 => k_is)
      (case hno => k_is)
    case e5 =>
      refine' BR.erc1 (msg := "not an image") (p := ⟨⟨17, 8, 17, 13⟩, ⟨17, 8, 17, 15⟩, ⟨17, 8, 17, 24⟩, ⟨17, 25, 17, 39⟩, ⟨17, 8, 17, 40⟩, ⟨17, 8, 17, 40⟩⟩) (q := ⟨⟨18, 8, 18, 12⟩, ⟨18, 8, 18, 19⟩, ⟨18, 22, 18, 28⟩, ⟨18, 8, 18, 28⟩, ⟨0, 0, 0, 0⟩, ⟨0, 0, 0, 0⟩⟩) (pa := ⟨16, 17, 16, 21⟩) (pb := ⟨16, 23, 16, 29⟩) ⟨by decide +kernel, by decide +kernel⟩ (by decide +kernel) (by decide +kernel) (BR.mkT KX G ?a1 ?a2 ?a3 ?a4 ?a5 ?a6 ?a7 ?a8 ?a9 ?a10 ?a11 ?a12 ?tp) (BR.mkI ?a13 ?a14 ?a15 ?a16 ?a17 ?a18) ?hno (fun _ => ⟨_, rfl⟩) (fun _ => rfl) (fun _ _ _ _ _ _ _ => rfl) (fun _ _ _ _ _ _ _ => rfl)
      (case a1 => k_is)
      (case a2 => k_is)
      (case a3 => k_is)
      (case a4 => kernel_rfl)
      (case a5 => kernel_rfl)
      (case a6 => k_is)
      (case a7 => k_is)
      (case a8 => k_is)
      (case a9 => k_is)
      (case a10 => k_is)
      (case a11 => k_is)
      (case a12 => k_is)
      (case tp => kernel_rfl)
      (case a13 => k_is)
      (case a14 => k_is)
      (case a15 => k_is)
      (case a16 => rfl)
      (case a17 => kernel_rfl)
      (case a18 => k_is)
      (case hno => k_is)
    case e6 =>
      refine' BR.erc1 (msg := "the table lacks this letter") (p := ⟨⟨37, 8, 37, 13⟩, ⟨37, 8, 37, 15⟩, ⟨37, 8, 37, 24⟩, ⟨37, 25, 37, 54⟩, ⟨37, 8, 37, 55⟩, ⟨37, 8, 37, 55⟩⟩) (q := ⟨⟨38, 8, 38, 12⟩, ⟨38, 8, 38, 19⟩, ⟨38, 22, 38, 28⟩, ⟨38, 8, 38, 28⟩, ⟨0, 0, 0, 0⟩, ⟨0, 0, 0, 0⟩⟩) (pa := ⟨36, 17, 36, 21⟩) (pb := ⟨36, 23, 36, 29⟩) ⟨by decide +kernel, by decide +kernel⟩ (by decide +kernel) (by decide +kernel) (BR.mkT KX G ?a1 ?a2 ?a3 ?a4 ?a5 ?a6 ?a7 ?a8 ?a9 ?a10 ?a11 ?a12 ?tp) (BR.mkI ?a13 ?a14 ?a15 ?a16 ?a17 ?a18) ?hno (fun _ => ⟨_, rfl⟩) (fun _ => rfl) (fun _ _ _ _ _ _ _ => rfl) (fun _ _ _ _ _ _ _ => rfl)
      (case a1 => k_is)
      (case a2 => k_is)
      (case a3 => k_is)
      (case a4 => kernel_rfl)
      (case a5 => kernel_rfl)
      (case a6 => k_is)
      (case a7 => k_is)
      (case a8 => k_is)
      (case a9 => k_is)
      (case a10 => k_is)
      (case a11 => k_is)
      (case a12 => k_is)
      (case tp => kernel_rfl)
      (case a13 => k_is)
      (case a14 => k_is)
      (case a15 => k_is)
      (case a16 => rfl)
      (case a17 => kernel_rfl)
      (case a18 => k_is)
      (case hno => k_is)
    case e7 =>
      refine' BR.erc1 (msg := "the images of a letter are unlike") (p := ⟨⟨60, 8, 60, 13⟩, ⟨60, 8, 60, 15⟩, ⟨60, 8, 60, 24⟩, ⟨60, 25, 60, 60⟩, ⟨60, 8, 60, 61⟩, ⟨60, 8, 60, 61⟩⟩) (q := ⟨⟨61, 8, 61, 12⟩, ⟨61, 8, 61, 19⟩, ⟨61, 22, 61, 28⟩, ⟨61, 8, 61, 28⟩, ⟨0, 0, 0, 0⟩, ⟨0, 0, 0, 0⟩⟩) (pa := ⟨59, 17, 59, 21⟩) (pb := ⟨59, 23, 59, 29⟩) ⟨by decide +kernel, by decide +kernel⟩ (by decide +kernel) (by decide +kernel) (BR.mkT KX G ?a1 ?a2 ?a3 ?a4 ?a5 ?a6 ?a7 ?a8 ?a9 ?a10 ?a11 ?a12 ?tp) (BR.mkI ?a13 ?a14 ?a15 ?a16 ?a17 ?a18) ?hno (fun _ => ⟨_, rfl⟩) (fun _ => rfl) (fun _ _ _ _ _ _ _ => rfl) (fun _ _ _ _ _ _ _ => rfl)
      (case a1 => k_is)
      (case a2 => k_is)
      (case a3 => k_is)
      (case a4 => kernel_rfl)
      (case a5 => kernel_rfl)
      (case a6 => k_is)
      (case a7 => k_is)
      (case a8 => k_is)
      (case a9 => k_is)
      (case a10 => k_is)
      (case a11 => k_is)
      (case a12 => k_is)
      (case tp => kernel_rfl)
      (case a13 => k_is)
      (case a14 => k_is)
      (case a15 => k_is)
      (case a16 => rfl)
      (case a17 => kernel_rfl)
      (case a18 => k_is)
      (case hno => k_is)
    case e8 =>
      refine' BR.erc1 (msg := "not a table") (p := ⟨⟨27, 8, 27, 13⟩, ⟨27, 8, 27, 15⟩, ⟨27, 8, 27, 24⟩, ⟨27, 25, 27, 38⟩, ⟨27, 8, 27, 39⟩, ⟨27, 8, 27, 39⟩⟩) (q := ⟨⟨28, 8, 28, 12⟩, ⟨28, 8, 28, 17⟩, ⟨28, 20, 28, 24⟩, ⟨28, 8, 28, 24⟩, ⟨0, 0, 0, 0⟩, ⟨0, 0, 0, 0⟩⟩) (pa := ⟨26, 17, 26, 21⟩) (pb := ⟨26, 23, 26, 27⟩) ⟨by decide +kernel, by decide +kernel⟩ (by decide +kernel) (by decide +kernel) (BR.mkT KX G ?a1 ?a2 ?a3 ?a4 ?a5 ?a6 ?a7 ?a8 ?a9 ?a10 ?a11 ?a12 ?tp) (BR.mkI ?a13 ?a14 ?a15 ?a16 ?a17 ?a18) ?hno (fun _ => ⟨_, rfl⟩) (fun _ => rfl) (fun _ _ _ _ _ _ _ => rfl) (fun _ _ _ _ _ _ _ => rfl)
      (case a1 => k_is)
      (case a2 => k_is)
      (case a3 => k_is)
      (case a4 => kernel_rfl)
      (case a5 => kernel_rfl)
      (case a6 => k_is)
      (case a7 => k_is)
      (case a8 => k_is)
      (case a9 => k_is)
      (case a10 => k_is)
      (case a11 => k_is)
      (case a12 => k_is)
      (case tp => kernel_rfl)
      (case a13 => k_is)
      (case a14 => k_is)
      (case a15 => k_is)
      (case a16 => rfl)
      (case a17 => kernel_rfl)
      (case a18 => k_is)
      (case hno => k_is)
    case e9 =>
      refine' BR.erc1 (msg := "not right") (p := ⟨⟨65, 8, 65, 13⟩, ⟨65, 8, 65, 15⟩, ⟨65, 8, 65, 24⟩, ⟨65, 25, 65, 36⟩, ⟨65, 8, 65, 37⟩, ⟨65, 8, 65, 37⟩⟩) (q := ⟨⟨66, 8, 66, 12⟩, ⟨66, 8, 66, 17⟩, ⟨66, 20, 66, 24⟩, ⟨66, 8, 66, 24⟩, ⟨0, 0, 0, 0⟩, ⟨0, 0, 0, 0⟩⟩) (pa := ⟨64, 17, 64, 21⟩) (pb := ⟨64, 23, 64, 27⟩) ⟨by decide +kernel, by decide +kernel⟩ (by decide +kernel) (by decide +kernel) (BR.mkT KX G ?a1 ?a2 ?a3 ?a4 ?a5 ?a6 ?a7 ?a8 ?a9 ?a10 ?a11 ?a12 ?tp) (BR.mkI ?a13 ?a14 ?a15 ?a16 ?a17 ?a18) ?hno (fun _ => ⟨_, rfl⟩) (fun _ => rfl) (fun _ _ _ _ _ _ _ => rfl) (fun _ _ _ _ _ _ _ => rfl)
      (case a1 => k_is)
      (case a2 => k_is)
      (case a3 => k_is)
      (case a4 => kernel_rfl)
      (case a5 => kernel_rfl)
      (case a6 => k_is)
      (case a7 => k_is)
      (case a8 => k_is)
      (case a9 => k_is)
      (case a10 => k_is)
      (case a11 => k_is)
      (case a12 => k_is)
      (case tp => kernel_rfl)
      (case a13 => k_is)
      (case a14 => k_is)
      (case a15 => k_is)
      (case a16 => rfl)
      (case a17 => kernel_rfl)
      (case a18 => k_is)
      (case hno => k_is)
    case e10 =>
      refine' BR.erc1 (msg := "this byte cannot be read") (p := ⟨⟨42, 8, 42, 13⟩, ⟨42, 8, 42, 15⟩, ⟨42, 8, 42, 24⟩, ⟨42, 25, 42, 51⟩, ⟨42, 8, 42, 52⟩, ⟨42, 8, 42, 52⟩⟩) (q := ⟨⟨43, 8, 43, 12⟩, ⟨43, 8, 43, 15⟩, ⟨43, 18, 43, 20⟩, ⟨43, 8, 43, 20⟩, ⟨0, 0, 0, 0⟩, ⟨0, 0, 0, 0⟩⟩) (pa := ⟨41, 17, 41, 21⟩) (pb := ⟨41, 23, 41, 25⟩) ⟨by decide +kernel, by decide +kernel⟩ (by decide +kernel) (by decide +kernel) (BR.mkT KX G ?a1 ?a2 ?a3 ?a4 ?a5 ?a6 ?a7 ?a8 ?a9 ?a10 ?a11 ?a12 ?tp) (BR.mkI ?a13 ?a14 ?a15 ?a16 ?a17 ?a18) ?hno (fun _ => ⟨_, rfl⟩) (fun _ => rfl) (fun _ _ _ _ _ _ _ => rfl) (fun _ _ _ _ _ _ _ => rfl)
      (case a1 => k_is)
      (case a2 => k_is)
      (case a3 => k_is)
      (case a4 => kernel_rfl)
      (case a5 => kernel_rfl)
      (case a6 => k_is)
      (case a7 => k_is)
      (case a8 => k_is)
      (case a9 => k_is)
      (case a10 => k_is)
      (case a11 => k_is)
      (case a12 => k_is)
      (case tp => kernel_rfl)
      (case a13 => k_is)
      (case a14 => k_is)
      (case a15 => k_is)
      (case a16 => rfl)
      (case a17 => kernel_rfl)
      (case a18 => k_is)
      (case hno => k_is)
    case e11 =>
      refine' BR.erc1 (msg := "this letter bars the misreading") (p := ⟨⟨47, 8, 47, 13⟩, ⟨47, 8, 47, 15⟩, ⟨47, 8, 47, 24⟩, ⟨47, 25, 47, 58⟩, ⟨47, 8, 47, 59⟩, ⟨47, 8, 47, 59⟩⟩) (q := ⟨⟨48, 8, 48, 12⟩, ⟨48, 8, 48, 15⟩, ⟨48, 18, 48, 20⟩, ⟨48, 8, 48, 20⟩, ⟨0, 0, 0, 0⟩, ⟨0, 0, 0, 0⟩⟩) (pa := ⟨46, 17, 46, 21⟩) (pb := ⟨46, 23, 46, 25⟩) ⟨by decide +kernel, by decide +kernel⟩ (by decide +kernel) (by decide +kernel) (BR.mkT KX G ?a1 ?a2 ?a3 ?a4 ?a5 ?a6 ?a7 ?a8 ?a9 ?a10 ?a11 ?a12 ?tp) (BR.mkI ?a13 ?a14 ?a15 ?a16 ?a17 ?a18) ?hno (fun _ => ⟨_, rfl⟩) (fun _ => rfl) (fun _ _ _ _ _ _ _ => rfl) (fun _ _ _ _ _ _ _ => rfl)
      (case a1 => k_is)
      (case a2 => k_is)
      (case a3 => k_is)
      (case a4 => kernel_rfl)
      (case a5 => kernel_rfl)
      (case a6 => k_is)
      (case a7 => k_is)
      (case a8 => k_is)
      (case a9 => k_is)
      (case a10 => k_is)
      (case a11 => k_is)
      (case a12 => k_is)
      (case tp => kernel_rfl)
      (case a13 => k_is)
      (case a14 => k_is)
      (case a15 => k_is)
      (case a16 => rfl)
      (case a17 => kernel_rfl)
      (case a18 => k_is)
      (case hno => k_is)
    case e12 =>
      refine' BR.erc1 (msg := "not a list of misreadings") (p := ⟨⟨70, 8, 70, 13⟩, ⟨70, 8, 70, 15⟩, ⟨70, 8, 70, 24⟩, ⟨70, 25, 70, 52⟩, ⟨70, 8, 70, 53⟩, ⟨70, 8, 70, 53⟩⟩) (q := ⟨⟨71, 8, 71, 12⟩, ⟨71, 8, 71, 15⟩, ⟨71, 18, 71, 20⟩, ⟨71, 8, 71, 20⟩, ⟨0, 0, 0, 0⟩, ⟨0, 0, 0, 0⟩⟩) (pa := ⟨69, 17, 69, 21⟩) (pb := ⟨69, 23, 69, 25⟩) ⟨by decide +kernel, by decide +kernel⟩ (by decide +kernel) (by decide +kernel) (BR.mkT KX G ?a1 ?a2 ?a3 ?a4 ?a5 ?a6 ?a7 ?a8 ?a9 ?a10 ?a11 ?a12 ?tp) (BR.mkI ?a13 ?a14 ?a15 ?a16 ?a17 ?a18) ?hno (fun _ => ⟨_, rfl⟩) (fun _ => rfl) (fun _ _ _ _ _ _ _ => rfl) (fun _ _ _ _ _ _ _ => rfl)
      (case a1 => k_is)
      (case a2 => k_is)
      (case a3 => k_is)
      (case a4 => kernel_rfl)
      (case a5 => kernel_rfl)
      (case a6 => k_is)
      (case a7 => k_is)
      (case a8 => k_is)
      (case a9 => k_is)
      (case a10 => k_is)
      (case a11 => k_is)
      (case a12 => k_is)
      (case tp => kernel_rfl)
      (case a13 => k_is)
      (case a14 => k_is)
      (case a15 => k_is)
      (case a16 => rfl)
      (case a17 => kernel_rfl)
      (case a18 => k_is)
      (case hno => k_is)
    case e13 =>
      refine' BR.erc1 (msg := "not a row") (p := ⟨⟨75, 8, 75, 13⟩, ⟨75, 8, 75, 15⟩, ⟨75, 8, 75, 24⟩, ⟨75, 25, 75, 36⟩, ⟨75, 8, 75, 37⟩, ⟨75, 8, 75, 37⟩⟩) (q := ⟨⟨76, 8, 76, 12⟩, ⟨76, 8, 76, 15⟩, ⟨76, 18, 76, 20⟩, ⟨76, 8, 76, 20⟩, ⟨0, 0, 0, 0⟩, ⟨0, 0, 0, 0⟩⟩) (pa := ⟨74, 17, 74, 21⟩) (pb := ⟨74, 23, 74, 25⟩) ⟨by decide +kernel, by decide +kernel⟩ (by decide +kernel) (by decide +kernel) (BR.mkT KX G ?a1 ?a2 ?a3 ?a4 ?a5 ?a6 ?a7 ?a8 ?a9 ?a10 ?a11 ?a12 ?tp) (BR.mkI ?a13 ?a14 ?a15 ?a16 ?a17 ?a18) ?hno (fun _ => ⟨_, rfl⟩) (fun _ => rfl) (fun _ _ _ _ _ _ _ => rfl) (fun _ _ _ _ _ _ _ => rfl)
      (case a1 => k_is)
      (case a2 => k_is)
      (case a3 => k_is)
      (case a4 => kernel_rfl)
      (case a5 => kernel_rfl)
      (case a6 => k_is)
      (case a7 => k_is)
      (case a8 => k_is)
      (case a9 => k_is)
      (case a10 => k_is)
      (case a11 => k_is)
      (case a12 => k_is)
      (case tp => kernel_rfl)
      (case a13 => k_is)
      (case a14 => k_is)
      (case a15 => k_is)
      (case a16 => rfl)
      (case a17 => kernel_rfl)
      (case a18 => k_is)
      (case hno => k_is)
    case e14 =>
      refine' BR.erc1 (msg := "not a replacement") (p := ⟨⟨96, 8, 96, 13⟩, ⟨96, 8, 96, 15⟩, ⟨96, 8, 96, 24⟩, ⟨96, 25, 96, 44⟩, ⟨96, 8, 96, 45⟩, ⟨96, 8, 96, 45⟩⟩) (q := ⟨⟨97, 8, 97, 12⟩, ⟨97, 8, 97, 15⟩, ⟨97, 18, 97, 20⟩, ⟨97, 8, 97, 20⟩, ⟨0, 0, 0, 0⟩, ⟨0, 0, 0, 0⟩⟩) (pa := ⟨95, 17, 95, 21⟩) (pb := ⟨95, 23, 95, 25⟩) ⟨by decide +kernel, by decide +kernel⟩ (by decide +kernel) (by decide +kernel) (BR.mkT KX G ?a1 ?a2 ?a3 ?a4 ?a5 ?a6 ?a7 ?a8 ?a9 ?a10 ?a11 ?a12 ?tp) (BR.mkI ?a13 ?a14 ?a15 ?a16 ?a17 ?a18) ?hno (fun _ => ⟨_, rfl⟩) (fun _ => rfl) (fun _ _ _ _ _ _ _ => rfl) (fun _ _ _ _ _ _ _ => rfl)
      (case a1 => k_is)
      (case a2 => k_is)
      (case a3 => k_is)
      (case a4 => kernel_rfl)
      (case a5 => kernel_rfl)
      (case a6 => k_is)
      (case a7 => k_is)
      (case a8 => k_is)
      (case a9 => k_is)
      (case a10 => k_is)
      (case a11 => k_is)
      (case a12 => k_is)
      (case tp => kernel_rfl)
      (case a13 => k_is)
      (case a14 => k_is)
      (case a15 => k_is)
      (case a16 => rfl)
      (case a17 => kernel_rfl)
      (case a18 => k_is)
      (case hno => k_is)
    case e15 =>
      refine' BR.erc1 (msg := "no right text stands behind this one") (p := ⟨⟨80, 8, 80, 13⟩, ⟨80, 8, 80, 15⟩, ⟨80, 8, 80, 24⟩, ⟨80, 25, 80, 63⟩, ⟨80, 8, 80, 64⟩, ⟨80, 8, 80, 64⟩⟩) (q := ⟨⟨81, 8, 81, 12⟩, ⟨81, 8, 81, 17⟩, ⟨81, 20, 81, 24⟩, ⟨81, 8, 81, 24⟩, ⟨0, 0, 0, 0⟩, ⟨0, 0, 0, 0⟩⟩) (pa := ⟨79, 17, 79, 21⟩) (pb := ⟨79, 23, 79, 27⟩) ⟨by decide +kernel, by decide +kernel⟩ (by decide +kernel) (by decide +kernel) (BR.mkT KX G ?a1 ?a2 ?a3 ?a4 ?a5 ?a6 ?a7 ?a8 ?a9 ?a10 ?a11 ?a12 ?tp) (BR.mkI ?a13 ?a14 ?a15 ?a16 ?a17 ?a18) ?hno (fun _ => ⟨_, rfl⟩) (fun _ => rfl) (fun _ _ _ _ _ _ _ => rfl) (fun _ _ _ _ _ _ _ => rfl)
      (case a1 => k_is)
      (case a2 => k_is)
      (case a3 => k_is)
      (case a4 => kernel_rfl)
      (case a5 => kernel_rfl)
      (case a6 => k_is)
      (case a7 => k_is)
      (case a8 => k_is)
      (case a9 => k_is)
      (case a10 => k_is)
      (case a11 => k_is)
      (case a12 => k_is)
      (case tp => kernel_rfl)
      (case a13 => k_is)
      (case a14 => k_is)
      (case a15 => k_is)
      (case a16 => rfl)
      (case a17 => kernel_rfl)
      (case a18 => k_is)
      (case hno => k_is)
    case e16 =>
      refine' BR.erc1 (msg := "this text comes of itself") (p := ⟨⟨91, 8, 91, 13⟩, ⟨91, 8, 91, 15⟩, ⟨91, 8, 91, 24⟩, ⟨91, 25, 91, 52⟩, ⟨91, 8, 91, 53⟩, ⟨91, 8, 91, 53⟩⟩) (q := ⟨⟨92, 8, 92, 12⟩, ⟨92, 8, 92, 17⟩, ⟨92, 20, 92, 24⟩, ⟨92, 8, 92, 24⟩, ⟨0, 0, 0, 0⟩, ⟨0, 0, 0, 0⟩⟩) (pa := ⟨90, 17, 90, 21⟩) (pb := ⟨90, 23, 90, 27⟩) ⟨by decide +kernel, by decide +kernel⟩ (by decide +kernel) (by decide +kernel) (BR.mkT KX G ?a1 ?a2 ?a3 ?a4 ?a5 ?a6 ?a7 ?a8 ?a9 ?a10 ?a11 ?a12 ?tp) (BR.mkI ?a13 ?a14 ?a15 ?a16 ?a17 ?a18) ?hno (fun _ => ⟨_, rfl⟩) (fun _ => rfl) (fun _ _ _ _ _ _ _ => rfl) (fun _ _ _ _ _ _ _ => rfl)
      (case a1 => k_is)
      (case a2 => k_is)
      (case a3 => k_is)
      (case a4 => kernel_rfl)
      (case a5 => kernel_rfl)
      (case a6 => k_is)
      (case a7 => k_is)
      (case a8 => k_is)
      (case a9 => k_is)
      (case a10 => k_is)
      (case a11 => k_is)
      (case a12 => k_is)
      (case tp => kernel_rfl)
      (case a13 => k_is)
      (case a14 => k_is)
      (case a15 => k_is)
      (case a16 => rfl)
      (case a17 => kernel_rfl)
      (case a18 => k_is)
      (case hno => k_is)
    case e17 =>
      refine' BR.erc1 (msg := "nothing has this name") (p := ⟨⟨106, 8, 106, 13⟩, ⟨106, 8, 106, 15⟩, ⟨106, 8, 106, 24⟩, ⟨106, 25, 106, 48⟩, ⟨106, 8, 106, 49⟩, ⟨106, 8, 106, 49⟩⟩) (q := ⟨⟨107, 8, 107, 12⟩, ⟨107, 8, 107, 17⟩, ⟨107, 20, 107, 24⟩, ⟨107, 8, 107, 24⟩, ⟨0, 0, 0, 0⟩, ⟨0, 0, 0, 0⟩⟩) (pa := ⟨105, 17, 105, 21⟩) (pb := ⟨105, 23, 105, 27⟩) ⟨by decide +kernel, by decide +kernel⟩ (by decide +kernel) (by decide +kernel) (BR.mkT KX G ?a1 ?a2 ?a3 ?a4 ?a5 ?a6 ?a7 ?a8 ?a9 ?a10 ?a11 ?a12 ?tp) (BR.mkI ?a13 ?a14 ?a15 ?a16 ?a17 ?a18) ?hno (fun _ => ⟨_, rfl⟩) (fun _ => rfl) (fun _ _ _ _ _ _ _ => rfl) (fun _ _ _ _ _ _ _ => rfl)
      (case a1 => k_is)
      (case a2 => k_is)
      (case a3 => k_is)
      (case a4 => kernel_rfl)
      (case a5 => kernel_rfl)
      (case a6 => k_is)
      (case a7 => k_is)
      (case a8 => k_is)
      (case a9 => k_is)
      (case a10 => k_is)
      (case a11 => k_is)
      (case a12 => k_is)
      (case tp => kernel_rfl)
      (case a13 => k_is)
      (case a14 => k_is)
      (case a15 => k_is)
      (case a16 => rfl)
      (case a17 => kernel_rfl)
      (case a18 => k_is)
      (case hno => k_is)
    case e18 =>
      refine' BR.erc1 (msg := "not a command") (p := ⟨⟨125, 8, 125, 13⟩, ⟨125, 8, 125, 15⟩, ⟨125, 8, 125, 24⟩, ⟨125, 25, 125, 40⟩, ⟨125, 8, 125, 41⟩, ⟨125, 8, 125, 41⟩⟩) (q := ⟨⟨126, 8, 126, 12⟩, ⟨126, 8, 126, 17⟩, ⟨126, 20, 126, 24⟩, ⟨126, 8, 126, 24⟩, ⟨0, 0, 0, 0⟩, ⟨0, 0, 0, 0⟩⟩) (pa := ⟨124, 17, 124, 21⟩) (pb := ⟨124, 23, 124, 27⟩) ⟨by decide +kernel, by decide +kernel⟩ (by decide +kernel) (by decide +kernel) (BR.mkT KX G ?a1 ?a2 ?a3 ?a4 ?a5 ?a6 ?a7 ?a8 ?a9 ?a10 ?a11 ?a12 ?tp) (BR.mkI ?a13 ?a14 ?a15 ?a16 ?a17 ?a18) ?hno (fun _ => ⟨_, rfl⟩) (fun _ => rfl) (fun _ _ _ _ _ _ _ => rfl) (fun _ _ _ _ _ _ _ => rfl)
      (case a1 => k_is)
      (case a2 => k_is)
      (case a3 => k_is)
      (case a4 => kernel_rfl)
      (case a5 => kernel_rfl)
      (case a6 => k_is)
      (case a7 => k_is)
      (case a8 => k_is)
      (case a9 => k_is)
      (case a10 => k_is)
      (case a11 => k_is)
      (case a12 => k_is)
      (case tp => kernel_rfl)
      (case a13 => k_is)
      (case a14 => k_is)
      (case a15 => k_is)
      (case a16 => rfl)
      (case a17 => kernel_rfl)
      (case a18 => k_is)
      (case hno => k_is)
    case e19 =>
      refine' BR.erc2 (msg := "the misreading makes two texts one") (p := ⟨⟨54, 8, 54, 13⟩, ⟨54, 8, 54, 15⟩, ⟨54, 8, 54, 24⟩, ⟨54, 25, 54, 61⟩, ⟨54, 8, 54, 62⟩, ⟨54, 8, 54, 62⟩⟩) (q := ⟨⟨55, 8, 55, 12⟩, ⟨55, 8, 55, 16⟩, ⟨55, 19, 55, 22⟩, ⟨55, 8, 55, 22⟩, ⟨0, 0, 0, 0⟩, ⟨0, 0, 0, 0⟩⟩) (r' := ⟨⟨56, 8, 56, 12⟩, ⟨56, 8, 56, 18⟩, ⟨56, 21, 56, 26⟩, ⟨56, 8, 56, 26⟩, ⟨0, 0, 0, 0⟩, ⟨0, 0, 0, 0⟩⟩) (pa := ⟨53, 17, 53, 21⟩) (pb := ⟨53, 23, 53, 26⟩) (pc := ⟨53, 28, 53, 33⟩) ⟨by decide +kernel, by decide +kernel⟩ ⟨by decide +kernel, by decide +kernel⟩ (by decide +kernel) ⟨by decide +kernel, by decide +kernel, by decide +kernel, by decide +kernel⟩ (BR.mkT KX G ?a1 ?a2 ?a3 ?a4 ?a5 ?a6 ?a7 ?a8 ?a9 ?a10 ?a11 ?a12 ?tp) (BR.mkI ?a13 ?a14 ?a15 ?a16 ?a17 ?a18) ?hno ?hno2 (fun _ => ⟨_, rfl⟩) (fun _ => rfl) (fun _ => rfl) (fun _ _ _ _ _ _ _ _ => rfl) (fun _ _ _ _ _ _ _ _ => rfl)
      (case a1 => k_is)
      (case a2 => k_is)
      (case a3 => k_is)
      (case a4 => kernel_rfl)
      (case a5 => kernel_rfl)
      (case a6 => k_is)
      (case a7 => k_is)
      (case a8 => k_is)
      (case a9 => k_is)
      (case a10 => k_is)
      (case a11 => k_is)
      (case a12 => k_is)
      (case tp => kernel_rfl)
      (case a13 => k_is)
      (case a14 => k_is)
      (case a15 => k_is)
      (case a16 => rfl)
      (case a17 => kernel_rfl)
      (case a18 => k_is)
      (case hno => k_is)
      (case hno2 => k_is)
    case e20 =>
      refine' BR.erc2 (msg := "several right texts stand behind this one") (p := ⟨⟨85, 8, 85, 13⟩, ⟨85, 8, 85, 15⟩, ⟨85, 8, 85, 24⟩, ⟨85, 25, 85, 68⟩, ⟨85, 8, 85, 69⟩, ⟨85, 8, 85, 69⟩⟩) (q := ⟨⟨86, 8, 86, 12⟩, ⟨86, 8, 86, 16⟩, ⟨86, 19, 86, 22⟩, ⟨86, 8, 86, 22⟩, ⟨0, 0, 0, 0⟩, ⟨0, 0, 0, 0⟩⟩) (r' := ⟨⟨87, 8, 87, 12⟩, ⟨87, 8, 87, 18⟩, ⟨87, 21, 87, 26⟩, ⟨87, 8, 87, 26⟩, ⟨0, 0, 0, 0⟩, ⟨0, 0, 0, 0⟩⟩) (pa := ⟨84, 17, 84, 21⟩) (pb := ⟨84, 23, 84, 26⟩) (pc := ⟨84, 28, 84, 33⟩) ⟨by decide +kernel, by decide +kernel⟩ ⟨by decide +kernel, by decide +kernel⟩ (by decide +kernel) ⟨by decide +kernel, by decide +kernel, by decide +kernel, by decide +kernel⟩ (BR.mkT KX G ?a1 ?a2 ?a3 ?a4 ?a5 ?a6 ?a7 ?a8 ?a9 ?a10 ?a11 ?a12 ?tp) (BR.mkI ?a13 ?a14 ?a15 ?a16 ?a17 ?a18) ?hno ?hno2 (fun _ => ⟨_, rfl⟩) (fun _ => rfl) (fun _ => rfl) (fun _ _ _ _ _ _ _ _ => rfl) (fun _ _ _ _ _ _ _ _ => rfl)
      (case a1 => k_is)
      (case a2 => k_is)
      (case a3 => k_is)
      (case a4 => kernel_rfl)
      (case a5 => kernel_rfl)
      (case a6 => k_is)
      (case a7 => k_is)
      (case a8 => k_is)
      (case a9 => k_is)
      (case a10 => k_is)
      (case a11 => k_is)
      (case a12 => k_is)
      (case tp => kernel_rfl)
      (case a13 => k_is)
      (case a14 => k_is)
      (case a15 => k_is)
      (case a16 => rfl)
      (case a17 => kernel_rfl)
      (case a18 => k_is)
      (case hno => k_is)
      (case hno2 => k_is)
    case e21 =>
      refine' BR.erc2 (msg := "too many") (p := ⟨⟨113, 8, 113, 13⟩, ⟨113, 8, 113, 15⟩, ⟨113, 8, 113, 24⟩, ⟨113, 25, 113, 35⟩, ⟨113, 8, 113, 36⟩, ⟨113, 8, 113, 36⟩⟩) (q := ⟨⟨114, 8, 114, 12⟩, ⟨114, 8, 114, 17⟩, ⟨114, 20, 114, 24⟩, ⟨114, 8, 114, 24⟩, ⟨0, 0, 0, 0⟩, ⟨0, 0, 0, 0⟩⟩) (r' := ⟨⟨115, 8, 115, 12⟩, ⟨115, 8, 115, 17⟩, ⟨115, 20, 115, 24⟩, ⟨115, 8, 115, 24⟩, ⟨0, 0, 0, 0⟩, ⟨0, 0, 0, 0⟩⟩) (pa := ⟨112, 17, 112, 21⟩) (pb := ⟨112, 23, 112, 27⟩) (pc := ⟨112, 29, 112, 33⟩) ⟨by decide +kernel, by decide +kernel⟩ ⟨by decide +kernel, by decide +kernel⟩ (by decide +kernel) ⟨by decide +kernel, by decide +kernel, by decide +kernel, by decide +kernel⟩ (BR.mkT KX G ?a1 ?a2 ?a3 ?a4 ?a5 ?a6 ?a7 ?a8 ?a9 ?a10 ?a11 ?a12 ?tp) (BR.mkI ?a13 ?a14 ?a15 ?a16 ?a17 ?a18) ?hno ?hno2 (fun _ => ⟨_, rfl⟩) (fun _ => rfl) (fun _ => rfl) (fun _ _ _ _ _ _ _ _ => rfl) (fun _ _ _ _ _ _ _ _ => rfl)
      (case a1 => k_is)
      (case a2 => k_is)
      (case a3 => k_is)
      (case a4 => kernel_rfl)
      (case a5 => kernel_rfl)
      (case a6 => k_is)
      (case a7 => k_is)
      (case a8 => k_is)
      (case a9 => k_is)
      (case a10 => k_is)
      (case a11 => k_is)
      (case a12 => k_is)
      (case tp => kernel_rfl)
      (case a13 => k_is)
      (case a14 => k_is)
      (case a15 => k_is)
      (case a16 => rfl)
      (case a17 => kernel_rfl)
      (case a18 => k_is)
      (case hno => k_is)
      (case hno2 => k_is)
    case e22 =>
      refine' BR.erc2 (msg := "this word cannot stand here") (p := ⟨⟨119, 8, 119, 13⟩, ⟨119, 8, 119, 15⟩, ⟨119, 8, 119, 24⟩, ⟨119, 25, 119, 54⟩, ⟨119, 8, 119, 55⟩, ⟨119, 8, 119, 55⟩⟩) (q := ⟨⟨120, 8, 120, 12⟩, ⟨120, 8, 120, 17⟩, ⟨120, 20, 120, 24⟩, ⟨120, 8, 120, 24⟩, ⟨0, 0, 0, 0⟩, ⟨0, 0, 0, 0⟩⟩) (r' := ⟨⟨121, 8, 121, 12⟩, ⟨121, 8, 121, 17⟩, ⟨121, 20, 121, 24⟩, ⟨121, 8, 121, 24⟩, ⟨0, 0, 0, 0⟩, ⟨0, 0, 0, 0⟩⟩) (pa := ⟨118, 17, 118, 21⟩) (pb := ⟨118, 23, 118, 27⟩) (pc := ⟨118, 29, 118, 33⟩) ⟨by decide +kernel, by decide +kernel⟩ ⟨by decide +kernel, by decide +kernel⟩ (by decide +kernel) ⟨by decide +kernel, by decide +kernel, by decide +kernel, by decide +kernel⟩ (BR.mkT KX G ?a1 ?a2 ?a3 ?a4 ?a5 ?a6 ?a7 ?a8 ?a9 ?a10 ?a11 ?a12 ?tp) (BR.mkI ?a13 ?a14 ?a15 ?a16 ?a17 ?a18) ?hno ?hno2 (fun _ => ⟨_, rfl⟩) (fun _ => rfl) (fun _ => rfl) (fun _ _ _ _ _ _ _ _ => rfl) (fun _ _ _ _ _ _ _ _ => rfl)
      (case a1 => k_is)
      (case a2 => k_is)
      (case a3 => k_is)
      (case a4 => kernel_rfl)
      (case a5 => kernel_rfl)
      (case a6 => k_is)
      (case a7 => k_is)
      (case a8 => k_is)
      (case a9 => k_is)
      (case a10 => k_is)
      (case a11 => k_is)
      (case a12 => k_is)
      (case tp => kernel_rfl)
      (case a13 => k_is)
      (case a14 => k_is)
      (case a15 => k_is)
      (case a16 => rfl)
      (case a17 => kernel_rfl)
      (case a18 => k_is)
      (case hno => k_is)
      (case hno2 => k_is)
    case e23 =>
      refine' BR.mk0 KX G ?a1 ?a3 ?a4 ?a10 ?a12
      (case a1 => k_is)
      (case a3 => k_is)
      (case a4 => kernel_rfl)
      (case a10 => k_is)
      (case a12 => k_is)
    case e24 =>
      refine' BR.mk0 KX G ?a1 ?a3 ?a4 ?a10 ?a12
      (case a1 => k_is)
      (case a3 => k_is)
      (case a4 => kernel_rfl)
      (case a10 => k_is)
      (case a12 => k_is)
    (case gR => k_is)
    (case n_ValueError => k_is)
    (case n_isinstance => k_is)
    (case n_int => k_is)
    (case n_len => k_is)
    (case n_abs => k_is)
    (case n_list => k_is)
    (case n_range => k_is)
    (case n_enumerate => k_is)
    (case n_repr => k_is)
    (case A1 => kernel_rfl)
    (case A2 => kernel_rfl)
    (case aP => k_is)
    (case lP => k_is)
    (case kP => k_is)
    (case qP => k_is)
    (case aD => k_is)
    (case lD => k_is)
    (case kD => k_is)
    (case qD => k_is)
    (case aQ => k_is)
    (case lQ => k_is)
    (case kQ => k_is)
    (case qQ => k_is)
    (case aT => k_is)
    (case lT => k_is)
    (case kT => k_is)
    (case qT => k_is)
    (case aS => k_is)
    (case lS => k_is)
    (case kS => k_is)
    (case qS => k_is)
    (case aB => k_is)
    (case lB => k_is)
    (case kB => k_is)
    (case qB => k_is)
    (case aF => k_is)
    (case lF => k_is)
    (case kF => k_is)
    (case qF => k_is)
    (case aG => k_is)
    (case lG => k_is)
    (case kG => k_is)
    (case qG => k_is)
    (case aK => k_is)
    (case lK => k_is)
    (case kK => k_is)
    (case qK => k_is)
    (case aC => k_is)
    (case lC => k_is)
    (case kC => k_is)
    (case qC => k_is)
    (case aL => k_is)
    (case lL => k_is)
    (case kL => k_is)
    (case qL => k_is)
