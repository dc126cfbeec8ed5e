import PyProof.Rows.All
import Wide.All
import OpenK.AllK
import Wide.FinOn
import KE.KExcSuper
import HandS.ForExc
import HandS.ExcInit
import HandS.ExcValue
import KE.KExcIs
import HandS.ExcField
import HandS.IsInst
import HandS.TryMany
import HandS.ForMost
import HandS.Walk
import HandS.Flow
import HandS.Style
import HandS.More
import HandS.NoneIn
import HandS.StrMore
import HandS.Wide
import HandS.Codes
import HandS.TupAny
import PyProof.StrOps2
import PyProof.Draws
import HandS.Defaults
import KE.KOpsOwn
import HandS.OwnEq
import PyProof.InstNe
import HandS.Lambda
import HandS.EndTab
import HandS.NestedK
import HandS.ClsMeth
import HandS.MakeKw
import HandS.MakeKwOnly
import HandS.IterVal
import KE.KOwnIter
import PyProof.StrWalks
import HandS.IterNext
import PyProof.NeKinds
import PyProof.EqKinds
import PyProof.Rows.StrRev
import PyProof.SliceStr2
import HandS.Replace
import HandS.RaiseMore
import PyProof.Rows.StrSplitCount
import PyProof.Rows.StrSplitAre
import PyProof.StrLawsChain
import HandS.Text
import HandS.Iter
import PySem.Challenge.RW_copyshare_k03_roots_cores_powers_and_tex
set_option Elab.async false
set_option linter.all false
set_option maxRecDepth 100000
set_option maxHeartbeats 4000000
/-! ErrA: the making of an own error whose __init__ says super().__init__('..') and then stores its parameters, at the library's level. -/
namespace PySem
namespace ErrX
open PySem.W PySem.Calls PyProof.Rows PySem.Spec PySem.HandSPX

/-- the statement super().__init__(msg) -/
abbrev sup (msg : Str) (p0 p1 p2 p3 p4 p5 : Pos) : Stmt :=
  .Expr (.Call (.Attribute (.Call (.Name "super" p0) [] [] p1) "__init__" p2) [.Constant (.str msg) 0 p3] [] p4) p5
abbrev sto (f : Str) (q0 q1 q2 q3 : Pos) : Stmt := .Assign [.Attribute (.Name "self" q0) f q1] (.Name f q2) q3

/-- how super().__init__(msg) is evaluated -/
def SupEv (msg : Str) (p0 p1 p2 p3 p4 : Pos) (pl : Sem Bool) (env : Env) : Prop :=
  eval (.Call (.Attribute (.Call (.Name "super" p0) [] [] p1) "__init__" p2) [.Constant (.str msg) 0 p3] [] p4) env = (do
      let ov ← attributeBase (.Call (.Name "super" p0) [] [] p1) "__init__" env (eval (.Call (.Name "super" p0) [] [] p1) env)
      standAt p2.atName
      let (f, first) ← holding [ov] (getMethod ov "__init__" pl)
      callWith p4 f first (backTo p4 (starEach [.Constant (.str msg) 0 p3] env)) [])
/-- what the written part says of an error's class at C, whose __init__ stands at fI -/
structure ECls (prog : Program) (K : Frag) (C fI : Addr) : Prop where
  cls : ∃ nm q N bs bm sn sub ab col dd k0 k1 k2 k3 k5, K.lookup C = some (excClassObj nm q C N bs bm true sn sub ab col dd k0 k1 k2 k3 k5 "ValueError.__new__") ∧ refsVE bm = true ∧
    alongIn K "__init__" bm = some (some (.builtin "ValueError.__init__"))
  sa : findIn K (.ref C) "__setattr__" = some (some (.builtin "object.__setattr__"))
  iC : findIn K (.ref C) "__init__" = some (some (.ref fI))
  tI : typeIn K (.ref fI) = some (.type "function")
  exC : subIn K (.ref C) (.type "BaseException") = some true
  veC : subIn K (.ref C) (.type "ValueError") = some true
  tyC : typeIn K (.ref C) = some (.type "type")
  kC : keepIn K (.ref C) = true
  own : mroIn K C (.ref C) = some true
  noSup : nsIn K mainGlobals "super" = some none
  noAny : nsIn K cStatics "thirdparty.any" = some none
  top : (prog.main.scope.names.lookup ("super" : Str)).isSome = false

structure EFun (prog : Program) (K : Frag) (C fI : Addr) (params : Arguments) (body : List Stmt) (scope : Scope) : Prop where
  fn : ∃ (oc : Value) (od an : Option Addr) (kV doc pm ct : Value) (osl : Array (Option Value)) (qual : Str) (cda cc : Addr) (ccl cl : Value) (cdd cld : Option Addr) (vs : Array Value) (ccs csl : Array (Option Value)) (file : Str) (tf : Tok),
    K.lookup fI = some ⟨oc, od, .func (ksFn "__init__" qual params body scope .none kV doc pm an (.ref cda) ct cc), osl⟩ ∧ codeIn K (.ref cda) qual = true ∧
    K.lookup cda = some ⟨ccl, cdd, .fields vs, ccs⟩ ∧ vs[2]? = some (.str file tf) ∧ ((prog.main.file : Str) == file) = true ∧
    K.lookup cc = some ⟨cl, cld, .cell (some (.ref C)), csl⟩

section
variable {prog : Program} {w : World} {A : Around} {E : Value → Shared → Prop} {s : Shared} {K : Frag} {mg : Str → Option Value} {C fI : Addr}

/-- super().__init__(msg) within the __init__ of C, self at x -/
theorem sup_run {base : Heap} (M : L2.Mod K mg base) (kb : ∀ b o, base.get? b = some o → s.heap.get? b = some o) (T : ECls prog K C fI)
    {qual : Str} {params : Arguments} {body : List Stmt} {scope : Scope} {kV doc pm ct oc : Value} {an od : Option Addr} {osl : Array (Option Value)} {cda cc L : Addr} {ccl cl : Value} {cdd cld : Option Addr} {vs : Array Value} {ccs csl : Array (Option Value)} {file : Str} {tf : Tok} {ar : Arg}
    (lf : K.lookup fI = some ⟨oc, od, .func (ksFn "__init__" qual params body scope .none kV doc pm an (.ref cda) ct cc), osl⟩)
    (lc : K.lookup cda = some ⟨ccl, cdd, .fields vs, ccs⟩) (hvs : vs[2]? = some (.str file tf)) (hfile : ((prog.main.file : Str) == file) = true) (lcc : K.lookup cc = some ⟨cl, cld, .cell (some (.ref C)), csl⟩)
    (hp : (params.posonlyargs ++ params.args).head? = some ar) (hks : scope.names.lookup ("super" : Str) = some .globalImplicit) (hkc : scope.names.lookup ("__class__" : Str) = some .free) (hka : scope.names.lookup ar.arg = some .local) (hk : scope.kind = .function)
    {m : Str → Option Value} (hn : s.heap.Ns L m) {x t0 : Addr} (hm : m ar.arg = some (.ref x)) (hx : s.heap.get? x = some (excO C t0)) (xL : x ≠ L)
    {msg : Str} {p0 p1 p2 p3 p4 p5 : Pos} {rest : List Stmt} {Q : Flow → Shared → Prop} (hin : interactive (ksEnv qual scope L fI (.ref cda) cc) = false) {pl : Sem Bool} (he : SupEv msg p0 p1 p2 p3 p4 pl (ksEnv qual scope L fI (.ref cda) cc))
    (h : ∀ h' t1 tk, (∀ b o, b ≠ x → s.heap.get? b = some o → h'.get? b = some o) → h'.get? x = some (excO C t1) →
      wpAny (model prog w) A (execs rest (ksEnv qual scope L fI (.ref cda) cc)) Q E { s with heap := h', toks := tk }) :
    wpAt (model prog w) A (.func body (ksEnv qual scope L fI (.ref cda) cc)) (execs (sup msg p0 p1 p2 p3 p4 p5 :: rest) (ksEnv qual scope L fI (.ref cda) cc)) Q E s := by
  obtain ⟨nm, q, N, bs, bm, sn, sub, ab, col, dd, k0, k1, k2, k3, k5, hC, hbm, hal⟩ := T.cls
  have X : K.In s.heap := M.kin.keeps kb
  obtain ⟨mb, hb, hbb⟩ := M.blt
  refine ks_wpAt_execs_cons (ks_wpAt_Expr_any (ks_wpAt_MethodCall (pl := pl) (ks_wpAt_super_base (env := ksEnv qual scope L fI (.ref cda) cc) hks hkc (by decide) rfl (X _ _ lf) rfl hp rfl (X _ _ lc) rfl hvs hfile T.top ?_) he) hin)
  refine ks_loadName_global hk hks (loadGlobal_builtin (env := ksEnv qual scope L fI (.ref cda) cc) (M.glob.keeps kb) (mg_none_of M.kin M.glob T.noSup) (hb.keeps kb) ((hbb _ (by decide +kernel)).trans Boot.«super») ⟨rfl, ?_⟩)
  refine wpAny_loadName_free hk hkc rfl ⟨_, X _ _ lcc, rfl⟩ ?_
  refine wpAny_loadName_local hk hka hn hm ?_
  obtain ⟨hp', g, d, t, os⟩ := s
  refine ks_wpAny_isType_cls (X _ _ hC) rfl ⟨rfl, ?_⟩
  refine ks_wpAny_call_super (X _ _ hC) rfl hx rfl (fun c e => by cases e) (looks_mroIn X T.own) (fun h1 e1 kk1 => ?_)
  have X1 : K.In h1 := X.keeps kk1
  have hx1 := kk1 _ _ hx
  have hcl : clsIn K C = some { name := nm, bases := bs, mro := .ref C :: bm, ns := N, qualname := q, hasDict := true, slotNames := sn, subclasses := sub, abstract := ab, collection := col, hasDel := false } := by unfold clsIn; rw [hC] <;> rfl
  have I1 : InstAt h1 x (excO C t0) C none := ⟨hx1, rfl, rfl, trivial⟩
  have hI : Looks (model prog w) h1 (isInstance (.ref x) (.type "ValueError")) true := I1.type.andThen (looks_subIn X1 T.veC)
  refine kxs_getMethod kxs_ValueError e1 (looks_opaque X1 T.noAny) (l₀ := .ref C :: bm) ?_ (l := bm) (by simp [List.dropWhile_cons]) X1 hal hI (ks_ne X1 I1 hcl) (by decide) ?_
  · exact fun A Q E s k q => wpAny_bind ((looks_clsIn X1 hcl) A _ E s k (wpAny_pure q))
  have kk2 : ∀ b o, h1.get? b = some o → (h1.push (kxs_mw "ValueError.__init__" x)).get? b = some o := fun b o e => Heap.get?_push_of_some _ e
  have hu : (h1.push (kxs_mw "ValueError.__init__" x)).get? h1.objs.size = some (kxs_mw "ValueError.__init__" x) := Heap.get?_push_at rfl rfl
  refine kxs_callWith (i := "ValueError.__init__") (x := x) rfl ?_
  refine evalArgs_plain (spliced_cons (x := eval (.Constant (.str msg) 0 p3) (ksEnv qual scope L fI (.ref cda) cc)) ?_)
  refine Constant_str (k := 0) (pos := p3) ?_
  refine spliced_nil ?_
  refine ⟨hu, ?_⟩
  refine wpAny_call (codeAny_of_tree ?_)
  show wpAny _ A.in1 (callAny (.ref h1.objs.size) ⟨_, []⟩) _ _ _
  simp only [callAny]
  refine wpAny_bind (wpAny_load hu ?_)
  simp only [kxs_mw, show (Value.type "method-wrapper" == Value.type "method" || Value.type "method-wrapper" == Value.type "builtin_function_or_method" || Value.type "method-wrapper" == Value.type "method-wrapper") = true by decide, if_true]
  refine KFB.if_so (by decide) ?_
  refine wpAny_bind (check_bound_init F.excBase_ValueError.toExcCallFacts (kk2 _ _ (X1 _ _ hC)) (kk2 _ _ hx1) rfl ?_)
  refine wpAny_bind (wpAny_pure (wpAny_pure ?_))
  refine ⟨plainId_quiet F.excBase_ValueError.init.plain _, codeAny_builtin F.excBase_ValueError.initEntry ?_⟩
  refine exc_init_tree (cls := .ref C) (t0 := t0) (dv := none) (c2 := .none) (c3 := .none) (b4 := .bool false) (kk2 _ _ hx1) (by rw [sizeLine_eq]; show 1 ≤ 16777216; decide) (fun h' k' e' t' => ?_)
  exact wpAt_of_wpAny (h h' _ _ (fun b o hb ho => k' b o hb (kk2 b o (kk1 b o ho))) e')

/-- what __init__ leaves of a fresh error at x: its dict at dx -/
structure InitEnd (h h' : Heap) (x C dx : Addr) (m : Str → Option Value) : Prop where
  keep : ∀ b o, b ≠ x → h.get? b = some o → h'.get? b = some o
  obj : ∃ t1, h'.get? x = some { cls := .ref C, dict := some dx, data := .fields #[.ref t1, .none, .none, .none, .bool false, .none] }
  dbig : h.objs.size ≤ dx
  dne : dx ≠ x
  ns : h'.Ns1 dx m

theorem ld_L {M : Model} {s : Shared} {name : Str} {scope : Scope} {L a cc : Addr} {cd : Value} {m : Str → Option Value} {x : Str} {pos : Pos} {v : Value} {Q : Value → Shared → Prop} {A : Around} {E : Value → Shared → Prop} (hn : s.heap.Ns L m) (hv : m x = some v) (h : Q v s)
    (hk : scope.kind = .function) (hl : scope.names.lookup x = some .local) (hd : (x == ("__debug__" : Str)) = false) :
    wpAny M A (eval (.Name x pos) (ksEnv name scope L a cd cc)) Q E s := wpAny_Name (wpAny_loadName_local hk hl hn hv h) hd

/-- self, then the parameters, as they are bound -/
abbrev bnd (x : Addr) (ps : List Str) (us : List Value) : List (Str × Value) := (("self" : Str), Value.ref x) :: ps.zip us
/-- what binding leaves in the frame: self, then the parameters -/
structure EShape (params : Arguments) (scope : Scope) (ps : List Str) : Prop where
  self : scope.names.lookup ("self" : Str) = some .local
  loc : ∀ f ∈ ps, scope.names.lookup f = some .local ∧ (f == ("self" : Str)) = false ∧ (f == ("__debug__" : Str)) = false
  sup : scope.names.lookup ("super" : Str) = some .globalImplicit
  cls : scope.names.lookup ("__class__" : Str) = some .free
  kind : scope.kind = .function
  co : scope.isCoroutine = false
  gen : scope.isGenerator = false
  cell : ∀ y ∈ scope.names, y.2 ≠ .cell
  par : ∃ p a, (params.posonlyargs ++ params.args).head? = some { arg := "self", annotation := a, pos := p }
  nd : ps.Nodup

/-- the entry of __init__, and its first statement -/
theorem err_enter {base : Heap} (M : L2.Mod K mg base) (kb : ∀ b o, base.get? b = some o → s.heap.get? b = some o) (T : ECls prog K C fI)
    {params : Arguments} {scope : Scope} {msg : Str} {ps : List Str} {p0 p1 p2 p3 p4 p5 : Pos} {rest : List Stmt} (S : EShape params scope ps)
    (F : EFun prog K C fI params (sup msg p0 p1 p2 p3 p4 p5 :: rest) scope)
    {R : Result → Shared → Prop} {x t0 : Addr} {us : List Value} (hx : s.heap.get? x = some (excO C t0)) (hbx : base.get? x = none) (hroom : A.depth < recursionLimit) (hl : us.length = ps.length)
    (hb : ∀ (qual : Str) (kV doc pm ct : Value) (an : Option Addr) (cda cc : Addr), BindsTo s (ksFn "__init__" qual params (sup msg p0 p1 p2 p3 p4 p5 :: rest) scope .none kV doc pm an (.ref cda) ct cc) ⟨.ref x :: us, []⟩ (bnd x ps us))
    (hev : ∀ (L cda cc : Addr) (qual : Str), interactive (ksEnv qual scope L fI (.ref cda) cc) = false ∧ (∃ pl, SupEv msg p0 p1 p2 p3 p4 pl (ksEnv qual scope L fI (.ref cda) cc)))
    (h : ∀ (h' : Heap) (t1 tk cda cc : Addr) (qual : Str) (A' : Around), (∀ b o, b ≠ x → s.heap.get? b = some o → h'.get? b = some o) → s.heap.objs.size ≠ x → h'.get? x = some (excO C t1) →
      h'.Ns s.heap.objs.size (fun y => (bnd x ps us).reverse.lookup y) →
      wpAny (model prog w) A' (execs rest (ksEnv qual scope s.heap.objs.size fI (.ref cda) cc)) (fun f s' => R (.ok (.ret (match f with | .ret v => v | _ => .none))) s') (fun _ _ => False) { s with heap := h', toks := tk }) :
    codeAny (model prog w) A (.call (.ref fI) ⟨.ref x :: us, []⟩) R s := by
  obtain ⟨oc, od, an, kV, doc, pm, ct, osl, qual, cda, cc, ccl, cl, cdd, cld, vs, ccs, csl, file, tf, lf, hcd, lc, hvs, hfile, lcc⟩ := F.fn
  obtain ⟨pp, pa, hp⟩ := S.par
  have X : K.In s.heap := M.kin.keeps kb
  refine ks_codeAny_call_defAt (fd := ksFn "__init__" qual params _ scope .none kV doc pm an (.ref cda) ct cc) (binds := bnd x ps us) hroom (X _ _ lf) rfl (M.nolimit.keeps kb) (codeRec_of X hcd) rfl (hb _ _ _ _ _ _ _ _) S.cell
    (fun y hy => ?_) (fun h₁ hns hk₁ => ?_) S.co S.gen S.kind
  · rcases List.mem_cons.mp hy with rfl | hy
    · exact S.self
    · obtain ⟨f, u⟩ := y
      exact (S.loc f (List.of_mem_zip hy).1).1
  have hxL : s.heap.objs.size ≠ x := Nat.ne_of_gt (Heap.lt_size hx)
  have hx₁ := hk₁ _ _ hx
  obtain ⟨hin, pl, he⟩ := hev s.heap.objs.size cda cc qual
  have m1 : (fun y => List.lookup y (bnd x ps us).reverse) "self" = some (.ref x) := by
    show List.lookup ("self" : Str) ((("self" : Str), Value.ref x) :: ps.zip us).reverse = _
    rw [List.reverse_cons, List.lookup_append]
    have z : List.lookup ("self" : Str) (ps.zip us).reverse = none := by
      rw [List.lookup_eq_none_iff]
      intro p hp'
      have q := (S.loc p.1 (List.of_mem_zip (List.mem_reverse.mp hp')).1).2.1
      have q2 : p.1 ≠ "self" := by simpa using q
      simpa using Ne.symm q2
    rw [z]
    simp
  refine ks_wpAt_mono (sup_run (E := fun _ _ => False) M (fun b o e => hk₁ b o (kb b o e)) T lf lc hvs hfile lcc hp S.sup S.cls S.self S.kind hns m1 hx₁ (Ne.symm hxL) hin he fun h2 t1 tk k2 hx2 => ?_) (fun f s' q => q) (fun e s' q => q.elim)
  refine h h2 t1 tk cda cc qual _ (fun b o hbx ho => k2 b o hbx (hk₁ b o ho)) hxL hx2 ?_
  obtain ⟨o, es, ep, ho, r⟩ := hns
  exact ⟨o, es, ep, k2 _ _ hxL ho, r⟩

/-- self.f = f, the first store: the dict is laid -/
theorem err_sto0 {base h0 : Heap} (M : L2.Mod K mg base) (T : ECls prog K C fI) {scope : Scope} {L cda cc x t1 tk : Addr} {qual f : Str} {q0 q1 q2 q3 : Pos} {rest : List Stmt} {m : Str → Option Value} {v : Value} {Q : Flow → Shared → Prop}
    (kb : ∀ b o, base.get? b = some o → s.heap.get? b = some o) (hx : s.heap.get? x = some (excO C t1)) (hn : s.heap.Ns L m) (hL : L ≠ x) (ms : m "self" = some (.ref x)) (mf : m f = some v)
    (hk : scope.kind = .function) (hs : scope.names.lookup ("self" : Str) = some .local) (hf : scope.names.lookup f = some .local) (hfd : (f == ("__debug__" : Str)) = false) (nof : findIn K (.ref C) f = some none)
    (hsw : swapsWith (.Name f q2) (some (.Attribute (.Name "self" q0) f q1)) q3.line (ksEnv qual scope L fI (.ref cda) cc) = pure false)
    (h : ∀ h' tk' dx, (∀ b o, b ≠ x → s.heap.get? b = some o → h'.get? b = some o) → s.heap.objs.size ≤ dx → dx ≠ x → h'.get? x = some { cls := .ref C, dict := some dx, data := .fields #[.ref t1, .none, .none, .none, .bool false, .none] } →
      h'.Ns1 dx (fun y => if y = f then some v else none) → wpAny (model prog w) A (execs rest (ksEnv qual scope L fI (.ref cda) cc)) Q E { s with heap := h', toks := tk' }) :
    wpAny (model prog w) A (execs (sto f q0 q1 q2 q3 :: rest) (ksEnv qual scope L fI (.ref cda) cc)) Q E s := by
  obtain ⟨nm, q, N, bs, bm, sn, sub, ab, col, dd, k0, k1, k2, k3, k5, hC, hbm, hal⟩ := id T.cls
  have hcl : clsIn K C = some { name := nm, bases := bs, mro := .ref C :: bm, ns := N, qualname := q, hasDict := true, slotNames := sn, subclasses := sub, abstract := ab, collection := col, hasDel := false } := by unfold clsIn; rw [hC] <;> rfl
  have X : K.In s.heap := M.kin.keeps kb
  refine wpAny_execs_cons (plainObj_wpAny_Assign_Attribute ?_ hsw)
  refine ld_L hn mf (ld_L hn ms ?_ hk hs (by decide)) hk hf hfd
  refine set_plain X (ox := excO C t1) (od := none) ⟨hx, rfl, rfl, trivial⟩ T.sa ?_
  obtain ⟨hp, g, d, t, os⟩ := s
  exact exc_osa X hx hcl (show refsVE (.ref C :: bm) = true from hbm) rfl nof (fun h₃ tk₃ dx k₃ dn dne hx₃ hn₃ => h h₃ tk₃ dx k₃ dn dne hx₃ hn₃)
/-- .. a further store -/
theorem err_sto1 {base h0 : Heap} (M : L2.Mod K mg base) (T : ECls prog K C fI) {scope : Scope} {L cda cc x t1 tk dx : Addr} {qual f : Str} {q0 q1 q2 q3 : Pos} {rest : List Stmt} {m m0 : Str → Option Value} {nl : List Str} {v : Value} {Q : Flow → Shared → Prop}
    (kb : ∀ b o, base.get? b = some o → s.heap.get? b = some o) (hx : s.heap.get? x = some { cls := .ref C, dict := some dx, data := .fields #[.ref t1, .none, .none, .none, .bool false, .none] }) (hns : s.heap.Ns1 dx m0) (hw : Within m0 nl) (hz : nl.length ≤ 1000)
    (hn : s.heap.Ns L m) (ms : m "self" = some (.ref x)) (mf : m f = some v)
    (hk : scope.kind = .function) (hs : scope.names.lookup ("self" : Str) = some .local) (hf : scope.names.lookup f = some .local) (hfd : (f == ("__debug__" : Str)) = false) (nof : findIn K (.ref C) f = some none)
    (hsw : swapsWith (.Name f q2) (some (.Attribute (.Name "self" q0) f q1)) q3.line (ksEnv qual scope L fI (.ref cda) cc) = pure false)
    (h : ∀ h' tk', (∀ b o, b ≠ dx → s.heap.get? b = some o → h'.get? b = some o) → h'.Ns1 dx (fun y => if y = f then some v else m0 y) → wpAny (model prog w) A (execs rest (ksEnv qual scope L fI (.ref cda) cc)) Q E { s with heap := h', toks := tk' }) :
    wpAny (model prog w) A (execs (sto f q0 q1 q2 q3 :: rest) (ksEnv qual scope L fI (.ref cda) cc)) Q E s := by
  obtain ⟨nm, q, N, bs, bm, sn, sub, ab, col, dd, k0, k1, k2, k3, k5, hC, hbm, hal⟩ := id T.cls
  have hcl : clsIn K C = some { name := nm, bases := bs, mro := .ref C :: bm, ns := N, qualname := q, hasDict := true, slotNames := sn, subclasses := sub, abstract := ab, collection := col, hasDel := false } := by unfold clsIn; rw [hC] <;> rfl
  have X : K.In s.heap := M.kin.keeps kb
  refine wpAny_execs_cons (plainObj_wpAny_Assign_Attribute ?_ hsw)
  refine ld_L hn mf (ld_L hn ms ?_ hk hs (by decide)) hk hf hfd
  obtain ⟨oD, esD, epD, hoD, hdD, _⟩ := id hns
  refine set_plain X (ox := { cls := .ref C, dict := some dx, data := .fields #[.ref t1, .none, .none, .none, .bool false, .none] }) (od := some oD) ⟨hx, rfl, rfl, hoD⟩ T.sa ?_
  obtain ⟨hp, g, d, t, os⟩ := s
  exact PySem.OEX.osa_old X hx hns hw hz hcl (show refsVE (.ref C :: bm) = true from hbm) rfl nof (fun h₃ tk₃ k₃ hn₃ => h h₃ tk₃ k₃ hn₃)

/-- no field -/
theorem err_init0 {base : Heap} (M : L2.Mod K mg base) (kb : ∀ b o, base.get? b = some o → s.heap.get? b = some o) (T : ECls prog K C fI)
    {params : Arguments} {scope : Scope} {msg : Str} {p0 p1 p2 p3 p4 p5 : Pos} (S : EShape params scope [])
    (F : EFun prog K C fI params [sup msg p0 p1 p2 p3 p4 p5] scope)
    {R : Result → Shared → Prop} {x t0 : Addr} (hx : s.heap.get? x = some (excO C t0)) (hbx : base.get? x = none) (hroom : A.depth < recursionLimit)
    (hb : ∀ (qual : Str) (kV doc pm ct : Value) (an : Option Addr) (cda cc : Addr), BindsTo s (ksFn "__init__" qual params [sup msg p0 p1 p2 p3 p4 p5] scope .none kV doc pm an (.ref cda) ct cc) ⟨[.ref x], []⟩ [("self", .ref x)])
    (hev : ∀ (L cda cc : Addr) (qual : Str), interactive (ksEnv qual scope L fI (.ref cda) cc) = false ∧ (∃ pl, SupEv msg p0 p1 p2 p3 p4 pl (ksEnv qual scope L fI (.ref cda) cc)))
    (hq : ∀ h' tk t1, (∀ b o, b ≠ x → s.heap.get? b = some o → h'.get? b = some o) → h'.get? x = some (excO C t1) → R (.ok (.ret .none)) { s with heap := h', toks := tk }) :
    codeAny (model prog w) A (.call (.ref fI) ⟨[.ref x], []⟩) R s :=
  err_enter (us := []) M kb T S F hx hbx hroom rfl hb hev fun h2 t1 tk cda cc qual A' k2 _ hx2 _ => wpAny_execs_nil (hq h2 tk t1 k2 hx2)

theorem m_self {x : Addr} {ps : List Str} {us : List Value} (h : ∀ f ∈ ps, (f == ("self" : Str)) = false) : (bnd x ps us).reverse.lookup ("self" : Str) = some (.ref x) := by
  show List.lookup ("self" : Str) ((("self" : Str), Value.ref x) :: ps.zip us).reverse = _
  rw [List.reverse_cons, List.lookup_append]
  have z : List.lookup ("self" : Str) (ps.zip us).reverse = none := by
    rw [List.lookup_eq_none_iff]
    intro p hp'
    have q := h p.1 (List.of_mem_zip (List.mem_reverse.mp hp')).1
    have q2 : p.1 ≠ "self" := by simpa using q
    simpa using Ne.symm q2
  rw [z]
  simp

/-- one field -/
theorem err_init1 {base : Heap} (M : L2.Mod K mg base) (kb : ∀ b o, base.get? b = some o → s.heap.get? b = some o) (T : ECls prog K C fI)
    {params : Arguments} {scope : Scope} {msg f : Str} {p0 p1 p2 p3 p4 p5 q0 q1 q2 q3 : Pos} (S : EShape params scope [f])
    (F : EFun prog K C fI params [sup msg p0 p1 p2 p3 p4 p5, sto f q0 q1 q2 q3] scope)
    {R : Result → Shared → Prop} {x t0 : Addr} {v : Value} (hx : s.heap.get? x = some (excO C t0)) (hbx : base.get? x = none) (hroom : A.depth < recursionLimit) (nof : findIn K (.ref C) f = some none)
    (hb : ∀ (qual : Str) (kV doc pm ct : Value) (an : Option Addr) (cda cc : Addr), BindsTo s (ksFn "__init__" qual params [sup msg p0 p1 p2 p3 p4 p5, sto f q0 q1 q2 q3] scope .none kV doc pm an (.ref cda) ct cc) ⟨[.ref x, v], []⟩ [("self", .ref x), (f, v)])
    (hev : ∀ (L cda cc : Addr) (qual : Str), interactive (ksEnv qual scope L fI (.ref cda) cc) = false ∧ (∃ pl, SupEv msg p0 p1 p2 p3 p4 pl (ksEnv qual scope L fI (.ref cda) cc)) ∧
      swapsWith (.Name f q2) (some (.Attribute (.Name "self" q0) f q1)) q3.line (ksEnv qual scope L fI (.ref cda) cc) = pure false)
    (hq : ∀ h' tk dx, InitEnd s.heap h' x C dx (fun y => if y = f then some v else none) → R (.ok (.ret .none)) { s with heap := h', toks := tk }) :
    codeAny (model prog w) A (.call (.ref fI) ⟨[.ref x, v], []⟩) R s := by
  refine err_enter (us := [v]) (ps := [f]) M kb T S F hx hbx hroom rfl hb (fun L cda cc qual => ⟨(hev L cda cc qual).1, (hev L cda cc qual).2.1⟩) fun h2 t1 tk cda cc qual A' k2 hL hx2 hn2 => ?_
  obtain ⟨l1, l2, l3⟩ := S.loc f (by simp)
  refine err_sto0 (h0 := base) (tk := tk) (t1 := t1) (x := x) (v := v) M T (fun b o e => k2 b o (fun z => by rw [z, hbx] at e; cases e) (kb b o e)) hx2 hn2 hL (m_self fun g hg => (S.loc g hg).2.1) ?_ S.kind S.self l1 l3 nof (hev _ _ _ _).2.2 ?_
  · show List.lookup f [(f, v), (("self" : Str), Value.ref x)] = _
    simp
  · intro h3 tk3 dx k3 dn dne hx3 hn3
    refine wpAny_execs_nil (hq h3 tk3 dx ⟨fun b o hb ho => k3 b o hb (k2 b o hb ho), ⟨_, hx3⟩, ?_, dne, hn3⟩)
    have z : s.heap.objs.size ≤ h2.objs.size := by
      obtain ⟨o, es, ep, ho, r⟩ := hn2
      exact Nat.le_of_lt (Heap.lt_size ho)
    exact Nat.le_trans z dn
/-- two fields -/
theorem err_init2 {base : Heap} (M : L2.Mod K mg base) (kb : ∀ b o, base.get? b = some o → s.heap.get? b = some o) (T : ECls prog K C fI)
    {params : Arguments} {scope : Scope} {msg f g : Str} {p0 p1 p2 p3 p4 p5 q0 q1 q2 q3 r0 r1 r2 r3 : Pos} (S : EShape params scope [f, g])
    (F : EFun prog K C fI params [sup msg p0 p1 p2 p3 p4 p5, sto f q0 q1 q2 q3, sto g r0 r1 r2 r3] scope)
    {R : Result → Shared → Prop} {x t0 : Addr} {v u : Value} (hx : s.heap.get? x = some (excO C t0)) (hbx : base.get? x = none) (hroom : A.depth < recursionLimit) (nof : findIn K (.ref C) f = some none) (nog : findIn K (.ref C) g = some none)
    (hb : ∀ (qual : Str) (kV doc pm ct : Value) (an : Option Addr) (cda cc : Addr), BindsTo s (ksFn "__init__" qual params [sup msg p0 p1 p2 p3 p4 p5, sto f q0 q1 q2 q3, sto g r0 r1 r2 r3] scope .none kV doc pm an (.ref cda) ct cc) ⟨[.ref x, v, u], []⟩ [("self", .ref x), (f, v), (g, u)])
    (hev : ∀ (L cda cc : Addr) (qual : Str), interactive (ksEnv qual scope L fI (.ref cda) cc) = false ∧ (∃ pl, SupEv msg p0 p1 p2 p3 p4 pl (ksEnv qual scope L fI (.ref cda) cc)) ∧
      swapsWith (.Name f q2) (some (.Attribute (.Name "self" q0) f q1)) q3.line (ksEnv qual scope L fI (.ref cda) cc) = pure false ∧ swapsWith (.Name g r2) (some (.Attribute (.Name "self" r0) g r1)) r3.line (ksEnv qual scope L fI (.ref cda) cc) = pure false)
    (hq : ∀ h' tk dx, InitEnd s.heap h' x C dx (fun y => if y = g then some u else if y = f then some v else none) → R (.ok (.ret .none)) { s with heap := h', toks := tk }) :
    codeAny (model prog w) A (.call (.ref fI) ⟨[.ref x, v, u], []⟩) R s := by
  refine err_enter (us := [v, u]) (ps := [f, g]) M kb T S F hx hbx hroom rfl hb (fun L cda cc qual => ⟨(hev L cda cc qual).1, (hev L cda cc qual).2.1⟩) fun h2 t1 tk cda cc qual A' k2 hL hx2 hn2 => ?_
  obtain ⟨l1, l2, l3⟩ := S.loc f (by simp)
  obtain ⟨j1, j2, j3⟩ := S.loc g (by simp)
  have gf : f ≠ g := by
    have z := S.nd
    simp at z
    exact z
  have fg : (f == g) = false := by simpa using gf
  have kb2 : ∀ b o, base.get? b = some o → h2.get? b = some o := fun b o e => k2 b o (fun z => by rw [z, hbx] at e; cases e) (kb b o e)
  have ms : (bnd x [f, g] [v, u]).reverse.lookup ("self" : Str) = some (.ref x) := m_self fun g hg => (S.loc g hg).2.1
  have mf : (bnd x [f, g] [v, u]).reverse.lookup f = some v := by
    show List.lookup f [(g, u), (f, v), (("self" : Str), Value.ref x)] = _
    simp [List.lookup_cons, fg]
  have mgg : (bnd x [f, g] [v, u]).reverse.lookup g = some u := by
    show List.lookup g [(g, u), (f, v), (("self" : Str), Value.ref x)] = _
    simp
  refine err_sto0 (h0 := base) (tk := tk) (t1 := t1) (x := x) (v := v) M T kb2 hx2 hn2 hL ms mf S.kind S.self l1 l3 nof (hev _ _ _ _).2.2.1 ?_
  intro h3 tk3 dx k3 dn dne hx3 hn3
  have hn3' : h3.Ns s.heap.objs.size (fun y => (bnd x [f, g] [v, u]).reverse.lookup y) := by
    obtain ⟨o, es, ep, ho, r⟩ := hn2
    exact ⟨o, es, ep, k3 _ _ hL ho, r⟩
  have z : s.heap.objs.size ≤ h2.objs.size := by
    obtain ⟨o, es, ep, ho, r⟩ := hn2
    exact Nat.le_of_lt (Heap.lt_size ho)
  refine err_sto1 (h0 := base) (tk := tk3) (t1 := t1) (x := x) (v := u) (nl := [f]) M T (fun b o e => k3 b o (fun z => by rw [z, hbx] at e; cases e) (kb2 b o e)) hx3 hn3 (Within.cons f v Within.nil) (by simp) hn3' ms mgg S.kind S.self j1 j3 nog (hev _ _ _ _).2.2.2 ?_
  intro h4 tk4 k4 hn4
  refine wpAny_execs_nil (hq h4 tk4 dx ⟨fun b o hb ho => k4 b o (fun y => ?_) (k3 b o hb (k2 b o hb ho)), ⟨_, k4 _ _ (Ne.symm dne) hx3⟩, Nat.le_trans z dn, dne, hn4⟩)
  have q := Heap.lt_size (k2 b o hb ho)
  rw [y] at q
  exact absurd (Nat.lt_of_lt_of_le q dn) (Nat.lt_irrefl _)
end
end ErrX
end PySem

set_option Elab.async false
set_option linter.all false
set_option maxRecDepth 100000
set_option maxHeartbeats 4000000
/-! ErrB: own errors over the layer: made as a value, raised, caught (the caught one is tracked), their fields, isinstance. -/
namespace L2
open PySem PySem.Spec PyProof.Rows

/-- an error object of the class cls, its dict d, at a -/
def EXV (cls : Value) (d : Option Addr) (a : Addr) : HO := .ext fun h => ∃ (oe : Obj) (vs : Array Value), h.get? a = some oe ∧ Zc cls d oe ∧ oe.data = .fields vs
theorem exv_ok {P : Program} {w : World} {H : Hp} {h : Heap} {a : Addr} {cls : Value} {d : Option Addr} {oe : Obj} {vs : Array Value} (e : h.get? a = some oe) (z : Zc cls d oe) (hd : oe.data = .fields vs) : ObjOk P w H h a (EXV cls d a) :=
  ⟨⟨oe, vs, e, z, hd⟩, ⟨oe, e⟩, fun _ _ ⟨o, v, q, r⟩ k => ⟨o, v, k o q, r⟩⟩
theorem exv_at {P : Program} {w : World} {H : Hp} {h : Heap} {a : Addr} {cls : Value} {d : Option Addr} (hok : HOk P w H h) (e : H a = some (EXV cls d a)) : ∃ (oe : Obj) (vs : Array Value), h.get? a = some oe ∧ Zc cls d oe ∧ oe.data = .fields vs := by
  have x : ObjOk P w H h a (.ext fun h => ∃ (oe : Obj) (vs : Array Value), h.get? a = some oe ∧ Zc cls d oe ∧ oe.data = .fields vs) := hok a _ e
  exact x.1

section
variable {X : Cx} {pins : List (Addr × Obj)} {σ : St} {H : Hp} {s : Shared}
/-- an untracked object that is new since the entry is tracked from now on -/
theorem Inv.track {a : Addr} {o : HO} (I : Inv X pins σ H s) (ha : ObjOk X.prog X.w (upd H a o) s.heap a o) (na : H a = none) (nL : a ≠ X.env.locals) (n0 : X.s_0.heap.get? a = none) (nc : ∀ x c, X.env.cells.lookup x = some c → c ≠ a)
    (np : ∀ p ∈ X.pn ++ pins, p.1 ≠ a) : Inv X pins σ (upd H a o) s := by
  have ne0 : ∀ b u, X.s_0.heap.get? b = some u → b ≠ a := fun b u e z => by rw [z, n0] at e; cases e
  refine ⟨I.ok, I.os, I.bare, ⟨I.base.keep, I.base.slot, fun b u e n hx => ?_, I.base.there, fun b xs e => ?_, fun b u xs e => ?_, fun b ps e => ?_⟩, I.loc, I.cell, ?_, fun x c e => ?_, fun p hp => ?_, ?_, I.len⟩
  · rw [upd_ne (ne0 b u e)]; exact I.base.free b u e n hx
  · have q := I.base.tups b xs e
    rw [upd_ne (ne_of_none q na)]; exact q
  · have q := I.base.frzs b u xs e
    rw [upd_ne (ne_of_none q na)]; exact q
  · obtain ⟨m, q⟩ := I.base.tbls b ps e
    exact ⟨m, by rw [upd_ne (ne_of_none q na)]; exact q⟩
  · rw [upd_ne (Ne.symm nL)]; exact I.free
  · rw [upd_ne (nc x c e)]; exact I.freeC x c e
  · obtain ⟨e, n, ne, nf, d⟩ := I.pin p hp
    exact ⟨e, by rw [upd_ne (np p hp)]; exact n, ne, nf, d⟩
  · exact I.hok.laidN (fun _ _ q => q) na ha

theorem Vals.relO : ∀ {ps : List Str} {vs : List V} {us : List Value}, Vals vs us → ∀ f, RelO ((ps.zip vs).lookup f) ((ps.zip us).lookup f)
  | [], _, _, _, f => by simp [RelO]
  | _ :: _, _, _, .nil, f => by simp [RelO]
  | p :: ps, _, _, .cons r t, f => by
    simp only [List.zip_cons_cons, List.lookup_cons]
    cases h : f == p with
    | true => exact r
    | false => exact Vals.relO t f
end

/-- an error's class at C with its __init__ at fI, whose parameters (and fields) are ps -/
structure EMk (prog : Program) (w : World) (K : PySem.W.Frag) (mg : Str → Option Value) (base : Heap) (C fI : Addr) (ps : List Str) : Prop where
  T : PySem.ErrX.ECls prog K C fI
  run : Mod K mg base → ∀ {A : Around} {s : Shared} {R : Result → Shared → Prop} {x t0 : Addr} {us : List Value}, us.length = ps.length → (∀ b o, base.get? b = some o → s.heap.get? b = some o) → s.heap.get? x = some (PySem.HandSPX.excO C t0) →
    base.get? x = none → A.depth < recursionLimit → (∀ h' tk dx, PySem.ErrX.InitEnd s.heap h' x C dx (fun y => (ps.zip us).lookup y) → R (.ok (.ret .none)) { s with heap := h', toks := tk }) →
    codeAny (model prog w) A (.call (.ref fI) ⟨.ref x :: us, []⟩) R s
  no : ∀ f ∈ ps, PySem.W.findIn K (.ref C) f = some none
/-- a made error -/
structure ErrMade (h h' : Heap) (e C d : Addr) (m : Str → Option Value) : Prop where
  keep : ∀ b o, h.get? b = some o → h'.get? b = some o
  new : h.objs.size ≤ e
  obj : ∃ t1 : Addr, h'.get? e = some { cls := .ref C, dict := some d, data := .fields #[.ref t1, .none, .none, .none, .bool false, .none] }
  dbig : h.objs.size ≤ d
  dne : d ≠ e
  ns : h'.Ns1 d m
section
variable {prog : Program} {w : World} {A : Around} {R : Result → Shared → Prop} {s : Shared} {K : PySem.W.Frag} {mg : Str → Option Value} {base : Heap} {C fI : Addr} {ps : List Str}
open PySem.HandSPX in
theorem err_made (M : Mod K mg base) (kb : ∀ b o, base.get? b = some o → s.heap.get? b = some o) (T : EMk prog w K mg base C fI ps) {us : List Value} (hl : us.length = ps.length) (hz : us.length ≤ 1000) (hroom : A.depth + 1 < recursionLimit)
    (hq : ∀ h' tk e d, ErrMade s.heap h' e C d (fun y => (ps.zip us).lookup y) → R (.ok (.ret (.ref e))) { s with heap := h', toks := tk }) :
    codeAny (model prog w) A (.call (.ref C) ⟨us, []⟩) R s := by
  obtain ⟨nm, q, N, bs, bm, sn, sub, ab, col, dd, k0, k1, k2, k3, k5, hC, hbm, hal⟩ := T.T.cls
  have X : K.In s.heap := M.kin.keeps kb
  obtain ⟨hp, g, dr, tk, os⟩ := s
  have k : ∀ b o, hp.get? b = some o → ((hp.push (PySem.W.kdv_tup us)).push (excO C hp.objs.size)).get? b = some o := fun b o e => Heap.get?_push_of_some _ (Heap.get?_push_of_some _ e)
  have hget : ((hp.push (PySem.W.kdv_tup us)).push (excO C hp.objs.size)).get? (hp.objs.size + 1) = some (excO C hp.objs.size) := by heap_get
  have hbx : base.get? (hp.objs.size + 1) = none := by
    cases e : base.get? (hp.objs.size + 1) with
    | none => rfl
    | some o =>
      have z : hp.get? (hp.objs.size + 1) = some o := kb _ _ e
      exact absurd (Nat.lt_of_succ_lt (Heap.lt_size z)) (Nat.lt_irrefl _)
  refine call_own F.excBase_ValueError (fun X => refsVE_contains X bm hbm) (X _ _ hC) (PySem.W.looks_findIn X T.T.iC) (fun self => PySem.W.bind_fn X self T.T.tI) (by rw [sizeLine_eq]; omega) ?_
  refine T.run M (s := ⟨(hp.push (PySem.W.kdv_tup us)).push (excO C hp.objs.size), g, dr, tk, os⟩) hl (fun b o e => k b o (kb b o e)) hget hbx ?_ fun h' tk' dx ⟨k', hx, dn, dne, hns⟩ => ?_
  · show A.depth + 1 < recursionLimit
    exact hroom
  · have old : ∀ b o, hp.get? b = some o → h'.get? b = some o := fun b o e => k' b o (Nat.ne_of_lt (Nat.lt_succ_of_lt (Heap.lt_size e))) (k b o e)
    have z : hp.objs.size + 1 + 1 ≤ dx := by
      have q := dn
      simp only [Heap.size_push] at q
      exact q
    exact ⟨rfl, hq h' tk' (hp.objs.size + 1) dx ⟨old, Nat.le_succ _, hx, Nat.le_trans (Nat.le_trans (Nat.le_succ _) (Nat.le_succ _)) z, dne, hns⟩⟩
end

section
variable {X : Cx} {C fI : Addr} {ps : List Str}
/-- C(..), to be raised -/
def tMkE (C : Addr) (ps : List Str) (ta : TA) : St → Hp → XK → Prop := fun σ H Q => ta σ H fun vs H1 => vs.length = ps.length ∧ ∀ d, H1 d = none → Q (.ref C) (some d) (upd H1 d (.xd (ps.zip vs)))
theorem err_xd {P : Program} {w : World} {H : Hp} {h : Heap} {d : Addr} {vs : List V} {us : List Value} (r : Vals vs us) (hn : h.Ns1 d (fun y => (ps.zip us).lookup y)) : ObjOk P w H h d (.xd (ps.zip vs)) := ⟨_, hn, fun f => Vals.relO r f⟩
theorem pmk_err {x : Str} {es : List Expr} {e : Expr} {ta : TA} {p pos : Pos} {k : Nat} (T : EMk X.prog X.w X.K X.mg X.base C fI ps) (hr : Room k X.A) (hps : ps.length ≤ 1000) (ha : PA X (e :: es) ta) (hm : X.mg x = some (.ref C)) (hg : Gl X x := by rfl) (hdb : (x == ("__debug__" : Str)) = false := by decide)
    (he : starEach (e :: es) X.env = (false, eval e X.env) :: starEach es X.env := by rfl) (hpl : (backTo pos (starEach es X.env)).any (·.1) = false := by rfl) :
    PMk X (.Call (.Name x p) (e :: es) [] pos) (tMkE C ps ta) := by
  intro pins s σ H Q I h
  refine wpAny_Call_Name_kw (ld_glob I hg hm ?_ hdb)
  refine PySem.W.callWith_K (h₀ := X.base) I.ok.mod.kin T.T.kC (thn (ha.run pos pins s σ H _ I h) fun us s1 hh => ?_) he hpl
  obtain ⟨vs, H1, I1, r1, hl, q1⟩ := hh
  refine ⟨I1.kIn, ?_⟩
  show wpAny _ _ (call (.ref C) us) _ _ _
  have hlu : us.length = ps.length := by rw [← r1.length]; exact hl
  obtain ⟨hp, g, dr, tk, os⟩ := s1
  refine wpAny_call (err_made I1.ok.mod I1.bk T hlu (by rw [hlu]; exact hps) (by have := hr.dp; omega) fun h' tk' e d M => ?_)
  show MkP X pins σ Q (.ref e) ⟨h', g, dr, tk', os⟩
  obtain ⟨t1, hoe⟩ := M.obj
  obtain ⟨G', g1, g2⟩ := restrict h' fun b => decide (b ≠ e)
  have gk : ∀ b, b ≠ e → G'.get? b = h'.get? b := fun b hb => g1 b (decide_eq_true hb)
  have ge : G'.get? e = none := g2 e (by simp)
  have old : ∀ b o, hp.get? b = some o → G'.get? b = some o := fun b o q => (gk b (Nat.ne_of_lt (Nat.lt_of_lt_of_le (Heap.lt_size q) M.new))).trans (M.keep b o q)
  have ob : ObjOk X.prog X.w (upd H1 d (.xd (ps.zip vs))) G' d (.xd (ps.zip vs)) := err_xd r1 (M.ns.at fun o q => (gk d M.dne).trans q)
  have J : Inv X pins σ (upd H1 d (.xd (ps.zip vs))) ⟨G', g, dr, tk', os⟩ := I1.laid (t' := tk') old M.dbig ob
  refine ⟨e, _, _, ⟨G', g, dr, tk', os⟩, _, .ref C, some d, rfl, J, fun b o q => ?_, ge, hoe, ⟨rfl, rfl⟩, rfl, rfl, ?_, rfl, I1.bare, raises_own T.T.exC T.T.tyC, q1 d (I1.hok.fresh M.dbig)⟩
  · by_cases hb : b = e
    · have q' : G'.get? b = some o := q
      rw [hb, ge] at q'; cases q'
    · exact (gk b hb).symm.trans q
  · rw [upd_ne (Ne.symm M.dne)]
    exact I1.hok.fresh M.new
/-- C(..) as a value -/
def tErr (C : Addr) (ps : List Str) (ta : TA) : TE := fun σ H Q => ta σ H fun vs H1 => vs.length = ps.length ∧ ∀ a d, H1 a = none → H1 d = none → d ≠ a → Q (.ref a) (upd (upd H1 d (.xd (ps.zip vs))) a (EXV (.ref C) (some d) a))
theorem pe_err {x : Str} {es : List Expr} {e : Expr} {ta : TA} {p pos : Pos} {k : Nat} (T : EMk X.prog X.w X.K X.mg X.base C fI ps) (hr : Room k X.A) (hps : ps.length ≤ 1000) (ha : PA X (e :: es) ta) (hm : X.mg x = some (.ref C)) (hg : Gl X x := by rfl) (hdb : (x == ("__debug__" : Str)) = false := by decide)
    (he : starEach (e :: es) X.env = (false, eval e X.env) :: starEach es X.env := by rfl) (hpl : (backTo pos (starEach es X.env)).any (·.1) = false := by rfl) :
    PE X (.Call (.Name x p) (e :: es) [] pos) (tErr C ps ta) := by
  refine ⟨fun pins s σ H Q I h => ?_⟩
  refine wpAny_Call_Name_kw (ld_glob I hg hm ?_ hdb)
  refine PySem.W.callWith_K (h₀ := X.base) I.ok.mod.kin T.T.kC (thn (ha.run pos pins s σ H _ I h) fun us s1 hh => ?_) he hpl
  obtain ⟨vs, H1, I1, r1, hl, q1⟩ := hh
  refine ⟨I1.kIn, ?_⟩
  show wpAny _ _ (call (.ref C) us) _ _ _
  have hlu : us.length = ps.length := by rw [← r1.length]; exact hl
  obtain ⟨hp, g, dr, tk, os⟩ := s1
  refine wpAny_call (err_made I1.ok.mod I1.bk T hlu (by rw [hlu]; exact hps) (by have := hr.dp; omega) fun h' tk' e d M => ?_)
  obtain ⟨t1, hoe⟩ := M.obj
  have nH : H1 e = none := I1.hok.fresh M.new
  have nD : H1 d = none := I1.hok.fresh M.dbig
  have ob : ObjOk X.prog X.w (upd H1 d (.xd (ps.zip vs))) h' d (.xd (ps.zip vs)) := err_xd r1 M.ns
  have J : Inv X pins σ (upd H1 d (.xd (ps.zip vs))) ⟨h', g, dr, tk', os⟩ := I1.laid (t' := tk') M.keep M.dbig ob
  have lt : ∀ b o, hp.get? b = some o → b ≠ e := fun b o q => Nat.ne_of_lt (Nat.lt_of_lt_of_le (Heap.lt_size q) M.new)
  refine ⟨.ref e, _, J.track (a := e) (o := EXV (.ref C) (some d) e) (exv_ok hoe ⟨rfl, rfl⟩ rfl) (by rw [upd_ne (Ne.symm M.dne)]; exact nH) ?_ ?_ (fun x c hc => ?_) fun p hp' => ?_, rfl, q1 e d nH nD M.dne⟩
  · obtain ⟨m, ⟨o, _, _, ho, _⟩, _⟩ := I1.loc
    exact Ne.symm (lt _ o ho)
  · cases q : X.s_0.heap.get? e with
    | none => rfl
    | some o => exact absurd (Nat.lt_of_lt_of_le (Heap.lt_size q) (Nat.le_trans I1.sz M.new)) (Nat.lt_irrefl _)
  · obtain ⟨v, o, ho, _⟩ := I1.cell x c hc
    exact lt _ o ho
  · obtain ⟨z, _⟩ := I1.pin p hp'
    exact lt _ _ z

/-! ### a field of an error -/
def tExf (f : Str) (te : TE) : TE := fun σ H Q => te σ H fun x H1 => ∃ (a C dd : Addr) (fs : List (Str × V)) (v : V), x = .ref a ∧ H1 a = some (EXV (.ref C) (some dd) a) ∧ H1 dd = some (.xd fs) ∧ fs.lookup f = some v ∧ Q v H1
end

/-- what an own error's class must have for its instances' fields to be read; f is no class attribute -/
structure XfF (K : PySem.W.Frag) (C : Addr) (f : Str) : Prop where
  c : XfC K C
  no : PySem.W.findIn K (.ref C) f = some none
def tExfK (K : PySem.W.Frag) (f : Str) (te : TE) : TE := fun σ H Q => te σ H fun x H1 => ∃ (a C dd : Addr) (fs : List (Str × V)) (v : V), x = .ref a ∧ XfF K C f ∧ H1 a = some (EXV (.ref C) (some dd) a) ∧ H1 dd = some (.xd fs) ∧ fs.lookup f = some v ∧ Q v H1
theorem pe_exf {X : Cx} {e : Expr} {te : TE} {pos : Pos} {n : Str} (he : PE X e te) (hb : attributeBase e n X.env (eval e X.env) = eval e X.env := by rfl) : PE X (.Attribute e n pos) (tExfK X.K n te) := by
  refine ⟨fun pins s σ H Q I h => ?_⟩
  refine attr_of hb (thn (he.run pins s σ H _ I h) fun u s1 hh => ?_)
  obtain ⟨x, H1, I1, rx, a, C, dd, fs, v, ex, T, ea, ed, l, q⟩ := hh
  subst ex
  obtain rfl : u = Value.ref a := rx
  obtain ⟨oe, vs, ha, hz, hd⟩ := exv_at I1.hok ea
  have hx : ObjOk X.prog X.w H1 s1.heap dd (.xd fs) := I1.hok dd _ ed
  obtain ⟨mA, hns, hr⟩ := hx
  obtain ⟨od, ho, hl⟩ := lookIn_ns hns
  obtain ⟨u, hu, ru⟩ := RelO.some_of (v := v) (o := mA n) (by rw [← l]; exact hr n)
  have J : PySem.W.InstAt s1.heap a oe C (some od) := ⟨ha, hz.1, by unfold PySem.W.notCls; rw [hd] <;> rfl, by rw [hz.2]; exact ho⟩
  exact HandSPX.exc_get I1.kIn J T.c.ga T.c.gg T.c.exC (PySem.W.findObj_own T.c.hdC T.no rfl (by rw [hl, hu])) (handed_of ru) ⟨v, H1, I1.tok _, ru, q⟩

/-! ### isinstance of an error -/
structure XiC (K : PySem.W.Frag) (C : Addr) : Prop where
  c : XfC K C
  cl : (PySem.W.clsIn K C).isSome = true
  ha : PySem.W.findIn K (.ref C) "__class__" = some (some (.builtin "object.__class__"))
  hn : PySem.W.specialIn K (.builtin "object.__class__") "__get__" = some (some (.builtin "getset_descriptor.__get__"))
  tk : PySem.W.takesIn K (.builtin "object.__class__") = some true
  hm : PySem.W.mroIn K C (.type "object") = some true
/-- isinstance(x, c): x an error, or any other value -/
def rIsiE (K : PySem.W.Frag) : List V → Hp → VK → Prop := fun xs H Q => ∃ (x c : V) (u : Value) (b : Bool), xs = [x, c] ∧ ClsV c u ∧
  ((∃ t, TyX K H x t ∧ PySem.W.kitOne K t u = some b) ∨ (∃ (a C : Addr) (d : Option Addr), x = .ref a ∧ H a = some (EXV (.ref C) d a) ∧ (∀ dd, d = some dd → ∃ fs, H dd = some (.xd fs)) ∧ XiC K C ∧ PySem.W.kitOne K (.ref C) u = some b)) ∧ Q (.bl b) H
theorem call_isiE {X : Cx} : CallR X (.builtin "isinstance") (rIsiE X.K) := by
  intro pins s σ H xs us Q I r h
  obtain ⟨x, c, u, b, rfl, k, ty, q⟩ := h
  rcases ty with ⟨t, ty, e⟩ | ⟨a, C, d, rfl, ea, hdd, T, e⟩
  · exact call_isi pins s σ H _ us Q I r ⟨x, c, t, u, b, rfl, k, ty, e, q⟩
  · obtain ⟨u1, u2, rfl, r1, r2⟩ := vals2 r
    have e2 := k.eq r2
    subst e2
    obtain rfl : u1 = Value.ref a := r1
    obtain ⟨oe, vs, ha, hz, hd⟩ := exv_at I.hok ea
    cases d with
    | none =>
      have J : PySem.W.InstAt s.heap a oe C none := ⟨ha, hz.1, by unfold PySem.W.notCls; rw [hd] <;> rfl, by rw [hz.2]; exact trivial⟩
      exact PySem.W.kia_one (PySem.W.kitx_exc T.cl T.c.ga T.c.gg T.c.exC T.ha T.hn T.tk T.hm) I.kIn J e (fun z => nomatch z) fun tk => ⟨.bl b, H, I.tok tk, rfl, q⟩
    | some dd =>
      obtain ⟨fs, ed⟩ := hdd dd rfl
      have hx : ObjOk X.prog X.w H s.heap dd (.xd fs) := I.hok dd _ ed
      obtain ⟨mA, hns, hr⟩ := hx
      obtain ⟨od, ho, hl⟩ := lookIn_ns hns
      have J : PySem.W.InstAt s.heap a oe C (some od) := ⟨ha, hz.1, by unfold PySem.W.notCls; rw [hd] <;> rfl, by rw [hz.2]; exact ho⟩
      exact PySem.W.kia_one (PySem.W.kitx_exc T.cl T.c.ga T.c.gg T.c.exC T.ha T.hn T.tk T.hm) I.kIn J e (fun z => nomatch z) fun tk => ⟨.bl b, H, I.tok tk, rfl, q⟩

/-! ### try: body / except X as n: suite / except Y: suite .. -/
/-- the context of an except suite; the caught error is tracked -/
abbrev Cx.suiteE (X : Cx) (a : Addr) (pn : List (Addr × Obj)) : Cx := { X with A := X.A.mark (some (.ref a)), calm := false, pn := pn, xe := fun _ _ => False }
abbrev Clause := Value × Option Nat × (Addr → TS)
/-- what the clauses wish of an error of the body, one after the other -/
def wTry (K : PySem.W.Frag) (Wout : WX) (D : Ends) : List Clause → WX
  | [] => Wout
  | (c, none, ts) :: r => fun cls d σ H => ∃ b, PySem.W.exmOne K cls c = some b ∧ (b = true → ∀ a, H a = none → ts a D σ (upd H a (EXV cls d a))) ∧ (b = false → wTry K Wout D r cls d σ H)
  | (c, some i, ts) :: r => fun cls d σ H => ∃ b, PySem.W.exmOne K cls c = some b ∧
      (b = true → ∀ a, H a = none → ts a { nx := fun σ' H' => D.nx (σ'.set i none) H', rt := D.rt, bk := fun σ' H' => D.bk (σ'.set i none) H', ct := fun σ' H' => D.ct (σ'.set i none) H' } (σ.set i (some (.ref a))) (upd H a (EXV cls d a))) ∧
      (b = false → wTry K Wout D r cls d σ H)
inductive HdsE (X : Cx) : List ExceptHandler → List Clause → Prop
  | nil : HdsE X [] []
  | cons {x : Str} {c : Value} {ts : Addr → TS} {b₀ : Stmt} {suite : List Stmt} {np pos' : Pos} {hds : List ExceptHandler} {l : List Clause} (hc : Names X x c)
      (hsu : ∀ (a : Addr) (pn : List (Addr × Obj)), PSs (X.suiteE a pn) (b₀ :: suite) (ts a)) (r : HdsE X hds l) :
      HdsE X (.ExceptHandler (some (.Name x np)) none (b₀ :: suite) pos' :: hds) ((c, none, ts) :: l)
  | as {x n : Str} {c : Value} {i : Nat} {ts : Addr → TS} {b₀ : Stmt} {suite : List Stmt} {np pos' : Pos} {hds : List ExceptHandler} {l : List Clause} (hc : Names X x c) (hi : X.N[i]? = some n) (hln : X.env.kindOf n = some .local)
      (hsu : ∀ (a : Addr) (pn : List (Addr × Obj)), PSs (X.suiteE a pn) (b₀ :: suite) (ts a)) (r : HdsE X hds l) :
      HdsE X (.ExceptHandler (some (.Name x np)) (some n) (b₀ :: suite) pos' :: hds) ((c, some i, ts) :: l)
section
variable {X : Cx} {pins : List (Addr × Obj)} {σ : St} {H : Hp} {s : Shared}
theorem Cx.Ok.suiteE {X : Cx} (ok : X.Ok) (a : Addr) (pn : List (Addr × Obj)) : (X.suiteE a pn).Ok :=
  ⟨ok.mod, ok.kind, ok.glob, ok.blt, ok.above, ok.inj, ok.has, ok.cab, (fun z => absurd (show false = true from z) Bool.false_ne_true), ok.frames, ok.stk, ok.exf, ok.bs, ok.bsz, ok.noex, ok.exfs, ok.funs, ok.frf⟩
theorem Inv.suiteE (I : Inv X pins σ H s) (a : Addr) : Inv (X.suiteE a (X.pn ++ pins)) [] σ H s :=
  ⟨I.ok.suiteE _ _, I.os, I.bare, I.base, I.loc, I.cell, I.free, I.freeC, fun p hp => I.pin p (by rw [List.append_nil] at hp; exact hp), I.hok, I.len⟩
theorem Inv.unsuiteE {a : Addr} {pn' : List (Addr × Obj)} (I : Inv (X.suiteE a (X.pn ++ pins)) pn' σ H s) (ok : X.Ok) : Inv X pins σ H s :=
  ⟨ok, I.os, I.bare, I.base, I.loc, I.cell, I.free, I.freeC, fun p hp => I.pin p (List.mem_append_left _ hp), I.hok, I.len⟩
end
section
variable {X : Cx} {body : List Stmt} {h₀ : ExceptHandler} {hds : List ExceptHandler} {l : List Clause} {pos : Pos} {tb : WX → TS} {Wout : WX}
theorem ps_tryE (hs : X.stack = X.env :: X.outer) (hf : X.env.frame = some X.env.locals) (hN : X.N.Nodup) (hex : X.ex = []) (tk : Takes X Wout)
    (hb : ∀ (W : WX) (pn : List (Addr × Obj)) (xe : Value → Shared → Prop), Takes (X.tr pn xe) W → PassesOwn (model X.prog X.w) X.A X.env xe → PSs (X.tr pn xe) body (tb W))
    (hh : HdsE X (h₀ :: hds) l) : PS X (.Try body (h₀ :: hds) [] [] pos) (fun D σ H => tb (wTry X.K Wout D l) D σ H) := by
  refine ⟨fun pins s σ H D I h => ?_⟩
  have ok := I.ok
  have hfr : X.A.frames = some (X.env :: X.outer) := by rw [ok.frames, hs]
  refine wpAny_Try_except ?_
  refine wpAny_mono ((hb (wTry X.K Wout D l) (X.pn ++ pins) (fun e s₁ => wpAny (model X.prog X.w) X.A (noteFrame e X.env) (fun _ s₂ => wpAny (model X.prog X.w) X.A (setFlight e none) (fun _ s₃ =>
    wpAny (model X.prog X.w) X.A (handleBy e X.env (h₀ :: hds)) (SP X pins D) X.xe s₃) X.xe s₂) X.xe s₁) (fun u s' xx => ?_) PassesOwn.looking).run [] s σ H D (I.toTry _) h) (fun f s1 hsp => ?_) (fun e s1 he => he)
  · -- the catch
    obtain ⟨a, B, sI, pins', σ', H', cls, d, rfl, J', nb, up, sky, na, os, ag, w⟩ := xx
    have J : Inv X pins σ' H' sI := J'.ofTry ok
    have sky' : Sky B (X.env :: X.outer) a (Zc cls d) X.env.locals s'.heap := by rw [← hs]; exact sky
    show wpAny (model X.prog X.w) X.A (noteFrame (.ref a) X.env) _ _ _
    refine Sky.land Zc.steady hfr hf sky' fun h3 fl3 up3 => ?_
    have J3 : Inv X pins σ' H' { s' with heap := h3 } := J.landed nb fl3.1 (up.trans up3) os ag
    obtain ⟨oe3, vs3, he3, hz3, hd3⟩ := fl3.there
    have notFr : ∀ {h : Heap} {o : Obj} {vs : Array Value}, h.FunFrames B (X.env :: X.outer) → h.get? a = some o → o.data = .fields vs → a ∉ frs (X.env :: X.outer) := fun {h o vs} ff e dd hm => by
      obtain ⟨_, o', e', hnf⟩ := ff.mem hm
      rw [e] at e'; cases e'
      exact hnf _ dd
    have nfr := notFr fl3.2.2.1 he3 hd3
    have nL : a ≠ X.env.locals := fun z => nfr (List.mem_filterMap.mpr ⟨X.env, List.mem_cons_self, by rw [hf, z]⟩)
    have nI : sI.heap.get? a = none := by
      cases e : sI.heap.get? a with
      | none => rfl
      | some o =>
        have z := nb a o e (by rw [hs]; exact nfr)
        rw [fl3.2.1] at z
        cases z
    have n0 : X.s_0.heap.get? a = none := by
      cases e : X.s_0.heap.get? a with
      | none => rfl
      | some o =>
        obtain ⟨o', z⟩ := J.base.there a o e (by rw [hex]; exact fun z => nomatch z)
        rw [nI] at z
        cases z
    have nc : ∀ x c, X.env.cells.lookup x = some c → c ≠ a := fun x c e z => by
      obtain ⟨v, o, ho, _⟩ := J.cell x c e
      rw [z, nI] at ho
      cases ho
    have npn : ∀ p ∈ X.pn ++ pins, p.1 ≠ a := fun p hp z => by
      obtain ⟨e, _⟩ := J.pin p hp
      rw [z, nI] at e
      cases e
    have S3 := J3.suiteE a
    have go : ∀ {hds' : List ExceptHandler} {l' : List Clause}, HdsE X hds' l' → wTry X.K Wout D l' cls d σ' H' →
        wpAny (model X.prog X.w) X.A (handleBy (.ref a) X.env hds') (SP X pins D) X.xe { s' with heap := h3 } := by
      intro hds' l' hk
      have LT : PySem.W.Looks (model X.prog X.w) h3 (typeOf (.ref a)) cls := fun A Q E s k q => wpAny_typeOf_ref (k _ _ he3) (by rw [hz3.1]; exact q)
      have test : ∀ {x : Str} {c : Value} {np : Pos} (hc : Names X x c) {Q : Value → Shared → Prop} {E : Value → Shared → Prop}, Q c { s' with heap := h3 } → wpAny (model X.prog X.w) (X.A.mark (some (.ref a))) (eval (.Name x np) X.env) Q E { s' with heap := h3 } := fun {x c np} hc {Q E} q => by
        obtain ⟨hg, hdbg, hm | ⟨hm, hv, hnn⟩⟩ := hc
        · exact ld_glob (X := X.suiteE a (X.pn ++ pins)) S3 hg hm q hdbg
        · exact ld_blt (X := X.suiteE a (X.pn ++ pins)) S3 hg hm hv q hnn hdbg
      induction hk with
      | nil =>
        intro w
        refine wpAny_handleBy_nil ?_
        obtain ⟨k1, k2, k3, oe, vs, T, oT, ts', he, hz, hd, h1, hr⟩ := id fl3
        unfold PySem.passOn
        refine wpAny_bind (wpAny_field he hd h1 ?_)
        rw [if_neg (show ¬ ((Value.ref T == Value.none) = true) from by simp)]
        have fin : wpAny (model X.prog X.w) X.A (setFlight (.ref a) X.env.frame) (fun _ s4 => wpAny (model X.prog X.w) X.A (throw (.ref a) : Sem Flow) (SP X pins D) X.xe s4) X.xe { s' with heap := h3 } := by
          rw [hf]
          refine HandSPX.setFlight_upZ fl3 fun h4 hh4 up4 => wpAny_throw (tk _ _ ?_)
          exact ⟨a, B, sI, pins, σ', H', cls, d, rfl, J, nb, (up.trans up3).trans up4, .inr (.inr (by rw [hs]; exact hh4)), na, os, ag, w⟩
        first
          | exact wpAny_bind (wpAny_pure (wpAny_bind fin))
          | exact wpAny_bind fin
      | @cons x c ts b₀ suite np pos' hds2 l2 hc hsu r ih =>
        intro w
        obtain ⟨b, hb1, hyes, hno⟩ := w
        refine wpAny_handleBy_cons (codeAny_handlers_test ?_) (by intro q; cases q)
        have LM := PySem.W.exm_one (M := model X.prog X.w) (J3.kIn) LT hb1
        refine test hc (LM.here ?_)
        cases b with
        | true =>
          refine codeAny_handlers_suite ?_
          refine HandSPX.lands_againZ fl3 fun h4 fl4 up4 => ?_
          have J4 : Inv X pins σ' H' { s' with heap := h4 } := J.landed nb fl4.1 ((up.trans up3).trans up4) os ag
          obtain ⟨oe4, vs4, he4, hz4, hd4⟩ := fl4.there
          have S4 := (J4.track (a := a) (o := EXV cls d a) (exv_ok he4 hz4 hd4) na nL n0 nc npn).suiteE a
          refine wpAny_mono ((hsu a (X.pn ++ pins)).run [] _ _ _ _ S4 (hyes rfl a na)) (fun f s6 hsp => ?_) (fun _ _ z => False.elim z)
          cases f with
          | next =>
            obtain ⟨σ6, H6, S6, q6⟩ := hsp
            exact ⟨_, _, S6.unsuiteE ok, q6⟩
          | brk =>
            obtain ⟨σ6, H6, S6, q6⟩ := hsp
            exact ⟨_, _, S6.unsuiteE ok, q6⟩
          | cont =>
            obtain ⟨σ6, H6, S6, q6⟩ := hsp
            exact ⟨_, _, S6.unsuiteE ok, q6⟩
          | ret u =>
            obtain ⟨v6, σ6, H6, S6, r6, q6⟩ := hsp
            exact ⟨_, _, _, S6.unsuiteE ok, r6, q6⟩
        | false =>
          show wpAny _ X.A (handleBy (.ref a) X.env hds2) _ _ _
          exact ih (hno rfl)
      | @as x n c i ts b₀ suite np pos' hds2 l2 hc hi hln hsu r ih =>
        intro w
        obtain ⟨b, hb1, hyes, hno⟩ := w
        refine wpAny_handleBy_cons (codeAny_handlers_test ?_) (by intro q; cases q)
        have LM := PySem.W.exm_one (M := model X.prog X.w) (J3.kIn) LT hb1
        refine test hc (LM.here ?_)
        cases b with
        | true =>
          refine codeAny_handlers_suite_as ?_
          refine HandSPX.lands_againZ fl3 fun h4 fl4 up4 => ?_
          have J4 : Inv X pins σ' H' { s' with heap := h4 } := J.landed nb fl4.1 ((up.trans up3).trans up4) os ag
          obtain ⟨oe4, vs4, he4, hz4, hd4⟩ := fl4.there
          have S4 := (J4.track (a := a) (o := EXV cls d a) (exv_ok he4 hz4 hd4) na nL n0 nc npn).suiteE a
          refine store_ok (X := X.suiteE a (X.pn ++ pins)) (v := .ref a) S4 hN hi (.inl hln) rfl (fun s5 S5 => ?_) (.inr hln)
          refine wpAny_mono ((hsu a (X.pn ++ pins)).run [] s5 _ _ _ S5 (hyes rfl a na)) (fun f s6 hsp => ?_) (fun _ _ z => False.elim z)
          have end_ : ∀ {σ6 : St} {H6 : Hp} {Q : Shared → Prop}, Inv (X.suiteE a (X.pn ++ pins)) [] σ6 H6 s6 → (∀ s7, Inv X pins (σ6.set i none) H6 s7 → Q s7) →
              wpAny (model X.prog X.w) X.A (do bindName X.env n .none; unbindBehindTheSuite X.env n pos') (fun _ s7 => Q s7) X.xe s6 := fun {σ6 H6 Q} S6 hq => gone_ok (S6.unsuiteE ok) hN hi hln hq
          cases f with
          | next =>
            obtain ⟨σ6, H6, S6, q6⟩ := hsp
            exact end_ S6 fun s7 J7 => ⟨_, _, J7, q6⟩
          | brk =>
            obtain ⟨σ6, H6, S6, q6⟩ := hsp
            exact end_ S6 fun s7 J7 => ⟨_, _, J7, q6⟩
          | cont =>
            obtain ⟨σ6, H6, S6, q6⟩ := hsp
            exact end_ S6 fun s7 J7 => ⟨_, _, J7, q6⟩
          | ret u =>
            obtain ⟨v6, σ6, H6, S6, r6, q6⟩ := hsp
            exact end_ S6 fun s7 J7 => ⟨_, _, _, J7, r6, q6⟩
        | false =>
          show wpAny _ X.A (handleBy (.ref a) X.env hds2) _ _ _
          exact ih (hno rfl)
    exact go hh w
  · cases f with
    | next =>
      obtain ⟨σ', H', J', q⟩ := hsp
      exact wpAny_execs_nil ⟨σ', H', J'.ofTry ok, q⟩
    | brk =>
      obtain ⟨σ', H', J', q⟩ := hsp
      exact ⟨σ', H', J'.ofTry ok, q⟩
    | cont =>
      obtain ⟨σ', H', J', q⟩ := hsp
      exact ⟨σ', H', J'.ofTry ok, q⟩
    | ret u =>
      obtain ⟨v, σ', H', J', r, q⟩ := hsp
      exact ⟨v, σ', H', J'.ofTry ok, r, q⟩
end
end L2

set_option Elab.async false
set_option linter.all false
set_option maxRecDepth 100000
set_option maxHeartbeats 4000000
/-! LayA: my own short words over the hand layer: what is known of the heap as a list (Lg), the pen from which a law draws (PenAt), operators of any kinds, calls of defs that may raise, readings step by step (r_*). -/
namespace Cs
open PySem PySem.Spec PyProof.Rows L2

/-! ### what is known of the heap -/
structure Lg (H : Hp) (L : List (Addr × HO)) : Prop where
  get : ∀ p ∈ L, H p.1 = some p.2
  nd : (L.map (·.1)).Nodup
section
variable {H H' : Hp} {L : List (Addr × HO)} {p : Addr} {o o' : HO}
theorem Lg.nil {H : Hp} : Lg H [] := ⟨fun _ h => absurd h (by simp), List.nodup_nil⟩
theorem Lg.at (g : Lg H L) (i : Nat) (h : L[i]? = some (p, o)) : H p = some o := g.get (p, o) (List.mem_of_getElem? h)
theorem Lg.fresh (g : Lg H L) (hp : H p = none) : p ∉ L.map (·.1) := fun h => by
  obtain ⟨q, hq, e⟩ := List.mem_map.mp h
  have z := g.get q hq
  rw [e, hp] at z
  cases z
theorem Lg.new (g : Lg H L) (hp : H p = none) : Lg (upd H p o) ((p, o) :: L) := by
  refine ⟨fun q hq => ?_, ?_⟩
  · rcases List.mem_cons.mp hq with rfl | hq
    · exact upd_same
    · rw [upd_ne (ne_of_none (g.get q hq) hp)]
      exact g.get q hq
  · rw [List.map_cons]
    exact List.nodup_cons.mpr ⟨g.fresh hp, g.nd⟩
theorem Lg.cons (g : Lg H L) (hp : H p = some o) (n : p ∉ L.map (·.1)) : Lg H ((p, o) :: L) := by
  refine ⟨fun q hq => ?_, ?_⟩
  · rcases List.mem_cons.mp hq with rfl | hq
    · exact hp
    · exact g.get q hq
  · rw [List.map_cons]
    exact List.nodup_cons.mpr ⟨n, g.nd⟩
theorem Lg.one (hp : H p = some o) : Lg H [(p, o)] := Lg.nil.cons hp (by simp)
theorem Lg.same (g : Lg H L) (e : Same H H') : Lg H' L := ⟨fun q hq => e _ _ (g.get q hq), g.nd⟩
theorem Lg.tail {x : Addr × HO} (g : Lg H (x :: L)) : Lg H L := ⟨fun q hq => g.get q (List.mem_cons_of_mem _ hq), by
  have z := g.nd
  rw [List.map_cons] at z
  exact (List.nodup_cons.mp z).2⟩
theorem nodup_ixA {l : List Addr} (hN : l.Nodup) {i j : Nat} {x : Addr} (a : l[i]? = some x) (b : l[j]? = some x) : i = j := by
  obtain ⟨h1, e1⟩ := List.getElem?_eq_some_iff.mp a
  obtain ⟨h2, e2⟩ := List.getElem?_eq_some_iff.mp b
  exact (List.getElem_inj hN).mp (e1.trans e2.symm)
theorem set_selfA {α : Type} : ∀ {l : List α} {i : Nat} {x : α}, l[i]? = some x → l.set i x = l
  | _ :: _, 0, _, h => by cases h; rfl
  | a :: l, i + 1, x, h => by
    show a :: l.set i x = a :: l
    rw [set_selfA (l := l) (by simpa using h)]
  | [], i, x, h => by simp at h
theorem Lg.set (g : Lg H L) (i : Nat) (h : L[i]? = some (p, o)) : Lg (upd H p o') (L.set i (p, o')) := by
  have hi : i < L.length := (List.getElem?_eq_some_iff.mp h).1
  have e : (L.set i (p, o')).map (·.1) = L.map (·.1) := by
    rw [List.map_set]
    have z : (L.map (·.1))[i]? = some p := by rw [List.getElem?_map, h]; rfl
    exact set_selfA z
  refine ⟨fun q hq => ?_, by rw [e]; exact g.nd⟩
  obtain ⟨j, hj⟩ := List.mem_iff_getElem?.mp hq
  by_cases hij : i = j
  · subst hij
    rw [List.getElem?_set_self hi] at hj
    cases hj
    exact upd_same
  · rw [List.getElem?_set_ne hij] at hj
    have nq : q.1 ≠ p := fun e => hij (nodup_ixA g.nd (by rw [List.getElem?_map, h]; rfl) (by rw [List.getElem?_map, hj]; exact congrArg some e))
    rw [upd_ne nq]
    exact g.get q (List.mem_of_getElem? hj)
end
theorem same_upd {H : Hp} {p : Addr} {o : HO} (h : H p = none) : Same H (upd H p o) := fun b u e => by
  rw [upd_ne (ne_of_none e h)]
  exact e
/-- an object that H does not know may change -/
theorem same_mut {H H' : Hp} {p : Addr} {o : HO} (e : Same H H') (h : H p = none) : Same H (upd H' p o) := fun b u q => by
  rw [upd_ne (ne_of_none q h)]
  exact e b u q

/-! ### the pen -/
/-- p: the pen's list; c: the cells' list; ns: the cells -/
structure Pen where
  p : Addr
  c : Addr
  ns : List Int
def penO (P : Pen) (spot rest : Int) : HO := .lst [.ref P.c, .int spot, .int rest]
structure PenAt (P : Pen) (n : Nat) (H : Hp) : Prop where
  ex : ∃ spot rest : Int, 0 ≤ spot ∧ spot ≤ n ∧ 0 ≤ rest ∧ H P.p = some (penO P spot rest)
  cells : H P.c = some (.lst (P.ns.map V.int))
  len : P.ns.length ≤ 63
  ne : P.p ≠ P.c
/-- all but the pen is kept -/
def KeepB (P : Pen) (H H' : Hp) : Prop := ∀ b o, b ≠ P.p → H b = some o → H' b = some o
/-- a state in which law's defs run: the pen, drawn from at most n times so far, and what else is known -/
structure PL (P : Pen) (n : Nat) (H : Hp) (L : List (Addr × HO)) : Prop where
  pen : PenAt P n H
  lg : Lg H L
  np : P.p ∉ L.map (·.1)
  nc : P.c ∉ L.map (·.1)
section
variable {P : Pen} {n m : Nat} {H H' H'' : Hp} {L : List (Addr × HO)} {p : Addr} {o o' : HO}
theorem KeepB.refl : KeepB P H H := fun _ _ _ h => h
theorem KeepB.of_same (e : Same H H') : KeepB P H H' := fun b o _ h => e b o h
theorem KeepB.trans (a : KeepB P H H') (b : KeepB P H' H'') : KeepB P H H'' := fun c o n h => b c o n (a c o n h)
theorem KeepB.free (a : KeepB P H H') (h : H' p = none) (hp : PenAt P n H') : H p = none := by
  cases q : H p with
  | none => rfl
  | some o =>
    obtain ⟨s, r, _, _, _, hpp⟩ := hp.ex
    have np : p ≠ P.p := fun z => by rw [z, hpp] at h; cases h
    rw [a p o np q] at h
    cases h
theorem KeepB.new (a : KeepB P H H') (h : H' p = none) : KeepB P H (upd H' p o) := fun b u nb e => by
  have z := a b u nb e
  rw [upd_ne (ne_of_none z h)]
  exact z
theorem KeepB.mut (a : KeepB P H H') (h : H p = none) : KeepB P H (upd H' p o) := fun b u nb e => by
  rw [upd_ne (ne_of_none e h)]
  exact a b u nb e
theorem PenAt.ne_new (h : PenAt P n H) (hp : H p = none) : P.p ≠ p ∧ P.c ≠ p := by
  obtain ⟨_, _, _, _, _, e⟩ := h.ex
  exact ⟨ne_of_none e hp, ne_of_none h.cells hp⟩
theorem PenAt.same (h : PenAt P n H) (e : Same H H') : PenAt P n H' := by
  obtain ⟨s, r, h1, h2, h3, h4⟩ := h.ex
  exact ⟨⟨s, r, h1, h2, h3, e _ _ h4⟩, e _ _ h.cells, h.len, h.ne⟩
theorem PenAt.mono (h : PenAt P n H) (hm : n ≤ m) : PenAt P m H := by
  obtain ⟨s, r, h1, h2, h3, h4⟩ := h.ex
  exact ⟨⟨s, r, h1, by omega, h3, h4⟩, h.cells, h.len, h.ne⟩
theorem PL.at (g : PL P n H L) (i : Nat) (h : L[i]? = some (p, o)) : H p = some o := g.lg.at i h
theorem PL.mono (g : PL P n H L) (hm : n ≤ m) : PL P m H L := ⟨g.pen.mono hm, g.lg, g.np, g.nc⟩
theorem PL.start (h : PenAt P n H) : PL P n H [] := ⟨h, Lg.nil, by simp, by simp⟩
theorem PL.new (g : PL P n H L) (hp : H p = none) : PL P n (upd H p o) ((p, o) :: L) := by
  obtain ⟨h1, h2⟩ := g.pen.ne_new hp
  refine ⟨g.pen.same (same_upd hp), g.lg.new hp, ?_, ?_⟩
  · rw [List.map_cons, List.mem_cons]
    exact fun z => z.elim h1 g.np
  · rw [List.map_cons, List.mem_cons]
    exact fun z => z.elim h2 g.nc
theorem PL.same (g : PL P n H L) (e : Same H H') : PL P n H' L := ⟨g.pen.same e, g.lg.same e, g.np, g.nc⟩
theorem PL.tail {x : Addr × HO} (g : PL P n H (x :: L)) : PL P n H L := ⟨g.pen, g.lg.tail, fun h => g.np (by rw [List.map_cons]; exact List.mem_cons_of_mem _ h), fun h => g.nc (by rw [List.map_cons]; exact List.mem_cons_of_mem _ h)⟩
theorem PL.cons (g : PL P n H L) (hp : H p = some o) (n1 : p ∉ L.map (·.1)) (n2 : p ≠ P.p) (n3 : p ≠ P.c) : PL P n H ((p, o) :: L) := by
  refine ⟨g.pen, g.lg.cons hp n1, ?_, ?_⟩
  · rw [List.map_cons, List.mem_cons]
    exact fun z => z.elim (fun e => n2 e.symm) g.np
  · rw [List.map_cons, List.mem_cons]
    exact fun z => z.elim (fun e => n3 e.symm) g.nc
theorem PL.set (g : PL P n H L) (i : Nat) (h : L[i]? = some (p, o)) : PL P n (upd H p o') (L.set i (p, o')) := by
  have m : p ∈ L.map (·.1) := List.mem_map.mpr ⟨(p, o), List.mem_of_getElem? h, rfl⟩
  have n1 : P.p ≠ p := fun z => g.np (z ▸ m)
  have n2 : P.c ≠ p := fun z => g.nc (z ▸ m)
  have e : (L.set i (p, o')).map (·.1) = L.map (·.1) := by
    rw [List.map_set]
    have z : (L.map (·.1))[i]? = some p := by rw [List.getElem?_map, h]; rfl
    exact set_selfA z
  obtain ⟨s, r, h1, h2, h3, h4⟩ := g.pen.ex
  exact ⟨⟨⟨s, r, h1, h2, h3, by rw [upd_ne n1]; exact h4⟩, by rw [upd_ne n2]; exact g.pen.cells, g.pen.len, g.pen.ne⟩, g.lg.set i h, by rw [e]; exact g.np, by rw [e]; exact g.nc⟩
/-- behind a def that drew -/
theorem PL.drawn (g : PL P n H L) (k : KeepB P H H') (h : PenAt P m H') : PL P m H' L :=
  ⟨h, ⟨fun q hq => k _ _ (fun z => g.np (z ▸ List.mem_map_of_mem hq)) (g.lg.get q hq), g.lg.nd⟩, g.np, g.nc⟩
end

/-! ### texts as lists of code points -/
abbrev S (w : List Nat) : Str := ⟨w.toArray⟩
theorem S_inj {a b : List Nat} : S a = S b ↔ a = b := by
  constructor
  · intro h
    have z := congrArg (fun x : Str => x.cps.toList) h
    simpa using z
  · intro h; rw [h]
theorem S_len (w : List Nat) : (S w).length = w.length := by simp [S, Str.length]
theorem S_app (a b : List Nat) : S a ++ S b = S (a ++ b) := by
  show (⟨a.toArray ++ b.toArray⟩ : Str) = _
  simp [S]

/-! ### operators of several kinds -/
section
variable {X : Cx}
def rAddA : R2 := fun x y H Q => (rI0 (fun i j => .int (i + j)) x y H Q) ∨ (∃ i j, x = .str i ∧ y = .str j ∧ i.length + j.length ≤ sizeLine ∧ Q (.str (i ++ j)) H) ∨ rCat x y H Q
theorem op_addA : OpR X (binaryOp .Add) rAddA := op_add.or (op_add_str.or op_cat)
def rEqA (K : PySem.W.Frag) : R2 := fun x y H Q => rEq x y H Q ∨ rEqD K x y H Q
def rNeA (K : PySem.W.Frag) : R2 := fun x y H Q => rNe x y H Q ∨ rNeD K x y H Q
theorem op_eqA (hu : X.A.units + 64 < cLine) : OpR X (compareOp .Eq) (rEqA X.K) := op_eq.or (op_eqD hu)
theorem op_neA (hu : X.A.units + 64 < cLine) : OpR X (compareOp .NotEq) (rNeA X.K) := op_ne.or (op_neD hu)
def rInA (K : PySem.W.Frag) : R2 := fun x y H Q => (∃ (c : Nat) (z : Str), x = .str ⟨#[c]⟩ ∧ y = .str z ∧ Q (.bl (decide (c ∈ z.cps.toList))) H) ∨ rIn K false x y H Q
def rNiA (K : PySem.W.Frag) : R2 := fun x y H Q => (∃ (c : Nat) (z : Str), x = .str ⟨#[c]⟩ ∧ y = .str z ∧ Q (.bl (!decide (c ∈ z.cps.toList))) H) ∨ rIn K true x y H Q
theorem op_inA : OpR X (compareOp .In) (rInA X.K) := op_in_sign.or op_in_seq
theorem op_niA : OpR X (compareOp .NotIn) (rNiA X.K) := op_notIn_sign.or op_notIn_seq
def rSlA (K : PySem.W.Frag) : V → Option Int → Option Int → Hp → VK → Prop := fun x lo hi H Q => rSlL K x lo hi H Q ∨ rSlS x lo hi H Q
theorem sl_any : SlR X (rSlA X.K) := sl_list.or sl_str

theorem pe_S {x : Str} {w : List Nat} {j : Nat} {pos : Pos} (h : x = S w) : PE X (.Constant (.str x) j pos) (tC (.str (S w))) := by subst h; exact pe_str
/-- o.f: of an instance, or of an error -/
def tAttr (K : PySem.W.Frag) (f : Str) (te : TE) : TE := fun σ H Q => te σ H fun x H1 =>
  (∃ a C dx fs v, x = .ref a ∧ H1 a = some (.ins C dx fs) ∧ Cls K C ∧ NoAttr K C f ∧ fs.lookup f = some v ∧ Q v H1) ∨
  (∃ (a C dd : Addr) (fs : List (Str × V)) (v : V), x = .ref a ∧ XfF K C f ∧ H1 a = some (EXV (.ref C) (some dd) a) ∧ H1 dd = some (.xd fs) ∧ fs.lookup f = some v ∧ Q v H1)
theorem pe_attr {e : Expr} {te : TE} {pos : Pos} {n : Str} (he : PE X e te) (hb : attributeBase e n X.env (eval e X.env) = eval e X.env := by rfl) : PE X (.Attribute e n pos) (tAttr X.K n te) := by
  refine ⟨fun pins s σ H Q I h => ?_⟩
  refine attr_of hb (thn (he.run pins s σ H _ I h) fun u s1 ⟨x, H1, I1, rx, hh⟩ => ?_)
  rcases hh with ⟨a, C, dx, fs, v, ex, ea, c, n, l, q⟩ | ⟨a, C, dd, fs, v, ex, T, ea, ed, l, q⟩
  · subst ex
    obtain rfl : u = Value.ref a := rx
    exact getattr_ok I1 ea c n l fun u' s2 I2 ru => ⟨v, H1, I2, ru, q⟩
  · subst ex
    obtain rfl : u = Value.ref a := rx
    obtain ⟨oe, vs, ha, hz, hd⟩ := exv_at I1.hok ea
    have hx : ObjOk X.prog X.w H1 s1.heap dd (.xd fs) := I1.hok dd _ ed
    obtain ⟨mA, hns, hr⟩ := hx
    obtain ⟨od, ho, hl⟩ := lookIn_ns hns
    obtain ⟨u, hu, ru⟩ := RelO.some_of (v := v) (o := mA n) (by rw [← l]; exact hr n)
    have J : PySem.W.InstAt s1.heap a oe C (some od) := ⟨ha, hz.1, by unfold PySem.W.notCls; rw [hd] <;> rfl, by rw [hz.2]; exact ho⟩
    exact HandSPX.exc_get I1.kIn J T.c.ga T.c.gg T.c.exC (PySem.W.findObj_own T.c.hdC T.no rfl (by rw [hl, hu])) (handed_of ru) ⟨v, H1, I1.tok _, ru, q⟩
end

/-! ### a def that may raise, a class whose __init__ may raise -/
/-- a def that raises nothing -/
structure CalN (P : Program) (w : World) (K : PySem.W.Frag) (mg : Str → Option Value) (base : Heap) (k : Nat) (x : Str) (sp : Sp) : Prop where
  ex : ∃ (f : Addr) (fd : FuncData) (ps : List Str), FnOk P w K mg base CX0 k f fd ps sp ∧ mg x = some (.ref f) ∧ PySem.W.keepIn K (.ref f) = true ∧ Binds K fd ps []
structure CalX (P : Program) (w : World) (K : PySem.W.Frag) (mg : Str → Option Value) (base : Heap) (k : Nat) (x : Str) (sp : Sp) : Prop where
  ex : ∃ (f : Addr) (fd : FuncData) (ps : List Str), FnOk P w K mg base (L2.CX P w) k f fd ps sp ∧ mg x = some (.ref f) ∧ PySem.W.keepIn K (.ref f) = true ∧ Binds K fd ps []
section
variable {X : Cx} {k j : Nat} {C : Addr} {x m : Str} {sp : Sp} {p pos apos : Pos} {e o : Expr} {es : List Expr} {ta : TE} {t : TA} {E : XK} {W : WX}
theorem pe_cX (c : CalX X.prog X.w X.K X.mg X.base k x sp) (hr : Room j X.A) (hk : k ≤ j) (hx : Passes (L2.CX X.prog X.w) X E) (ha : PA X (e :: es) t) (hg : Gl X x := by rfl)
    (hdb : (x == ("__debug__" : Str)) = false := by decide) (he : starEach (e :: es) X.env = (false, eval e X.env) :: starEach es X.env := by rfl) (hpl : (backTo pos (starEach es X.env)).any (·.1) = false := by rfl) :
    PE X (.Call (.Name x p) (e :: es) [] pos) (tCall sp [] E t) := by
  obtain ⟨f, fd, ps, F, hm, kp, b⟩ := c.ex
  exact pe_call F (hr.mono hk) hg hm kp b .nil hx ha hdb he hpl
theorem pe_c0 (c : CalN X.prog X.w X.K X.mg X.base k x sp) (hr : Room j X.A) (hk : k ≤ j) (ha : PA X (e :: es) t) (hg : Gl X x := by rfl)
    (hdb : (x == ("__debug__" : Str)) = false := by decide) (he : starEach (e :: es) X.env = (false, eval e X.env) :: starEach es X.env := by rfl) (hpl : (backTo pos (starEach es X.env)).any (·.1) = false := by rfl) :
    PE X (.Call (.Name x p) (e :: es) [] pos) (tCall sp [] L2.E0 t) := by
  obtain ⟨f, fd, ps, F, hm, kp, b⟩ := c.ex
  exact pe_call F (hr.mono hk) hg hm kp b .nil pass0 ha hdb he hpl
/-- within a try -/
theorem pe_cS (c : CalX X.prog X.w X.K X.mg X.base k x sp) (hr : Room j X.A) (hk : k ≤ j) (tk : Takes X W) (ha : PA X (e :: es) t) (hg : Gl X x := by rfl)
    (hdb : (x == ("__debug__" : Str)) = false := by decide) (he : starEach (e :: es) X.env = (false, eval e X.env) :: starEach es X.env := by rfl) (hpl : (backTo pos (starEach es X.env)).any (·.1) = false := by rfl) :
    PE X (.Call (.Name x p) (e :: es) [] pos) (tCallS sp (WE W) t) := by
  obtain ⟨f, fd, ps, F, hm, kp, b⟩ := c.ex
  exact pe_callS F (hr.mono hk) hg hm kp b (fun σ => passAt tk σ) ha hdb he hpl
structure MakX (P : Program) (w : World) (K : PySem.W.Frag) (mg : Str → Option Value) (base : Heap) (k : Nat) (x : Str) (C : Addr) (sp : Sp) : Prop where
  ex : ∃ (f : Addr) (fd : FuncData) (ps : List Str), Mk K C f ∧ FnOk P w K mg base (L2.CX P w) k f fd ps sp ∧ mg x = some (.ref C) ∧ Binds K fd ps []
theorem pe_mX (c : MakX X.prog X.w X.K X.mg X.base k x C sp) (hr : Room j X.A) (hk : k + 1 ≤ j) (hx : Passes (L2.CX X.prog X.w) X E) (ha : PA X (e :: es) t) (hg : Gl X x := by rfl)
    (hdb : (x == ("__debug__" : Str)) = false := by decide) (he : starEach (e :: es) X.env = (false, eval e X.env) :: starEach es X.env := by rfl) (hpl : (backTo pos (starEach es X.env)).any (·.1) = false := by rfl) :
    PE X (.Call (.Name x p) (e :: es) [] pos) (tMake C sp [] E t) := by
  obtain ⟨f, fd, ps, M, F, hm, b⟩ := c.ex
  exact pe_make M F (hr.mono hk) hg hm b .nil hx ha hdb he hpl
end
end Cs

set_option Elab.async false
set_option linter.all false
set_option maxRecDepth 100000
set_option maxHeartbeats 4000000
/-! TxtA: texts of the eight letters. -/
namespace Cs
open PySem PySem.Spec PyProof.Rows L2

abbrev lets : List Nat := [65, 66, 67, 68, 97, 98, 99, 100]
/-- one of the eight letters -/
def isL (c : Nat) : Bool := lets.contains c
/-- the undoing of a letter -/
def und (c : Nat) : Nat := if c < 97 then c + 32 else c - 32
def AllL (w : List Nat) : Prop := ∀ c ∈ w, isL c = true
theorem isL_mem {c : Nat} (h : isL c = true) : c ∈ lets := by simpa [isL] using h
theorem isL_iff {c : Nat} : isL c = true ↔ c ∈ lets := by simp [isL]
theorem isL_cases {c : Nat} (h : isL c = true) : c = 65 ∨ c = 66 ∨ c = 67 ∨ c = 68 ∨ c = 97 ∨ c = 98 ∨ c = 99 ∨ c = 100 := by
  have z := isL_mem h
  simpa [lets] using z
theorem und_und {c : Nat} (h : isL c = true) : und (und c) = c := by
  rcases isL_cases h with rfl | rfl | rfl | rfl | rfl | rfl | rfl | rfl <;> rfl
theorem und_L {c : Nat} (h : isL c = true) : isL (und c) = true := by
  rcases isL_cases h with rfl | rfl | rfl | rfl | rfl | rfl | rfl | rfl <;> rfl
theorem und_ne {c : Nat} (h : isL c = true) : und c ≠ c := by
  rcases isL_cases h with rfl | rfl | rfl | rfl | rfl | rfl | rfl | rfl <;> decide
theorem und_inj {c d : Nat} (hc : isL c = true) (hd : isL d = true) (h : und c = und d) : c = d := by
  rw [← und_und hc, ← und_und hd, h]

theorem placed_one {w : List Nat} {f : Nat → Nat → List Nat} {g : Nat → Nat} (h : ∀ (i c : Nat), w[i]? = some c → f i c = [g c]) : placed (S w) f = (w.map g).toArray := by
  unfold placed
  apply Array.ext'
  simp only [S, List.mapIdx_toArray, Array.toList_flatten]
  have e : List.mapIdx (fun i c => (f i c).toArray) w = w.map fun c => #[g c] := by
    apply List.ext_getElem?
    intro i
    simp only [List.getElem?_mapIdx, List.getElem?_map]
    cases q : w[i]? with
    | none => rfl
    | some c =>
      simp [h i c q]
  rw [e]
  clear e h
  induction w with
  | nil => rfl
  | cons a w ih => simpa using ih

theorem up_of {c : Nat} (h : isL c = true) : Unicode.isUpper c = decide (c < 97) ∧ Unicode.isLower c = decide (97 ≤ c) ∧ Unicode.isTitle c = false := by
  rcases isL_cases h with rfl | rfl | rfl | rfl | rfl | rfl | rfl | rfl <;> decide +kernel
theorem lowerOf_of {c : Nat} (h : isL c = true) : Unicode.lowerOf c = [if c < 97 then c + 32 else c] := by
  rcases isL_cases h with rfl | rfl | rfl | rfl | rfl | rfl | rfl | rfl <;> decide +kernel
theorem upperOf_of {c : Nat} (h : isL c = true) : Unicode.upperOf c = [if c < 97 then c else c - 32] := by
  rcases isL_cases h with rfl | rfl | rfl | rfl | rfl | rfl | rfl | rfl <;> decide +kernel
theorem lowerAt_of {w : List Nat} {i c : Nat} (h : isL c = true) (hi : w[i]? = some c) : Unicode.lowerAt (S w).cps i = [if c < 97 then c + 32 else c] := by
  unfold Unicode.lowerAt
  have e : (S w).cps[i]? = some c := by simpa using hi
  rw [e]
  have n : (c == 0x3A3) = false := by
    rcases isL_cases h with rfl | rfl | rfl | rfl | rfl | rfl | rfl | rfl <;> rfl
  simp only [n, Bool.false_and, Bool.false_eq_true, if_false]
  exact lowerOf_of h
def low (c : Nat) : Nat := if c < 97 then c + 32 else c
def upp (c : Nat) : Nat := if c < 97 then c else c - 32
theorem swapcase_S {w : List Nat} (h : AllL w) : Txt.swapcase (S w) = S (w.map und) := by
  unfold Txt.swapcase
  rw [placed_one (w := w) (g := und) fun i c hi => ?_]
  have hc := h c (List.mem_of_getElem? hi)
  obtain ⟨h1, h2, _⟩ := up_of hc
  by_cases q : c < 97
  · rw [h1, decide_eq_true q, if_pos rfl, lowerAt_of hc hi]
    simp [und, q]
  · rw [h1, decide_eq_false q, if_neg Bool.false_ne_true, h2, decide_eq_true (by omega : 97 ≤ c), if_pos rfl, upperOf_of hc]
    simp [und, q]
theorem lower_S {w : List Nat} (h : AllL w) : Txt.lower (S w) = S (w.map low) := by
  unfold Txt.lower
  rw [placed_one (w := w) (g := low) fun i c hi => ?_]
  exact lowerAt_of (h c (List.mem_of_getElem? hi)) hi
theorem upper_S {w : List Nat} (h : AllL w) : Txt.upper (S w) = S (w.map upp) := by
  unfold Txt.upper
  rw [placed_one (w := w) (g := upp) fun i c hi => ?_]
  exact upperOf_of (h c (List.mem_of_getElem? hi))
theorem isupper_1 {c : Nat} (h : isL c = true) : Txt.isupper (S [c]) = decide (c < 97) := by
  obtain ⟨h1, h2, h3⟩ := up_of h
  unfold Txt.isupper
  simp only [S, List.any_toArray, List.any_cons, List.any_nil, Bool.or_false, h1, h2, h3]
  by_cases q : c < 97
  · simp [q]
  · simp [q]
theorem startswith_S (a b : List Nat) : Txt.startswith (S a) (S b) = b.isPrefixOf a := by
  unfold Txt.startswith
  rw [S_len, S_len]
  unfold PySem.Builtin.Str.subAt
  rw [S_len]
  have e : ((S a).cps.extract 0 (0 + b.length) == (S b).cps) = decide (a.take b.length = b) := by
    rw [Bool.eq_iff_iff, beq_iff_eq, decide_eq_true_iff]
    constructor
    · intro h
      have z := congrArg Array.toList h
      simpa using z
    · intro h
      apply Array.ext'
      simpa using h
  rw [e, Bool.eq_iff_iff, List.isPrefixOf_iff_prefix, List.prefix_iff_eq_take]
  simp only [Bool.and_eq_true, decide_eq_true_iff, Nat.zero_add]
  constructor
  · intro h; exact h.2.symm
  · intro h
    refine ⟨?_, h.symm⟩
    have z := congrArg List.length h
    rw [List.length_take] at z
    omega
theorem toList_S (w : List Nat) : (S w).cps.toList = w := by simp
/-! ### slices -/
theorem cutS_S (w : List Nat) (lo hi : Option Int) : cutS (S w) lo hi = S ((w.drop (HT.sIx w.length 0 lo)).take (HT.sIx w.length w.length hi - HT.sIx w.length 0 lo)) := by
  unfold cutS
  rw [S_len]
/-- w[:k], 0 ≤ k -/
theorem cut_to (w : List Nat) (k : Nat) : cutS (S w) none (some (k : Int)) = S (w.take k) := by
  rw [cutS_S, HT.sIx_none, HT.sIx_nat]
  simp only [List.drop_zero, Nat.sub_zero]
  by_cases h : k ≤ w.length
  · rw [Nat.min_eq_left h]
  · rw [Nat.min_eq_right (by omega), List.take_length, List.take_of_length_le (by omega)]
/-- w[k:], 0 ≤ k -/
theorem cut_from (w : List Nat) (k : Nat) : cutS (S w) (some (k : Int)) none = S (w.drop k) := by
  rw [cutS_S, HT.sIx_none, HT.sIx_nat]
  congr 2
  by_cases h : k ≤ w.length
  · rw [Nat.min_eq_left h]
    apply List.take_of_length_le
    simp
  · rw [Nat.min_eq_right (by omega)]
    rw [List.drop_of_length_le (by omega : w.length ≤ k), List.drop_length]
    simp
/-- w[:-1] -/
theorem cut_init (w : List Nat) : cutS (S w) none (some (-1)) = S w.dropLast := by
  rw [cutS_S, HT.sIx_none]
  have e : HT.sIx w.length w.length (some (-1)) = w.length - 1 := by
    unfold HT.sIx
    simp only [show (-1 : Int) < 0 by decide, if_true]
    omega
  rw [e, List.dropLast_eq_take]
  simp
/-- w[-1:] -/
theorem cut_last (w : List Nat) : cutS (S w) (some (-1)) none = S (w.drop (w.length - 1)) := by
  rw [cutS_S, HT.sIx_none]
  have e : HT.sIx w.length 0 (some (-1)) = w.length - 1 := by
    unfold HT.sIx
    simp only [show (-1 : Int) < 0 by decide, if_true]
    omega
  rw [e]
  congr 2
  apply List.take_of_length_le
  simp
/-- w[-2:-1] -/
theorem cut_21 (w : List Nat) : cutS (S w) (some (-2)) (some (-1)) = S ((w.drop (w.length - 2)).take (w.length - 1 - (w.length - 2))) := by
  rw [cutS_S]
  have e : HT.sIx w.length 0 (some (-2)) = w.length - 2 := by
    unfold HT.sIx
    simp only [show (-2 : Int) < 0 by decide, if_true]
    omega
  have e' : HT.sIx w.length w.length (some (-1)) = w.length - 1 := by
    unfold HT.sIx
    simp only [show (-1 : Int) < 0 by decide, if_true]
    omega
  rw [e, e']
theorem atI_neg {α : Type} {xs : List α} {k : Nat} {x : α} (h0 : 0 < k) (hk : k ≤ xs.length) (h : xs[xs.length - k]? = some x) : atI xs (-(k : Int)) = some x := by
  unfold atI ixN
  rw [if_neg (by omega), if_pos (by omega)]
  have e : (-(k : Int) + (xs.length : Int)).toNat = xs.length - k := by omega
  rw [e]
  exact h
end Cs

set_option Elab.async false
set_option linter.all false
set_option maxRecDepth 100000
set_option maxHeartbeats 4000000
/-! LayB: readings, step by step. -/
namespace Cs
open PySem PySem.Spec PyProof.Rows L2
/-- x.f -/
def rAttr (K : PySem.W.Frag) (f : Str) (x : V) (H1 : Hp) (Q : VK) : Prop := (∃ a C dx fs v, x = .ref a ∧ H1 a = some (.ins C dx fs) ∧ Cls K C ∧ NoAttr K C f ∧ fs.lookup f = some v ∧ Q v H1) ∨
  (∃ (a C dd : Addr) (fs : List (Str × V)) (v : V), x = .ref a ∧ XfF K C f ∧ H1 a = some (EXV (.ref C) (some dd) a) ∧ H1 dd = some (.xd fs) ∧ fs.lookup f = some v ∧ Q v H1)
section
variable {K : PySem.W.Frag} {σ : L2.St} {H : Hp} {Q : VK} {QT : Bool → Hp → Prop} {QA : List V → Hp → Prop} {QO : Option Int → Hp → Prop} {D : Ends} {ta tb tc te tv : TE} {tA tB' : TT} {t u : TS} {tr : TA} {x y v : V} {i : Nat} {r r' : R2} {g : TG} {f : Str}
/-! ### expressions -/
theorem r_var (h : σ[i]? = some (some v)) (q : Q v H) : tVar i σ H Q := ⟨v, h, q⟩
theorem r_c (q : Q v H) : tC v σ H Q := q
theorem r_op (q : ta σ H fun x H1 => tb σ H1 fun y H2 => r x y H2 Q) : tOp r ta tb σ H Q := q
theorem r_un {ru : V → Hp → VK → Prop} (q : ta σ H fun x H1 => ru x H1 Q) : tUn ru ta σ H Q := q
theorem r_I0 {gg : Int → Int → V} {a b : Int} (q : Q (gg a b) H) : rI0 gg (.int a) (.int b) H Q := ⟨a, b, rfl, rfl, q⟩
theorem r_I {C : Int → Int → Prop} {gg : Int → Int → V} {a b : Int} (c : C a b) (q : Q (gg a b) H) : rI C gg (.int a) (.int b) H Q := ⟨a, b, rfl, rfl, c, q⟩
theorem r_U {gg : Int → V} {a : Int} (q : Q (gg a) H) : rU gg (.int a) H Q := ⟨a, rfl, q⟩
theorem r_addI {a b : Int} (q : Q (.int (a + b)) H) : rAddA (.int a) (.int b) H Q := .inl ⟨a, b, rfl, rfl, q⟩
theorem r_addS {a b : List Nat} (hl : a.length + b.length ≤ 1000000) (q : Q (.str (S (a ++ b))) H) : rAddA (.str (S a)) (.str (S b)) H Q :=
  .inr (.inl ⟨S a, S b, rfl, rfl, by rw [S_len, S_len, sizeLine_eq]; omega, by rw [S_app]; exact q⟩)
theorem r_addL {l b : Addr} {xs zs : List V} (h1 : H l = some (.lst xs)) (h2 : H b = some (.lst zs)) (hl : xs.length + zs.length ≤ 1000000) (q : ∀ p, H p = none → Q (.ref p) (upd H p (.lst (xs ++ zs)))) : rAddA (.ref l) (.ref b) H Q :=
  .inr (.inr ⟨l, b, xs, zs, rfl, rfl, h1, h2, by rw [sizeLine_eq]; omega, q⟩)
theorem r_eqI {a b : Int} (q : Q (.bl (decide (a = b))) H) : rEqA K (.int a) (.int b) H Q := .inl ⟨rfl, by
  have e : decide (V.int a = V.int b) = decide (a = b) := by simp
  rw [e]; exact q⟩
theorem r_neI {a b : Int} (q : Q (.bl (!decide (a = b))) H) : rNeA K (.int a) (.int b) H Q := .inl ⟨rfl, by
  have e : decide (V.int a = V.int b) = decide (a = b) := by simp
  rw [e]; exact q⟩
theorem r_eqS {a b : List Nat} (q : Q (.bl (decide (a = b))) H) : rEqA K (.str (S a)) (.str (S b)) H Q := .inl ⟨rfl, by
  have e : decide (V.str (S a) = V.str (S b)) = decide (a = b) := by simp
  rw [e]; exact q⟩
theorem r_neS {a b : List Nat} (q : Q (.bl (!decide (a = b))) H) : rNeA K (.str (S a)) (.str (S b)) H Q := .inl ⟨rfl, by
  have e : decide (V.str (S a) = V.str (S b)) = decide (a = b) := by simp
  rw [e]; exact q⟩
theorem r_eqB {a b : Bool} (q : Q (.bl (decide (a = b))) H) : rEqA K (.bl a) (.bl b) H Q := .inl ⟨rfl, by
  have e : decide (V.bl a = V.bl b) = decide (a = b) := by simp
  rw [e]; exact q⟩
theorem r_neB {a b : Bool} (q : Q (.bl (!decide (a = b))) H) : rNeA K (.bl a) (.bl b) H Q := .inl ⟨rfl, by
  have e : decide (V.bl a = V.bl b) = decide (a = b) := by simp
  rw [e]; exact q⟩
theorem r_eqD {d e : PyData} (hx : Dp K H x d) (hy : Dp K H y e) (h1 : SeqAt.shaped d = true) (h2 : SeqAt.shaped e = true) (q : Q (.bl (PyData.eqv d e)) H) : rEqA K x y H Q := .inr ⟨d, e, hx, hy, h1, h2, q⟩
theorem r_neD {d e : PyData} (hx : Dp K H x d) (hy : Dp K H y e) (h1 : SeqAt.shaped d = true) (h2 : SeqAt.shaped e = true) (q : Q (.bl (!PyData.eqv d e)) H) : rNeA K x y H Q := .inr ⟨d, e, hx, hy, h1, h2, q⟩
theorem r_inS {c : Nat} {w : List Nat} (q : Q (.bl (decide (c ∈ w))) H) : rInA K (.str (S [c])) (.str (S w)) H Q := .inl ⟨c, S w, rfl, rfl, by rw [toList_S]; exact q⟩
theorem r_niS {c : Nat} {w : List Nat} (q : Q (.bl (!decide (c ∈ w))) H) : rNiA K (.str (S [c])) (.str (S w)) H Q := .inl ⟨c, S w, rfl, rfl, by rw [toList_S]; exact q⟩
theorem r_test (q : te σ H fun x H' => ∃ k, x = .bl k ∧ QT k H') : tTest te σ H QT := q
theorem r_tB (q : te σ H fun x H' => ∃ k, x = .bl k ∧ QT k H') : tB te σ H QT := q
theorem r_bl {b : Bool} {A : Bool → Prop} (q : A b) : ∃ k, V.bl b = .bl k ∧ A k := ⟨b, rfl, q⟩
theorem r_and (q : tA σ H fun c H1 => if c = true then tB' σ H1 QT else QT false H1) : tAnd tA tB' σ H QT := q
theorem r_or (q : tA σ H fun c H1 => if c = true then QT true H1 else tB' σ H1 QT) : tOr tA tB' σ H QT := q
theorem r_not (q : tA σ H fun c H1 => QT (!c) H1) : tNot tA σ H QT := q
theorem r_andV (q : ta σ H fun x H1 => ∃ c, x = .bl c ∧ if c = true then tb σ H1 Q else Q (.bl false) H1) : tAndV ta tb σ H Q := q
theorem r_orV (q : ta σ H fun x H1 => ∃ c, x = .bl c ∧ if c = true then Q (.bl true) H1 else tb σ H1 Q) : tOrV ta tb σ H Q := q
theorem r_notV (q : ta σ H fun x H1 => ∃ c, x = .bl c ∧ Q (.bl (!c)) H1) : tNotV ta σ H Q := q
theorem r_blv {b : Bool} {P : Bool → Prop} (q : P b) : ∃ c, V.bl b = .bl c ∧ P c := ⟨b, rfl, q⟩
theorem r_if (q : tA σ H fun c H1 => if c = true then ta σ H1 Q else tb σ H1 Q) : tIf tA ta tb σ H Q := q
theorem r_ift {A B : Prop} (q : A) : if true = true then A else B := by rw [if_pos rfl]; exact q
theorem r_iff {A B : Prop} (q : B) : if false = true then A else B := by rw [if_neg Bool.false_ne_true]; exact q
theorem r_it {b : Bool} {A B : Prop} (h : b = true) (q : A) : if b = true then A else B := by rw [if_pos h]; exact q
theorem r_ie {b : Bool} {A B : Prop} (h : b = false) (q : B) : if b = true then A else B := by rw [h, if_neg Bool.false_ne_true]; exact q
theorem r_ib {b : Bool} {A B : Prop} (h1 : b = true → A) (h2 : b = false → B) : if b = true then A else B := by
  cases b with
  | true => exact r_ift (h1 rfl)
  | false => exact r_iff (h2 rfl)
theorem r_nil (q : QA [] H) : tNil σ H QA := q
theorem r_cons (q : te σ H fun x H1 => tr σ H1 fun xs H2 => QA (x :: xs) H2) : tCons te tr σ H QA := q
theorem r_tup (q : tr σ H fun xs H1 => xs.length ≤ sizeLine ∧ ∀ p, H1 p = none → Q (.ref p) (upd H1 p (.tup xs))) : tTup tr σ H Q := q
theorem r_lst (q : tr σ H fun xs H1 => xs.length ≤ sizeLine ∧ ∀ p, H1 p = none → Q (.ref p) (upd H1 p (.lst xs))) : tLst tr σ H Q := q
theorem r_sz {xs : List V} {A : Prop} (h : xs.length ≤ 1000000) (q : A) : xs.length ≤ sizeLine ∧ A := ⟨by rw [sizeLine_eq]; omega, q⟩
theorem r_cb {rc : List V → Hp → VK → Prop} (q : tr σ H fun vs H1 => rc vs H1 Q) : tCB rc tr σ H Q := q
theorem r_call {sp : Sp} {dvs : List V} {E : XK} (q : tr σ H fun vs H1 => sp (vs ++ dvs) H1 Q E) : tCall sp dvs E tr σ H Q := q
theorem r_callS {sp : Sp} {E : L2.St → XK} (q : tr σ H fun vs H1 => sp vs H1 Q (E σ)) : tCallS sp E tr σ H Q := q
theorem r_app {vs : List V} {P : List V → Prop} (q : P vs) : P (vs ++ []) := by rw [List.append_nil]; exact q
theorem r_make {C : Addr} {sp : Sp} {dvs : List V} {E : XK} (q : tr σ H fun vs H1 => ∀ x dx, H1 x = none → H1 dx = none → dx ≠ x → sp (.ref x :: (vs ++ dvs)) (upd (upd H1 dx (.own x)) x (.ins C dx [])) (fun v H2 => v = .non ∧ Q (.ref x) H2) E) : tMake C sp dvs E tr σ H Q := q
theorem r_attr (q : te σ H fun x H1 => rAttr K f x H1 Q) : tAttr K f te σ H Q := q
theorem r_sl {rs : V → Option Int → Option Int → Hp → VK → Prop} {tl th : TO} (q : te σ H fun x H1 => tl σ H1 fun l H2 => th σ H2 fun u H3 => rs x l u H3 Q) : tSl rs te tl th σ H Q := q
theorem r_nopart (q : QO none H) : tNoPart σ H QO := q
theorem r_part (q : te σ H fun x H1 => ∃ i, x = .int i ∧ QO (some i) H1) : tPart te σ H QO := q
theorem r_parti {n : Int} {A : Int → Prop} (q : A n) : ∃ i, V.int n = .int i ∧ A i := ⟨n, rfl, q⟩
theorem r_slS {w w' : List Nat} {lo hi : Option Int} (e : cutS (S w) lo hi = S w') (hl : w.length ≤ 1000000) (q : Q (.str (S w')) H) : rSlA K (.str (S w)) lo hi H Q := .inr ⟨S w, rfl, by rw [S_len, sizeLine_eq]; omega, by rw [e]; exact q⟩
theorem r_slL {a : Addr} {xs xs' : List V} {lo hi : Option Int} (h : SqL K H a xs) (e : cutV xs lo hi = xs') (q : ∀ p, H p = none → Q (.ref p) (upd H p (.lst xs'))) : rSlA K (.ref a) lo hi H Q := .inl ⟨a, xs, rfl, h, by rw [e]; exact q⟩
theorem r_ixS {w : List Nat} {n : Int} {c : Nat} (hl : w.length ≤ 1000000) (h : atI w n = some c) (q : Q (.str (S [c])) H) : rIx K (.str (S w)) (.int n) H Q := .inr (.inr ⟨S w, n, c, rfl, rfl, by rw [S_len, sizeLine_eq]; omega, by rw [toList_S]; exact h, q⟩)
theorem r_ixL {a : Addr} {xs : List V} {n : Int} {v : V} (h : SqL K H a xs) (e : atI xs n = some v) (q : Q v H) : rIx K (.ref a) (.int n) H Q := .inl ⟨a, xs, n, v, rfl, rfl, h, e, q⟩
theorem r_ixT {a : Addr} {xs : List V} {n : Int} {v : V} (h : SqT K H a xs) (e : atI xs n = some v) (q : Q v H) : rIx K (.ref a) (.int n) H Q := .inr (.inl ⟨a, xs, n, v, rfl, rfl, h, e, q⟩)
theorem r_bm0 {T : String} {rm : V → List V → Hp → VK → Prop} (q : te σ H fun x H1 => tyV K T x H1 ∧ rm x [] H1 Q) : tBM0 K T rm te σ H Q := q
theorem r_bm {T : String} {rm : V → List V → Hp → VK → Prop} (q : te σ H fun x H1 => tyV K T x H1 ∧ tr σ H1 fun xs H2 => rm x xs H2 Q) : tBM K T rm te tr σ H Q := q
theorem r_tyL {a : Addr} {xs : List V} {A : Prop} (h : SqL K H a xs) (q : A) : tyV K "list" (.ref a) H ∧ A := ⟨.inl ⟨rfl, _, h⟩, q⟩
theorem r_tyS {z : Str} {A : Prop} (q : A) : tyV K "str" (.str z) H ∧ A := ⟨rfl, q⟩
theorem r_dnew (q : ∀ p, H p = none → Q (.ref p) (upd H p (.dK []))) : tDNewK σ H Q := q
theorem r_isi (q : te σ H fun x H1 => tr σ H1 fun xs H2 => rIsiE K (x :: xs) H2 Q) : tCB (rIsiE K) (tCons te tr) σ H Q := q
theorem r_lenS {w : List Nat} (hl : w.length ≤ 1000000) (q : Q (.int (w.length : Nat)) H) : ∃ x n, [V.str (S w)] = [x] ∧ LenV K x H n ∧ Q (.int (n : Nat)) H := ⟨_, w.length, rfl, ⟨by rw [S_len, sizeLine_eq]; omega, (S_len w).symm⟩, q⟩
theorem r_lenL {a : Addr} {xs : List V} (h : SqL K H a xs) (q : Q (.int (xs.length : Nat)) H) : ∃ x n, [V.ref a] = [x] ∧ LenV K x H n ∧ Q (.int (n : Nat)) H := ⟨_, xs.length, rfl, .inl ⟨xs, h, rfl⟩, q⟩
theorem r_lenT {a : Addr} {xs : List V} (h : SqT K H a xs) (q : Q (.int (xs.length : Nat)) H) : ∃ x n, [V.ref a] = [x] ∧ LenV K x H n ∧ Q (.int (n : Nat)) H := ⟨_, xs.length, rfl, .inr ⟨xs, h, rfl⟩, q⟩
/-! ### statements -/
theorem r_seq (q : t { D with nx := u D } σ H) : tSeq t u D σ H := q
theorem r_next (q : D.nx σ H) : tNext D σ H := q
theorem r_brk (q : D.bk σ H) : tBreak D σ H := q
theorem r_cont (q : D.ct σ H) : tCont D σ H := q
theorem r_asg (q : te σ H fun x H1 => g x σ H1 D.nx) : tAsg te g D σ H := q
theorem r_gname {QS : L2.St → Hp → Prop} (q : QS (σ.set i (some v)) H) : gName i v σ H QS := q
theorem r_ret (q : te σ H D.rt) : tRet te D σ H := q
theorem r_retN (q : D.rt .non H) : tRetN D σ H := q
theorem r_drop (q : te σ H fun _ H1 => D.nx σ H1) : tDrop te D σ H := q
theorem r_ifs {c : TT} (q : c σ H fun b H1 => if b = true then t D σ H1 else u D σ H1) : tIfS c t u D σ H := q
theorem r_fld (q : tv σ H fun y H1 => ta σ H1 fun x H2 => ∃ a C dx fs, x = .ref a ∧ H2 a = some (.ins C dx fs) ∧ Cls K C ∧ NoAttr K C f ∧ fs.length < 1000 ∧ D.nx σ (upd H2 a (.ins C dx (putF f y fs)))) : sFld K ta tv f D σ H := q
theorem r_gsub {to ti : TE} {ts : TSet} {QS : L2.St → Hp → Prop} (q : to σ H fun o H1 => ti σ H1 fun i H2 => ts o i v H2 fun H3 => QS σ H3) : gSub to ti ts v σ H QS := q
end
/-! ### the stepper: k_step "go" -/
local macro_rules | `(tactic| walk_at "one") => `(tactic| with_reducible (first
  | refine r_seq ?_ | refine r_asg ?_ | refine r_gname ?_ | refine r_ret ?_ | refine r_drop ?_ | refine r_ifs ?_ | refine r_next ?_ | refine r_retN ?_ | refine r_fld ?_ | refine r_gsub ?_ | refine r_brk ?_ | refine r_cont ?_
  | refine r_var rfl ?_ | refine r_c ?_ | refine r_op ?_ | refine r_un ?_ | refine r_test ?_ | refine r_tB ?_ | refine r_bl ?_ | refine r_blv ?_
  | refine r_cons ?_ | refine r_nil ?_ | refine r_cb ?_ | refine r_call ?_ | refine r_callS ?_ | refine r_tup ?_ | refine r_lst ?_ | refine r_make ?_ | refine r_attr ?_
  | refine r_sl ?_ | refine r_nopart ?_ | refine r_part ?_ | refine r_parti ?_ | refine r_bm0 ?_ | refine r_bm ?_ | refine r_dnew ?_
  | refine r_and ?_ | refine r_or ?_ | refine r_not ?_ | refine r_andV ?_ | refine r_orV ?_ | refine r_notV ?_ | refine r_if ?_ | refine r_ift ?_ | refine r_iff ?_
  | refine r_I0 ?_ | refine r_U ?_ | refine r_addI ?_ | refine r_eqI ?_ | refine r_neI ?_ | refine r_eqS ?_ | refine r_neS ?_ | refine r_eqB ?_ | refine r_neB ?_ | refine r_inS ?_ | refine r_niS ?_))
end Cs

set_option Elab.async false
set_option linter.all false
set_option maxRecDepth 100000
set_option maxHeartbeats 4000000
/-! LayC: rules that the layer lacks: enumerate of a text, text times int, swapcase, calls by keywords alone. -/
namespace Cs
open PySem PySem.Spec PyProof.Rows L2
section
variable {X : Cx}
theorem mt_swapcase : MtR X "str.swapcase" (fun x xs H Q => ∃ a, x = .str a ∧ xs = [] ∧ a.length ≤ 5592405 ∧ Q (.str (Txt.swapcase a)) H) :=
  mt0 (C := fun a => a.length ≤ 5592405) (g := fun a => .str (Txt.swapcase a)) fun a _ s _ hc h =>
    SCL.swapcase hc (fun _ => h _ (s.toks + 1) ⟨_, rfl⟩)
theorem mt_isupper : MtR X "str.isupper" (fun x xs H Q => ∃ a, x = .str a ∧ xs = [] ∧ True ∧ Q (.bl (Txt.isupper a)) H) :=
  mt0 (C := fun _ => True) (g := fun a => .bl (Txt.isupper a)) fun _ _ s _ _ h => PySem.SC.isupper (h _ s.toks rfl)
/-- text * n -/
def rRepS : R2 := fun x y H Q => ∃ (w : List Nat) (n : Nat), x = .str (S w) ∧ y = .int (n : Nat) ∧ w.length ≤ 1000 ∧ n ≤ 10000 ∧ Q (.str (S (List.replicate n w).flatten)) H
theorem foldl_arr (w : Array Nat) : ∀ (n : Nat) (acc : Array Nat), (List.replicate n w).foldl (· ++ ·) acc = acc ++ ((List.replicate n w.toList).flatten).toArray
  | 0, acc => by simp
  | n + 1, acc => by
    rw [List.replicate_succ, List.foldl_cons, foldl_arr w n, List.replicate_succ, List.flatten_cons]
    apply Array.ext'
    simp
theorem rep_len (w : List Nat) (n : Nat) : ((List.replicate n w).flatten).length = n * w.length := by
  induction n with
  | zero => simp
  | succ n ih => rw [List.replicate_succ, List.flatten_cons, List.length_append, ih, Nat.succ_mul, Nat.add_comm]
theorem op_repS : OpR X (binaryOp .Mult) rRepS := by
  intro pins s σ H x y v u Q I rx ry h
  obtain ⟨w, n, rfl, rfl, hw, hn, q⟩ := h
  obtain ⟨t, rfl⟩ := rx
  obtain ⟨t', rfl⟩ := ry
  have hm : w.length * n ≤ 1000 * 10000 := Nat.mul_le_mul hw hn
  have hp : (1 : Int) ≤ (n : Int) ∨ (n : Int) < 1 := by omega
  refine PySem.P.mul_str ?_ (fun h1 _ => ?_) (fun h1 _ => ?_) ?_
  · rw [decide_eq_false (by omega), decide_eq_false (by omega)]; rfl
  · rw [S_len]
    have h2 : (0 : Int) < (n : Int) := by omega
    have h3 : ((w.length : Int)) * (n : Int) ≤ 2 ^ 63 - 1 := by
      have : ((w.length * n : Nat) : Int) ≤ 10000000 := by omega
      rw [Int.natCast_mul] at this
      omega
    have h4 : (w.length : Int) ≤ (2 ^ 63 - 1) / (n : Int) := Int.le_ediv_of_mul_le h2 h3
    omega
  · rw [S_len]
    exact short24 (by rw [Int.toNat_natCast]; omega)
  · have fin : ∀ {z : Str}, z = S (List.replicate n w).flatten → (Made.str z).post (EP X pins σ Q) s := fun {z} e => by
      refine ⟨?_, ?_⟩
      · rw [e]
        rw [S_len, rep_len, sizeLine_eq, Nat.mul_comm]
        omega
      · exact ⟨.str z, H, I.tok _, ⟨_, rfl⟩, by rw [e]; exact q⟩
    split
    · rename_i h1
      have e : n = 0 := by omega
      subst e
      exact fin rfl
    · split
      · rename_i h1 h2
        have e : S w = S (List.replicate n w).flatten := by
          simp only [Bool.or_eq_true, beq_iff_eq] at h2
          rcases h2 with h2 | h2
          · have : n = 1 := by omega
            subst this
            simp
          · rw [S_len] at h2
            have : w = [] := List.eq_nil_of_length_eq_zero h2
            subst this
            rw [S_inj]
            refine (List.eq_nil_of_length_eq_zero ?_).symm
            rw [rep_len]; simp
        exact ⟨.str (S w), H, I, ⟨_, rfl⟩, by rw [← e] at q; exact q⟩
      · refine fin ?_
        rw [Int.toNat_natCast, foldl_arr]
        simp [S]
end

/-! ### enumerate of a text -/
def Ites (x : Str) : It :=
  ⟨fun i _ => i < x.cps.size, fun i H v H' => ∃ T c, v = .ref T ∧ H T = none ∧ H' = upd H T (.tup [.int (i : Nat), .str ⟨#[c]⟩]) ∧ x.cps[i]? = some c, fun i _ => x.cps.size ≤ i⟩
theorem turn_enumS {P : Program} {w : World} {K : PySem.W.Frag} {elts : List Expr} {kk : Nat} {tpos : Pos} (x : Str) (t : Tok) (e it : Addr) :
    Turn P w K (.Tuple elts kk tpos) (Ites x) [e, it] e (fun i h => (∃ old, IsEnum h e it ((i : Nat) : Int) old) ∧ h.IsStrIter it (strIterType x) x t i ∧ e ≠ it) where
  mem := by simp
  obj := fun i h st b hb => by
    obtain ⟨⟨old, he⟩, ⟨o, ho, hc, hd⟩, _⟩ := st
    have e' : b = e ∨ b = it := by simpa using hb
    rcases e' with z | z
    · rw [z]; exact ⟨_, he, fun v q => nomatch q⟩
    · rw [z]; exact ⟨o, ho, fun v q => by rw [hd] at q; cases q⟩
  keep := fun i h h' st k => let ⟨⟨old, he⟩, ⟨o, ho, r⟩, hne⟩ := st; ⟨⟨old, k e (by simp) _ he⟩, ⟨o, k it (by simp) o ho, r⟩, hne⟩
  item := by
    intro X hP hw hK hc i pins s σ H E I hf st hg
    subst hP hw hK
    obtain ⟨⟨old, he⟩, hit, hne⟩ := st
    have hel : e < s.heap.objs.size := Heap.lt_size he
    have hil : it < s.heap.objs.size := by obtain ⟨_, q, _⟩ := hit; exact Heap.lt_size q
    have D : Draws X.prog X.w X.A.in1 it [it] x.cps.size (fun i v => ∃ c u, x.cps[i]? = some c ∧ v = .str ⟨#[c]⟩ u) (fun i h => h.IsStrIter it (strIterType x) x t i) := by
      cases ha : x.cps.all (· < 128)
      · have e : strIterType x = "str_iterator" := by simp [strIterType, ha]
        rw [e]; exact Draws.strWide (A := X.A.in1) (I.ok.hd hc) it x t
      · have e : strIterType x = "str_ascii_iterator" := by simp [strIterType, ha]
        rw [e]; exact Draws.strAscii (A := X.A.in1) (I.ok.hd hc) it x t
    refine wpAny_pyNext_enum_itemD D he hit hg hne (fun z => hne (by simpa using z)) fun u h' tk hP ho hit' hT hsz hk => ?_
    obtain ⟨c, uu, hcx, rfl⟩ := hP
    refine ⟨_, rfl, wpAny_letOwnedTupleGo_enum (s := { s with heap := h', toks := tk + 1 }) ho fun h'' he' sb => ?_⟩
    have hT2 : h''.get? s.heap.objs.size = some { cls := .type "tuple", data := .seq #[.int i tk, .str ⟨#[c]⟩ uu] } := (sb.2 _ (Nat.ne_of_gt hel)).trans hT
    have new : ObjOk X.prog X.w (upd H s.heap.objs.size (.tup [.int (i : Nat), .str ⟨#[c]⟩])) h'' s.heap.objs.size (.tup [.int (i : Nat), .str ⟨#[c]⟩]) :=
      ⟨by show 2 ≤ sizeLine; decide, [.int i tk, .str ⟨#[c]⟩ uu], .cons ⟨_, rfl⟩ (.cons ⟨_, rfl⟩ .nil), ⟨_, hT2, rfl, _, rfl⟩⟩
    have I1 : Inv X pins σ (upd H s.heap.objs.size (.tup [.int (i : Nat), .str ⟨#[c]⟩])) { s with heap := h'', toks := tk + 1 } :=
      I.turnedNew (ch := [e, it]) (fun b ob hb q => (sb.2 b (fun z => hb (by simp [z]))).trans (hk b ob (fun z => hb (by simp [z])) (fun z => hb (by simp [z])) q)) hf (Nat.le_refl _) new
    refine ⟨.ref s.heap.objs.size, _, I1, rfl, ⟨_, c, rfl, I.hok.fresh (Nat.le_refl _), rfl, hcx⟩, ⟨⟨.str ⟨#[c]⟩ uu, ?_⟩, ?_, hne⟩, fun b hb => ?_⟩
    · have e1 : ((i + 1 : Nat) : Int) = (i : Int) + 1 := by omega
      rw [e1]; exact he'
    · obtain ⟨o, q, r⟩ := hit'
      exact ⟨o, (sb.2 it (Ne.symm hne)).trans q, r⟩
    · have hb' : b < s.heap.objs.size := by
        have e' : b = e ∨ b = it := by simpa using hb
        rcases e' with z | z
        · rw [z]; exact hel
        · rw [z]; exact hil
      rw [upd_ne (Nat.ne_of_lt hb')]
      exact (hf b hb).1
  done := by
    intro X hP hw hK hc i pins s σ H E I hf st hg
    subst hP hw hK
    obtain ⟨⟨old, he⟩, hit, hne⟩ := st
    obtain ⟨f0, f1, f2, f3, f4, f5⟩ := hf it (by simp)
    have hx : x.cps[i]? = none := Array.getElem?_eq_none hg
    have hT : s.TypeIs (.ref e) "enumerate" := ⟨_, he, rfl⟩
    have fin : ∀ (Q : Value → Shared → Prop) (E : Value → Shared → Prop), (∀ h' u, Heap.ExtBut it s.heap h' → (∃ o, h'.get? u = some o ∧ o.cls = .type "StopIteration") → E (.ref u) { s with heap := h' }) →
        wpAny (model X.prog X.w) X.A.in1 (Builtin.SmallTypes.nextOf (.ref it)) Q E s := fun Q E hE => by
      cases ha : x.cps.all (· < 128)
      · have q : strIterType x = "str_iterator" := by simp [strIterType, ha]
        rw [q] at hit; exact wpAny_nextOf_wide_end (I.ok.hd hc) hit hx hE
      · have q : strIterType x = "str_ascii_iterator" := by simp [strIterType, ha]
        rw [q] at hit; exact wpAny_nextOf_ascii_end (I.ok.hd hc) hit hx hE
    unfold pyNext
    refine wpAny_bind (wpAny_attempt (wpAny_callSpecial?_slot (name := Str.ofString "__next__") hT F.slot_enumerate_next
      (wpAny_call_entry F.slot_enumerate_next hT F.entry_enumerate_next ?_ (F.args_enumerate_next_1 _))))
    show wpAny _ _ (field (.ref e) 2 >>= _) _ _ _
    refine wpAny_bind (wpAny_field he rfl (x := .ref it) rfl ?_)
    refine wpAny_bind (fin _ _ fun h' u eb hx' => ?_)
    obtain ⟨o, ho, hcl⟩ := hx'
    refine wpAny_bind (wpAny_isInstance (T := "StopIteration") (b := true) ⟨o, ho, hcl⟩ isSubtype_stop ?_)
    exact wpAny_pure ⟨rfl, I.turned (t' := s.toks) (fun b o hb q => eb b o hb q) f0 f1 f3 f4 f5⟩
  self := fun A i s Q E st h => let ⟨⟨_, he⟩, _⟩ := st; wpAny_pyIter_enum he h
def iEnumS (ta : TA) : TI := fun σ H R => ta σ H fun vs H1 => ∃ x, vs = [.str x] ∧ R (Ites x) H1
theorem pi_enumS {X : Cx} {e : Expr} {ta : TA} {p pos tpos : Pos} {elts : List Expr} {kk : Nat} (hg : Gl X "enumerate") (hm : X.mg "enumerate" = none) (ha : PA X [e] ta) (hs : starEach [e] X.env = [(false, eval e X.env)] := by rfl) :
    PI X (.Tuple elts kk tpos) (.Call (.Name "enumerate" p) [e] [] pos) (iEnumS ta) := by
  refine ⟨fun pins s σ H R I h => ?_⟩
  refine Call_ (ld_blt I hg hm boot_enumerate (PyProof.Rows.callWith_type1 (thn (ha.run pos pins s σ H _ I h) fun us s1 ⟨vs, H1, I1, r1, q1⟩ => ?_) hs rfl))
  obtain ⟨x, ex, q⟩ := q1
  subst ex
  cases r1 with
  | cons r rr =>
    cases rr
    obtain ⟨t, rfl⟩ := r
    refine call_enumerate_str fun h' he hit hsz hk => wpAny_pyIter_enum he ?_
    have I2 : Inv X pins σ H1 { s1 with heap := h' } := I1.kept (t' := s1.toks) hk
    refine ⟨s1.heap.objs.size + 1, [s1.heap.objs.size + 1, s1.heap.objs.size], _, _, H1, rfl, I2, turn_enumS x t (s1.heap.objs.size + 1) s1.heap.objs.size, ⟨⟨.none, he⟩, hit, Nat.succ_ne_self _⟩, fun b hb => ?_, q⟩
    have e' : b = s1.heap.objs.size + 1 ∨ b = s1.heap.objs.size := by simpa using hb
    have hle : s1.heap.objs.size ≤ b := by
      rcases e' with z | z
      · rw [z]; exact Nat.le_add_right _ _
      · rw [z]; exact Nat.le_refl _
    exact I1.fpOk hle (I1.hok.fresh hle)
theorem walk_enumS {w : List Nat} : Walk (Ites (S w)) w.length (fun _ => True) (YPair (fun i => some (.int (i : Nat))) (fun i => w[i]?.map fun c => V.str (S [c]))) := by
  refine ⟨fun i H hi _ => by show i < (S w).cps.size; simpa using hi, fun H _ => by show (S w).cps.size ≤ w.length; simp, fun i H v H' hi _ y => ?_⟩
  obtain ⟨T, c, h1, h2, h3, h4⟩ := y
  have h5 : w[i]? = some c := by simpa using h4
  exact ⟨T, _, _, h1, h2, h3, rfl, by show (w[i]?).map _ = _; rw [h5]; rfl⟩
theorem walk_S {w : List Nat} : Walk (Its (S w)) w.length (fun _ => True) (YAt (w.map fun c => V.str (S [c]))) := by
  refine ⟨fun i H hi _ => by show i < (S w).cps.size; simpa using hi, fun H _ => by show (S w).cps.size ≤ w.length; simp, fun i H v H' hi _ y => ?_⟩
  obtain ⟨h1, c, h2, h3⟩ := y
  have h5 : w[i]? = some c := by simpa using h2
  exact ⟨h1, by rw [List.getElem?_map, h5, h3]; rfl⟩

/-! ### f(k = v, ..) -/
section
variable {X : Cx} {CX : CXT} {k : Nat} {f : Addr} {fd : FuncData} {ps ks : List Str} {sp : Sp} {E : XK} {x : Str} {p pos : Pos} {kws : List Keyword} {tk : TA} {g : List Value → List Value → List Value} {gV : List V → List V → List V}
theorem pe_callK0 (F : FnOk X.prog X.w X.K X.mg X.base CX k f fd ps sp) (hr : Room k X.A) (hg : Gl X x) (hm : X.mg x = some (.ref f)) (hk : PySem.W.keepIn X.K (.ref f) = true) (hb : KBinds X.K fd ps ks g gV) (hx : Passes CX X E)
    (hkw : PK X kws tk) (hall : (backToKw pos (keywordEach kws X.env)).all (·.1.isSome) = true := by rfl) (hks : (backToKw pos (keywordEach kws X.env)).filterMap (·.1) = ks := by rfl)
    (hdb : (x == ("__debug__" : Str)) = false := by decide)
    (hpl : ((backTo pos (starEach [] X.env)).any (·.1) || (backToKw pos (keywordEach kws X.env)).any (·.1.isNone)) = false := by rfl) :
    PE X (.Call (.Name x p) [] kws pos) (tCallK sp gV E tNil tk) := by
  refine ⟨fun pins s σ H Q I h => ?_⟩
  refine wpAny_Call_Name_kw (ld_glob I hg hm ?_ hdb)
  refine PySem.W.callWith_KW0 (h₀ := X.base) I.ok.mod.kin hk hall ?_ hpl
  refine thn (hkw.run pos pins s σ H _ I h) fun ws s2 ⟨zs, H2, I2, rz, q2⟩ => ⟨I2.kIn, ?_⟩
  rw [hks]
  exact run_fnk (us := []) (vs := []) F hr hb hx I2 .nil rz q2
end
end Cs

set_option Elab.async false
set_option linter.all false
set_option maxRecDepth 100000
set_option maxHeartbeats 4000000
/-! LayD: more readings: numbers, nested data, kinds of values, Word objects. -/
namespace Cs
open PySem PySem.Spec PyProof.Rows L2
section
variable {X : Cx} {x : Str} {pos : Pos}
theorem pe_gI {n : Int} (hg : Gl X x) (h : ∃ t, X.mg x = some (.int n t)) (hd : (x == ("__debug__" : Str)) = false := by decide) : PE X (.Name x pos) (tC (.int n)) := by
  obtain ⟨t, h⟩ := h
  exact pe_glob hg h ⟨t, rfl⟩ hd
theorem pe_gS {z : Str} (hg : Gl X x) (h : ∃ t, X.mg x = some (.str z t)) (hd : (x == ("__debug__" : Str)) = false := by decide) : PE X (.Name x pos) (tC (.str z)) := by
  obtain ⟨t, h⟩ := h
  exact pe_glob hg h ⟨t, rfl⟩ hd
/-- int * int, text * int -/
def rMulA : R2 := fun a b H Q => rI CMulW (fun i j => .int (i * j)) a b H Q ∨ rRepS a b H Q
theorem op_mulA : OpR X (binaryOp .Mult) rMulA := op_mulW.or op_repS
end
/-- C(vs) -/
def rMake (C : Addr) (sp : Sp) (E : XK) (vs : List V) (H1 : Hp) (Q : VK) : Prop := ∀ x dx, H1 x = none → H1 dx = none → dx ≠ x → sp (.ref x :: vs) (upd (upd H1 dx (.own x)) x (.ins C dx [])) (fun v H2 => v = .non ∧ Q (.ref x) H2) E
/-! ### the layer's rules, their readings by name -/
def rLenB (K : PySem.W.Frag) : List V → Hp → VK → Prop := fun xs H Q => ∃ x n, xs = [x] ∧ LenV K x H n ∧ Q (.int (n : Nat)) H
def rInt1 : List V → Hp → VK → Prop := fun xs H Q => (∃ i, xs = [.int i] ∧ Q (.int i) H) ∨ ∃ k, xs = [.bl k] ∧ Q (.int (if k then 1 else 0)) H
def rAbsB : List V → Hp → VK → Prop := fun xs H Q => ∃ i, xs = [.int i] ∧ Q (.int (if i < 0 then -i else i)) H
def rListOf (K : PySem.W.Frag) : List V → Hp → VK → Prop := fun xs H Q => ∃ p ys, xs = [.ref p] ∧ (SqL K H p ys ∨ SqT K H p ys) ∧ ∀ l, H l = none → Q (.ref l) (upd H l (.lst ys))
def rTupOf (K : PySem.W.Frag) : List V → Hp → VK → Prop := fun xs H Q => ∃ p ys, xs = [.ref p] ∧ ((SqL K H p ys ∧ ∀ l, H l = none → Q (.ref l) (upd H l (.tup ys))) ∨ (SqT K H p ys ∧ Q (.ref p) H))
def rIsNo : R2 := fun x y H Q => y = .non ∧ Q (.bl (decide (x = .non))) H
def rNotNo : R2 := fun x y H Q => y = .non ∧ Q (.bl (!decide (x = .non))) H
def rSwap : V → List V → Hp → VK → Prop := fun x xs H Q => ∃ a, x = .str a ∧ xs = [] ∧ a.length ≤ 5592405 ∧ Q (.str (Txt.swapcase a)) H
def rLower : V → List V → Hp → VK → Prop := fun x xs H Q => ∃ a, x = .str a ∧ xs = [] ∧ a.length ≤ 5592405 ∧ Q (.str (Txt.lower a)) H
def rUpper : V → List V → Hp → VK → Prop := fun x xs H Q => ∃ a, x = .str a ∧ xs = [] ∧ a.length ≤ 5592405 ∧ Q (.str (Txt.upper a)) H
def rIsup : V → List V → Hp → VK → Prop := fun x xs H Q => ∃ a, x = .str a ∧ xs = [] ∧ True ∧ Q (.bl (Txt.isupper a)) H
section
variable {X : Cx}
theorem call_lenB {K : PySem.W.Frag} (h : X.K = K := by rfl) : CallR X (.builtin "len") (rLenB K) := by subst h; exact call_len
theorem call_intB : CallR X (.type "int") rInt1 := call_int1
theorem call_absB : CallR X (.builtin "abs") rAbsB := call_abs
theorem call_listB {K : PySem.W.Frag} (h : X.K = K := by rfl) : CallR X (.type "list") (rListOf K) := by subst h; exact call_list_of
theorem call_tupleB {K : PySem.W.Frag} (h : X.K = K := by rfl) : CallR X (.type "tuple") (rTupOf K) := by subst h; exact call_tuple_of
theorem call_allB {K : PySem.W.Frag} (hc : X.calm = true) (h : X.K = K := by rfl) : CallR X (.builtin "all") (rAll K) := by subst h; exact cr_all hc
theorem call_anyB {K : PySem.W.Frag} (hc : X.calm = true) (h : X.K = K := by rfl) : CallR X (.builtin "any") (rAny K) := by subst h; exact cr_any hc
theorem op_isNo : OpR X (compareOp .Is) rIsNo := op_isN
theorem op_notNo : OpR X (compareOp .IsNot) rNotNo := op_notN
theorem mb_swapcase : MtR X "str.swapcase" rSwap := mt_swapcase
theorem mb_lower : MtR X "str.lower" rLower := mt_lower
theorem mb_upper : MtR X "str.upper" rUpper := mt_upper
theorem mb_isupper : MtR X "str.isupper" rIsup := mt_isupper
end
/-- keywords: the callee with its binding -/
structure CalK (P : Program) (w : World) (K : PySem.W.Frag) (mg : Str → Option Value) (base : Heap) (CXc : CXT) (k : Nat) (x : Str) (ks : List Str) (gV : List V → List V → List V) (sp : Sp) : Prop where
  ex : ∃ (f : Addr) (fd : FuncData) (ps : List Str) (g : List Value → List Value → List Value), FnOk P w K mg base CXc k f fd ps sp ∧ mg x = some (.ref f) ∧ PySem.W.keepIn K (.ref f) = true ∧ KBinds K fd ps ks g gV
section
variable {X : Cx} {CXc : CXT} {k j : Nat} {x : Str} {sp : Sp} {p pos : Pos} {e : Expr} {es : List Expr} {t tk : TA} {E : XK} {kws : List Keyword} {ks : List Str} {gV : List V → List V → List V}
theorem pe_cK0 (c : CalK X.prog X.w X.K X.mg X.base CXc k x ks gV sp) (hr : Room j X.A) (hk : k ≤ j) (hx : Passes CXc X E) (hkw : PK X kws tk) (hg : Gl X x := by rfl)
    (hall : (backToKw pos (keywordEach kws X.env)).all (·.1.isSome) = true := by rfl) (hks : (backToKw pos (keywordEach kws X.env)).filterMap (·.1) = ks := by rfl)
    (hdb : (x == ("__debug__" : Str)) = false := by decide) (hpl : ((backTo pos (starEach [] X.env)).any (·.1) || (backToKw pos (keywordEach kws X.env)).any (·.1.isNone)) = false := by rfl) :
    PE X (.Call (.Name x p) [] kws pos) (tCallK sp gV E tNil tk) := by
  obtain ⟨f, fd, ps, g, F, hm, kp, b⟩ := c.ex
  exact pe_callK0 F (hr.mono hk) hg hm kp b hx hkw hall hks hdb hpl
theorem pe_cK (c : CalK X.prog X.w X.K X.mg X.base CXc k x ks gV sp) (hr : Room j X.A) (hk : k ≤ j) (hx : Passes CXc X E) (ha : PA X (e :: es) t) (hkw : PK X kws tk) (hg : Gl X x := by rfl)
    (hall : (backToKw pos (keywordEach kws X.env)).all (·.1.isSome) = true := by rfl) (hks : (backToKw pos (keywordEach kws X.env)).filterMap (·.1) = ks := by rfl)
    (hdb : (x == ("__debug__" : Str)) = false := by decide) (he : starEach (e :: es) X.env = (false, eval e X.env) :: starEach es X.env := by rfl)
    (hpl : ((backTo pos (starEach (e :: es) X.env)).any (·.1) || (backToKw pos (keywordEach kws X.env)).any (·.1.isNone)) = false := by rfl) :
    PE X (.Call (.Name x p) (e :: es) kws pos) (tCallK sp gV E t tk) := by
  obtain ⟨f, fd, ps, g, F, hm, kp, b⟩ := c.ex
  exact pe_callK F (hr.mono hk) hg hm kp b hx ha hkw hall hks hdb he hpl
end
section
variable {K : PySem.W.Frag} {σ : L2.St} {H : Hp} {Q : VK} {QT : Bool → Hp → Prop} {ta tb tc : TE} {tr tk : TA} {x y : V}
theorem r_mulI {a b : Int} (c : CMulW a b) (q : Q (.int (a * b)) H) : rMulA (.int a) (.int b) H Q := .inl ⟨a, b, rfl, rfl, c, q⟩
theorem r_mulS {w : List Nat} {n : Nat} (hw : w.length ≤ 1000) (hn : n ≤ 10000) (q : Q (.str (S (List.replicate n w).flatten)) H) : rMulA (.str (S w)) (.int (n : Nat)) H Q := .inr ⟨w, n, rfl, rfl, hw, hn, q⟩
theorem r_callK {sp : Sp} {gV : List V → List V → List V} {E : XK} (q : tr σ H fun vs H1 => tk σ H1 fun zs H2 => sp (gV vs zs) H2 Q E) : tCallK sp gV E tr tk σ H Q := q
theorem r_up2 {p : Addr} {a b : V} {n i j : Nat} {QS : L2.St → Hp → Prop} (h : SqT K H p [a, b]) (hn : n = 2) (q : QS ((σ.set i (some a)).set j (some b)) H) : gTup K n (gCons (gName i) (gCons (gName j) gNil)) (.ref p) σ H QS :=
  ⟨p, _, rfl, h, hn.symm, a, [b], rfl, b, [], rfl, rfl, q⟩
theorem r_upl2 {p : Addr} {a b : V} {n i j : Nat} {QS : L2.St → Hp → Prop} (h : SqL K H p [a, b]) (hn : n = 2) (q : QS ((σ.set i (some a)).set j (some b)) H) : gUnl K n (gCons (gName i) (gCons (gName j) gNil)) (.ref p) σ H QS :=
  ⟨p, _, rfl, h, hn.symm, a, [b], rfl, b, [], rfl, rfl, q⟩
/-- for at, sign in enumerate(text) -/
theorem for_enumS {w : List Nat} {g : TG} {tb : TS} {De : Ends} (Pv : Nat → L2.St → Hp → Prop) (h0 : Pv 0 σ H)
    (hs : ∀ i c p σ H, w[i]? = some c → Pv i σ H → H p = none → g (.ref p) σ (upd H p (.tup [.int (i : Nat), .str (S [c])])) fun σ2 H2 => tb { De with nx := Pv (i + 1), ct := Pv (i + 1), bk := De.nx } σ2 H2) (hd : ∀ σ H, Pv w.length σ H → De.nx σ H) :
    ∃ W : Nat → Nat → L2.St → Hp → Prop, (∃ m, W 0 m σ H) ∧ ∀ i m σ H, W i m σ H →
      ((Ites (S w)).stop i H ∧ De.nx σ H) ∨ ((Ites (S w)).go i H ∧ ∃ N : L2.St → Hp → Prop, (∀ σ' H', N σ' H' → ∃ m', m' < m ∧ W (i + 1) m' σ' H') ∧ ∀ x H', (Ites (S w)).yld i H x H' → g x σ H' fun σ2 H2 => tb { De with nx := N, ct := N, bk := De.nx } σ2 H2) := by
  refine for_it walk_enumS Pv h0 (fun _ _ _ _ _ => trivial) ?_ hd
  rintro i y σ H H' hi hp ⟨p, y1, y2, rfl, hn, rfl, e1, e2⟩
  have hc : w[i]? = some w[i] := by simp [hi]
  cases e1
  have e3 : y2 = .str (S [w[i]]) := by
    have e4 : (w[i]?).map (fun c => V.str (S [c])) = some y2 := e2
    rw [hc] at e4
    exact (Option.some.inj e4).symm
  subst e3
  exact hs i w[i] p σ H hc hp hn
/-- for at, x in enumerate(list) -/
theorem for_enumL {a : Addr} {xs : List V} {g : TG} {tb : TS} {De : Ends} (Pv : Nat → L2.St → Hp → Prop) (h0 : Pv 0 σ H) (hG : ∀ i σ H, i ≤ xs.length → Pv i σ H → SqL K H a xs)
    (hs : ∀ i x p σ H, xs[i]? = some x → Pv i σ H → H p = none → g (.ref p) σ (upd H p (.tup [.int (i : Nat), x])) fun σ2 H2 => tb { De with nx := Pv (i + 1), ct := Pv (i + 1), bk := De.nx } σ2 H2) (hd : ∀ σ H, Pv xs.length σ H → De.nx σ H) :
    ∃ W : Nat → Nat → L2.St → Hp → Prop, (∃ m, W 0 m σ H) ∧ ∀ i m σ H, W i m σ H →
      ((Ite K a).stop i H ∧ De.nx σ H) ∨ ((Ite K a).go i H ∧ ∃ N : L2.St → Hp → Prop, (∀ σ' H', N σ' H' → ∃ m', m' < m ∧ W (i + 1) m' σ' H') ∧ ∀ x H', (Ite K a).yld i H x H' → g x σ H' fun σ2 H2 => tb { De with nx := N, ct := N, bk := De.nx } σ2 H2) := by
  refine for_it walk_enum Pv h0 hG ?_ hd
  rintro i y σ H H' hi hp ⟨p, y1, y2, rfl, hn, rfl, e1, e2⟩
  cases e1
  exact hs i y2 p σ H e2 hp hn
/-- for c in text -/
theorem for_S {w : List Nat} {g : TG} {tb : TS} {De : Ends} (Pv : Nat → L2.St → Hp → Prop) (h0 : Pv 0 σ H)
    (hs : ∀ i c σ H, w[i]? = some c → Pv i σ H → g (.str (S [c])) σ H fun σ2 H2 => tb { De with nx := Pv (i + 1), ct := Pv (i + 1), bk := De.nx } σ2 H2) (hd : ∀ σ H, Pv w.length σ H → De.nx σ H) :
    ∃ W : Nat → Nat → L2.St → Hp → Prop, (∃ m, W 0 m σ H) ∧ ∀ i m σ H, W i m σ H →
      ((Its (S w)).stop i H ∧ De.nx σ H) ∨ ((Its (S w)).go i H ∧ ∃ N : L2.St → Hp → Prop, (∀ σ' H', N σ' H' → ∃ m', m' < m ∧ W (i + 1) m' σ' H') ∧ ∀ x H', (Its (S w)).yld i H x H' → g x σ H' fun σ2 H2 => tb { De with nx := N, ct := N, bk := De.nx } σ2 H2) := by
  refine for_it walk_S Pv h0 (fun _ _ _ _ _ => trivial) ?_ hd
  rintro i y σ H H' hi hp ⟨rfl, e⟩
  have hc : w[i]? = some w[i] := by simp [hi]
  rw [List.getElem?_map, hc] at e
  cases e
  exact hs i w[i] σ _ hc hp
/-- [.. for c in text] -/
theorem lc_S {w : List Nat} {g : TG} {tt : TT} {te : TE} {vs : List Nat} {H1 : Hp} {Dl : Addr} {Qd : Hp → Prop} (Pv : Nat → Hp → Prop) (h0 : Pv 0 (upd H1 Dl (.lst [])))
    (hs : ∀ i c H, w[i]? = some c → Pv i H → g (.str (S [c])) (wipe σ vs) H fun σ2 H2 => wipe σ2 vs = wipe σ vs ∧ tt σ2 H2 fun b H3 =>
      if b = true then te σ2 H3 fun y H4 => ∃ acc, H4 Dl = some (.lst acc) ∧ acc.length < sizeLine ∧ Pv (i + 1) (upd H4 Dl (.lst (acc ++ [y]))) else Pv (i + 1) H3) (hd : ∀ H, Pv w.length H → Qd H) :
    ∃ W : Nat → Nat → Hp → Prop, (∃ m, W 0 m (upd H1 Dl (.lst []))) ∧ ∀ i m H, W i m H →
      ((Its (S w)).stop i H ∧ Qd H) ∨ ((Its (S w)).go i H ∧ ∃ Nx : Hp → Prop, (∀ H', Nx H' → ∃ m', m' < m ∧ W (i + 1) m' H') ∧ ∀ x H', (Its (S w)).yld i H x H' → g x (wipe σ vs) H' fun σ2 H2 => wipe σ2 vs = wipe σ vs ∧ tt σ2 H2 fun b H3 =>
        if b = true then te σ2 H3 fun y H4 => ∃ acc, H4 Dl = some (.lst acc) ∧ acc.length < sizeLine ∧ Nx (upd H4 Dl (.lst (acc ++ [y]))) else Nx H3) := by
  refine lc_it walk_S Pv h0 (fun _ _ _ _ => trivial) ?_ hd
  rintro i y H H' hi hp ⟨rfl, e⟩
  have hc : w[i]? = some w[i] := by simp [hi]
  rw [List.getElem?_map, hc] at e
  cases e
  exact hs i w[i] _ hc hp
theorem r_mkE {C : Addr} {ps : List Str} {QX : XK} (q : tr σ H fun vs H1 => vs.length = ps.length ∧ ∀ d, H1 d = none → QX (.ref C) (some d) (upd H1 d (.xd (ps.zip vs)))) : tMkE C ps tr σ H QX := q
theorem r_nx {f bk ct : L2.St → Hp → Prop} {rt : VK} (q : f σ H) : Ends.nx (Ends.mk f rt bk ct) σ H := q
theorem r_ct {f bk nx : L2.St → Hp → Prop} {rt : VK} (q : f σ H) : Ends.ct (Ends.mk nx rt bk f) σ H := q
theorem r_bk {f ct nx : L2.St → Hp → Prop} {rt : VK} (q : f σ H) : Ends.bk (Ends.mk nx rt f ct) σ H := q
theorem r_rt {f bk nx : L2.St → Hp → Prop} {rt : VK} (q : rt x H) : Ends.rt (Ends.mk nx rt bk f) x H := q
theorem r_call0 {sp : Sp} {E : XK} (q : tr σ H fun vs H1 => sp vs H1 Q E) : tCall sp [] E tr σ H Q := by
  unfold tCall
  simpa only [List.append_nil] using q
theorem r_make0 {C : Addr} {sp : Sp} {E : XK} (q : tr σ H fun vs H1 => rMake C sp E vs H1 Q) : tMake C sp [] E tr σ H Q := by
  unfold tMake
  unfold rMake at q
  simpa only [List.append_nil] using q
theorem r_iEnumS {R : It → Hp → Prop} (q : tr σ H fun vs H1 => ∃ x, vs = [.str x] ∧ R (Ites x) H1) : iEnumS tr σ H R := q
theorem r_iEnum {R : It → Hp → Prop} (q : tr σ H fun vs H1 => ∃ a xs, vs = [.ref a] ∧ SqL K H1 a xs ∧ R (Ite K a) H1) : iEnum K tr σ H R := q
theorem r_iStr {R : It → Hp → Prop} (q : ta σ H fun v H1 => ∃ x, v = .str x ∧ R (Its x) H1) : iStr ta σ H R := q
theorem r_iStrS {w : List Nat} {A : Str → Prop} (q : A (S w)) : ∃ x, V.str (S w) = .str x ∧ A x := ⟨_, rfl, q⟩
theorem r_iStrE {w : List Nat} {A : Str → Prop} (q : A (S w)) : ∃ x, [V.str (S w)] = [.str x] ∧ A x := ⟨_, rfl, q⟩
theorem r_iList {R : It → Hp → Prop} (q : ta σ H fun x H1 => ∃ a, x = .ref a ∧ (∃ xs, SqL K H1 a xs) ∧ R (Itl K a) H1) : iList K ta σ H R := q
theorem r_iRng {R : It → Hp → Prop} (q : tr σ H fun vs H1 => ∃ j : Int, vs = [.int j] ∧ -(2 ^ 62) ≤ j ∧ j < 2 ^ 62 ∧ R (Itr 0 j.toNat) H1) : iRng1 tr σ H R := q
theorem r_forE {wi : TI} {g : TG} {tb : TS} {De : Ends} (q : wi σ H fun J H1 => ∃ W : Nat → Nat → L2.St → Hp → Prop, (∃ m, W 0 m σ H1) ∧ ∀ i m σ H, W i m σ H →
      (J.stop i H ∧ De.nx σ H) ∨ (J.go i H ∧ ∃ N : L2.St → Hp → Prop, (∀ σ' H', N σ' H' → ∃ m', m' < m ∧ W (i + 1) m' σ' H') ∧ ∀ x H', J.yld i H x H' → g x σ H' fun σ2 H2 => tb { De with nx := N, ct := N, bk := De.nx } σ2 H2)) : tFor wi g tb De σ H := q
theorem r_chain {r r' : R2} (q : ta σ H fun x H1 => tb σ H1 fun y H2 => r x y H2 fun z H3 => ∃ k, z = .bl k ∧ (if k = true then tc σ H3 fun w' H4 => r' y w' H4 Q else Q (.bl false) H3)) : tChain r r' ta tb tc σ H Q := q
theorem r_mod {a b : Int} (h : 0 < b) (q : Q (.int (a % b)) H) : rI (fun _ j => 0 < j) (fun i j => .int (i % j)) (.int a) (.int b) H Q := ⟨a, b, rfl, rfl, h, q⟩
theorem r_fdiv {a b : Int} (h : 0 < b) (hb : b < 2 ^ 60) (q : Q (.int (a / b)) H) : rI CDivW (fun i j => .int (i / j)) (.int a) (.int b) H Q := ⟨a, b, rfl, rfl, wide_div (b := 60) h (by omega) (by decide) (by decide), q⟩
theorem r_pow {a b : Int} (h : 0 ≤ b ∧ b ≤ 1000) (ha : -(2 ^ 64) < a ∧ a < 2 ^ 64) (q : Q (.int (a ^ b.toNat)) H) : rI CPow (fun i j => .int (i ^ j.toNat)) (.int a) (.int b) H Q := ⟨a, b, rfl, rfl, ⟨h.1, by omega, by omega⟩, q⟩
theorem r_int1 {a : Int} (q : Q (.int a) H) : rInt1 [.int a] H Q := .inl ⟨a, rfl, q⟩
theorem q_lenS {w : List Nat} (hl : w.length ≤ 1000000) (q : Q (.int (w.length : Nat)) H) : rLenB K [.str (S w)] H Q := ⟨_, w.length, rfl, ⟨by rw [S_len, sizeLine_eq]; omega, (S_len w).symm⟩, q⟩
theorem q_lenL {a : Addr} {xs : List V} (h : SqL K H a xs) (q : Q (.int (xs.length : Nat)) H) : rLenB K [.ref a] H Q := ⟨_, xs.length, rfl, .inl ⟨xs, h, rfl⟩, q⟩
theorem q_lenT {a : Addr} {xs : List V} (h : SqT K H a xs) (q : Q (.int (xs.length : Nat)) H) : rLenB K [.ref a] H Q := ⟨_, xs.length, rfl, .inr ⟨xs, h, rfl⟩, q⟩
theorem q_listL {a : Addr} {xs : List V} (h : SqL K H a xs) (q : ∀ l, H l = none → Q (.ref l) (upd H l (.lst xs))) : rListOf K [.ref a] H Q := ⟨a, xs, rfl, .inl h, q⟩
theorem q_listT {a : Addr} {xs : List V} (h : SqT K H a xs) (q : ∀ l, H l = none → Q (.ref l) (upd H l (.lst xs))) : rListOf K [.ref a] H Q := ⟨a, xs, rfl, .inr h, q⟩
theorem q_tupL {a : Addr} {xs : List V} (h : SqL K H a xs) (q : ∀ l, H l = none → Q (.ref l) (upd H l (.tup xs))) : rTupOf K [.ref a] H Q := ⟨a, xs, rfl, .inl ⟨h, q⟩⟩
theorem q_swap {w : List Nat} (h : AllL w) (hl : w.length ≤ 1000000) (q : Q (.str (S (w.map und))) H) : rSwap (.str (S w)) [] H Q := ⟨S w, rfl, rfl, by rw [S_len]; omega, by rw [swapcase_S h]; exact q⟩
theorem q_lower {w : List Nat} (h : AllL w) (hl : w.length ≤ 1000000) (q : Q (.str (S (w.map low))) H) : rLower (.str (S w)) [] H Q := ⟨S w, rfl, rfl, by rw [S_len]; omega, by rw [lower_S h]; exact q⟩
theorem q_upper {w : List Nat} (h : AllL w) (hl : w.length ≤ 1000000) (q : Q (.str (S (w.map upp))) H) : rUpper (.str (S w)) [] H Q := ⟨S w, rfl, rfl, by rw [S_len]; omega, by rw [upper_S h]; exact q⟩
theorem q_isup {c : Nat} (h : isL c = true) (q : Q (.bl (decide (c < 97))) H) : rIsup (.str (S [c])) [] H Q := ⟨S [c], rfl, rfl, trivial, by rw [isupper_1 h]; exact q⟩
theorem r_abs {a : Int} (q : Q (.int (if a < 0 then -a else a)) H) : rAbsB [.int a] H Q := ⟨a, rfl, q⟩
theorem r_isN (q : Q (.bl (decide (x = .non))) H) : rIsNo x .non H Q := ⟨rfl, q⟩
theorem r_notN (q : Q (.bl (!decide (x = .non))) H) : rNotNo x .non H Q := ⟨rfl, q⟩
theorem wm {a b : Int} {n m : Nat} (ha : a.natAbs < 2 ^ n) (hb : b.natAbs < 2 ^ m) (h0 : 0 < n := by decide) (h1 : 0 < m := by decide) (h : n + m ≤ 1000000 := by decide) : CMulW a b := wide_mul ha hb h0 h1 h
/-! ### isinstance -/
/-- the value x is of a class whose isinstance of u is b -/
def IsK (K : PySem.W.Frag) (H : Hp) (x : V) (u : Value) (b : Bool) : Prop := (∃ t, TyX K H x t ∧ PySem.W.kitOne K t u = some b) ∨ (∃ (a C : Addr) (d : Option Addr), x = .ref a ∧ H a = some (EXV (.ref C) d a) ∧ (∀ dd, d = some dd → ∃ fs, H dd = some (.xd fs)) ∧ XiC K C ∧ PySem.W.kitOne K (.ref C) u = some b)
theorem r_isK {c : V} {u : Value} {b : Bool} (k : ClsV c u) (h : IsK K H x u b) (q : Q (.bl b) H) : rIsiE K [x, c] H Q := ⟨x, c, u, b, rfl, k, h, q⟩
theorem isK {t u : Value} {b : Bool} (h : TyX K H x t) (e : PySem.W.kitOne K t u = some b) : IsK K H x u b := .inl ⟨t, h, e⟩
theorem ty_int {n : Int} : TyX K H (.int n) (.type "int") := .base (.int n)
theorem ty_bl {n : Bool} : TyX K H (.bl n) (.type "bool") := .base (.bl n)
theorem ty_str {n : Str} : TyX K H (.str n) (.type "str") := .base (.str n)
theorem ty_non : TyX K H .non (.type "NoneType") := .base .non
theorem ty_lst {a : Addr} {xs : List V} (h : H a = some (.lst xs)) : TyX K H (.ref a) (.type "list") := .base (.lst h)
theorem ty_tup {a : Addr} {xs : List V} (h : H a = some (.tup xs)) : TyX K H (.ref a) (.type "tuple") := .base (.tup h)
theorem ty_dK {a : Addr} {xs : List (Key × V)} (h : H a = some (.dK xs)) : TyX K H (.ref a) (.type "dict") := .base (.dK h)
end
structure TyI (K : PySem.W.Frag) (C : Addr) : Prop where
  ha : PySem.W.findIn K (.ref C) "__class__" = some (some (.builtin "object.__class__"))
  hn : PySem.W.specialIn K (.builtin "object.__class__") "__get__" = some (some (.builtin "getset_descriptor.__get__"))
  htk : PySem.W.takesIn K (.builtin "object.__class__") = some true
  hm : PySem.W.mroIn K C (.type "object") = some true
theorem ty_ins {K : PySem.W.Frag} {H : Hp} {a C dx : Addr} {fs : List (Str × V)} (h : H a = some (.ins C dx fs)) (cl : Cls K C) (t : TyI K C) : TyX K H (.ref a) (.ref C) := .base (.ins h cl t.ha t.hn t.htk t.hm)
/-! ### nested data -/
section
variable {K : PySem.W.Frag} {H : Hp}
theorem dpI : ∀ (ns : List Int), DpAll K H (ns.map V.int) (ns.map PyData.int)
  | [] => .nil
  | n :: ns => .cons (.int n) (dpI ns)
theorem dpS : ∀ (ns : List (List Nat)), DpAll K H (ns.map fun w => V.str (S w)) (ns.map fun w => PyData.str (S w))
  | [] => .nil
  | n :: ns => .cons (.str _) (dpS ns)
/-- data that can be laid, of depth n at most -/
def Lay (n : Nat) (d : PyData) : Prop := d.canLay0 = true ∧ d.depth ≤ n
theorem lay_all {n : Nat} : ∀ {ds : List PyData}, (∀ d ∈ ds, Lay n d) → PyData.canLayAll0 ds = true ∧ PyData.depthAll ds ≤ n
  | [], _ => by simp [PyData.canLayAll0, PyData.depthAll]
  | d :: ds, h => by
    obtain ⟨h1, h2⟩ := lay_all fun e he => h e (List.mem_cons_of_mem _ he)
    obtain ⟨z1, z2⟩ := h d List.mem_cons_self
    simp only [PyData.canLayAll0, PyData.depthAll, h1, z1, Bool.and_self, true_and]
    omega
theorem lay_list {n : Nat} {ds : List PyData} (h : ∀ d ∈ ds, Lay n d) : Lay (n + 1) (.list ds) := by
  obtain ⟨h1, h2⟩ := lay_all h
  exact ⟨by simpa [PyData.canLay0] using h1, by simp only [PyData.depth]; omega⟩
theorem lay_tuple {n : Nat} {ds : List PyData} (h : ∀ d ∈ ds, Lay n d) : Lay (n + 1) (.tuple ds) := by
  obtain ⟨h1, h2⟩ := lay_all h
  exact ⟨by simpa [PyData.canLay0] using h1, by simp only [PyData.depth]; omega⟩
theorem lay_int {n : Nat} {i : Int} : Lay n (.int i) := ⟨rfl, Nat.zero_le _⟩
theorem lay_bl {n : Nat} {i : Bool} : Lay n (.bool i) := ⟨rfl, Nat.zero_le _⟩
theorem lay_non {n : Nat} : Lay n .none := ⟨rfl, Nat.zero_le _⟩
def okS (w : List Nat) : Bool := w.all (· < 0x110000)
theorem lay_S {n : Nat} {w : List Nat} (h : okS w = true) : Lay n (.str (S w)) := by
  refine ⟨?_, Nat.zero_le _⟩
  simp only [PyData.canLay0, PyData.strOk]
  simpa [okS] using h
theorem shaped_of {n : Nat} {d : PyData} (h : Lay n d) (hn : n ≤ 64 := by decide) : SeqAt.shaped d = true := by
  unfold SeqAt.shaped
  rw [h.1, decide_eq_true (Nat.le_trans h.2 hn)]
  rfl
theorem okS_L {w : List Nat} (h : AllL w) : okS w = true := by
  unfold okS
  rw [List.all_eq_true]
  intro c hc
  rcases isL_cases (h c hc) with rfl | rfl | rfl | rfl | rfl | rfl | rfl | rfl <;> decide
theorem lay_ints (ns : List Int) : Lay 1 (.list (ns.map PyData.int)) := lay_list fun d hd => by
  obtain ⟨n, _, rfl⟩ := List.mem_map.mp hd
  exact lay_int
theorem lay_nil {n : Nat} : Lay (n + 1) (.list []) := lay_list fun d hd => absurd hd (by simp)
theorem lay_strs {ws : List (List Nat)} (h : ∀ w ∈ ws, okS w = true) : Lay 1 (.list (ws.map fun w => PyData.str (S w))) := lay_list fun d hd => by
  obtain ⟨n, hn, rfl⟩ := List.mem_map.mp hd
  exact lay_S (h n hn)
theorem eqv_ints (ns ms : List Int) : PyData.eqvAll (ns.map PyData.int) (ms.map PyData.int) = decide (ns = ms) := by
  induction ns generalizing ms with
  | nil => cases ms <;> simp [PyData.eqvAll]
  | cons a ns ih => cases ms with
    | nil => simp [PyData.eqvAll]
    | cons b ms =>
      rw [Bool.eq_iff_iff]
      simp [PyData.eqvAll, PyData.eqv, ih]
theorem eqv_strs (ns ms : List (List Nat)) : PyData.eqvAll (ns.map fun w => PyData.str (S w)) (ms.map fun w => PyData.str (S w)) = decide (ns = ms) := by
  induction ns generalizing ms with
  | nil => cases ms <;> simp [PyData.eqvAll]
  | cons a ns ih => cases ms with
    | nil => simp [PyData.eqvAll]
    | cons b ms => 
      simp only [List.map_cons, PyData.eqvAll, PyData.eqv, ih, List.cons.injEq, Bool.decide_and]
      congr 1
      rw [Bool.eq_iff_iff]
      simp [S_inj]
/-- list == [] -/
theorem r_neNil {K : PySem.W.Frag} {H : Hp} {Q : VK} {a b : Addr} {xs : List V} {ds : List PyData} (h1 : SqL K H a xs) (d : DpAll K H xs ds) (hl : Lay 8 (.list ds)) (h2 : SqL K H b []) (q : Q (.bl (!decide (xs = []))) H) : rNeA K (.ref a) (.ref b) H Q := by
  refine r_neD (.lst h1 d) (.lst h2 .nil) (shaped_of hl) (shaped_of (lay_nil (n := 1))) ?_
  have e : PyData.eqv (.list ds) (.list []) = decide (xs = []) := by
    cases d <;> simp [PyData.eqv, PyData.eqvAll]
  rw [e]
  exact q
theorem r_eqNil {K : PySem.W.Frag} {H : Hp} {Q : VK} {a b : Addr} {xs : List V} {ds : List PyData} (h1 : SqL K H a xs) (d : DpAll K H xs ds) (hl : Lay 8 (.list ds)) (h2 : SqL K H b []) (q : Q (.bl (decide (xs = []))) H) : rEqA K (.ref a) (.ref b) H Q := by
  refine r_eqD (.lst h1 d) (.lst h2 .nil) (shaped_of hl) (shaped_of (lay_nil (n := 1))) ?_
  have e : PyData.eqv (.list ds) (.list []) = decide (xs = []) := by
    cases d <;> simp [PyData.eqv, PyData.eqvAll]
  rw [e]
  exact q
theorem Lay.mono {n m : Nat} {d : PyData} (h : Lay n d) (hm : n ≤ m) : Lay m d := ⟨h.1, Nat.le_trans h.2 hm⟩
end
end Cs

set_option Elab.async false
set_option linter.all false
set_option maxRecDepth 100000
set_option maxHeartbeats 4000000
/-! LayE: kinds kept, list-or-tuple walks, methods by name. -/
namespace Cs
open PySem PySem.Spec PyProof.Rows L2
section
variable {K : PySem.W.Frag} {H H' : Hp} {x : V} {t u : Value} {b : Bool}
theorem tyX_same (e : Same H H') (h : TyX K H x t) : TyX K H' x t := by
  cases h with
  | base h =>
    cases h with
    | non => exact .base .non
    | bl x => exact .base (.bl x)
    | int x => exact .base (.int x)
    | str x => exact .base (.str x)
    | flt x => exact .base (.flt x)
    | lst h => exact .base (.lst (e _ _ h))
    | frz h => exact .base (.frz (e _ _ h))
    | tup h => exact .base (.tup (e _ _ h))
    | dK h => exact .base (.dK (e _ _ h))
    | dT h => exact .base (.dT (e _ _ h))
    | ins h c a n k m => exact .base (.ins (e _ _ h) c a n k m)
  | byt b => exact .byt b
  | set h => exact .set (e _ _ h)
  | kList h c => exact .kList h c
  | kTuple h c => exact .kTuple h c
  | kDict h c => exact .kDict h c
  | fTuple h => exact .fTuple (e _ _ h)
  | fDict h => exact .fDict (e _ _ h)
theorem isK_same (e : Same H H') (h : IsK K H x u b) : IsK K H' x u b := by
  rcases h with ⟨t, h, q⟩ | ⟨a, C, d, rfl, h, hd, T, q⟩
  · exact .inl ⟨t, tyX_same e h, q⟩
  · exact .inr ⟨a, C, d, rfl, e _ _ h, fun dd z => let ⟨fs, w⟩ := hd dd z; ⟨fs, e _ _ w⟩, T, q⟩
/-- isinstance(x, (c, ..)) -/
def IsT (K : PySem.W.Frag) (H : Hp) (x : V) (us : List Value) (b : Bool) : Prop := ∃ t, TyX K H x t ∧ PySem.W.kitAny K t us = some b
theorem isT_same {us : List Value} (e : Same H H') (h : IsT K H x us b) : IsT K H' x us b := let ⟨t, h, q⟩ := h; ⟨t, tyX_same e h, q⟩
theorem q_isT2 {c1 c2 : V} {u1 u2 : Value} {p : Addr} {Q : VK} (hp : H p = some (.tup [c1, c2])) (k1 : ClsV c1 u1) (k2 : ClsV c2 u2) (h : IsT K H x [u1, u2] b) (q : Q (.bl b) H) : rIsiT K [x, .ref p] H Q := by
  obtain ⟨t, ty, e⟩ := h
  exact ⟨x, p, _, t, _, b, rfl, hp, .cons k1 (.cons k2 .nil), ty, e, q⟩
theorem sqL_same {a : Addr} {xs : List V} (e : Same H H') (h : SqL K H a xs) : SqL K H' a xs := e.seq h
theorem sqT_same {a : Addr} {xs : List V} (e : Same H H') (h : SqT K H a xs) : SqT K H' a xs :=
  h.elim (fun h => .inl (h.elim (fun h => .inl (e _ _ h)) fun ⟨o, h⟩ => .inr ⟨o, e _ _ h⟩)) fun h => .inr h
/-- a list or a tuple -/
def SqA (K : PySem.W.Frag) (H : Hp) (a : Addr) (xs : List V) : Prop := SqL K H a xs ∨ SqT K H a xs
theorem sqA_same {a : Addr} {xs : List V} (e : Same H H') (h : SqA K H a xs) : SqA K H' a xs := h.elim (fun h => .inl (sqL_same e h)) fun h => .inr (sqT_same e h)
theorem q_lenA {a : Addr} {xs : List V} {Q : VK} (h : SqA K H a xs) (q : Q (.int (xs.length : Nat)) H) : rLenB K [.ref a] H Q := h.elim (fun h => q_lenL h q) fun h => q_lenT h q
def iLT (K : PySem.W.Frag) (tl : TE) : TI := fun σ H R => tl σ H fun x H1 => ∃ a, x = .ref a ∧ (((∃ xs, SqL K H1 a xs) ∧ R (Itl K a) H1) ∨ ((∃ xs, SqT K H1 a xs) ∧ R (Itt K a) H1))
end
section
variable {X : Cx} {tg : Expr}
theorem pi_lt {l : Expr} {tl : TE} (hl : PE X l tl) : PI X tg l (iLT X.K tl) := by
  refine ⟨fun pins s σ H R I h => ?_⟩
  refine thn (hl.run pins s σ H _ I h) fun v s1 ⟨x, H1, I1, r1, q1⟩ => ?_
  obtain ⟨a, e, ⟨⟨xs, hq⟩, q⟩ | ⟨⟨xs, hq⟩, q⟩⟩ := q1
  · subst e
    cases r1
    obtain ⟨its, rv, p, hz⟩ := I1.list hq
    refine wpAny_pyIter_list p.isList ?_
    refine ⟨s1.heap.objs.size, [s1.heap.objs.size], _, _, H1, rfl, I1.kept (t' := s1.toks) fun b o e => Heap.get?_push_of_some _ e, turn_list a _, ⟨_, Heap.get?_push_size _ rfl, rfl, rfl⟩, fun b hb => ?_, q⟩
    have e : b = s1.heap.objs.size := by simpa using hb
    subst e
    exact I1.fpOk (Nat.le_refl _) (I1.hok.fresh (Nat.le_refl _))
  · subst e
    cases r1
    obtain ⟨its, rv, p, hz⟩ := I1.tuple hq
    refine wpAny_pyIter_tuple (show s1.heap.IsTuple a its.toArray from p) ?_
    refine ⟨s1.heap.objs.size, [s1.heap.objs.size], _, _, H1, rfl, I1.kept (t' := s1.toks) fun b o e => Heap.get?_push_of_some _ e, turn_tuple a _, ⟨_, Heap.get?_push_size _ rfl, rfl, rfl⟩, fun b hb => ?_, q⟩
    have e : b = s1.heap.objs.size := by simpa using hb
    subst e
    exact I1.fpOk (Nat.le_refl _) (I1.hok.fresh (Nat.le_refl _))
end
def rLT (K : PySem.W.Frag) (R : It → Hp → Prop) (x : V) (H1 : Hp) : Prop := ∃ a, x = .ref a ∧ (((∃ xs, SqL K H1 a xs) ∧ R (Itl K a) H1) ∨ ((∃ xs, SqT K H1 a xs) ∧ R (Itt K a) H1))
/-! ### comprehensions -/
/-- what a comprehension's walk asks -/
def LcW (J : It) (g : TG) (tt : TT) (te : TE) (vs : List Nat) (σ : L2.St) (H1 : Hp) (Dl : Addr) (Qd : Hp → Prop) : Prop :=
  ∃ W : Nat → Nat → Hp → Prop, (∃ m, W 0 m (upd H1 Dl (.lst []))) ∧ ∀ i m H, W i m H →
      (J.stop i H ∧ Qd H) ∨ (J.go i H ∧ ∃ Nx : Hp → Prop, (∀ H', Nx H' → ∃ m', m' < m ∧ W (i + 1) m' H') ∧ ∀ x H', J.yld i H x H' → g x (wipe σ vs) H' fun σ2 H2 => wipe σ2 vs = wipe σ vs ∧ tt σ2 H2 fun b H3 =>
        if b = true then te σ2 H3 fun y H4 => ∃ acc, H4 Dl = some (.lst acc) ∧ acc.length < sizeLine ∧ Nx (upd H4 Dl (.lst (acc ++ [y]))) else Nx H3)
section
variable {K : PySem.W.Frag} {H H' : Hp} {σ : L2.St} {Q : VK} {QS : L2.St → Hp → Prop} {tr : TA} {te tx : TE} {g : TG} {tt : TT} {vs : List Nat} {De : Ends}
theorem r_iLT0 {R : It → Hp → Prop} (q : te σ H fun x H1 => rLT K R x H1) : iLT K te σ H R := q
theorem r_iLT {R : It → Hp → Prop} {a : Addr} {xs : List V} (h : SqA K H a xs) (q1 : SqL K H a xs → R (Itl K a) H) (q2 : SqT K H a xs → R (Itt K a) H) : rLT K R (.ref a) H :=
  ⟨a, rfl, h.elim (fun h => .inl ⟨⟨xs, h⟩, q1 h⟩) fun h => .inr ⟨⟨xs, h⟩, q2 h⟩⟩
theorem r_yes {A : Bool → Hp → Prop} (q : A true H) : tYes σ H A := q
theorem r_lc {wi : TI} (q : wi σ H fun J H1 => ∀ Dl, H1 Dl = none → LcW J g tt te vs σ H1 Dl (Q (.ref Dl))) : tLc wi g tt te vs σ H Q := q
theorem walk_rangeY {lo : Int} {n : Nat} : Walk (Itr lo n) ((List.range n).map fun i => V.int (lo + (i : Nat))).length (fun _ => True) (YAt ((List.range n).map fun i => V.int (lo + (i : Nat)))) := by
  have e : ((List.range n).map fun i => V.int (lo + (i : Nat))).length = n := by simp
  rw [e]
  refine ⟨fun i H hi _ => hi, fun H _ => Nat.le_refl _, fun i H x H' hi _ y => ⟨y.1, ?_⟩⟩
  rw [List.getElem?_map, List.getElem?_range hi, y.2]
  rfl
theorem wipe1 {i : Nat} {x : Option V} : wipe ((wipe σ [i]).set i x) [i] = wipe σ [i] := by
  show ((σ.set i none).set i x).set i none = σ.set i none
  rw [List.set_set, List.set_set]
theorem lcFin {Pv : List V → Hp → Prop} {y : V} {acc : List V} {Dl : Addr} (e : H Dl = some (.lst acc)) (hl : acc.length ≤ 1000000) (p : Pv (acc ++ [y]) (upd H Dl (.lst (acc ++ [y])))) :
    ∃ acc, H Dl = some (.lst acc) ∧ acc.length < sizeLine ∧ ∃ a2, Pv a2 (upd H Dl (.lst (acc ++ [y]))) ∧ (upd H Dl (.lst (acc ++ [y]))) Dl = some (.lst a2) :=
  ⟨acc, e, by rw [sizeLine_eq]; omega, _, p, upd_same⟩
/-- a comprehension: Pv by the turn, what is made so far, the heap -/
theorem lcG {J : It} {its : List V} {G : Hp → Prop} {i : Nat} {H1 : Hp} {Dl : Addr} {Qd : Hp → Prop} (w : Walk J its.length G (YAt its)) (Pv : Nat → List V → Hp → Prop) (h0 : Pv 0 [] (upd H1 Dl (.lst []))) (hG : ∀ j acc H, j ≤ its.length → Pv j acc H → H Dl = some (.lst acc) → G H)
    (hs : ∀ j x acc H, its[j]? = some x → Pv j acc H → H Dl = some (.lst acc) → tt ((σ.set i none).set i (some x)) H fun b H3 =>
      if b = true then te ((σ.set i none).set i (some x)) H3 fun y H4 => ∃ acc, H4 Dl = some (.lst acc) ∧ acc.length < sizeLine ∧ ∃ a2, Pv (j + 1) a2 (upd H4 Dl (.lst (acc ++ [y]))) ∧ (upd H4 Dl (.lst (acc ++ [y]))) Dl = some (.lst a2) else ∃ a2, Pv (j + 1) a2 H3 ∧ H3 Dl = some (.lst a2))
    (hd : ∀ acc H, Pv its.length acc H → H Dl = some (.lst acc) → Qd H) : LcW J (gName i) tt te [i] σ H1 Dl Qd := by
  refine lc_it w (fun j H => ∃ acc, Pv j acc H ∧ H Dl = some (.lst acc)) ⟨[], h0, upd_same⟩ (fun j H hj ⟨acc, p, e⟩ => hG j acc H hj p e) ?_ (fun H ⟨acc, p, e⟩ => hd acc H p e)
  rintro j x H H' hj ⟨acc, p, e⟩ ⟨rfl, hx⟩
  exact ⟨wipe1, hs j x acc _ hx p e⟩
end
/-! ### methods by name -/
def rStarts : V → List V → Hp → VK → Prop := fun x xs H Q => ∃ a b, x = .str a ∧ xs = [.str b] ∧ Q (.bl (Txt.startswith a b)) H
def rJoin (K : PySem.W.Frag) : V → List V → Hp → VK → Prop := fun x xs H Q => ∃ a p, ∃ ys : List Str, x = .str a ∧ xs = [.ref p] ∧ (SqL K H p (ys.map V.str) ∨ SqT K H p (ys.map V.str)) ∧
    (ys.map (·.length)).sum + ys.length * a.length ≤ 16777216 ∧ Q (.str (Txt.join a ys)) H
def rInsert : V → List V → Hp → VK → Prop := fun x vs H Q => ∃ (l : Addr) (xs : List V) (i : Int) (y : V), x = .ref l ∧ vs = [.int i, y] ∧ H l = some (.lst xs) ∧ xs.length < sizeLine ∧ 0 ≤ i ∧ i < 2 ^ 63 ∧
    Q .non (upd H l (.lst (xs.take i.toNat ++ [y] ++ xs.drop i.toNat)))
section
variable {X : Cx}
theorem mb_startswith : MtR X "str.startswith" rStarts := mt_startswith
theorem mb_join {K : PySem.W.Frag} (h : X.K = K := by rfl) : MtR X "str.join" (rJoin K) := by subst h; exact mt_join
theorem mb_insert : MtR X "list.insert" rInsert := mt_insert
theorem mb_append : MtR X "list.append" rAppend := mt_append
theorem mb_pop : MtR X "list.pop" rPop := mt_pop
end
section
variable {K : PySem.W.Frag} {H : Hp} {Q : VK} {l : Addr} {xs : List V} {y : V}
theorem q_starts {a b : List Nat} (q : Q (.bl (b.isPrefixOf a)) H) : rStarts (.str (S a)) [.str (S b)] H Q := ⟨_, _, rfl, rfl, by rw [startswith_S]; exact q⟩
theorem q_append (h : H l = some (.lst xs)) (hl : xs.length ≤ 1000000) (q : Q .non (upd H l (.lst (xs ++ [y])))) : rAppend (.ref l) [y] H Q := ⟨l, xs, y, rfl, rfl, h, by rw [sizeLine_eq]; omega, q⟩
theorem q_insert {n : Nat} (h : H l = some (.lst xs)) (hl : xs.length ≤ 1000000) (hn : n ≤ 1000000) (q : Q .non (upd H l (.lst (xs.take n ++ [y] ++ xs.drop n)))) : rInsert (.ref l) [.int (n : Nat), y] H Q := ⟨l, xs, n, y, rfl, rfl, h, by rw [sizeLine_eq]; omega, by omega, by omega, q⟩
end
/-! ### words: texts of letters -/
def lastL (v : List Nat) : List Nat := v.drop (v.length - 1)
theorem lastL_snoc (v : List Nat) (c : Nat) : lastL (v ++ [c]) = [c] := by simp [lastL]
theorem lastL_one {w : List Nat} (h : w ≠ []) : ∃ c, lastL w = [c] ∧ atI w (-1) = some c := by
  obtain ⟨v, c, rfl⟩ : ∃ v c, w = v ++ [c] := ⟨w.dropLast, w.getLast h, (List.dropLast_concat_getLast h).symm⟩
  refine ⟨c, lastL_snoc v c, ?_⟩
  exact atI_neg (k := 1) (by decide) (by simp) (by simp)
theorem snoc_of {w : List Nat} (h : w ≠ []) : ∃ v c, w = v ++ [c] := ⟨w.dropLast, w.getLast h, (List.dropLast_concat_getLast h).symm⟩
theorem cut_21' (w : List Nat) : cutS (S w) (some (-2)) (some (-1)) = S (lastL w.dropLast) := by
  rw [cut_21]
  congr 1
  by_cases h : w = []
  · subst h; rfl
  · obtain ⟨v, c, rfl⟩ := snoc_of h
    simp only [List.length_append, List.length_singleton, List.dropLast_concat, lastL]
    by_cases hv : v = []
    · subst hv; rfl
    · have : 0 < v.length := List.length_pos_iff.mpr hv
      have e1 : v.length + 1 - 2 = v.length - 1 := by omega
      have e2 : v.length + 1 - 1 - (v.length - 1) = 1 := by omega
      rw [e1, e2, List.drop_append_of_le_length (by omega)]
      rw [List.take_append_of_le_length (by simp; omega), List.take_of_length_le (by simp; omega)]
theorem snocInd {A : List Nat → Prop} (h0 : A []) (h1 : ∀ v c, A v → A (v ++ [c])) : ∀ w, A w := by
  intro w
  generalize hn : w.length = n
  induction n generalizing w with
  | zero => rw [List.eq_nil_of_length_eq_zero hn]; exact h0
  | succ n ih =>
    obtain ⟨v, c, rfl⟩ := snoc_of (w := w) (by intro e; rw [e] at hn; cases hn)
    exact h1 v c (ih v (by simpa using hn))
/-- every sign a letter, none undoing the one ahead -/
def badC (a : List Nat) (c : Nat) : Bool := !isL c || decide ([c] = a.map und)
/-- the first sign that is no letter or undoes the one ahead -/
def fb : List Nat → Nat → List Nat → Option Nat
  | _, _, [] => none
  | a, i, c :: r => if badC a c = true then some i else fb [c] (i + 1) r
/-- a word -/
def Good (w : List Nat) : Prop := fb [] 0 w = none
def ahd (w : List Nat) : Nat → List Nat
  | 0 => []
  | i + 1 => match w[i]? with | some c => [c] | none => []
def gd : List Nat → List Nat → Bool
  | _, [] => true
  | a, c :: r => !badC a c && gd [c] r
theorem fb_none : ∀ (w a : List Nat) (i : Nat), fb a i w = none ↔ gd a w = true
  | [], a, i => by simp [fb, gd]
  | c :: r, a, i => by
    unfold fb gd
    cases badC a c with
    | true => simp
    | false => simpa using fb_none r [c] (i + 1)
theorem good_gd {w : List Nat} : Good w ↔ gd [] w = true := fb_none w [] 0
theorem gd_snoc : ∀ (v a : List Nat) (c : Nat), gd a (v ++ [c]) = (gd a v && !badC (if v = [] then a else lastL v) c)
  | [], a, c => by simp [gd]
  | x :: v, a, c => by
    rw [List.cons_append]
    unfold gd
    rw [gd_snoc v [x] c, Bool.and_assoc]
    have e : (if v = [] then [x] else lastL v) = (if x :: v = [] then a else lastL (x :: v)) := by
      rw [if_neg (List.cons_ne_nil x v)]
      by_cases h : v = []
      · subst h; rfl
      · rw [if_neg h]
        obtain ⟨u, d, rfl⟩ := snoc_of h
        rw [lastL_snoc, ← List.cons_append, lastL_snoc]
    rw [e]
theorem good_snoc {v : List Nat} {c : Nat} : Good (v ++ [c]) ↔ Good v ∧ isL c = true ∧ [c] ≠ (lastL v).map und := by
  rw [good_gd, good_gd, gd_snoc]
  have e : (if v = [] then [] else lastL v) = lastL v := by
    by_cases h : v = []
    · subst h; rfl
    · rw [if_neg h]
  rw [e]
  simp [badC]
theorem good_nil : Good [] := rfl
theorem good_L {w : List Nat} (h : Good w) : AllL w := by
  refine snocInd (A := fun w => Good w → AllL w) (fun _ c hc => by cases hc) (fun v c ih h => ?_) w h
  obtain ⟨h1, h2, _⟩ := good_snoc.mp h
  intro d hd
  rcases List.mem_append.mp hd with hd | hd
  · exact ih h1 d hd
  · rw [List.mem_singleton.mp hd]; exact h2
theorem good_init {w : List Nat} (h : Good w) : Good w.dropLast := by
  by_cases e : w = []
  · subst e; exact h
  · obtain ⟨v, c, rfl⟩ := snoc_of e
    rw [List.dropLast_concat]
    exact (good_snoc.mp h).1
theorem good_take {w : List Nat} (h : Good w) : ∀ n, Good (w.take n) := by
  refine snocInd (A := fun w => Good w → ∀ n, Good (w.take n)) (fun h n => by simpa using h) (fun v c ih h n => ?_) w h
  by_cases hn : n ≤ v.length
  · rw [List.take_append_of_le_length hn]
    exact ih (good_snoc.mp h).1 n
  · rw [List.take_of_length_le (by simp; omega)]
    exact h
/-! ### twins -/
def hasTw (w : List Nat) : Bool := !decide (w = []) && !decide (lastL w = lastL w.dropLast)
def twOf (w : List Nat) : List Nat := w.dropLast ++ (lastL w).map und
theorem twOf_snoc (v : List Nat) (c : Nat) : twOf (v ++ [c]) = v ++ [und c] := by
  unfold twOf
  rw [List.dropLast_concat, lastL_snoc]
  rfl
theorem hasTw_snoc (v : List Nat) (c : Nat) : hasTw (v ++ [c]) = !decide ([c] = lastL v) := by
  unfold hasTw
  rw [List.dropLast_concat, lastL_snoc]
  simp
theorem hasTw_ne {w : List Nat} (h : hasTw w = true) : w ≠ [] := by
  intro e
  subst e
  exact absurd h (by decide)
theorem allL_last {w : List Nat} (h : AllL w) : AllL (lastL w) := fun c hc => h c (List.mem_of_mem_drop hc)
theorem good_tw {w : List Nat} (h : Good w) (ht : hasTw w = true) : Good (twOf w) := by
  obtain ⟨v, c, rfl⟩ := snoc_of (hasTw_ne ht)
  obtain ⟨h1, h2, h3⟩ := good_snoc.mp h
  rw [hasTw_snoc] at ht
  rw [twOf_snoc, good_snoc]
  refine ⟨h1, und_L h2, fun e => ?_⟩
  have hv := allL_last (good_L h1)
  have : [c] = lastL v := by
    cases hl : lastL v with
    | nil => rw [hl] at e; cases e
    | cons a r =>
      rw [hl] at e hv
      cases r with
      | nil =>
        have e2 : und c = und a := by simpa using e
        rw [und_inj h2 (hv a List.mem_cons_self) e2]
      | cons b r => simp at e
  rw [this] at ht
  simp at ht
theorem tw_tw {w : List Nat} (h : AllL w) (hw : w ≠ []) : twOf (twOf w) = w := by
  obtain ⟨v, c, rfl⟩ := snoc_of hw
  rw [twOf_snoc, twOf_snoc, und_und (h c (by simp))]
theorem tw_len {w : List Nat} (hw : w ≠ []) : (twOf w).length = w.length := by
  obtain ⟨v, c, rfl⟩ := snoc_of hw
  rw [twOf_snoc]
  simp
theorem hasTw_tw {w : List Nat} (h : Good w) (ht : hasTw w = true) : hasTw (twOf w) = true := by
  obtain ⟨v, c, rfl⟩ := snoc_of (hasTw_ne ht)
  obtain ⟨h1, h2, h3⟩ := good_snoc.mp h
  rw [twOf_snoc, hasTw_snoc]
  have hv := allL_last (good_L h1)
  have : ¬ [und c] = lastL v := fun e => h3 (by rw [← e]; simp [und_und h2])
  simpa using this
/-! ### the same rules, K said -/
section
variable {X : Cx} {K : PySem.W.Frag}
theorem call_isiEK (h : X.K = K := by rfl) : CallR X (.builtin "isinstance") (rIsiE K) := by subst h; exact call_isiE
theorem call_isiTK (h : X.K = K := by rfl) : CallR X (.builtin "isinstance") (rIsiT K) := by subst h; exact call_isiT
theorem ix_seqK (h : X.K = K := by rfl) : IxR X (rIx K) := by subst h; exact ix_seq
theorem sl_anyK (h : X.K = K := by rfl) : SlR X (rSlA K) := by subst h; exact sl_any
theorem op_eqK (hu : X.A.units + 64 < cLine) (h : X.K = K := by rfl) : OpR X (compareOp .Eq) (rEqA K) := by subst h; exact op_eqA hu
theorem op_neK (hu : X.A.units + 64 < cLine) (h : X.K = K := by rfl) : OpR X (compareOp .NotEq) (rNeA K) := by subst h; exact op_neA hu
theorem op_inK (h : X.K = K := by rfl) : OpR X (compareOp .In) (rInA K) := by subst h; exact op_inA
theorem op_niK (h : X.K = K := by rfl) : OpR X (compareOp .NotIn) (rNiA K) := by subst h; exact op_niA
theorem pe_attrK {e : Expr} {te : TE} {pos : Pos} {n : Str} (he : PE X e te) (h : X.K = K := by rfl) (hb : attributeBase e n X.env (eval e X.env) = eval e X.env := by rfl) : PE X (.Attribute e n pos) (tAttr K n te) := by subst h; exact pe_attr he hb
end
/-! ### rows apart -/
def Apart (rows : List (List Nat)) : Prop := ∀ (i j : Nat) (x y : List Nat), rows[i]? = some x → rows[j]? = some y → i ≠ j → y.isPrefixOf x = false
theorem paired_len {α β : Type} {G : α → β → Prop} : ∀ {xs : List α} {ys : List β}, Paired G xs ys → xs.length = ys.length
  | _, _, .nil => rfl
  | _, _, .cons _ t => congrArg (· + 1) (paired_len t)
theorem paired_at {α β : Type} {G : α → β → Prop} : ∀ {xs : List α} {ys : List β}, Paired G xs ys → ∀ {i : Nat} {x : α} {y : β}, xs[i]? = some x → ys[i]? = some y → G x y
  | _, _, .cons g _, 0, _, _, h1, h2 => by cases h1; cases h2; exact g
  | _, _, .cons _ t, i + 1, _, _, h1, h2 => paired_at t (by simpa using h1) (by simpa using h2)
theorem paired_snoc {α β : Type} {G : α → β → Prop} : ∀ {xs : List α} {ys : List β} {x : α} {y : β}, Paired G xs ys → G x y → Paired G (xs ++ [x]) (ys ++ [y])
  | _, _, _, _, .nil, g => .cons g .nil
  | _, _, _, _, .cons h t, g => .cons h (paired_snoc t g)
theorem paired_mono {α β : Type} {G G' : α → β → Prop} (hm : ∀ x y, G x y → G' x y) : ∀ {xs : List α} {ys : List β}, Paired G xs ys → Paired G' xs ys
  | _, _, .nil => .nil
  | _, _, .cons h t => .cons (hm _ _ h) (paired_mono hm t)
theorem paired_of {α β : Type} {G : α → β → Prop} : ∀ {xs : List α} {ys : List β}, xs.length = ys.length → (∀ (i : Nat) (x : α) (y : β), xs[i]? = some x → ys[i]? = some y → G x y) → Paired G xs ys
  | [], [], _, _ => .nil
  | _ :: _, _ :: _, hl, h => .cons (h 0 _ _ rfl rfl) (paired_of (by simpa using hl) fun i x y a b => h (i + 1) x y (by simpa using a) (by simpa using b))
theorem paired_rev {α β : Type} {G : α → β → Prop} : ∀ {xs : List α} {ys : List β}, Paired G xs ys → Paired G xs.reverse ys.reverse
  | _, _, .nil => .nil
  | _, _, .cons h t => by
    rw [List.reverse_cons, List.reverse_cons]
    exact paired_snoc (paired_rev t) h
theorem take_snoc {α : Type} {xs : List α} {j : Nat} {x : α} (h : xs[j]? = some x) : xs.take (j + 1) = xs.take j ++ [x] := by
  rw [List.take_add_one, h]
  rfl
end Cs

set_option Elab.async false
set_option linter.all false
set_option maxRecDepth 100000
set_option maxHeartbeats 4000000
/-! LayF: plain lemmas: tops of a stem, rows apart. -/
namespace Cs
open PySem PySem.Spec PyProof.Rows L2
section
variable {X : Cx} {K : PySem.W.Frag} {e : Expr} {es : List Expr}
theorem pe_bm0K {T id : String} {name : Str} {r : V → List V → Hp → VK → Prop} {o : Expr} {to : TE} {apos cpos : Pos} (pa : PlainAttrs T) (slot : Slot T name id) (hty : typeOf (.builtin id) = pure (.type "method_descriptor")) (hm : MtR X id r) (ho : PE X o to) (h : X.K = K := by rfl)
    (hbase : attributeBase o name X.env (eval o X.env) = eval o X.env := by rfl) (hline : (apos.endLine == cpos.line) = true := by rfl) : PE X (.Call (.Attribute o name apos) [] [] cpos) (tBM0 K T r to) := by
  subst h
  exact pe_bm0 pa slot hty hm ho hbase hline
theorem pe_bmK {T id : String} {name : Str} {r : V → List V → Hp → VK → Prop} {o : Expr} {to : TE} {t : TA} {apos cpos : Pos} (pa : PlainAttrs T) (slot : Slot T name id) (hty : typeOf (.builtin id) = pure (.type "method_descriptor")) (hm : MtR X id r) (ho : PE X o to) (ha : PA X (e :: es) t) (h : X.K = K := by rfl)
    (hbase : attributeBase o name X.env (eval o X.env) = eval o X.env := by rfl)
    (hfew : ((backTo cpos (starEach (e :: es) X.env)).all (fun x => !x.1) && (backToKw cpos (keywordEach [] X.env)).all (fun x => x.1.isSome)
      && decide ((e :: es).length + ([] : List Keyword).length + (if ([] : List Keyword).isEmpty then 0 else 1) < 30)) = true := by rfl)
    (hline : (apos.endLine == cpos.line) = true := by rfl) (hs : starEach (e :: es) X.env = (false, eval e X.env) :: starEach es X.env := by rfl) (hplain : (backTo cpos (starEach es X.env)).any (·.1) = false := by rfl) :
    PE X (.Call (.Attribute o name apos) (e :: es) [] cpos) (tBM K T r to t) := by
  subst h
  exact pe_bm pa slot hty hm ho ha hbase hfew hline hs hplain
end
theorem walk_range0 {n : Nat} : Walk (Itr 0 n) ((List.range n).map fun i => V.int (i : Nat)).length (fun _ => True) (YAt ((List.range n).map fun i => V.int (i : Nat))) := by
  have e : ((List.range n).map fun i => V.int (i : Nat)).length = n := by simp
  rw [e]
  refine ⟨fun i H hi _ => hi, fun H _ => Nat.le_refl _, fun i H x H' hi _ y => ⟨y.1, ?_⟩⟩
  rw [List.getElem?_map, List.getElem?_range hi, y.2, Int.zero_add]
  rfl
theorem cutV_to (xs : List V) (k : Nat) : cutV xs none (some (k : Int)) = xs.take k := by
  unfold cutV
  rw [HT.sIx_none, HT.sIx_nat]
  simp only [List.drop_zero, Nat.sub_zero]
  by_cases h : k ≤ xs.length
  · rw [Nat.min_eq_left h]
  · rw [Nat.min_eq_right (by omega), List.take_length, List.take_of_length_le (by omega)]
theorem cutV_from (xs : List V) (k : Nat) : cutV xs (some (k : Int)) none = xs.drop k := by
  unfold cutV
  rw [HT.sIx_none, HT.sIx_nat]
  by_cases h : k ≤ xs.length
  · rw [Nat.min_eq_left h]
    apply List.take_of_length_le
    simp
  · rw [Nat.min_eq_right (by omega), List.drop_of_length_le (by omega : xs.length ≤ k), List.drop_length]
    simp
theorem rep1 (n c : Nat) : (List.replicate n [c]).flatten = List.replicate n c := by
  induction n with
  | zero => rfl
  | succ n ih => rw [List.replicate_succ, List.flatten_cons, ih]; rfl
/-- the first two of A, B, C that the last letter is not of -/
def free2 (u : List Nat) : List Nat := ([65, 66, 67].filter fun c => !decide (c ∈ (lastL u).map upp))
theorem lastL_le (u : List Nat) : (lastL u).length ≤ 1 := by
  unfold lastL
  rw [List.length_drop]
  omega
theorem free2_two (u : List Nat) : ∃ a b r, free2 u = a :: b :: r ∧ a ≠ b ∧ (a = 65 ∨ a = 66) ∧ (b = 66 ∨ b = 67) ∧ a ∉ (lastL u).map upp ∧ b ∉ (lastL u).map upp := by
  unfold free2
  have h := lastL_le u
  generalize lastL u = l at h
  match l, h with
  | [], _ => exact ⟨65, 66, [67], rfl, by decide, .inl rfl, .inl rfl, by simp, by simp⟩
  | [d], _ =>
    by_cases h1 : upp d = 65
    · exact ⟨66, 67, [], by simp [h1], by decide, .inr rfl, .inr rfl, by simp [h1], by simp [h1]⟩
    · by_cases h2 : upp d = 66
      · exact ⟨65, 67, [], by simp [h2], by decide, .inl rfl, .inr rfl, by simp [h2], by simp [h2]⟩
      · refine ⟨65, 66, ([67].filter fun c => !decide (c ∈ [d].map upp)), ?_, by decide, .inl rfl, .inl rfl, ?_, ?_⟩
        · have e1 : (!decide (65 ∈ [d].map upp)) = true := by simp; omega
          have e2 : (!decide (66 ∈ [d].map upp)) = true := by simp; omega
          rw [List.filter_cons, if_pos e1, List.filter_cons, if_pos e2]
        · simp; omega
        · simp; omega
theorem nu {a : Nat} {l : List Nat} (ha : a = 65 ∨ a = 66 ∨ a = 67) (hL : AllL l) (h : a ∉ l.map upp) : [a] ≠ l.map und ∧ [a] ≠ l := by
  constructor
  · intro e
    cases l with
    | nil => cases e
    | cons d r =>
      have hd : isL d = true := hL d List.mem_cons_self
      have e1 : a = und d := by simpa using congrArg List.head? e
      apply h
      rw [List.map_cons, e1]
      refine List.mem_cons.mpr (.inl ?_)
      rw [e1] at ha
      rcases isL_cases hd with rfl | rfl | rfl | rfl | rfl | rfl | rfl | rfl <;> simp [und, upp] at ha ⊢
  · intro e
    rw [← e] at h
    apply h
    rcases ha with rfl | rfl | rfl <;> decide
theorem good_rep {u : List Nat} {a : Nat} (hg : Good u) (ha : a = 65 ∨ a = 66 ∨ a = 67) (h : a ∉ (lastL u).map upp) : ∀ m, Good (u ++ List.replicate m a)
  | 0 => by simpa using hg
  | m + 1 => by
    rw [List.replicate_succ', ← List.append_assoc]
    refine good_snoc.mpr ⟨good_rep hg ha h m, by rcases ha with rfl | rfl | rfl <;> rfl, ?_⟩
    cases m with
    | zero =>
      rw [List.replicate_zero, List.append_nil]
      exact (nu ha (allL_last (good_L hg)) h).1
    | succ m =>
      rw [List.replicate_succ', ← List.append_assoc, lastL_snoc]
      rcases ha with rfl | rfl | rfl <;> decide
/-- u a .. a b, a m times -/
def topW (u : List Nat) (a b m : Nat) : List Nat := u ++ List.replicate m a ++ [b]
theorem last_rep {u : List Nat} {a m : Nat} : lastL (u ++ List.replicate (m + 1) a) = [a] := by
  rw [List.replicate_succ', ← List.append_assoc, lastL_snoc]
theorem good_top {u : List Nat} {a b : Nat} (hg : Good u) (ha : a = 65 ∨ a = 66 ∨ a = 67) (hb : b = 65 ∨ b = 66 ∨ b = 67) (hab : a ≠ b) (h : a ∉ (lastL u).map upp) (h2 : b ∉ (lastL u).map upp) (m : Nat) :
    Good (topW u a b m) ∧ hasTw (topW u a b m) = true ∧ twOf (topW u a b m) = u ++ List.replicate m a ++ [und b] := by
  have hl : [b] ≠ (lastL (u ++ List.replicate m a)).map und ∧ [b] ≠ lastL (u ++ List.replicate m a) := by
    cases m with
    | zero =>
      rw [List.replicate_zero, List.append_nil]
      exact nu hb (allL_last (good_L hg)) h2
    | succ m =>
      rw [last_rep]
      refine ⟨?_, fun e => hab (by simpa using e.symm)⟩
      rcases ha with rfl | rfl | rfl <;> rcases hb with rfl | rfl | rfl <;> decide
  refine ⟨good_snoc.mpr ⟨good_rep hg ha h m, by rcases hb with rfl | rfl | rfl <;> rfl, hl.1⟩, ?_, twOf_snoc _ _⟩
  unfold topW
  rw [hasTw_snoc, decide_eq_false hl.2]
  rfl
/-- the rows of the tops and of their twins -/
def topRows (u : List Nat) (a b : Nat) : Nat → List (List Nat)
  | 0 => []
  | m + 1 => topRows u a b m ++ [topW u a b m, u ++ List.replicate m a ++ [und b]]
theorem topRows_at {u : List Nat} {a b : Nat} : ∀ {n i : Nat} {x : List Nat}, (topRows u a b n)[i]? = some x → ∃ m c, m = i / 2 ∧ (c = b ∧ i % 2 = 0 ∨ c = und b ∧ i % 2 = 1) ∧ x = u ++ List.replicate m a ++ [c] := by
  intro n
  have hlen : ∀ n, (topRows u a b n).length = 2 * n := by
    intro n
    induction n with
    | zero => rfl
    | succ n ih => unfold topRows; rw [List.length_append, ih]; simp; omega
  induction n with
  | zero => intro i x h; simp [topRows] at h
  | succ n ih =>
    intro i x h
    unfold topRows at h
    by_cases hi : i < (topRows u a b n).length
    · rw [List.getElem?_append_left hi] at h
      exact ih h
    · rw [List.getElem?_append_right (by omega), hlen] at h
      rw [hlen] at hi
      by_cases h0 : i - 2 * n = 0
      · rw [h0] at h
        cases h
        exact ⟨n, b, by omega, .inl ⟨rfl, by omega⟩, rfl⟩
      · by_cases h1 : i - 2 * n = 1
        · rw [h1] at h
          cases h
          exact ⟨n, und b, by omega, .inr ⟨rfl, by omega⟩, rfl⟩
        · rw [List.getElem?_eq_none (by simp; omega)] at h
          cases h
theorem rep_pre {u : List Nat} {a c d m k : Nat} (hc : c ≠ a) (hd : d ≠ a) (h : (u ++ List.replicate m a ++ [c]) <+: (u ++ List.replicate k a ++ [d])) : m = k ∧ c = d := by
  rw [List.append_assoc, List.append_assoc, List.prefix_append_right_inj] at h
  induction m generalizing k with
  | zero =>
    cases k with
    | zero => simpa using h
    | succ k =>
      rw [List.replicate_succ] at h
      simp at h
      try exact absurd h hc
  | succ m ih =>
    cases k with
    | zero =>
      rw [List.replicate_succ] at h
      simp at h
      try exact absurd h.1.symm hd
    | succ k =>
      rw [List.replicate_succ, List.replicate_succ, List.cons_append, List.cons_append, List.cons_prefix_cons] at h
      obtain ⟨e1, e2⟩ := ih h.2
      exact ⟨congrArg (· + 1) e1, e2⟩
theorem topRows_apart {u : List Nat} {a b : Nat} (ha : a = 65 ∨ a = 66 ∨ a = 67) (hb : b = 65 ∨ b = 66 ∨ b = 67) (hab : a ≠ b) (n : Nat) : Apart (topRows u a b n) := by
  intro i j x y hx hy hne
  obtain ⟨m, c, rfl, hc, rfl⟩ := topRows_at hx
  obtain ⟨k, d, rfl, hd, rfl⟩ := topRows_at hy
  rw [Bool.eq_false_iff]
  intro h
  have h := List.isPrefixOf_iff_prefix.mp h
  have ub : und b ≠ a ∧ und b ≠ b := by
    rcases ha with rfl | rfl | rfl <;> rcases hb with rfl | rfl | rfl <;> decide
  have nc : c ≠ a := hc.elim (fun h => h.1 ▸ hab.symm) (fun h => h.1 ▸ ub.1)
  have nd : d ≠ a := hd.elim (fun h => h.1 ▸ hab.symm) (fun h => h.1 ▸ ub.1)
  obtain ⟨e1, e2⟩ := rep_pre nd nc h
  apply hne
  rcases hc with ⟨rfl, h1⟩ | ⟨rfl, h1⟩ <;> rcases hd with ⟨rfl, h2⟩ | ⟨rfl, h2⟩
  · omega
  · exact absurd e2 ub.2
  · exact absurd e2.symm ub.2
  · omega
theorem topRows_pre {u : List Nat} {a b n : Nat} {x : List Nat} (h : x ∈ topRows u a b n) : u <+: x := by
  obtain ⟨i, hi⟩ := List.mem_iff_getElem?.mp h
  obtain ⟨m, c, _, _, rfl⟩ := topRows_at hi
  rw [List.append_assoc]
  exact List.prefix_append _ _
end Cs

set_option Elab.async false
set_option linter.all false
set_option maxRecDepth 100000
set_option maxHeartbeats 4000000
/-! LayG: the pen at work; joins behind an if. -/
namespace Cs
open PySem PySem.Spec PyProof.Rows L2
/-- n positional values, m keywords; the keywords' values in the order ix -/
def gPm {α : Type} (z : α) (n m : Nat) (ix : List Nat) (us ws : List α) : List α := if us.length = n ∧ ws.length = m then us ++ ix.map (fun i => ws.getD i z) else []
theorem vals_getD : ∀ {zs : List V} {ws : List Value} (i : Nat), Vals zs ws → RelV (zs.getD i .non) (ws.getD i .none)
  | _, _, _, .nil => rfl
  | _, _, 0, .cons r _ => r
  | _, _, i + 1, .cons _ t => by simpa using vals_getD i t
theorem vals_ix {zs : List V} {ws : List Value} (h : Vals zs ws) : ∀ (ix : List Nat), Vals (ix.map fun i => zs.getD i .non) (ix.map fun i => ws.getD i .none)
  | [] => .nil
  | i :: ix => .cons (vals_getD i h) (vals_ix h ix)
theorem gPm_rel {n m : Nat} {ix : List Nat} {vs : List V} {us : List Value} {zs : List V} {ws : List Value} (h1 : Vals vs us) (h2 : Vals zs ws) : Vals (gPm .non n m ix vs zs) (gPm .none n m ix us ws) := by
  unfold gPm
  rw [h1.length, h2.length]
  by_cases h : us.length = n ∧ ws.length = m
  · rw [if_pos h, if_pos h]
    exact h1.append (vals_ix h2 ix)
  · rw [if_neg h, if_neg h]
    exact .nil
theorem r_ntt {A B : Prop} (q : B) : if (!true) = true then A else B := q
theorem r_nff {A B : Prop} (q : A) : if (!false) = true then A else B := q
theorem r_itup {K : PySem.W.Frag} {σ : L2.St} {H : Hp} {ta : TE} {R : It → Hp → Prop} (q : ta σ H fun x H1 => ∃ a, x = .ref a ∧ (∃ xs, SqT K H1 a xs) ∧ R (Itt K a) H1) : iTup K ta σ H R := q
def rRevL (K : PySem.W.Frag) (x : V) (H1 : Hp) (Q : VK) : Prop := ∃ a xs, x = .ref a ∧ SqL K H1 a xs ∧ ∀ p, H1 p = none → Q (.ref p) (upd H1 p (.lst xs.reverse))
theorem r_revL {K : PySem.W.Frag} {σ : L2.St} {H : Hp} {te : TE} {Q : VK} (q : te σ H fun x H1 => rRevL K x H1 Q) : tRevL K te σ H Q := q
theorem paired_app {α β : Type} {G : α → β → Prop} : ∀ {xs xs' : List α} {ys ys' : List β}, Paired G xs ys → Paired G xs' ys' → Paired G (xs ++ xs') (ys ++ ys')
  | _, _, _, _, .nil, h => h
  | _, _, _, _, .cons g t, h => .cons g (paired_app t h)
theorem paired_take {α β : Type} {G : α → β → Prop} : ∀ {xs : List α} {ys : List β} (n : Nat), Paired G xs ys → Paired G (xs.take n) (ys.take n)
  | _, _, 0, _ => .nil
  | _, _, n + 1, .nil => .nil
  | _, _, n + 1, .cons g t => .cons g (paired_take n t)
theorem paired_drop {α β : Type} {G : α → β → Prop} : ∀ {xs : List α} {ys : List β} (n : Nat), Paired G xs ys → Paired G (xs.drop n) (ys.drop n)
  | _, _, 0, h => h
  | _, _, n + 1, .nil => .nil
  | _, _, n + 1, .cons g t => paired_drop n t
/-- what follows a statement is proved once -/
theorem r_cut {T : TS} {σ : L2.St} {H : Hp} {f bk ct : L2.St → Hp → Prop} {rt : VK} (Mid : L2.St → Hp → Prop) (h1 : ∀ nx, (∀ σ' H', Mid σ' H' → nx σ' H') → T (Ends.mk nx rt bk ct) σ H) (h2 : ∀ σ' H', Mid σ' H' → f σ' H') : T (Ends.mk f rt bk ct) σ H := h1 f h2
/-- if .. elif .. else: the else is proved once -/
theorem r_els {c1 c2 : TT} {t1 t2 t3 : TS} {De : Ends} {σ : L2.St} {H : Hp} (Mid : L2.St → Hp → Prop) (h3 : ∀ σ H, Mid σ H → t3 De σ H) (h : ∀ t3' : TS, (∀ σ H, Mid σ H → t3' De σ H) → tIfS c1 t1 (tIfS c2 t2 t3') De σ H) : tIfS c1 t1 (tIfS c2 t2 t3) De σ H := h t3 h3
theorem q_set {H : Hp} {p : Addr} {k : Int} {j : Nat} {v : V} {xs : List V} {Q : Hp → Prop} (h : H p = some (.lst xs)) (hj : ixN xs.length k = some j) (q : Q (upd H p (.lst (xs.set j v)))) : rSetL (.ref p) (.int k) v H Q := ⟨p, xs, k, j, rfl, rfl, h, hj, q⟩
structure KP (P : Pen) (H0 H : Hp) (spot rest : Int) : Prop where
  keep : KeepB P H0 H
  pen : H P.p = some (penO P spot rest)
  cells : H P.c = some (.lst (P.ns.map V.int))
  ne : P.p ≠ P.c
section
variable {P : Pen} {n m : Nat} {H H0 H' : Hp} {s r s' r' : Int} {p : Addr} {o : HO}
theorem KP.of (h : PenAt P n H) : ∃ s r : Int, 0 ≤ s ∧ s ≤ n ∧ 0 ≤ r ∧ KP P H H s r := by
  obtain ⟨s, r, h1, h2, h3, h4⟩ := h.ex
  exact ⟨s, r, h1, h2, h3, KeepB.refl, h4, h.cells, h.ne⟩
theorem KP.set (h : KP P H0 H s r) : KP P H0 (upd H P.p (penO P s' r')) s' r' :=
  ⟨fun b o nb e => by rw [upd_ne nb]; exact h.keep b o nb e, upd_same, by rw [upd_ne h.ne.symm]; exact h.cells, h.ne⟩
theorem KP.new (h : KP P H0 H s r) (hp : H p = none) : KP P H0 (upd H p o) s r :=
  ⟨h.keep.new hp, by rw [upd_ne (ne_of_none h.pen hp)]; exact h.pen, by rw [upd_ne (ne_of_none h.cells hp)]; exact h.cells, h.ne⟩
theorem KP.done (h : KP P H0 H s r) (h1 : 0 ≤ s) (h2 : s ≤ n) (h3 : 0 ≤ r) (hl : P.ns.length ≤ 63) : PenAt P n H := ⟨⟨s, r, h1, h2, h3, h.pen⟩, h.cells, hl, h.ne⟩
end
theorem r_ixLi {K : PySem.W.Frag} {H : Hp} {a : Addr} {ns : List Int} {k : Int} {Q : VK} (h : H a = some (.lst (ns.map V.int))) (h0 : 0 ≤ k) (h1 : k < ns.length) (q : ∀ c, ns[k.toNat]? = some c → Q (.int c) H) : rIx K (.ref a) (.int k) H Q := by
  obtain ⟨j, rfl⟩ := Int.eq_ofNat_of_zero_le h0
  have hj : j < ns.length := by omega
  have e : (ns.map V.int)[j]? = some (V.int ns[j]) := by simp [hj]
  exact r_ixL (SqL.of h) (atI_nat e) (q ns[j] (by simp [hj]))
theorem mulB {a b x y : Int} (h0 : 0 ≤ a) (h1 : a ≤ x) (h2 : 0 ≤ b) (h3 : b ≤ y) : 0 ≤ a * b ∧ a * b ≤ x * y := ⟨Int.mul_nonneg h0 h2, Int.mul_le_mul h1 h3 h2 (by omega)⟩
end Cs

set_option Elab.async false
set_option linter.all false
set_option maxRecDepth 100000
set_option maxHeartbeats 4000000
/-! LayH: from the facts of the written part to the makers of errors, the callees. -/
namespace Cs
open PySem PySem.Spec PyProof.Rows L2 PySem.ErrX
section
variable {K : PySem.W.Frag} {C : Addr} {t : Value} {v : Bool}
theorem kit_self : PySem.W.kitOne K (.ref C) (.ref C) = some true := by
  unfold PySem.W.kitOne
  rw [if_pos (beq_self_eq_true _)]
theorem kitc_own (i : PySem.W.isClsIn K C = true) (ty : PySem.W.typeIn K (.ref C) = some (.type "type")) (s : PySem.W.subIn K t (.ref C) = some v) : PySem.W.kitCls K t (.ref C) = some v := by
  unfold PySem.W.kitCls
  have i' : (PySem.W.clsIn K C).isSome = true := i
  simp only [i', ty]
  exact s
theorem kit_own {T : String} (i : PySem.W.isClsIn K C = true) (ty : PySem.W.typeIn K (.ref C) = some (.type "type")) (s : PySem.W.subIn K (.type T) (.ref C) = some v) : PySem.W.kitOne K (.type T) (.ref C) = some v := by
  unfold PySem.W.kitOne
  rw [if_neg (by simp)]
  exact kitc_own i ty s
theorem kit_bt {T : String} (s : PySem.W.subIn K (.ref C) (.type T) = some v) (m : PySem.W.kitMeta T = true := by decide +kernel) : PySem.W.kitOne K (.ref C) (.type T) = some v := by
  unfold PySem.W.kitOne
  rw [if_neg (by simp)]
  unfold PySem.W.kitCls
  simp only [m, if_true]
  exact s
theorem exm_own {A : Addr} (e : PySem.W.subIn K (.ref C) (.type "BaseException") = some true) (i : PySem.W.isClsIn K C = true) (ty : PySem.W.typeIn K (.ref C) = some (.type "type")) (s : PySem.W.subIn K (.ref A) (.ref C) = some v) : PySem.W.exmOne K (.ref A) (.ref C) = some v := by
  unfold PySem.W.exmOne
  rw [e, if_pos (by decide)]
  exact kitc_own i ty s
end
section
variable {P : Program} {w : World} {K : PySem.W.Frag} {mg : Str → Option Value} {base : Heap} {C fI : Addr} {params : Arguments} {scope : Scope} {msg f g : Str} {p0 p1 p2 p3 p4 p5 q0 q1 q2 q3 r0 r1 r2 r3 : Pos}
theorem emk1 (T : ECls P K C fI) (S : EShape params scope [f]) (F : EFun P K C fI params [sup msg p0 p1 p2 p3 p4 p5, sto f q0 q1 q2 q3] scope) (nof : PySem.W.findIn K (.ref C) f = some none)
    (hb : ∀ (s : Shared) (x : Addr) (v : Value) (qual : Str) (kV doc pm ct : Value) (an : Option Addr) (cda cc : Addr), BindsTo s (PySem.W.ksFn "__init__" qual params [sup msg p0 p1 p2 p3 p4 p5, sto f q0 q1 q2 q3] scope .none kV doc pm an (.ref cda) ct cc) ⟨[.ref x, v], []⟩ [("self", .ref x), (f, v)])
    (hev : ∀ (L cda cc : Addr) (qual : Str), interactive (PySem.W.ksEnv qual scope L fI (.ref cda) cc) = false ∧ (∃ pl, SupEv msg p0 p1 p2 p3 p4 pl (PySem.W.ksEnv qual scope L fI (.ref cda) cc)) ∧
      swapsWith (.Name f q2) (some (.Attribute (.Name "self" q0) f q1)) q3.line (PySem.W.ksEnv qual scope L fI (.ref cda) cc) = pure false) : EMk P w K mg base C fI [f] where
  T := T
  run := fun M {A s R x t0 us} hl kb hx hbx hroom hq => by
    match us, hl with
    | [v], _ =>
      refine err_init1 M kb T S F hx hbx hroom nof (hb s x v) hev fun h' tk dx I => hq h' tk dx ?_
      have e : (fun y => ([f].zip [v]).lookup y) = fun y => if y = f then some v else none := by
        funext y
        simp only [List.zip_cons_cons, List.zip_nil_right, List.lookup_cons, List.lookup_nil]
        by_cases h : y = f
        · rw [if_pos h, h, beq_self_eq_true]
        · rw [if_neg h, beq_eq_false_iff_ne.mpr h]
      rw [e]
      exact I
  no := fun x hx => by rw [List.mem_singleton.mp hx]; exact nof
theorem emk2 (T : ECls P K C fI) (S : EShape params scope [f, g]) (F : EFun P K C fI params [sup msg p0 p1 p2 p3 p4 p5, sto f q0 q1 q2 q3, sto g r0 r1 r2 r3] scope) (nof : PySem.W.findIn K (.ref C) f = some none) (nog : PySem.W.findIn K (.ref C) g = some none)
    (hb : ∀ (s : Shared) (x : Addr) (v u : Value) (qual : Str) (kV doc pm ct : Value) (an : Option Addr) (cda cc : Addr), BindsTo s (PySem.W.ksFn "__init__" qual params [sup msg p0 p1 p2 p3 p4 p5, sto f q0 q1 q2 q3, sto g r0 r1 r2 r3] scope .none kV doc pm an (.ref cda) ct cc) ⟨[.ref x, v, u], []⟩ [("self", .ref x), (f, v), (g, u)])
    (hev : ∀ (L cda cc : Addr) (qual : Str), interactive (PySem.W.ksEnv qual scope L fI (.ref cda) cc) = false ∧ (∃ pl, SupEv msg p0 p1 p2 p3 p4 pl (PySem.W.ksEnv qual scope L fI (.ref cda) cc)) ∧
      swapsWith (.Name f q2) (some (.Attribute (.Name "self" q0) f q1)) q3.line (PySem.W.ksEnv qual scope L fI (.ref cda) cc) = pure false ∧ swapsWith (.Name g r2) (some (.Attribute (.Name "self" r0) g r1)) r3.line (PySem.W.ksEnv qual scope L fI (.ref cda) cc) = pure false) : EMk P w K mg base C fI [f, g] where
  T := T
  run := fun M {A s R x t0 us} hl kb hx hbx hroom hq => by
    match us, hl with
    | [v, u], _ =>
      refine err_init2 M kb T S F hx hbx hroom nof nog (hb s x v u) hev fun h' tk dx I => hq h' tk dx ?_
      have gf : f ≠ g := by
        have z := S.nd
        simp at z
        exact z
      have e : (fun y => ([f, g].zip [v, u]).lookup y) = fun y => if y = g then some u else if y = f then some v else none := by
        funext y
        simp only [List.zip_cons_cons, List.zip_nil_right, List.lookup_cons, List.lookup_nil]
        by_cases h : y = f
        · rw [h, beq_self_eq_true, if_neg gf, if_pos rfl]
        · rw [beq_eq_false_iff_ne.mpr h, if_neg h]
          by_cases h2 : y = g
          · rw [if_pos h2, h2, beq_self_eq_true]
          · rw [if_neg h2, beq_eq_false_iff_ne.mpr h2]
      rw [e]
      exact I
  no := fun x hx => by
    rcases List.mem_cons.mp hx with rfl | hx
    · exact nof
    · rw [List.mem_singleton.mp hx]; exact nog
end
end Cs

set_option Elab.async false
set_option linter.all false
set_option maxRecDepth 100000
set_option maxHeartbeats 4000000
/-! LayW: words struck: every order of striking gives one word. -/
namespace Cs
open PySem PySem.Spec PyProof.Rows L2
/-- a letter set ahead of a word -/
def act (c : Nat) : List Nat → List Nat
  | [] => [c]
  | d :: r => if und c = d then r else c :: d :: r
theorem act_hit {c : Nat} {r : List Nat} : act c (und c :: r) = r := by
  show (if und c = und c then r else c :: und c :: r) = r
  rw [if_pos rfl]
theorem act_miss {c d : Nat} {r : List Nat} (h : und c ≠ d) : act c (d :: r) = c :: d :: r := by
  show (if und c = d then r else c :: d :: r) = _
  rw [if_neg h]
/-- the word that a text comes to -/
def val (w : List Nat) : List Nat := w.foldr act []
theorem val_nil : val [] = [] := rfl
theorem val_cons (c : Nat) (w : List Nat) : val (c :: w) = act c (val w) := rfl
theorem val_app (a b : List Nat) : val (a ++ b) = a.foldr act (val b) := by unfold val; rw [List.foldr_append]
theorem gd_cons {c : Nat} {w : List Nat} : gd [] (c :: w) = true ↔ isL c = true ∧ gd [c] w = true := by
  simp [gd, badC]
theorem gd_tail {a : List Nat} {w : List Nat} (h : gd a w = true) : gd [] w = true := by
  cases w with
  | nil => rfl
  | cons c r =>
    simp only [gd, badC, Bool.and_eq_true, Bool.not_eq_true', Bool.or_eq_false_iff] at h ⊢
    exact ⟨⟨h.1.1, by simp⟩, h.2⟩
theorem gd_ahead {c d : Nat} {r : List Nat} (hc : isL c = true) (h : gd [] (d :: r) = true) (hn : und c ≠ d) : gd [c] (d :: r) = true := by
  obtain ⟨h1, h2⟩ := gd_cons.mp h
  simp only [gd, badC, h1, h2, Bool.and_true, Bool.not_true, Bool.false_or, Bool.not_eq_true', decide_eq_false_iff_not, List.map_cons, List.map_nil]
  exact fun z => hn (by simpa using z.symm)
theorem act_good {c : Nat} {w : List Nat} (hc : isL c = true) (h : Good w) : Good (act c w) := by
  rw [good_gd] at h ⊢
  cases w with
  | nil => exact gd_cons.mpr ⟨hc, rfl⟩
  | cons d r =>
    by_cases e : und c = d
    · subst e
      rw [act_hit]
      exact gd_tail (gd_cons.mp h).2
    · rw [act_miss e]
      exact gd_cons.mpr ⟨hc, gd_ahead hc h e⟩
theorem val_good {w : List Nat} (h : AllL w) : Good (val w) := by
  induction w with
  | nil => rfl
  | cons c w ih => exact act_good (h c List.mem_cons_self) (ih fun d hd => h d (List.mem_cons_of_mem _ hd))
theorem foldr_good {a w : List Nat} (ha : AllL a) (h : Good w) : Good (a.foldr act w) := by
  induction a with
  | nil => exact h
  | cons c a ih => exact act_good (ha c List.mem_cons_self) (ih fun d hd => ha d (List.mem_cons_of_mem _ hd))
theorem act_act {c : Nat} {w : List Nat} (hc : isL c = true) (h : Good w) : act c (act (und c) w) = w := by
  cases w with
  | nil =>
    show act c [und c] = []
    exact act_hit
  | cons d r =>
    by_cases e : c = d
    · subst e
      have z : act (und c) (c :: r) = r := by
        have q := act_hit (c := und c) (r := r)
        rw [und_und hc] at q
        exact q
      rw [z]
      cases r with
      | nil => rfl
      | cons x r =>
        rw [good_gd, gd_cons] at h
        have z := h.2
        simp only [gd, badC, Bool.and_eq_true, Bool.not_eq_true', Bool.or_eq_false_iff, decide_eq_false_iff_not, List.map_cons, List.map_nil] at z
        exact act_miss fun q => z.1.2 (by rw [q])
    · rw [act_miss (c := und c) (by rw [und_und hc]; exact e)]
      exact act_hit
/-- a word comes to itself -/
theorem val_self {w : List Nat} (h : Good w) : val w = w := by
  induction w with
  | nil => rfl
  | cons c w ih =>
    rw [good_gd] at h
    obtain ⟨h1, h2⟩ := gd_cons.mp h
    rw [val_cons, ih (good_gd.mpr (gd_tail h2))]
    cases w with
    | nil => rfl
    | cons d r =>
      simp only [gd, badC, Bool.and_eq_true, Bool.not_eq_true', Bool.or_eq_false_iff, decide_eq_false_iff_not, List.map_cons, List.map_nil] at h2
      exact act_miss fun q => h2.1.2 (by rw [q])
/-- striking two letters side by side changes nothing -/
theorem val_strike {a b : List Nat} {c : Nat} (hc : isL c = true) (hb : AllL b) : val (a ++ c :: und c :: b) = val (a ++ b) := by
  rw [val_app, val_app, val_cons, val_cons, act_act hc (val_good hb)]
theorem foldr_val {a b : List Nat} (hb : Good b) : a.foldr act b = val (a ++ b) := by rw [val_app, val_self hb]
/-- a ++ b comes to what a's word and b's word come to -/
theorem val_vals {a b : List Nat} (ha : AllL a) (hb : AllL b) : val (val a ++ val b) = val (a ++ b) := by
  have go : ∀ (a : List Nat), AllL a → ∀ w, Good w → (val a).foldr act w = a.foldr act w := by
    intro a
    induction a with
    | nil => intro _ w _; rfl
    | cons c a ih =>
      intro ha w hw
      have hc := ha c List.mem_cons_self
      have ha' : AllL a := fun d hd => ha d (List.mem_cons_of_mem _ hd)
      rw [val_cons, List.foldr_cons, ← ih ha' w hw]
      cases e : val a with
      | nil => rfl
      | cons d r =>
        have hg : Good (d :: r) := by rw [← e]; exact val_good ha'
        by_cases q : und c = d
        · subst q
          rw [act_hit, List.foldr_cons]
          exact (act_act hc (foldr_good (fun x hx => good_L hg x (List.mem_cons_of_mem _ hx)) hw)).symm
        · rw [act_miss q, List.foldr_cons]
  rw [val_app, val_self (val_good hb), go a ha _ (val_good hb), val_app]
end Cs

set_option Elab.async false
set_option linter.all false
set_option maxRecDepth 100000
set_option maxHeartbeats 4000000
/-! LayI: operators of an own class, by its own defs. -/
namespace Cs
open PySem PySem.Spec PyProof.Rows L2
section
variable {X : Cx} {CXc : CXT} {k j : Nat} {C f : Addr} {fd : FuncData} {ps : List Str} {sp : Sp} {E : XK} {pins : List (Addr × Obj)} {σ : L2.St} {H : Hp} {s : Shared} {Q : VK}
/-- what a value that V has is for an operator: no NotImplemented -/
theorem cmpBack_of {u : Value} {s' : Shared} (h : EP X pins σ Q u s') : PySem.W.CmpBack (EP X pins σ Q) u s' := by
  cases u with
  | notImplemented =>
    obtain ⟨v, H', I, r, q⟩ := h
    cases v <;> first
      | (have r : ∃ t, _ = _ := r; obtain ⟨_, r⟩ := r; exact nomatch r)
      | exact nomatch r
  | _ => exact h
/-- an instance as the library sees it -/
theorem inst_of {a dx : Addr} {fs : List (Str × V)} (I : Inv X pins σ H s) (h : H a = some (.ins C dx fs)) : ∃ ox od, PySem.W.InstAt s.heap a ox C od := by
  obtain ⟨mA, O, _⟩ := ins_get I.hok h
  obtain ⟨od, J, _⟩ := O.look
  exact ⟨_, od, J⟩
theorem op_ownB {op : Operator} (F : FnOk X.prog X.w X.K X.mg X.base CXc k f fd ps sp) (hr : Room k X.A) (sf : PySem.W.selfFirst X.K C = true) (hs : PySem.W.findIn X.K (.ref C) (PySem.dunder op.info.2) = some (some (.ref f))) (hf : PySem.W.isFn X.K (.ref f) = true)
    (hb : Binds X.K fd ps []) (hx : Passes CXc X E) : OpR X (binaryOp op) (fun x y H Q => ∃ a b dx dy fs gs, x = .ref a ∧ y = .ref b ∧ H a = some (.ins C dx fs) ∧ H b = some (.ins C dy gs) ∧ sp [.ref a, .ref b] H Q E) := by
  intro pins s σ H x y v u Q I rx ry h
  obtain ⟨a, b, dx, dy, fs, gs, rfl, rfl, ha, hb', q⟩ := h
  cases rx
  cases ry
  obtain ⟨_, _, J⟩ := inst_of I ha
  obtain ⟨_, _, J'⟩ := inst_of I hb'
  obtain ⟨m, hF⟩ := I.fr
  refine PySem.W.binop_K hF I.ok.mod.kin J J'.type sf hs hf ?_
  have r2 : Vals [V.ref a, V.ref b] [Value.ref a, Value.ref b] := .cons rfl (.cons rfl .nil)
  exact wpAny_mono (run_fn (dvs := []) (ds := []) F hr hb .nil hx I r2 (by simpa using q)) (fun _ _ z => cmpBack_of z) fun _ _ z => z
theorem un_ownI (F : FnOk X.prog X.w X.K X.mg X.base CXc k f fd ps sp) (hr : Room k X.A) (hs : PySem.W.findIn X.K (.ref C) "__invert__" = some (some (.ref f))) (hf : PySem.W.isFn X.K (.ref f) = true)
    (hb : Binds X.K fd ps []) (hx : Passes CXc X E) : UnR X (unaryOp .Invert) (fun x H Q => ∃ a dx fs, x = .ref a ∧ H a = some (.ins C dx fs) ∧ sp [.ref a] H Q E) := by
  intro pins s σ H x v Q I rx h
  obtain ⟨a, dx, fs, rfl, ha, q⟩ := h
  cases rx
  obtain ⟨_, _, J⟩ := inst_of I ha
  obtain ⟨m, hF⟩ := I.fr
  have r2 : Vals [V.ref a] [Value.ref a] := .cons rfl .nil
  exact PySem.W.ksp_inv hF I.ok.mod.kin J hs hf (run_fn (dvs := []) (ds := []) F hr hb .nil hx I r2 (by simpa using q))
/-- a def called at another place of the same frames -/
theorem run_fnA {A : Around} {us : List Value} {vs : List V} (F : FnOk X.prog X.w X.K X.mg X.base CXc k f fd ps sp) (hA : A.frames = X.A.frames) (hr : Room k A) (hb : Binds X.K fd ps []) (hx : Passes CXc X E) (I : Inv X pins σ H s) (r : Vals vs us) (h : sp vs H Q E) :
    wpAny (model X.prog X.w) A (call (.ref f) us) (EP X pins σ Q) X.xe s := by
  have e0 : Env0 X.prog X.w X.K X.mg X.base A X.stack s H := by
    have e := I.env0
    exact ⟨by rw [hA]; exact e.frames, e.mod, e.bs, e.bsz, e.funs, e.frf, e.hok, e.bare⟩
  have hl := F.len _ _ _ _ h
  refine wpAny_call (codeAny_mono (F.run A X.stack s H ⟨us, []⟩ us vs Q E hr e0 (by
    have := hb s us I.kIn (by rw [List.append_nil, ← r.length]; exact hl)
    simpa using this) r h) fun r s' hq => ?_)
  cases r with
  | error e => exact hx pins σ H s e s' I hq
  | ok fl =>
    cases fl with
    | ret u => exact I.after hq
    | next => exact False.elim hq
    | brk => exact False.elim hq
    | cont => exact False.elim hq
theorem call_lenOwn (F : FnOk X.prog X.w X.K X.mg X.base CXc k f fd ps sp) (hr : Room (k + 1) X.A) (hs : PySem.W.findIn X.K (.ref C) "__len__" = some (some (.ref f))) (hf : PySem.W.isFn X.K (.ref f) = true)
    (hb : Binds X.K fd ps []) (hx : Passes CXc X E) : CallR X (.builtin "len") (fun xs H Q => ∃ a dx fs, xs = [.ref a] ∧ H a = some (.ins C dx fs) ∧ sp [.ref a] H (fun v H' => ∃ n : Nat, v = .int (n : Nat) ∧ n < 2 ^ 63 ∧ Q (.int (n : Nat)) H') E) := by
  intro pins s σ H xs us Q I r h
  obtain ⟨a, dx, fs, rfl, ha, q⟩ := h
  obtain ⟨u, rfl, rx⟩ := vals1 r
  cases rx
  obtain ⟨_, _, J⟩ := inst_of I ha
  obtain ⟨m, hF⟩ := I.fr
  have r2 : Vals [V.ref a] [Value.ref a] := .cons rfl .nil
  refine PySem.W.len_K hF I.ok.mod.kin J hs hf (wpAny_mono (run_fnA (A := X.A.in1) F rfl hr.in1 hb hx I r2 q) (fun v s' z => ?_) fun _ _ z => z)
  obtain ⟨v', H', I', rv, n, rfl, hn, q'⟩ := z
  obtain ⟨t, rfl⟩ := rv
  exact ⟨⟨by omega, by omega⟩, .int (n : Nat), H', I'.tok _, ⟨_, rfl⟩, q'⟩
theorem call_strOwn (F : FnOk X.prog X.w X.K X.mg X.base CXc k f fd ps sp) (hr : Room (k + 2) X.A) (hs : PySem.W.findIn X.K (.ref C) "__str__" = some (some (.ref f))) (hf : PySem.W.isFn X.K (.ref f) = true)
    (hb : Binds X.K fd ps []) (hx : Passes CXc X E) : CallR X (.type "str") (fun xs H Q => ∃ a dx fs, xs = [.ref a] ∧ H a = some (.ins C dx fs) ∧ sp [.ref a] H (fun v H' => ∃ z, v = .str z ∧ Q (.str z) H') E) := by
  intro pins s σ H xs us Q I r h
  obtain ⟨a, dx, fs, rfl, ha, q⟩ := h
  obtain ⟨u, rfl, rx⟩ := vals1 r
  cases rx
  obtain ⟨_, _, J⟩ := inst_of I ha
  have r2 : Vals [V.ref a] [Value.ref a] := .cons rfl .nil
  have hr1 : Room (k + 1) X.A.in1 := hr.in1
  refine PySem.W.kso_call (A := X.A) (by have := hr1.in1.un; omega) I.kIn J hs hf (wpAny_mono (run_fnA (A := X.A.in1.in1) F rfl hr1.in1 hb hx I r2 q) (fun v s' z => ?_) fun _ _ z => z)
  obtain ⟨v', H', I', rv, y, rfl, q'⟩ := z
  obtain ⟨t, rfl⟩ := rv
  exact ⟨.str y, H', I', ⟨_, rfl⟩, q'⟩
theorem op_cmpOwn {op : CmpOp} (hop : ∀ v u : Value, compareOp op v u = richCompare op v u) (F : FnOk X.prog X.w X.K X.mg X.base CXc k f fd ps sp) (hr : Room k X.A) (hs : PySem.W.findIn X.K (.ref C) (cmpInfo op).2.1 = some (some (.ref f))) (hf : PySem.W.isFn X.K (.ref f) = true)
    (hb : Binds X.K fd ps []) (hx : Passes CXc X E) : OpR X (compareOp op) (fun x y H Q => ∃ a b dx dy fs gs, x = .ref a ∧ y = .ref b ∧ H a = some (.ins C dx fs) ∧ H b = some (.ins C dy gs) ∧ sp [.ref a, .ref b] H Q E) := by
  intro pins s σ H x y v u Q I rx ry h
  obtain ⟨a, b, dx, dy, fs, gs, rfl, rfl, ha, hb', q⟩ := h
  cases rx
  cases ry
  obtain ⟨_, _, J⟩ := inst_of I ha
  obtain ⟨_, _, J'⟩ := inst_of I hb'
  obtain ⟨m, hF⟩ := I.fr
  rw [hop]
  have r2 : Vals [V.ref a, V.ref b] [Value.ref a, Value.ref b] := .cons rfl (.cons rfl .nil)
  refine PySem.W.cmp_K (tb := .ref C) hr.units0 hF I.ok.mod.kin J J'.type (by simp [PySem.W.notFirst]) hs hf ?_
  exact wpAny_mono (run_fn (dvs := []) (ds := []) F hr hb .nil hx I r2 (by simpa using q)) (fun _ _ z => cmpBack_of z) fun _ _ z => z
theorem op_eqOwn (F : FnOk X.prog X.w X.K X.mg X.base CXc k f fd ps sp) (hr : Room k X.A) (hs : PySem.W.findIn X.K (.ref C) "__eq__" = some (some (.ref f))) (hf : PySem.W.isFn X.K (.ref f) = true)
    (hb : Binds X.K fd ps []) (hx : Passes CXc X E) : OpR X (compareOp .Eq) (fun x y H Q => ∃ a b dx dy fs gs, x = .ref a ∧ y = .ref b ∧ H a = some (.ins C dx fs) ∧ H b = some (.ins C dy gs) ∧ sp [.ref a, .ref b] H Q E) :=
  op_cmpOwn (op := .Eq) (fun _ _ => rfl) F hr hs hf hb hx
end
end Cs

set_option Elab.async false
set_option linter.all false
set_option maxRecDepth 100000
set_option maxHeartbeats 4000000
/-! LayJ: x != y by the class's own __eq__ (no own __ne__). -/
namespace PySem.ErrX
open PySem PySem.W PySem.Calls PyProof.Rows PySem.Spec
section
variable {prog : Program} {w : World} {A : Around} {E : Value → Shared → Prop} {s : Shared} {K : Frag} {x C L f : Addr} {h₀ : Heap} {m : Str → Option Value} {ox : Obj} {od : Option Obj} {b tb : Value}
/-- what the own == must give here -/
def BoolBk (Q : Bool → Shared → Prop) (v : Value) (s' : Shared) : Prop := ∃ r, v = .bool r ∧ Q r s'
theorem ifB_builtin {M : Model} {name : Str} {id : String} {args : List Value} {Q : Option Value → Shared → Prop} (X : K.In s.heap) (I : InstAt s.heap x ox C od) (hs : findIn K (.ref C) name = some (some (.builtin id))) (S : Slot "object" name id)
    (h : wpAny M A (call (.builtin id) (.ref x :: args)) (fun v => Q (some v)) E s) : wpAny M A (callSpecialIfBound? (.ref x) name args) Q E s := by
  simp only [callSpecialIfBound?, bindSpecialIfBound?]
  refine wpAny_holding (wpAny_bind (wpAny_bind (wpAny_bind (I.type.here ((looks_findIn X hs).here ?_)))))
  simp only [S.bind]
  refine wpAny_bind (wpAny_askSetting (wpAny_ite ?_))
  have fin : wpAny M A (call (.builtin id) ([.ref x] ++ args) >>= fun v => pure (some v)) Q E s := wpAny_bind (wpAny_mono h (fun v s' h' => wpAny_pure h') fun _ _ h' => h')
  split
  · exact wpAny_bind (wpAny_pure (wpAny_pure fin))
  · exact wpAny_tryCatch (wpAny_bind (wpAny_pure (wpAny_pure fin)))
theorem check_slotK {M : Model} {i owner n : String} {self : Value} {rest : List Value} {Q : Unit → Shared → Prop} (hk : builtinKind i = some .slot) (hs : splitId i = some (owner, n)) (hi : Looks M s.heap (isInstance self (.type owner)) true) (ha : argsOk i ⟨self :: rest, []⟩) (q : Q () s) :
    wpAny M A (checkBuiltinCall i ⟨self :: rest, []⟩) Q E s := by
  simp only [checkBuiltinCall, hk, hs]
  refine wpAny_bind (hi.here ?_)
  cases hsig : Manifest.signature? i with
  | none => first | exact wpAny_pure q | (simp only [Bool.not_true, Bool.false_eq_true, if_false]; exact wpAny_pure q)
  | some sig =>
    simp only [argsOk, hsig] at ha
    have h2 : Bind.checkArgs i sig ⟨self :: rest, []⟩ = pure () := ha
    simp only [Bool.not_true, Bool.false_eq_true, if_false]
    show wpAny M A (Bind.checkArgs i sig ⟨self :: rest, []⟩) Q E s
    rw [h2]; exact wpAny_pure q
theorem objNe_K (hu : A.units < cLine) (X : K.In s.heap) (I : InstAt s.heap x ox C od) (hs : findIn K (.ref C) "__eq__" = some (some (.ref f))) (hf : isFn K (.ref f) = true) {Q : Fin → Shared → Prop}
    (h : wpAny (model prog w) A (call (.ref f) [.ref x, b]) (BoolBk fun r s' => Q (.done (.ret (.bool (!r)))) s') E s) : wpAny (model prog w) A (Builtin.«object.__ne__» ⟨[.ref x, b], []⟩) Q E s := by
  unfold Builtin.«object.__ne__»
  repeat (first
    | with_reducible refine wpAny_cRoomFor hu ?_
    | (refine wpAny_bind (m := callSpecialIfBound? (.ref x) (Str.ofString "__eq__") [b])
        (ifBound_K X I hs hf (wpAny_mono h (fun v s' hr => by
          obtain ⟨r, rfl, hq⟩ := hr
          repeat (first | exact hq | exact wpAny_pure hq | exact wpAny_truthy_bool hq | (refine wpAny_bind (m := truthy (.bool _)) (wpAny_truthy_bool ?_)) | wp_step)) fun _ _ e => e)))
    | wp_step)
end
end PySem.ErrX

set_option Elab.async false
set_option linter.all false
set_option maxRecDepth 100000
set_option maxHeartbeats 4000000
/-! LayK: lambdas handed to a def that tells which error they raise; tables of code objects. -/
namespace Cs
open PySem PySem.Spec PyProof.Rows L2 LamX
/-- the error that a lambda raises, None else -/
def THeard (K : PySem.W.Frag) (CS : Addr) : (XK → Hp → VK → Prop) → Hp → VK → Prop := fun tl H Q =>
  tl (fun cls d H' => PySem.W.exmOne K cls (.ref CS) = some true ∧ ∀ a, H' a = none → Q (.ref a) (upd H' a (EXV cls d a))) H (fun _ H' => Q .non H')
theorem takes_len {X : Cx} {W : WX} (tk : Takes X W) : Takes X (fun cls d σ' H' => σ'.length = X.N.length → W cls d σ' H') := fun e s' ⟨a, B, sI, pins', σ', H', cls, d, e1, J, nb, up, sky, na, os, ag, w⟩ =>
  tk _ _ ⟨a, B, sI, pins', σ', H', cls, d, e1, J, nb, up, sky, na, os, ag, w J.len⟩
theorem set_at {σ : L2.St} {i : Nat} {x : Option V} (h : i < σ.length) : (σ.set i x)[i]? = some x := by
  rw [List.getElem?_set_self h]
section
variable {X : Cx}
theorem heard_gives {x q : Str} {sg : Scope} {g CS : Addr} {cdg : Value} {j : Nat} {p1 p2 p3 p4 p5 p6 p7 p8 p9 p10 p11 p12 p13 p14 : Pos} (hm : X.mg "BallError" = some (.ref CS)) (hge : sg.names.lookup ("BallError" : Str) = some .globalImplicit)
    (h1 : sg.names.lookup ("ask" : Str) = some .local) (h2 : sg.names.lookup ("caught" : Str) = some .local) (h3 : sg.names.lookup ("error" : Str) = some .local) :
    GivesTo X ["ask", "caught", "error"] x sg g cdg [.Assign [.Name "caught" p1] (.Constant .none j p2) p3, .Try [.Expr (.Call (.Name "ask" p4) [] [] p5) p6] [.ExceptHandler (some (.Name "BallError" p7)) (some "error") [.Assign [.Name "caught" p8] (.Name "error" p9) p10] p11] [] [] p12,
      .Return (some (.Name "caught" p13)) p14] "ask" q (THeard X.K CS) := by
  intro f c' s H Q tl act hc h
  have nd : (["ask", "caught", "error"] : List Str).Nodup := by decide +kernel
  have hgl : Gl (cxOf C8.CX0 X.prog X.w X.K X.mg X.base ["ask", "caught", "error"] x sg g cdg X.A X.stack s H C8.E0).nox "BallError" := hge
  refine ⟨_, pss_cons (ps_asg pe_non (pg_name (i := 1) nd rfl (.inl h2))) (pss_cons (ps_tryE (X := (cxOf C8.CX0 X.prog X.w X.K X.mg X.base ["ask", "caught", "error"] x sg g cdg X.A X.stack s H C8.E0).nox) (l := [(.ref CS, some 2, _)])
      (tb := fun W D σ H => ∃ Ech : XK, (∀ cls d σ' H', Ech cls d H' → σ'.length = 3 → W cls d σ' H') ∧ σ[0]? = some (some (.ref f)) ∧ H c' = some (CodeO c' q) ∧ tl Ech H (fun _ H' => D.nx σ H'))
      rfl rfl nd rfl L2.takes0 (fun W pn xe tk _ => ?_) (.as ⟨hgl, by decide, .inl hm⟩ rfl h3 (fun a pn => pss_one (ps_asg (pv 2 rfl (.inl h3)) (pg_name (i := 1) nd rfl (.inl h2)))) .nil)) (pss_one (ps_ret (pv 1 rfl (.inl h2))))), ?_⟩
  · refine ⟨fun pins s' σ H' D I h' => ?_⟩
    obtain ⟨Ech, hW, e1, e2, e3⟩ := h'
    have hp := act (fun cls d σ' H' => σ'.length = 3 → W cls d σ' H') pn xe Ech p4 p5 (takes_len tk) (fun cls d σ' H' e hl => hW cls d σ' H' e hl)
    have hq := pss_one (ps_expr (pos := p6) hp)
    exact hq.run pins s' σ H' D I ⟨e1, e2, e3⟩
  · refine ⟨fun cls d H' => PySem.W.exmOne X.K cls (.ref CS) = some true ∧ ∀ a, H' a = none → Q (.ref a) (upd H' a (EXV cls d a)), fun cls d σ' H' hE hl => ?_, rfl, hc, ?_⟩
    · refine ⟨true, hE.1, fun _ a ha => ?_, fun z => nomatch z⟩
      refine ⟨.ref a, set_at (by omega), ?_⟩
      refine ⟨.ref a, ?_, hE.2 a ha⟩
      rw [List.getElem?_set_ne (by decide)]
      exact set_at (by rw [List.length_set]; omega)
    · have e : (fun (_ : V) (H' : Hp) => tRet (tVar 1) { nx := fun _ H' => Q V.non H', rt := Q } (List.set (L2.start ["ask", "caught", "error"] [V.ref f]) 1 (some V.non)) H') = fun _ H' => Q .non H' := by
        funext _ H'
        refine propext ⟨fun ⟨v, e, q⟩ => ?_, fun q => ⟨.non, rfl, q⟩⟩
        have z : v = .non := by
          have z : some (some V.non) = some (some v) := e
          cases z
          rfl
        rw [z] at q
        exact q
      have h := h
      unfold THeard at h
      rw [← e] at h
      exact h
end

/-- the def that hears: where it stands -/
structure HeardAt (K : PySem.W.Frag) (mg : Str → Option Value) (st : Stmt) : Prop where
  ex : ∃ (g : Addr) (fd : FuncData), Fun K "_law_heard" "_law_heard" st g fd ∧ mg "_law_heard" = some (.ref g) ∧ L2.Binds K fd ["ask"] []
/-- the maker's code object at c, its table in the list Tb -/
structure MakerAt (base : Heap) (mg : Str → Option Value) (Tb : List (Addr × Str)) (c : Addr) (q : Str) : Prop where
  ex : ∃ P, TabB base mg c P ∧ (P, q) ∈ Tb ∧ ∀ p ∈ Tb, p.1 = P → p.2 = q
/-- a def whose code object is known -/
structure FunL (K : PySem.W.Frag) (x qual : Str) (st : Stmt) (f : Addr) (fd : FuncData) (c : Addr) : Prop where
  ex : ∃ (oc : Value) (od : Option Addr) (kV doc pm : Value) (an : Option Addr) (ct : Value) (osl : Array (Option Value)),
    fd = PySem.W.fnOf x qual (defArgs st) (defBody st) (defScope st) .none kV doc pm an (.ref c) ct ∧ K.lookup f = some ⟨oc, od, .func fd, osl⟩ ∧ PySem.W.codeIn K (.ref c) qual = true
  kp : PySem.W.keepIn K (.ref f) = true
section
variable {P : Program} {w : World} {K : PySem.W.Frag} {mg : Str → Option Value} {base : Heap}
theorem FunL.fun {x qual : Str} {st : Stmt} {f c : Addr} {fd : FuncData} (F : FunL K x qual st f fd c) : Fun K x qual st f fd := by
  obtain ⟨oc, od, kV, doc, pm, an, ct, osl, e, lk, hcd⟩ := F.ex
  exact ⟨⟨oc, od, kV, doc, pm, an, _, ct, osl, e, lk, hcd⟩, F.kp⟩
theorem FunL.ok {x qual : Str} {st : Stmt} {f c : Addr} {fd : FuncData} {N ps : List Str} {k : Nat} {sp : Sp} (F : FunL K x qual st f fd c) (S : FnScope N ps (defScope st)) (len : ∀ vs H Q E, sp vs H Q E → vs.length = ps.length)
    (hbody : ∀ (A : Around) (outer : List Env) (s : Shared) (H : Hp) (vs : List V) (Q : VK) (E : XK), Room k (A.deeper (envOfC qual (defScope st) s.heap.objs.size f (.ref c))) → sp vs H Q E →
      ∃ t, PSs (cxOf L2.CX0 P w K mg base N qual (defScope st) f (.ref c) A outer s H E).nox (defBody st) t ∧ t { nx := fun _ H' => Q .non H', rt := Q } (start N vs) H) : FnOk P w K mg base L2.CX0 (k + 1) f fd ps sp := by
  obtain ⟨oc, od, kV, doc, pm, an, ct, osl, rfl, lk, hcd⟩ := F.ex
  refine fn_of lk hcd S len fun A outer s H vs Q E hr hsp => ?_
  obtain ⟨t, h, q⟩ := hbody A outer s H vs Q E hr hsp
  exact ⟨t, h.nox, q⟩
end
section
variable {X : Cx} {Tb : List (Addr × Str)} {c CS : Addr} {k j : Nat} {params : Arguments} {body : Expr} {scope : Scope} {t : XK → TE} {p lpos pos : Pos} {st : Stmt}
theorem pe_heard {K : PySem.W.Frag} (h : HeardAt X.K X.mg st) (hG : ∀ (X : Cx) (g : Addr) (cdv : Value) (q : Str), X.mg "BallError" = some (.ref CS) → GivesTo X ["ask", "caught", "error"] "_law_heard" (defScope st) g cdv (defBody st) "ask" q (THeard X.K CS)) (hB : X.mg "BallError" = some (.ref CS))
    (S : FnScope ["ask", "caught", "error"] ["ask"] (defScope st)) (hv : Vis (defScope st) "ask") (m : MakerAt X.base X.mg Tb c (X.env.qual ++ "<lambda>")) (hr : Room j X.A) (hk : k + 2 ≤ j)
    (hbody : ∀ (A : Around) (outer : List Env) (s : Shared) (H : Hp) (E : XK) (f c' : Addr), Room k (A.deeper (lamEnv X scope s.heap.objs.size f c')) → PE (lamCx X A outer s H E scope f c') body (t E))
    (L : LamS X.env.scope scope) (hg : Gl X "_law_heard" := by rfl) (hcode : X.env.code = .ref c := by rfl) (hdef : defaultsOf params X.env = ([], []) := by rfl)
    (hbind : ∀ (q : Str) (cl : List (Str × Addr)) (pm cv ctv : Value), bindArgs (PySem.W.kla_fn "<lambda>" q params body scope cl pm cv ctv) ⟨[], []⟩ = pure [] := by exact fun _ _ _ _ _ => rfl) (hK : X.K = K := by rfl) :
    PE X (.Call (.Name "_law_heard" p) [.Lambda params body scope lpos] [] pos) (tLam Tb (THeard K CS) t) := by
  subst hK
  obtain ⟨g, fd, F, hm, hb⟩ := h.ex
  obtain ⟨oc, od, kV, doc, pm, an, cdv, ct, osl, rfl, lk, hcd⟩ := F.ex
  obtain ⟨P, TB, h1, h2⟩ := m.ex
  exact pe_lamcall (k := k) hg hm F.kp lk hcd hb S rfl hv (hG X g cdv _ hB) TB hcode h1 h2 (hr.mono hk) L hdef hbind hbody
theorem r_lam {K : PySem.W.Frag} {σ : L2.St} {H : Hp} {Q : VK} (hT : Tabs Tb H) (q : ∀ H1, ExtN H H1 → Tabs Tb H1 → t (fun cls d H' => PySem.W.exmOne K cls (.ref CS) = some true ∧ ∀ a, H' a = none → Q (.ref a) (upd H' a (EXV cls d a))) σ H1 fun _ H' => Q .non H') : tLam Tb (THeard K CS) t σ H Q := ⟨hT, q⟩
end
/-! ### all but tables is kept -/
theorem sqL_ext {K : PySem.W.Frag} {H H' : Hp} {a : Addr} {xs : List V} (e : ExtN H H') (h : SqL K H a xs) : SqL K H' a xs := by
  rcases h with (h | ⟨o, h⟩) | h
  · exact .inl (.inl (e _ _ h (fun ps z => nomatch z)))
  · exact .inl (.inr ⟨o, e _ _ h (fun ps z => nomatch z)⟩)
  · exact .inr h
theorem extN_same {H H' : Hp} (e : Same H H') : ExtN H H' := fun b o h _ => e b o h
/-- the pen is at work, tables may have grown: H1 at the beginning, H2 now -/
structure LK (P : Pen) (Tb : List (Addr × Str)) (H1 : Hp) (n : Nat) (H2 : Hp) : Prop where
  k : ∀ b o, b ≠ P.p → (∀ ps, o ≠ .tbl ps) → H1 b = some o → H2 b = some o
  p : PenAt P n H2
  t : Tabs Tb H2
section
variable {P : Pen} {Tb : List (Addr × Str)} {H H1 H2 H3 : Hp} {n m : Nat} {a : Addr} {o : HO}
theorem tabs_keepB (t : Tabs Tb H) (p : PenAt P n H) (k : KeepB P H H1) : Tabs Tb H1 := fun q hq => by
  obtain ⟨_, _, _, _, _, e⟩ := p.ex
  obtain ⟨ps, h1, h2, h3⟩ := t q hq
  refine ⟨ps, k _ _ (fun z => ?_) h1, h2, fun pos cv hc => ?_⟩
  · rw [z, e] at h1
    cases h1
  · obtain ⟨c, e1, e2⟩ := h3 pos cv hc
    refine ⟨c, e1, k _ _ (fun z => ?_) e2⟩
    rw [z, e] at e2
    cases e2
theorem LK.start (p : PenAt P n H) (t : Tabs Tb H) : LK P Tb H n H := ⟨fun _ _ _ _ h => h, p, t⟩
theorem LK.same (h : LK P Tb H1 n H2) (e : Same H2 H3) : LK P Tb H1 n H3 := ⟨fun b o n1 n2 q => e _ _ (h.k b o n1 n2 q), h.p.same e, h.t.ext e⟩
theorem LK.step (h : LK P Tb H1 n H2) (k : KeepB P H2 H3) (p : PenAt P m H3) : LK P Tb H1 m H3 := ⟨fun b o n1 n2 q => k _ _ n1 (h.k b o n1 n2 q), p, tabs_keepB h.t h.p k⟩
theorem penAt_ext (h : PenAt P n H) (e : ExtN H H1) : PenAt P n H1 := by
  obtain ⟨s, r, h1, h2, h3, h4⟩ := h.ex
  exact ⟨⟨s, r, h1, h2, h3, e _ _ h4 (fun ps z => nomatch z)⟩, e _ _ h.cells (fun ps z => nomatch z), h.len, h.ne⟩
theorem LK.ext (h : LK P Tb H1 n H2) (e : ExtN H2 H3) (t : Tabs Tb H3) : LK P Tb H1 n H3 := ⟨fun b o n1 n2 q => e _ _ (h.k b o n1 n2 q) n2, penAt_ext h.p e, t⟩
theorem LK.mono (h : LK P Tb H1 n H2) (hm : n ≤ m) : LK P Tb H1 m H2 := ⟨h.k, h.p.mono hm, h.t⟩
theorem LK.ne (h : LK P Tb H1 n H2) (ha : H2 a = none) : a ≠ P.p := (h.p.ne_new ha).1.symm
/-- an object that H1 did not know may change -/
theorem LK.mut (h : LK P Tb H1 n H2) (ha : H1 a = none) (hn : a ≠ P.p) (hc : a ≠ P.c) (h2 : H2 a = some o) (no : ∀ ps, o ≠ .tbl ps) (ne : ∀ q, o ≠ CodeO a q) {o' : HO} : LK P Tb H1 n (upd H2 a o') := by
  obtain ⟨s, r, h3, h4, h5, h6⟩ := h.p.ex
  refine ⟨fun b u n1 n2 q => ?_, ⟨⟨s, r, h3, h4, h5, by rw [upd_ne hn.symm]; exact h6⟩, by rw [upd_ne hc.symm]; exact h.p.cells, h.p.len, h.p.ne⟩, fun q hq => ?_⟩
  · rw [upd_ne (ne_of_none q ha)]
    exact h.k b u n1 n2 q
  · obtain ⟨ps, g1, g2, g3⟩ := h.t q hq
    refine ⟨ps, ?_, g2, fun pos cv hc => ?_⟩
    · rw [upd_ne]
      · exact g1
      · intro z
        rw [z, h2] at g1
        exact no ps (Option.some.inj g1)
    · obtain ⟨c, e1, e2⟩ := g3 pos cv hc
      refine ⟨c, e1, ?_⟩
      rw [upd_ne]
      · exact e2
      · intro z
        rw [z, h2] at e2
        have z2 := Option.some.inj e2
        exact ne _ z2
end
end Cs

set_option Elab.async false
set_option linter.all false
set_option maxRecDepth 100000
set_option maxHeartbeats 4000000
/-! LayL: static methods, methods and makings by keyword, a making by its default, own operators with any right side, own iteration. -/
namespace Cs
open PySem PySem.Spec PyProof.Rows L2 LamX
/-- C.m is a static method -/
structure StaAt (K : PySem.W.Frag) (C : Addr) (m : Str) (f : Addr) : Prop where
  ex : ∃ (mc : Value) (p : Addr) (rest : List Value), ClX.CRead K C mc ∧ PySem.W.findCls K (.ref C) mc m = some (.get (.builtin "staticmethod.__get__") (.ref p) .none (.ref C)) ∧ PySem.W.recIn K p "staticmethod" = some (.ref f :: rest)
  kp : PySem.W.keepIn K (.ref f) = true
structure StaX (P : Program) (w : World) (K : PySem.W.Frag) (mg : Str → Option Value) (base : Heap) (CX : CXT) (k : Nat) (C : Addr) (m : Str) (sp : Sp) : Prop where
  ex : ∃ (f : Addr) (fd : FuncData) (ps : List Str), StaAt K C m f ∧ FnOk P w K mg base CX k f fd ps sp ∧ Binds K fd ps []
structure StaK (P : Program) (w : World) (K : PySem.W.Frag) (mg : Str → Option Value) (base : Heap) (CX : CXT) (k : Nat) (C : Addr) (m : Str) (ks : List Str) (sp : Sp) : Prop where
  ex : ∃ (f : Addr) (fd : FuncData) (ps : List Str), StaAt K C m f ∧ FnOk P w K mg base CX k f fd ps sp ∧ KBn K fd ps 0 ks (fun us ws => us ++ ws) (fun vs zs => vs ++ zs)
section
variable {X : Cx} {pins : List (Addr × Obj)} {σ : L2.St} {H : Hp} {s : Shared} {CX : CXT} {C f : Addr} {m : Str} {k j : Nat} {sp : Sp} {E : XK} {o e : Expr} {es : List Expr} {pos apos : Pos} {ta : TE} {t tk : TA} {pl : Sem Bool} {ks : List Str} {kws : List Keyword}
theorem getsta_ok {Q : Value × List Value → Shared → Prop} {A : Around} {E : Value → Shared → Prop} (I : Inv X pins σ H s) (S : StaAt X.K C m f) (h : ∀ s', Inv X pins σ H s' → Q (.ref f, []) s') : wpAny (model X.prog X.w) A (getMethod (.ref C) m pl) Q E s := by
  obtain ⟨mc, p, rest, r, e, hp⟩ := S.ex
  refine PySem.W.method_cls I.kIn r.ga (PySem.W.cls_bind I.kIn r.rd e ?_)
  exact wpAny_call (PySem.W.sm_get (s := { s with toks := s.toks + 1 }) I.kIn hp (PySem.W.handed_on rfl (h _ (I.tok _))))
/-- C.m(e, ..) -/
def tSta (C : Addr) (sp : Sp) (E : XK) (ta : TE) (t : TA) : TE := fun σ H Q => ta σ H fun x H1 => x = .ref C ∧ t σ H1 fun vs H2 => sp vs H2 Q E
theorem pe_sta (c : StaX X.prog X.w X.K X.mg X.base CX k C m sp) (he : PE X o ta) (hr : Room j X.A) (hk : k ≤ j) (hx : Passes CX X E) (ha : PA X (e :: es) t)
    (hst : starEach (e :: es) X.env = (false, eval e X.env) :: starEach es X.env := by rfl) (hpl : (backTo pos (starEach es X.env)).any (·.1) = false := by rfl)
    (ht : eval (.Call (.Attribute o m apos) (e :: es) [] pos) X.env = (do
      let ov ← eval o X.env
      standAt apos.atName
      let (f, first) ← holding [ov] (getMethod ov m pl)
      callWith pos f first (backTo pos (starEach (e :: es) X.env)) (backToKw pos (keywordEach [] X.env))) := by rfl) :
    PE X (.Call (.Attribute o m apos) (e :: es) [] pos) (tSta C sp E ta t) := by
  obtain ⟨f, fd, ps, S, F, hb⟩ := c.ex
  refine ⟨fun pins s σ H Q I h => ?_⟩
  refine PySem.W.methodCall_KW (pl := pl) (thn (he.run pins s σ H _ I h) fun u s1 ⟨x, H1, I1, rx, ex, q⟩ => ?_) ht
  subst ex
  obtain rfl : u = Value.ref C := rx
  refine getsta_ok I1 S fun s2 I2 => ?_
  refine PySem.W.callWith_K (first := []) (h₀ := X.base) I.ok.mod.kin S.kp (thn (ha.run pos pins s2 σ H1 _ I2 q) fun us s3 ⟨vs, H2, I3, r, q2⟩ => ⟨I3.kIn, ?_⟩) hst hpl
  exact run_fn (us := us) (vs := vs) F (hr.mono hk) hb .nil hx I3 r (by simpa using q2)
/-- C.m(k = v) -/
theorem pe_staK (c : StaK X.prog X.w X.K X.mg X.base CX k C m ks sp) (he : PE X o ta) (hr : Room j X.A) (hk : k ≤ j) (hx : Passes CX X E) (hkw : PK X kws tk)
    (hall : (backToKw pos (keywordEach kws X.env)).all (·.1.isSome) = true := by rfl) (hks : (backToKw pos (keywordEach kws X.env)).filterMap (·.1) = ks := by rfl)
    (hpl : ((backTo pos (starEach [] X.env)).any (·.1) || (backToKw pos (keywordEach kws X.env)).any (·.1.isNone)) = false := by rfl)
    (ht : eval (.Call (.Attribute o m apos) [] kws pos) X.env = (do
      let ov ← eval o X.env
      standAt apos.atName
      let (f, first) ← holding [ov] (getMethod ov m pl)
      callWith pos f first (backTo pos (starEach [] X.env)) (backToKw pos (keywordEach kws X.env))) := by rfl) :
    PE X (.Call (.Attribute o m apos) [] kws pos) (tSta C (fun zs H Q E => zs.length = ks.length ∧ sp zs H Q E) E ta tk) := by
  obtain ⟨f, fd, ps, S, F, hb⟩ := c.ex
  refine ⟨fun pins s σ H Q I h => ?_⟩
  refine PySem.W.methodCall_KW (pl := pl) (thn (he.run pins s σ H _ I h) fun u s1 ⟨x, H1, I1, rx, ex, q⟩ => ?_) ht
  subst ex
  obtain rfl : u = Value.ref C := rx
  refine getsta_ok I1 S fun s2 I2 => ?_
  refine PySem.W.callWith_KW0 (first := []) (h₀ := X.base) I.ok.mod.kin S.kp hall (thn (hkw.run pos pins s2 σ H1 _ I2 q) fun ws s3 ⟨zs, H2, I3, rz, hl, q2⟩ => ⟨I3.kIn, ?_⟩) hpl
  rw [hks]
  have r2 : Vals zs ws := rz
  refine wpAny_call (codeAny_mono (F.run X.A X.stack s3 H2 ⟨[], ks.zip ws⟩ ws zs Q E (hr.mono hk) I3.env0 ?_ r2 q2) fun r s' hq => ?_)
  · have z := hb.to s3 [] ws I3.kIn rfl (rz.length.symm.trans hl)
    simpa using z
  · cases r with
    | error e => exact hx pins σ H2 s3 e s' I3 hq
    | ok fl =>
      cases fl with
      | ret u => exact I3.after hq
      | next => exact False.elim hq
      | brk => exact False.elim hq
      | cont => exact False.elim hq
/-! ### methods of instances -/
structure MetA (P : Program) (w : World) (K : PySem.W.Frag) (mg : Str → Option Value) (base : Heap) (CX : CXT) (k : Nat) (C : Addr) (m : Str) (sp : Sp) : Prop where
  ex : ∃ (f : Addr) (fd : FuncData) (ps : List Str), Meth K C m f ∧ FnOk P w K mg base CX k f fd ps sp ∧ Binds K fd ps []
structure MetK (P : Program) (w : World) (K : PySem.W.Frag) (mg : Str → Option Value) (base : Heap) (CX : CXT) (k : Nat) (C : Addr) (m : Str) (ks : List Str) (sp : Sp) : Prop where
  ex : ∃ (f : Addr) (fd : FuncData) (ps : List Str), Meth K C m f ∧ FnOk P w K mg base CX k f fd ps sp ∧ KBn K fd ps 1 ks (fun us ws => us ++ ws) (fun vs zs => vs ++ zs)
/-- o.m(e, ..), o of the class at C -/
def tMetA (C : Addr) (m : Str) (sp : Sp) (E : XK) (ta : TE) (t : TA) : TE := fun σ H Q => ta σ H fun x H1 => ∃ a dx fs, x = .ref a ∧ H1 a = some (.ins C dx fs) ∧ fs.lookup m = none ∧ t σ H1 fun vs H2 => sp (.ref a :: vs) H2 Q E
theorem pe_metA (c : MetA X.prog X.w X.K X.mg X.base CX k C m sp) (cl : Cls X.K C) (he : PE X o ta) (hr : Room j X.A) (hk : k ≤ j) (hx : Passes CX X E) (ha : PA X (e :: es) t)
    (hst : starEach (e :: es) X.env = (false, eval e X.env) :: starEach es X.env := by rfl) (hpl : (backTo pos (starEach es X.env)).any (·.1) = false := by rfl)
    (ht : eval (.Call (.Attribute o m apos) (e :: es) [] pos) X.env = (do
      let ov ← eval o X.env
      standAt apos.atName
      let (f, first) ← holding [ov] (getMethod ov m pl)
      callWith pos f first (backTo pos (starEach (e :: es) X.env)) (backToKw pos (keywordEach [] X.env))) := by rfl) :
    PE X (.Call (.Attribute o m apos) (e :: es) [] pos) (tMetA C m sp E ta t) := by
  obtain ⟨f, fd, ps, hm, F, hb⟩ := c.ex
  refine ⟨fun pins s σ H Q I h => ?_⟩
  refine PySem.W.methodCall_KW (pl := pl) (thn (he.run pins s σ H _ I h) fun u s1 ⟨x, H1, I1, rx, a, dx, fs, ex, ea, l, q⟩ => ?_) ht
  subst ex
  obtain rfl : u = Value.ref a := rx
  refine getmeth_ok I1 ea cl hm l ?_
  refine PySem.W.callWith_K (first := [.ref a]) (h₀ := X.base) I.ok.mod.kin hm.kp (thn (ha.run pos pins s1 σ H1 _ I1 q) fun us s2 ⟨vs, H2, I2, r, q2⟩ => ⟨I2.kIn, ?_⟩) hst hpl
  exact run_fn (us := .ref a :: us) (vs := .ref a :: vs) F (hr.mono hk) hb .nil hx I2 (.cons rfl r) (by simpa using q2)
theorem pe_metK (c : MetK X.prog X.w X.K X.mg X.base CX k C m ks sp) (cl : Cls X.K C) (he : PE X o ta) (hr : Room j X.A) (hk : k ≤ j) (hx : Passes CX X E) (hkw : PK X kws tk)
    (hall : (backToKw pos (keywordEach kws X.env)).all (·.1.isSome) = true := by rfl) (hks : (backToKw pos (keywordEach kws X.env)).filterMap (·.1) = ks := by rfl)
    (hpl : ((backTo pos (starEach [] X.env)).any (·.1) || (backToKw pos (keywordEach kws X.env)).any (·.1.isNone)) = false := by rfl)
    (ht : eval (.Call (.Attribute o m apos) [] kws pos) X.env = (do
      let ov ← eval o X.env
      standAt apos.atName
      let (f, first) ← holding [ov] (getMethod ov m pl)
      callWith pos f first (backTo pos (starEach [] X.env)) (backToKw pos (keywordEach kws X.env))) := by rfl) :
    PE X (.Call (.Attribute o m apos) [] kws pos) (tMetA C m (fun zs H Q E => zs.length = ks.length + 1 ∧ sp zs H Q E) E ta tk) := by
  obtain ⟨f, fd, ps, hm, F, hb⟩ := c.ex
  refine ⟨fun pins s σ H Q I h => ?_⟩
  refine PySem.W.methodCall_KW (pl := pl) (thn (he.run pins s σ H _ I h) fun u s1 ⟨x, H1, I1, rx, a, dx, fs, ex, ea, l, q⟩ => ?_) ht
  subst ex
  obtain rfl : u = Value.ref a := rx
  refine getmeth_ok I1 ea cl hm l ?_
  refine PySem.W.callWith_KW0 (first := [.ref a]) (h₀ := X.base) I.ok.mod.kin hm.kp hall (thn (hkw.run pos pins s1 σ H1 _ I1 q) fun ws s3 ⟨zs, H2, I3, rz, hl, q2⟩ => ⟨I3.kIn, ?_⟩) hpl
  rw [hks]
  have r2 : Vals (.ref a :: zs) (.ref a :: ws) := .cons rfl rz
  refine wpAny_call (codeAny_mono (F.run X.A X.stack s3 H2 ⟨[.ref a], ks.zip ws⟩ (.ref a :: ws) (.ref a :: zs) Q E (hr.mono hk) I3.env0 ?_ r2 q2) fun r s' hq => ?_)
  · have hl' : zs.length = ks.length := by simpa using hl
    have z := hb.to s3 [.ref a] ws I3.kIn rfl (rz.length.symm.trans hl')
    simpa using z
  · cases r with
    | error e => exact hx pins σ H2 s3 e s' I3 hq
    | ok fl =>
      cases fl with
      | ret u => exact I3.after hq
      | next => exact False.elim hq
      | brk => exact False.elim hq
      | cont => exact False.elim hq
/-! ### makings -/
structure MakD (P : Program) (w : World) (K : PySem.W.Frag) (mg : Str → Option Value) (base : Heap) (k : Nat) (x : Str) (C : Addr) (dvs : List V) (sp : Sp) : Prop where
  ex : ∃ (f : Addr) (fd : FuncData) (ps : List Str) (ds : List Value), Mk K C f ∧ FnOk P w K mg base (L2.CX P w) k f fd ps sp ∧ mg x = some (.ref C) ∧ Binds K fd ps ds ∧ Vals dvs ds
structure MakK (P : Program) (w : World) (K : PySem.W.Frag) (mg : Str → Option Value) (base : Heap) (k : Nat) (x : Str) (C : Addr) (ks : List Str) (sp : Sp) : Prop where
  ex : ∃ (f : Addr) (fd : FuncData) (ps : List Str), Mk K C f ∧ FnOk P w K mg base (L2.CX P w) k f fd ps sp ∧ mg x = some (.ref C) ∧ KBn K fd ps 1 ks (fun us ws => us ++ ws) (fun vs zs => vs ++ zs)
theorem pe_mD0 {x : Str} {p : Pos} {dvs : List V} (c : MakD X.prog X.w X.K X.mg X.base k x C dvs sp) (hr : Room j X.A) (hk : k + 1 ≤ j) (hx : Passes (L2.CX X.prog X.w) X E) (hg : Gl X x := by rfl) (hdb : (x == ("__debug__" : Str)) = false := by decide) :
    PE X (.Call (.Name x p) [] [] pos) (tMake C sp dvs E tNil) := by
  obtain ⟨f, fd, ps, ds, M, F, hm, b, r⟩ := c.ex
  exact pe_make0 M F (hr.mono hk) hg hm b r hx hdb
theorem pe_mK {x : Str} {p : Pos} (c : MakK X.prog X.w X.K X.mg X.base k x C ks sp) (hr : Room j X.A) (hk : k + 1 ≤ j) (hx : Passes (L2.CX X.prog X.w) X E) (hkw : PK X kws tk) (hg : Gl X x := by rfl)
    (hall : (backToKw pos (keywordEach kws X.env)).all (·.1.isSome) = true := by rfl) (hks : (backToKw pos (keywordEach kws X.env)).filterMap (·.1) = ks := by rfl)
    (hdb : (x == ("__debug__" : Str)) = false := by decide)
    (hpl : ((backTo pos (starEach [] X.env)).any (·.1) || (backToKw pos (keywordEach kws X.env)).any (·.1.isNone)) = false := by rfl) :
    PE X (.Call (.Name x p) [] kws pos) (tMakeK C 0 ks.length sp (fun vs zs => vs ++ zs) E tNil tk) := by
  obtain ⟨f, fd, ps, M, F, hm, b⟩ := c.ex
  exact pe_makeK0 M F (hr.mono hk) hg hm b hx hkw hall hks hdb hpl
end
end Cs

set_option Elab.async false
set_option linter.all false
set_option maxRecDepth 100000
set_option maxHeartbeats 4000000
/-! LayM: an own operator with any right side; iter(text); a loop over an instance by its own __iter__; is True, is False. -/
namespace PySem.ErrX
open PySem PySem.W PySem.Calls PyProof.Rows PySem.Spec
section
variable {prog : Program} {w : World} {A : Around} {E : Value → Shared → Prop} {s : Shared} {K : Frag} {x C L f : Addr} {h₀ : Heap} {m : Str → Option Value} {ox : Obj} {od : Option Obj} {T : String}
theorem own_binT {op : Operator} {b : Value} {fo ro rc : Option Value} {Q : Value → Shared → Prop} (X : K.In s.heap) (I : InstAt s.heap x ox C od) (hb : Looks (model prog w) s.heap (typeOf b) (.type T)) (hc : selfFirst K C = true)
    (hs : findIn K (.ref C) (PySem.dunder op.info.2) = some (some (.ref f))) (hf : isFn K (.ref f) = true) (hr : findIn K (.ref C) (dunderR op.info.2) = some rc) (hp : rc = none ∨ ∃ g : Addr, rc = some (.ref g))
    (h1 : findIn K (.type T) (PySem.dunder op.info.2) = some fo) (h2 : findIn K (.type T) (dunderR op.info.2) = some ro) (hsub : subIn K (.type T) (.ref C) = some false)
    (h : wpAny (model prog w) A (call (.ref f) [.ref x, b]) (PySem.W.CmpBack Q) E s) : wpAny (model prog w) A (binaryOp op (.ref x) b) Q E s := by
  obtain ⟨cd, rest, hcd, hm⟩ := ksp_first hc
  rcases hi : op.info with ⟨sym, nm'⟩
  rw [hi] at hs hr h1 h2
  dsimp only at hs hr h1 h2
  have one := ksp_try X I hs hf h
  have Lx : Looks (model prog w) s.heap (typeOf (.ref x)) (.ref C) := I.type
  have L3 : Looks (model prog w) s.heap (fillsNumberSlot (.ref C) nm') true := fills_K X hcd hm hs
  have L4 := ksp_fillsT (M := model prog w) X h1 h2
  have L5 : Looks (model prog w) s.heap (isSubtype (.type T) (.ref C)) false := looks_subIn X hsub
  have L6 : Looks (model prog w) s.heap (numberSlotInPython (.ref C) nm') true := ksp_inPy X hs hr hp
  have L7 : Looks (model prog w) s.heap (numberSlotInPython (.type T) nm') false := Looks.of_pure rfl
  have L8 : Looks (model prog w) s.heap (typeLookup (.type T) (dunderR nm')) ro := looks_findIn X h2
  obtain ⟨hh, g, d, tt, os⟩ := s
  generalize ((fo.isSome && !isSeqSlot fo) || (ro.isSome && !isSeqSlot ro)) = right at L4
  have hne : (Value.ref C == Value.type T) = false := Bool.eq_false_iff.mpr fun q => by cases beq_iff_eq.mp q
  simp only [binaryOp, hi]
  refine wpAny_holding (wpAny_bind ?_)
  unfold binaryOp1
  refine wpAny_bind (Lx.at (wpAny_bind (hb.at (wpAny_bind (L3.at ?_)))))
  simp only [hne, Bool.false_eq_true, if_false]
  have fin : ∀ (r : Option Value) (s' : Shared), (∃ v, r = some v ∧ Q v s') → ∃ v, r = some v ∧ Q v s' := fun _ _ z => z
  cases right with
  | false =>
    ksp_lk
    refine wpAny_mono one (fun r s' hr' => ?_) fun _ _ e => e
    obtain ⟨v, rfl, hq⟩ := fin _ _ hr'
    ksp_lk
    exact hq
  | true =>
    ksp_lk
    refine wpAny_mono one (fun r s' hr' => ?_) fun _ _ e => e
    obtain ⟨v, rfl, hq⟩ := fin _ _ hr'
    ksp_lk
    exact hq
end
end PySem.ErrX
namespace Cs
open PySem PySem.Spec PyProof.Rows L2 LamX
structure OwnBin (P : Program) (w : World) (K : PySem.W.Frag) (mg : Str → Option Value) (base : Heap) (CX : CXT) (k : Nat) (C : Addr) (op : Operator) (Ts : List String) (sp : Sp) : Prop where
  ex : ∃ (f : Addr) (fd : FuncData) (ps : List Str) (rc : Option Value), PySem.W.selfFirst K C = true ∧ PySem.W.findIn K (.ref C) (PySem.dunder op.info.2) = some (some (.ref f)) ∧ PySem.W.isFn K (.ref f) = true ∧ FnOk P w K mg base CX k f fd ps sp ∧ Binds K fd ps [] ∧
    PySem.W.findIn K (.ref C) (dunderR op.info.2) = some rc ∧ (rc = none ∨ ∃ g : Addr, rc = some (.ref g)) ∧
    ∀ T ∈ Ts, (∃ fo, PySem.W.findIn K (.type T) (PySem.dunder op.info.2) = some fo) ∧ (∃ ro, PySem.W.findIn K (.type T) (dunderR op.info.2) = some ro) ∧ PySem.W.subIn K (.type T) (.ref C) = some false
/-- x op y: x of the class at C, y too, or of one of the built-in types -/
def rBin (K : PySem.W.Frag) (C : Addr) (Ts : List String) (sp : Sp) (E : XK) : R2 := fun x y H Q => ∃ a dx fs, x = .ref a ∧ H a = some (.ins C dx fs) ∧ ((∃ b dy gs, y = .ref b ∧ H b = some (.ins C dy gs)) ∨ ∃ T, T ∈ Ts ∧ TyX K H y (.type T)) ∧ sp [x, y] H Q E
section
variable {X : Cx} {CXc : CXT} {k j : Nat} {C f : Addr} {fd : FuncData} {ps : List Str} {sp : Sp} {E : XK} {pins : List (Addr × Obj)} {σ : L2.St} {H : Hp} {s : Shared} {Q : VK}
theorem op_bin {op : Operator} {Ts : List String} (c : OwnBin X.prog X.w X.K X.mg X.base CXc k C op Ts sp) (hr : Room j X.A) (hk : k ≤ j) (hx : Passes CXc X E) : OpR X (binaryOp op) (rBin X.K C Ts sp E) := by
  obtain ⟨f, fd, ps, rc, sf, hs, hf, F, hb, hR, hp, hT⟩ := c.ex
  intro pins s σ H x y v u Q I rx ry h
  obtain ⟨a, dx, fs, rfl, ha, hy, q⟩ := h
  cases rx
  obtain ⟨_, _, J⟩ := inst_of I ha
  obtain ⟨m, hF⟩ := I.fr
  have r2 : Vals [V.ref a, y] [Value.ref a, u] := .cons rfl (.cons ry .nil)
  have run := wpAny_mono (run_fn (dvs := []) (ds := []) F (hr.mono hk) hb .nil hx I r2 (by simpa using q)) (fun _ _ z => cmpBack_of z) fun _ _ z => z
  rcases hy with ⟨b, dy, gs, rfl, hb'⟩ | ⟨T, hTm, ty⟩
  · cases ry
    obtain ⟨_, _, J'⟩ := inst_of I hb'
    exact PySem.W.binop_K hF I.ok.mod.kin J J'.type sf hs hf run
  · obtain ⟨P, kx, hP, _⟩ := kit_of I ry ty
    obtain ⟨⟨fo, g1⟩, ⟨ro, g2⟩, g3⟩ := hT T hTm
    exact PySem.ErrX.own_binT I.kIn J (kx.ty _ _ I.kIn hP) sf hs hf hR hp g1 g2 g3 run
theorem r_bin {K : PySem.W.Frag} {Ts : List String} {a b dx dy : Addr} {fs gs : List (Str × V)} (h1 : H a = some (.ins C dx fs)) (h2 : H b = some (.ins C dy gs)) (q : sp [.ref a, .ref b] H Q E) : rBin K C Ts sp E (.ref a) (.ref b) H Q := ⟨a, dx, fs, rfl, h1, .inl ⟨b, dy, gs, rfl, h2⟩, q⟩
theorem r_binT {K : PySem.W.Frag} {Ts : List String} {a dx : Addr} {fs : List (Str × V)} {y : V} {T : String} (h1 : H a = some (.ins C dx fs)) (h2 : TyX K H y (.type T)) (hT : T ∈ Ts) (q : sp [.ref a, y] H Q E) : rBin K C Ts sp E (.ref a) y H Q := ⟨a, dx, fs, rfl, h1, .inr ⟨T, hT, h2⟩, q⟩
/-- ~x -/
structure OwnInv (P : Program) (w : World) (K : PySem.W.Frag) (mg : Str → Option Value) (base : Heap) (CX : CXT) (k : Nat) (C : Addr) (sp : Sp) : Prop where
  ex : ∃ (f : Addr) (fd : FuncData) (ps : List Str), PySem.W.findIn K (.ref C) "__invert__" = some (some (.ref f)) ∧ PySem.W.isFn K (.ref f) = true ∧ FnOk P w K mg base CX k f fd ps sp ∧ Binds K fd ps []
def rInv (C : Addr) (sp : Sp) (E : XK) : V → Hp → VK → Prop := fun x H Q => ∃ a dx fs, x = .ref a ∧ H a = some (.ins C dx fs) ∧ sp [.ref a] H Q E
theorem un_inv (c : OwnInv X.prog X.w X.K X.mg X.base CXc k C sp) (hr : Room j X.A) (hk : k ≤ j) (hx : Passes CXc X E) : UnR X (unaryOp .Invert) (rInv C sp E) := by
  obtain ⟨f, fd, ps, hs, hf, F, hb⟩ := c.ex
  exact un_ownI F (hr.mono hk) hs hf hb hx
/-! ### iter(text) -/
/-- at it an iterator over a text, at its beginning -/
def ItS (z : Str) (it : Addr) : HO := .ext fun h => ∃ t, h.IsStrIter it (strIterType z) z t 0
theorem itS_ok {P : Program} {w : World} {H : Hp} {h : Heap} {z : Str} {it : Addr} {t : Tok} (e : h.IsStrIter it (strIterType z) z t 0) : ObjOk P w H h it (ItS z it) :=
  ⟨⟨t, e⟩, let ⟨o, ho, _⟩ := e; ⟨o, ho⟩, fun h1 h2 ⟨t, o, ho, r⟩ k => ⟨t, o, k _ ho, r⟩⟩
def rIterS (n : Nat) : List V → Hp → VK → Prop := fun xs H Q => ∃ w : List Nat, xs = [.str (S w)] ∧ ∀ it, H it = none → n ≤ it → Q (.ref it) (upd H it (ItS (S w) it))
theorem call_iterS : CallR X (.builtin "iter") (rIterS X.s_0.heap.objs.size) := by
  intro pins s σ H xs us Q I r h
  obtain ⟨w, rfl, q⟩ := h
  obtain ⟨u, rfl, ru⟩ := vals1 r
  obtain ⟨t, rfl⟩ := ru
  refine Calls.call_function_entry (by decide +kernel) (by decide +kernel) PySem.W.kdk_entry_iter (PySem.W.kdk_args_iter _) ?_
  unfold Builtin.«iter»
  refine wpAny_bind (m := someArgs "iter" 1 2 _) (wpAny_of_eq (a := [Value.str (S w) t]) (by first | rfl | kernel_rfl!) ?_)
  show wpAny _ _ (pyIter (.str (S w) t) >>= _) _ _ _
  have fin : ∀ ty, strIterType (S w) = ty → EP X pins σ Q (.ref s.heap.objs.size) { s with heap := s.heap.push { cls := .type ty, data := .fields #[.str (S w) t, .int 0 0] } } := fun ty e => by
    refine ⟨.ref s.heap.objs.size, _, I.laid (t' := s.toks) (fun b u e => Heap.get?_push_of_some _ e) (Nat.le_refl _) (itS_ok (z := S w) (t := t) ⟨_, Heap.get?_push_size _ rfl, by rw [e], rfl⟩), rfl, q _ (I.hok.fresh (Nat.le_refl _)) I.sz⟩
  cases ha : (S w).cps.all (· < 128)
  · exact wpAny_bind (wpAny_pyIter_wide ha (wpAny_pure ⟨_, rfl, fin _ (by unfold strIterType; rw [ha] <;> rfl)⟩))
  · exact wpAny_bind (wpAny_pyIter_ascii ha (wpAny_pure ⟨_, rfl, fin _ (by unfold strIterType; rw [ha] <;> rfl)⟩))
end
/-! ### a def whose promise knows how large the heap was at its call -/
structure FnS (P : Program) (w : World) (K : PySem.W.Frag) (mg : Str → Option Value) (base : Heap) (CX : CXT) (k : Nat) (f : Addr) (fd : FuncData) (ps : List Str) (sp : Nat → Sp) : Prop where
  len : ∀ n vs H Q E, sp n vs H Q E → vs.length = ps.length
  run : ∀ (A : Around) (outer : List Env) (s : Shared) (H : Hp) (args : Args) (us : List Value) (vs : List V) (Q : VK) (E : XK), Room k A → Env0 P w K mg base A outer s H → BindsTo s fd args (ps.zip us) → Vals vs us → sp s.heap.objs.size vs H Q E →
    codeAny (model P w) A (.call (.ref f) args) (CR CX outer P w H s Q E) s
theorem fun_okS {CX : CXT} {P : Program} {w : World} {K : PySem.W.Frag} {mg : Str → Option Value} {base : Heap} {x qual : Str} {st : Stmt} {f : Addr} {fd : FuncData} {N ps : List Str} {k : Nat} {sp : Nat → Sp} (F : Fun K x qual st f fd) (S : FnScope N ps (defScope st))
    (len : ∀ n vs H Q E, sp n vs H Q E → vs.length = ps.length)
    (hbody : ∀ (cdv : Value) (A : Around) (outer : List Env) (s : Shared) (H : Hp) (vs : List V) (Q : VK) (E : XK), Room k (A.deeper (envOfC qual (defScope st) s.heap.objs.size f cdv)) → sp s.heap.objs.size vs H Q E →
      ∃ t, PSs (cxOf CX P w K mg base N qual (defScope st) f cdv A outer s H E) (defBody st) t ∧ t { nx := fun _ H' => Q .non H', rt := Q } (L2.start N vs) H) : FnS P w K mg base CX (k + 1) f fd ps sp := by
  obtain ⟨oc, od, kV, doc, pm, an, cdv, ct, osl, rfl, lk, hcd⟩ := F.ex
  exact ⟨len, fun A outer s H args us vs Q E hr e0 hb r hsp => run_ofS lk hcd S hr e0 hb r (len _ _ _ _ _ hsp) fun hr' => hbody cdv A outer s H vs Q E hr' hsp⟩
/-! ### for c in x, by the own __iter__ -/
structure OwnIter (P : Program) (w : World) (K : PySem.W.Frag) (mg : Str → Option Value) (base : Heap) (CX : CXT) (k : Nat) (C : Addr) (sp : Nat → Sp) : Prop where
  ex : ∃ (f : Addr) (fd : FuncData) (ps : List Str), PySem.W.findIn K (.ref C) "__iter__" = some (some (.ref f)) ∧ PySem.W.isFn K (.ref f) = true ∧ FnS P w K mg base CX k f fd ps sp ∧ Binds K fd ps []
def rOwnIt (C : Addr) (sp : Nat → Sp) (E : XK) (R : It → Hp → Prop) : V → Hp → Prop := fun x H1 => ∃ a dx fs, x = .ref a ∧ H1 a = some (.ins C dx fs) ∧ ∀ n, sp n [.ref a] H1 (fun v H2 => ∃ it z, v = .ref it ∧ n ≤ it ∧ H2 it = some (ItS z it) ∧ R (Its z) (ItX.dropH H2 it)) E
def iOwn (C : Addr) (sp : Nat → Sp) (E : XK) (te : TE) : TI := fun σ H R => te σ H fun x H1 => rOwnIt C sp E R x H1
section
variable {X : Cx} {CXc : CXT} {k j : Nat} {C f : Addr} {fd : FuncData} {ps : List Str} {sp : Nat → Sp} {E : XK} {pins : List (Addr × Obj)} {σ : L2.St} {H : Hp} {s : Shared} {Q : VK}
theorem pi_own {tg e : Expr} {te : TE} (c : OwnIter X.prog X.w X.K X.mg X.base CXc k C sp) (hr : Room j X.A) (hk : k ≤ j) (hx : Passes CXc X E) (he : PE X e te) : PI X tg e (iOwn C sp E te) := by
  obtain ⟨f, fd, ps, hs, hf, F, hb⟩ := c.ex
  refine ⟨fun pins s σ H R I h => ?_⟩
  refine thn (he.run pins s σ H _ I h) fun u s1 ⟨x, H1, I1, rx, a, dx, fs, ex, ea, q0⟩ => ?_
  subst ex
  obtain rfl : u = Value.ref a := rx
  obtain ⟨_, _, J⟩ := inst_of I1 ea
  obtain ⟨m, hF⟩ := I1.fr
  have q := q0 s1.heap.objs.size
  have r2 : Vals [V.ref a] [Value.ref a] := .cons rfl .nil
  have hl : ([Value.ref a] ++ ([] : List Value)).length = ps.length := by rw [List.append_nil, ← r2.length]; exact F.len _ _ _ _ _ q
  refine PySem.W.owit_iter hF I1.ok.mod.kin J hs hf ?_
  refine wpAny_call (codeAny_mono (F.run X.A X.stack s1 H1 ⟨[.ref a], []⟩ [.ref a] [.ref a] _ E (hr.mono hk) I1.env0 (by simpa using hb s1 [.ref a] I1.kIn hl) r2 q) fun r s' hq => ?_)
  cases r with
  | error e => exact hx pins σ H1 s1 e s' I1 hq
  | ok fl =>
    cases fl with
    | next => exact False.elim hq
    | brk => exact False.elim hq
    | cont => exact False.elim hq
    | ret u =>
      obtain ⟨v, H2, e1, e2, un, e4, rv, it, z, rfl, young, hi, q2⟩ := hq
      obtain ⟨v', H2', I2, rv', ev, eH⟩ := I1.after (Q := fun v' H' => v' = .ref it ∧ H' = H2) ⟨V.ref it, H2, e1, e2, un, e4, rv, rfl, rfl⟩
      subst eH
      cases rv
      obtain ⟨⟨t, st⟩, _, _⟩ := (show ObjOk X.prog X.w H2' s'.heap it (ItS z it) from I2.hok it _ hi)
      have hi' := hi
      unfold ItS at hi'
      have ph : PIE X pins σ tg R (.ref it) s' := by
        refine ⟨it, [it], _, _, ItX.dropH H2' it, rfl, ItX.inv_drop I2 hi', turn_str (P := X.prog) (w := X.w) (K := X.K) (tg := tg) it z t (strIterType z) ?_, st, fun b hb => ?_, q2⟩
        · unfold strIterType
          cases z.cps.all (· < 128)
          · exact .inr rfl
          · exact .inl rfl
        · have e : b = it := by simpa using hb
          rw [e]
          exact ItX.inv_fp I2 hi (Nat.le_trans I1.sz young)
      unfold PySem.W.OwitIt
      have st2 := st
      have e : strIterType z = "str_ascii_iterator" ∨ strIterType z = "str_iterator" := by
        unfold strIterType
        cases z.cps.all (· < 128)
        · exact .inr rfl
        · exact .inl rfl
      rcases e with e | e
      · rw [e] at st2
        exact wpAny_specialOf (name := Str.ofString "__next__") st2.typeIs PySem.F.slot_str_ascii_iterator_next.lookup ph
      · rw [e] at st2
        exact wpAny_specialOf (name := Str.ofString "__next__") st2.typeIs PySem.F.slot_str_iterator_next.lookup ph
end
end Cs
namespace Cs
open PySem PySem.Spec PyProof.Rows L2 LamX
/-! ### is True, is False -/
def rIsBl : R2 := fun x y H Q => (∃ a b : Bool, x = .bl a ∧ y = .bl b ∧ Q (.bl (decide (a = b))) H) ∨ ∃ (n : Int) (b : Bool), x = .int n ∧ y = .bl b ∧ Q (.bl false) H
def rNotBl : R2 := fun x y H Q => (∃ a b : Bool, x = .bl a ∧ y = .bl b ∧ Q (.bl (!decide (a = b))) H) ∨ ∃ (n : Int) (b : Bool), x = .int n ∧ y = .bl b ∧ Q (.bl true) H
section
variable {X : Cx}
theorem op_isBI : OpR X (compareOp .Is) rIsBl := by
  refine (op_isBl (X := X)).or ?_
  intro pins s σ H x y v u Q I rx ry h
  obtain ⟨n, b, rfl, rfl, q⟩ := h
  obtain ⟨t, rfl⟩ := rx
  cases (show u = Value.bool b from ry)
  exact wpAny_is_other rfl (fun z => nomatch z) ⟨.bl false, H, I, rfl, q⟩
theorem op_notBI : OpR X (compareOp .IsNot) rNotBl := by
  refine (op_notBl (X := X)).or ?_
  intro pins s σ H x y v u Q I rx ry h
  obtain ⟨n, b, rfl, rfl, q⟩ := h
  obtain ⟨t, rfl⟩ := rx
  cases (show u = Value.bool b from ry)
  exact wpAny_isNot_other rfl (fun z => nomatch z) ⟨.bl true, H, I, rfl, q⟩
theorem r_isB {H : Hp} {Q : VK} {a b : Bool} (q : Q (.bl (decide (a = b))) H) : rIsBl (.bl a) (.bl b) H Q := .inl ⟨a, b, rfl, rfl, q⟩
theorem r_notB {H : Hp} {Q : VK} {a b : Bool} (q : Q (.bl (!decide (a = b))) H) : rNotBl (.bl a) (.bl b) H Q := .inl ⟨a, b, rfl, rfl, q⟩
theorem r_notBI {H : Hp} {Q : VK} {n : Int} {b : Bool} (q : Q (.bl true) H) : rNotBl (.int n) (.bl b) H Q := .inr ⟨n, b, rfl, rfl, q⟩
end
end Cs

set_option Elab.async false
set_option linter.all false
set_option maxRecDepth 100000
set_option maxHeartbeats 4000000
/-! LayN: x == y and x != y by the own __eq__ (object.__ne__), where it may decline. -/
namespace PySem.ErrX
open PySem PySem.W PySem.Calls PyProof.Rows PySem.Spec
section
variable {prog : Program} {w : World} {A : Around} {E : Value → Shared → Prop} {s : Shared} {K : Frag} {x C L f : Addr} {h₀ : Heap} {m : Str → Option Value} {ox : Obj} {od : Option Obj} {b tb : Value}
/-- a truth, or declined -/
def BkQ (neg : Bool) (Q : Option Value → Shared → Prop) (v : Value) (s' : Shared) : Prop := (∃ r, v = .bool r ∧ Q (some (.bool (r != neg))) s') ∨ (v = .notImplemented ∧ Q none s')
theorem tryEq_K {Q : Option Value → Shared → Prop} (X : K.In s.heap) (I : InstAt s.heap x ox C od) (hs : findIn K (.ref C) "__eq__" = some (some (.ref f))) (hf : isFn K (.ref f) = true)
    (h : wpAny (model prog w) A (call (.ref f) [.ref x, b]) (BkQ false Q) E s) : wpAny (model prog w) A (tryCompare (.ref x) (cmpInfo .Eq).2.1 b) Q E s := by
  unfold tryCompare
  refine wpAny_bind (ifBound_K X I hs hf (wpAny_mono h (fun v s' hv => ?_) fun _ _ e => e))
  rcases hv with ⟨r, rfl, hq⟩ | ⟨rfl, hq⟩
  · refine wpAny_pure ?_
    simpa using hq
  · exact wpAny_pure hq
theorem objNe_B (hu : A.units < cLine) (X : K.In s.heap) (I : InstAt s.heap x ox C od) (hs : findIn K (.ref C) "__eq__" = some (some (.ref f))) (hf : isFn K (.ref f) = true) {Q : Fin → Shared → Prop}
    (h : wpAny (model prog w) A (call (.ref f) [.ref x, b]) (fun v s' => (∃ r, v = .bool r ∧ Q (.done (.ret (.bool (!r)))) s') ∨ (v = .notImplemented ∧ Q (.done (.ret .notImplemented)) s')) E s) : wpAny (model prog w) A (Builtin.«object.__ne__» ⟨[.ref x, b], []⟩) Q E s := by
  unfold Builtin.«object.__ne__»
  repeat (first
    | with_reducible refine wpAny_cRoomFor hu ?_
    | (refine wpAny_bind (m := callSpecialIfBound? (.ref x) (Str.ofString "__eq__") [b])
        (ifBound_K X I hs hf (wpAny_mono h (fun v s' hr => by
          rcases hr with ⟨r, rfl, hq⟩ | ⟨rfl, hq⟩
          · repeat (first | exact hq | exact wpAny_pure hq | exact wpAny_truthy_bool hq | (refine wpAny_bind (m := truthy (.bool _)) (wpAny_truthy_bool ?_)) | wp_step)
          · repeat (first | exact hq | exact wpAny_pure hq | wp_step)) fun _ _ e => e)))
    | wp_step)
theorem tryNe_K {Q : Option Value → Shared → Prop} (hu : A.in1.units < cLine) (X : K.In s.heap) (I : InstAt s.heap x ox C od) (hn : findIn K (.ref C) "__ne__" = some (some (.builtin "object.__ne__"))) (ho : mroIn K C (.type "object") = some true)
    (hs : findIn K (.ref C) "__eq__" = some (some (.ref f))) (hf : isFn K (.ref f) = true)
    (h : wpAny (model prog w) A.in1 (call (.ref f) [.ref x, b]) (BkQ true Q) E s) : wpAny (model prog w) A (tryCompare (.ref x) (cmpInfo .NotEq).2.1 b) Q E s := by
  unfold tryCompare
  have slot : Slot "object" "__ne__" "object.__ne__" := PySem.F.cmp_object.ne
  refine wpAny_bind (ifB_builtin (Q := fun r s' => wpAny (model prog w) A (match r with | some .notImplemented | none => pure none | some v => pure (some v)) Q E s') X I hn slot ?_)
  refine wpAny_call (codeAny_call_builtin slot.plain PySem.F.cmpEntry_ne (check_slotK PySem.F.cmpKind_ne PySem.F.cmpSplit_ne (I.type.andThen (looks_mroIn X ho)) (PySem.F.cmpArgs_ne _ _) ?_))
  refine objNe_B (A := A.in1) hu X I hs hf (wpAny_mono h (fun v s' hv => ?_) fun _ _ e => e)
  rcases hv with ⟨r, rfl, hq⟩ | ⟨rfl, hq⟩
  · refine .inl ⟨r, rfl, ?_⟩
    refine wpAny_pure ?_
    simpa using hq
  · exact .inr ⟨rfl, wpAny_pure hq⟩
/-- the comparison: told by the left side, or both decline -/
theorem rc_own {op : CmpOp} {Q : Value → Shared → Prop} (hop : op = .Eq ∨ op = .NotEq) (hu : A.units < cLine) (X : K.In s.heap) (I : InstAt s.heap x ox C od) (hb : Looks (model prog w) s.heap (typeOf b) tb) (hn : notFirst K C tb = true)
    (h : wpAny (model prog w) A (tryCompare (.ref x) (cmpInfo op).2.1 b) (fun r s' => (∃ v, r = some v ∧ Q v s') ∨ (r = none ∧ wpAny (model prog w) A (tryCompare b (cmpInfo op).2.2 (.ref x)) (fun r s₂ => r = none ∧ wpAny (model prog w) A (isSame (.ref x) b) (fun k s₃ => Q (.bool (k != decide (op = .NotEq))) s₃) E s₂) E s')) E s) :
    wpAny (model prog w) A (richCompare op (.ref x) b) Q E s := by
  unfold richCompare
  simp only [oneThing_ref]
  refine wpAny_holding (wpAny_bind (wpAny_cRoomFor hu ?_))
  refine wpAny_bind (I.type.here (wpAny_bind (hb.here ?_)))
  have step : ∀ (fin : Option Value → Sem Value), (∀ r s', ((∃ v, r = some v ∧ Q v s') ∨ (r = none ∧ wpAny (model prog w) A (tryCompare b (cmpInfo op).2.2 (.ref x)) (fun r s₂ => r = none ∧ wpAny (model prog w) A (isSame (.ref x) b) (fun k s₃ => Q (.bool (k != decide (op = .NotEq))) s₃) E s₂) E s')) → wpAny (model prog w) A (fin r) Q E s') →
      wpAny (model prog w) A (tryCompare (.ref x) (cmpInfo op).2.1 b >>= fin) Q E s := fun fin hfin => wpAny_bind (wpAny_mono h (fun r s' z => hfin r s' z) fun _ _ e => e)
  have last : ∀ s', wpAny (model prog w) A (tryCompare b (cmpInfo op).2.2 (.ref x)) (fun r s₂ => r = none ∧ wpAny (model prog w) A (isSame (.ref x) b) (fun k s₃ => Q (.bool (k != decide (op = .NotEq))) s₃) E s₂) E s' →
      wpAny (model prog w) A (do
        if let some v ← tryCompare b (cmpInfo op).2.2 (.ref x) then return v
        match op with
        | .Eq => rule "compare.eq-identity"; return .bool (← isSame (.ref x) b)
        | .NotEq => rule "compare.ne-identity"; return .bool (!(← isSame (.ref x) b))
        | _ =>
          rule "compare.unsupported"
          raiseError "TypeError" s!"'{(cmpInfo op).1}' not supported between instances of '{← typeNameOf (.ref x)}' and '{← typeNameOf b}'") Q E s' := fun s' z => by
    refine wpAny_bind (wpAny_mono z (fun r s₂ z => ?_) fun _ _ e => e)
    obtain ⟨rfl, z⟩ := z
    rcases hop with rfl | rfl
    · refine wpAny_bind (wpAny_rule (wpAny_bind (wpAny_mono z (fun k s₃ z => wpAny_pure ?_) fun _ _ e => e)))
      simpa using z
    · refine wpAny_bind (wpAny_rule (wpAny_bind (wpAny_mono z (fun k s₃ z => wpAny_pure ?_) fun _ _ e => e)))
      simpa using z
  split
  · rename_i q
    have e : subIn K tb (.ref C) = some false := by
      rcases Bool.or_eq_true_iff.mp hn with e | e
      · rw [beq_iff_eq.mp e] at q; simp at q
      · exact beq_iff_eq.mp e
    refine wpAny_bind ((looks_subIn X e).here ?_)
    simp only [Bool.false_eq_true, if_false]
    refine step _ fun r s' z => ?_
    rcases z with ⟨v, rfl, hq⟩ | ⟨rfl, hq⟩
    · exact wpAny_pure hq
    · exact last s' hq
  · refine wpAny_bind (wpAny_pure ?_)
    simp only [Bool.false_eq_true, if_false]
    refine step _ fun r s' z => ?_
    rcases z with ⟨v, rfl, hq⟩ | ⟨rfl, hq⟩
    · exact wpAny_pure hq
    · exact last s' hq
end
end PySem.ErrX

set_option Elab.async false
set_option linter.all false
set_option maxRecDepth 100000
set_option maxHeartbeats 4000000
/-! LayO: built-in values decline a comparison with an instance; own == and != as rules. -/
namespace PySem.ErrX
open PySem PySem.W PySem.Calls PyProof.Rows PySem.Spec

theorem int_eq_decl (n : Int) (u : Tok) (l : Addr) (C dx : Addr) : Meets (Builtin.«int.__eq__» ⟨[.int n u, .ref l], []⟩) (fun _ R s => s.heap.get? l = some (instObj C dx) ∧ R (.ok (.ret .notImplemented)) s) :=
  .of_wp fun prog w A R s h => by
    obtain ⟨hp, g, d, tk, os⟩ := s
    obtain ⟨hl, h⟩ := h
    unfold instObj at hl
    wp_walk using wpAny_loadPart' hl, wpAny_load hl
    exact ⟨_, rfl, h⟩
theorem int_ne_decl (n : Int) (u : Tok) (l : Addr) (C dx : Addr) : Meets (Builtin.«int.__ne__» ⟨[.int n u, .ref l], []⟩) (fun _ R s => s.heap.get? l = some (instObj C dx) ∧ R (.ok (.ret .notImplemented)) s) :=
  .of_wp fun prog w A R s h => by
    obtain ⟨hp, g, d, tk, os⟩ := s
    obtain ⟨hl, h⟩ := h
    unfold instObj at hl
    wp_walk using wpAny_loadPart' hl, wpAny_load hl
    exact ⟨_, rfl, h⟩
theorem bool_eq_decl (n : Bool) (l : Addr) (C dx : Addr) : Meets (Builtin.«int.__eq__» ⟨[.bool n, .ref l], []⟩) (fun _ R s => s.heap.get? l = some (instObj C dx) ∧ R (.ok (.ret .notImplemented)) s) :=
  .of_wp fun prog w A R s h => by
    obtain ⟨hp, g, d, tk, os⟩ := s
    obtain ⟨hl, h⟩ := h
    unfold instObj at hl
    wp_walk using wpAny_loadPart' hl, wpAny_load hl
    exact ⟨_, rfl, h⟩
theorem bool_ne_decl (n : Bool) (l : Addr) (C dx : Addr) : Meets (Builtin.«int.__ne__» ⟨[.bool n, .ref l], []⟩) (fun _ R s => s.heap.get? l = some (instObj C dx) ∧ R (.ok (.ret .notImplemented)) s) :=
  .of_wp fun prog w A R s h => by
    obtain ⟨hp, g, d, tk, os⟩ := s
    obtain ⟨hl, h⟩ := h
    unfold instObj at hl
    wp_walk using wpAny_loadPart' hl, wpAny_load hl
    exact ⟨_, rfl, h⟩
theorem str_eq_decl (n : Str) (u : Tok) (l : Addr) (C dx : Addr) : Meets (Builtin.«str.__eq__» ⟨[.str n u, .ref l], []⟩) (fun _ R s => s.heap.get? l = some (instObj C dx) ∧ R (.ok (.ret .notImplemented)) s) :=
  .of_wp fun prog w A R s h => by
    obtain ⟨hp, g, d, tk, os⟩ := s
    obtain ⟨hl, h⟩ := h
    unfold instObj at hl
    wp_walk using wpAny_loadPart' hl, wpAny_load hl
    exact ⟨_, rfl, h⟩
theorem str_ne_decl (n : Str) (u : Tok) (l : Addr) (C dx : Addr) : Meets (Builtin.«str.__ne__» ⟨[.str n u, .ref l], []⟩) (fun _ R s => s.heap.get? l = some (instObj C dx) ∧ R (.ok (.ret .notImplemented)) s) :=
  .of_wp fun prog w A R s h => by
    obtain ⟨hp, g, d, tk, os⟩ := s
    obtain ⟨hl, h⟩ := h
    unfold instObj at hl
    wp_walk using wpAny_loadPart' hl, wpAny_load hl
    exact ⟨_, rfl, h⟩
theorem list_eq_decl (b l : Addr) (C dx : Addr) (items : Array Value) (n : Nat) (dd : Option Addr) (sl : Array (Option Value)) (K : Frag) (hs : subIn K (.ref C) (.type "list") = some false) : Meets (Builtin.«list.__eq__» ⟨[.ref b, .ref l], []⟩)
    (fun _ R s => K.In s.heap ∧ s.heap.get? b = some { cls := .type "list", dict := dd, data := .seq items n, slots := sl } ∧ s.heap.get? l = some (instObj C dx) ∧ R (.ok (.ret .notImplemented)) s) :=
  .of_wp fun prog w A R s h => by
    obtain ⟨hp, g, d, tk, os⟩ := s
    obtain ⟨X, hb, hl, h⟩ := h
    unfold instObj at hl
    have LS : Looks (model prog w) hp (isSubtype (.ref C) (.type "list")) false := looks_subIn X hs
    wp_walk using wpAny_loadPart' hb, wpAny_loadPart' hl, wpAny_load hl
    exact LS.at (wpAny_pure ⟨_, rfl, h⟩)
theorem list_ne_decl (b l : Addr) (C dx : Addr) (items : Array Value) (n : Nat) (dd : Option Addr) (sl : Array (Option Value)) (K : Frag) (hs : subIn K (.ref C) (.type "list") = some false) : Meets (Builtin.«list.__ne__» ⟨[.ref b, .ref l], []⟩)
    (fun _ R s => K.In s.heap ∧ s.heap.get? b = some { cls := .type "list", dict := dd, data := .seq items n, slots := sl } ∧ s.heap.get? l = some (instObj C dx) ∧ R (.ok (.ret .notImplemented)) s) :=
  .of_wp fun prog w A R s h => by
    obtain ⟨hp, g, d, tk, os⟩ := s
    obtain ⟨X, hb, hl, h⟩ := h
    unfold instObj at hl
    have LS : Looks (model prog w) hp (isSubtype (.ref C) (.type "list")) false := looks_subIn X hs
    wp_walk using wpAny_loadPart' hb, wpAny_loadPart' hl, wpAny_load hl
    exact LS.at (wpAny_pure ⟨_, rfl, h⟩)
theorem tuple_eq_decl (b l : Addr) (C dx : Addr) (items : Array Value) (n : Nat) (dd : Option Addr) (sl : Array (Option Value)) (K : Frag) (hs : subIn K (.ref C) (.type "tuple") = some false) : Meets (Builtin.«tuple.__eq__» ⟨[.ref b, .ref l], []⟩)
    (fun _ R s => K.In s.heap ∧ s.heap.get? b = some { cls := .type "tuple", dict := dd, data := .seq items n, slots := sl } ∧ s.heap.get? l = some (instObj C dx) ∧ R (.ok (.ret .notImplemented)) s) :=
  .of_wp fun prog w A R s h => by
    obtain ⟨hp, g, d, tk, os⟩ := s
    obtain ⟨X, hb, hl, h⟩ := h
    unfold instObj at hl
    have LS : Looks (model prog w) hp (isSubtype (.ref C) (.type "tuple")) false := looks_subIn X hs
    wp_walk using wpAny_loadPart' hb, wpAny_loadPart' hl, wpAny_load hl
    exact LS.at (wpAny_pure ⟨_, rfl, h⟩)
theorem tuple_ne_decl (b l : Addr) (C dx : Addr) (items : Array Value) (n : Nat) (dd : Option Addr) (sl : Array (Option Value)) (K : Frag) (hs : subIn K (.ref C) (.type "tuple") = some false) : Meets (Builtin.«tuple.__ne__» ⟨[.ref b, .ref l], []⟩)
    (fun _ R s => K.In s.heap ∧ s.heap.get? b = some { cls := .type "tuple", dict := dd, data := .seq items n, slots := sl } ∧ s.heap.get? l = some (instObj C dx) ∧ R (.ok (.ret .notImplemented)) s) :=
  .of_wp fun prog w A R s h => by
    obtain ⟨hp, g, d, tk, os⟩ := s
    obtain ⟨X, hb, hl, h⟩ := h
    unfold instObj at hl
    have LS : Looks (model prog w) hp (isSubtype (.ref C) (.type "tuple")) false := looks_subIn X hs
    wp_walk using wpAny_loadPart' hb, wpAny_loadPart' hl, wpAny_load hl
    exact LS.at (wpAny_pure ⟨_, rfl, h⟩)
end PySem.ErrX
namespace Cs
open PySem PySem.Spec PyProof.Rows L2 LamX PySem.ErrX
/-- a value of a built-in type -/
inductive BV (H : Hp) : V → String → Prop
  | non : BV H .non "NoneType"
  | int (n : Int) : BV H (.int n) "int"
  | bl (n : Bool) : BV H (.bl n) "bool"
  | str (n : Str) : BV H (.str n) "str"
  | lst {a : Addr} {xs : List V} (h : H a = some (.lst xs)) : BV H (.ref a) "list"
  | tup {a : Addr} {xs : List V} (h : H a = some (.tup xs)) : BV H (.ref a) "tuple"
section
variable {X : Cx} {pins : List (Addr × Obj)} {σ : L2.St} {H : Hp} {s : Shared} {A : Around} {E : Value → Shared → Prop} {y : V} {u : Value} {T : String} {a C dx : Addr} {fs : List (Str × V)}
theorem BV.ty {K : PySem.W.Frag} (h : BV H y T) : TyX K H y (.type T) := by
  cases h with
  | non => exact .base .non
  | int n => exact .base (.int n)
  | bl n => exact .base (.bl n)
  | str n => exact .base (.str n)
  | lst h => exact .base (.lst h)
  | tup h => exact .base (.tup h)
theorem ins_obj (I : Inv X pins σ H s) (h : H a = some (.ins C dx fs)) : s.heap.get? a = some (PySem.W.instObj C dx) := by
  obtain ⟨d, z, ne, ob, _⟩ := (show ObjOk X.prog X.w H s.heap a (.ins C dx fs) from I.hok a _ h)
  exact ob
theorem decl_of {op : CmpOp} (hop : op = .Eq ∨ op = .NotEq) (I : Inv X pins σ H s) (ha : H a = some (.ins C dx fs)) (hy : BV H y T) (ry : RelV y u) (hu : A.units < cLine) (h1 : PySem.W.subIn X.K (.ref C) (.type "list") = some false) (h2 : PySem.W.subIn X.K (.ref C) (.type "tuple") = some false)
    {Q : Option Value → Shared → Prop} (q : Q none s) : wpAny (model X.prog X.w) A (tryCompare u (cmpInfo op).2.2 (.ref a)) Q E s := by
  have ho := ins_obj I ha
  cases hy with
  | non =>
    cases (show u = Value.none from ry)
    rcases hop with rfl | rfl
    · exact wpAny_tryCompare_declines (T := "NoneType") rfl PySem.F.slot_NoneType_eq_refl (call_gives PySem.F.slot_NoneType_eq_refl rfl PySem.F.entry_NoneType_eq (PySem.F.args_NoneType_eq_2 _ _) (PySem.SeqAt.NoneType___eq___none_ref_0 a) ⟨rfl, q⟩)
    · exact wpAny_tryCompare_declines (T := "NoneType") rfl PySem.F.slot_NoneType_ne_refl (call_gives PySem.F.slot_NoneType_ne_refl rfl PySem.F.entry_NoneType_ne (PySem.F.args_NoneType_ne_2 _ _) (PySem.SeqAt.NoneType___ne___none_ref_0 a) ⟨rfl, q⟩)
  | int n =>
    obtain ⟨t, rfl⟩ := ry
    rcases hop with rfl | rfl
    · exact wpAny_tryCompare_declines (typeIs_int s n t) PySem.F.slot_int_eq_refl (call_meets PySem.F.slot_int_eq_refl (typeIs_int s n t) PySem.F.entry_int_eq (PySem.F.args_int_eq_2 _ _) (int_eq_decl n t a C dx) ⟨ho, rfl, q⟩)
    · exact wpAny_tryCompare_declines (typeIs_int s n t) PySem.F.slot_int_ne_refl (call_meets PySem.F.slot_int_ne_refl (typeIs_int s n t) PySem.F.entry_int_ne (PySem.F.args_int_ne_2 _ _) (int_ne_decl n t a C dx) ⟨ho, rfl, q⟩)
  | bl n =>
    cases (show u = Value.bool n from ry)
    rcases hop with rfl | rfl
    · exact wpAny_tryCompare_declines (T := "bool") rfl PySem.F.slot_bool_eq_refl (call_meets PySem.F.slot_bool_eq_refl rfl PySem.F.entry_int_eq (PySem.F.args_int_eq_2 _ _) (bool_eq_decl n a C dx) ⟨ho, rfl, q⟩)
    · exact wpAny_tryCompare_declines (T := "bool") rfl PySem.F.slot_bool_ne_refl (call_meets PySem.F.slot_bool_ne_refl rfl PySem.F.entry_int_ne (PySem.F.args_int_ne_2 _ _) (bool_ne_decl n a C dx) ⟨ho, rfl, q⟩)
  | str n =>
    obtain ⟨t, rfl⟩ := ry
    rcases hop with rfl | rfl
    · exact wpAny_tryCompare_declines (typeIs_str s n t) PySem.F.slot_str_eq_refl (call_meets PySem.F.slot_str_eq_refl (typeIs_str s n t) PySem.F.entry_str_eq (PySem.F.args_str_eq_2 _ _) (str_eq_decl n t a C dx) ⟨ho, rfl, q⟩)
    · exact wpAny_tryCompare_declines (typeIs_str s n t) PySem.F.slot_str_ne_refl (call_meets PySem.F.slot_str_ne_refl (typeIs_str s n t) PySem.F.entry_str_ne (PySem.F.args_str_ne_2 _ _) (str_ne_decl n t a C dx) ⟨ho, rfl, q⟩)
  | @lst b xs hb =>
    cases (show u = Value.ref b from ry)
    obtain ⟨_, vs, n, _, hb1⟩ := (show ObjOk X.prog X.w H s.heap b (.lst xs) from I.hok b _ hb)
    rcases hop with rfl | rfl
    · exact wpAny_tryCompare_declines (T := "list") ⟨_, hb1, rfl⟩ PySem.F.slot_list_eq_refl (call_meets PySem.F.slot_list_eq_refl ⟨_, hb1, rfl⟩ PySem.F.entry_list_eq (PySem.F.args_list_eq_2 _ _) (list_eq_decl b a C dx _ _ _ _ X.K h1) ⟨I.kIn, hb1, ho, rfl, q⟩)
    · exact wpAny_tryCompare_declines (T := "list") ⟨_, hb1, rfl⟩ PySem.F.slot_list_ne_refl (call_meets PySem.F.slot_list_ne_refl ⟨_, hb1, rfl⟩ PySem.F.entry_list_ne (PySem.F.args_list_ne_2 _ _) (list_ne_decl b a C dx _ _ _ _ X.K h1) ⟨I.kIn, hb1, ho, rfl, q⟩)
  | @tup b xs hb =>
    cases (show u = Value.ref b from ry)
    obtain ⟨_, vs, _, ⟨cls, dd, data, sl⟩, hb1, hc, n, hd⟩ := (show ObjOk X.prog X.w H s.heap b (.tup xs) from I.hok b _ hb)
    simp only at hc hd
    subst hc hd
    rcases hop with rfl | rfl
    · exact wpAny_tryCompare_declines (T := "tuple") ⟨_, hb1, rfl⟩ PySem.F.slot_tuple_eq_refl (call_meets PySem.F.slot_tuple_eq_refl ⟨_, hb1, rfl⟩ PySem.F.entry_tuple_eq (PySem.F.args_tuple_eq_2 _ _) (tuple_eq_decl b a C dx _ _ _ _ X.K h2) ⟨I.kIn, hb1, ho, rfl, q⟩)
    · exact wpAny_tryCompare_declines (T := "tuple") ⟨_, hb1, rfl⟩ PySem.F.slot_tuple_ne_refl (call_meets PySem.F.slot_tuple_ne_refl ⟨_, hb1, rfl⟩ PySem.F.entry_tuple_ne (PySem.F.args_tuple_ne_2 _ _) (tuple_ne_decl b a C dx _ _ _ _ X.K h2) ⟨I.kIn, hb1, ho, rfl, q⟩)
theorem same_of (I : Inv X pins σ H s) (ha : H a = some (.ins C dx fs)) (hy : BV H y T) (ry : RelV y u) {Q : Bool → Shared → Prop} (q : Q false s) : wpAny (model X.prog X.w) A (isSame (.ref a) u) Q E s := by
  have ho := ins_obj I ha
  have refs : ∀ {b : Addr} {ob : Obj}, s.heap.get? b = some ob → a ≠ b → wpAny (model X.prog X.w) A (isSame (.ref a) (.ref b)) Q E s := fun {b ob} hb hne => by
    show wpAny _ A (if (a == b) = true then pure true else _) Q E s
    rw [if_neg (by simpa using hne)]
    refine wpAny_bind (wpAny_load ho (wpAny_bind (wpAny_load hb ?_)))
    split
    · rename_i z _ _ _
      exact nomatch z
    · exact wpAny_pure q
  cases hy with
  | non => cases (show u = Value.none from ry); exact wpAny_of_eq (rfl : isSame (.ref a) .none = pure false) q
  | int n => obtain ⟨t, rfl⟩ := ry; exact wpAny_of_eq (rfl : isSame (.ref a) (.int n t) = pure false) q
  | bl n => cases (show u = Value.bool n from ry); exact wpAny_of_eq (rfl : isSame (.ref a) (.bool n) = pure false) q
  | str n => obtain ⟨t, rfl⟩ := ry; exact wpAny_of_eq (rfl : isSame (.ref a) (.str n t) = pure false) q
  | @lst b xs hb =>
    cases (show u = Value.ref b from ry)
    obtain ⟨_, vs, n, _, hb1⟩ := (show ObjOk X.prog X.w H s.heap b (.lst xs) from I.hok b _ hb)
    exact refs hb1 fun z => by rw [z, hb] at ha; cases ha
  | @tup b xs hb =>
    cases (show u = Value.ref b from ry)
    obtain ⟨_, vs, _, ob, hb1, _⟩ := (show ObjOk X.prog X.w H s.heap b (.tup xs) from I.hok b _ hb)
    exact refs hb1 fun z => by rw [z, hb] at ha; cases ha
end
end Cs

set_option Elab.async false
set_option linter.all false
set_option maxRecDepth 100000
set_option maxHeartbeats 4000000
/-! LayP: == and != of own instances as rules. -/
namespace Cs
open PySem PySem.Spec PyProof.Rows L2 LamX PySem.ErrX
/-- how the own __eq__ declines a value of a built-in type -/
def NiRun (P : Program) (w : World) (K : PySem.W.Frag) (mg : Str → Option Value) (base : Heap) (k : Nat) (C f : Addr) : Prop :=
  ∀ (A : Around) (outer : List Env) (s : Shared) (H : Hp) (a dx : Addr) (fs : List (Str × V)) (y : V) (u : Value) (T : String), Room k A → Env0 P w K mg base A outer s H → H a = some (.ins C dx fs) → BV H y T → RelV y u →
    codeAny (model P w) A (.call (.ref f) ⟨[.ref a, u], []⟩) (fun r s' => r = .ok (.ret .notImplemented) ∧ s'.os = s.os ∧ AllBare s'.gens ∧ Un (frs outer) [] H H s.heap s'.heap ∧ HOk P w H s'.heap) s
theorem ni_run {P : Program} {w : World} {K : PySem.W.Frag} {mg : Str → Option Value} {base : Heap} {x qual : Str} {st : Stmt} {f C : Addr} {fd : FuncData} {N ps : List Str} {k : Nat} {c : Expr} {r1 els rest : List Stmt} {p1 p2 p3 : Pos} {tc : TT} (F : Fun K x qual st f fd) (S : FnScope N ps (defScope st)) (hb : Binds K fd ps []) (hps : ps.length = 2)
    (hbd : defBody st = .If c (.Return (some (.Name "NotImplemented" p1)) p2 :: r1) els p3 :: rest) (hg : (defScope st).names.lookup ("NotImplemented" : Str) = some .globalImplicit) (hm : mg "NotImplemented" = none)
    (hc : ∀ (cdv : Value) (A : Around) (outer : List Env) (s : Shared) (H : Hp) (Q : VK) (E : XK), Room k (A.deeper (envOfC qual (defScope st) s.heap.objs.size f cdv)) → PT (cxOf L2.CX0 P w K mg base N qual (defScope st) f cdv A outer s H E) c tc)
    (ht : ∀ (H : Hp) (a dx : Addr) (fs : List (Str × V)) (y : V) (T : String), H a = some (.ins C dx fs) → BV H y T → tc (L2.start N [.ref a, y]) H fun b H' => b = true ∧ H' = H) : NiRun P w K mg base (k + 1) C f := by
  obtain ⟨oc, od, kV, doc, pm, an, cdv, ct, osl, rfl, lk, hcd⟩ := F.ex
  intro A outer s H a dx fs y u T hr e0 ha hy ry
  have KX : K.In s.heap := e0.mod.kin.keeps fun b o e => (e0.bs b o e).1
  have lim : s.heap.NoLimit := e0.mod.nolimit.keeps fun b o e => (e0.bs b o e).1
  have r : Vals [V.ref a, y] [Value.ref a, u] := .cons rfl (.cons ry .nil)
  have hbs := hb s [.ref a, u] KX (by rw [List.append_nil, hps]; rfl)
  rw [List.append_nil] at hbs
  have hkind : ∀ y ∈ ps.zip [Value.ref a, u], (defScope st).names.lookup y.1 = some .local ∨ ((defScope st).names.lookup y.1 = some .cell ∧ ((cellsFrom (s.heap.objs.size + 1) (defScope st).names []).lookup y.1).isSome = true) := fun ⟨n, v⟩ hy => by
    rcases S.par n (List.of_mem_zip hy).1 with q | q
    · exact .inl q
    · exact .inr ⟨q, PySem.W.cellsFrom_some _ _ _ (.inl q)⟩
  refine codeAny_call_function hr.depth (KX _ _ lk) rfl S.co S.gen rfl (PySem.W.codeRec_of KX hcd) (hbs _ _ _ _ ?_)
  refine wpAny_newFunctionEnv_cells S.kind hkind fun env he s1 xx => ?_
  subst he
  refine ⟨lim.keeps xx.toInCall.keep, codeAny_func ?_⟩
  have I : Inv (cxOf L2.CX0 P w K mg base N qual (defScope st) f cdv A outer s H L2.E0) [] (L2.start N [.ref a, y]) H s1 := inv_start S hr.hd e0 (by rw [hps]; rfl) r xx
  rw [hbd]
  refine wpAny_execs_cons (wpAny_If (wpAny_mono ((hc cdv A outer s H (fun _ _ => False) L2.E0 (hr.deeper _)).run [] s1 _ H _ I (ht H a dx fs y T ha hy)) (fun d s2 ⟨H2, I2, e1, e2⟩ => ?_) fun e s' z => wpAny_mono z (fun _ _ q => False.elim q) fun _ _ q => False.elim q))
  subst e1
  subst e2
  show wpAny _ _ (execs (.Return (some (.Name "NotImplemented" p1)) p2 :: r1) _) _ _ _
  refine wpAny_execs_cons (wpAny_Return_some (ld_blt (u := .notImplemented) I2 hg hm (by first | rfl | decide +kernel | kernel_rfl) ?_))
  exact ⟨rfl, I2.os, I2.bare, I2.base, I2.hok⟩
structure OwnEq (P : Program) (w : World) (K : PySem.W.Frag) (mg : Str → Option Value) (base : Heap) (k : Nat) (C : Addr) (Ts : List String) (sp : Sp) : Prop where
  ex : ∃ (f : Addr) (fd : FuncData) (ps : List Str), PySem.W.findIn K (.ref C) "__eq__" = some (some (.ref f)) ∧ PySem.W.isFn K (.ref f) = true ∧ FnOk P w K mg base L2.CX0 k f fd ps sp ∧ Binds K fd ps [] ∧ NiRun P w K mg base k C f
  ne : PySem.W.findIn K (.ref C) "__ne__" = some (some (.builtin "object.__ne__"))
  ob : PySem.W.mroIn K C (.type "object") = some true
  s1 : PySem.W.subIn K (.ref C) (.type "list") = some false
  s2 : PySem.W.subIn K (.ref C) (.type "tuple") = some false
  ts : ∀ T ∈ Ts, PySem.W.subIn K (.type T) (.ref C) = some false
/-- x == y (neg: !=), x of the class at C, y too, or a value of one of the built-in types -/
def rEqO (neg : Bool) (C : Addr) (Ts : List String) (sp : Sp) : R2 := fun x y H Q => ∃ a dx fs, x = .ref a ∧ H a = some (.ins C dx fs) ∧
  ((∃ b dy gs, y = .ref b ∧ H b = some (.ins C dy gs) ∧ sp [.ref a, .ref b] H (fun v H' => ∃ r : Bool, v = .bl r ∧ Q (.bl (r != neg)) H') L2.E0) ∨ (∃ T, T ∈ Ts ∧ BV H y T ∧ Q (.bl neg) H))
section
variable {X : Cx} {k j : Nat} {C : Addr} {Ts : List String} {sp : Sp} {pins : List (Addr × Obj)} {σ : L2.St} {H : Hp} {s : Shared} {Q : VK}
theorem ni_call {A : Around} {f a dx : Addr} {fs : List (Str × V)} {y : V} {u : Value} {T : String} (F : NiRun X.prog X.w X.K X.mg X.base k C f) (hA : A.frames = X.A.frames) (hr : Room k A) (I : Inv X pins σ H s) (ha : H a = some (.ins C dx fs)) (hy : BV H y T) (ry : RelV y u) :
    wpAny (model X.prog X.w) A (call (.ref f) [.ref a, u]) (fun v s' => v = .notImplemented ∧ Inv X pins σ H s') X.xe s := by
  have e0 : Env0 X.prog X.w X.K X.mg X.base A X.stack s H := by
    have e := I.env0
    exact ⟨by rw [hA]; exact e.frames, e.mod, e.bs, e.bsz, e.funs, e.frf, e.hok, e.bare⟩
  refine wpAny_call (codeAny_mono (F A X.stack s H a dx fs y u T hr e0 ha hy ry) fun r s' hq => ?_)
  obtain ⟨rfl, h1, h2, h3, h4⟩ := hq
  refine ⟨rfl, ?_⟩
  obtain ⟨v', H', I', _, _, eH⟩ := I.after (Q := fun v' H' => v' = .non ∧ H' = H) (u := .none) ⟨V.non, H, h1, h2, h3, h4, rfl, rfl, rfl⟩
  rw [eH] at I'
  exact I'
theorem bool_bk {neg : Bool} {v : Value} {s' : Shared} (h : EP X pins σ (fun v H' => ∃ r : Bool, v = .bl r ∧ Q (.bl (r != neg)) H') v s') :
    ∃ r, v = .bool r ∧ EP X pins σ Q (.bool (r != neg)) s' := by
  obtain ⟨v', H', I', rv, r, rfl, q⟩ := h
  exact ⟨r, rv, .bl (r != neg), H', I', rfl, q⟩
theorem op_eqO (c : OwnEq X.prog X.w X.K X.mg X.base k C Ts sp) (hr : Room j X.A) (hk : k + 1 ≤ j) : OpR X (compareOp .Eq) (rEqO false C Ts sp) := by
  obtain ⟨f, fd, ps, hs, hf, F, hb, ni⟩ := c.ex
  intro pins s σ H x y v u Q I rx ry h
  obtain ⟨a, dx, fs, rfl, ha, hy⟩ := h
  cases rx
  obtain ⟨_, _, J⟩ := inst_of I ha
  have hr0 : Room k X.A := hr.mono (by omega)
  show wpAny _ _ (richCompare .Eq (.ref a) u) _ _ _
  rcases hy with ⟨b, dy, gs, rfl, hb', q⟩ | ⟨T, hT, bv, q⟩
  · cases ry
    obtain ⟨_, _, J'⟩ := inst_of I hb'
    have r2 : Vals [V.ref a, V.ref b] [Value.ref a, Value.ref b] := .cons rfl (.cons rfl .nil)
    refine rc_own (.inl rfl) hr.units0 I.kIn J J'.type (by simp [PySem.W.notFirst]) (tryEq_K I.kIn J hs hf ?_)
    refine wpAny_mono (run_fn (dvs := []) (ds := []) (E := L2.E0) F hr0 hb .nil pass0 I r2 (by rw [List.append_nil]; exact q)) (fun v s' z => ?_) fun _ _ z => z
    obtain ⟨r, er, z2⟩ := bool_bk (neg := false) (Q := Q) z
    exact .inl ⟨r, er, .inl ⟨_, rfl, z2⟩⟩
  · obtain ⟨P, kx, hP, _⟩ := kit_of I ry (bv.ty (K := X.K))
    refine rc_own (.inl rfl) hr.units0 I.kIn J (kx.ty _ _ I.kIn hP) (by simp [PySem.W.notFirst, c.ts T hT]) (tryEq_K I.kIn J hs hf ?_)
    refine wpAny_mono (ni_call ni rfl hr0 I ha bv ry) (fun v s' z => ?_) fun _ _ z => z
    obtain ⟨rfl, I'⟩ := z
    refine .inr ⟨rfl, .inr ⟨rfl, decl_of (.inl rfl) I' ha bv ry hr.units0 c.s1 c.s2 ⟨rfl, same_of I' ha bv ry ?_⟩⟩⟩
    exact ⟨.bl false, H, I', rfl, q⟩
theorem op_neO (c : OwnEq X.prog X.w X.K X.mg X.base k C Ts sp) (hr : Room j X.A) (hk : k + 1 ≤ j) : OpR X (compareOp .NotEq) (rEqO true C Ts sp) := by
  obtain ⟨f, fd, ps, hs, hf, F, hb, ni⟩ := c.ex
  intro pins s σ H x y v u Q I rx ry h
  obtain ⟨a, dx, fs, rfl, ha, hy⟩ := h
  cases rx
  obtain ⟨_, _, J⟩ := inst_of I ha
  have hr1 : Room k X.A.in1 := (hr.mono hk).in1
  have hu1 : X.A.in1.units < cLine := hr1.units0
  show wpAny _ _ (richCompare .NotEq (.ref a) u) _ _ _
  rcases hy with ⟨b, dy, gs, rfl, hb', q⟩ | ⟨T, hT, bv, q⟩
  · cases ry
    obtain ⟨_, _, J'⟩ := inst_of I hb'
    have r2 : Vals [V.ref a, V.ref b] [Value.ref a, Value.ref b] := .cons rfl (.cons rfl .nil)
    refine rc_own (.inr rfl) hr.units0 I.kIn J J'.type (by simp [PySem.W.notFirst]) (tryNe_K hu1 I.kIn J c.ne c.ob hs hf ?_)
    refine wpAny_mono (run_fnA (A := X.A.in1) (E := L2.E0) F rfl hr1 hb pass0 I r2 q) (fun v s' z => ?_) fun _ _ z => z
    obtain ⟨r, er, z2⟩ := bool_bk (neg := true) (Q := Q) z
    exact .inl ⟨r, er, .inl ⟨_, rfl, z2⟩⟩
  · obtain ⟨P, kx, hP, _⟩ := kit_of I ry (bv.ty (K := X.K))
    refine rc_own (.inr rfl) hr.units0 I.kIn J (kx.ty _ _ I.kIn hP) (by simp [PySem.W.notFirst, c.ts T hT]) (tryNe_K hu1 I.kIn J c.ne c.ob hs hf ?_)
    refine wpAny_mono (ni_call (A := X.A.in1) ni rfl hr1 I ha bv ry) (fun v s' z => ?_) fun _ _ z => z
    obtain ⟨rfl, I'⟩ := z
    refine .inr ⟨rfl, .inr ⟨rfl, decl_of (.inr rfl) I' ha bv ry hr.units0 c.s1 c.s2 ⟨rfl, same_of I' ha bv ry ?_⟩⟩⟩
    exact ⟨.bl true, H, I', rfl, q⟩
theorem r_eqO {neg : Bool} {a b dx dy : Addr} {fs gs : List (Str × V)} (h1 : H a = some (.ins C dx fs)) (h2 : H b = some (.ins C dy gs)) (q : sp [.ref a, .ref b] H (fun v H' => ∃ r : Bool, v = .bl r ∧ Q (.bl (r != neg)) H') L2.E0) : rEqO neg C Ts sp (.ref a) (.ref b) H Q := ⟨a, dx, fs, rfl, h1, .inl ⟨b, dy, gs, rfl, h2, q⟩⟩
theorem r_eqOT {neg : Bool} {a dx : Addr} {fs : List (Str × V)} {y : V} {T : String} (h1 : H a = some (.ins C dx fs)) (h2 : BV H y T) (hT : T ∈ Ts) (q : Q (.bl neg) H) : rEqO neg C Ts sp (.ref a) y H Q := ⟨a, dx, fs, rfl, h1, .inr ⟨T, hT, h2, q⟩⟩
end
end Cs

set_option Elab.async false
set_option linter.all false
set_option maxRecDepth 100000
set_option maxHeartbeats 4000000
/-! LayQ: text[::-1], text.index, max, str, int of a truth, len and str of own instances, while, pairs in a comprehension. -/
namespace Cs
open PySem PySem.Spec PyProof.Rows L2 LamX
/-! ### text[::-1] -/
theorem sliceBy_rev (w : List Nat) (u : Tok) : Txt.sliceBy (S w) none none (-1, u) = S w.reverse := by
  have h := step_rev_list (S w) u
  have e : (Txt.sliceBy (S w) none none (-1, u)).cps.toList = w.reverse := by
    rw [h, S_len]
    apply List.ext_getElem
    · simp
    · intro i h1 h2
      have hi : i < w.length := by simpa using h1
      rw [List.getElem_map, List.getElem_range, List.getElem_reverse]
      show (S w).cps.getD (w.length - 1 - i) 0 = _
      have hj : w.length - 1 - i < w.length := by omega
      simp [S, Array.getD, hj]
  generalize Txt.sliceBy (S w) none none (-1, u) = z at e
  obtain ⟨⟨l⟩⟩ := z
  have e : l = w.reverse := e
  rw [e]
def rRevS (x : V) (H : Hp) (Q : VK) : Prop := ∃ w : List Nat, x = .str (S w) ∧ w.length ≤ 1000000 ∧ Q (.str (S w.reverse)) H
def tRevS (te : TE) : TE := fun σ H Q => te σ H fun x H1 => rRevS x H1 Q
theorem pe_revS {X : Cx} {e : Expr} {te : TE} {k : Nat} {p1 p2 p3 pos : Pos} (he : PE X e te) : PE X (.Subscript e (.Slice none none (some (.UnaryOp .USub (.Constant (.int 1) k p1) p2)) p3) pos) (tRevS te) := by
  refine ⟨fun pins s σ H Q I h => ?_⟩
  refine Subscript_ (thn (he.run pins s σ H _ I h) fun v s1 ⟨x, H1, I1, r1, q1⟩ => ?_)
  obtain ⟨w, ex, hl, q⟩ := q1
  subst ex
  obtain ⟨t, rfl⟩ := r1
  have hst : PO X (some (.UnaryOp .USub (.Constant (.int 1) k p1) p2)) (tPart (tUn (rU fun i => .int (-i)) (tC (.int 1)))) := po_some (pe_un un_neg pe_int)
  refine wpAny_Slice (thn (po_none.run pins s1 σ H1 (fun o H2 => o = none ∧ H2 = H1) I1 ⟨rfl, rfl⟩) fun vl s2 ⟨l, H2, I2, pl, el, e2⟩ => ?_)
  subst el e2
  refine thn (po_none.run pins s2 σ H2 (fun o H3 => o = none ∧ H3 = H2) I2 ⟨rfl, rfl⟩) fun vu s3 ⟨u, H3, I3, pu, eu, e3⟩ => ?_
  subst eu e3
  refine thn (hst.run pins s3 σ H3 (fun o H4 => o = some (-1) ∧ H4 = H3) I3 ⟨1, rfl, -1, rfl, rfl, rfl⟩) fun vs s4 ⟨o, H4, I4, ps, eo, e4⟩ => ?_
  subst eo e4
  have I5 : Inv X pins σ H4 { s4 with heap := s4.heap.push { cls := .type "slice", data := .fields #[vl, vu, vs] } } := I4.kept (t' := s4.toks) fun b ob q => Heap.get?_push_of_some _ q
  obtain ⟨l, rfl, el⟩ := IsPart.raw pl
  obtain ⟨u, rfl, eu⟩ := IsPart.raw pu
  obtain ⟨st, rfl, es⟩ := IsPart.raw ps
  obtain rfl : l = none := by simpa using el
  obtain rfl : u = none := by simpa using eu
  obtain ⟨tk, rfl⟩ : ∃ tk, st = some (-1, tk) := by
    cases st with
    | none => cases es
    | some p =>
      obtain ⟨p1, p2⟩ := p
      have e : p1 = -1 := by simpa using es
      exact ⟨p2, by rw [e]⟩
  refine tail_any (ops := [.str (S w) t, .ref s4.heap.objs.size]) (typeIs_str _ _ _) (PySem.F.slot_str_getitem.lookup) ?_ (by with_unfolding_all rfl)
  refine wpAny_getItem_str_slice (l := none) (u := none) (st := some (-1, tk)) ⟨_, Heap.get?_push_size _ rfl, rfl, rfl⟩ rfl ?_
  have hn := sliceBy_rev w tk
  have hm : (Builtin.Str.strSliceIndices none none (-1) (S w).length).filterMap ((S w).cps[·]?) = w.reverse := by
    have z := congrArg (fun x : Str => x.cps.toList) hn
    unfold Txt.sliceBy slicePicked at z
    rw [if_neg (by simp)] at z
    simpa using z
  show Made.post (if ((-1 : Int) == 1 && (Builtin.Str.strSliceIndices none none (-1) (S w).length).length == (S w).length) = true then Made.val (.str (S w) t)
    else Made.str ⟨((Builtin.Str.strSliceIndices none none (-1) (S w).length).filterMap ((S w).cps[·]?)).toArray⟩) (EP X pins σ Q) _
  rw [if_neg (by simp), hm]
  exact ⟨by show (S w.reverse).length ≤ sizeLine; rw [S_len, List.length_reverse, sizeLine_eq]; omega, .str _, H4, I5.tok _, ⟨_, rfl⟩, q⟩
/-! ### text.index -/
def plc (c : Nat) : Nat := lets.idxOf c
def rIdx8 : V → List V → Hp → VK → Prop := fun x xs H Q => ∃ c, x = .str (S lets) ∧ xs = [.str (S [c])] ∧ isL c = true ∧ Q (.int (plc c : Nat)) H
theorem occ8 {c : Nat} (h : isL c = true) : ∃ rest, Builtin.Str.occurrences (S lets) (S [c]) 0 (S lets).length 1 = plc c :: rest := by
  rcases isL_cases h with rfl | rfl | rfl | rfl | rfl | rfl | rfl | rfl <;> exact ⟨[], by decide +kernel⟩
theorem mb_sindex {X : Cx} : MtR X "str.index" rIdx8 := by
  intro pins s σ H x xs v us Q I rx rs h
  obtain ⟨c, rfl, rfl, hc, q⟩ := h
  obtain ⟨rest, e⟩ := occ8 hc
  exact mt_sindex pins s σ H _ _ v us Q I rx rs ⟨_, _, _, _, rfl, rfl, e, q⟩
theorem plc_lt {c : Nat} (h : isL c = true) : plc c < 8 := by
  rcases isL_cases h with rfl | rfl | rfl | rfl | rfl | rfl | rfl | rfl <;> decide
theorem at_und {c : Nat} (h : isL c = true) : atI lets (((plc c : Nat) + 4 : Int) % 8) = some (und c) := by
  rcases isL_cases h with rfl | rfl | rfl | rfl | rfl | rfl | rfl | rfl <;> decide
theorem at_und' {c : Nat} (h : isL c = true) : atI [97, 98, 99, 100, 65, 66, 67, 68] ((plc c : Nat) : Int) = some (und c) := by
  rcases isL_cases h with rfl | rfl | rfl | rfl | rfl | rfl | rfl | rfl <;> decide
/-! ### int * int, text * int, of any size -/
def rMulB : R2 := fun a b H Q => rI IntMulOk (fun i j => .int (i * j)) a b H Q ∨ rRepS a b H Q
theorem op_mulB {X : Cx} : OpR X (binaryOp .Mult) rMulB := (opI fun _ _ _ _ _ _ _ hc q => mul_int q hc).or op_repS
theorem r_mI {H : Hp} {Q : VK} {a b : Int} (c : CMulW a b) (q : Q (.int (a * b)) H) : rMulB (.int a) (.int b) H Q := .inl ⟨a, b, rfl, rfl, c.ok, q⟩
theorem r_mL {H : Hp} {Q : VK} {a b : Int} (c : Builtin.Int.intBits a ≤ 64) (q : Q (.int (a * b)) H) : rMulB (.int a) (.int b) H Q := .inl ⟨a, b, rfl, rfl, .of_left c, q⟩
theorem r_mS {H : Hp} {Q : VK} {w : List Nat} {n : Nat} (hw : w.length ≤ 1000) (hn : n ≤ 10000) (q : Q (.str (S (List.replicate n w).flatten)) H) : rMulB (.str (S w)) (.int (n : Nat)) H Q := .inr ⟨w, n, rfl, rfl, hw, hn, q⟩
/-! ### built-in calls -/
def rMax2 : List V → Hp → VK → Prop := fun xs H Q => ∃ i j, xs = [.int i, .int j] ∧ Q (.int (if j > i then j else i)) H
def rStrS : List V → Hp → VK → Prop := fun xs H Q => ∃ a, xs = [.str a] ∧ Q (.str a) H
structure OwnF (P : Program) (w : World) (K : PySem.W.Frag) (mg : Str → Option Value) (base : Heap) (k : Nat) (C : Addr) (m : Str) (sp : Sp) : Prop where
  ex : ∃ (f : Addr) (fd : FuncData) (ps : List Str), PySem.W.findIn K (.ref C) m = some (some (.ref f)) ∧ PySem.W.isFn K (.ref f) = true ∧ FnOk P w K mg base L2.CX0 k f fd ps sp ∧ Binds K fd ps []
def rLenO (C : Addr) (sp : Sp) : List V → Hp → VK → Prop := fun xs H Q => ∃ a dx fs, xs = [.ref a] ∧ H a = some (.ins C dx fs) ∧ sp [.ref a] H (fun v H' => ∃ n : Nat, v = .int (n : Nat) ∧ n < 2 ^ 63 ∧ Q (.int (n : Nat)) H') L2.E0
def rStrO (C : Addr) (sp : Sp) : List V → Hp → VK → Prop := fun xs H Q => ∃ a dx fs, xs = [.ref a] ∧ H a = some (.ins C dx fs) ∧ sp [.ref a] H (fun v H' => ∃ z, v = .str z ∧ Q (.str z) H') L2.E0
section
variable {X : Cx} {k j : Nat} {C : Addr} {sp : Sp}
theorem call_maxB (hc : X.calm = true) : CallR X (.builtin "max") rMax2 := call_max2 hc
theorem call_strB : CallR X (.type "str") rStrS := SkE.call_str_str
theorem call_lenO (c : OwnF X.prog X.w X.K X.mg X.base k C "__len__" sp) (hr : Room j X.A) (hk : k + 1 ≤ j) : CallR X (.builtin "len") (rLenO C sp) := by
  obtain ⟨f, fd, ps, hs, hf, F, hb⟩ := c.ex
  exact call_lenOwn F (hr.mono hk) hs hf hb pass0
theorem call_strO (c : OwnF X.prog X.w X.K X.mg X.base k C "__str__" sp) (hr : Room j X.A) (hk : k + 2 ≤ j) : CallR X (.type "str") (rStrO C sp) := by
  obtain ⟨f, fd, ps, hs, hf, F, hb⟩ := c.ex
  exact call_strOwn F (hr.mono hk) hs hf hb pass0
end
section
variable {K : PySem.W.Frag} {σ : L2.St} {H : Hp} {Q : VK} {a : Addr} {xs : List V} {De : Ends}
theorem r_intB {b : Bool} (q : Q (.int (if b then 1 else 0)) H) : rInt1 [.bl b] H Q := .inr ⟨b, rfl, q⟩
theorem r_max {i j : Int} (q : Q (.int (if j > i then j else i)) H) : rMax2 [.int i, .int j] H Q := ⟨i, j, rfl, q⟩
theorem r_strS {a : Str} (q : Q (.str a) H) : rStrS [.str a] H Q := ⟨a, rfl, q⟩
theorem r_idx8 {c : Nat} (h : isL c = true) (q : Q (.int (plc c : Nat)) H) : rIdx8 (.str (S lets)) [.str (S [c])] H Q := ⟨c, rfl, rfl, h, q⟩
theorem r_revS {te : TE} (q : te σ H fun x H1 => rRevS x H1 Q) : tRevS te σ H Q := q
theorem q_revS {w : List Nat} (hl : w.length ≤ 1000000) (q : Q (.str (S w.reverse)) H) : rRevS (.str (S w)) H Q := ⟨w, rfl, hl, q⟩
/-! ### while -/
theorem r_wh {c : TT} {tb : TS} (Pv : Nat → L2.St → Hp → Prop) (m : Nat) (h0 : Pv m σ H) (hs : ∀ m σ H, Pv m σ H → c σ H fun b H1 => if b = true then ∃ N : L2.St → Hp → Prop, (∀ σ' H', N σ' H' → ∃ m', m' < m ∧ Pv m' σ' H') ∧ tb { De with nx := N, ct := N, bk := De.nx } σ H1 else De.nx σ H1) : tWhile c tb De σ H :=
  ⟨Pv, ⟨m, h0⟩, hs⟩
theorem r_wN {tb : TS} {Pv : Nat → L2.St → Hp → Prop} {m : Nat} {nx bk ct : L2.St → Hp → Prop} {rt : VK} (q : tb (Ends.mk (fun σ' H' => ∃ m', m' < m ∧ Pv m' σ' H') rt nx (fun σ' H' => ∃ m', m' < m ∧ Pv m' σ' H')) σ H) :
    ∃ N : L2.St → Hp → Prop, (∀ σ' H', N σ' H' → ∃ m', m' < m ∧ Pv m' σ' H') ∧ tb { Ends.mk nx rt bk ct with nx := N, ct := N, bk := nx } σ H := ⟨_, fun _ _ h => h, q⟩
end
/-! ### readings -/
theorem r_aug {σ : L2.St} {H : Hp} {i : Nat} {te : TE} {ti : TIp} {De : Ends} {x : V} (h : σ[i]? = some (some x)) (q : te σ H fun y H1 => ti x y H1 fun z H2 => De.nx (σ.set i (some z)) H2) : tAug i te ti De σ H := ⟨x, h, q⟩
theorem r_par {σ : L2.St} {H : Hp} {i j : Nat} {ta : TA} {De : Ends} (q : ta σ H fun vs H1 => ∃ v w, vs = [v, w] ∧ De.nx ((σ.set i (some v)).set j (some w)) H1) : tPar i j ta De σ H := q
theorem r_vw {x y : V} {A : V → V → Prop} (q : A x y) : ∃ v w, [x, y] = [v, w] ∧ A v w := ⟨x, y, rfl, q⟩
theorem r_ipI {H : Hp} {Q : VK} {f : Int → Int → Int} {i j : Int} (q : Q (.int (f i j)) H) : ipI f (.int i) (.int j) H Q := ⟨i, j, rfl, rfl, q⟩
def rMetA (C : Addr) (m : Str) (sp : Sp) (E : XK) (t : TA) (σ : L2.St) (x : V) (H1 : Hp) (Q : VK) : Prop := ∃ a dx fs, x = .ref a ∧ H1 a = some (.ins C dx fs) ∧ fs.lookup m = none ∧ t σ H1 fun vs H2 => sp (.ref a :: vs) H2 Q E
section
variable {K : PySem.W.Frag} {σ : L2.St} {H : Hp} {Q : VK} {a C dx : Addr} {fs : List (Str × V)} {ta : TE} {t : TA} {sp : Sp} {E : XK} {m : Str}
theorem r_sta (q : t σ H fun vs H2 => sp vs H2 Q E) : tSta C sp E (tC (.ref C)) t σ H Q := ⟨rfl, q⟩
theorem r_metA (q : ta σ H fun x H1 => rMetA C m sp E t σ x H1 Q) : tMetA C m sp E ta t σ H Q := q
theorem q_metA (h : H a = some (.ins C dx fs)) (l : fs.lookup m = none) (q : t σ H fun vs H2 => sp (.ref a :: vs) H2 Q E) : rMetA C m sp E t σ (.ref a) H Q := ⟨a, dx, fs, rfl, h, l, q⟩
theorem r_mK1 {k : Str} {tk : TA} (q : tk σ H fun zs H2 => zs.length = 1 ∧ rMake C sp E zs H2 Q) : tMakeK C 0 [k].length sp (fun vs zs => vs ++ zs) E tNil tk σ H Q := by
  show tk σ H fun zs H2 => _
  have e : (fun zs H2 => zs.length = 1 ∧ rMake C sp E zs H2 Q) = fun (zs : List V) (H2 : Hp) => ([] : List V).length = 0 ∧ zs.length = 1 ∧ ∀ x dx, H2 x = none → H2 dx = none → dx ≠ x → sp ((fun vs zs => vs ++ zs) [V.ref x] zs) (upd (upd H2 dx (.own x)) x (.ins C dx [])) (fun v H3 => v = .non ∧ Q (.ref x) H3) E := by
    funext zs H2
    exact propext ⟨fun h => ⟨rfl, h.1, h.2⟩, fun h => ⟨h.2.1, h.2.2⟩⟩
  rw [e] at q
  exact q
theorem r_mD {dvs : List V} (q : rMake C sp E dvs H Q) : tMake C sp dvs E tNil σ H Q := q
theorem r_iOwn {sp : Nat → Sp} {R : It → Hp → Prop} (q : ta σ H fun x H1 => rOwnIt C sp E R x H1) : iOwn C sp E ta σ H R := q
theorem q_inv (h : H a = some (.ins C dx fs)) (q : sp [.ref a] H Q E) : rInv C sp E (.ref a) H Q := ⟨a, dx, fs, rfl, h, q⟩
theorem q_lenO (h : H a = some (.ins C dx fs)) (q : sp [.ref a] H (fun v H' => ∃ n : Nat, v = .int (n : Nat) ∧ n < 2 ^ 63 ∧ Q (.int (n : Nat)) H') L2.E0) : rLenO C sp [.ref a] H Q := ⟨a, dx, fs, rfl, h, q⟩
theorem q_strO (h : H a = some (.ins C dx fs)) (q : sp [.ref a] H (fun v H' => ∃ z, v = .str z ∧ Q (.str z) H') L2.E0) : rStrO C sp [.ref a] H Q := ⟨a, dx, fs, rfl, h, q⟩
end
/-- [.. for a, b in pairs] -/
theorem gUp2 {K : PySem.W.Frag} {σ : L2.St} {H : Hp} {p : Addr} {a b : V} {i j : Nat} {QS : L2.St → Hp → Prop} (h : SqT K H p [a, b]) (q : QS ((σ.set i (some a)).set j (some b)) H) : gTup K 2 (gCons (gName i) (gCons (gName j) gNil)) (.ref p) σ H QS := r_up2 h rfl q
theorem wipe2 {σ : L2.St} {i j : Nat} {x y : Option V} : wipe ((((wipe σ [i, j]).set i x).set j y)) [i, j] = wipe σ [i, j] := by
  show (((((σ.set j none).set i none).set i x).set j y).set j none).set i none = (σ.set j none).set i none
  apply List.ext_getElem?
  intro n
  simp only [List.getElem?_set, List.length_set]
  by_cases h1 : j = n <;> by_cases h2 : i = n <;> simp [h1, h2] <;> split <;> simp_all
theorem lcP {K : PySem.W.Frag} {J : It} {tt : TT} {te : TE} {σ : L2.St} {ps : List (V × V)} {its : List V} {G : Hp → Prop} {i k : Nat} {H1 : Hp} {Dl : Addr} {Qd : Hp → Prop} (w : Walk J its.length G (YAt its)) (hl : its.length = ps.length) (Pv : Nat → List V → Hp → Prop) (h0 : Pv 0 [] (upd H1 Dl (.lst []))) (hG : ∀ j acc H, j ≤ its.length → Pv j acc H → H Dl = some (.lst acc) → G H)
    (ht : ∀ j x p acc H, its[j]? = some x → ps[j]? = some p → Pv j acc H → ∃ q, x = .ref q ∧ SqT K H q [p.1, p.2])
    (hs : ∀ j p acc H, ps[j]? = some p → Pv j acc H → H Dl = some (.lst acc) → tt ((((σ.set k none).set i none).set i (some p.1)).set k (some p.2)) H fun b H3 =>
      if b = true then te ((((σ.set k none).set i none).set i (some p.1)).set k (some p.2)) H3 fun y H4 => ∃ acc, H4 Dl = some (.lst acc) ∧ acc.length < sizeLine ∧ ∃ a2, Pv (j + 1) a2 (upd H4 Dl (.lst (acc ++ [y]))) ∧ (upd H4 Dl (.lst (acc ++ [y]))) Dl = some (.lst a2) else ∃ a2, Pv (j + 1) a2 H3 ∧ H3 Dl = some (.lst a2))
    (hd : ∀ acc H, Pv its.length acc H → H Dl = some (.lst acc) → Qd H) : LcW J (gTup K 2 (gCons (gName i) (gCons (gName k) gNil))) tt te [i, k] σ H1 Dl Qd := by
  refine lc_it w (fun j H => ∃ acc, Pv j acc H ∧ H Dl = some (.lst acc)) ⟨[], h0, upd_same⟩ (fun j H hj ⟨acc, p, e⟩ => hG j acc H hj p e) ?_ (fun H ⟨acc, p, e⟩ => hd acc H p e)
  rintro j x H H' hj ⟨acc, p, e⟩ ⟨rfl, hx⟩
  have hj2 : j < ps.length := by omega
  obtain ⟨q, rfl, hq⟩ := ht j x ps[j] acc _ hx (by simp [hj2]) p
  refine gUp2 hq ⟨wipe2, ?_⟩
  exact hs j ps[j] acc _ (by simp [hj2]) p e
end Cs

set_option Elab.async false
set_option linter.all false
set_option maxRecDepth 100000
set_option maxHeartbeats 4000000
/-! LayX: products of words, undoings, words put together. -/
namespace Cs
open PySem PySem.Spec PyProof.Rows L2
theorem allL_app {a b : List Nat} (ha : AllL a) (hb : AllL b) : AllL (a ++ b) := fun c hc => (List.mem_append.mp hc).elim (ha c) (hb c)
theorem allL_take {a : List Nat} (ha : AllL a) (n : Nat) : AllL (a.take n) := fun c hc => ha c (List.mem_of_mem_take hc)
theorem allL_drop {a : List Nat} (ha : AllL a) (n : Nat) : AllL (a.drop n) := fun c hc => ha c (List.mem_of_mem_drop hc)
theorem allL_one {c : Nat} (h : isL c = true) : AllL [c] := fun d hd => by rw [List.mem_singleton.mp hd]; exact h
/-- the undoing of a row -/
def back (w : List Nat) : List Nat := (w.map und).reverse
theorem back_nil : back [] = [] := rfl
theorem back_cons (c : Nat) (w : List Nat) : back (c :: w) = back w ++ [und c] := by simp [back]
theorem back_app (a b : List Nat) : back (a ++ b) = back b ++ back a := by simp [back]
theorem back_len (w : List Nat) : (back w).length = w.length := by simp [back]
theorem back_rev (w : List Nat) : w.reverse.map und = back w := by simp [back, List.map_reverse]
theorem allL_back {w : List Nat} (h : AllL w) : AllL (back w) := fun c hc => by
  obtain ⟨d, hd, rfl⟩ := List.mem_map.mp (List.mem_reverse.mp hc)
  exact und_L (h d hd)
theorem back_back {w : List Nat} (h : AllL w) : back (back w) = w := by
  unfold back
  rw [List.map_reverse, List.reverse_reverse, List.map_map]
  conv => rhs; rw [← List.map_id w]
  exact List.map_congr_left fun c hc => und_und (h c hc)
/-- b ++ back b ++ r comes to r -/
theorem val_back {a b r : List Nat} (hb : AllL b) (hr : AllL r) : val (a ++ b ++ back b ++ r) = val (a ++ r) := by
  induction b using snocInd generalizing a r with
  | h0 => simp [back]
  | h1 v c ih =>
    have hc := hb c (by simp)
    have hv : AllL v := fun d hd => hb d (by simp [hd])
    rw [back_app]
    have e : a ++ (v ++ [c]) ++ (back [c] ++ back v) ++ r = (a ++ v) ++ c :: und c :: (back v ++ r) := by simp [back]
    rw [e, val_strike hc (allL_app (allL_back hv) hr)]
    have z := ih (a := a) (r := r) hv hr
    simpa [List.append_assoc] using z
theorem val_back1 {b : List Nat} (hb : AllL b) : val (b ++ back b) = [] := by
  have z := val_back (a := []) (r := []) hb (fun c hc => by cases hc)
  simpa [val] using z
theorem val_back2 {b : List Nat} (hb : AllL b) : val (back b ++ b) = [] := by
  have z := val_back1 (allL_back hb)
  rw [back_back hb] at z
  exact z
/-- what is put behind a word that ends so -/
theorem good_app : ∀ {b a : List Nat}, Good a → Good b → (∀ c d, lastL a = [c] → b.head? = some d → d ≠ und c) → Good (a ++ b) := by
  intro b
  induction b using snocInd with
  | h0 => intro a ha _ _; simpa using ha
  | h1 v d ih =>
    intro a ha hb hn
    obtain ⟨hv, hd, hl⟩ := good_snoc.mp hb
    rw [← List.append_assoc]
    have hav : Good (a ++ v) := ih ha hv fun c x h1 h2 => hn c x h1 (by
      cases v with
      | nil => cases h2
      | cons y v => exact h2)
    refine good_snoc.mpr ⟨hav, hd, ?_⟩
    by_cases e : v = []
    · subst e
      rw [List.append_nil]
      by_cases ea : a = []
      · subst ea
        simp [lastL]
      · obtain ⟨u, c, rfl⟩ := snoc_of ea
        rw [lastL_snoc]
        intro z
        exact hn c d (lastL_snoc u c) rfl (by simpa using z)
    · obtain ⟨u, c, rfl⟩ := snoc_of e
      rw [← List.append_assoc, lastL_snoc]
      rw [lastL_snoc] at hl
      exact hl
theorem good_drop {w : List Nat} (h : Good w) (n : Nat) : Good (w.drop n) := by
  induction n generalizing w with
  | zero => exact h
  | succ n ih =>
    cases w with
    | nil => exact h
    | cons c r =>
      rw [List.drop_succ_cons]
      rw [good_gd, gd_cons] at h
      exact ih (good_gd.mpr (gd_tail h.2))
theorem good_back {w : List Nat} (h : Good w) : Good (back w) := by
  induction w with
  | nil => exact good_nil
  | cons c r ih =>
    have hr : Good r := by
      have := good_drop h 1
      simpa using this
    have hL := good_L h
    rw [back_cons]
    refine good_snoc.mpr ⟨ih hr, und_L (hL c List.mem_cons_self), ?_⟩
    cases r with
    | nil => simp [back, lastL]
    | cons d r =>
      rw [back_cons, lastL_snoc]
      intro z
      have hd : isL d = true := hL d (by simp)
      have e : und c = d := by
        have z : und c = und (und d) := by simpa using z
        rw [und_und hd] at z
        exact z
      rw [good_gd, gd_cons] at h
      have h2 := h.2
      simp only [gd, badC, Bool.and_eq_true, Bool.not_eq_true', Bool.or_eq_false_iff, decide_eq_false_iff_not, List.map_cons, List.map_nil] at h2
      exact h2.1.2 (by rw [e])
/-- one letter more -/
theorem val_snoc {v : List Nat} {c : Nat} (hv : Good v) (hc : isL c = true) : val (v ++ [c]) = if lastL v = [und c] then v.dropLast else v ++ [c] := by
  by_cases h : lastL v = [und c]
  · rw [if_pos h]
    have hne : v ≠ [] := fun e => by rw [e] at h; cases h
    obtain ⟨u, d, rfl⟩ := snoc_of hne
    rw [lastL_snoc] at h
    have e : d = und c := by simpa using h
    subst e
    rw [List.dropLast_concat]
    have z := val_strike (a := u) (b := []) (und_L hc) (fun c hc => by cases hc)
    rw [und_und hc, List.append_nil, val_self (good_snoc.mp hv).1] at z
    have e : u ++ [und c] ++ [c] = u ++ und c :: c :: [] := by simp
    rw [e]
    exact z
  · rw [if_neg h]
    refine val_self (good_snoc.mpr ⟨hv, hc, fun z => h ?_⟩)
    by_cases e : v = []
    · subst e; cases z
    · obtain ⟨u, d, rfl⟩ := snoc_of e
      have hd : isL d = true := good_L hv d (by simp)
      rw [lastL_snoc] at z ⊢
      have z : c = und d := by simpa using z
      rw [z, und_und hd]
theorem val_nilr {b : List Nat} : val b = val ([] ++ b) := rfl
theorem val_step {w : List Nat} {i c : Nat} (hw : AllL w) (h : w[i]? = some c) : val (w.take (i + 1)) = val (val (w.take i) ++ [c]) := by
  rw [take_snoc h]
  have hc := hw c (List.mem_of_getElem? h)
  have z := val_vals (a := w.take i) (b := [c]) (allL_take hw i) (allL_one hc)
  rw [← z]
  rfl
/-- the product -/
theorem val_prod {a b : List Nat} (ha : Good a) (hb : Good b) : val (a ++ b) = val (a ++ b) := rfl
theorem val_assoc {a b c : List Nat} (ha : AllL a) (hb : AllL b) (hc : AllL c) : val (val (a ++ b) ++ c) = val (a ++ val (b ++ c)) := by
  have e1 : val (val (a ++ b) ++ c) = val (a ++ b ++ c) := by
    have z := val_vals (a := val (a ++ b)) (b := c) (good_L (val_good (allL_app ha hb))) hc
    rw [val_self (val_good (allL_app ha hb))] at z
    have z2 := val_vals (a := a ++ b) (b := c) (allL_app ha hb) hc
    rw [← z, z2]
  have e2 : val (a ++ val (b ++ c)) = val (a ++ (b ++ c)) := by
    have z := val_vals (a := a) (b := val (b ++ c)) ha (good_L (val_good (allL_app hb hc)))
    rw [val_self (val_good (allL_app hb hc))] at z
    have z2 := val_vals (a := a) (b := b ++ c) ha (allL_app hb hc)
    rw [← z, z2]
  rw [e1, e2, List.append_assoc]
theorem val_left {a b : List Nat} (ha : AllL a) (hb : AllL b) : val (val a ++ b) = val (a ++ b) := by
  have z := val_vals (a := val a) (b := b) (good_L (val_good ha)) hb
  rw [val_self (val_good ha)] at z
  rw [← z, val_vals ha hb]
theorem val_right {a b : List Nat} (ha : AllL a) (hb : AllL b) : val (a ++ val b) = val (a ++ b) := by
  have z := val_vals (a := a) (b := val b) ha (good_L (val_good hb))
  rw [val_self (val_good hb)] at z
  rw [← z, val_vals ha hb]
theorem val_len (w : List Nat) : (val w).length ≤ w.length := by
  induction w with
  | nil => exact Nat.le_refl _
  | cons c w ih =>
    rw [val_cons]
    cases e : val w with
    | nil => simp [act]
    | cons d r =>
      rw [e] at ih
      by_cases h : und c = d
      · subst h; rw [act_hit]; simp at ih ⊢; omega
      · rw [act_miss h]; simp at ih ⊢; omega
/-- the undoing of what a text comes to -/
theorem val_bk {w : List Nat} (h : AllL w) : val (back w) = back (val w) := by
  have g1 := val_good h
  have gb := good_back g1
  have hL := good_L g1
  have e1 : val (back w ++ val w) = [] := by rw [val_right (allL_back h) h, val_back2 h]
  have z := val_assoc (a := back w) (b := val w) (c := back (val w)) (allL_back h) hL (allL_back hL)
  rw [e1, val_back1 hL, List.nil_append, List.append_nil, val_self gb] at z
  exact z.symm
theorem back_inj {a b : List Nat} (ha : AllL a) (hb : AllL b) (h : back a = back b) : a = b := by rw [← back_back ha, ← back_back hb, h]
end Cs

set_option Elab.async false
set_option linter.all false
set_option maxRecDepth 100000
set_option maxHeartbeats 4000000
/-! LayY: rows said over and over; rows that commute; the least unit of a row. -/
namespace Cs
open PySem PySem.Spec PyProof.Rows L2
namespace Rp
def rep (n : Nat) (u : List Nat) : List Nat := (List.replicate n u).flatten
theorem rep_zero (u : List Nat) : rep 0 u = [] := rfl
theorem rep_succ (n : Nat) (u : List Nat) : rep (n + 1) u = u ++ rep n u := by simp [rep, List.replicate_succ]
theorem rep_one (u : List Nat) : rep 1 u = u := by rw [rep_succ, rep_zero, List.append_nil]
theorem rep_add (i j : Nat) (u : List Nat) : rep (i + j) u = rep i u ++ rep j u := by
  induction i with
  | zero => simp [rep_zero]
  | succ i ih => rw [Nat.succ_add, rep_succ, ih, rep_succ, List.append_assoc]
theorem rep_snoc (n : Nat) (u : List Nat) : rep (n + 1) u = rep n u ++ u := by rw [rep_add, rep_one]
theorem rep_mul (i j : Nat) (u : List Nat) : rep i (rep j u) = rep (i * j) u := by
  induction i with
  | zero => simp [rep_zero]
  | succ i ih => rw [rep_succ, ih, Nat.succ_mul, Nat.add_comm (i * j) j, rep_add]
theorem rep_len (n : Nat) (u : List Nat) : (rep n u).length = n * u.length := by
  induction n with
  | zero => simp [rep_zero]
  | succ n ih => rw [rep_succ, List.length_append, ih, Nat.succ_mul, Nat.add_comm]
theorem rep_nil (n : Nat) : rep n [] = [] := List.eq_nil_of_length_eq_zero (by rw [rep_len]; simp)
theorem comm_pow : ∀ (n : Nat) (u v : List Nat), u.length + v.length ≤ n → u ++ v = v ++ u → ∃ t i j, u = rep i t ∧ v = rep j t := by
  intro n
  induction n with
  | zero =>
    intro u v hl _
    have hu : u = [] := List.eq_nil_of_length_eq_zero (by omega)
    have hv : v = [] := List.eq_nil_of_length_eq_zero (by omega)
    exact ⟨[], 0, 0, by rw [hu]; rfl, by rw [hv]; rfl⟩
  | succ n ih =>
    intro u v hl h
    by_cases hu : u = []
    · exact ⟨v, 0, 1, by rw [hu]; rfl, (rep_one v).symm⟩
    by_cases hv : v = []
    · exact ⟨u, 1, 0, (rep_one u).symm, by rw [hv]; rfl⟩
    have lu : 0 < u.length := List.length_pos_iff.mpr hu
    have lv : 0 < v.length := List.length_pos_iff.mpr hv
    by_cases hle : u.length ≤ v.length
    · obtain ⟨v', rfl⟩ : ∃ v', v = u ++ v' := by
        have p1 : u <+: v ++ u := ⟨v, h⟩
        have p2 : v <+: v ++ u := List.prefix_append _ _
        obtain ⟨v', e⟩ := List.prefix_of_prefix_length_le p1 p2 hle
        exact ⟨v', e.symm⟩
      rw [List.append_assoc] at h
      have h2 := List.append_cancel_left h
      rw [List.length_append] at hl
      obtain ⟨t, i, j, e1, e2⟩ := ih u v' (by omega) h2
      exact ⟨t, i, i + j, e1, by rw [rep_add, ← e1, ← e2]⟩
    · obtain ⟨u', rfl⟩ : ∃ u', u = v ++ u' := by
        have p1 : v <+: u ++ v := ⟨u, h.symm⟩
        have p2 : u <+: u ++ v := List.prefix_append _ _
        obtain ⟨u', e⟩ := List.prefix_of_prefix_length_le p1 p2 (by omega)
        exact ⟨u', e.symm⟩
      rw [List.append_assoc] at h
      have h2 := List.append_cancel_left h
      rw [List.length_append] at hl
      obtain ⟨t, i, j, e1, e2⟩ := ih u' v (by omega) h2
      exact ⟨t, j + i, j, by rw [rep_add, ← e1, ← e2], e2⟩
/-- c is so many times its first d letters -/
def unitB (c : List Nat) (d : Nat) : Bool := decide (c.length % d = 0) && decide (c = rep (c.length / d) (c.take d))
theorem unit_all (c : List Nat) : unitB c c.length = true := by
  unfold unitB
  by_cases h : c = []
  · subst h; rfl
  · have : 0 < c.length := List.length_pos_iff.mpr h
    rw [Nat.mod_self, Nat.div_self this, List.take_length, rep_one]
    simp
/-- c's least unit, by search from d on -/
def perF (c : List Nat) : Nat → Nat → Nat
  | 0, d => d
  | n + 1, d => if unitB c d = true then d else perF c n (d + 1)
def per (c : List Nat) : Nat := perF c (c.length - 1) 1
theorem perF_spec (c : List Nat) : ∀ (n d : Nat), d + n = c.length → unitB c (perF c n d) = true ∧ d ≤ perF c n d ∧ perF c n d ≤ c.length ∧ ∀ k, d ≤ k → k < perF c n d → unitB c k = false
  | 0, d, h => by
    have e : d = c.length := by omega
    unfold perF
    exact ⟨by rw [e]; exact unit_all c, Nat.le_refl _, by omega, fun k h1 h2 => absurd h1 (by omega)⟩
  | n + 1, d, h => by
    unfold perF
    by_cases hu : unitB c d = true
    · rw [if_pos hu]
      exact ⟨hu, Nat.le_refl _, by omega, fun k h1 h2 => absurd h1 (by omega)⟩
    · rw [if_neg hu]
      obtain ⟨h1, h2, h3, h4⟩ := perF_spec c n (d + 1) (by omega)
      refine ⟨h1, by omega, h3, fun k k1 k2 => ?_⟩
      by_cases e : k = d
      · subst e
        simpa using hu
      · exact h4 k (by omega) k2
theorem per_spec {c : List Nat} (hc : c ≠ []) : unitB c (per c) = true ∧ 1 ≤ per c ∧ per c ≤ c.length ∧ ∀ k, 1 ≤ k → k < per c → unitB c k = false := by
  have : 0 < c.length := List.length_pos_iff.mpr hc
  exact perF_spec c (c.length - 1) 1 (by omega)
/-- the least unit -/
def prim (c : List Nat) : List Nat := c.take (per c)
theorem prim_len {c : List Nat} (hc : c ≠ []) : (prim c).length = per c := by
  unfold prim
  rw [List.length_take]
  have := (per_spec hc).2.2.1
  omega
theorem prim_rep {c : List Nat} (hc : c ≠ []) : c = rep (c.length / per c) (prim c) := by
  have h := (per_spec hc).1
  unfold unitB at h
  rw [Bool.and_eq_true] at h
  exact of_decide_eq_true h.2
theorem prim_dvd {c : List Nat} (hc : c ≠ []) : c.length % per c = 0 := by
  have h := (per_spec hc).1
  unfold unitB at h
  rw [Bool.and_eq_true] at h
  exact of_decide_eq_true h.1
theorem prim_ne {c : List Nat} (hc : c ≠ []) : prim c ≠ [] := fun z => by
  have h := prim_len hc
  rw [z] at h
  have := (per_spec hc).2.1
  simp at h
  omega
theorem unit_of {s : List Nat} {i : Nat} (hi : 0 < i) (hs : s ≠ []) : unitB (rep i s) s.length = true := by
  have : 0 < s.length := List.length_pos_iff.mpr hs
  unfold unitB
  rw [rep_len, Nat.mul_mod_left, Nat.mul_div_cancel _ this]
  have e : (rep i s).take s.length = s := by
    obtain ⟨j, rfl⟩ : ∃ j, i = j + 1 := ⟨i - 1, by omega⟩
    rw [rep_succ, List.take_append_of_le_length (Nat.le_refl _), List.take_length]
  rw [e]
  simp
/-- every unit is so many times the least one -/
theorem prim_min {c s : List Nat} {i : Nat} (hc : c ≠ []) (h : c = rep i s) : ∃ e, 0 < e ∧ s = rep e (prim c) := by
  have hu := prim_rep hc
  have hn := prim_ne hc
  have hi : 0 < i := Nat.pos_of_ne_zero fun z => hc (by rw [h, z]; rfl)
  have hs : s ≠ [] := fun z => hc (by rw [h, z, rep_nil])
  have hk : 0 < c.length / per c := Nat.div_pos (per_spec hc).2.2.1 (per_spec hc).2.1
  generalize hkd : c.length / per c = k at hu hk
  generalize hud : prim c = u at hu hn
  have pre : ∀ {x : List Nat} {m : Nat}, 0 < m → c = rep m x → x <+: c ∧ x ++ c = c ++ x := fun {x m} hm e => by
    obtain ⟨m', rfl⟩ : ∃ m', m = m' + 1 := ⟨m - 1, by omega⟩
    refine ⟨⟨rep m' x, by rw [← rep_succ, ← e]⟩, ?_⟩
    rw [e]
    rw [← rep_succ, rep_snoc]
  obtain ⟨p1, q1⟩ := pre hi h
  obtain ⟨p2, q2⟩ := pre hk hu
  have both : ∀ {x y : List Nat}, x <+: c → y <+: c → x ++ c = c ++ x → x ++ y <+: c ++ c := fun {x y} px py q => by
    have a1 : x ++ y <+: x ++ c := (List.prefix_append_right_inj x).mpr py
    rw [q] at a1
    exact a1.trans ((List.prefix_append_right_inj c).mpr px)
  have b1 := both p1 p2 q1
  have b2 := both p2 p1 q2
  have e : s ++ u = u ++ s := by
    have h1 := List.prefix_of_prefix_length_le b1 b2 (by rw [List.length_append, List.length_append]; omega)
    exact h1.eq_of_length (by rw [List.length_append, List.length_append]; omega)
  obtain ⟨t, a, b, e1, e2⟩ := comm_pow _ s u (Nat.le_refl _) e
  have hb : 0 < b := Nat.pos_of_ne_zero fun z => hn (by rw [e2, z]; rfl)
  have ht : t ≠ [] := fun z => hn (by rw [e2, z, rep_nil])
  have hct : c = rep (k * b) t := by rw [hu, e2, rep_mul]
  have hun : unitB c t.length = true := by
    have z := unit_of (s := t) (i := k * b) (Nat.mul_pos hk hb) ht
    rw [← hct] at z
    exact z
  have lt : 0 < t.length := List.length_pos_iff.mpr ht
  have hle : per c ≤ t.length := Nat.le_of_not_lt fun z => by
    have := (per_spec hc).2.2.2 t.length lt z
    rw [hun] at this
    cases this
  have hlu : u.length = per c := by rw [← hud]; exact prim_len hc
  have hb1 : b = 1 := by
    have z := congrArg List.length e2
    rw [rep_len, hlu] at z
    have : b * t.length ≤ 1 * t.length := by omega
    have := Nat.le_of_mul_le_mul_right this lt
    omega
  subst hb1
  rw [rep_one] at e2
  have ha : 0 < a := Nat.pos_of_ne_zero fun z => hs (by rw [e1, z]; rfl)
  exact ⟨a, ha, by rw [e1, e2]⟩
/-- powers of one row have one least unit -/
theorem prim_pow {t : List Nat} {i j : Nat} (ht : t ≠ []) (hi : 0 < i) (hj : 0 < j) : prim (rep i t) = prim (rep j t) := by
  have ne : ∀ {m}, 0 < m → rep m t ≠ [] := fun {m} hm z => by
    have := congrArg List.length z
    rw [rep_len] at this
    have lt : 0 < t.length := List.length_pos_iff.mpr ht
    have := Nat.mul_pos hm lt
    simp at *
    omega
  have go : ∀ {m n}, 0 < m → 0 < n → ∃ e, 0 < e ∧ prim (rep n t) = rep e (prim (rep m t)) := fun {m n} hm hn => by
    obtain ⟨a, ha, e1⟩ := prim_min (ne hn) rfl
    have e2 : rep m t = rep (m * a) (prim (rep n t)) := by
      conv => lhs; rw [e1]
      rw [rep_mul]
    exact prim_min (ne hm) e2
  obtain ⟨a, ha, e1⟩ := go hi hj
  obtain ⟨b, hb, e2⟩ := go hj hi
  have l1 := congrArg List.length e1
  have l2 := congrArg List.length e2
  rw [rep_len] at l1 l2
  have lp : 0 < (prim (rep i t)).length := List.length_pos_iff.mpr (prim_ne (ne hi))
  have hab : (prim (rep i t)).length = b * a * (prim (rep i t)).length := by
    conv => lhs; rw [l2, l1]
    rw [Nat.mul_assoc]
  have h1 : b * a = 1 := by
    have : b * a * (prim (rep i t)).length = 1 * (prim (rep i t)).length := by omega
    exact Nat.eq_of_mul_eq_mul_right lp this
  have ha1 : a = 1 := Nat.eq_one_of_mul_eq_one_left h1
  rw [ha1, rep_one] at e1
  exact e1.symm
end Rp
end Cs

set_option Elab.async false
set_option linter.all false
set_option maxRecDepth 100000
set_option maxHeartbeats 4000000
/-! LayZ: coats, cores, roots, powers of words; words that commute. -/
namespace Cs
open PySem PySem.Spec PyProof.Rows L2
namespace Rp
/-- may stand side by side -/
def Jn (a b : List Nat) : Prop := ∀ x y, lastL a = [x] → b.head? = some y → y ≠ und x
theorem jn_app {a b : List Nat} (ha : Good a) (hb : Good b) (h : Jn a b) : Good (a ++ b) := good_app ha hb h
theorem good_l {a b : List Nat} (h : Good (a ++ b)) : Good a := by have z := good_take h a.length; simpa using z
theorem good_r {a b : List Nat} (h : Good (a ++ b)) : Good b := by have z := good_drop h a.length; simpa using z
theorem jn_of {a b : List Nat} (h : Good (a ++ b)) : Jn a b := by
  intro x y hx hy e
  cases b with
  | nil => cases hy
  | cons d r =>
    have hd : d = y := by simpa using hy
    subst hd
    have hne : a ≠ [] := fun z => by rw [z] at hx; cases hx
    obtain ⟨u, c, rfl⟩ := snoc_of hne
    rw [lastL_snoc] at hx
    have hx : c = x := by simpa using hx
    subst hx
    have e2 : u ++ [c] ++ d :: r = (u ++ [c] ++ [d]) ++ r := by simp
    rw [e2] at h
    have z := (good_snoc.mp (good_l h)).2.2
    rw [lastL_snoc] at z
    exact z (by simp [e])
theorem lastL_app {a b : List Nat} (hb : b ≠ []) : lastL (a ++ b) = lastL b := by
  obtain ⟨u, c, rfl⟩ := snoc_of hb
  rw [← List.append_assoc, lastL_snoc, lastL_snoc]
theorem head_app {a b : List Nat} (ha : a ≠ []) : (a ++ b).head? = a.head? := by
  cases a with
  | nil => exact absurd rfl ha
  | cons c r => rfl
theorem jn_appl {a b c : List Nat} (hb : b ≠ []) : Jn (a ++ b) c ↔ Jn b c := by unfold Jn; rw [lastL_app hb]
theorem jn_appr {a b c : List Nat} (hb : b ≠ []) : Jn a (b ++ c) ↔ Jn a b := by unfold Jn; rw [head_app hb]
def Cyc (c : List Nat) : Prop := Jn c c
theorem rep_ne {k : Nat} {c : List Nat} (hk : 0 < k) (hc : c ≠ []) : rep k c ≠ [] := fun z => by
  have := congrArg List.length z
  rw [rep_len] at this
  have lt : 0 < c.length := List.length_pos_iff.mpr hc
  have := Nat.mul_pos hk lt
  simp at *
  omega
theorem rep_last {k : Nat} {c : List Nat} (hk : 0 < k) : lastL (rep k c) = lastL c := by
  obtain ⟨j, rfl⟩ : ∃ j, k = j + 1 := ⟨k - 1, by omega⟩
  by_cases hc : c = []
  · subst hc; rw [rep_nil]
  · rw [rep_snoc, lastL_app hc]
theorem rep_head {k : Nat} {c : List Nat} (hk : 0 < k) : (rep k c).head? = c.head? := by
  obtain ⟨j, rfl⟩ : ∃ j, k = j + 1 := ⟨k - 1, by omega⟩
  by_cases hc : c = []
  · subst hc; rw [rep_nil]
  · rw [rep_succ, head_app hc]
theorem cyc_rep {c : List Nat} (hg : Good c) (hc : Cyc c) : ∀ k, Good (rep k c)
  | 0 => good_nil
  | k + 1 => by
    rw [rep_snoc]
    by_cases h : k = 0
    · subst h; rw [rep_zero, List.nil_append]; exact hg
    · exact jn_app (cyc_rep hg hc k) hg fun x y h1 h2 => hc x y (by rw [← rep_last (k := k) (by omega)]; exact h1) h2
theorem cyc_of_rep {c : List Nat} {k : Nat} (hk : 0 < k) : Cyc (rep k c) ↔ Cyc c := by
  unfold Cyc Jn
  rw [rep_last hk, rep_head hk]
theorem rep_back {c : List Nat} : ∀ k, rep k (back c) = back (rep k c)
  | 0 => rfl
  | k + 1 => by rw [rep_succ, rep_back k, rep_snoc, back_app]
theorem allL_rep {c : List Nat} (h : AllL c) : ∀ k, AllL (rep k c)
  | 0 => fun _ hc => by cases hc
  | k + 1 => by rw [rep_succ]; exact allL_app h (allL_rep h k)
theorem cyc_back {c : List Nat} (hg : Good c) (hc : Cyc c) : Cyc (back c) := by
  have z := good_back (jn_app hg hg hc)
  rw [back_app] at z
  exact jn_of z
theorem back_ne {c : List Nat} (h : c ≠ []) : back c ≠ [] := fun z => h (List.eq_nil_of_length_eq_zero (by rw [← back_len, z]; rfl))
theorem sand {p c x : List Nat} (h : Good (p ++ c ++ back p)) (hc : c ≠ []) (hx : Good x) (hxn : x ≠ []) (hh : x.head? = c.head?) (hl : lastL x = lastL c) : Good (p ++ x ++ back p) :=
  jn_app (jn_app (good_l (good_l h)) hx (fun a b h1 h2 => jn_of (good_l h) a b h1 (hh ▸ h2))) (good_r h)
    ((jn_appl hxn).mpr fun a b h1 h2 => (jn_appl hc).mp (jn_of h) a b (by rw [← hl]; exact h1) h2)
/-- a coat and a core -/
structure Core (w p c : List Nat) : Prop where
  e : w = p ++ c ++ back p
  ne : c ≠ []
  cy : Cyc c
def coatB (w : List Nat) (k : Nat) : Bool := decide (2 * k + 1 < w.length) && decide (w[k]? = (w[w.length - 1 - k]?).map und)
def coatF (w : List Nat) : Nat → Nat → Nat
  | 0, k => k
  | n + 1, k => if coatB w k = true then coatF w n (k + 1) else k
def coat (w : List Nat) : Nat := coatF w w.length 0
theorem dec : ∀ (n : Nat) (w : List Nat), w.length ≤ n → Good w → w ≠ [] → ∃ p c, Core w p c := by
  intro n
  induction n with
  | zero => intro w h _ hn; exact absurd (List.eq_nil_of_length_eq_zero (by omega)) hn
  | succ n ih =>
    intro w hl hg hn
    obtain ⟨t, y, rfl⟩ := snoc_of hn
    have hy : isL y = true := good_L hg y (by simp)
    cases t with
    | nil =>
      refine ⟨[], [y], by simp [back], by simp, fun a b h1 h2 => ?_⟩
      have h1 : y = a := by simpa [lastL] using h1
      have h2 : y = b := by simpa using h2
      subst h1; subst h2
      exact fun z => und_ne hy z.symm
    | cons x m =>
      have hx : isL x = true := good_L hg x (by simp)
      by_cases h : y = und x
      · subst h
        have hm : m ≠ [] := fun z => by
          subst z
          have z := (good_snoc.mp hg).2.2
          exact z (by simp [lastL])
        have gm : Good m := by
          have z := good_l hg
          exact good_r (a := [x]) z
        have hlm : m.length ≤ n := by simp at hl; omega
        obtain ⟨p, c, hc⟩ := ih m hlm gm hm
        exact ⟨x :: p, c, by rw [back_cons, hc.e]; simp, hc.ne, hc.cy⟩
      · refine ⟨[], x :: m ++ [y], by simp [back], by simp, fun a b h1 h2 => ?_⟩
        rw [lastL_snoc] at h1
        have h1 : y = a := by simpa using h1
        have h2 : x = b := by simpa using h2
        subst h1; subst h2
        exact fun z => h (by rw [z, und_und hy])
theorem dec' {w : List Nat} (hg : Good w) (hn : w ≠ []) : ∃ p c, Core w p c := dec _ w (Nat.le_refl _) hg hn
theorem coatB_lt {w p c : List Nat} {k : Nat} (h : Core w p c) (hw : AllL w) (hk : k < p.length) : coatB w k = true := by
  obtain ⟨e, ne, cy⟩ := h
  have hc : 0 < c.length := List.length_pos_iff.mpr ne
  have hl : w.length = p.length + c.length + p.length := by rw [e]; simp [back_len]; omega
  unfold coatB
  rw [Bool.and_eq_true, decide_eq_true_iff, decide_eq_true_iff]
  refine ⟨by omega, ?_⟩
  have hp : AllL p := fun d hd => hw d (by rw [e]; simp [hd])
  have e1 : w[k]? = p[k]? := by rw [e, List.append_assoc, List.getElem?_append_left hk]
  have e2 : w[w.length - 1 - k]? = (p.map und)[k]? := by
    rw [hl, e, List.getElem?_append_right (by simp; omega)]
    unfold back
    rw [List.getElem?_reverse (by simp; omega)]
    congr 1
    simp
    omega
  rw [e1, e2, List.getElem?_map]
  rw [List.getElem?_eq_getElem hk]
  simp only [Option.map_some]
  rw [und_und (hp _ (List.getElem_mem hk))]
theorem coatB_at {w p c : List Nat} (h : Core w p c) (hw : AllL w) : coatB w p.length = false := by
  obtain ⟨e, ne, cy⟩ := h
  have hl : w.length = p.length + c.length + p.length := by rw [e]; simp [back_len]; omega
  unfold coatB
  rw [Bool.and_eq_false_iff, decide_eq_false_iff_not, decide_eq_false_iff_not]
  right
  intro z
  obtain ⟨v, y, rfl⟩ := snoc_of ne
  have e1 : w[p.length]? = (v ++ [y]).head? := by
    rw [e, List.append_assoc, List.getElem?_append_right (Nat.le_refl _), Nat.sub_self]
    cases v <;> simp
  have e2 : w[w.length - 1 - p.length]? = some y := by
    rw [hl, e]
    rw [List.append_assoc, List.getElem?_append_right (by simp; omega), List.append_assoc, List.getElem?_append_right (by simp; omega)]
    have : p.length + (v ++ [y]).length + p.length - 1 - p.length - p.length - v.length = 0 := by simp; omega
    rw [this]
    rfl
  rw [e1, e2] at z
  exact cy y (und y) (lastL_snoc v y) (by rw [z]; rfl) rfl
theorem coatF_core {w p c : List Nat} (h : Core w p c) (hw : AllL w) : ∀ n k, k ≤ p.length → p.length < k + n → coatF w n k = p.length
  | 0, k, h1, h2 => by omega
  | n + 1, k, h1, h2 => by
    unfold coatF
    by_cases hk : k < p.length
    · rw [if_pos (coatB_lt h hw hk)]
      exact coatF_core h hw n (k + 1) (by omega) (by omega)
    · have : k = p.length := by omega
      subst this
      rw [coatB_at h hw]
      rfl
theorem coat_core {w p c : List Nat} (h : Core w p c) (hw : AllL w) : coat w = p.length := by
  have hc : 0 < c.length := List.length_pos_iff.mpr h.ne
  exact coatF_core h hw _ 0 (Nat.zero_le _) (by rw [h.e]; simp [back_len]; omega)
def pre (w : List Nat) : List Nat := w.take (coat w)
def cor (w : List Nat) : List Nat := (w.take (w.length - coat w)).drop (coat w)
def post (w : List Nat) : List Nat := w.drop (w.length - coat w)
theorem coat_nil : coat [] = 0 := rfl
theorem pre_core {w p c : List Nat} (h : Core w p c) (hw : AllL w) : pre w = p := by
  unfold pre; rw [coat_core h hw, h.e, List.append_assoc, List.take_left']; rfl
theorem cor_core {w p c : List Nat} (h : Core w p c) (hw : AllL w) : cor w = c := by
  unfold cor
  rw [coat_core h hw, h.e]
  have : (p ++ c ++ back p).length - p.length = (p ++ c).length := by simp [back_len]; omega
  rw [this, List.take_left', List.drop_left']
  · rfl
  · rfl
theorem post_core {w p c : List Nat} (h : Core w p c) (hw : AllL w) : post w = back p := by
  unfold post
  rw [coat_core h hw, h.e]
  have : (p ++ c ++ back p).length - p.length = (p ++ c).length := by simp [back_len]; omega
  rw [this, List.drop_left']
  rfl
theorem coat_le {w : List Nat} (hg : Good w) : 2 * coat w ≤ w.length := by
  by_cases hn : w = []
  · subst hn; exact Nat.le_refl _
  · obtain ⟨p, c, h⟩ := dec' hg hn
    rw [coat_core h (good_L hg), h.e]
    simp [back_len]
    omega
theorem post_back {w : List Nat} (hg : Good w) : post w = back (pre w) := by
  by_cases hn : w = []
  · subst hn; rfl
  · obtain ⟨p, c, h⟩ := dec' hg hn
    rw [post_core h (good_L hg), pre_core h (good_L hg)]
theorem core_self {w : List Nat} (hg : Good w) (hn : w ≠ []) : Core w (pre w) (cor w) := by
  obtain ⟨p, c, h⟩ := dec' hg hn
  rw [pre_core h (good_L hg), cor_core h (good_L hg)]
  exact h
theorem good_pre {w : List Nat} (hg : Good w) : Good (pre w) := good_take hg _
theorem good_cor {w : List Nat} (hg : Good w) : Good (cor w) := good_drop (good_take hg _) _
theorem core_eq {w : List Nat} (hg : Good w) : pre w ++ cor w ++ back (pre w) = w := by
  by_cases hn : w = []
  · subst hn; rfl
  · exact (core_self hg hn).e.symm
theorem core_back {w p c : List Nat} (h : Core w p c) (hg : Good w) : Core (back w) p (back c) := by
  have hp : Good p := by have z := hg; rw [h.e] at z; exact good_l (good_l z)
  have hc : Good c := by have z := hg; rw [h.e] at z; exact good_r (good_l z)
  refine ⟨?_, back_ne h.ne, cyc_back hc h.cy⟩
  rw [h.e, back_app, back_app, back_back (good_L hp), List.append_assoc]
theorem good_pow {w p c : List Nat} (h : Core w p c) (hg : Good w) {k : Nat} (hk : 0 < k) : Good (p ++ rep k c ++ back p) := by
  have z := hg
  rw [h.e] at z
  exact sand z h.ne (cyc_rep (good_r (good_l z)) h.cy k) (rep_ne hk h.ne) (rep_head hk) (rep_last hk)
theorem val_rep {w p c : List Nat} (h : Core w p c) (hg : Good w) : ∀ k, val (rep (k + 1) w) = p ++ rep (k + 1) c ++ back p
  | 0 => by rw [rep_one, rep_one, val_self hg, ← h.e]
  | k + 1 => by
    have hL := good_L hg
    have hp : AllL p := fun d hd => hL d (by rw [h.e]; simp [hd])
    have hc : AllL c := fun d hd => hL d (by rw [h.e]; simp [hd])
    rw [rep_succ (k + 1) w, ← val_right hL (allL_rep hL _), val_rep h hg k]
    have e : w ++ (p ++ rep (k + 1) c ++ back p) = (p ++ c) ++ back p ++ back (back p) ++ (rep (k + 1) c ++ back p) := by
      rw [back_back hp]
      conv => lhs; rw [h.e]
      simp
    rw [e, val_back (allL_back hp) (allL_app (allL_rep hc _) (allL_back hp))]
    have e2 : p ++ c ++ (rep (k + 1) c ++ back p) = p ++ rep (k + 1 + 1) c ++ back p := by rw [rep_succ (k + 1) c]; simp
    rw [e2, val_self (good_pow h hg (Nat.succ_pos _))]
def sg (w : List Nat) (n : Int) : List Nat := if 0 < n then w else back w
/-- what power makes -/
def powL (w : List Nat) (n : Int) : List Nat := if n = 0 ∨ w = [] then [] else pre w ++ (if 0 < n then rep n.natAbs (cor w) else back (rep n.natAbs (cor w))) ++ post w
theorem powL_val {w : List Nat} (hg : Good w) (n : Int) : powL w n = val (rep n.natAbs (sg w n)) := by
  unfold powL sg
  by_cases h0 : n = 0
  · subst h0; rfl
  by_cases hw : w = []
  · subst hw
    rw [if_pos (Or.inr rfl)]
    have : (if 0 < n then ([] : List Nat) else back []) = [] := by split <;> rfl
    rw [this, rep_nil]
    rfl
  rw [if_neg (fun z => z.elim h0 hw), post_back hg]
  have hk : 0 < n.natAbs := by omega
  obtain ⟨k, ek⟩ : ∃ k, n.natAbs = k + 1 := ⟨n.natAbs - 1, by omega⟩
  rw [ek]
  have hc := core_self hg hw
  by_cases hn : 0 < n
  · rw [if_pos hn, if_pos hn, val_rep hc hg]
  · rw [if_neg hn, if_neg hn, val_rep (core_back hc hg) (good_back hg), rep_back]
theorem powL_good {w : List Nat} (hg : Good w) (n : Int) : Good (powL w n) := by
  rw [powL_val hg]
  refine val_good (allL_rep ?_ _)
  unfold sg
  split
  · exact good_L hg
  · exact allL_back (good_L hg)
theorem powL_neg {w : List Nat} (hg : Good w) (n : Int) : powL w (-n) = back (powL w n) := by
  have hL := good_L hg
  rw [powL_val hg, powL_val hg, Int.natAbs_neg]
  unfold sg
  by_cases h0 : n = 0
  · subst h0; rfl
  by_cases hn : 0 < n
  · rw [if_pos hn, if_neg (by omega), rep_back, val_bk (allL_rep hL _)]
  · rw [if_neg hn, if_pos (by omega), rep_back, ← val_bk (allL_back (allL_rep hL _)), back_back (allL_rep hL _)]
theorem powL_succ {w : List Nat} (hg : Good w) (n : Int) : powL w (n + 1) = val (powL w n ++ w) := by
  have hL := good_L hg
  rw [powL_val hg, powL_val hg]
  unfold sg
  by_cases hn : 0 ≤ n
  · have e : (n + 1).natAbs = n.natAbs + 1 := by omega
    rw [if_pos (by omega : 0 < n + 1), e, rep_snoc]
    by_cases h0 : n = 0
    · subst h0; rfl
    · rw [if_pos (by omega : 0 < n), val_left (allL_rep hL _) hL]
  · have e : n.natAbs = (n + 1).natAbs + 1 := by omega
    rw [if_neg (by omega : ¬ 0 < n + 1), if_neg (by omega : ¬ 0 < n), e, rep_snoc]
    rw [val_left (allL_app (allL_rep (allL_back hL) _) (allL_back hL)) hL]
    have z := val_back (a := rep (n + 1).natAbs (back w)) (b := back w) (r := []) (allL_back hL) (fun c hc => by cases hc)
    rw [back_back hL, List.append_nil, List.append_nil] at z
    exact z.symm
theorem powL_len {w : List Nat} (hg : Good w) {n : Int} (h0 : n ≠ 0) (hw : w ≠ []) : (powL w n).length = 2 * coat w + n.natAbs * (cor w).length := by
  unfold powL
  rw [if_neg (fun z => z.elim h0 hw), post_back hg]
  have hp : (pre w).length = coat w := by
    unfold pre
    have := coat_le hg
    rw [List.length_take]
    omega
  have e : (if 0 < n then rep n.natAbs (cor w) else back (rep n.natAbs (cor w))).length = n.natAbs * (cor w).length := by
    split
    · rw [rep_len]
    · rw [back_len, rep_len]
  rw [List.length_append, List.length_append, e, back_len, hp]
  omega
/-- the root -/
def rootL (w : List Nat) : List Nat := pre w ++ prim (cor w) ++ post w
theorem prim_pos {c : List Nat} (hc : c ≠ []) : 0 < c.length / per c := Nat.div_pos (per_spec hc).2.2.1 (per_spec hc).2.1
theorem cyc_prim {c : List Nat} (hc : c ≠ []) (h : Cyc c) : Cyc (prim c) := by
  have e := prim_rep hc
  rw [e] at h
  exact (cyc_of_rep (prim_pos hc)).mp h
theorem root_core {w p c : List Nat} (h : Core w p c) (hg : Good w) : rootL w = p ++ prim c ++ back p ∧ Core (rootL w) p (prim c) ∧ Good (rootL w) := by
  have hL := good_L hg
  have e : rootL w = p ++ prim c ++ back p := by unfold rootL; rw [pre_core h hL, cor_core h hL, post_core h hL]
  refine ⟨e, ⟨e, prim_ne h.ne, cyc_prim h.ne h.cy⟩, ?_⟩
  rw [e]
  have z := hg
  rw [h.e] at z
  have gp : Good (prim c) := good_take (good_r (good_l z)) _
  have hh : (prim c).head? = c.head? := by conv => rhs; rw [prim_rep h.ne]
                                           rw [rep_head (prim_pos h.ne)]
  have hl : lastL (prim c) = lastL c := by conv => rhs; rw [prim_rep h.ne]
                                           rw [rep_last (prim_pos h.ne)]
  exact sand z h.ne gp (prim_ne h.ne) hh hl
theorem root_good {w : List Nat} (hg : Good w) : Good (rootL w) := by
  by_cases hn : w = []
  · subst hn; exact good_nil
  · exact (root_core (core_self hg hn) hg).2.2
theorem root_nil : rootL [] = [] := rfl
theorem root_ne {w : List Nat} (hg : Good w) (hn : w ≠ []) : rootL w ≠ [] := fun z => by
  have h := (root_core (core_self hg hn) hg).1
  have := congrArg List.length h
  rw [z] at this
  have := List.length_pos_iff.mpr (prim_ne (core_self hg hn).ne)
  simp at *
  omega
def timesL (w : List Nat) : Nat := (cor w).length / per (cor w)
theorem times_pos {w : List Nat} (hg : Good w) (hn : w ≠ []) : 0 < timesL w := prim_pos (core_self hg hn).ne
theorem root_pow {w : List Nat} (hg : Good w) (hn : w ≠ []) : powL (rootL w) (timesL w : Int) = w := by
  have h := core_self hg hn
  obtain ⟨e, hc, gr⟩ := root_core h hg
  have hk := times_pos hg hn
  rw [powL_val gr]
  unfold sg
  rw [if_pos (by omega), Int.natAbs_natCast]
  obtain ⟨k, ek⟩ : ∃ k, timesL w = k + 1 := ⟨timesL w - 1, by omega⟩
  rw [ek, val_rep hc gr, ← ek]
  unfold timesL
  rw [← prim_rep h.ne]
  exact h.e.symm
/-- the law's own search for the root -/
theorem law_root_lt {c : List Nat} {m : Nat} (hc : c ≠ []) (h1 : c.length / per c < m) : rep m (c.take (c.length / m)) ≠ c := fun z => by
  obtain ⟨e, he, hs⟩ := prim_min hc z.symm
  have l1 := congrArg List.length z
  have l2 := congrArg List.length hs
  rw [rep_len] at l1 l2
  rw [prim_len hc] at l2
  have hp := (per_spec hc).2.1
  have : per c ≤ (c.take (c.length / m)).length := by rw [l2]; exact Nat.le_mul_of_pos_left _ he
  have h2 : m * per c ≤ c.length := by
    rw [← l1]
    exact Nat.mul_le_mul_left _ this
  have h3 : m ≤ c.length / per c := (Nat.le_div_iff_mul_le hp).mpr h2
  omega
theorem law_root_at {c : List Nat} (hc : c ≠ []) : c.length / (c.length / per c) = per c := by
  have hd := prim_dvd hc
  have hk := prim_pos hc
  have e : c.length = per c * (c.length / per c) := (Nat.mul_div_cancel' (Nat.dvd_of_mod_eq_zero hd)).symm
  exact Nat.div_eq_of_eq_mul_left hk e
theorem prim_back {c : List Nat} (hc : c ≠ []) (hL : AllL c) : prim (back c) = back (prim c) := by
  have e1 : back c = rep (c.length / per c) (back (prim c)) := by
    rw [rep_back, ← prim_rep hc]
  obtain ⟨m, hm, h1⟩ := prim_min (back_ne hc) e1
  have e2 : c = rep ((back c).length / per (back c)) (back (prim (back c))) := by
    rw [rep_back, ← prim_rep (back_ne hc), back_back hL]
  obtain ⟨k, hk, h2⟩ := prim_min hc e2
  have l1 := congrArg List.length h1
  have l2 := congrArg List.length h2
  rw [rep_len, back_len] at l1 l2
  have lp : 0 < (prim c).length := List.length_pos_iff.mpr (prim_ne hc)
  have hab : m * k * (prim c).length = 1 * (prim c).length := by
    rw [Nat.mul_assoc, ← l2, ← l1, Nat.one_mul]
  have hmk := Nat.eq_of_mul_eq_mul_right lp hab
  have hm1 : m = 1 := Nat.eq_one_of_mul_eq_one_right hmk
  rw [hm1, rep_one] at h1
  exact h1.symm
/-- commuting -/
def Cm (x y : List Nat) : Prop := val (x ++ y) = val (y ++ x)
theorem cm_app {x y z : List Nat} (hx : AllL x) (hy : AllL y) (hz : AllL z) (h1 : Cm x y) (h2 : Cm x z) : Cm x (y ++ z) := by
  unfold Cm at *
  rw [← List.append_assoc, ← val_left (allL_app hx hy) hz, h1, val_left (allL_app hy hx) hz, List.append_assoc, ← val_right hy (allL_app hx hz), h2, val_right hy (allL_app hz hx), ← List.append_assoc]
theorem cm_rep {x y : List Nat} (hx : AllL x) (hy : AllL y) (h : Cm x y) : ∀ k, Cm x (rep k y)
  | 0 => by unfold Cm; rw [rep_zero, List.append_nil, List.nil_append]
  | k + 1 => by rw [rep_succ]; exact cm_app hx hy (allL_rep hy k) h (cm_rep hx hy h k)
theorem cm_reps {x y : List Nat} (hx : AllL x) (hy : AllL y) (h : Cm x y) (i j : Nat) : Cm (rep i x) (rep j y) :=
  (cm_rep (allL_rep hy j) hx (cm_rep hx hy h j).symm i).symm
theorem cm_val {x y : List Nat} (hx : AllL x) (hy : AllL y) : Cm (val x) (val y) ↔ Cm x y := by
  unfold Cm
  rw [val_vals hx hy, val_vals hy hx]
theorem jn_not {d c : List Nat} (hd : AllL d) (hc : AllL c) (h : ¬ Jn d c) : (val (d ++ c)).length < d.length + c.length ∧ ∃ x, lastL d = [x] ∧ c.head? = some (und x) := by
  have ⟨x, y, h1, h2, h3⟩ : ∃ x y, lastL d = [x] ∧ c.head? = some y ∧ y = und x := by
    apply Classical.byContradiction
    intro z
    exact h fun x y a b e => z ⟨x, y, a, b, e⟩
  subst h3
  refine ⟨?_, x, h1, h2⟩
  have hne : d ≠ [] := fun z => by rw [z] at h1; cases h1
  obtain ⟨u, x', rfl⟩ := snoc_of hne
  rw [lastL_snoc] at h1
  have h1 : x' = x := by simpa using h1
  subst h1
  cases c with
  | nil => cases h2
  | cons y r =>
    have h2 : y = und x' := by simpa using h2
    subst h2
    have hr : AllL r := fun e he => hc e (by simp [he])
    have z := val_strike (a := u) (b := r) (hd x' (by simp)) hr
    have e : u ++ [x'] ++ und x' :: r = u ++ x' :: und x' :: r := by simp
    rw [e, z]
    have := val_len (u ++ r)
    simp at *
    omega
theorem jn_sym {c d : List Nat} (hc : Good c) (hd : Good d) (h : Cm c d) (hj : Jn c d) : Jn d c := by
  apply Classical.byContradiction
  intro hn
  have l1 := (jn_not (good_L hd) (good_L hc) hn).1
  unfold Cm at h
  rw [← h, val_self (jn_app hc hd hj), List.length_append] at l1
  omega
theorem cm_jn {c d : List Nat} (hc : Good c) (hd : Good d) (h : Cm c d) (hj : Jn c d) : c ++ d = d ++ c := by
  have hj2 := jn_sym hc hd h hj
  unfold Cm at h
  rw [val_self (jn_app hc hd hj), val_self (jn_app hd hc hj2)] at h
  exact h
theorem cm_back {c d : List Nat} (hc : AllL c) (hd : AllL d) (h : Cm c d) : Cm c (back d) := by
  have hb := allL_back hd
  have h1 : val (back d ++ (d ++ c) ++ back d) = val (c ++ back d) := by
    have z := val_back (a := []) (b := back d) (r := c ++ back d) hb (allL_app hc hb)
    rw [back_back hd] at z
    simpa using z
  have h2 : val (back d ++ (c ++ d) ++ back d) = val (back d ++ c) := by
    have z := val_back (a := back d ++ c) (b := d) (r := []) hd (fun c hc => by cases hc)
    simpa using z
  unfold Cm at *
  have e : val (back d ++ (d ++ c) ++ back d) = val (back d ++ (c ++ d) ++ back d) := by
    rw [← val_left (allL_app hb (allL_app hd hc)) hb, ← val_right hb (allL_app hd hc), ← h, val_right hb (allL_app hc hd), val_left (allL_app hb (allL_app hc hd)) hb]
  rw [← h1, e, h2]
theorem cyc_comm {c d : List Nat} (hc : Good c) (cy : Cyc c) (hd : Good d) (h : Cm c d) : c ++ d = d ++ c ∨ c ++ back d = back d ++ c := by
  by_cases hj : Jn c d
  · exact Or.inl (cm_jn hc hd h hj)
  · right
    have hj2 : ¬ Jn d c := fun z => hj (jn_sym hd hc h.symm z)
    obtain ⟨-, x, hx, hcx⟩ := jn_not (good_L hd) (good_L hc) hj2
    refine cm_jn hc (good_back hd) (cm_back (good_L hc) (good_L hd) h) fun a b ha hb e => ?_
    have hdn : d ≠ [] := fun z => by rw [z] at hx; cases hx
    obtain ⟨u, x', rfl⟩ := snoc_of hdn
    rw [lastL_snoc] at hx
    have hx : x' = x := by simpa using hx
    subst hx
    have hb2 : und x' = b := by
      rw [back_app] at hb
      simpa [back] using hb
    exact cy a (und x') ha hcx (by rw [hb2, e])
theorem comm_iff {a b : List Nat} (ha : Good a) (hb : Good b) (na : a ≠ []) (nb : b ≠ []) : val (a ++ b) = val (b ++ a) ↔ rootL a = rootL b ∨ rootL a = back (rootL b) := by
  have la := good_L ha
  have lb := good_L hb
  constructor
  · intro h
    have hA := core_self ha na
    generalize pre a = p at hA
    generalize cor a = c at hA
    have ga := ha
    rw [hA.e] at ga
    have gp := good_l (good_l ga)
    have gc := good_r (good_l ga)
    have lp := good_L gp
    have lc := good_L gc
    have lq := allL_back lp
    have bp : back (back p) = p := back_back lp
    have nil : AllL ([] : List Nat) := fun c hc => by cases hc
    -- a is led to c, b to b1
    have hb1 : b = val (p ++ val (back p ++ b ++ p) ++ back p) := by
      rw [← val_left (allL_app lp (good_L (val_good (allL_app (allL_app lq lb) lp)))) lq, val_right lp (allL_app (allL_app lq lb) lp), val_left (allL_app lp (allL_app (allL_app lq lb) lp)) lq]
      have e : p ++ (back p ++ b ++ p) ++ back p = [] ++ p ++ back p ++ (b ++ p ++ back p) := by simp
      rw [e, val_back lp (allL_app (allL_app lb lp) lq)]
      have z := val_back (a := b) (b := p) (r := []) lp nil
      simp only [List.append_nil, List.nil_append] at z ⊢
      rw [z, val_self hb]
    have hcm : Cm c (val (back p ++ b ++ p)) := by
      have hc1 : c = val (back p ++ a ++ p) := by
        have e : back p ++ a ++ p = [] ++ back p ++ back (back p) ++ (c ++ back p ++ p) := by
          rw [bp, hA.e]; simp
        rw [e, val_back lq (allL_app (allL_app lc lq) lp)]
        have z := val_back (a := c) (b := back p) (r := []) lq nil
        rw [bp] at z
        simp only [List.append_nil, List.nil_append] at z ⊢
        rw [z, val_self gc]
      have key : ∀ {x y : List Nat}, AllL x → AllL y → val ((back p ++ x ++ p) ++ (back p ++ y ++ p)) = val (back p ++ val (x ++ y) ++ p) := fun {x y} hx hy => by
        rw [← val_left (allL_app lq (good_L (val_good (allL_app hx hy)))) lp, val_right lq (allL_app hx hy), val_left (allL_app lq (allL_app hx hy)) lp]
        have z := val_back (a := back p ++ x) (b := p) (r := y ++ p) lp (allL_app hy lp)
        have e1 : (back p ++ x ++ p) ++ (back p ++ y ++ p) = back p ++ x ++ p ++ back p ++ (y ++ p) := by simp
        have e2 : back p ++ (x ++ y) ++ p = back p ++ x ++ (y ++ p) := by simp
        rw [e1, e2, z]
      rw [hc1]
      refine (cm_val (allL_app (allL_app lq la) lp) (allL_app (allL_app lq lb) lp)).mpr ?_
      unfold Cm
      rw [key la lb, key lb la, h]
    have gb1 : Good (val (back p ++ b ++ p)) := val_good (allL_app (allL_app lq lb) lp)
    generalize val (back p ++ b ++ p) = d at hb1 hcm gb1
    have nd : d ≠ [] := fun z => nb (by
      rw [hb1, z, List.append_nil]
      exact val_back1 lp)
    have fin : ∀ {e : List Nat}, Good e → e ≠ [] → c ++ e = e ++ c → prim c = prim e ∧ Cyc e ∧ Good (p ++ e ++ back p) := fun {e} ge ne hce => by
      obtain ⟨t, i, j, e1, e2⟩ := comm_pow _ c e (Nat.le_refl _) hce
      have hi : 0 < i := Nat.pos_of_ne_zero fun z => hA.ne (by rw [e1, z]; rfl)
      have hj : 0 < j := Nat.pos_of_ne_zero fun z => ne (by rw [e2, z]; rfl)
      have ht : t ≠ [] := fun z => hA.ne (by rw [e1, z, rep_nil])
      have cyt : Cyc t := (cyc_of_rep hi).mp (by rw [← e1]; exact hA.cy)
      refine ⟨by rw [e1, e2]; exact prim_pow ht hi hj, by rw [e2]; exact (cyc_of_rep hj).mpr cyt, ?_⟩
      exact sand ga hA.ne ge ne (by rw [e1, e2, rep_head hi, rep_head hj]) (by rw [e1, e2, rep_last hi, rep_last hj])
    have ra := (root_core hA ha).1
    rcases cyc_comm gc hA.cy gb1 hcm with h1 | h1
    · obtain ⟨q1, q2, q3⟩ := fin gb1 nd h1
      rw [val_self q3] at hb1
      have hB : Core b p d := ⟨hb1, nd, q2⟩
      left
      rw [ra, (root_core hB hb).1, q1]
    · have ld := good_L gb1
      obtain ⟨q1, q2, q3⟩ := fin (good_back gb1) (back_ne nd) h1
      have q4 := good_back q3
      rw [back_app, back_app, bp, back_back ld, ← List.append_assoc] at q4
      rw [val_self q4] at hb1
      have cyd : Cyc d := by
        have z := cyc_back (good_back gb1) q2
        rw [back_back ld] at z
        exact z
      have hB : Core b p d := ⟨hb1, nd, cyd⟩
      right
      rw [ra, (root_core hB hb).1, back_app, back_app, bp, ← List.append_assoc, ← prim_back nd ld, q1]
  · intro h
    have hr := root_good hb
    have lr := good_L hr
    have ea := root_pow ha na
    have eb := root_pow hb nb
    rw [powL_val (root_good ha)] at ea
    rw [powL_val hr] at eb
    have tb := times_pos hb nb
    have ta := times_pos ha na
    unfold sg at ea eb
    rw [if_pos (by omega)] at ea eb
    rw [← ea, ← eb]
    have self : Cm (rootL b) (rootL b) := rfl
    rcases h with h | h
    · rw [h]
      exact (cm_val (allL_rep lr _) (allL_rep lr _)).mpr (cm_reps lr lr self _ _)
    · rw [h]
      exact (cm_val (allL_rep (allL_back lr) _) (allL_rep lr _)).mpr (cm_reps (allL_back lr) lr (cm_back lr lr self).symm _ _)
end Rp
end Cs

set_option Elab.async false
set_option linter.all false
set_option maxRecDepth 100000
set_option maxHeartbeats 4000000
/-! LayR: split(" "), ranges of two and of three numbers, slices from within. -/
namespace Cs
open PySem PySem.Spec PyProof.Rows L2
def rSplit : V → List V → Hp → VK → Prop := fun x xs H Q => ∃ a b, x = .str a ∧ xs = [.str b] ∧ (b.length == 0) = false ∧ a.length + 2 ≤ sizeLine ∧ rNewStrs (Txt.split a b) H Q
theorem mb_split {X : Cx} : MtR X "str.split" rSplit := mt_split
/-- the items between blanks -/
def spl (w : List Nat) : List (List Nat) := (Txt.split (S w) (S [32])).map fun p => p.cps.toList
theorem S_cps (z : Str) : S z.cps.toList = z := by
  cases z
  simp [S]
theorem spl_S (w : List Nat) : (spl w).map (fun p => V.str (S p)) = (Txt.split (S w) (S [32])).map V.str := by
  unfold spl
  rw [List.map_map]
  exact List.map_congr_left fun z _ => by show V.str (S z.cps.toList) = _; rw [S_cps]
theorem q_split {w : List Nat} {H : Hp} {Q : VK} (hl : w.length ≤ 1000000) (q : ∀ l, H l = none → Q (.ref l) (upd H l (.lst ((spl w).map fun p => V.str (S p))))) : rSplit (.str (S w)) [.str (S [32])] H Q :=
  ⟨_, _, rfl, rfl, rfl, by rw [S_len, sizeLine_eq]; omega, fun l h => by rw [← spl_S]; exact q l h⟩
theorem spl_len (w : List Nat) : 1 ≤ (spl w).length := by
  unfold spl
  rw [List.length_map]
  exact split_pos _ _
theorem spl_short {w p : List Nat} (h : p ∈ spl w) : p.length ≤ w.length := by
  obtain ⟨z, hz, rfl⟩ := List.mem_map.mp h
  have := part_short hz
  rw [S_len] at this
  simpa [Str.length] using this
theorem spl_one {w p : List Nat} (h : spl w = [p]) : p = w := by
  have e := StrLaws.join_split (S w) (S [32])
  unfold spl at h
  cases hs : Txt.split (S w) (S [32]) with
  | nil => rw [hs] at h; cases h
  | cons a r =>
    rw [hs] at h e
    cases r with
    | cons b r => cases h
    | nil =>
      have h : a.cps.toList = p := by simpa using h
      have e : a = S w := e
      rw [← h, e]
theorem spl_free {w : List Nat} (h : 32 ∉ w) : spl w = [w] := by
  have e := split_len (S w) 32
  have hc : (S w).cps.toList = w := by simp [S]
  rw [hc, cnt_none _ _ h] at e
  have hl : (spl w).length = 1 := by
    unfold spl
    rw [List.length_map]
    have e : ((Txt.split (S w) (S [32])).length : Int) = 1 + 0 := e
    omega
  obtain ⟨p, hp⟩ := List.length_eq_one_iff.mp hl
  rw [hp, spl_one hp]
theorem spl_cons (w : List Nat) : ∃ p r, spl w = p :: r ∧ p.length ≤ w.length ∧ (r = [] → p = w) := by
  have h := spl_len w
  cases e : spl w with
  | nil => rw [e] at h; simp at h
  | cons p r => exact ⟨p, r, rfl, spl_short (by rw [e]; exact List.mem_cons_self), fun z => spl_one (by rw [e, z])⟩
section
variable {K : PySem.W.Frag} {σ : L2.St} {H : Hp} {Q : VK} {t : TA} {tr : TA}
theorem r_iRng2 {R : It → Hp → Prop} (q : tr σ H fun vs H1 => ∃ i j : Int, vs = [.int i, .int j] ∧ (-(2 ^ 62) ≤ i ∧ i < 2 ^ 62 ∧ -(2 ^ 62) ≤ j ∧ j < 2 ^ 62) ∧ R (Itr i (j - i).toNat) H1) : iRng2 tr σ H R := q
theorem r_iRng3 {R : It → Hp → Prop} (q : tr σ H fun vs H1 => ∃ (i j c : Int) (n : Nat), vs = [.int i, .int j, .int c] ∧ RgC i j c n ∧ R (Itc i c n) H1) : iRng3 tr σ H R := q
theorem r_fdivH {a b : Int} (h : 0 < b) (hb : b < 100000000000000000000000000000000000000000) (q : Q (.int (a / b)) H) : rI CDivW (fun i j => .int (i / j)) (.int a) (.int b) H Q := ⟨a, b, rfl, rfl, wide_div (b := 140) h (by omega) (by decide) (by decide), q⟩
end
theorem cut_mid (w : List Nat) {a b : Int} {i j : Nat} (ea : a = (i : Nat)) (eb : b = (j : Nat)) (hi : i ≤ j) (hj : j ≤ w.length) : cutS (S w) (some a) (some b) = S ((w.take j).drop i) := by
  subst ea; subst eb
  rw [cutS_S, HT.sIx_nat, HT.sIx_nat, Nat.min_eq_left hj, Nat.min_eq_left (by omega), List.drop_take]
/-- w[1:-1] -/
theorem cut_in (w : List Nat) (h : 1 ≤ w.length) : cutS (S w) (some 1) (some (-1)) = S ((w.take (w.length - 1)).drop 1) := by
  have e0 : (1 : Int) = ((1 : Nat) : Int) := rfl
  rw [cutS_S, e0, HT.sIx_nat, Nat.min_eq_left h, List.drop_take]
  have e' : HT.sIx w.length w.length (some (-((1 : Nat) : Int))) = w.length - 1 := by
    unfold HT.sIx
    simp only [show (-((1 : Nat) : Int)) < 0 by decide, if_true]
    omega
  rw [e']
theorem cut_toN (w : List Nat) {n : Int} {k : Nat} (e : n = (k : Nat)) : cutS (S w) none (some n) = S (w.take k) := by
  subst e
  exact cut_to w k
theorem cut_fromN (w : List Nat) {n : Int} {k : Nat} (e : n = (k : Nat)) : cutS (S w) (some n) none = S (w.drop k) := by
  subst e
  exact cut_from w k
section
variable {X : Cx} {CX : CXT} {C : Addr} {m : Str} {k j : Nat} {sp : Sp} {E : XK} {o : Expr} {pos apos : Pos} {ta : TE} {pl : Sem Bool}
theorem pe_met0 (c : MetA X.prog X.w X.K X.mg X.base CX k C m sp) (cl : Cls X.K C) (he : PE X o ta) (hr : Room j X.A) (hk : k ≤ j) (hx : Passes CX X E)
    (ht : eval (.Call (.Attribute o m apos) [] [] pos) X.env = (do
      let ov ← eval o X.env
      standAt apos.atName
      let (f, first) ← holding [ov] (getMethod ov m pl)
      callWith pos f first (backTo pos (starEach [] X.env)) (backToKw pos (keywordEach [] X.env))) := by rfl) :
    PE X (.Call (.Attribute o m apos) [] [] pos) (tMetA C m sp E ta tNil) := by
  obtain ⟨f, fd, ps, hm, F, hb⟩ := c.ex
  refine ⟨fun pins s σ H Q I h => ?_⟩
  refine PySem.W.methodCall_KW (pl := pl) (thn (he.run pins s σ H _ I h) fun u s1 ⟨x, H1, I1, rx, a, dx, fs, ex, ea, l, q⟩ => ?_) ht
  subst ex
  obtain rfl : u = Value.ref a := rx
  refine getmeth_ok I1 ea cl hm l ?_
  exact PySem.W.callWith_K0 (first := [.ref a]) I1.kIn hm.kp (run_fn (us := [.ref a]) (vs := [.ref a]) F (hr.mono hk) hb .nil hx I1 (.cons rfl .nil) q)
end
end Cs


set_option Elab.async false
set_option linter.all false
set_option maxRecDepth 100000
set_option maxHeartbeats 4000000
namespace Cs
open PySem PySem.Spec PyProof.Rows L2 LamX
local macro_rules | `(tactic| walk_at "two") => `(tactic| with_reducible (first
  | refine r_seq ?_ | refine r_nx ?_ | refine r_rt ?_ | refine r_ct ?_ | refine r_bk ?_ | refine r_asg ?_ | refine r_gname ?_ | refine r_ret ?_ | refine r_drop ?_ | refine r_next ?_ | refine r_retN ?_ | refine r_fld ?_ | refine r_gsub ?_ | refine r_brk ?_ | refine r_cont ?_
  | refine r_var rfl ?_ | refine r_c ?_ | refine r_op ?_ | refine r_un ?_ | refine r_test ?_ | refine r_tB ?_ | refine r_bl ?_ | refine r_blv ?_
  | refine r_cons ?_ | refine r_nil ?_ | refine r_lc ?_ | refine r_yes ?_ | refine r_iLT0 ?_ | refine r_iEnumS ?_ | refine r_iEnum ?_ | refine r_iStr ?_ | refine r_iList ?_ | refine r_iRng ?_ | refine r_iRng2 ?_ | refine r_iRng3 ?_ | refine r_iStrS ?_ | refine r_iStrE ?_ | refine r_cb ?_ | refine r_call0 ?_ | refine r_callS ?_ | refine r_callK ?_ | refine r_tup ?_ | refine r_lst ?_ | refine r_make0 ?_ | refine r_attr ?_
  | refine r_sl ?_ | refine r_nopart ?_ | refine r_part ?_ | refine r_parti ?_ | refine r_tyS ?_ | refine r_bm0 ?_ | refine r_bm ?_ | refine r_dnew ?_
  | refine r_and ?_ | refine r_or ?_ | refine r_not ?_ | refine r_andV ?_ | refine r_orV ?_ | refine r_notV ?_ | refine r_if ?_ | refine r_ift ?_ | refine r_iff ?_ | refine r_revL ?_ | refine r_ntt ?_ | refine r_nff ?_ | refine r_itup ?_ | refine r_chain ?_
  | refine r_I0 ?_ | refine r_U ?_ | refine r_addI ?_ | refine r_eqI ?_ | refine r_neI ?_ | refine r_eqS ?_ | refine r_neS ?_ | refine r_eqB ?_ | refine r_neB ?_ | refine r_inS ?_ | refine r_niS ?_ | refine r_int1 ?_ | refine r_abs ?_ | refine r_isN ?_ | refine r_notN ?_
  | refine r_intB ?_ | refine r_max ?_ | refine r_strS ?_ | refine r_isB ?_ | refine r_notB ?_ | refine r_notBI ?_ | refine r_revS ?_ | refine r_sta ?_ | refine r_metA ?_ | refine r_mK1 ?_ | refine r_mD ?_ | refine r_iOwn ?_ | refine r_aug rfl ?_ | refine r_ipI ?_ | refine r_par ?_ | refine r_vw ?_))
local macro_rules | `(tactic| walk_at "one") => `(tactic| first | walk_at "two" | with_reducible (first | refine r_ifs ?_ | refine r_forE ?_))
local macro_rules | `(tactic| walk_at "go") => `(tactic| repeat walk_at "one")
local macro_rules | `(tactic| walk_at "gp") => `(tactic| repeat walk_at "two")

section
variable {P : Program} {w : World} {K : PySem.W.Frag} {mg : Str → Option Value} {base : Heap}

def top (i : Nat) : Stmt := PySem.Challenge.pw_copyshare_k03_roots_cores_powers_and_tex.main.body.getD i (.Pass ⟨0, 0, 0, 0⟩)
structure Ad where
  BadNumber : Addr
  BadText : Addr
  BadWord : Addr
  BallError : Addr
  TooMany : Addr
  Word : Addr
  i_BadNumber : Addr
  i_BadText : Addr
  i_BadWord : Addr
  i_TooMany : Addr
structure Txt (P : Program) (w : World) (K : PySem.W.Frag) (mg : Str → Option Value) (base : Heap) (D : Ad) : Prop where
  b_NotImplemented : mg "NotImplemented" = none
  b_abs : mg "abs" = none
  b_bool : mg "bool" = none
  b_enumerate : mg "enumerate" = none
  b_int : mg "int" = none
  b_isinstance : mg "isinstance" = none
  b_len : mg "len" = none
  b_list : mg "list" = none
  b_range : mg "range" = none
  b_str : mg "str" = none
  c_BadNumber : mg "BadNumber" = some (.ref D.BadNumber)
  c_BadText : mg "BadText" = some (.ref D.BadText)
  c_BadWord : mg "BadWord" = some (.ref D.BadWord)
  c_BallError : mg "BallError" = some (.ref D.BallError)
  c_TooMany : mg "TooMany" = some (.ref D.TooMany)
  c_Word : mg "Word" = some (.ref D.Word)
  cl_Word : Cls K D.Word
  e_BadNumber : EMk P w K mg base D.BadNumber D.i_BadNumber ["part"]
  e_BadText : EMk P w K mg base D.BadText D.i_BadText ["item"]
  e_BadWord : EMk P w K mg base D.BadWord D.i_BadWord ["at"]
  e_TooMany : EMk P w K mg base D.TooMany D.i_TooMany ["what", "most"]
  ex_BadNumber_BallError : PySem.W.exmOne K (.ref D.BadNumber) (.ref D.BallError) = some true
  ex_BadText_BallError : PySem.W.exmOne K (.ref D.BadText) (.ref D.BallError) = some true
  ex_BadWord_BallError : PySem.W.exmOne K (.ref D.BadWord) (.ref D.BallError) = some true
  ex_TooMany_BallError : PySem.W.exmOne K (.ref D.TooMany) (.ref D.BallError) = some true
  g_LETTERS : ∃ t, mg "LETTERS" = some (.str (S [65, 66, 67, 68, 97, 98, 99, 100]) t)
  g_MOST_LETTERS : ∃ t, mg "MOST_LETTERS" = some (.int 4000 t)
  k_NoneType_Word : PySem.W.kitOne K (.type "NoneType") (.ref D.Word) = some false
  k_Word_Word : PySem.W.kitOne K (.ref D.Word) (.ref D.Word) = some true
  k_Word_str : PySem.W.kitOne K (.ref D.Word) (.type "str") = some false
  k_bool_Word : PySem.W.kitOne K (.type "bool") (.ref D.Word) = some false
  k_int_Word : PySem.W.kitOne K (.type "int") (.ref D.Word) = some false
  k_list_Word : PySem.W.kitOne K (.type "list") (.ref D.Word) = some false
  k_str_Word : PySem.W.kitOne K (.type "str") (.ref D.Word) = some false
  k_tuple_Word : PySem.W.kitOne K (.type "tuple") (.ref D.Word) = some false
  na_Word_letters : NoAttr K D.Word "letters"
  na_Word_size : NoAttr K D.Word "size"
  ti_Word : TyI K D.Word
  xf_BadNumber_part : XfF K D.BadNumber "part"
  xf_BadText_item : XfF K D.BadText "item"
  xf_BadWord_at : XfF K D.BadWord "at"
  xf_TooMany_most : XfF K D.TooMany "most"
  xf_TooMany_what : XfF K D.TooMany "what"
  xi_BadNumber : XiC K D.BadNumber
  xi_BadText : XiC K D.BadText
  xi_BadWord : XiC K D.BadWord
  xi_TooMany : XiC K D.TooMany

/-- an error goes out -/
def Rse (E : XK) (H : Hp) (C : Addr) (fs : List (Str × V)) : Prop := ∀ d, H d = none → E (.ref C) (some d) (upd H d (.xd fs))
variable {D : Ad}
/-! ### rows of letters -/
abbrev st_need_row : Stmt := top 14
theorem sc_need_row : FnScope ["value", "ahead", "at", "sign"] ["value"] (defScope st_need_row) := ⟨rfl, rfl, rfl, by decide +kernel, rfl, by decide +kernel, by decide +kernel⟩
def sp_need_row (K : PySem.W.Frag) (D : Ad) : Sp := fun vs H Q E => ∃ x b, vs = [x] ∧ IsK K H x (.type "str") b ∧ (b = false → Rse E H D.BadWord [("at", .int 0)]) ∧
  (b = true → ∃ w, x = .str (S w) ∧ (fb [] 0 w = none → ∀ H', Same H H' → Q .non H') ∧ (∀ i, fb [] 0 w = some i → ∀ H', Same H H' → Rse E H' D.BadWord [("at", .int (i : Nat))]))
theorem ok_need_row {f : Addr} {fd : FuncData} (F : Fun K "need_row" "need_row" st_need_row f fd) (T : Txt P w K mg base D) : FnOk P w K mg base (L2.CX P w) 1 f fd ["value"] (sp_need_row K D) := by
  refine F.okX sc_need_row (fun vs H Q E h => ?_) (fun cdv A outer s H vs Q E hr h => ?_)
  · obtain ⟨x, b, rfl, _⟩ := h
    rfl
  · obtain ⟨x, b, rfl, h1, h2, h3⟩ := h
    have hu := hr.units
    refine ⟨_, (pss_cons (ps_if (pt_not (pt_val (pe_callB (id := "isinstance") (call_isiEK (K := K)) (by rfl) T.b_isinstance (by decide +kernel) (pa_cons (pv 0) (pa_cons (pe_bltn (v := .ty "str") rfl T.b_str (by decide +kernel) rfl) pa_nil)))))
      (pss_one (ps_raise rfl (takes_of rfl rfl rfl rfl) (pmk_err T.e_BadWord hr (by decide) (pa_cons pe_int pa_nil) T.c_BadWord)))
      pss_nil)
      (pss_cons (ps_asg (pe_S (w := []) (by decide +kernel)) (pg_name (i := 1) sc_need_row.nd rfl (Or.inl rfl)))
      (pss_one (ps_for PassesOwn.leaving rfl (pi_enumS (by rfl) T.b_enumerate (pa_cons (pv 0) pa_nil)) (pg_tup (by rfl) (pgs_cons (pg_name (i := 2) sc_need_row.nd rfl (Or.inl rfl)) (pgs_cons (pg_name (i := 3) sc_need_row.nd rfl (Or.inl rfl)) pgs_nil)))
      (pss_cons (ps_if (PW.pt (pw_or (pt_cmpR (op_niK (K := K)) (pv 3) (pe_gS rfl T.g_LETTERS) rfl) (pw_or1 (pt_cmpR (op_eqK (K := K) hu) (pv 3) (pe_bm0K (K := K) PySem.F.plainAttrs_str PySem.F.slot_str_swapcase PySem.F.type_str_swapcase mb_swapcase (pv 1)) (nomark _)))))
      (pss_one (ps_raise rfl (takes_of rfl rfl rfl rfl) (pmk_err T.e_BadWord hr (by decide) (pa_cons (pv 2) pa_nil) T.c_BadWord)))
      pss_nil)
      (pss_one (ps_asg (pv 3) (pg_name (i := 1) sc_need_row.nd rfl (Or.inl rfl))))))))), ?_⟩
    repeat walk_at "one"
    refine r_isK (.ty "str") h1 ?_
    repeat walk_at "one"
    refine r_ib (fun e => ?_) (fun e => ?_)
    · refine r_mkE ?_
      repeat walk_at "one"
      exact ⟨rfl, h2 (by simpa using e)⟩
    · obtain ⟨w, rfl, h4, h5⟩ := h3 (by simpa using e)
      repeat walk_at "one"
      refine for_enumS (fun i σ H' => Same H H' ∧ fb [] 0 w = fb (ahd w i) i (w.drop i) ∧ AllL (ahd w i) ∧ (ahd w i).length ≤ 1 ∧ ∃ v1 v2, σ = [some (.str (S w)), some (.str (S (ahd w i))), v1, v2]) ⟨Same.refl _, by simp [ahd], by simp [ahd, AllL], by simp [ahd], _, _, rfl⟩ ?_ ?_
      · rintro i c p σ H1 hc ⟨s1, hf, ha, hl1, v1, v2, rfl⟩ hp
        have hdr : w.drop i = c :: w.drop (i + 1) := by
          obtain ⟨hi, e⟩ := List.getElem?_eq_some_iff.mp hc
          rw [← List.getElem_cons_drop hi, e]
        have hnx : ahd w (i + 1) = [c] := by
          show (match w[i]? with | some c => [c] | none => []) = [c]
          rw [hc]
        have s2 : Same H (upd H1 p (.tup [.int (i : Nat), .str (S [c])])) := fun b u e => same_upd hp b u (s1 b u e)
        refine r_up2 (SqT.of upd_same) rfl ?_
        repeat walk_at "one"
        have hbad : badC (ahd w i) c = (!decide (c ∈ [65, 66, 67, 68, 97, 98, 99, 100]) || decide ([c] = (ahd w i).map und)) := by
          unfold badC isL
          congr 2
          rw [Bool.eq_iff_iff]
          simp
        refine r_ib (fun e => ?_) (fun e => ?_)
        · repeat walk_at "one"
          refine r_mkE ?_
          repeat walk_at "one"
          refine ⟨rfl, h5 i ?_ _ s2⟩
          rw [hf, hdr]
          unfold fb
          rw [hbad, e]
          rfl
        · repeat walk_at "one"
          have hlc : isL c = true := isL_iff.mpr (of_decide_eq_true (by simpa only [Bool.not_eq_false'] using e))
          refine q_swap ha (by omega) ?_
          repeat walk_at "one"
          have hb2 : badC (ahd w i) c = decide ([c] = (ahd w i).map und) := by rw [hbad, e, Bool.false_or]
          refine r_ib (fun e => ?_) (fun e => ?_)
          · refine r_mkE ?_
            repeat walk_at "one"
            refine ⟨rfl, h5 i ?_ _ s2⟩
            rw [hf, hdr]
            unfold fb
            rw [hb2, e]
            rfl
          · repeat walk_at "one"
            refine ⟨s2, ?_, ?_, ?_, some (.int (i : Nat)), some (.str (S [c])), ?_⟩
            · rw [hf, hdr, hnx]
              conv => lhs; unfold fb
              rw [hb2, e]
              rfl
            · rw [hnx]
              intro z hz
              rw [List.mem_singleton.mp hz]
              exact hlc
            · rw [hnx]
              exact Nat.le_refl 1
            · rw [hnx]
              rfl
      · rintro σ H' ⟨s1, hf, ha, hl1, v1, v2, rfl⟩
        rw [List.drop_length] at hf
        exact h4 hf H' s1
abbrev st_need_word : Stmt := top 20
theorem sc_need_word : FnScope ["value"] ["value"] (defScope st_need_word) := ⟨rfl, rfl, rfl, by decide +kernel, rfl, by decide +kernel, by decide +kernel⟩
def sp_need_word (K : PySem.W.Frag) (D : Ad) : Sp := fun vs H Q E => ∃ x b, vs = [x] ∧ IsK K H x (.ref D.Word) b ∧ (b = true → Q .non H) ∧ (b = false → Rse E H D.BadWord [("at", .int 0)])
theorem ok_need_word {f : Addr} {fd : FuncData} (F : Fun K "need_word" "need_word" st_need_word f fd) (T : Txt P w K mg base D) : FnOk P w K mg base (L2.CX P w) 1 f fd ["value"] (sp_need_word K D) := by
  refine F.okX sc_need_word (fun vs H Q E h => ?_) (fun cdv A outer s H vs Q E hr h => ?_)
  · obtain ⟨x, b, rfl, _⟩ := h
    rfl
  · obtain ⟨x, b, rfl, h1, h2, h3⟩ := h
    have hu := hr.units
    refine ⟨_, (pss_one (ps_if (pt_not (pt_val (pe_callB (id := "isinstance") (call_isiEK (K := K)) (by rfl) T.b_isinstance (by decide +kernel) (pa_cons (pv 0) (pa_cons (pe_glob (v := .ref D.Word) rfl T.c_Word rfl) pa_nil)))))
      (pss_one (ps_raise rfl (takes_of rfl rfl rfl rfl) (pmk_err T.e_BadWord hr (by decide) (pa_cons pe_int pa_nil) T.c_BadWord)))
      pss_nil)), ?_⟩
    repeat walk_at "one"
    refine r_isK (.own D.Word) h1 ?_
    repeat walk_at "one"
    refine r_ib (fun e => ?_) (fun e => ?_)
    · refine r_mkE ?_
      repeat walk_at "one"
      exact ⟨rfl, h3 (by simpa using e)⟩
    · repeat walk_at "one"
      exact h2 (by simpa using e)
/-- a Word's fields -/
def wf (w : List Nat) : List (Str × V) := putF "size" (.int (w.length : Nat)) (putF "letters" (.str (S w)) [])
theorem sl_ : ¬ (("letters" : Str) = "size") := by decide +kernel
theorem wf_letters (w : List Nat) : (wf w).lookup ("letters" : Str) = some (.str (S w)) := by
  unfold wf
  rw [lookup_putF, if_neg sl_, lookup_putF, if_pos rfl]
theorem wf_size (w : List Nat) : (wf w).lookup ("size" : Str) = some (.int (w.length : Nat)) := by
  unfold wf
  rw [lookup_putF, if_pos rfl]
theorem updd {H : Hp} {p : Addr} {a b : HO} : upd (upd H p a) p b = upd H p b := by
  funext q
  by_cases e : q = p
  · subst e
    rw [upd_same, upd_same]
  · rw [upd_ne e, upd_ne e, upd_ne e]
abbrev st_Word_init : Stmt := inClass (top 21) 0
theorem sc_Word_init : FnScope ["self", "letters"] ["self", "letters"] (defScope st_Word_init) := ⟨rfl, rfl, rfl, by decide +kernel, rfl, by decide +kernel, by decide +kernel⟩
def sp_Word_init (K : PySem.W.Frag) (D : Ad) : Sp := fun vs H Q E => ∃ p dx x b, vs = [.ref p, x] ∧ H p = some (.ins D.Word dx []) ∧ IsK K H x (.type "str") b ∧ (b = false → Rse E H D.BadWord [("at", .int 0)]) ∧
  (b = true → ∃ w, x = .str (S w) ∧ w.length ≤ 1000000 ∧ (∀ i, fb [] 0 w = some i → ∀ H', Same H H' → Rse E H' D.BadWord [("at", .int (i : Nat))]) ∧
    (Good w → 4000 < w.length → ∀ H', Same H H' → Rse E H' D.TooMany [("what", .str (S [108, 101, 116, 116, 101, 114, 115])), ("most", .int 4000)]) ∧
    (Good w → w.length ≤ 4000 → ∀ H', Same H H' → Q .non (upd H' p (.ins D.Word dx (wf w)))))
theorem ok_Word_init {f : Addr} {fd : FuncData} (F : FunD K "__init__" "Word.__init__" (defArgs st_Word_init) (defBody st_Word_init) (defScope st_Word_init) [.str (S [])] [] f fd) (T : Txt P w K mg base D) (d_need_row : CalX P w K mg base 1 "need_row" (sp_need_row K D)) : FnOk P w K mg base (L2.CX P w) 2 f fd ["self", "letters"] (sp_Word_init K D) := by
  refine F.ok (CX := (L2.CX P w)) sc_Word_init (fun vs H Q E h => ?_) (fun cdv A outer s H vs Q E hr h => ?_)
  · obtain ⟨p, dx, x, b, rfl, _⟩ := h
    rfl
  · obtain ⟨p, dx, x, b, rfl, hp, h1, h2, h3⟩ := h
    have hu := hr.units
    refine ⟨_, (pss_cons (ps_expr (pe_cX d_need_row hr (by decide) (passes_call (takes_of rfl rfl rfl rfl) fun _ _ _ _ h => h) (pa_cons (pv 1) pa_nil)))
      (pss_cons (ps_if (pt_cmpR op_gt (pe_callB (id := "len") (call_lenB (K := K)) (by rfl) T.b_len PySem.boot_len (pa_cons (pv 1) pa_nil)) (pe_gI rfl T.g_MOST_LETTERS) (nomark _))
      (pss_one (ps_raise rfl (takes_of rfl rfl rfl rfl) (pmk_err T.e_TooMany hr (by decide) (pa_cons (pe_S (w := [108, 101, 116, 116, 101, 114, 115]) (by decide +kernel)) (pa_cons (pe_gI rfl T.g_MOST_LETTERS) pa_nil)) T.c_TooMany)))
      pss_nil)
      (pss_cons (ps_fld (pv 0) (pv 1) rfl)
      (pss_one (ps_fld (pv 0) (pe_callB (id := "len") (call_lenB (K := K)) (by rfl) T.b_len PySem.boot_len (pa_cons (pv 1) pa_nil)) rfl))))), ?_⟩
    repeat walk_at "one"
    refine ⟨x, b, rfl, h1, h2, fun e => ?_⟩
    obtain ⟨w, rfl, hl, h4, h5, h6⟩ := h3 e
    refine ⟨w, rfl, fun hg H1 s1 => ?_, h4⟩
    repeat walk_at "one"
    refine q_lenS hl ?_
    repeat walk_at "one"
    refine r_ib (fun e => ?_) (fun e => ?_)
    · refine r_mkE ?_
      repeat walk_at "one"
      exact ⟨rfl, h5 hg (by have := of_decide_eq_true e; omega) H1 s1⟩
    · have e := of_decide_eq_false e
      repeat walk_at "one"
      refine ⟨p, D.Word, dx, [], rfl, s1 _ _ hp, T.cl_Word, T.na_Word_letters, by decide, ?_⟩
      repeat walk_at "one"
      refine q_lenS hl ?_
      repeat walk_at "one"
      refine ⟨p, D.Word, dx, _, rfl, upd_same, T.cl_Word, T.na_Word_size, by show 1 < 1000; decide, ?_⟩
      have z := h6 hg (by omega) H1 s1
      rw [updd]
      exact z
abbrev st_undone : Stmt := top 15
theorem sc_undone : FnScope ["letters"] ["letters"] (defScope st_undone) := ⟨rfl, rfl, rfl, by decide +kernel, rfl, by decide +kernel, by decide +kernel⟩
def sp_undone (K : PySem.W.Frag) (D : Ad) : Sp := fun vs H Q _ => ∃ w, vs = [.str (S w)] ∧ AllL w ∧ w.length ≤ 100000 ∧ Q (.str (S (back w))) H
theorem ok_undone {f : Addr} {fd : FuncData} (F : Fun K "undone" "undone" st_undone f fd) (T : Txt P w K mg base D) : FnOk P w K mg base CX0 1 f fd ["letters"] (sp_undone K D) := by
  refine F.ok sc_undone (fun vs H Q E h => ?_) (fun cdv A outer s H vs Q E hr h => ?_)
  · obtain ⟨w, rfl, _⟩ := h
    rfl
  · obtain ⟨w, rfl, hw, hl, q⟩ := h
    have hu := hr.units
    refine ⟨_, (pss_one (ps_ret (pe_bm0K (K := K) PySem.F.plainAttrs_str PySem.F.slot_str_swapcase PySem.F.type_str_swapcase mb_swapcase (pe_revS (pv 0))))), ?_⟩
    walk_at "go"
    refine q_revS (by omega) ?_
    walk_at "go"
    refine q_swap (fun c hc => hw c (List.mem_reverse.mp hc)) (by simp; omega) ?_
    rw [back_rev]
    exact q
def sgn (w : List Nat) : List V := w.map fun c => .str (S [c])
theorem sgn_len (w : List Nat) : (sgn w).length = w.length := by simp [sgn]
theorem sgn_snoc (w : List Nat) (c : Nat) : sgn (w ++ [c]) = sgn w ++ [.str (S [c])] := by simp [sgn]
theorem sgn_init (w : List Nat) : sgn w.dropLast = (sgn w).dropLast := by simp [sgn, List.map_dropLast]
theorem sgn_last {w : List Nat} {c : Nat} (h : atI w (-1) = some c) : atI (sgn w) (-1) = some (.str (S [c])) := by
  by_cases e : w = []
  · subst e; simp [atI, ixN] at h
  · obtain ⟨v, d, rfl⟩ := snoc_of e
    have z : atI (v ++ [d]) (-1) = some d := atI_neg (k := 1) (by decide) (by simp) (by simp)
    rw [z] at h
    cases h
    rw [sgn_snoc]
    exact atI_neg (k := 1) (by decide) (by simp) (by simp [sgn])
theorem sgn_last2 {w : List Nat} {c : Nat} (h : atI w (-1) = some c) : (sgn w)[(sgn w).length - 1]? = some (.str (S [c])) := by
  by_cases e : w = []
  · subst e; simp [atI, ixN] at h
  · obtain ⟨v, d, rfl⟩ := snoc_of e
    have z : atI (v ++ [d]) (-1) = some d := atI_neg (k := 1) (by decide) (by simp) (by simp)
    rw [z] at h
    cases h
    rw [sgn_snoc]
    simp
theorem joinL_one : ∀ (w : List Nat), TL.joinL [] (w.map fun c => [c]) = w
  | [] => rfl
  | [c] => rfl
  | c :: d :: w => by
    have z := joinL_one (d :: w)
    show [c] ++ [] ++ TL.joinL [] ((d :: w).map fun c => [c]) = _
    rw [z]
    rfl
/-- "".join(signs) -/
theorem q_join1 {H : Hp} {Q : VK} {a : Addr} {w : List Nat} (h : SqL K H a (sgn w)) (hl : w.length ≤ 1000000) (q : Q (.str (S w)) H) : rJoin K (.str (S [])) [.ref a] H Q := by
  have e : ((w.map fun c => [c]).map S).map V.str = sgn w := by simp [sgn]
  refine ⟨S [], a, (w.map fun c => [c]).map S, rfl, rfl, .inl (by rw [e]; exact h), ?_, ?_⟩
  · have e2 : (((w.map fun c => [c]).map S).map (·.length)).sum = w.length := by
      rw [List.map_map, List.map_map]
      have : ∀ l : List Nat, (l.map ((fun x : Str => x.length) ∘ S ∘ fun c => [c])).sum = l.length := fun l => by
        induction l with
        | nil => rfl
        | cons c l ih => rw [List.map_cons, List.sum_cons, ih]; simp [S_len]; omega
      exact this w
    rw [e2, S_len]
    simp
    omega
  · rw [SX.join_S, joinL_one]
    exact q
theorem dpC {H : Hp} : ∀ (w : List Nat), DpAll K H (sgn w) (w.map fun c => PyData.str (S [c]))
  | [] => .nil
  | c :: w => .cons (.str _) (dpC w)
theorem lay_sgn {w : List Nat} (h : ∀ c ∈ w, c < 0x110000) : Lay 1 (.list (w.map fun c => PyData.str (S [c]))) := lay_list fun d hd => by
  obtain ⟨c, hc, rfl⟩ := List.mem_map.mp hd
  exact lay_S (by simp [okS, h c hc])
theorem small_L {w : List Nat} (h : AllL w) : ∀ c ∈ w, c < 0x110000 := fun c hc => by
  rcases isL_cases (h c hc) with rfl | rfl | rfl | rfl | rfl | rfl | rfl | rfl <;> decide
end
end Cs


set_option Elab.async false
set_option linter.all false
set_option maxRecDepth 100000
set_option maxHeartbeats 4000000
namespace Cs
open PySem PySem.Spec PyProof.Rows L2 LamX
local macro_rules | `(tactic| walk_at "two") => `(tactic| with_reducible (first
  | refine r_seq ?_ | refine r_nx ?_ | refine r_rt ?_ | refine r_ct ?_ | refine r_bk ?_ | refine r_asg ?_ | refine r_gname ?_ | refine r_ret ?_ | refine r_drop ?_ | refine r_next ?_ | refine r_retN ?_ | refine r_fld ?_ | refine r_gsub ?_ | refine r_brk ?_ | refine r_cont ?_
  | refine r_var rfl ?_ | refine r_c ?_ | refine r_op ?_ | refine r_un ?_ | refine r_test ?_ | refine r_tB ?_ | refine r_bl ?_ | refine r_blv ?_
  | refine r_cons ?_ | refine r_nil ?_ | refine r_lc ?_ | refine r_yes ?_ | refine r_iLT0 ?_ | refine r_iEnumS ?_ | refine r_iEnum ?_ | refine r_iStr ?_ | refine r_iList ?_ | refine r_iRng ?_ | refine r_iRng2 ?_ | refine r_iRng3 ?_ | refine r_iStrS ?_ | refine r_iStrE ?_ | refine r_cb ?_ | refine r_call0 ?_ | refine r_callS ?_ | refine r_callK ?_ | refine r_tup ?_ | refine r_lst ?_ | refine r_make0 ?_ | refine r_attr ?_
  | refine r_sl ?_ | refine r_nopart ?_ | refine r_part ?_ | refine r_parti ?_ | refine r_tyS ?_ | refine r_bm0 ?_ | refine r_bm ?_ | refine r_dnew ?_
  | refine r_and ?_ | refine r_or ?_ | refine r_not ?_ | refine r_andV ?_ | refine r_orV ?_ | refine r_notV ?_ | refine r_if ?_ | refine r_ift ?_ | refine r_iff ?_ | refine r_revL ?_ | refine r_ntt ?_ | refine r_nff ?_ | refine r_itup ?_ | refine r_chain ?_
  | refine r_I0 ?_ | refine r_U ?_ | refine r_addI ?_ | refine r_eqI ?_ | refine r_neI ?_ | refine r_eqS ?_ | refine r_neS ?_ | refine r_eqB ?_ | refine r_neB ?_ | refine r_inS ?_ | refine r_niS ?_ | refine r_int1 ?_ | refine r_abs ?_ | refine r_isN ?_ | refine r_notN ?_
  | refine r_intB ?_ | refine r_max ?_ | refine r_strS ?_ | refine r_isB ?_ | refine r_notB ?_ | refine r_notBI ?_ | refine r_revS ?_ | refine r_sta ?_ | refine r_metA ?_ | refine r_mK1 ?_ | refine r_mD ?_ | refine r_iOwn ?_ | refine r_aug rfl ?_ | refine r_ipI ?_ | refine r_par ?_ | refine r_vw ?_))
local macro_rules | `(tactic| walk_at "one") => `(tactic| first | walk_at "two" | with_reducible (first | refine r_ifs ?_ | refine r_forE ?_))
local macro_rules | `(tactic| walk_at "go") => `(tactic| repeat walk_at "one")
local macro_rules | `(tactic| walk_at "gp") => `(tactic| repeat walk_at "two")

section
variable {P : Program} {w : World} {K : PySem.W.Frag} {mg : Str → Option Value} {base : Heap} {D : Ad}

abbrev st_product : Stmt := top 17
theorem sc_product : FnScope ["one", "other", "many"] ["one", "other"] (defScope st_product) := ⟨rfl, rfl, rfl, by decide +kernel, rfl, by decide +kernel, by decide +kernel⟩
def sp_product (K : PySem.W.Frag) (D : Ad) : Sp := fun vs H Q _ => ∃ a b, vs = [.str (S a), .str (S b)] ∧ Good a ∧ Good b ∧ a.length ≤ 100000 ∧ b.length ≤ 100000 ∧ Q (.str (S (val (a ++ b)))) H
/-- where the striking ends -/
theorem prod_end {a b : List Nat} {m : Nat} (ha : Good a) (hb : Good b) (hm : m ≤ a.length) (hm2 : m ≤ b.length) (hi : val (a ++ b) = val (a.take (a.length - m) ++ b.drop m))
    (he : m < a.length → m < b.length → ∀ c d, a[a.length - 1 - m]? = some c → b[m]? = some d → c ≠ und d) : a.take (a.length - m) ++ b.drop m = val (a ++ b) := by
  rw [hi, val_self]
  refine good_app (good_take ha _) (good_drop hb m) fun c d h1 h2 => ?_
  have hd : b[m]? = some d := by
    rw [List.head?_drop] at h2
    exact h2
  have hm2' : m < b.length := (List.getElem?_eq_some_iff.mp hd).1
  have hne : a.take (a.length - m) ≠ [] := fun z => by rw [z] at h1; cases h1
  have hm' : m < a.length := by
    refine Nat.lt_of_not_le fun z => hne ?_
    have : a.length - m = 0 := by omega
    rw [this]; rfl
  have hc : a[a.length - 1 - m]? = some c := by
    unfold lastL at h1
    have hl : (a.take (a.length - m)).length = a.length - m := by rw [List.length_take]; omega
    rw [hl] at h1
    have z := congrArg (fun l : List Nat => l[0]?) h1
    rw [List.getElem?_drop, List.getElem?_take] at z
    rw [if_pos (by omega)] at z
    have e : a.length - m - 1 + 0 = a.length - 1 - m := by omega
    rw [e] at z
    exact z
  have hdL := good_L hb d (List.mem_of_getElem? hd)
  intro z
  refine he hm' hm2' c d hc hd ?_
  rw [z, und_und (good_L ha c (List.mem_of_getElem? hc))]
theorem prod_step {a b : List Nat} {m c d : Nat} (ha : Good a) (hb : Good b) (h1 : a[a.length - 1 - m]? = some c) (h2 : b[m]? = some d) (hm : m < a.length) (e : c = und d) : a.take (a.length - m) ++ b.drop m = a.take (a.length - (m + 1)) ++ und d :: d :: b.drop (m + 1) := by
  have hb1 : b.drop m = d :: b.drop (m + 1) := by
    obtain ⟨hi, e⟩ := List.getElem?_eq_some_iff.mp h2
    rw [← List.getElem_cons_drop hi, e]
  have ha1 : a.take (a.length - m) = a.take (a.length - (m + 1)) ++ [c] := by
    have e1 : a.length - m = a.length - 1 - m + 1 := by omega
    have e2 : a.length - (m + 1) = a.length - 1 - m := by omega
    rw [e1, e2, take_snoc h1]
  rw [hb1, ha1, e]
  simp
theorem ok_product {f : Addr} {fd : FuncData} (F : Fun K "product" "product" st_product f fd) (T : Txt P w K mg base D) : FnOk P w K mg base CX0 1 f fd ["one", "other"] (sp_product K D) := by
  refine F.ok sc_product (fun vs H Q E h => ?_) (fun cdv A outer s H vs Q E hr h => ?_)
  · obtain ⟨a, b, rfl, _⟩ := h
    rfl
  · obtain ⟨a, b, rfl, ha, hb, hla, hlb, q⟩ := h
    have hu := hr.units
    refine ⟨_, (pss_cons (ps_asg pe_int (pg_name (i := 2) sc_product.nd rfl (Or.inl rfl)))
      (pss_cons (ps_while PassesOwn.never (PW.pt (pw_and (pt_cmpR op_lt (pv 2) (pe_callB (id := "len") (call_lenB (K := K)) (by rfl) T.b_len PySem.boot_len (pa_cons (pv 0) pa_nil)) (nomark _)) (pw_and (pt_cmpR op_lt (pv 2) (pe_callB (id := "len") (call_lenB (K := K)) (by rfl) T.b_len PySem.boot_len (pa_cons (pv 1) pa_nil)) (nomark _)) (pw_and1 (pt_cmpR (op_eqK (K := K) hu) (pe_ix (ix_seqK (K := K)) (pv 0) (pe_op op_sub (pe_op op_sub (pe_callB (id := "len") (call_lenB (K := K)) (by rfl) T.b_len PySem.boot_len (pa_cons (pv 0) pa_nil)) pe_int) (pv 2)) (fun _ _ => rfl)) (pe_bm0K (K := K) PySem.F.plainAttrs_str PySem.F.slot_str_swapcase PySem.F.type_str_swapcase mb_swapcase (pe_ix (ix_seqK (K := K)) (pv 1) (pv 2) (fun _ _ => rfl))) (nomark _))))))
      (pss_one (ps_aug (i := 2) sc_product.nd rfl (Or.inl rfl) pe_int ip_add)))
      (pss_one (ps_ret (pe_op op_addA (pe_slice (sl_anyK (K := K)) (pv 0) po_none (po_some (pe_op op_sub (pe_callB (id := "len") (call_lenB (K := K)) (by rfl) T.b_len PySem.boot_len (pa_cons (pv 0) pa_nil)) (pv 2)))) (pe_slice (sl_anyK (K := K)) (pv 1) (po_some (pv 2)) po_none)))))), ?_⟩
    walk_at "go"
    refine r_wh (fun k σ H' => H' = H ∧ ∃ m : Nat, k = a.length - m ∧ m ≤ a.length ∧ m ≤ b.length ∧ val (a ++ b) = val (a.take (a.length - m) ++ b.drop m) ∧ σ = [some (.str (S a)), some (.str (S b)), some (.int (m : Nat))]) a.length ⟨rfl, 0, by simp, by simp, by simp, by simp, rfl⟩ ?_
    rintro k σ H1 ⟨rfl, m, rfl, hm, hm2, hi, rfl⟩
    have done : (m < a.length → m < b.length → ∀ c d, a[a.length - 1 - m]? = some c → b[m]? = some d → c ≠ und d) → Q (.str (S (a.take (a.length - m) ++ b.drop m))) H1 := fun he => by
      rw [prod_end ha hb hm hm2 hi he]
      exact q
    walk_at "go"
    refine q_lenS (by omega) ?_
    walk_at "go"
    refine r_ib (fun e1 => ?_) (fun e1 => ?_)
    · have e1 : m < a.length := by have := of_decide_eq_true e1; omega
      walk_at "go"
      refine q_lenS (by omega) ?_
      walk_at "go"
      refine r_ib (fun e2 => ?_) (fun e2 => ?_)
      · have e2 : m < b.length := by have := of_decide_eq_true e2; omega
        obtain ⟨c, hc⟩ : ∃ c, a[a.length - 1 - m]? = some c := ⟨a[a.length - 1 - m]'(by omega), by simp⟩
        obtain ⟨d, hd⟩ : ∃ d, b[m]? = some d := ⟨b[m], by simp [e2]⟩
        have hdL := good_L hb d (List.mem_of_getElem? hd)
        walk_at "go"
        refine q_lenS (by omega) ?_
        walk_at "go"
        refine r_ixS (c := c) (by omega) ?_ ?_
        · have e : ((a.length : Nat) : Int) - 1 - (m : Nat) = ((a.length - 1 - m : Nat) : Int) := by omega
          rw [e]
          exact atI_nat hc
        walk_at "go"
        refine r_ixS (by omega) (atI_nat hd) ?_
        walk_at "go"
        refine q_swap (allL_one hdL) (by simp) ?_
        walk_at "go"
        refine r_ib (fun e3 => ?_) (fun e3 => ?_)
        · have e3 : c = und d := by simpa using e3
          refine r_wN ?_
          walk_at "go"
          refine ⟨a.length - (m + 1), by omega, rfl, m + 1, rfl, by omega, by omega, ?_, rfl⟩
          rw [hi, prod_step ha hb hc hd e1 e3]
          have z := val_strike (a := a.take (a.length - (m + 1))) (b := b.drop (m + 1)) (und_L hdL) (allL_drop (good_L hb) _)
          rw [und_und hdL] at z
          exact z
        · have e3 : c ≠ und d := by simpa using e3
          walk_at "go"
          refine q_lenS (by omega) ?_
          walk_at "go"
          refine r_slS (w' := a.take (a.length - m)) ?_ (by omega) ?_
          · have e : ((a.length : Nat) : Int) - (m : Nat) = ((a.length - m : Nat) : Int) := by omega
            rw [e, cut_to]
          walk_at "go"
          refine r_slS (cut_from b m) (by omega) ?_
          walk_at "go"
          refine r_addS (by simp; omega) ?_
          exact done (fun _ _ c' d' h1 h2 => by rw [hc] at h1; rw [hd] at h2; cases h1; cases h2; exact e3)
      · have e2 : ¬ m < b.length := by have := of_decide_eq_false e2; omega
        walk_at "go"
        refine q_lenS (by omega) ?_
        walk_at "go"
        refine r_slS (w' := a.take (a.length - m)) ?_ (by omega) ?_
        · have e : ((a.length : Nat) : Int) - (m : Nat) = ((a.length - m : Nat) : Int) := by omega
          rw [e, cut_to]
        walk_at "go"
        refine r_slS (cut_from b m) (by omega) ?_
        walk_at "go"
        refine r_addS (by simp; omega) ?_
        exact done (fun _ h => absurd h e2)
    · have e1 : ¬ m < a.length := by have := of_decide_eq_false e1; omega
      walk_at "go"
      refine q_lenS (by omega) ?_
      walk_at "go"
      refine r_slS (w' := a.take (a.length - m)) ?_ (by omega) ?_
      · have e : ((a.length : Nat) : Int) - (m : Nat) = ((a.length - m : Nat) : Int) := by omega
        rw [e, cut_to]
      walk_at "go"
      refine r_slS (cut_from b m) (by omega) ?_
      walk_at "go"
      refine r_addS (by simp; omega) ?_
      exact done (fun h => absurd h e1)
/-! ### Word objects -/
theorem q_WordX {E : XK} {H : Hp} {Q : VK} {x : V} {b : Bool} (h : IsK K H x (.type "str") b) (h0 : b = false → ∀ H', Same H H' → Rse E H' D.BadWord [("at", .int 0)])
    (h1 : b = true → ∃ w, x = .str (S w) ∧ w.length ≤ 1000000 ∧ (∀ i, fb [] 0 w = some i → ∀ H', Same H H' → Rse E H' D.BadWord [("at", .int (i : Nat))]) ∧ (Good w → 4000 < w.length → ∀ H', Same H H' → Rse E H' D.TooMany [("what", .str (S [108, 101, 116, 116, 101, 114, 115])), ("most", .int 4000)]) ∧
      (Good w → w.length ≤ 4000 → ∀ p dx H', Same H H' → H p = none → H' p = some (.ins D.Word dx (wf w)) → Q (.ref p) H')) : rMake D.Word (sp_Word_init K D) E [x] H Q := by
  intro p dx hp hd hne
  have s0 : ∀ {H'}, Same (upd (upd H dx (.own p)) p (.ins D.Word dx [])) H' → Same H H' := fun s1 b o e => s1 b o (by rw [upd_ne (ne_of_none e hp), upd_ne (ne_of_none e hd)]; exact e)
  refine ⟨p, dx, x, b, rfl, upd_same, isK_same (s0 (Same.refl _)) h, fun e => h0 e _ (s0 (Same.refl _)), fun e => ?_⟩
  obtain ⟨w, rfl, hl, h2, h3, h4⟩ := h1 e
  refine ⟨w, rfl, hl, fun i hi H' s1 => h2 i hi H' (s0 s1), fun hg h4k H' s1 => h3 hg h4k H' (s0 s1), fun hg h4k H' s1 => ⟨rfl, h4 hg h4k p dx _ (same_mut (s0 s1) hp) hp upd_same⟩⟩
/-- a new Word -/
theorem q_Word {E : XK} {H : Hp} {Q : VK} {w : List Nat} (hg : Good w) (hl : w.length ≤ 4000) (q : ∀ p dx H', Same H H' → H p = none → H' p = some (.ins D.Word dx (wf w)) → Q (.ref p) H') :
    rMake D.Word (sp_Word_init K D) E [.str (S w)] H Q := by
  refine q_WordX (b := true) (isK ty_str (kit_ty (by decide +kernel))) (fun e => nomatch e) fun _ => ⟨w, rfl, by omega, fun i hi => ?_, fun _ h => by omega, fun _ _ => q⟩
  unfold Good at hg
  rw [hg] at hi
  cases hi
theorem q_letters (T : Txt P w K mg base D) {H : Hp} {Q : VK} {p dx : Addr} {u : List Nat} (h : H p = some (.ins D.Word dx (wf u))) (q : Q (.str (S u)) H) : rAttr K "letters" (.ref p) H Q :=
  .inl ⟨p, D.Word, dx, _, _, rfl, h, T.cl_Word, T.na_Word_letters, wf_letters u, q⟩
theorem q_size (T : Txt P w K mg base D) {H : Hp} {Q : VK} {p dx : Addr} {u : List Nat} (h : H p = some (.ins D.Word dx (wf u))) (q : Q (.int (u.length : Nat)) H) : rAttr K "size" (.ref p) H Q :=
  .inl ⟨p, D.Word, dx, _, _, rfl, h, T.cl_Word, T.na_Word_size, wf_size u, q⟩
theorem isW (T : Txt P w K mg base D) {H : Hp} {p dx : Addr} {fs : List (Str × V)} (h : H p = some (.ins D.Word dx fs)) : IsK K H (.ref p) (.ref D.Word) true := isK (ty_ins h T.cl_Word T.ti_Word) T.k_Word_Word
/-- a Word stands at p -/
def WAt (D : Ad) (H : Hp) (p : Addr) (u : List Nat) : Prop := ∃ dx, H p = some (.ins D.Word dx (wf u))
theorem wAt_same {H H' : Hp} {p : Addr} {u : List Nat} (e : Same H H') (h : WAt D H p u) : WAt D H' p u := let ⟨dx, h⟩ := h; ⟨dx, e _ _ h⟩
abbrev st_Word_mul : Stmt := inClass (top 21) 10
theorem sc_Word_mul : FnScope ["self", "other"] ["self", "other"] (defScope st_Word_mul) := ⟨rfl, rfl, rfl, by decide +kernel, rfl, by decide +kernel, by decide +kernel⟩
def sp_Word_mul (K : PySem.W.Frag) (D : Ad) : Sp := fun vs H Q E => ∃ p u y b, vs = [.ref p, y] ∧ WAt D H p u ∧ Good u ∧ u.length ≤ 4000 ∧ IsK K H y (.ref D.Word) b ∧ (b = false → Rse E H D.BadWord [("at", .int 0)]) ∧
  (b = true → ∃ q v, y = .ref q ∧ WAt D H q v ∧ Good v ∧ v.length ≤ 4000 ∧ (4000 < (val (u ++ v)).length → ∀ H', Same H H' → Rse E H' D.TooMany [("what", .str (S [108, 101, 116, 116, 101, 114, 115])), ("most", .int 4000)]) ∧
    ((val (u ++ v)).length ≤ 4000 → ∀ r H', Same H H' → H r = none → WAt D H' r (val (u ++ v)) → Q (.ref r) H'))
theorem ok_Word_mul {f : Addr} {fd : FuncData} (F : Fun K "__mul__" "Word.__mul__" st_Word_mul f fd) (T : Txt P w K mg base D) (d_need_word : CalX P w K mg base 1 "need_word" (sp_need_word K D)) (d_product : CalN P w K mg base 1 "product" (sp_product K D)) (m_Word : MakX P w K mg base 2 "Word" D.Word (sp_Word_init K D)) : FnOk P w K mg base (L2.CX P w) 4 f fd ["self", "other"] (sp_Word_mul K D) := by
  refine F.okX sc_Word_mul (fun vs H Q E h => ?_) (fun cdv A outer s H vs Q E hr h => ?_)
  · obtain ⟨p, u, y, b, rfl, _⟩ := h
    rfl
  · obtain ⟨p, u, y, b, rfl, ⟨dx, hp⟩, hg, hl, h1, h2, h3⟩ := h
    have hu := hr.units
    refine ⟨_, (pss_cons (ps_expr (pe_cX d_need_word hr (by decide) (passes_call (takes_of rfl rfl rfl rfl) fun _ _ _ _ h => h) (pa_cons (pv 1) pa_nil)))
      (pss_one (ps_ret (pe_mX m_Word hr (by decide) (passes_call (takes_of rfl rfl rfl rfl) fun _ _ _ _ h => h) (pa_cons (pe_c0 d_product hr (by decide) (pa_cons (pe_attrK (K := K) (pv 0)) (pa_cons (pe_attrK (K := K) (pv 1)) pa_nil))) pa_nil))))), ?_⟩
    walk_at "go"
    refine ⟨y, b, rfl, h1, fun e => ?_, h2⟩
    obtain ⟨r, v, rfl, ⟨dy, hr⟩, hv, hlv, h4, h5⟩ := h3 e
    walk_at "go"
    refine q_letters T hp ?_
    walk_at "go"
    refine q_letters T hr ?_
    walk_at "go"
    refine ⟨u, v, rfl, hg, hv, by omega, by omega, ?_⟩
    walk_at "go"
    have hvl := val_len (u ++ v)
    rw [List.length_append] at hvl
    have hgp := val_good (allL_app (good_L hg) (good_L hv))
    refine q_WordX (b := true) (isK ty_str (kit_ty (by decide +kernel))) (fun e => nomatch e) fun _ => ⟨val (u ++ v), rfl, by omega, fun i hi => ?_, fun _ h H3 s3 => h4 h H3 s3, fun _ h p dx H3 s3 hp hp3 => h5 h p H3 s3 hp ⟨dx, hp3⟩⟩
    unfold Good at hgp
    rw [hgp] at hi
    cases hi
abbrev st_Word_invert : Stmt := inClass (top 21) 11
theorem sc_Word_invert : FnScope ["self"] ["self"] (defScope st_Word_invert) := ⟨rfl, rfl, rfl, by decide +kernel, rfl, by decide +kernel, by decide +kernel⟩
def sp_Word_invert (K : PySem.W.Frag) (D : Ad) : Sp := fun vs H Q _ => ∃ p u, vs = [.ref p] ∧ WAt D H p u ∧ Good u ∧ u.length ≤ 4000 ∧ ∀ r H', Same H H' → H r = none → WAt D H' r (back u) → Q (.ref r) H'
theorem ok_Word_invert {f : Addr} {fd : FuncData} (F : Fun K "__invert__" "Word.__invert__" st_Word_invert f fd) (T : Txt P w K mg base D) (d_undone : CalN P w K mg base 1 "undone" (sp_undone K D)) (m_Word : MakX P w K mg base 2 "Word" D.Word (sp_Word_init K D)) : FnOk P w K mg base CX0 4 f fd ["self"] (sp_Word_invert K D) := by
  refine F.ok sc_Word_invert (fun vs H Q E h => ?_) (fun cdv A outer s H vs Q E hr h => ?_)
  · obtain ⟨p, u, rfl, _⟩ := h
    rfl
  · obtain ⟨p, u, rfl, ⟨dx, hp⟩, hg, hl, q⟩ := h
    have hu := hr.units
    refine ⟨_, (pss_one (ps_ret (pe_mX m_Word hr (by decide) passL (pa_cons (pe_c0 d_undone hr (by decide) (pa_cons (pe_attrK (K := K) (pv 0)) pa_nil)) pa_nil)))), ?_⟩
    walk_at "go"
    refine q_letters T hp ?_
    walk_at "go"
    refine ⟨u, rfl, good_L hg, by omega, ?_⟩
    walk_at "go"
    exact q_Word (good_back hg) (by rw [back_len]; exact hl) fun r dr H' s1 hr hr1 => q r H' s1 hr ⟨dr, hr1⟩
abbrev st_Word_len : Stmt := inClass (top 21) 12
theorem sc_Word_len : FnScope ["self"] ["self"] (defScope st_Word_len) := ⟨rfl, rfl, rfl, by decide +kernel, rfl, by decide +kernel, by decide +kernel⟩
def sp_Word_len (K : PySem.W.Frag) (D : Ad) : Sp := fun vs H Q _ => ∃ p u, vs = [.ref p] ∧ WAt D H p u ∧ u.length ≤ 4000 ∧ Q (.int (u.length : Nat)) H
theorem ok_Word_len {f : Addr} {fd : FuncData} (F : Fun K "__len__" "Word.__len__" st_Word_len f fd) (T : Txt P w K mg base D) : FnOk P w K mg base CX0 1 f fd ["self"] (sp_Word_len K D) := by
  refine F.ok sc_Word_len (fun vs H Q E h => ?_) (fun cdv A outer s H vs Q E hr h => ?_)
  · obtain ⟨p, u, rfl, _⟩ := h
    rfl
  · obtain ⟨p, u, rfl, ⟨dx, hp⟩, hl, q⟩ := h
    have hu := hr.units
    refine ⟨_, (pss_one (ps_ret (pe_callB (id := "len") (call_lenB (K := K)) (by rfl) T.b_len PySem.boot_len (pa_cons (pe_attrK (K := K) (pv 0)) pa_nil)))), ?_⟩
    walk_at "go"
    refine q_letters T hp ?_
    walk_at "go"
    refine q_lenS (by omega) ?_
    exact q
abbrev st_Word_str : Stmt := inClass (top 21) 20
theorem sc_Word_str : FnScope ["self"] ["self"] (defScope st_Word_str) := ⟨rfl, rfl, rfl, by decide +kernel, rfl, by decide +kernel, by decide +kernel⟩
def sp_Word_str (K : PySem.W.Frag) (D : Ad) : Sp := fun vs H Q _ => ∃ p u, vs = [.ref p] ∧ WAt D H p u ∧ Q (.str (S (if u = [] then [45] else u))) H
theorem ok_Word_str {f : Addr} {fd : FuncData} (F : Fun K "__str__" "Word.__str__" st_Word_str f fd) (T : Txt P w K mg base D) : FnOk P w K mg base CX0 1 f fd ["self"] (sp_Word_str K D) := by
  refine F.ok sc_Word_str (fun vs H Q E h => ?_) (fun cdv A outer s H vs Q E hr h => ?_)
  · obtain ⟨p, u, rfl, _⟩ := h
    rfl
  · obtain ⟨p, u, rfl, ⟨dx, hp⟩, q⟩ := h
    have hu := hr.units
    refine ⟨_, (pss_one (ps_ret (pe_callTy (T := "str") call_strB (by rfl) T.b_str (by decide +kernel) (pa_cons (pe_ifExp (pt_cmpR op_gt (pe_attrK (K := K) (pv 0)) pe_int (nomark _)) (pe_attrK (K := K) (pv 0)) (pe_S (w := [45]) (by decide +kernel))) pa_nil)))), ?_⟩
    walk_at "go"
    refine q_size T hp ?_
    walk_at "go"
    refine r_ib (fun e => ?_) (fun e => ?_)
    · have hne : u ≠ [] := fun z => by subst z; simp at e
      rw [if_neg hne] at q
      walk_at "go"
      refine q_letters T hp ?_
      walk_at "go"
      exact q
    · have hne : u = [] := by
        have := of_decide_eq_false e
        exact List.length_eq_zero_iff.mp (by omega)
      rw [if_pos hne] at q
      walk_at "go"
      exact q
end
end Cs


set_option Elab.async false
set_option linter.all false
set_option maxRecDepth 100000
set_option maxHeartbeats 4000000
namespace Cs
open PySem PySem.Spec PyProof.Rows L2 LamX
local macro_rules | `(tactic| walk_at "two") => `(tactic| with_reducible (first
  | refine r_seq ?_ | refine r_nx ?_ | refine r_rt ?_ | refine r_ct ?_ | refine r_bk ?_ | refine r_asg ?_ | refine r_gname ?_ | refine r_ret ?_ | refine r_drop ?_ | refine r_next ?_ | refine r_retN ?_ | refine r_fld ?_ | refine r_gsub ?_ | refine r_brk ?_ | refine r_cont ?_
  | refine r_var rfl ?_ | refine r_c ?_ | refine r_op ?_ | refine r_un ?_ | refine r_test ?_ | refine r_tB ?_ | refine r_bl ?_ | refine r_blv ?_
  | refine r_cons ?_ | refine r_nil ?_ | refine r_lc ?_ | refine r_yes ?_ | refine r_iLT0 ?_ | refine r_iEnumS ?_ | refine r_iEnum ?_ | refine r_iStr ?_ | refine r_iList ?_ | refine r_iRng ?_ | refine r_iRng2 ?_ | refine r_iRng3 ?_ | refine r_iStrS ?_ | refine r_iStrE ?_ | refine r_cb ?_ | refine r_call0 ?_ | refine r_callS ?_ | refine r_callK ?_ | refine r_tup ?_ | refine r_lst ?_ | refine r_make0 ?_ | refine r_attr ?_
  | refine r_sl ?_ | refine r_nopart ?_ | refine r_part ?_ | refine r_parti ?_ | refine r_tyS ?_ | refine r_bm0 ?_ | refine r_bm ?_ | refine r_dnew ?_
  | refine r_and ?_ | refine r_or ?_ | refine r_not ?_ | refine r_andV ?_ | refine r_orV ?_ | refine r_notV ?_ | refine r_if ?_ | refine r_ift ?_ | refine r_iff ?_ | refine r_revL ?_ | refine r_ntt ?_ | refine r_nff ?_ | refine r_itup ?_ | refine r_chain ?_
  | refine r_I0 ?_ | refine r_U ?_ | refine r_addI ?_ | refine r_eqI ?_ | refine r_neI ?_ | refine r_eqS ?_ | refine r_neS ?_ | refine r_eqB ?_ | refine r_neB ?_ | refine r_inS ?_ | refine r_niS ?_ | refine r_int1 ?_ | refine r_abs ?_ | refine r_isN ?_ | refine r_notN ?_
  | refine r_intB ?_ | refine r_max ?_ | refine r_strS ?_ | refine r_isB ?_ | refine r_notB ?_ | refine r_notBI ?_ | refine r_revS ?_ | refine r_sta ?_ | refine r_metA ?_ | refine r_mK1 ?_ | refine r_mD ?_ | refine r_iOwn ?_ | refine r_aug rfl ?_ | refine r_ipI ?_ | refine r_par ?_ | refine r_vw ?_))
local macro_rules | `(tactic| walk_at "one") => `(tactic| first | walk_at "two" | with_reducible (first | refine r_ifs ?_ | refine r_forE ?_))
local macro_rules | `(tactic| walk_at "go") => `(tactic| repeat walk_at "one")
local macro_rules | `(tactic| walk_at "gp") => `(tactic| repeat walk_at "two")

section
variable {P : Program} {w : World} {K : PySem.W.Frag} {mg : Str → Option Value} {base : Heap} {D : Ad}

abbrev st_Word_eq : Stmt := inClass (top 21) 19
theorem sc_Word_eq : FnScope ["self", "other"] ["self", "other"] (defScope st_Word_eq) := ⟨rfl, rfl, rfl, by decide +kernel, rfl, by decide +kernel, by decide +kernel⟩
def dWd (u : List Nat) : PyData := .tuple [.int (u.length : Nat), .str (S u)]
theorem lay_dWd {u : List Nat} (h : AllL u) : Lay 1 (dWd u) := lay_tuple fun d hd => by
  rcases List.mem_cons.mp hd with rfl | hd
  · exact lay_int
  · rw [List.mem_singleton.mp hd]
    exact lay_S (okS_L h)
theorem eqv_dWd (u v : List Nat) : PyData.eqv (dWd u) (dWd v) = decide (u = v) := by
  rw [Bool.eq_iff_iff]
  simp only [dWd, PyData.eqv, PyData.eqvAll, Bool.and_true, Bool.and_eq_true, decide_eq_true_eq]
  constructor
  · intro h
    have h2 : (S u == S v) = true := by simpa using h.2
    simpa [S_inj] using h2
  · rintro rfl
    simp
theorem dp_dWd {H : Hp} {p : Addr} {u : List Nat} (h : H p = some (.tup [.int (u.length : Nat), .str (S u)])) : Dp K H (.ref p) (dWd u) := .tup (SqT.of h) (.cons (.int _) (.cons (.str _) .nil))
def sp_Word_eq (K : PySem.W.Frag) (D : Ad) : Sp := fun vs H Q _ => ∃ p q u v, vs = [.ref p, .ref q] ∧ WAt D H p u ∧ WAt D H q v ∧ AllL u ∧ AllL v ∧ ∀ H', Same H H' → Q (.bl (decide (u = v))) H'
theorem ok_Word_eq {f : Addr} {fd : FuncData} (F : Fun K "__eq__" "Word.__eq__" st_Word_eq f fd) (T : Txt P w K mg base D) : FnOk P w K mg base CX0 1 f fd ["self", "other"] (sp_Word_eq K D) := by
  refine F.ok sc_Word_eq (fun vs H Q E h => ?_) (fun cdv A outer s H vs Q E hr h => ?_)
  · obtain ⟨p, q, u, v, rfl, _⟩ := h
    rfl
  · obtain ⟨p, r, u, v, rfl, ⟨dx, hp⟩, ⟨dy, hr'⟩, hu1, hv1, q⟩ := h
    have hu := hr.units
    refine ⟨_, (pss_cons (ps_if (pt_not (pt_val (pe_callB (id := "isinstance") (call_isiEK (K := K)) (by rfl) T.b_isinstance (by decide +kernel) (pa_cons (pv 1) (pa_cons (pe_glob (v := .ref D.Word) rfl T.c_Word rfl) pa_nil)))))
      (pss_one ps_never)
      pss_nil)
      (pss_one (ps_ret (pe_cmpR (op_eqK (K := K) hu) (pe_tup (pa_cons (pe_attrK (K := K) (pv 0)) (pa_cons (pe_attrK (K := K) (pv 0)) pa_nil))) (pe_tup (pa_cons (pe_attrK (K := K) (pv 1)) (pa_cons (pe_attrK (K := K) (pv 1)) pa_nil))) (nomark _))))), ?_⟩
    walk_at "go"
    refine r_isK (.own D.Word) (isW T hr') ?_
    walk_at "go"
    refine q_size T hp ?_
    walk_at "go"
    refine q_letters T hp ?_
    walk_at "go"
    refine r_sz (by simp) fun t1 ht1 => ?_
    walk_at "go"
    have s1 := same_upd (o := .tup [V.int (u.length : Nat), .str (S u)]) ht1
    refine q_size T (s1 _ _ hr') ?_
    walk_at "go"
    refine q_letters T (s1 _ _ hr') ?_
    walk_at "go"
    refine r_sz (by simp) fun t2 ht2 => ?_
    have s2 := same_upd (o := .tup [V.int (v.length : Nat), .str (S v)]) ht2
    refine r_eqD (dp_dWd (s2 _ _ upd_same)) (dp_dWd upd_same) (shaped_of (lay_dWd hu1)) (shaped_of (lay_dWd hv1)) ?_
    rw [eqv_dWd]
    exact q _ (s1.trans s2)
theorem ni_Word_eq {f : Addr} {fd : FuncData} (F : Fun K "__eq__" "Word.__eq__" st_Word_eq f fd) (T : Txt P w K mg base D) (hb : Binds K fd ["self", "other"] []) : NiRun P w K mg base 1 D.Word f := by
  refine ni_run F sc_Word_eq hb rfl rfl rfl T.b_NotImplemented (fun cdv A outer s H Q E hr =>
    (pt_not (pt_val (pe_callB (id := "isinstance") (call_isiEK (K := K)) (by rfl) T.b_isinstance (by decide +kernel) (pa_cons (pv 1) (pa_cons (pe_glob (v := .ref D.Word) rfl T.c_Word rfl) pa_nil)))))
    ) (fun H a dx fs y t ha hy => ?_)
  have k : PySem.W.kitOne K (.type t) (.ref D.Word) = some false := by
    cases hy
    · exact T.k_NoneType_Word
    · exact T.k_int_Word
    · exact T.k_bool_Word
    · exact T.k_str_Word
    · exact T.k_list_Word
    · exact T.k_tuple_Word
  walk_at "go"
  refine r_isK (.own D.Word) (isK hy.ty k) ?_
  walk_at "go"
  exact ⟨rfl, rfl⟩
/-- what is wished of an error behind the hearing def -/
def HE (K : PySem.W.Frag) (CS : Addr) (Q : VK) : XK := fun cls d H' => PySem.W.exmOne K cls (.ref CS) = some true ∧ ∀ a, H' a = none → Q (.ref a) (upd H' a (EXV cls d a))
/-- what the hearing def gives of an error -/
theorem heardE {Q : VK} {H : Hp} {C CS : Addr} {fs : List (Str × V)} (hx : PySem.W.exmOne K (.ref C) (.ref CS) = some true) (q : ∀ a d H', Same H H' → H' a = some (EXV (.ref C) (some d) a) → H' d = some (.xd fs) → Q (.ref a) H') :
    Rse (HE K CS Q) H C fs := fun d hd => ⟨hx, fun a ha => by
  have had : a ≠ d := fun z => by rw [z, upd_same] at ha; cases ha
  refine q a d _ ((same_upd hd).trans (same_upd ha)) upd_same ?_
  rw [upd_ne had.symm]
  exact upd_same⟩
theorem r_lamH {Tb : List (Addr × Str)} {CS : Addr} {t : XK → TE} {σ : L2.St} {H : Hp} {Q : VK} (hT : Tabs Tb H) (q : ∀ H1, ExtN H H1 → Tabs Tb H1 → t (HE K CS Q) σ H1 fun _ H' => Q .non H') : tLam Tb (THeard K CS) t σ H Q := r_lam hT q
theorem extN_trans {H H1 H2 : Hp} (a : ExtN H H1) (b : ExtN H1 H2) : ExtN H H2 := a.trans b
theorem tabs_same {Tb : List (Addr × Str)} {H H' : Hp} (t : Tabs Tb H) (e : Same H H') : Tabs Tb H' := t.ext e
/-- an error stands at a -/
def ErrAt (H : Hp) (a C : Addr) (fs : List (Str × V)) : Prop := ∃ d, H a = some (EXV (.ref C) (some d) a) ∧ H d = some (.xd fs)
theorem errAt_ext {H H' : Hp} {a C : Addr} {fs : List (Str × V)} (e : ExtN H H') (h : ErrAt H a C fs) : ErrAt H' a C fs := let ⟨d, h1, h2⟩ := h; ⟨d, e _ _ h1 (fun ps z => by cases z), e _ _ h2 (fun ps z => by cases z)⟩
theorem errAt_lk {P : Pen} {Tb : List (Addr × Str)} {n m : Nat} {H1 H2 H3 : Hp} {a C : Addr} {fs : List (Str × V)} (l : LK P Tb H1 n H2) (l2 : LK P Tb H2 m H3) (h : ErrAt H2 a C fs) : ErrAt H3 a C fs := by
  obtain ⟨d, h1, h2⟩ := h
  obtain ⟨_, _, _, _, _, e⟩ := l.p.ex
  refine ⟨d, l2.k _ _ (fun z => ?_) (fun ps z => by cases z) h1, l2.k _ _ (fun z => ?_) (fun ps z => by cases z) h2⟩
  · rw [z, e] at h1
    cases h1
  · rw [z, e] at h2
    cases h2
theorem err_isK {H : Hp} {a C : Addr} {fs : List (Str × V)} (h : ErrAt H a C fs) (x : XiC K C) : IsK K H (.ref a) (.ref C) true := let ⟨d, h1, h2⟩ := h; .inr ⟨a, C, some d, rfl, h1, fun y e => ⟨_, by cases e; exact h2⟩, x, kit_self⟩
theorem err_at {H : Hp} {a C : Addr} {fs : List (Str × V)} {f : Str} {v : V} {Q : VK} (h : ErrAt H a C fs) (x : XfF K C f) (l : fs.lookup f = some v) (q : Q v H) : rAttr K f (.ref a) H Q := let ⟨d, h1, h2⟩ := h; .inr ⟨a, C, d, _, _, rfl, x, h1, h2, l, q⟩
theorem r_mO {w : List Nat} {n : Int} {Q : VK} {H : Hp} {m : Nat} (e : n = (m : Nat)) (hw : w.length ≤ 1000) (hn : m ≤ 10000) (q : Q (.str (S (List.replicate m w).flatten)) H) : rMulB (.str (S w)) (.int n) H Q := by
  subst e
  exact r_mS hw hn q
theorem cut_toI (w : List Nat) {n : Int} {k : Nat} (e : n = (k : Nat)) : cutS (S w) none (some n) = S (w.take k) := by
  subst e
  exact cut_to w k
theorem cut_fromI (w : List Nat) {n : Int} {k : Nat} (e : n = (k : Nat)) : cutS (S w) (some n) none = S (w.drop k) := by
  subst e
  exact cut_from w k
theorem LK.trans {P : Pen} {Tb : List (Addr × Str)} {n m : Nat} {H1 H2 H3 : Hp} (a : LK P Tb H1 n H2) (b : LK P Tb H2 m H3) : LK P Tb H1 m H3 := ⟨fun c o n1 n2 q => b.k c o n1 n2 (a.k c o n1 n2 q), b.p, b.t⟩
theorem op_binK {X : Cx} {CXc : CXT} {k j : Nat} {C : Addr} {sp : Sp} {E : XK} {op : Operator} {Ts : List String} (c : OwnBin X.prog X.w X.K X.mg X.base CXc k C op Ts sp) (hr : Room j X.A) (hk : k ≤ j) (hx : Passes CXc X E) (hK : X.K = K := by rfl) : OpR X (binaryOp op) (rBin K C Ts sp E) := by
  subst hK
  exact op_bin c hr hk hx
theorem q_eqW {H : Hp} {Q : VK} {Ts : List String} {neg : Bool} {p q : Addr} {u v : List Nat} (h1 : WAt D H p u) (h2 : WAt D H q v) (hu : AllL u) (hv : AllL v) (k : ∀ H', Same H H' → Q (.bl (decide (u = v) != neg)) H') : rEqO neg D.Word Ts (sp_Word_eq K D) (.ref p) (.ref q) H Q := by
  obtain ⟨dx, h1⟩ := h1
  obtain ⟨dy, h2⟩ := h2
  exact r_eqO h1 h2 ⟨p, q, u, v, rfl, ⟨dx, h1⟩, ⟨dy, h2⟩, hu, hv, fun H' s => ⟨_, rfl, k H' s⟩⟩
theorem q_mulW (T : Txt P w K mg base D) {E : XK} {H : Hp} {Q : VK} {Ts : List String} {p q : Addr} {u v : List Nat} (h1 : WAt D H p u) (h2 : WAt D H q v) (hu : Good u) (hv : Good v) (lu : u.length ≤ 4000) (lv : v.length ≤ 4000) (hl : (val (u ++ v)).length ≤ 4000)
    (k : ∀ r H', Same H H' → WAt D H' r (val (u ++ v)) → Q (.ref r) H') : rBin K D.Word Ts (sp_Word_mul K D) E (.ref p) (.ref q) H Q := by
  obtain ⟨dx, h1⟩ := h1
  obtain ⟨dy, h2⟩ := h2
  exact r_bin h1 h2 ⟨p, u, _, true, rfl, ⟨dx, h1⟩, hu, lu, isW T h2, (fun z => nomatch z), fun _ => ⟨q, v, rfl, ⟨dy, h2⟩, hv, lv, (fun h => absurd h (by omega)), fun _ r H' s _ h => k r H' s h⟩⟩
theorem q_invW {H : Hp} {Q : VK} {p : Addr} {u : List Nat} (h1 : WAt D H p u) (hu : Good u) (lu : u.length ≤ 4000) (k : ∀ r H', Same H H' → WAt D H' r (back u) → Q (.ref r) H') : rInv D.Word (sp_Word_invert K D) E0 (.ref p) H Q := by
  obtain ⟨dx, h1⟩ := h1
  exact q_inv h1 ⟨p, u, rfl, ⟨dx, h1⟩, hu, lu, fun r H' s _ h => k r H' s h⟩
theorem q_lettersW (T : Txt P w K mg base D) {H : Hp} {Q : VK} {p : Addr} {u : List Nat} (h : WAt D H p u) (q : Q (.str (S u)) H) : rAttr K "letters" (.ref p) H Q := by
  obtain ⟨dx, h⟩ := h
  exact q_letters T h q
theorem q_newW {E : XK} {H : Hp} {Q : VK} {u : List Nat} (hg : Good u) (hl : u.length ≤ 4000) (k : ∀ r H', Same H H' → WAt D H' r u → Q (.ref r) H') : rMake D.Word (sp_Word_init K D) E [.str (S u)] H Q := q_Word hg hl fun p dx H' s _ h => k p H' s ⟨dx, h⟩
theorem wf_no (u : List Nat) : (wf u).lookup ("fits" : Str) = none := by
  unfold wf
  rw [lookup_putF, if_neg (by decide +kernel), lookup_putF, if_neg (by decide +kernel)]
  rfl
theorem val_nilA {a : List Nat} (ha : Good a) : val (a ++ []) = a := by rw [List.append_nil, val_self ha]
theorem val_cancel1 {a b : List Nat} (ha : Good a) (hb : Good b) : val (val (a ++ b) ++ back b) = a := by
  have haL := good_L ha
  have hbL := good_L hb
  rw [val_left (allL_app haL hbL) (allL_back hbL)]
  have z := val_back (a := a) (b := b) (r := []) hbL (fun c hc => by cases hc)
  rw [List.append_nil, List.append_nil, val_self ha] at z
  exact z
theorem val_cancel2 {a b : List Nat} (ha : Good a) (hb : Good b) : val (back a ++ val (a ++ b)) = b := by
  have haL := good_L ha
  have hbL := good_L hb
  rw [val_right (allL_back haL) (allL_app haL hbL)]
  have z := val_back (a := []) (b := back a) (r := b) (allL_back haL) hbL
  rw [back_back haL] at z
  simp only [List.nil_append] at z
  rw [val_self hb, List.append_assoc] at z
  exact z
theorem val_same {a b : List Nat} (ha : Good a) (hb : Good b) : decide (val (a ++ b) = a) = decide (b = []) := by
  rw [Bool.eq_iff_iff, decide_eq_true_iff, decide_eq_true_iff]
  constructor
  · intro h
    have z := val_cancel2 ha hb
    rw [h, val_back2 (good_L ha)] at z
    exact z.symm
  · rintro rfl
    exact val_nilA ha
theorem tyX_ext {H H' : Hp} {x : V} {t : Value} (e : ExtN H H') (h : TyX K H x t) : TyX K H' x t := by
  have g : ∀ {b : Addr} {o : HO}, (∀ ps, o ≠ .tbl ps) → H b = some o → H' b = some o := fun n h => e _ _ h n
  cases h with
  | base h =>
    cases h with
    | non => exact .base .non
    | bl x => exact .base (.bl x)
    | int x => exact .base (.int x)
    | str x => exact .base (.str x)
    | flt x => exact .base (.flt x)
    | lst h => exact .base (.lst (g (fun ps z => by cases z) h))
    | frz h => exact .base (.frz (g (fun ps z => by cases z) h))
    | tup h => exact .base (.tup (g (fun ps z => by cases z) h))
    | dK h => exact .base (.dK (g (fun ps z => by cases z) h))
    | dT h => exact .base (.dT (g (fun ps z => by cases z) h))
    | ins h c a n k m => exact .base (.ins (g (fun ps z => by cases z) h) c a n k m)
  | byt b => exact .byt b
  | set h => exact .set (g (fun ps z => by cases z) h)
  | kList h c => exact .kList h c
  | kTuple h c => exact .kTuple h c
  | kDict h c => exact .kDict h c
  | fTuple h => exact .fTuple (g (fun ps z => by cases z) h)
  | fDict h => exact .fDict (g (fun ps z => by cases z) h)
/-- the value is of a class (not its own error's) of which isinstance tells b -/
def TyK (K : PySem.W.Frag) (H : Hp) (x : V) (u : Value) (b : Bool) : Prop := ∃ t, TyX K H x t ∧ PySem.W.kitOne K t u = some b
theorem tyK_ext {H H' : Hp} {x : V} {u : Value} {b : Bool} (e : ExtN H H') (h : TyK K H x u b) : TyK K H' x u b := let ⟨t, h, k⟩ := h; ⟨t, tyX_ext e h, k⟩
theorem tyK_is {H : Hp} {x : V} {u : Value} {b : Bool} (h : TyK K H x u b) : IsK K H x u b := .inl h
theorem lk_get {P : Pen} {Tb : List (Addr × Str)} {n m : Nat} {H2 H3 : Hp} {b : Addr} {o : HO} (p : PenAt P n H2) (l : LK P Tb H2 m H3) (h : H2 b = some o) (n1 : ∀ s r, o ≠ penO P s r) (n2 : ∀ ps, o ≠ .tbl ps) : H3 b = some o := by
  obtain ⟨s, r, _, _, _, e⟩ := p.ex
  exact l.k b o (fun z => by rw [z, e] at h; exact n1 _ _ (Option.some.inj h).symm) n2 h
theorem r_disp1 {σ : L2.St} {H : Hp} {Q : VK} {z : Str} {v : V} (q : ∀ p, H p = none → Q (.ref p) (upd H p (.dK [(.inr z, v)]))) : tDisp [(tC (.str z), tC v)] σ H Q := fun p hp => by
  refine ⟨upd_same, [(.inr z, v)], rfl, by simp, ?_⟩
  rw [updd]
  exact q p hp
theorem bv_ext {H H' : Hp} {y : V} {t : String} (e : ExtN H H') (h : BV H y t) : BV H' y t := by
  cases h with
  | non => exact .non
  | int n => exact .int n
  | bl n => exact .bl n
  | str n => exact .str n
  | lst h => exact .lst (e _ _ h (fun ps z => by cases z))
  | tup h => exact .tup (e _ _ h (fun ps z => by cases z))
theorem wAt_ext {H H' : Hp} {p : Addr} {u : List Nat} (e : ExtN H H') (h : WAt D H p u) : WAt D H' p u := let ⟨dx, h⟩ := h; ⟨dx, e _ _ h (fun ps z => by cases z)⟩
end
end Cs


set_option Elab.async false
set_option linter.all false
set_option maxRecDepth 100000
set_option maxHeartbeats 4000000
namespace Cs
open PySem PySem.Spec PyProof.Rows L2 LamX
local macro_rules | `(tactic| walk_at "two") => `(tactic| with_reducible (first
  | refine r_seq ?_ | refine r_nx ?_ | refine r_rt ?_ | refine r_ct ?_ | refine r_bk ?_ | refine r_asg ?_ | refine r_gname ?_ | refine r_ret ?_ | refine r_drop ?_ | refine r_next ?_ | refine r_retN ?_ | refine r_fld ?_ | refine r_gsub ?_ | refine r_brk ?_ | refine r_cont ?_
  | refine r_var rfl ?_ | refine r_c ?_ | refine r_op ?_ | refine r_un ?_ | refine r_test ?_ | refine r_tB ?_ | refine r_bl ?_ | refine r_blv ?_
  | refine r_cons ?_ | refine r_nil ?_ | refine r_lc ?_ | refine r_yes ?_ | refine r_iLT0 ?_ | refine r_iEnumS ?_ | refine r_iEnum ?_ | refine r_iStr ?_ | refine r_iList ?_ | refine r_iRng ?_ | refine r_iRng2 ?_ | refine r_iRng3 ?_ | refine r_iStrS ?_ | refine r_iStrE ?_ | refine r_cb ?_ | refine r_call0 ?_ | refine r_callS ?_ | refine r_callK ?_ | refine r_tup ?_ | refine r_lst ?_ | refine r_make0 ?_ | refine r_attr ?_
  | refine r_sl ?_ | refine r_nopart ?_ | refine r_part ?_ | refine r_parti ?_ | refine r_tyS ?_ | refine r_bm0 ?_ | refine r_bm ?_ | refine r_dnew ?_
  | refine r_and ?_ | refine r_or ?_ | refine r_not ?_ | refine r_andV ?_ | refine r_orV ?_ | refine r_notV ?_ | refine r_if ?_ | refine r_ift ?_ | refine r_iff ?_ | refine r_revL ?_ | refine r_ntt ?_ | refine r_nff ?_ | refine r_itup ?_ | refine r_chain ?_
  | refine r_I0 ?_ | refine r_U ?_ | refine r_addI ?_ | refine r_eqI ?_ | refine r_neI ?_ | refine r_eqS ?_ | refine r_neS ?_ | refine r_eqB ?_ | refine r_neB ?_ | refine r_inS ?_ | refine r_niS ?_ | refine r_int1 ?_ | refine r_abs ?_ | refine r_isN ?_ | refine r_notN ?_
  | refine r_intB ?_ | refine r_max ?_ | refine r_strS ?_ | refine r_isB ?_ | refine r_notB ?_ | refine r_notBI ?_ | refine r_revS ?_ | refine r_sta ?_ | refine r_metA ?_ | refine r_mK1 ?_ | refine r_mD ?_ | refine r_iOwn ?_ | refine r_aug rfl ?_ | refine r_ipI ?_ | refine r_par ?_ | refine r_vw ?_))
local macro_rules | `(tactic| walk_at "one") => `(tactic| first | walk_at "two" | with_reducible (first | refine r_ifs ?_ | refine r_forE ?_))
local macro_rules | `(tactic| walk_at "go") => `(tactic| repeat walk_at "one")
local macro_rules | `(tactic| walk_at "gp") => `(tactic| repeat walk_at "two")

section
variable {P : Program} {w : World} {K : PySem.W.Frag} {mg : Str → Option Value} {base : Heap} {D : Ad}

open Rp
theorem wf_no4 (u : List Nat) : (wf u).lookup ("power" : Str) = none ∧ (wf u).lookup ("root" : Str) = none ∧ (wf u).lookup ("core" : Str) = none := by
  unfold wf
  refine ⟨?_, ?_, ?_⟩ <;> (rw [lookup_putF, if_neg (by decide +kernel), lookup_putF, if_neg (by decide +kernel)]; rfl)
abbrev st_is_integer : Stmt := top 9
theorem sc_is_integer : FnScope ["value"] ["value"] (defScope st_is_integer) := ⟨rfl, rfl, rfl, by decide +kernel, rfl, by decide +kernel, by decide +kernel⟩
def sp_is_integer (K : PySem.W.Frag) (D : Ad) : Sp := fun vs H Q _ => ∃ x b1 b2, vs = [x] ∧ IsK K H x (.type "int") b1 ∧ IsK K H x (.type "bool") b2 ∧ Q (.bl (b1 && !b2)) H
theorem ok_is_integer {f : Addr} {fd : FuncData} (F : Fun K "is_integer" "is_integer" st_is_integer f fd) (T : Txt P w K mg base D) : FnOk P w K mg base CX0 1 f fd ["value"] (sp_is_integer K D) := by
  refine F.ok sc_is_integer (fun vs H Q E h => ?_) (fun cdv A outer s H vs Q E hr h => ?_)
  · obtain ⟨x, b1, b2, rfl, _⟩ := h
    rfl
  · obtain ⟨x, b1, b2, rfl, h1, h2, q⟩ := h
    have hu := hr.units
    refine ⟨_, (pss_one (ps_ret (pe_and (pe_callB (id := "isinstance") (call_isiEK (K := K)) (by rfl) T.b_isinstance (by decide +kernel) (pa_cons (pv 0) (pa_cons (pe_bltn (v := .ty "int") rfl T.b_int (by decide +kernel) rfl) pa_nil))) (pe_one (pe_not (pe_callB (id := "isinstance") (call_isiEK (K := K)) (by rfl) T.b_isinstance (by decide +kernel) (pa_cons (pv 0) (pa_cons (pe_bltn (v := .ty "bool") rfl T.b_bool (by decide +kernel) rfl) pa_nil)))))))), ?_⟩
    repeat walk_at "one"
    refine r_isK (.ty "int") h1 ?_
    repeat walk_at "one"
    refine r_ib (fun e => ?_) (fun e => ?_)
    · subst e
      repeat walk_at "one"
      refine r_isK (.ty "bool") h2 ?_
      repeat walk_at "one"
      exact q
    · subst e
      exact q
abbrev st_is_letter : Stmt := top 10
theorem sc_is_letter : FnScope ["value"] ["value"] (defScope st_is_letter) := ⟨rfl, rfl, rfl, by decide +kernel, rfl, by decide +kernel, by decide +kernel⟩
def sp_is_letter (K : PySem.W.Frag) (D : Ad) : Sp := fun vs H Q _ => ∃ c, vs = [.str (S [c])] ∧ Q (.bl (isL c)) H
theorem ok_is_letter {f : Addr} {fd : FuncData} (F : Fun K "is_letter" "is_letter" st_is_letter f fd) (T : Txt P w K mg base D) : FnOk P w K mg base CX0 1 f fd ["value"] (sp_is_letter K D) := by
  refine F.ok sc_is_letter (fun vs H Q E h => ?_) (fun cdv A outer s H vs Q E hr h => ?_)
  · obtain ⟨c, rfl, _⟩ := h
    rfl
  · obtain ⟨c, rfl, q⟩ := h
    have hu := hr.units
    refine ⟨_, (pss_one (ps_ret (pe_and (pe_callB (id := "isinstance") (call_isiEK (K := K)) (by rfl) T.b_isinstance (by decide +kernel) (pa_cons (pv 0) (pa_cons (pe_bltn (v := .ty "str") rfl T.b_str (by decide +kernel) rfl) pa_nil))) (pe_and (pe_cmpR (op_eqK (K := K) hu) (pe_callB (id := "len") (call_lenB (K := K)) (by rfl) T.b_len PySem.boot_len (pa_cons (pv 0) pa_nil)) pe_int (nomark _)) (pe_one (pe_cmpR (op_inK (K := K)) (pv 0) (pe_gS rfl T.g_LETTERS) rfl)))))), ?_⟩
    walk_at "go"
    refine r_isK (.ty "str") (b := true) (isK ty_str (kit_ty (by decide +kernel))) ?_
    walk_at "go"
    refine q_lenS (by simp) ?_
    walk_at "go"
    refine r_it (decide_eq_true rfl) ?_
    walk_at "go"
    have e : isL c = decide (c ∈ [65, 66, 67, 68, 97, 98, 99, 100]) := by
      rw [Bool.eq_iff_iff, decide_eq_true_iff]
      exact isL_iff
    rw [← e]
    exact q
abbrev st_is_row : Stmt := top 22
theorem sc_is_row : FnScope ["text", "ahead", "sign"] ["text"] (defScope st_is_row) := ⟨rfl, rfl, rfl, by decide +kernel, rfl, by decide +kernel, by decide +kernel⟩
def sp_is_row (K : PySem.W.Frag) (D : Ad) : Sp := fun vs H Q _ => ∃ w, vs = [.str (S w)] ∧ Q (.bl (gd [] w)) H
theorem ok_is_row {f : Addr} {fd : FuncData} (F : Fun K "is_row" "is_row" st_is_row f fd) (T : Txt P w K mg base D) (d_is_letter : CalN P w K mg base 1 "is_letter" (sp_is_letter K D)) : FnOk P w K mg base CX0 2 f fd ["text"] (sp_is_row K D) := by
  refine F.ok sc_is_row (fun vs H Q E h => ?_) (fun cdv A outer s H vs Q E hr h => ?_)
  · obtain ⟨w, rfl, _⟩ := h
    rfl
  · obtain ⟨w, rfl, q⟩ := h
    have hu := hr.units
    refine ⟨_, (pss_cons (ps_asg (pe_S (w := []) (by decide +kernel)) (pg_name (i := 1) sc_is_row.nd rfl (Or.inl rfl)))
      (pss_cons (ps_for PassesOwn.never rfl (pi_str (pv 0)) (pg_name (i := 2) sc_is_row.nd rfl (Or.inl rfl))
      (pss_cons (ps_if (PW.pt (pw_or (pt_not (pt_val (pe_c0 d_is_letter hr (by decide) (pa_cons (pv 2) pa_nil)))) (pw_or1 (pt_cmpR (op_eqK (K := K) hu) (pv 2) (pe_bm0K (K := K) PySem.F.plainAttrs_str PySem.F.slot_str_swapcase PySem.F.type_str_swapcase mb_swapcase (pv 1)) (nomark _)))))
      (pss_one (ps_ret pe_bl))
      pss_nil)
      (pss_one (ps_asg (pv 2) (pg_name (i := 1) sc_is_row.nd rfl (Or.inl rfl))))))
      (pss_one (ps_ret pe_bl)))), ?_⟩
    walk_at "go"
    refine for_S (fun i σ H' => H' = H ∧ gd [] w = gd (ahd w i) (w.drop i) ∧ AllL (ahd w i) ∧ (ahd w i).length ≤ 1 ∧ ∃ v1, σ = [some (.str (S w)), some (.str (S (ahd w i))), v1]) ⟨rfl, by simp [ahd], by simp [ahd, AllL], by simp [ahd], _, rfl⟩ ?_ ?_
    · rintro i c σ H1 hc ⟨rfl, hf, ha, hl1, v1, rfl⟩
      have hdr : w.drop i = c :: w.drop (i + 1) := by
        obtain ⟨hi, e⟩ := List.getElem?_eq_some_iff.mp hc
        rw [← List.getElem_cons_drop hi, e]
      have hnx : ahd w (i + 1) = [c] := by
        show (match w[i]? with | some c => [c] | none => []) = [c]
        rw [hc]
      have hbad : badC (ahd w i) c = (!isL c || decide ([c] = (ahd w i).map und)) := rfl
      rw [hdr] at hf
      conv at hf => rhs; unfold gd
      walk_at "go"
      refine ⟨c, rfl, ?_⟩
      walk_at "go"
      refine r_ib (fun e => ?_) (fun e => ?_)
      · walk_at "go"
        rw [hf, hbad, e] at q
        exact q
      · have hlc : isL c = true := by simpa using e
        walk_at "go"
        refine q_swap ha (by omega) ?_
        walk_at "go"
        refine r_ib (fun e2 => ?_) (fun e2 => ?_)
        · walk_at "go"
          rw [hf, hbad, e2, Bool.or_true] at q
          exact q
        · walk_at "go"
          refine ⟨rfl, ?_, ?_, ?_, some (.str (S [c])), ?_⟩
          · rw [hf, hbad, e2, hlc, hnx]
            rfl
          · rw [hnx]
            exact allL_one hlc
          · rw [hnx]
            exact Nat.le_refl 1
          · rw [hnx]
            rfl
    · rintro σ H' ⟨rfl, hf, ha, hl1, v1, rfl⟩
      walk_at "go"
      rw [List.drop_length] at hf
      rw [hf] at q
      exact q
abbrev st_lone : Stmt := top 23
theorem sc_lone : FnScope ["items", "letters"] ["items", "letters"] (defScope st_lone) := ⟨rfl, rfl, rfl, by decide +kernel, rfl, by decide +kernel, by decide +kernel⟩
def sp_lone (K : PySem.W.Frag) (D : Ad) : Sp := fun vs H Q E => ∃ a xs u, vs = [.ref a, .str (S u)] ∧ SqL K H a xs ∧ Good u ∧ u.length ≤ 4000 ∧ (1 < xs.length → Rse E H D.BadText [("item", .int 1)]) ∧
  (xs.length ≤ 1 → ∀ p H', Same H H' → H p = none → WAt D H' p u → Q (.ref p) H')
theorem ok_lone {f : Addr} {fd : FuncData} (F : Fun K "lone" "lone" st_lone f fd) (T : Txt P w K mg base D) (m_Word : MakX P w K mg base 2 "Word" D.Word (sp_Word_init K D)) : FnOk P w K mg base (L2.CX P w) 4 f fd ["items", "letters"] (sp_lone K D) := by
  refine F.okX sc_lone (fun vs H Q E h => ?_) (fun cdv A outer s H vs Q E hr h => ?_)
  · obtain ⟨a, xs, u, rfl, _⟩ := h
    rfl
  · obtain ⟨a, xs, u, rfl, ha, hg, hl, h1, h2⟩ := h
    have hu := hr.units
    refine ⟨_, (pss_cons (ps_if (pt_cmpR op_gt (pe_callB (id := "len") (call_lenB (K := K)) (by rfl) T.b_len PySem.boot_len (pa_cons (pv 0) pa_nil)) pe_int (nomark _))
      (pss_one (ps_raise rfl (takes_of rfl rfl rfl rfl) (pmk_err T.e_BadText hr (by decide) (pa_cons pe_int pa_nil) T.c_BadText)))
      pss_nil)
      (pss_one (ps_ret (pe_mX m_Word hr (by decide) (passes_call (takes_of rfl rfl rfl rfl) fun _ _ _ _ h => h) (pa_cons (pv 1) pa_nil))))), ?_⟩
    walk_at "go"
    refine q_lenL ha ?_
    walk_at "go"
    refine r_ib (fun e => ?_) (fun e => ?_)
    · refine r_mkE ?_
      walk_at "go"
      exact ⟨rfl, h1 (by have := of_decide_eq_true e; omega)⟩
    · walk_at "go"
      exact q_Word hg hl fun p dx H' s hp hp' => h2 (by have := of_decide_eq_false e; omega) p H' s hp ⟨dx, hp'⟩
abbrev st_coat_of : Stmt := top 18
theorem sc_coat_of : FnScope ["letters", "many"] ["letters"] (defScope st_coat_of) := ⟨rfl, rfl, rfl, by decide +kernel, rfl, by decide +kernel, by decide +kernel⟩
def sp_coat_of (K : PySem.W.Frag) (D : Ad) : Sp := fun vs H Q _ => ∃ w, vs = [.str (S w)] ∧ AllL w ∧ w.length ≤ 100000 ∧ Q (.int (coat w : Nat)) H
theorem ok_coat_of {f : Addr} {fd : FuncData} (F : Fun K "coat_of" "coat_of" st_coat_of f fd) (T : Txt P w K mg base D) : FnOk P w K mg base CX0 1 f fd ["letters"] (sp_coat_of K D) := by
  refine F.ok sc_coat_of (fun vs H Q E h => ?_) (fun cdv A outer s H vs Q E hr h => ?_)
  · obtain ⟨w, rfl, _⟩ := h
    rfl
  · obtain ⟨w, rfl, hw, hl, q⟩ := h
    have hu := hr.units
    refine ⟨_, (pss_cons (ps_asg pe_int (pg_name (i := 1) sc_coat_of.nd rfl (Or.inl rfl)))
      (pss_cons (ps_while PassesOwn.never (PW.pt (pw_and (pt_cmpR op_lt (pe_op op_addA (pe_op op_mulB pe_int (pv 1)) pe_int) (pe_callB (id := "len") (call_lenB (K := K)) (by rfl) T.b_len PySem.boot_len (pa_cons (pv 0) pa_nil)) (nomark _)) (pw_and1 (pt_cmpR (op_eqK (K := K) hu) (pe_ix (ix_seqK (K := K)) (pv 0) (pv 1) (fun _ _ => rfl)) (pe_bm0K (K := K) PySem.F.plainAttrs_str PySem.F.slot_str_swapcase PySem.F.type_str_swapcase mb_swapcase (pe_ix (ix_seqK (K := K)) (pv 0) (pe_op op_sub (pe_op op_sub (pe_callB (id := "len") (call_lenB (K := K)) (by rfl) T.b_len PySem.boot_len (pa_cons (pv 0) pa_nil)) pe_int) (pv 1)) (fun _ _ => rfl))) (nomark _)))))
      (pss_one (ps_aug (i := 1) sc_coat_of.nd rfl (Or.inl rfl) pe_int ip_add)))
      (pss_one (ps_ret (pv 1))))), ?_⟩
    walk_at "go"
    refine r_wh (fun k σ H' => H' = H ∧ ∃ m : Nat, k = w.length - m ∧ m ≤ w.length ∧ coat w = coatF w (w.length - m) m ∧ σ = [some (.str (S w)), some (.int (m : Nat))]) w.length ⟨rfl, 0, by simp, by simp, rfl, rfl⟩ ?_
    rintro k σ H1 ⟨rfl, m, rfl, hm, hi, rfl⟩
    have done : coatB w m = false → Q (.int (m : Nat)) H1 := fun h => by
      have e : coat w = m := by
        rw [hi]
        cases hk : w.length - m with
        | zero => rfl
        | succ n =>
          unfold coatF
          rw [h]
          rfl
      rw [e] at q
      exact q
    walk_at "go"
    refine r_mI (wm (n := 64) (m := 64) (by omega) (by omega)) ?_
    walk_at "go"
    refine q_lenS (by omega) ?_
    walk_at "go"
    refine r_ib (fun e1 => ?_) (fun e1 => ?_)
    · have e1 : 2 * m + 1 < w.length := by have := of_decide_eq_true e1; omega
      obtain ⟨c, hc⟩ : ∃ c, w[m]? = some c := ⟨w[m]'(by omega), by simp⟩
      obtain ⟨d, hd⟩ : ∃ d, w[w.length - 1 - m]? = some d := ⟨w[w.length - 1 - m]'(by omega), by simp⟩
      have hdL := hw d (List.mem_of_getElem? hd)
      have hB : coatB w m = decide (c = und d) := by
        unfold coatB
        rw [decide_eq_true e1, hc, hd, Bool.true_and]
        simp
      walk_at "go"
      refine r_ixS (by omega) (atI_nat hc) ?_
      walk_at "go"
      refine q_lenS (by omega) ?_
      walk_at "go"
      refine r_ixS (c := d) (by omega) ?_ ?_
      · have e : ((w.length : Nat) : Int) - 1 - (m : Nat) = ((w.length - 1 - m : Nat) : Int) := by omega
        rw [e]
        exact atI_nat hd
      walk_at "go"
      refine q_swap (allL_one hdL) (by simp) ?_
      walk_at "go"
      refine r_ib (fun e3 => ?_) (fun e3 => ?_)
      · have e3 : c = und d := by simpa using e3
        refine r_wN ?_
        walk_at "go"
        refine ⟨w.length - (m + 1), by omega, rfl, m + 1, rfl, by omega, ?_, rfl⟩
        rw [hi]
        have hk : w.length - m = (w.length - (m + 1)) + 1 := by omega
        rw [hk]
        conv => lhs; unfold coatF
        rw [hB, decide_eq_true e3, if_pos rfl]
      · have e3 : c ≠ und d := by simpa using e3
        walk_at "go"
        exact done (by rw [hB]; exact decide_eq_false e3)
    · have e1 : ¬ 2 * m + 1 < w.length := by have := of_decide_eq_false e1; omega
      walk_at "go"
      exact done (by unfold coatB; rw [decide_eq_false e1, Bool.false_and])
abbrev st_period_of : Stmt := top 19
theorem sc_period_of : FnScope ["letters", "many"] ["letters"] (defScope st_period_of) := ⟨rfl, rfl, rfl, by decide +kernel, rfl, by decide +kernel, by decide +kernel⟩
def sp_period_of (K : PySem.W.Frag) (D : Ad) : Sp := fun vs H Q _ => ∃ w, vs = [.str (S w)] ∧ w ≠ [] ∧ w.length ≤ 1000 ∧ Q (.int (per w : Nat)) H
theorem ok_period_of {f : Addr} {fd : FuncData} (F : Fun K "period_of" "period_of" st_period_of f fd) (T : Txt P w K mg base D) : FnOk P w K mg base CX0 1 f fd ["letters"] (sp_period_of K D) := by
  refine F.ok sc_period_of (fun vs H Q E h => ?_) (fun cdv A outer s H vs Q E hr h => ?_)
  · obtain ⟨w, rfl, _⟩ := h
    rfl
  · obtain ⟨w, rfl, hw, hl, q⟩ := h
    have hu := hr.units
    refine ⟨_, (pss_cons (ps_for PassesOwn.never rfl (pi_range2 rfl T.b_range (pa_cons pe_int (pa_cons (pe_op op_addA (pe_callB (id := "len") (call_lenB (K := K)) (by rfl) T.b_len PySem.boot_len (pa_cons (pv 0) pa_nil)) pe_int) pa_nil))) (pg_name (i := 1) sc_period_of.nd rfl (Or.inl rfl))
      (pss_one (ps_if (PW.pt (pw_and (pt_cmpR (op_eqK (K := K) hu) (pe_op op_mod (pe_callB (id := "len") (call_lenB (K := K)) (by rfl) T.b_len PySem.boot_len (pa_cons (pv 0) pa_nil)) (pv 1)) pe_int (nomark _)) (pw_and1 (pt_cmpR (op_eqK (K := K) hu) (pv 0) (pe_op op_mulB (pe_slice (sl_anyK (K := K)) (pv 0) po_none (po_some (pv 1))) (pe_op op_fdivW (pe_callB (id := "len") (call_lenB (K := K)) (by rfl) T.b_len PySem.boot_len (pa_cons (pv 0) pa_nil)) (pv 1))) (nomark _)))))
      (pss_one (ps_ret (pv 1)))
      pss_nil)))
      (pss_one (ps_ret pe_int))), ?_⟩
    have hpos : 0 < w.length := List.length_pos_iff.mpr hw
    walk_at "go"
    refine q_lenS (by omega) ?_
    walk_at "go"
    refine ⟨_, _, rfl, ⟨by omega, by omega, by omega, by omega⟩, ?_⟩
    have en : (((w.length : Nat) : Int) + 1 - 1).toNat = w.length := by omega
    rw [en]
    refine for_it walk_range (fun i σ H' => H' = H ∧ (∀ k, 1 ≤ k → k ≤ i → unitB w k = false) ∧ ∃ v1, σ = [some (.str (S w)), v1]) ⟨rfl, fun k h1 h2 => absurd h1 (by omega), _, rfl⟩ (fun _ _ _ _ _ => trivial) ?_ ?_
    · rintro i x σ H1 H2 hi ⟨rfl, hf, v1, rfl⟩ ⟨rfl, rfl⟩
      have em : (1 : Int) + (i : Nat) = ((i + 1 : Nat) : Int) := by omega
      show gName 1 (V.int ((1 : Int) + (i : Nat))) _ _ _
      rw [em]
      walk_at "go"
      refine q_lenS (by omega) ?_
      walk_at "go"
      refine r_mod (by omega) ?_
      walk_at "go"
      have e0 : decide (((w.length : Nat) : Int) % ((i + 1 : Nat) : Int) = 0) = decide (w.length % (i + 1) = 0) := by
        rw [← Int.natCast_emod, Bool.eq_iff_iff, decide_eq_true_iff, decide_eq_true_iff]
        omega
      rw [e0]
      have no : unitB w (i + 1) = false → (H2 = H2 ∧ (∀ k, 1 ≤ k → k ≤ i + 1 → unitB w k = false) ∧ ∃ v1, [some (V.str (S w)), some (V.int ((i + 1 : Nat) : Int))] = [some (V.str (S w)), v1]) := fun h =>
        ⟨rfl, fun k h1 h2 => by
          by_cases e : k = i + 1
          · rw [e]; exact h
          · exact hf k h1 (by omega), _, rfl⟩
      refine r_ib (fun e1 => ?_) (fun e1 => ?_)
      · walk_at "go"
        refine r_slS (cut_to w (i + 1)) (by omega) ?_
        walk_at "go"
        refine q_lenS (by omega) ?_
        walk_at "go"
        refine r_fdivH (by omega) (by omega) ?_
        have ed : ((w.length : Nat) : Int) / ((i + 1 : Nat) : Int) = ((w.length / (i + 1) : Nat) : Int) := (Int.natCast_ediv _ _).symm
        have hdl : w.length / (i + 1) ≤ w.length := Nat.div_le_self _ _
        refine r_mO ed (by simp; omega) (by omega) ?_
        walk_at "go"
        have hB : unitB w (i + 1) = decide (w = rep (w.length / (i + 1)) (w.take (i + 1))) := by
          unfold unitB
          rw [e1, Bool.true_and]
        refine r_ib (fun e2 => ?_) (fun e2 => ?_)
        · walk_at "go"
          obtain ⟨p1, p2, p3, p4⟩ := per_spec hw
          have hu : unitB w (i + 1) = true := by rw [hB]; exact e2
          have e : per w = i + 1 := by
            refine Nat.le_antisymm (Nat.le_of_not_lt fun z => ?_) (Nat.le_of_not_lt fun z => ?_)
            · have := p4 (i + 1) (by omega) z
              rw [hu] at this
              cases this
            · have := hf (per w) p2 (by omega)
              rw [p1] at this
              cases this
          rw [e] at q
          exact q
        · walk_at "go"
          exact no (by rw [hB]; exact e2)
      · walk_at "go"
        exact no (by unfold unitB; rw [e1, Bool.false_and])
    · rintro σ H' ⟨rfl, hf, v1, rfl⟩
      have := hf w.length hpos (Nat.le_refl _)
      rw [unit_all] at this
      cases this
end
end Cs


set_option Elab.async false
set_option linter.all false
set_option maxRecDepth 100000
set_option maxHeartbeats 4000000
namespace Cs
open PySem PySem.Spec PyProof.Rows L2 LamX
local macro_rules | `(tactic| walk_at "two") => `(tactic| with_reducible (first
  | refine r_seq ?_ | refine r_nx ?_ | refine r_rt ?_ | refine r_ct ?_ | refine r_bk ?_ | refine r_asg ?_ | refine r_gname ?_ | refine r_ret ?_ | refine r_drop ?_ | refine r_next ?_ | refine r_retN ?_ | refine r_fld ?_ | refine r_gsub ?_ | refine r_brk ?_ | refine r_cont ?_
  | refine r_var rfl ?_ | refine r_c ?_ | refine r_op ?_ | refine r_un ?_ | refine r_test ?_ | refine r_tB ?_ | refine r_bl ?_ | refine r_blv ?_
  | refine r_cons ?_ | refine r_nil ?_ | refine r_lc ?_ | refine r_yes ?_ | refine r_iLT0 ?_ | refine r_iEnumS ?_ | refine r_iEnum ?_ | refine r_iStr ?_ | refine r_iList ?_ | refine r_iRng ?_ | refine r_iRng2 ?_ | refine r_iRng3 ?_ | refine r_iStrS ?_ | refine r_iStrE ?_ | refine r_cb ?_ | refine r_call0 ?_ | refine r_callS ?_ | refine r_callK ?_ | refine r_tup ?_ | refine r_lst ?_ | refine r_make0 ?_ | refine r_attr ?_
  | refine r_sl ?_ | refine r_nopart ?_ | refine r_part ?_ | refine r_parti ?_ | refine r_tyS ?_ | refine r_bm0 ?_ | refine r_bm ?_ | refine r_dnew ?_
  | refine r_and ?_ | refine r_or ?_ | refine r_not ?_ | refine r_andV ?_ | refine r_orV ?_ | refine r_notV ?_ | refine r_if ?_ | refine r_ift ?_ | refine r_iff ?_ | refine r_revL ?_ | refine r_ntt ?_ | refine r_nff ?_ | refine r_itup ?_ | refine r_chain ?_
  | refine r_I0 ?_ | refine r_U ?_ | refine r_addI ?_ | refine r_eqI ?_ | refine r_neI ?_ | refine r_eqS ?_ | refine r_neS ?_ | refine r_eqB ?_ | refine r_neB ?_ | refine r_inS ?_ | refine r_niS ?_ | refine r_int1 ?_ | refine r_abs ?_ | refine r_isN ?_ | refine r_notN ?_
  | refine r_intB ?_ | refine r_max ?_ | refine r_strS ?_ | refine r_isB ?_ | refine r_notB ?_ | refine r_notBI ?_ | refine r_revS ?_ | refine r_sta ?_ | refine r_metA ?_ | refine r_mK1 ?_ | refine r_mD ?_ | refine r_iOwn ?_ | refine r_aug rfl ?_ | refine r_ipI ?_ | refine r_par ?_ | refine r_vw ?_))
local macro_rules | `(tactic| walk_at "one") => `(tactic| first | walk_at "two" | with_reducible (first | refine r_ifs ?_ | refine r_forE ?_))
local macro_rules | `(tactic| walk_at "go") => `(tactic| repeat walk_at "one")
local macro_rules | `(tactic| walk_at "gp") => `(tactic| repeat walk_at "two")

section
variable {P : Program} {w : World} {K : PySem.W.Frag} {mg : Str → Option Value} {base : Heap} {D : Ad}

open Rp
theorem at0 {α : Type} {x : α} {xs : List α} : atI (x :: xs) 0 = some x := atI_nat (j := 0) rfl
theorem abs_nat (n : Int) : (if n < 0 then -n else n) = ((n.natAbs : Nat) : Int) := by split <;> omega
theorem q_new {E : XK} {H : Hp} {Q : VK} {u : List Nat} (hg : Good u) (hl : u.length ≤ 4000) (k : ∀ r H', Same H H' → H r = none → WAt D H' r u → Q (.ref r) H') : rMake D.Word (sp_Word_init K D) E [.str (S u)] H Q :=
  q_Word hg hl fun p dx H' s hp h => k p H' s hp ⟨dx, h⟩
def tooM (D : Ad) (E : XK) (H : Hp) : Prop := ∀ H', Same H H' → Rse E H' D.TooMany [("what", .str (S [108, 101, 116, 116, 101, 114, 115])), ("most", .int 4000)]
abbrev st_Word_power : Stmt := inClass (top 21) 3
theorem sc_Word_power : FnScope ["self", "many", "coat", "core", "row"] ["self", "many"] (defScope st_Word_power) := ⟨rfl, rfl, rfl, by decide +kernel, rfl, by decide +kernel, by decide +kernel⟩
def sp_Word_power (K : PySem.W.Frag) (D : Ad) : Sp := fun vs H Q E => ∃ p u x b1 b2, vs = [.ref p, x] ∧ WAt D H p u ∧ Good u ∧ u.length ≤ 1000 ∧ IsK K H x (.type "int") b1 ∧ IsK K H x (.type "bool") b2 ∧ ((b1 && !b2) = false → Rse E H D.BadNumber [("part", .str (S [109, 97, 110, 121]))]) ∧
  ((b1 && !b2) = true → ∃ n : Int, x = .int n ∧ n.natAbs < 2 ^ 150 ∧ (n ≠ 0 → u ≠ [] → 4000 < 2 * coat u + n.natAbs * (cor u).length → Rse E H D.TooMany [("what", .str (S [108, 101, 116, 116, 101, 114, 115])), ("most", .int 4000)]) ∧
    ((powL u n).length ≤ 4000 → ∀ r H', Same H H' → H r = none → WAt D H' r (powL u n) → Q (.ref r) H'))
theorem ok_Word_power {f : Addr} {fd : FuncData} (F : Fun K "power" "Word.power" st_Word_power f fd) (T : Txt P w K mg base D) (d_coat_of : CalN P w K mg base 1 "coat_of" (sp_coat_of K D)) (d_is_integer : CalN P w K mg base 1 "is_integer" (sp_is_integer K D)) (d_undone : CalN P w K mg base 1 "undone" (sp_undone K D)) (m_Word : MakX P w K mg base 2 "Word" D.Word (sp_Word_init K D)) (md_Word : MakD P w K mg base 2 "Word" D.Word [.str (S [])] (sp_Word_init K D)) : FnOk P w K mg base (L2.CX P w) 4 f fd ["self", "many"] (sp_Word_power K D) := by
  refine F.okX sc_Word_power (fun vs H Q E h => ?_) (fun cdv A outer s H vs Q E hr h => ?_)
  · obtain ⟨p, u, x, b1, b2, rfl, _⟩ := h
    rfl
  · obtain ⟨p, u, x, b1, b2, rfl, ⟨dx, hp⟩, hg, hl, h1, h2, h3, h4⟩ := h
    have hu := hr.units
    refine ⟨_, (pss_cons (ps_if (pt_not (pt_val (pe_c0 d_is_integer hr (by decide) (pa_cons (pv 1) pa_nil))))
      (pss_one (ps_raise rfl (takes_of rfl rfl rfl rfl) (pmk_err T.e_BadNumber hr (by decide) (pa_cons (pe_S (w := [109, 97, 110, 121]) (by decide +kernel)) pa_nil) T.c_BadNumber)))
      pss_nil)
      (pss_cons (ps_if (PW.pt (pw_or (pt_cmpR (op_eqK (K := K) hu) (pv 1) pe_int (nomark _)) (pw_or1 (pt_cmpR (op_eqK (K := K) hu) (pe_attrK (K := K) (pv 0)) pe_int (nomark _)))))
      (pss_one (ps_ret (pe_mD0 md_Word hr (by decide) (passes_call (takes_of rfl rfl rfl rfl) fun _ _ _ _ h => h))))
      pss_nil)
      (pss_cons (ps_asg (pe_c0 d_coat_of hr (by decide) (pa_cons (pe_attrK (K := K) (pv 0)) pa_nil)) (pg_name (i := 2) sc_Word_power.nd rfl (Or.inl rfl)))
      (pss_cons (ps_asg (pe_slice (sl_anyK (K := K)) (pe_attrK (K := K) (pv 0)) (po_some (pv 2)) (po_some (pe_op op_sub (pe_attrK (K := K) (pv 0)) (pv 2)))) (pg_name (i := 3) sc_Word_power.nd rfl (Or.inl rfl)))
      (pss_cons (ps_if (pt_cmpR op_gt (pe_op op_addA (pe_op op_mulB pe_int (pv 2)) (pe_op op_mulB (pe_callB (id := "abs") call_absB (by rfl) T.b_abs (by decide +kernel) (pa_cons (pv 1) pa_nil)) (pe_callB (id := "len") (call_lenB (K := K)) (by rfl) T.b_len PySem.boot_len (pa_cons (pv 3) pa_nil)))) (pe_gI rfl T.g_MOST_LETTERS) (nomark _))
      (pss_one (ps_raise rfl (takes_of rfl rfl rfl rfl) (pmk_err T.e_TooMany hr (by decide) (pa_cons (pe_S (w := [108, 101, 116, 116, 101, 114, 115]) (by decide +kernel)) (pa_cons (pe_gI rfl T.g_MOST_LETTERS) pa_nil)) T.c_TooMany)))
      pss_nil)
      (pss_cons (ps_asg (pe_op op_mulB (pv 3) (pe_callB (id := "abs") call_absB (by rfl) T.b_abs (by decide +kernel) (pa_cons (pv 1) pa_nil))) (pg_name (i := 4) sc_Word_power.nd rfl (Or.inl rfl)))
      (pss_one (ps_ret (pe_mX m_Word hr (by decide) (passes_call (takes_of rfl rfl rfl rfl) fun _ _ _ _ h => h) (pa_cons (pe_op op_addA (pe_op op_addA (pe_slice (sl_anyK (K := K)) (pe_attrK (K := K) (pv 0)) po_none (po_some (pv 2))) (pe_ifExp (pt_cmpR op_gt (pv 1) pe_int (nomark _)) (pv 4) (pe_c0 d_undone hr (by decide) (pa_cons (pv 4) pa_nil)))) (pe_slice (sl_anyK (K := K)) (pe_attrK (K := K) (pv 0)) (po_some (pe_op op_sub (pe_attrK (K := K) (pv 0)) (pv 2))) po_none)) pa_nil)))))))))), ?_⟩
    walk_at "go"
    refine ⟨x, b1, b2, rfl, h1, h2, ?_⟩
    walk_at "go"
    refine r_ib (fun e => ?_) (fun e => ?_)
    · refine r_mkE ?_
      walk_at "go"
      exact ⟨rfl, h3 (by cases b1 <;> cases b2 <;> simp_all)⟩
    · obtain ⟨n, rfl, hn, h5, h6⟩ := h4 (by simpa using e)
      walk_at "go"
      have zero : (n = 0 ∨ u = []) → ∀ r H', Same H H' → H r = none → WAt D H' r [] → Q (.ref r) H' := fun h => by
        have e : powL u n = [] := by unfold powL; rw [if_pos h]
        rw [e] at h6
        exact h6 (by simp)
      refine r_ib (fun e1 => ?_) (fun e1 => ?_)
      · walk_at "go"
        exact q_new good_nil (by simp) (zero (.inl (of_decide_eq_true e1)))
      · have e1 : n ≠ 0 := of_decide_eq_false e1
        walk_at "go"
        refine q_size T hp ?_
        walk_at "go"
        refine r_ib (fun e2 => ?_) (fun e2 => ?_)
        · have e2 : u = [] := List.eq_nil_of_length_eq_zero (by have := of_decide_eq_true e2; omega)
          walk_at "go"
          exact q_new good_nil (by simp) (zero (.inr e2))
        · have e2 : u ≠ [] := fun z => by subst z; simp at e2
          have hL := good_L hg
          have hc := coat_le hg
          have hcl : (cor u).length = u.length - 2 * coat u := by unfold cor; rw [List.length_drop, List.length_take]; omega
          have hpl := powL_len hg e1 e2
          walk_at "go"
          refine q_letters T hp ?_
          walk_at "go"
          refine ⟨u, rfl, hL, by omega, ?_⟩
          walk_at "go"
          refine q_letters T hp ?_
          walk_at "go"
          refine q_size T hp ?_
          walk_at "go"
          have es : ((u.length : Nat) : Int) - (coat u : Nat) = ((u.length - coat u : Nat) : Int) := by omega
          rw [es]
          refine r_slS (w' := cor u) (cut_mid u rfl rfl (by omega) (by omega)) (by omega) ?_
          walk_at "go"
          refine r_mI (wm (n := 64) (m := 64) (by omega) (by omega)) ?_
          walk_at "go"
          refine q_lenS (by omega) ?_
          rw [abs_nat]
          walk_at "go"
          refine r_mI (wm (n := 150) (m := 64) (by simpa using hn) (by omega)) ?_
          walk_at "go"
          have em : (2 : Int) * ((coat u : Nat) : Int) + ((n.natAbs : Nat) : Int) * (((cor u).length : Nat) : Int) = ((2 * coat u + n.natAbs * (cor u).length : Nat) : Int) := by push_cast; rfl
          rw [em]
          refine r_ib (fun e3 => ?_) (fun e3 => ?_)
          · refine r_mkE ?_
            walk_at "go"
            exact ⟨rfl, h5 e1 e2 (by have := of_decide_eq_true e3; omega)⟩
          · have e3 : 2 * coat u + n.natAbs * (cor u).length ≤ 4000 := by have := of_decide_eq_false e3; omega
            have gc := good_cor hg
            have hk : n.natAbs ≤ 4000 := by
              have : 0 < (cor u).length := List.length_pos_iff.mpr (core_self hg e2).ne
              have := Nat.le_mul_of_pos_right n.natAbs this
              omega
            walk_at "go"
            rw [abs_nat]
            refine r_mO rfl (by omega) (by omega) ?_
            have er : (List.replicate n.natAbs (cor u)).flatten = rep n.natAbs (cor u) := rfl
            have hrl := Rp.rep_len n.natAbs (cor u)
            rw [er]
            walk_at "go"
            refine q_letters T hp ?_
            walk_at "go"
            refine r_slS (w' := pre u) (cut_to u (coat u)) (by omega) ?_
            have hpr : (pre u).length ≤ u.length := by unfold pre; rw [List.length_take]; omega
            have hpo : (post u).length ≤ u.length := by unfold post; rw [List.length_drop]; omega
            have hpw : powL u n = pre u ++ (if 0 < n then rep n.natAbs (cor u) else back (rep n.natAbs (cor u))) ++ post u := by
              unfold powL
              rw [if_neg (fun z => z.elim e1 e2)]
            have gp := powL_good hg n
            walk_at "go"
            refine r_ib (fun e4 => ?_) (fun e4 => ?_)
            · have e4 : 0 < n := by have := of_decide_eq_true e4; omega
              rw [if_pos e4] at hpw
              walk_at "go"
              refine r_addS (by omega) ?_
              walk_at "go"
              refine q_letters T hp ?_
              walk_at "go"
              refine q_size T hp ?_
              walk_at "go"
              rw [es]
              refine r_slS (w' := post u) (cut_from u (u.length - coat u)) (by omega) ?_
              refine r_addS (by simp; omega) ?_
              walk_at "go"
              rw [← hpw]
              exact q_new gp (by omega) (h6 (by omega))
            · have e4 : ¬ 0 < n := by have := of_decide_eq_false e4; omega
              rw [if_neg e4] at hpw
              walk_at "go"
              refine ⟨_, rfl, allL_rep (good_L gc) _, by omega, ?_⟩
              walk_at "go"
              refine r_addS (by rw [back_len]; omega) ?_
              walk_at "go"
              refine q_letters T hp ?_
              walk_at "go"
              refine q_size T hp ?_
              walk_at "go"
              rw [es]
              refine r_slS (w' := post u) (cut_from u (u.length - coat u)) (by omega) ?_
              refine r_addS (by simp [back_len]; omega) ?_
              walk_at "go"
              rw [← hpw]
              exact q_new gp (by omega) (h6 (by omega))
/-- how often the root stands in a word -/
def timesR (u : List Nat) : Nat := if u = [] then 0 else timesL u
abbrev st_Word_root : Stmt := inClass (top 21) 8
theorem sc_Word_root : FnScope ["self", "coat", "core", "many"] ["self"] (defScope st_Word_root) := ⟨rfl, rfl, rfl, by decide +kernel, rfl, by decide +kernel, by decide +kernel⟩
def sp_Word_root (K : PySem.W.Frag) (D : Ad) : Sp := fun vs H Q _ => ∃ p u, vs = [.ref p] ∧ WAt D H p u ∧ Good u ∧ u.length ≤ 1000 ∧ ∀ t r H', Same H H' → H' t = some (.tup [.ref r, .int (timesR u : Nat)]) → WAt D H' r (rootL u) → Q (.ref t) H'
theorem ok_Word_root {f : Addr} {fd : FuncData} (F : Fun K "root" "Word.root" st_Word_root f fd) (T : Txt P w K mg base D) (d_coat_of : CalN P w K mg base 1 "coat_of" (sp_coat_of K D)) (d_period_of : CalN P w K mg base 1 "period_of" (sp_period_of K D)) (m_Word : MakX P w K mg base 2 "Word" D.Word (sp_Word_init K D)) (md_Word : MakD P w K mg base 2 "Word" D.Word [.str (S [])] (sp_Word_init K D)) : FnOk P w K mg base CX0 4 f fd ["self"] (sp_Word_root K D) := by
  refine F.ok sc_Word_root (fun vs H Q E h => ?_) (fun cdv A outer s H vs Q E hr h => ?_)
  · obtain ⟨p, u, rfl, _⟩ := h
    rfl
  · obtain ⟨p, u, rfl, ⟨dx, hp⟩, hg, hl, q⟩ := h
    have hu := hr.units
    refine ⟨_, (pss_cons (ps_if (pt_cmpR (op_eqK (K := K) hu) (pe_attrK (K := K) (pv 0)) pe_int (nomark _))
      (pss_one (ps_ret (pe_tup (pa_cons (pe_mD0 md_Word hr (by decide) passL) (pa_cons pe_int pa_nil)))))
      pss_nil)
      (pss_cons (ps_asg (pe_c0 d_coat_of hr (by decide) (pa_cons (pe_attrK (K := K) (pv 0)) pa_nil)) (pg_name (i := 1) sc_Word_root.nd rfl (Or.inl rfl)))
      (pss_cons (ps_asg (pe_slice (sl_anyK (K := K)) (pe_attrK (K := K) (pv 0)) (po_some (pv 1)) (po_some (pe_op op_sub (pe_attrK (K := K) (pv 0)) (pv 1)))) (pg_name (i := 2) sc_Word_root.nd rfl (Or.inl rfl)))
      (pss_cons (ps_asg (pe_c0 d_period_of hr (by decide) (pa_cons (pv 2) pa_nil)) (pg_name (i := 3) sc_Word_root.nd rfl (Or.inl rfl)))
      (pss_one (ps_ret (pe_tup (pa_cons (pe_mX m_Word hr (by decide) passL (pa_cons (pe_op op_addA (pe_op op_addA (pe_slice (sl_anyK (K := K)) (pe_attrK (K := K) (pv 0)) po_none (po_some (pv 1))) (pe_slice (sl_anyK (K := K)) (pv 2) po_none (po_some (pv 3)))) (pe_slice (sl_anyK (K := K)) (pe_attrK (K := K) (pv 0)) (po_some (pe_op op_sub (pe_attrK (K := K) (pv 0)) (pv 1))) po_none)) pa_nil)) (pa_cons (pe_op op_fdivW (pe_callB (id := "len") (call_lenB (K := K)) (by rfl) T.b_len PySem.boot_len (pa_cons (pv 2) pa_nil)) (pv 3)) pa_nil))))))))), ?_⟩
    walk_at "go"
    refine q_size T hp ?_
    walk_at "go"
    refine r_ib (fun e2 => ?_) (fun e2 => ?_)
    · have e2 : u = [] := List.eq_nil_of_length_eq_zero (by have := of_decide_eq_true e2; omega)
      subst e2
      walk_at "go"
      refine q_new good_nil (by simp) fun r H1 s1 hr hw => ?_
      walk_at "go"
      refine r_sz (by simp) fun t ht => ?_
      exact q t r _ (s1.trans (same_upd ht)) upd_same (wAt_same (same_upd ht) hw)
    · have e2 : u ≠ [] := fun z => by subst z; simp at e2
      have hL := good_L hg
      have hc := coat_le hg
      have hcl : (cor u).length = u.length - 2 * coat u := by unfold cor; rw [List.length_drop, List.length_take]; omega
      have hcn := (core_self hg e2).ne
      walk_at "go"
      refine q_letters T hp ?_
      walk_at "go"
      refine ⟨u, rfl, hL, by omega, ?_⟩
      walk_at "go"
      refine q_letters T hp ?_
      walk_at "go"
      refine q_size T hp ?_
      walk_at "go"
      have es : ((u.length : Nat) : Int) - (coat u : Nat) = ((u.length - coat u : Nat) : Int) := by omega
      rw [es]
      refine r_slS (w' := cor u) (cut_mid u rfl rfl (by omega) (by omega)) (by omega) ?_
      walk_at "go"
      refine ⟨_, rfl, hcn, by omega, ?_⟩
      walk_at "go"
      refine q_letters T hp ?_
      walk_at "go"
      refine r_slS (w' := pre u) (cut_to u (coat u)) (by omega) ?_
      walk_at "go"
      refine r_slS (w' := prim (cor u)) (cut_to (cor u) (per (cor u))) (by omega) ?_
      have hpr : (pre u).length ≤ u.length := by unfold pre; rw [List.length_take]; omega
      have hpo : (post u).length ≤ u.length := by unfold post; rw [List.length_drop]; omega
      have hpm : (prim (cor u)).length ≤ u.length := by rw [prim_len hcn]; have := (per_spec hcn).2.2.1; omega
      refine r_addS (by omega) ?_
      walk_at "go"
      refine q_letters T hp ?_
      walk_at "go"
      refine q_size T hp ?_
      walk_at "go"
      rw [es]
      refine r_slS (w' := post u) (cut_from u (u.length - coat u)) (by omega) ?_
      refine r_addS (by simp; omega) ?_
      walk_at "go"
      have hrl : (rootL u).length ≤ 4000 := by unfold rootL; simp; omega
      refine q_new (u := rootL u) (root_good hg) hrl fun r H1 s1 hr hw => ?_
      walk_at "go"
      refine q_lenS (by omega) ?_
      walk_at "go"
      have hp1 := (per_spec hcn).2.1
      have hp2 := (per_spec hcn).2.2.1
      refine r_fdivH (by omega) (by omega) ?_
      have ed : (((cor u).length : Nat) : Int) / ((per (cor u) : Nat) : Int) = ((timesR u : Nat) : Int) := by
        unfold timesR timesL
        rw [if_neg e2]
        exact (Int.natCast_ediv _ _).symm
      rw [ed]
      walk_at "go"
      refine r_sz (by simp) fun t ht => ?_
      exact q t r _ (s1.trans (same_upd ht)) upd_same (wAt_same (same_upd ht) hw)
abbrev st_Word_core : Stmt := inClass (top 21) 9
theorem sc_Word_core : FnScope ["self", "coat"] ["self"] (defScope st_Word_core) := ⟨rfl, rfl, rfl, by decide +kernel, rfl, by decide +kernel, by decide +kernel⟩
def sp_Word_core (K : PySem.W.Frag) (D : Ad) : Sp := fun vs H Q _ => ∃ p u, vs = [.ref p] ∧ WAt D H p u ∧ Good u ∧ u.length ≤ 4000 ∧ ∀ t r s H', Same H H' → H' t = some (.tup [.ref r, .ref s]) → WAt D H' r (pre u) → WAt D H' s (cor u) → Q (.ref t) H'
theorem ok_Word_core {f : Addr} {fd : FuncData} (F : Fun K "core" "Word.core" st_Word_core f fd) (T : Txt P w K mg base D) (d_coat_of : CalN P w K mg base 1 "coat_of" (sp_coat_of K D)) (m_Word : MakX P w K mg base 2 "Word" D.Word (sp_Word_init K D)) : FnOk P w K mg base CX0 4 f fd ["self"] (sp_Word_core K D) := by
  refine F.ok sc_Word_core (fun vs H Q E h => ?_) (fun cdv A outer s H vs Q E hr h => ?_)
  · obtain ⟨p, u, rfl, _⟩ := h
    rfl
  · obtain ⟨p, u, rfl, ⟨dx, hp⟩, hg, hl, q⟩ := h
    have hu := hr.units
    refine ⟨_, (pss_cons (ps_asg (pe_c0 d_coat_of hr (by decide) (pa_cons (pe_attrK (K := K) (pv 0)) pa_nil)) (pg_name (i := 1) sc_Word_core.nd rfl (Or.inl rfl)))
      (pss_one (ps_ret (pe_tup (pa_cons (pe_mX m_Word hr (by decide) passL (pa_cons (pe_slice (sl_anyK (K := K)) (pe_attrK (K := K) (pv 0)) po_none (po_some (pv 1))) pa_nil)) (pa_cons (pe_mX m_Word hr (by decide) passL (pa_cons (pe_slice (sl_anyK (K := K)) (pe_attrK (K := K) (pv 0)) (po_some (pv 1)) (po_some (pe_op op_sub (pe_attrK (K := K) (pv 0)) (pv 1)))) pa_nil)) pa_nil)))))), ?_⟩
    have hL := good_L hg
    have hc := coat_le hg
    have hcl : (cor u).length = u.length - 2 * coat u := by unfold cor; rw [List.length_drop, List.length_take]; omega
    have hpr : (pre u).length ≤ u.length := by unfold pre; rw [List.length_take]; omega
    walk_at "go"
    refine q_letters T hp ?_
    walk_at "go"
    refine ⟨u, rfl, hL, by omega, ?_⟩
    walk_at "go"
    refine q_letters T hp ?_
    walk_at "go"
    refine r_slS (w' := pre u) (cut_to u (coat u)) (by omega) ?_
    walk_at "go"
    refine q_new (good_pre hg) (by omega) fun r H1 s1 hr hw1 => ?_
    have hp1 := s1 _ _ hp
    walk_at "go"
    refine q_letters T hp1 ?_
    walk_at "go"
    refine q_size T hp1 ?_
    walk_at "go"
    have es : ((u.length : Nat) : Int) - (coat u : Nat) = ((u.length - coat u : Nat) : Int) := by omega
    rw [es]
    refine r_slS (w' := cor u) (cut_mid u rfl rfl (by omega) (by omega)) (by omega) ?_
    walk_at "go"
    refine q_new (good_cor hg) (by omega) fun s H2 s2 hs hw2 => ?_
    walk_at "go"
    refine r_sz (by simp) fun t ht => ?_
    have s3 := same_upd (o := .tup [V.ref r, .ref s]) ht
    exact q t r s _ ((s1.trans s2).trans s3) upd_same (wAt_same (s2.trans s3) hw1) (wAt_same s3 hw2)
/-- what a text is read as -/
def rd (w : List Nat) : Except Nat (List Nat) :=
  match spl w with
  | [] => .error 0
  | p :: r => if p = [45] then (if r = [] then .ok [] else .error 1) else if p ≠ [] ∧ gd [] p = true ∧ p.length ≤ 4000 then (if r = [] then .ok p else .error 1) else .error 0
abbrev st_Word_read : Stmt := inClass (top 21) 2
theorem sc_Word_read : FnScope ["text", "items"] ["text"] (defScope st_Word_read) := ⟨rfl, rfl, rfl, by decide +kernel, rfl, by decide +kernel, by decide +kernel⟩
def sp_Word_read (K : PySem.W.Frag) (D : Ad) : Sp := fun vs H Q E => ∃ x b, vs = [x] ∧ IsK K H x (.type "str") b ∧ (b = false → Rse E H D.BadText [("item", .int 0)]) ∧
  (b = true → ∃ w, x = .str (S w) ∧ w.length ≤ 100000 ∧ (∀ i, rd w = .error i → ∀ H', Same H H' → Rse E H' D.BadText [("item", .int (i : Nat))]) ∧ (∀ z, rd w = .ok z → ∀ p H', Same H H' → H p = none → WAt D H' p z → Q (.ref p) H'))
theorem ok_Word_read {f : Addr} {fd : FuncData} (F : Fun K "read" "Word.read" st_Word_read f fd) (T : Txt P w K mg base D) (d_is_row : CalN P w K mg base 2 "is_row" (sp_is_row K D)) (d_lone : CalX P w K mg base 4 "lone" (sp_lone K D)) : FnOk P w K mg base (L2.CX P w) 5 f fd ["text"] (sp_Word_read K D) := by
  refine F.okX sc_Word_read (fun vs H Q E h => ?_) (fun cdv A outer s H vs Q E hr h => ?_)
  · obtain ⟨x, b, rfl, _⟩ := h
    rfl
  · obtain ⟨x, b, rfl, h1, h2, h3⟩ := h
    have hu := hr.units
    refine ⟨_, (pss_cons (ps_if (pt_not (pt_val (pe_callB (id := "isinstance") (call_isiEK (K := K)) (by rfl) T.b_isinstance (by decide +kernel) (pa_cons (pv 0) (pa_cons (pe_bltn (v := .ty "str") rfl T.b_str (by decide +kernel) rfl) pa_nil)))))
      (pss_one (ps_raise rfl (takes_of rfl rfl rfl rfl) (pmk_err T.e_BadText hr (by decide) (pa_cons pe_int pa_nil) T.c_BadText)))
      pss_nil)
      (pss_cons (ps_asg (pe_bmK (K := K) PySem.F.plainAttrs_str PySem.F.slot_str_split PySem.F.type_str_split mb_split (pv 0) (pa_cons (pe_S (w := [32]) (by decide +kernel)) pa_nil)) (pg_name (i := 1) sc_Word_read.nd rfl (Or.inl rfl)))
      (pss_cons (ps_if (pt_cmpR (op_eqK (K := K) hu) (pe_ix (ix_seqK (K := K)) (pv 1) pe_int (fun _ _ => rfl)) (pe_S (w := [45]) (by decide +kernel)) (nomark _))
      (pss_one (ps_ret (pe_cX d_lone hr (by decide) (passes_call (takes_of rfl rfl rfl rfl) fun _ _ _ _ h => h) (pa_cons (pv 1) (pa_cons (pe_S (w := []) (by decide +kernel)) pa_nil)))))
      pss_nil)
      (pss_cons (ps_if (PW.pt (pw_or (pt_cmpR (op_eqK (K := K) hu) (pe_ix (ix_seqK (K := K)) (pv 1) pe_int (fun _ _ => rfl)) (pe_S (w := []) (by decide +kernel)) (nomark _)) (pw_or (pt_not (pt_val (pe_c0 d_is_row hr (by decide) (pa_cons (pe_ix (ix_seqK (K := K)) (pv 1) pe_int (fun _ _ => rfl)) pa_nil)))) (pw_or1 (pt_cmpR op_gt (pe_callB (id := "len") (call_lenB (K := K)) (by rfl) T.b_len PySem.boot_len (pa_cons (pe_ix (ix_seqK (K := K)) (pv 1) pe_int (fun _ _ => rfl)) pa_nil)) (pe_gI rfl T.g_MOST_LETTERS) (nomark _))))))
      (pss_one (ps_raise rfl (takes_of rfl rfl rfl rfl) (pmk_err T.e_BadText hr (by decide) (pa_cons pe_int pa_nil) T.c_BadText)))
      pss_nil)
      (pss_one (ps_ret (pe_cX d_lone hr (by decide) (passes_call (takes_of rfl rfl rfl rfl) fun _ _ _ _ h => h) (pa_cons (pv 1) (pa_cons (pe_ix (ix_seqK (K := K)) (pv 1) pe_int (fun _ _ => rfl)) pa_nil))))))))), ?_⟩
    walk_at "go"
    refine r_isK (.ty "str") h1 ?_
    walk_at "go"
    refine r_ib (fun e => ?_) (fun e => ?_)
    · refine r_mkE ?_
      walk_at "go"
      exact ⟨rfl, h2 (by simpa using e)⟩
    · obtain ⟨w, rfl, hl, h4, h5⟩ := h3 (by simpa using e)
      obtain ⟨p, r, hs, hpl, _⟩ := spl_cons w
      unfold rd at h4 h5
      rw [hs] at h4 h5
      simp only at h4 h5
      walk_at "go"
      refine q_split (by omega) fun l hl0 => ?_
      rw [hs, List.map_cons]
      have s1 := same_upd (o := .lst (V.str (S p) :: r.map fun p => V.str (S p))) hl0
      have f1 : upd H l (.lst (V.str (S p) :: r.map fun p => V.str (S p))) l = some (.lst (V.str (S p) :: r.map fun p => V.str (S p))) := upd_same
      generalize upd H l (.lst (V.str (S p) :: r.map fun p => V.str (S p))) = H1 at s1 f1 ⊢
      have lone_ : ∀ {u : List Nat} {E : XK} {Q : VK}, Good u → u.length ≤ 4000 → (r ≠ [] → Rse E H1 D.BadText [("item", .int 1)]) → (r = [] → ∀ p H', Same H1 H' → H1 p = none → WAt D H' p u → Q (.ref p) H') → sp_lone K D [.ref l, .str (S u)] H1 Q E := fun {u E Q} hg hl a b =>
        ⟨l, _, u, rfl, SqL.of f1, hg, hl, fun z => a (fun e => by subst e; simp at z), fun z => b (by
          cases r with
          | nil => rfl
          | cons c r => simp at z)⟩
      walk_at "go"
      refine r_ixL (SqL.of f1) at0 ?_
      walk_at "go"
      refine r_ib (fun e1 => ?_) (fun e1 => ?_)
      · have e1 : p = [45] := of_decide_eq_true e1
        rw [if_pos e1] at h4 h5
        walk_at "go"
        refine lone_ good_nil (by simp) (fun z => h4 1 (if_neg z) _ s1) fun z p H' s' hp hw => h5 [] (if_pos z) p H' (s1.trans s') (s1.free hp) hw
      · have e1 : p ≠ [45] := of_decide_eq_false e1
        rw [if_neg e1] at h4 h5
        have bad : ¬ (p ≠ [] ∧ gd [] p = true ∧ p.length ≤ 4000) → Rse E H1 D.BadText [("item", .int 0)] := fun z => h4 0 (if_neg z) _ s1
        walk_at "go"
        refine r_ixL (SqL.of f1) at0 ?_
        walk_at "go"
        refine r_ib (fun e2 => ?_) (fun e2 => ?_)
        · walk_at "go"
          refine r_mkE ?_
          walk_at "go"
          exact ⟨rfl, bad fun z => z.1 (of_decide_eq_true e2)⟩
        · have e2 : p ≠ [] := of_decide_eq_false e2
          walk_at "go"
          refine r_ixL (SqL.of f1) at0 ?_
          walk_at "go"
          refine ⟨p, rfl, ?_⟩
          walk_at "go"
          refine r_ib (fun e3 => ?_) (fun e3 => ?_)
          · walk_at "go"
            refine r_mkE ?_
            walk_at "go"
            exact ⟨rfl, bad fun z => by rw [z.2.1] at e3; cases e3⟩
          · have e3 : gd [] p = true := by simpa using e3
            walk_at "go"
            refine r_ixL (SqL.of f1) at0 ?_
            walk_at "go"
            refine q_lenS (by omega) ?_
            walk_at "go"
            refine r_ib (fun e4 => ?_) (fun e4 => ?_)
            · refine r_mkE ?_
              walk_at "go"
              exact ⟨rfl, bad fun z => by have := of_decide_eq_true e4; omega⟩
            · have e4 : p.length ≤ 4000 := by have := of_decide_eq_false e4; omega
              rw [if_pos ⟨e2, e3, e4⟩] at h4 h5
              walk_at "go"
              refine r_ixL (SqL.of f1) at0 ?_
              walk_at "go"
              refine lone_ (good_gd.mpr e3) e4 (fun z => h4 1 (if_neg z) _ s1) fun z q H' s' hp hw => h5 p (if_pos z) q H' (s1.trans s') (s1.free hp) hw
abbrev st_commute : Stmt := top 24
theorem sc_commute : FnScope ["one", "other"] ["one", "other"] (defScope st_commute) := ⟨rfl, rfl, rfl, by decide +kernel, rfl, by decide +kernel, by decide +kernel⟩
def sp_commute (K : PySem.W.Frag) (D : Ad) : Sp := fun vs H Q E => ∃ x y b c, vs = [x, y] ∧ IsK K H x (.ref D.Word) b ∧ IsK K H y (.ref D.Word) c ∧ (b = false → Rse E H D.BadWord [("at", .int 0)]) ∧ (b = true → c = false → Rse E H D.BadWord [("at", .int 0)]) ∧
  (b = true → c = true → ∃ p q u v, x = .ref p ∧ y = .ref q ∧ WAt D H p u ∧ WAt D H q v ∧ Good u ∧ Good v ∧ u.length ≤ 4000 ∧ v.length ≤ 4000 ∧ Q (.bl (decide (val (u ++ v) = val (v ++ u)))) H)
theorem ok_commute {f : Addr} {fd : FuncData} (F : Fun K "commute" "commute" st_commute f fd) (T : Txt P w K mg base D) (d_need_word : CalX P w K mg base 1 "need_word" (sp_need_word K D)) (d_product : CalN P w K mg base 1 "product" (sp_product K D)) : FnOk P w K mg base (L2.CX P w) 2 f fd ["one", "other"] (sp_commute K D) := by
  refine F.okX sc_commute (fun vs H Q E h => ?_) (fun cdv A outer s H vs Q E hr h => ?_)
  · obtain ⟨x, y, b, c, rfl, _⟩ := h
    rfl
  · obtain ⟨x, y, b, c, rfl, h1, h2, h3, h4, h5⟩ := h
    have hu := hr.units
    refine ⟨_, (pss_cons (ps_expr (pe_cX d_need_word hr (by decide) (passes_call (takes_of rfl rfl rfl rfl) fun _ _ _ _ h => h) (pa_cons (pv 0) pa_nil)))
      (pss_cons (ps_expr (pe_cX d_need_word hr (by decide) (passes_call (takes_of rfl rfl rfl rfl) fun _ _ _ _ h => h) (pa_cons (pv 1) pa_nil)))
      (pss_one (ps_ret (pe_cmpR (op_eqK (K := K) hu) (pe_c0 d_product hr (by decide) (pa_cons (pe_attrK (K := K) (pv 0)) (pa_cons (pe_attrK (K := K) (pv 1)) pa_nil))) (pe_c0 d_product hr (by decide) (pa_cons (pe_attrK (K := K) (pv 1)) (pa_cons (pe_attrK (K := K) (pv 0)) pa_nil))) (nomark _)))))), ?_⟩
    walk_at "go"
    refine ⟨x, b, rfl, h1, fun e1 => ?_, h3⟩
    walk_at "go"
    refine ⟨y, c, rfl, h2, fun e2 => ?_, h4 e1⟩
    obtain ⟨p, r, u, v, rfl, rfl, ⟨dx, hp⟩, ⟨dy, hr'⟩, gu, gv, lu, lv, q⟩ := h5 e1 e2
    walk_at "go"
    refine q_letters T hp ?_
    walk_at "go"
    refine q_letters T hr' ?_
    walk_at "go"
    refine ⟨u, v, rfl, gu, gv, by omega, by omega, ?_⟩
    walk_at "go"
    refine q_letters T hr' ?_
    walk_at "go"
    refine q_letters T hp ?_
    walk_at "go"
    refine ⟨v, u, rfl, gv, gu, by omega, by omega, ?_⟩
    walk_at "go"
    exact q
end
end Cs


set_option Elab.async false
set_option linter.all false
set_option maxRecDepth 100000
set_option maxHeartbeats 4000000
namespace Cs
open PySem PySem.Spec PyProof.Rows L2 LamX
local macro_rules | `(tactic| walk_at "two") => `(tactic| with_reducible (first
  | refine r_seq ?_ | refine r_nx ?_ | refine r_rt ?_ | refine r_ct ?_ | refine r_bk ?_ | refine r_asg ?_ | refine r_gname ?_ | refine r_ret ?_ | refine r_drop ?_ | refine r_next ?_ | refine r_retN ?_ | refine r_fld ?_ | refine r_gsub ?_ | refine r_brk ?_ | refine r_cont ?_
  | refine r_var rfl ?_ | refine r_c ?_ | refine r_op ?_ | refine r_un ?_ | refine r_test ?_ | refine r_tB ?_ | refine r_bl ?_ | refine r_blv ?_
  | refine r_cons ?_ | refine r_nil ?_ | refine r_lc ?_ | refine r_yes ?_ | refine r_iLT0 ?_ | refine r_iEnumS ?_ | refine r_iEnum ?_ | refine r_iStr ?_ | refine r_iList ?_ | refine r_iRng ?_ | refine r_iRng2 ?_ | refine r_iRng3 ?_ | refine r_iStrS ?_ | refine r_iStrE ?_ | refine r_cb ?_ | refine r_call0 ?_ | refine r_callS ?_ | refine r_callK ?_ | refine r_tup ?_ | refine r_lst ?_ | refine r_make0 ?_ | refine r_attr ?_
  | refine r_sl ?_ | refine r_nopart ?_ | refine r_part ?_ | refine r_parti ?_ | refine r_tyS ?_ | refine r_bm0 ?_ | refine r_bm ?_ | refine r_dnew ?_
  | refine r_and ?_ | refine r_or ?_ | refine r_not ?_ | refine r_andV ?_ | refine r_orV ?_ | refine r_notV ?_ | refine r_if ?_ | refine r_ift ?_ | refine r_iff ?_ | refine r_revL ?_ | refine r_ntt ?_ | refine r_nff ?_ | refine r_itup ?_ | refine r_chain ?_
  | refine r_I0 ?_ | refine r_U ?_ | refine r_addI ?_ | refine r_eqI ?_ | refine r_neI ?_ | refine r_eqS ?_ | refine r_neS ?_ | refine r_eqB ?_ | refine r_neB ?_ | refine r_inS ?_ | refine r_niS ?_ | refine r_int1 ?_ | refine r_abs ?_ | refine r_isN ?_ | refine r_notN ?_
  | refine r_intB ?_ | refine r_max ?_ | refine r_strS ?_ | refine r_isB ?_ | refine r_notB ?_ | refine r_notBI ?_ | refine r_revS ?_ | refine r_sta ?_ | refine r_metA ?_ | refine r_mK1 ?_ | refine r_mD ?_ | refine r_iOwn ?_ | refine r_aug rfl ?_ | refine r_ipI ?_ | refine r_par ?_ | refine r_vw ?_))
local macro_rules | `(tactic| walk_at "one") => `(tactic| first | walk_at "two" | with_reducible (first | refine r_ifs ?_ | refine r_forE ?_))
local macro_rules | `(tactic| walk_at "go") => `(tactic| repeat walk_at "one")
local macro_rules | `(tactic| walk_at "gp") => `(tactic| repeat walk_at "two")

section
variable {P : Program} {w : World} {K : PySem.W.Frag} {mg : Str → Option Value} {base : Heap} {D : Ad}

abbrev st_law_pen : Stmt := top 26
theorem sc_law_pen : FnScope ["script"] ["script"] (defScope st_law_pen) := ⟨rfl, rfl, rfl, by decide +kernel, rfl, by decide +kernel, by decide +kernel⟩
def sp_law_pen (K : PySem.W.Frag) (D : Ad) : Sp := fun vs H Q _ => ∃ (a : Addr) (ns : List Int), vs = [.ref a] ∧ SqL K H a (ns.map V.int) ∧ ns.length ≤ 63 ∧ ∀ P H', Same H H' → PenAt P 0 H' → H P.p = none → H P.c = none → Q (.ref P.p) H'
theorem ok_law_pen {f : Addr} {fd : FuncData} (F : Fun K "_law_pen" "_law_pen" st_law_pen f fd) (T : Txt P w K mg base D) : FnOk P w K mg base CX0 1 f fd ["script"] (sp_law_pen K D) := by
  refine F.ok sc_law_pen (fun vs H Q E h => ?_) (fun cdv A outer s H vs Q E hr h => ?_)
  · obtain ⟨a, ns, rfl, _⟩ := h
    rfl
  · obtain ⟨a, ns, rfl, ha, hl, q⟩ := h
    have hu := hr.units
    refine ⟨_, (pss_one (ps_ret (pe_lst (pa_cons (pe_callTy (T := "list") (call_listB (K := K)) (by rfl) T.b_list (by decide +kernel) (pa_cons (pe_slice (sl_anyK (K := K)) (pv 0) po_none (po_some pe_int)) pa_nil)) (pa_cons pe_int (pa_cons pe_int pa_nil)))))), ?_⟩
    walk_at "go"
    refine r_slL (xs' := ns.map V.int) ha ?_ fun l1 h1 => ?_
    · show cutV (ns.map V.int) none (some ((63 : Nat) : Int)) = _
      rw [cutV_to, List.take_of_length_le (by simpa using hl)]
    walk_at "go"
    refine q_listL (SqL.of upd_same) fun l2 h2 => ?_
    walk_at "go"
    refine r_sz (by simp) fun p hp => ?_
    have s1 := same_upd (o := .lst (ns.map V.int)) h1
    have s2 := s1.trans (same_upd (o := .lst (ns.map V.int)) h2)
    have n2 : p ≠ l2 := fun z => by rw [z, upd_same] at hp; cases hp
    exact q ⟨p, l2, ns⟩ _ (s2.trans (same_upd hp)) ⟨⟨0, 0, by decide, by decide, by decide, upd_same⟩, by rw [upd_ne n2.symm]; exact upd_same, hl, n2⟩ (s2.free hp) (s1.free h2)
abbrev st_law_draw : Stmt := top 27
theorem sc_law_draw : FnScope ["pen", "many", "spot", "cell", "mixed", "digit", "great"] ["pen", "many"] (defScope st_law_draw) := ⟨rfl, rfl, rfl, by decide +kernel, rfl, by decide +kernel, by decide +kernel⟩
def sp_law_draw (K : PySem.W.Frag) (D : Ad) : Sp := fun vs H Q _ => ∃ (P : Pen) (n : Nat) (m : Int), vs = [.ref P.p, .int m] ∧ PenAt P n H ∧ n ≤ 100000 ∧ 0 < m ∧ m < 100000000000000000000000000000000000000000 ∧ ∀ d H', 0 ≤ d → d < m → KeepB P H H' → PenAt P (n + 1) H' → Q (.int d) H'
theorem ok_law_draw {f : Addr} {fd : FuncData} (F : Fun K "_law_draw" "_law_draw" st_law_draw f fd) (T : Txt P w K mg base D) : FnOk P w K mg base CX0 1 f fd ["pen", "many"] (sp_law_draw K D) := by
  refine F.ok sc_law_draw (fun vs H Q E h => ?_) (fun cdv A outer s H vs Q E hr h => ?_)
  · obtain ⟨P, n, m, rfl, _⟩ := h
    rfl
  · obtain ⟨P, n, m, rfl, hP, hn, hm, hm2, q⟩ := h
    have hu := hr.units
    refine ⟨_, (pss_cons (ps_if (pt_cmpR op_gt (pe_ix (ix_seqK (K := K)) (pv 0) pe_int (fun _ _ => rfl)) pe_int (nomark _))
      (pss_cons (ps_asg (pe_op op_mod (pe_callTy (T := "int") call_intB (by rfl) T.b_int (by decide +kernel) (pa_cons (pe_ix (ix_seqK (K := K)) (pv 0) pe_int (fun _ _ => rfl)) pa_nil)) (pv 1)) (pg_name (i := 5) sc_law_draw.nd rfl (Or.inl rfl)))
      (pss_cons (ps_asg (pe_op op_fdivW (pe_callTy (T := "int") call_intB (by rfl) T.b_int (by decide +kernel) (pa_cons (pe_ix (ix_seqK (K := K)) (pv 0) pe_int (fun _ _ => rfl)) pa_nil)) (pv 1)) (pg_sub (pv 0) pe_int set_list))
      (pss_one (ps_ret (pv 5)))))
      pss_nil)
      (pss_cons (ps_asg (pe_ix (ix_seqK (K := K)) (pv 0) pe_int (fun _ _ => rfl)) (pg_name (i := 2) sc_law_draw.nd rfl (Or.inl rfl)))
      (pss_cons (ps_asg (pe_op op_addA (pv 2) pe_int) (pg_sub (pv 0) pe_int set_list))
      (pss_cons (ps_asg (pe_op op_addA (pe_op op_mulB pe_int (pv 2)) pe_int) (pg_name (i := 3) sc_law_draw.nd rfl (Or.inl rfl)))
      (pss_cons (ps_if (pt_cmpR (op_neK (K := K) hu) (pe_ix (ix_seqK (K := K)) (pv 0) pe_int (fun _ _ => rfl)) (pe_lst pa_nil) (nomark _))
      (pss_one (ps_asg (pe_ix (ix_seqK (K := K)) (pe_ix (ix_seqK (K := K)) (pv 0) pe_int (fun _ _ => rfl)) (pe_op op_mod (pe_callTy (T := "int") call_intB (by rfl) T.b_int (by decide +kernel) (pa_cons (pv 2) pa_nil)) (pe_callB (id := "len") (call_lenB (K := K)) (by rfl) T.b_len PySem.boot_len (pa_cons (pe_ix (ix_seqK (K := K)) (pv 0) pe_int (fun _ _ => rfl)) pa_nil))) (fun _ _ => rfl)) (pg_name (i := 3) sc_law_draw.nd rfl (Or.inl rfl))))
      pss_nil)
      (pss_cons (ps_if (PW.pt (pw_and (pt_cmpR op_lt (pv 2) (pe_callB (id := "len") (call_lenB (K := K)) (by rfl) T.b_len PySem.boot_len (pa_cons (pe_ix (ix_seqK (K := K)) (pv 0) pe_int (fun _ _ => rfl)) pa_nil)) (nomark _)) (pw_and1 (pt_cmpR op_ge (pe_callB (id := "abs") call_absB (by rfl) T.b_abs (by decide +kernel) (pa_cons (pv 3) pa_nil)) (pe_op op_pow pe_int pe_int) (nomark _)))))
      (pss_cons (ps_asg (pe_op op_addA (pe_op op_mulB pe_int (pe_op op_sub (pe_callB (id := "abs") call_absB (by rfl) T.b_abs (by decide +kernel) (pa_cons (pv 3) pa_nil)) (pe_op op_pow pe_int pe_int))) (pe_callTy (T := "int") call_intB (by rfl) T.b_int (by decide +kernel) (pa_cons (pe_cmpR op_lt (pv 3) pe_int (nomark _)) pa_nil))) (pg_name (i := 6) sc_law_draw.nd rfl (Or.inl rfl)))
      (pss_cons (ps_asg (pe_op op_fdivW (pe_callTy (T := "int") call_intB (by rfl) T.b_int (by decide +kernel) (pa_cons (pv 6) pa_nil)) (pv 1)) (pg_sub (pv 0) pe_int set_list))
      (pss_one (ps_ret (pe_op op_mod (pe_callTy (T := "int") call_intB (by rfl) T.b_int (by decide +kernel) (pa_cons (pv 6) pa_nil)) (pv 1))))))
      pss_nil)
      (pss_cons (ps_asg (pe_op op_mod (pe_callTy (T := "int") call_intB (by rfl) T.b_int (by decide +kernel) (pa_cons (pe_op op_pow (pe_op op_addA (pe_op op_addA (pe_op op_mod (pe_callTy (T := "int") call_intB (by rfl) T.b_int (by decide +kernel) (pa_cons (pv 3) pa_nil)) pe_int) (pe_op op_mulB pe_int (pv 2))) pe_int) pe_int) pa_nil)) pe_int) (pg_name (i := 4) sc_law_draw.nd rfl (Or.inl rfl)))
      (pss_cons (ps_asg (pe_op op_mod (pe_callTy (T := "int") call_intB (by rfl) T.b_int (by decide +kernel) (pa_cons (pe_op op_pow (pe_op op_addA (pe_op op_addA (pe_op op_mulB (pv 4) (pe_op op_addA (pe_op op_mulB pe_int (pv 2)) pe_int)) (pe_op op_mulB (pe_op op_mulB pe_int (pv 2)) (pv 2))) pe_int) pe_int) pa_nil)) pe_int) (pg_name (i := 4) sc_law_draw.nd rfl (Or.inl rfl)))
      (pss_one (ps_ret (pe_op op_mod (pe_callTy (T := "int") call_intB (by rfl) T.b_int (by decide +kernel) (pa_cons (pe_op op_fdivW (pv 4) pe_int) pa_nil)) (pv 1)))))))))))), ?_⟩
    obtain ⟨s, r, hs0, hsn, hr0, k0⟩ := KP.of hP
    have fin : ∀ {d s' r' : Int} {H' : Hp}, 0 ≤ d → d < m → KP P H H' s' r' → 0 ≤ s' → s' ≤ n + 1 → 0 ≤ r' → Q (.int d) H' := fun h1 h2 k h3 h4 h5 => q _ _ h1 h2 k.keep (k.done h3 (by omega) h5 hP.len)
    walk_at "go"
    refine r_ixL (SqL.of k0.pen) rfl ?_
    walk_at "go"
    refine r_ib (fun e => ?_) (fun e => ?_)
    · walk_at "go"
      refine r_ixL (SqL.of k0.pen) rfl ?_
      walk_at "go"
      refine r_mod hm ?_
      walk_at "go"
      refine r_ixL (SqL.of k0.pen) rfl ?_
      walk_at "go"
      refine r_fdivH hm hm2 ?_
      walk_at "go"
      refine q_set k0.pen rfl ?_
      have k1 : KP P H (upd H P.p (penO P s (r / m))) s (r / m) := k0.set
      walk_at "go"
      exact fin (Int.emod_nonneg _ (by omega)) (Int.emod_lt_of_pos _ hm) k1 hs0 (by omega) (Int.ediv_nonneg hr0 (by omega))
    · walk_at "go"
      refine r_ixL (SqL.of k0.pen) rfl ?_
      walk_at "go"
      refine q_set k0.pen rfl ?_
      have k1 : KP P H (upd H P.p (penO P (s + 1) r)) (s + 1) r := k0.set
      generalize upd H P.p (.lst ([V.ref P.c, .int s, .int r].set 1 (.int (s + 1)))) = H1 at k1 ⊢
      walk_at "gp"
      refine r_mI (wm (n := 64) (m := 64) (by omega) (by omega)) ?_
      walk_at "gp"
      refine r_cut (fun σ' H' => ∃ (c : Int), KP P H H' (s + 1) r ∧ σ' = [some (.ref P.p), some (.int m), some (.int s), some (.int c), none, none, none]) (fun nx hnx => ?_) ?_
      · walk_at "go"
        refine r_ixL (SqL.of k1.pen) rfl ?_
        walk_at "go"
        refine r_sz (by decide) fun e1 he1 => ?_
        have k2 := k1.new (o := .lst []) he1
        refine r_neNil (SqL.of k2.cells) (dpI P.ns) ((lay_ints P.ns).mono (by decide)) (SqL.of upd_same) ?_
        walk_at "go"
        refine r_ib (fun e => ?_) (fun e => ?_)
        · have hne : P.ns ≠ [] := fun z => by rw [z] at e; simp at e
          have hlen : 0 < P.ns.length := List.length_pos_iff.mpr hne
          walk_at "go"
          refine r_ixL (SqL.of k2.pen) rfl ?_
          walk_at "go"
          refine r_ixL (SqL.of k2.pen) rfl ?_
          walk_at "go"
          refine q_lenL (SqL.of k2.cells) ?_
          rw [List.length_map]
          walk_at "go"
          refine r_mod (by omega) ?_
          refine r_ixLi k2.cells (Int.emod_nonneg _ (by omega)) (Int.emod_lt_of_pos _ (by omega)) fun c hc => ?_
          walk_at "go"
          exact hnx _ _ ⟨c, k2, rfl⟩
        · walk_at "go"
          exact hnx _ _ ⟨_, k2, rfl⟩
      · rintro σ' H2 ⟨c, k2, rfl⟩
        walk_at "gp"
        refine r_cut (fun σ' H' => KP P H H' (s + 1) r ∧ σ' = [some (.ref P.p), some (.int m), some (.int s), some (.int c), none, none, none]) (fun nx hnx => ?_) ?_
        · walk_at "go"
          refine r_ixL (SqL.of k2.pen) rfl ?_
          walk_at "go"
          refine q_lenL (SqL.of k2.cells) ?_
          walk_at "go"
          refine r_ib (fun e => ?_) (fun e => ?_)
          · walk_at "go"
            refine r_pow (by decide) (by decide) ?_
            walk_at "go"
            refine r_ib (fun e => ?_) (fun e => ?_)
            · have e := of_decide_eq_true e
              walk_at "go"
              refine r_pow (by decide) (by decide) ?_
              walk_at "go"
              generalize hcc : (if c < 0 then -c else c) = cc at e ⊢
              generalize htt : (10 : Int) ^ (18 : Int).toNat = tt at e ⊢
              refine r_mL (by decide) ?_
              walk_at "go"
              have hg0 : 0 ≤ 2 * (cc - tt) + (if decide (c < 0) = true then 1 else 0) := by
                split <;> omega
              generalize 2 * (cc - tt) + (if decide (c < 0) = true then 1 else 0) = gg at hg0 ⊢
              refine r_fdivH hm hm2 ?_
              walk_at "go"
              refine q_set k2.pen rfl ?_
              have k3 : KP P H (upd H2 P.p (penO P (s + 1) (gg / m))) (s + 1) (gg / m) := k2.set
              walk_at "go"
              refine r_mod hm ?_
              walk_at "go"
              exact fin (Int.emod_nonneg _ (by omega)) (Int.emod_lt_of_pos _ hm) k3 (by omega) (by omega) (Int.ediv_nonneg hg0 (by omega))
            · walk_at "go"
              exact hnx _ _ ⟨k2, rfl⟩
          · walk_at "go"
            exact hnx _ _ ⟨k2, rfl⟩
        · rintro σ' H3 ⟨k3, rfl⟩
          walk_at "go"
          refine r_mod (by decide) ?_
          walk_at "go"
          refine r_mI (wm (n := 64) (m := 64) (by omega) (by omega)) ?_
          walk_at "go"
          have c0 := Int.emod_nonneg c (show (2147483629 : Int) ≠ 0 by decide)
          have c1 := Int.emod_lt_of_pos c (show (0 : Int) < 2147483629 by decide)
          refine r_pow (by decide) (by omega) ?_
          walk_at "go"
          refine r_mod (by decide) ?_
          walk_at "go"
          generalize hx : (c % 2147483629 + 50111 * s + 1103) ^ (5 : Int).toNat = x1
          have x0 := Int.emod_nonneg x1 (show (2147483497 : Int) ≠ 0 by decide)
          have x2 := Int.emod_lt_of_pos x1 (show (0 : Int) < 2147483497 by decide)
          generalize x1 % 2147483497 = mx at x0 x2 ⊢
          refine r_mI (wm (n := 64) (m := 64) (by omega) (by omega)) ?_
          walk_at "go"
          refine r_mI (wm (n := 64) (m := 64) (by omega) (by omega)) ?_
          walk_at "go"
          refine r_mI (wm (n := 64) (m := 64) (by omega) (by omega)) ?_
          walk_at "go"
          refine r_mI (wm (n := 64) (m := 64) (by omega) (by omega)) ?_
          walk_at "go"
          have b1 := mulB (a := mx) (b := 2 * s + 191) (x := 2147483497) (y := 200201) x0 (by omega) (by omega) (by omega)
          have b2 := mulB (a := 613 * s) (b := s) (x := 61300000) (y := 100000) (by omega) (by omega) (by omega) (by omega)
          refine r_pow (by decide) (by omega) ?_
          walk_at "go"
          refine r_mod (by decide) ?_
          walk_at "go"
          refine r_fdiv (by decide) (by decide) ?_
          walk_at "go"
          refine r_mod hm ?_
          walk_at "go"
          exact fin (Int.emod_nonneg _ (by omega)) (Int.emod_lt_of_pos _ hm) k3 (by omega) (by omega) hr0
abbrev st_law_pick : Stmt := top 28
theorem sc_law_pick : FnScope ["pen", "some"] ["pen", "some"] (defScope st_law_pick) := ⟨rfl, rfl, rfl, by decide +kernel, rfl, by decide +kernel, by decide +kernel⟩
def sp_law_pick (K : PySem.W.Frag) (D : Ad) : Sp := fun vs H Q _ => ∃ (P : Pen) (n : Nat) (y : V), vs = [.ref P.p, y] ∧ PenAt P n H ∧ n ≤ 99000 ∧ ((∃ (a : Addr) (xs : List V), y = .ref a ∧ H a = some (.lst xs) ∧ a ≠ P.p ∧ 0 < xs.length ∧ xs.length ≤ 1000000 ∧
  ∀ (j : Nat) x H', xs[j]? = some x → KeepB P H H' → PenAt P (n + 1) H' → Q x H') ∨ (∃ w : List Nat, y = .str (S w) ∧ 0 < w.length ∧ w.length ≤ 1000000 ∧ ∀ c H', c ∈ w → KeepB P H H' → PenAt P (n + 1) H' → Q (.str (S [c])) H'))
theorem ok_law_pick {f : Addr} {fd : FuncData} (F : Fun K "_law_pick" "_law_pick" st_law_pick f fd) (T : Txt P w K mg base D) (d_law_draw : CalN P w K mg base 1 "_law_draw" (sp_law_draw K D)) : FnOk P w K mg base CX0 2 f fd ["pen", "some"] (sp_law_pick K D) := by
  refine F.ok sc_law_pick (fun vs H Q E h => ?_) (fun cdv A outer s H vs Q E hr h => ?_)
  · obtain ⟨P, n, y, rfl, _⟩ := h
    rfl
  · obtain ⟨P, n, y, rfl, hP, hn, h⟩ := h
    have hu := hr.units
    refine ⟨_, (pss_one (ps_ret (pe_ix (ix_seqK (K := K)) (pv 1) (pe_c0 d_law_draw hr (by decide) (pa_cons (pv 0) (pa_cons (pe_callB (id := "len") (call_lenB (K := K)) (by rfl) T.b_len PySem.boot_len (pa_cons (pv 1) pa_nil)) pa_nil))) (fun _ _ => rfl)))), ?_⟩
    rcases h with ⟨a, xs, rfl, ha, hap, h0, hl, q⟩ | ⟨w, rfl, h0, hl, q⟩
    · walk_at "go"
      refine q_lenL (SqL.of ha) ?_
      walk_at "go"
      refine ⟨P, n, _, rfl, hP, by omega, by omega, by omega, fun d H' h1 h2 k hP' => ?_⟩
      obtain ⟨j, rfl⟩ := Int.eq_ofNat_of_zero_le h1
      have hj : j < xs.length := by omega
      have e : xs[j]? = some xs[j] := by simp [hj]
      exact r_ixL (SqL.of (k a _ hap ha)) (atI_nat e) (q j _ H' e k hP')
    · walk_at "go"
      refine q_lenS (by omega) ?_
      walk_at "go"
      refine ⟨P, n, _, rfl, hP, by omega, by omega, by omega, fun d H' h1 h2 k hP' => ?_⟩
      obtain ⟨j, rfl⟩ := Int.eq_ofNat_of_zero_le h1
      have hj : j < w.length := by omega
      have e : w[j]? = some w[j] := by simp [hj]
      exact r_ixS (by omega) (atI_nat e) (q _ H' (List.getElem_mem hj) k hP')
theorem q_pickL_law_pick {H : Hp} {Q : VK} {P : Pen} {n : Nat} {a : Addr} {xs : List V} (hP : PenAt P n H) (hn : n ≤ 99000) (ha : H a = some (.lst xs)) (hap : a ≠ P.p) (h0 : 0 < xs.length) (hl : xs.length ≤ 1000000) (q : ∀ (j : Nat) x H', xs[j]? = some x → KeepB P H H' → PenAt P (n + 1) H' → Q x H') : sp_law_pick K D [.ref P.p, .ref a] H Q E0 :=
  ⟨P, n, _, rfl, hP, hn, .inl ⟨a, xs, rfl, ha, hap, h0, hl, q⟩⟩
theorem q_pickS_law_pick {H : Hp} {Q : VK} {P : Pen} {n : Nat} {w : List Nat} (hP : PenAt P n H) (hn : n ≤ 99000) (h0 : 0 < w.length) (hl : w.length ≤ 1000000) (q : ∀ c H', c ∈ w → KeepB P H H' → PenAt P (n + 1) H' → Q (.str (S [c])) H') : sp_law_pick K D [.ref P.p, .str (S w)] H Q E0 :=
  ⟨P, n, _, rfl, hP, hn, .inr ⟨w, rfl, h0, hl, q⟩⟩
abbrev st_law_other_draw : Stmt := top 44
theorem sc_law_other_draw : FnScope ["pen", "many", "spot", "cell", "mixed", "digit", "great"] ["pen", "many"] (defScope st_law_other_draw) := ⟨rfl, rfl, rfl, by decide +kernel, rfl, by decide +kernel, by decide +kernel⟩
def sp_law_other_draw (K : PySem.W.Frag) (D : Ad) : Sp := fun vs H Q _ => ∃ (P : Pen) (n : Nat) (m : Int), vs = [.ref P.p, .int m] ∧ PenAt P n H ∧ n ≤ 100000 ∧ 0 < m ∧ m < 100000000000000000000000000000000000000000 ∧ ∀ d H', 0 ≤ d → d < m → KeepB P H H' → PenAt P (n + 1) H' → Q (.int d) H'
theorem ok_law_other_draw {f : Addr} {fd : FuncData} (F : Fun K "_law_other_draw" "_law_other_draw" st_law_other_draw f fd) (T : Txt P w K mg base D) : FnOk P w K mg base CX0 1 f fd ["pen", "many"] (sp_law_other_draw K D) := by
  refine F.ok sc_law_other_draw (fun vs H Q E h => ?_) (fun cdv A outer s H vs Q E hr h => ?_)
  · obtain ⟨P, n, m, rfl, _⟩ := h
    rfl
  · obtain ⟨P, n, m, rfl, hP, hn, hm, hm2, q⟩ := h
    have hu := hr.units
    refine ⟨_, (pss_cons (ps_if (pt_cmpR op_gt (pe_ix (ix_seqK (K := K)) (pv 0) pe_int (fun _ _ => rfl)) pe_int (nomark _))
      (pss_cons (ps_asg (pe_op op_mod (pe_callTy (T := "int") call_intB (by rfl) T.b_int (by decide +kernel) (pa_cons (pe_ix (ix_seqK (K := K)) (pv 0) pe_int (fun _ _ => rfl)) pa_nil)) (pv 1)) (pg_name (i := 5) sc_law_other_draw.nd rfl (Or.inl rfl)))
      (pss_cons (ps_asg (pe_op op_fdivW (pe_callTy (T := "int") call_intB (by rfl) T.b_int (by decide +kernel) (pa_cons (pe_ix (ix_seqK (K := K)) (pv 0) pe_int (fun _ _ => rfl)) pa_nil)) (pv 1)) (pg_sub (pv 0) pe_int set_list))
      (pss_one (ps_ret (pv 5)))))
      pss_nil)
      (pss_cons (ps_asg (pe_ix (ix_seqK (K := K)) (pv 0) pe_int (fun _ _ => rfl)) (pg_name (i := 2) sc_law_other_draw.nd rfl (Or.inl rfl)))
      (pss_cons (ps_asg (pe_op op_addA (pv 2) pe_int) (pg_sub (pv 0) pe_int set_list))
      (pss_cons (ps_asg (pe_op op_addA (pe_op op_mulB pe_int (pv 2)) pe_int) (pg_name (i := 3) sc_law_other_draw.nd rfl (Or.inl rfl)))
      (pss_cons (ps_if (pt_cmpR (op_neK (K := K) hu) (pe_ix (ix_seqK (K := K)) (pv 0) pe_int (fun _ _ => rfl)) (pe_lst pa_nil) (nomark _))
      (pss_one (ps_asg (pe_ix (ix_seqK (K := K)) (pe_ix (ix_seqK (K := K)) (pv 0) pe_int (fun _ _ => rfl)) (pe_op op_mod (pe_callTy (T := "int") call_intB (by rfl) T.b_int (by decide +kernel) (pa_cons (pv 2) pa_nil)) (pe_callB (id := "len") (call_lenB (K := K)) (by rfl) T.b_len PySem.boot_len (pa_cons (pe_ix (ix_seqK (K := K)) (pv 0) pe_int (fun _ _ => rfl)) pa_nil))) (fun _ _ => rfl)) (pg_name (i := 3) sc_law_other_draw.nd rfl (Or.inl rfl))))
      pss_nil)
      (pss_cons (ps_if (PW.pt (pw_and (pt_cmpR op_lt (pv 2) (pe_callB (id := "len") (call_lenB (K := K)) (by rfl) T.b_len PySem.boot_len (pa_cons (pe_ix (ix_seqK (K := K)) (pv 0) pe_int (fun _ _ => rfl)) pa_nil)) (nomark _)) (pw_and1 (pt_cmpR op_ge (pe_callB (id := "abs") call_absB (by rfl) T.b_abs (by decide +kernel) (pa_cons (pv 3) pa_nil)) (pe_op op_pow pe_int pe_int) (nomark _)))))
      (pss_cons (ps_asg (pe_op op_addA (pe_op op_mulB pe_int (pe_op op_sub (pe_callB (id := "abs") call_absB (by rfl) T.b_abs (by decide +kernel) (pa_cons (pv 3) pa_nil)) (pe_op op_pow pe_int pe_int))) (pe_callTy (T := "int") call_intB (by rfl) T.b_int (by decide +kernel) (pa_cons (pe_cmpR op_lt (pv 3) pe_int (nomark _)) pa_nil))) (pg_name (i := 6) sc_law_other_draw.nd rfl (Or.inl rfl)))
      (pss_cons (ps_asg (pe_op op_fdivW (pe_callTy (T := "int") call_intB (by rfl) T.b_int (by decide +kernel) (pa_cons (pv 6) pa_nil)) (pv 1)) (pg_sub (pv 0) pe_int set_list))
      (pss_one (ps_ret (pe_op op_mod (pe_callTy (T := "int") call_intB (by rfl) T.b_int (by decide +kernel) (pa_cons (pv 6) pa_nil)) (pv 1))))))
      pss_nil)
      (pss_cons (ps_asg (pe_op op_mod (pe_callTy (T := "int") call_intB (by rfl) T.b_int (by decide +kernel) (pa_cons (pe_op op_pow (pe_op op_addA (pe_op op_addA (pe_op op_mod (pe_callTy (T := "int") call_intB (by rfl) T.b_int (by decide +kernel) (pa_cons (pv 3) pa_nil)) pe_int) (pe_op op_mulB pe_int (pv 2))) pe_int) pe_int) pa_nil)) pe_int) (pg_name (i := 4) sc_law_other_draw.nd rfl (Or.inl rfl)))
      (pss_cons (ps_asg (pe_op op_mod (pe_callTy (T := "int") call_intB (by rfl) T.b_int (by decide +kernel) (pa_cons (pe_op op_pow (pe_op op_addA (pe_op op_addA (pe_op op_mulB (pv 4) (pe_op op_addA (pe_op op_mulB pe_int (pv 2)) pe_int)) (pe_op op_mulB (pe_op op_mulB pe_int (pv 2)) (pv 2))) pe_int) pe_int) pa_nil)) pe_int) (pg_name (i := 4) sc_law_other_draw.nd rfl (Or.inl rfl)))
      (pss_one (ps_ret (pe_op op_mod (pe_callTy (T := "int") call_intB (by rfl) T.b_int (by decide +kernel) (pa_cons (pe_op op_fdivW (pv 4) pe_int) pa_nil)) (pv 1)))))))))))), ?_⟩
    obtain ⟨s, r, hs0, hsn, hr0, k0⟩ := KP.of hP
    have fin : ∀ {d s' r' : Int} {H' : Hp}, 0 ≤ d → d < m → KP P H H' s' r' → 0 ≤ s' → s' ≤ n + 1 → 0 ≤ r' → Q (.int d) H' := fun h1 h2 k h3 h4 h5 => q _ _ h1 h2 k.keep (k.done h3 (by omega) h5 hP.len)
    walk_at "go"
    refine r_ixL (SqL.of k0.pen) rfl ?_
    walk_at "go"
    refine r_ib (fun e => ?_) (fun e => ?_)
    · walk_at "go"
      refine r_ixL (SqL.of k0.pen) rfl ?_
      walk_at "go"
      refine r_mod hm ?_
      walk_at "go"
      refine r_ixL (SqL.of k0.pen) rfl ?_
      walk_at "go"
      refine r_fdivH hm hm2 ?_
      walk_at "go"
      refine q_set k0.pen rfl ?_
      have k1 : KP P H (upd H P.p (penO P s (r / m))) s (r / m) := k0.set
      walk_at "go"
      exact fin (Int.emod_nonneg _ (by omega)) (Int.emod_lt_of_pos _ hm) k1 hs0 (by omega) (Int.ediv_nonneg hr0 (by omega))
    · walk_at "go"
      refine r_ixL (SqL.of k0.pen) rfl ?_
      walk_at "go"
      refine q_set k0.pen rfl ?_
      have k1 : KP P H (upd H P.p (penO P (s + 1) r)) (s + 1) r := k0.set
      generalize upd H P.p (.lst ([V.ref P.c, .int s, .int r].set 1 (.int (s + 1)))) = H1 at k1 ⊢
      walk_at "gp"
      refine r_mI (wm (n := 64) (m := 64) (by omega) (by omega)) ?_
      walk_at "gp"
      refine r_cut (fun σ' H' => ∃ (c : Int), KP P H H' (s + 1) r ∧ σ' = [some (.ref P.p), some (.int m), some (.int s), some (.int c), none, none, none]) (fun nx hnx => ?_) ?_
      · walk_at "go"
        refine r_ixL (SqL.of k1.pen) rfl ?_
        walk_at "go"
        refine r_sz (by decide) fun e1 he1 => ?_
        have k2 := k1.new (o := .lst []) he1
        refine r_neNil (SqL.of k2.cells) (dpI P.ns) ((lay_ints P.ns).mono (by decide)) (SqL.of upd_same) ?_
        walk_at "go"
        refine r_ib (fun e => ?_) (fun e => ?_)
        · have hne : P.ns ≠ [] := fun z => by rw [z] at e; simp at e
          have hlen : 0 < P.ns.length := List.length_pos_iff.mpr hne
          walk_at "go"
          refine r_ixL (SqL.of k2.pen) rfl ?_
          walk_at "go"
          refine r_ixL (SqL.of k2.pen) rfl ?_
          walk_at "go"
          refine q_lenL (SqL.of k2.cells) ?_
          rw [List.length_map]
          walk_at "go"
          refine r_mod (by omega) ?_
          refine r_ixLi k2.cells (Int.emod_nonneg _ (by omega)) (Int.emod_lt_of_pos _ (by omega)) fun c hc => ?_
          walk_at "go"
          exact hnx _ _ ⟨c, k2, rfl⟩
        · walk_at "go"
          exact hnx _ _ ⟨_, k2, rfl⟩
      · rintro σ' H2 ⟨c, k2, rfl⟩
        walk_at "gp"
        refine r_cut (fun σ' H' => KP P H H' (s + 1) r ∧ σ' = [some (.ref P.p), some (.int m), some (.int s), some (.int c), none, none, none]) (fun nx hnx => ?_) ?_
        · walk_at "go"
          refine r_ixL (SqL.of k2.pen) rfl ?_
          walk_at "go"
          refine q_lenL (SqL.of k2.cells) ?_
          walk_at "go"
          refine r_ib (fun e => ?_) (fun e => ?_)
          · walk_at "go"
            refine r_pow (by decide) (by decide) ?_
            walk_at "go"
            refine r_ib (fun e => ?_) (fun e => ?_)
            · have e := of_decide_eq_true e
              walk_at "go"
              refine r_pow (by decide) (by decide) ?_
              walk_at "go"
              generalize hcc : (if c < 0 then -c else c) = cc at e ⊢
              generalize htt : (10 : Int) ^ (18 : Int).toNat = tt at e ⊢
              refine r_mL (by decide) ?_
              walk_at "go"
              have hg0 : 0 ≤ 2 * (cc - tt) + (if decide (c < 0) = true then 1 else 0) := by
                split <;> omega
              generalize 2 * (cc - tt) + (if decide (c < 0) = true then 1 else 0) = gg at hg0 ⊢
              refine r_fdivH hm hm2 ?_
              walk_at "go"
              refine q_set k2.pen rfl ?_
              have k3 : KP P H (upd H2 P.p (penO P (s + 1) (gg / m))) (s + 1) (gg / m) := k2.set
              walk_at "go"
              refine r_mod hm ?_
              walk_at "go"
              exact fin (Int.emod_nonneg _ (by omega)) (Int.emod_lt_of_pos _ hm) k3 (by omega) (by omega) (Int.ediv_nonneg hg0 (by omega))
            · walk_at "go"
              exact hnx _ _ ⟨k2, rfl⟩
          · walk_at "go"
            exact hnx _ _ ⟨k2, rfl⟩
        · rintro σ' H3 ⟨k3, rfl⟩
          walk_at "go"
          refine r_mod (by decide) ?_
          walk_at "go"
          refine r_mI (wm (n := 64) (m := 64) (by omega) (by omega)) ?_
          walk_at "go"
          have c0 := Int.emod_nonneg c (show (2147483579 : Int) ≠ 0 by decide)
          have c1 := Int.emod_lt_of_pos c (show (0 : Int) < 2147483579 by decide)
          refine r_pow (by decide) (by omega) ?_
          walk_at "go"
          refine r_mod (by decide) ?_
          walk_at "go"
          generalize hx : (c % 2147483579 + 46507 * s + 1193) ^ (5 : Int).toNat = x1
          have x0 := Int.emod_nonneg x1 (show (2147483549 : Int) ≠ 0 by decide)
          have x2 := Int.emod_lt_of_pos x1 (show (0 : Int) < 2147483549 by decide)
          generalize x1 % 2147483549 = mx at x0 x2 ⊢
          refine r_mI (wm (n := 64) (m := 64) (by omega) (by omega)) ?_
          walk_at "go"
          refine r_mI (wm (n := 64) (m := 64) (by omega) (by omega)) ?_
          walk_at "go"
          refine r_mI (wm (n := 64) (m := 64) (by omega) (by omega)) ?_
          walk_at "go"
          refine r_mI (wm (n := 64) (m := 64) (by omega) (by omega)) ?_
          walk_at "go"
          have b1 := mulB (a := mx) (b := 2 * s + 211) (x := 2147483549) (y := 200221) x0 (by omega) (by omega) (by omega)
          have b2 := mulB (a := 631 * s) (b := s) (x := 63100000) (y := 100000) (by omega) (by omega) (by omega) (by omega)
          refine r_pow (by decide) (by omega) ?_
          walk_at "go"
          refine r_mod (by decide) ?_
          walk_at "go"
          refine r_fdiv (by decide) (by decide) ?_
          walk_at "go"
          refine r_mod hm ?_
          walk_at "go"
          exact fin (Int.emod_nonneg _ (by omega)) (Int.emod_lt_of_pos _ hm) k3 (by omega) (by omega) hr0
abbrev st_law_other_pick : Stmt := top 45
theorem sc_law_other_pick : FnScope ["pen", "some"] ["pen", "some"] (defScope st_law_other_pick) := ⟨rfl, rfl, rfl, by decide +kernel, rfl, by decide +kernel, by decide +kernel⟩
def sp_law_other_pick (K : PySem.W.Frag) (D : Ad) : Sp := fun vs H Q _ => ∃ (P : Pen) (n : Nat) (y : V), vs = [.ref P.p, y] ∧ PenAt P n H ∧ n ≤ 99000 ∧ ((∃ (a : Addr) (xs : List V), y = .ref a ∧ H a = some (.lst xs) ∧ a ≠ P.p ∧ 0 < xs.length ∧ xs.length ≤ 1000000 ∧
  ∀ (j : Nat) x H', xs[j]? = some x → KeepB P H H' → PenAt P (n + 1) H' → Q x H') ∨ (∃ w : List Nat, y = .str (S w) ∧ 0 < w.length ∧ w.length ≤ 1000000 ∧ ∀ c H', c ∈ w → KeepB P H H' → PenAt P (n + 1) H' → Q (.str (S [c])) H'))
theorem ok_law_other_pick {f : Addr} {fd : FuncData} (F : Fun K "_law_other_pick" "_law_other_pick" st_law_other_pick f fd) (T : Txt P w K mg base D) (d_law_other_draw : CalN P w K mg base 1 "_law_other_draw" (sp_law_other_draw K D)) : FnOk P w K mg base CX0 2 f fd ["pen", "some"] (sp_law_other_pick K D) := by
  refine F.ok sc_law_other_pick (fun vs H Q E h => ?_) (fun cdv A outer s H vs Q E hr h => ?_)
  · obtain ⟨P, n, y, rfl, _⟩ := h
    rfl
  · obtain ⟨P, n, y, rfl, hP, hn, h⟩ := h
    have hu := hr.units
    refine ⟨_, (pss_one (ps_ret (pe_ix (ix_seqK (K := K)) (pv 1) (pe_c0 d_law_other_draw hr (by decide) (pa_cons (pv 0) (pa_cons (pe_callB (id := "len") (call_lenB (K := K)) (by rfl) T.b_len PySem.boot_len (pa_cons (pv 1) pa_nil)) pa_nil))) (fun _ _ => rfl)))), ?_⟩
    rcases h with ⟨a, xs, rfl, ha, hap, h0, hl, q⟩ | ⟨w, rfl, h0, hl, q⟩
    · walk_at "go"
      refine q_lenL (SqL.of ha) ?_
      walk_at "go"
      refine ⟨P, n, _, rfl, hP, by omega, by omega, by omega, fun d H' h1 h2 k hP' => ?_⟩
      obtain ⟨j, rfl⟩ := Int.eq_ofNat_of_zero_le h1
      have hj : j < xs.length := by omega
      have e : xs[j]? = some xs[j] := by simp [hj]
      exact r_ixL (SqL.of (k a _ hap ha)) (atI_nat e) (q j _ H' e k hP')
    · walk_at "go"
      refine q_lenS (by omega) ?_
      walk_at "go"
      refine ⟨P, n, _, rfl, hP, by omega, by omega, by omega, fun d H' h1 h2 k hP' => ?_⟩
      obtain ⟨j, rfl⟩ := Int.eq_ofNat_of_zero_le h1
      have hj : j < w.length := by omega
      have e : w[j]? = some w[j] := by simp [hj]
      exact r_ixS (by omega) (atI_nat e) (q _ H' (List.getElem_mem hj) k hP')
theorem q_pickL_law_other_pick {H : Hp} {Q : VK} {P : Pen} {n : Nat} {a : Addr} {xs : List V} (hP : PenAt P n H) (hn : n ≤ 99000) (ha : H a = some (.lst xs)) (hap : a ≠ P.p) (h0 : 0 < xs.length) (hl : xs.length ≤ 1000000) (q : ∀ (j : Nat) x H', xs[j]? = some x → KeepB P H H' → PenAt P (n + 1) H' → Q x H') : sp_law_other_pick K D [.ref P.p, .ref a] H Q E0 :=
  ⟨P, n, _, rfl, hP, hn, .inl ⟨a, xs, rfl, ha, hap, h0, hl, q⟩⟩
theorem q_pickS_law_other_pick {H : Hp} {Q : VK} {P : Pen} {n : Nat} {w : List Nat} (hP : PenAt P n H) (hn : n ≤ 99000) (h0 : 0 < w.length) (hl : w.length ≤ 1000000) (q : ∀ c H', c ∈ w → KeepB P H H' → PenAt P (n + 1) H' → Q (.str (S [c])) H') : sp_law_other_pick K D [.ref P.p, .str (S w)] H Q E0 :=
  ⟨P, n, _, rfl, hP, hn, .inr ⟨w, rfl, h0, hl, q⟩⟩
end
end Cs


set_option Elab.async false
set_option linter.all false
set_option maxRecDepth 100000
set_option maxHeartbeats 4000000
namespace Cs
open PySem PySem.Spec PyProof.Rows L2 LamX
local macro_rules | `(tactic| walk_at "two") => `(tactic| with_reducible (first
  | refine r_seq ?_ | refine r_nx ?_ | refine r_rt ?_ | refine r_ct ?_ | refine r_bk ?_ | refine r_asg ?_ | refine r_gname ?_ | refine r_ret ?_ | refine r_drop ?_ | refine r_next ?_ | refine r_retN ?_ | refine r_fld ?_ | refine r_gsub ?_ | refine r_brk ?_ | refine r_cont ?_
  | refine r_var rfl ?_ | refine r_c ?_ | refine r_op ?_ | refine r_un ?_ | refine r_test ?_ | refine r_tB ?_ | refine r_bl ?_ | refine r_blv ?_
  | refine r_cons ?_ | refine r_nil ?_ | refine r_lc ?_ | refine r_yes ?_ | refine r_iLT0 ?_ | refine r_iEnumS ?_ | refine r_iEnum ?_ | refine r_iStr ?_ | refine r_iList ?_ | refine r_iRng ?_ | refine r_iRng2 ?_ | refine r_iRng3 ?_ | refine r_iStrS ?_ | refine r_iStrE ?_ | refine r_cb ?_ | refine r_call0 ?_ | refine r_callS ?_ | refine r_callK ?_ | refine r_tup ?_ | refine r_lst ?_ | refine r_make0 ?_ | refine r_attr ?_
  | refine r_sl ?_ | refine r_nopart ?_ | refine r_part ?_ | refine r_parti ?_ | refine r_tyS ?_ | refine r_bm0 ?_ | refine r_bm ?_ | refine r_dnew ?_
  | refine r_and ?_ | refine r_or ?_ | refine r_not ?_ | refine r_andV ?_ | refine r_orV ?_ | refine r_notV ?_ | refine r_if ?_ | refine r_ift ?_ | refine r_iff ?_ | refine r_revL ?_ | refine r_ntt ?_ | refine r_nff ?_ | refine r_itup ?_ | refine r_chain ?_
  | refine r_I0 ?_ | refine r_U ?_ | refine r_addI ?_ | refine r_eqI ?_ | refine r_neI ?_ | refine r_eqS ?_ | refine r_neS ?_ | refine r_eqB ?_ | refine r_neB ?_ | refine r_inS ?_ | refine r_niS ?_ | refine r_int1 ?_ | refine r_abs ?_ | refine r_isN ?_ | refine r_notN ?_
  | refine r_intB ?_ | refine r_max ?_ | refine r_strS ?_ | refine r_isB ?_ | refine r_notB ?_ | refine r_notBI ?_ | refine r_revS ?_ | refine r_sta ?_ | refine r_metA ?_ | refine r_mK1 ?_ | refine r_mD ?_ | refine r_iOwn ?_ | refine r_aug rfl ?_ | refine r_ipI ?_ | refine r_par ?_ | refine r_vw ?_))
local macro_rules | `(tactic| walk_at "one") => `(tactic| first | walk_at "two" | with_reducible (first | refine r_ifs ?_ | refine r_forE ?_))
local macro_rules | `(tactic| walk_at "go") => `(tactic| repeat walk_at "one")
local macro_rules | `(tactic| walk_at "gp") => `(tactic| repeat walk_at "two")

section
variable {P : Program} {w : World} {K : PySem.W.Frag} {mg : Str → Option Value} {base : Heap} {D : Ad}

open Rp
theorem walk_SL {w : List Nat} : Walk (Its (S w)) (w.map fun c => V.str (S [c])).length (fun _ => True) (YAt (w.map fun c => V.str (S [c]))) := by
  rw [List.length_map]
  exact walk_S
abbrev st_law_undo : Stmt := top 30
theorem sc_law_undo : FnScope ["letter"] ["letter"] (defScope st_law_undo) := ⟨rfl, rfl, rfl, by decide +kernel, rfl, by decide +kernel, by decide +kernel⟩
def sp_law_undo (K : PySem.W.Frag) (D : Ad) : Sp := fun vs H Q _ => ∃ c, vs = [.str (S [c])] ∧ isL c = true ∧ Q (.str (S [und c])) H
theorem ok_law_undo {f : Addr} {fd : FuncData} (F : Fun K "_law_undo" "_law_undo" st_law_undo f fd) (T : Txt P w K mg base D) : FnOk P w K mg base CX0 1 f fd ["letter"] (sp_law_undo K D) := by
  refine F.ok sc_law_undo (fun vs H Q E h => ?_) (fun cdv A outer s H vs Q E hr h => ?_)
  · obtain ⟨c, rfl, _⟩ := h
    rfl
  · obtain ⟨c, rfl, hc, q⟩ := h
    have hu := hr.units
    refine ⟨_, (pss_one (ps_ret (pe_ix (ix_seqK (K := K)) (pe_S (w := [97, 98, 99, 100, 65, 66, 67, 68]) (by decide +kernel)) (pe_bmK (K := K) PySem.F.plainAttrs_str PySem.F.slot_str_index PySem.F.type_str_index mb_sindex (pe_S (w := [65, 66, 67, 68, 97, 98, 99, 100]) (by decide +kernel)) (pa_cons (pv 0) pa_nil)) (fun _ _ => rfl)))), ?_⟩
    walk_at "go"
    refine r_idx8 hc ?_
    exact r_ixS (by decide) (at_und' hc) q
abbrev st_law_row : Stmt := top 31
theorem sc_law_row : FnScope ["pen", "most", "turn", "found", "kind", "some", "letter"] ["pen", "most"] (defScope st_law_row) := ⟨rfl, rfl, rfl, by decide +kernel, rfl, by decide +kernel, by decide +kernel⟩
def sp_law_row (K : PySem.W.Frag) (D : Ad) : Sp := fun vs H Q _ => ∃ (P : Pen) (n m : Nat), vs = [.ref P.p, .int (m : Nat)] ∧ PenAt P n H ∧ n + m ≤ 90000 ∧ m ≤ 100 ∧
  ∀ w H', Good w → w.length ≤ m → KeepB P H H' → PenAt P (n + m + 2) H' → Q (.str (S w)) H'
theorem ok_law_row {f : Addr} {fd : FuncData} (F : Fun K "_law_row" "_law_row" st_law_row f fd) (T : Txt P w K mg base D) (d_law_draw : CalN P w K mg base 1 "_law_draw" (sp_law_draw K D)) (d_law_pick : CalN P w K mg base 2 "_law_pick" (sp_law_pick K D)) (d_law_undo : CalN P w K mg base 1 "_law_undo" (sp_law_undo K D)) : FnOk P w K mg base CX0 3 f fd ["pen", "most"] (sp_law_row K D) := by
  refine F.ok sc_law_row (fun vs H Q E h => ?_) (fun cdv A outer s H vs Q E hr h => ?_)
  · obtain ⟨P, n, m, rfl, _⟩ := h
    rfl
  · obtain ⟨P, n, m, rfl, hP, hn, hm, q⟩ := h
    have hu := hr.units
    refine ⟨_, (pss_cons (ps_asg (pe_tup (pa_cons (pe_S (w := []) (by decide +kernel)) (pa_cons (pe_c0 d_law_pick hr (by decide) (pa_cons (pv 0) (pa_cons (pe_lst (pa_cons (pe_S (w := [65, 66, 67, 68, 97, 98, 99, 100]) (by decide +kernel)) (pa_cons (pe_S (w := [65, 97, 98]) (by decide +kernel)) (pa_cons (pe_S (w := [65, 66, 97, 98]) (by decide +kernel)) (pa_cons (pe_S (w := [67, 99, 100, 66]) (by decide +kernel)) (pa_cons (pe_S (w := [65, 68]) (by decide +kernel)) pa_nil)))))) pa_nil))) pa_nil))) (pg_tup (by rfl) (pgs_cons (pg_name (i := 3) sc_law_row.nd rfl (Or.inr rfl)) (pgs_cons (pg_name (i := 4) sc_law_row.nd rfl (Or.inl rfl)) pgs_nil))))
      (pss_cons (ps_for PassesOwn.never rfl (pi_range1 rfl T.b_range (pa_cons (pe_c0 d_law_draw hr (by decide) (pa_cons (pv 0) (pa_cons (pe_op op_addA (pv 1) pe_int) pa_nil))) pa_nil)) (pg_name (i := 2) sc_law_row.nd rfl (Or.inl rfl))
      (pss_cons (ps_setLc (i := 5) (own := [("letter", 6)]) (g := gName 6) (by rfl) sc_law_row.nd rfl rfl (sw_true rfl rfl rfl (by decide +kernel)) (pi_str (pv 4)) (blkOk_by (N := ["pen", "most", "turn", "found", "kind", "some", "letter"]) (sc := defScope st_law_row) (by decide +kernel)) (fun _ _ _ _ _ => (pg_name (i := 6) sc_law_row.nd rfl (Or.inl rfl))) (fun _ _ _ _ _ => (pts_one (PW.pt (pw_or (pt_cmpR (op_eqK (K := K) hu) (pv 3) (pe_S (w := []) (by decide +kernel)) (nomark _)) (pw_or1 (pt_cmpR (op_neK (K := K) hu) (pv 6) (pe_c0 d_law_undo hr (by decide) (pa_cons (pe_ix (ix_seqK (K := K)) (pv 3) (pe_un un_neg pe_int) (fun _ _ => rfl)) pa_nil)) (nomark _))))))) (fun _ _ _ _ _ => (pv 6)))
      (pss_one (ps_asg (pe_op op_addA (pv 3) (pe_c0 d_law_pick hr (by decide) (pa_cons (pv 0) (pa_cons (pv 5) pa_nil)))) (pg_name (i := 3) sc_law_row.nd rfl (Or.inr rfl))))))
      (pss_one (ps_ret (pv 3))))), ?_⟩
    walk_at "go"
    refine r_sz (by decide) fun e1 he1 => ?_
    generalize hks : [V.str (S [65, 66, 67, 68, 97, 98, 99, 100]), _, _, _, _] = ks
    have s1 := same_upd (o := .lst ks) he1
    have hP1 := hP.same s1
    refine q_pickL_law_pick (K := K) (D := D) hP1 (by omega) upd_same (hP.ne_new he1).1.symm (by rw [← hks]; simp) (by rw [← hks]; simp) fun j x H2 hx k2 hP2 => ?_
    have k2 := (KeepB.of_same s1).trans k2
    obtain ⟨kd, rfl, hkl, hkL, c1, c2, hc1, hc2, hcn⟩ : ∃ kd : List Nat, x = .str (S kd) ∧ kd.length ≤ 8 ∧ AllL kd ∧ ∃ c1 c2, c1 ∈ kd ∧ c2 ∈ kd ∧ c1 ≠ c2 := by
      rw [← hks] at hx
      have d8 : ∀ w : List Nat, (w.all isL) = true → AllL w := fun w h c hc => List.all_eq_true.mp h c hc
      match j, hx with
      | 0, hx => cases hx; exact ⟨_, rfl, by decide, d8 _ (by decide), 65, 66, by decide, by decide, by decide⟩
      | 1, hx => cases hx; exact ⟨_, rfl, by decide, d8 _ (by decide), 65, 97, by decide, by decide, by decide⟩
      | 2, hx => cases hx; exact ⟨_, rfl, by decide, d8 _ (by decide), 65, 66, by decide, by decide, by decide⟩
      | 3, hx => cases hx; exact ⟨_, rfl, by decide, d8 _ (by decide), 67, 66, by decide, by decide, by decide⟩
      | 4, hx => cases hx; exact ⟨_, rfl, by decide, d8 _ (by decide), 65, 68, by decide, by decide, by decide⟩
      | j + 5, hx => cases hx
    clear hks hx
    walk_at "go"
    refine r_sz (by simp) fun t1 ht1 => ?_
    refine r_up2 (SqT.of upd_same) rfl ?_
    have st := same_upd (o := .tup [V.str (S []), .str (S kd)]) ht1
    have hP2 := hP2.same st
    have k2 := k2.trans (.of_same st)
    generalize upd H2 t1 (.tup [V.str (S []), .str (S kd)]) = H2b at hP2 k2 ⊢
    walk_at "go"
    refine ⟨P, _, (m : Int) + 1, rfl, hP2, by omega, by omega, by omega, fun d H3 hd0 hd1 kk3 hP3 => ?_⟩
    have k3 := k2.trans kk3
    obtain ⟨r, rfl⟩ := Int.eq_ofNat_of_zero_le hd0
    have hrm : r ≤ m := by omega
    walk_at "go"
    refine ⟨_, rfl, by omega, by omega, ?_⟩
    rw [Int.toNat_natCast]
    refine for_it walk_range0 (fun i σ H' => ∃ w v1 v2, Good w ∧ w.length = i ∧ KeepB P H H' ∧ PenAt P (n + 2 + i) H' ∧ σ = [some (.ref P.p), some (.int (m : Nat)), v1, some (.str (S w)), some (.str (S kd)), v2, none]) ⟨[], _, _, rfl, rfl, k3, hP3, rfl⟩ (fun _ _ _ _ _ => trivial) ?_ ?_
    · rintro i x σ H4 H5 hi ⟨w, v1, v2, hg, hl, k1, hP1, rfl⟩ ⟨rfl, hx⟩
      have him : i < r := by simpa using hi
      have hla := good_L hg
      walk_at "go"
      intro Dl hDl
      obtain ⟨nD1, nD2⟩ := hP1.ne_new hDl
      refine lcG (its := kd.map fun c => V.str (S [c])) walk_SL (fun j acc H' => KeepB P H5 H' ∧ PenAt P (n + 2 + i) H' ∧ acc = ((kd.take j).filter fun c => decide (w = []) || !decide (lastL w = [und c])).map fun c => V.str (S [c])) ⟨KeepB.of_same (same_upd hDl), hP1.same (same_upd hDl), rfl⟩ (fun _ _ _ _ _ _ => trivial) ?_ ?_
      · rintro j y acc H6 hy ⟨k6, hP6, rfl⟩ e6
        obtain ⟨c, hc, rfl⟩ : ∃ c, kd[j]? = some c ∧ y = .str (S [c]) := by
          rw [List.getElem?_map] at hy
          cases e : kd[j]? with
          | none => rw [e] at hy; cases hy
          | some c => rw [e] at hy; exact ⟨c, rfl, (Option.some.inj hy).symm⟩
        have hcL : isL c = true := hkL c (List.mem_of_getElem? hc)
        have nh : H5 Dl = none := hDl
        have yes : (decide (w = []) || !decide (lastL w = [und c])) = true → ∃ acc, H6 Dl = some (.lst acc) ∧ acc.length < sizeLine ∧ ∃ a2, (KeepB P H5 (upd H6 Dl (.lst (acc ++ [.str (S [c])]))) ∧ PenAt P (n + 2 + i) (upd H6 Dl (.lst (acc ++ [.str (S [c])]))) ∧
            a2 = ((kd.take (j + 1)).filter fun c => decide (w = []) || !decide (lastL w = [und c])).map fun c => V.str (S [c])) ∧ upd H6 Dl (.lst (acc ++ [.str (S [c])])) Dl = some (.lst a2) := fun e => by
          refine lcFin (Pv := fun a2 H' => KeepB P H5 H' ∧ PenAt P (n + 2 + i) H' ∧ a2 = ((kd.take (j + 1)).filter fun c => decide (w = []) || !decide (lastL w = [und c])).map fun c => V.str (S [c])) e6 ?_ ⟨k6.mut nh, ?_, ?_⟩
          · rw [List.length_map]
            exact Nat.le_trans (List.length_filter_le _ _) (by rw [List.length_take]; omega)
          · obtain ⟨s', r', h1, h2, h3, h4⟩ := hP6.ex
            exact ⟨⟨s', r', h1, h2, h3, by rw [upd_ne nD1]; exact h4⟩, by rw [upd_ne nD2]; exact hP6.cells, hP6.len, hP6.ne⟩
          · rw [take_snoc hc, List.filter_append, List.map_append, List.filter_cons, if_pos e]
            rfl
        have no : (decide (w = []) || !decide (lastL w = [und c])) = false → ∃ a2, (KeepB P H5 H6 ∧ PenAt P (n + 2 + i) H6 ∧ a2 = ((kd.take (j + 1)).filter fun c => decide (w = []) || !decide (lastL w = [und c])).map fun c => V.str (S [c])) ∧ H6 Dl = some (.lst a2) := fun e => by
          refine ⟨_, ⟨k6, hP6, ?_⟩, e6⟩
          rw [take_snoc hc, List.filter_append, List.map_append, List.filter_cons, if_neg (by rw [e]; exact Bool.false_ne_true)]
          simp
        walk_at "go"
        refine r_ib (fun e => ?_) (fun e => ?_)
        · walk_at "go"
          exact yes (by rw [e]; rfl)
        · have hw : w ≠ [] := of_decide_eq_false e
          obtain ⟨d, h1, h2⟩ := lastL_one hw
          have hdL : isL d = true := allL_last hla d (by rw [h1]; exact List.mem_cons_self)
          walk_at "go"
          refine r_ixS (by omega) h2 ?_
          walk_at "go"
          refine ⟨d, rfl, hdL, ?_⟩
          walk_at "go"
          have ef : (decide (w = []) || !decide (lastL w = [und c])) = !decide ([c] = [und d]) := by
            rw [e, h1, Bool.false_or]
            congr 1
            rw [Bool.eq_iff_iff, decide_eq_true_iff, decide_eq_true_iff]
            constructor
            · intro z
              have z : d = und c := by simpa using z
              rw [z, und_und hcL]
            · intro z
              have z : c = und d := by simpa using z
              rw [z, und_und hdL]
          refine r_ib (fun e2 => ?_) (fun e2 => ?_)
          · walk_at "go"
            exact yes (by rw [ef, e2])
          · exact no (by rw [ef, e2])
      · rintro acc H6 ⟨k6, hP6, rfl⟩ e6
        rw [List.length_map, List.take_length] at e6
        walk_at "go"
        have hpos : ∃ c ∈ kd, (decide (w = []) || !decide (lastL w = [und c])) = true := by
          by_cases hd : lastL w = [und c1]
          · refine ⟨c2, hc2, ?_⟩
            rw [hd]
            have : und c1 ≠ und c2 := fun z => hcn (und_inj (hkL c1 hc1) (hkL c2 hc2) z)
            simp [this]
          · refine ⟨c1, hc1, ?_⟩
            simp [hd]
        refine q_pickL_law_pick (K := K) (D := D) hP6 (by omega) e6 nD1.symm ?_ ?_ fun j x H7 hx k7 hP7 => ?_
        · rw [List.length_map]
          obtain ⟨c, h1, h2⟩ := hpos
          exact List.length_pos_of_mem (List.mem_filter.mpr ⟨h1, h2⟩)
        · rw [List.length_map]
          exact Nat.le_trans (List.length_filter_le _ _) (by omega)
        · obtain ⟨c, hc, rfl⟩ := List.mem_map.mp (List.mem_of_getElem? hx)
          obtain ⟨hc1', hc2'⟩ := List.mem_filter.mp hc
          have hcL : isL c = true := hkL c hc1'
          refine r_addS (by simp; omega) ?_
          walk_at "go"
          refine ⟨w ++ [c], _, _, good_snoc.mpr ⟨hg, hcL, fun z => ?_⟩, by simp [hl], (k1.trans k6).trans k7, hP7, rfl⟩
          by_cases hw : w = []
          · subst hw; cases z
          · obtain ⟨d, h1, _⟩ := lastL_one hw
            have hdL : isL d = true := allL_last hla d (by rw [h1]; exact List.mem_cons_self)
            rw [h1] at z hc2'
            have z : c = und d := by simpa using z
            rw [z, und_und hdL] at hc2'
            simp [hw] at hc2'
    · rintro σ H' ⟨w, v1, v2, hg, hl, k1, hP1, rfl⟩
      rw [List.length_map, List.length_range] at hl hP1
      walk_at "go"
      exact q w H' hg (by omega) k1 (hP1.mono (by omega))
abbrev st_law_other_row : Stmt := top 46
theorem sc_law_other_row : FnScope ["pen", "most", "turn", "found", "kind", "some", "letter"] ["pen", "most"] (defScope st_law_other_row) := ⟨rfl, rfl, rfl, by decide +kernel, rfl, by decide +kernel, by decide +kernel⟩
def sp_law_other_row (K : PySem.W.Frag) (D : Ad) : Sp := fun vs H Q _ => ∃ (P : Pen) (n m : Nat), vs = [.ref P.p, .int (m : Nat)] ∧ PenAt P n H ∧ n + m ≤ 90000 ∧ m ≤ 100 ∧
  ∀ w H', Good w → w.length ≤ m → KeepB P H H' → PenAt P (n + m + 2) H' → Q (.str (S w)) H'
theorem ok_law_other_row {f : Addr} {fd : FuncData} (F : Fun K "_law_other_row" "_law_other_row" st_law_other_row f fd) (T : Txt P w K mg base D) (d_law_other_draw : CalN P w K mg base 1 "_law_other_draw" (sp_law_other_draw K D)) (d_law_other_pick : CalN P w K mg base 2 "_law_other_pick" (sp_law_other_pick K D)) (d_law_undo : CalN P w K mg base 1 "_law_undo" (sp_law_undo K D)) : FnOk P w K mg base CX0 3 f fd ["pen", "most"] (sp_law_other_row K D) := by
  refine F.ok sc_law_other_row (fun vs H Q E h => ?_) (fun cdv A outer s H vs Q E hr h => ?_)
  · obtain ⟨P, n, m, rfl, _⟩ := h
    rfl
  · obtain ⟨P, n, m, rfl, hP, hn, hm, q⟩ := h
    have hu := hr.units
    refine ⟨_, (pss_cons (ps_asg (pe_tup (pa_cons (pe_S (w := []) (by decide +kernel)) (pa_cons (pe_c0 d_law_other_pick hr (by decide) (pa_cons (pv 0) (pa_cons (pe_lst (pa_cons (pe_S (w := [65, 66, 67, 68, 97, 98, 99, 100]) (by decide +kernel)) (pa_cons (pe_S (w := [65, 97, 98]) (by decide +kernel)) (pa_cons (pe_S (w := [65, 66, 97, 98]) (by decide +kernel)) (pa_cons (pe_S (w := [67, 99, 100, 66]) (by decide +kernel)) (pa_cons (pe_S (w := [65, 68]) (by decide +kernel)) pa_nil)))))) pa_nil))) pa_nil))) (pg_tup (by rfl) (pgs_cons (pg_name (i := 3) sc_law_other_row.nd rfl (Or.inr rfl)) (pgs_cons (pg_name (i := 4) sc_law_other_row.nd rfl (Or.inl rfl)) pgs_nil))))
      (pss_cons (ps_for PassesOwn.never rfl (pi_range1 rfl T.b_range (pa_cons (pe_c0 d_law_other_draw hr (by decide) (pa_cons (pv 0) (pa_cons (pe_op op_addA (pv 1) pe_int) pa_nil))) pa_nil)) (pg_name (i := 2) sc_law_other_row.nd rfl (Or.inl rfl))
      (pss_cons (ps_setLc (i := 5) (own := [("letter", 6)]) (g := gName 6) (by rfl) sc_law_other_row.nd rfl rfl (sw_true rfl rfl rfl (by decide +kernel)) (pi_str (pv 4)) (blkOk_by (N := ["pen", "most", "turn", "found", "kind", "some", "letter"]) (sc := defScope st_law_other_row) (by decide +kernel)) (fun _ _ _ _ _ => (pg_name (i := 6) sc_law_other_row.nd rfl (Or.inl rfl))) (fun _ _ _ _ _ => (pts_one (PW.pt (pw_or (pt_cmpR (op_eqK (K := K) hu) (pv 3) (pe_S (w := []) (by decide +kernel)) (nomark _)) (pw_or1 (pt_cmpR (op_neK (K := K) hu) (pv 6) (pe_c0 d_law_undo hr (by decide) (pa_cons (pe_ix (ix_seqK (K := K)) (pv 3) (pe_un un_neg pe_int) (fun _ _ => rfl)) pa_nil)) (nomark _))))))) (fun _ _ _ _ _ => (pv 6)))
      (pss_one (ps_asg (pe_op op_addA (pv 3) (pe_c0 d_law_other_pick hr (by decide) (pa_cons (pv 0) (pa_cons (pv 5) pa_nil)))) (pg_name (i := 3) sc_law_other_row.nd rfl (Or.inr rfl))))))
      (pss_one (ps_ret (pv 3))))), ?_⟩
    walk_at "go"
    refine r_sz (by decide) fun e1 he1 => ?_
    generalize hks : [V.str (S [65, 66, 67, 68, 97, 98, 99, 100]), _, _, _, _] = ks
    have s1 := same_upd (o := .lst ks) he1
    have hP1 := hP.same s1
    refine q_pickL_law_other_pick (K := K) (D := D) hP1 (by omega) upd_same (hP.ne_new he1).1.symm (by rw [← hks]; simp) (by rw [← hks]; simp) fun j x H2 hx k2 hP2 => ?_
    have k2 := (KeepB.of_same s1).trans k2
    obtain ⟨kd, rfl, hkl, hkL, c1, c2, hc1, hc2, hcn⟩ : ∃ kd : List Nat, x = .str (S kd) ∧ kd.length ≤ 8 ∧ AllL kd ∧ ∃ c1 c2, c1 ∈ kd ∧ c2 ∈ kd ∧ c1 ≠ c2 := by
      rw [← hks] at hx
      have d8 : ∀ w : List Nat, (w.all isL) = true → AllL w := fun w h c hc => List.all_eq_true.mp h c hc
      match j, hx with
      | 0, hx => cases hx; exact ⟨_, rfl, by decide, d8 _ (by decide), 65, 66, by decide, by decide, by decide⟩
      | 1, hx => cases hx; exact ⟨_, rfl, by decide, d8 _ (by decide), 65, 97, by decide, by decide, by decide⟩
      | 2, hx => cases hx; exact ⟨_, rfl, by decide, d8 _ (by decide), 65, 66, by decide, by decide, by decide⟩
      | 3, hx => cases hx; exact ⟨_, rfl, by decide, d8 _ (by decide), 67, 66, by decide, by decide, by decide⟩
      | 4, hx => cases hx; exact ⟨_, rfl, by decide, d8 _ (by decide), 65, 68, by decide, by decide, by decide⟩
      | j + 5, hx => cases hx
    clear hks hx
    walk_at "go"
    refine r_sz (by simp) fun t1 ht1 => ?_
    refine r_up2 (SqT.of upd_same) rfl ?_
    have st := same_upd (o := .tup [V.str (S []), .str (S kd)]) ht1
    have hP2 := hP2.same st
    have k2 := k2.trans (.of_same st)
    generalize upd H2 t1 (.tup [V.str (S []), .str (S kd)]) = H2b at hP2 k2 ⊢
    walk_at "go"
    refine ⟨P, _, (m : Int) + 1, rfl, hP2, by omega, by omega, by omega, fun d H3 hd0 hd1 kk3 hP3 => ?_⟩
    have k3 := k2.trans kk3
    obtain ⟨r, rfl⟩ := Int.eq_ofNat_of_zero_le hd0
    have hrm : r ≤ m := by omega
    walk_at "go"
    refine ⟨_, rfl, by omega, by omega, ?_⟩
    rw [Int.toNat_natCast]
    refine for_it walk_range0 (fun i σ H' => ∃ w v1 v2, Good w ∧ w.length = i ∧ KeepB P H H' ∧ PenAt P (n + 2 + i) H' ∧ σ = [some (.ref P.p), some (.int (m : Nat)), v1, some (.str (S w)), some (.str (S kd)), v2, none]) ⟨[], _, _, rfl, rfl, k3, hP3, rfl⟩ (fun _ _ _ _ _ => trivial) ?_ ?_
    · rintro i x σ H4 H5 hi ⟨w, v1, v2, hg, hl, k1, hP1, rfl⟩ ⟨rfl, hx⟩
      have him : i < r := by simpa using hi
      have hla := good_L hg
      walk_at "go"
      intro Dl hDl
      obtain ⟨nD1, nD2⟩ := hP1.ne_new hDl
      refine lcG (its := kd.map fun c => V.str (S [c])) walk_SL (fun j acc H' => KeepB P H5 H' ∧ PenAt P (n + 2 + i) H' ∧ acc = ((kd.take j).filter fun c => decide (w = []) || !decide (lastL w = [und c])).map fun c => V.str (S [c])) ⟨KeepB.of_same (same_upd hDl), hP1.same (same_upd hDl), rfl⟩ (fun _ _ _ _ _ _ => trivial) ?_ ?_
      · rintro j y acc H6 hy ⟨k6, hP6, rfl⟩ e6
        obtain ⟨c, hc, rfl⟩ : ∃ c, kd[j]? = some c ∧ y = .str (S [c]) := by
          rw [List.getElem?_map] at hy
          cases e : kd[j]? with
          | none => rw [e] at hy; cases hy
          | some c => rw [e] at hy; exact ⟨c, rfl, (Option.some.inj hy).symm⟩
        have hcL : isL c = true := hkL c (List.mem_of_getElem? hc)
        have nh : H5 Dl = none := hDl
        have yes : (decide (w = []) || !decide (lastL w = [und c])) = true → ∃ acc, H6 Dl = some (.lst acc) ∧ acc.length < sizeLine ∧ ∃ a2, (KeepB P H5 (upd H6 Dl (.lst (acc ++ [.str (S [c])]))) ∧ PenAt P (n + 2 + i) (upd H6 Dl (.lst (acc ++ [.str (S [c])]))) ∧
            a2 = ((kd.take (j + 1)).filter fun c => decide (w = []) || !decide (lastL w = [und c])).map fun c => V.str (S [c])) ∧ upd H6 Dl (.lst (acc ++ [.str (S [c])])) Dl = some (.lst a2) := fun e => by
          refine lcFin (Pv := fun a2 H' => KeepB P H5 H' ∧ PenAt P (n + 2 + i) H' ∧ a2 = ((kd.take (j + 1)).filter fun c => decide (w = []) || !decide (lastL w = [und c])).map fun c => V.str (S [c])) e6 ?_ ⟨k6.mut nh, ?_, ?_⟩
          · rw [List.length_map]
            exact Nat.le_trans (List.length_filter_le _ _) (by rw [List.length_take]; omega)
          · obtain ⟨s', r', h1, h2, h3, h4⟩ := hP6.ex
            exact ⟨⟨s', r', h1, h2, h3, by rw [upd_ne nD1]; exact h4⟩, by rw [upd_ne nD2]; exact hP6.cells, hP6.len, hP6.ne⟩
          · rw [take_snoc hc, List.filter_append, List.map_append, List.filter_cons, if_pos e]
            rfl
        have no : (decide (w = []) || !decide (lastL w = [und c])) = false → ∃ a2, (KeepB P H5 H6 ∧ PenAt P (n + 2 + i) H6 ∧ a2 = ((kd.take (j + 1)).filter fun c => decide (w = []) || !decide (lastL w = [und c])).map fun c => V.str (S [c])) ∧ H6 Dl = some (.lst a2) := fun e => by
          refine ⟨_, ⟨k6, hP6, ?_⟩, e6⟩
          rw [take_snoc hc, List.filter_append, List.map_append, List.filter_cons, if_neg (by rw [e]; exact Bool.false_ne_true)]
          simp
        walk_at "go"
        refine r_ib (fun e => ?_) (fun e => ?_)
        · walk_at "go"
          exact yes (by rw [e]; rfl)
        · have hw : w ≠ [] := of_decide_eq_false e
          obtain ⟨d, h1, h2⟩ := lastL_one hw
          have hdL : isL d = true := allL_last hla d (by rw [h1]; exact List.mem_cons_self)
          walk_at "go"
          refine r_ixS (by omega) h2 ?_
          walk_at "go"
          refine ⟨d, rfl, hdL, ?_⟩
          walk_at "go"
          have ef : (decide (w = []) || !decide (lastL w = [und c])) = !decide ([c] = [und d]) := by
            rw [e, h1, Bool.false_or]
            congr 1
            rw [Bool.eq_iff_iff, decide_eq_true_iff, decide_eq_true_iff]
            constructor
            · intro z
              have z : d = und c := by simpa using z
              rw [z, und_und hcL]
            · intro z
              have z : c = und d := by simpa using z
              rw [z, und_und hdL]
          refine r_ib (fun e2 => ?_) (fun e2 => ?_)
          · walk_at "go"
            exact yes (by rw [ef, e2])
          · exact no (by rw [ef, e2])
      · rintro acc H6 ⟨k6, hP6, rfl⟩ e6
        rw [List.length_map, List.take_length] at e6
        walk_at "go"
        have hpos : ∃ c ∈ kd, (decide (w = []) || !decide (lastL w = [und c])) = true := by
          by_cases hd : lastL w = [und c1]
          · refine ⟨c2, hc2, ?_⟩
            rw [hd]
            have : und c1 ≠ und c2 := fun z => hcn (und_inj (hkL c1 hc1) (hkL c2 hc2) z)
            simp [this]
          · refine ⟨c1, hc1, ?_⟩
            simp [hd]
        refine q_pickL_law_other_pick (K := K) (D := D) hP6 (by omega) e6 nD1.symm ?_ ?_ fun j x H7 hx k7 hP7 => ?_
        · rw [List.length_map]
          obtain ⟨c, h1, h2⟩ := hpos
          exact List.length_pos_of_mem (List.mem_filter.mpr ⟨h1, h2⟩)
        · rw [List.length_map]
          exact Nat.le_trans (List.length_filter_le _ _) (by omega)
        · obtain ⟨c, hc, rfl⟩ := List.mem_map.mp (List.mem_of_getElem? hx)
          obtain ⟨hc1', hc2'⟩ := List.mem_filter.mp hc
          have hcL : isL c = true := hkL c hc1'
          refine r_addS (by simp; omega) ?_
          walk_at "go"
          refine ⟨w ++ [c], _, _, good_snoc.mpr ⟨hg, hcL, fun z => ?_⟩, by simp [hl], (k1.trans k6).trans k7, hP7, rfl⟩
          by_cases hw : w = []
          · subst hw; cases z
          · obtain ⟨d, h1, _⟩ := lastL_one hw
            have hdL : isL d = true := allL_last hla d (by rw [h1]; exact List.mem_cons_self)
            rw [h1] at z hc2'
            have z : c = und d := by simpa using z
            rw [z, und_und hdL] at hc2'
            simp [hw] at hc2'
    · rintro σ H' ⟨w, v1, v2, hg, hl, k1, hP1, rfl⟩
      rw [List.length_map, List.length_range] at hl hP1
      walk_at "go"
      exact q w H' hg (by omega) k1 (hP1.mono (by omega))
abbrev st_law_back : Stmt := top 32
theorem sc_law_back : FnScope ["row", "found", "letter"] ["row"] (defScope st_law_back) := ⟨rfl, rfl, rfl, by decide +kernel, rfl, by decide +kernel, by decide +kernel⟩
def sp_law_back (K : PySem.W.Frag) (D : Ad) : Sp := fun vs H Q _ => ∃ w, vs = [.str (S w)] ∧ AllL w ∧ w.length ≤ 100000 ∧ Q (.str (S (back w))) H
theorem ok_law_back {f : Addr} {fd : FuncData} (F : Fun K "_law_back" "_law_back" st_law_back f fd) (T : Txt P w K mg base D) (d_law_undo : CalN P w K mg base 1 "_law_undo" (sp_law_undo K D)) : FnOk P w K mg base CX0 2 f fd ["row"] (sp_law_back K D) := by
  refine F.ok sc_law_back (fun vs H Q E h => ?_) (fun cdv A outer s H vs Q E hr h => ?_)
  · obtain ⟨w, rfl, _⟩ := h
    rfl
  · obtain ⟨w, rfl, hw, hl, q⟩ := h
    have hu := hr.units
    refine ⟨_, (pss_cons (ps_asg (pe_S (w := []) (by decide +kernel)) (pg_name (i := 1) sc_law_back.nd rfl (Or.inl rfl)))
      (pss_cons (ps_for PassesOwn.never rfl (pi_str (pv 0)) (pg_name (i := 2) sc_law_back.nd rfl (Or.inl rfl))
      (pss_one (ps_asg (pe_op op_addA (pe_c0 d_law_undo hr (by decide) (pa_cons (pv 2) pa_nil)) (pv 1)) (pg_name (i := 1) sc_law_back.nd rfl (Or.inl rfl)))))
      (pss_one (ps_ret (pv 1))))), ?_⟩
    walk_at "go"
    refine for_S (fun i σ H' => H' = H ∧ ∃ v1, σ = [some (.str (S w)), some (.str (S (back (w.take i)))), v1]) ⟨rfl, _, rfl⟩ ?_ ?_
    · rintro i c σ H1 hc ⟨rfl, v1, rfl⟩
      have hi : i < w.length := (List.getElem?_eq_some_iff.mp hc).1
      walk_at "go"
      refine ⟨c, rfl, hw c (List.mem_of_getElem? hc), ?_⟩
      walk_at "go"
      refine r_addS (by rw [back_len]; simp; omega) ?_
      walk_at "go"
      refine ⟨rfl, some (.str (S [c])), ?_⟩
      rw [take_snoc hc, back_app]
      rfl
    · rintro σ H' ⟨rfl, v1, rfl⟩
      walk_at "go"
      rw [List.take_length]
      exact q
/-- the last letter of the one meets its undoing at the head of the other -/
abbrev st_law_join : Stmt := top 33
theorem sc_law_join : FnScope ["one", "other", "left", "more"] ["one", "other"] (defScope st_law_join) := ⟨rfl, rfl, rfl, by decide +kernel, rfl, by decide +kernel, by decide +kernel⟩
def sp_law_join (K : PySem.W.Frag) (D : Ad) : Sp := fun vs H Q _ => ∃ a b, vs = [.str (S a), .str (S b)] ∧ Good a ∧ Good b ∧ a.length ≤ 100000 ∧ b.length ≤ 100000 ∧ ∀ H', Same H H' → Q (.str (S (val (a ++ b)))) H'
theorem ok_law_join {f : Addr} {fd : FuncData} (F : Fun K "_law_join" "_law_join" st_law_join f fd) (T : Txt P w K mg base D) (d_law_undo : CalN P w K mg base 1 "_law_undo" (sp_law_undo K D)) : FnOk P w K mg base CX0 2 f fd ["one", "other"] (sp_law_join K D) := by
  refine F.ok sc_law_join (fun vs H Q E h => ?_) (fun cdv A outer s H vs Q E hr h => ?_)
  · obtain ⟨a, b, rfl, _⟩ := h
    rfl
  · obtain ⟨a, b, rfl, ha, hb, hla, hlb, q⟩ := h
    have hu := hr.units
    refine ⟨_, (pss_cons (ps_par (i := 2) (j := 3) rfl sc_law_join.nd rfl rfl (by decide) rfl rfl (pa_cons (pv 0) (pa_cons (pv 1) pa_nil)) rfl)
      (pss_cons (ps_while PassesOwn.never (PW.pt (pw_and (pt_cmpR (op_neK (K := K) hu) (pv 2) (pe_S (w := []) (by decide +kernel)) (nomark _)) (pw_and (pt_cmpR (op_neK (K := K) hu) (pv 3) (pe_S (w := []) (by decide +kernel)) (nomark _)) (pw_and1 (pt_cmpR (op_eqK (K := K) hu) (pe_ix (ix_seqK (K := K)) (pv 2) (pe_un un_neg pe_int) (fun _ _ => rfl)) (pe_c0 d_law_undo hr (by decide) (pa_cons (pe_ix (ix_seqK (K := K)) (pv 3) pe_int (fun _ _ => rfl)) pa_nil)) (nomark _))))))
      (pss_one (ps_par (i := 2) (j := 3) rfl sc_law_join.nd rfl rfl (by decide) rfl rfl (pa_cons (pe_slice (sl_anyK (K := K)) (pv 2) po_none (po_some (pe_un un_neg pe_int))) (pa_cons (pe_slice (sl_anyK (K := K)) (pv 3) (po_some pe_int) po_none) pa_nil)) rfl)))
      (pss_one (ps_ret (pe_op op_addA (pv 2) (pv 3)))))), ?_⟩
    walk_at "go"
    refine r_wh (fun k σ H' => Same H H' ∧ ∃ u v : List Nat, k = u.length ∧ Good u ∧ Good v ∧ u.length ≤ a.length ∧ v.length ≤ b.length ∧ val (a ++ b) = val (u ++ v) ∧ σ = [some (.str (S a)), some (.str (S b)), some (.str (S u)), some (.str (S v))]) a.length ⟨Same.refl _, a, b, rfl, ha, hb, Nat.le_refl _, Nat.le_refl _, rfl, rfl⟩ ?_
    rintro k σ H1 ⟨s1, u, v, rfl, gu, gv, hu, hv, hi, rfl⟩
    have done : Jn u v → Q (.str (S (u ++ v))) H1 := fun he => by
      have e : val (a ++ b) = u ++ v := by rw [hi, val_self (jn_app gu gv he)]
      rw [← e]
      exact q H1 s1
    walk_at "go"
    refine r_ib (fun e1 => ?_) (fun e1 => ?_)
    · have e1 : u ≠ [] := by simpa using e1
      walk_at "go"
      refine r_ib (fun e2 => ?_) (fun e2 => ?_)
      · have e2 : v ≠ [] := by simpa using e2
        obtain ⟨u', c, rfl⟩ := snoc_of e1
        cases v with
        | nil => exact absurd rfl e2
        | cons d v' =>
          have hdL := good_L gv d List.mem_cons_self
          have hcL := good_L gu c (by simp)
          walk_at "go"
          refine r_ixS (c := c) (by omega) (atI_neg (k := 1) (by decide) (by simp) (by simp)) ?_
          walk_at "go"
          refine r_ixS (c := d) (by omega) (by simp [atI, ixN]) ?_
          walk_at "go"
          refine ⟨d, rfl, hdL, ?_⟩
          walk_at "go"
          refine r_ib (fun e3 => ?_) (fun e3 => ?_)
          · have e3 : c = und d := by simpa using e3
            refine r_wN ?_
            walk_at "go"
            refine r_slS (w' := u') (by rw [cut_init, List.dropLast_concat]) (by omega) ?_
            walk_at "go"
            refine r_slS (w' := v') (cut_fromN _ (k := 1) rfl) (by omega) ?_
            walk_at "go"
            simp at hu hv
            refine ⟨u'.length, by simp, s1, u', v', rfl, (good_snoc.mp gu).1, good_drop gv 1, by omega, by omega, ?_, rfl⟩
            rw [hi, e3]
            have z := val_strike (a := u') (b := v') (und_L hdL) (fun x hx => good_L gv x (List.mem_cons_of_mem _ hx))
            rw [und_und hdL] at z
            rw [← z]
            simp
          · have e3 : c ≠ und d := by simpa using e3
            walk_at "go"
            simp at hu hv
            refine r_addS (by simp; omega) ?_
            refine done fun x y h1 h2 e => ?_
            rw [lastL_snoc] at h1
            have h1 : c = x := by simpa using h1
            have h2 : d = y := by simpa using h2
            subst h1; subst h2
            exact e3 (by rw [e, und_und hcL])
      · have e2 : v = [] := by simpa using e2
        walk_at "go"
        refine r_addS (by omega) ?_
        exact done (fun x y _ h => by subst e2; cases h)
    · have e1 : u = [] := by simpa using e1
      walk_at "go"
      refine r_addS (by omega) ?_
      exact done (fun x y h _ => by subst e1; cases h)
abbrev st_law_power : Stmt := top 34
theorem sc_law_power : FnScope ["row", "many", "turn", "unit", "found"] ["row", "many"] (defScope st_law_power) := ⟨rfl, rfl, rfl, by decide +kernel, rfl, by decide +kernel, by decide +kernel⟩
def sp_law_power (K : PySem.W.Frag) (D : Ad) : Sp := fun vs H Q _ => ∃ w n, vs = [.str (S w), .int n] ∧ Good w ∧ w.length ≤ 1000 ∧ n.natAbs ≤ 50 ∧ ∀ H', Same H H' → Q (.str (S (powL w n))) H'
theorem ok_law_power {f : Addr} {fd : FuncData} (F : Fun K "_law_power" "_law_power" st_law_power f fd) (T : Txt P w K mg base D) (d_law_back : CalN P w K mg base 2 "_law_back" (sp_law_back K D)) (d_law_join : CalN P w K mg base 2 "_law_join" (sp_law_join K D)) : FnOk P w K mg base CX0 3 f fd ["row", "many"] (sp_law_power K D) := by
  refine F.ok sc_law_power (fun vs H Q E h => ?_) (fun cdv A outer s H vs Q E hr h => ?_)
  · obtain ⟨w, n, rfl, _⟩ := h
    rfl
  · obtain ⟨w, n, rfl, hg, hl, hn, q⟩ := h
    have hu := hr.units
    refine ⟨_, (pss_cons (ps_par (i := 3) (j := 4) rfl sc_law_power.nd rfl rfl (by decide) rfl rfl (pa_cons (pe_ifExp (pt_cmpR op_gt (pv 1) pe_int (nomark _)) (pv 0) (pe_c0 d_law_back hr (by decide) (pa_cons (pv 0) pa_nil))) (pa_cons (pe_S (w := []) (by decide +kernel)) pa_nil)) rfl)
      (pss_cons (ps_for PassesOwn.never rfl (pi_range1 rfl T.b_range (pa_cons (pe_callB (id := "abs") call_absB (by rfl) T.b_abs (by decide +kernel) (pa_cons (pv 1) pa_nil)) pa_nil)) (pg_name (i := 2) sc_law_power.nd rfl (Or.inl rfl))
      (pss_one (ps_asg (pe_c0 d_law_join hr (by decide) (pa_cons (pv 4) (pa_cons (pv 3) pa_nil))) (pg_name (i := 4) sc_law_power.nd rfl (Or.inl rfl)))))
      (pss_one (ps_ret (pv 4))))), ?_⟩
    have hL := good_L hg
    have hgs : Good (sg w n) := by unfold sg; split; exact hg; exact good_back hg
    have hls : (sg w n).length = w.length := by unfold sg; split; rfl; exact back_len w
    rw [powL_val hg] at q
    walk_at "go"
    refine r_ib (fun e => ?_) (fun e => ?_)
    · have e : 0 < n := by have := of_decide_eq_true e; omega
      have es : sg w n = w := by unfold sg; rw [if_pos e]
      rw [es] at q hgs
      walk_at "go"
      rw [abs_nat]
      refine ⟨_, rfl, by omega, by omega, ?_⟩
      rw [Int.toNat_natCast]
      refine for_it walk_range0 (fun i σ H' => Same H H' ∧ ∃ v1, σ = [some (.str (S w)), some (.int n), v1, some (.str (S w)), some (.str (S (val (rep i w))))]) ⟨Same.refl _, _, rfl⟩ (fun _ _ _ _ _ => trivial) ?_ ?_
      · rintro i x σ H1 H2 hi ⟨s1, v1, rfl⟩ ⟨rfl, hx⟩
        have hi : i < n.natAbs := by simpa using hi
        have hvl := val_len (rep i w)
        rw [Rp.rep_len] at hvl
        have hil : i * w.length ≤ 50 * 1000 := Nat.mul_le_mul (by omega) hl
        walk_at "go"
        refine ⟨val (rep i w), w, rfl, val_good (allL_rep hL i), hg, by omega, by omega, fun H3 s3 => ?_⟩
        walk_at "go"
        refine ⟨s1.trans s3, some x, ?_⟩
        rw [val_left (allL_rep hL i) hL, ← rep_snoc]
        rfl
      · rintro σ H' ⟨s1, v1, rfl⟩
        walk_at "go"
        rw [List.length_map, List.length_range]
        exact q H' s1
    · have e : ¬ 0 < n := by have := of_decide_eq_false e; omega
      have es : sg w n = back w := by unfold sg; rw [if_neg e]
      rw [es] at q hgs hls
      have hL2 := good_L hgs
      walk_at "go"
      refine ⟨w, rfl, hL, by omega, ?_⟩
      walk_at "go"
      rw [abs_nat]
      refine ⟨_, rfl, by omega, by omega, ?_⟩
      rw [Int.toNat_natCast]
      refine for_it walk_range0 (fun i σ H' => Same H H' ∧ ∃ v1, σ = [some (.str (S w)), some (.int n), v1, some (.str (S (back w))), some (.str (S (val (rep i (back w)))))]) ⟨Same.refl _, _, rfl⟩ (fun _ _ _ _ _ => trivial) ?_ ?_
      · rintro i x σ H1 H2 hi ⟨s1, v1, rfl⟩ ⟨rfl, hx⟩
        have hi : i < n.natAbs := by simpa using hi
        have hvl := val_len (rep i (back w))
        rw [Rp.rep_len, hls] at hvl
        have hil : i * w.length ≤ 50 * 1000 := Nat.mul_le_mul (by omega) hl
        walk_at "go"
        refine ⟨val (rep i (back w)), back w, rfl, val_good (allL_rep hL2 i), hgs, by omega, by omega, fun H3 s3 => ?_⟩
        walk_at "go"
        refine ⟨s1.trans s3, some x, ?_⟩
        rw [val_left (allL_rep hL2 i) hL2, ← rep_snoc]
        rfl
      · rintro σ H' ⟨s1, v1, rfl⟩
        walk_at "go"
        rw [List.length_map, List.length_range]
        exact q H' s1
/-- what the law draws -/
abbrev st_law_drawn : Stmt := top 35
theorem sc_law_drawn : FnScope ["pen", "coat", "unit"] ["pen"] (defScope st_law_drawn) := ⟨rfl, rfl, rfl, by decide +kernel, rfl, by decide +kernel, by decide +kernel⟩
def sp_law_drawn (K : PySem.W.Frag) (D : Ad) : Sp := fun vs H Q _ => ∃ (P : Pen) (n : Nat), vs = [.ref P.p] ∧ PenAt P n H ∧ n ≤ 80000 ∧ ∀ w H', Good w → w.length ≤ 24 → KeepB P H H' → PenAt P (n + 20) H' → Q (.str (S w)) H'
theorem ok_law_drawn {f : Addr} {fd : FuncData} (F : Fun K "_law_drawn" "_law_drawn" st_law_drawn f fd) (T : Txt P w K mg base D) (d_law_back : CalN P w K mg base 2 "_law_back" (sp_law_back K D)) (d_law_draw : CalN P w K mg base 1 "_law_draw" (sp_law_draw K D)) (d_law_join : CalN P w K mg base 2 "_law_join" (sp_law_join K D)) (d_law_power : CalN P w K mg base 3 "_law_power" (sp_law_power K D)) (d_law_row : CalN P w K mg base 3 "_law_row" (sp_law_row K D)) : FnOk P w K mg base CX0 4 f fd ["pen"] (sp_law_drawn K D) := by
  refine F.ok sc_law_drawn (fun vs H Q E h => ?_) (fun cdv A outer s H vs Q E hr h => ?_)
  · obtain ⟨P, n, rfl, _⟩ := h
    rfl
  · obtain ⟨P, n, rfl, hP, hn, q⟩ := h
    have hu := hr.units
    refine ⟨_, (pss_cons (ps_par (i := 1) (j := 2) rfl sc_law_drawn.nd rfl rfl (by decide) rfl rfl (pa_cons (pe_c0 d_law_row hr (by decide) (pa_cons (pv 0) (pa_cons pe_int pa_nil))) (pa_cons (pe_c0 d_law_row hr (by decide) (pa_cons (pv 0) (pa_cons pe_int pa_nil))) pa_nil)) rfl)
      (pss_one (ps_ret (pe_c0 d_law_join hr (by decide) (pa_cons (pe_c0 d_law_join hr (by decide) (pa_cons (pv 1) (pa_cons (pe_c0 d_law_power hr (by decide) (pa_cons (pv 2) (pa_cons (pe_op op_addA pe_int (pe_c0 d_law_draw hr (by decide) (pa_cons (pv 0) (pa_cons pe_int pa_nil)))) pa_nil))) pa_nil))) (pa_cons (pe_c0 d_law_back hr (by decide) (pa_cons (pv 1) pa_nil)) pa_nil)))))), ?_⟩
    walk_at "go"
    refine ⟨P, _, 4, rfl, hP, by omega, by decide, fun a H1 ga la k1 hP1 => ?_⟩
    walk_at "go"
    refine ⟨P, _, 4, rfl, hP1, by omega, by decide, fun b H2 gb lb k2 hP2 => ?_⟩
    walk_at "go"
    have hP3 := hP2
    have k3 := k1.trans k2
    refine ⟨P, _, 4, rfl, hP3, by omega, by decide, by decide, fun d H4 hd0 hd1 k4 hP4 => ?_⟩
    obtain ⟨d, rfl⟩ := Int.eq_ofNat_of_zero_le hd0
    have k4 := k3.trans k4
    walk_at "go"
    have gp := powL_good gb (1 + (d : Nat))
    have lp : (powL b (1 + (d : Nat))).length ≤ 16 := by
      rw [powL_val gb]
      have hv := val_len (rep ((1 : Int) + (d : Nat)).natAbs (sg b (1 + (d : Nat))))
      rw [Rp.rep_len] at hv
      have hs : (sg b (1 + (d : Nat))).length = b.length := by unfold sg; split; rfl; exact back_len b
      rw [hs] at hv
      have : ((1 : Int) + (d : Nat)).natAbs * b.length ≤ 4 * 4 := Nat.mul_le_mul (by omega) lb
      omega
    refine ⟨b, _, rfl, gb, by omega, by omega, fun H5 s5 => ?_⟩
    generalize powL b (1 + (d : Nat)) = c at gp lp ⊢
    walk_at "go"
    have l1 := val_len (a ++ c)
    rw [List.length_append] at l1
    have g1 := val_good (allL_app (good_L ga) (good_L gp))
    refine ⟨a, c, rfl, ga, gp, by omega, by omega, fun H6 s6 => ?_⟩
    generalize val (a ++ c) = e at l1 g1 ⊢
    walk_at "go"
    refine ⟨a, rfl, good_L ga, by omega, ?_⟩
    walk_at "go"
    have l2 := val_len (e ++ back a)
    rw [List.length_append, back_len] at l2
    refine ⟨e, back a, rfl, g1, good_back ga, by omega, by rw [back_len]; omega, fun H7 s7 => ?_⟩
    have sa := (s5.trans s6).trans s7
    exact q _ H7 (val_good (allL_app (good_L g1) (allL_back (good_L ga)))) (by omega) (k4.trans (.of_same sa)) ((hP4.same sa).mono (by omega))
abbrev st_law_peeled : Stmt := top 36
theorem sc_law_peeled : FnScope ["row", "coat", "core"] ["row"] (defScope st_law_peeled) := ⟨rfl, rfl, rfl, by decide +kernel, rfl, by decide +kernel, by decide +kernel⟩
def sp_law_peeled (K : PySem.W.Frag) (D : Ad) : Sp := fun vs H Q _ => ∃ w, vs = [.str (S w)] ∧ Good w ∧ w.length ≤ 100000 ∧ ∀ t H', Same H H' → H' t = some (.tup [.str (S (pre w)), .str (S (cor w))]) → Q (.ref t) H'
theorem ok_law_peeled {f : Addr} {fd : FuncData} (F : Fun K "_law_peeled" "_law_peeled" st_law_peeled f fd) (T : Txt P w K mg base D) (d_law_undo : CalN P w K mg base 1 "_law_undo" (sp_law_undo K D)) : FnOk P w K mg base CX0 2 f fd ["row"] (sp_law_peeled K D) := by
  refine F.ok sc_law_peeled (fun vs H Q E h => ?_) (fun cdv A outer s H vs Q E hr h => ?_)
  · obtain ⟨w, rfl, _⟩ := h
    rfl
  · obtain ⟨w, rfl, hg, hl, q⟩ := h
    have hu := hr.units
    refine ⟨_, (pss_cons (ps_par (i := 1) (j := 2) rfl sc_law_peeled.nd rfl rfl (by decide) rfl rfl (pa_cons (pe_S (w := []) (by decide +kernel)) (pa_cons (pv 0) pa_nil)) rfl)
      (pss_cons (ps_while PassesOwn.never (PW.pt (pw_and (pt_cmpR op_gt (pe_callB (id := "len") (call_lenB (K := K)) (by rfl) T.b_len PySem.boot_len (pa_cons (pv 2) pa_nil)) pe_int (nomark _)) (pw_and1 (pt_cmpR (op_eqK (K := K) hu) (pe_ix (ix_seqK (K := K)) (pv 2) pe_int (fun _ _ => rfl)) (pe_c0 d_law_undo hr (by decide) (pa_cons (pe_ix (ix_seqK (K := K)) (pv 2) (pe_un un_neg pe_int) (fun _ _ => rfl)) pa_nil)) (nomark _)))))
      (pss_one (ps_par (i := 1) (j := 2) rfl sc_law_peeled.nd rfl rfl (by decide) rfl rfl (pa_cons (pe_op op_addA (pv 1) (pe_ix (ix_seqK (K := K)) (pv 2) pe_int (fun _ _ => rfl))) (pa_cons (pe_slice (sl_anyK (K := K)) (pv 2) (po_some pe_int) (po_some (pe_un un_neg pe_int))) pa_nil)) rfl)))
      (pss_one (ps_ret (pe_tup (pa_cons (pv 1) (pa_cons (pv 2) pa_nil))))))), ?_⟩
    have hw := good_L hg
    walk_at "go"
    refine r_wh (fun k σ H' => Same H H' ∧ ∃ m : Nat, k = w.length - m ∧ 2 * m ≤ w.length ∧ coat w = coatF w (w.length - m) m ∧ σ = [some (.str (S w)), some (.str (S (w.take m))), some (.str (S ((w.take (w.length - m)).drop m)))]) w.length ⟨Same.refl _, 0, by simp, by simp, rfl, by rw [List.take_zero, Nat.sub_zero, List.take_length, List.drop_zero]; rfl⟩ ?_
    rintro k σ H1 ⟨s1, m, rfl, hm, hi, rfl⟩
    have hcl : ((w.take (w.length - m)).drop m).length = w.length - 2 * m := by rw [List.length_drop, List.length_take]; omega
    have done : coatB w m = false → ∀ t H', Same H1 H' → H' t = some (.tup [.str (S (w.take m)), .str (S ((w.take (w.length - m)).drop m))]) → Q (.ref t) H' := fun h => by
      have e : coat w = m := by
        rw [hi]
        cases hk : w.length - m with
        | zero => rfl
        | succ n =>
          unfold coatF
          rw [h]
          rfl
      intro t H' s' ht
      refine q t H' (s1.trans s') ?_
      unfold pre cor
      rw [e]
      exact ht
    walk_at "go"
    refine q_lenS (by omega) ?_
    rw [hcl]
    walk_at "go"
    refine r_ib (fun e1 => ?_) (fun e1 => ?_)
    · have e1 : 2 * m + 1 < w.length := by have := of_decide_eq_true e1; omega
      obtain ⟨c, hc⟩ : ∃ c, w[m]? = some c := ⟨w[m]'(by omega), by simp⟩
      obtain ⟨d, hd⟩ : ∃ d, w[w.length - 1 - m]? = some d := ⟨w[w.length - 1 - m]'(by omega), by simp⟩
      have hdL := hw d (List.mem_of_getElem? hd)
      have hB : coatB w m = decide (c = und d) := by
        unfold coatB
        rw [decide_eq_true e1, hc, hd, Bool.true_and]
        simp
      have h0 : ((w.take (w.length - m)).drop m)[0]? = some c := by
        rw [List.getElem?_drop, List.getElem?_take_of_lt (by omega)]
        exact hc
      have h1 : ((w.take (w.length - m)).drop m)[((w.take (w.length - m)).drop m).length - 1]? = some d := by
        rw [hcl, List.getElem?_drop, List.getElem?_take_of_lt (by omega)]
        have e : m + (w.length - 2 * m - 1) = w.length - 1 - m := by omega
        rw [e]
        exact hd
      walk_at "go"
      refine r_ixS (c := c) (by omega) (atI_nat (j := 0) h0) ?_
      walk_at "go"
      refine r_ixS (c := d) (by omega) (atI_neg (k := 1) (by decide) (by omega) h1) ?_
      walk_at "go"
      refine ⟨d, rfl, hdL, ?_⟩
      walk_at "go"
      refine r_ib (fun e3 => ?_) (fun e3 => ?_)
      · have e3 : c = und d := by simpa using e3
        refine r_wN ?_
        walk_at "go"
        refine r_ixS (c := c) (by omega) (atI_nat (j := 0) h0) ?_
        refine r_addS (by simp; omega) ?_
        walk_at "go"
        refine r_slS (cut_in _ (by omega)) (by omega) ?_
        walk_at "go"
        refine ⟨w.length - (m + 1), by omega, s1, m + 1, rfl, by omega, ?_, ?_⟩
        · rw [hi]
          have hk : w.length - m = (w.length - (m + 1)) + 1 := by omega
          rw [hk]
          conv => lhs; unfold coatF
          rw [hB, decide_eq_true e3, if_pos rfl]
        · have ea : w.take m ++ [c] = w.take (m + 1) := (take_snoc hc).symm
          have eb : (((w.take (w.length - m)).drop m).take (((w.take (w.length - m)).drop m).length - 1)).drop 1 = (w.take (w.length - (m + 1))).drop (m + 1) := by
            rw [hcl, List.take_drop, List.drop_drop, List.take_take]
            congr 2
            omega
          rw [ea, eb]
          rfl
      · have e3 : c ≠ und d := by simpa using e3
        walk_at "go"
        refine r_sz (by simp) fun t ht => ?_
        exact done (by rw [hB]; exact decide_eq_false e3) t _ (same_upd ht) upd_same
    · have e1 : ¬ 2 * m + 1 < w.length := by have := of_decide_eq_false e1; omega
      walk_at "go"
      refine r_sz (by simp) fun t ht => ?_
      exact done (by unfold coatB; rw [decide_eq_false e1, Bool.false_and]) t _ (same_upd ht) upd_same
abbrev st_law_root : Stmt := top 37
theorem sc_law_root : FnScope ["row", "many", "coat", "core", "unit"] ["row"] (defScope st_law_root) := ⟨rfl, rfl, rfl, by decide +kernel, rfl, by decide +kernel, by decide +kernel⟩
def sp_law_root (K : PySem.W.Frag) (D : Ad) : Sp := fun vs H Q _ => ∃ w, vs = [.str (S w)] ∧ Good w ∧ w ≠ [] ∧ w.length ≤ 1000 ∧ ∀ t H', Same H H' → H' t = some (.tup [.str (S (rootL w)), .int (timesL w : Nat)]) → Q (.ref t) H'
theorem ok_law_root {f : Addr} {fd : FuncData} (F : Fun K "_law_root" "_law_root" st_law_root f fd) (T : Txt P w K mg base D) (d_law_back : CalN P w K mg base 2 "_law_back" (sp_law_back K D)) (d_law_peeled : CalN P w K mg base 2 "_law_peeled" (sp_law_peeled K D)) : FnOk P w K mg base CX0 3 f fd ["row"] (sp_law_root K D) := by
  refine F.ok sc_law_root (fun vs H Q E h => ?_) (fun cdv A outer s H vs Q E hr h => ?_)
  · obtain ⟨w, rfl, _⟩ := h
    rfl
  · obtain ⟨w, rfl, hg, hn, hl, q⟩ := h
    have hu := hr.units
    refine ⟨_, (pss_cons (ps_asg (pe_c0 d_law_peeled hr (by decide) (pa_cons (pv 0) pa_nil)) (pg_tup (by rfl) (pgs_cons (pg_name (i := 2) sc_law_root.nd rfl (Or.inl rfl)) (pgs_cons (pg_name (i := 3) sc_law_root.nd rfl (Or.inl rfl)) pgs_nil))))
      (pss_cons (ps_for PassesOwn.never rfl (pi_range3 rfl T.b_range (pa_cons (pe_callB (id := "len") (call_lenB (K := K)) (by rfl) T.b_len PySem.boot_len (pa_cons (pv 3) pa_nil)) (pa_cons pe_int (pa_cons (pe_un un_neg pe_int) pa_nil)))) (pg_name (i := 1) sc_law_root.nd rfl (Or.inl rfl))
      (pss_cons (ps_asg (pe_slice (sl_anyK (K := K)) (pv 3) po_none (po_some (pe_op op_fdivW (pe_callB (id := "len") (call_lenB (K := K)) (by rfl) T.b_len PySem.boot_len (pa_cons (pv 3) pa_nil)) (pv 1)))) (pg_name (i := 4) sc_law_root.nd rfl (Or.inl rfl)))
      (pss_one (ps_if (pt_cmpR (op_eqK (K := K) hu) (pe_op op_mulB (pv 4) (pv 1)) (pv 3) (nomark _))
      (pss_one (ps_ret (pe_tup (pa_cons (pe_op op_addA (pe_op op_addA (pv 2) (pv 4)) (pe_c0 d_law_back hr (by decide) (pa_cons (pv 2) pa_nil))) (pa_cons (pv 1) pa_nil)))))
      pss_nil))))
      (pss_one (ps_ret (pe_tup (pa_cons (pv 0) (pa_cons pe_int pa_nil))))))), ?_⟩
    have hw := good_L hg
    have hco := core_self hg hn
    have hcn := hco.ne
    have hcp : 0 < (cor w).length := List.length_pos_iff.mpr hcn
    have hcl : (cor w).length ≤ w.length := by unfold cor; rw [List.length_drop, List.length_take]; omega
    have hpl : (pre w).length ≤ w.length := by unfold pre; rw [List.length_take]; omega
    have htp := times_pos hg hn
    have htl : timesL w ≤ (cor w).length := Nat.div_le_self _ _
    walk_at "go"
    refine ⟨w, rfl, hg, by omega, fun t H1 s1 ht => ?_⟩
    refine r_up2 (SqT.of ht) rfl ?_
    walk_at "go"
    refine q_lenS (by omega) ?_
    walk_at "go"
    refine ⟨_, _, _, _, rfl, RgC.neg (by omega) (by omega) (by omega) (by omega), ?_⟩
    have en : (((cor w).length : Nat) - (0 : Int)).toNat = (cor w).length := by omega
    rw [en]
    refine for_it walk_rangeC (fun i σ H' => H' = H1 ∧ timesL w + i ≤ (cor w).length ∧ ∃ v3 v4, σ = [some (.str (S w)), v3, some (.str (S (pre w))), some (.str (S (cor w))), v4]) ⟨rfl, by omega, _, _, rfl⟩ (fun _ _ _ _ _ => trivial) ?_ ?_
    · rintro i x σ H2 H3 hi ⟨rfl, hf, v3, v4, rfl⟩ ⟨rfl, rfl⟩
      have em : (((cor w).length : Nat) : Int) + (i : Nat) * (-1) = (((cor w).length - i : Nat) : Int) := by omega
      have hm0 : 0 < (cor w).length - i := by omega
      generalize hmm : (cor w).length - i = m at em hm0
      show gName 1 (V.int ((((cor w).length : Nat) : Int) + (i : Nat) * (-1))) _ _ _
      rw [em]
      walk_at "go"
      refine q_lenS (by omega) ?_
      walk_at "go"
      refine r_fdivH (by omega) (by omega) ?_
      have ed : (((cor w).length : Nat) : Int) / ((m : Nat) : Int) = (((cor w).length / m : Nat) : Int) := (Int.natCast_ediv _ _).symm
      rw [ed]
      walk_at "go"
      refine r_slS (cut_to (cor w) _) (by omega) ?_
      walk_at "go"
      have hul : ((cor w).take ((cor w).length / m)).length ≤ (cor w).length := by rw [List.length_take]; omega
      refine r_mO rfl (by omega) (by omega) ?_
      have er : (List.replicate m ((cor w).take ((cor w).length / m))).flatten = rep m ((cor w).take ((cor w).length / m)) := rfl
      rw [er]
      walk_at "go"
      refine r_ib (fun e => ?_) (fun e => ?_)
      · have e := of_decide_eq_true e
        have hmt : m = timesL w := by
          refine Nat.le_antisymm (Nat.le_of_not_lt fun z => law_root_lt hcn z e) (by omega)
        have hu : (cor w).take ((cor w).length / m) = prim (cor w) := by
          rw [hmt]
          unfold timesL prim
          rw [law_root_at hcn]
        walk_at "go"
        refine r_addS (by omega) ?_
        walk_at "go"
        refine ⟨pre w, rfl, good_L (good_pre hg), by omega, ?_⟩
        refine r_addS (by rw [List.length_append, back_len]; omega) ?_
        walk_at "go"
        refine r_sz (by simp) fun t2 ht2 => ?_
        refine q t2 _ (s1.trans (same_upd ht2)) ?_
        rw [upd_same, hu, hmt]
        unfold rootL
        rw [post_back hg]
      · have e := of_decide_eq_false e
        walk_at "go"
        refine ⟨rfl, ?_, _, _, rfl⟩
        have hne : m ≠ timesL w := fun z => e (by
          rw [z]
          unfold timesL
          rw [law_root_at hcn]
          exact (prim_rep hcn).symm)
        omega
    · rintro σ H' ⟨rfl, hf, v3, v4, rfl⟩
      omega
end
end Cs


set_option Elab.async false
set_option linter.all false
set_option maxRecDepth 100000
set_option maxHeartbeats 4000000
namespace Cs
open PySem PySem.Spec PyProof.Rows L2 LamX
local macro_rules | `(tactic| walk_at "two") => `(tactic| with_reducible (first
  | refine r_seq ?_ | refine r_nx ?_ | refine r_rt ?_ | refine r_ct ?_ | refine r_bk ?_ | refine r_asg ?_ | refine r_gname ?_ | refine r_ret ?_ | refine r_drop ?_ | refine r_next ?_ | refine r_retN ?_ | refine r_fld ?_ | refine r_gsub ?_ | refine r_brk ?_ | refine r_cont ?_
  | refine r_var rfl ?_ | refine r_c ?_ | refine r_op ?_ | refine r_un ?_ | refine r_test ?_ | refine r_tB ?_ | refine r_bl ?_ | refine r_blv ?_
  | refine r_cons ?_ | refine r_nil ?_ | refine r_lc ?_ | refine r_yes ?_ | refine r_iLT0 ?_ | refine r_iEnumS ?_ | refine r_iEnum ?_ | refine r_iStr ?_ | refine r_iList ?_ | refine r_iRng ?_ | refine r_iRng2 ?_ | refine r_iRng3 ?_ | refine r_iStrS ?_ | refine r_iStrE ?_ | refine r_cb ?_ | refine r_call0 ?_ | refine r_callS ?_ | refine r_callK ?_ | refine r_tup ?_ | refine r_lst ?_ | refine r_make0 ?_ | refine r_attr ?_
  | refine r_sl ?_ | refine r_nopart ?_ | refine r_part ?_ | refine r_parti ?_ | refine r_tyS ?_ | refine r_bm0 ?_ | refine r_bm ?_ | refine r_dnew ?_
  | refine r_and ?_ | refine r_or ?_ | refine r_not ?_ | refine r_andV ?_ | refine r_orV ?_ | refine r_notV ?_ | refine r_if ?_ | refine r_ift ?_ | refine r_iff ?_ | refine r_revL ?_ | refine r_ntt ?_ | refine r_nff ?_ | refine r_itup ?_ | refine r_chain ?_
  | refine r_I0 ?_ | refine r_U ?_ | refine r_addI ?_ | refine r_eqI ?_ | refine r_neI ?_ | refine r_eqS ?_ | refine r_neS ?_ | refine r_eqB ?_ | refine r_neB ?_ | refine r_inS ?_ | refine r_niS ?_ | refine r_int1 ?_ | refine r_abs ?_ | refine r_isN ?_ | refine r_notN ?_
  | refine r_intB ?_ | refine r_max ?_ | refine r_strS ?_ | refine r_isB ?_ | refine r_notB ?_ | refine r_notBI ?_ | refine r_revS ?_ | refine r_sta ?_ | refine r_metA ?_ | refine r_mK1 ?_ | refine r_mD ?_ | refine r_iOwn ?_ | refine r_aug rfl ?_ | refine r_ipI ?_ | refine r_par ?_ | refine r_vw ?_))
local macro_rules | `(tactic| walk_at "one") => `(tactic| first | walk_at "two" | with_reducible (first | refine r_ifs ?_ | refine r_forE ?_))
local macro_rules | `(tactic| walk_at "go") => `(tactic| repeat walk_at "one")
local macro_rules | `(tactic| walk_at "gp") => `(tactic| repeat walk_at "two")

section
variable {P : Program} {w : World} {K : PySem.W.Frag} {mg : Str → Option Value} {base : Heap} {D : Ad}

open Rp
theorem wAt_keep {P : Pen} {n : Nat} {H H' : Hp} {p : Addr} {u : List Nat} (hP : PenAt P n H) (k : KeepB P H H') (h : WAt D H p u) : WAt D H' p u := by
  obtain ⟨s, r, _, _, _, e⟩ := hP.ex
  obtain ⟨dx, h⟩ := h
  exact ⟨dx, k _ _ (fun z => by rw [z, e] at h; cases h) h⟩
theorem met {E : XK} {H : Hp} {Q : VK} {p : Addr} {u : List Nat} {m : Str} {sp : Sp} {t : TA} {σ : L2.St} (h : WAt D H p u) (l : (wf u).lookup m = none) (q : t σ H fun vs H2 => sp (.ref p :: vs) H2 Q E) : rMetA D.Word m sp E t σ (.ref p) H Q := by
  obtain ⟨dx, h⟩ := h
  exact q_metA h l q
theorem int_t {H : Hp} {n : Int} : IsK K H (.int n) (.type "int") true := isK ty_int (kit_ty (by decide +kernel))
theorem int_b {H : Hp} {n : Int} : IsK K H (.int n) (.type "bool") false := isK ty_int (kit_ty (by decide +kernel))
theorem q_power {E : XK} {H : Hp} {Q : VK} {p : Addr} {u : List Nat} {n : Int} (h : WAt D H p u) (hg : Good u) (hl : u.length ≤ 1000) (hn : n.natAbs ≤ 1000) (hp : (powL u n).length ≤ 4000) (q : ∀ r H', Same H H' → WAt D H' r (powL u n) → Q (.ref r) H') : sp_Word_power K D [.ref p, .int n] H Q E := by
  refine ⟨p, u, _, true, false, rfl, h, hg, hl, int_t, int_b, (fun e => nomatch e), fun _ => ⟨n, rfl, Nat.lt_of_le_of_lt hn (by decide), fun h0 hu hb => ?_, fun _ r H' s _ hw => q r H' s hw⟩⟩
  rw [powL_len hg h0 hu] at hp
  omega
theorem pow_le {u : List Nat} {n : Int} {a b : Nat} (hg : Good u) (hu : u.length ≤ a) (hn : n.natAbs ≤ b) : (powL u n).length ≤ b * a := by
  rw [powL_val hg]
  have hv := val_len (rep n.natAbs (sg u n))
  rw [Rp.rep_len] at hv
  have hs : (sg u n).length = u.length := by unfold sg; split; rfl; exact back_len u
  rw [hs] at hv
  exact Nat.le_trans hv (Nat.mul_le_mul hn hu)
theorem r_isBI {H : Hp} {Q : VK} {n : Int} {b : Bool} (q : Q (.bl false) H) : rIsBl (.int n) (.bl b) H Q := .inr ⟨n, b, rfl, rfl, q⟩
/-- two pairs of like data -/
theorem r_neT2 {H : Hp} {Q : VK} {a b : Addr} {x y : V} {d e : PyData} (h1 : H a = some (.tup [x, y])) (h2 : H b = some (.tup [x, y])) (hd : Dp K H x d) (he : Dp K H y e) (ld : Lay 0 d) (le : Lay 0 e) (q : Q (.bl false) H) : rNeA K (.ref a) (.ref b) H Q := by
  have l : Lay 1 (.tuple [d, e]) := lay_tuple fun z hz => by
    rcases List.mem_cons.mp hz with rfl | hz
    · exact ld
    · rw [List.mem_singleton.mp hz]
      exact le
  refine r_neD (.tup (SqT.of h1) (.cons hd (.cons he .nil))) (.tup (SqT.of h2) (.cons hd (.cons he .nil))) (shaped_of l) (shaped_of l) ?_
  rw [SeqAt.eqv_refl _ l.1]
  exact q
abbrev st_law_word_right : Stmt := top 38
theorem sc_law_word_right : FnScope ["pen", "row", "due", "made", "word", "many", "coat", "core", "root", "times"] ["pen", "row"] (defScope st_law_word_right) := ⟨rfl, rfl, rfl, by decide +kernel, rfl, by decide +kernel, by decide +kernel⟩
def sp_law_word_right (K : PySem.W.Frag) (D : Ad) : Sp := fun vs H Q _ => ∃ (P : Pen) (n : Nat) (w : List Nat), vs = [.ref P.p, .str (S w)] ∧ PenAt P n H ∧ n ≤ 80000 ∧ Good w ∧ w.length ≤ 24 ∧ ∀ H', KeepB P H H' → PenAt P (n + 1) H' → Q (.bl true) H'
theorem ok_law_word_right {f : Addr} {fd : FuncData} (F : Fun K "_law_word_right" "_law_word_right" st_law_word_right f fd) (T : Txt P w K mg base D) (d_law_draw : CalN P w K mg base 1 "_law_draw" (sp_law_draw K D)) (d_law_peeled : CalN P w K mg base 2 "_law_peeled" (sp_law_peeled K D)) (d_law_power : CalN P w K mg base 3 "_law_power" (sp_law_power K D)) (d_law_root : CalN P w K mg base 3 "_law_root" (sp_law_root K D)) (m_Word : MakX P w K mg base 2 "Word" D.Word (sp_Word_init K D)) (me_Word_core : MetA P w K mg base CX0 4 D.Word "core" (sp_Word_core K D)) (me_Word_power : MetA P w K mg base (L2.CX P w) 4 D.Word "power" (sp_Word_power K D)) (me_Word_root : MetA P w K mg base CX0 4 D.Word "root" (sp_Word_root K D)) (mek_Word_power_many : MetK P w K mg base (L2.CX P w) 4 D.Word "power" ["many"] (sp_Word_power K D)) (ob_Word : OwnBin P w K mg base (L2.CX P w) 4 D.Word .Mult ["NoneType", "int", "bool", "str", "list", "tuple"] (sp_Word_mul K D)) (oe_Word : OwnEq P w K mg base 1 D.Word ["NoneType", "int", "bool", "str", "list", "tuple"] (sp_Word_eq K D)) (oi_Word : OwnInv P w K mg base CX0 4 D.Word (sp_Word_invert K D)) : FnOk P w K mg base CX0 5 f fd ["pen", "row"] (sp_law_word_right K D) := by
  refine F.ok sc_law_word_right (fun vs H Q E h => ?_) (fun cdv A outer s H vs Q E hr h => ?_)
  · obtain ⟨P, n, u, rfl, _⟩ := h
    rfl
  · obtain ⟨P, n, u, rfl, hP, hn, hg, hl, q⟩ := h
    have hu := hr.units
    refine ⟨_, (pss_cons (ps_par (i := 4) (j := 5) rfl sc_law_word_right.nd rfl rfl (by decide) rfl rfl (pa_cons (pe_mX m_Word hr (by decide) passL (pa_cons (pv 1) pa_nil)) (pa_cons (pe_op op_sub (pe_c0 d_law_draw hr (by decide) (pa_cons (pv 0) (pa_cons pe_int pa_nil))) pe_int) pa_nil)) rfl)
      (pss_cons (ps_asg (pe_met0 me_Word_core T.cl_Word (pv 4) hr (by decide) pass0) (pg_tup (by rfl) (pgs_cons (pg_name (i := 6) sc_law_word_right.nd rfl (Or.inl rfl)) (pgs_cons (pg_name (i := 7) sc_law_word_right.nd rfl (Or.inl rfl)) pgs_nil))))
      (pss_cons (ps_if (PW.pt (pw_or (pt_cmpR (op_neK (K := K) hu) (pe_tup (pa_cons (pe_attrK (K := K) (pv 6)) (pa_cons (pe_attrK (K := K) (pv 7)) pa_nil))) (pe_c0 d_law_peeled hr (by decide) (pa_cons (pv 1) pa_nil)) (nomark _)) (pw_or1 (pt_cmpR (op_neO oe_Word hr (by decide)) (pe_op (op_bin ob_Word hr (by decide) passL) (pe_op (op_bin ob_Word hr (by decide) passL) (pv 6) (pv 7)) (pe_un (un_inv oi_Word hr (by decide) pass0) (pv 6))) (pv 4) (nomark _)))))
      (pss_one (ps_ret pe_bl))
      pss_nil)
      (pss_cons (ps_asg (pe_met0 me_Word_root T.cl_Word (pv 4) hr (by decide) pass0) (pg_tup (by rfl) (pgs_cons (pg_name (i := 8) sc_law_word_right.nd rfl (Or.inl rfl)) (pgs_cons (pg_name (i := 9) sc_law_word_right.nd rfl (Or.inl rfl)) pgs_nil))))
      (pss_cons (ps_asg (pe_ifExp (pt_cmpR (op_neK (K := K) hu) (pv 1) (pe_S (w := []) (by decide +kernel)) (nomark _)) (pe_c0 d_law_root hr (by decide) (pa_cons (pv 1) pa_nil)) (pe_tup (pa_cons (pe_S (w := []) (by decide +kernel)) (pa_cons pe_int pa_nil)))) (pg_name (i := 2) sc_law_word_right.nd rfl (Or.inl rfl)))
      (pss_cons (ps_if (PW.pt (pw_or (pt_cmpR (op_neK (K := K) hu) (pe_tup (pa_cons (pe_attrK (K := K) (pv 8)) (pa_cons (pv 9) pa_nil))) (pv 2) (nomark _)) (pw_or (pt_cmpR op_isBI (pv 9) pe_bl (nomark _)) (pw_or1 (pt_cmpR (op_neO oe_Word hr (by decide)) (pe_metA me_Word_power T.cl_Word (pv 8) hr (by decide) passL (pa_cons (pv 9) pa_nil)) (pv 4) (nomark _))))))
      (pss_one (ps_ret pe_bl))
      pss_nil)
      (pss_cons (ps_asg (pe_metA me_Word_power T.cl_Word (pv 4) hr (by decide) passL (pa_cons (pv 5) pa_nil)) (pg_name (i := 3) sc_law_word_right.nd rfl (Or.inl rfl)))
      (pss_cons (ps_if (PW.pt (pw_or (pt_cmpR (op_neK (K := K) hu) (pe_attrK (K := K) (pv 3)) (pe_c0 d_law_power hr (by decide) (pa_cons (pv 1) (pa_cons (pv 5) pa_nil))) (nomark _)) (pw_or (pt_cmpR (op_neO oe_Word hr (by decide)) (pe_metK mek_Word_power_many T.cl_Word (pv 4) hr (by decide) passL (pk_cons (pe_un un_neg (pv 5)) pk_nil)) (pe_un (un_inv oi_Word hr (by decide) pass0) (pv 3)) (nomark _)) (pw_or1 (pt_cmpR (op_neK (K := K) hu) (pe_attrK (K := K) (pv 4)) (pv 1) (nomark _))))))
      (pss_one (ps_ret pe_bl))
      pss_nil)
      (pss_one (ps_ret (pe_cmpR (op_eqO oe_Word hr (by decide)) (pe_metA me_Word_power T.cl_Word (pv 4) hr (by decide) passL (pa_cons (pe_op op_addA (pv 5) pe_int) pa_nil)) (pe_op (op_bin ob_Word hr (by decide) passL) (pv 3) (pv 4)) (nomark _)))))))))))), ?_⟩
    have hL := good_L hg
    have gpre := good_pre hg
    have gcor := good_cor hg
    have hpl : (pre u).length ≤ u.length := by unfold pre; rw [List.length_take]; omega
    have hcl : (cor u).length ≤ u.length := by unfold cor; rw [List.length_drop, List.length_take]; omega
    have hce := core_eq hg
    have gpc : Good (pre u ++ cor u) := by
      have z := hg
      rw [← hce] at z
      exact good_l z
    walk_at "go"
    refine q_newW hg (by omega) fun p1 H1 s1 w1 => ?_
    walk_at "go"
    refine ⟨P, n, 19, rfl, hP.same s1, by omega, by decide, by decide, fun d H2 hd0 hd1 k2 hP2 => ?_⟩
    have w1 := wAt_keep (hP.same s1) k2 w1
    have k2 := (KeepB.of_same s1).trans k2
    obtain ⟨m, em⟩ : ∃ m : Int, m = d - 9 := ⟨_, rfl⟩
    have hm : m.natAbs ≤ 9 := by omega
    walk_at "go"
    rw [← em]
    clear em hd0 hd1 hP s1
    have fin : ∀ H', Same H2 H' → Q (.bl true) H' := fun H' s => q H' (k2.trans (.of_same s)) (hP2.same s)
    clear k2 hP2 q
    refine met w1 (wf_no4 u).2.2 ?_
    walk_at "go"
    refine ⟨p1, u, rfl, w1, hg, by omega, fun t r s H3 s3 ht wr ws => ?_⟩
    refine r_up2 (SqT.of ht) rfl ?_
    have w1 := wAt_same s3 w1
    walk_at "go"
    refine q_lettersW T wr ?_
    walk_at "go"
    refine q_lettersW T ws ?_
    walk_at "go"
    refine r_sz (by simp) fun t4 ht4 => ?_
    have s4 := same_upd (o := .tup [V.str (S (pre u)), .str (S (cor u))]) ht4
    have f4 : upd H3 t4 (.tup [V.str (S (pre u)), .str (S (cor u))]) t4 = some (.tup [V.str (S (pre u)), .str (S (cor u))]) := upd_same
    generalize upd H3 t4 (.tup [V.str (S (pre u)), .str (S (cor u))]) = H4 at s4 f4 ⊢
    walk_at "go"
    refine ⟨u, rfl, hg, by omega, fun t5 H5 s5 ht5 => ?_⟩
    have s35 := s4.trans s5
    refine r_neT2 (s5 _ _ f4) ht5 (.str _) (.str _) (lay_S (okS_L (good_L gpre))) (lay_S (okS_L (good_L gcor))) ?_
    have w1 := wAt_same s35 w1
    have wr := wAt_same s35 wr
    have ws := wAt_same s35 ws
    have s5 := s3.trans s35
    walk_at "go"
    refine q_mulW T wr ws gpre gcor (by omega) (by omega) (by rw [val_self gpc]; simp; omega) fun p6 H6 s6 w6 => ?_
    rw [val_self gpc] at w6
    walk_at "go"
    refine q_invW (wAt_same s6 wr) gpre (by omega) fun p7 H7 s7 w7 => ?_
    have e7 : val ((pre u ++ cor u) ++ back (pre u)) = u := by rw [hce, val_self hg]
    refine q_mulW T (wAt_same s7 w6) w7 gpc (good_back gpre) (by simp; omega) (by rw [back_len]; omega) (by rw [e7]; omega) fun p8 H8 s8 w8 => ?_
    rw [e7] at w8
    have w1 := wAt_same ((s6.trans s7).trans s8) w1
    have s8 := ((s5.trans s6).trans s7).trans s8
    walk_at "go"
    refine q_eqW w8 w1 hL hL fun H9 s9 => ?_
    rw [decide_eq_true (rfl : u = u)]
    have w1 := wAt_same s9 w1
    have s9 := s8.trans s9
    walk_at "go"
    refine r_ie rfl ?_
    clear wr ws w6 w7 w8 ht ht4 ht5 f4 s3 s4 s5 s35 s6 s7 s8
    walk_at "go"
    refine met w1 (wf_no4 u).2.1 ?_
    walk_at "go"
    refine ⟨p1, u, rfl, w1, hg, by omega, fun t10 r10 H10 s10 ht10 w10 => ?_⟩
    have w1 := wAt_same s10 w1
    have s10 := s9.trans s10
    refine r_up2 (SqT.of ht10) rfl ?_
    have gr := root_good hg
    have hrl : (rootL u).length ≤ 100 := by
      have hpo : (post u).length ≤ u.length := by unfold post; rw [List.length_drop]; omega
      have hpm : (prim (cor u)).length ≤ (cor u).length := by unfold prim; rw [List.length_take]; omega
      unfold rootL
      simp
      omega
    have hpw : powL (rootL u) (timesR u : Nat) = u := by
      unfold timesR
      split
      · rename_i h0
        subst h0
        rfl
      · rename_i h0
        exact root_pow hg h0
    have htl : timesR u ≤ u.length := by
      unfold timesR
      split
      · omega
      · exact Nat.le_trans (Nat.div_le_self _ _) hcl
    refine r_nx (r_seq (r_cut (fun σ' H' => Same H10 H' ∧ ∃ tt, H' tt = some (.tup [.str (S (rootL u)), .int (timesR u : Nat)]) ∧ σ' = [some (.ref P.p), some (.str (S u)), some (.ref tt), none, some (.ref p1), some (.int m), some (.ref r), some (.ref s), some (.ref r10), some (.int (timesR u : Nat))]) (fun nx hnx => ?_) ?_))
    · walk_at "go"
      refine r_ib (fun e => ?_) (fun e => ?_)
      · have hne : u ≠ [] := by simpa using e
        walk_at "go"
        refine ⟨u, rfl, hg, hne, by omega, fun tt H11 s11 h11 => ?_⟩
        have et : timesR u = timesL u := if_neg hne
        walk_at "go"
        exact hnx _ _ ⟨s11, tt, by rw [et]; exact h11, rfl⟩
      · have hne : u = [] := by simpa using e
        subst hne
        walk_at "go"
        refine r_sz (by simp) fun tt htt => ?_
        walk_at "go"
        exact hnx _ _ ⟨same_upd htt, tt, upd_same, rfl⟩
    · rintro σ' H11 ⟨s11, tt, h11, rfl⟩
      have w1 := wAt_same s11 w1
      have w10 := wAt_same s11 w10
      have s11 := s10.trans s11
      walk_at "go"
      refine q_lettersW T w10 ?_
      walk_at "go"
      refine r_sz (by simp) fun t12 ht12 => ?_
      have s12 := same_upd (o := .tup [V.str (S (rootL u)), .int (timesR u : Nat)]) ht12
      have f12 : upd H11 t12 (.tup [V.str (S (rootL u)), .int (timesR u : Nat)]) t12 = some (.tup [V.str (S (rootL u)), .int (timesR u : Nat)]) := upd_same
      generalize upd H11 t12 (.tup [V.str (S (rootL u)), .int (timesR u : Nat)]) = H12 at s12 f12 ⊢
      walk_at "go"
      refine r_neT2 f12 (s12 _ _ h11) (.str _) (.int _) (lay_S (okS_L (good_L gr))) lay_int ?_
      have w1 := wAt_same s12 w1
      have w10 := wAt_same s12 w10
      have s12 := s11.trans s12
      walk_at "go"
      refine r_isBI ?_
      walk_at "go"
      refine met w10 (wf_no4 _).1 ?_
      walk_at "go"
      refine q_power w10 gr (by omega) (by omega) (by rw [hpw]; omega) fun p13 H13 s13 w13 => ?_
      rw [hpw] at w13
      have w1 := wAt_same s13 w1
      have s13 := s12.trans s13
      walk_at "go"
      refine q_eqW w13 w1 hL hL fun H14 s14 => ?_
      rw [decide_eq_true (rfl : u = u)]
      have w1 := wAt_same s14 w1
      have s14 := s13.trans s14
      walk_at "go"
      refine r_ie rfl ?_
      clear w10 w13 h11 f12 ht12 ht10
      walk_at "go"
      refine met w1 (wf_no4 _).1 ?_
      walk_at "go"
      have lm := pow_le hg hl hm
      have gm := powL_good hg m
      refine q_power w1 hg (by omega) (by omega) (by omega) fun p15 H15 s15 w15 => ?_
      have w1 := wAt_same s15 w1
      have s15 := s14.trans s15
      walk_at "go"
      refine q_lettersW T w15 ?_
      walk_at "go"
      refine ⟨u, m, rfl, hg, by omega, by omega, fun H16 s16 => ?_⟩
      have w1 := wAt_same s16 w1
      have w15 := wAt_same s16 w15
      have s16 := s15.trans s16
      walk_at "go"
      refine r_ie (by simp) ?_
      walk_at "go"
      refine met w1 (wf_no4 _).1 ?_
      walk_at "go"
      have em : powL u (-m) = back (powL u m) := powL_neg hg m
      refine ⟨rfl, q_power w1 hg (by omega) (by omega) (by rw [em, back_len]; omega) fun p17 H17 s17 w17 => ?_⟩
      rw [em] at w17
      have w1 := wAt_same s17 w1
      have w15 := wAt_same s17 w15
      have s17 := s16.trans s17
      walk_at "go"
      refine q_invW w15 gm (by omega) fun p18 H18 s18 w18 => ?_
      have w1 := wAt_same s18 w1
      have w15 := wAt_same s18 w15
      have w17 := wAt_same s18 w17
      have s18 := s17.trans s18
      walk_at "go"
      refine q_eqW w17 w18 (allL_back (good_L gm)) (allL_back (good_L gm)) fun H19 s19 => ?_
      rw [decide_eq_true (rfl : back (powL u m) = back (powL u m))]
      have w1 := wAt_same s19 w1
      have w15 := wAt_same s19 w15
      have s19 := s18.trans s19
      walk_at "go"
      refine r_ie rfl ?_
      walk_at "go"
      refine q_lettersW T w1 ?_
      walk_at "go"
      refine r_ie (by simp) ?_
      walk_at "go"
      refine met w1 (wf_no4 _).1 ?_
      walk_at "go"
      have e1 : powL u (m + 1) = val (powL u m ++ u) := powL_succ hg m
      have l1 := pow_le (b := 10) hg hl (show (m + 1).natAbs ≤ 10 by omega)
      refine q_power w1 hg (by omega) (by omega) (by omega) fun p20 H20 s20 w20 => ?_
      rw [e1] at w20 l1
      have w1 := wAt_same s20 w1
      have w15 := wAt_same s20 w15
      have s20 := s19.trans s20
      walk_at "go"
      have g1 := val_good (allL_app (good_L gm) hL)
      refine q_mulW T w15 w1 gm hg (by omega) (by omega) (by omega) fun p21 H21 s21 w21 => ?_
      have w20 := wAt_same s21 w20
      have s21 := s20.trans s21
      walk_at "go"
      refine q_eqW w20 w21 (good_L g1) (good_L g1) fun H22 s22 => ?_
      rw [decide_eq_true (rfl : val (powL u m ++ u) = val (powL u m ++ u))]
      exact fin H22 (s21.trans s22)
/-- what the law says of two words that commute -/
def alikeB (a b : List Nat) : Bool := decide (a = []) || decide (b = []) || (decide (rootL a = rootL b) || decide (rootL a = back (rootL b)))
theorem alike_is {a b : List Nat} (ha : Good a) (hb : Good b) : decide (val (a ++ b) = val (b ++ a)) = alikeB a b := by
  unfold alikeB
  by_cases na : a = []
  · subst na
    rw [List.append_nil, List.nil_append]
    simp
  by_cases nb : b = []
  · subst nb
    rw [List.append_nil, List.nil_append]
    simp
  rw [decide_eq_false na, decide_eq_false nb, Bool.false_or, Bool.false_or, Bool.eq_iff_iff, decide_eq_true_iff, comm_iff ha hb na nb]
  simp
abbrev st_law_alike : Stmt := top 39
theorem sc_law_alike : FnScope ["one", "other", "root", "more"] ["one", "other"] (defScope st_law_alike) := ⟨rfl, rfl, rfl, by decide +kernel, rfl, by decide +kernel, by decide +kernel⟩
def sp_law_alike (K : PySem.W.Frag) (D : Ad) : Sp := fun vs H Q _ => ∃ a b, vs = [.str (S a), .str (S b)] ∧ Good a ∧ Good b ∧ a.length ≤ 1000 ∧ b.length ≤ 1000 ∧ ∀ H', Same H H' → Q (.bl (alikeB a b)) H'
theorem ok_law_alike {f : Addr} {fd : FuncData} (F : Fun K "_law_alike" "_law_alike" st_law_alike f fd) (T : Txt P w K mg base D) (d_law_back : CalN P w K mg base 2 "_law_back" (sp_law_back K D)) (d_law_root : CalN P w K mg base 3 "_law_root" (sp_law_root K D)) : FnOk P w K mg base CX0 4 f fd ["one", "other"] (sp_law_alike K D) := by
  refine F.ok sc_law_alike (fun vs H Q E h => ?_) (fun cdv A outer s H vs Q E hr h => ?_)
  · obtain ⟨a, b, rfl, _⟩ := h
    rfl
  · obtain ⟨a, b, rfl, ha, hb, hla, hlb, q⟩ := h
    have hu := hr.units
    refine ⟨_, (pss_cons (ps_if (PW.pt (pw_or (pt_cmpR (op_eqK (K := K) hu) (pv 0) (pe_S (w := []) (by decide +kernel)) (nomark _)) (pw_or1 (pt_cmpR (op_eqK (K := K) hu) (pv 1) (pe_S (w := []) (by decide +kernel)) (nomark _)))))
      (pss_one (ps_ret pe_bl))
      pss_nil)
      (pss_cons (ps_par (i := 2) (j := 3) rfl sc_law_alike.nd rfl rfl (by decide) rfl rfl (pa_cons (pe_ix (ix_seqK (K := K)) (pe_c0 d_law_root hr (by decide) (pa_cons (pv 0) pa_nil)) pe_int (fun _ _ => rfl)) (pa_cons (pe_ix (ix_seqK (K := K)) (pe_c0 d_law_root hr (by decide) (pa_cons (pv 1) pa_nil)) pe_int (fun _ _ => rfl)) pa_nil)) rfl)
      (pss_one (ps_ret (pe_or (pe_cmpR (op_eqK (K := K) hu) (pv 2) (pv 3) (nomark _)) (pe_one (pe_cmpR (op_eqK (K := K) hu) (pv 2) (pe_c0 d_law_back hr (by decide) (pa_cons (pv 3) pa_nil)) (nomark _)))))))), ?_⟩
    unfold alikeB at q
    walk_at "go"
    refine r_ib (fun e => ?_) (fun e => ?_)
    · walk_at "go"
      rw [e] at q
      exact q H (Same.refl _)
    · have na : a ≠ [] := of_decide_eq_false e
      rw [e] at q
      walk_at "go"
      refine r_ib (fun e2 => ?_) (fun e2 => ?_)
      · walk_at "go"
        rw [e2] at q
        exact q H (Same.refl _)
      · have nb : b ≠ [] := of_decide_eq_false e2
        rw [e2] at q
        walk_at "go"
        refine ⟨a, rfl, ha, na, hla, fun t1 H1 s1 h1 => ?_⟩
        walk_at "go"
        refine r_ixT (SqT.of h1) at0 ?_
        walk_at "go"
        refine ⟨b, rfl, hb, nb, hlb, fun t2 H2 s2 h2 => ?_⟩
        walk_at "go"
        refine r_ixT (SqT.of h2) at0 ?_
        have s2 := s1.trans s2
        walk_at "go"
        refine r_ib (fun e3 => ?_) (fun e3 => ?_)
        · rw [e3] at q
          exact q H2 s2
        · rw [e3] at q
          have gb := root_good hb
          have lb : (rootL b).length ≤ 100000 := by
            have h1 : (pre b).length ≤ b.length := by unfold pre; rw [List.length_take]; omega
            have h2 : (post b).length ≤ b.length := by unfold post; rw [List.length_drop]; omega
            have h3 : (cor b).length ≤ b.length := by unfold cor; rw [List.length_drop, List.length_take]; omega
            have h4 : (prim (cor b)).length ≤ (cor b).length := by unfold prim; rw [List.length_take]; omega
            unfold rootL
            simp
            omega
          walk_at "go"
          refine ⟨_, rfl, good_L gb, lb, ?_⟩
          walk_at "go"
          exact q H2 s2
abbrev st_law_told : Stmt := top 40
theorem sc_law_told : FnScope ["told", "due"] ["told", "due"] (defScope st_law_told) := ⟨rfl, rfl, rfl, by decide +kernel, rfl, by decide +kernel, by decide +kernel⟩
def sp_law_told (K : PySem.W.Frag) (D : Ad) : Sp := fun vs H Q _ => ∃ a b : Bool, vs = [.bl a, .bl b] ∧ Q (.bl (decide (a = b))) H
theorem ok_law_told {f : Addr} {fd : FuncData} (F : Fun K "_law_told" "_law_told" st_law_told f fd) (T : Txt P w K mg base D) : FnOk P w K mg base CX0 1 f fd ["told", "due"] (sp_law_told K D) := by
  refine F.ok sc_law_told (fun vs H Q E h => ?_) (fun cdv A outer s H vs Q E hr h => ?_)
  · obtain ⟨a, b, rfl, _⟩ := h
    rfl
  · obtain ⟨a, b, rfl, q⟩ := h
    have hu := hr.units
    refine ⟨_, (pss_one (ps_ret (pe_ifExp (pt_val (pv 1)) (pe_cmpR op_isBI (pv 0) pe_bl (nomark _)) (pe_cmpR op_isBI (pv 0) pe_bl (nomark _))))), ?_⟩
    walk_at "go"
    cases b with
    | true =>
      walk_at "go"
      exact q
    | false =>
      walk_at "go"
      exact q
theorem isWA (T : Txt P w K mg base D) {H : Hp} {p : Addr} {u : List Nat} (h : WAt D H p u) : IsK K H (.ref p) (.ref D.Word) true := let ⟨_, h⟩ := h; isW T h
theorem q_comm (T : Txt P w K mg base D) {E : XK} {H : Hp} {Q : VK} {p q : Addr} {u v : List Nat} (h1 : WAt D H p u) (h2 : WAt D H q v) (gu : Good u) (gv : Good v) (lu : u.length ≤ 4000) (lv : v.length ≤ 4000) (k : Q (.bl (alikeB u v)) H) : sp_commute K D [.ref p, .ref q] H Q E :=
  ⟨_, _, true, true, rfl, isWA T h1, isWA T h2, (fun e => nomatch e), (fun _ e => nomatch e), fun _ _ => ⟨p, q, u, v, rfl, rfl, h1, h2, gu, gv, lu, lv, by rw [alike_is gu gv]; exact k⟩⟩
abbrev st_law_pair_right : Stmt := top 41
theorem sc_law_pair_right : FnScope ["pen", "row", "way", "other", "told", "root"] ["pen", "row"] (defScope st_law_pair_right) := ⟨rfl, rfl, rfl, by decide +kernel, rfl, by decide +kernel, by decide +kernel⟩
def sp_law_pair_right (K : PySem.W.Frag) (D : Ad) : Sp := fun vs H Q _ => ∃ (P : Pen) (n : Nat) (w : List Nat), vs = [.ref P.p, .str (S w)] ∧ PenAt P n H ∧ n ≤ 70000 ∧ Good w ∧ w.length ≤ 24 ∧ ∀ H', KeepB P H H' → PenAt P (n + 22) H' → Q (.bl true) H'
theorem ok_law_pair_right {f : Addr} {fd : FuncData} (F : Fun K "_law_pair_right" "_law_pair_right" st_law_pair_right f fd) (T : Txt P w K mg base D) (d_commute : CalX P w K mg base 2 "commute" (sp_commute K D)) (d_law_alike : CalN P w K mg base 4 "_law_alike" (sp_law_alike K D)) (d_law_draw : CalN P w K mg base 1 "_law_draw" (sp_law_draw K D)) (d_law_drawn : CalN P w K mg base 4 "_law_drawn" (sp_law_drawn K D)) (d_law_join : CalN P w K mg base 2 "_law_join" (sp_law_join K D)) (d_law_power : CalN P w K mg base 3 "_law_power" (sp_law_power K D)) (d_law_root : CalN P w K mg base 3 "_law_root" (sp_law_root K D)) (d_law_told : CalN P w K mg base 1 "_law_told" (sp_law_told K D)) (dk_commute_other_one : CalK P w K mg base (L2.CX P w) 2 "commute" ["other", "one"] (gPm (α := V) .non 0 2 [1, 0]) (sp_commute K D)) (m_Word : MakX P w K mg base 2 "Word" D.Word (sp_Word_init K D)) : FnOk P w K mg base CX0 5 f fd ["pen", "row"] (sp_law_pair_right K D) := by
  refine F.ok sc_law_pair_right (fun vs H Q E h => ?_) (fun cdv A outer s H vs Q E hr h => ?_)
  · obtain ⟨P, n, u, rfl, _⟩ := h
    rfl
  · obtain ⟨P, n, u, rfl, hP, hn, hg, hl, q⟩ := h
    have hu := hr.units
    refine ⟨_, (pss_cons (ps_asg (pe_c0 d_law_draw hr (by decide) (pa_cons (pv 0) (pa_cons pe_int pa_nil))) (pg_name (i := 2) sc_law_pair_right.nd rfl (Or.inl rfl)))
      (pss_cons (ps_asg (pe_c0 d_law_drawn hr (by decide) (pa_cons (pv 0) pa_nil)) (pg_name (i := 3) sc_law_pair_right.nd rfl (Or.inl rfl)))
      (pss_cons (ps_if (pt_cmpR op_lt (pv 2) pe_int (nomark _))
      (pss_cons (ps_asg (pe_ifExp (pt_cmpR (op_neK (K := K) hu) (pv 1) (pe_S (w := []) (by decide +kernel)) (nomark _)) (pe_ix (ix_seqK (K := K)) (pe_c0 d_law_root hr (by decide) (pa_cons (pv 1) pa_nil)) pe_int (fun _ _ => rfl)) (pe_S (w := []) (by decide +kernel))) (pg_name (i := 5) sc_law_pair_right.nd rfl (Or.inl rfl)))
      (pss_one (ps_asg (pe_c0 d_law_power hr (by decide) (pa_cons (pv 5) (pa_cons (pe_op op_sub (pe_c0 d_law_draw hr (by decide) (pa_cons (pv 0) (pa_cons pe_int pa_nil))) pe_int) pa_nil))) (pg_name (i := 3) sc_law_pair_right.nd rfl (Or.inl rfl)))))
      (pss_one (ps_if (pt_cmpR (op_eqK (K := K) hu) (pv 2) pe_int (nomark _))
      (pss_one (ps_asg (pe_c0 d_law_join hr (by decide) (pa_cons (pv 3) (pa_cons (pv 1) pa_nil))) (pg_name (i := 3) sc_law_pair_right.nd rfl (Or.inl rfl))))
      pss_nil)))
      (pss_cons (ps_asg (pe_cX d_commute hr (by decide) passL (pa_cons (pe_mX m_Word hr (by decide) passL (pa_cons (pv 1) pa_nil)) (pa_cons (pe_mX m_Word hr (by decide) passL (pa_cons (pv 3) pa_nil)) pa_nil))) (pg_name (i := 4) sc_law_pair_right.nd rfl (Or.inl rfl)))
      (pss_one (ps_ret (pe_and (pe_c0 d_law_told hr (by decide) (pa_cons (pv 4) (pa_cons (pe_c0 d_law_alike hr (by decide) (pa_cons (pv 1) (pa_cons (pv 3) pa_nil))) pa_nil))) (pe_one (pe_cmpR (op_eqK (K := K) hu) (pe_cK0 dk_commute_other_one hr (by decide) passL (pk_cons (pe_mX m_Word hr (by decide) passL (pa_cons (pv 1) pa_nil)) (pk_cons (pe_mX m_Word hr (by decide) passL (pa_cons (pv 3) pa_nil)) pk_nil))) (pv 4) (nomark _)))))))))), ?_⟩
    walk_at "go"
    refine ⟨P, n, 4, rfl, hP, by omega, by decide, by decide, fun d H1 hd0 hd1 k1 hP1 => ?_⟩
    walk_at "go"
    refine ⟨P, _, rfl, hP1, by omega, fun o H2 go lo k2 hP2 => ?_⟩
    have k2 := k1.trans k2
    walk_at "gp"
    refine r_cut (fun σ' H' => KeepB P H H' ∧ PenAt P (n + 22) H' ∧ ∃ o v2, Good o ∧ o.length ≤ 200 ∧ σ' = [some (.ref P.p), some (.str (S u)), some (.int d), some (.str (S o)), none, v2]) (fun nx hnx => ?_) ?_
    · walk_at "go"
      refine r_ib (fun e => ?_) (fun e => ?_)
      · walk_at "go"
        refine r_ib (fun e2 => ?_) (fun e2 => ?_)
        · have hne : u ≠ [] := by simpa using e2
          have lrt : (rootL u).length ≤ 24 := by
            have hc := core_self hg hne
            have h1 := congrArg List.length hc.e
            have h4 : (prim (cor u)).length ≤ (cor u).length := by unfold prim; rw [List.length_take]; omega
            unfold rootL
            rw [post_back hg]
            simp [back_len] at h1 ⊢
            omega
          walk_at "go"
          refine ⟨u, rfl, hg, hne, by omega, fun t3 H3 s3 h3 => ?_⟩
          walk_at "go"
          refine r_ixT (SqT.of h3) at0 ?_
          walk_at "go"
          refine ⟨P, _, 7, rfl, (hP2.same s3), by omega, by decide, by decide, fun x H4 hx0 hx1 k4 hP4 => ?_⟩
          walk_at "go"
          have lz := pow_le (b := 3) (root_good hg) lrt (show (x - 3).natAbs ≤ 3 by omega)
          refine ⟨rootL u, _, rfl, (root_good hg), by omega, by omega, fun H5 s5 => ?_⟩
          walk_at "go"
          exact hnx _ _ ⟨((k2.trans (.of_same s3)).trans k4).trans (.of_same s5), (hP4.same s5).mono (by omega), _, _, powL_good (root_good hg) _, by omega, rfl⟩
        · walk_at "go"
          refine ⟨P, _, 7, rfl, hP2, by omega, by decide, by decide, fun x H4 hx0 hx1 k4 hP4 => ?_⟩
          walk_at "go"
          have lz := pow_le (b := 3) good_nil (show ([] : List Nat).length ≤ 24 by decide) (show (x - 3).natAbs ≤ 3 by omega)
          refine ⟨[], _, rfl, good_nil, by simp, by omega, fun H5 s5 => ?_⟩
          walk_at "go"
          exact hnx _ _ ⟨(k2.trans k4).trans (.of_same s5), (hP4.same s5).mono (by omega), _, _, powL_good good_nil _, by omega, rfl⟩
      · walk_at "go"
        refine r_ib (fun e2 => ?_) (fun e2 => ?_)
        · walk_at "go"
          have lv := val_len (o ++ u)
          rw [List.length_append] at lv
          refine ⟨o, u, rfl, go, hg, by omega, by omega, fun H3 s3 => ?_⟩
          walk_at "go"
          exact hnx _ _ ⟨k2.trans (.of_same s3), (hP2.same s3).mono (by omega), _, _, val_good (allL_app (good_L go) (good_L hg)), by omega, rfl⟩
        · walk_at "go"
          exact hnx _ _ ⟨k2, hP2.mono (by omega), _, _, go, by omega, rfl⟩
    · rintro σ' H3 ⟨k3, hP3, o, v2, go, lo, rfl⟩
      have fin : ∀ H', Same H3 H' → Q (.bl true) H' := fun H' s => q H' (k3.trans (.of_same s)) (hP3.same s)
      walk_at "go"
      refine q_newW hg (by omega) fun p4 H4 s4 w4 => ?_
      walk_at "go"
      refine q_newW go (by omega) fun p5 H5 s5 w5 => ?_
      have w4 := wAt_same s5 w4
      walk_at "go"
      refine q_comm T w4 w5 hg go (by omega) (by omega) ?_
      walk_at "go"
      refine ⟨u, o, rfl, hg, go, by omega, by omega, fun H6 s6 => ?_⟩
      walk_at "go"
      refine ⟨_, _, rfl, ?_⟩
      rw [decide_eq_true (rfl : alikeB u o = alikeB u o)]
      walk_at "go"
      refine q_newW hg (by omega) fun p7 H7 s7 w7 => ?_
      walk_at "go"
      refine q_newW go (by omega) fun p8 H8 s8 w8 => ?_
      have w7 := wAt_same s8 w7
      walk_at "go"
      refine q_comm T w8 w7 go hg (by omega) (by omega) ?_
      walk_at "go"
      have ea : alikeB o u = alikeB u o := by
        rw [← alike_is go hg, ← alike_is hg go, Bool.eq_iff_iff, decide_eq_true_iff, decide_eq_true_iff]
        exact ⟨Eq.symm, Eq.symm⟩
      rw [ea, decide_eq_true (rfl : alikeB u o = alikeB u o)]
      exact fin _ ((((s4.trans s5).trans s6).trans s7).trans s8)
end
end Cs


set_option Elab.async false
set_option linter.all false
set_option maxRecDepth 100000
set_option maxHeartbeats 4000000
namespace Cs
open PySem PySem.Spec PyProof.Rows L2 LamX
local macro_rules | `(tactic| walk_at "two") => `(tactic| with_reducible (first
  | refine r_seq ?_ | refine r_nx ?_ | refine r_rt ?_ | refine r_ct ?_ | refine r_bk ?_ | refine r_asg ?_ | refine r_gname ?_ | refine r_ret ?_ | refine r_drop ?_ | refine r_next ?_ | refine r_retN ?_ | refine r_fld ?_ | refine r_gsub ?_ | refine r_brk ?_ | refine r_cont ?_
  | refine r_var rfl ?_ | refine r_c ?_ | refine r_op ?_ | refine r_un ?_ | refine r_test ?_ | refine r_tB ?_ | refine r_bl ?_ | refine r_blv ?_
  | refine r_cons ?_ | refine r_nil ?_ | refine r_lc ?_ | refine r_yes ?_ | refine r_iLT0 ?_ | refine r_iEnumS ?_ | refine r_iEnum ?_ | refine r_iStr ?_ | refine r_iList ?_ | refine r_iRng ?_ | refine r_iRng2 ?_ | refine r_iRng3 ?_ | refine r_iStrS ?_ | refine r_iStrE ?_ | refine r_cb ?_ | refine r_call0 ?_ | refine r_callS ?_ | refine r_callK ?_ | refine r_tup ?_ | refine r_lst ?_ | refine r_make0 ?_ | refine r_attr ?_
  | refine r_sl ?_ | refine r_nopart ?_ | refine r_part ?_ | refine r_parti ?_ | refine r_tyS ?_ | refine r_bm0 ?_ | refine r_bm ?_ | refine r_dnew ?_
  | refine r_and ?_ | refine r_or ?_ | refine r_not ?_ | refine r_andV ?_ | refine r_orV ?_ | refine r_notV ?_ | refine r_if ?_ | refine r_ift ?_ | refine r_iff ?_ | refine r_revL ?_ | refine r_ntt ?_ | refine r_nff ?_ | refine r_itup ?_ | refine r_chain ?_
  | refine r_I0 ?_ | refine r_U ?_ | refine r_addI ?_ | refine r_eqI ?_ | refine r_neI ?_ | refine r_eqS ?_ | refine r_neS ?_ | refine r_eqB ?_ | refine r_neB ?_ | refine r_inS ?_ | refine r_niS ?_ | refine r_int1 ?_ | refine r_abs ?_ | refine r_isN ?_ | refine r_notN ?_
  | refine r_intB ?_ | refine r_max ?_ | refine r_strS ?_ | refine r_isB ?_ | refine r_notB ?_ | refine r_notBI ?_ | refine r_revS ?_ | refine r_sta ?_ | refine r_metA ?_ | refine r_mK1 ?_ | refine r_mD ?_ | refine r_iOwn ?_ | refine r_aug rfl ?_ | refine r_ipI ?_ | refine r_par ?_ | refine r_vw ?_))
local macro_rules | `(tactic| walk_at "one") => `(tactic| first | walk_at "two" | with_reducible (first | refine r_ifs ?_ | refine r_forE ?_))
local macro_rules | `(tactic| walk_at "go") => `(tactic| repeat walk_at "one")
local macro_rules | `(tactic| walk_at "gp") => `(tactic| repeat walk_at "two")

section
variable {P : Program} {w : World} {K : PySem.W.Frag} {mg : Str → Option Value} {base : Heap} {D : Ad}

open Rp
abbrev st__law_heard0 : Stmt := top 29
theorem sc__law_heard0 : FnScope ["ask", "caught", "error"] ["ask"] (defScope st__law_heard0) := ⟨rfl, rfl, rfl, by decide +kernel, rfl, by decide +kernel, by decide +kernel⟩
theorem gd_iff : ∀ (w a : List Nat), gd a w = true ↔ AllL w ∧ (∀ i, i + 1 < w.length → w[i + 1]? ≠ (w[i]?).map und) ∧ (∀ c, w.head? = some c → [c] ≠ a.map und)
  | [], a => by simp [gd, AllL]
  | c :: r, a => by
    have ih := gd_iff r [c]
    unfold gd
    rw [Bool.and_eq_true, ih]
    unfold badC
    constructor
    · rintro ⟨h1, h2, h3, h4⟩
      simp only [Bool.not_eq_true', Bool.or_eq_false_iff, Bool.not_eq_false', decide_eq_false_iff_not] at h1
      refine ⟨fun d hd => (List.mem_cons.mp hd).elim (fun e => by rw [e]; exact h1.1) (h2 d), fun i hi => ?_, fun d hd => ?_⟩
      · cases i with
        | zero =>
          cases r with
          | nil => simp at hi
          | cons d r =>
            intro z
            have z : d = und c := by simpa using z
            exact h4 d rfl (by simp [z])
        | succ i => simpa using h3 i (by simpa using hi)
      · have hd : c = d := by simpa using hd
        rw [← hd]
        exact h1.2
    · rintro ⟨h1, h2, h3⟩
      refine ⟨?_, fun d hd => h1 d (List.mem_cons_of_mem _ hd), fun i hi => ?_, fun d hd => ?_⟩
      · simp only [Bool.not_eq_true', Bool.or_eq_false_iff, Bool.not_eq_false', decide_eq_false_iff_not]
        exact ⟨h1 c List.mem_cons_self, h3 c rfl⟩
      · simpa using h2 (i + 1) (by simpa using hi)
      · cases r with
        | nil => cases hd
        | cons e r =>
          have hd : e = d := by simpa using hd
          intro z
          have z : d = und c := by simpa using z
          exact h2 0 (by simp) (by simp [hd, z])
theorem good_adj {w : List Nat} (h : AllL w) : gd [] w = true ↔ ∀ i, i + 1 < w.length → w[i + 1]? ≠ (w[i]?).map und := by
  rw [gd_iff]
  exact ⟨fun z => z.2.1, fun z => ⟨h, z, fun c _ e => by cases e⟩⟩
theorem walk_rangeL {lo : Int} {n : Nat} : Walk (Itr lo n) ((List.range n).map fun i => V.int (lo + (i : Nat))).length (fun _ => True) (YAt ((List.range n).map fun i => V.int (lo + (i : Nat)))) := by
  have e : ((List.range n).map fun i => V.int (lo + (i : Nat))).length = n := by simp
  rw [e]
  refine ⟨fun i H hi _ => hi, fun H _ => Nat.le_refl _, fun i H x H' hi _ y => ⟨y.1, ?_⟩⟩
  rw [List.getElem?_map, List.getElem?_range hi, y.2]
  rfl
/-- what the law reads a text as -/
def du (w : List Nat) : Except Nat (List Nat) :=
  match spl w with
  | [] => .error 0
  | p :: r => if p = [] then .error 0 else if gd [] (if p ≠ [45] then p else []) = true then (if r = [] then .ok (if p ≠ [45] then p else []) else .error 1) else .error 0
theorem du_rd {w : List Nat} (h : w.length ≤ 4000) : du w = rd w := by
  obtain ⟨p, r, e, hp, _⟩ := spl_cons w
  unfold du rd
  rw [e]
  simp only
  by_cases h1 : p = [45]
  · subst h1
    simp [gd]
  · by_cases h2 : p = []
    · subst h2; simp
    · by_cases h3 : gd [] p = true
      · have : p.length ≤ 4000 := by omega
        simp [h1, h2, h3, this]
      · simp [h1, h2, h3]
def dueV : Except Nat (List Nat) → V
  | .error i => .int (i : Nat)
  | .ok z => .str (S z)
theorem dueV_err {i : Nat} : dueV (.error i) = .int (i : Nat) := rfl
theorem dueV_ok {z : List Nat} : dueV (.ok z) = .str (S z) := rfl
abbrev st_law_due : Stmt := top 47
theorem sc_law_due : FnScope ["text", "items", "row", "at", "sign"] ["text"] (defScope st_law_due) := ⟨rfl, rfl, rfl, by decide +kernel, rfl, by decide +kernel, by decide +kernel⟩
def sp_law_due (K : PySem.W.Frag) (D : Ad) : Sp := fun vs H Q _ => ∃ w, vs = [.str (S w)] ∧ w.length ≤ 10000 ∧ ∀ H', Same H H' → Q (dueV (du w)) H'
theorem ok_law_due {f : Addr} {fd : FuncData} (F : Fun K "_law_due" "_law_due" st_law_due f fd) (T : Txt P w K mg base D) (d_law_undo : CalN P w K mg base 1 "_law_undo" (sp_law_undo K D)) : FnOk P w K mg base CX0 2 f fd ["text"] (sp_law_due K D) := by
  refine F.ok sc_law_due (fun vs H Q E h => ?_) (fun cdv A outer s H vs Q E hr h => ?_)
  · obtain ⟨w, rfl, _⟩ := h
    rfl
  · obtain ⟨w, rfl, hl, q⟩ := h
    have hu := hr.units
    refine ⟨_, (pss_cons (ps_asg (pe_bmK (K := K) PySem.F.plainAttrs_str PySem.F.slot_str_split PySem.F.type_str_split mb_split (pv 0) (pa_cons (pe_S (w := [32]) (by decide +kernel)) pa_nil)) (pg_name (i := 1) sc_law_due.nd rfl (Or.inl rfl)))
      (pss_cons (ps_asg (pe_ifExp (pt_cmpR (op_neK (K := K) hu) (pe_ix (ix_seqK (K := K)) (pv 1) pe_int (fun _ _ => rfl)) (pe_S (w := [45]) (by decide +kernel)) (nomark _)) (pe_ix (ix_seqK (K := K)) (pv 1) pe_int (fun _ _ => rfl)) (pe_S (w := []) (by decide +kernel))) (pg_name (i := 2) sc_law_due.nd rfl (Or.inr rfl)))
      (pss_cons (ps_if (PW.pt (pw_or (pt_cmpR (op_eqK (K := K) hu) (pe_ix (ix_seqK (K := K)) (pv 1) pe_int (fun _ _ => rfl)) (pe_S (w := []) (by decide +kernel)) (nomark _)) (pw_or1 (pt_cmpR (op_neK (K := K) hu) (pe_lc (own := [("sign", 4)]) (g := gName 4) rfl sc_law_due.nd (pi_str (pv 2)) (blkOk_by (N := ["text", "items", "row", "at", "sign"]) (sc := defScope st_law_due) (by decide +kernel)) (fun _ _ _ _ _ => (pg_name (i := 4) sc_law_due.nd rfl (Or.inl rfl))) (fun _ _ _ _ _ => (pts_one (pt_cmpR (op_niK (K := K)) (pv 4) (pe_S (w := [65, 66, 67, 68, 97, 98, 99, 100]) (by decide +kernel)) rfl))) (fun _ _ _ _ _ => pe_int)) (pe_lst pa_nil) (nomark _)))))
      (pss_one (ps_ret pe_int))
      pss_nil)
      (pss_cons (ps_if (pt_cmpR (op_neK (K := K) hu) (pe_lc (own := [("at", 3)]) (g := gName 3) rfl sc_law_due.nd (pi_range2 rfl T.b_range (pa_cons pe_int (pa_cons (pe_callB (id := "len") (call_lenB (K := K)) (by rfl) T.b_len PySem.boot_len (pa_cons (pv 2) pa_nil)) pa_nil))) (blkOk_by (N := ["text", "items", "row", "at", "sign"]) (sc := defScope st_law_due) (by decide +kernel)) (fun _ _ _ _ _ => (pg_name (i := 3) sc_law_due.nd rfl (Or.inl rfl))) (fun _ _ _ _ _ => (pts_one (pt_cmpR (op_eqK (K := K) hu) (pe_ix (ix_seqK (K := K)) (pv 2) (pv 3) (fun _ _ => rfl)) (pe_c0 d_law_undo hr (by decide) (pa_cons (pe_ix (ix_seqK (K := K)) (pv 2) (pe_op op_sub (pv 3) pe_int) (fun _ _ => rfl)) pa_nil)) (nomark _)))) (fun _ _ _ _ _ => pe_int)) (pe_lst pa_nil) (nomark _))
      (pss_one (ps_ret pe_int))
      pss_nil)
      (pss_one (ps_ret (pe_ifExp (pt_cmpR (op_eqK (K := K) hu) (pe_callB (id := "len") (call_lenB (K := K)) (by rfl) T.b_len PySem.boot_len (pa_cons (pv 1) pa_nil)) pe_int (nomark _)) (pv 2) pe_int))))))), ?_⟩
    obtain ⟨p, r, hs, hpl, _⟩ := spl_cons w
    unfold du at q
    rw [hs] at q
    simp only at q
    walk_at "go"
    refine q_split (by omega) fun l hl0 => ?_
    rw [hs, List.map_cons]
    have s1 := same_upd (o := .lst (V.str (S p) :: r.map fun p => V.str (S p))) hl0
    have f1 : upd H l (.lst (V.str (S p) :: r.map fun p => V.str (S p))) l = some (.lst (V.str (S p) :: r.map fun p => V.str (S p))) := upd_same
    generalize upd H l (.lst (V.str (S p) :: r.map fun p => V.str (S p))) = H1 at s1 f1 ⊢
    obtain ⟨row, er⟩ : ∃ row, row = if p ≠ [45] then p else [] := ⟨_, rfl⟩
    rw [← er] at q
    have hrl : row.length ≤ 10000 := by
      rw [er]
      split
      · omega
      · simp
    refine r_nx (r_seq (r_cut (fun σ' H' => H' = H1 ∧ σ' = [some (.str (S w)), some (.ref l), some (.str (S row)), none, none]) (fun nx hnx => ?_) ?_))
    · walk_at "go"
      refine r_ixL (SqL.of f1) at0 ?_
      walk_at "go"
      refine r_ib (fun e => ?_) (fun e => ?_)
      · have e : p ≠ [45] := by simpa using e
        rw [if_pos e] at er
        walk_at "go"
        refine r_ixL (SqL.of f1) at0 ?_
        walk_at "go"
        exact hnx _ _ ⟨rfl, by rw [er]; rfl⟩
      · have e : p = [45] := by simpa using e
        rw [if_neg (fun z => z e)] at er
        walk_at "go"
        exact hnx _ _ ⟨rfl, by rw [er]; rfl⟩
    rintro σ' H2 ⟨rfl, rfl⟩
    clear er
    walk_at "go"
    refine r_ixL (SqL.of f1) at0 ?_
    walk_at "go"
    refine r_ib (fun e => ?_) (fun e => ?_)
    · walk_at "go"
      rw [if_pos (of_decide_eq_true e)] at q
      exact q _ s1
    · rw [if_neg (of_decide_eq_false e)] at q
      walk_at "go"
      intro D1 hD1
      refine lcG (its := row.map fun c => V.str (S [c])) walk_SL (fun j acc H' => Same H2 H' ∧ acc = (((row.take j).filter fun c => !isL c).map fun _ => (1 : Int)).map V.int) ⟨same_upd hD1, rfl⟩ (fun _ _ _ _ _ _ => trivial) ?_ ?_
      · rintro j y acc H3 hy ⟨s3, rfl⟩ e3
        obtain ⟨c, hc, rfl⟩ : ∃ c, row[j]? = some c ∧ y = .str (S [c]) := by
          rw [List.getElem?_map] at hy
          cases e : row[j]? with
          | none => rw [e] at hy; cases hy
          | some c => rw [e] at hy; exact ⟨c, rfl, (Option.some.inj hy).symm⟩
        have hil : isL c = decide (c ∈ [65, 66, 67, 68, 97, 98, 99, 100]) := by
          rw [Bool.eq_iff_iff, decide_eq_true_iff]
          exact isL_iff
        walk_at "go"
        refine r_ib (fun e => ?_) (fun e => ?_)
        · walk_at "go"
          refine lcFin (Pv := fun acc H' => Same H2 H' ∧ acc = (((row.take (j + 1)).filter fun c => !isL c).map fun _ => (1 : Int)).map V.int) e3 ?_ ⟨same_mut s3 hD1, ?_⟩
          · rw [List.length_map, List.length_map]
            exact Nat.le_trans (List.length_filter_le _ _) (by rw [List.length_take]; omega)
          · rw [take_snoc hc, List.filter_append, List.map_append, List.map_append, List.filter_cons, if_pos (by rw [hil]; simpa using e)]
            rfl
        · refine ⟨_, ⟨s3, ?_⟩, e3⟩
          rw [take_snoc hc, List.filter_append, List.map_append, List.map_append, List.filter_cons, if_neg (by rw [hil]; simpa using e)]
          simp
      · rintro acc H3 ⟨s3, rfl⟩ e3
        rw [List.length_map, List.take_length] at e3
        walk_at "go"
        refine r_sz (by decide) fun z1 hz1 => ?_
        have sz := same_upd (o := .lst []) hz1
        refine r_neNil (SqL.of (sz _ _ e3)) (dpI _) ((lay_ints _).mono (by decide)) (SqL.of upd_same) ?_
        have s4 := (s1.trans s3).trans sz
        have f1 := sz _ _ (s3 _ _ f1)
        generalize upd H3 z1 (.lst []) = H4 at s4 f1 ⊢
        walk_at "go"
        have ef : decide ((((row.filter fun c => !isL c).map fun _ => (1 : Int)).map V.int) = []) = row.all isL := by
          rw [Bool.eq_iff_iff, decide_eq_true_iff, List.all_eq_true, List.map_eq_nil_iff, List.map_eq_nil_iff, List.filter_eq_nil_iff]
          exact ⟨fun h c hc => by simpa using h c hc, fun h c hc => by simpa using h c hc⟩
        rw [ef]
        refine r_ib (fun e2 => ?_) (fun e2 => ?_)
        · have hnL : ¬ AllL row := fun z => by rw [List.all_eq_true.mpr z] at e2; cases e2
          walk_at "go"
          rw [if_neg (fun z => hnL (good_L (good_gd.mpr z)))] at q
          exact q _ s4
        · have hL : AllL row := List.all_eq_true.mp (by simpa using e2)
          walk_at "go"
          refine q_lenS (by omega) ?_
          walk_at "go"
          refine ⟨_, _, rfl, ⟨by omega, by omega, by omega, by omega⟩, fun D2 hD2 => ?_⟩
          have en : (((row.length : Nat) : Int) - 1).toNat = row.length - 1 := by omega
          rw [en]
          refine lcG (its := (List.range (row.length - 1)).map fun i => V.int (1 + (i : Nat))) walk_rangeL (fun j acc H' => Same H4 H' ∧ acc = (((List.range j).filter fun i => decide (row[i + 1]? = (row[i]?).map und)).map fun _ => (1 : Int)).map V.int) ⟨same_upd hD2, rfl⟩ (fun _ _ _ _ _ _ => trivial) ?_ ?_
          · rintro j y acc H5 hy ⟨s5, rfl⟩ e5
            have hj : j < row.length - 1 := by
              refine Nat.lt_of_not_le fun z => ?_
              rw [List.getElem?_eq_none (by simpa using z)] at hy
              cases hy
            obtain rfl : y = .int (1 + (j : Nat)) := by
              rw [List.getElem?_map, List.getElem?_range hj] at hy
              exact (Option.some.inj hy).symm
            obtain ⟨c, hc⟩ : ∃ c, row[j + 1]? = some c := ⟨row[j + 1]'(by omega), by simp⟩
            obtain ⟨d, hd⟩ : ∃ d, row[j]? = some d := ⟨row[j]'(by omega), by simp⟩
            have hdL := hL d (List.mem_of_getElem? hd)
            have e1 : (1 : Int) + (j : Nat) = ((j + 1 : Nat) : Int) := by omega
            have e2 : (1 : Int) + (j : Nat) - 1 = ((j : Nat) : Int) := by omega
            walk_at "go"
            refine r_ixS (c := c) (by omega) (by rw [e1]; exact atI_nat hc) ?_
            walk_at "go"
            refine r_ixS (c := d) (by omega) (by rw [e2]; exact atI_nat hd) ?_
            walk_at "go"
            refine ⟨d, rfl, hdL, ?_⟩
            walk_at "go"
            have eq : decide (row[j + 1]? = (row[j]?).map und) = decide ([c] = [und d]) := by
              rw [hc, hd]
              simp
            refine r_ib (fun e => ?_) (fun e => ?_)
            · walk_at "go"
              refine lcFin (Pv := fun acc H' => Same H4 H' ∧ acc = (((List.range (j + 1)).filter fun i => decide (row[i + 1]? = (row[i]?).map und)).map fun _ => (1 : Int)).map V.int) e5 ?_ ⟨same_mut s5 hD2, ?_⟩
              · rw [List.length_map, List.length_map]
                exact Nat.le_trans (List.length_filter_le _ _) (by rw [List.length_range]; omega)
              · rw [List.range_succ, List.filter_append, List.map_append, List.map_append, List.filter_cons, if_pos (by rw [eq]; exact e)]
                rfl
            · refine ⟨_, ⟨s5, ?_⟩, e5⟩
              rw [List.range_succ, List.filter_append, List.map_append, List.map_append, List.filter_cons, if_neg (by rw [eq, e]; exact Bool.false_ne_true)]
              simp
          · rintro acc H5 ⟨s5, rfl⟩ e5
            rw [List.length_map, List.length_range] at e5
            walk_at "go"
            refine r_sz (by decide) fun z2 hz2 => ?_
            have sz2 := same_upd (o := .lst []) hz2
            refine r_neNil (SqL.of (sz2 _ _ e5)) (dpI _) ((lay_ints _).mono (by decide)) (SqL.of upd_same) ?_
            have s6 := (s4.trans s5).trans sz2
            have f1 := sz2 _ _ (s5 _ _ f1)
            generalize upd H5 z2 (.lst []) = H6 at s6 f1 ⊢
            walk_at "go"
            have ef : decide (((((List.range (row.length - 1)).filter fun i => decide (row[i + 1]? = (row[i]?).map und)).map fun _ => (1 : Int)).map V.int) = []) = gd [] row := by
              rw [Bool.eq_iff_iff, decide_eq_true_iff, good_adj hL, List.map_eq_nil_iff, List.map_eq_nil_iff, List.filter_eq_nil_iff]
              exact ⟨fun h i hi => by simpa using h i (List.mem_range.mpr (by omega)), fun h i hi => by simpa using h i (by have := List.mem_range.mp hi; omega)⟩
            rw [ef]
            refine r_ib (fun e7 => ?_) (fun e7 => ?_)
            · have hg : ¬ gd [] row = true := by simpa using e7
              walk_at "go"
              rw [if_neg hg] at q
              exact q _ s6
            · have hg : gd [] row = true := by simpa using e7
              rw [if_pos hg] at q
              walk_at "go"
              refine q_lenL (SqL.of f1) ?_
              walk_at "go"
              refine r_ib (fun e8 => ?_) (fun e8 => ?_)
              · have hr : r = [] := by
                  have := of_decide_eq_true e8
                  cases r with
                  | nil => rfl
                  | cons c r => simp at this; omega
                rw [if_pos hr] at q
                walk_at "go"
                exact q _ s6
              · have hr : r ≠ [] := fun z => by subst z; simp at e8
                rw [if_neg hr] at q
                walk_at "go"
                exact q _ s6
abbrev st_law_spoiled : Stmt := top 48
theorem sc_law_spoiled : FnScope ["pen", "text", "way", "at", "sign"] ["pen", "text"] (defScope st_law_spoiled) := ⟨rfl, rfl, rfl, by decide +kernel, rfl, by decide +kernel, by decide +kernel⟩
def sp_law_spoiled (K : PySem.W.Frag) (D : Ad) : Sp := fun vs H Q _ => ∃ (P : Pen) (n : Nat) (w : List Nat), vs = [.ref P.p, .str (S w)] ∧ PenAt P n H ∧ n ≤ 80000 ∧ w.length ≤ 100 ∧ ∀ z H', z.length ≤ 110 → KeepB P H H' → PenAt P (n + 4) H' → Q (.str (S z)) H'
theorem ok_law_spoiled {f : Addr} {fd : FuncData} (F : Fun K "_law_spoiled" "_law_spoiled" st_law_spoiled f fd) (T : Txt P w K mg base D) (d_law_other_draw : CalN P w K mg base 1 "_law_other_draw" (sp_law_other_draw K D)) (d_law_other_pick : CalN P w K mg base 2 "_law_other_pick" (sp_law_other_pick K D)) : FnOk P w K mg base CX0 3 f fd ["pen", "text"] (sp_law_spoiled K D) := by
  refine F.ok sc_law_spoiled (fun vs H Q E h => ?_) (fun cdv A outer s H vs Q E hr h => ?_)
  · obtain ⟨P, n, w, rfl, _⟩ := h
    rfl
  · obtain ⟨P, n, w, rfl, hP, hn, hl, q⟩ := h
    have hu := hr.units
    refine ⟨_, (pss_cons (ps_par (i := 3) (j := 4) rfl sc_law_spoiled.nd rfl rfl (by decide) rfl rfl (pa_cons (pe_c0 d_law_other_draw hr (by decide) (pa_cons (pv 0) (pa_cons (pe_op op_addA (pe_callB (id := "len") (call_lenB (K := K)) (by rfl) T.b_len PySem.boot_len (pa_cons (pv 1) pa_nil)) pe_int) pa_nil))) (pa_cons (pe_c0 d_law_other_pick hr (by decide) (pa_cons (pv 0) (pa_cons (pe_lst (pa_cons (pe_S (w := [65]) (by decide +kernel)) (pa_cons (pe_S (w := [97]) (by decide +kernel)) (pa_cons (pe_S (w := [66]) (by decide +kernel)) (pa_cons (pe_S (w := [100]) (by decide +kernel)) (pa_cons (pe_S (w := [32]) (by decide +kernel)) (pa_cons (pe_S (w := [45]) (by decide +kernel)) (pa_cons (pe_S (w := [69]) (by decide +kernel)) (pa_cons (pe_S (w := [49]) (by decide +kernel)) (pa_cons (pe_S (w := [32, 32]) (by decide +kernel)) (pa_cons (pe_S (w := [46]) (by decide +kernel)) (pa_cons (pe_S (w := [45, 32]) (by decide +kernel)) (pa_cons (pe_S (w := [10]) (by decide +kernel)) (pa_cons (pe_S (w := [9]) (by decide +kernel)) pa_nil)))))))))))))) pa_nil))) pa_nil)) rfl)
      (pss_cons (ps_asg (pe_c0 d_law_other_draw hr (by decide) (pa_cons (pv 0) (pa_cons pe_int pa_nil))) (pg_name (i := 2) sc_law_spoiled.nd rfl (Or.inl rfl)))
      (pss_cons (ps_if (pt_cmpR (op_eqK (K := K) hu) (pv 2) pe_int (nomark _))
      (pss_one (ps_ret (pe_op op_addA (pe_op op_addA (pe_slice (sl_anyK (K := K)) (pv 1) po_none (po_some (pv 3))) (pv 4)) (pe_slice (sl_anyK (K := K)) (pv 1) (po_some (pv 3)) po_none))))
      pss_nil)
      (pss_cons (ps_if (pt_cmpR (op_eqK (K := K) hu) (pv 2) pe_int (nomark _))
      (pss_one (ps_ret (pe_op op_addA (pe_op op_addA (pe_slice (sl_anyK (K := K)) (pv 1) po_none (po_some (pv 3))) (pv 4)) (pe_slice (sl_anyK (K := K)) (pv 1) (po_some (pe_op op_addA (pv 3) pe_int)) po_none))))
      pss_nil)
      (pss_cons (ps_if (pt_cmpR (op_eqK (K := K) hu) (pv 2) pe_int (nomark _))
      (pss_one (ps_ret (pe_op op_addA (pe_slice (sl_anyK (K := K)) (pv 1) po_none (po_some (pv 3))) (pe_slice (sl_anyK (K := K)) (pv 1) (po_some (pe_op op_addA (pv 3) pe_int)) po_none))))
      pss_nil)
      (pss_one (ps_ret (pe_ifExp (pt_cmpR (op_eqK (K := K) hu) (pv 2) pe_int (nomark _)) (pe_op op_addA (pe_op op_addA (pv 1) (pe_S (w := [32]) (by decide +kernel))) (pe_c0 d_law_other_pick hr (by decide) (pa_cons (pv 0) (pa_cons (pe_lst (pa_cons (pe_S (w := [45]) (by decide +kernel)) (pa_cons (pe_S (w := [65]) (by decide +kernel)) (pa_cons (pe_S (w := []) (by decide +kernel)) (pa_cons (pe_S (w := [69]) (by decide +kernel)) pa_nil))))) pa_nil)))) (pe_op op_addA (pv 4) (pv 1)))))))))), ?_⟩
    walk_at "go"
    refine q_lenS (by omega) ?_
    walk_at "go"
    refine ⟨P, n, _, rfl, hP, by omega, by omega, by omega, fun a H1 ha0 ha1 k1 hP1 => ?_⟩
    obtain ⟨a, rfl⟩ := Int.eq_ofNat_of_zero_le ha0
    walk_at "go"
    refine r_sz (by decide) fun e1 he1 => ?_
    generalize hks : [V.str (S [65]), _, _, _, _, _, _, _, _, _, _, _, _] = ks
    have s2 := same_upd (o := .lst ks) he1
    refine q_pickL_law_other_pick (K := K) (D := D) (hP1.same s2) (by omega) upd_same (hP1.ne_new he1).1.symm (by rw [← hks]; simp) (by rw [← hks]; simp) fun j x H2 hx k2 hP2 => ?_
    have k2 := k1.trans ((KeepB.of_same s2).trans k2)
    obtain ⟨g, rfl, hg⟩ : ∃ g : List Nat, x = .str (S g) ∧ g.length ≤ 2 := by
      rw [← hks] at hx
      match j, hx with
      | 0, hx => cases hx; exact ⟨_, rfl, by decide⟩
      | 1, hx => cases hx; exact ⟨_, rfl, by decide⟩
      | 2, hx => cases hx; exact ⟨_, rfl, by decide⟩
      | 3, hx => cases hx; exact ⟨_, rfl, by decide⟩
      | 4, hx => cases hx; exact ⟨_, rfl, by decide⟩
      | 5, hx => cases hx; exact ⟨_, rfl, by decide⟩
      | 6, hx => cases hx; exact ⟨_, rfl, by decide⟩
      | 7, hx => cases hx; exact ⟨_, rfl, by decide⟩
      | 8, hx => cases hx; exact ⟨_, rfl, by decide⟩
      | 9, hx => cases hx; exact ⟨_, rfl, by decide⟩
      | 10, hx => cases hx; exact ⟨_, rfl, by decide⟩
      | 11, hx => cases hx; exact ⟨_, rfl, by decide⟩
      | 12, hx => cases hx; exact ⟨_, rfl, by decide⟩
      | j + 13, hx => cases hx
    clear hks hx
    walk_at "go"
    refine ⟨P, _, 5, rfl, hP2, by omega, by decide, by decide, fun d H3 hd0 hd1 k3 hP3 => ?_⟩
    have k3 := k2.trans k3
    have fin : ∀ z : List Nat, z.length ≤ 110 → Q (.str (S z)) H3 := fun z hz => q z H3 hz k3 (hP3.mono (by omega))
    have e1 : ((a : Nat) : Int) + 1 = ((a + 1 : Nat) : Int) := by omega
    walk_at "go"
    refine r_ib (fun e => ?_) (fun e => ?_)
    · walk_at "go"
      refine r_slS (cut_to w a) (by omega) ?_
      walk_at "go"
      refine r_addS (by simp; omega) ?_
      walk_at "go"
      refine r_slS (cut_from w a) (by omega) ?_
      refine r_addS (by simp; omega) ?_
      exact fin _ (by simp; omega)
    · walk_at "go"
      refine r_ib (fun e => ?_) (fun e => ?_)
      · walk_at "go"
        refine r_slS (cut_to w a) (by omega) ?_
        walk_at "go"
        refine r_addS (by simp; omega) ?_
        walk_at "go"
        refine r_slS (cut_fromN w e1) (by omega) ?_
        refine r_addS (by simp; omega) ?_
        exact fin _ (by simp; omega)
      · walk_at "go"
        refine r_ib (fun e => ?_) (fun e => ?_)
        · walk_at "go"
          refine r_slS (cut_to w a) (by omega) ?_
          walk_at "go"
          refine r_slS (cut_fromN w e1) (by omega) ?_
          refine r_addS (by simp; omega) ?_
          exact fin _ (by simp; omega)
        · walk_at "go"
          refine r_ib (fun e => ?_) (fun e => ?_)
          · walk_at "go"
            refine r_addS (by show w.length + 1 ≤ 1000000; omega) ?_
            walk_at "go"
            refine r_sz (by decide) fun e2 he2 => ?_
            generalize hks : [V.str (S [45]), _, _, _] = ks
            have s4 := same_upd (o := .lst ks) he2
            refine q_pickL_law_other_pick (K := K) (D := D) (hP3.same s4) (by omega) upd_same (hP3.ne_new he2).1.symm (by rw [← hks]; simp) (by rw [← hks]; simp) fun j x H5 hx k5 hP5 => ?_
            have k5 := k3.trans ((KeepB.of_same s4).trans k5)
            obtain ⟨g, rfl, hg⟩ : ∃ g : List Nat, x = .str (S g) ∧ g.length ≤ 2 := by
              rw [← hks] at hx
              match j, hx with
              | 0, hx => cases hx; exact ⟨_, rfl, by decide⟩
              | 1, hx => cases hx; exact ⟨_, rfl, by decide⟩
              | 2, hx => cases hx; exact ⟨_, rfl, by decide⟩
              | 3, hx => cases hx; exact ⟨_, rfl, by decide⟩
              | j + 4, hx => cases hx
            refine r_addS (by simp; omega) ?_
            exact q _ H5 (by simp; omega) k5 (hP5.mono (by omega))
          · walk_at "go"
            refine r_addS (by omega) ?_
            exact fin _ (by simp; omega)
theorem rd_str {w z : List Nat} (h : rd w = .ok z) : (if z = [] then [45] else z) = w := by
  obtain ⟨p, r, e, hp, h1⟩ := spl_cons w
  unfold rd at h
  rw [e] at h
  simp only at h
  by_cases hp1 : p = [45]
  · rw [if_pos hp1] at h
    by_cases hr : r = []
    · rw [if_pos hr] at h
      have hz : z = [] := by cases h; rfl
      rw [if_pos hz, ← hp1, h1 hr]
    · rw [if_neg hr] at h; cases h
  · rw [if_neg hp1] at h
    by_cases h2 : p ≠ [] ∧ gd [] p = true ∧ p.length ≤ 4000
    · rw [if_pos h2] at h
      by_cases hr : r = []
      · rw [if_pos hr] at h
        have hz : z = p := by cases h; rfl
        rw [hz, if_neg h2.1, h1 hr]
      · rw [if_neg hr] at h; cases h
    · rw [if_neg h2] at h; cases h
theorem rd_len {w z : List Nat} (h : rd w = .ok z) : z.length ≤ w.length := by
  have e := rd_str h
  by_cases hz : z = []
  · rw [hz]; simp
  · rw [if_neg hz] at e; rw [e]; exact Nat.le_refl _
theorem rd_good {w : List Nat} (h : Good w) (hn : w ≠ []) (hl : w.length ≤ 4000) : rd w = .ok w := by
  have h32 : 32 ∉ w := fun z => by have := good_L h 32 z; revert this; decide
  have h45 : w ≠ [45] := fun z => by have := good_L h 45 (by rw [z]; simp); revert this; decide
  unfold rd
  rw [spl_free h32]
  simp only
  rw [if_neg h45, if_pos ⟨hn, good_gd.mp h, hl⟩]
  rfl
theorem rd_dash : rd [45] = .ok [] := by
  unfold rd
  rw [spl_free (by decide)]
  rfl
theorem rd_long {w : List Nat} (h : AllL w) (hl : 4000 < w.length) : rd w = .error 0 := by
  have h32 : 32 ∉ w := fun z => by have := h 32 z; revert this; decide
  have h45 : w ≠ [45] := fun z => by rw [z] at hl; simp at hl
  unfold rd
  rw [spl_free h32]
  simp only
  rw [if_neg h45, if_neg (fun z => by omega)]
theorem str_t {H : Hp} {w : List Nat} : IsK K H (.str (S w)) (.type "str") true := isK ty_str (kit_ty (by decide +kernel))
theorem q_read {E : XK} {H : Hp} {Q : VK} {w : List Nat} (hl : w.length ≤ 100000) (h0 : ∀ i, rd w = .error i → ∀ H', Same H H' → Rse E H' D.BadText [("item", .int (i : Nat))]) (h1 : ∀ z, rd w = .ok z → ∀ p H', Same H H' → WAt D H' p z → Q (.ref p) H') : sp_Word_read K D [.str (S w)] H Q E :=
  ⟨_, true, rfl, str_t, (fun e => nomatch e), fun _ => ⟨w, rfl, hl, h0, fun z hz p H' s _ hw => h1 z hz p H' s hw⟩⟩
abbrev st_law_text_right : Stmt := top 49
theorem sc_law_text_right : FnScope ["text", "word", "due", "caught"] ["text"] (defScope st_law_text_right) := ⟨rfl, rfl, rfl, by decide +kernel, rfl, by decide +kernel, by decide +kernel⟩
def sp_law_text_right (K : PySem.W.Frag) (D : Ad) (Tb : List (Addr × Str)) : Sp := fun vs H Q _ => ∃ w, vs = [.str (S w)] ∧ w.length ≤ 4000 ∧ Tabs Tb H ∧ ∀ H', ExtN H H' → Tabs Tb H' → Q (.bl true) H'
theorem ok_law_text_right {f : Addr} {fd : FuncData} {Tb : List (Addr × Str)} {c : Addr} (F : FunL K "_law_text_right" "_law_text_right" st_law_text_right f fd c) (T : Txt P w K mg base D) (d_law_due : CalN P w K mg base 2 "_law_due" (sp_law_due K D)) (lh : HeardAt K mg st__law_heard0) (lm_law_text_right : MakerAt base mg Tb c ((("_law_text_right" : Str) ++ ".<locals>.") ++ "<lambda>")) (os_Word : OwnF P w K mg base 1 D.Word "__str__" (sp_Word_str K D)) (s_Word_read : StaX P w K mg base (L2.CX P w) 5 D.Word "read" (sp_Word_read K D)) (sk_Word_read_text : StaK P w K mg base (L2.CX P w) 5 D.Word "read" ["text"] (sp_Word_read K D)) : FnOk P w K mg base CX0 8 f fd ["text"] (sp_law_text_right K D Tb) := by
  refine F.ok sc_law_text_right (fun vs H Q E h => ?_) (fun A outer s H vs Q E hr h => ?_)
  · obtain ⟨w, rfl, _⟩ := h
    rfl
  · obtain ⟨w, rfl, hl, hT, q⟩ := h
    have hu := hr.units
    refine ⟨_, (pss_cons (ps_par (i := 2) (j := 3) rfl sc_law_text_right.nd rfl rfl (by decide) rfl rfl (pa_cons (pe_c0 d_law_due hr (by decide) (pa_cons (pv 0) pa_nil)) (pa_cons (pe_heard (K := K) (k := 5) lh (fun X g cdv q hm => heard_gives hm rfl rfl rfl rfl) T.c_BallError sc__law_heard0 (.inl rfl) lm_law_text_right hr (by decide) (fun A outer s H E f c hr => (pe_sta s_Word_read (pe_glob (v := .ref D.Word) rfl T.c_Word rfl) hr (by decide) (passes_call (takes_of rfl rfl rfl rfl) fun _ _ _ _ h => h) (pa_cons (pv 0) pa_nil))) (lamS_by (sc := defScope st_law_text_right) (by decide +kernel))) pa_nil)) rfl)
      (pss_cons (ps_if (pt_val (pe_callB (id := "isinstance") (call_isiEK (K := K)) (by rfl) T.b_isinstance (by decide +kernel) (pa_cons (pv 2) (pa_cons (pe_bltn (v := .ty "int") rfl T.b_int (by decide +kernel) rfl) pa_nil))))
      (pss_one (ps_ret (pe_and (pe_callB (id := "isinstance") (call_isiEK (K := K)) (by rfl) T.b_isinstance (by decide +kernel) (pa_cons (pv 3) (pa_cons (pe_glob (v := .ref D.BadText) rfl T.c_BadText rfl) pa_nil))) (pe_and (pe_cmpR (op_eqK (K := K) hu) (pe_attrK (K := K) (pv 3)) (pv 2) (nomark _)) (pe_and (pe_cmpR op_notBI (pe_attrK (K := K) (pv 3)) pe_bl (nomark _)) (pe_one (pe_cmpR op_notBI (pe_attrK (K := K) (pv 3)) pe_bl (nomark _))))))))
      pss_nil)
      (pss_cons (ps_if (pt_cmpR op_notNo (pv 3) pe_non (nomark _))
      (pss_one (ps_ret pe_bl))
      pss_nil)
      (pss_cons (ps_asg (pe_staK sk_Word_read_text (pe_glob (v := .ref D.Word) rfl T.c_Word rfl) hr (by decide) passL (pk_cons (pv 0) pk_nil)) (pg_name (i := 1) sc_law_text_right.nd rfl (Or.inl rfl)))
      (pss_one (ps_ret (pe_and (pe_callB (id := "isinstance") (call_isiEK (K := K)) (by rfl) T.b_isinstance (by decide +kernel) (pa_cons (pv 1) (pa_cons (pe_glob (v := .ref D.Word) rfl T.c_Word rfl) pa_nil))) (pe_and (pe_cmpR (op_eqK (K := K) hu) (pe_attrK (K := K) (pv 1)) (pv 2) (nomark _)) (pe_one (pe_cmpR (op_eqK (K := K) hu) (pe_callTy (T := "str") (call_strO os_Word hr (by decide)) (by rfl) T.b_str (by decide +kernel) (pa_cons (pv 1) pa_nil)) (pv 0) (nomark _))))))))))), ?_⟩
    cases hr : rd w with
    | error i =>
      walk_at "gp"
      refine ⟨w, rfl, by omega, fun H1 s1 => ?_⟩
      rw [du_rd hl, hr, dueV_err]
      walk_at "gp"
      refine r_lamH (tabs_same hT s1) fun H2 e2 T2 => ?_
      have e2 := (extN_same s1).trans e2
      walk_at "gp"
      refine q_read (by omega) (fun k hk H3 s3 => ?_) (fun z hz => by rw [hr] at hz; cases hz)
      rw [hr] at hk
      cases hk
      refine heardE T.ex_BadText_BallError fun a4 dd4 H4 s4 ha4 hd4 => ?_
      have e4 : ErrAt H4 a4 D.BadText [("item", .int (i : Nat))] := ⟨dd4, ha4, hd4⟩
      have x4 := e2.trans (extN_same (s3.trans s4))
      have T4 := tabs_same T2 (s3.trans s4)
      have fin : Q (.bl true) H4 := q H4 x4 T4
      have item : ∀ {Q : VK}, Q (.int (i : Nat)) H4 → rAttr K "item" (.ref a4) H4 Q := fun q => err_at e4 T.xf_BadText_item rfl q
      walk_at "go"
      refine r_isK (.ty "int") int_t ?_
      walk_at "go"
      refine r_isK (.own D.BadText) (err_isK e4 T.xi_BadText) ?_
      walk_at "go"
      refine item ?_
      walk_at "go"
      refine r_it (decide_eq_true rfl) ?_
      walk_at "go"
      refine item ?_
      walk_at "go"
      refine item ?_
      walk_at "go"
      exact fin
    | ok z =>
      have hzl := rd_len hr
      have hzs := rd_str hr
      walk_at "gp"
      refine ⟨w, rfl, by omega, fun H1 s1 => ?_⟩
      rw [du_rd hl, hr, dueV_ok]
      walk_at "gp"
      refine r_lamH (tabs_same hT s1) fun H2 e2 T2 => ?_
      have e2 := (extN_same s1).trans e2
      walk_at "gp"
      refine q_read (by omega) (fun k hk => by rw [hr] at hk; cases hk) fun z' hz' p3 H3 s3 w3 => ?_
      have x3 := e2.trans (extN_same s3)
      have T3 := tabs_same T2 s3
      walk_at "go"
      refine r_isK (.ty "int") (b := false) (isK ty_str (kit_ty (by decide +kernel))) ?_
      walk_at "go"
      refine r_ie (by simp) ?_
      walk_at "go"
      refine ⟨rfl, q_read (by omega) (fun k hk => by rw [hr] at hk; cases hk) fun z4 hz4 p4 H4 s4 w4 => ?_⟩
      rw [hr] at hz4
      cases hz4
      have fin : Q (.bl true) H4 := q H4 (x3.trans (extN_same s4)) (tabs_same T3 s4)
      walk_at "go"
      refine r_isK (.own D.Word) (isWA T w4) ?_
      walk_at "go"
      refine q_lettersW T w4 ?_
      walk_at "go"
      refine r_it (decide_eq_true rfl) ?_
      walk_at "go"
      obtain ⟨dx4, w4'⟩ := w4
      refine q_strO w4' ⟨p4, z, rfl, ⟨dx4, w4'⟩, ⟨_, rfl, ?_⟩⟩
      walk_at "go"
      rw [hzs, decide_eq_true rfl]
      exact fin
abbrev st_law_long_right : Stmt := top 50
theorem sc_law_long_right : FnScope ["text", "caught"] ["text"] (defScope st_law_long_right) := ⟨rfl, rfl, rfl, by decide +kernel, rfl, by decide +kernel, by decide +kernel⟩
def sp_law_long_right (K : PySem.W.Frag) (D : Ad) (Tb : List (Addr × Str)) : Sp := fun vs H Q _ => ∃ w, vs = [.str (S w)] ∧ Good w ∧ w ≠ [] ∧ w.length ≤ 10000 ∧ Tabs Tb H ∧ ∀ H', ExtN H H' → Tabs Tb H' → Q (.bl true) H'
theorem ok_law_long_right {f : Addr} {fd : FuncData} {Tb : List (Addr × Str)} {c : Addr} (F : FunL K "_law_long_right" "_law_long_right" st_law_long_right f fd c) (T : Txt P w K mg base D) (lh : HeardAt K mg st__law_heard0) (lm_law_long_right : MakerAt base mg Tb c ((("_law_long_right" : Str) ++ ".<locals>.") ++ "<lambda>")) (s_Word_read : StaX P w K mg base (L2.CX P w) 5 D.Word "read" (sp_Word_read K D)) : FnOk P w K mg base CX0 8 f fd ["text"] (sp_law_long_right K D Tb) := by
  refine F.ok sc_law_long_right (fun vs H Q E h => ?_) (fun A outer s H vs Q E hr h => ?_)
  · obtain ⟨w, rfl, _⟩ := h
    rfl
  · obtain ⟨w, rfl, hg, hne, hl, hT, q⟩ := h
    have hu := hr.units
    refine ⟨_, (pss_cons (ps_asg (pe_heard (K := K) (k := 5) lh (fun X g cdv q hm => heard_gives hm rfl rfl rfl rfl) T.c_BallError sc__law_heard0 (.inl rfl) lm_law_long_right hr (by decide) (fun A outer s H E f c hr => (pe_sta s_Word_read (pe_glob (v := .ref D.Word) rfl T.c_Word rfl) hr (by decide) (passes_call (takes_of rfl rfl rfl rfl) fun _ _ _ _ h => h) (pa_cons (pv 0) pa_nil))) (lamS_by (sc := defScope st_law_long_right) (by decide +kernel))) (pg_name (i := 1) sc_law_long_right.nd rfl (Or.inl rfl)))
      (pss_cons (ps_if (pt_cmpR op_gt (pe_callB (id := "len") (call_lenB (K := K)) (by rfl) T.b_len PySem.boot_len (pa_cons (pv 0) pa_nil)) pe_int (nomark _))
      (pss_one (ps_ret (pe_and (pe_callB (id := "isinstance") (call_isiEK (K := K)) (by rfl) T.b_isinstance (by decide +kernel) (pa_cons (pv 1) (pa_cons (pe_glob (v := .ref D.BadText) rfl T.c_BadText rfl) pa_nil))) (pe_one (pe_cmpR (op_eqK (K := K) hu) (pe_attrK (K := K) (pv 1)) pe_int (nomark _))))))
      pss_nil)
      (pss_one (ps_ret (pe_and (pe_cmpR op_isNo (pv 1) pe_non (nomark _)) (pe_one (pe_cmpR (op_eqK (K := K) hu) (pe_attrK (K := K) (pe_sta s_Word_read (pe_glob (v := .ref D.Word) rfl T.c_Word rfl) hr (by decide) passL (pa_cons (pv 0) pa_nil))) (pv 0) (nomark _)))))))), ?_⟩
    have hL := good_L hg
    by_cases h4 : 4000 < w.length
    · have hr := rd_long hL h4
      walk_at "gp"
      refine r_lamH hT fun H2 e2 T2 => ?_
      walk_at "gp"
      refine q_read (by omega) (fun k hk H3 s3 => ?_) (fun z hz => by rw [hr] at hz; cases hz)
      rw [hr] at hk
      cases hk
      refine heardE T.ex_BadText_BallError fun a4 dd4 H4 s4 ha4 hd4 => ?_
      have e4 : ErrAt H4 a4 D.BadText [("item", .int (0 : Nat))] := ⟨dd4, ha4, hd4⟩
      have fin : Q (.bl true) H4 := q H4 (e2.trans (extN_same (s3.trans s4))) (tabs_same T2 (s3.trans s4))
      walk_at "go"
      refine q_lenS (by omega) ?_
      walk_at "go"
      refine r_it (decide_eq_true (by omega)) ?_
      walk_at "go"
      refine r_isK (.own D.BadText) (err_isK e4 T.xi_BadText) ?_
      walk_at "go"
      refine err_at e4 T.xf_BadText_item rfl ?_
      walk_at "go"
      exact fin
    · have hr := rd_good hg hne (by omega)
      walk_at "gp"
      refine r_lamH hT fun H2 e2 T2 => ?_
      walk_at "gp"
      refine q_read (by omega) (fun k hk => by rw [hr] at hk; cases hk) fun z' hz' p3 H3 s3 w3 => ?_
      have x3 := e2.trans (extN_same s3)
      have T3 := tabs_same T2 s3
      walk_at "go"
      refine q_lenS (by omega) ?_
      walk_at "go"
      refine r_ie (decide_eq_false (by omega)) ?_
      walk_at "go"
      refine r_it (decide_eq_true rfl) ?_
      walk_at "go"
      refine q_read (by omega) (fun k hk => by rw [hr] at hk; cases hk) fun z4 hz4 p4 H4 s4 w4 => ?_
      rw [hr] at hz4
      cases hz4
      have fin : Q (.bl true) H4 := q H4 (x3.trans (extN_same s4)) (tabs_same T3 s4)
      walk_at "go"
      refine q_lettersW T w4 ?_
      walk_at "go"
      rw [decide_eq_true rfl]
      exact fin
end
end Cs


set_option Elab.async false
set_option linter.all false
set_option maxRecDepth 100000
set_option maxHeartbeats 4000000
namespace Cs
open PySem PySem.Spec PyProof.Rows L2 LamX
local macro_rules | `(tactic| walk_at "two") => `(tactic| with_reducible (first
  | refine r_seq ?_ | refine r_nx ?_ | refine r_rt ?_ | refine r_ct ?_ | refine r_bk ?_ | refine r_asg ?_ | refine r_gname ?_ | refine r_ret ?_ | refine r_drop ?_ | refine r_next ?_ | refine r_retN ?_ | refine r_fld ?_ | refine r_gsub ?_ | refine r_brk ?_ | refine r_cont ?_
  | refine r_var rfl ?_ | refine r_c ?_ | refine r_op ?_ | refine r_un ?_ | refine r_test ?_ | refine r_tB ?_ | refine r_bl ?_ | refine r_blv ?_
  | refine r_cons ?_ | refine r_nil ?_ | refine r_lc ?_ | refine r_yes ?_ | refine r_iLT0 ?_ | refine r_iEnumS ?_ | refine r_iEnum ?_ | refine r_iStr ?_ | refine r_iList ?_ | refine r_iRng ?_ | refine r_iRng2 ?_ | refine r_iRng3 ?_ | refine r_iStrS ?_ | refine r_iStrE ?_ | refine r_cb ?_ | refine r_call0 ?_ | refine r_callS ?_ | refine r_callK ?_ | refine r_tup ?_ | refine r_lst ?_ | refine r_make0 ?_ | refine r_attr ?_
  | refine r_sl ?_ | refine r_nopart ?_ | refine r_part ?_ | refine r_parti ?_ | refine r_tyS ?_ | refine r_bm0 ?_ | refine r_bm ?_ | refine r_dnew ?_
  | refine r_and ?_ | refine r_or ?_ | refine r_not ?_ | refine r_andV ?_ | refine r_orV ?_ | refine r_notV ?_ | refine r_if ?_ | refine r_ift ?_ | refine r_iff ?_ | refine r_revL ?_ | refine r_ntt ?_ | refine r_nff ?_ | refine r_itup ?_ | refine r_chain ?_
  | refine r_I0 ?_ | refine r_U ?_ | refine r_addI ?_ | refine r_eqI ?_ | refine r_neI ?_ | refine r_eqS ?_ | refine r_neS ?_ | refine r_eqB ?_ | refine r_neB ?_ | refine r_inS ?_ | refine r_niS ?_ | refine r_int1 ?_ | refine r_abs ?_ | refine r_isN ?_ | refine r_notN ?_
  | refine r_intB ?_ | refine r_max ?_ | refine r_strS ?_ | refine r_isB ?_ | refine r_notB ?_ | refine r_notBI ?_ | refine r_revS ?_ | refine r_sta ?_ | refine r_metA ?_ | refine r_mK1 ?_ | refine r_mD ?_ | refine r_iOwn ?_ | refine r_aug rfl ?_ | refine r_ipI ?_ | refine r_par ?_ | refine r_vw ?_))
local macro_rules | `(tactic| walk_at "one") => `(tactic| first | walk_at "two" | with_reducible (first | refine r_ifs ?_ | refine r_forE ?_))
local macro_rules | `(tactic| walk_at "go") => `(tactic| repeat walk_at "one")
local macro_rules | `(tactic| walk_at "gp") => `(tactic| repeat walk_at "two")

section
variable {P : Program} {w : World} {K : PySem.W.Frag} {mg : Str → Option Value} {base : Heap} {D : Ad}

open Rp
theorem bv_mem {H : Hp} {y : V} {t : String} (h : BV H y t) : t ∈ ["NoneType", "int", "bool", "str", "list", "tuple"] := by
  cases h <;> decide
theorem bv_kit (T : Txt P w K mg base D) {H : Hp} {y : V} {t : String} (h : BV H y t) : PySem.W.kitOne K (.type t) (.ref D.Word) = some false := by
  cases h
  · exact T.k_NoneType_Word
  · exact T.k_int_Word
  · exact T.k_bool_Word
  · exact T.k_str_Word
  · exact T.k_list_Word
  · exact T.k_tuple_Word
/-- what the law hands in for a word or a number -/
inductive Odd (H : Hp) : V → Prop
  | non : Odd H .non
  | one : Odd H (.str (S [49]))
  | tru : Odd H (.bl true)
  | nil {a : Addr} (h : H a = some (.lst [])) : Odd H (.ref a)
  | let : Odd H (.str (S [65]))
  | zero : Odd H (.int 0)
theorem odd_ext {H H' : Hp} {y : V} (e : ExtN H H') (h : Odd H y) : Odd H' y := by
  cases h with
  | non => exact .non
  | one => exact .one
  | tru => exact .tru
  | nil h => exact .nil (e _ _ h (fun ps z => by cases z))
  | «let» => exact .let
  | zero => exact .zero
theorem odd_bv {H : Hp} {y : V} (h : Odd H y) : ∃ t, BV H y t := by
  cases h with
  | non => exact ⟨_, .non⟩
  | one => exact ⟨_, .str _⟩
  | tru => exact ⟨_, .bl _⟩
  | nil h => exact ⟨_, .lst h⟩
  | «let» => exact ⟨_, .str _⟩
  | zero => exact ⟨_, .int _⟩
theorem odd_no (T : Txt P w K mg base D) {H : Hp} {y : V} (h : Odd H y) : IsK K H y (.ref D.Word) false := by
  obtain ⟨t, bv⟩ := odd_bv h
  exact isK bv.ty (bv_kit T bv)
/-- it is the number 0, or no number -/
theorem odd_case {H : Hp} {y : V} (h : Odd H y) : y = .int 0 ∨ (∃ b1 b2, IsK K H y (.type "int") b1 ∧ IsK K H y (.type "bool") b2 ∧ (b1 && !b2) = false ∧ ∃ d, Dp K H y d ∧ SeqAt.shaped d = true ∧ PyData.eqv d (.int 0) = false) := by
  cases h with
  | non => exact .inr ⟨false, false, isK ty_non (kit_ty (by decide +kernel)), isK ty_non (kit_ty (by decide +kernel)), rfl, _, .non, by decide +kernel, by decide +kernel⟩
  | one => exact .inr ⟨false, false, isK ty_str (kit_ty (by decide +kernel)), isK ty_str (kit_ty (by decide +kernel)), rfl, _, .str _, by decide +kernel, by decide +kernel⟩
  | tru => exact .inr ⟨true, true, isK ty_bl (kit_ty (by decide +kernel)), isK ty_bl (kit_ty (by decide +kernel)), rfl, _, .bl _, by decide +kernel, by decide +kernel⟩
  | nil h => exact .inr ⟨false, false, isK (ty_lst h) (kit_ty (by decide +kernel)), isK (ty_lst h) (kit_ty (by decide +kernel)), rfl, _, .lst (SqL.of h) .nil, by decide +kernel, by decide +kernel⟩
  | «let» => exact .inr ⟨false, false, isK ty_str (kit_ty (by decide +kernel)), isK ty_str (kit_ty (by decide +kernel)), rfl, _, .str _, by decide +kernel, by decide +kernel⟩
  | zero => exact .inl rfl
theorem r_neB2 {H : Hp} {Q : VK} {a b : Addr} (h1 : H a = some (.lst [.bl true, .bl true])) (h2 : H b = some (.lst [.bl true, .bl true])) (q : Q (.bl false) H) : rNeA K (.ref a) (.ref b) H Q := by
  refine r_neD (d := .list [.bool true, .bool true]) (e := .list [.bool true, .bool true]) (.lst (SqL.of h1) (.cons (.bl _) (.cons (.bl _) .nil))) (.lst (SqL.of h2) (.cons (.bl _) (.cons (.bl _) .nil))) (by decide +kernel) (by decide +kernel) ?_
  have e : PyData.eqv (.list [.bool true, .bool true]) (.list [.bool true, .bool true]) = true := by decide +kernel
  rw [e]
  exact q
theorem most_over {c m : Nat} {n : Int} (hm : 0 < m) (h : (4000 - 2 * c) / m < n.natAbs) (hc : 2 * c ≤ 4000) : 4000 < 2 * c + n.natAbs * m := by
  have h1 := (Nat.div_lt_iff_lt_mul hm).mp h
  omega
abbrev st_law_refused_right : Stmt := top 42
theorem sc_law_refused_right : FnScope ["pen", "row", "caught", "most", "many", "word", "odd", "coat", "core", "refused", "one"] ["pen", "row"] (defScope st_law_refused_right) := ⟨rfl, rfl, rfl, by decide +kernel, rfl, by decide +kernel, by decide +kernel⟩
def sp_law_refused_right (K : PySem.W.Frag) (D : Ad) (Tb : List (Addr × Str)) : Sp := fun vs H Q _ => ∃ (P : Pen) (n : Nat) (u : List Nat), vs = [.ref P.p, .str (S u)] ∧ PenAt P n H ∧ n ≤ 80000 ∧ Tabs Tb H ∧ Good u ∧ u.length ≤ 5 ∧ ∀ H', LK P Tb H (n + 2) H' → Q (.bl true) H'
theorem ok_law_refused_right {f : Addr} {fd : FuncData} {Tb : List (Addr × Str)} {c : Addr} (F : FunL K "_law_refused_right" "_law_refused_right" st_law_refused_right f fd c) (T : Txt P w K mg base D) (d_commute : CalX P w K mg base 2 "commute" (sp_commute K D)) (d_law_draw : CalN P w K mg base 1 "_law_draw" (sp_law_draw K D)) (d_law_peeled : CalN P w K mg base 2 "_law_peeled" (sp_law_peeled K D)) (d_law_pick : CalN P w K mg base 2 "_law_pick" (sp_law_pick K D)) (lh : HeardAt K mg st__law_heard0) (lm_law_refused_right : MakerAt base mg Tb c ((("_law_refused_right" : Str) ++ ".<locals>.") ++ "<lambda>")) (m_Word : MakX P w K mg base 2 "Word" D.Word (sp_Word_init K D)) (me_Word_power : MetA P w K mg base (L2.CX P w) 4 D.Word "power" (sp_Word_power K D)) (ol_Word : OwnF P w K mg base 1 D.Word "__len__" (sp_Word_len K D)) : FnOk P w K mg base CX0 7 f fd ["pen", "row"] (sp_law_refused_right K D Tb) := by
  refine F.ok sc_law_refused_right (fun vs H Q E h => ?_) (fun A outer s H vs Q E hr h => ?_)
  · obtain ⟨P, n, u, rfl, _⟩ := h
    rfl
  · obtain ⟨P, n, row, rfl, hP, hn, hT, hgr, hlr, q⟩ := h
    have hu := hr.units
    refine ⟨_, (pss_cons (ps_asg (pe_tup (pa_cons (pe_mX m_Word hr (by decide) passL (pa_cons (pe_ifExp (pt_cmpR (op_neK (K := K) hu) (pe_slice (sl_anyK (K := K)) (pv 1) (po_some (pe_un un_neg pe_int)) po_none) (pe_S (w := [97]) (by decide +kernel)) (nomark _)) (pe_op op_addA (pv 1) (pe_S (w := [65]) (by decide +kernel))) (pv 1)) pa_nil)) (pa_cons (pe_c0 d_law_pick hr (by decide) (pa_cons (pv 0) (pa_cons (pe_lst (pa_cons pe_non (pa_cons (pe_S (w := [49]) (by decide +kernel)) (pa_cons pe_bl (pa_cons (pe_lst pa_nil) (pa_cons (pe_S (w := [65]) (by decide +kernel)) (pa_cons pe_int pa_nil))))))) pa_nil))) pa_nil))) (pg_tup (by rfl) (pgs_cons (pg_name (i := 5) sc_law_refused_right.nd rfl (Or.inr rfl)) (pgs_cons (pg_name (i := 6) sc_law_refused_right.nd rfl (Or.inr rfl)) pgs_nil))))
      (pss_cons (ps_asg (pe_c0 d_law_peeled hr (by decide) (pa_cons (pe_attrK (K := K) (pv 5)) pa_nil)) (pg_tup (by rfl) (pgs_cons (pg_name (i := 7) sc_law_refused_right.nd rfl (Or.inl rfl)) (pgs_cons (pg_name (i := 8) sc_law_refused_right.nd rfl (Or.inl rfl)) pgs_nil))))
      (pss_cons (ps_asg (pe_lst (pa_cons (pe_heard (K := K) (k := 2) lh (fun X g cdv q hm => heard_gives hm rfl rfl rfl rfl) T.c_BallError sc__law_heard0 (.inl rfl) lm_law_refused_right hr (by decide) (fun A outer s H E f c hr => (pe_cX d_commute hr (by decide) (passes_call (takes_of rfl rfl rfl rfl) fun _ _ _ _ h => h) (pa_cons (pv 6) (pa_cons (pv 5) pa_nil)))) (lamS_by (sc := defScope st_law_refused_right) (by decide +kernel))) pa_nil)) (pg_name (i := 2) sc_law_refused_right.nd rfl (Or.inl rfl)))
      (pss_cons (ps_expr (pe_bmK (K := K) PySem.F.plainAttrs_list PySem.F.slot_list_append PySem.F.type_list_append mb_append (pv 2) (pa_cons (pe_heard (K := K) (k := 2) lh (fun X g cdv q hm => heard_gives hm rfl rfl rfl rfl) T.c_BallError sc__law_heard0 (.inl rfl) lm_law_refused_right hr (by decide) (fun A outer s H E f c hr => (pe_cX d_commute hr (by decide) (passes_call (takes_of rfl rfl rfl rfl) fun _ _ _ _ h => h) (pa_cons (pv 5) (pa_cons (pv 6) pa_nil)))) (lamS_by (sc := defScope st_law_refused_right) (by decide +kernel))) pa_nil)))
      (pss_cons (ps_if (pt_cmpR (op_neK (K := K) hu) (pe_lc (own := [("one", 10)]) (g := gName 10) (tt := tYes) rfl sc_law_refused_right.nd (pi_list (pv 2)) (blkOk_by (N := ["pen", "row", "caught", "most", "many", "word", "odd", "coat", "core", "refused", "one"]) (sc := defScope st_law_refused_right) (by decide +kernel)) (fun _ _ _ _ _ => (pg_name (i := 10) sc_law_refused_right.nd rfl (Or.inl rfl))) (fun _ _ _ _ _ => pts_nil) (fun _ _ _ _ _ => (pe_and (pe_callB (id := "isinstance") (call_isiEK (K := K)) (by rfl) T.b_isinstance (by decide +kernel) (pa_cons (pv 10) (pa_cons (pe_glob (v := .ref D.BadWord) rfl T.c_BadWord rfl) pa_nil))) (pe_one (pe_cmpR (op_eqK (K := K) hu) (pe_attrK (K := K) (pv 10)) pe_int (nomark _)))))) (pe_lst (pa_cons pe_bl (pa_cons pe_bl pa_nil))) (nomark _))
      (pss_one (ps_ret pe_bl))
      pss_nil)
      (pss_cons (ps_if (PW.pt (pw_or (pt_cmpR (op_neK (K := K) hu) (pv 6) pe_int (nomark _)) (pw_or1 (pt_cmpR op_isBI (pv 6) pe_bl (nomark _)))))
      (pss_cons (ps_asg (pe_heard (K := K) (k := 4) lh (fun X g cdv q hm => heard_gives hm rfl rfl rfl rfl) T.c_BallError sc__law_heard0 (.inl rfl) lm_law_refused_right hr (by decide) (fun A outer s H E f c hr => (pe_metA me_Word_power T.cl_Word (pv 5) hr (by decide) (passes_call (takes_of rfl rfl rfl rfl) fun _ _ _ _ h => h) (pa_cons (pv 6) pa_nil))) (lamS_by (sc := defScope st_law_refused_right) (by decide +kernel))) (pg_name (i := 9) sc_law_refused_right.nd rfl (Or.inl rfl)))
      (pss_one (ps_if (PW.pt (pw_or (pt_not (pt_val (pe_callB (id := "isinstance") (call_isiEK (K := K)) (by rfl) T.b_isinstance (by decide +kernel) (pa_cons (pv 9) (pa_cons (pe_glob (v := .ref D.BadNumber) rfl T.c_BadNumber rfl) pa_nil))))) (pw_or1 (pt_cmpR (op_neK (K := K) hu) (pe_attrK (K := K) (pv 9)) (pe_S (w := [109, 97, 110, 121]) (by decide +kernel)) (nomark _)))))
      (pss_one (ps_ret pe_bl))
      pss_nil)))
      pss_nil)
      (pss_cons (ps_asg (pe_op op_fdivW (pe_op op_sub pe_int (pe_op op_mulB pe_int (pe_callB (id := "len") (call_lenB (K := K)) (by rfl) T.b_len PySem.boot_len (pa_cons (pv 7) pa_nil)))) (pe_callB (id := "len") (call_lenB (K := K)) (by rfl) T.b_len PySem.boot_len (pa_cons (pv 8) pa_nil))) (pg_name (i := 3) sc_law_refused_right.nd rfl (Or.inl rfl)))
      (pss_cons (ps_for PassesOwn.never rfl (pi_list (pe_lst (pa_cons (pe_op op_addA (pv 3) pe_int) (pa_cons (pe_op op_sub (pe_op op_sub (pe_un un_neg (pv 3)) pe_int) (pe_c0 d_law_draw hr (by decide) (pa_cons (pv 0) (pa_cons (pe_op op_pow pe_int pe_int) pa_nil)))) pa_nil)))) (pg_name (i := 4) sc_law_refused_right.nd rfl (Or.inr rfl))
      (pss_cons (ps_asg (pe_heard (K := K) (k := 4) lh (fun X g cdv q hm => heard_gives hm rfl rfl rfl rfl) T.c_BallError sc__law_heard0 (.inl rfl) lm_law_refused_right hr (by decide) (fun A outer s H E f c hr => (pe_metA me_Word_power T.cl_Word (pv 5) hr (by decide) (passes_call (takes_of rfl rfl rfl rfl) fun _ _ _ _ h => h) (pa_cons (pv 4) pa_nil))) (lamS_by (sc := defScope st_law_refused_right) (by decide +kernel))) (pg_name (i := 9) sc_law_refused_right.nd rfl (Or.inl rfl)))
      (pss_one (ps_if (PW.pt (pw_or (pt_not (pt_val (pe_callB (id := "isinstance") (call_isiEK (K := K)) (by rfl) T.b_isinstance (by decide +kernel) (pa_cons (pv 9) (pa_cons (pe_glob (v := .ref D.TooMany) rfl T.c_TooMany rfl) pa_nil))))) (pw_or (pt_cmpR (op_neK (K := K) hu) (pe_attrK (K := K) (pv 9)) (pe_S (w := [108, 101, 116, 116, 101, 114, 115]) (by decide +kernel)) (nomark _)) (pw_or1 (pt_cmpR (op_neK (K := K) hu) (pe_attrK (K := K) (pv 9)) pe_int (nomark _))))))
      (pss_one (ps_ret pe_bl))
      pss_nil))))
      (pss_one (ps_ret (pe_cmpR (op_eqK (K := K) hu) (pe_callB (id := "len") (call_lenO ol_Word hr (by decide)) (by rfl) T.b_len PySem.boot_len (pa_cons (pe_metA me_Word_power T.cl_Word (pv 5) hr (by decide) passL (pa_cons (pe_un un_neg (pv 3)) pa_nil)) pa_nil)) (pe_op op_addA (pe_op op_mulB pe_int (pe_callB (id := "len") (call_lenB (K := K)) (by rfl) T.b_len PySem.boot_len (pa_cons (pv 7) pa_nil))) (pe_op op_mulB (pv 3) (pe_callB (id := "len") (call_lenB (K := K)) (by rfl) T.b_len PySem.boot_len (pa_cons (pv 8) pa_nil)))) (nomark _)))))))))))), ?_⟩
    have k0 := LK.start hP hT
    refine r_seq (r_cut (fun σ' H' => LK P Tb H (n + 1) H' ∧ ∃ p1 u y, WAt D H' p1 u ∧ Good u ∧ u ≠ [] ∧ u.length ≤ 6 ∧ Odd H' y ∧ σ' = [some (.ref P.p), some (.str (S row)), none, none, none, some (.ref p1), some y, none, none, none, none]) (fun nx hnx => ?_) ?_)
    · have tail : ∀ {u : List Nat} {p1 : Addr} {H1 : Hp} {Qz : V → Hp → Prop}, Good u → u ≠ [] → u.length ≤ 6 → WAt D H1 p1 u → LK P Tb H n H1 →
          (∀ y H', LK P Tb H (n + 1) H' → WAt D H' p1 u → Odd H' y → Qz y H') → ∀ {σ : L2.St}, σ[0]? = some (some (.ref P.p)) → (tLst (tCons (tC V.non) (tCons (tC (V.str (S [49]))) (tCons (tC (V.bl true)) (tCons (tLst tNil) (tCons (tC (V.str (S [65]))) (tCons (tC (V.int 0)) tNil)))))) σ H1 fun x H2 => sp_law_pick K D [.ref P.p, x] H2 Qz E0) := by
        intro u p1 H1 Qz gu nu lu w1 k1 fin σ hσ
        walk_at "gp"
        refine r_sz (by decide) fun d1 hd1 => ?_
        have s2 := same_upd (o := .lst []) hd1
        have f1 : upd H1 d1 (.lst []) d1 = some (.lst []) := upd_same
        generalize upd H1 d1 (.lst []) = H2 at s2 f1 ⊢
        walk_at "gp"
        refine r_sz (by simp) fun d3 hd3 => ?_
        generalize hks : [V.non, _, _, _, _, _] = ks
        have s4 := same_upd (o := .lst ks) hd3
        have f3 : upd H2 d3 (.lst ks) d3 = some (.lst ks) := upd_same
        have n3 : d3 ≠ P.p := (k1.same s2).ne hd3
        have f1 := s4 _ _ f1
        have k4 := k1.same (s2.trans s4)
        have w4 := wAt_same (s2.trans s4) w1
        generalize upd H2 d3 (.lst ks) = H4 at f1 f3 k4 w4 ⊢
        refine q_pickL_law_pick (K := K) (D := D) k4.p (by omega) f3 n3 (by rw [← hks]; simp) (by rw [← hks]; simp) fun j y H5 hy kk5 hP5 => ?_
        have k5 := k4.step kk5 hP5
        have l45 := (LK.start k4.p k4.t).step kk5 hP5
        have g5 : ∀ {d : Addr} {o : HO}, H4 d = some o → (∀ s r, o ≠ penO P s r) → (∀ ps, o ≠ .tbl ps) → H5 d = some o := fun h n1 n2 => lk_get k4.p l45 h n1 n2
        refine fin y H5 k5 (wAt_keep k4.p kk5 w4) ?_
        rw [← hks] at hy
        match j, hy with
        | 0, hy => cases hy; exact .non
        | 1, hy => cases hy; exact .one
        | 2, hy => cases hy; exact .tru
        | 3, hy => cases hy; exact .nil (g5 f1 (fun s r z => by unfold penO at z; cases z) (fun ps z => by cases z))
        | 4, hy => cases hy; exact .let
        | 5, hy => cases hy; exact .zero
        | j + 6, hy => cases hy
      walk_at "go"
      refine r_slS (cut_last row) (by omega) ?_
      walk_at "go"
      refine r_ib (fun e => ?_) (fun e => ?_)
      · have hla : row.drop (row.length - 1) ≠ [97] := by simpa using e
        have gu : Good (row ++ [65]) := good_snoc.mpr ⟨hgr, by decide, fun z => hla (by
          by_cases hr0 : row = []
          · subst hr0; cases z
          · obtain ⟨v, c, rfl⟩ := snoc_of hr0
            rw [lastL_snoc] at z
            have hc := good_L hgr c (by simp)
            have z : 65 = und c := by simpa using z
            have e2 : c = 97 := by rw [← und_und hc, ← z]; decide
            have l : lastL (v ++ [c]) = [c] := lastL_snoc v c
            unfold lastL at l
            rw [l, e2])⟩
        walk_at "go"
        refine r_addS (by simp; omega) ?_
        walk_at "go"
        refine q_newW gu (by simp; omega) fun p1 H1 s1 w1 => ?_
        walk_at "go"
        refine tail gu (by simp) (by simp; omega) w1 (k0.same s1) (fun y H5 k5 w5 o5 => ?_) rfl
        walk_at "go"
        refine r_sz (by simp) fun t6 ht6 => ?_
        have s6 := same_upd (o := .tup [V.ref p1, y]) ht6
        refine r_up2 (SqT.of upd_same) rfl ?_
        walk_at "go"
        exact hnx _ _ ⟨k5.same s6, p1, _, y, wAt_same s6 w5, gu, by simp, by simp; omega, odd_ext (extN_same s6) o5, rfl⟩
      · have hne : row ≠ [] := fun z => by subst z; simp at e
        walk_at "go"
        refine q_newW hgr (by omega) fun p1 H1 s1 w1 => ?_
        walk_at "go"
        refine tail hgr hne (by omega) w1 (k0.same s1) (fun y H5 k5 w5 o5 => ?_) rfl
        walk_at "go"
        refine r_sz (by simp) fun t6 ht6 => ?_
        have s6 := same_upd (o := .tup [V.ref p1, y]) ht6
        refine r_up2 (SqT.of upd_same) rfl ?_
        walk_at "go"
        exact hnx _ _ ⟨k5.same s6, p1, _, y, wAt_same s6 w5, hgr, hne, by omega, odd_ext (extN_same s6) o5, rfl⟩
    · rintro σ' H1 ⟨k1, p1, u, y, w1, hg, hu0, hl, o1, rfl⟩
      clear k0 hgr hlr hT hP
      have hL := good_L hg
      have hcle := coat_le hg
      have hcor := (core_self hg hu0).ne
      have hcl0 : 0 < (cor u).length := List.length_pos_iff.mpr hcor
      have hcl : (cor u).length = u.length - 2 * coat u := by unfold cor; rw [List.length_drop, List.length_take]; omega
      have hprl : (pre u).length = coat u := by unfold pre; rw [List.length_take]; omega
      walk_at "gp"
      refine q_lettersW T w1 ?_
      walk_at "gp"
      refine ⟨u, rfl, hg, by omega, fun t2 H2 s2 ht2 => ?_⟩
      refine r_up2 (SqT.of ht2) rfl ?_
      have k2 := k1.same s2
      have w2 := wAt_same s2 w1
      have o2 := odd_ext (extN_same s2) o1
      clear ht2 s2 w1 o1 k1
      walk_at "gp"
      refine r_lamH k2.t fun H3 x3 T3 => ?_
      have k3 := k2.ext x3 T3
      have w3 := wAt_ext x3 w2
      have o3 := odd_ext x3 o2
      walk_at "gp"
      refine ⟨_, _, false, true, rfl, odd_no T o3, isWA T w3, (fun _ => ?_), (fun e => nomatch e), fun e => nomatch e⟩
      refine heardE T.ex_BadWord_BallError fun a4 dd4 H4 s4 ha4 hd4 => ?_
      have k4 := k3.same s4
      have w4 := wAt_same s4 w3
      have o4 := odd_ext (extN_same s4) o3
      have e4 : ErrAt H4 a4 D.BadWord [("at", .int 0)] := ⟨dd4, ha4, hd4⟩
      clear ha4 hd4 w2 w3 o2 o3
      walk_at "gp"
      refine r_sz (by simp) fun l hl9 => ?_
      have s9 := same_upd (o := .lst [V.ref a4]) hl9
      have c9 := (LK.start k4.p k4.t).same s9
      have e9 := errAt_ext (extN_same s9) e4
      have w9 := wAt_same s9 w4
      have o9 := odd_ext (extN_same s9) o4
      have n9 : l ≠ P.p := k4.ne hl9
      have n9c : l ≠ P.c := (k4.p.ne_new hl9).2.symm
      have h9 : upd H4 l (.lst [V.ref a4]) l = some (.lst [V.ref a4]) := upd_same
      generalize upd H4 l (.lst [V.ref a4]) = H9 at c9 e9 w9 o9 h9 ⊢
      walk_at "gp"
      refine r_tyL (SqL.of h9) ?_
      walk_at "gp"
      refine r_lamH c9.t fun H10 x10 T10 => ?_
      have c10 := c9.ext x10 T10
      have w10 := wAt_ext x10 w9
      have o10 := odd_ext x10 o9
      walk_at "gp"
      refine ⟨_, _, true, false, rfl, isWA T w10, odd_no T o10, (fun e => nomatch e), (fun _ _ => ?_), fun _ e => nomatch e⟩
      refine heardE T.ex_BadWord_BallError fun a11 dd11 H11 s11 ha11 hd11 => ?_
      have c11 := c10.same s11
      have x11 := x10.trans (extN_same s11)
      have w11 := wAt_same s11 w10
      have o11 := odd_ext (extN_same s11) o10
      have e11 : ErrAt H11 a11 D.BadWord [("at", .int 0)] := ⟨dd11, ha11, hd11⟩
      have e11b := errAt_ext x11 e9
      have h11 : H11 l = some (.lst [V.ref a4]) := x11 _ _ h9 (fun ps z => by cases z)
      clear ha11 hd11
      walk_at "gp"
      refine q_append h11 (by simp) ?_
      have nl : ∀ {d : Addr} {o : HO}, H11 d = some o → (∀ xs, o ≠ .lst xs) → d ≠ l := fun h1 h2 z => by rw [z, h11] at h1; exact h2 _ (Option.some.inj h1).symm
      have c12 : LK P Tb H4 (n + 1) (upd H11 l (.lst [V.ref a4, .ref a11])) := c11.mut hl9 n9 n9c h11 (fun ps z => by cases z) (fun q z => by cases z)
      have up : ∀ {a : Addr}, ErrAt H11 a D.BadWord [("at", .int 0)] → ErrAt (upd H11 l (.lst [V.ref a4, .ref a11])) a D.BadWord [("at", .int 0)] := fun ⟨d, h1, h2⟩ =>
        ⟨d, by rw [upd_ne (nl h1 (fun xs z => by cases z))]; exact h1, by rw [upd_ne (nl h2 (fun xs z => by cases z))]; exact h2⟩
      have e12 := up e11
      have e12b := up e11b
      have w12 : WAt D (upd H11 l (.lst [V.ref a4, .ref a11])) p1 u := let ⟨dx, h⟩ := w11; ⟨dx, by rw [upd_ne (nl h (fun xs z => by cases z))]; exact h⟩
      have o12 : Odd (upd H11 l (.lst [V.ref a4, .ref a11])) y := by
        cases o11 with
        | non => exact .non
        | one => exact .one
        | tru => exact .tru
        | @nil b h => exact .nil (by rw [upd_ne (fun z => by rw [z, h11] at h; cases h)]; exact h)
        | «let» => exact .let
        | zero => exact .zero
      have h12 : upd H11 l (.lst [V.ref a4, .ref a11]) l = some (.lst [V.ref a4, .ref a11]) := upd_same
      have k12 := k4.trans c12
      show tNext _ _ (upd H11 l (.lst [V.ref a4, .ref a11]))
      generalize upd H11 l (.lst [V.ref a4, .ref a11]) = H12 at e12 e12b w12 o12 h12 k12 ⊢
      clear c12 c11 c10 c9 up nl e11 e11b e9 e4 o11 o10 o9 o4 w11 w10 w9 w4 k4 k3 k2
      walk_at "go"
      refine ⟨l, rfl, ⟨_, SqL.of h12⟩, fun Dl hDl => ?_⟩
      refine lcG (its := [V.ref a4, .ref a11]) walk_list (fun j acc H' => Same H12 H' ∧ acc = List.replicate j (V.bl true)) ⟨same_upd hDl, rfl⟩ (fun j acc H' _ h _ => SqL.of (h.1 _ _ h12)) ?_ ?_
      · rintro j z acc H13 hz ⟨s13, rfl⟩ e13
        obtain ⟨a, rfl, ea⟩ : ∃ a, z = .ref a ∧ ErrAt H13 a D.BadWord [("at", .int 0)] := by
          match j, hz with
          | 0, hz => cases hz; exact ⟨a4, rfl, errAt_ext (extN_same s13) e12b⟩
          | 1, hz => cases hz; exact ⟨a11, rfl, errAt_ext (extN_same s13) e12⟩
          | j + 2, hz => cases hz
        walk_at "go"
        refine r_isK (.own D.BadWord) (err_isK ea T.xi_BadWord) ?_
        walk_at "go"
        refine err_at ea T.xf_BadWord_at rfl ?_
        walk_at "go"
        have hj2 : j < 2 := by
          refine Nat.lt_of_not_le fun z => ?_
          rw [List.getElem?_eq_none (by simpa using z)] at hz
          cases hz
        refine lcFin (Pv := fun acc H' => Same H12 H' ∧ acc = List.replicate (j + 1) (V.bl true)) e13 (by simp; omega) ⟨same_mut s13 hDl, ?_⟩
        rw [List.replicate_succ']
        rfl
      · rintro acc H13 ⟨s13, rfl⟩ e13
        have e13 : H13 Dl = some (.lst [.bl true, .bl true]) := e13
        walk_at "go"
        refine r_sz (by simp) fun t14 ht14 => ?_
        have s14 := same_upd (o := .lst [V.bl true, .bl true]) ht14
        refine r_neB2 (s14 _ _ e13) upd_same ?_
        have s14 := s13.trans s14
        have k14 := k12.same s14
        have w14 := wAt_same s14 w12
        have o14 := odd_ext (extN_same s14) o12
        generalize upd H13 t14 (.lst [V.bl true, .bl true]) = H14 at k14 w14 o14 ⊢
        clear e12 e12b w12 o12 h12 k12 s13 s14 e13 ht14
        walk_at "gp"
        refine r_cut (fun σ' H' => LK P Tb H (n + 1) H' ∧ WAt D H' p1 u ∧ ∃ v9, σ' = [some (.ref P.p), some (.str (S row)), some (.ref l), none, none, some (.ref p1), some y, some (.str (S (pre u))), some (.str (S (cor u))), v9, none]) (fun nx hnx => ?_) ?_
        · walk_at "go"
          rcases odd_case o14 with rfl | ⟨b1, b2, h1, h2, h3, d, hd1, hd2, hd3⟩
          · walk_at "go"
            refine r_ie (by simp) ?_
            walk_at "go"
            refine r_isBI ?_
            walk_at "go"
            exact hnx _ _ ⟨k14, w14, _, rfl⟩
          · refine r_neD hd1 (.int 0) hd2 (by decide +kernel) ?_
            rw [hd3]
            walk_at "go"
            refine r_lamH k14.t fun H15 x15 T15 => ?_
            have k15 := k14.ext x15 T15
            have w15 := wAt_ext x15 w14
            have o15 := odd_ext x15 o14
            walk_at "go"
            refine met w15 (wf_no4 _).1 ?_
            walk_at "go"
            obtain ⟨b1, b2, h1, h2, h3⟩ : ∃ b1 b2, IsK K H15 y (.type "int") b1 ∧ IsK K H15 y (.type "bool") b2 ∧ (b1 && !b2) = false := by
              rcases odd_case o15 with rfl | ⟨b1, b2, h1, h2, h3, _⟩
              · have z : PyData.eqv d (.int 0) = true := by
                  cases hd1
                  rfl
                rw [z] at hd3
                cases hd3
              · exact ⟨b1, b2, h1, h2, h3⟩
            refine ⟨p1, u, y, b1, b2, rfl, w15, hg, by omega, h1, h2, (fun _ => ?_), fun z => by rw [h3] at z; cases z⟩
            refine heardE T.ex_BadNumber_BallError fun a16 dd16 H16 s16 ha16 hd16 => ?_
            have e16 : ErrAt H16 a16 D.BadNumber [("part", .str (S [109, 97, 110, 121]))] := ⟨dd16, ha16, hd16⟩
            walk_at "go"
            refine r_isK (.own D.BadNumber) (err_isK e16 T.xi_BadNumber) ?_
            walk_at "go"
            refine err_at e16 T.xf_BadNumber_part rfl ?_
            walk_at "go"
            refine r_ie (by simp) ?_
            walk_at "go"
            exact hnx _ _ ⟨k15.same s16, wAt_same s16 w15, _, rfl⟩
        · rintro σ' H15 ⟨k15, w15, v9, rfl⟩
          clear o14 k14 w14
          walk_at "go"
          refine q_lenS (by omega) ?_
          rw [hprl]
          walk_at "go"
          refine r_mI (wm (n := 64) (m := 64) (by omega) (by omega)) ?_
          walk_at "go"
          refine q_lenS (by omega) ?_
          walk_at "go"
          refine r_fdivH (by omega) (by omega) ?_
          have em : ((4000 : Int) - 2 * ((coat u : Nat) : Int)) / (((cor u).length : Nat) : Int) = (((4000 - 2 * coat u) / (cor u).length : Nat) : Int) := by
            have e : (4000 : Int) - 2 * ((coat u : Nat) : Int) = ((4000 - 2 * coat u : Nat) : Int) := by omega
            rw [e]
            exact (Int.natCast_ediv _ _).symm
          rw [em]
          have hM1 : (4000 - 2 * coat u) / (cor u).length ≤ 4000 - 2 * coat u := Nat.div_le_self _ _
          have hM2 : (4000 - 2 * coat u) / (cor u).length * (cor u).length ≤ 4000 - 2 * coat u := Nat.div_mul_le_self _ _
          have hM0 : 0 < (4000 - 2 * coat u) / (cor u).length := Nat.div_pos (by omega) hcl0
          have hover : ∀ {z : Int}, (4000 - 2 * coat u) / (cor u).length < z.natAbs → 4000 < 2 * coat u + z.natAbs * (cor u).length := fun {z} hz => most_over hcl0 hz (by omega)
          generalize (4000 - 2 * coat u) / (cor u).length = M at hM1 hM2 hM0 hover ⊢
          walk_at "go"
          refine r_pow (by decide) (by decide) ?_
          have e40 : (10 : Int) ^ (40 : Int).toNat = 10000000000000000000000000000000000000000 := by decide +kernel
          rw [e40]
          walk_at "go"
          refine ⟨P, _, _, rfl, k15.p, by omega, by decide, by decide, fun d H16 hd0 hd1 kk16 hP16 => ?_⟩
          have k16 := k15.step kk16 hP16
          have w16 := wAt_keep k15.p kk16 w15
          walk_at "go"
          refine r_sz (by simp) fun l2 hl2 => ?_
          have f17 : upd H16 l2 (.lst [V.int (((M : Nat) : Int) + 1), .int (-((M : Nat) : Int) - 1 - d)]) l2 = some (.lst [V.int (((M : Nat) : Int) + 1), .int (-((M : Nat) : Int) - 1 - d)]) := upd_same
          have s17 := same_upd (o := .lst [V.int (((M : Nat) : Int) + 1), .int (-((M : Nat) : Int) - 1 - d)]) hl2
          have k17 := k16.same s17
          have w17 := wAt_same s17 w16
          generalize upd H16 l2 (.lst [V.int (((M : Nat) : Int) + 1), .int (-((M : Nat) : Int) - 1 - d)]) = H17 at f17 k17 w17 ⊢
          clear k16 w16 k15 w15 s17 hl2 kk16 hP16
          refine ⟨l2, rfl, ⟨_, SqL.of f17⟩, ?_⟩
          refine for_it (walk_list (xs := [V.int (((M : Nat) : Int) + 1), .int (-((M : Nat) : Int) - 1 - d)])) (fun i σ H' => LK P Tb H (n + 2) H' ∧ WAt D H' p1 u ∧ H' l2 = some (.lst [V.int (((M : Nat) : Int) + 1), .int (-((M : Nat) : Int) - 1 - d)]) ∧ ∃ v4 v9, σ = [some (.ref P.p), some (.str (S row)), some (.ref l), some (.int (M : Nat)), v4, some (.ref p1), some y, some (.str (S (pre u))), some (.str (S (cor u))), v9, none]) ⟨k17, w17, f17, _, _, rfl⟩ (fun i σ H' _ h => SqL.of h.2.2.1) ?_ ?_
          · rintro i x σ H18 H19 hi ⟨k18, w18, f18, v4, v9, rfl⟩ ⟨rfl, hx⟩
            obtain ⟨z, rfl, hz1, hz2⟩ : ∃ z : Int, x = .int z ∧ M < z.natAbs ∧ z.natAbs < 2 ^ 150 := by
              match i, hx with
              | 0, hx => cases hx; exact ⟨_, rfl, by omega, by omega⟩
              | 1, hx => cases hx; exact ⟨_, rfl, by omega, by omega⟩
              | i + 2, hx => cases hx
            have hov := hover hz1
            walk_at "go"
            refine r_lamH k18.t fun H20 x20 T20 => ?_
            have k20 := k18.ext x20 T20
            have w20 := wAt_ext x20 w18
            have f20 := x20 _ _ f18 (fun ps z => by cases z)
            walk_at "go"
            refine met w20 (wf_no4 _).1 ?_
            walk_at "go"
            refine ⟨p1, u, _, true, false, rfl, w20, hg, by omega, int_t, int_b, (fun e => nomatch e), fun _ => ⟨z, rfl, hz2, fun _ _ _ => ?_, fun hb => ?_⟩⟩
            · refine heardE T.ex_TooMany_BallError fun a21 dd21 H21 s21 ha21 hd21 => ?_
              have e21 : ErrAt H21 a21 D.TooMany [("what", .str (S [108, 101, 116, 116, 101, 114, 115])), ("most", .int 4000)] := ⟨dd21, ha21, hd21⟩
              walk_at "go"
              refine r_isK (.own D.TooMany) (err_isK e21 T.xi_TooMany) ?_
              walk_at "go"
              refine err_at e21 T.xf_TooMany_what rfl ?_
              walk_at "go"
              refine r_ie (by simp) ?_
              walk_at "go"
              refine err_at e21 T.xf_TooMany_most rfl ?_
              walk_at "go"
              refine r_ie (by simp) ?_
              walk_at "go"
              exact ⟨k20.same s21, wAt_same s21 w20, s21 _ _ f20, _, _, rfl⟩
            · rw [powL_len hg (by omega) hu0] at hb
              omega
          · rintro σ H18 ⟨k18, w18, f18, v4, v9, rfl⟩
            walk_at "go"
            refine met w18 (wf_no4 _).1 ?_
            walk_at "go"
            have hpl := powL_len (n := -((M : Nat) : Int)) hg (by omega) hu0
            rw [Int.natAbs_neg, Int.natAbs_natCast] at hpl
            refine ⟨p1, u, _, true, false, rfl, w18, hg, by omega, int_t, int_b, (fun e => nomatch e), fun _ => ⟨-((M : Nat) : Int), rfl, by omega, fun _ _ hb => ?_, fun _ r H19 s19 _ w19 => ?_⟩⟩
            · rw [Int.natAbs_neg, Int.natAbs_natCast] at hb
              omega
            · obtain ⟨dr, w19⟩ := w19
              walk_at "go"
              refine q_lenO w19 ⟨r, _, rfl, ⟨dr, w19⟩, by omega, ⟨_, rfl, by omega, ?_⟩⟩
              walk_at "go"
              refine q_lenS (by omega) ?_
              rw [hprl]
              walk_at "go"
              refine r_mI (wm (n := 64) (m := 64) (by omega) (by omega)) ?_
              walk_at "go"
              refine q_lenS (by omega) ?_
              walk_at "go"
              refine r_mI (wm (n := 64) (m := 64) (by omega) (by omega)) ?_
              walk_at "go"
              have ee : decide (((powL u (-((M : Nat) : Int))).length : Int) = 2 * ((coat u : Nat) : Int) + ((M : Nat) : Int) * (((cor u).length : Nat) : Int)) = true := by
                rw [hpl]
                refine decide_eq_true ?_
                push_cast
                rfl
              rw [ee]
              exact q H19 (k18.same s19)
end
end Cs


set_option Elab.async false
set_option linter.all false
set_option maxRecDepth 100000
set_option maxHeartbeats 4000000
namespace Cs
open PySem PySem.Spec PyProof.Rows L2 LamX
local macro_rules | `(tactic| walk_at "two") => `(tactic| with_reducible (first
  | refine r_seq ?_ | refine r_nx ?_ | refine r_rt ?_ | refine r_ct ?_ | refine r_bk ?_ | refine r_asg ?_ | refine r_gname ?_ | refine r_ret ?_ | refine r_drop ?_ | refine r_next ?_ | refine r_retN ?_ | refine r_fld ?_ | refine r_gsub ?_ | refine r_brk ?_ | refine r_cont ?_
  | refine r_var rfl ?_ | refine r_c ?_ | refine r_op ?_ | refine r_un ?_ | refine r_test ?_ | refine r_tB ?_ | refine r_bl ?_ | refine r_blv ?_
  | refine r_cons ?_ | refine r_nil ?_ | refine r_lc ?_ | refine r_yes ?_ | refine r_iLT0 ?_ | refine r_iEnumS ?_ | refine r_iEnum ?_ | refine r_iStr ?_ | refine r_iList ?_ | refine r_iRng ?_ | refine r_iRng2 ?_ | refine r_iRng3 ?_ | refine r_iStrS ?_ | refine r_iStrE ?_ | refine r_cb ?_ | refine r_call0 ?_ | refine r_callS ?_ | refine r_callK ?_ | refine r_tup ?_ | refine r_lst ?_ | refine r_make0 ?_ | refine r_attr ?_
  | refine r_sl ?_ | refine r_nopart ?_ | refine r_part ?_ | refine r_parti ?_ | refine r_tyS ?_ | refine r_bm0 ?_ | refine r_bm ?_ | refine r_dnew ?_
  | refine r_and ?_ | refine r_or ?_ | refine r_not ?_ | refine r_andV ?_ | refine r_orV ?_ | refine r_notV ?_ | refine r_if ?_ | refine r_ift ?_ | refine r_iff ?_ | refine r_revL ?_ | refine r_ntt ?_ | refine r_nff ?_ | refine r_itup ?_ | refine r_chain ?_
  | refine r_I0 ?_ | refine r_U ?_ | refine r_addI ?_ | refine r_eqI ?_ | refine r_neI ?_ | refine r_eqS ?_ | refine r_neS ?_ | refine r_eqB ?_ | refine r_neB ?_ | refine r_inS ?_ | refine r_niS ?_ | refine r_int1 ?_ | refine r_abs ?_ | refine r_isN ?_ | refine r_notN ?_
  | refine r_intB ?_ | refine r_max ?_ | refine r_strS ?_ | refine r_isB ?_ | refine r_notB ?_ | refine r_notBI ?_ | refine r_revS ?_ | refine r_sta ?_ | refine r_metA ?_ | refine r_mK1 ?_ | refine r_mD ?_ | refine r_iOwn ?_ | refine r_aug rfl ?_ | refine r_ipI ?_ | refine r_par ?_ | refine r_vw ?_))
local macro_rules | `(tactic| walk_at "one") => `(tactic| first | walk_at "two" | with_reducible (first | refine r_ifs ?_ | refine r_forE ?_))
local macro_rules | `(tactic| walk_at "go") => `(tactic| repeat walk_at "one")
local macro_rules | `(tactic| walk_at "gp") => `(tactic| repeat walk_at "two")

section
variable {P : Program} {w : World} {K : PySem.W.Frag} {mg : Str → Option Value} {base : Heap} {D : Ad}

open Rp
theorem rd_of {u : List Nat} (hg : Good u) (hl : u.length ≤ 4000) : rd (if u = [] then [45] else u) = .ok u := by
  by_cases h : u = []
  · subst h; exact rd_dash
  · rw [if_neg h]; exact rd_good hg h hl
abbrev st_law_first_part : Stmt := top 43
theorem sc_law_first_part : FnScope ["script", "pen", "turn", "row"] ["script"] (defScope st_law_first_part) := ⟨rfl, rfl, rfl, by decide +kernel, rfl, by decide +kernel, by decide +kernel⟩
def sp_law_first_part (K : PySem.W.Frag) (D : Ad) (Tb : List (Addr × Str)) : Sp := fun vs H Q _ => ∃ (a : Addr) (ns : List Int), vs = [.ref a] ∧ SqL K H a (ns.map V.int) ∧ ns.length ≤ 63 ∧ Tabs Tb H ∧ ∀ H', ExtN H H' → Tabs Tb H' → Q (.bl true) H'
theorem ok_law_first_part {f : Addr} {fd : FuncData} {Tb : List (Addr × Str)} (F : Fun K "_law_first_part" "_law_first_part" st_law_first_part f fd) (T : Txt P w K mg base D) (d_law_draw : CalN P w K mg base 1 "_law_draw" (sp_law_draw K D)) (d_law_drawn : CalN P w K mg base 4 "_law_drawn" (sp_law_drawn K D)) (d_law_pair_right : CalN P w K mg base 5 "_law_pair_right" (sp_law_pair_right K D)) (d_law_pen : CalN P w K mg base 1 "_law_pen" (sp_law_pen K D)) (d_law_refused_right : CalN P w K mg base 7 "_law_refused_right" (sp_law_refused_right K D Tb)) (d_law_row : CalN P w K mg base 3 "_law_row" (sp_law_row K D)) (d_law_word_right : CalN P w K mg base 5 "_law_word_right" (sp_law_word_right K D)) : FnOk P w K mg base CX0 8 f fd ["script"] (sp_law_first_part K D Tb) := by
  refine F.ok sc_law_first_part (fun vs H Q E h => ?_) (fun cdv A outer s H vs Q E hr h => ?_)
  · obtain ⟨a, ns, rfl, _⟩ := h
    rfl
  · obtain ⟨a, ns, rfl, ha, hl, hT, q⟩ := h
    have hu := hr.units
    refine ⟨_, (pss_cons (ps_asg (pe_c0 d_law_pen hr (by decide) (pa_cons (pv 0) pa_nil)) (pg_name (i := 1) sc_law_first_part.nd rfl (Or.inl rfl)))
      (pss_cons (ps_for PassesOwn.never rfl (pi_range1 rfl T.b_range (pa_cons pe_int pa_nil)) (pg_name (i := 2) sc_law_first_part.nd rfl (Or.inl rfl))
      (pss_cons (ps_asg (pe_c0 d_law_drawn hr (by decide) (pa_cons (pv 1) pa_nil)) (pg_name (i := 3) sc_law_first_part.nd rfl (Or.inl rfl)))
      (pss_one (ps_if (PW.pt (pw_or (pt_not (pt_val (pe_c0 d_law_word_right hr (by decide) (pa_cons (pv 1) (pa_cons (pv 3) pa_nil))))) (pw_or1 (pt_not (pt_val (pe_c0 d_law_pair_right hr (by decide) (pa_cons (pv 1) (pa_cons (pv 3) pa_nil))))))))
      (pss_one (ps_ret pe_bl))
      pss_nil))))
      (pss_one (ps_ret (pe_or (pe_cmpR op_gt (pe_c0 d_law_draw hr (by decide) (pa_cons (pv 1) (pa_cons pe_int pa_nil))) pe_int (nomark _)) (pe_one (pe_c0 d_law_refused_right hr (by decide) (pa_cons (pv 1) (pa_cons (pe_c0 d_law_row hr (by decide) (pa_cons (pv 1) (pa_cons pe_int pa_nil))) pa_nil))))))))), ?_⟩
    walk_at "gp"
    refine ⟨a, ns, rfl, ha, hl, fun P H1 s1 hP hpn hcn => ?_⟩
    have k1 := LK.start hP (hT.ext s1)
    have sk := extN_same s1
    walk_at "go"
    refine ⟨6, rfl, by decide, by decide, ?_⟩
    refine for_it (walk_range0 (n := 6)) (fun i σ H' => LK P Tb H1 (50 * i) H' ∧ ∃ (v2 v3 : Option V), σ = [some (.ref a), some (.ref P.p), v2, v3])
      ⟨k1, none, none, rfl⟩ (fun _ _ _ _ _ => trivial) ?_ ?_
    · rintro i x σ H2 H2' hi ⟨k2, v2, v3, rfl⟩ ⟨rfl, hx⟩
      have hi6 : i < 6 := by simpa using hi
      walk_at "go"
      refine ⟨P, _, rfl, k2.p, by omega, fun u H3 gu lu kk3 hP3 => ?_⟩
      have k3 := k2.step kk3 hP3
      walk_at "go"
      refine ⟨P, _, u, rfl, k3.p, by omega, gu, lu, fun H4 kk4 hP4 => ?_⟩
      have k4 := k3.step kk4 hP4
      walk_at "go"
      refine ⟨P, _, u, rfl, k4.p, by omega, gu, lu, fun H5 kk5 hP5 => ?_⟩
      have k5 := k4.step kk5 hP5
      walk_at "go"
      exact ⟨k5.mono (by omega), _, _, rfl⟩
    · rintro σ H2 ⟨k2, v2, v3, rfl⟩
      rw [List.length_map, List.length_range] at k2
      have fin : ∀ {m H'}, LK P Tb H1 m H' → Q (.bl true) H' := fun {m H'} k => q H' (fun b o h n => k.k b o (fun z => by rw [z, hpn] at h; cases h) n (sk b o h n)) k.t
      walk_at "go"
      refine ⟨P, _, 4, rfl, k2.p, by omega, by decide, by decide, fun d H3 hd0 hd1 kk3 hP3 => ?_⟩
      have k3 := k2.step kk3 hP3
      walk_at "go"
      refine r_ib (fun e => ?_) (fun e => ?_)
      · exact fin k3
      · walk_at "go"
        refine ⟨P, _, 5, rfl, k3.p, by omega, by decide, fun u H4 gu lu kk4 hP4 => ?_⟩
        have k4 := k3.step kk4 hP4
        walk_at "go"
        refine ⟨P, _, u, rfl, k4.p, by omega, k4.t, gu, lu, fun H5 l5 => ?_⟩
        exact fin (k4.trans l5)
abbrev st_law_second_part : Stmt := top 51
theorem sc_law_second_part : FnScope ["script", "pen", "turn", "odd", "caught", "row", "word", "many"] ["script"] (defScope st_law_second_part) := ⟨rfl, rfl, rfl, by decide +kernel, rfl, by decide +kernel, by decide +kernel⟩
def sp_law_second_part (K : PySem.W.Frag) (D : Ad) (Tb : List (Addr × Str)) : Sp := fun vs H Q _ => ∃ (a : Addr) (ns : List Int), vs = [.ref a] ∧ SqL K H a (ns.map V.int) ∧ ns.length ≤ 63 ∧ Tabs Tb H ∧ ∀ H', ExtN H H' → Tabs Tb H' → Q (.bl true) H'
theorem ok_law_second_part {f : Addr} {fd : FuncData} {Tb : List (Addr × Str)} {c : Addr} (F : FunL K "_law_second_part" "_law_second_part" st_law_second_part f fd c) (T : Txt P w K mg base D) (d_law_long_right : CalN P w K mg base 8 "_law_long_right" (sp_law_long_right K D Tb)) (d_law_other_draw : CalN P w K mg base 1 "_law_other_draw" (sp_law_other_draw K D)) (d_law_other_pick : CalN P w K mg base 2 "_law_other_pick" (sp_law_other_pick K D)) (d_law_other_row : CalN P w K mg base 3 "_law_other_row" (sp_law_other_row K D)) (d_law_pen : CalN P w K mg base 1 "_law_pen" (sp_law_pen K D)) (d_law_spoiled : CalN P w K mg base 3 "_law_spoiled" (sp_law_spoiled K D)) (d_law_text_right : CalN P w K mg base 8 "_law_text_right" (sp_law_text_right K D Tb)) (lh : HeardAt K mg st__law_heard0) (lm_law_second_part : MakerAt base mg Tb c ((("_law_second_part" : Str) ++ ".<locals>.") ++ "<lambda>")) (m_Word : MakX P w K mg base 2 "Word" D.Word (sp_Word_init K D)) (oe_Word : OwnEq P w K mg base 1 D.Word ["NoneType", "int", "bool", "str", "list", "tuple"] (sp_Word_eq K D)) (os_Word : OwnF P w K mg base 1 D.Word "__str__" (sp_Word_str K D)) (s_Word_read : StaX P w K mg base (L2.CX P w) 5 D.Word "read" (sp_Word_read K D)) : FnOk P w K mg base CX0 9 f fd ["script"] (sp_law_second_part K D Tb) := by
  refine F.ok sc_law_second_part (fun vs H Q E h => ?_) (fun A outer s H vs Q E hr h => ?_)
  · obtain ⟨a, ns, rfl, _⟩ := h
    rfl
  · obtain ⟨a, ns, rfl, ha, hl, hT, q⟩ := h
    have hu := hr.units
    refine ⟨_, (pss_cons (ps_asg (pe_c0 d_law_pen hr (by decide) (pa_cons (pv 0) pa_nil)) (pg_name (i := 1) sc_law_second_part.nd rfl (Or.inr rfl)))
      (pss_cons (ps_for PassesOwn.never rfl (pi_range1 rfl T.b_range (pa_cons pe_int pa_nil)) (pg_name (i := 2) sc_law_second_part.nd rfl (Or.inl rfl))
      (pss_cons (ps_asg (pe_c0 d_law_other_row hr (by decide) (pa_cons (pv 1) (pa_cons pe_int pa_nil))) (pg_name (i := 5) sc_law_second_part.nd rfl (Or.inl rfl)))
      (pss_cons (ps_asg (pe_mX m_Word hr (by decide) passL (pa_cons (pv 5) pa_nil)) (pg_name (i := 6) sc_law_second_part.nd rfl (Or.inl rfl)))
      (pss_cons (ps_if (PW.pt (pw_or (pt_cmpR (op_neK (K := K) hu) (pe_callTy (T := "str") (call_strO os_Word hr (by decide)) (by rfl) T.b_str (by decide +kernel) (pa_cons (pv 6) pa_nil)) (pe_ifExp (pt_cmpR (op_neK (K := K) hu) (pv 5) (pe_S (w := []) (by decide +kernel)) (nomark _)) (pv 5) (pe_S (w := [45]) (by decide +kernel))) (nomark _)) (pw_or1 (pt_cmpR (op_neO oe_Word hr (by decide)) (pe_sta s_Word_read (pe_glob (v := .ref D.Word) rfl T.c_Word rfl) hr (by decide) passL (pa_cons (pe_callTy (T := "str") (call_strO os_Word hr (by decide)) (by rfl) T.b_str (by decide +kernel) (pa_cons (pv 6) pa_nil)) pa_nil)) (pv 6) (nomark _)))))
      (pss_one (ps_ret pe_bl))
      pss_nil)
      (pss_one (ps_if (PW.pt (pw_or (pt_not (pt_val (pe_c0 d_law_text_right hr (by decide) (pa_cons (pe_c0 d_law_spoiled hr (by decide) (pa_cons (pv 1) (pa_cons (pe_callTy (T := "str") (call_strO os_Word hr (by decide)) (by rfl) T.b_str (by decide +kernel) (pa_cons (pv 6) pa_nil)) pa_nil))) pa_nil)))) (pw_or1 (pt_not (pt_val (pe_c0 d_law_text_right hr (by decide) (pa_cons (pe_callTy (T := "str") (call_strO os_Word hr (by decide)) (by rfl) T.b_str (by decide +kernel) (pa_cons (pv 6) pa_nil)) pa_nil)))))))
      (pss_one (ps_ret pe_bl))
      pss_nil))))))
      (pss_cons (ps_asg (pe_c0 d_law_other_pick hr (by decide) (pa_cons (pv 1) (pa_cons (pe_lst (pa_cons pe_non (pa_cons pe_int (pa_cons pe_bl (pa_cons (pe_lst (pa_cons (pe_S (w := [65]) (by decide +kernel)) pa_nil)) (pa_cons (pe_tup (pa_cons (pe_S (w := [65]) (by decide +kernel)) pa_nil)) (pa_cons (pe_mX m_Word hr (by decide) passL (pa_cons (pe_S (w := [65]) (by decide +kernel)) pa_nil)) (pa_cons pe_dnewK (pa_cons pe_int pa_nil))))))))) pa_nil))) (pg_name (i := 3) sc_law_second_part.nd rfl (Or.inr rfl)))
      (pss_cons (ps_asg (pe_heard (K := K) (k := 5) lh (fun X g cdv q hm => heard_gives hm rfl rfl rfl rfl) T.c_BallError sc__law_heard0 (.inl rfl) lm_law_second_part hr (by decide) (fun A outer s H E f c hr => (pe_sta s_Word_read (pe_glob (v := .ref D.Word) rfl T.c_Word rfl) hr (by decide) (passes_call (takes_of rfl rfl rfl rfl) fun _ _ _ _ h => h) (pa_cons (pv 3) pa_nil))) (lamS_by (sc := defScope st_law_second_part) (by decide +kernel))) (pg_name (i := 4) sc_law_second_part.nd rfl (Or.inl rfl)))
      (pss_cons (ps_if (PW.pt (pw_or (pt_not (pt_val (pe_callB (id := "isinstance") (call_isiEK (K := K)) (by rfl) T.b_isinstance (by decide +kernel) (pa_cons (pv 4) (pa_cons (pe_glob (v := .ref D.BadText) rfl T.c_BadText rfl) pa_nil))))) (pw_or (pt_cmpR (op_neK (K := K) hu) (pe_attrK (K := K) (pv 4)) pe_int (nomark _)) (pw_or1 (pt_cmpR op_isBI (pe_attrK (K := K) (pv 4)) pe_bl (nomark _))))))
      (pss_one (ps_ret pe_bl))
      pss_nil)
      (pss_cons (ps_if (pt_cmpR (op_eqK (K := K) hu) (pe_c0 d_law_other_draw hr (by decide) (pa_cons (pv 1) (pa_cons pe_int pa_nil))) pe_int (nomark _))
      (pss_cons (ps_asg (pe_op op_addA pe_int (pe_c0 d_law_other_draw hr (by decide) (pa_cons (pv 1) (pa_cons pe_int pa_nil)))) (pg_name (i := 7) sc_law_second_part.nd rfl (Or.inl rfl)))
      (pss_one (ps_if (pt_not (pt_val (pe_c0 d_law_long_right hr (by decide) (pa_cons (pe_slice (sl_anyK (K := K)) (pe_op op_mulB (pe_c0 d_law_other_pick hr (by decide) (pa_cons (pv 1) (pa_cons (pe_lst (pa_cons (pe_S (w := [65]) (by decide +kernel)) (pa_cons (pe_S (w := [100, 67]) (by decide +kernel)) (pa_cons (pe_S (w := [97, 66]) (by decide +kernel)) pa_nil)))) pa_nil))) (pv 7)) po_none (po_some (pv 7))) pa_nil))))
      (pss_one (ps_ret pe_bl))
      pss_nil)))
      pss_nil)
      (pss_cons (ps_asg (pe_heard (K := K) (k := 3) lh (fun X g cdv q hm => heard_gives hm rfl rfl rfl rfl) T.c_BallError sc__law_heard0 (.inl rfl) lm_law_second_part hr (by decide) (fun A outer s H E f c hr => (pe_mX m_Word hr (by decide) (passes_call (takes_of rfl rfl rfl rfl) fun _ _ _ _ h => h) (pa_cons (pe_c0 d_law_other_pick hr (by decide) (pa_cons (pv 1) (pa_cons (pe_lst (pa_cons (pe_S (w := [45]) (by decide +kernel)) (pa_cons (pe_S (w := [45, 65]) (by decide +kernel)) (pa_cons (pe_S (w := [45, 32]) (by decide +kernel)) pa_nil)))) pa_nil))) pa_nil))) (lamS_by (sc := defScope st_law_second_part) (by decide +kernel))) (pg_name (i := 4) sc_law_second_part.nd rfl (Or.inl rfl)))
      (pss_one (ps_ret (pe_and (pe_callB (id := "isinstance") (call_isiEK (K := K)) (by rfl) T.b_isinstance (by decide +kernel) (pa_cons (pv 4) (pa_cons (pe_glob (v := .ref D.BadWord) rfl T.c_BadWord rfl) pa_nil))) (pe_and (pe_cmpR (op_eqK (K := K) hu) (pe_attrK (K := K) (pv 4)) pe_int (nomark _)) (pe_and (pe_c0 d_law_text_right hr (by decide) (pa_cons (pe_S (w := []) (by decide +kernel)) pa_nil)) (pe_one (pe_c0 d_law_text_right hr (by decide) (pa_cons (pe_S (w := [45]) (by decide +kernel)) pa_nil))))))))))))))), ?_⟩
    walk_at "gp"
    refine ⟨a, ns, rfl, ha, hl, fun P H1 s1 hP hpn hcn => ?_⟩
    have k1 := LK.start hP (hT.ext s1)
    have sk := extN_same s1
    walk_at "go"
    refine ⟨9, rfl, by decide, by decide, ?_⟩
    refine for_it (walk_range0 (n := 9)) (fun i σ H' => LK P Tb H1 (20 * i) H' ∧ ∃ (v2 v5 v6 : Option V), σ = [some (.ref a), some (.ref P.p), v2, none, none, v5, v6, none])
      ⟨k1, none, none, none, rfl⟩ (fun _ _ _ _ _ => trivial) ?_ ?_
    · rintro i x σ H2 H2' hi ⟨k2, v2, v5, v6, rfl⟩ ⟨rfl, hx⟩
      have hi9 : i < 9 := by simpa using hi
      walk_at "gp"
      refine ⟨P, _, 8, rfl, k2.p, by omega, by decide, fun u H3 gu lu kk3 hP3 => ?_⟩
      have k3 := k2.step kk3 hP3
      have huL := good_L gu
      walk_at "gp"
      refine q_newW gu (by omega) fun p4 H4 s4 w4 => ?_
      have k4 := k3.same s4
      walk_at "gp"
      have hul : (if u = [] then [45] else u).length ≤ 8 := by
        split
        · simp
        · omega
      have str_ : ∀ {H' : Hp} {Qz : VK}, WAt D H' p4 u → Qz (.str (S (if u = [] then [45] else u))) H' → rStrO D.Word (sp_Word_str K D) [.ref p4] H' Qz := fun {H' Qz} ⟨dx, h⟩ hq => q_strO h ⟨p4, u, rfl, ⟨dx, h⟩, ⟨_, rfl, hq⟩⟩
      refine r_cut (fun σ' H' => Same H4 H' ∧ σ' = [some (.ref a), some (.ref P.p), some x, none, none, some (.str (S u)), some (.ref p4), none]) (fun nx hnx => ?_) ?_
      · have rest : ∀ {Qz : VK}, (∀ H', Same H4 H' → Qz (.bl false) H') → ∀ {σ : L2.St}, σ[6]? = some (some (.ref p4)) → sp_Word_read K D [.str (S (if u = [] then [45] else u))] H4 (fun x H5 => tVar 6 σ H5 fun y H6 => rEqO true D.Word ["NoneType", "int", "bool", "str", "list", "tuple"] (sp_Word_eq K D) x y H6 Qz) E0 := by
          intro Qz hq σ hσ
          refine q_read (by omega) (fun k hk => by rw [rd_of gu (by omega)] at hk; cases hk) fun z hz p5 H5 s5 w5 => ?_
          rw [rd_of gu (by omega)] at hz
          cases hz
          refine ⟨_, hσ, ?_⟩
          refine q_eqW w5 (wAt_same s5 w4) huL huL fun H6 s6 => ?_
          rw [decide_eq_true (rfl : u = u)]
          exact hq H6 (s5.trans s6)
        walk_at "go"
        refine str_ w4 ?_
        walk_at "go"
        refine r_ib (fun e => ?_) (fun e => ?_)
        · have e : u ≠ [] := by simpa using e
          walk_at "go"
          refine r_ie (by rw [if_neg e]; simp) ?_
          walk_at "go"
          refine str_ w4 ?_
          walk_at "go"
          refine rest (fun H5 s5 => ?_) rfl
          walk_at "go"
          exact hnx _ _ ⟨s5, rfl⟩
        · have e : u = [] := by simpa using e
          walk_at "go"
          refine r_ie (by rw [if_pos e]; simp) ?_
          walk_at "go"
          refine str_ w4 ?_
          walk_at "go"
          refine rest (fun H5 s5 => ?_) rfl
          walk_at "go"
          exact hnx _ _ ⟨s5, rfl⟩
      · rintro σ' H5 ⟨s5, rfl⟩
        have k5 := k4.same s5
        have w5 := wAt_same s5 w4
        walk_at "go"
        refine str_ w5 ?_
        walk_at "go"
        refine ⟨P, _, _, rfl, k5.p, by omega, by omega, fun z H6 lz kk6 hP6 => ?_⟩
        have k6 := k5.step kk6 hP6
        have w6 := wAt_keep k5.p kk6 w5
        walk_at "go"
        refine ⟨z, rfl, by omega, k6.t, fun H7 x7 T7 => ?_⟩
        have k7 := k6.ext x7 T7
        have w7 := wAt_ext x7 w6
        walk_at "go"
        refine str_ w7 ?_
        walk_at "go"
        refine ⟨_, rfl, by omega, k7.t, fun H8 x8 T8 => ?_⟩
        have k8 := k7.ext x8 T8
        walk_at "go"
        exact ⟨k8.mono (by omega), _, _, _, rfl⟩
    · rintro σ H2 ⟨k2, v2, v5, v6, rfl⟩
      rw [List.length_map, List.length_range] at k2
      have fin : ∀ {m H'}, LK P Tb H1 m H' → Q (.bl true) H' := fun {m H'} k => q H' (fun b o h n => k.k b o (fun z => by rw [z, hpn] at h; cases h) n (sk b o h n)) k.t
      have b2 := LK.start k2.p k2.t
      walk_at "gp"
      refine r_sz (by decide) fun d1 hd1 => ?_
      have s1 := same_upd (o := .lst [V.str (S [65])]) hd1
      have f1 : upd H2 d1 (.lst [V.str (S [65])]) d1 = some (.lst [V.str (S [65])]) := upd_same
      generalize upd H2 d1 (.lst [V.str (S [65])]) = H3 at s1 f1 ⊢
      walk_at "gp"
      refine r_sz (by decide) fun d2 hd2 => ?_
      have s2 := same_upd (o := .tup [V.str (S [65])]) hd2
      have f2 : upd H3 d2 (.tup [V.str (S [65])]) d2 = some (.tup [V.str (S [65])]) := upd_same
      have f1 := s2 _ _ f1
      have s2 := s1.trans s2
      generalize upd H3 d2 (.tup [V.str (S [65])]) = H4 at s2 f1 f2 ⊢
      walk_at "gp"
      refine q_Word (w := [65]) rfl (by decide) fun d4 dx4 H6 s4 hd4 f4 => ?_
      have f1 := s4 _ _ f1
      have f2 := s4 _ _ f2
      have s4 := s2.trans s4
      walk_at "gp"
      intro d5 hd5
      have s5 := same_upd (o := .dK []) hd5
      have f5 : upd H6 d5 (.dK []) d5 = some (.dK []) := upd_same
      have f1 := s5 _ _ f1
      have f2 := s5 _ _ f2
      have f4 := s5 _ _ f4
      have s5 := s4.trans s5
      generalize upd H6 d5 (.dK []) = H7 at s5 f1 f2 f4 f5 ⊢
      walk_at "gp"
      refine r_sz (by simp) fun d6 hd6 => ?_
      generalize hks : [V.non, _, _, _, _, _, _, _] = ks
      have s6 := same_upd (o := .lst ks) hd6
      have f6 : upd H7 d6 (.lst ks) d6 = some (.lst ks) := upd_same
      have n6 : d6 ≠ P.p := (b2.same s5).ne hd6
      have f1 := s6 _ _ f1
      have f2 := s6 _ _ f2
      have f4 := s6 _ _ f4
      have f5 := s6 _ _ f5
      have s6 := s5.trans s6
      have b6 := b2.same s6
      have k6 := k2.same s6
      generalize upd H7 d6 (.lst ks) = H8 at s6 f1 f2 f4 f5 f6 b6 k6 ⊢
      refine q_pickL_law_other_pick (K := K) (D := D) b6.p (by omega) f6 n6 (by rw [← hks]; simp) (by rw [← hks]; simp) fun j y H9 hy kk9 hP9 => ?_
      have k9 := k6.step kk9 hP9
      have l89 := (LK.start b6.p b6.t).step kk9 hP9
      have g9 : ∀ {d : Addr} {o : HO}, H8 d = some o → (∀ s r, o ≠ penO P s r) → (∀ ps, o ≠ .tbl ps) → H9 d = some o := fun h n1 n2 => lk_get b6.p l89 h n1 n2
      have hty : TyK K H9 y (.type "str") false := by
        rw [← hks] at hy
        match j, hy with
        | 0, hy => cases hy; exact ⟨_, ty_non, kit_ty (by decide +kernel)⟩
        | 1, hy => cases hy; exact ⟨_, ty_int, kit_ty (by decide +kernel)⟩
        | 2, hy => cases hy; exact ⟨_, ty_bl, kit_ty (by decide +kernel)⟩
        | 3, hy => cases hy; exact ⟨_, ty_lst (g9 f1 (fun s r z => by unfold penO at z; cases z) (fun ps z => by cases z)), kit_ty (by decide +kernel)⟩
        | 4, hy => cases hy; exact ⟨_, ty_tup (g9 f2 (fun s r z => by cases z) (fun ps z => by cases z)), kit_ty (by decide +kernel)⟩
        | 5, hy => cases hy; exact ⟨_, ty_ins (g9 f4 (fun s r z => by cases z) (fun ps z => by cases z)) T.cl_Word T.ti_Word, T.k_Word_str⟩
        | 6, hy => cases hy; exact ⟨_, ty_dK (g9 f5 (fun s r z => by cases z) (fun ps z => by cases z)), kit_ty (by decide +kernel)⟩
        | 7, hy => cases hy; exact ⟨_, ty_int, kit_ty (by decide +kernel)⟩
        | j + 8, hy => cases hy
      clear hks hy g9 f1 f2 f4 f5 f6 s6 s5 s4 s2 s1 b6 l89 hd1 hd2 hd4 hd5 hd6 n6 b2 k6
      walk_at "gp"
      refine r_lamH k9.t fun H10 x10 T10 => ?_
      have k10 := k9.ext x10 T10
      have hty := tyK_ext x10 hty
      walk_at "gp"
      refine ⟨_, false, rfl, tyK_is hty, (fun _ => ?_), fun e => nomatch e⟩
      refine heardE T.ex_BadText_BallError fun a12 dd12 H12 s12 ha12 hd12 => ?_
      have k12 := k10.same s12
      have e12 : ErrAt H12 a12 D.BadText [("item", .int 0)] := ⟨dd12, ha12, hd12⟩
      clear ha12 hd12
      walk_at "go"
      refine r_isK (.own D.BadText) (err_isK e12 T.xi_BadText) ?_
      walk_at "go"
      refine err_at e12 T.xf_BadText_item rfl ?_
      walk_at "go"
      refine r_ie (by simp) ?_
      walk_at "go"
      refine err_at e12 T.xf_BadText_item rfl ?_
      walk_at "go"
      refine r_isBI ?_
      clear e12 hty
      walk_at "gp"
      refine r_cut (fun σ' H' => LK P Tb H1 300 H' ∧ ∃ v3 v4 v5 v6 v7, σ' = [some (.ref a), some (.ref P.p), v2, v3, v4, v5, v6, v7]) (fun nx hnx => ?_) ?_
      · walk_at "go"
        refine ⟨P, _, 12, rfl, k12.p, by omega, by decide, by decide, fun d H13 hd0 hd1 kk13 hP13 => ?_⟩
        have k13 := k12.step kk13 hP13
        walk_at "go"
        refine r_ib (fun e => ?_) (fun e => ?_)
        · walk_at "go"
          refine ⟨P, _, 2, rfl, k13.p, by omega, by decide, by decide, fun m H14 hm0 hm1 kk14 hP14 => ?_⟩
          have k14 := k13.step kk14 hP14
          obtain ⟨m, rfl⟩ := Int.eq_ofNat_of_zero_le hm0
          have em : (4000 : Int) + (m : Nat) = ((4000 + m : Nat) : Int) := by omega
          walk_at "go"
          rw [em]
          refine r_sz (by decide) fun d15 hd15 => ?_
          have s15 := same_upd (o := .lst [V.str (S [65]), .str (S [100, 67]), .str (S [97, 66])]) hd15
          have n15 : d15 ≠ P.p := k14.ne hd15
          have k15 := k14.same s15
          refine q_pickL_law_other_pick (K := K) (D := D) k15.p (by omega) upd_same n15 (by simp) (by simp) fun j y H16 hy kk16 hP16 => ?_
          have k16 := k15.step kk16 hP16
          obtain ⟨g, rfl, gg, cg, g1, g2⟩ : ∃ g : List Nat, y = .str (S g) ∧ Good g ∧ Cyc g ∧ 1 ≤ g.length ∧ g.length ≤ 2 := by
            match j, hy with
            | 0, hy => cases hy; exact ⟨_, rfl, rfl, jn_of (a := [65]) (b := [65]) rfl, by decide, by decide⟩
            | 1, hy => cases hy; exact ⟨_, rfl, rfl, jn_of (a := [100, 67]) (b := [100, 67]) rfl, by decide, by decide⟩
            | 2, hy => cases hy; exact ⟨_, rfl, rfl, jn_of (a := [97, 66]) (b := [97, 66]) rfl, by decide, by decide⟩
            | j + 3, hy => cases hy
          walk_at "go"
          refine r_mO rfl (by omega) (by omega) ?_
          have er : (List.replicate (4000 + m) g).flatten = rep (4000 + m) g := rfl
          rw [er]
          have hrl := Rp.rep_len (4000 + m) g
          have hr1 : (4000 + m) * 1 ≤ (4000 + m) * g.length := Nat.mul_le_mul_left _ g1
          have hr2 : (4000 + m) * g.length ≤ (4000 + m) * 2 := Nat.mul_le_mul_left _ g2
          have gr := good_take (cyc_rep gg cg (4000 + m)) (4000 + m)
          have hlt : ((rep (4000 + m) g).take (4000 + m)).length = 4000 + m := by rw [List.length_take, hrl]; omega
          walk_at "go"
          refine r_slS (cut_to _ (4000 + m)) (by omega) ?_
          walk_at "go"
          refine ⟨_, rfl, gr, fun z => by rw [z] at hlt; simp at hlt; omega, by omega, k16.t, fun H17 x17 T17 => ?_⟩
          walk_at "go"
          exact hnx _ _ ⟨(k16.ext x17 T17).mono (by omega), _, _, _, _, _, rfl⟩
        · walk_at "go"
          exact hnx _ _ ⟨k13.mono (by omega), _, _, _, _, _, rfl⟩
      · rintro σ' H13 ⟨k13, v3, v4, v5, v6, v7, rfl⟩
        walk_at "go"
        refine r_lamH k13.t fun H14 x14 T14 => ?_
        have k14 := k13.ext x14 T14
        walk_at "go"
        refine r_sz (by decide) fun d15 hd15 => ?_
        have s15 := same_upd (o := .lst [V.str (S [45]), .str (S [45, 65]), .str (S [45, 32])]) hd15
        have n15 : d15 ≠ P.p := k14.ne hd15
        have k15 := k14.same s15
        refine q_pickL_law_other_pick (K := K) (D := D) k15.p (by omega) upd_same n15 (by simp) (by simp) fun j y H16 hy kk16 hP16 => ?_
        have k16 := k15.step kk16 hP16
        obtain ⟨g, rfl, hg, lg⟩ : ∃ g : List Nat, y = .str (S g) ∧ fb [] 0 g = some 0 ∧ g.length ≤ 2 := by
          match j, hy with
          | 0, hy => cases hy; exact ⟨_, rfl, by decide, by decide⟩
          | 1, hy => cases hy; exact ⟨_, rfl, by decide, by decide⟩
          | 2, hy => cases hy; exact ⟨_, rfl, by decide, by decide⟩
          | j + 3, hy => cases hy
        walk_at "go"
        have ng : ¬ Good g := fun z => by unfold Good at z; rw [hg] at z; cases z
        refine q_WordX str_t (fun e => nomatch e) fun _ => ⟨g, rfl, by omega, fun i hi H17 s17 => ?_, fun z => absurd z ng, fun z => absurd z ng⟩
        rw [hg] at hi
        cases hi
        refine heardE T.ex_BadWord_BallError fun a18 dd18 H18 s18 ha18 hd18 => ?_
        have k18 := (k16.same s17).same s18
        have e18 : ErrAt H18 a18 D.BadWord [("at", .int (0 : Nat))] := ⟨dd18, ha18, hd18⟩
        clear ha18 hd18
        walk_at "go"
        refine r_isK (.own D.BadWord) (err_isK e18 T.xi_BadWord) ?_
        walk_at "go"
        refine err_at e18 T.xf_BadWord_at rfl ?_
        walk_at "go"
        refine r_it (by simp) ?_
        walk_at "go"
        refine ⟨[], rfl, by decide, k18.t, fun H19 x19 T19 => ?_⟩
        have k19 := k18.ext x19 T19
        walk_at "go"
        refine ⟨[45], rfl, by decide, k19.t, fun H20 x20 T20 => ?_⟩
        exact fin (k19.ext x20 T20)
abbrev st_law : Stmt := top 52
theorem sc_law : FnScope ["script"] ["script"] (defScope st_law) := ⟨rfl, rfl, rfl, by decide +kernel, rfl, by decide +kernel, by decide +kernel⟩
def sp_law (K : PySem.W.Frag) (D : Ad) (Tb : List (Addr × Str)) : Sp := fun vs H Q _ => ∃ (a : Addr) (ns : List Int), vs = [.ref a] ∧ SqL K H a (ns.map V.int) ∧ ns.length ≤ 63 ∧ Tabs Tb H ∧ ∀ H', Q (.bl true) H'
theorem ok_law {f : Addr} {fd : FuncData} {Tb : List (Addr × Str)} (F : Fun K "law" "law" st_law f fd) (T : Txt P w K mg base D) (d_law_first_part : CalN P w K mg base 8 "_law_first_part" (sp_law_first_part K D Tb)) (d_law_second_part : CalN P w K mg base 9 "_law_second_part" (sp_law_second_part K D Tb)) : FnOk P w K mg base CX0 10 f fd ["script"] (sp_law K D Tb) := by
  refine F.ok sc_law (fun vs H Q E h => ?_) (fun cdv A outer s H vs Q E hr h => ?_)
  · obtain ⟨a, ns, rfl, _⟩ := h
    rfl
  · obtain ⟨a, ns, rfl, ha, hl, hT, q⟩ := h
    have hu := hr.units
    refine ⟨_, (pss_one (ps_ret (pe_and (pe_c0 d_law_first_part hr (by decide) (pa_cons (pv 0) pa_nil)) (pe_one (pe_c0 d_law_second_part hr (by decide) (pa_cons (pv 0) pa_nil)))))), ?_⟩
    walk_at "go"
    refine ⟨a, ns, rfl, ha, hl, hT, fun H1 x1 T1 => ?_⟩
    walk_at "go"
    refine ⟨a, ns, rfl, sqL_ext x1 ha, hl, T1, fun H2 x2 T2 => ?_⟩
    exact q H2
end
end Cs

set_option Elab.async false
set_option linter.all false
set_option maxRecDepth 100000
set_option maxHeartbeats 4000000
namespace Cs
open PySem PySem.Spec PyProof.Rows L2 LamX
abbrev ei_BadNumber : Stmt := inClass (top 3) 0
theorem mk_BadNumber {P : Program} {w : World} {K : PySem.W.Frag} {mg : Str → Option Value} {base : Heap} {C fI : Addr} (T : PySem.ErrX.ECls P K C fI) (F : PySem.ErrX.EFun P K C fI (defArgs ei_BadNumber) (defBody ei_BadNumber) (defScope ei_BadNumber)) (no0 : PySem.W.findIn K (.ref C) "part" = some none) : EMk P w K mg base C fI ["part"] :=
  emk1 T ⟨rfl, by decide +kernel, rfl, rfl, rfl, rfl, rfl, by decide +kernel, ⟨_, _, rfl⟩, by decide +kernel⟩ F no0 (fun _ _ _ _ _ _ _ _ _ _ _ => .of_eq rfl) fun L cda cc qual => ⟨rfl, ⟨_, rfl⟩, rfl⟩
abbrev ei_BadText : Stmt := inClass (top 6) 0
theorem mk_BadText {P : Program} {w : World} {K : PySem.W.Frag} {mg : Str → Option Value} {base : Heap} {C fI : Addr} (T : PySem.ErrX.ECls P K C fI) (F : PySem.ErrX.EFun P K C fI (defArgs ei_BadText) (defBody ei_BadText) (defScope ei_BadText)) (no0 : PySem.W.findIn K (.ref C) "item" = some none) : EMk P w K mg base C fI ["item"] :=
  emk1 T ⟨rfl, by decide +kernel, rfl, rfl, rfl, rfl, rfl, by decide +kernel, ⟨_, _, rfl⟩, by decide +kernel⟩ F no0 (fun _ _ _ _ _ _ _ _ _ _ _ => .of_eq rfl) fun L cda cc qual => ⟨rfl, ⟨_, rfl⟩, rfl⟩
abbrev ei_BadWord : Stmt := inClass (top 4) 0
theorem mk_BadWord {P : Program} {w : World} {K : PySem.W.Frag} {mg : Str → Option Value} {base : Heap} {C fI : Addr} (T : PySem.ErrX.ECls P K C fI) (F : PySem.ErrX.EFun P K C fI (defArgs ei_BadWord) (defBody ei_BadWord) (defScope ei_BadWord)) (no0 : PySem.W.findIn K (.ref C) "at" = some none) : EMk P w K mg base C fI ["at"] :=
  emk1 T ⟨rfl, by decide +kernel, rfl, rfl, rfl, rfl, rfl, by decide +kernel, ⟨_, _, rfl⟩, by decide +kernel⟩ F no0 (fun _ _ _ _ _ _ _ _ _ _ _ => .of_eq rfl) fun L cda cc qual => ⟨rfl, ⟨_, rfl⟩, rfl⟩
abbrev ei_TooMany : Stmt := inClass (top 5) 0
theorem mk_TooMany {P : Program} {w : World} {K : PySem.W.Frag} {mg : Str → Option Value} {base : Heap} {C fI : Addr} (T : PySem.ErrX.ECls P K C fI) (F : PySem.ErrX.EFun P K C fI (defArgs ei_TooMany) (defBody ei_TooMany) (defScope ei_TooMany)) (no0 : PySem.W.findIn K (.ref C) "what" = some none) (no1 : PySem.W.findIn K (.ref C) "most" = some none) : EMk P w K mg base C fI ["what", "most"] :=
  emk2 T ⟨rfl, by decide +kernel, rfl, rfl, rfl, rfl, rfl, by decide +kernel, ⟨_, _, rfl⟩, by decide +kernel⟩ F no0 no1 (fun _ _ _ _ _ _ _ _ _ _ _ _ => .of_eq rfl) fun L cda cc qual => ⟨rfl, ⟨_, rfl⟩, rfl, rfl⟩
theorem all_mk {l : PySem.W.OpenLaw} {w : World} {K : PySem.W.Frag} {h : Heap} {mg : Str → Option Value} {fa : Addr} (X : K.In h) (G : h.Ns mainGlobals mg) (hfa : mg "law" = some (.ref fa))
    {f_law_heard f_need_row f_need_word f_Word_init f_undone f_product f_Word_mul f_Word_invert f_Word_len f_Word_str f_Word_eq f_is_integer f_is_letter f_is_row f_lone f_coat_of f_period_of f_Word_power f_Word_root f_Word_core f_Word_read f_commute f_law_pen f_law_draw f_law_pick f_law_other_draw f_law_other_pick f_law_undo f_law_row f_law_other_row f_law_back f_law_join f_law_power f_law_drawn f_law_peeled f_law_root f_law_word_right f_law_alike f_law_told f_law_pair_right f_law_due f_law_spoiled f_law_text_right f_law_long_right f_law_refused_right f_law_first_part f_law_second_part f_law : Addr}
    {C_BadNumber C_BadText C_BadWord C_BallError C_TooMany C_Word : Addr}
    {i_BadNumber i_BadText i_BadWord i_TooMany : Addr}
    {od_law_heard an_law_heard : Option Addr} {sl_law_heard : Array (Option Value)} {oc_law_heard kV_law_heard dc_law_heard pm_law_heard cd_law_heard ct_law_heard : Value}
    {od_need_row an_need_row : Option Addr} {sl_need_row : Array (Option Value)} {oc_need_row kV_need_row dc_need_row pm_need_row cd_need_row ct_need_row : Value}
    {od_need_word an_need_word : Option Addr} {sl_need_word : Array (Option Value)} {oc_need_word kV_need_word dc_need_word pm_need_word cd_need_word ct_need_word : Value}
    {od_Word_init an_Word_init : Option Addr} {sl_Word_init : Array (Option Value)} {oc_Word_init kV_Word_init dc_Word_init pm_Word_init cd_Word_init ct_Word_init : Value}
    {dT_Word_init : Addr} {tc_Word_init : Value} {td_Word_init : Option Addr} {tn_Word_init : Nat} {tsl_Word_init : Array (Option Value)} {tt_Word_init : Tok}
    {od_undone an_undone : Option Addr} {sl_undone : Array (Option Value)} {oc_undone kV_undone dc_undone pm_undone cd_undone ct_undone : Value}
    {od_product an_product : Option Addr} {sl_product : Array (Option Value)} {oc_product kV_product dc_product pm_product cd_product ct_product : Value}
    {od_Word_mul an_Word_mul : Option Addr} {sl_Word_mul : Array (Option Value)} {oc_Word_mul kV_Word_mul dc_Word_mul pm_Word_mul cd_Word_mul ct_Word_mul : Value}
    {od_Word_invert an_Word_invert : Option Addr} {sl_Word_invert : Array (Option Value)} {oc_Word_invert kV_Word_invert dc_Word_invert pm_Word_invert cd_Word_invert ct_Word_invert : Value}
    {od_Word_len an_Word_len : Option Addr} {sl_Word_len : Array (Option Value)} {oc_Word_len kV_Word_len dc_Word_len pm_Word_len cd_Word_len ct_Word_len : Value}
    {od_Word_str an_Word_str : Option Addr} {sl_Word_str : Array (Option Value)} {oc_Word_str kV_Word_str dc_Word_str pm_Word_str cd_Word_str ct_Word_str : Value}
    {od_Word_eq an_Word_eq : Option Addr} {sl_Word_eq : Array (Option Value)} {oc_Word_eq kV_Word_eq dc_Word_eq pm_Word_eq cd_Word_eq ct_Word_eq : Value}
    {od_is_integer an_is_integer : Option Addr} {sl_is_integer : Array (Option Value)} {oc_is_integer kV_is_integer dc_is_integer pm_is_integer cd_is_integer ct_is_integer : Value}
    {od_is_letter an_is_letter : Option Addr} {sl_is_letter : Array (Option Value)} {oc_is_letter kV_is_letter dc_is_letter pm_is_letter cd_is_letter ct_is_letter : Value}
    {od_is_row an_is_row : Option Addr} {sl_is_row : Array (Option Value)} {oc_is_row kV_is_row dc_is_row pm_is_row cd_is_row ct_is_row : Value}
    {od_lone an_lone : Option Addr} {sl_lone : Array (Option Value)} {oc_lone kV_lone dc_lone pm_lone cd_lone ct_lone : Value}
    {od_coat_of an_coat_of : Option Addr} {sl_coat_of : Array (Option Value)} {oc_coat_of kV_coat_of dc_coat_of pm_coat_of cd_coat_of ct_coat_of : Value}
    {od_period_of an_period_of : Option Addr} {sl_period_of : Array (Option Value)} {oc_period_of kV_period_of dc_period_of pm_period_of cd_period_of ct_period_of : Value}
    {od_Word_power an_Word_power : Option Addr} {sl_Word_power : Array (Option Value)} {oc_Word_power kV_Word_power dc_Word_power pm_Word_power cd_Word_power ct_Word_power : Value}
    {od_Word_root an_Word_root : Option Addr} {sl_Word_root : Array (Option Value)} {oc_Word_root kV_Word_root dc_Word_root pm_Word_root cd_Word_root ct_Word_root : Value}
    {od_Word_core an_Word_core : Option Addr} {sl_Word_core : Array (Option Value)} {oc_Word_core kV_Word_core dc_Word_core pm_Word_core cd_Word_core ct_Word_core : Value}
    {od_Word_read an_Word_read : Option Addr} {sl_Word_read : Array (Option Value)} {oc_Word_read kV_Word_read dc_Word_read pm_Word_read cd_Word_read ct_Word_read : Value}
    {spa_Word_read : Addr} {sr_Word_read : List Value}
    {od_commute an_commute : Option Addr} {sl_commute : Array (Option Value)} {oc_commute kV_commute dc_commute pm_commute cd_commute ct_commute : Value}
    {od_law_pen an_law_pen : Option Addr} {sl_law_pen : Array (Option Value)} {oc_law_pen kV_law_pen dc_law_pen pm_law_pen cd_law_pen ct_law_pen : Value}
    {od_law_draw an_law_draw : Option Addr} {sl_law_draw : Array (Option Value)} {oc_law_draw kV_law_draw dc_law_draw pm_law_draw cd_law_draw ct_law_draw : Value}
    {od_law_pick an_law_pick : Option Addr} {sl_law_pick : Array (Option Value)} {oc_law_pick kV_law_pick dc_law_pick pm_law_pick cd_law_pick ct_law_pick : Value}
    {od_law_other_draw an_law_other_draw : Option Addr} {sl_law_other_draw : Array (Option Value)} {oc_law_other_draw kV_law_other_draw dc_law_other_draw pm_law_other_draw cd_law_other_draw ct_law_other_draw : Value}
    {od_law_other_pick an_law_other_pick : Option Addr} {sl_law_other_pick : Array (Option Value)} {oc_law_other_pick kV_law_other_pick dc_law_other_pick pm_law_other_pick cd_law_other_pick ct_law_other_pick : Value}
    {od_law_undo an_law_undo : Option Addr} {sl_law_undo : Array (Option Value)} {oc_law_undo kV_law_undo dc_law_undo pm_law_undo cd_law_undo ct_law_undo : Value}
    {od_law_row an_law_row : Option Addr} {sl_law_row : Array (Option Value)} {oc_law_row kV_law_row dc_law_row pm_law_row cd_law_row ct_law_row : Value}
    {od_law_other_row an_law_other_row : Option Addr} {sl_law_other_row : Array (Option Value)} {oc_law_other_row kV_law_other_row dc_law_other_row pm_law_other_row cd_law_other_row ct_law_other_row : Value}
    {od_law_back an_law_back : Option Addr} {sl_law_back : Array (Option Value)} {oc_law_back kV_law_back dc_law_back pm_law_back cd_law_back ct_law_back : Value}
    {od_law_join an_law_join : Option Addr} {sl_law_join : Array (Option Value)} {oc_law_join kV_law_join dc_law_join pm_law_join cd_law_join ct_law_join : Value}
    {od_law_power an_law_power : Option Addr} {sl_law_power : Array (Option Value)} {oc_law_power kV_law_power dc_law_power pm_law_power cd_law_power ct_law_power : Value}
    {od_law_drawn an_law_drawn : Option Addr} {sl_law_drawn : Array (Option Value)} {oc_law_drawn kV_law_drawn dc_law_drawn pm_law_drawn cd_law_drawn ct_law_drawn : Value}
    {od_law_peeled an_law_peeled : Option Addr} {sl_law_peeled : Array (Option Value)} {oc_law_peeled kV_law_peeled dc_law_peeled pm_law_peeled cd_law_peeled ct_law_peeled : Value}
    {od_law_root an_law_root : Option Addr} {sl_law_root : Array (Option Value)} {oc_law_root kV_law_root dc_law_root pm_law_root cd_law_root ct_law_root : Value}
    {od_law_word_right an_law_word_right : Option Addr} {sl_law_word_right : Array (Option Value)} {oc_law_word_right kV_law_word_right dc_law_word_right pm_law_word_right cd_law_word_right ct_law_word_right : Value}
    {od_law_alike an_law_alike : Option Addr} {sl_law_alike : Array (Option Value)} {oc_law_alike kV_law_alike dc_law_alike pm_law_alike cd_law_alike ct_law_alike : Value}
    {od_law_told an_law_told : Option Addr} {sl_law_told : Array (Option Value)} {oc_law_told kV_law_told dc_law_told pm_law_told cd_law_told ct_law_told : Value}
    {od_law_pair_right an_law_pair_right : Option Addr} {sl_law_pair_right : Array (Option Value)} {oc_law_pair_right kV_law_pair_right dc_law_pair_right pm_law_pair_right cd_law_pair_right ct_law_pair_right : Value}
    {od_law_due an_law_due : Option Addr} {sl_law_due : Array (Option Value)} {oc_law_due kV_law_due dc_law_due pm_law_due cd_law_due ct_law_due : Value}
    {od_law_spoiled an_law_spoiled : Option Addr} {sl_law_spoiled : Array (Option Value)} {oc_law_spoiled kV_law_spoiled dc_law_spoiled pm_law_spoiled cd_law_spoiled ct_law_spoiled : Value}
    {od_law_text_right an_law_text_right : Option Addr} {sl_law_text_right : Array (Option Value)} {oc_law_text_right kV_law_text_right dc_law_text_right pm_law_text_right ct_law_text_right : Value}
    {cc_law_text_right pt_law_text_right : Addr} {ccl_law_text_right : Value} {cdd_law_text_right : Option Addr} {cvs_law_text_right : Array Value} {ccs_law_text_right : Array (Option Value)}
    {od_law_long_right an_law_long_right : Option Addr} {sl_law_long_right : Array (Option Value)} {oc_law_long_right kV_law_long_right dc_law_long_right pm_law_long_right ct_law_long_right : Value}
    {cc_law_long_right pt_law_long_right : Addr} {ccl_law_long_right : Value} {cdd_law_long_right : Option Addr} {cvs_law_long_right : Array Value} {ccs_law_long_right : Array (Option Value)}
    {od_law_refused_right an_law_refused_right : Option Addr} {sl_law_refused_right : Array (Option Value)} {oc_law_refused_right kV_law_refused_right dc_law_refused_right pm_law_refused_right ct_law_refused_right : Value}
    {cc_law_refused_right pt_law_refused_right : Addr} {ccl_law_refused_right : Value} {cdd_law_refused_right : Option Addr} {cvs_law_refused_right : Array Value} {ccs_law_refused_right : Array (Option Value)}
    {od_law_first_part an_law_first_part : Option Addr} {sl_law_first_part : Array (Option Value)} {oc_law_first_part kV_law_first_part dc_law_first_part pm_law_first_part cd_law_first_part ct_law_first_part : Value}
    {od_law_second_part an_law_second_part : Option Addr} {sl_law_second_part : Array (Option Value)} {oc_law_second_part kV_law_second_part dc_law_second_part pm_law_second_part ct_law_second_part : Value}
    {cc_law_second_part pt_law_second_part : Addr} {ccl_law_second_part : Value} {cdd_law_second_part : Option Addr} {cvs_law_second_part : Array Value} {ccs_law_second_part : Array (Option Value)}
    {od_law an_law : Option Addr} {sl_law : Array (Option Value)} {oc_law kV_law dc_law pm_law cd_law ct_law : Value}
    {fo_NoneType ro_NoneType : Option Value}
    {fo_int ro_int : Option Value}
    {fo_bool ro_bool : Option Value}
    {fo_str ro_str : Option Value}
    {fo_list ro_list : Option Value}
    {fo_tuple ro_tuple : Option Value}
    {nm_BadNumber q_BadNumber : Str} {N_BadNumber cda_BadNumber cc_BadNumber : Addr} {bs_BadNumber sub_BadNumber : List Value} {sn_BadNumber : List Str} {ab_BadNumber : Bool} {col_BadNumber : Option Bool} {dd_BadNumber od_BadNumber an_BadNumber cdd_BadNumber cld_BadNumber : Option Addr} {m0_BadNumber m1_BadNumber m2_BadNumber m3_BadNumber m5_BadNumber : Option Value} {oc_BadNumber kV_BadNumber doc_BadNumber pm_BadNumber ct_BadNumber ccl_BadNumber cl_BadNumber : Value} {osl_BadNumber ccs_BadNumber csl_BadNumber : Array (Option Value)} {vs_BadNumber : Array Value} {file_BadNumber : Str} {tf_BadNumber : Tok}
    {nm_BadText q_BadText : Str} {N_BadText cda_BadText cc_BadText : Addr} {bs_BadText sub_BadText : List Value} {sn_BadText : List Str} {ab_BadText : Bool} {col_BadText : Option Bool} {dd_BadText od_BadText an_BadText cdd_BadText cld_BadText : Option Addr} {m0_BadText m1_BadText m2_BadText m3_BadText m5_BadText : Option Value} {oc_BadText kV_BadText doc_BadText pm_BadText ct_BadText ccl_BadText cl_BadText : Value} {osl_BadText ccs_BadText csl_BadText : Array (Option Value)} {vs_BadText : Array Value} {file_BadText : Str} {tf_BadText : Tok}
    {nm_BadWord q_BadWord : Str} {N_BadWord cda_BadWord cc_BadWord : Addr} {bs_BadWord sub_BadWord : List Value} {sn_BadWord : List Str} {ab_BadWord : Bool} {col_BadWord : Option Bool} {dd_BadWord od_BadWord an_BadWord cdd_BadWord cld_BadWord : Option Addr} {m0_BadWord m1_BadWord m2_BadWord m3_BadWord m5_BadWord : Option Value} {oc_BadWord kV_BadWord doc_BadWord pm_BadWord ct_BadWord ccl_BadWord cl_BadWord : Value} {osl_BadWord ccs_BadWord csl_BadWord : Array (Option Value)} {vs_BadWord : Array Value} {file_BadWord : Str} {tf_BadWord : Tok}
    {nm_TooMany q_TooMany : Str} {N_TooMany cda_TooMany cc_TooMany : Addr} {bs_TooMany sub_TooMany : List Value} {sn_TooMany : List Str} {ab_TooMany : Bool} {col_TooMany : Option Bool} {dd_TooMany od_TooMany an_TooMany cdd_TooMany cld_TooMany : Option Addr} {m0_TooMany m1_TooMany m2_TooMany m3_TooMany m5_TooMany : Option Value} {oc_TooMany kV_TooMany doc_TooMany pm_TooMany ct_TooMany ccl_TooMany cl_TooMany : Value} {osl_TooMany ccs_TooMany csl_TooMany : Array (Option Value)} {vs_TooMany : Array Value} {file_TooMany : Str} {tf_TooMany : Tok}
    {tg_LETTERS : Tok}
    {tg_MOST_LETTERS : Tok}
    (a_BadNumber : PySem.W.nsIn K mainGlobals "BadNumber" = some (some (.ref C_BadNumber)))
    (a_BadText : PySem.W.nsIn K mainGlobals "BadText" = some (some (.ref C_BadText)))
    (a_BadWord : PySem.W.nsIn K mainGlobals "BadWord" = some (some (.ref C_BadWord)))
    (a_BallError : PySem.W.nsIn K mainGlobals "BallError" = some (some (.ref C_BallError)))
    (a_TooMany : PySem.W.nsIn K mainGlobals "TooMany" = some (some (.ref C_TooMany)))
    (a_Word : PySem.W.nsIn K mainGlobals "Word" = some (some (.ref C_Word)))
    (a_law_heard : PySem.W.nsIn K mainGlobals "_law_heard" = some (some (.ref f_law_heard)))
    (l_law_heard : K.lookup f_law_heard = some ⟨oc_law_heard, od_law_heard, .func (PySem.W.fnOf "_law_heard" "_law_heard" (defArgs st__law_heard0) (defBody st__law_heard0) (defScope st__law_heard0) .none kV_law_heard dc_law_heard pm_law_heard an_law_heard cd_law_heard ct_law_heard), sl_law_heard⟩)
    (c_law_heard : PySem.W.codeIn K cd_law_heard "_law_heard" = true)
    (k_law_heard : PySem.W.keepIn K (.ref f_law_heard) = true)
    (a_need_row : PySem.W.nsIn K mainGlobals "need_row" = some (some (.ref f_need_row)))
    (l_need_row : K.lookup f_need_row = some ⟨oc_need_row, od_need_row, .func (PySem.W.fnOf "need_row" "need_row" (defArgs st_need_row) (defBody st_need_row) (defScope st_need_row) .none kV_need_row dc_need_row pm_need_row an_need_row cd_need_row ct_need_row), sl_need_row⟩)
    (c_need_row : PySem.W.codeIn K cd_need_row "need_row" = true)
    (k_need_row : PySem.W.keepIn K (.ref f_need_row) = true)
    (a_need_word : PySem.W.nsIn K mainGlobals "need_word" = some (some (.ref f_need_word)))
    (l_need_word : K.lookup f_need_word = some ⟨oc_need_word, od_need_word, .func (PySem.W.fnOf "need_word" "need_word" (defArgs st_need_word) (defBody st_need_word) (defScope st_need_word) .none kV_need_word dc_need_word pm_need_word an_need_word cd_need_word ct_need_word), sl_need_word⟩)
    (c_need_word : PySem.W.codeIn K cd_need_word "need_word" = true)
    (k_need_word : PySem.W.keepIn K (.ref f_need_word) = true)
    (a_Word_init : PySem.W.findIn K (.ref C_Word) "__init__" = some (some (.ref f_Word_init)))
    (l_Word_init : K.lookup f_Word_init = some ⟨oc_Word_init, od_Word_init, .func (PySem.W.fnOf "__init__" "Word.__init__" (defArgs st_Word_init) (defBody st_Word_init) (defScope st_Word_init) (.ref dT_Word_init) kV_Word_init dc_Word_init pm_Word_init an_Word_init cd_Word_init ct_Word_init), sl_Word_init⟩)
    (c_Word_init : PySem.W.codeIn K cd_Word_init "Word.__init__" = true)
    (k_Word_init : PySem.W.keepIn K (.ref f_Word_init) = true)
    (t_Word_init : K.lookup dT_Word_init = some ⟨tc_Word_init, td_Word_init, .seq #[.str (S []) tt_Word_init] tn_Word_init, tsl_Word_init⟩)
    (i_Word_init : PySem.W.isFn K (.ref f_Word_init) = true)
    (a_undone : PySem.W.nsIn K mainGlobals "undone" = some (some (.ref f_undone)))
    (l_undone : K.lookup f_undone = some ⟨oc_undone, od_undone, .func (PySem.W.fnOf "undone" "undone" (defArgs st_undone) (defBody st_undone) (defScope st_undone) .none kV_undone dc_undone pm_undone an_undone cd_undone ct_undone), sl_undone⟩)
    (c_undone : PySem.W.codeIn K cd_undone "undone" = true)
    (k_undone : PySem.W.keepIn K (.ref f_undone) = true)
    (a_product : PySem.W.nsIn K mainGlobals "product" = some (some (.ref f_product)))
    (l_product : K.lookup f_product = some ⟨oc_product, od_product, .func (PySem.W.fnOf "product" "product" (defArgs st_product) (defBody st_product) (defScope st_product) .none kV_product dc_product pm_product an_product cd_product ct_product), sl_product⟩)
    (c_product : PySem.W.codeIn K cd_product "product" = true)
    (k_product : PySem.W.keepIn K (.ref f_product) = true)
    (a_Word_mul : PySem.W.findIn K (.ref C_Word) "__mul__" = some (some (.ref f_Word_mul)))
    (l_Word_mul : K.lookup f_Word_mul = some ⟨oc_Word_mul, od_Word_mul, .func (PySem.W.fnOf "__mul__" "Word.__mul__" (defArgs st_Word_mul) (defBody st_Word_mul) (defScope st_Word_mul) .none kV_Word_mul dc_Word_mul pm_Word_mul an_Word_mul cd_Word_mul ct_Word_mul), sl_Word_mul⟩)
    (c_Word_mul : PySem.W.codeIn K cd_Word_mul "Word.__mul__" = true)
    (k_Word_mul : PySem.W.keepIn K (.ref f_Word_mul) = true)
    (i_Word_mul : PySem.W.isFn K (.ref f_Word_mul) = true)
    (a_Word_invert : PySem.W.findIn K (.ref C_Word) "__invert__" = some (some (.ref f_Word_invert)))
    (l_Word_invert : K.lookup f_Word_invert = some ⟨oc_Word_invert, od_Word_invert, .func (PySem.W.fnOf "__invert__" "Word.__invert__" (defArgs st_Word_invert) (defBody st_Word_invert) (defScope st_Word_invert) .none kV_Word_invert dc_Word_invert pm_Word_invert an_Word_invert cd_Word_invert ct_Word_invert), sl_Word_invert⟩)
    (c_Word_invert : PySem.W.codeIn K cd_Word_invert "Word.__invert__" = true)
    (k_Word_invert : PySem.W.keepIn K (.ref f_Word_invert) = true)
    (i_Word_invert : PySem.W.isFn K (.ref f_Word_invert) = true)
    (a_Word_len : PySem.W.findIn K (.ref C_Word) "__len__" = some (some (.ref f_Word_len)))
    (l_Word_len : K.lookup f_Word_len = some ⟨oc_Word_len, od_Word_len, .func (PySem.W.fnOf "__len__" "Word.__len__" (defArgs st_Word_len) (defBody st_Word_len) (defScope st_Word_len) .none kV_Word_len dc_Word_len pm_Word_len an_Word_len cd_Word_len ct_Word_len), sl_Word_len⟩)
    (c_Word_len : PySem.W.codeIn K cd_Word_len "Word.__len__" = true)
    (k_Word_len : PySem.W.keepIn K (.ref f_Word_len) = true)
    (i_Word_len : PySem.W.isFn K (.ref f_Word_len) = true)
    (a_Word_str : PySem.W.findIn K (.ref C_Word) "__str__" = some (some (.ref f_Word_str)))
    (l_Word_str : K.lookup f_Word_str = some ⟨oc_Word_str, od_Word_str, .func (PySem.W.fnOf "__str__" "Word.__str__" (defArgs st_Word_str) (defBody st_Word_str) (defScope st_Word_str) .none kV_Word_str dc_Word_str pm_Word_str an_Word_str cd_Word_str ct_Word_str), sl_Word_str⟩)
    (c_Word_str : PySem.W.codeIn K cd_Word_str "Word.__str__" = true)
    (k_Word_str : PySem.W.keepIn K (.ref f_Word_str) = true)
    (i_Word_str : PySem.W.isFn K (.ref f_Word_str) = true)
    (a_Word_eq : PySem.W.findIn K (.ref C_Word) "__eq__" = some (some (.ref f_Word_eq)))
    (l_Word_eq : K.lookup f_Word_eq = some ⟨oc_Word_eq, od_Word_eq, .func (PySem.W.fnOf "__eq__" "Word.__eq__" (defArgs st_Word_eq) (defBody st_Word_eq) (defScope st_Word_eq) .none kV_Word_eq dc_Word_eq pm_Word_eq an_Word_eq cd_Word_eq ct_Word_eq), sl_Word_eq⟩)
    (c_Word_eq : PySem.W.codeIn K cd_Word_eq "Word.__eq__" = true)
    (k_Word_eq : PySem.W.keepIn K (.ref f_Word_eq) = true)
    (i_Word_eq : PySem.W.isFn K (.ref f_Word_eq) = true)
    (a_is_integer : PySem.W.nsIn K mainGlobals "is_integer" = some (some (.ref f_is_integer)))
    (l_is_integer : K.lookup f_is_integer = some ⟨oc_is_integer, od_is_integer, .func (PySem.W.fnOf "is_integer" "is_integer" (defArgs st_is_integer) (defBody st_is_integer) (defScope st_is_integer) .none kV_is_integer dc_is_integer pm_is_integer an_is_integer cd_is_integer ct_is_integer), sl_is_integer⟩)
    (c_is_integer : PySem.W.codeIn K cd_is_integer "is_integer" = true)
    (k_is_integer : PySem.W.keepIn K (.ref f_is_integer) = true)
    (a_is_letter : PySem.W.nsIn K mainGlobals "is_letter" = some (some (.ref f_is_letter)))
    (l_is_letter : K.lookup f_is_letter = some ⟨oc_is_letter, od_is_letter, .func (PySem.W.fnOf "is_letter" "is_letter" (defArgs st_is_letter) (defBody st_is_letter) (defScope st_is_letter) .none kV_is_letter dc_is_letter pm_is_letter an_is_letter cd_is_letter ct_is_letter), sl_is_letter⟩)
    (c_is_letter : PySem.W.codeIn K cd_is_letter "is_letter" = true)
    (k_is_letter : PySem.W.keepIn K (.ref f_is_letter) = true)
    (a_is_row : PySem.W.nsIn K mainGlobals "is_row" = some (some (.ref f_is_row)))
    (l_is_row : K.lookup f_is_row = some ⟨oc_is_row, od_is_row, .func (PySem.W.fnOf "is_row" "is_row" (defArgs st_is_row) (defBody st_is_row) (defScope st_is_row) .none kV_is_row dc_is_row pm_is_row an_is_row cd_is_row ct_is_row), sl_is_row⟩)
    (c_is_row : PySem.W.codeIn K cd_is_row "is_row" = true)
    (k_is_row : PySem.W.keepIn K (.ref f_is_row) = true)
    (a_lone : PySem.W.nsIn K mainGlobals "lone" = some (some (.ref f_lone)))
    (l_lone : K.lookup f_lone = some ⟨oc_lone, od_lone, .func (PySem.W.fnOf "lone" "lone" (defArgs st_lone) (defBody st_lone) (defScope st_lone) .none kV_lone dc_lone pm_lone an_lone cd_lone ct_lone), sl_lone⟩)
    (c_lone : PySem.W.codeIn K cd_lone "lone" = true)
    (k_lone : PySem.W.keepIn K (.ref f_lone) = true)
    (a_coat_of : PySem.W.nsIn K mainGlobals "coat_of" = some (some (.ref f_coat_of)))
    (l_coat_of : K.lookup f_coat_of = some ⟨oc_coat_of, od_coat_of, .func (PySem.W.fnOf "coat_of" "coat_of" (defArgs st_coat_of) (defBody st_coat_of) (defScope st_coat_of) .none kV_coat_of dc_coat_of pm_coat_of an_coat_of cd_coat_of ct_coat_of), sl_coat_of⟩)
    (c_coat_of : PySem.W.codeIn K cd_coat_of "coat_of" = true)
    (k_coat_of : PySem.W.keepIn K (.ref f_coat_of) = true)
    (a_period_of : PySem.W.nsIn K mainGlobals "period_of" = some (some (.ref f_period_of)))
    (l_period_of : K.lookup f_period_of = some ⟨oc_period_of, od_period_of, .func (PySem.W.fnOf "period_of" "period_of" (defArgs st_period_of) (defBody st_period_of) (defScope st_period_of) .none kV_period_of dc_period_of pm_period_of an_period_of cd_period_of ct_period_of), sl_period_of⟩)
    (c_period_of : PySem.W.codeIn K cd_period_of "period_of" = true)
    (k_period_of : PySem.W.keepIn K (.ref f_period_of) = true)
    (a_Word_power : PySem.W.findIn K (.ref C_Word) "power" = some (some (.ref f_Word_power)))
    (l_Word_power : K.lookup f_Word_power = some ⟨oc_Word_power, od_Word_power, .func (PySem.W.fnOf "power" "Word.power" (defArgs st_Word_power) (defBody st_Word_power) (defScope st_Word_power) .none kV_Word_power dc_Word_power pm_Word_power an_Word_power cd_Word_power ct_Word_power), sl_Word_power⟩)
    (c_Word_power : PySem.W.codeIn K cd_Word_power "Word.power" = true)
    (k_Word_power : PySem.W.keepIn K (.ref f_Word_power) = true)
    (i_Word_power : PySem.W.isFn K (.ref f_Word_power) = true)
    (a_Word_root : PySem.W.findIn K (.ref C_Word) "root" = some (some (.ref f_Word_root)))
    (l_Word_root : K.lookup f_Word_root = some ⟨oc_Word_root, od_Word_root, .func (PySem.W.fnOf "root" "Word.root" (defArgs st_Word_root) (defBody st_Word_root) (defScope st_Word_root) .none kV_Word_root dc_Word_root pm_Word_root an_Word_root cd_Word_root ct_Word_root), sl_Word_root⟩)
    (c_Word_root : PySem.W.codeIn K cd_Word_root "Word.root" = true)
    (k_Word_root : PySem.W.keepIn K (.ref f_Word_root) = true)
    (i_Word_root : PySem.W.isFn K (.ref f_Word_root) = true)
    (a_Word_core : PySem.W.findIn K (.ref C_Word) "core" = some (some (.ref f_Word_core)))
    (l_Word_core : K.lookup f_Word_core = some ⟨oc_Word_core, od_Word_core, .func (PySem.W.fnOf "core" "Word.core" (defArgs st_Word_core) (defBody st_Word_core) (defScope st_Word_core) .none kV_Word_core dc_Word_core pm_Word_core an_Word_core cd_Word_core ct_Word_core), sl_Word_core⟩)
    (c_Word_core : PySem.W.codeIn K cd_Word_core "Word.core" = true)
    (k_Word_core : PySem.W.keepIn K (.ref f_Word_core) = true)
    (i_Word_core : PySem.W.isFn K (.ref f_Word_core) = true)
    (rd_Word : PySem.W.readsIn K C_Word (.type "type") = true)
    (gat_Word : PySem.W.specialIn K (.ref C_Word) "__getattribute__" = some (some (.builtin "type.__getattribute__")))
    (sa1_Word_read : PySem.W.findCls K (.ref C_Word) (.type "type") "read" = some (.get (.builtin "staticmethod.__get__") (.ref spa_Word_read) .none (.ref C_Word)))
    (sa2_Word_read : PySem.W.recIn K spa_Word_read "staticmethod" = some (.ref f_Word_read :: sr_Word_read))
    (l_Word_read : K.lookup f_Word_read = some ⟨oc_Word_read, od_Word_read, .func (PySem.W.fnOf "read" "Word.read" (defArgs st_Word_read) (defBody st_Word_read) (defScope st_Word_read) .none kV_Word_read dc_Word_read pm_Word_read an_Word_read cd_Word_read ct_Word_read), sl_Word_read⟩)
    (c_Word_read : PySem.W.codeIn K cd_Word_read "Word.read" = true)
    (k_Word_read : PySem.W.keepIn K (.ref f_Word_read) = true)
    (a_commute : PySem.W.nsIn K mainGlobals "commute" = some (some (.ref f_commute)))
    (l_commute : K.lookup f_commute = some ⟨oc_commute, od_commute, .func (PySem.W.fnOf "commute" "commute" (defArgs st_commute) (defBody st_commute) (defScope st_commute) .none kV_commute dc_commute pm_commute an_commute cd_commute ct_commute), sl_commute⟩)
    (c_commute : PySem.W.codeIn K cd_commute "commute" = true)
    (k_commute : PySem.W.keepIn K (.ref f_commute) = true)
    (a_law_pen : PySem.W.nsIn K mainGlobals "_law_pen" = some (some (.ref f_law_pen)))
    (l_law_pen : K.lookup f_law_pen = some ⟨oc_law_pen, od_law_pen, .func (PySem.W.fnOf "_law_pen" "_law_pen" (defArgs st_law_pen) (defBody st_law_pen) (defScope st_law_pen) .none kV_law_pen dc_law_pen pm_law_pen an_law_pen cd_law_pen ct_law_pen), sl_law_pen⟩)
    (c_law_pen : PySem.W.codeIn K cd_law_pen "_law_pen" = true)
    (k_law_pen : PySem.W.keepIn K (.ref f_law_pen) = true)
    (a_law_draw : PySem.W.nsIn K mainGlobals "_law_draw" = some (some (.ref f_law_draw)))
    (l_law_draw : K.lookup f_law_draw = some ⟨oc_law_draw, od_law_draw, .func (PySem.W.fnOf "_law_draw" "_law_draw" (defArgs st_law_draw) (defBody st_law_draw) (defScope st_law_draw) .none kV_law_draw dc_law_draw pm_law_draw an_law_draw cd_law_draw ct_law_draw), sl_law_draw⟩)
    (c_law_draw : PySem.W.codeIn K cd_law_draw "_law_draw" = true)
    (k_law_draw : PySem.W.keepIn K (.ref f_law_draw) = true)
    (a_law_pick : PySem.W.nsIn K mainGlobals "_law_pick" = some (some (.ref f_law_pick)))
    (l_law_pick : K.lookup f_law_pick = some ⟨oc_law_pick, od_law_pick, .func (PySem.W.fnOf "_law_pick" "_law_pick" (defArgs st_law_pick) (defBody st_law_pick) (defScope st_law_pick) .none kV_law_pick dc_law_pick pm_law_pick an_law_pick cd_law_pick ct_law_pick), sl_law_pick⟩)
    (c_law_pick : PySem.W.codeIn K cd_law_pick "_law_pick" = true)
    (k_law_pick : PySem.W.keepIn K (.ref f_law_pick) = true)
    (a_law_other_draw : PySem.W.nsIn K mainGlobals "_law_other_draw" = some (some (.ref f_law_other_draw)))
    (l_law_other_draw : K.lookup f_law_other_draw = some ⟨oc_law_other_draw, od_law_other_draw, .func (PySem.W.fnOf "_law_other_draw" "_law_other_draw" (defArgs st_law_other_draw) (defBody st_law_other_draw) (defScope st_law_other_draw) .none kV_law_other_draw dc_law_other_draw pm_law_other_draw an_law_other_draw cd_law_other_draw ct_law_other_draw), sl_law_other_draw⟩)
    (c_law_other_draw : PySem.W.codeIn K cd_law_other_draw "_law_other_draw" = true)
    (k_law_other_draw : PySem.W.keepIn K (.ref f_law_other_draw) = true)
    (a_law_other_pick : PySem.W.nsIn K mainGlobals "_law_other_pick" = some (some (.ref f_law_other_pick)))
    (l_law_other_pick : K.lookup f_law_other_pick = some ⟨oc_law_other_pick, od_law_other_pick, .func (PySem.W.fnOf "_law_other_pick" "_law_other_pick" (defArgs st_law_other_pick) (defBody st_law_other_pick) (defScope st_law_other_pick) .none kV_law_other_pick dc_law_other_pick pm_law_other_pick an_law_other_pick cd_law_other_pick ct_law_other_pick), sl_law_other_pick⟩)
    (c_law_other_pick : PySem.W.codeIn K cd_law_other_pick "_law_other_pick" = true)
    (k_law_other_pick : PySem.W.keepIn K (.ref f_law_other_pick) = true)
    (a_law_undo : PySem.W.nsIn K mainGlobals "_law_undo" = some (some (.ref f_law_undo)))
    (l_law_undo : K.lookup f_law_undo = some ⟨oc_law_undo, od_law_undo, .func (PySem.W.fnOf "_law_undo" "_law_undo" (defArgs st_law_undo) (defBody st_law_undo) (defScope st_law_undo) .none kV_law_undo dc_law_undo pm_law_undo an_law_undo cd_law_undo ct_law_undo), sl_law_undo⟩)
    (c_law_undo : PySem.W.codeIn K cd_law_undo "_law_undo" = true)
    (k_law_undo : PySem.W.keepIn K (.ref f_law_undo) = true)
    (a_law_row : PySem.W.nsIn K mainGlobals "_law_row" = some (some (.ref f_law_row)))
    (l_law_row : K.lookup f_law_row = some ⟨oc_law_row, od_law_row, .func (PySem.W.fnOf "_law_row" "_law_row" (defArgs st_law_row) (defBody st_law_row) (defScope st_law_row) .none kV_law_row dc_law_row pm_law_row an_law_row cd_law_row ct_law_row), sl_law_row⟩)
    (c_law_row : PySem.W.codeIn K cd_law_row "_law_row" = true)
    (k_law_row : PySem.W.keepIn K (.ref f_law_row) = true)
    (a_law_other_row : PySem.W.nsIn K mainGlobals "_law_other_row" = some (some (.ref f_law_other_row)))
    (l_law_other_row : K.lookup f_law_other_row = some ⟨oc_law_other_row, od_law_other_row, .func (PySem.W.fnOf "_law_other_row" "_law_other_row" (defArgs st_law_other_row) (defBody st_law_other_row) (defScope st_law_other_row) .none kV_law_other_row dc_law_other_row pm_law_other_row an_law_other_row cd_law_other_row ct_law_other_row), sl_law_other_row⟩)
    (c_law_other_row : PySem.W.codeIn K cd_law_other_row "_law_other_row" = true)
    (k_law_other_row : PySem.W.keepIn K (.ref f_law_other_row) = true)
    (a_law_back : PySem.W.nsIn K mainGlobals "_law_back" = some (some (.ref f_law_back)))
    (l_law_back : K.lookup f_law_back = some ⟨oc_law_back, od_law_back, .func (PySem.W.fnOf "_law_back" "_law_back" (defArgs st_law_back) (defBody st_law_back) (defScope st_law_back) .none kV_law_back dc_law_back pm_law_back an_law_back cd_law_back ct_law_back), sl_law_back⟩)
    (c_law_back : PySem.W.codeIn K cd_law_back "_law_back" = true)
    (k_law_back : PySem.W.keepIn K (.ref f_law_back) = true)
    (a_law_join : PySem.W.nsIn K mainGlobals "_law_join" = some (some (.ref f_law_join)))
    (l_law_join : K.lookup f_law_join = some ⟨oc_law_join, od_law_join, .func (PySem.W.fnOf "_law_join" "_law_join" (defArgs st_law_join) (defBody st_law_join) (defScope st_law_join) .none kV_law_join dc_law_join pm_law_join an_law_join cd_law_join ct_law_join), sl_law_join⟩)
    (c_law_join : PySem.W.codeIn K cd_law_join "_law_join" = true)
    (k_law_join : PySem.W.keepIn K (.ref f_law_join) = true)
    (a_law_power : PySem.W.nsIn K mainGlobals "_law_power" = some (some (.ref f_law_power)))
    (l_law_power : K.lookup f_law_power = some ⟨oc_law_power, od_law_power, .func (PySem.W.fnOf "_law_power" "_law_power" (defArgs st_law_power) (defBody st_law_power) (defScope st_law_power) .none kV_law_power dc_law_power pm_law_power an_law_power cd_law_power ct_law_power), sl_law_power⟩)
    (c_law_power : PySem.W.codeIn K cd_law_power "_law_power" = true)
    (k_law_power : PySem.W.keepIn K (.ref f_law_power) = true)
    (a_law_drawn : PySem.W.nsIn K mainGlobals "_law_drawn" = some (some (.ref f_law_drawn)))
    (l_law_drawn : K.lookup f_law_drawn = some ⟨oc_law_drawn, od_law_drawn, .func (PySem.W.fnOf "_law_drawn" "_law_drawn" (defArgs st_law_drawn) (defBody st_law_drawn) (defScope st_law_drawn) .none kV_law_drawn dc_law_drawn pm_law_drawn an_law_drawn cd_law_drawn ct_law_drawn), sl_law_drawn⟩)
    (c_law_drawn : PySem.W.codeIn K cd_law_drawn "_law_drawn" = true)
    (k_law_drawn : PySem.W.keepIn K (.ref f_law_drawn) = true)
    (a_law_peeled : PySem.W.nsIn K mainGlobals "_law_peeled" = some (some (.ref f_law_peeled)))
    (l_law_peeled : K.lookup f_law_peeled = some ⟨oc_law_peeled, od_law_peeled, .func (PySem.W.fnOf "_law_peeled" "_law_peeled" (defArgs st_law_peeled) (defBody st_law_peeled) (defScope st_law_peeled) .none kV_law_peeled dc_law_peeled pm_law_peeled an_law_peeled cd_law_peeled ct_law_peeled), sl_law_peeled⟩)
    (c_law_peeled : PySem.W.codeIn K cd_law_peeled "_law_peeled" = true)
    (k_law_peeled : PySem.W.keepIn K (.ref f_law_peeled) = true)
    (a_law_root : PySem.W.nsIn K mainGlobals "_law_root" = some (some (.ref f_law_root)))
    (l_law_root : K.lookup f_law_root = some ⟨oc_law_root, od_law_root, .func (PySem.W.fnOf "_law_root" "_law_root" (defArgs st_law_root) (defBody st_law_root) (defScope st_law_root) .none kV_law_root dc_law_root pm_law_root an_law_root cd_law_root ct_law_root), sl_law_root⟩)
    (c_law_root : PySem.W.codeIn K cd_law_root "_law_root" = true)
    (k_law_root : PySem.W.keepIn K (.ref f_law_root) = true)
    (a_law_word_right : PySem.W.nsIn K mainGlobals "_law_word_right" = some (some (.ref f_law_word_right)))
    (l_law_word_right : K.lookup f_law_word_right = some ⟨oc_law_word_right, od_law_word_right, .func (PySem.W.fnOf "_law_word_right" "_law_word_right" (defArgs st_law_word_right) (defBody st_law_word_right) (defScope st_law_word_right) .none kV_law_word_right dc_law_word_right pm_law_word_right an_law_word_right cd_law_word_right ct_law_word_right), sl_law_word_right⟩)
    (c_law_word_right : PySem.W.codeIn K cd_law_word_right "_law_word_right" = true)
    (k_law_word_right : PySem.W.keepIn K (.ref f_law_word_right) = true)
    (a_law_alike : PySem.W.nsIn K mainGlobals "_law_alike" = some (some (.ref f_law_alike)))
    (l_law_alike : K.lookup f_law_alike = some ⟨oc_law_alike, od_law_alike, .func (PySem.W.fnOf "_law_alike" "_law_alike" (defArgs st_law_alike) (defBody st_law_alike) (defScope st_law_alike) .none kV_law_alike dc_law_alike pm_law_alike an_law_alike cd_law_alike ct_law_alike), sl_law_alike⟩)
    (c_law_alike : PySem.W.codeIn K cd_law_alike "_law_alike" = true)
    (k_law_alike : PySem.W.keepIn K (.ref f_law_alike) = true)
    (a_law_told : PySem.W.nsIn K mainGlobals "_law_told" = some (some (.ref f_law_told)))
    (l_law_told : K.lookup f_law_told = some ⟨oc_law_told, od_law_told, .func (PySem.W.fnOf "_law_told" "_law_told" (defArgs st_law_told) (defBody st_law_told) (defScope st_law_told) .none kV_law_told dc_law_told pm_law_told an_law_told cd_law_told ct_law_told), sl_law_told⟩)
    (c_law_told : PySem.W.codeIn K cd_law_told "_law_told" = true)
    (k_law_told : PySem.W.keepIn K (.ref f_law_told) = true)
    (a_law_pair_right : PySem.W.nsIn K mainGlobals "_law_pair_right" = some (some (.ref f_law_pair_right)))
    (l_law_pair_right : K.lookup f_law_pair_right = some ⟨oc_law_pair_right, od_law_pair_right, .func (PySem.W.fnOf "_law_pair_right" "_law_pair_right" (defArgs st_law_pair_right) (defBody st_law_pair_right) (defScope st_law_pair_right) .none kV_law_pair_right dc_law_pair_right pm_law_pair_right an_law_pair_right cd_law_pair_right ct_law_pair_right), sl_law_pair_right⟩)
    (c_law_pair_right : PySem.W.codeIn K cd_law_pair_right "_law_pair_right" = true)
    (k_law_pair_right : PySem.W.keepIn K (.ref f_law_pair_right) = true)
    (a_law_due : PySem.W.nsIn K mainGlobals "_law_due" = some (some (.ref f_law_due)))
    (l_law_due : K.lookup f_law_due = some ⟨oc_law_due, od_law_due, .func (PySem.W.fnOf "_law_due" "_law_due" (defArgs st_law_due) (defBody st_law_due) (defScope st_law_due) .none kV_law_due dc_law_due pm_law_due an_law_due cd_law_due ct_law_due), sl_law_due⟩)
    (c_law_due : PySem.W.codeIn K cd_law_due "_law_due" = true)
    (k_law_due : PySem.W.keepIn K (.ref f_law_due) = true)
    (a_law_spoiled : PySem.W.nsIn K mainGlobals "_law_spoiled" = some (some (.ref f_law_spoiled)))
    (l_law_spoiled : K.lookup f_law_spoiled = some ⟨oc_law_spoiled, od_law_spoiled, .func (PySem.W.fnOf "_law_spoiled" "_law_spoiled" (defArgs st_law_spoiled) (defBody st_law_spoiled) (defScope st_law_spoiled) .none kV_law_spoiled dc_law_spoiled pm_law_spoiled an_law_spoiled cd_law_spoiled ct_law_spoiled), sl_law_spoiled⟩)
    (c_law_spoiled : PySem.W.codeIn K cd_law_spoiled "_law_spoiled" = true)
    (k_law_spoiled : PySem.W.keepIn K (.ref f_law_spoiled) = true)
    (a_law_text_right : PySem.W.nsIn K mainGlobals "_law_text_right" = some (some (.ref f_law_text_right)))
    (l_law_text_right : K.lookup f_law_text_right = some ⟨oc_law_text_right, od_law_text_right, .func (PySem.W.fnOf "_law_text_right" "_law_text_right" (defArgs st_law_text_right) (defBody st_law_text_right) (defScope st_law_text_right) .none kV_law_text_right dc_law_text_right pm_law_text_right an_law_text_right (.ref cc_law_text_right) ct_law_text_right), sl_law_text_right⟩)
    (c_law_text_right : PySem.W.codeIn K (.ref cc_law_text_right) "_law_text_right" = true)
    (lc_law_text_right : K.lookup cc_law_text_right = some ⟨ccl_law_text_right, cdd_law_text_right, .fields cvs_law_text_right, ccs_law_text_right⟩)
    (h11_law_text_right : cvs_law_text_right[11]? = some (.ref pt_law_text_right))
    (ch_law_text_right : PySem.W.codeHdIn K cc_law_text_right pt_law_text_right = true)
    (np_law_text_right : K.lookup pt_law_text_right = none)
    (tb_law_text_right : h.get? pt_law_text_right = some (PySem.W.tabObj #[]))
    (k_law_text_right : PySem.W.keepIn K (.ref f_law_text_right) = true)
    (a_law_long_right : PySem.W.nsIn K mainGlobals "_law_long_right" = some (some (.ref f_law_long_right)))
    (l_law_long_right : K.lookup f_law_long_right = some ⟨oc_law_long_right, od_law_long_right, .func (PySem.W.fnOf "_law_long_right" "_law_long_right" (defArgs st_law_long_right) (defBody st_law_long_right) (defScope st_law_long_right) .none kV_law_long_right dc_law_long_right pm_law_long_right an_law_long_right (.ref cc_law_long_right) ct_law_long_right), sl_law_long_right⟩)
    (c_law_long_right : PySem.W.codeIn K (.ref cc_law_long_right) "_law_long_right" = true)
    (lc_law_long_right : K.lookup cc_law_long_right = some ⟨ccl_law_long_right, cdd_law_long_right, .fields cvs_law_long_right, ccs_law_long_right⟩)
    (h11_law_long_right : cvs_law_long_right[11]? = some (.ref pt_law_long_right))
    (ch_law_long_right : PySem.W.codeHdIn K cc_law_long_right pt_law_long_right = true)
    (np_law_long_right : K.lookup pt_law_long_right = none)
    (tb_law_long_right : h.get? pt_law_long_right = some (PySem.W.tabObj #[]))
    (ne_law_text_right_law_long_right : pt_law_text_right ≠ pt_law_long_right)
    (k_law_long_right : PySem.W.keepIn K (.ref f_law_long_right) = true)
    (a_law_refused_right : PySem.W.nsIn K mainGlobals "_law_refused_right" = some (some (.ref f_law_refused_right)))
    (l_law_refused_right : K.lookup f_law_refused_right = some ⟨oc_law_refused_right, od_law_refused_right, .func (PySem.W.fnOf "_law_refused_right" "_law_refused_right" (defArgs st_law_refused_right) (defBody st_law_refused_right) (defScope st_law_refused_right) .none kV_law_refused_right dc_law_refused_right pm_law_refused_right an_law_refused_right (.ref cc_law_refused_right) ct_law_refused_right), sl_law_refused_right⟩)
    (c_law_refused_right : PySem.W.codeIn K (.ref cc_law_refused_right) "_law_refused_right" = true)
    (lc_law_refused_right : K.lookup cc_law_refused_right = some ⟨ccl_law_refused_right, cdd_law_refused_right, .fields cvs_law_refused_right, ccs_law_refused_right⟩)
    (h11_law_refused_right : cvs_law_refused_right[11]? = some (.ref pt_law_refused_right))
    (ch_law_refused_right : PySem.W.codeHdIn K cc_law_refused_right pt_law_refused_right = true)
    (np_law_refused_right : K.lookup pt_law_refused_right = none)
    (tb_law_refused_right : h.get? pt_law_refused_right = some (PySem.W.tabObj #[]))
    (ne_law_text_right_law_refused_right : pt_law_text_right ≠ pt_law_refused_right)
    (ne_law_long_right_law_refused_right : pt_law_long_right ≠ pt_law_refused_right)
    (k_law_refused_right : PySem.W.keepIn K (.ref f_law_refused_right) = true)
    (a_law_first_part : PySem.W.nsIn K mainGlobals "_law_first_part" = some (some (.ref f_law_first_part)))
    (l_law_first_part : K.lookup f_law_first_part = some ⟨oc_law_first_part, od_law_first_part, .func (PySem.W.fnOf "_law_first_part" "_law_first_part" (defArgs st_law_first_part) (defBody st_law_first_part) (defScope st_law_first_part) .none kV_law_first_part dc_law_first_part pm_law_first_part an_law_first_part cd_law_first_part ct_law_first_part), sl_law_first_part⟩)
    (c_law_first_part : PySem.W.codeIn K cd_law_first_part "_law_first_part" = true)
    (k_law_first_part : PySem.W.keepIn K (.ref f_law_first_part) = true)
    (a_law_second_part : PySem.W.nsIn K mainGlobals "_law_second_part" = some (some (.ref f_law_second_part)))
    (l_law_second_part : K.lookup f_law_second_part = some ⟨oc_law_second_part, od_law_second_part, .func (PySem.W.fnOf "_law_second_part" "_law_second_part" (defArgs st_law_second_part) (defBody st_law_second_part) (defScope st_law_second_part) .none kV_law_second_part dc_law_second_part pm_law_second_part an_law_second_part (.ref cc_law_second_part) ct_law_second_part), sl_law_second_part⟩)
    (c_law_second_part : PySem.W.codeIn K (.ref cc_law_second_part) "_law_second_part" = true)
    (lc_law_second_part : K.lookup cc_law_second_part = some ⟨ccl_law_second_part, cdd_law_second_part, .fields cvs_law_second_part, ccs_law_second_part⟩)
    (h11_law_second_part : cvs_law_second_part[11]? = some (.ref pt_law_second_part))
    (ch_law_second_part : PySem.W.codeHdIn K cc_law_second_part pt_law_second_part = true)
    (np_law_second_part : K.lookup pt_law_second_part = none)
    (tb_law_second_part : h.get? pt_law_second_part = some (PySem.W.tabObj #[]))
    (ne_law_text_right_law_second_part : pt_law_text_right ≠ pt_law_second_part)
    (ne_law_long_right_law_second_part : pt_law_long_right ≠ pt_law_second_part)
    (ne_law_refused_right_law_second_part : pt_law_refused_right ≠ pt_law_second_part)
    (k_law_second_part : PySem.W.keepIn K (.ref f_law_second_part) = true)
    (a_law : PySem.W.nsIn K mainGlobals "law" = some (some (.ref f_law)))
    (l_law : K.lookup f_law = some ⟨oc_law, od_law, .func (PySem.W.fnOf "law" "law" (defArgs st_law) (defBody st_law) (defScope st_law) .none kV_law dc_law pm_law an_law cd_law ct_law), sl_law⟩)
    (c_law : PySem.W.codeIn K cd_law "law" = true)
    (k_law : PySem.W.keepIn K (.ref f_law) = true)
    (noSup : PySem.W.nsIn K mainGlobals "super" = some none)
    (noAny : PySem.W.nsIn K cStatics "thirdparty.any" = some none)
    (top : (l.prog.main.scope.names.lookup ("super" : Str)).isSome = false)
    (mk_Word : PySem.W.makesIn K C_Word = true)
    (kC_Word : PySem.W.keepIn K (.ref C_Word) = true)
    (sf_Word : PySem.W.selfFirst K C_Word = true)
    (hs_Word : PySem.W.findIn K (.ref C_Word) (PySem.dunder Operator.Mult.info.2) = some (some (.ref f_Word_mul)))
    (hR_Word : PySem.W.findIn K (.ref C_Word) (dunderR Operator.Mult.info.2) = some none)
    (fo_NoneType : PySem.W.findIn K (.type "NoneType") (PySem.dunder Operator.Mult.info.2) = some fo_NoneType)
    (ro_NoneType : PySem.W.findIn K (.type "NoneType") (dunderR Operator.Mult.info.2) = some ro_NoneType)
    (fo_int : PySem.W.findIn K (.type "int") (PySem.dunder Operator.Mult.info.2) = some fo_int)
    (ro_int : PySem.W.findIn K (.type "int") (dunderR Operator.Mult.info.2) = some ro_int)
    (fo_bool : PySem.W.findIn K (.type "bool") (PySem.dunder Operator.Mult.info.2) = some fo_bool)
    (ro_bool : PySem.W.findIn K (.type "bool") (dunderR Operator.Mult.info.2) = some ro_bool)
    (fo_str : PySem.W.findIn K (.type "str") (PySem.dunder Operator.Mult.info.2) = some fo_str)
    (ro_str : PySem.W.findIn K (.type "str") (dunderR Operator.Mult.info.2) = some ro_str)
    (fo_list : PySem.W.findIn K (.type "list") (PySem.dunder Operator.Mult.info.2) = some fo_list)
    (ro_list : PySem.W.findIn K (.type "list") (dunderR Operator.Mult.info.2) = some ro_list)
    (fo_tuple : PySem.W.findIn K (.type "tuple") (PySem.dunder Operator.Mult.info.2) = some fo_tuple)
    (ro_tuple : PySem.W.findIn K (.type "tuple") (dunderR Operator.Mult.info.2) = some ro_tuple)
    (su_NoneType_Word : PySem.W.subIn K (.type "NoneType") (.ref C_Word) = some false)
    (su_int_Word : PySem.W.subIn K (.type "int") (.ref C_Word) = some false)
    (su_bool_Word : PySem.W.subIn K (.type "bool") (.ref C_Word) = some false)
    (su_str_Word : PySem.W.subIn K (.type "str") (.ref C_Word) = some false)
    (su_list_Word : PySem.W.subIn K (.type "list") (.ref C_Word) = some false)
    (su_tuple_Word : PySem.W.subIn K (.type "tuple") (.ref C_Word) = some false)
    (one_Word : PySem.W.findIn K (.ref C_Word) "__ne__" = some (some (.builtin "object.__ne__")))
    (hm_Word : PySem.W.mroIn K C_Word (.type "object") = some true)
    (su_Word_list : PySem.W.subIn K (.ref C_Word) (.type "list") = some false)
    (su_Word_tuple : PySem.W.subIn K (.ref C_Word) (.type "tuple") = some false)
    (b_NotImplemented : PySem.W.nsIn K mainGlobals "NotImplemented" = some none)
    (b_abs : PySem.W.nsIn K mainGlobals "abs" = some none)
    (b_bool : PySem.W.nsIn K mainGlobals "bool" = some none)
    (b_enumerate : PySem.W.nsIn K mainGlobals "enumerate" = some none)
    (b_int : PySem.W.nsIn K mainGlobals "int" = some none)
    (b_isinstance : PySem.W.nsIn K mainGlobals "isinstance" = some none)
    (b_len : PySem.W.nsIn K mainGlobals "len" = some none)
    (b_list : PySem.W.nsIn K mainGlobals "list" = some none)
    (b_range : PySem.W.nsIn K mainGlobals "range" = some none)
    (b_str : PySem.W.nsIn K mainGlobals "str" = some none)
    (pg_Word : PySem.W.plainGet K C_Word Str.empty = true)
    (hd_Word : PySem.W.hasDictIn K C_Word = true)
    (po_Word : PySem.W.plainOver K C_Word = true)
    (sa_Word : PySem.W.findIn K (.ref C_Word) "__setattr__" = some (some (.builtin "object.__setattr__")))
    (xL_BadNumber : K.lookup C_BadNumber = some (PySem.excClassObj nm_BadNumber q_BadNumber C_BadNumber N_BadNumber bs_BadNumber [.ref C_BallError, .type "ValueError", .type "Exception", .type "BaseException", .type "object"] true sn_BadNumber sub_BadNumber ab_BadNumber col_BadNumber dd_BadNumber m0_BadNumber m1_BadNumber m2_BadNumber m3_BadNumber m5_BadNumber "ValueError.__new__"))
    (al_BadNumber : PySem.W.alongIn K "__init__" [.ref C_BallError, .type "ValueError", .type "Exception", .type "BaseException", .type "object"] = some (some (.builtin "ValueError.__init__")))
    (sa_BadNumber : PySem.W.findIn K (.ref C_BadNumber) "__setattr__" = some (some (.builtin "object.__setattr__")))
    (iC_BadNumber : PySem.W.findIn K (.ref C_BadNumber) "__init__" = some (some (.ref i_BadNumber)))
    (tI_BadNumber : PySem.W.typeIn K (.ref i_BadNumber) = some (.type "function"))
    (exC_BadNumber : PySem.W.subIn K (.ref C_BadNumber) (.type "BaseException") = some true)
    (veC_BadNumber : PySem.W.subIn K (.ref C_BadNumber) (.type "ValueError") = some true)
    (tyC_BadNumber : PySem.W.typeIn K (.ref C_BadNumber) = some (.type "type"))
    (kC_BadNumber : PySem.W.keepIn K (.ref C_BadNumber) = true)
    (own_BadNumber : PySem.W.mroIn K C_BadNumber (.ref C_BadNumber) = some true)
    (lf_BadNumber : K.lookup i_BadNumber = some ⟨oc_BadNumber, od_BadNumber, .func (PySem.W.ksFn "__init__" "BadNumber.__init__" (defArgs ei_BadNumber) (defBody ei_BadNumber) (defScope ei_BadNumber) .none kV_BadNumber doc_BadNumber pm_BadNumber an_BadNumber (.ref cda_BadNumber) ct_BadNumber cc_BadNumber), osl_BadNumber⟩)
    (hcd_BadNumber : PySem.W.codeIn K (.ref cda_BadNumber) "BadNumber.__init__" = true)
    (lc_BadNumber : K.lookup cda_BadNumber = some ⟨ccl_BadNumber, cdd_BadNumber, .fields vs_BadNumber, ccs_BadNumber⟩)
    (hvs_BadNumber : vs_BadNumber[2]? = some (.str file_BadNumber tf_BadNumber))
    (hfile_BadNumber : ((l.prog.main.file : Str) == file_BadNumber) = true)
    (lcc_BadNumber : K.lookup cc_BadNumber = some ⟨cl_BadNumber, cld_BadNumber, .cell (some (.ref C_BadNumber)), csl_BadNumber⟩)
    (no_BadNumber_part : PySem.W.findIn K (.ref C_BadNumber) "part" = some none)
    (xL_BadText : K.lookup C_BadText = some (PySem.excClassObj nm_BadText q_BadText C_BadText N_BadText bs_BadText [.ref C_BallError, .type "ValueError", .type "Exception", .type "BaseException", .type "object"] true sn_BadText sub_BadText ab_BadText col_BadText dd_BadText m0_BadText m1_BadText m2_BadText m3_BadText m5_BadText "ValueError.__new__"))
    (al_BadText : PySem.W.alongIn K "__init__" [.ref C_BallError, .type "ValueError", .type "Exception", .type "BaseException", .type "object"] = some (some (.builtin "ValueError.__init__")))
    (sa_BadText : PySem.W.findIn K (.ref C_BadText) "__setattr__" = some (some (.builtin "object.__setattr__")))
    (iC_BadText : PySem.W.findIn K (.ref C_BadText) "__init__" = some (some (.ref i_BadText)))
    (tI_BadText : PySem.W.typeIn K (.ref i_BadText) = some (.type "function"))
    (exC_BadText : PySem.W.subIn K (.ref C_BadText) (.type "BaseException") = some true)
    (veC_BadText : PySem.W.subIn K (.ref C_BadText) (.type "ValueError") = some true)
    (tyC_BadText : PySem.W.typeIn K (.ref C_BadText) = some (.type "type"))
    (kC_BadText : PySem.W.keepIn K (.ref C_BadText) = true)
    (own_BadText : PySem.W.mroIn K C_BadText (.ref C_BadText) = some true)
    (lf_BadText : K.lookup i_BadText = some ⟨oc_BadText, od_BadText, .func (PySem.W.ksFn "__init__" "BadText.__init__" (defArgs ei_BadText) (defBody ei_BadText) (defScope ei_BadText) .none kV_BadText doc_BadText pm_BadText an_BadText (.ref cda_BadText) ct_BadText cc_BadText), osl_BadText⟩)
    (hcd_BadText : PySem.W.codeIn K (.ref cda_BadText) "BadText.__init__" = true)
    (lc_BadText : K.lookup cda_BadText = some ⟨ccl_BadText, cdd_BadText, .fields vs_BadText, ccs_BadText⟩)
    (hvs_BadText : vs_BadText[2]? = some (.str file_BadText tf_BadText))
    (hfile_BadText : ((l.prog.main.file : Str) == file_BadText) = true)
    (lcc_BadText : K.lookup cc_BadText = some ⟨cl_BadText, cld_BadText, .cell (some (.ref C_BadText)), csl_BadText⟩)
    (no_BadText_item : PySem.W.findIn K (.ref C_BadText) "item" = some none)
    (xL_BadWord : K.lookup C_BadWord = some (PySem.excClassObj nm_BadWord q_BadWord C_BadWord N_BadWord bs_BadWord [.ref C_BallError, .type "ValueError", .type "Exception", .type "BaseException", .type "object"] true sn_BadWord sub_BadWord ab_BadWord col_BadWord dd_BadWord m0_BadWord m1_BadWord m2_BadWord m3_BadWord m5_BadWord "ValueError.__new__"))
    (al_BadWord : PySem.W.alongIn K "__init__" [.ref C_BallError, .type "ValueError", .type "Exception", .type "BaseException", .type "object"] = some (some (.builtin "ValueError.__init__")))
    (sa_BadWord : PySem.W.findIn K (.ref C_BadWord) "__setattr__" = some (some (.builtin "object.__setattr__")))
    (iC_BadWord : PySem.W.findIn K (.ref C_BadWord) "__init__" = some (some (.ref i_BadWord)))
    (tI_BadWord : PySem.W.typeIn K (.ref i_BadWord) = some (.type "function"))
    (exC_BadWord : PySem.W.subIn K (.ref C_BadWord) (.type "BaseException") = some true)
    (veC_BadWord : PySem.W.subIn K (.ref C_BadWord) (.type "ValueError") = some true)
    (tyC_BadWord : PySem.W.typeIn K (.ref C_BadWord) = some (.type "type"))
    (kC_BadWord : PySem.W.keepIn K (.ref C_BadWord) = true)
    (own_BadWord : PySem.W.mroIn K C_BadWord (.ref C_BadWord) = some true)
    (lf_BadWord : K.lookup i_BadWord = some ⟨oc_BadWord, od_BadWord, .func (PySem.W.ksFn "__init__" "BadWord.__init__" (defArgs ei_BadWord) (defBody ei_BadWord) (defScope ei_BadWord) .none kV_BadWord doc_BadWord pm_BadWord an_BadWord (.ref cda_BadWord) ct_BadWord cc_BadWord), osl_BadWord⟩)
    (hcd_BadWord : PySem.W.codeIn K (.ref cda_BadWord) "BadWord.__init__" = true)
    (lc_BadWord : K.lookup cda_BadWord = some ⟨ccl_BadWord, cdd_BadWord, .fields vs_BadWord, ccs_BadWord⟩)
    (hvs_BadWord : vs_BadWord[2]? = some (.str file_BadWord tf_BadWord))
    (hfile_BadWord : ((l.prog.main.file : Str) == file_BadWord) = true)
    (lcc_BadWord : K.lookup cc_BadWord = some ⟨cl_BadWord, cld_BadWord, .cell (some (.ref C_BadWord)), csl_BadWord⟩)
    (no_BadWord_at : PySem.W.findIn K (.ref C_BadWord) "at" = some none)
    (xL_TooMany : K.lookup C_TooMany = some (PySem.excClassObj nm_TooMany q_TooMany C_TooMany N_TooMany bs_TooMany [.ref C_BallError, .type "ValueError", .type "Exception", .type "BaseException", .type "object"] true sn_TooMany sub_TooMany ab_TooMany col_TooMany dd_TooMany m0_TooMany m1_TooMany m2_TooMany m3_TooMany m5_TooMany "ValueError.__new__"))
    (al_TooMany : PySem.W.alongIn K "__init__" [.ref C_BallError, .type "ValueError", .type "Exception", .type "BaseException", .type "object"] = some (some (.builtin "ValueError.__init__")))
    (sa_TooMany : PySem.W.findIn K (.ref C_TooMany) "__setattr__" = some (some (.builtin "object.__setattr__")))
    (iC_TooMany : PySem.W.findIn K (.ref C_TooMany) "__init__" = some (some (.ref i_TooMany)))
    (tI_TooMany : PySem.W.typeIn K (.ref i_TooMany) = some (.type "function"))
    (exC_TooMany : PySem.W.subIn K (.ref C_TooMany) (.type "BaseException") = some true)
    (veC_TooMany : PySem.W.subIn K (.ref C_TooMany) (.type "ValueError") = some true)
    (tyC_TooMany : PySem.W.typeIn K (.ref C_TooMany) = some (.type "type"))
    (kC_TooMany : PySem.W.keepIn K (.ref C_TooMany) = true)
    (own_TooMany : PySem.W.mroIn K C_TooMany (.ref C_TooMany) = some true)
    (lf_TooMany : K.lookup i_TooMany = some ⟨oc_TooMany, od_TooMany, .func (PySem.W.ksFn "__init__" "TooMany.__init__" (defArgs ei_TooMany) (defBody ei_TooMany) (defScope ei_TooMany) .none kV_TooMany doc_TooMany pm_TooMany an_TooMany (.ref cda_TooMany) ct_TooMany cc_TooMany), osl_TooMany⟩)
    (hcd_TooMany : PySem.W.codeIn K (.ref cda_TooMany) "TooMany.__init__" = true)
    (lc_TooMany : K.lookup cda_TooMany = some ⟨ccl_TooMany, cdd_TooMany, .fields vs_TooMany, ccs_TooMany⟩)
    (hvs_TooMany : vs_TooMany[2]? = some (.str file_TooMany tf_TooMany))
    (hfile_TooMany : ((l.prog.main.file : Str) == file_TooMany) = true)
    (lcc_TooMany : K.lookup cc_TooMany = some ⟨cl_TooMany, cld_TooMany, .cell (some (.ref C_TooMany)), csl_TooMany⟩)
    (no_TooMany_what : PySem.W.findIn K (.ref C_TooMany) "what" = some none)
    (no_TooMany_most : PySem.W.findIn K (.ref C_TooMany) "most" = some none)
    (su_BadNumber_BallError : PySem.W.subIn K (.ref C_BadNumber) (.ref C_BallError) = some true)
    (icl_BallError : PySem.W.isClsIn K C_BallError = true)
    (tyC_BallError : PySem.W.typeIn K (.ref C_BallError) = some (.type "type"))
    (exC_BallError : PySem.W.subIn K (.ref C_BallError) (.type "BaseException") = some true)
    (su_BadText_BallError : PySem.W.subIn K (.ref C_BadText) (.ref C_BallError) = some true)
    (su_BadWord_BallError : PySem.W.subIn K (.ref C_BadWord) (.ref C_BallError) = some true)
    (su_TooMany_BallError : PySem.W.subIn K (.ref C_TooMany) (.ref C_BallError) = some true)
    (g_LETTERS : PySem.W.nsIn K mainGlobals "LETTERS" = some (some (.str (S [65, 66, 67, 68, 97, 98, 99, 100]) tg_LETTERS)))
    (g_MOST_LETTERS : PySem.W.nsIn K mainGlobals "MOST_LETTERS" = some (some (.int 4000 tg_MOST_LETTERS)))
    (icl_Word : PySem.W.isClsIn K C_Word = true)
    (tyC_Word : PySem.W.typeIn K (.ref C_Word) = some (.type "type"))
    (su_Word_str : PySem.W.subIn K (.ref C_Word) (.type "str") = some false)
    (no_Word_letters : PySem.W.findIn K (.ref C_Word) "letters" = some none)
    (no_Word_size : PySem.W.findIn K (.ref C_Word) "size" = some none)
    (ha_Word : PySem.W.findIn K (.ref C_Word) "__class__" = some (some (.builtin "object.__class__")))
    (hn : PySem.W.specialIn K (.builtin "object.__class__") "__get__" = some (some (.builtin "getset_descriptor.__get__")))
    (htk : PySem.W.takesIn K (.builtin "object.__class__") = some true)
    (ga_BadNumber : PySem.W.findIn K (.ref C_BadNumber) "__getattribute__" = some (some (.builtin "BaseException.__getattribute__")))
    (gg_BadNumber : PySem.W.findIn K (.ref C_BadNumber) "__getattr__" = some none)
    (hd_BadNumber : PySem.W.hasDictIn K C_BadNumber = true)
    (ga_BadText : PySem.W.findIn K (.ref C_BadText) "__getattribute__" = some (some (.builtin "BaseException.__getattribute__")))
    (gg_BadText : PySem.W.findIn K (.ref C_BadText) "__getattr__" = some none)
    (hd_BadText : PySem.W.hasDictIn K C_BadText = true)
    (ga_BadWord : PySem.W.findIn K (.ref C_BadWord) "__getattribute__" = some (some (.builtin "BaseException.__getattribute__")))
    (gg_BadWord : PySem.W.findIn K (.ref C_BadWord) "__getattr__" = some none)
    (hd_BadWord : PySem.W.hasDictIn K C_BadWord = true)
    (ga_TooMany : PySem.W.findIn K (.ref C_TooMany) "__getattribute__" = some (some (.builtin "BaseException.__getattribute__")))
    (gg_TooMany : PySem.W.findIn K (.ref C_TooMany) "__getattr__" = some none)
    (hd_TooMany : PySem.W.hasDictIn K C_TooMany = true)
    (ha_BadNumber : PySem.W.findIn K (.ref C_BadNumber) "__class__" = some (some (.builtin "object.__class__")))
    (hm_BadNumber : PySem.W.mroIn K C_BadNumber (.type "object") = some true)
    (clI_BadNumber : PySem.W.isClsIn K C_BadNumber = true)
    (ha_BadText : PySem.W.findIn K (.ref C_BadText) "__class__" = some (some (.builtin "object.__class__")))
    (hm_BadText : PySem.W.mroIn K C_BadText (.type "object") = some true)
    (clI_BadText : PySem.W.isClsIn K C_BadText = true)
    (ha_BadWord : PySem.W.findIn K (.ref C_BadWord) "__class__" = some (some (.builtin "object.__class__")))
    (hm_BadWord : PySem.W.mroIn K C_BadWord (.type "object") = some true)
    (clI_BadWord : PySem.W.isClsIn K C_BadWord = true)
    (ha_TooMany : PySem.W.findIn K (.ref C_TooMany) "__class__" = some (some (.builtin "object.__class__")))
    (hm_TooMany : PySem.W.mroIn K C_TooMany (.type "object") = some true)
    (clI_TooMany : PySem.W.isClsIn K C_TooMany = true)
    : LamX.LawAtS l w K CX0 10 63 "script" mg fa h := by
  have e := hfa.symm.trans (PySem.W.mg_of X G a_law)
  cases e
  have F_law_heard := fun_mk (st := st__law_heard0) l_law_heard c_law_heard k_law_heard
  have b_law_heard := F_law_heard.binds (ps := ["ask"]) fun _ _ _ _ _ _ us hl => match us, hl with | [_], _ => rfl
  have F_need_row := fun_mk (st := st_need_row) l_need_row c_need_row k_need_row
  have b_need_row := F_need_row.binds (ps := ["value"]) fun _ _ _ _ _ _ us hl => match us, hl with | [_], _ => rfl
  have F_need_word := fun_mk (st := st_need_word) l_need_word c_need_word k_need_word
  have b_need_word := F_need_word.binds (ps := ["value"]) fun _ _ _ _ _ _ us hl => match us, hl with | [_], _ => rfl
  have F_Word_init : FunD K "__init__" "Word.__init__" (defArgs st_Word_init) (defBody st_Word_init) (defScope st_Word_init) [.str (S [])] [] f_Word_init _ := ⟨⟨oc_Word_init, od_Word_init, _, kV_Word_init, dc_Word_init, pm_Word_init, an_Word_init, cd_Word_init, ct_Word_init, sl_Word_init, rfl, l_Word_init, c_Word_init, .inr ⟨by simp, _, _, [_], _, rfl, t_Word_init, rfl, .cons ⟨_, rfl⟩ .nil⟩, .inl rfl⟩, k_Word_init⟩
  obtain ⟨ds_Word_init, rds_Word_init, bb_Word_init⟩ := F_Word_init.binds1 (ps := ["self", "letters"]) 2 1 (by simp) rfl fun T kV doc pm an cdv ct us its h1 h2 => match us, its, h1, h2 with | [_, _], [_], _, _ => ⟨_, rfl, rfl⟩
  obtain rfl : ds_Word_init = [] := by cases (show Vals [] ds_Word_init from rds_Word_init); rfl
  have b_Word_init := bb_Word_init
  obtain ⟨dd_Word_init, rd_Word_init, bd_Word_init⟩ := F_Word_init.binds1 (ps := ["self", "letters"]) 1 0 (by simp) rfl fun T kV doc pm an cdv ct us its h1 h2 => match us, its, h1, h2 with | [_], [_], _, _ => ⟨_, rfl, rfl⟩
  have F_undone := fun_mk (st := st_undone) l_undone c_undone k_undone
  have b_undone := F_undone.binds (ps := ["letters"]) fun _ _ _ _ _ _ us hl => match us, hl with | [_], _ => rfl
  have F_product := fun_mk (st := st_product) l_product c_product k_product
  have b_product := F_product.binds (ps := ["one", "other"]) fun _ _ _ _ _ _ us hl => match us, hl with | [_, _], _ => rfl
  have F_Word_mul := fun_mk (st := st_Word_mul) l_Word_mul c_Word_mul k_Word_mul
  have b_Word_mul := F_Word_mul.binds (ps := ["self", "other"]) fun _ _ _ _ _ _ us hl => match us, hl with | [_, _], _ => rfl
  have F_Word_invert := fun_mk (st := st_Word_invert) l_Word_invert c_Word_invert k_Word_invert
  have b_Word_invert := F_Word_invert.binds (ps := ["self"]) fun _ _ _ _ _ _ us hl => match us, hl with | [_], _ => rfl
  have F_Word_len := fun_mk (st := st_Word_len) l_Word_len c_Word_len k_Word_len
  have b_Word_len := F_Word_len.binds (ps := ["self"]) fun _ _ _ _ _ _ us hl => match us, hl with | [_], _ => rfl
  have F_Word_str := fun_mk (st := st_Word_str) l_Word_str c_Word_str k_Word_str
  have b_Word_str := F_Word_str.binds (ps := ["self"]) fun _ _ _ _ _ _ us hl => match us, hl with | [_], _ => rfl
  have F_Word_eq := fun_mk (st := st_Word_eq) l_Word_eq c_Word_eq k_Word_eq
  have b_Word_eq := F_Word_eq.binds (ps := ["self", "other"]) fun _ _ _ _ _ _ us hl => match us, hl with | [_, _], _ => rfl
  have F_is_integer := fun_mk (st := st_is_integer) l_is_integer c_is_integer k_is_integer
  have b_is_integer := F_is_integer.binds (ps := ["value"]) fun _ _ _ _ _ _ us hl => match us, hl with | [_], _ => rfl
  have F_is_letter := fun_mk (st := st_is_letter) l_is_letter c_is_letter k_is_letter
  have b_is_letter := F_is_letter.binds (ps := ["value"]) fun _ _ _ _ _ _ us hl => match us, hl with | [_], _ => rfl
  have F_is_row := fun_mk (st := st_is_row) l_is_row c_is_row k_is_row
  have b_is_row := F_is_row.binds (ps := ["text"]) fun _ _ _ _ _ _ us hl => match us, hl with | [_], _ => rfl
  have F_lone := fun_mk (st := st_lone) l_lone c_lone k_lone
  have b_lone := F_lone.binds (ps := ["items", "letters"]) fun _ _ _ _ _ _ us hl => match us, hl with | [_, _], _ => rfl
  have F_coat_of := fun_mk (st := st_coat_of) l_coat_of c_coat_of k_coat_of
  have b_coat_of := F_coat_of.binds (ps := ["letters"]) fun _ _ _ _ _ _ us hl => match us, hl with | [_], _ => rfl
  have F_period_of := fun_mk (st := st_period_of) l_period_of c_period_of k_period_of
  have b_period_of := F_period_of.binds (ps := ["letters"]) fun _ _ _ _ _ _ us hl => match us, hl with | [_], _ => rfl
  have F_Word_power := fun_mk (st := st_Word_power) l_Word_power c_Word_power k_Word_power
  have b_Word_power := F_Word_power.binds (ps := ["self", "many"]) fun _ _ _ _ _ _ us hl => match us, hl with | [_, _], _ => rfl
  have F_Word_root := fun_mk (st := st_Word_root) l_Word_root c_Word_root k_Word_root
  have b_Word_root := F_Word_root.binds (ps := ["self"]) fun _ _ _ _ _ _ us hl => match us, hl with | [_], _ => rfl
  have F_Word_core := fun_mk (st := st_Word_core) l_Word_core c_Word_core k_Word_core
  have b_Word_core := F_Word_core.binds (ps := ["self"]) fun _ _ _ _ _ _ us hl => match us, hl with | [_], _ => rfl
  have F_Word_read := fun_mk (st := st_Word_read) l_Word_read c_Word_read k_Word_read
  have b_Word_read := F_Word_read.binds (ps := ["text"]) fun _ _ _ _ _ _ us hl => match us, hl with | [_], _ => rfl
  have F_commute := fun_mk (st := st_commute) l_commute c_commute k_commute
  have b_commute := F_commute.binds (ps := ["one", "other"]) fun _ _ _ _ _ _ us hl => match us, hl with | [_, _], _ => rfl
  have F_law_pen := fun_mk (st := st_law_pen) l_law_pen c_law_pen k_law_pen
  have b_law_pen := F_law_pen.binds (ps := ["script"]) fun _ _ _ _ _ _ us hl => match us, hl with | [_], _ => rfl
  have F_law_draw := fun_mk (st := st_law_draw) l_law_draw c_law_draw k_law_draw
  have b_law_draw := F_law_draw.binds (ps := ["pen", "many"]) fun _ _ _ _ _ _ us hl => match us, hl with | [_, _], _ => rfl
  have F_law_pick := fun_mk (st := st_law_pick) l_law_pick c_law_pick k_law_pick
  have b_law_pick := F_law_pick.binds (ps := ["pen", "some"]) fun _ _ _ _ _ _ us hl => match us, hl with | [_, _], _ => rfl
  have F_law_other_draw := fun_mk (st := st_law_other_draw) l_law_other_draw c_law_other_draw k_law_other_draw
  have b_law_other_draw := F_law_other_draw.binds (ps := ["pen", "many"]) fun _ _ _ _ _ _ us hl => match us, hl with | [_, _], _ => rfl
  have F_law_other_pick := fun_mk (st := st_law_other_pick) l_law_other_pick c_law_other_pick k_law_other_pick
  have b_law_other_pick := F_law_other_pick.binds (ps := ["pen", "some"]) fun _ _ _ _ _ _ us hl => match us, hl with | [_, _], _ => rfl
  have F_law_undo := fun_mk (st := st_law_undo) l_law_undo c_law_undo k_law_undo
  have b_law_undo := F_law_undo.binds (ps := ["letter"]) fun _ _ _ _ _ _ us hl => match us, hl with | [_], _ => rfl
  have F_law_row := fun_mk (st := st_law_row) l_law_row c_law_row k_law_row
  have b_law_row := F_law_row.binds (ps := ["pen", "most"]) fun _ _ _ _ _ _ us hl => match us, hl with | [_, _], _ => rfl
  have F_law_other_row := fun_mk (st := st_law_other_row) l_law_other_row c_law_other_row k_law_other_row
  have b_law_other_row := F_law_other_row.binds (ps := ["pen", "most"]) fun _ _ _ _ _ _ us hl => match us, hl with | [_, _], _ => rfl
  have F_law_back := fun_mk (st := st_law_back) l_law_back c_law_back k_law_back
  have b_law_back := F_law_back.binds (ps := ["row"]) fun _ _ _ _ _ _ us hl => match us, hl with | [_], _ => rfl
  have F_law_join := fun_mk (st := st_law_join) l_law_join c_law_join k_law_join
  have b_law_join := F_law_join.binds (ps := ["one", "other"]) fun _ _ _ _ _ _ us hl => match us, hl with | [_, _], _ => rfl
  have F_law_power := fun_mk (st := st_law_power) l_law_power c_law_power k_law_power
  have b_law_power := F_law_power.binds (ps := ["row", "many"]) fun _ _ _ _ _ _ us hl => match us, hl with | [_, _], _ => rfl
  have F_law_drawn := fun_mk (st := st_law_drawn) l_law_drawn c_law_drawn k_law_drawn
  have b_law_drawn := F_law_drawn.binds (ps := ["pen"]) fun _ _ _ _ _ _ us hl => match us, hl with | [_], _ => rfl
  have F_law_peeled := fun_mk (st := st_law_peeled) l_law_peeled c_law_peeled k_law_peeled
  have b_law_peeled := F_law_peeled.binds (ps := ["row"]) fun _ _ _ _ _ _ us hl => match us, hl with | [_], _ => rfl
  have F_law_root := fun_mk (st := st_law_root) l_law_root c_law_root k_law_root
  have b_law_root := F_law_root.binds (ps := ["row"]) fun _ _ _ _ _ _ us hl => match us, hl with | [_], _ => rfl
  have F_law_word_right := fun_mk (st := st_law_word_right) l_law_word_right c_law_word_right k_law_word_right
  have b_law_word_right := F_law_word_right.binds (ps := ["pen", "row"]) fun _ _ _ _ _ _ us hl => match us, hl with | [_, _], _ => rfl
  have F_law_alike := fun_mk (st := st_law_alike) l_law_alike c_law_alike k_law_alike
  have b_law_alike := F_law_alike.binds (ps := ["one", "other"]) fun _ _ _ _ _ _ us hl => match us, hl with | [_, _], _ => rfl
  have F_law_told := fun_mk (st := st_law_told) l_law_told c_law_told k_law_told
  have b_law_told := F_law_told.binds (ps := ["told", "due"]) fun _ _ _ _ _ _ us hl => match us, hl with | [_, _], _ => rfl
  have F_law_pair_right := fun_mk (st := st_law_pair_right) l_law_pair_right c_law_pair_right k_law_pair_right
  have b_law_pair_right := F_law_pair_right.binds (ps := ["pen", "row"]) fun _ _ _ _ _ _ us hl => match us, hl with | [_, _], _ => rfl
  have F_law_due := fun_mk (st := st_law_due) l_law_due c_law_due k_law_due
  have b_law_due := F_law_due.binds (ps := ["text"]) fun _ _ _ _ _ _ us hl => match us, hl with | [_], _ => rfl
  have F_law_spoiled := fun_mk (st := st_law_spoiled) l_law_spoiled c_law_spoiled k_law_spoiled
  have b_law_spoiled := F_law_spoiled.binds (ps := ["pen", "text"]) fun _ _ _ _ _ _ us hl => match us, hl with | [_, _], _ => rfl
  have F_law_text_right : FunL K "_law_text_right" "_law_text_right" st_law_text_right f_law_text_right _ cc_law_text_right := ⟨⟨oc_law_text_right, od_law_text_right, kV_law_text_right, dc_law_text_right, pm_law_text_right, an_law_text_right, ct_law_text_right, sl_law_text_right, rfl, l_law_text_right, c_law_text_right⟩, k_law_text_right⟩
  have b_law_text_right := F_law_text_right.fun.binds (ps := ["text"]) fun _ _ _ _ _ _ us hl => match us, hl with | [_], _ => rfl
  have F_law_long_right : FunL K "_law_long_right" "_law_long_right" st_law_long_right f_law_long_right _ cc_law_long_right := ⟨⟨oc_law_long_right, od_law_long_right, kV_law_long_right, dc_law_long_right, pm_law_long_right, an_law_long_right, ct_law_long_right, sl_law_long_right, rfl, l_law_long_right, c_law_long_right⟩, k_law_long_right⟩
  have b_law_long_right := F_law_long_right.fun.binds (ps := ["text"]) fun _ _ _ _ _ _ us hl => match us, hl with | [_], _ => rfl
  have F_law_refused_right : FunL K "_law_refused_right" "_law_refused_right" st_law_refused_right f_law_refused_right _ cc_law_refused_right := ⟨⟨oc_law_refused_right, od_law_refused_right, kV_law_refused_right, dc_law_refused_right, pm_law_refused_right, an_law_refused_right, ct_law_refused_right, sl_law_refused_right, rfl, l_law_refused_right, c_law_refused_right⟩, k_law_refused_right⟩
  have b_law_refused_right := F_law_refused_right.fun.binds (ps := ["pen", "row"]) fun _ _ _ _ _ _ us hl => match us, hl with | [_, _], _ => rfl
  have F_law_first_part := fun_mk (st := st_law_first_part) l_law_first_part c_law_first_part k_law_first_part
  have b_law_first_part := F_law_first_part.binds (ps := ["script"]) fun _ _ _ _ _ _ us hl => match us, hl with | [_], _ => rfl
  have F_law_second_part : FunL K "_law_second_part" "_law_second_part" st_law_second_part f_law_second_part _ cc_law_second_part := ⟨⟨oc_law_second_part, od_law_second_part, kV_law_second_part, dc_law_second_part, pm_law_second_part, an_law_second_part, ct_law_second_part, sl_law_second_part, rfl, l_law_second_part, c_law_second_part⟩, k_law_second_part⟩
  have b_law_second_part := F_law_second_part.fun.binds (ps := ["script"]) fun _ _ _ _ _ _ us hl => match us, hl with | [_], _ => rfl
  have F_law := fun_mk (st := st_law) l_law c_law k_law
  have b_law := F_law.binds (ps := ["script"]) fun _ _ _ _ _ _ us hl => match us, hl with | [_], _ => rfl
  refine ⟨PySem.W.fnOf "law" "law" (defArgs st_law) (defBody st_law) (defScope st_law) .none kV_law dc_law pm_law an_law cd_law ct_law, [(cc_law_text_right, pt_law_text_right), (cc_law_long_right, pt_law_long_right), (cc_law_refused_right, pt_law_refused_right), (cc_law_second_part, pt_law_second_part)], sp_law K ({ BadNumber := C_BadNumber, BadText := C_BadText, BadWord := C_BadWord, BallError := C_BallError, TooMany := C_TooMany, Word := C_Word, i_BadNumber := i_BadNumber, i_BadText := i_BadText, i_BadWord := i_BadWord, i_TooMany := i_TooMany } : Ad) ([(pt_law_text_right, ((("_law_text_right" : Str) ++ ".<locals>.") ++ "<lambda>")), (pt_law_long_right, ((("_law_long_right" : Str) ++ ".<locals>.") ++ "<lambda>")), (pt_law_refused_right, ((("_law_refused_right" : Str) ++ ".<locals>.") ++ "<lambda>")), (pt_law_second_part, ((("_law_second_part" : Str) ++ ".<locals>.") ++ "<lambda>"))] : List (Addr × Str)), (List.forall_mem_cons.mpr ⟨tb_law_text_right, (List.forall_mem_cons.mpr ⟨tb_law_long_right, (List.forall_mem_cons.mpr ⟨tb_law_refused_right, (List.forall_mem_cons.mpr ⟨tb_law_second_part, (fun _ z => nomatch z)⟩)⟩)⟩)⟩), (List.forall_mem_cons.mpr ⟨np_law_text_right, (List.forall_mem_cons.mpr ⟨np_law_long_right, (List.forall_mem_cons.mpr ⟨np_law_refused_right, (List.forall_mem_cons.mpr ⟨np_law_second_part, (fun _ z => nomatch z)⟩)⟩)⟩)⟩), (List.forall_mem_cons.mpr ⟨PySem.W.codeHd_of_K X ch_law_text_right, (List.forall_mem_cons.mpr ⟨PySem.W.codeHd_of_K X ch_law_long_right, (List.forall_mem_cons.mpr ⟨PySem.W.codeHd_of_K X ch_law_refused_right, (List.forall_mem_cons.mpr ⟨PySem.W.codeHd_of_K X ch_law_second_part, (fun _ z => nomatch z)⟩)⟩)⟩)⟩), fun s v => .of_eq rfl, fun H a ns hn _ hH hS => ⟨a, ns, rfl, hS, hn, ?_, fun _ => rfl⟩, fun base Xb Gb hTB => ?_⟩
  · exact (List.forall_mem_cons.mpr ⟨LamX.TabS.nil (hH (cc_law_text_right, pt_law_text_right) (by simp)), (List.forall_mem_cons.mpr ⟨LamX.TabS.nil (hH (cc_law_long_right, pt_law_long_right) (by simp)), (List.forall_mem_cons.mpr ⟨LamX.TabS.nil (hH (cc_law_refused_right, pt_law_refused_right) (by simp)), (List.forall_mem_cons.mpr ⟨LamX.TabS.nil (hH (cc_law_second_part, pt_law_second_part) (by simp)), (fun _ z => nomatch z)⟩)⟩)⟩)⟩)
  have lm_law_text_right : MakerAt base mg ([(pt_law_text_right, ((("_law_text_right" : Str) ++ ".<locals>.") ++ "<lambda>")), (pt_law_long_right, ((("_law_long_right" : Str) ++ ".<locals>.") ++ "<lambda>")), (pt_law_refused_right, ((("_law_refused_right" : Str) ++ ".<locals>.") ++ "<lambda>")), (pt_law_second_part, ((("_law_second_part" : Str) ++ ".<locals>.") ++ "<lambda>"))] : List (Addr × Str)) cc_law_text_right ((("_law_text_right" : Str) ++ ".<locals>.") ++ "<lambda>") := ⟨pt_law_text_right, hTB (cc_law_text_right, pt_law_text_right) (by simp), by simp, fun p hp e => ?_⟩
  rotate_left
  · rcases List.mem_cons.mp hp with rfl | hp
    · rfl
    · rcases List.mem_cons.mp hp with rfl | hp
      · exact absurd e.symm ne_law_text_right_law_long_right
      · rcases List.mem_cons.mp hp with rfl | hp
        · exact absurd e.symm ne_law_text_right_law_refused_right
        · rcases List.mem_cons.mp hp with rfl | hp
          · exact absurd e.symm ne_law_text_right_law_second_part
          · cases hp
  have lm_law_long_right : MakerAt base mg ([(pt_law_text_right, ((("_law_text_right" : Str) ++ ".<locals>.") ++ "<lambda>")), (pt_law_long_right, ((("_law_long_right" : Str) ++ ".<locals>.") ++ "<lambda>")), (pt_law_refused_right, ((("_law_refused_right" : Str) ++ ".<locals>.") ++ "<lambda>")), (pt_law_second_part, ((("_law_second_part" : Str) ++ ".<locals>.") ++ "<lambda>"))] : List (Addr × Str)) cc_law_long_right ((("_law_long_right" : Str) ++ ".<locals>.") ++ "<lambda>") := ⟨pt_law_long_right, hTB (cc_law_long_right, pt_law_long_right) (by simp), by simp, fun p hp e => ?_⟩
  rotate_left
  · rcases List.mem_cons.mp hp with rfl | hp
    · exact absurd e ne_law_text_right_law_long_right
    · rcases List.mem_cons.mp hp with rfl | hp
      · rfl
      · rcases List.mem_cons.mp hp with rfl | hp
        · exact absurd e.symm ne_law_long_right_law_refused_right
        · rcases List.mem_cons.mp hp with rfl | hp
          · exact absurd e.symm ne_law_long_right_law_second_part
          · cases hp
  have lm_law_refused_right : MakerAt base mg ([(pt_law_text_right, ((("_law_text_right" : Str) ++ ".<locals>.") ++ "<lambda>")), (pt_law_long_right, ((("_law_long_right" : Str) ++ ".<locals>.") ++ "<lambda>")), (pt_law_refused_right, ((("_law_refused_right" : Str) ++ ".<locals>.") ++ "<lambda>")), (pt_law_second_part, ((("_law_second_part" : Str) ++ ".<locals>.") ++ "<lambda>"))] : List (Addr × Str)) cc_law_refused_right ((("_law_refused_right" : Str) ++ ".<locals>.") ++ "<lambda>") := ⟨pt_law_refused_right, hTB (cc_law_refused_right, pt_law_refused_right) (by simp), by simp, fun p hp e => ?_⟩
  rotate_left
  · rcases List.mem_cons.mp hp with rfl | hp
    · exact absurd e ne_law_text_right_law_refused_right
    · rcases List.mem_cons.mp hp with rfl | hp
      · exact absurd e ne_law_long_right_law_refused_right
      · rcases List.mem_cons.mp hp with rfl | hp
        · rfl
        · rcases List.mem_cons.mp hp with rfl | hp
          · exact absurd e.symm ne_law_refused_right_law_second_part
          · cases hp
  have lm_law_second_part : MakerAt base mg ([(pt_law_text_right, ((("_law_text_right" : Str) ++ ".<locals>.") ++ "<lambda>")), (pt_law_long_right, ((("_law_long_right" : Str) ++ ".<locals>.") ++ "<lambda>")), (pt_law_refused_right, ((("_law_refused_right" : Str) ++ ".<locals>.") ++ "<lambda>")), (pt_law_second_part, ((("_law_second_part" : Str) ++ ".<locals>.") ++ "<lambda>"))] : List (Addr × Str)) cc_law_second_part ((("_law_second_part" : Str) ++ ".<locals>.") ++ "<lambda>") := ⟨pt_law_second_part, hTB (cc_law_second_part, pt_law_second_part) (by simp), by simp, fun p hp e => ?_⟩
  rotate_left
  · rcases List.mem_cons.mp hp with rfl | hp
    · exact absurd e ne_law_text_right_law_second_part
    · rcases List.mem_cons.mp hp with rfl | hp
      · exact absurd e ne_law_long_right_law_second_part
      · rcases List.mem_cons.mp hp with rfl | hp
        · exact absurd e ne_law_refused_right_law_second_part
        · rcases List.mem_cons.mp hp with rfl | hp
          · rfl
          · cases hp
  have T : Txt l.prog w K mg base ({ BadNumber := C_BadNumber, BadText := C_BadText, BadWord := C_BadWord, BallError := C_BallError, TooMany := C_TooMany, Word := C_Word, i_BadNumber := i_BadNumber, i_BadText := i_BadText, i_BadWord := i_BadWord, i_TooMany := i_TooMany } : Ad) := {
    b_NotImplemented := PySem.W.mg_none_of X G b_NotImplemented
    b_abs := PySem.W.mg_none_of X G b_abs
    b_bool := PySem.W.mg_none_of X G b_bool
    b_enumerate := PySem.W.mg_none_of X G b_enumerate
    b_int := PySem.W.mg_none_of X G b_int
    b_isinstance := PySem.W.mg_none_of X G b_isinstance
    b_len := PySem.W.mg_none_of X G b_len
    b_list := PySem.W.mg_none_of X G b_list
    b_range := PySem.W.mg_none_of X G b_range
    b_str := PySem.W.mg_none_of X G b_str
    c_BadNumber := PySem.W.mg_of X G a_BadNumber
    c_BadText := PySem.W.mg_of X G a_BadText
    c_BadWord := PySem.W.mg_of X G a_BadWord
    c_BallError := PySem.W.mg_of X G a_BallError
    c_TooMany := PySem.W.mg_of X G a_TooMany
    c_Word := PySem.W.mg_of X G a_Word
    cl_Word := ⟨pg_Word, hd_Word, po_Word, sa_Word⟩
    e_BadNumber := mk_BadNumber ⟨⟨_, _, _, _, _, _, _, _, _, _, _, _, _, _, _,  xL_BadNumber, rfl, al_BadNumber⟩, sa_BadNumber, iC_BadNumber, tI_BadNumber, exC_BadNumber, veC_BadNumber, tyC_BadNumber, kC_BadNumber, own_BadNumber, noSup, noAny, top⟩ ⟨⟨_, _, _, _, _, _, _, _, _, _, _, _, _, _, _, _, _, _, _, _,  lf_BadNumber, hcd_BadNumber, lc_BadNumber, hvs_BadNumber, hfile_BadNumber, lcc_BadNumber⟩⟩ no_BadNumber_part
    e_BadText := mk_BadText ⟨⟨_, _, _, _, _, _, _, _, _, _, _, _, _, _, _,  xL_BadText, rfl, al_BadText⟩, sa_BadText, iC_BadText, tI_BadText, exC_BadText, veC_BadText, tyC_BadText, kC_BadText, own_BadText, noSup, noAny, top⟩ ⟨⟨_, _, _, _, _, _, _, _, _, _, _, _, _, _, _, _, _, _, _, _,  lf_BadText, hcd_BadText, lc_BadText, hvs_BadText, hfile_BadText, lcc_BadText⟩⟩ no_BadText_item
    e_BadWord := mk_BadWord ⟨⟨_, _, _, _, _, _, _, _, _, _, _, _, _, _, _,  xL_BadWord, rfl, al_BadWord⟩, sa_BadWord, iC_BadWord, tI_BadWord, exC_BadWord, veC_BadWord, tyC_BadWord, kC_BadWord, own_BadWord, noSup, noAny, top⟩ ⟨⟨_, _, _, _, _, _, _, _, _, _, _, _, _, _, _, _, _, _, _, _,  lf_BadWord, hcd_BadWord, lc_BadWord, hvs_BadWord, hfile_BadWord, lcc_BadWord⟩⟩ no_BadWord_at
    e_TooMany := mk_TooMany ⟨⟨_, _, _, _, _, _, _, _, _, _, _, _, _, _, _,  xL_TooMany, rfl, al_TooMany⟩, sa_TooMany, iC_TooMany, tI_TooMany, exC_TooMany, veC_TooMany, tyC_TooMany, kC_TooMany, own_TooMany, noSup, noAny, top⟩ ⟨⟨_, _, _, _, _, _, _, _, _, _, _, _, _, _, _, _, _, _, _, _,  lf_TooMany, hcd_TooMany, lc_TooMany, hvs_TooMany, hfile_TooMany, lcc_TooMany⟩⟩ no_TooMany_what no_TooMany_most
    ex_BadNumber_BallError := exm_own exC_BallError icl_BallError tyC_BallError su_BadNumber_BallError
    ex_BadText_BallError := exm_own exC_BallError icl_BallError tyC_BallError su_BadText_BallError
    ex_BadWord_BallError := exm_own exC_BallError icl_BallError tyC_BallError su_BadWord_BallError
    ex_TooMany_BallError := exm_own exC_BallError icl_BallError tyC_BallError su_TooMany_BallError
    g_LETTERS := ⟨_, PySem.W.mg_of X G g_LETTERS⟩
    g_MOST_LETTERS := ⟨_, PySem.W.mg_of X G g_MOST_LETTERS⟩
    k_NoneType_Word := kit_own icl_Word tyC_Word su_NoneType_Word
    k_Word_Word := kit_self
    k_Word_str := kit_bt su_Word_str
    k_bool_Word := kit_own icl_Word tyC_Word su_bool_Word
    k_int_Word := kit_own icl_Word tyC_Word su_int_Word
    k_list_Word := kit_own icl_Word tyC_Word su_list_Word
    k_str_Word := kit_own icl_Word tyC_Word su_str_Word
    k_tuple_Word := kit_own icl_Word tyC_Word su_tuple_Word
    na_Word_letters := no_Word_letters
    na_Word_size := no_Word_size
    ti_Word := ⟨ha_Word, hn, htk, hm_Word⟩
    xf_BadNumber_part := ⟨⟨ga_BadNumber, gg_BadNumber, exC_BadNumber, hd_BadNumber⟩, no_BadNumber_part⟩
    xf_BadText_item := ⟨⟨ga_BadText, gg_BadText, exC_BadText, hd_BadText⟩, no_BadText_item⟩
    xf_BadWord_at := ⟨⟨ga_BadWord, gg_BadWord, exC_BadWord, hd_BadWord⟩, no_BadWord_at⟩
    xf_TooMany_most := ⟨⟨ga_TooMany, gg_TooMany, exC_TooMany, hd_TooMany⟩, no_TooMany_most⟩
    xf_TooMany_what := ⟨⟨ga_TooMany, gg_TooMany, exC_TooMany, hd_TooMany⟩, no_TooMany_what⟩
    xi_BadNumber := ⟨⟨ga_BadNumber, gg_BadNumber, exC_BadNumber, hd_BadNumber⟩, clI_BadNumber, ha_BadNumber, hn, htk, hm_BadNumber⟩
    xi_BadText := ⟨⟨ga_BadText, gg_BadText, exC_BadText, hd_BadText⟩, clI_BadText, ha_BadText, hn, htk, hm_BadText⟩
    xi_BadWord := ⟨⟨ga_BadWord, gg_BadWord, exC_BadWord, hd_BadWord⟩, clI_BadWord, ha_BadWord, hn, htk, hm_BadWord⟩
    xi_TooMany := ⟨⟨ga_TooMany, gg_TooMany, exC_TooMany, hd_TooMany⟩, clI_TooMany, ha_TooMany, hn, htk, hm_TooMany⟩
  }
  have d_need_row : CalX l.prog w K mg base 1 "need_row" (sp_need_row K ({ BadNumber := C_BadNumber, BadText := C_BadText, BadWord := C_BadWord, BallError := C_BallError, TooMany := C_TooMany, Word := C_Word, i_BadNumber := i_BadNumber, i_BadText := i_BadText, i_BadWord := i_BadWord, i_TooMany := i_TooMany } : Ad)) := ⟨_, _, _, (ok_need_row F_need_row T), PySem.W.mg_of X G a_need_row, F_need_row.kp, b_need_row⟩
  have d_need_word : CalX l.prog w K mg base 1 "need_word" (sp_need_word K ({ BadNumber := C_BadNumber, BadText := C_BadText, BadWord := C_BadWord, BallError := C_BallError, TooMany := C_TooMany, Word := C_Word, i_BadNumber := i_BadNumber, i_BadText := i_BadText, i_BadWord := i_BadWord, i_TooMany := i_TooMany } : Ad)) := ⟨_, _, _, (ok_need_word F_need_word T), PySem.W.mg_of X G a_need_word, F_need_word.kp, b_need_word⟩
  have d_product : CalN l.prog w K mg base 1 "product" (sp_product K ({ BadNumber := C_BadNumber, BadText := C_BadText, BadWord := C_BadWord, BallError := C_BallError, TooMany := C_TooMany, Word := C_Word, i_BadNumber := i_BadNumber, i_BadText := i_BadText, i_BadWord := i_BadWord, i_TooMany := i_TooMany } : Ad)) := ⟨_, _, _, (ok_product F_product T), PySem.W.mg_of X G a_product, F_product.kp, b_product⟩
  have m_Word : MakX l.prog w K mg base 2 "Word" C_Word (sp_Word_init K ({ BadNumber := C_BadNumber, BadText := C_BadText, BadWord := C_BadWord, BallError := C_BallError, TooMany := C_TooMany, Word := C_Word, i_BadNumber := i_BadNumber, i_BadText := i_BadText, i_BadWord := i_BadWord, i_TooMany := i_TooMany } : Ad)) := ⟨_, _, _, ⟨mk_Word, a_Word_init, i_Word_init, kC_Word⟩, (ok_Word_init F_Word_init T d_need_row), PySem.W.mg_of X G a_Word, b_Word_init⟩
  have d_undone : CalN l.prog w K mg base 1 "undone" (sp_undone K ({ BadNumber := C_BadNumber, BadText := C_BadText, BadWord := C_BadWord, BallError := C_BallError, TooMany := C_TooMany, Word := C_Word, i_BadNumber := i_BadNumber, i_BadText := i_BadText, i_BadWord := i_BadWord, i_TooMany := i_TooMany } : Ad)) := ⟨_, _, _, (ok_undone F_undone T), PySem.W.mg_of X G a_undone, F_undone.kp, b_undone⟩
  have d_is_letter : CalN l.prog w K mg base 1 "is_letter" (sp_is_letter K ({ BadNumber := C_BadNumber, BadText := C_BadText, BadWord := C_BadWord, BallError := C_BallError, TooMany := C_TooMany, Word := C_Word, i_BadNumber := i_BadNumber, i_BadText := i_BadText, i_BadWord := i_BadWord, i_TooMany := i_TooMany } : Ad)) := ⟨_, _, _, (ok_is_letter F_is_letter T), PySem.W.mg_of X G a_is_letter, F_is_letter.kp, b_is_letter⟩
  have d_coat_of : CalN l.prog w K mg base 1 "coat_of" (sp_coat_of K ({ BadNumber := C_BadNumber, BadText := C_BadText, BadWord := C_BadWord, BallError := C_BallError, TooMany := C_TooMany, Word := C_Word, i_BadNumber := i_BadNumber, i_BadText := i_BadText, i_BadWord := i_BadWord, i_TooMany := i_TooMany } : Ad)) := ⟨_, _, _, (ok_coat_of F_coat_of T), PySem.W.mg_of X G a_coat_of, F_coat_of.kp, b_coat_of⟩
  have d_is_integer : CalN l.prog w K mg base 1 "is_integer" (sp_is_integer K ({ BadNumber := C_BadNumber, BadText := C_BadText, BadWord := C_BadWord, BallError := C_BallError, TooMany := C_TooMany, Word := C_Word, i_BadNumber := i_BadNumber, i_BadText := i_BadText, i_BadWord := i_BadWord, i_TooMany := i_TooMany } : Ad)) := ⟨_, _, _, (ok_is_integer F_is_integer T), PySem.W.mg_of X G a_is_integer, F_is_integer.kp, b_is_integer⟩
  have md_Word : MakD l.prog w K mg base 2 "Word" C_Word [.str (S [])] (sp_Word_init K ({ BadNumber := C_BadNumber, BadText := C_BadText, BadWord := C_BadWord, BallError := C_BallError, TooMany := C_TooMany, Word := C_Word, i_BadNumber := i_BadNumber, i_BadText := i_BadText, i_BadWord := i_BadWord, i_TooMany := i_TooMany } : Ad)) := ⟨⟨_, _, _, _, ⟨mk_Word, a_Word_init, i_Word_init, kC_Word⟩, (ok_Word_init F_Word_init T d_need_row), PySem.W.mg_of X G a_Word, bd_Word_init, rd_Word_init⟩⟩
  have d_period_of : CalN l.prog w K mg base 1 "period_of" (sp_period_of K ({ BadNumber := C_BadNumber, BadText := C_BadText, BadWord := C_BadWord, BallError := C_BallError, TooMany := C_TooMany, Word := C_Word, i_BadNumber := i_BadNumber, i_BadText := i_BadText, i_BadWord := i_BadWord, i_TooMany := i_TooMany } : Ad)) := ⟨_, _, _, (ok_period_of F_period_of T), PySem.W.mg_of X G a_period_of, F_period_of.kp, b_period_of⟩
  have d_is_row : CalN l.prog w K mg base 2 "is_row" (sp_is_row K ({ BadNumber := C_BadNumber, BadText := C_BadText, BadWord := C_BadWord, BallError := C_BallError, TooMany := C_TooMany, Word := C_Word, i_BadNumber := i_BadNumber, i_BadText := i_BadText, i_BadWord := i_BadWord, i_TooMany := i_TooMany } : Ad)) := ⟨_, _, _, (ok_is_row F_is_row T d_is_letter), PySem.W.mg_of X G a_is_row, F_is_row.kp, b_is_row⟩
  have d_lone : CalX l.prog w K mg base 4 "lone" (sp_lone K ({ BadNumber := C_BadNumber, BadText := C_BadText, BadWord := C_BadWord, BallError := C_BallError, TooMany := C_TooMany, Word := C_Word, i_BadNumber := i_BadNumber, i_BadText := i_BadText, i_BadWord := i_BadWord, i_TooMany := i_TooMany } : Ad)) := ⟨_, _, _, (ok_lone F_lone T m_Word), PySem.W.mg_of X G a_lone, F_lone.kp, b_lone⟩
  have d_law_draw : CalN l.prog w K mg base 1 "_law_draw" (sp_law_draw K ({ BadNumber := C_BadNumber, BadText := C_BadText, BadWord := C_BadWord, BallError := C_BallError, TooMany := C_TooMany, Word := C_Word, i_BadNumber := i_BadNumber, i_BadText := i_BadText, i_BadWord := i_BadWord, i_TooMany := i_TooMany } : Ad)) := ⟨_, _, _, (ok_law_draw F_law_draw T), PySem.W.mg_of X G a_law_draw, F_law_draw.kp, b_law_draw⟩
  have d_law_other_draw : CalN l.prog w K mg base 1 "_law_other_draw" (sp_law_other_draw K ({ BadNumber := C_BadNumber, BadText := C_BadText, BadWord := C_BadWord, BallError := C_BallError, TooMany := C_TooMany, Word := C_Word, i_BadNumber := i_BadNumber, i_BadText := i_BadText, i_BadWord := i_BadWord, i_TooMany := i_TooMany } : Ad)) := ⟨_, _, _, (ok_law_other_draw F_law_other_draw T), PySem.W.mg_of X G a_law_other_draw, F_law_other_draw.kp, b_law_other_draw⟩
  have d_law_pick : CalN l.prog w K mg base 2 "_law_pick" (sp_law_pick K ({ BadNumber := C_BadNumber, BadText := C_BadText, BadWord := C_BadWord, BallError := C_BallError, TooMany := C_TooMany, Word := C_Word, i_BadNumber := i_BadNumber, i_BadText := i_BadText, i_BadWord := i_BadWord, i_TooMany := i_TooMany } : Ad)) := ⟨_, _, _, (ok_law_pick F_law_pick T d_law_draw), PySem.W.mg_of X G a_law_pick, F_law_pick.kp, b_law_pick⟩
  have d_law_undo : CalN l.prog w K mg base 1 "_law_undo" (sp_law_undo K ({ BadNumber := C_BadNumber, BadText := C_BadText, BadWord := C_BadWord, BallError := C_BallError, TooMany := C_TooMany, Word := C_Word, i_BadNumber := i_BadNumber, i_BadText := i_BadText, i_BadWord := i_BadWord, i_TooMany := i_TooMany } : Ad)) := ⟨_, _, _, (ok_law_undo F_law_undo T), PySem.W.mg_of X G a_law_undo, F_law_undo.kp, b_law_undo⟩
  have d_law_other_pick : CalN l.prog w K mg base 2 "_law_other_pick" (sp_law_other_pick K ({ BadNumber := C_BadNumber, BadText := C_BadText, BadWord := C_BadWord, BallError := C_BallError, TooMany := C_TooMany, Word := C_Word, i_BadNumber := i_BadNumber, i_BadText := i_BadText, i_BadWord := i_BadWord, i_TooMany := i_TooMany } : Ad)) := ⟨_, _, _, (ok_law_other_pick F_law_other_pick T d_law_other_draw), PySem.W.mg_of X G a_law_other_pick, F_law_other_pick.kp, b_law_other_pick⟩
  have d_law_back : CalN l.prog w K mg base 2 "_law_back" (sp_law_back K ({ BadNumber := C_BadNumber, BadText := C_BadText, BadWord := C_BadWord, BallError := C_BallError, TooMany := C_TooMany, Word := C_Word, i_BadNumber := i_BadNumber, i_BadText := i_BadText, i_BadWord := i_BadWord, i_TooMany := i_TooMany } : Ad)) := ⟨_, _, _, (ok_law_back F_law_back T d_law_undo), PySem.W.mg_of X G a_law_back, F_law_back.kp, b_law_back⟩
  have d_law_join : CalN l.prog w K mg base 2 "_law_join" (sp_law_join K ({ BadNumber := C_BadNumber, BadText := C_BadText, BadWord := C_BadWord, BallError := C_BallError, TooMany := C_TooMany, Word := C_Word, i_BadNumber := i_BadNumber, i_BadText := i_BadText, i_BadWord := i_BadWord, i_TooMany := i_TooMany } : Ad)) := ⟨_, _, _, (ok_law_join F_law_join T d_law_undo), PySem.W.mg_of X G a_law_join, F_law_join.kp, b_law_join⟩
  have d_law_power : CalN l.prog w K mg base 3 "_law_power" (sp_law_power K ({ BadNumber := C_BadNumber, BadText := C_BadText, BadWord := C_BadWord, BallError := C_BallError, TooMany := C_TooMany, Word := C_Word, i_BadNumber := i_BadNumber, i_BadText := i_BadText, i_BadWord := i_BadWord, i_TooMany := i_TooMany } : Ad)) := ⟨_, _, _, (ok_law_power F_law_power T d_law_back d_law_join), PySem.W.mg_of X G a_law_power, F_law_power.kp, b_law_power⟩
  have d_law_row : CalN l.prog w K mg base 3 "_law_row" (sp_law_row K ({ BadNumber := C_BadNumber, BadText := C_BadText, BadWord := C_BadWord, BallError := C_BallError, TooMany := C_TooMany, Word := C_Word, i_BadNumber := i_BadNumber, i_BadText := i_BadText, i_BadWord := i_BadWord, i_TooMany := i_TooMany } : Ad)) := ⟨_, _, _, (ok_law_row F_law_row T d_law_draw d_law_pick d_law_undo), PySem.W.mg_of X G a_law_row, F_law_row.kp, b_law_row⟩
  have d_law_peeled : CalN l.prog w K mg base 2 "_law_peeled" (sp_law_peeled K ({ BadNumber := C_BadNumber, BadText := C_BadText, BadWord := C_BadWord, BallError := C_BallError, TooMany := C_TooMany, Word := C_Word, i_BadNumber := i_BadNumber, i_BadText := i_BadText, i_BadWord := i_BadWord, i_TooMany := i_TooMany } : Ad)) := ⟨_, _, _, (ok_law_peeled F_law_peeled T d_law_undo), PySem.W.mg_of X G a_law_peeled, F_law_peeled.kp, b_law_peeled⟩
  have d_law_root : CalN l.prog w K mg base 3 "_law_root" (sp_law_root K ({ BadNumber := C_BadNumber, BadText := C_BadText, BadWord := C_BadWord, BallError := C_BallError, TooMany := C_TooMany, Word := C_Word, i_BadNumber := i_BadNumber, i_BadText := i_BadText, i_BadWord := i_BadWord, i_TooMany := i_TooMany } : Ad)) := ⟨_, _, _, (ok_law_root F_law_root T d_law_back d_law_peeled), PySem.W.mg_of X G a_law_root, F_law_root.kp, b_law_root⟩
  have me_Word_core : MetA l.prog w K mg base CX0 4 C_Word "core" (sp_Word_core K ({ BadNumber := C_BadNumber, BadText := C_BadText, BadWord := C_BadWord, BallError := C_BallError, TooMany := C_TooMany, Word := C_Word, i_BadNumber := i_BadNumber, i_BadText := i_BadText, i_BadWord := i_BadWord, i_TooMany := i_TooMany } : Ad)) := ⟨⟨_, _, _, ⟨a_Word_core, i_Word_core, k_Word_core⟩, (ok_Word_core F_Word_core T d_coat_of m_Word), b_Word_core⟩⟩
  have me_Word_power : MetA l.prog w K mg base (L2.CX l.prog w) 4 C_Word "power" (sp_Word_power K ({ BadNumber := C_BadNumber, BadText := C_BadText, BadWord := C_BadWord, BallError := C_BallError, TooMany := C_TooMany, Word := C_Word, i_BadNumber := i_BadNumber, i_BadText := i_BadText, i_BadWord := i_BadWord, i_TooMany := i_TooMany } : Ad)) := ⟨⟨_, _, _, ⟨a_Word_power, i_Word_power, k_Word_power⟩, (ok_Word_power F_Word_power T d_coat_of d_is_integer d_undone m_Word md_Word), b_Word_power⟩⟩
  have me_Word_root : MetA l.prog w K mg base CX0 4 C_Word "root" (sp_Word_root K ({ BadNumber := C_BadNumber, BadText := C_BadText, BadWord := C_BadWord, BallError := C_BallError, TooMany := C_TooMany, Word := C_Word, i_BadNumber := i_BadNumber, i_BadText := i_BadText, i_BadWord := i_BadWord, i_TooMany := i_TooMany } : Ad)) := ⟨⟨_, _, _, ⟨a_Word_root, i_Word_root, k_Word_root⟩, (ok_Word_root F_Word_root T d_coat_of d_period_of m_Word md_Word), b_Word_root⟩⟩
  have mek_Word_power_many : MetK l.prog w K mg base (L2.CX l.prog w) 4 C_Word "power" ["many"] (sp_Word_power K ({ BadNumber := C_BadNumber, BadText := C_BadText, BadWord := C_BadWord, BallError := C_BallError, TooMany := C_TooMany, Word := C_Word, i_BadNumber := i_BadNumber, i_BadText := i_BadText, i_BadWord := i_BadWord, i_TooMany := i_TooMany } : Ad)) := ⟨⟨_, _, _, ⟨a_Word_power, i_Word_power, k_Word_power⟩, (ok_Word_power F_Word_power T d_coat_of d_is_integer d_undone m_Word md_Word), ⟨fun s us ws _ h1 h2 => match us, ws, h1, h2 with | [_], [_], _, _ => .of_eq rfl, fun h1 h2 => h1.append h2⟩⟩⟩
  have ob_Word : OwnBin l.prog w K mg base (L2.CX l.prog w) 4 C_Word .Mult ["NoneType", "int", "bool", "str", "list", "tuple"] (sp_Word_mul K ({ BadNumber := C_BadNumber, BadText := C_BadText, BadWord := C_BadWord, BallError := C_BallError, TooMany := C_TooMany, Word := C_Word, i_BadNumber := i_BadNumber, i_BadText := i_BadText, i_BadWord := i_BadWord, i_TooMany := i_TooMany } : Ad)) := ⟨⟨_, _, _, none, sf_Word, hs_Word, i_Word_mul, (ok_Word_mul F_Word_mul T d_need_word d_product m_Word), b_Word_mul, hR_Word, .inl rfl, (List.forall_mem_cons.mpr ⟨⟨⟨_, fo_NoneType⟩, ⟨_, ro_NoneType⟩, su_NoneType_Word⟩, (List.forall_mem_cons.mpr ⟨⟨⟨_, fo_int⟩, ⟨_, ro_int⟩, su_int_Word⟩, (List.forall_mem_cons.mpr ⟨⟨⟨_, fo_bool⟩, ⟨_, ro_bool⟩, su_bool_Word⟩, (List.forall_mem_cons.mpr ⟨⟨⟨_, fo_str⟩, ⟨_, ro_str⟩, su_str_Word⟩, (List.forall_mem_cons.mpr ⟨⟨⟨_, fo_list⟩, ⟨_, ro_list⟩, su_list_Word⟩, (List.forall_mem_cons.mpr ⟨⟨⟨_, fo_tuple⟩, ⟨_, ro_tuple⟩, su_tuple_Word⟩, (fun _ z => nomatch z)⟩)⟩)⟩)⟩)⟩)⟩)⟩⟩
  have oe_Word : OwnEq l.prog w K mg base 1 C_Word ["NoneType", "int", "bool", "str", "list", "tuple"] (sp_Word_eq K ({ BadNumber := C_BadNumber, BadText := C_BadText, BadWord := C_BadWord, BallError := C_BallError, TooMany := C_TooMany, Word := C_Word, i_BadNumber := i_BadNumber, i_BadText := i_BadText, i_BadWord := i_BadWord, i_TooMany := i_TooMany } : Ad)) := { ex := ⟨_, _, _, a_Word_eq, i_Word_eq, (ok_Word_eq F_Word_eq T), b_Word_eq, ni_Word_eq F_Word_eq T b_Word_eq⟩, ne := one_Word, ob := hm_Word, s1 := su_Word_list, s2 := su_Word_tuple, ts := (List.forall_mem_cons.mpr ⟨su_NoneType_Word, (List.forall_mem_cons.mpr ⟨su_int_Word, (List.forall_mem_cons.mpr ⟨su_bool_Word, (List.forall_mem_cons.mpr ⟨su_str_Word, (List.forall_mem_cons.mpr ⟨su_list_Word, (List.forall_mem_cons.mpr ⟨su_tuple_Word, (fun _ z => nomatch z)⟩)⟩)⟩)⟩)⟩)⟩) }
  have oi_Word : OwnInv l.prog w K mg base CX0 4 C_Word (sp_Word_invert K ({ BadNumber := C_BadNumber, BadText := C_BadText, BadWord := C_BadWord, BallError := C_BallError, TooMany := C_TooMany, Word := C_Word, i_BadNumber := i_BadNumber, i_BadText := i_BadText, i_BadWord := i_BadWord, i_TooMany := i_TooMany } : Ad)) := ⟨⟨_, _, _, a_Word_invert, i_Word_invert, (ok_Word_invert F_Word_invert T d_undone m_Word), b_Word_invert⟩⟩
  have d_commute : CalX l.prog w K mg base 2 "commute" (sp_commute K ({ BadNumber := C_BadNumber, BadText := C_BadText, BadWord := C_BadWord, BallError := C_BallError, TooMany := C_TooMany, Word := C_Word, i_BadNumber := i_BadNumber, i_BadText := i_BadText, i_BadWord := i_BadWord, i_TooMany := i_TooMany } : Ad)) := ⟨_, _, _, (ok_commute F_commute T d_need_word d_product), PySem.W.mg_of X G a_commute, F_commute.kp, b_commute⟩
  have d_law_alike : CalN l.prog w K mg base 4 "_law_alike" (sp_law_alike K ({ BadNumber := C_BadNumber, BadText := C_BadText, BadWord := C_BadWord, BallError := C_BallError, TooMany := C_TooMany, Word := C_Word, i_BadNumber := i_BadNumber, i_BadText := i_BadText, i_BadWord := i_BadWord, i_TooMany := i_TooMany } : Ad)) := ⟨_, _, _, (ok_law_alike F_law_alike T d_law_back d_law_root), PySem.W.mg_of X G a_law_alike, F_law_alike.kp, b_law_alike⟩
  have d_law_drawn : CalN l.prog w K mg base 4 "_law_drawn" (sp_law_drawn K ({ BadNumber := C_BadNumber, BadText := C_BadText, BadWord := C_BadWord, BallError := C_BallError, TooMany := C_TooMany, Word := C_Word, i_BadNumber := i_BadNumber, i_BadText := i_BadText, i_BadWord := i_BadWord, i_TooMany := i_TooMany } : Ad)) := ⟨_, _, _, (ok_law_drawn F_law_drawn T d_law_back d_law_draw d_law_join d_law_power d_law_row), PySem.W.mg_of X G a_law_drawn, F_law_drawn.kp, b_law_drawn⟩
  have d_law_told : CalN l.prog w K mg base 1 "_law_told" (sp_law_told K ({ BadNumber := C_BadNumber, BadText := C_BadText, BadWord := C_BadWord, BallError := C_BallError, TooMany := C_TooMany, Word := C_Word, i_BadNumber := i_BadNumber, i_BadText := i_BadText, i_BadWord := i_BadWord, i_TooMany := i_TooMany } : Ad)) := ⟨_, _, _, (ok_law_told F_law_told T), PySem.W.mg_of X G a_law_told, F_law_told.kp, b_law_told⟩
  have dk_commute_other_one : CalK l.prog w K mg base (L2.CX l.prog w) 2 "commute" ["other", "one"] (gPm (α := V) .non 0 2 [1, 0]) (sp_commute K ({ BadNumber := C_BadNumber, BadText := C_BadText, BadWord := C_BadWord, BallError := C_BallError, TooMany := C_TooMany, Word := C_Word, i_BadNumber := i_BadNumber, i_BadText := i_BadText, i_BadWord := i_BadWord, i_TooMany := i_TooMany } : Ad)) := ⟨_, _, _, gPm .none 0 2 [1, 0], (ok_commute F_commute T d_need_word d_product), PySem.W.mg_of X G a_commute, F_commute.kp, ⟨(fun s us ws _ hl => by
      unfold gPm at hl ⊢
      by_cases h : us.length = 0 ∧ ws.length = 2
      · rw [if_pos h]
        match us, ws, h with
        | [], [_, _], _ => exact .of_eq rfl
      · rw [if_neg h] at hl; cases hl), gPm_rel⟩⟩
  have d_law_due : CalN l.prog w K mg base 2 "_law_due" (sp_law_due K ({ BadNumber := C_BadNumber, BadText := C_BadText, BadWord := C_BadWord, BallError := C_BallError, TooMany := C_TooMany, Word := C_Word, i_BadNumber := i_BadNumber, i_BadText := i_BadText, i_BadWord := i_BadWord, i_TooMany := i_TooMany } : Ad)) := ⟨_, _, _, (ok_law_due F_law_due T d_law_undo), PySem.W.mg_of X G a_law_due, F_law_due.kp, b_law_due⟩
  have lh : HeardAt K mg st__law_heard0 := ⟨⟨_, _, F_law_heard, PySem.W.mg_of X G a_law_heard, b_law_heard⟩⟩
  have os_Word : OwnF l.prog w K mg base 1 C_Word "__str__" (sp_Word_str K ({ BadNumber := C_BadNumber, BadText := C_BadText, BadWord := C_BadWord, BallError := C_BallError, TooMany := C_TooMany, Word := C_Word, i_BadNumber := i_BadNumber, i_BadText := i_BadText, i_BadWord := i_BadWord, i_TooMany := i_TooMany } : Ad)) := ⟨⟨_, _, _, a_Word_str, i_Word_str, (ok_Word_str F_Word_str T), b_Word_str⟩⟩
  have s_Word_read : StaX l.prog w K mg base (L2.CX l.prog w) 5 C_Word "read" (sp_Word_read K ({ BadNumber := C_BadNumber, BadText := C_BadText, BadWord := C_BadWord, BallError := C_BallError, TooMany := C_TooMany, Word := C_Word, i_BadNumber := i_BadNumber, i_BadText := i_BadText, i_BadWord := i_BadWord, i_TooMany := i_TooMany } : Ad)) := ⟨⟨_, _, _, ⟨⟨_, _, _, ⟨rd_Word, gat_Word⟩, sa1_Word_read, sa2_Word_read⟩, k_Word_read⟩, (ok_Word_read F_Word_read T d_is_row d_lone), b_Word_read⟩⟩
  have sk_Word_read_text : StaK l.prog w K mg base (L2.CX l.prog w) 5 C_Word "read" ["text"] (sp_Word_read K ({ BadNumber := C_BadNumber, BadText := C_BadText, BadWord := C_BadWord, BallError := C_BallError, TooMany := C_TooMany, Word := C_Word, i_BadNumber := i_BadNumber, i_BadText := i_BadText, i_BadWord := i_BadWord, i_TooMany := i_TooMany } : Ad)) := ⟨⟨_, _, _, ⟨⟨_, _, _, ⟨rd_Word, gat_Word⟩, sa1_Word_read, sa2_Word_read⟩, k_Word_read⟩, (ok_Word_read F_Word_read T d_is_row d_lone), ⟨fun s us ws _ h1 h2 => match us, ws, h1, h2 with | [], [_], _, _ => .of_eq rfl, fun h1 h2 => h1.append h2⟩⟩⟩
  have ol_Word : OwnF l.prog w K mg base 1 C_Word "__len__" (sp_Word_len K ({ BadNumber := C_BadNumber, BadText := C_BadText, BadWord := C_BadWord, BallError := C_BallError, TooMany := C_TooMany, Word := C_Word, i_BadNumber := i_BadNumber, i_BadText := i_BadText, i_BadWord := i_BadWord, i_TooMany := i_TooMany } : Ad)) := ⟨⟨_, _, _, a_Word_len, i_Word_len, (ok_Word_len F_Word_len T), b_Word_len⟩⟩
  have d_law_pair_right : CalN l.prog w K mg base 5 "_law_pair_right" (sp_law_pair_right K ({ BadNumber := C_BadNumber, BadText := C_BadText, BadWord := C_BadWord, BallError := C_BallError, TooMany := C_TooMany, Word := C_Word, i_BadNumber := i_BadNumber, i_BadText := i_BadText, i_BadWord := i_BadWord, i_TooMany := i_TooMany } : Ad)) := ⟨_, _, _, (ok_law_pair_right F_law_pair_right T d_commute d_law_alike d_law_draw d_law_drawn d_law_join d_law_power d_law_root d_law_told dk_commute_other_one m_Word), PySem.W.mg_of X G a_law_pair_right, F_law_pair_right.kp, b_law_pair_right⟩
  have d_law_pen : CalN l.prog w K mg base 1 "_law_pen" (sp_law_pen K ({ BadNumber := C_BadNumber, BadText := C_BadText, BadWord := C_BadWord, BallError := C_BallError, TooMany := C_TooMany, Word := C_Word, i_BadNumber := i_BadNumber, i_BadText := i_BadText, i_BadWord := i_BadWord, i_TooMany := i_TooMany } : Ad)) := ⟨_, _, _, (ok_law_pen F_law_pen T), PySem.W.mg_of X G a_law_pen, F_law_pen.kp, b_law_pen⟩
  have d_law_refused_right : CalN l.prog w K mg base 7 "_law_refused_right" (sp_law_refused_right K ({ BadNumber := C_BadNumber, BadText := C_BadText, BadWord := C_BadWord, BallError := C_BallError, TooMany := C_TooMany, Word := C_Word, i_BadNumber := i_BadNumber, i_BadText := i_BadText, i_BadWord := i_BadWord, i_TooMany := i_TooMany } : Ad) ([(pt_law_text_right, ((("_law_text_right" : Str) ++ ".<locals>.") ++ "<lambda>")), (pt_law_long_right, ((("_law_long_right" : Str) ++ ".<locals>.") ++ "<lambda>")), (pt_law_refused_right, ((("_law_refused_right" : Str) ++ ".<locals>.") ++ "<lambda>")), (pt_law_second_part, ((("_law_second_part" : Str) ++ ".<locals>.") ++ "<lambda>"))] : List (Addr × Str))) := ⟨_, _, _, (ok_law_refused_right F_law_refused_right T d_commute d_law_draw d_law_peeled d_law_pick lh lm_law_refused_right m_Word me_Word_power ol_Word), PySem.W.mg_of X G a_law_refused_right, F_law_refused_right.kp, b_law_refused_right⟩
  have d_law_word_right : CalN l.prog w K mg base 5 "_law_word_right" (sp_law_word_right K ({ BadNumber := C_BadNumber, BadText := C_BadText, BadWord := C_BadWord, BallError := C_BallError, TooMany := C_TooMany, Word := C_Word, i_BadNumber := i_BadNumber, i_BadText := i_BadText, i_BadWord := i_BadWord, i_TooMany := i_TooMany } : Ad)) := ⟨_, _, _, (ok_law_word_right F_law_word_right T d_law_draw d_law_peeled d_law_power d_law_root m_Word me_Word_core me_Word_power me_Word_root mek_Word_power_many ob_Word oe_Word oi_Word), PySem.W.mg_of X G a_law_word_right, F_law_word_right.kp, b_law_word_right⟩
  have d_law_long_right : CalN l.prog w K mg base 8 "_law_long_right" (sp_law_long_right K ({ BadNumber := C_BadNumber, BadText := C_BadText, BadWord := C_BadWord, BallError := C_BallError, TooMany := C_TooMany, Word := C_Word, i_BadNumber := i_BadNumber, i_BadText := i_BadText, i_BadWord := i_BadWord, i_TooMany := i_TooMany } : Ad) ([(pt_law_text_right, ((("_law_text_right" : Str) ++ ".<locals>.") ++ "<lambda>")), (pt_law_long_right, ((("_law_long_right" : Str) ++ ".<locals>.") ++ "<lambda>")), (pt_law_refused_right, ((("_law_refused_right" : Str) ++ ".<locals>.") ++ "<lambda>")), (pt_law_second_part, ((("_law_second_part" : Str) ++ ".<locals>.") ++ "<lambda>"))] : List (Addr × Str))) := ⟨_, _, _, (ok_law_long_right F_law_long_right T lh lm_law_long_right s_Word_read), PySem.W.mg_of X G a_law_long_right, F_law_long_right.kp, b_law_long_right⟩
  have d_law_other_row : CalN l.prog w K mg base 3 "_law_other_row" (sp_law_other_row K ({ BadNumber := C_BadNumber, BadText := C_BadText, BadWord := C_BadWord, BallError := C_BallError, TooMany := C_TooMany, Word := C_Word, i_BadNumber := i_BadNumber, i_BadText := i_BadText, i_BadWord := i_BadWord, i_TooMany := i_TooMany } : Ad)) := ⟨_, _, _, (ok_law_other_row F_law_other_row T d_law_other_draw d_law_other_pick d_law_undo), PySem.W.mg_of X G a_law_other_row, F_law_other_row.kp, b_law_other_row⟩
  have d_law_spoiled : CalN l.prog w K mg base 3 "_law_spoiled" (sp_law_spoiled K ({ BadNumber := C_BadNumber, BadText := C_BadText, BadWord := C_BadWord, BallError := C_BallError, TooMany := C_TooMany, Word := C_Word, i_BadNumber := i_BadNumber, i_BadText := i_BadText, i_BadWord := i_BadWord, i_TooMany := i_TooMany } : Ad)) := ⟨_, _, _, (ok_law_spoiled F_law_spoiled T d_law_other_draw d_law_other_pick), PySem.W.mg_of X G a_law_spoiled, F_law_spoiled.kp, b_law_spoiled⟩
  have d_law_text_right : CalN l.prog w K mg base 8 "_law_text_right" (sp_law_text_right K ({ BadNumber := C_BadNumber, BadText := C_BadText, BadWord := C_BadWord, BallError := C_BallError, TooMany := C_TooMany, Word := C_Word, i_BadNumber := i_BadNumber, i_BadText := i_BadText, i_BadWord := i_BadWord, i_TooMany := i_TooMany } : Ad) ([(pt_law_text_right, ((("_law_text_right" : Str) ++ ".<locals>.") ++ "<lambda>")), (pt_law_long_right, ((("_law_long_right" : Str) ++ ".<locals>.") ++ "<lambda>")), (pt_law_refused_right, ((("_law_refused_right" : Str) ++ ".<locals>.") ++ "<lambda>")), (pt_law_second_part, ((("_law_second_part" : Str) ++ ".<locals>.") ++ "<lambda>"))] : List (Addr × Str))) := ⟨_, _, _, (ok_law_text_right F_law_text_right T d_law_due lh lm_law_text_right os_Word s_Word_read sk_Word_read_text), PySem.W.mg_of X G a_law_text_right, F_law_text_right.kp, b_law_text_right⟩
  have d_law_first_part : CalN l.prog w K mg base 8 "_law_first_part" (sp_law_first_part K ({ BadNumber := C_BadNumber, BadText := C_BadText, BadWord := C_BadWord, BallError := C_BallError, TooMany := C_TooMany, Word := C_Word, i_BadNumber := i_BadNumber, i_BadText := i_BadText, i_BadWord := i_BadWord, i_TooMany := i_TooMany } : Ad) ([(pt_law_text_right, ((("_law_text_right" : Str) ++ ".<locals>.") ++ "<lambda>")), (pt_law_long_right, ((("_law_long_right" : Str) ++ ".<locals>.") ++ "<lambda>")), (pt_law_refused_right, ((("_law_refused_right" : Str) ++ ".<locals>.") ++ "<lambda>")), (pt_law_second_part, ((("_law_second_part" : Str) ++ ".<locals>.") ++ "<lambda>"))] : List (Addr × Str))) := ⟨_, _, _, (ok_law_first_part F_law_first_part T d_law_draw d_law_drawn d_law_pair_right d_law_pen d_law_refused_right d_law_row d_law_word_right), PySem.W.mg_of X G a_law_first_part, F_law_first_part.kp, b_law_first_part⟩
  have d_law_second_part : CalN l.prog w K mg base 9 "_law_second_part" (sp_law_second_part K ({ BadNumber := C_BadNumber, BadText := C_BadText, BadWord := C_BadWord, BallError := C_BallError, TooMany := C_TooMany, Word := C_Word, i_BadNumber := i_BadNumber, i_BadText := i_BadText, i_BadWord := i_BadWord, i_TooMany := i_TooMany } : Ad) ([(pt_law_text_right, ((("_law_text_right" : Str) ++ ".<locals>.") ++ "<lambda>")), (pt_law_long_right, ((("_law_long_right" : Str) ++ ".<locals>.") ++ "<lambda>")), (pt_law_refused_right, ((("_law_refused_right" : Str) ++ ".<locals>.") ++ "<lambda>")), (pt_law_second_part, ((("_law_second_part" : Str) ++ ".<locals>.") ++ "<lambda>"))] : List (Addr × Str))) := ⟨_, _, _, (ok_law_second_part F_law_second_part T d_law_long_right d_law_other_draw d_law_other_pick d_law_other_row d_law_pen d_law_spoiled d_law_text_right lh lm_law_second_part m_Word oe_Word os_Word s_Word_read), PySem.W.mg_of X G a_law_second_part, F_law_second_part.kp, b_law_second_part⟩
  exact ok_law F_law T d_law_first_part d_law_second_part
theorem walk {l : PySem.W.OpenLaw} {q : Program} {loose : List Str} {XP : (Str → Option Value) → Heap → Prop} {YP : World → Heap → Prop} {d : DefRec} {K : Params → PySem.W.Frag} (hn : l.most = some 63) (hdf : d.params.defaults = [])
    (hY : ∀ (w : World) (h : Heap), YP w h → (K w.params).In h)
    (F : ∀ (w : World) (mg : Str → Option Value) (fa : Addr) (h : Heap), YP w h → (K w.params).In h → h.Ns mainGlobals mg → mg d.name = some (.ref fa) → LamX.LawAtS l w (K w.params) CX0 10 63 "script" mg fa h) :
    PySem.W.WalkO q loose XP YP l.row.toRowW d [] (fun f vs => PySem.call f vs) :=
  LamX.walk_ofTs (n := 63) (k := 10) (x := "script") (CX := fun _ => CX0) hn (by decide) hdf ⟨rfl, by decide, by decide⟩ hY F fun _ _ _ _ _ z => z

end Cs

open PySem PySem.W PyProof.Rows in
set_option maxRecDepth 100000 in
set_option maxHeartbeats 0 in
theorem PySem.Challenge.cw_copyshare_k03_roots_cores_powers_and_tex_holds : PySem.Challenge.rw_copyshare_k03_roots_cores_powers_and_tex.Holds := by
  w_on; o_law; k_head; (case hw => w_witness2)
  k_fill
  refine Cs.walk (l := PySem.Challenge.rw_copyshare_k03_roots_cores_powers_and_tex) rfl rfl (fun w h Y => PySem.W.km_in_of Y) ?F
  case F =>
    intro w mg fa h Y KX G hmg
    have hT8 := PySem.W.km_tabs_of Y
    refine' Cs.all_mk KX G hmg ?a_BadNumber ?a_BadText ?a_BadWord ?a_BallError ?a_TooMany ?a_Word ?a_law_heard ?l_law_heard ?c_law_heard ?k_law_heard ?a_need_row ?l_need_row ?c_need_row ?k_need_row ?a_need_word ?l_need_word ?c_need_word ?k_need_word ?a_Word_init ?l_Word_init ?c_Word_init ?k_Word_init ?t_Word_init ?i_Word_init ?a_undone ?l_undone ?c_undone ?k_undone ?a_product ?l_product ?c_product ?k_product ?a_Word_mul ?l_Word_mul ?c_Word_mul ?k_Word_mul ?i_Word_mul ?a_Word_invert ?l_Word_invert ?c_Word_invert ?k_Word_invert ?i_Word_invert ?a_Word_len ?l_Word_len ?c_Word_len ?k_Word_len ?i_Word_len ?a_Word_str ?l_Word_str ?c_Word_str ?k_Word_str ?i_Word_str ?a_Word_eq ?l_Word_eq ?c_Word_eq ?k_Word_eq ?i_Word_eq ?a_is_integer ?l_is_integer ?c_is_integer ?k_is_integer ?a_is_letter ?l_is_letter ?c_is_letter ?k_is_letter ?a_is_row ?l_is_row ?c_is_row ?k_is_row ?a_lone ?l_lone ?c_lone ?k_lone ?a_coat_of ?l_coat_of ?c_coat_of ?k_coat_of ?a_period_of ?l_period_of ?c_period_of ?k_period_of ?a_Word_power ?l_Word_power ?c_Word_power ?k_Word_power ?i_Word_power ?a_Word_root ?l_Word_root ?c_Word_root ?k_Word_root ?i_Word_root ?a_Word_core ?l_Word_core ?c_Word_core ?k_Word_core ?i_Word_core ?rd_Word ?gat_Word ?sa1_Word_read ?sa2_Word_read ?l_Word_read ?c_Word_read ?k_Word_read ?a_commute ?l_commute ?c_commute ?k_commute ?a_law_pen ?l_law_pen ?c_law_pen ?k_law_pen ?a_law_draw ?l_law_draw ?c_law_draw ?k_law_draw ?a_law_pick ?l_law_pick ?c_law_pick ?k_law_pick ?a_law_other_draw ?l_law_other_draw ?c_law_other_draw ?k_law_other_draw ?a_law_other_pick ?l_law_other_pick ?c_law_other_pick ?k_law_other_pick ?a_law_undo ?l_law_undo ?c_law_undo ?k_law_undo ?a_law_row ?l_law_row ?c_law_row ?k_law_row ?a_law_other_row ?l_law_other_row ?c_law_other_row ?k_law_other_row ?a_law_back ?l_law_back ?c_law_back ?k_law_back ?a_law_join ?l_law_join ?c_law_join ?k_law_join ?a_law_power ?l_law_power ?c_law_power ?k_law_power ?a_law_drawn ?l_law_drawn ?c_law_drawn ?k_law_drawn ?a_law_peeled ?l_law_peeled ?c_law_peeled ?k_law_peeled ?a_law_root ?l_law_root ?c_law_root ?k_law_root ?a_law_word_right ?l_law_word_right ?c_law_word_right ?k_law_word_right ?a_law_alike ?l_law_alike ?c_law_alike ?k_law_alike ?a_law_told ?l_law_told ?c_law_told ?k_law_told ?a_law_pair_right ?l_law_pair_right ?c_law_pair_right ?k_law_pair_right ?a_law_due ?l_law_due ?c_law_due ?k_law_due ?a_law_spoiled ?l_law_spoiled ?c_law_spoiled ?k_law_spoiled ?a_law_text_right ?l_law_text_right ?c_law_text_right ?lc_law_text_right ?h11_law_text_right ?ch_law_text_right ?np_law_text_right ?tb_law_text_right ?k_law_text_right ?a_law_long_right ?l_law_long_right ?c_law_long_right ?lc_law_long_right ?h11_law_long_right ?ch_law_long_right ?np_law_long_right ?tb_law_long_right ?ne_law_text_right_law_long_right ?k_law_long_right ?a_law_refused_right ?l_law_refused_right ?c_law_refused_right ?lc_law_refused_right ?h11_law_refused_right ?ch_law_refused_right ?np_law_refused_right ?tb_law_refused_right ?ne_law_text_right_law_refused_right ?ne_law_long_right_law_refused_right ?k_law_refused_right ?a_law_first_part ?l_law_first_part ?c_law_first_part ?k_law_first_part ?a_law_second_part ?l_law_second_part ?c_law_second_part ?lc_law_second_part ?h11_law_second_part ?ch_law_second_part ?np_law_second_part ?tb_law_second_part ?ne_law_text_right_law_second_part ?ne_law_long_right_law_second_part ?ne_law_refused_right_law_second_part ?k_law_second_part ?a_law ?l_law ?c_law ?k_law ?noSup ?noAny ?top ?mk_Word ?kC_Word ?sf_Word ?hs_Word ?hR_Word ?fo_NoneType ?ro_NoneType ?fo_int ?ro_int ?fo_bool ?ro_bool ?fo_str ?ro_str ?fo_list ?ro_list ?fo_tuple ?ro_tuple ?su_NoneType_Word ?su_int_Word ?su_bool_Word ?su_str_Word ?su_list_Word ?su_tuple_Word ?one_Word ?hm_Word ?su_Word_list ?su_Word_tuple ?b_NotImplemented ?b_abs ?b_bool ?b_enumerate ?b_int ?b_isinstance ?b_len ?b_list ?b_range ?b_str ?pg_Word ?hd_Word ?po_Word ?sa_Word ?xL_BadNumber ?al_BadNumber ?sa_BadNumber ?iC_BadNumber ?tI_BadNumber ?exC_BadNumber ?veC_BadNumber ?tyC_BadNumber ?kC_BadNumber ?own_BadNumber ?lf_BadNumber ?hcd_BadNumber ?lc_BadNumber ?hvs_BadNumber ?hfile_BadNumber ?lcc_BadNumber ?no_BadNumber_part ?xL_BadText ?al_BadText ?sa_BadText ?iC_BadText ?tI_BadText ?exC_BadText ?veC_BadText ?tyC_BadText ?kC_BadText ?own_BadText ?lf_BadText ?hcd_BadText ?lc_BadText ?hvs_BadText ?hfile_BadText ?lcc_BadText ?no_BadText_item ?xL_BadWord ?al_BadWord ?sa_BadWord ?iC_BadWord ?tI_BadWord ?exC_BadWord ?veC_BadWord ?tyC_BadWord ?kC_BadWord ?own_BadWord ?lf_BadWord ?hcd_BadWord ?lc_BadWord ?hvs_BadWord ?hfile_BadWord ?lcc_BadWord ?no_BadWord_at ?xL_TooMany ?al_TooMany ?sa_TooMany ?iC_TooMany ?tI_TooMany ?exC_TooMany ?veC_TooMany ?tyC_TooMany ?kC_TooMany ?own_TooMany ?lf_TooMany ?hcd_TooMany ?lc_TooMany ?hvs_TooMany ?hfile_TooMany ?lcc_TooMany ?no_TooMany_what ?no_TooMany_most ?su_BadNumber_BallError ?icl_BallError ?tyC_BallError ?exC_BallError ?su_BadText_BallError ?su_BadWord_BallError ?su_TooMany_BallError ?g_LETTERS ?g_MOST_LETTERS ?icl_Word ?tyC_Word ?su_Word_str ?no_Word_letters ?no_Word_size ?ha_Word ?hn ?htk ?ga_BadNumber ?gg_BadNumber ?hd_BadNumber ?ga_BadText ?gg_BadText ?hd_BadText ?ga_BadWord ?gg_BadWord ?hd_BadWord ?ga_TooMany ?gg_TooMany ?hd_TooMany ?ha_BadNumber ?hm_BadNumber ?clI_BadNumber ?ha_BadText ?hm_BadText ?clI_BadText ?ha_BadWord ?hm_BadWord ?clI_BadWord ?ha_TooMany ?hm_TooMany ?clI_TooMany
    (case a_BadNumber => k_is)
    (case a_BadText => k_is)
    (case a_BadWord => k_is)
    (case a_BallError => k_is)
    (case a_TooMany => k_is)
    (case a_Word => k_is)
    (case a_law_heard => k_is)
    (case l_law_heard => k_is)
    (case c_law_heard => k_is)
    (case k_law_heard => k_is)
    (case a_need_row => k_is)
    (case l_need_row => k_is)
    (case c_need_row => k_is)
    (case k_need_row => k_is)
    (case a_need_word => k_is)
    (case l_need_word => k_is)
    (case c_need_word => k_is)
    (case k_need_word => k_is)
    (case a_Word_init => k_is)
    (case l_Word_init => k_is)
    (case c_Word_init => k_is)
    (case k_Word_init => k_is)
    (case t_Word_init => k_is)
    (case i_Word_init => k_is)
    (case a_undone => k_is)
    (case l_undone => k_is)
    (case c_undone => k_is)
    (case k_undone => k_is)
    (case a_product => k_is)
    (case l_product => k_is)
    (case c_product => k_is)
    (case k_product => k_is)
    (case a_Word_mul => k_is)
    (case l_Word_mul => k_is)
    (case c_Word_mul => k_is)
    (case k_Word_mul => k_is)
    (case i_Word_mul => k_is)
    (case a_Word_invert => k_is)
    (case l_Word_invert => k_is)
    (case c_Word_invert => k_is)
    (case k_Word_invert => k_is)
    (case i_Word_invert => k_is)
    (case a_Word_len => k_is)
    (case l_Word_len => k_is)
    (case c_Word_len => k_is)
    (case k_Word_len => k_is)
    (case i_Word_len => k_is)
    (case a_Word_str => k_is)
    (case l_Word_str => k_is)
    (case c_Word_str => k_is)
    (case k_Word_str => k_is)
    (case i_Word_str => k_is)
    (case a_Word_eq => k_is)
    (case l_Word_eq => k_is)
    (case c_Word_eq => k_is)
    (case k_Word_eq => k_is)
    (case i_Word_eq => k_is)
    (case a_is_integer => k_is)
    (case l_is_integer => k_is)
    (case c_is_integer => k_is)
    (case k_is_integer => k_is)
    (case a_is_letter => k_is)
    (case l_is_letter => k_is)
    (case c_is_letter => k_is)
    (case k_is_letter => k_is)
    (case a_is_row => k_is)
    (case l_is_row => k_is)
    (case c_is_row => k_is)
    (case k_is_row => k_is)
    (case a_lone => k_is)
    (case l_lone => k_is)
    (case c_lone => k_is)
    (case k_lone => k_is)
    (case a_coat_of => k_is)
    (case l_coat_of => k_is)
    (case c_coat_of => k_is)
    (case k_coat_of => k_is)
    (case a_period_of => k_is)
    (case l_period_of => k_is)
    (case c_period_of => k_is)
    (case k_period_of => k_is)
    (case a_Word_power => k_is)
    (case l_Word_power => k_is)
    (case c_Word_power => k_is)
    (case k_Word_power => k_is)
    (case i_Word_power => k_is)
    (case a_Word_root => k_is)
    (case l_Word_root => k_is)
    (case c_Word_root => k_is)
    (case k_Word_root => k_is)
    (case i_Word_root => k_is)
    (case a_Word_core => k_is)
    (case l_Word_core => k_is)
    (case c_Word_core => k_is)
    (case k_Word_core => k_is)
    (case i_Word_core => k_is)
    (case rd_Word => k_is)
    (case gat_Word => k_is)
    (case sa1_Word_read => k_is)
    (case sa2_Word_read => k_is)
    (case l_Word_read => k_is)
    (case c_Word_read => k_is)
    (case k_Word_read => k_is)
    (case a_commute => k_is)
    (case l_commute => k_is)
    (case c_commute => k_is)
    (case k_commute => k_is)
    (case a_law_pen => k_is)
    (case l_law_pen => k_is)
    (case c_law_pen => k_is)
    (case k_law_pen => k_is)
    (case a_law_draw => k_is)
    (case l_law_draw => k_is)
    (case c_law_draw => k_is)
    (case k_law_draw => k_is)
    (case a_law_pick => k_is)
    (case l_law_pick => k_is)
    (case c_law_pick => k_is)
    (case k_law_pick => k_is)
    (case a_law_other_draw => k_is)
    (case l_law_other_draw => k_is)
    (case c_law_other_draw => k_is)
    (case k_law_other_draw => k_is)
    (case a_law_other_pick => k_is)
    (case l_law_other_pick => k_is)
    (case c_law_other_pick => k_is)
    (case k_law_other_pick => k_is)
    (case a_law_undo => k_is)
    (case l_law_undo => k_is)
    (case c_law_undo => k_is)
    (case k_law_undo => k_is)
    (case a_law_row => k_is)
    (case l_law_row => k_is)
    (case c_law_row => k_is)
    (case k_law_row => k_is)
    (case a_law_other_row => k_is)
    (case l_law_other_row => k_is)
    (case c_law_other_row => k_is)
    (case k_law_other_row => k_is)
    (case a_law_back => k_is)
    (case l_law_back => k_is)
    (case c_law_back => k_is)
    (case k_law_back => k_is)
    (case a_law_join => k_is)
    (case l_law_join => k_is)
    (case c_law_join => k_is)
    (case k_law_join => k_is)
    (case a_law_power => k_is)
    (case l_law_power => k_is)
    (case c_law_power => k_is)
    (case k_law_power => k_is)
    (case a_law_drawn => k_is)
    (case l_law_drawn => k_is)
    (case c_law_drawn => k_is)
    (case k_law_drawn => k_is)
    (case a_law_peeled => k_is)
    (case l_law_peeled => k_is)
    (case c_law_peeled => k_is)
    (case k_law_peeled => k_is)
    (case a_law_root => k_is)
    (case l_law_root => k_is)
    (case c_law_root => k_is)
    (case k_law_root => k_is)
    (case a_law_word_right => k_is)
    (case l_law_word_right => k_is)
    (case c_law_word_right => k_is)
    (case k_law_word_right => k_is)
    (case a_law_alike => k_is)
    (case l_law_alike => k_is)
    (case c_law_alike => k_is)
    (case k_law_alike => k_is)
    (case a_law_told => k_is)
    (case l_law_told => k_is)
    (case c_law_told => k_is)
    (case k_law_told => k_is)
    (case a_law_pair_right => k_is)
    (case l_law_pair_right => k_is)
    (case c_law_pair_right => k_is)
    (case k_law_pair_right => k_is)
    (case a_law_due => k_is)
    (case l_law_due => k_is)
    (case c_law_due => k_is)
    (case k_law_due => k_is)
    (case a_law_spoiled => k_is)
    (case l_law_spoiled => k_is)
    (case c_law_spoiled => k_is)
    (case k_law_spoiled => k_is)
    (case a_law_text_right => k_is)
    (case l_law_text_right => k_is)
    (case c_law_text_right => k_is)
    (case lc_law_text_right => k_is)
    (case h11_law_text_right => first | rfl | k_is)
    (case ch_law_text_right => first | kernel_rfl | k_is | decide +kernel)
    (case np_law_text_right => first | kernel_rfl | decide +kernel | rfl)
    (case tb_law_text_right => exact hT8 _ (by first | decide | simp))
    (case k_law_text_right => k_is)
    (case a_law_long_right => k_is)
    (case l_law_long_right => k_is)
    (case c_law_long_right => k_is)
    (case lc_law_long_right => k_is)
    (case h11_law_long_right => first | rfl | k_is)
    (case ch_law_long_right => first | kernel_rfl | k_is | decide +kernel)
    (case np_law_long_right => first | kernel_rfl | decide +kernel | rfl)
    (case tb_law_long_right => exact hT8 _ (by first | decide | simp))
    (case ne_law_text_right_law_long_right => decide)
    (case k_law_long_right => k_is)
    (case a_law_refused_right => k_is)
    (case l_law_refused_right => k_is)
    (case c_law_refused_right => k_is)
    (case lc_law_refused_right => k_is)
    (case h11_law_refused_right => first | rfl | k_is)
    (case ch_law_refused_right => first | kernel_rfl | k_is | decide +kernel)
    (case np_law_refused_right => first | kernel_rfl | decide +kernel | rfl)
    (case tb_law_refused_right => exact hT8 _ (by first | decide | simp))
    (case ne_law_text_right_law_refused_right => decide)
    (case ne_law_long_right_law_refused_right => decide)
    (case k_law_refused_right => k_is)
    (case a_law_first_part => k_is)
    (case l_law_first_part => k_is)
    (case c_law_first_part => k_is)
    (case k_law_first_part => k_is)
    (case a_law_second_part => k_is)
    (case l_law_second_part => k_is)
    (case c_law_second_part => k_is)
    (case lc_law_second_part => k_is)
    (case h11_law_second_part => first | rfl | k_is)
    (case ch_law_second_part => first | kernel_rfl | k_is | decide +kernel)
    (case np_law_second_part => first | kernel_rfl | decide +kernel | rfl)
    (case tb_law_second_part => exact hT8 _ (by first | decide | simp))
    (case ne_law_text_right_law_second_part => decide)
    (case ne_law_long_right_law_second_part => decide)
    (case ne_law_refused_right_law_second_part => decide)
    (case k_law_second_part => k_is)
    (case a_law => k_is)
    (case l_law => k_is)
    (case c_law => k_is)
    (case k_law => k_is)
    (case noSup => k_is)
    (case noAny => k_is)
    (case top => first | rfl | decide +kernel | k_is)
    (case mk_Word => k_is)
    (case kC_Word => k_is)
    (case sf_Word => k_is)
    (case hs_Word => first | k_is | kernel_rfl)
    (case hR_Word => first | k_is | kernel_rfl)
    (case fo_NoneType => first | k_is | kernel_rfl)
    (case ro_NoneType => first | k_is | kernel_rfl)
    (case fo_int => first | k_is | kernel_rfl)
    (case ro_int => first | k_is | kernel_rfl)
    (case fo_bool => first | k_is | kernel_rfl)
    (case ro_bool => first | k_is | kernel_rfl)
    (case fo_str => first | k_is | kernel_rfl)
    (case ro_str => first | k_is | kernel_rfl)
    (case fo_list => first | k_is | kernel_rfl)
    (case ro_list => first | k_is | kernel_rfl)
    (case fo_tuple => first | k_is | kernel_rfl)
    (case ro_tuple => first | k_is | kernel_rfl)
    (case su_NoneType_Word => first | k_is | rfl)
    (case su_int_Word => first | k_is | rfl)
    (case su_bool_Word => first | k_is | rfl)
    (case su_str_Word => first | k_is | rfl)
    (case su_list_Word => first | k_is | rfl)
    (case su_tuple_Word => first | k_is | rfl)
    (case one_Word => k_is)
    (case hm_Word => k_is)
    (case su_Word_list => first | k_is | rfl)
    (case su_Word_tuple => first | k_is | rfl)
    (case b_NotImplemented => k_is)
    (case b_abs => k_is)
    (case b_bool => k_is)
    (case b_enumerate => k_is)
    (case b_int => k_is)
    (case b_isinstance => k_is)
    (case b_len => k_is)
    (case b_list => k_is)
    (case b_range => k_is)
    (case b_str => k_is)
    (case pg_Word => k_is)
    (case hd_Word => k_is)
    (case po_Word => k_is)
    (case sa_Word => k_is)
    (case xL_BadNumber => k_is)
    (case al_BadNumber => first | k_is | rfl | decide +kernel)
    (case sa_BadNumber => k_is)
    (case iC_BadNumber => k_is)
    (case tI_BadNumber => k_is)
    (case exC_BadNumber => k_is)
    (case veC_BadNumber => k_is)
    (case tyC_BadNumber => k_is)
    (case kC_BadNumber => k_is)
    (case own_BadNumber => k_is)
    (case lf_BadNumber => k_is)
    (case hcd_BadNumber => k_is)
    (case lc_BadNumber => k_is)
    (case hvs_BadNumber => first | rfl | k_is)
    (case hfile_BadNumber => first | rfl | decide +kernel | k_is)
    (case lcc_BadNumber => k_is)
    (case no_BadNumber_part => k_is)
    (case xL_BadText => k_is)
    (case al_BadText => first | k_is | rfl | decide +kernel)
    (case sa_BadText => k_is)
    (case iC_BadText => k_is)
    (case tI_BadText => k_is)
    (case exC_BadText => k_is)
    (case veC_BadText => k_is)
    (case tyC_BadText => k_is)
    (case kC_BadText => k_is)
    (case own_BadText => k_is)
    (case lf_BadText => k_is)
    (case hcd_BadText => k_is)
    (case lc_BadText => k_is)
    (case hvs_BadText => first | rfl | k_is)
    (case hfile_BadText => first | rfl | decide +kernel | k_is)
    (case lcc_BadText => k_is)
    (case no_BadText_item => k_is)
    (case xL_BadWord => k_is)
    (case al_BadWord => first | k_is | rfl | decide +kernel)
    (case sa_BadWord => k_is)
    (case iC_BadWord => k_is)
    (case tI_BadWord => k_is)
    (case exC_BadWord => k_is)
    (case veC_BadWord => k_is)
    (case tyC_BadWord => k_is)
    (case kC_BadWord => k_is)
    (case own_BadWord => k_is)
    (case lf_BadWord => k_is)
    (case hcd_BadWord => k_is)
    (case lc_BadWord => k_is)
    (case hvs_BadWord => first | rfl | k_is)
    (case hfile_BadWord => first | rfl | decide +kernel | k_is)
    (case lcc_BadWord => k_is)
    (case no_BadWord_at => k_is)
    (case xL_TooMany => k_is)
    (case al_TooMany => first | k_is | rfl | decide +kernel)
    (case sa_TooMany => k_is)
    (case iC_TooMany => k_is)
    (case tI_TooMany => k_is)
    (case exC_TooMany => k_is)
    (case veC_TooMany => k_is)
    (case tyC_TooMany => k_is)
    (case kC_TooMany => k_is)
    (case own_TooMany => k_is)
    (case lf_TooMany => k_is)
    (case hcd_TooMany => k_is)
    (case lc_TooMany => k_is)
    (case hvs_TooMany => first | rfl | k_is)
    (case hfile_TooMany => first | rfl | decide +kernel | k_is)
    (case lcc_TooMany => k_is)
    (case no_TooMany_what => k_is)
    (case no_TooMany_most => k_is)
    (case su_BadNumber_BallError => first | k_is | rfl)
    (case icl_BallError => k_is)
    (case tyC_BallError => k_is)
    (case exC_BallError => k_is)
    (case su_BadText_BallError => first | k_is | rfl)
    (case su_BadWord_BallError => first | k_is | rfl)
    (case su_TooMany_BallError => first | k_is | rfl)
    (case g_LETTERS => k_is)
    (case g_MOST_LETTERS => k_is)
    (case icl_Word => k_is)
    (case tyC_Word => k_is)
    (case su_Word_str => first | k_is | rfl)
    (case no_Word_letters => k_is)
    (case no_Word_size => k_is)
    (case ha_Word => k_is)
    (case hn => k_is)
    (case htk => k_is)
    (case ga_BadNumber => k_is)
    (case gg_BadNumber => k_is)
    (case hd_BadNumber => k_is)
    (case ga_BadText => k_is)
    (case gg_BadText => k_is)
    (case hd_BadText => k_is)
    (case ga_BadWord => k_is)
    (case gg_BadWord => k_is)
    (case hd_BadWord => k_is)
    (case ga_TooMany => k_is)
    (case gg_TooMany => k_is)
    (case hd_TooMany => k_is)
    (case ha_BadNumber => k_is)
    (case hm_BadNumber => k_is)
    (case clI_BadNumber => k_is)
    (case ha_BadText => k_is)
    (case hm_BadText => k_is)
    (case clI_BadText => k_is)
    (case ha_BadWord => k_is)
    (case hm_BadWord => k_is)
    (case clI_BadWord => k_is)
    (case ha_TooMany => k_is)
    (case hm_TooMany => k_is)
    (case clI_TooMany => k_is)
