import PyProof.Rows.All
import Wide.All
import OpenK.AllK
import Wide.FinOn
import KE.KExcSuper
import HandS.ForExc
import HandS.ExcInit
import HandS.ExcValue
import KE.KExcIs
import HandS.ExcField
import HandS.IsInst
import HandS.TryMany
import HandS.ForMost
import HandS.Walk
import HandS.Flow
import HandS.Style
import HandS.More
import HandS.NoneIn
import HandS.StrMore
import HandS.Wide
import HandS.Codes
import HandS.TupAny
import PyProof.StrOps2
import PyProof.Draws
import HandS.Defaults
import KE.KOpsOwn
import HandS.OwnEq
import PyProof.InstNe
import HandS.Lambda
import HandS.EndTab
import HandS.NestedK
import HandS.ClsMeth
import HandS.MakeKw
import HandS.MakeKwOnly
import HandS.IterVal
import KE.KOwnIter
import PyProof.StrWalks
import HandS.IterNext
import PyProof.NeKinds
import PyProof.EqKinds
import PyProof.Rows.StrRev
import PyProof.SliceStr2
import HandS.Replace
import HandS.RaiseMore
import PyProof.Rows.StrSplitCount
import PyProof.Rows.StrSplitAre
import PyProof.StrLawsChain
import HandS.Text
import HandS.Iter
import PyProof.ReprRoads
import PyProof.CallFns
import PyProof.ExcClass
import HandS.Deep
import PyProof.FitsInt
import PyProof.Rows.RegStrFacts
import PySem.Challenge.RW_copyshare_k00_errors_and_checks
set_option Elab.async false
set_option linter.all false
set_option maxRecDepth 100000
set_option maxHeartbeats 4000000
/-! ErrA: the making of an own error whose __init__ says super().__init__('..') and then stores its parameters, at the library's level. -/
namespace PySem
namespace ErrX
open PySem.W PySem.Calls PyProof.Rows PySem.Spec PySem.HandSPX

/-- the statement super().__init__(msg) -/
abbrev sup (msg : Str) (p0 p1 p2 p3 p4 p5 : Pos) : Stmt :=
  .Expr (.Call (.Attribute (.Call (.Name "super" p0) [] [] p1) "__init__" p2) [.Constant (.str msg) 0 p3] [] p4) p5
abbrev sto (f : Str) (q0 q1 q2 q3 : Pos) : Stmt := .Assign [.Attribute (.Name "self" q0) f q1] (.Name f q2) q3

/-- how super().__init__(msg) is evaluated -/
def SupEv (msg : Str) (p0 p1 p2 p3 p4 : Pos) (pl : Sem Bool) (env : Env) : Prop :=
  eval (.Call (.Attribute (.Call (.Name "super" p0) [] [] p1) "__init__" p2) [.Constant (.str msg) 0 p3] [] p4) env = (do
      let ov ← attributeBase (.Call (.Name "super" p0) [] [] p1) "__init__" env (eval (.Call (.Name "super" p0) [] [] p1) env)
      standAt p2.atName
      let (f, first) ← holding [ov] (getMethod ov "__init__" pl)
      callWith p4 f first (backTo p4 (starEach [.Constant (.str msg) 0 p3] env)) [])
/-- what the written part says of an error's class at C, whose __init__ stands at fI -/
structure ECls (prog : Program) (K : Frag) (C fI : Addr) : Prop where
  cls : ∃ nm q N bs bm sn sub ab col dd k0 k1 k2 k3 k5, K.lookup C = some (excClassObj nm q C N bs bm true sn sub ab col dd k0 k1 k2 k3 k5 "ValueError.__new__") ∧ refsVE bm = true ∧
    alongIn K "__init__" bm = some (some (.builtin "ValueError.__init__"))
  sa : findIn K (.ref C) "__setattr__" = some (some (.builtin "object.__setattr__"))
  iC : findIn K (.ref C) "__init__" = some (some (.ref fI))
  tI : typeIn K (.ref fI) = some (.type "function")
  exC : subIn K (.ref C) (.type "BaseException") = some true
  veC : subIn K (.ref C) (.type "ValueError") = some true
  tyC : typeIn K (.ref C) = some (.type "type")
  kC : keepIn K (.ref C) = true
  own : mroIn K C (.ref C) = some true
  noSup : nsIn K mainGlobals "super" = some none
  noAny : nsIn K cStatics "thirdparty.any" = some none
  top : (prog.main.scope.names.lookup ("super" : Str)).isSome = false

structure EFun (prog : Program) (K : Frag) (C fI : Addr) (params : Arguments) (body : List Stmt) (scope : Scope) : Prop where
  fn : ∃ (oc : Value) (od an : Option Addr) (kV doc pm ct : Value) (osl : Array (Option Value)) (qual : Str) (cda cc : Addr) (ccl cl : Value) (cdd cld : Option Addr) (vs : Array Value) (ccs csl : Array (Option Value)) (file : Str) (tf : Tok),
    K.lookup fI = some ⟨oc, od, .func (ksFn "__init__" qual params body scope .none kV doc pm an (.ref cda) ct cc), osl⟩ ∧ codeIn K (.ref cda) qual = true ∧
    K.lookup cda = some ⟨ccl, cdd, .fields vs, ccs⟩ ∧ vs[2]? = some (.str file tf) ∧ ((prog.main.file : Str) == file) = true ∧
    K.lookup cc = some ⟨cl, cld, .cell (some (.ref C)), csl⟩

section
variable {prog : Program} {w : World} {A : Around} {E : Value → Shared → Prop} {s : Shared} {K : Frag} {mg : Str → Option Value} {C fI : Addr}

/-- super().__init__(msg) within the __init__ of C, self at x -/
theorem sup_run {base : Heap} (M : L2.Mod K mg base) (kb : ∀ b o, base.get? b = some o → s.heap.get? b = some o) (T : ECls prog K C fI)
    {qual : Str} {params : Arguments} {body : List Stmt} {scope : Scope} {kV doc pm ct oc : Value} {an od : Option Addr} {osl : Array (Option Value)} {cda cc L : Addr} {ccl cl : Value} {cdd cld : Option Addr} {vs : Array Value} {ccs csl : Array (Option Value)} {file : Str} {tf : Tok} {ar : Arg}
    (lf : K.lookup fI = some ⟨oc, od, .func (ksFn "__init__" qual params body scope .none kV doc pm an (.ref cda) ct cc), osl⟩)
    (lc : K.lookup cda = some ⟨ccl, cdd, .fields vs, ccs⟩) (hvs : vs[2]? = some (.str file tf)) (hfile : ((prog.main.file : Str) == file) = true) (lcc : K.lookup cc = some ⟨cl, cld, .cell (some (.ref C)), csl⟩)
    (hp : (params.posonlyargs ++ params.args).head? = some ar) (hks : scope.names.lookup ("super" : Str) = some .globalImplicit) (hkc : scope.names.lookup ("__class__" : Str) = some .free) (hka : scope.names.lookup ar.arg = some .local) (hk : scope.kind = .function)
    {m : Str → Option Value} (hn : s.heap.Ns L m) {x t0 : Addr} (hm : m ar.arg = some (.ref x)) (hx : s.heap.get? x = some (excO C t0)) (xL : x ≠ L)
    {msg : Str} {p0 p1 p2 p3 p4 p5 : Pos} {rest : List Stmt} {Q : Flow → Shared → Prop} (hin : interactive (ksEnv qual scope L fI (.ref cda) cc) = false) {pl : Sem Bool} (he : SupEv msg p0 p1 p2 p3 p4 pl (ksEnv qual scope L fI (.ref cda) cc))
    (h : ∀ h' t1 tk, (∀ b o, b ≠ x → s.heap.get? b = some o → h'.get? b = some o) → h'.get? x = some (excO C t1) →
      wpAny (model prog w) A (execs rest (ksEnv qual scope L fI (.ref cda) cc)) Q E { s with heap := h', toks := tk }) :
    wpAt (model prog w) A (.func body (ksEnv qual scope L fI (.ref cda) cc)) (execs (sup msg p0 p1 p2 p3 p4 p5 :: rest) (ksEnv qual scope L fI (.ref cda) cc)) Q E s := by
  obtain ⟨nm, q, N, bs, bm, sn, sub, ab, col, dd, k0, k1, k2, k3, k5, hC, hbm, hal⟩ := T.cls
  have X : K.In s.heap := M.kin.keeps kb
  obtain ⟨mb, hb, hbb⟩ := M.blt
  refine ks_wpAt_execs_cons (ks_wpAt_Expr_any (ks_wpAt_MethodCall (pl := pl) (ks_wpAt_super_base (env := ksEnv qual scope L fI (.ref cda) cc) hks hkc (by decide) rfl (X _ _ lf) rfl hp rfl (X _ _ lc) rfl hvs hfile T.top ?_) he) hin)
  refine ks_loadName_global hk hks (loadGlobal_builtin (env := ksEnv qual scope L fI (.ref cda) cc) (M.glob.keeps kb) (mg_none_of M.kin M.glob T.noSup) (hb.keeps kb) ((hbb _ (by decide +kernel)).trans Boot.«super») ⟨rfl, ?_⟩)
  refine wpAny_loadName_free hk hkc rfl ⟨_, X _ _ lcc, rfl⟩ ?_
  refine wpAny_loadName_local hk hka hn hm ?_
  obtain ⟨hp', g, d, t, os⟩ := s
  refine ks_wpAny_isType_cls (X _ _ hC) rfl ⟨rfl, ?_⟩
  refine ks_wpAny_call_super (X _ _ hC) rfl hx rfl (fun c e => by cases e) (looks_mroIn X T.own) (fun h1 e1 kk1 => ?_)
  have X1 : K.In h1 := X.keeps kk1
  have hx1 := kk1 _ _ hx
  have hcl : clsIn K C = some { name := nm, bases := bs, mro := .ref C :: bm, ns := N, qualname := q, hasDict := true, slotNames := sn, subclasses := sub, abstract := ab, collection := col, hasDel := false } := by unfold clsIn; rw [hC] <;> rfl
  have I1 : InstAt h1 x (excO C t0) C none := ⟨hx1, rfl, rfl, trivial⟩
  have hI : Looks (model prog w) h1 (isInstance (.ref x) (.type "ValueError")) true := I1.type.andThen (looks_subIn X1 T.veC)
  refine kxs_getMethod kxs_ValueError e1 (looks_opaque X1 T.noAny) (l₀ := .ref C :: bm) ?_ (l := bm) (by simp [List.dropWhile_cons]) X1 hal hI (ks_ne X1 I1 hcl) (by decide) ?_
  · exact fun A Q E s k q => wpAny_bind ((looks_clsIn X1 hcl) A _ E s k (wpAny_pure q))
  have kk2 : ∀ b o, h1.get? b = some o → (h1.push (kxs_mw "ValueError.__init__" x)).get? b = some o := fun b o e => Heap.get?_push_of_some _ e
  have hu : (h1.push (kxs_mw "ValueError.__init__" x)).get? h1.objs.size = some (kxs_mw "ValueError.__init__" x) := Heap.get?_push_at rfl rfl
  refine kxs_callWith (i := "ValueError.__init__") (x := x) rfl ?_
  refine evalArgs_plain (spliced_cons (x := eval (.Constant (.str msg) 0 p3) (ksEnv qual scope L fI (.ref cda) cc)) ?_)
  refine Constant_str (k := 0) (pos := p3) ?_
  refine spliced_nil ?_
  refine ⟨hu, ?_⟩
  refine wpAny_call (codeAny_of_tree ?_)
  show wpAny _ A.in1 (callAny (.ref h1.objs.size) ⟨_, []⟩) _ _ _
  simp only [callAny]
  refine wpAny_bind (wpAny_load hu ?_)
  simp only [kxs_mw, show (Value.type "method-wrapper" == Value.type "method" || Value.type "method-wrapper" == Value.type "builtin_function_or_method" || Value.type "method-wrapper" == Value.type "method-wrapper") = true by decide, if_true]
  refine KFB.if_so (by decide) ?_
  refine wpAny_bind (check_bound_init F.excBase_ValueError.toExcCallFacts (kk2 _ _ (X1 _ _ hC)) (kk2 _ _ hx1) rfl ?_)
  refine wpAny_bind (wpAny_pure (wpAny_pure ?_))
  refine ⟨plainId_quiet F.excBase_ValueError.init.plain _, codeAny_builtin F.excBase_ValueError.initEntry ?_⟩
  refine exc_init_tree (cls := .ref C) (t0 := t0) (dv := none) (c2 := .none) (c3 := .none) (b4 := .bool false) (kk2 _ _ hx1) (by rw [sizeLine_eq]; show 1 ≤ 16777216; decide) (fun h' k' e' t' => ?_)
  exact wpAt_of_wpAny (h h' _ _ (fun b o hb ho => k' b o hb (kk2 b o (kk1 b o ho))) e')

/-- what __init__ leaves of a fresh error at x: its dict at dx -/
structure InitEnd (h h' : Heap) (x C dx : Addr) (m : Str → Option Value) : Prop where
  keep : ∀ b o, b ≠ x → h.get? b = some o → h'.get? b = some o
  obj : ∃ t1, h'.get? x = some { cls := .ref C, dict := some dx, data := .fields #[.ref t1, .none, .none, .none, .bool false, .none] }
  dbig : h.objs.size ≤ dx
  dne : dx ≠ x
  ns : h'.Ns1 dx m

theorem ld_L {M : Model} {s : Shared} {name : Str} {scope : Scope} {L a cc : Addr} {cd : Value} {m : Str → Option Value} {x : Str} {pos : Pos} {v : Value} {Q : Value → Shared → Prop} {A : Around} {E : Value → Shared → Prop} (hn : s.heap.Ns L m) (hv : m x = some v) (h : Q v s)
    (hk : scope.kind = .function) (hl : scope.names.lookup x = some .local) (hd : (x == ("__debug__" : Str)) = false) :
    wpAny M A (eval (.Name x pos) (ksEnv name scope L a cd cc)) Q E s := wpAny_Name (wpAny_loadName_local hk hl hn hv h) hd

/-- self, then the parameters, as they are bound -/
abbrev bnd (x : Addr) (ps : List Str) (us : List Value) : List (Str × Value) := (("self" : Str), Value.ref x) :: ps.zip us
/-- what binding leaves in the frame: self, then the parameters -/
structure EShape (params : Arguments) (scope : Scope) (ps : List Str) : Prop where
  self : scope.names.lookup ("self" : Str) = some .local
  loc : ∀ f ∈ ps, scope.names.lookup f = some .local ∧ (f == ("self" : Str)) = false ∧ (f == ("__debug__" : Str)) = false
  sup : scope.names.lookup ("super" : Str) = some .globalImplicit
  cls : scope.names.lookup ("__class__" : Str) = some .free
  kind : scope.kind = .function
  co : scope.isCoroutine = false
  gen : scope.isGenerator = false
  cell : ∀ y ∈ scope.names, y.2 ≠ .cell
  par : ∃ p a, (params.posonlyargs ++ params.args).head? = some { arg := "self", annotation := a, pos := p }
  nd : ps.Nodup

/-- the entry of __init__, and its first statement -/
theorem err_enter {base : Heap} (M : L2.Mod K mg base) (kb : ∀ b o, base.get? b = some o → s.heap.get? b = some o) (T : ECls prog K C fI)
    {params : Arguments} {scope : Scope} {msg : Str} {ps : List Str} {p0 p1 p2 p3 p4 p5 : Pos} {rest : List Stmt} (S : EShape params scope ps)
    (F : EFun prog K C fI params (sup msg p0 p1 p2 p3 p4 p5 :: rest) scope)
    {R : Result → Shared → Prop} {x t0 : Addr} {us : List Value} {args : Args} (hx : s.heap.get? x = some (excO C t0)) (hbx : base.get? x = none) (hroom : A.depth < recursionLimit) (hl : us.length = ps.length)
    (hb : ∀ (qual : Str) (kV doc pm ct : Value) (an : Option Addr) (cda cc : Addr), BindsTo s (ksFn "__init__" qual params (sup msg p0 p1 p2 p3 p4 p5 :: rest) scope .none kV doc pm an (.ref cda) ct cc) args (bnd x ps us))
    (hev : ∀ (L cda cc : Addr) (qual : Str), interactive (ksEnv qual scope L fI (.ref cda) cc) = false ∧ (∃ pl, SupEv msg p0 p1 p2 p3 p4 pl (ksEnv qual scope L fI (.ref cda) cc)))
    (h : ∀ (h' : Heap) (t1 tk cda cc : Addr) (qual : Str) (A' : Around), (∀ b o, b ≠ x → s.heap.get? b = some o → h'.get? b = some o) → s.heap.objs.size ≠ x → h'.get? x = some (excO C t1) →
      h'.Ns s.heap.objs.size (fun y => (bnd x ps us).reverse.lookup y) →
      wpAny (model prog w) A' (execs rest (ksEnv qual scope s.heap.objs.size fI (.ref cda) cc)) (fun f s' => R (.ok (.ret (match f with | .ret v => v | _ => .none))) s') (fun _ _ => False) { s with heap := h', toks := tk }) :
    codeAny (model prog w) A (.call (.ref fI) args) R s := by
  obtain ⟨oc, od, an, kV, doc, pm, ct, osl, qual, cda, cc, ccl, cl, cdd, cld, vs, ccs, csl, file, tf, lf, hcd, lc, hvs, hfile, lcc⟩ := F.fn
  obtain ⟨pp, pa, hp⟩ := S.par
  have X : K.In s.heap := M.kin.keeps kb
  refine ks_codeAny_call_defAt (fd := ksFn "__init__" qual params _ scope .none kV doc pm an (.ref cda) ct cc) (binds := bnd x ps us) hroom (X _ _ lf) rfl (M.nolimit.keeps kb) (codeRec_of X hcd) rfl (hb _ _ _ _ _ _ _ _) S.cell
    (fun y hy => ?_) (fun h₁ hns hk₁ => ?_) S.co S.gen S.kind
  · rcases List.mem_cons.mp hy with rfl | hy
    · exact S.self
    · obtain ⟨f, u⟩ := y
      exact (S.loc f (List.of_mem_zip hy).1).1
  have hxL : s.heap.objs.size ≠ x := Nat.ne_of_gt (Heap.lt_size hx)
  have hx₁ := hk₁ _ _ hx
  obtain ⟨hin, pl, he⟩ := hev s.heap.objs.size cda cc qual
  have m1 : (fun y => List.lookup y (bnd x ps us).reverse) "self" = some (.ref x) := by
    show List.lookup ("self" : Str) ((("self" : Str), Value.ref x) :: ps.zip us).reverse = _
    rw [List.reverse_cons, List.lookup_append]
    have z : List.lookup ("self" : Str) (ps.zip us).reverse = none := by
      rw [List.lookup_eq_none_iff]
      intro p hp'
      have q := (S.loc p.1 (List.of_mem_zip (List.mem_reverse.mp hp')).1).2.1
      have q2 : p.1 ≠ "self" := by simpa using q
      simpa using Ne.symm q2
    rw [z]
    simp
  refine ks_wpAt_mono (sup_run (E := fun _ _ => False) M (fun b o e => hk₁ b o (kb b o e)) T lf lc hvs hfile lcc hp S.sup S.cls S.self S.kind hns m1 hx₁ (Ne.symm hxL) hin he fun h2 t1 tk k2 hx2 => ?_) (fun f s' q => q) (fun e s' q => q.elim)
  refine h h2 t1 tk cda cc qual _ (fun b o hbx ho => k2 b o hbx (hk₁ b o ho)) hxL hx2 ?_
  obtain ⟨o, es, ep, ho, r⟩ := hns
  exact ⟨o, es, ep, k2 _ _ hxL ho, r⟩

/-- self.f = f, the first store: the dict is laid -/
theorem err_sto0 {base h0 : Heap} (M : L2.Mod K mg base) (T : ECls prog K C fI) {scope : Scope} {L cda cc x t1 tk : Addr} {qual f : Str} {q0 q1 q2 q3 : Pos} {rest : List Stmt} {m : Str → Option Value} {v : Value} {Q : Flow → Shared → Prop}
    (kb : ∀ b o, base.get? b = some o → s.heap.get? b = some o) (hx : s.heap.get? x = some (excO C t1)) (hn : s.heap.Ns L m) (hL : L ≠ x) (ms : m "self" = some (.ref x)) (mf : m f = some v)
    (hk : scope.kind = .function) (hs : scope.names.lookup ("self" : Str) = some .local) (hf : scope.names.lookup f = some .local) (hfd : (f == ("__debug__" : Str)) = false) (nof : findIn K (.ref C) f = some none)
    (hsw : swapsWith (.Name f q2) (some (.Attribute (.Name "self" q0) f q1)) q3.line (ksEnv qual scope L fI (.ref cda) cc) = pure false)
    (h : ∀ h' tk' dx, (∀ b o, b ≠ x → s.heap.get? b = some o → h'.get? b = some o) → s.heap.objs.size ≤ dx → dx ≠ x → h'.get? x = some { cls := .ref C, dict := some dx, data := .fields #[.ref t1, .none, .none, .none, .bool false, .none] } →
      h'.Ns1 dx (fun y => if y = f then some v else none) → wpAny (model prog w) A (execs rest (ksEnv qual scope L fI (.ref cda) cc)) Q E { s with heap := h', toks := tk' }) :
    wpAny (model prog w) A (execs (sto f q0 q1 q2 q3 :: rest) (ksEnv qual scope L fI (.ref cda) cc)) Q E s := by
  obtain ⟨nm, q, N, bs, bm, sn, sub, ab, col, dd, k0, k1, k2, k3, k5, hC, hbm, hal⟩ := id T.cls
  have hcl : clsIn K C = some { name := nm, bases := bs, mro := .ref C :: bm, ns := N, qualname := q, hasDict := true, slotNames := sn, subclasses := sub, abstract := ab, collection := col, hasDel := false } := by unfold clsIn; rw [hC] <;> rfl
  have X : K.In s.heap := M.kin.keeps kb
  refine wpAny_execs_cons (plainObj_wpAny_Assign_Attribute ?_ hsw)
  refine ld_L hn mf (ld_L hn ms ?_ hk hs (by decide)) hk hf hfd
  refine set_plain X (ox := excO C t1) (od := none) ⟨hx, rfl, rfl, trivial⟩ T.sa ?_
  obtain ⟨hp, g, d, t, os⟩ := s
  exact exc_osa X hx hcl (show refsVE (.ref C :: bm) = true from hbm) rfl nof (fun h₃ tk₃ dx k₃ dn dne hx₃ hn₃ => h h₃ tk₃ dx k₃ dn dne hx₃ hn₃)
/-- .. a further store -/
theorem err_sto1 {base h0 : Heap} (M : L2.Mod K mg base) (T : ECls prog K C fI) {scope : Scope} {L cda cc x t1 tk dx : Addr} {qual f : Str} {q0 q1 q2 q3 : Pos} {rest : List Stmt} {m m0 : Str → Option Value} {nl : List Str} {v : Value} {Q : Flow → Shared → Prop}
    (kb : ∀ b o, base.get? b = some o → s.heap.get? b = some o) (hx : s.heap.get? x = some { cls := .ref C, dict := some dx, data := .fields #[.ref t1, .none, .none, .none, .bool false, .none] }) (hns : s.heap.Ns1 dx m0) (hw : Within m0 nl) (hz : nl.length ≤ 1000)
    (hn : s.heap.Ns L m) (ms : m "self" = some (.ref x)) (mf : m f = some v)
    (hk : scope.kind = .function) (hs : scope.names.lookup ("self" : Str) = some .local) (hf : scope.names.lookup f = some .local) (hfd : (f == ("__debug__" : Str)) = false) (nof : findIn K (.ref C) f = some none)
    (hsw : swapsWith (.Name f q2) (some (.Attribute (.Name "self" q0) f q1)) q3.line (ksEnv qual scope L fI (.ref cda) cc) = pure false)
    (h : ∀ h' tk', (∀ b o, b ≠ dx → s.heap.get? b = some o → h'.get? b = some o) → h'.Ns1 dx (fun y => if y = f then some v else m0 y) → wpAny (model prog w) A (execs rest (ksEnv qual scope L fI (.ref cda) cc)) Q E { s with heap := h', toks := tk' }) :
    wpAny (model prog w) A (execs (sto f q0 q1 q2 q3 :: rest) (ksEnv qual scope L fI (.ref cda) cc)) Q E s := by
  obtain ⟨nm, q, N, bs, bm, sn, sub, ab, col, dd, k0, k1, k2, k3, k5, hC, hbm, hal⟩ := id T.cls
  have hcl : clsIn K C = some { name := nm, bases := bs, mro := .ref C :: bm, ns := N, qualname := q, hasDict := true, slotNames := sn, subclasses := sub, abstract := ab, collection := col, hasDel := false } := by unfold clsIn; rw [hC] <;> rfl
  have X : K.In s.heap := M.kin.keeps kb
  refine wpAny_execs_cons (plainObj_wpAny_Assign_Attribute ?_ hsw)
  refine ld_L hn mf (ld_L hn ms ?_ hk hs (by decide)) hk hf hfd
  obtain ⟨oD, esD, epD, hoD, hdD, _⟩ := id hns
  refine set_plain X (ox := { cls := .ref C, dict := some dx, data := .fields #[.ref t1, .none, .none, .none, .bool false, .none] }) (od := some oD) ⟨hx, rfl, rfl, hoD⟩ T.sa ?_
  obtain ⟨hp, g, d, t, os⟩ := s
  exact PySem.OEX.osa_old X hx hns hw hz hcl (show refsVE (.ref C :: bm) = true from hbm) rfl nof (fun h₃ tk₃ k₃ hn₃ => h h₃ tk₃ k₃ hn₃)

/-- no field -/
theorem err_init0 {base : Heap} (M : L2.Mod K mg base) (kb : ∀ b o, base.get? b = some o → s.heap.get? b = some o) (T : ECls prog K C fI)
    {params : Arguments} {scope : Scope} {msg : Str} {p0 p1 p2 p3 p4 p5 : Pos} (S : EShape params scope [])
    (F : EFun prog K C fI params [sup msg p0 p1 p2 p3 p4 p5] scope)
    {R : Result → Shared → Prop} {args : Args} {x t0 : Addr} (hx : s.heap.get? x = some (excO C t0)) (hbx : base.get? x = none) (hroom : A.depth < recursionLimit)
    (hb : ∀ (qual : Str) (kV doc pm ct : Value) (an : Option Addr) (cda cc : Addr), BindsTo s (ksFn "__init__" qual params [sup msg p0 p1 p2 p3 p4 p5] scope .none kV doc pm an (.ref cda) ct cc) args [("self", .ref x)])
    (hev : ∀ (L cda cc : Addr) (qual : Str), interactive (ksEnv qual scope L fI (.ref cda) cc) = false ∧ (∃ pl, SupEv msg p0 p1 p2 p3 p4 pl (ksEnv qual scope L fI (.ref cda) cc)))
    (hq : ∀ h' tk t1, (∀ b o, b ≠ x → s.heap.get? b = some o → h'.get? b = some o) → h'.get? x = some (excO C t1) → R (.ok (.ret .none)) { s with heap := h', toks := tk }) :
    codeAny (model prog w) A (.call (.ref fI) args) R s :=
  err_enter (us := []) M kb T S F hx hbx hroom rfl hb hev fun h2 t1 tk cda cc qual A' k2 _ hx2 _ => wpAny_execs_nil (hq h2 tk t1 k2 hx2)

theorem m_self {x : Addr} {ps : List Str} {us : List Value} (h : ∀ f ∈ ps, (f == ("self" : Str)) = false) : (bnd x ps us).reverse.lookup ("self" : Str) = some (.ref x) := by
  show List.lookup ("self" : Str) ((("self" : Str), Value.ref x) :: ps.zip us).reverse = _
  rw [List.reverse_cons, List.lookup_append]
  have z : List.lookup ("self" : Str) (ps.zip us).reverse = none := by
    rw [List.lookup_eq_none_iff]
    intro p hp'
    have q := h p.1 (List.of_mem_zip (List.mem_reverse.mp hp')).1
    have q2 : p.1 ≠ "self" := by simpa using q
    simpa using Ne.symm q2
  rw [z]
  simp

/-- one field -/
theorem err_init1 {base : Heap} (M : L2.Mod K mg base) (kb : ∀ b o, base.get? b = some o → s.heap.get? b = some o) (T : ECls prog K C fI)
    {params : Arguments} {scope : Scope} {msg f : Str} {p0 p1 p2 p3 p4 p5 q0 q1 q2 q3 : Pos} (S : EShape params scope [f])
    (F : EFun prog K C fI params [sup msg p0 p1 p2 p3 p4 p5, sto f q0 q1 q2 q3] scope)
    {R : Result → Shared → Prop} {args : Args} {x t0 : Addr} {v : Value} (hx : s.heap.get? x = some (excO C t0)) (hbx : base.get? x = none) (hroom : A.depth < recursionLimit) (nof : findIn K (.ref C) f = some none)
    (hb : ∀ (qual : Str) (kV doc pm ct : Value) (an : Option Addr) (cda cc : Addr), BindsTo s (ksFn "__init__" qual params [sup msg p0 p1 p2 p3 p4 p5, sto f q0 q1 q2 q3] scope .none kV doc pm an (.ref cda) ct cc) args [("self", .ref x), (f, v)])
    (hev : ∀ (L cda cc : Addr) (qual : Str), interactive (ksEnv qual scope L fI (.ref cda) cc) = false ∧ (∃ pl, SupEv msg p0 p1 p2 p3 p4 pl (ksEnv qual scope L fI (.ref cda) cc)) ∧
      swapsWith (.Name f q2) (some (.Attribute (.Name "self" q0) f q1)) q3.line (ksEnv qual scope L fI (.ref cda) cc) = pure false)
    (hq : ∀ h' tk dx, InitEnd s.heap h' x C dx (fun y => if y = f then some v else none) → R (.ok (.ret .none)) { s with heap := h', toks := tk }) :
    codeAny (model prog w) A (.call (.ref fI) args) R s := by
  refine err_enter (us := [v]) (ps := [f]) M kb T S F hx hbx hroom rfl hb (fun L cda cc qual => ⟨(hev L cda cc qual).1, (hev L cda cc qual).2.1⟩) fun h2 t1 tk cda cc qual A' k2 hL hx2 hn2 => ?_
  obtain ⟨l1, l2, l3⟩ := S.loc f (by simp)
  refine err_sto0 (h0 := base) (tk := tk) (t1 := t1) (x := x) (v := v) M T (fun b o e => k2 b o (fun z => by rw [z, hbx] at e; cases e) (kb b o e)) hx2 hn2 hL (m_self fun g hg => (S.loc g hg).2.1) ?_ S.kind S.self l1 l3 nof (hev _ _ _ _).2.2 ?_
  · show List.lookup f [(f, v), (("self" : Str), Value.ref x)] = _
    simp
  · intro h3 tk3 dx k3 dn dne hx3 hn3
    refine wpAny_execs_nil (hq h3 tk3 dx ⟨fun b o hb ho => k3 b o hb (k2 b o hb ho), ⟨_, hx3⟩, ?_, dne, hn3⟩)
    have z : s.heap.objs.size ≤ h2.objs.size := by
      obtain ⟨o, es, ep, ho, r⟩ := hn2
      exact Nat.le_of_lt (Heap.lt_size ho)
    exact Nat.le_trans z dn
/-- two fields -/
theorem err_init2 {base : Heap} (M : L2.Mod K mg base) (kb : ∀ b o, base.get? b = some o → s.heap.get? b = some o) (T : ECls prog K C fI)
    {params : Arguments} {scope : Scope} {msg f g : Str} {p0 p1 p2 p3 p4 p5 q0 q1 q2 q3 r0 r1 r2 r3 : Pos} (S : EShape params scope [f, g])
    (F : EFun prog K C fI params [sup msg p0 p1 p2 p3 p4 p5, sto f q0 q1 q2 q3, sto g r0 r1 r2 r3] scope)
    {R : Result → Shared → Prop} {args : Args} {x t0 : Addr} {v u : Value} (hx : s.heap.get? x = some (excO C t0)) (hbx : base.get? x = none) (hroom : A.depth < recursionLimit) (nof : findIn K (.ref C) f = some none) (nog : findIn K (.ref C) g = some none)
    (hb : ∀ (qual : Str) (kV doc pm ct : Value) (an : Option Addr) (cda cc : Addr), BindsTo s (ksFn "__init__" qual params [sup msg p0 p1 p2 p3 p4 p5, sto f q0 q1 q2 q3, sto g r0 r1 r2 r3] scope .none kV doc pm an (.ref cda) ct cc) args [("self", .ref x), (f, v), (g, u)])
    (hev : ∀ (L cda cc : Addr) (qual : Str), interactive (ksEnv qual scope L fI (.ref cda) cc) = false ∧ (∃ pl, SupEv msg p0 p1 p2 p3 p4 pl (ksEnv qual scope L fI (.ref cda) cc)) ∧
      swapsWith (.Name f q2) (some (.Attribute (.Name "self" q0) f q1)) q3.line (ksEnv qual scope L fI (.ref cda) cc) = pure false ∧ swapsWith (.Name g r2) (some (.Attribute (.Name "self" r0) g r1)) r3.line (ksEnv qual scope L fI (.ref cda) cc) = pure false)
    (hq : ∀ h' tk dx, InitEnd s.heap h' x C dx (fun y => if y = g then some u else if y = f then some v else none) → R (.ok (.ret .none)) { s with heap := h', toks := tk }) :
    codeAny (model prog w) A (.call (.ref fI) args) R s := by
  refine err_enter (us := [v, u]) (ps := [f, g]) M kb T S F hx hbx hroom rfl hb (fun L cda cc qual => ⟨(hev L cda cc qual).1, (hev L cda cc qual).2.1⟩) fun h2 t1 tk cda cc qual A' k2 hL hx2 hn2 => ?_
  obtain ⟨l1, l2, l3⟩ := S.loc f (by simp)
  obtain ⟨j1, j2, j3⟩ := S.loc g (by simp)
  have gf : f ≠ g := by
    have z := S.nd
    simp at z
    exact z
  have fg : (f == g) = false := by simpa using gf
  have kb2 : ∀ b o, base.get? b = some o → h2.get? b = some o := fun b o e => k2 b o (fun z => by rw [z, hbx] at e; cases e) (kb b o e)
  have ms : (bnd x [f, g] [v, u]).reverse.lookup ("self" : Str) = some (.ref x) := m_self fun g hg => (S.loc g hg).2.1
  have mf : (bnd x [f, g] [v, u]).reverse.lookup f = some v := by
    show List.lookup f [(g, u), (f, v), (("self" : Str), Value.ref x)] = _
    simp [List.lookup_cons, fg]
  have mgg : (bnd x [f, g] [v, u]).reverse.lookup g = some u := by
    show List.lookup g [(g, u), (f, v), (("self" : Str), Value.ref x)] = _
    simp
  refine err_sto0 (h0 := base) (tk := tk) (t1 := t1) (x := x) (v := v) M T kb2 hx2 hn2 hL ms mf S.kind S.self l1 l3 nof (hev _ _ _ _).2.2.1 ?_
  intro h3 tk3 dx k3 dn dne hx3 hn3
  have hn3' : h3.Ns s.heap.objs.size (fun y => (bnd x [f, g] [v, u]).reverse.lookup y) := by
    obtain ⟨o, es, ep, ho, r⟩ := hn2
    exact ⟨o, es, ep, k3 _ _ hL ho, r⟩
  have z : s.heap.objs.size ≤ h2.objs.size := by
    obtain ⟨o, es, ep, ho, r⟩ := hn2
    exact Nat.le_of_lt (Heap.lt_size ho)
  refine err_sto1 (h0 := base) (tk := tk3) (t1 := t1) (x := x) (v := u) (nl := [f]) M T (fun b o e => k3 b o (fun z => by rw [z, hbx] at e; cases e) (kb2 b o e)) hx3 hn3 (Within.cons f v Within.nil) (by simp) hn3' ms mgg S.kind S.self j1 j3 nog (hev _ _ _ _).2.2.2 ?_
  intro h4 tk4 k4 hn4
  refine wpAny_execs_nil (hq h4 tk4 dx ⟨fun b o hb ho => k4 b o (fun y => ?_) (k3 b o hb (k2 b o hb ho)), ⟨_, k4 _ _ (Ne.symm dne) hx3⟩, Nat.le_trans z dn, dne, hn4⟩)
  have q := Heap.lt_size (k2 b o hb ho)
  rw [y] at q
  exact absurd (Nat.lt_of_lt_of_le q dn) (Nat.lt_irrefl _)
end
end ErrX
end PySem

set_option Elab.async false
set_option linter.all false
set_option maxRecDepth 100000
set_option maxHeartbeats 4000000
/-! ErrB: own errors over the layer: made as a value, raised, caught (the caught one is tracked), their fields, isinstance. -/
namespace L2
open PySem PySem.Spec PyProof.Rows

/-- an error object of the class cls, its dict d, at a -/
def EXV (cls : Value) (d : Option Addr) (a : Addr) : HO := .ext fun h => ∃ (oe : Obj) (vs : Array Value), h.get? a = some oe ∧ Zc cls d oe ∧ oe.data = .fields vs
theorem exv_ok {P : Program} {w : World} {H : Hp} {h : Heap} {a : Addr} {cls : Value} {d : Option Addr} {oe : Obj} {vs : Array Value} (e : h.get? a = some oe) (z : Zc cls d oe) (hd : oe.data = .fields vs) : ObjOk P w H h a (EXV cls d a) :=
  ⟨⟨oe, vs, e, z, hd⟩, ⟨oe, e⟩, fun _ _ ⟨o, v, q, r⟩ k => ⟨o, v, k o q, r⟩⟩
theorem exv_at {P : Program} {w : World} {H : Hp} {h : Heap} {a : Addr} {cls : Value} {d : Option Addr} (hok : HOk P w H h) (e : H a = some (EXV cls d a)) : ∃ (oe : Obj) (vs : Array Value), h.get? a = some oe ∧ Zc cls d oe ∧ oe.data = .fields vs := by
  have x : ObjOk P w H h a (.ext fun h => ∃ (oe : Obj) (vs : Array Value), h.get? a = some oe ∧ Zc cls d oe ∧ oe.data = .fields vs) := hok a _ e
  exact x.1

section
variable {X : Cx} {pins : List (Addr × Obj)} {σ : St} {H : Hp} {s : Shared}
/-- an untracked object that is new since the entry is tracked from now on -/
theorem Inv.track {a : Addr} {o : HO} (I : Inv X pins σ H s) (ha : ObjOk X.prog X.w (upd H a o) s.heap a o) (na : H a = none) (nL : a ≠ X.env.locals) (n0 : X.s_0.heap.get? a = none) (nc : ∀ x c, X.env.cells.lookup x = some c → c ≠ a)
    (np : ∀ p ∈ X.pn ++ pins, p.1 ≠ a) : Inv X pins σ (upd H a o) s := by
  have ne0 : ∀ b u, X.s_0.heap.get? b = some u → b ≠ a := fun b u e z => by rw [z, n0] at e; cases e
  refine ⟨I.ok, I.os, I.bare, ⟨I.base.keep, I.base.slot, fun b u e n hx => ?_, I.base.there, fun b xs e => ?_, fun b u xs e => ?_, fun b ps e => ?_⟩, I.loc, I.cell, ?_, fun x c e => ?_, fun p hp => ?_, ?_, I.len⟩
  · rw [upd_ne (ne0 b u e)]; exact I.base.free b u e n hx
  · have q := I.base.tups b xs e
    rw [upd_ne (ne_of_none q na)]; exact q
  · have q := I.base.frzs b u xs e
    rw [upd_ne (ne_of_none q na)]; exact q
  · obtain ⟨m, q⟩ := I.base.tbls b ps e
    exact ⟨m, by rw [upd_ne (ne_of_none q na)]; exact q⟩
  · rw [upd_ne (Ne.symm nL)]; exact I.free
  · rw [upd_ne (nc x c e)]; exact I.freeC x c e
  · obtain ⟨e, n, ne, nf, d⟩ := I.pin p hp
    exact ⟨e, by rw [upd_ne (np p hp)]; exact n, ne, nf, d⟩
  · exact I.hok.laidN (fun _ _ q => q) na ha

theorem Vals.relO : ∀ {ps : List Str} {vs : List V} {us : List Value}, Vals vs us → ∀ f, RelO ((ps.zip vs).lookup f) ((ps.zip us).lookup f)
  | [], _, _, _, f => by simp [RelO]
  | _ :: _, _, _, .nil, f => by simp [RelO]
  | p :: ps, _, _, .cons r t, f => by
    simp only [List.zip_cons_cons, List.lookup_cons]
    cases h : f == p with
    | true => exact r
    | false => exact Vals.relO t f
end

/-- an error's class at C with its __init__ at fI, whose parameters (and fields) are ps -/
structure EMk (prog : Program) (w : World) (K : PySem.W.Frag) (mg : Str → Option Value) (base : Heap) (C fI : Addr) (ps : List Str) : Prop where
  T : PySem.ErrX.ECls prog K C fI
  run : Mod K mg base → ∀ {A : Around} {s : Shared} {R : Result → Shared → Prop} {x t0 : Addr} {us : List Value}, us.length = ps.length → (∀ b o, base.get? b = some o → s.heap.get? b = some o) → s.heap.get? x = some (PySem.HandSPX.excO C t0) →
    base.get? x = none → A.depth < recursionLimit → (∀ h' tk dx, PySem.ErrX.InitEnd s.heap h' x C dx (fun y => (ps.zip us).lookup y) → R (.ok (.ret .none)) { s with heap := h', toks := tk }) →
    codeAny (model prog w) A (.call (.ref fI) ⟨.ref x :: us, []⟩) R s
  no : ∀ f ∈ ps, PySem.W.findIn K (.ref C) f = some none
/-- a made error -/
structure ErrMade (h h' : Heap) (e C d : Addr) (m : Str → Option Value) : Prop where
  keep : ∀ b o, h.get? b = some o → h'.get? b = some o
  new : h.objs.size ≤ e
  obj : ∃ t1 : Addr, h'.get? e = some { cls := .ref C, dict := some d, data := .fields #[.ref t1, .none, .none, .none, .bool false, .none] }
  dbig : h.objs.size ≤ d
  dne : d ≠ e
  ns : h'.Ns1 d m
section
variable {prog : Program} {w : World} {A : Around} {R : Result → Shared → Prop} {s : Shared} {K : PySem.W.Frag} {mg : Str → Option Value} {base : Heap} {C fI : Addr} {ps : List Str}
open PySem.HandSPX in
theorem err_made (M : Mod K mg base) (kb : ∀ b o, base.get? b = some o → s.heap.get? b = some o) (T : EMk prog w K mg base C fI ps) {us : List Value} (hl : us.length = ps.length) (hz : us.length ≤ 1000) (hroom : A.depth + 1 < recursionLimit)
    (hq : ∀ h' tk e d, ErrMade s.heap h' e C d (fun y => (ps.zip us).lookup y) → R (.ok (.ret (.ref e))) { s with heap := h', toks := tk }) :
    codeAny (model prog w) A (.call (.ref C) ⟨us, []⟩) R s := by
  obtain ⟨nm, q, N, bs, bm, sn, sub, ab, col, dd, k0, k1, k2, k3, k5, hC, hbm, hal⟩ := T.T.cls
  have X : K.In s.heap := M.kin.keeps kb
  obtain ⟨hp, g, dr, tk, os⟩ := s
  have k : ∀ b o, hp.get? b = some o → ((hp.push (PySem.W.kdv_tup us)).push (excO C hp.objs.size)).get? b = some o := fun b o e => Heap.get?_push_of_some _ (Heap.get?_push_of_some _ e)
  have hget : ((hp.push (PySem.W.kdv_tup us)).push (excO C hp.objs.size)).get? (hp.objs.size + 1) = some (excO C hp.objs.size) := by heap_get
  have hbx : base.get? (hp.objs.size + 1) = none := by
    cases e : base.get? (hp.objs.size + 1) with
    | none => rfl
    | some o =>
      have z : hp.get? (hp.objs.size + 1) = some o := kb _ _ e
      exact absurd (Nat.lt_of_succ_lt (Heap.lt_size z)) (Nat.lt_irrefl _)
  refine call_own F.excBase_ValueError (fun X => refsVE_contains X bm hbm) (X _ _ hC) (PySem.W.looks_findIn X T.T.iC) (fun self => PySem.W.bind_fn X self T.T.tI) (by rw [sizeLine_eq]; omega) ?_
  refine T.run M (s := ⟨(hp.push (PySem.W.kdv_tup us)).push (excO C hp.objs.size), g, dr, tk, os⟩) hl (fun b o e => k b o (kb b o e)) hget hbx ?_ fun h' tk' dx ⟨k', hx, dn, dne, hns⟩ => ?_
  · show A.depth + 1 < recursionLimit
    exact hroom
  · have old : ∀ b o, hp.get? b = some o → h'.get? b = some o := fun b o e => k' b o (Nat.ne_of_lt (Nat.lt_succ_of_lt (Heap.lt_size e))) (k b o e)
    have z : hp.objs.size + 1 + 1 ≤ dx := by
      have q := dn
      simp only [Heap.size_push] at q
      exact q
    exact ⟨rfl, hq h' tk' (hp.objs.size + 1) dx ⟨old, Nat.le_succ _, hx, Nat.le_trans (Nat.le_trans (Nat.le_succ _) (Nat.le_succ _)) z, dne, hns⟩⟩
end

section
variable {X : Cx} {C fI : Addr} {ps : List Str}
/-- C(..), to be raised -/
def tMkE (C : Addr) (ps : List Str) (ta : TA) : St → Hp → XK → Prop := fun σ H Q => ta σ H fun vs H1 => vs.length = ps.length ∧ ∀ d, H1 d = none → Q (.ref C) (some d) (upd H1 d (.xd (ps.zip vs)))
theorem err_xd {P : Program} {w : World} {H : Hp} {h : Heap} {d : Addr} {vs : List V} {us : List Value} (r : Vals vs us) (hn : h.Ns1 d (fun y => (ps.zip us).lookup y)) : ObjOk P w H h d (.xd (ps.zip vs)) := ⟨_, hn, fun f => Vals.relO r f⟩
theorem pmk_err {x : Str} {es : List Expr} {e : Expr} {ta : TA} {p pos : Pos} {k : Nat} (T : EMk X.prog X.w X.K X.mg X.base C fI ps) (hr : Room k X.A) (hps : ps.length ≤ 1000) (ha : PA X (e :: es) ta) (hm : X.mg x = some (.ref C)) (hg : Gl X x := by rfl) (hdb : (x == ("__debug__" : Str)) = false := by decide)
    (he : starEach (e :: es) X.env = (false, eval e X.env) :: starEach es X.env := by rfl) (hpl : (backTo pos (starEach es X.env)).any (·.1) = false := by rfl) :
    PMk X (.Call (.Name x p) (e :: es) [] pos) (tMkE C ps ta) := by
  intro pins s σ H Q I h
  refine wpAny_Call_Name_kw (ld_glob I hg hm ?_ hdb)
  refine PySem.W.callWith_K (h₀ := X.base) I.ok.mod.kin T.T.kC (thn (ha.run pos pins s σ H _ I h) fun us s1 hh => ?_) he hpl
  obtain ⟨vs, H1, I1, r1, hl, q1⟩ := hh
  refine ⟨I1.kIn, ?_⟩
  show wpAny _ _ (call (.ref C) us) _ _ _
  have hlu : us.length = ps.length := by rw [← r1.length]; exact hl
  obtain ⟨hp, g, dr, tk, os⟩ := s1
  refine wpAny_call (err_made I1.ok.mod I1.bk T hlu (by rw [hlu]; exact hps) (by have := hr.dp; omega) fun h' tk' e d M => ?_)
  show MkP X pins σ Q (.ref e) ⟨h', g, dr, tk', os⟩
  obtain ⟨t1, hoe⟩ := M.obj
  obtain ⟨G', g1, g2⟩ := restrict h' fun b => decide (b ≠ e)
  have gk : ∀ b, b ≠ e → G'.get? b = h'.get? b := fun b hb => g1 b (decide_eq_true hb)
  have ge : G'.get? e = none := g2 e (by simp)
  have old : ∀ b o, hp.get? b = some o → G'.get? b = some o := fun b o q => (gk b (Nat.ne_of_lt (Nat.lt_of_lt_of_le (Heap.lt_size q) M.new))).trans (M.keep b o q)
  have ob : ObjOk X.prog X.w (upd H1 d (.xd (ps.zip vs))) G' d (.xd (ps.zip vs)) := err_xd r1 (M.ns.at fun o q => (gk d M.dne).trans q)
  have J : Inv X pins σ (upd H1 d (.xd (ps.zip vs))) ⟨G', g, dr, tk', os⟩ := I1.laid (t' := tk') old M.dbig ob
  refine ⟨e, _, _, ⟨G', g, dr, tk', os⟩, _, .ref C, some d, rfl, J, fun b o q => ?_, ge, hoe, ⟨rfl, rfl⟩, rfl, rfl, ?_, rfl, I1.bare, raises_own T.T.exC T.T.tyC, q1 d (I1.hok.fresh M.dbig)⟩
  · by_cases hb : b = e
    · have q' : G'.get? b = some o := q
      rw [hb, ge] at q'; cases q'
    · exact (gk b hb).symm.trans q
  · rw [upd_ne (Ne.symm M.dne)]
    exact I1.hok.fresh M.new
/-- C(..) as a value -/
def tErr (C : Addr) (ps : List Str) (ta : TA) : TE := fun σ H Q => ta σ H fun vs H1 => vs.length = ps.length ∧ ∀ a d, H1 a = none → H1 d = none → d ≠ a → Q (.ref a) (upd (upd H1 d (.xd (ps.zip vs))) a (EXV (.ref C) (some d) a))
theorem pe_err {x : Str} {es : List Expr} {e : Expr} {ta : TA} {p pos : Pos} {k : Nat} (T : EMk X.prog X.w X.K X.mg X.base C fI ps) (hr : Room k X.A) (hps : ps.length ≤ 1000) (ha : PA X (e :: es) ta) (hm : X.mg x = some (.ref C)) (hg : Gl X x := by rfl) (hdb : (x == ("__debug__" : Str)) = false := by decide)
    (he : starEach (e :: es) X.env = (false, eval e X.env) :: starEach es X.env := by rfl) (hpl : (backTo pos (starEach es X.env)).any (·.1) = false := by rfl) :
    PE X (.Call (.Name x p) (e :: es) [] pos) (tErr C ps ta) := by
  refine ⟨fun pins s σ H Q I h => ?_⟩
  refine wpAny_Call_Name_kw (ld_glob I hg hm ?_ hdb)
  refine PySem.W.callWith_K (h₀ := X.base) I.ok.mod.kin T.T.kC (thn (ha.run pos pins s σ H _ I h) fun us s1 hh => ?_) he hpl
  obtain ⟨vs, H1, I1, r1, hl, q1⟩ := hh
  refine ⟨I1.kIn, ?_⟩
  show wpAny _ _ (call (.ref C) us) _ _ _
  have hlu : us.length = ps.length := by rw [← r1.length]; exact hl
  obtain ⟨hp, g, dr, tk, os⟩ := s1
  refine wpAny_call (err_made I1.ok.mod I1.bk T hlu (by rw [hlu]; exact hps) (by have := hr.dp; omega) fun h' tk' e d M => ?_)
  obtain ⟨t1, hoe⟩ := M.obj
  have nH : H1 e = none := I1.hok.fresh M.new
  have nD : H1 d = none := I1.hok.fresh M.dbig
  have ob : ObjOk X.prog X.w (upd H1 d (.xd (ps.zip vs))) h' d (.xd (ps.zip vs)) := err_xd r1 M.ns
  have J : Inv X pins σ (upd H1 d (.xd (ps.zip vs))) ⟨h', g, dr, tk', os⟩ := I1.laid (t' := tk') M.keep M.dbig ob
  have lt : ∀ b o, hp.get? b = some o → b ≠ e := fun b o q => Nat.ne_of_lt (Nat.lt_of_lt_of_le (Heap.lt_size q) M.new)
  refine ⟨.ref e, _, J.track (a := e) (o := EXV (.ref C) (some d) e) (exv_ok hoe ⟨rfl, rfl⟩ rfl) (by rw [upd_ne (Ne.symm M.dne)]; exact nH) ?_ ?_ (fun x c hc => ?_) fun p hp' => ?_, rfl, q1 e d nH nD M.dne⟩
  · obtain ⟨m, ⟨o, _, _, ho, _⟩, _⟩ := I1.loc
    exact Ne.symm (lt _ o ho)
  · cases q : X.s_0.heap.get? e with
    | none => rfl
    | some o => exact absurd (Nat.lt_of_lt_of_le (Heap.lt_size q) (Nat.le_trans I1.sz M.new)) (Nat.lt_irrefl _)
  · obtain ⟨v, o, ho, _⟩ := I1.cell x c hc
    exact lt _ o ho
  · obtain ⟨z, _⟩ := I1.pin p hp'
    exact lt _ _ z

/-! ### a field of an error -/
def tExf (f : Str) (te : TE) : TE := fun σ H Q => te σ H fun x H1 => ∃ (a C dd : Addr) (fs : List (Str × V)) (v : V), x = .ref a ∧ H1 a = some (EXV (.ref C) (some dd) a) ∧ H1 dd = some (.xd fs) ∧ fs.lookup f = some v ∧ Q v H1
end

/-- what an own error's class must have for its instances' fields to be read; f is no class attribute -/
structure XfF (K : PySem.W.Frag) (C : Addr) (f : Str) : Prop where
  c : XfC K C
  no : PySem.W.findIn K (.ref C) f = some none
def tExfK (K : PySem.W.Frag) (f : Str) (te : TE) : TE := fun σ H Q => te σ H fun x H1 => ∃ (a C dd : Addr) (fs : List (Str × V)) (v : V), x = .ref a ∧ XfF K C f ∧ H1 a = some (EXV (.ref C) (some dd) a) ∧ H1 dd = some (.xd fs) ∧ fs.lookup f = some v ∧ Q v H1
theorem pe_exf {X : Cx} {e : Expr} {te : TE} {pos : Pos} {n : Str} (he : PE X e te) (hb : attributeBase e n X.env (eval e X.env) = eval e X.env := by rfl) : PE X (.Attribute e n pos) (tExfK X.K n te) := by
  refine ⟨fun pins s σ H Q I h => ?_⟩
  refine attr_of hb (thn (he.run pins s σ H _ I h) fun u s1 hh => ?_)
  obtain ⟨x, H1, I1, rx, a, C, dd, fs, v, ex, T, ea, ed, l, q⟩ := hh
  subst ex
  obtain rfl : u = Value.ref a := rx
  obtain ⟨oe, vs, ha, hz, hd⟩ := exv_at I1.hok ea
  have hx : ObjOk X.prog X.w H1 s1.heap dd (.xd fs) := I1.hok dd _ ed
  obtain ⟨mA, hns, hr⟩ := hx
  obtain ⟨od, ho, hl⟩ := lookIn_ns hns
  obtain ⟨u, hu, ru⟩ := RelO.some_of (v := v) (o := mA n) (by rw [← l]; exact hr n)
  have J : PySem.W.InstAt s1.heap a oe C (some od) := ⟨ha, hz.1, by unfold PySem.W.notCls; rw [hd] <;> rfl, by rw [hz.2]; exact ho⟩
  exact HandSPX.exc_get I1.kIn J T.c.ga T.c.gg T.c.exC (PySem.W.findObj_own T.c.hdC T.no rfl (by rw [hl, hu])) (handed_of ru) ⟨v, H1, I1.tok _, ru, q⟩

/-! ### isinstance of an error -/
structure XiC (K : PySem.W.Frag) (C : Addr) : Prop where
  c : XfC K C
  cl : (PySem.W.clsIn K C).isSome = true
  ha : PySem.W.findIn K (.ref C) "__class__" = some (some (.builtin "object.__class__"))
  hn : PySem.W.specialIn K (.builtin "object.__class__") "__get__" = some (some (.builtin "getset_descriptor.__get__"))
  tk : PySem.W.takesIn K (.builtin "object.__class__") = some true
  hm : PySem.W.mroIn K C (.type "object") = some true
/-- isinstance(x, c): x an error, or any other value -/
def rIsiE (K : PySem.W.Frag) : List V → Hp → VK → Prop := fun xs H Q => ∃ (x c : V) (u : Value) (b : Bool), xs = [x, c] ∧ ClsV c u ∧
  ((∃ t, TyX K H x t ∧ PySem.W.kitOne K t u = some b) ∨ (∃ (a C : Addr) (d : Option Addr), x = .ref a ∧ H a = some (EXV (.ref C) d a) ∧ (∀ dd, d = some dd → ∃ fs, H dd = some (.xd fs)) ∧ XiC K C ∧ PySem.W.kitOne K (.ref C) u = some b)) ∧ Q (.bl b) H
theorem call_isiE {X : Cx} : CallR X (.builtin "isinstance") (rIsiE X.K) := by
  intro pins s σ H xs us Q I r h
  obtain ⟨x, c, u, b, rfl, k, ty, q⟩ := h
  rcases ty with ⟨t, ty, e⟩ | ⟨a, C, d, rfl, ea, hdd, T, e⟩
  · exact call_isi pins s σ H _ us Q I r ⟨x, c, t, u, b, rfl, k, ty, e, q⟩
  · obtain ⟨u1, u2, rfl, r1, r2⟩ := vals2 r
    have e2 := k.eq r2
    subst e2
    obtain rfl : u1 = Value.ref a := r1
    obtain ⟨oe, vs, ha, hz, hd⟩ := exv_at I.hok ea
    cases d with
    | none =>
      have J : PySem.W.InstAt s.heap a oe C none := ⟨ha, hz.1, by unfold PySem.W.notCls; rw [hd] <;> rfl, by rw [hz.2]; exact trivial⟩
      exact PySem.W.kia_one (PySem.W.kitx_exc T.cl T.c.ga T.c.gg T.c.exC T.ha T.hn T.tk T.hm) I.kIn J e (fun z => nomatch z) fun tk => ⟨.bl b, H, I.tok tk, rfl, q⟩
    | some dd =>
      obtain ⟨fs, ed⟩ := hdd dd rfl
      have hx : ObjOk X.prog X.w H s.heap dd (.xd fs) := I.hok dd _ ed
      obtain ⟨mA, hns, hr⟩ := hx
      obtain ⟨od, ho, hl⟩ := lookIn_ns hns
      have J : PySem.W.InstAt s.heap a oe C (some od) := ⟨ha, hz.1, by unfold PySem.W.notCls; rw [hd] <;> rfl, by rw [hz.2]; exact ho⟩
      exact PySem.W.kia_one (PySem.W.kitx_exc T.cl T.c.ga T.c.gg T.c.exC T.ha T.hn T.tk T.hm) I.kIn J e (fun z => nomatch z) fun tk => ⟨.bl b, H, I.tok tk, rfl, q⟩

/-! ### try: body / except X as n: suite / except Y: suite .. -/
/-- the context of an except suite; the caught error is tracked -/
abbrev Cx.suiteE (X : Cx) (a : Addr) (pn : List (Addr × Obj)) : Cx := { X with A := X.A.mark (some (.ref a)), calm := false, pn := pn, xe := fun _ _ => False }
abbrev Clause := Value × Option Nat × (Addr → TS)
/-- what the clauses wish of an error of the body, one after the other -/
def wTry (K : PySem.W.Frag) (Wout : WX) (D : Ends) : List Clause → WX
  | [] => Wout
  | (c, none, ts) :: r => fun cls d σ H => ∃ b, PySem.W.exmOne K cls c = some b ∧ (b = true → ∀ a, H a = none → ts a D σ (upd H a (EXV cls d a))) ∧ (b = false → wTry K Wout D r cls d σ H)
  | (c, some i, ts) :: r => fun cls d σ H => ∃ b, PySem.W.exmOne K cls c = some b ∧
      (b = true → ∀ a, H a = none → ts a { nx := fun σ' H' => D.nx (σ'.set i none) H', rt := D.rt, bk := fun σ' H' => D.bk (σ'.set i none) H', ct := fun σ' H' => D.ct (σ'.set i none) H' } (σ.set i (some (.ref a))) (upd H a (EXV cls d a))) ∧
      (b = false → wTry K Wout D r cls d σ H)
inductive HdsE (X : Cx) : List ExceptHandler → List Clause → Prop
  | nil : HdsE X [] []
  | cons {x : Str} {c : Value} {ts : Addr → TS} {b₀ : Stmt} {suite : List Stmt} {np pos' : Pos} {hds : List ExceptHandler} {l : List Clause} (hc : Names X x c)
      (hsu : ∀ (a : Addr) (pn : List (Addr × Obj)), PSs (X.suiteE a pn) (b₀ :: suite) (ts a)) (r : HdsE X hds l) :
      HdsE X (.ExceptHandler (some (.Name x np)) none (b₀ :: suite) pos' :: hds) ((c, none, ts) :: l)
  | as {x n : Str} {c : Value} {i : Nat} {ts : Addr → TS} {b₀ : Stmt} {suite : List Stmt} {np pos' : Pos} {hds : List ExceptHandler} {l : List Clause} (hc : Names X x c) (hi : X.N[i]? = some n) (hln : X.env.kindOf n = some .local)
      (hsu : ∀ (a : Addr) (pn : List (Addr × Obj)), PSs (X.suiteE a pn) (b₀ :: suite) (ts a)) (r : HdsE X hds l) :
      HdsE X (.ExceptHandler (some (.Name x np)) (some n) (b₀ :: suite) pos' :: hds) ((c, some i, ts) :: l)
section
variable {X : Cx} {pins : List (Addr × Obj)} {σ : St} {H : Hp} {s : Shared}
theorem Cx.Ok.suiteE {X : Cx} (ok : X.Ok) (a : Addr) (pn : List (Addr × Obj)) : (X.suiteE a pn).Ok :=
  ⟨ok.mod, ok.kind, ok.glob, ok.blt, ok.above, ok.inj, ok.has, ok.cab, (fun z => absurd (show false = true from z) Bool.false_ne_true), ok.frames, ok.stk, ok.exf, ok.bs, ok.bsz, ok.noex, ok.exfs, ok.funs, ok.frf⟩
theorem Inv.suiteE (I : Inv X pins σ H s) (a : Addr) : Inv (X.suiteE a (X.pn ++ pins)) [] σ H s :=
  ⟨I.ok.suiteE _ _, I.os, I.bare, I.base, I.loc, I.cell, I.free, I.freeC, fun p hp => I.pin p (by rw [List.append_nil] at hp; exact hp), I.hok, I.len⟩
theorem Inv.unsuiteE {a : Addr} {pn' : List (Addr × Obj)} (I : Inv (X.suiteE a (X.pn ++ pins)) pn' σ H s) (ok : X.Ok) : Inv X pins σ H s :=
  ⟨ok, I.os, I.bare, I.base, I.loc, I.cell, I.free, I.freeC, fun p hp => I.pin p (List.mem_append_left _ hp), I.hok, I.len⟩
end
section
variable {X : Cx} {body : List Stmt} {h₀ : ExceptHandler} {hds : List ExceptHandler} {l : List Clause} {pos : Pos} {tb : WX → TS} {Wout : WX}
theorem ps_tryE (hs : X.stack = X.env :: X.outer) (hf : X.env.frame = some X.env.locals) (hN : X.N.Nodup) (hex : X.ex = []) (tk : Takes X Wout)
    (hb : ∀ (W : WX) (pn : List (Addr × Obj)) (xe : Value → Shared → Prop), Takes (X.tr pn xe) W → PassesOwn (model X.prog X.w) X.A X.env xe → PSs (X.tr pn xe) body (tb W))
    (hh : HdsE X (h₀ :: hds) l) : PS X (.Try body (h₀ :: hds) [] [] pos) (fun D σ H => tb (wTry X.K Wout D l) D σ H) := by
  refine ⟨fun pins s σ H D I h => ?_⟩
  have ok := I.ok
  have hfr : X.A.frames = some (X.env :: X.outer) := by rw [ok.frames, hs]
  refine wpAny_Try_except ?_
  refine wpAny_mono ((hb (wTry X.K Wout D l) (X.pn ++ pins) (fun e s₁ => wpAny (model X.prog X.w) X.A (noteFrame e X.env) (fun _ s₂ => wpAny (model X.prog X.w) X.A (setFlight e none) (fun _ s₃ =>
    wpAny (model X.prog X.w) X.A (handleBy e X.env (h₀ :: hds)) (SP X pins D) X.xe s₃) X.xe s₂) X.xe s₁) (fun u s' xx => ?_) PassesOwn.looking).run [] s σ H D (I.toTry _) h) (fun f s1 hsp => ?_) (fun e s1 he => he)
  · -- the catch
    obtain ⟨a, B, sI, pins', σ', H', cls, d, rfl, J', nb, up, sky, na, os, ag, w⟩ := xx
    have J : Inv X pins σ' H' sI := J'.ofTry ok
    have sky' : Sky B (X.env :: X.outer) a (Zc cls d) X.env.locals s'.heap := by rw [← hs]; exact sky
    show wpAny (model X.prog X.w) X.A (noteFrame (.ref a) X.env) _ _ _
    refine Sky.land Zc.steady hfr hf sky' fun h3 fl3 up3 => ?_
    have J3 : Inv X pins σ' H' { s' with heap := h3 } := J.landed nb fl3.1 (up.trans up3) os ag
    obtain ⟨oe3, vs3, he3, hz3, hd3⟩ := fl3.there
    have notFr : ∀ {h : Heap} {o : Obj} {vs : Array Value}, h.FunFrames B (X.env :: X.outer) → h.get? a = some o → o.data = .fields vs → a ∉ frs (X.env :: X.outer) := fun {h o vs} ff e dd hm => by
      obtain ⟨_, o', e', hnf⟩ := ff.mem hm
      rw [e] at e'; cases e'
      exact hnf _ dd
    have nfr := notFr fl3.2.2.1 he3 hd3
    have nL : a ≠ X.env.locals := fun z => nfr (List.mem_filterMap.mpr ⟨X.env, List.mem_cons_self, by rw [hf, z]⟩)
    have nI : sI.heap.get? a = none := by
      cases e : sI.heap.get? a with
      | none => rfl
      | some o =>
        have z := nb a o e (by rw [hs]; exact nfr)
        rw [fl3.2.1] at z
        cases z
    have n0 : X.s_0.heap.get? a = none := by
      cases e : X.s_0.heap.get? a with
      | none => rfl
      | some o =>
        obtain ⟨o', z⟩ := J.base.there a o e (by rw [hex]; exact fun z => nomatch z)
        rw [nI] at z
        cases z
    have nc : ∀ x c, X.env.cells.lookup x = some c → c ≠ a := fun x c e z => by
      obtain ⟨v, o, ho, _⟩ := J.cell x c e
      rw [z, nI] at ho
      cases ho
    have npn : ∀ p ∈ X.pn ++ pins, p.1 ≠ a := fun p hp z => by
      obtain ⟨e, _⟩ := J.pin p hp
      rw [z, nI] at e
      cases e
    have S3 := J3.suiteE a
    have go : ∀ {hds' : List ExceptHandler} {l' : List Clause}, HdsE X hds' l' → wTry X.K Wout D l' cls d σ' H' →
        wpAny (model X.prog X.w) X.A (handleBy (.ref a) X.env hds') (SP X pins D) X.xe { s' with heap := h3 } := by
      intro hds' l' hk
      have LT : PySem.W.Looks (model X.prog X.w) h3 (typeOf (.ref a)) cls := fun A Q E s k q => wpAny_typeOf_ref (k _ _ he3) (by rw [hz3.1]; exact q)
      have test : ∀ {x : Str} {c : Value} {np : Pos} (hc : Names X x c) {Q : Value → Shared → Prop} {E : Value → Shared → Prop}, Q c { s' with heap := h3 } → wpAny (model X.prog X.w) (X.A.mark (some (.ref a))) (eval (.Name x np) X.env) Q E { s' with heap := h3 } := fun {x c np} hc {Q E} q => by
        obtain ⟨hg, hdbg, hm | ⟨hm, hv, hnn⟩⟩ := hc
        · exact ld_glob (X := X.suiteE a (X.pn ++ pins)) S3 hg hm q hdbg
        · exact ld_blt (X := X.suiteE a (X.pn ++ pins)) S3 hg hm hv q hnn hdbg
      induction hk with
      | nil =>
        intro w
        refine wpAny_handleBy_nil ?_
        obtain ⟨k1, k2, k3, oe, vs, T, oT, ts', he, hz, hd, h1, hr⟩ := id fl3
        unfold PySem.passOn
        refine wpAny_bind (wpAny_field he hd h1 ?_)
        rw [if_neg (show ¬ ((Value.ref T == Value.none) = true) from by simp)]
        have fin : wpAny (model X.prog X.w) X.A (setFlight (.ref a) X.env.frame) (fun _ s4 => wpAny (model X.prog X.w) X.A (throw (.ref a) : Sem Flow) (SP X pins D) X.xe s4) X.xe { s' with heap := h3 } := by
          rw [hf]
          refine HandSPX.setFlight_upZ fl3 fun h4 hh4 up4 => wpAny_throw (tk _ _ ?_)
          exact ⟨a, B, sI, pins, σ', H', cls, d, rfl, J, nb, (up.trans up3).trans up4, .inr (.inr (by rw [hs]; exact hh4)), na, os, ag, w⟩
        first
          | exact wpAny_bind (wpAny_pure (wpAny_bind fin))
          | exact wpAny_bind fin
      | @cons x c ts b₀ suite np pos' hds2 l2 hc hsu r ih =>
        intro w
        obtain ⟨b, hb1, hyes, hno⟩ := w
        refine wpAny_handleBy_cons (codeAny_handlers_test ?_) (by intro q; cases q)
        have LM := PySem.W.exm_one (M := model X.prog X.w) (J3.kIn) LT hb1
        refine test hc (LM.here ?_)
        cases b with
        | true =>
          refine codeAny_handlers_suite ?_
          refine HandSPX.lands_againZ fl3 fun h4 fl4 up4 => ?_
          have J4 : Inv X pins σ' H' { s' with heap := h4 } := J.landed nb fl4.1 ((up.trans up3).trans up4) os ag
          obtain ⟨oe4, vs4, he4, hz4, hd4⟩ := fl4.there
          have S4 := (J4.track (a := a) (o := EXV cls d a) (exv_ok he4 hz4 hd4) na nL n0 nc npn).suiteE a
          refine wpAny_mono ((hsu a (X.pn ++ pins)).run [] _ _ _ _ S4 (hyes rfl a na)) (fun f s6 hsp => ?_) (fun _ _ z => False.elim z)
          cases f with
          | next =>
            obtain ⟨σ6, H6, S6, q6⟩ := hsp
            exact ⟨_, _, S6.unsuiteE ok, q6⟩
          | brk =>
            obtain ⟨σ6, H6, S6, q6⟩ := hsp
            exact ⟨_, _, S6.unsuiteE ok, q6⟩
          | cont =>
            obtain ⟨σ6, H6, S6, q6⟩ := hsp
            exact ⟨_, _, S6.unsuiteE ok, q6⟩
          | ret u =>
            obtain ⟨v6, σ6, H6, S6, r6, q6⟩ := hsp
            exact ⟨_, _, _, S6.unsuiteE ok, r6, q6⟩
        | false =>
          show wpAny _ X.A (handleBy (.ref a) X.env hds2) _ _ _
          exact ih (hno rfl)
      | @as x n c i ts b₀ suite np pos' hds2 l2 hc hi hln hsu r ih =>
        intro w
        obtain ⟨b, hb1, hyes, hno⟩ := w
        refine wpAny_handleBy_cons (codeAny_handlers_test ?_) (by intro q; cases q)
        have LM := PySem.W.exm_one (M := model X.prog X.w) (J3.kIn) LT hb1
        refine test hc (LM.here ?_)
        cases b with
        | true =>
          refine codeAny_handlers_suite_as ?_
          refine HandSPX.lands_againZ fl3 fun h4 fl4 up4 => ?_
          have J4 : Inv X pins σ' H' { s' with heap := h4 } := J.landed nb fl4.1 ((up.trans up3).trans up4) os ag
          obtain ⟨oe4, vs4, he4, hz4, hd4⟩ := fl4.there
          have S4 := (J4.track (a := a) (o := EXV cls d a) (exv_ok he4 hz4 hd4) na nL n0 nc npn).suiteE a
          refine store_ok (X := X.suiteE a (X.pn ++ pins)) (v := .ref a) S4 hN hi (.inl hln) rfl (fun s5 S5 => ?_) (.inr hln)
          refine wpAny_mono ((hsu a (X.pn ++ pins)).run [] s5 _ _ _ S5 (hyes rfl a na)) (fun f s6 hsp => ?_) (fun _ _ z => False.elim z)
          have end_ : ∀ {σ6 : St} {H6 : Hp} {Q : Shared → Prop}, Inv (X.suiteE a (X.pn ++ pins)) [] σ6 H6 s6 → (∀ s7, Inv X pins (σ6.set i none) H6 s7 → Q s7) →
              wpAny (model X.prog X.w) X.A (do bindName X.env n .none; unbindBehindTheSuite X.env n pos') (fun _ s7 => Q s7) X.xe s6 := fun {σ6 H6 Q} S6 hq => gone_ok (S6.unsuiteE ok) hN hi hln hq
          cases f with
          | next =>
            obtain ⟨σ6, H6, S6, q6⟩ := hsp
            exact end_ S6 fun s7 J7 => ⟨_, _, J7, q6⟩
          | brk =>
            obtain ⟨σ6, H6, S6, q6⟩ := hsp
            exact end_ S6 fun s7 J7 => ⟨_, _, J7, q6⟩
          | cont =>
            obtain ⟨σ6, H6, S6, q6⟩ := hsp
            exact end_ S6 fun s7 J7 => ⟨_, _, J7, q6⟩
          | ret u =>
            obtain ⟨v6, σ6, H6, S6, r6, q6⟩ := hsp
            exact end_ S6 fun s7 J7 => ⟨_, _, _, J7, r6, q6⟩
        | false =>
          show wpAny _ X.A (handleBy (.ref a) X.env hds2) _ _ _
          exact ih (hno rfl)
    exact go hh w
  · cases f with
    | next =>
      obtain ⟨σ', H', J', q⟩ := hsp
      exact wpAny_execs_nil ⟨σ', H', J'.ofTry ok, q⟩
    | brk =>
      obtain ⟨σ', H', J', q⟩ := hsp
      exact ⟨σ', H', J'.ofTry ok, q⟩
    | cont =>
      obtain ⟨σ', H', J', q⟩ := hsp
      exact ⟨σ', H', J'.ofTry ok, q⟩
    | ret u =>
      obtain ⟨v, σ', H', J', r, q⟩ := hsp
      exact ⟨v, σ', H', J'.ofTry ok, r, q⟩
end
end L2

set_option Elab.async false
set_option linter.all false
set_option maxRecDepth 100000
set_option maxHeartbeats 4000000
/-! LayA: my own short words over the hand layer: what is known of the heap as a list (Lg), the pen from which a law draws (PenAt), operators of any kinds, calls of defs that may raise, readings step by step (r_*). -/
namespace Cs
open PySem PySem.Spec PyProof.Rows L2

/-! ### what is known of the heap -/
structure Lg (H : Hp) (L : List (Addr × HO)) : Prop where
  get : ∀ p ∈ L, H p.1 = some p.2
  nd : (L.map (·.1)).Nodup
section
variable {H H' : Hp} {L : List (Addr × HO)} {p : Addr} {o o' : HO}
theorem Lg.nil {H : Hp} : Lg H [] := ⟨fun _ h => absurd h (by simp), List.nodup_nil⟩
theorem Lg.at (g : Lg H L) (i : Nat) (h : L[i]? = some (p, o)) : H p = some o := g.get (p, o) (List.mem_of_getElem? h)
theorem Lg.fresh (g : Lg H L) (hp : H p = none) : p ∉ L.map (·.1) := fun h => by
  obtain ⟨q, hq, e⟩ := List.mem_map.mp h
  have z := g.get q hq
  rw [e, hp] at z
  cases z
theorem Lg.new (g : Lg H L) (hp : H p = none) : Lg (upd H p o) ((p, o) :: L) := by
  refine ⟨fun q hq => ?_, ?_⟩
  · rcases List.mem_cons.mp hq with rfl | hq
    · exact upd_same
    · rw [upd_ne (ne_of_none (g.get q hq) hp)]
      exact g.get q hq
  · rw [List.map_cons]
    exact List.nodup_cons.mpr ⟨g.fresh hp, g.nd⟩
theorem Lg.cons (g : Lg H L) (hp : H p = some o) (n : p ∉ L.map (·.1)) : Lg H ((p, o) :: L) := by
  refine ⟨fun q hq => ?_, ?_⟩
  · rcases List.mem_cons.mp hq with rfl | hq
    · exact hp
    · exact g.get q hq
  · rw [List.map_cons]
    exact List.nodup_cons.mpr ⟨n, g.nd⟩
theorem Lg.one (hp : H p = some o) : Lg H [(p, o)] := Lg.nil.cons hp (by simp)
theorem Lg.same (g : Lg H L) (e : Same H H') : Lg H' L := ⟨fun q hq => e _ _ (g.get q hq), g.nd⟩
theorem Lg.tail {x : Addr × HO} (g : Lg H (x :: L)) : Lg H L := ⟨fun q hq => g.get q (List.mem_cons_of_mem _ hq), by
  have z := g.nd
  rw [List.map_cons] at z
  exact (List.nodup_cons.mp z).2⟩
theorem nodup_ixA {l : List Addr} (hN : l.Nodup) {i j : Nat} {x : Addr} (a : l[i]? = some x) (b : l[j]? = some x) : i = j := by
  obtain ⟨h1, e1⟩ := List.getElem?_eq_some_iff.mp a
  obtain ⟨h2, e2⟩ := List.getElem?_eq_some_iff.mp b
  exact (List.getElem_inj hN).mp (e1.trans e2.symm)
theorem set_selfA {α : Type} : ∀ {l : List α} {i : Nat} {x : α}, l[i]? = some x → l.set i x = l
  | _ :: _, 0, _, h => by cases h; rfl
  | a :: l, i + 1, x, h => by
    show a :: l.set i x = a :: l
    rw [set_selfA (l := l) (by simpa using h)]
  | [], i, x, h => by simp at h
theorem Lg.set (g : Lg H L) (i : Nat) (h : L[i]? = some (p, o)) : Lg (upd H p o') (L.set i (p, o')) := by
  have hi : i < L.length := (List.getElem?_eq_some_iff.mp h).1
  have e : (L.set i (p, o')).map (·.1) = L.map (·.1) := by
    rw [List.map_set]
    have z : (L.map (·.1))[i]? = some p := by rw [List.getElem?_map, h]; rfl
    exact set_selfA z
  refine ⟨fun q hq => ?_, by rw [e]; exact g.nd⟩
  obtain ⟨j, hj⟩ := List.mem_iff_getElem?.mp hq
  by_cases hij : i = j
  · subst hij
    rw [List.getElem?_set_self hi] at hj
    cases hj
    exact upd_same
  · rw [List.getElem?_set_ne hij] at hj
    have nq : q.1 ≠ p := fun e => hij (nodup_ixA g.nd (by rw [List.getElem?_map, h]; rfl) (by rw [List.getElem?_map, hj]; exact congrArg some e))
    rw [upd_ne nq]
    exact g.get q (List.mem_of_getElem? hj)
end
theorem same_upd {H : Hp} {p : Addr} {o : HO} (h : H p = none) : Same H (upd H p o) := fun b u e => by
  rw [upd_ne (ne_of_none e h)]
  exact e
/-- an object that H does not know may change -/
theorem same_mut {H H' : Hp} {p : Addr} {o : HO} (e : Same H H') (h : H p = none) : Same H (upd H' p o) := fun b u q => by
  rw [upd_ne (ne_of_none q h)]
  exact e b u q

/-! ### the pen -/
/-- p: the pen's list; c: the cells' list; ns: the cells -/
structure Pen where
  p : Addr
  c : Addr
  ns : List Int
def penO (P : Pen) (spot rest : Int) : HO := .lst [.ref P.c, .int spot, .int rest]
structure PenAt (P : Pen) (n : Nat) (H : Hp) : Prop where
  ex : ∃ spot rest : Int, 0 ≤ spot ∧ spot ≤ n ∧ 0 ≤ rest ∧ H P.p = some (penO P spot rest)
  cells : H P.c = some (.lst (P.ns.map V.int))
  len : P.ns.length ≤ 63
  ne : P.p ≠ P.c
/-- all but the pen is kept -/
def KeepB (P : Pen) (H H' : Hp) : Prop := ∀ b o, b ≠ P.p → H b = some o → H' b = some o
/-- a state in which law's defs run: the pen, drawn from at most n times so far, and what else is known -/
structure PL (P : Pen) (n : Nat) (H : Hp) (L : List (Addr × HO)) : Prop where
  pen : PenAt P n H
  lg : Lg H L
  np : P.p ∉ L.map (·.1)
  nc : P.c ∉ L.map (·.1)
section
variable {P : Pen} {n m : Nat} {H H' H'' : Hp} {L : List (Addr × HO)} {p : Addr} {o o' : HO}
theorem KeepB.refl : KeepB P H H := fun _ _ _ h => h
theorem KeepB.of_same (e : Same H H') : KeepB P H H' := fun b o _ h => e b o h
theorem KeepB.trans (a : KeepB P H H') (b : KeepB P H' H'') : KeepB P H H'' := fun c o n h => b c o n (a c o n h)
theorem KeepB.free (a : KeepB P H H') (h : H' p = none) (hp : PenAt P n H') : H p = none := by
  cases q : H p with
  | none => rfl
  | some o =>
    obtain ⟨s, r, _, _, _, hpp⟩ := hp.ex
    have np : p ≠ P.p := fun z => by rw [z, hpp] at h; cases h
    rw [a p o np q] at h
    cases h
theorem KeepB.new (a : KeepB P H H') (h : H' p = none) : KeepB P H (upd H' p o) := fun b u nb e => by
  have z := a b u nb e
  rw [upd_ne (ne_of_none z h)]
  exact z
theorem KeepB.mut (a : KeepB P H H') (h : H p = none) : KeepB P H (upd H' p o) := fun b u nb e => by
  rw [upd_ne (ne_of_none e h)]
  exact a b u nb e
theorem PenAt.ne_new (h : PenAt P n H) (hp : H p = none) : P.p ≠ p ∧ P.c ≠ p := by
  obtain ⟨_, _, _, _, _, e⟩ := h.ex
  exact ⟨ne_of_none e hp, ne_of_none h.cells hp⟩
theorem PenAt.same (h : PenAt P n H) (e : Same H H') : PenAt P n H' := by
  obtain ⟨s, r, h1, h2, h3, h4⟩ := h.ex
  exact ⟨⟨s, r, h1, h2, h3, e _ _ h4⟩, e _ _ h.cells, h.len, h.ne⟩
theorem PenAt.mono (h : PenAt P n H) (hm : n ≤ m) : PenAt P m H := by
  obtain ⟨s, r, h1, h2, h3, h4⟩ := h.ex
  exact ⟨⟨s, r, h1, by omega, h3, h4⟩, h.cells, h.len, h.ne⟩
theorem PL.at (g : PL P n H L) (i : Nat) (h : L[i]? = some (p, o)) : H p = some o := g.lg.at i h
theorem PL.mono (g : PL P n H L) (hm : n ≤ m) : PL P m H L := ⟨g.pen.mono hm, g.lg, g.np, g.nc⟩
theorem PL.start (h : PenAt P n H) : PL P n H [] := ⟨h, Lg.nil, by simp, by simp⟩
theorem PL.new (g : PL P n H L) (hp : H p = none) : PL P n (upd H p o) ((p, o) :: L) := by
  obtain ⟨h1, h2⟩ := g.pen.ne_new hp
  refine ⟨g.pen.same (same_upd hp), g.lg.new hp, ?_, ?_⟩
  · rw [List.map_cons, List.mem_cons]
    exact fun z => z.elim h1 g.np
  · rw [List.map_cons, List.mem_cons]
    exact fun z => z.elim h2 g.nc
theorem PL.same (g : PL P n H L) (e : Same H H') : PL P n H' L := ⟨g.pen.same e, g.lg.same e, g.np, g.nc⟩
theorem PL.tail {x : Addr × HO} (g : PL P n H (x :: L)) : PL P n H L := ⟨g.pen, g.lg.tail, fun h => g.np (by rw [List.map_cons]; exact List.mem_cons_of_mem _ h), fun h => g.nc (by rw [List.map_cons]; exact List.mem_cons_of_mem _ h)⟩
theorem PL.cons (g : PL P n H L) (hp : H p = some o) (n1 : p ∉ L.map (·.1)) (n2 : p ≠ P.p) (n3 : p ≠ P.c) : PL P n H ((p, o) :: L) := by
  refine ⟨g.pen, g.lg.cons hp n1, ?_, ?_⟩
  · rw [List.map_cons, List.mem_cons]
    exact fun z => z.elim (fun e => n2 e.symm) g.np
  · rw [List.map_cons, List.mem_cons]
    exact fun z => z.elim (fun e => n3 e.symm) g.nc
theorem PL.set (g : PL P n H L) (i : Nat) (h : L[i]? = some (p, o)) : PL P n (upd H p o') (L.set i (p, o')) := by
  have m : p ∈ L.map (·.1) := List.mem_map.mpr ⟨(p, o), List.mem_of_getElem? h, rfl⟩
  have n1 : P.p ≠ p := fun z => g.np (z ▸ m)
  have n2 : P.c ≠ p := fun z => g.nc (z ▸ m)
  have e : (L.set i (p, o')).map (·.1) = L.map (·.1) := by
    rw [List.map_set]
    have z : (L.map (·.1))[i]? = some p := by rw [List.getElem?_map, h]; rfl
    exact set_selfA z
  obtain ⟨s, r, h1, h2, h3, h4⟩ := g.pen.ex
  exact ⟨⟨⟨s, r, h1, h2, h3, by rw [upd_ne n1]; exact h4⟩, by rw [upd_ne n2]; exact g.pen.cells, g.pen.len, g.pen.ne⟩, g.lg.set i h, by rw [e]; exact g.np, by rw [e]; exact g.nc⟩
/-- behind a def that drew -/
theorem PL.drawn (g : PL P n H L) (k : KeepB P H H') (h : PenAt P m H') : PL P m H' L :=
  ⟨h, ⟨fun q hq => k _ _ (fun z => g.np (z ▸ List.mem_map_of_mem hq)) (g.lg.get q hq), g.lg.nd⟩, g.np, g.nc⟩
end

/-! ### texts as lists of code points -/
abbrev S (w : List Nat) : Str := ⟨w.toArray⟩
theorem S_inj {a b : List Nat} : S a = S b ↔ a = b := by
  constructor
  · intro h
    have z := congrArg (fun x : Str => x.cps.toList) h
    simpa using z
  · intro h; rw [h]
theorem S_len (w : List Nat) : (S w).length = w.length := by simp [S, Str.length]
theorem S_app (a b : List Nat) : S a ++ S b = S (a ++ b) := by
  show (⟨a.toArray ++ b.toArray⟩ : Str) = _
  simp [S]

/-! ### operators of several kinds -/
section
variable {X : Cx}
def rAddA : R2 := fun x y H Q => (rI0 (fun i j => .int (i + j)) x y H Q) ∨ (∃ i j, x = .str i ∧ y = .str j ∧ i.length + j.length ≤ sizeLine ∧ Q (.str (i ++ j)) H) ∨ rCat x y H Q
theorem op_addA : OpR X (binaryOp .Add) rAddA := op_add.or (op_add_str.or op_cat)
def rEqA (K : PySem.W.Frag) : R2 := fun x y H Q => rEq x y H Q ∨ rEqD K x y H Q
def rNeA (K : PySem.W.Frag) : R2 := fun x y H Q => rNe x y H Q ∨ rNeD K x y H Q
theorem op_eqA (hu : X.A.units + 64 < cLine) : OpR X (compareOp .Eq) (rEqA X.K) := op_eq.or (op_eqD hu)
theorem op_neA (hu : X.A.units + 64 < cLine) : OpR X (compareOp .NotEq) (rNeA X.K) := op_ne.or (op_neD hu)
def rInA (K : PySem.W.Frag) : R2 := fun x y H Q => (∃ (c : Nat) (z : Str), x = .str ⟨#[c]⟩ ∧ y = .str z ∧ Q (.bl (decide (c ∈ z.cps.toList))) H) ∨ rIn K false x y H Q
def rNiA (K : PySem.W.Frag) : R2 := fun x y H Q => (∃ (c : Nat) (z : Str), x = .str ⟨#[c]⟩ ∧ y = .str z ∧ Q (.bl (!decide (c ∈ z.cps.toList))) H) ∨ rIn K true x y H Q
theorem op_inA : OpR X (compareOp .In) (rInA X.K) := op_in_sign.or op_in_seq
theorem op_niA : OpR X (compareOp .NotIn) (rNiA X.K) := op_notIn_sign.or op_notIn_seq
def rSlA (K : PySem.W.Frag) : V → Option Int → Option Int → Hp → VK → Prop := fun x lo hi H Q => rSlL K x lo hi H Q ∨ rSlS x lo hi H Q
theorem sl_any : SlR X (rSlA X.K) := sl_list.or sl_str

theorem pe_S {x : Str} {w : List Nat} {j : Nat} {pos : Pos} (h : x = S w) : PE X (.Constant (.str x) j pos) (tC (.str (S w))) := by subst h; exact pe_str
/-- o.f: of an instance, or of an error -/
def tAttr (K : PySem.W.Frag) (f : Str) (te : TE) : TE := fun σ H Q => te σ H fun x H1 =>
  (∃ a C dx fs v, x = .ref a ∧ H1 a = some (.ins C dx fs) ∧ Cls K C ∧ NoAttr K C f ∧ fs.lookup f = some v ∧ Q v H1) ∨
  (∃ (a C dd : Addr) (fs : List (Str × V)) (v : V), x = .ref a ∧ XfF K C f ∧ H1 a = some (EXV (.ref C) (some dd) a) ∧ H1 dd = some (.xd fs) ∧ fs.lookup f = some v ∧ Q v H1)
theorem pe_attr {e : Expr} {te : TE} {pos : Pos} {n : Str} (he : PE X e te) (hb : attributeBase e n X.env (eval e X.env) = eval e X.env := by rfl) : PE X (.Attribute e n pos) (tAttr X.K n te) := by
  refine ⟨fun pins s σ H Q I h => ?_⟩
  refine attr_of hb (thn (he.run pins s σ H _ I h) fun u s1 ⟨x, H1, I1, rx, hh⟩ => ?_)
  rcases hh with ⟨a, C, dx, fs, v, ex, ea, c, n, l, q⟩ | ⟨a, C, dd, fs, v, ex, T, ea, ed, l, q⟩
  · subst ex
    obtain rfl : u = Value.ref a := rx
    exact getattr_ok I1 ea c n l fun u' s2 I2 ru => ⟨v, H1, I2, ru, q⟩
  · subst ex
    obtain rfl : u = Value.ref a := rx
    obtain ⟨oe, vs, ha, hz, hd⟩ := exv_at I1.hok ea
    have hx : ObjOk X.prog X.w H1 s1.heap dd (.xd fs) := I1.hok dd _ ed
    obtain ⟨mA, hns, hr⟩ := hx
    obtain ⟨od, ho, hl⟩ := lookIn_ns hns
    obtain ⟨u, hu, ru⟩ := RelO.some_of (v := v) (o := mA n) (by rw [← l]; exact hr n)
    have J : PySem.W.InstAt s1.heap a oe C (some od) := ⟨ha, hz.1, by unfold PySem.W.notCls; rw [hd] <;> rfl, by rw [hz.2]; exact ho⟩
    exact HandSPX.exc_get I1.kIn J T.c.ga T.c.gg T.c.exC (PySem.W.findObj_own T.c.hdC T.no rfl (by rw [hl, hu])) (handed_of ru) ⟨v, H1, I1.tok _, ru, q⟩
end

/-! ### a def that may raise, a class whose __init__ may raise -/
/-- a def that raises nothing -/
structure CalN (P : Program) (w : World) (K : PySem.W.Frag) (mg : Str → Option Value) (base : Heap) (k : Nat) (x : Str) (sp : Sp) : Prop where
  ex : ∃ (f : Addr) (fd : FuncData) (ps : List Str), FnOk P w K mg base CX0 k f fd ps sp ∧ mg x = some (.ref f) ∧ PySem.W.keepIn K (.ref f) = true ∧ Binds K fd ps []
structure CalX (P : Program) (w : World) (K : PySem.W.Frag) (mg : Str → Option Value) (base : Heap) (k : Nat) (x : Str) (sp : Sp) : Prop where
  ex : ∃ (f : Addr) (fd : FuncData) (ps : List Str), FnOk P w K mg base (L2.CX P w) k f fd ps sp ∧ mg x = some (.ref f) ∧ PySem.W.keepIn K (.ref f) = true ∧ Binds K fd ps []
section
variable {X : Cx} {k j : Nat} {C : Addr} {x m : Str} {sp : Sp} {p pos apos : Pos} {e o : Expr} {es : List Expr} {ta : TE} {t : TA} {E : XK} {W : WX}
theorem pe_cX (c : CalX X.prog X.w X.K X.mg X.base k x sp) (hr : Room j X.A) (hk : k ≤ j) (hx : Passes (L2.CX X.prog X.w) X E) (ha : PA X (e :: es) t) (hg : Gl X x := by rfl)
    (hdb : (x == ("__debug__" : Str)) = false := by decide) (he : starEach (e :: es) X.env = (false, eval e X.env) :: starEach es X.env := by rfl) (hpl : (backTo pos (starEach es X.env)).any (·.1) = false := by rfl) :
    PE X (.Call (.Name x p) (e :: es) [] pos) (tCall sp [] E t) := by
  obtain ⟨f, fd, ps, F, hm, kp, b⟩ := c.ex
  exact pe_call F (hr.mono hk) hg hm kp b .nil hx ha hdb he hpl
theorem pe_c0 (c : CalN X.prog X.w X.K X.mg X.base k x sp) (hr : Room j X.A) (hk : k ≤ j) (ha : PA X (e :: es) t) (hg : Gl X x := by rfl)
    (hdb : (x == ("__debug__" : Str)) = false := by decide) (he : starEach (e :: es) X.env = (false, eval e X.env) :: starEach es X.env := by rfl) (hpl : (backTo pos (starEach es X.env)).any (·.1) = false := by rfl) :
    PE X (.Call (.Name x p) (e :: es) [] pos) (tCall sp [] L2.E0 t) := by
  obtain ⟨f, fd, ps, F, hm, kp, b⟩ := c.ex
  exact pe_call F (hr.mono hk) hg hm kp b .nil pass0 ha hdb he hpl
/-- within a try -/
theorem pe_cS (c : CalX X.prog X.w X.K X.mg X.base k x sp) (hr : Room j X.A) (hk : k ≤ j) (tk : Takes X W) (ha : PA X (e :: es) t) (hg : Gl X x := by rfl)
    (hdb : (x == ("__debug__" : Str)) = false := by decide) (he : starEach (e :: es) X.env = (false, eval e X.env) :: starEach es X.env := by rfl) (hpl : (backTo pos (starEach es X.env)).any (·.1) = false := by rfl) :
    PE X (.Call (.Name x p) (e :: es) [] pos) (tCallS sp (WE W) t) := by
  obtain ⟨f, fd, ps, F, hm, kp, b⟩ := c.ex
  exact pe_callS F (hr.mono hk) hg hm kp b (fun σ => passAt tk σ) ha hdb he hpl
structure MakX (P : Program) (w : World) (K : PySem.W.Frag) (mg : Str → Option Value) (base : Heap) (k : Nat) (x : Str) (C : Addr) (sp : Sp) : Prop where
  ex : ∃ (f : Addr) (fd : FuncData) (ps : List Str), Mk K C f ∧ FnOk P w K mg base (L2.CX P w) k f fd ps sp ∧ mg x = some (.ref C) ∧ Binds K fd ps []
theorem pe_mX (c : MakX X.prog X.w X.K X.mg X.base k x C sp) (hr : Room j X.A) (hk : k + 1 ≤ j) (hx : Passes (L2.CX X.prog X.w) X E) (ha : PA X (e :: es) t) (hg : Gl X x := by rfl)
    (hdb : (x == ("__debug__" : Str)) = false := by decide) (he : starEach (e :: es) X.env = (false, eval e X.env) :: starEach es X.env := by rfl) (hpl : (backTo pos (starEach es X.env)).any (·.1) = false := by rfl) :
    PE X (.Call (.Name x p) (e :: es) [] pos) (tMake C sp [] E t) := by
  obtain ⟨f, fd, ps, M, F, hm, b⟩ := c.ex
  exact pe_make M F (hr.mono hk) hg hm b .nil hx ha hdb he hpl
end
end Cs

set_option Elab.async false
set_option linter.all false
set_option maxRecDepth 100000
set_option maxHeartbeats 4000000
/-! TxtA: texts of the eight letters. -/
namespace Cs
open PySem PySem.Spec PyProof.Rows L2

abbrev lets : List Nat := [65, 66, 67, 68, 97, 98, 99, 100]
/-- one of the eight letters -/
def isL (c : Nat) : Bool := lets.contains c
/-- the undoing of a letter -/
def und (c : Nat) : Nat := if c < 97 then c + 32 else c - 32
def AllL (w : List Nat) : Prop := ∀ c ∈ w, isL c = true
theorem isL_mem {c : Nat} (h : isL c = true) : c ∈ lets := by simpa [isL] using h
theorem isL_iff {c : Nat} : isL c = true ↔ c ∈ lets := by simp [isL]
theorem isL_cases {c : Nat} (h : isL c = true) : c = 65 ∨ c = 66 ∨ c = 67 ∨ c = 68 ∨ c = 97 ∨ c = 98 ∨ c = 99 ∨ c = 100 := by
  have z := isL_mem h
  simpa [lets] using z
theorem und_und {c : Nat} (h : isL c = true) : und (und c) = c := by
  rcases isL_cases h with rfl | rfl | rfl | rfl | rfl | rfl | rfl | rfl <;> rfl
theorem und_L {c : Nat} (h : isL c = true) : isL (und c) = true := by
  rcases isL_cases h with rfl | rfl | rfl | rfl | rfl | rfl | rfl | rfl <;> rfl
theorem und_ne {c : Nat} (h : isL c = true) : und c ≠ c := by
  rcases isL_cases h with rfl | rfl | rfl | rfl | rfl | rfl | rfl | rfl <;> decide
theorem und_inj {c d : Nat} (hc : isL c = true) (hd : isL d = true) (h : und c = und d) : c = d := by
  rw [← und_und hc, ← und_und hd, h]

theorem placed_one {w : List Nat} {f : Nat → Nat → List Nat} {g : Nat → Nat} (h : ∀ (i c : Nat), w[i]? = some c → f i c = [g c]) : placed (S w) f = (w.map g).toArray := by
  unfold placed
  apply Array.ext'
  simp only [S, List.mapIdx_toArray, Array.toList_flatten]
  have e : List.mapIdx (fun i c => (f i c).toArray) w = w.map fun c => #[g c] := by
    apply List.ext_getElem?
    intro i
    simp only [List.getElem?_mapIdx, List.getElem?_map]
    cases q : w[i]? with
    | none => rfl
    | some c =>
      simp [h i c q]
  rw [e]
  clear e h
  induction w with
  | nil => rfl
  | cons a w ih => simpa using ih

theorem up_of {c : Nat} (h : isL c = true) : Unicode.isUpper c = decide (c < 97) ∧ Unicode.isLower c = decide (97 ≤ c) ∧ Unicode.isTitle c = false := by
  rcases isL_cases h with rfl | rfl | rfl | rfl | rfl | rfl | rfl | rfl <;> decide +kernel
theorem lowerOf_of {c : Nat} (h : isL c = true) : Unicode.lowerOf c = [if c < 97 then c + 32 else c] := by
  rcases isL_cases h with rfl | rfl | rfl | rfl | rfl | rfl | rfl | rfl <;> decide +kernel
theorem upperOf_of {c : Nat} (h : isL c = true) : Unicode.upperOf c = [if c < 97 then c else c - 32] := by
  rcases isL_cases h with rfl | rfl | rfl | rfl | rfl | rfl | rfl | rfl <;> decide +kernel
theorem lowerAt_of {w : List Nat} {i c : Nat} (h : isL c = true) (hi : w[i]? = some c) : Unicode.lowerAt (S w).cps i = [if c < 97 then c + 32 else c] := by
  unfold Unicode.lowerAt
  have e : (S w).cps[i]? = some c := by simpa using hi
  rw [e]
  have n : (c == 0x3A3) = false := by
    rcases isL_cases h with rfl | rfl | rfl | rfl | rfl | rfl | rfl | rfl <;> rfl
  simp only [n, Bool.false_and, Bool.false_eq_true, if_false]
  exact lowerOf_of h
def low (c : Nat) : Nat := if c < 97 then c + 32 else c
def upp (c : Nat) : Nat := if c < 97 then c else c - 32
theorem swapcase_S {w : List Nat} (h : AllL w) : Txt.swapcase (S w) = S (w.map und) := by
  unfold Txt.swapcase
  rw [placed_one (w := w) (g := und) fun i c hi => ?_]
  have hc := h c (List.mem_of_getElem? hi)
  obtain ⟨h1, h2, _⟩ := up_of hc
  by_cases q : c < 97
  · rw [h1, decide_eq_true q, if_pos rfl, lowerAt_of hc hi]
    simp [und, q]
  · rw [h1, decide_eq_false q, if_neg Bool.false_ne_true, h2, decide_eq_true (by omega : 97 ≤ c), if_pos rfl, upperOf_of hc]
    simp [und, q]
theorem lower_S {w : List Nat} (h : AllL w) : Txt.lower (S w) = S (w.map low) := by
  unfold Txt.lower
  rw [placed_one (w := w) (g := low) fun i c hi => ?_]
  exact lowerAt_of (h c (List.mem_of_getElem? hi)) hi
theorem upper_S {w : List Nat} (h : AllL w) : Txt.upper (S w) = S (w.map upp) := by
  unfold Txt.upper
  rw [placed_one (w := w) (g := upp) fun i c hi => ?_]
  exact upperOf_of (h c (List.mem_of_getElem? hi))
theorem isupper_1 {c : Nat} (h : isL c = true) : Txt.isupper (S [c]) = decide (c < 97) := by
  obtain ⟨h1, h2, h3⟩ := up_of h
  unfold Txt.isupper
  simp only [S, List.any_toArray, List.any_cons, List.any_nil, Bool.or_false, h1, h2, h3]
  by_cases q : c < 97
  · simp [q]
  · simp [q]
theorem startswith_S (a b : List Nat) : Txt.startswith (S a) (S b) = b.isPrefixOf a := by
  unfold Txt.startswith
  rw [S_len, S_len]
  unfold PySem.Builtin.Str.subAt
  rw [S_len]
  have e : ((S a).cps.extract 0 (0 + b.length) == (S b).cps) = decide (a.take b.length = b) := by
    rw [Bool.eq_iff_iff, beq_iff_eq, decide_eq_true_iff]
    constructor
    · intro h
      have z := congrArg Array.toList h
      simpa using z
    · intro h
      apply Array.ext'
      simpa using h
  rw [e, Bool.eq_iff_iff, List.isPrefixOf_iff_prefix, List.prefix_iff_eq_take]
  simp only [Bool.and_eq_true, decide_eq_true_iff, Nat.zero_add]
  constructor
  · intro h; exact h.2.symm
  · intro h
    refine ⟨?_, h.symm⟩
    have z := congrArg List.length h
    rw [List.length_take] at z
    omega
theorem toList_S (w : List Nat) : (S w).cps.toList = w := by simp
/-! ### slices -/
theorem cutS_S (w : List Nat) (lo hi : Option Int) : cutS (S w) lo hi = S ((w.drop (HT.sIx w.length 0 lo)).take (HT.sIx w.length w.length hi - HT.sIx w.length 0 lo)) := by
  unfold cutS
  rw [S_len]
/-- w[:k], 0 ≤ k -/
theorem cut_to (w : List Nat) (k : Nat) : cutS (S w) none (some (k : Int)) = S (w.take k) := by
  rw [cutS_S, HT.sIx_none, HT.sIx_nat]
  simp only [List.drop_zero, Nat.sub_zero]
  by_cases h : k ≤ w.length
  · rw [Nat.min_eq_left h]
  · rw [Nat.min_eq_right (by omega), List.take_length, List.take_of_length_le (by omega)]
/-- w[k:], 0 ≤ k -/
theorem cut_from (w : List Nat) (k : Nat) : cutS (S w) (some (k : Int)) none = S (w.drop k) := by
  rw [cutS_S, HT.sIx_none, HT.sIx_nat]
  congr 2
  by_cases h : k ≤ w.length
  · rw [Nat.min_eq_left h]
    apply List.take_of_length_le
    simp
  · rw [Nat.min_eq_right (by omega)]
    rw [List.drop_of_length_le (by omega : w.length ≤ k), List.drop_length]
    simp
/-- w[:-1] -/
theorem cut_init (w : List Nat) : cutS (S w) none (some (-1)) = S w.dropLast := by
  rw [cutS_S, HT.sIx_none]
  have e : HT.sIx w.length w.length (some (-1)) = w.length - 1 := by
    unfold HT.sIx
    simp only [show (-1 : Int) < 0 by decide, if_true]
    omega
  rw [e, List.dropLast_eq_take]
  simp
/-- w[-1:] -/
theorem cut_last (w : List Nat) : cutS (S w) (some (-1)) none = S (w.drop (w.length - 1)) := by
  rw [cutS_S, HT.sIx_none]
  have e : HT.sIx w.length 0 (some (-1)) = w.length - 1 := by
    unfold HT.sIx
    simp only [show (-1 : Int) < 0 by decide, if_true]
    omega
  rw [e]
  congr 2
  apply List.take_of_length_le
  simp
/-- w[-2:-1] -/
theorem cut_21 (w : List Nat) : cutS (S w) (some (-2)) (some (-1)) = S ((w.drop (w.length - 2)).take (w.length - 1 - (w.length - 2))) := by
  rw [cutS_S]
  have e : HT.sIx w.length 0 (some (-2)) = w.length - 2 := by
    unfold HT.sIx
    simp only [show (-2 : Int) < 0 by decide, if_true]
    omega
  have e' : HT.sIx w.length w.length (some (-1)) = w.length - 1 := by
    unfold HT.sIx
    simp only [show (-1 : Int) < 0 by decide, if_true]
    omega
  rw [e, e']
theorem atI_neg {α : Type} {xs : List α} {k : Nat} {x : α} (h0 : 0 < k) (hk : k ≤ xs.length) (h : xs[xs.length - k]? = some x) : atI xs (-(k : Int)) = some x := by
  unfold atI ixN
  rw [if_neg (by omega), if_pos (by omega)]
  have e : (-(k : Int) + (xs.length : Int)).toNat = xs.length - k := by omega
  rw [e]
  exact h
end Cs

set_option Elab.async false
set_option linter.all false
set_option maxRecDepth 100000
set_option maxHeartbeats 4000000
/-! LayB: readings, step by step. -/
namespace Cs
open PySem PySem.Spec PyProof.Rows L2
/-- x.f -/
def rAttr (K : PySem.W.Frag) (f : Str) (x : V) (H1 : Hp) (Q : VK) : Prop := (∃ a C dx fs v, x = .ref a ∧ H1 a = some (.ins C dx fs) ∧ Cls K C ∧ NoAttr K C f ∧ fs.lookup f = some v ∧ Q v H1) ∨
  (∃ (a C dd : Addr) (fs : List (Str × V)) (v : V), x = .ref a ∧ XfF K C f ∧ H1 a = some (EXV (.ref C) (some dd) a) ∧ H1 dd = some (.xd fs) ∧ fs.lookup f = some v ∧ Q v H1)
section
variable {K : PySem.W.Frag} {σ : L2.St} {H : Hp} {Q : VK} {QT : Bool → Hp → Prop} {QA : List V → Hp → Prop} {QO : Option Int → Hp → Prop} {D : Ends} {ta tb tc te tv : TE} {tA tB' : TT} {t u : TS} {tr : TA} {x y v : V} {i : Nat} {r r' : R2} {g : TG} {f : Str}
/-! ### expressions -/
theorem r_var (h : σ[i]? = some (some v)) (q : Q v H) : tVar i σ H Q := ⟨v, h, q⟩
theorem r_c (q : Q v H) : tC v σ H Q := q
theorem r_op (q : ta σ H fun x H1 => tb σ H1 fun y H2 => r x y H2 Q) : tOp r ta tb σ H Q := q
theorem r_un {ru : V → Hp → VK → Prop} (q : ta σ H fun x H1 => ru x H1 Q) : tUn ru ta σ H Q := q
theorem r_I0 {gg : Int → Int → V} {a b : Int} (q : Q (gg a b) H) : rI0 gg (.int a) (.int b) H Q := ⟨a, b, rfl, rfl, q⟩
theorem r_I {C : Int → Int → Prop} {gg : Int → Int → V} {a b : Int} (c : C a b) (q : Q (gg a b) H) : rI C gg (.int a) (.int b) H Q := ⟨a, b, rfl, rfl, c, q⟩
theorem r_U {gg : Int → V} {a : Int} (q : Q (gg a) H) : rU gg (.int a) H Q := ⟨a, rfl, q⟩
theorem r_addI {a b : Int} (q : Q (.int (a + b)) H) : rAddA (.int a) (.int b) H Q := .inl ⟨a, b, rfl, rfl, q⟩
theorem r_addS {a b : List Nat} (hl : a.length + b.length ≤ 1000000) (q : Q (.str (S (a ++ b))) H) : rAddA (.str (S a)) (.str (S b)) H Q :=
  .inr (.inl ⟨S a, S b, rfl, rfl, by rw [S_len, S_len, sizeLine_eq]; omega, by rw [S_app]; exact q⟩)
theorem r_addL {l b : Addr} {xs zs : List V} (h1 : H l = some (.lst xs)) (h2 : H b = some (.lst zs)) (hl : xs.length + zs.length ≤ 1000000) (q : ∀ p, H p = none → Q (.ref p) (upd H p (.lst (xs ++ zs)))) : rAddA (.ref l) (.ref b) H Q :=
  .inr (.inr ⟨l, b, xs, zs, rfl, rfl, h1, h2, by rw [sizeLine_eq]; omega, q⟩)
theorem r_eqI {a b : Int} (q : Q (.bl (decide (a = b))) H) : rEqA K (.int a) (.int b) H Q := .inl ⟨rfl, by
  have e : decide (V.int a = V.int b) = decide (a = b) := by simp
  rw [e]; exact q⟩
theorem r_neI {a b : Int} (q : Q (.bl (!decide (a = b))) H) : rNeA K (.int a) (.int b) H Q := .inl ⟨rfl, by
  have e : decide (V.int a = V.int b) = decide (a = b) := by simp
  rw [e]; exact q⟩
theorem r_eqS {a b : List Nat} (q : Q (.bl (decide (a = b))) H) : rEqA K (.str (S a)) (.str (S b)) H Q := .inl ⟨rfl, by
  have e : decide (V.str (S a) = V.str (S b)) = decide (a = b) := by simp
  rw [e]; exact q⟩
theorem r_neS {a b : List Nat} (q : Q (.bl (!decide (a = b))) H) : rNeA K (.str (S a)) (.str (S b)) H Q := .inl ⟨rfl, by
  have e : decide (V.str (S a) = V.str (S b)) = decide (a = b) := by simp
  rw [e]; exact q⟩
theorem r_eqB {a b : Bool} (q : Q (.bl (decide (a = b))) H) : rEqA K (.bl a) (.bl b) H Q := .inl ⟨rfl, by
  have e : decide (V.bl a = V.bl b) = decide (a = b) := by simp
  rw [e]; exact q⟩
theorem r_neB {a b : Bool} (q : Q (.bl (!decide (a = b))) H) : rNeA K (.bl a) (.bl b) H Q := .inl ⟨rfl, by
  have e : decide (V.bl a = V.bl b) = decide (a = b) := by simp
  rw [e]; exact q⟩
theorem r_eqD {d e : PyData} (hx : Dp K H x d) (hy : Dp K H y e) (h1 : SeqAt.shaped d = true) (h2 : SeqAt.shaped e = true) (q : Q (.bl (PyData.eqv d e)) H) : rEqA K x y H Q := .inr ⟨d, e, hx, hy, h1, h2, q⟩
theorem r_neD {d e : PyData} (hx : Dp K H x d) (hy : Dp K H y e) (h1 : SeqAt.shaped d = true) (h2 : SeqAt.shaped e = true) (q : Q (.bl (!PyData.eqv d e)) H) : rNeA K x y H Q := .inr ⟨d, e, hx, hy, h1, h2, q⟩
theorem r_inS {c : Nat} {w : List Nat} (q : Q (.bl (decide (c ∈ w))) H) : rInA K (.str (S [c])) (.str (S w)) H Q := .inl ⟨c, S w, rfl, rfl, by rw [toList_S]; exact q⟩
theorem r_niS {c : Nat} {w : List Nat} (q : Q (.bl (!decide (c ∈ w))) H) : rNiA K (.str (S [c])) (.str (S w)) H Q := .inl ⟨c, S w, rfl, rfl, by rw [toList_S]; exact q⟩
theorem r_test (q : te σ H fun x H' => ∃ k, x = .bl k ∧ QT k H') : tTest te σ H QT := q
theorem r_tB (q : te σ H fun x H' => ∃ k, x = .bl k ∧ QT k H') : tB te σ H QT := q
theorem r_bl {b : Bool} {A : Bool → Prop} (q : A b) : ∃ k, V.bl b = .bl k ∧ A k := ⟨b, rfl, q⟩
theorem r_and (q : tA σ H fun c H1 => if c = true then tB' σ H1 QT else QT false H1) : tAnd tA tB' σ H QT := q
theorem r_or (q : tA σ H fun c H1 => if c = true then QT true H1 else tB' σ H1 QT) : tOr tA tB' σ H QT := q
theorem r_not (q : tA σ H fun c H1 => QT (!c) H1) : tNot tA σ H QT := q
theorem r_andV (q : ta σ H fun x H1 => ∃ c, x = .bl c ∧ if c = true then tb σ H1 Q else Q (.bl false) H1) : tAndV ta tb σ H Q := q
theorem r_orV (q : ta σ H fun x H1 => ∃ c, x = .bl c ∧ if c = true then Q (.bl true) H1 else tb σ H1 Q) : tOrV ta tb σ H Q := q
theorem r_notV (q : ta σ H fun x H1 => ∃ c, x = .bl c ∧ Q (.bl (!c)) H1) : tNotV ta σ H Q := q
theorem r_blv {b : Bool} {P : Bool → Prop} (q : P b) : ∃ c, V.bl b = .bl c ∧ P c := ⟨b, rfl, q⟩
theorem r_if (q : tA σ H fun c H1 => if c = true then ta σ H1 Q else tb σ H1 Q) : tIf tA ta tb σ H Q := q
theorem r_ift {A B : Prop} (q : A) : if true = true then A else B := by rw [if_pos rfl]; exact q
theorem r_iff {A B : Prop} (q : B) : if false = true then A else B := by rw [if_neg Bool.false_ne_true]; exact q
theorem r_it {b : Bool} {A B : Prop} (h : b = true) (q : A) : if b = true then A else B := by rw [if_pos h]; exact q
theorem r_ie {b : Bool} {A B : Prop} (h : b = false) (q : B) : if b = true then A else B := by rw [h, if_neg Bool.false_ne_true]; exact q
theorem r_ib {b : Bool} {A B : Prop} (h1 : b = true → A) (h2 : b = false → B) : if b = true then A else B := by
  cases b with
  | true => exact r_ift (h1 rfl)
  | false => exact r_iff (h2 rfl)
theorem r_nil (q : QA [] H) : tNil σ H QA := q
theorem r_cons (q : te σ H fun x H1 => tr σ H1 fun xs H2 => QA (x :: xs) H2) : tCons te tr σ H QA := q
theorem r_tup (q : tr σ H fun xs H1 => xs.length ≤ sizeLine ∧ ∀ p, H1 p = none → Q (.ref p) (upd H1 p (.tup xs))) : tTup tr σ H Q := q
theorem r_lst (q : tr σ H fun xs H1 => xs.length ≤ sizeLine ∧ ∀ p, H1 p = none → Q (.ref p) (upd H1 p (.lst xs))) : tLst tr σ H Q := q
theorem r_sz {xs : List V} {A : Prop} (h : xs.length ≤ 1000000) (q : A) : xs.length ≤ sizeLine ∧ A := ⟨by rw [sizeLine_eq]; omega, q⟩
theorem r_cb {rc : List V → Hp → VK → Prop} (q : tr σ H fun vs H1 => rc vs H1 Q) : tCB rc tr σ H Q := q
theorem r_call {sp : Sp} {dvs : List V} {E : XK} (q : tr σ H fun vs H1 => sp (vs ++ dvs) H1 Q E) : tCall sp dvs E tr σ H Q := q
theorem r_callS {sp : Sp} {E : L2.St → XK} (q : tr σ H fun vs H1 => sp vs H1 Q (E σ)) : tCallS sp E tr σ H Q := q
theorem r_app {vs : List V} {P : List V → Prop} (q : P vs) : P (vs ++ []) := by rw [List.append_nil]; exact q
theorem r_make {C : Addr} {sp : Sp} {dvs : List V} {E : XK} (q : tr σ H fun vs H1 => ∀ x dx, H1 x = none → H1 dx = none → dx ≠ x → sp (.ref x :: (vs ++ dvs)) (upd (upd H1 dx (.own x)) x (.ins C dx [])) (fun v H2 => v = .non ∧ Q (.ref x) H2) E) : tMake C sp dvs E tr σ H Q := q
theorem r_attr (q : te σ H fun x H1 => rAttr K f x H1 Q) : tAttr K f te σ H Q := q
theorem r_sl {rs : V → Option Int → Option Int → Hp → VK → Prop} {tl th : TO} (q : te σ H fun x H1 => tl σ H1 fun l H2 => th σ H2 fun u H3 => rs x l u H3 Q) : tSl rs te tl th σ H Q := q
theorem r_nopart (q : QO none H) : tNoPart σ H QO := q
theorem r_part (q : te σ H fun x H1 => ∃ i, x = .int i ∧ QO (some i) H1) : tPart te σ H QO := q
theorem r_parti {n : Int} {A : Int → Prop} (q : A n) : ∃ i, V.int n = .int i ∧ A i := ⟨n, rfl, q⟩
theorem r_slS {w w' : List Nat} {lo hi : Option Int} (e : cutS (S w) lo hi = S w') (hl : w.length ≤ 1000000) (q : Q (.str (S w')) H) : rSlA K (.str (S w)) lo hi H Q := .inr ⟨S w, rfl, by rw [S_len, sizeLine_eq]; omega, by rw [e]; exact q⟩
theorem r_slL {a : Addr} {xs xs' : List V} {lo hi : Option Int} (h : SqL K H a xs) (e : cutV xs lo hi = xs') (q : ∀ p, H p = none → Q (.ref p) (upd H p (.lst xs'))) : rSlA K (.ref a) lo hi H Q := .inl ⟨a, xs, rfl, h, by rw [e]; exact q⟩
theorem r_ixS {w : List Nat} {n : Int} {c : Nat} (hl : w.length ≤ 1000000) (h : atI w n = some c) (q : Q (.str (S [c])) H) : rIx K (.str (S w)) (.int n) H Q := .inr (.inr ⟨S w, n, c, rfl, rfl, by rw [S_len, sizeLine_eq]; omega, by rw [toList_S]; exact h, q⟩)
theorem r_ixL {a : Addr} {xs : List V} {n : Int} {v : V} (h : SqL K H a xs) (e : atI xs n = some v) (q : Q v H) : rIx K (.ref a) (.int n) H Q := .inl ⟨a, xs, n, v, rfl, rfl, h, e, q⟩
theorem r_ixT {a : Addr} {xs : List V} {n : Int} {v : V} (h : SqT K H a xs) (e : atI xs n = some v) (q : Q v H) : rIx K (.ref a) (.int n) H Q := .inr (.inl ⟨a, xs, n, v, rfl, rfl, h, e, q⟩)
theorem r_bm0 {T : String} {rm : V → List V → Hp → VK → Prop} (q : te σ H fun x H1 => tyV K T x H1 ∧ rm x [] H1 Q) : tBM0 K T rm te σ H Q := q
theorem r_bm {T : String} {rm : V → List V → Hp → VK → Prop} (q : te σ H fun x H1 => tyV K T x H1 ∧ tr σ H1 fun xs H2 => rm x xs H2 Q) : tBM K T rm te tr σ H Q := q
theorem r_tyL {a : Addr} {xs : List V} {A : Prop} (h : SqL K H a xs) (q : A) : tyV K "list" (.ref a) H ∧ A := ⟨.inl ⟨rfl, _, h⟩, q⟩
theorem r_tyS {z : Str} {A : Prop} (q : A) : tyV K "str" (.str z) H ∧ A := ⟨rfl, q⟩
theorem r_dnew (q : ∀ p, H p = none → Q (.ref p) (upd H p (.dK []))) : tDNewK σ H Q := q
theorem r_isi (q : te σ H fun x H1 => tr σ H1 fun xs H2 => rIsiE K (x :: xs) H2 Q) : tCB (rIsiE K) (tCons te tr) σ H Q := q
theorem r_lenS {w : List Nat} (hl : w.length ≤ 1000000) (q : Q (.int (w.length : Nat)) H) : ∃ x n, [V.str (S w)] = [x] ∧ LenV K x H n ∧ Q (.int (n : Nat)) H := ⟨_, w.length, rfl, ⟨by rw [S_len, sizeLine_eq]; omega, (S_len w).symm⟩, q⟩
theorem r_lenL {a : Addr} {xs : List V} (h : SqL K H a xs) (q : Q (.int (xs.length : Nat)) H) : ∃ x n, [V.ref a] = [x] ∧ LenV K x H n ∧ Q (.int (n : Nat)) H := ⟨_, xs.length, rfl, .inl ⟨xs, h, rfl⟩, q⟩
theorem r_lenT {a : Addr} {xs : List V} (h : SqT K H a xs) (q : Q (.int (xs.length : Nat)) H) : ∃ x n, [V.ref a] = [x] ∧ LenV K x H n ∧ Q (.int (n : Nat)) H := ⟨_, xs.length, rfl, .inr ⟨xs, h, rfl⟩, q⟩
/-! ### statements -/
theorem r_seq (q : t { D with nx := u D } σ H) : tSeq t u D σ H := q
theorem r_next (q : D.nx σ H) : tNext D σ H := q
theorem r_brk (q : D.bk σ H) : tBreak D σ H := q
theorem r_cont (q : D.ct σ H) : tCont D σ H := q
theorem r_asg (q : te σ H fun x H1 => g x σ H1 D.nx) : tAsg te g D σ H := q
theorem r_gname {QS : L2.St → Hp → Prop} (q : QS (σ.set i (some v)) H) : gName i v σ H QS := q
theorem r_ret (q : te σ H D.rt) : tRet te D σ H := q
theorem r_retN (q : D.rt .non H) : tRetN D σ H := q
theorem r_drop (q : te σ H fun _ H1 => D.nx σ H1) : tDrop te D σ H := q
theorem r_ifs {c : TT} (q : c σ H fun b H1 => if b = true then t D σ H1 else u D σ H1) : tIfS c t u D σ H := q
theorem r_fld (q : tv σ H fun y H1 => ta σ H1 fun x H2 => ∃ a C dx fs, x = .ref a ∧ H2 a = some (.ins C dx fs) ∧ Cls K C ∧ NoAttr K C f ∧ fs.length < 1000 ∧ D.nx σ (upd H2 a (.ins C dx (putF f y fs)))) : sFld K ta tv f D σ H := q
theorem r_gsub {to ti : TE} {ts : TSet} {QS : L2.St → Hp → Prop} (q : to σ H fun o H1 => ti σ H1 fun i H2 => ts o i v H2 fun H3 => QS σ H3) : gSub to ti ts v σ H QS := q
end
/-! ### the stepper: k_step "go" -/
local macro_rules | `(tactic| walk_at "one") => `(tactic| with_reducible (first
  | refine r_seq ?_ | refine r_asg ?_ | refine r_gname ?_ | refine r_ret ?_ | refine r_drop ?_ | refine r_ifs ?_ | refine r_next ?_ | refine r_retN ?_ | refine r_fld ?_ | refine r_gsub ?_ | refine r_brk ?_ | refine r_cont ?_
  | refine r_var rfl ?_ | refine r_c ?_ | refine r_op ?_ | refine r_un ?_ | refine r_test ?_ | refine r_tB ?_ | refine r_bl ?_ | refine r_blv ?_
  | refine r_cons ?_ | refine r_nil ?_ | refine r_cb ?_ | refine r_call ?_ | refine r_callS ?_ | refine r_tup ?_ | refine r_lst ?_ | refine r_make ?_ | refine r_attr ?_
  | refine r_sl ?_ | refine r_nopart ?_ | refine r_part ?_ | refine r_parti ?_ | refine r_bm0 ?_ | refine r_bm ?_ | refine r_dnew ?_
  | refine r_and ?_ | refine r_or ?_ | refine r_not ?_ | refine r_andV ?_ | refine r_orV ?_ | refine r_notV ?_ | refine r_if ?_ | refine r_ift ?_ | refine r_iff ?_
  | refine r_I0 ?_ | refine r_U ?_ | refine r_addI ?_ | refine r_eqI ?_ | refine r_neI ?_ | refine r_eqS ?_ | refine r_neS ?_ | refine r_eqB ?_ | refine r_neB ?_ | refine r_inS ?_ | refine r_niS ?_))
end Cs

set_option Elab.async false
set_option linter.all false
set_option maxRecDepth 100000
set_option maxHeartbeats 4000000
/-! LayC: rules that the layer lacks: enumerate of a text, text times int, swapcase, calls by keywords alone. -/
namespace Cs
open PySem PySem.Spec PyProof.Rows L2
section
variable {X : Cx}
theorem mt_swapcase : MtR X "str.swapcase" (fun x xs H Q => ∃ a, x = .str a ∧ xs = [] ∧ a.length ≤ 5592405 ∧ Q (.str (Txt.swapcase a)) H) :=
  mt0 (C := fun a => a.length ≤ 5592405) (g := fun a => .str (Txt.swapcase a)) fun a _ s _ hc h =>
    SCL.swapcase hc (fun _ => h _ (s.toks + 1) ⟨_, rfl⟩)
theorem mt_isupper : MtR X "str.isupper" (fun x xs H Q => ∃ a, x = .str a ∧ xs = [] ∧ True ∧ Q (.bl (Txt.isupper a)) H) :=
  mt0 (C := fun _ => True) (g := fun a => .bl (Txt.isupper a)) fun _ _ s _ _ h => PySem.SC.isupper (h _ s.toks rfl)
/-- text * n -/
def rRepS : R2 := fun x y H Q => ∃ (w : List Nat) (n : Nat), x = .str (S w) ∧ y = .int (n : Nat) ∧ w.length ≤ 1000 ∧ n ≤ 10000 ∧ Q (.str (S (List.replicate n w).flatten)) H
theorem foldl_arr (w : Array Nat) : ∀ (n : Nat) (acc : Array Nat), (List.replicate n w).foldl (· ++ ·) acc = acc ++ ((List.replicate n w.toList).flatten).toArray
  | 0, acc => by simp
  | n + 1, acc => by
    rw [List.replicate_succ, List.foldl_cons, foldl_arr w n, List.replicate_succ, List.flatten_cons]
    apply Array.ext'
    simp
theorem rep_len (w : List Nat) (n : Nat) : ((List.replicate n w).flatten).length = n * w.length := by
  induction n with
  | zero => simp
  | succ n ih => rw [List.replicate_succ, List.flatten_cons, List.length_append, ih, Nat.succ_mul, Nat.add_comm]
theorem op_repS : OpR X (binaryOp .Mult) rRepS := by
  intro pins s σ H x y v u Q I rx ry h
  obtain ⟨w, n, rfl, rfl, hw, hn, q⟩ := h
  obtain ⟨t, rfl⟩ := rx
  obtain ⟨t', rfl⟩ := ry
  have hm : w.length * n ≤ 1000 * 10000 := Nat.mul_le_mul hw hn
  have hp : (1 : Int) ≤ (n : Int) ∨ (n : Int) < 1 := by omega
  refine PySem.P.mul_str ?_ (fun h1 _ => ?_) (fun h1 _ => ?_) ?_
  · rw [decide_eq_false (by omega), decide_eq_false (by omega)]; rfl
  · rw [S_len]
    have h2 : (0 : Int) < (n : Int) := by omega
    have h3 : ((w.length : Int)) * (n : Int) ≤ 2 ^ 63 - 1 := by
      have : ((w.length * n : Nat) : Int) ≤ 10000000 := by omega
      rw [Int.natCast_mul] at this
      omega
    have h4 : (w.length : Int) ≤ (2 ^ 63 - 1) / (n : Int) := Int.le_ediv_of_mul_le h2 h3
    omega
  · rw [S_len]
    exact short24 (by rw [Int.toNat_natCast]; omega)
  · have fin : ∀ {z : Str}, z = S (List.replicate n w).flatten → (Made.str z).post (EP X pins σ Q) s := fun {z} e => by
      refine ⟨?_, ?_⟩
      · rw [e]
        rw [S_len, rep_len, sizeLine_eq, Nat.mul_comm]
        omega
      · exact ⟨.str z, H, I.tok _, ⟨_, rfl⟩, by rw [e]; exact q⟩
    split
    · rename_i h1
      have e : n = 0 := by omega
      subst e
      exact fin rfl
    · split
      · rename_i h1 h2
        have e : S w = S (List.replicate n w).flatten := by
          simp only [Bool.or_eq_true, beq_iff_eq] at h2
          rcases h2 with h2 | h2
          · have : n = 1 := by omega
            subst this
            simp
          · rw [S_len] at h2
            have : w = [] := List.eq_nil_of_length_eq_zero h2
            subst this
            rw [S_inj]
            refine (List.eq_nil_of_length_eq_zero ?_).symm
            rw [rep_len]; simp
        exact ⟨.str (S w), H, I, ⟨_, rfl⟩, by rw [← e] at q; exact q⟩
      · refine fin ?_
        rw [Int.toNat_natCast, foldl_arr]
        simp [S]
end

/-! ### enumerate of a text -/
def Ites (x : Str) : It :=
  ⟨fun i _ => i < x.cps.size, fun i H v H' => ∃ T c, v = .ref T ∧ H T = none ∧ H' = upd H T (.tup [.int (i : Nat), .str ⟨#[c]⟩]) ∧ x.cps[i]? = some c, fun i _ => x.cps.size ≤ i⟩
theorem turn_enumS {P : Program} {w : World} {K : PySem.W.Frag} {elts : List Expr} {kk : Nat} {tpos : Pos} (x : Str) (t : Tok) (e it : Addr) :
    Turn P w K (.Tuple elts kk tpos) (Ites x) [e, it] e (fun i h => (∃ old, IsEnum h e it ((i : Nat) : Int) old) ∧ h.IsStrIter it (strIterType x) x t i ∧ e ≠ it) where
  mem := by simp
  obj := fun i h st b hb => by
    obtain ⟨⟨old, he⟩, ⟨o, ho, hc, hd⟩, _⟩ := st
    have e' : b = e ∨ b = it := by simpa using hb
    rcases e' with z | z
    · rw [z]; exact ⟨_, he, fun v q => nomatch q⟩
    · rw [z]; exact ⟨o, ho, fun v q => by rw [hd] at q; cases q⟩
  keep := fun i h h' st k => let ⟨⟨old, he⟩, ⟨o, ho, r⟩, hne⟩ := st; ⟨⟨old, k e (by simp) _ he⟩, ⟨o, k it (by simp) o ho, r⟩, hne⟩
  item := by
    intro X hP hw hK hc i pins s σ H E I hf st hg
    subst hP hw hK
    obtain ⟨⟨old, he⟩, hit, hne⟩ := st
    have hel : e < s.heap.objs.size := Heap.lt_size he
    have hil : it < s.heap.objs.size := by obtain ⟨_, q, _⟩ := hit; exact Heap.lt_size q
    have D : Draws X.prog X.w X.A.in1 it [it] x.cps.size (fun i v => ∃ c u, x.cps[i]? = some c ∧ v = .str ⟨#[c]⟩ u) (fun i h => h.IsStrIter it (strIterType x) x t i) := by
      cases ha : x.cps.all (· < 128)
      · have e : strIterType x = "str_iterator" := by simp [strIterType, ha]
        rw [e]; exact Draws.strWide (A := X.A.in1) (I.ok.hd hc) it x t
      · have e : strIterType x = "str_ascii_iterator" := by simp [strIterType, ha]
        rw [e]; exact Draws.strAscii (A := X.A.in1) (I.ok.hd hc) it x t
    refine wpAny_pyNext_enum_itemD D he hit hg hne (fun z => hne (by simpa using z)) fun u h' tk hP ho hit' hT hsz hk => ?_
    obtain ⟨c, uu, hcx, rfl⟩ := hP
    refine ⟨_, rfl, wpAny_letOwnedTupleGo_enum (s := { s with heap := h', toks := tk + 1 }) ho fun h'' he' sb => ?_⟩
    have hT2 : h''.get? s.heap.objs.size = some { cls := .type "tuple", data := .seq #[.int i tk, .str ⟨#[c]⟩ uu] } := (sb.2 _ (Nat.ne_of_gt hel)).trans hT
    have new : ObjOk X.prog X.w (upd H s.heap.objs.size (.tup [.int (i : Nat), .str ⟨#[c]⟩])) h'' s.heap.objs.size (.tup [.int (i : Nat), .str ⟨#[c]⟩]) :=
      ⟨by show 2 ≤ sizeLine; decide, [.int i tk, .str ⟨#[c]⟩ uu], .cons ⟨_, rfl⟩ (.cons ⟨_, rfl⟩ .nil), ⟨_, hT2, rfl, _, rfl⟩⟩
    have I1 : Inv X pins σ (upd H s.heap.objs.size (.tup [.int (i : Nat), .str ⟨#[c]⟩])) { s with heap := h'', toks := tk + 1 } :=
      I.turnedNew (ch := [e, it]) (fun b ob hb q => (sb.2 b (fun z => hb (by simp [z]))).trans (hk b ob (fun z => hb (by simp [z])) (fun z => hb (by simp [z])) q)) hf (Nat.le_refl _) new
    refine ⟨.ref s.heap.objs.size, _, I1, rfl, ⟨_, c, rfl, I.hok.fresh (Nat.le_refl _), rfl, hcx⟩, ⟨⟨.str ⟨#[c]⟩ uu, ?_⟩, ?_, hne⟩, fun b hb => ?_⟩
    · have e1 : ((i + 1 : Nat) : Int) = (i : Int) + 1 := by omega
      rw [e1]; exact he'
    · obtain ⟨o, q, r⟩ := hit'
      exact ⟨o, (sb.2 it (Ne.symm hne)).trans q, r⟩
    · have hb' : b < s.heap.objs.size := by
        have e' : b = e ∨ b = it := by simpa using hb
        rcases e' with z | z
        · rw [z]; exact hel
        · rw [z]; exact hil
      rw [upd_ne (Nat.ne_of_lt hb')]
      exact (hf b hb).1
  done := by
    intro X hP hw hK hc i pins s σ H E I hf st hg
    subst hP hw hK
    obtain ⟨⟨old, he⟩, hit, hne⟩ := st
    obtain ⟨f0, f1, f2, f3, f4, f5⟩ := hf it (by simp)
    have hx : x.cps[i]? = none := Array.getElem?_eq_none hg
    have hT : s.TypeIs (.ref e) "enumerate" := ⟨_, he, rfl⟩
    have fin : ∀ (Q : Value → Shared → Prop) (E : Value → Shared → Prop), (∀ h' u, Heap.ExtBut it s.heap h' → (∃ o, h'.get? u = some o ∧ o.cls = .type "StopIteration") → E (.ref u) { s with heap := h' }) →
        wpAny (model X.prog X.w) X.A.in1 (Builtin.SmallTypes.nextOf (.ref it)) Q E s := fun Q E hE => by
      cases ha : x.cps.all (· < 128)
      · have q : strIterType x = "str_iterator" := by simp [strIterType, ha]
        rw [q] at hit; exact wpAny_nextOf_wide_end (I.ok.hd hc) hit hx hE
      · have q : strIterType x = "str_ascii_iterator" := by simp [strIterType, ha]
        rw [q] at hit; exact wpAny_nextOf_ascii_end (I.ok.hd hc) hit hx hE
    unfold pyNext
    refine wpAny_bind (wpAny_attempt (wpAny_callSpecial?_slot (name := Str.ofString "__next__") hT F.slot_enumerate_next
      (wpAny_call_entry F.slot_enumerate_next hT F.entry_enumerate_next ?_ (F.args_enumerate_next_1 _))))
    show wpAny _ _ (field (.ref e) 2 >>= _) _ _ _
    refine wpAny_bind (wpAny_field he rfl (x := .ref it) rfl ?_)
    refine wpAny_bind (fin _ _ fun h' u eb hx' => ?_)
    obtain ⟨o, ho, hcl⟩ := hx'
    refine wpAny_bind (wpAny_isInstance (T := "StopIteration") (b := true) ⟨o, ho, hcl⟩ isSubtype_stop ?_)
    exact wpAny_pure ⟨rfl, I.turned (t' := s.toks) (fun b o hb q => eb b o hb q) f0 f1 f3 f4 f5⟩
  self := fun A i s Q E st h => let ⟨⟨_, he⟩, _⟩ := st; wpAny_pyIter_enum he h
def iEnumS (ta : TA) : TI := fun σ H R => ta σ H fun vs H1 => ∃ x, vs = [.str x] ∧ R (Ites x) H1
theorem pi_enumS {X : Cx} {e : Expr} {ta : TA} {p pos tpos : Pos} {elts : List Expr} {kk : Nat} (hg : Gl X "enumerate") (hm : X.mg "enumerate" = none) (ha : PA X [e] ta) (hs : starEach [e] X.env = [(false, eval e X.env)] := by rfl) :
    PI X (.Tuple elts kk tpos) (.Call (.Name "enumerate" p) [e] [] pos) (iEnumS ta) := by
  refine ⟨fun pins s σ H R I h => ?_⟩
  refine Call_ (ld_blt I hg hm boot_enumerate (PyProof.Rows.callWith_type1 (thn (ha.run pos pins s σ H _ I h) fun us s1 ⟨vs, H1, I1, r1, q1⟩ => ?_) hs rfl))
  obtain ⟨x, ex, q⟩ := q1
  subst ex
  cases r1 with
  | cons r rr =>
    cases rr
    obtain ⟨t, rfl⟩ := r
    refine call_enumerate_str fun h' he hit hsz hk => wpAny_pyIter_enum he ?_
    have I2 : Inv X pins σ H1 { s1 with heap := h' } := I1.kept (t' := s1.toks) hk
    refine ⟨s1.heap.objs.size + 1, [s1.heap.objs.size + 1, s1.heap.objs.size], _, _, H1, rfl, I2, turn_enumS x t (s1.heap.objs.size + 1) s1.heap.objs.size, ⟨⟨.none, he⟩, hit, Nat.succ_ne_self _⟩, fun b hb => ?_, q⟩
    have e' : b = s1.heap.objs.size + 1 ∨ b = s1.heap.objs.size := by simpa using hb
    have hle : s1.heap.objs.size ≤ b := by
      rcases e' with z | z
      · rw [z]; exact Nat.le_add_right _ _
      · rw [z]; exact Nat.le_refl _
    exact I1.fpOk hle (I1.hok.fresh hle)
theorem walk_enumS {w : List Nat} : Walk (Ites (S w)) w.length (fun _ => True) (YPair (fun i => some (.int (i : Nat))) (fun i => w[i]?.map fun c => V.str (S [c]))) := by
  refine ⟨fun i H hi _ => by show i < (S w).cps.size; simpa using hi, fun H _ => by show (S w).cps.size ≤ w.length; simp, fun i H v H' hi _ y => ?_⟩
  obtain ⟨T, c, h1, h2, h3, h4⟩ := y
  have h5 : w[i]? = some c := by simpa using h4
  exact ⟨T, _, _, h1, h2, h3, rfl, by show (w[i]?).map _ = _; rw [h5]; rfl⟩
theorem walk_S {w : List Nat} : Walk (Its (S w)) w.length (fun _ => True) (YAt (w.map fun c => V.str (S [c]))) := by
  refine ⟨fun i H hi _ => by show i < (S w).cps.size; simpa using hi, fun H _ => by show (S w).cps.size ≤ w.length; simp, fun i H v H' hi _ y => ?_⟩
  obtain ⟨h1, c, h2, h3⟩ := y
  have h5 : w[i]? = some c := by simpa using h2
  exact ⟨h1, by rw [List.getElem?_map, h5, h3]; rfl⟩

/-! ### f(k = v, ..) -/
section
variable {X : Cx} {CX : CXT} {k : Nat} {f : Addr} {fd : FuncData} {ps ks : List Str} {sp : Sp} {E : XK} {x : Str} {p pos : Pos} {kws : List Keyword} {tk : TA} {g : List Value → List Value → List Value} {gV : List V → List V → List V}
theorem pe_callK0 (F : FnOk X.prog X.w X.K X.mg X.base CX k f fd ps sp) (hr : Room k X.A) (hg : Gl X x) (hm : X.mg x = some (.ref f)) (hk : PySem.W.keepIn X.K (.ref f) = true) (hb : KBinds X.K fd ps ks g gV) (hx : Passes CX X E)
    (hkw : PK X kws tk) (hall : (backToKw pos (keywordEach kws X.env)).all (·.1.isSome) = true := by rfl) (hks : (backToKw pos (keywordEach kws X.env)).filterMap (·.1) = ks := by rfl)
    (hdb : (x == ("__debug__" : Str)) = false := by decide)
    (hpl : ((backTo pos (starEach [] X.env)).any (·.1) || (backToKw pos (keywordEach kws X.env)).any (·.1.isNone)) = false := by rfl) :
    PE X (.Call (.Name x p) [] kws pos) (tCallK sp gV E tNil tk) := by
  refine ⟨fun pins s σ H Q I h => ?_⟩
  refine wpAny_Call_Name_kw (ld_glob I hg hm ?_ hdb)
  refine PySem.W.callWith_KW0 (h₀ := X.base) I.ok.mod.kin hk hall ?_ hpl
  refine thn (hkw.run pos pins s σ H _ I h) fun ws s2 ⟨zs, H2, I2, rz, q2⟩ => ⟨I2.kIn, ?_⟩
  rw [hks]
  exact run_fnk (us := []) (vs := []) F hr hb hx I2 .nil rz q2
end
end Cs

set_option Elab.async false
set_option linter.all false
set_option maxRecDepth 100000
set_option maxHeartbeats 4000000
/-! LayD: more readings: numbers, nested data, kinds of values, Word objects. -/
namespace Cs
open PySem PySem.Spec PyProof.Rows L2
section
variable {X : Cx} {x : Str} {pos : Pos}
theorem pe_gI {n : Int} (hg : Gl X x) (h : ∃ t, X.mg x = some (.int n t)) (hd : (x == ("__debug__" : Str)) = false := by decide) : PE X (.Name x pos) (tC (.int n)) := by
  obtain ⟨t, h⟩ := h
  exact pe_glob hg h ⟨t, rfl⟩ hd
theorem pe_gS {z : Str} (hg : Gl X x) (h : ∃ t, X.mg x = some (.str z t)) (hd : (x == ("__debug__" : Str)) = false := by decide) : PE X (.Name x pos) (tC (.str z)) := by
  obtain ⟨t, h⟩ := h
  exact pe_glob hg h ⟨t, rfl⟩ hd
/-- int * int, text * int -/
def rMulA : R2 := fun a b H Q => rI CMulW (fun i j => .int (i * j)) a b H Q ∨ rRepS a b H Q
theorem op_mulA : OpR X (binaryOp .Mult) rMulA := op_mulW.or op_repS
end
/-- C(vs) -/
def rMake (C : Addr) (sp : Sp) (E : XK) (vs : List V) (H1 : Hp) (Q : VK) : Prop := ∀ x dx, H1 x = none → H1 dx = none → dx ≠ x → sp (.ref x :: vs) (upd (upd H1 dx (.own x)) x (.ins C dx [])) (fun v H2 => v = .non ∧ Q (.ref x) H2) E
/-! ### the layer's rules, their readings by name -/
def rLenB (K : PySem.W.Frag) : List V → Hp → VK → Prop := fun xs H Q => ∃ x n, xs = [x] ∧ LenV K x H n ∧ Q (.int (n : Nat)) H
def rInt1 : List V → Hp → VK → Prop := fun xs H Q => (∃ i, xs = [.int i] ∧ Q (.int i) H) ∨ ∃ k, xs = [.bl k] ∧ Q (.int (if k then 1 else 0)) H
def rAbsB : List V → Hp → VK → Prop := fun xs H Q => ∃ i, xs = [.int i] ∧ Q (.int (if i < 0 then -i else i)) H
def rListOf (K : PySem.W.Frag) : List V → Hp → VK → Prop := fun xs H Q => ∃ p ys, xs = [.ref p] ∧ (SqL K H p ys ∨ SqT K H p ys) ∧ ∀ l, H l = none → Q (.ref l) (upd H l (.lst ys))
def rTupOf (K : PySem.W.Frag) : List V → Hp → VK → Prop := fun xs H Q => ∃ p ys, xs = [.ref p] ∧ ((SqL K H p ys ∧ ∀ l, H l = none → Q (.ref l) (upd H l (.tup ys))) ∨ (SqT K H p ys ∧ Q (.ref p) H))
def rIsNo : R2 := fun x y H Q => y = .non ∧ Q (.bl (decide (x = .non))) H
def rNotNo : R2 := fun x y H Q => y = .non ∧ Q (.bl (!decide (x = .non))) H
def rSwap : V → List V → Hp → VK → Prop := fun x xs H Q => ∃ a, x = .str a ∧ xs = [] ∧ a.length ≤ 5592405 ∧ Q (.str (Txt.swapcase a)) H
def rLower : V → List V → Hp → VK → Prop := fun x xs H Q => ∃ a, x = .str a ∧ xs = [] ∧ a.length ≤ 5592405 ∧ Q (.str (Txt.lower a)) H
def rUpper : V → List V → Hp → VK → Prop := fun x xs H Q => ∃ a, x = .str a ∧ xs = [] ∧ a.length ≤ 5592405 ∧ Q (.str (Txt.upper a)) H
def rIsup : V → List V → Hp → VK → Prop := fun x xs H Q => ∃ a, x = .str a ∧ xs = [] ∧ True ∧ Q (.bl (Txt.isupper a)) H
section
variable {X : Cx}
theorem call_lenB {K : PySem.W.Frag} (h : X.K = K := by rfl) : CallR X (.builtin "len") (rLenB K) := by subst h; exact call_len
theorem call_intB : CallR X (.type "int") rInt1 := call_int1
theorem call_absB : CallR X (.builtin "abs") rAbsB := call_abs
theorem call_listB {K : PySem.W.Frag} (h : X.K = K := by rfl) : CallR X (.type "list") (rListOf K) := by subst h; exact call_list_of
theorem call_tupleB {K : PySem.W.Frag} (h : X.K = K := by rfl) : CallR X (.type "tuple") (rTupOf K) := by subst h; exact call_tuple_of
theorem call_allB {K : PySem.W.Frag} (hc : X.calm = true) (h : X.K = K := by rfl) : CallR X (.builtin "all") (rAll K) := by subst h; exact cr_all hc
theorem call_anyB {K : PySem.W.Frag} (hc : X.calm = true) (h : X.K = K := by rfl) : CallR X (.builtin "any") (rAny K) := by subst h; exact cr_any hc
theorem op_isNo : OpR X (compareOp .Is) rIsNo := op_isN
theorem op_notNo : OpR X (compareOp .IsNot) rNotNo := op_notN
theorem mb_swapcase : MtR X "str.swapcase" rSwap := mt_swapcase
theorem mb_lower : MtR X "str.lower" rLower := mt_lower
theorem mb_upper : MtR X "str.upper" rUpper := mt_upper
theorem mb_isupper : MtR X "str.isupper" rIsup := mt_isupper
end
/-- keywords: the callee with its binding -/
structure CalK (P : Program) (w : World) (K : PySem.W.Frag) (mg : Str → Option Value) (base : Heap) (CXc : CXT) (k : Nat) (x : Str) (ks : List Str) (gV : List V → List V → List V) (sp : Sp) : Prop where
  ex : ∃ (f : Addr) (fd : FuncData) (ps : List Str) (g : List Value → List Value → List Value), FnOk P w K mg base CXc k f fd ps sp ∧ mg x = some (.ref f) ∧ PySem.W.keepIn K (.ref f) = true ∧ KBinds K fd ps ks g gV
section
variable {X : Cx} {CXc : CXT} {k j : Nat} {x : Str} {sp : Sp} {p pos : Pos} {e : Expr} {es : List Expr} {t tk : TA} {E : XK} {kws : List Keyword} {ks : List Str} {gV : List V → List V → List V}
theorem pe_cK0 (c : CalK X.prog X.w X.K X.mg X.base CXc k x ks gV sp) (hr : Room j X.A) (hk : k ≤ j) (hx : Passes CXc X E) (hkw : PK X kws tk) (hg : Gl X x := by rfl)
    (hall : (backToKw pos (keywordEach kws X.env)).all (·.1.isSome) = true := by rfl) (hks : (backToKw pos (keywordEach kws X.env)).filterMap (·.1) = ks := by rfl)
    (hdb : (x == ("__debug__" : Str)) = false := by decide) (hpl : ((backTo pos (starEach [] X.env)).any (·.1) || (backToKw pos (keywordEach kws X.env)).any (·.1.isNone)) = false := by rfl) :
    PE X (.Call (.Name x p) [] kws pos) (tCallK sp gV E tNil tk) := by
  obtain ⟨f, fd, ps, g, F, hm, kp, b⟩ := c.ex
  exact pe_callK0 F (hr.mono hk) hg hm kp b hx hkw hall hks hdb hpl
theorem pe_cK (c : CalK X.prog X.w X.K X.mg X.base CXc k x ks gV sp) (hr : Room j X.A) (hk : k ≤ j) (hx : Passes CXc X E) (ha : PA X (e :: es) t) (hkw : PK X kws tk) (hg : Gl X x := by rfl)
    (hall : (backToKw pos (keywordEach kws X.env)).all (·.1.isSome) = true := by rfl) (hks : (backToKw pos (keywordEach kws X.env)).filterMap (·.1) = ks := by rfl)
    (hdb : (x == ("__debug__" : Str)) = false := by decide) (he : starEach (e :: es) X.env = (false, eval e X.env) :: starEach es X.env := by rfl)
    (hpl : ((backTo pos (starEach (e :: es) X.env)).any (·.1) || (backToKw pos (keywordEach kws X.env)).any (·.1.isNone)) = false := by rfl) :
    PE X (.Call (.Name x p) (e :: es) kws pos) (tCallK sp gV E t tk) := by
  obtain ⟨f, fd, ps, g, F, hm, kp, b⟩ := c.ex
  exact pe_callK F (hr.mono hk) hg hm kp b hx ha hkw hall hks hdb he hpl
end
section
variable {K : PySem.W.Frag} {σ : L2.St} {H : Hp} {Q : VK} {QT : Bool → Hp → Prop} {ta tb tc : TE} {tr tk : TA} {x y : V}
theorem r_mulI {a b : Int} (c : CMulW a b) (q : Q (.int (a * b)) H) : rMulA (.int a) (.int b) H Q := .inl ⟨a, b, rfl, rfl, c, q⟩
theorem r_mulS {w : List Nat} {n : Nat} (hw : w.length ≤ 1000) (hn : n ≤ 10000) (q : Q (.str (S (List.replicate n w).flatten)) H) : rMulA (.str (S w)) (.int (n : Nat)) H Q := .inr ⟨w, n, rfl, rfl, hw, hn, q⟩
theorem r_callK {sp : Sp} {gV : List V → List V → List V} {E : XK} (q : tr σ H fun vs H1 => tk σ H1 fun zs H2 => sp (gV vs zs) H2 Q E) : tCallK sp gV E tr tk σ H Q := q
theorem r_up2 {p : Addr} {a b : V} {n i j : Nat} {QS : L2.St → Hp → Prop} (h : SqT K H p [a, b]) (hn : n = 2) (q : QS ((σ.set i (some a)).set j (some b)) H) : gTup K n (gCons (gName i) (gCons (gName j) gNil)) (.ref p) σ H QS :=
  ⟨p, _, rfl, h, hn.symm, a, [b], rfl, b, [], rfl, rfl, q⟩
theorem r_upl2 {p : Addr} {a b : V} {n i j : Nat} {QS : L2.St → Hp → Prop} (h : SqL K H p [a, b]) (hn : n = 2) (q : QS ((σ.set i (some a)).set j (some b)) H) : gUnl K n (gCons (gName i) (gCons (gName j) gNil)) (.ref p) σ H QS :=
  ⟨p, _, rfl, h, hn.symm, a, [b], rfl, b, [], rfl, rfl, q⟩
/-- for at, sign in enumerate(text) -/
theorem for_enumS {w : List Nat} {g : TG} {tb : TS} {De : Ends} (Pv : Nat → L2.St → Hp → Prop) (h0 : Pv 0 σ H)
    (hs : ∀ i c p σ H, w[i]? = some c → Pv i σ H → H p = none → g (.ref p) σ (upd H p (.tup [.int (i : Nat), .str (S [c])])) fun σ2 H2 => tb { De with nx := Pv (i + 1), ct := Pv (i + 1), bk := De.nx } σ2 H2) (hd : ∀ σ H, Pv w.length σ H → De.nx σ H) :
    ∃ W : Nat → Nat → L2.St → Hp → Prop, (∃ m, W 0 m σ H) ∧ ∀ i m σ H, W i m σ H →
      ((Ites (S w)).stop i H ∧ De.nx σ H) ∨ ((Ites (S w)).go i H ∧ ∃ N : L2.St → Hp → Prop, (∀ σ' H', N σ' H' → ∃ m', m' < m ∧ W (i + 1) m' σ' H') ∧ ∀ x H', (Ites (S w)).yld i H x H' → g x σ H' fun σ2 H2 => tb { De with nx := N, ct := N, bk := De.nx } σ2 H2) := by
  refine for_it walk_enumS Pv h0 (fun _ _ _ _ _ => trivial) ?_ hd
  rintro i y σ H H' hi hp ⟨p, y1, y2, rfl, hn, rfl, e1, e2⟩
  have hc : w[i]? = some w[i] := by simp [hi]
  cases e1
  have e3 : y2 = .str (S [w[i]]) := by
    have e4 : (w[i]?).map (fun c => V.str (S [c])) = some y2 := e2
    rw [hc] at e4
    exact (Option.some.inj e4).symm
  subst e3
  exact hs i w[i] p σ H hc hp hn
/-- for at, x in enumerate(list) -/
theorem for_enumL {a : Addr} {xs : List V} {g : TG} {tb : TS} {De : Ends} (Pv : Nat → L2.St → Hp → Prop) (h0 : Pv 0 σ H) (hG : ∀ i σ H, i ≤ xs.length → Pv i σ H → SqL K H a xs)
    (hs : ∀ i x p σ H, xs[i]? = some x → Pv i σ H → H p = none → g (.ref p) σ (upd H p (.tup [.int (i : Nat), x])) fun σ2 H2 => tb { De with nx := Pv (i + 1), ct := Pv (i + 1), bk := De.nx } σ2 H2) (hd : ∀ σ H, Pv xs.length σ H → De.nx σ H) :
    ∃ W : Nat → Nat → L2.St → Hp → Prop, (∃ m, W 0 m σ H) ∧ ∀ i m σ H, W i m σ H →
      ((Ite K a).stop i H ∧ De.nx σ H) ∨ ((Ite K a).go i H ∧ ∃ N : L2.St → Hp → Prop, (∀ σ' H', N σ' H' → ∃ m', m' < m ∧ W (i + 1) m' σ' H') ∧ ∀ x H', (Ite K a).yld i H x H' → g x σ H' fun σ2 H2 => tb { De with nx := N, ct := N, bk := De.nx } σ2 H2) := by
  refine for_it walk_enum Pv h0 hG ?_ hd
  rintro i y σ H H' hi hp ⟨p, y1, y2, rfl, hn, rfl, e1, e2⟩
  cases e1
  exact hs i y2 p σ H e2 hp hn
/-- for c in text -/
theorem for_S {w : List Nat} {g : TG} {tb : TS} {De : Ends} (Pv : Nat → L2.St → Hp → Prop) (h0 : Pv 0 σ H)
    (hs : ∀ i c σ H, w[i]? = some c → Pv i σ H → g (.str (S [c])) σ H fun σ2 H2 => tb { De with nx := Pv (i + 1), ct := Pv (i + 1), bk := De.nx } σ2 H2) (hd : ∀ σ H, Pv w.length σ H → De.nx σ H) :
    ∃ W : Nat → Nat → L2.St → Hp → Prop, (∃ m, W 0 m σ H) ∧ ∀ i m σ H, W i m σ H →
      ((Its (S w)).stop i H ∧ De.nx σ H) ∨ ((Its (S w)).go i H ∧ ∃ N : L2.St → Hp → Prop, (∀ σ' H', N σ' H' → ∃ m', m' < m ∧ W (i + 1) m' σ' H') ∧ ∀ x H', (Its (S w)).yld i H x H' → g x σ H' fun σ2 H2 => tb { De with nx := N, ct := N, bk := De.nx } σ2 H2) := by
  refine for_it walk_S Pv h0 (fun _ _ _ _ _ => trivial) ?_ hd
  rintro i y σ H H' hi hp ⟨rfl, e⟩
  have hc : w[i]? = some w[i] := by simp [hi]
  rw [List.getElem?_map, hc] at e
  cases e
  exact hs i w[i] σ _ hc hp
/-- [.. for c in text] -/
theorem lc_S {w : List Nat} {g : TG} {tt : TT} {te : TE} {vs : List Nat} {H1 : Hp} {Dl : Addr} {Qd : Hp → Prop} (Pv : Nat → Hp → Prop) (h0 : Pv 0 (upd H1 Dl (.lst [])))
    (hs : ∀ i c H, w[i]? = some c → Pv i H → g (.str (S [c])) (wipe σ vs) H fun σ2 H2 => wipe σ2 vs = wipe σ vs ∧ tt σ2 H2 fun b H3 =>
      if b = true then te σ2 H3 fun y H4 => ∃ acc, H4 Dl = some (.lst acc) ∧ acc.length < sizeLine ∧ Pv (i + 1) (upd H4 Dl (.lst (acc ++ [y]))) else Pv (i + 1) H3) (hd : ∀ H, Pv w.length H → Qd H) :
    ∃ W : Nat → Nat → Hp → Prop, (∃ m, W 0 m (upd H1 Dl (.lst []))) ∧ ∀ i m H, W i m H →
      ((Its (S w)).stop i H ∧ Qd H) ∨ ((Its (S w)).go i H ∧ ∃ Nx : Hp → Prop, (∀ H', Nx H' → ∃ m', m' < m ∧ W (i + 1) m' H') ∧ ∀ x H', (Its (S w)).yld i H x H' → g x (wipe σ vs) H' fun σ2 H2 => wipe σ2 vs = wipe σ vs ∧ tt σ2 H2 fun b H3 =>
        if b = true then te σ2 H3 fun y H4 => ∃ acc, H4 Dl = some (.lst acc) ∧ acc.length < sizeLine ∧ Nx (upd H4 Dl (.lst (acc ++ [y]))) else Nx H3) := by
  refine lc_it walk_S Pv h0 (fun _ _ _ _ => trivial) ?_ hd
  rintro i y H H' hi hp ⟨rfl, e⟩
  have hc : w[i]? = some w[i] := by simp [hi]
  rw [List.getElem?_map, hc] at e
  cases e
  exact hs i w[i] _ hc hp
theorem r_mkE {C : Addr} {ps : List Str} {QX : XK} (q : tr σ H fun vs H1 => vs.length = ps.length ∧ ∀ d, H1 d = none → QX (.ref C) (some d) (upd H1 d (.xd (ps.zip vs)))) : tMkE C ps tr σ H QX := q
theorem r_nx {f bk ct : L2.St → Hp → Prop} {rt : VK} (q : f σ H) : Ends.nx (Ends.mk f rt bk ct) σ H := q
theorem r_ct {f bk nx : L2.St → Hp → Prop} {rt : VK} (q : f σ H) : Ends.ct (Ends.mk nx rt bk f) σ H := q
theorem r_bk {f ct nx : L2.St → Hp → Prop} {rt : VK} (q : f σ H) : Ends.bk (Ends.mk nx rt f ct) σ H := q
theorem r_rt {f bk nx : L2.St → Hp → Prop} {rt : VK} (q : rt x H) : Ends.rt (Ends.mk nx rt bk f) x H := q
theorem r_call0 {sp : Sp} {E : XK} (q : tr σ H fun vs H1 => sp vs H1 Q E) : tCall sp [] E tr σ H Q := by
  unfold tCall
  simpa only [List.append_nil] using q
theorem r_make0 {C : Addr} {sp : Sp} {E : XK} (q : tr σ H fun vs H1 => rMake C sp E vs H1 Q) : tMake C sp [] E tr σ H Q := by
  unfold tMake
  unfold rMake at q
  simpa only [List.append_nil] using q
theorem r_iEnumS {R : It → Hp → Prop} (q : tr σ H fun vs H1 => ∃ x, vs = [.str x] ∧ R (Ites x) H1) : iEnumS tr σ H R := q
theorem r_iEnum {R : It → Hp → Prop} (q : tr σ H fun vs H1 => ∃ a xs, vs = [.ref a] ∧ SqL K H1 a xs ∧ R (Ite K a) H1) : iEnum K tr σ H R := q
theorem r_iStr {R : It → Hp → Prop} (q : ta σ H fun v H1 => ∃ x, v = .str x ∧ R (Its x) H1) : iStr ta σ H R := q
theorem r_iStrS {w : List Nat} {A : Str → Prop} (q : A (S w)) : ∃ x, V.str (S w) = .str x ∧ A x := ⟨_, rfl, q⟩
theorem r_iStrE {w : List Nat} {A : Str → Prop} (q : A (S w)) : ∃ x, [V.str (S w)] = [.str x] ∧ A x := ⟨_, rfl, q⟩
theorem r_iList {R : It → Hp → Prop} (q : ta σ H fun x H1 => ∃ a, x = .ref a ∧ (∃ xs, SqL K H1 a xs) ∧ R (Itl K a) H1) : iList K ta σ H R := q
theorem r_iRng {R : It → Hp → Prop} (q : tr σ H fun vs H1 => ∃ j : Int, vs = [.int j] ∧ -(2 ^ 62) ≤ j ∧ j < 2 ^ 62 ∧ R (Itr 0 j.toNat) H1) : iRng1 tr σ H R := q
theorem r_forE {wi : TI} {g : TG} {tb : TS} {De : Ends} (q : wi σ H fun J H1 => ∃ W : Nat → Nat → L2.St → Hp → Prop, (∃ m, W 0 m σ H1) ∧ ∀ i m σ H, W i m σ H →
      (J.stop i H ∧ De.nx σ H) ∨ (J.go i H ∧ ∃ N : L2.St → Hp → Prop, (∀ σ' H', N σ' H' → ∃ m', m' < m ∧ W (i + 1) m' σ' H') ∧ ∀ x H', J.yld i H x H' → g x σ H' fun σ2 H2 => tb { De with nx := N, ct := N, bk := De.nx } σ2 H2)) : tFor wi g tb De σ H := q
theorem r_chain {r r' : R2} (q : ta σ H fun x H1 => tb σ H1 fun y H2 => r x y H2 fun z H3 => ∃ k, z = .bl k ∧ (if k = true then tc σ H3 fun w' H4 => r' y w' H4 Q else Q (.bl false) H3)) : tChain r r' ta tb tc σ H Q := q
theorem r_mod {a b : Int} (h : 0 < b) (q : Q (.int (a % b)) H) : rI (fun _ j => 0 < j) (fun i j => .int (i % j)) (.int a) (.int b) H Q := ⟨a, b, rfl, rfl, h, q⟩
theorem r_fdiv {a b : Int} (h : 0 < b) (hb : b < 2 ^ 60) (q : Q (.int (a / b)) H) : rI CDivW (fun i j => .int (i / j)) (.int a) (.int b) H Q := ⟨a, b, rfl, rfl, wide_div (b := 60) h (by omega) (by decide) (by decide), q⟩
theorem r_pow {a b : Int} (h : 0 ≤ b ∧ b ≤ 1000) (ha : -(2 ^ 64) < a ∧ a < 2 ^ 64) (q : Q (.int (a ^ b.toNat)) H) : rI CPow (fun i j => .int (i ^ j.toNat)) (.int a) (.int b) H Q := ⟨a, b, rfl, rfl, ⟨h.1, by omega, by omega⟩, q⟩
theorem r_int1 {a : Int} (q : Q (.int a) H) : rInt1 [.int a] H Q := .inl ⟨a, rfl, q⟩
theorem q_lenS {w : List Nat} (hl : w.length ≤ 1000000) (q : Q (.int (w.length : Nat)) H) : rLenB K [.str (S w)] H Q := ⟨_, w.length, rfl, ⟨by rw [S_len, sizeLine_eq]; omega, (S_len w).symm⟩, q⟩
theorem q_lenL {a : Addr} {xs : List V} (h : SqL K H a xs) (q : Q (.int (xs.length : Nat)) H) : rLenB K [.ref a] H Q := ⟨_, xs.length, rfl, .inl ⟨xs, h, rfl⟩, q⟩
theorem q_lenT {a : Addr} {xs : List V} (h : SqT K H a xs) (q : Q (.int (xs.length : Nat)) H) : rLenB K [.ref a] H Q := ⟨_, xs.length, rfl, .inr ⟨xs, h, rfl⟩, q⟩
theorem q_listL {a : Addr} {xs : List V} (h : SqL K H a xs) (q : ∀ l, H l = none → Q (.ref l) (upd H l (.lst xs))) : rListOf K [.ref a] H Q := ⟨a, xs, rfl, .inl h, q⟩
theorem q_listT {a : Addr} {xs : List V} (h : SqT K H a xs) (q : ∀ l, H l = none → Q (.ref l) (upd H l (.lst xs))) : rListOf K [.ref a] H Q := ⟨a, xs, rfl, .inr h, q⟩
theorem q_tupL {a : Addr} {xs : List V} (h : SqL K H a xs) (q : ∀ l, H l = none → Q (.ref l) (upd H l (.tup xs))) : rTupOf K [.ref a] H Q := ⟨a, xs, rfl, .inl ⟨h, q⟩⟩
theorem q_swap {w : List Nat} (h : AllL w) (hl : w.length ≤ 1000000) (q : Q (.str (S (w.map und))) H) : rSwap (.str (S w)) [] H Q := ⟨S w, rfl, rfl, by rw [S_len]; omega, by rw [swapcase_S h]; exact q⟩
theorem q_lower {w : List Nat} (h : AllL w) (hl : w.length ≤ 1000000) (q : Q (.str (S (w.map low))) H) : rLower (.str (S w)) [] H Q := ⟨S w, rfl, rfl, by rw [S_len]; omega, by rw [lower_S h]; exact q⟩
theorem q_upper {w : List Nat} (h : AllL w) (hl : w.length ≤ 1000000) (q : Q (.str (S (w.map upp))) H) : rUpper (.str (S w)) [] H Q := ⟨S w, rfl, rfl, by rw [S_len]; omega, by rw [upper_S h]; exact q⟩
theorem q_isup {c : Nat} (h : isL c = true) (q : Q (.bl (decide (c < 97))) H) : rIsup (.str (S [c])) [] H Q := ⟨S [c], rfl, rfl, trivial, by rw [isupper_1 h]; exact q⟩
theorem r_abs {a : Int} (q : Q (.int (if a < 0 then -a else a)) H) : rAbsB [.int a] H Q := ⟨a, rfl, q⟩
theorem r_isN (q : Q (.bl (decide (x = .non))) H) : rIsNo x .non H Q := ⟨rfl, q⟩
theorem r_notN (q : Q (.bl (!decide (x = .non))) H) : rNotNo x .non H Q := ⟨rfl, q⟩
theorem wm {a b : Int} {n m : Nat} (ha : a.natAbs < 2 ^ n) (hb : b.natAbs < 2 ^ m) (h0 : 0 < n := by decide) (h1 : 0 < m := by decide) (h : n + m ≤ 1000000 := by decide) : CMulW a b := wide_mul ha hb h0 h1 h
/-! ### isinstance -/
/-- the value x is of a class whose isinstance of u is b -/
def IsK (K : PySem.W.Frag) (H : Hp) (x : V) (u : Value) (b : Bool) : Prop := (∃ t, TyX K H x t ∧ PySem.W.kitOne K t u = some b) ∨ (∃ (a C : Addr) (d : Option Addr), x = .ref a ∧ H a = some (EXV (.ref C) d a) ∧ (∀ dd, d = some dd → ∃ fs, H dd = some (.xd fs)) ∧ XiC K C ∧ PySem.W.kitOne K (.ref C) u = some b)
theorem r_isK {c : V} {u : Value} {b : Bool} (k : ClsV c u) (h : IsK K H x u b) (q : Q (.bl b) H) : rIsiE K [x, c] H Q := ⟨x, c, u, b, rfl, k, h, q⟩
theorem isK {t u : Value} {b : Bool} (h : TyX K H x t) (e : PySem.W.kitOne K t u = some b) : IsK K H x u b := .inl ⟨t, h, e⟩
theorem ty_int {n : Int} : TyX K H (.int n) (.type "int") := .base (.int n)
theorem ty_bl {n : Bool} : TyX K H (.bl n) (.type "bool") := .base (.bl n)
theorem ty_str {n : Str} : TyX K H (.str n) (.type "str") := .base (.str n)
theorem ty_non : TyX K H .non (.type "NoneType") := .base .non
theorem ty_lst {a : Addr} {xs : List V} (h : H a = some (.lst xs)) : TyX K H (.ref a) (.type "list") := .base (.lst h)
theorem ty_tup {a : Addr} {xs : List V} (h : H a = some (.tup xs)) : TyX K H (.ref a) (.type "tuple") := .base (.tup h)
theorem ty_dK {a : Addr} {xs : List (Key × V)} (h : H a = some (.dK xs)) : TyX K H (.ref a) (.type "dict") := .base (.dK h)
end
structure TyI (K : PySem.W.Frag) (C : Addr) : Prop where
  ha : PySem.W.findIn K (.ref C) "__class__" = some (some (.builtin "object.__class__"))
  hn : PySem.W.specialIn K (.builtin "object.__class__") "__get__" = some (some (.builtin "getset_descriptor.__get__"))
  htk : PySem.W.takesIn K (.builtin "object.__class__") = some true
  hm : PySem.W.mroIn K C (.type "object") = some true
theorem ty_ins {K : PySem.W.Frag} {H : Hp} {a C dx : Addr} {fs : List (Str × V)} (h : H a = some (.ins C dx fs)) (cl : Cls K C) (t : TyI K C) : TyX K H (.ref a) (.ref C) := .base (.ins h cl t.ha t.hn t.htk t.hm)
/-! ### nested data -/
section
variable {K : PySem.W.Frag} {H : Hp}
theorem dpI : ∀ (ns : List Int), DpAll K H (ns.map V.int) (ns.map PyData.int)
  | [] => .nil
  | n :: ns => .cons (.int n) (dpI ns)
theorem dpS : ∀ (ns : List (List Nat)), DpAll K H (ns.map fun w => V.str (S w)) (ns.map fun w => PyData.str (S w))
  | [] => .nil
  | n :: ns => .cons (.str _) (dpS ns)
/-- data that can be laid, of depth n at most -/
def Lay (n : Nat) (d : PyData) : Prop := d.canLay0 = true ∧ d.depth ≤ n
theorem lay_all {n : Nat} : ∀ {ds : List PyData}, (∀ d ∈ ds, Lay n d) → PyData.canLayAll0 ds = true ∧ PyData.depthAll ds ≤ n
  | [], _ => by simp [PyData.canLayAll0, PyData.depthAll]
  | d :: ds, h => by
    obtain ⟨h1, h2⟩ := lay_all fun e he => h e (List.mem_cons_of_mem _ he)
    obtain ⟨z1, z2⟩ := h d List.mem_cons_self
    simp only [PyData.canLayAll0, PyData.depthAll, h1, z1, Bool.and_self, true_and]
    omega
theorem lay_list {n : Nat} {ds : List PyData} (h : ∀ d ∈ ds, Lay n d) : Lay (n + 1) (.list ds) := by
  obtain ⟨h1, h2⟩ := lay_all h
  exact ⟨by simpa [PyData.canLay0] using h1, by simp only [PyData.depth]; omega⟩
theorem lay_tuple {n : Nat} {ds : List PyData} (h : ∀ d ∈ ds, Lay n d) : Lay (n + 1) (.tuple ds) := by
  obtain ⟨h1, h2⟩ := lay_all h
  exact ⟨by simpa [PyData.canLay0] using h1, by simp only [PyData.depth]; omega⟩
theorem lay_int {n : Nat} {i : Int} : Lay n (.int i) := ⟨rfl, Nat.zero_le _⟩
theorem lay_bl {n : Nat} {i : Bool} : Lay n (.bool i) := ⟨rfl, Nat.zero_le _⟩
theorem lay_non {n : Nat} : Lay n .none := ⟨rfl, Nat.zero_le _⟩
def okS (w : List Nat) : Bool := w.all (· < 0x110000)
theorem lay_S {n : Nat} {w : List Nat} (h : okS w = true) : Lay n (.str (S w)) := by
  refine ⟨?_, Nat.zero_le _⟩
  simp only [PyData.canLay0, PyData.strOk]
  simpa [okS] using h
theorem shaped_of {n : Nat} {d : PyData} (h : Lay n d) (hn : n ≤ 64 := by decide) : SeqAt.shaped d = true := by
  unfold SeqAt.shaped
  rw [h.1, decide_eq_true (Nat.le_trans h.2 hn)]
  rfl
theorem okS_L {w : List Nat} (h : AllL w) : okS w = true := by
  unfold okS
  rw [List.all_eq_true]
  intro c hc
  rcases isL_cases (h c hc) with rfl | rfl | rfl | rfl | rfl | rfl | rfl | rfl <;> decide
theorem lay_ints (ns : List Int) : Lay 1 (.list (ns.map PyData.int)) := lay_list fun d hd => by
  obtain ⟨n, _, rfl⟩ := List.mem_map.mp hd
  exact lay_int
theorem lay_nil {n : Nat} : Lay (n + 1) (.list []) := lay_list fun d hd => absurd hd (by simp)
theorem lay_strs {ws : List (List Nat)} (h : ∀ w ∈ ws, okS w = true) : Lay 1 (.list (ws.map fun w => PyData.str (S w))) := lay_list fun d hd => by
  obtain ⟨n, hn, rfl⟩ := List.mem_map.mp hd
  exact lay_S (h n hn)
theorem eqv_ints (ns ms : List Int) : PyData.eqvAll (ns.map PyData.int) (ms.map PyData.int) = decide (ns = ms) := by
  induction ns generalizing ms with
  | nil => cases ms <;> simp [PyData.eqvAll]
  | cons a ns ih => cases ms with
    | nil => simp [PyData.eqvAll]
    | cons b ms =>
      rw [Bool.eq_iff_iff]
      simp [PyData.eqvAll, PyData.eqv, ih]
theorem eqv_strs (ns ms : List (List Nat)) : PyData.eqvAll (ns.map fun w => PyData.str (S w)) (ms.map fun w => PyData.str (S w)) = decide (ns = ms) := by
  induction ns generalizing ms with
  | nil => cases ms <;> simp [PyData.eqvAll]
  | cons a ns ih => cases ms with
    | nil => simp [PyData.eqvAll]
    | cons b ms => 
      simp only [List.map_cons, PyData.eqvAll, PyData.eqv, ih, List.cons.injEq, Bool.decide_and]
      congr 1
      rw [Bool.eq_iff_iff]
      simp [S_inj]
/-- list == [] -/
theorem r_neNil {K : PySem.W.Frag} {H : Hp} {Q : VK} {a b : Addr} {xs : List V} {ds : List PyData} (h1 : SqL K H a xs) (d : DpAll K H xs ds) (hl : Lay 8 (.list ds)) (h2 : SqL K H b []) (q : Q (.bl (!decide (xs = []))) H) : rNeA K (.ref a) (.ref b) H Q := by
  refine r_neD (.lst h1 d) (.lst h2 .nil) (shaped_of hl) (shaped_of (lay_nil (n := 1))) ?_
  have e : PyData.eqv (.list ds) (.list []) = decide (xs = []) := by
    cases d <;> simp [PyData.eqv, PyData.eqvAll]
  rw [e]
  exact q
theorem r_eqNil {K : PySem.W.Frag} {H : Hp} {Q : VK} {a b : Addr} {xs : List V} {ds : List PyData} (h1 : SqL K H a xs) (d : DpAll K H xs ds) (hl : Lay 8 (.list ds)) (h2 : SqL K H b []) (q : Q (.bl (decide (xs = []))) H) : rEqA K (.ref a) (.ref b) H Q := by
  refine r_eqD (.lst h1 d) (.lst h2 .nil) (shaped_of hl) (shaped_of (lay_nil (n := 1))) ?_
  have e : PyData.eqv (.list ds) (.list []) = decide (xs = []) := by
    cases d <;> simp [PyData.eqv, PyData.eqvAll]
  rw [e]
  exact q
theorem Lay.mono {n m : Nat} {d : PyData} (h : Lay n d) (hm : n ≤ m) : Lay m d := ⟨h.1, Nat.le_trans h.2 hm⟩
end
end Cs

set_option Elab.async false
set_option linter.all false
set_option maxRecDepth 100000
set_option maxHeartbeats 4000000
/-! LayE: kinds kept, list-or-tuple walks, methods by name. -/
namespace Cs
open PySem PySem.Spec PyProof.Rows L2
section
variable {K : PySem.W.Frag} {H H' : Hp} {x : V} {t u : Value} {b : Bool}
theorem tyX_same (e : Same H H') (h : TyX K H x t) : TyX K H' x t := by
  cases h with
  | base h =>
    cases h with
    | non => exact .base .non
    | bl x => exact .base (.bl x)
    | int x => exact .base (.int x)
    | str x => exact .base (.str x)
    | flt x => exact .base (.flt x)
    | lst h => exact .base (.lst (e _ _ h))
    | frz h => exact .base (.frz (e _ _ h))
    | tup h => exact .base (.tup (e _ _ h))
    | dK h => exact .base (.dK (e _ _ h))
    | dT h => exact .base (.dT (e _ _ h))
    | ins h c a n k m => exact .base (.ins (e _ _ h) c a n k m)
  | byt b => exact .byt b
  | set h => exact .set (e _ _ h)
  | kList h c => exact .kList h c
  | kTuple h c => exact .kTuple h c
  | kDict h c => exact .kDict h c
  | fTuple h => exact .fTuple (e _ _ h)
  | fDict h => exact .fDict (e _ _ h)
theorem isK_same (e : Same H H') (h : IsK K H x u b) : IsK K H' x u b := by
  rcases h with ⟨t, h, q⟩ | ⟨a, C, d, rfl, h, hd, T, q⟩
  · exact .inl ⟨t, tyX_same e h, q⟩
  · exact .inr ⟨a, C, d, rfl, e _ _ h, fun dd z => let ⟨fs, w⟩ := hd dd z; ⟨fs, e _ _ w⟩, T, q⟩
/-- isinstance(x, (c, ..)) -/
def IsT (K : PySem.W.Frag) (H : Hp) (x : V) (us : List Value) (b : Bool) : Prop := ∃ t, TyX K H x t ∧ PySem.W.kitAny K t us = some b
theorem isT_same {us : List Value} (e : Same H H') (h : IsT K H x us b) : IsT K H' x us b := let ⟨t, h, q⟩ := h; ⟨t, tyX_same e h, q⟩
theorem q_isT2 {c1 c2 : V} {u1 u2 : Value} {p : Addr} {Q : VK} (hp : H p = some (.tup [c1, c2])) (k1 : ClsV c1 u1) (k2 : ClsV c2 u2) (h : IsT K H x [u1, u2] b) (q : Q (.bl b) H) : rIsiT K [x, .ref p] H Q := by
  obtain ⟨t, ty, e⟩ := h
  exact ⟨x, p, _, t, _, b, rfl, hp, .cons k1 (.cons k2 .nil), ty, e, q⟩
theorem sqL_same {a : Addr} {xs : List V} (e : Same H H') (h : SqL K H a xs) : SqL K H' a xs := e.seq h
theorem sqT_same {a : Addr} {xs : List V} (e : Same H H') (h : SqT K H a xs) : SqT K H' a xs :=
  h.elim (fun h => .inl (h.elim (fun h => .inl (e _ _ h)) fun ⟨o, h⟩ => .inr ⟨o, e _ _ h⟩)) fun h => .inr h
/-- a list or a tuple -/
def SqA (K : PySem.W.Frag) (H : Hp) (a : Addr) (xs : List V) : Prop := SqL K H a xs ∨ SqT K H a xs
theorem sqA_same {a : Addr} {xs : List V} (e : Same H H') (h : SqA K H a xs) : SqA K H' a xs := h.elim (fun h => .inl (sqL_same e h)) fun h => .inr (sqT_same e h)
theorem q_lenA {a : Addr} {xs : List V} {Q : VK} (h : SqA K H a xs) (q : Q (.int (xs.length : Nat)) H) : rLenB K [.ref a] H Q := h.elim (fun h => q_lenL h q) fun h => q_lenT h q
def iLT (K : PySem.W.Frag) (tl : TE) : TI := fun σ H R => tl σ H fun x H1 => ∃ a, x = .ref a ∧ (((∃ xs, SqL K H1 a xs) ∧ R (Itl K a) H1) ∨ ((∃ xs, SqT K H1 a xs) ∧ R (Itt K a) H1))
end
section
variable {X : Cx} {tg : Expr}
theorem pi_lt {l : Expr} {tl : TE} (hl : PE X l tl) : PI X tg l (iLT X.K tl) := by
  refine ⟨fun pins s σ H R I h => ?_⟩
  refine thn (hl.run pins s σ H _ I h) fun v s1 ⟨x, H1, I1, r1, q1⟩ => ?_
  obtain ⟨a, e, ⟨⟨xs, hq⟩, q⟩ | ⟨⟨xs, hq⟩, q⟩⟩ := q1
  · subst e
    cases r1
    obtain ⟨its, rv, p, hz⟩ := I1.list hq
    refine wpAny_pyIter_list p.isList ?_
    refine ⟨s1.heap.objs.size, [s1.heap.objs.size], _, _, H1, rfl, I1.kept (t' := s1.toks) fun b o e => Heap.get?_push_of_some _ e, turn_list a _, ⟨_, Heap.get?_push_size _ rfl, rfl, rfl⟩, fun b hb => ?_, q⟩
    have e : b = s1.heap.objs.size := by simpa using hb
    subst e
    exact I1.fpOk (Nat.le_refl _) (I1.hok.fresh (Nat.le_refl _))
  · subst e
    cases r1
    obtain ⟨its, rv, p, hz⟩ := I1.tuple hq
    refine wpAny_pyIter_tuple (show s1.heap.IsTuple a its.toArray from p) ?_
    refine ⟨s1.heap.objs.size, [s1.heap.objs.size], _, _, H1, rfl, I1.kept (t' := s1.toks) fun b o e => Heap.get?_push_of_some _ e, turn_tuple a _, ⟨_, Heap.get?_push_size _ rfl, rfl, rfl⟩, fun b hb => ?_, q⟩
    have e : b = s1.heap.objs.size := by simpa using hb
    subst e
    exact I1.fpOk (Nat.le_refl _) (I1.hok.fresh (Nat.le_refl _))
end
def rLT (K : PySem.W.Frag) (R : It → Hp → Prop) (x : V) (H1 : Hp) : Prop := ∃ a, x = .ref a ∧ (((∃ xs, SqL K H1 a xs) ∧ R (Itl K a) H1) ∨ ((∃ xs, SqT K H1 a xs) ∧ R (Itt K a) H1))
/-! ### comprehensions -/
/-- what a comprehension's walk asks -/
def LcW (J : It) (g : TG) (tt : TT) (te : TE) (vs : List Nat) (σ : L2.St) (H1 : Hp) (Dl : Addr) (Qd : Hp → Prop) : Prop :=
  ∃ W : Nat → Nat → Hp → Prop, (∃ m, W 0 m (upd H1 Dl (.lst []))) ∧ ∀ i m H, W i m H →
      (J.stop i H ∧ Qd H) ∨ (J.go i H ∧ ∃ Nx : Hp → Prop, (∀ H', Nx H' → ∃ m', m' < m ∧ W (i + 1) m' H') ∧ ∀ x H', J.yld i H x H' → g x (wipe σ vs) H' fun σ2 H2 => wipe σ2 vs = wipe σ vs ∧ tt σ2 H2 fun b H3 =>
        if b = true then te σ2 H3 fun y H4 => ∃ acc, H4 Dl = some (.lst acc) ∧ acc.length < sizeLine ∧ Nx (upd H4 Dl (.lst (acc ++ [y]))) else Nx H3)
section
variable {K : PySem.W.Frag} {H H' : Hp} {σ : L2.St} {Q : VK} {QS : L2.St → Hp → Prop} {tr : TA} {te tx : TE} {g : TG} {tt : TT} {vs : List Nat} {De : Ends}
theorem r_iLT0 {R : It → Hp → Prop} (q : te σ H fun x H1 => rLT K R x H1) : iLT K te σ H R := q
theorem r_iLT {R : It → Hp → Prop} {a : Addr} {xs : List V} (h : SqA K H a xs) (q1 : SqL K H a xs → R (Itl K a) H) (q2 : SqT K H a xs → R (Itt K a) H) : rLT K R (.ref a) H :=
  ⟨a, rfl, h.elim (fun h => .inl ⟨⟨xs, h⟩, q1 h⟩) fun h => .inr ⟨⟨xs, h⟩, q2 h⟩⟩
theorem r_yes {A : Bool → Hp → Prop} (q : A true H) : tYes σ H A := q
theorem r_lc {wi : TI} (q : wi σ H fun J H1 => ∀ Dl, H1 Dl = none → LcW J g tt te vs σ H1 Dl (Q (.ref Dl))) : tLc wi g tt te vs σ H Q := q
theorem walk_rangeY {lo : Int} {n : Nat} : Walk (Itr lo n) ((List.range n).map fun i => V.int (lo + (i : Nat))).length (fun _ => True) (YAt ((List.range n).map fun i => V.int (lo + (i : Nat)))) := by
  have e : ((List.range n).map fun i => V.int (lo + (i : Nat))).length = n := by simp
  rw [e]
  refine ⟨fun i H hi _ => hi, fun H _ => Nat.le_refl _, fun i H x H' hi _ y => ⟨y.1, ?_⟩⟩
  rw [List.getElem?_map, List.getElem?_range hi, y.2]
  rfl
theorem wipe1 {i : Nat} {x : Option V} : wipe ((wipe σ [i]).set i x) [i] = wipe σ [i] := by
  show ((σ.set i none).set i x).set i none = σ.set i none
  rw [List.set_set, List.set_set]
theorem lcFin {Pv : List V → Hp → Prop} {y : V} {acc : List V} {Dl : Addr} (e : H Dl = some (.lst acc)) (hl : acc.length ≤ 1000000) (p : Pv (acc ++ [y]) (upd H Dl (.lst (acc ++ [y])))) :
    ∃ acc, H Dl = some (.lst acc) ∧ acc.length < sizeLine ∧ ∃ a2, Pv a2 (upd H Dl (.lst (acc ++ [y]))) ∧ (upd H Dl (.lst (acc ++ [y]))) Dl = some (.lst a2) :=
  ⟨acc, e, by rw [sizeLine_eq]; omega, _, p, upd_same⟩
/-- a comprehension: Pv by the turn, what is made so far, the heap -/
theorem lcG {J : It} {its : List V} {G : Hp → Prop} {i : Nat} {H1 : Hp} {Dl : Addr} {Qd : Hp → Prop} (w : Walk J its.length G (YAt its)) (Pv : Nat → List V → Hp → Prop) (h0 : Pv 0 [] (upd H1 Dl (.lst []))) (hG : ∀ j acc H, j ≤ its.length → Pv j acc H → H Dl = some (.lst acc) → G H)
    (hs : ∀ j x acc H, its[j]? = some x → Pv j acc H → H Dl = some (.lst acc) → tt ((σ.set i none).set i (some x)) H fun b H3 =>
      if b = true then te ((σ.set i none).set i (some x)) H3 fun y H4 => ∃ acc, H4 Dl = some (.lst acc) ∧ acc.length < sizeLine ∧ ∃ a2, Pv (j + 1) a2 (upd H4 Dl (.lst (acc ++ [y]))) ∧ (upd H4 Dl (.lst (acc ++ [y]))) Dl = some (.lst a2) else ∃ a2, Pv (j + 1) a2 H3 ∧ H3 Dl = some (.lst a2))
    (hd : ∀ acc H, Pv its.length acc H → H Dl = some (.lst acc) → Qd H) : LcW J (gName i) tt te [i] σ H1 Dl Qd := by
  refine lc_it w (fun j H => ∃ acc, Pv j acc H ∧ H Dl = some (.lst acc)) ⟨[], h0, upd_same⟩ (fun j H hj ⟨acc, p, e⟩ => hG j acc H hj p e) ?_ (fun H ⟨acc, p, e⟩ => hd acc H p e)
  rintro j x H H' hj ⟨acc, p, e⟩ ⟨rfl, hx⟩
  exact ⟨wipe1, hs j x acc _ hx p e⟩
end
/-! ### methods by name -/
def rStarts : V → List V → Hp → VK → Prop := fun x xs H Q => ∃ a b, x = .str a ∧ xs = [.str b] ∧ Q (.bl (Txt.startswith a b)) H
def rJoin (K : PySem.W.Frag) : V → List V → Hp → VK → Prop := fun x xs H Q => ∃ a p, ∃ ys : List Str, x = .str a ∧ xs = [.ref p] ∧ (SqL K H p (ys.map V.str) ∨ SqT K H p (ys.map V.str)) ∧
    (ys.map (·.length)).sum + ys.length * a.length ≤ 16777216 ∧ Q (.str (Txt.join a ys)) H
def rInsert : V → List V → Hp → VK → Prop := fun x vs H Q => ∃ (l : Addr) (xs : List V) (i : Int) (y : V), x = .ref l ∧ vs = [.int i, y] ∧ H l = some (.lst xs) ∧ xs.length < sizeLine ∧ 0 ≤ i ∧ i < 2 ^ 63 ∧
    Q .non (upd H l (.lst (xs.take i.toNat ++ [y] ++ xs.drop i.toNat)))
section
variable {X : Cx}
theorem mb_startswith : MtR X "str.startswith" rStarts := mt_startswith
theorem mb_join {K : PySem.W.Frag} (h : X.K = K := by rfl) : MtR X "str.join" (rJoin K) := by subst h; exact mt_join
theorem mb_insert : MtR X "list.insert" rInsert := mt_insert
theorem mb_append : MtR X "list.append" rAppend := mt_append
theorem mb_pop : MtR X "list.pop" rPop := mt_pop
end
section
variable {K : PySem.W.Frag} {H : Hp} {Q : VK} {l : Addr} {xs : List V} {y : V}
theorem q_starts {a b : List Nat} (q : Q (.bl (b.isPrefixOf a)) H) : rStarts (.str (S a)) [.str (S b)] H Q := ⟨_, _, rfl, rfl, by rw [startswith_S]; exact q⟩
theorem q_append (h : H l = some (.lst xs)) (hl : xs.length ≤ 1000000) (q : Q .non (upd H l (.lst (xs ++ [y])))) : rAppend (.ref l) [y] H Q := ⟨l, xs, y, rfl, rfl, h, by rw [sizeLine_eq]; omega, q⟩
theorem q_insert {n : Nat} (h : H l = some (.lst xs)) (hl : xs.length ≤ 1000000) (hn : n ≤ 1000000) (q : Q .non (upd H l (.lst (xs.take n ++ [y] ++ xs.drop n)))) : rInsert (.ref l) [.int (n : Nat), y] H Q := ⟨l, xs, n, y, rfl, rfl, h, by rw [sizeLine_eq]; omega, by omega, by omega, q⟩
end
/-! ### words: texts of letters -/
def lastL (v : List Nat) : List Nat := v.drop (v.length - 1)
theorem lastL_snoc (v : List Nat) (c : Nat) : lastL (v ++ [c]) = [c] := by simp [lastL]
theorem lastL_one {w : List Nat} (h : w ≠ []) : ∃ c, lastL w = [c] ∧ atI w (-1) = some c := by
  obtain ⟨v, c, rfl⟩ : ∃ v c, w = v ++ [c] := ⟨w.dropLast, w.getLast h, (List.dropLast_concat_getLast h).symm⟩
  refine ⟨c, lastL_snoc v c, ?_⟩
  exact atI_neg (k := 1) (by decide) (by simp) (by simp)
theorem snoc_of {w : List Nat} (h : w ≠ []) : ∃ v c, w = v ++ [c] := ⟨w.dropLast, w.getLast h, (List.dropLast_concat_getLast h).symm⟩
theorem cut_21' (w : List Nat) : cutS (S w) (some (-2)) (some (-1)) = S (lastL w.dropLast) := by
  rw [cut_21]
  congr 1
  by_cases h : w = []
  · subst h; rfl
  · obtain ⟨v, c, rfl⟩ := snoc_of h
    simp only [List.length_append, List.length_singleton, List.dropLast_concat, lastL]
    by_cases hv : v = []
    · subst hv; rfl
    · have : 0 < v.length := List.length_pos_iff.mpr hv
      have e1 : v.length + 1 - 2 = v.length - 1 := by omega
      have e2 : v.length + 1 - 1 - (v.length - 1) = 1 := by omega
      rw [e1, e2, List.drop_append_of_le_length (by omega)]
      rw [List.take_append_of_le_length (by simp; omega), List.take_of_length_le (by simp; omega)]
theorem snocInd {A : List Nat → Prop} (h0 : A []) (h1 : ∀ v c, A v → A (v ++ [c])) : ∀ w, A w := by
  intro w
  generalize hn : w.length = n
  induction n generalizing w with
  | zero => rw [List.eq_nil_of_length_eq_zero hn]; exact h0
  | succ n ih =>
    obtain ⟨v, c, rfl⟩ := snoc_of (w := w) (by intro e; rw [e] at hn; cases hn)
    exact h1 v c (ih v (by simpa using hn))
/-- every sign a letter, none undoing the one ahead -/
def badC (a : List Nat) (c : Nat) : Bool := !isL c || decide ([c] = a.map und)
/-- the first sign that is no letter or undoes the one ahead -/
def fb : List Nat → Nat → List Nat → Option Nat
  | _, _, [] => none
  | a, i, c :: r => if badC a c = true then some i else fb [c] (i + 1) r
/-- a word -/
def Good (w : List Nat) : Prop := fb [] 0 w = none
def ahd (w : List Nat) : Nat → List Nat
  | 0 => []
  | i + 1 => match w[i]? with | some c => [c] | none => []
def gd : List Nat → List Nat → Bool
  | _, [] => true
  | a, c :: r => !badC a c && gd [c] r
theorem fb_none : ∀ (w a : List Nat) (i : Nat), fb a i w = none ↔ gd a w = true
  | [], a, i => by simp [fb, gd]
  | c :: r, a, i => by
    unfold fb gd
    cases badC a c with
    | true => simp
    | false => simpa using fb_none r [c] (i + 1)
theorem good_gd {w : List Nat} : Good w ↔ gd [] w = true := fb_none w [] 0
theorem gd_snoc : ∀ (v a : List Nat) (c : Nat), gd a (v ++ [c]) = (gd a v && !badC (if v = [] then a else lastL v) c)
  | [], a, c => by simp [gd]
  | x :: v, a, c => by
    rw [List.cons_append]
    unfold gd
    rw [gd_snoc v [x] c, Bool.and_assoc]
    have e : (if v = [] then [x] else lastL v) = (if x :: v = [] then a else lastL (x :: v)) := by
      rw [if_neg (List.cons_ne_nil x v)]
      by_cases h : v = []
      · subst h; rfl
      · rw [if_neg h]
        obtain ⟨u, d, rfl⟩ := snoc_of h
        rw [lastL_snoc, ← List.cons_append, lastL_snoc]
    rw [e]
theorem good_snoc {v : List Nat} {c : Nat} : Good (v ++ [c]) ↔ Good v ∧ isL c = true ∧ [c] ≠ (lastL v).map und := by
  rw [good_gd, good_gd, gd_snoc]
  have e : (if v = [] then [] else lastL v) = lastL v := by
    by_cases h : v = []
    · subst h; rfl
    · rw [if_neg h]
  rw [e]
  simp [badC]
theorem good_nil : Good [] := rfl
theorem good_L {w : List Nat} (h : Good w) : AllL w := by
  refine snocInd (A := fun w => Good w → AllL w) (fun _ c hc => by cases hc) (fun v c ih h => ?_) w h
  obtain ⟨h1, h2, _⟩ := good_snoc.mp h
  intro d hd
  rcases List.mem_append.mp hd with hd | hd
  · exact ih h1 d hd
  · rw [List.mem_singleton.mp hd]; exact h2
theorem good_init {w : List Nat} (h : Good w) : Good w.dropLast := by
  by_cases e : w = []
  · subst e; exact h
  · obtain ⟨v, c, rfl⟩ := snoc_of e
    rw [List.dropLast_concat]
    exact (good_snoc.mp h).1
theorem good_take {w : List Nat} (h : Good w) : ∀ n, Good (w.take n) := by
  refine snocInd (A := fun w => Good w → ∀ n, Good (w.take n)) (fun h n => by simpa using h) (fun v c ih h n => ?_) w h
  by_cases hn : n ≤ v.length
  · rw [List.take_append_of_le_length hn]
    exact ih (good_snoc.mp h).1 n
  · rw [List.take_of_length_le (by simp; omega)]
    exact h
/-! ### twins -/
def hasTw (w : List Nat) : Bool := !decide (w = []) && !decide (lastL w = lastL w.dropLast)
def twOf (w : List Nat) : List Nat := w.dropLast ++ (lastL w).map und
theorem twOf_snoc (v : List Nat) (c : Nat) : twOf (v ++ [c]) = v ++ [und c] := by
  unfold twOf
  rw [List.dropLast_concat, lastL_snoc]
  rfl
theorem hasTw_snoc (v : List Nat) (c : Nat) : hasTw (v ++ [c]) = !decide ([c] = lastL v) := by
  unfold hasTw
  rw [List.dropLast_concat, lastL_snoc]
  simp
theorem hasTw_ne {w : List Nat} (h : hasTw w = true) : w ≠ [] := by
  intro e
  subst e
  exact absurd h (by decide)
theorem allL_last {w : List Nat} (h : AllL w) : AllL (lastL w) := fun c hc => h c (List.mem_of_mem_drop hc)
theorem good_tw {w : List Nat} (h : Good w) (ht : hasTw w = true) : Good (twOf w) := by
  obtain ⟨v, c, rfl⟩ := snoc_of (hasTw_ne ht)
  obtain ⟨h1, h2, h3⟩ := good_snoc.mp h
  rw [hasTw_snoc] at ht
  rw [twOf_snoc, good_snoc]
  refine ⟨h1, und_L h2, fun e => ?_⟩
  have hv := allL_last (good_L h1)
  have : [c] = lastL v := by
    cases hl : lastL v with
    | nil => rw [hl] at e; cases e
    | cons a r =>
      rw [hl] at e hv
      cases r with
      | nil =>
        have e2 : und c = und a := by simpa using e
        rw [und_inj h2 (hv a List.mem_cons_self) e2]
      | cons b r => simp at e
  rw [this] at ht
  simp at ht
theorem tw_tw {w : List Nat} (h : AllL w) (hw : w ≠ []) : twOf (twOf w) = w := by
  obtain ⟨v, c, rfl⟩ := snoc_of hw
  rw [twOf_snoc, twOf_snoc, und_und (h c (by simp))]
theorem tw_len {w : List Nat} (hw : w ≠ []) : (twOf w).length = w.length := by
  obtain ⟨v, c, rfl⟩ := snoc_of hw
  rw [twOf_snoc]
  simp
theorem hasTw_tw {w : List Nat} (h : Good w) (ht : hasTw w = true) : hasTw (twOf w) = true := by
  obtain ⟨v, c, rfl⟩ := snoc_of (hasTw_ne ht)
  obtain ⟨h1, h2, h3⟩ := good_snoc.mp h
  rw [twOf_snoc, hasTw_snoc]
  have hv := allL_last (good_L h1)
  have : ¬ [und c] = lastL v := fun e => h3 (by rw [← e]; simp [und_und h2])
  simpa using this
/-! ### the same rules, K said -/
section
variable {X : Cx} {K : PySem.W.Frag}
theorem call_isiEK (h : X.K = K := by rfl) : CallR X (.builtin "isinstance") (rIsiE K) := by subst h; exact call_isiE
theorem call_isiTK (h : X.K = K := by rfl) : CallR X (.builtin "isinstance") (rIsiT K) := by subst h; exact call_isiT
theorem ix_seqK (h : X.K = K := by rfl) : IxR X (rIx K) := by subst h; exact ix_seq
theorem sl_anyK (h : X.K = K := by rfl) : SlR X (rSlA K) := by subst h; exact sl_any
theorem op_eqK (hu : X.A.units + 64 < cLine) (h : X.K = K := by rfl) : OpR X (compareOp .Eq) (rEqA K) := by subst h; exact op_eqA hu
theorem op_neK (hu : X.A.units + 64 < cLine) (h : X.K = K := by rfl) : OpR X (compareOp .NotEq) (rNeA K) := by subst h; exact op_neA hu
theorem op_inK (h : X.K = K := by rfl) : OpR X (compareOp .In) (rInA K) := by subst h; exact op_inA
theorem op_niK (h : X.K = K := by rfl) : OpR X (compareOp .NotIn) (rNiA K) := by subst h; exact op_niA
theorem pe_attrK {e : Expr} {te : TE} {pos : Pos} {n : Str} (he : PE X e te) (h : X.K = K := by rfl) (hb : attributeBase e n X.env (eval e X.env) = eval e X.env := by rfl) : PE X (.Attribute e n pos) (tAttr K n te) := by subst h; exact pe_attr he hb
end
/-! ### rows apart -/
def Apart (rows : List (List Nat)) : Prop := ∀ (i j : Nat) (x y : List Nat), rows[i]? = some x → rows[j]? = some y → i ≠ j → y.isPrefixOf x = false
theorem paired_len {α β : Type} {G : α → β → Prop} : ∀ {xs : List α} {ys : List β}, Paired G xs ys → xs.length = ys.length
  | _, _, .nil => rfl
  | _, _, .cons _ t => congrArg (· + 1) (paired_len t)
theorem paired_at {α β : Type} {G : α → β → Prop} : ∀ {xs : List α} {ys : List β}, Paired G xs ys → ∀ {i : Nat} {x : α} {y : β}, xs[i]? = some x → ys[i]? = some y → G x y
  | _, _, .cons g _, 0, _, _, h1, h2 => by cases h1; cases h2; exact g
  | _, _, .cons _ t, i + 1, _, _, h1, h2 => paired_at t (by simpa using h1) (by simpa using h2)
theorem paired_snoc {α β : Type} {G : α → β → Prop} : ∀ {xs : List α} {ys : List β} {x : α} {y : β}, Paired G xs ys → G x y → Paired G (xs ++ [x]) (ys ++ [y])
  | _, _, _, _, .nil, g => .cons g .nil
  | _, _, _, _, .cons h t, g => .cons h (paired_snoc t g)
theorem paired_mono {α β : Type} {G G' : α → β → Prop} (hm : ∀ x y, G x y → G' x y) : ∀ {xs : List α} {ys : List β}, Paired G xs ys → Paired G' xs ys
  | _, _, .nil => .nil
  | _, _, .cons h t => .cons (hm _ _ h) (paired_mono hm t)
theorem paired_of {α β : Type} {G : α → β → Prop} : ∀ {xs : List α} {ys : List β}, xs.length = ys.length → (∀ (i : Nat) (x : α) (y : β), xs[i]? = some x → ys[i]? = some y → G x y) → Paired G xs ys
  | [], [], _, _ => .nil
  | _ :: _, _ :: _, hl, h => .cons (h 0 _ _ rfl rfl) (paired_of (by simpa using hl) fun i x y a b => h (i + 1) x y (by simpa using a) (by simpa using b))
theorem paired_rev {α β : Type} {G : α → β → Prop} : ∀ {xs : List α} {ys : List β}, Paired G xs ys → Paired G xs.reverse ys.reverse
  | _, _, .nil => .nil
  | _, _, .cons h t => by
    rw [List.reverse_cons, List.reverse_cons]
    exact paired_snoc (paired_rev t) h
theorem take_snoc {α : Type} {xs : List α} {j : Nat} {x : α} (h : xs[j]? = some x) : xs.take (j + 1) = xs.take j ++ [x] := by
  rw [List.take_add_one, h]
  rfl
end Cs

set_option Elab.async false
set_option linter.all false
set_option maxRecDepth 100000
set_option maxHeartbeats 4000000
/-! LayF: plain lemmas: tops of a stem, rows apart. -/
namespace Cs
open PySem PySem.Spec PyProof.Rows L2
section
variable {X : Cx} {K : PySem.W.Frag} {e : Expr} {es : List Expr}
theorem pe_bm0K {T id : String} {name : Str} {r : V → List V → Hp → VK → Prop} {o : Expr} {to : TE} {apos cpos : Pos} (pa : PlainAttrs T) (slot : Slot T name id) (hty : typeOf (.builtin id) = pure (.type "method_descriptor")) (hm : MtR X id r) (ho : PE X o to) (h : X.K = K := by rfl)
    (hbase : attributeBase o name X.env (eval o X.env) = eval o X.env := by rfl) (hline : (apos.endLine == cpos.line) = true := by rfl) : PE X (.Call (.Attribute o name apos) [] [] cpos) (tBM0 K T r to) := by
  subst h
  exact pe_bm0 pa slot hty hm ho hbase hline
theorem pe_bmK {T id : String} {name : Str} {r : V → List V → Hp → VK → Prop} {o : Expr} {to : TE} {t : TA} {apos cpos : Pos} (pa : PlainAttrs T) (slot : Slot T name id) (hty : typeOf (.builtin id) = pure (.type "method_descriptor")) (hm : MtR X id r) (ho : PE X o to) (ha : PA X (e :: es) t) (h : X.K = K := by rfl)
    (hbase : attributeBase o name X.env (eval o X.env) = eval o X.env := by rfl)
    (hfew : ((backTo cpos (starEach (e :: es) X.env)).all (fun x => !x.1) && (backToKw cpos (keywordEach [] X.env)).all (fun x => x.1.isSome)
      && decide ((e :: es).length + ([] : List Keyword).length + (if ([] : List Keyword).isEmpty then 0 else 1) < 30)) = true := by rfl)
    (hline : (apos.endLine == cpos.line) = true := by rfl) (hs : starEach (e :: es) X.env = (false, eval e X.env) :: starEach es X.env := by rfl) (hplain : (backTo cpos (starEach es X.env)).any (·.1) = false := by rfl) :
    PE X (.Call (.Attribute o name apos) (e :: es) [] cpos) (tBM K T r to t) := by
  subst h
  exact pe_bm pa slot hty hm ho ha hbase hfew hline hs hplain
end
theorem walk_range0 {n : Nat} : Walk (Itr 0 n) ((List.range n).map fun i => V.int (i : Nat)).length (fun _ => True) (YAt ((List.range n).map fun i => V.int (i : Nat))) := by
  have e : ((List.range n).map fun i => V.int (i : Nat)).length = n := by simp
  rw [e]
  refine ⟨fun i H hi _ => hi, fun H _ => Nat.le_refl _, fun i H x H' hi _ y => ⟨y.1, ?_⟩⟩
  rw [List.getElem?_map, List.getElem?_range hi, y.2, Int.zero_add]
  rfl
theorem cutV_to (xs : List V) (k : Nat) : cutV xs none (some (k : Int)) = xs.take k := by
  unfold cutV
  rw [HT.sIx_none, HT.sIx_nat]
  simp only [List.drop_zero, Nat.sub_zero]
  by_cases h : k ≤ xs.length
  · rw [Nat.min_eq_left h]
  · rw [Nat.min_eq_right (by omega), List.take_length, List.take_of_length_le (by omega)]
theorem cutV_from (xs : List V) (k : Nat) : cutV xs (some (k : Int)) none = xs.drop k := by
  unfold cutV
  rw [HT.sIx_none, HT.sIx_nat]
  by_cases h : k ≤ xs.length
  · rw [Nat.min_eq_left h]
    apply List.take_of_length_le
    simp
  · rw [Nat.min_eq_right (by omega), List.drop_of_length_le (by omega : xs.length ≤ k), List.drop_length]
    simp
theorem rep1 (n c : Nat) : (List.replicate n [c]).flatten = List.replicate n c := by
  induction n with
  | zero => rfl
  | succ n ih => rw [List.replicate_succ, List.flatten_cons, ih]; rfl
/-- the first two of A, B, C that the last letter is not of -/
def free2 (u : List Nat) : List Nat := ([65, 66, 67].filter fun c => !decide (c ∈ (lastL u).map upp))
theorem lastL_le (u : List Nat) : (lastL u).length ≤ 1 := by
  unfold lastL
  rw [List.length_drop]
  omega
theorem free2_two (u : List Nat) : ∃ a b r, free2 u = a :: b :: r ∧ a ≠ b ∧ (a = 65 ∨ a = 66) ∧ (b = 66 ∨ b = 67) ∧ a ∉ (lastL u).map upp ∧ b ∉ (lastL u).map upp := by
  unfold free2
  have h := lastL_le u
  generalize lastL u = l at h
  match l, h with
  | [], _ => exact ⟨65, 66, [67], rfl, by decide, .inl rfl, .inl rfl, by simp, by simp⟩
  | [d], _ =>
    by_cases h1 : upp d = 65
    · exact ⟨66, 67, [], by simp [h1], by decide, .inr rfl, .inr rfl, by simp [h1], by simp [h1]⟩
    · by_cases h2 : upp d = 66
      · exact ⟨65, 67, [], by simp [h2], by decide, .inl rfl, .inr rfl, by simp [h2], by simp [h2]⟩
      · refine ⟨65, 66, ([67].filter fun c => !decide (c ∈ [d].map upp)), ?_, by decide, .inl rfl, .inl rfl, ?_, ?_⟩
        · have e1 : (!decide (65 ∈ [d].map upp)) = true := by simp; omega
          have e2 : (!decide (66 ∈ [d].map upp)) = true := by simp; omega
          rw [List.filter_cons, if_pos e1, List.filter_cons, if_pos e2]
        · simp; omega
        · simp; omega
theorem nu {a : Nat} {l : List Nat} (ha : a = 65 ∨ a = 66 ∨ a = 67) (hL : AllL l) (h : a ∉ l.map upp) : [a] ≠ l.map und ∧ [a] ≠ l := by
  constructor
  · intro e
    cases l with
    | nil => cases e
    | cons d r =>
      have hd : isL d = true := hL d List.mem_cons_self
      have e1 : a = und d := by simpa using congrArg List.head? e
      apply h
      rw [List.map_cons, e1]
      refine List.mem_cons.mpr (.inl ?_)
      rw [e1] at ha
      rcases isL_cases hd with rfl | rfl | rfl | rfl | rfl | rfl | rfl | rfl <;> simp [und, upp] at ha ⊢
  · intro e
    rw [← e] at h
    apply h
    rcases ha with rfl | rfl | rfl <;> decide
theorem good_rep {u : List Nat} {a : Nat} (hg : Good u) (ha : a = 65 ∨ a = 66 ∨ a = 67) (h : a ∉ (lastL u).map upp) : ∀ m, Good (u ++ List.replicate m a)
  | 0 => by simpa using hg
  | m + 1 => by
    rw [List.replicate_succ', ← List.append_assoc]
    refine good_snoc.mpr ⟨good_rep hg ha h m, by rcases ha with rfl | rfl | rfl <;> rfl, ?_⟩
    cases m with
    | zero =>
      rw [List.replicate_zero, List.append_nil]
      exact (nu ha (allL_last (good_L hg)) h).1
    | succ m =>
      rw [List.replicate_succ', ← List.append_assoc, lastL_snoc]
      rcases ha with rfl | rfl | rfl <;> decide
/-- u a .. a b, a m times -/
def topW (u : List Nat) (a b m : Nat) : List Nat := u ++ List.replicate m a ++ [b]
theorem last_rep {u : List Nat} {a m : Nat} : lastL (u ++ List.replicate (m + 1) a) = [a] := by
  rw [List.replicate_succ', ← List.append_assoc, lastL_snoc]
theorem good_top {u : List Nat} {a b : Nat} (hg : Good u) (ha : a = 65 ∨ a = 66 ∨ a = 67) (hb : b = 65 ∨ b = 66 ∨ b = 67) (hab : a ≠ b) (h : a ∉ (lastL u).map upp) (h2 : b ∉ (lastL u).map upp) (m : Nat) :
    Good (topW u a b m) ∧ hasTw (topW u a b m) = true ∧ twOf (topW u a b m) = u ++ List.replicate m a ++ [und b] := by
  have hl : [b] ≠ (lastL (u ++ List.replicate m a)).map und ∧ [b] ≠ lastL (u ++ List.replicate m a) := by
    cases m with
    | zero =>
      rw [List.replicate_zero, List.append_nil]
      exact nu hb (allL_last (good_L hg)) h2
    | succ m =>
      rw [last_rep]
      refine ⟨?_, fun e => hab (by simpa using e.symm)⟩
      rcases ha with rfl | rfl | rfl <;> rcases hb with rfl | rfl | rfl <;> decide
  refine ⟨good_snoc.mpr ⟨good_rep hg ha h m, by rcases hb with rfl | rfl | rfl <;> rfl, hl.1⟩, ?_, twOf_snoc _ _⟩
  unfold topW
  rw [hasTw_snoc, decide_eq_false hl.2]
  rfl
/-- the rows of the tops and of their twins -/
def topRows (u : List Nat) (a b : Nat) : Nat → List (List Nat)
  | 0 => []
  | m + 1 => topRows u a b m ++ [topW u a b m, u ++ List.replicate m a ++ [und b]]
theorem topRows_at {u : List Nat} {a b : Nat} : ∀ {n i : Nat} {x : List Nat}, (topRows u a b n)[i]? = some x → ∃ m c, m = i / 2 ∧ (c = b ∧ i % 2 = 0 ∨ c = und b ∧ i % 2 = 1) ∧ x = u ++ List.replicate m a ++ [c] := by
  intro n
  have hlen : ∀ n, (topRows u a b n).length = 2 * n := by
    intro n
    induction n with
    | zero => rfl
    | succ n ih => unfold topRows; rw [List.length_append, ih]; simp; omega
  induction n with
  | zero => intro i x h; simp [topRows] at h
  | succ n ih =>
    intro i x h
    unfold topRows at h
    by_cases hi : i < (topRows u a b n).length
    · rw [List.getElem?_append_left hi] at h
      exact ih h
    · rw [List.getElem?_append_right (by omega), hlen] at h
      rw [hlen] at hi
      by_cases h0 : i - 2 * n = 0
      · rw [h0] at h
        cases h
        exact ⟨n, b, by omega, .inl ⟨rfl, by omega⟩, rfl⟩
      · by_cases h1 : i - 2 * n = 1
        · rw [h1] at h
          cases h
          exact ⟨n, und b, by omega, .inr ⟨rfl, by omega⟩, rfl⟩
        · rw [List.getElem?_eq_none (by simp; omega)] at h
          cases h
theorem rep_pre {u : List Nat} {a c d m k : Nat} (hc : c ≠ a) (hd : d ≠ a) (h : (u ++ List.replicate m a ++ [c]) <+: (u ++ List.replicate k a ++ [d])) : m = k ∧ c = d := by
  rw [List.append_assoc, List.append_assoc, List.prefix_append_right_inj] at h
  induction m generalizing k with
  | zero =>
    cases k with
    | zero => simpa using h
    | succ k =>
      rw [List.replicate_succ] at h
      simp at h
      try exact absurd h hc
  | succ m ih =>
    cases k with
    | zero =>
      rw [List.replicate_succ] at h
      simp at h
      try exact absurd h.1.symm hd
    | succ k =>
      rw [List.replicate_succ, List.replicate_succ, List.cons_append, List.cons_append, List.cons_prefix_cons] at h
      obtain ⟨e1, e2⟩ := ih h.2
      exact ⟨congrArg (· + 1) e1, e2⟩
theorem topRows_apart {u : List Nat} {a b : Nat} (ha : a = 65 ∨ a = 66 ∨ a = 67) (hb : b = 65 ∨ b = 66 ∨ b = 67) (hab : a ≠ b) (n : Nat) : Apart (topRows u a b n) := by
  intro i j x y hx hy hne
  obtain ⟨m, c, rfl, hc, rfl⟩ := topRows_at hx
  obtain ⟨k, d, rfl, hd, rfl⟩ := topRows_at hy
  rw [Bool.eq_false_iff]
  intro h
  have h := List.isPrefixOf_iff_prefix.mp h
  have ub : und b ≠ a ∧ und b ≠ b := by
    rcases ha with rfl | rfl | rfl <;> rcases hb with rfl | rfl | rfl <;> decide
  have nc : c ≠ a := hc.elim (fun h => h.1 ▸ hab.symm) (fun h => h.1 ▸ ub.1)
  have nd : d ≠ a := hd.elim (fun h => h.1 ▸ hab.symm) (fun h => h.1 ▸ ub.1)
  obtain ⟨e1, e2⟩ := rep_pre nd nc h
  apply hne
  rcases hc with ⟨rfl, h1⟩ | ⟨rfl, h1⟩ <;> rcases hd with ⟨rfl, h2⟩ | ⟨rfl, h2⟩
  · omega
  · exact absurd e2 ub.2
  · exact absurd e2.symm ub.2
  · omega
theorem topRows_pre {u : List Nat} {a b n : Nat} {x : List Nat} (h : x ∈ topRows u a b n) : u <+: x := by
  obtain ⟨i, hi⟩ := List.mem_iff_getElem?.mp h
  obtain ⟨m, c, _, _, rfl⟩ := topRows_at hi
  rw [List.append_assoc]
  exact List.prefix_append _ _
end Cs

set_option Elab.async false
set_option linter.all false
set_option maxRecDepth 100000
set_option maxHeartbeats 4000000
/-! LayG: the pen at work; joins behind an if. -/
namespace Cs
open PySem PySem.Spec PyProof.Rows L2
/-- n positional values, m keywords; the keywords' values in the order ix -/
def gPm {α : Type} (z : α) (n m : Nat) (ix : List Nat) (us ws : List α) : List α := if us.length = n ∧ ws.length = m then us ++ ix.map (fun i => ws.getD i z) else []
theorem vals_getD : ∀ {zs : List V} {ws : List Value} (i : Nat), Vals zs ws → RelV (zs.getD i .non) (ws.getD i .none)
  | _, _, _, .nil => rfl
  | _, _, 0, .cons r _ => r
  | _, _, i + 1, .cons _ t => by simpa using vals_getD i t
theorem vals_ix {zs : List V} {ws : List Value} (h : Vals zs ws) : ∀ (ix : List Nat), Vals (ix.map fun i => zs.getD i .non) (ix.map fun i => ws.getD i .none)
  | [] => .nil
  | i :: ix => .cons (vals_getD i h) (vals_ix h ix)
theorem gPm_rel {n m : Nat} {ix : List Nat} {vs : List V} {us : List Value} {zs : List V} {ws : List Value} (h1 : Vals vs us) (h2 : Vals zs ws) : Vals (gPm .non n m ix vs zs) (gPm .none n m ix us ws) := by
  unfold gPm
  rw [h1.length, h2.length]
  by_cases h : us.length = n ∧ ws.length = m
  · rw [if_pos h, if_pos h]
    exact h1.append (vals_ix h2 ix)
  · rw [if_neg h, if_neg h]
    exact .nil
theorem r_ntt {A B : Prop} (q : B) : if (!true) = true then A else B := q
theorem r_nff {A B : Prop} (q : A) : if (!false) = true then A else B := q
theorem r_itup {K : PySem.W.Frag} {σ : L2.St} {H : Hp} {ta : TE} {R : It → Hp → Prop} (q : ta σ H fun x H1 => ∃ a, x = .ref a ∧ (∃ xs, SqT K H1 a xs) ∧ R (Itt K a) H1) : iTup K ta σ H R := q
def rRevL (K : PySem.W.Frag) (x : V) (H1 : Hp) (Q : VK) : Prop := ∃ a xs, x = .ref a ∧ SqL K H1 a xs ∧ ∀ p, H1 p = none → Q (.ref p) (upd H1 p (.lst xs.reverse))
theorem r_revL {K : PySem.W.Frag} {σ : L2.St} {H : Hp} {te : TE} {Q : VK} (q : te σ H fun x H1 => rRevL K x H1 Q) : tRevL K te σ H Q := q
theorem paired_app {α β : Type} {G : α → β → Prop} : ∀ {xs xs' : List α} {ys ys' : List β}, Paired G xs ys → Paired G xs' ys' → Paired G (xs ++ xs') (ys ++ ys')
  | _, _, _, _, .nil, h => h
  | _, _, _, _, .cons g t, h => .cons g (paired_app t h)
theorem paired_take {α β : Type} {G : α → β → Prop} : ∀ {xs : List α} {ys : List β} (n : Nat), Paired G xs ys → Paired G (xs.take n) (ys.take n)
  | _, _, 0, _ => .nil
  | _, _, n + 1, .nil => .nil
  | _, _, n + 1, .cons g t => .cons g (paired_take n t)
theorem paired_drop {α β : Type} {G : α → β → Prop} : ∀ {xs : List α} {ys : List β} (n : Nat), Paired G xs ys → Paired G (xs.drop n) (ys.drop n)
  | _, _, 0, h => h
  | _, _, n + 1, .nil => .nil
  | _, _, n + 1, .cons g t => paired_drop n t
/-- what follows a statement is proved once -/
theorem r_cut {T : TS} {σ : L2.St} {H : Hp} {f bk ct : L2.St → Hp → Prop} {rt : VK} (Mid : L2.St → Hp → Prop) (h1 : ∀ nx, (∀ σ' H', Mid σ' H' → nx σ' H') → T (Ends.mk nx rt bk ct) σ H) (h2 : ∀ σ' H', Mid σ' H' → f σ' H') : T (Ends.mk f rt bk ct) σ H := h1 f h2
/-- if .. elif .. else: the else is proved once -/
theorem r_els {c1 c2 : TT} {t1 t2 t3 : TS} {De : Ends} {σ : L2.St} {H : Hp} (Mid : L2.St → Hp → Prop) (h3 : ∀ σ H, Mid σ H → t3 De σ H) (h : ∀ t3' : TS, (∀ σ H, Mid σ H → t3' De σ H) → tIfS c1 t1 (tIfS c2 t2 t3') De σ H) : tIfS c1 t1 (tIfS c2 t2 t3) De σ H := h t3 h3
theorem q_set {H : Hp} {p : Addr} {k : Int} {j : Nat} {v : V} {xs : List V} {Q : Hp → Prop} (h : H p = some (.lst xs)) (hj : ixN xs.length k = some j) (q : Q (upd H p (.lst (xs.set j v)))) : rSetL (.ref p) (.int k) v H Q := ⟨p, xs, k, j, rfl, rfl, h, hj, q⟩
structure KP (P : Pen) (H0 H : Hp) (spot rest : Int) : Prop where
  keep : KeepB P H0 H
  pen : H P.p = some (penO P spot rest)
  cells : H P.c = some (.lst (P.ns.map V.int))
  ne : P.p ≠ P.c
section
variable {P : Pen} {n m : Nat} {H H0 H' : Hp} {s r s' r' : Int} {p : Addr} {o : HO}
theorem KP.of (h : PenAt P n H) : ∃ s r : Int, 0 ≤ s ∧ s ≤ n ∧ 0 ≤ r ∧ KP P H H s r := by
  obtain ⟨s, r, h1, h2, h3, h4⟩ := h.ex
  exact ⟨s, r, h1, h2, h3, KeepB.refl, h4, h.cells, h.ne⟩
theorem KP.set (h : KP P H0 H s r) : KP P H0 (upd H P.p (penO P s' r')) s' r' :=
  ⟨fun b o nb e => by rw [upd_ne nb]; exact h.keep b o nb e, upd_same, by rw [upd_ne h.ne.symm]; exact h.cells, h.ne⟩
theorem KP.new (h : KP P H0 H s r) (hp : H p = none) : KP P H0 (upd H p o) s r :=
  ⟨h.keep.new hp, by rw [upd_ne (ne_of_none h.pen hp)]; exact h.pen, by rw [upd_ne (ne_of_none h.cells hp)]; exact h.cells, h.ne⟩
theorem KP.done (h : KP P H0 H s r) (h1 : 0 ≤ s) (h2 : s ≤ n) (h3 : 0 ≤ r) (hl : P.ns.length ≤ 63) : PenAt P n H := ⟨⟨s, r, h1, h2, h3, h.pen⟩, h.cells, hl, h.ne⟩
end
theorem r_ixLi {K : PySem.W.Frag} {H : Hp} {a : Addr} {ns : List Int} {k : Int} {Q : VK} (h : H a = some (.lst (ns.map V.int))) (h0 : 0 ≤ k) (h1 : k < ns.length) (q : ∀ c, ns[k.toNat]? = some c → Q (.int c) H) : rIx K (.ref a) (.int k) H Q := by
  obtain ⟨j, rfl⟩ := Int.eq_ofNat_of_zero_le h0
  have hj : j < ns.length := by omega
  have e : (ns.map V.int)[j]? = some (V.int ns[j]) := by simp [hj]
  exact r_ixL (SqL.of h) (atI_nat e) (q ns[j] (by simp [hj]))
theorem mulB {a b x y : Int} (h0 : 0 ≤ a) (h1 : a ≤ x) (h2 : 0 ≤ b) (h3 : b ≤ y) : 0 ≤ a * b ∧ a * b ≤ x * y := ⟨Int.mul_nonneg h0 h2, Int.mul_le_mul h1 h3 h2 (by omega)⟩
end Cs

set_option Elab.async false
set_option linter.all false
set_option maxRecDepth 100000
set_option maxHeartbeats 4000000
/-! LayH: from the facts of the written part to the makers of errors, the callees. -/
namespace Cs
open PySem PySem.Spec PyProof.Rows L2 PySem.ErrX
section
variable {K : PySem.W.Frag} {C : Addr} {t : Value} {v : Bool}
theorem kit_self : PySem.W.kitOne K (.ref C) (.ref C) = some true := by
  unfold PySem.W.kitOne
  rw [if_pos (beq_self_eq_true _)]
theorem kitc_own (i : PySem.W.isClsIn K C = true) (ty : PySem.W.typeIn K (.ref C) = some (.type "type")) (s : PySem.W.subIn K t (.ref C) = some v) : PySem.W.kitCls K t (.ref C) = some v := by
  unfold PySem.W.kitCls
  have i' : (PySem.W.clsIn K C).isSome = true := i
  simp only [i', ty]
  exact s
theorem kit_own {T : String} (i : PySem.W.isClsIn K C = true) (ty : PySem.W.typeIn K (.ref C) = some (.type "type")) (s : PySem.W.subIn K (.type T) (.ref C) = some v) : PySem.W.kitOne K (.type T) (.ref C) = some v := by
  unfold PySem.W.kitOne
  rw [if_neg (by simp)]
  exact kitc_own i ty s
theorem kit_bt {T : String} (s : PySem.W.subIn K (.ref C) (.type T) = some v) (m : PySem.W.kitMeta T = true := by decide +kernel) : PySem.W.kitOne K (.ref C) (.type T) = some v := by
  unfold PySem.W.kitOne
  rw [if_neg (by simp)]
  unfold PySem.W.kitCls
  simp only [m, if_true]
  exact s
theorem exm_own {A : Addr} (e : PySem.W.subIn K (.ref C) (.type "BaseException") = some true) (i : PySem.W.isClsIn K C = true) (ty : PySem.W.typeIn K (.ref C) = some (.type "type")) (s : PySem.W.subIn K (.ref A) (.ref C) = some v) : PySem.W.exmOne K (.ref A) (.ref C) = some v := by
  unfold PySem.W.exmOne
  rw [e, if_pos (by decide)]
  exact kitc_own i ty s
end
section
variable {P : Program} {w : World} {K : PySem.W.Frag} {mg : Str → Option Value} {base : Heap} {C fI : Addr} {params : Arguments} {scope : Scope} {msg f g : Str} {p0 p1 p2 p3 p4 p5 q0 q1 q2 q3 r0 r1 r2 r3 : Pos}
theorem emk1 (T : ECls P K C fI) (S : EShape params scope [f]) (F : EFun P K C fI params [sup msg p0 p1 p2 p3 p4 p5, sto f q0 q1 q2 q3] scope) (nof : PySem.W.findIn K (.ref C) f = some none)
    (hb : ∀ (s : Shared) (x : Addr) (v : Value) (qual : Str) (kV doc pm ct : Value) (an : Option Addr) (cda cc : Addr), BindsTo s (PySem.W.ksFn "__init__" qual params [sup msg p0 p1 p2 p3 p4 p5, sto f q0 q1 q2 q3] scope .none kV doc pm an (.ref cda) ct cc) ⟨[.ref x, v], []⟩ [("self", .ref x), (f, v)])
    (hev : ∀ (L cda cc : Addr) (qual : Str), interactive (PySem.W.ksEnv qual scope L fI (.ref cda) cc) = false ∧ (∃ pl, SupEv msg p0 p1 p2 p3 p4 pl (PySem.W.ksEnv qual scope L fI (.ref cda) cc)) ∧
      swapsWith (.Name f q2) (some (.Attribute (.Name "self" q0) f q1)) q3.line (PySem.W.ksEnv qual scope L fI (.ref cda) cc) = pure false) : EMk P w K mg base C fI [f] where
  T := T
  run := fun M {A s R x t0 us} hl kb hx hbx hroom hq => by
    match us, hl with
    | [v], _ =>
      refine err_init1 M kb T S F hx hbx hroom nof (hb s x v) hev fun h' tk dx I => hq h' tk dx ?_
      have e : (fun y => ([f].zip [v]).lookup y) = fun y => if y = f then some v else none := by
        funext y
        simp only [List.zip_cons_cons, List.zip_nil_right, List.lookup_cons, List.lookup_nil]
        by_cases h : y = f
        · rw [if_pos h, h, beq_self_eq_true]
        · rw [if_neg h, beq_eq_false_iff_ne.mpr h]
      rw [e]
      exact I
  no := fun x hx => by rw [List.mem_singleton.mp hx]; exact nof
theorem emk2 (T : ECls P K C fI) (S : EShape params scope [f, g]) (F : EFun P K C fI params [sup msg p0 p1 p2 p3 p4 p5, sto f q0 q1 q2 q3, sto g r0 r1 r2 r3] scope) (nof : PySem.W.findIn K (.ref C) f = some none) (nog : PySem.W.findIn K (.ref C) g = some none)
    (hb : ∀ (s : Shared) (x : Addr) (v u : Value) (qual : Str) (kV doc pm ct : Value) (an : Option Addr) (cda cc : Addr), BindsTo s (PySem.W.ksFn "__init__" qual params [sup msg p0 p1 p2 p3 p4 p5, sto f q0 q1 q2 q3, sto g r0 r1 r2 r3] scope .none kV doc pm an (.ref cda) ct cc) ⟨[.ref x, v, u], []⟩ [("self", .ref x), (f, v), (g, u)])
    (hev : ∀ (L cda cc : Addr) (qual : Str), interactive (PySem.W.ksEnv qual scope L fI (.ref cda) cc) = false ∧ (∃ pl, SupEv msg p0 p1 p2 p3 p4 pl (PySem.W.ksEnv qual scope L fI (.ref cda) cc)) ∧
      swapsWith (.Name f q2) (some (.Attribute (.Name "self" q0) f q1)) q3.line (PySem.W.ksEnv qual scope L fI (.ref cda) cc) = pure false ∧ swapsWith (.Name g r2) (some (.Attribute (.Name "self" r0) g r1)) r3.line (PySem.W.ksEnv qual scope L fI (.ref cda) cc) = pure false) : EMk P w K mg base C fI [f, g] where
  T := T
  run := fun M {A s R x t0 us} hl kb hx hbx hroom hq => by
    match us, hl with
    | [v, u], _ =>
      refine err_init2 M kb T S F hx hbx hroom nof nog (hb s x v u) hev fun h' tk dx I => hq h' tk dx ?_
      have gf : f ≠ g := by
        have z := S.nd
        simp at z
        exact z
      have e : (fun y => ([f, g].zip [v, u]).lookup y) = fun y => if y = g then some u else if y = f then some v else none := by
        funext y
        simp only [List.zip_cons_cons, List.zip_nil_right, List.lookup_cons, List.lookup_nil]
        by_cases h : y = f
        · rw [h, beq_self_eq_true, if_neg gf, if_pos rfl]
        · rw [beq_eq_false_iff_ne.mpr h, if_neg h]
          by_cases h2 : y = g
          · rw [if_pos h2, h2, beq_self_eq_true]
          · rw [if_neg h2, beq_eq_false_iff_ne.mpr h2]
      rw [e]
      exact I
  no := fun x hx => by
    rcases List.mem_cons.mp hx with rfl | hx
    · exact nof
    · rw [List.mem_singleton.mp hx]; exact nog
end
end Cs

set_option Elab.async false
set_option linter.all false
set_option maxRecDepth 100000
set_option maxHeartbeats 4000000
/-! LayW: words struck: every order of striking gives one word. -/
namespace Cs
open PySem PySem.Spec PyProof.Rows L2
/-- a letter set ahead of a word -/
def act (c : Nat) : List Nat → List Nat
  | [] => [c]
  | d :: r => if und c = d then r else c :: d :: r
theorem act_hit {c : Nat} {r : List Nat} : act c (und c :: r) = r := by
  show (if und c = und c then r else c :: und c :: r) = r
  rw [if_pos rfl]
theorem act_miss {c d : Nat} {r : List Nat} (h : und c ≠ d) : act c (d :: r) = c :: d :: r := by
  show (if und c = d then r else c :: d :: r) = _
  rw [if_neg h]
/-- the word that a text comes to -/
def val (w : List Nat) : List Nat := w.foldr act []
theorem val_nil : val [] = [] := rfl
theorem val_cons (c : Nat) (w : List Nat) : val (c :: w) = act c (val w) := rfl
theorem val_app (a b : List Nat) : val (a ++ b) = a.foldr act (val b) := by unfold val; rw [List.foldr_append]
theorem gd_cons {c : Nat} {w : List Nat} : gd [] (c :: w) = true ↔ isL c = true ∧ gd [c] w = true := by
  simp [gd, badC]
theorem gd_tail {a : List Nat} {w : List Nat} (h : gd a w = true) : gd [] w = true := by
  cases w with
  | nil => rfl
  | cons c r =>
    simp only [gd, badC, Bool.and_eq_true, Bool.not_eq_true', Bool.or_eq_false_iff] at h ⊢
    exact ⟨⟨h.1.1, by simp⟩, h.2⟩
theorem gd_ahead {c d : Nat} {r : List Nat} (hc : isL c = true) (h : gd [] (d :: r) = true) (hn : und c ≠ d) : gd [c] (d :: r) = true := by
  obtain ⟨h1, h2⟩ := gd_cons.mp h
  simp only [gd, badC, h1, h2, Bool.and_true, Bool.not_true, Bool.false_or, Bool.not_eq_true', decide_eq_false_iff_not, List.map_cons, List.map_nil]
  exact fun z => hn (by simpa using z.symm)
theorem act_good {c : Nat} {w : List Nat} (hc : isL c = true) (h : Good w) : Good (act c w) := by
  rw [good_gd] at h ⊢
  cases w with
  | nil => exact gd_cons.mpr ⟨hc, rfl⟩
  | cons d r =>
    by_cases e : und c = d
    · subst e
      rw [act_hit]
      exact gd_tail (gd_cons.mp h).2
    · rw [act_miss e]
      exact gd_cons.mpr ⟨hc, gd_ahead hc h e⟩
theorem val_good {w : List Nat} (h : AllL w) : Good (val w) := by
  induction w with
  | nil => rfl
  | cons c w ih => exact act_good (h c List.mem_cons_self) (ih fun d hd => h d (List.mem_cons_of_mem _ hd))
theorem foldr_good {a w : List Nat} (ha : AllL a) (h : Good w) : Good (a.foldr act w) := by
  induction a with
  | nil => exact h
  | cons c a ih => exact act_good (ha c List.mem_cons_self) (ih fun d hd => ha d (List.mem_cons_of_mem _ hd))
theorem act_act {c : Nat} {w : List Nat} (hc : isL c = true) (h : Good w) : act c (act (und c) w) = w := by
  cases w with
  | nil =>
    show act c [und c] = []
    exact act_hit
  | cons d r =>
    by_cases e : c = d
    · subst e
      have z : act (und c) (c :: r) = r := by
        have q := act_hit (c := und c) (r := r)
        rw [und_und hc] at q
        exact q
      rw [z]
      cases r with
      | nil => rfl
      | cons x r =>
        rw [good_gd, gd_cons] at h
        have z := h.2
        simp only [gd, badC, Bool.and_eq_true, Bool.not_eq_true', Bool.or_eq_false_iff, decide_eq_false_iff_not, List.map_cons, List.map_nil] at z
        exact act_miss fun q => z.1.2 (by rw [q])
    · rw [act_miss (c := und c) (by rw [und_und hc]; exact e)]
      exact act_hit
/-- a word comes to itself -/
theorem val_self {w : List Nat} (h : Good w) : val w = w := by
  induction w with
  | nil => rfl
  | cons c w ih =>
    rw [good_gd] at h
    obtain ⟨h1, h2⟩ := gd_cons.mp h
    rw [val_cons, ih (good_gd.mpr (gd_tail h2))]
    cases w with
    | nil => rfl
    | cons d r =>
      simp only [gd, badC, Bool.and_eq_true, Bool.not_eq_true', Bool.or_eq_false_iff, decide_eq_false_iff_not, List.map_cons, List.map_nil] at h2
      exact act_miss fun q => h2.1.2 (by rw [q])
/-- striking two letters side by side changes nothing -/
theorem val_strike {a b : List Nat} {c : Nat} (hc : isL c = true) (hb : AllL b) : val (a ++ c :: und c :: b) = val (a ++ b) := by
  rw [val_app, val_app, val_cons, val_cons, act_act hc (val_good hb)]
theorem foldr_val {a b : List Nat} (hb : Good b) : a.foldr act b = val (a ++ b) := by rw [val_app, val_self hb]
/-- a ++ b comes to what a's word and b's word come to -/
theorem val_vals {a b : List Nat} (ha : AllL a) (hb : AllL b) : val (val a ++ val b) = val (a ++ b) := by
  have go : ∀ (a : List Nat), AllL a → ∀ w, Good w → (val a).foldr act w = a.foldr act w := by
    intro a
    induction a with
    | nil => intro _ w _; rfl
    | cons c a ih =>
      intro ha w hw
      have hc := ha c List.mem_cons_self
      have ha' : AllL a := fun d hd => ha d (List.mem_cons_of_mem _ hd)
      rw [val_cons, List.foldr_cons, ← ih ha' w hw]
      cases e : val a with
      | nil => rfl
      | cons d r =>
        have hg : Good (d :: r) := by rw [← e]; exact val_good ha'
        by_cases q : und c = d
        · subst q
          rw [act_hit, List.foldr_cons]
          exact (act_act hc (foldr_good (fun x hx => good_L hg x (List.mem_cons_of_mem _ hx)) hw)).symm
        · rw [act_miss q, List.foldr_cons]
  rw [val_app, val_self (val_good hb), go a ha _ (val_good hb), val_app]
end Cs

set_option Elab.async false
set_option linter.all false
set_option maxRecDepth 100000
set_option maxHeartbeats 4000000
/-! LayI: operators of an own class, by its own defs. -/
namespace Cs
open PySem PySem.Spec PyProof.Rows L2
section
variable {X : Cx} {CXc : CXT} {k j : Nat} {C f : Addr} {fd : FuncData} {ps : List Str} {sp : Sp} {E : XK} {pins : List (Addr × Obj)} {σ : L2.St} {H : Hp} {s : Shared} {Q : VK}
/-- what a value that V has is for an operator: no NotImplemented -/
theorem cmpBack_of {u : Value} {s' : Shared} (h : EP X pins σ Q u s') : PySem.W.CmpBack (EP X pins σ Q) u s' := by
  cases u with
  | notImplemented =>
    obtain ⟨v, H', I, r, q⟩ := h
    cases v <;> first
      | (have r : ∃ t, _ = _ := r; obtain ⟨_, r⟩ := r; exact nomatch r)
      | exact nomatch r
  | _ => exact h
/-- an instance as the library sees it -/
theorem inst_of {a dx : Addr} {fs : List (Str × V)} (I : Inv X pins σ H s) (h : H a = some (.ins C dx fs)) : ∃ ox od, PySem.W.InstAt s.heap a ox C od := by
  obtain ⟨mA, O, _⟩ := ins_get I.hok h
  obtain ⟨od, J, _⟩ := O.look
  exact ⟨_, od, J⟩
theorem op_ownB {op : Operator} (F : FnOk X.prog X.w X.K X.mg X.base CXc k f fd ps sp) (hr : Room k X.A) (sf : PySem.W.selfFirst X.K C = true) (hs : PySem.W.findIn X.K (.ref C) (PySem.dunder op.info.2) = some (some (.ref f))) (hf : PySem.W.isFn X.K (.ref f) = true)
    (hb : Binds X.K fd ps []) (hx : Passes CXc X E) : OpR X (binaryOp op) (fun x y H Q => ∃ a b dx dy fs gs, x = .ref a ∧ y = .ref b ∧ H a = some (.ins C dx fs) ∧ H b = some (.ins C dy gs) ∧ sp [.ref a, .ref b] H Q E) := by
  intro pins s σ H x y v u Q I rx ry h
  obtain ⟨a, b, dx, dy, fs, gs, rfl, rfl, ha, hb', q⟩ := h
  cases rx
  cases ry
  obtain ⟨_, _, J⟩ := inst_of I ha
  obtain ⟨_, _, J'⟩ := inst_of I hb'
  obtain ⟨m, hF⟩ := I.fr
  refine PySem.W.binop_K hF I.ok.mod.kin J J'.type sf hs hf ?_
  have r2 : Vals [V.ref a, V.ref b] [Value.ref a, Value.ref b] := .cons rfl (.cons rfl .nil)
  exact wpAny_mono (run_fn (dvs := []) (ds := []) F hr hb .nil hx I r2 (by simpa using q)) (fun _ _ z => cmpBack_of z) fun _ _ z => z
theorem un_ownI (F : FnOk X.prog X.w X.K X.mg X.base CXc k f fd ps sp) (hr : Room k X.A) (hs : PySem.W.findIn X.K (.ref C) "__invert__" = some (some (.ref f))) (hf : PySem.W.isFn X.K (.ref f) = true)
    (hb : Binds X.K fd ps []) (hx : Passes CXc X E) : UnR X (unaryOp .Invert) (fun x H Q => ∃ a dx fs, x = .ref a ∧ H a = some (.ins C dx fs) ∧ sp [.ref a] H Q E) := by
  intro pins s σ H x v Q I rx h
  obtain ⟨a, dx, fs, rfl, ha, q⟩ := h
  cases rx
  obtain ⟨_, _, J⟩ := inst_of I ha
  obtain ⟨m, hF⟩ := I.fr
  have r2 : Vals [V.ref a] [Value.ref a] := .cons rfl .nil
  exact PySem.W.ksp_inv hF I.ok.mod.kin J hs hf (run_fn (dvs := []) (ds := []) F hr hb .nil hx I r2 (by simpa using q))
/-- a def called at another place of the same frames -/
theorem run_fnA {A : Around} {us : List Value} {vs : List V} (F : FnOk X.prog X.w X.K X.mg X.base CXc k f fd ps sp) (hA : A.frames = X.A.frames) (hr : Room k A) (hb : Binds X.K fd ps []) (hx : Passes CXc X E) (I : Inv X pins σ H s) (r : Vals vs us) (h : sp vs H Q E) :
    wpAny (model X.prog X.w) A (call (.ref f) us) (EP X pins σ Q) X.xe s := by
  have e0 : Env0 X.prog X.w X.K X.mg X.base A X.stack s H := by
    have e := I.env0
    exact ⟨by rw [hA]; exact e.frames, e.mod, e.bs, e.bsz, e.funs, e.frf, e.hok, e.bare⟩
  have hl := F.len _ _ _ _ h
  refine wpAny_call (codeAny_mono (F.run A X.stack s H ⟨us, []⟩ us vs Q E hr e0 (by
    have := hb s us I.kIn (by rw [List.append_nil, ← r.length]; exact hl)
    simpa using this) r h) fun r s' hq => ?_)
  cases r with
  | error e => exact hx pins σ H s e s' I hq
  | ok fl =>
    cases fl with
    | ret u => exact I.after hq
    | next => exact False.elim hq
    | brk => exact False.elim hq
    | cont => exact False.elim hq
theorem call_lenOwn (F : FnOk X.prog X.w X.K X.mg X.base CXc k f fd ps sp) (hr : Room (k + 1) X.A) (hs : PySem.W.findIn X.K (.ref C) "__len__" = some (some (.ref f))) (hf : PySem.W.isFn X.K (.ref f) = true)
    (hb : Binds X.K fd ps []) (hx : Passes CXc X E) : CallR X (.builtin "len") (fun xs H Q => ∃ a dx fs, xs = [.ref a] ∧ H a = some (.ins C dx fs) ∧ sp [.ref a] H (fun v H' => ∃ n : Nat, v = .int (n : Nat) ∧ n < 2 ^ 63 ∧ Q (.int (n : Nat)) H') E) := by
  intro pins s σ H xs us Q I r h
  obtain ⟨a, dx, fs, rfl, ha, q⟩ := h
  obtain ⟨u, rfl, rx⟩ := vals1 r
  cases rx
  obtain ⟨_, _, J⟩ := inst_of I ha
  obtain ⟨m, hF⟩ := I.fr
  have r2 : Vals [V.ref a] [Value.ref a] := .cons rfl .nil
  refine PySem.W.len_K hF I.ok.mod.kin J hs hf (wpAny_mono (run_fnA (A := X.A.in1) F rfl hr.in1 hb hx I r2 q) (fun v s' z => ?_) fun _ _ z => z)
  obtain ⟨v', H', I', rv, n, rfl, hn, q'⟩ := z
  obtain ⟨t, rfl⟩ := rv
  exact ⟨⟨by omega, by omega⟩, .int (n : Nat), H', I'.tok _, ⟨_, rfl⟩, q'⟩
theorem call_strOwn (F : FnOk X.prog X.w X.K X.mg X.base CXc k f fd ps sp) (hr : Room (k + 2) X.A) (hs : PySem.W.findIn X.K (.ref C) "__str__" = some (some (.ref f))) (hf : PySem.W.isFn X.K (.ref f) = true)
    (hb : Binds X.K fd ps []) (hx : Passes CXc X E) : CallR X (.type "str") (fun xs H Q => ∃ a dx fs, xs = [.ref a] ∧ H a = some (.ins C dx fs) ∧ sp [.ref a] H (fun v H' => ∃ z, v = .str z ∧ Q (.str z) H') E) := by
  intro pins s σ H xs us Q I r h
  obtain ⟨a, dx, fs, rfl, ha, q⟩ := h
  obtain ⟨u, rfl, rx⟩ := vals1 r
  cases rx
  obtain ⟨_, _, J⟩ := inst_of I ha
  have r2 : Vals [V.ref a] [Value.ref a] := .cons rfl .nil
  have hr1 : Room (k + 1) X.A.in1 := hr.in1
  refine PySem.W.kso_call (A := X.A) (by have := hr1.in1.un; omega) I.kIn J hs hf (wpAny_mono (run_fnA (A := X.A.in1.in1) F rfl hr1.in1 hb hx I r2 q) (fun v s' z => ?_) fun _ _ z => z)
  obtain ⟨v', H', I', rv, y, rfl, q'⟩ := z
  obtain ⟨t, rfl⟩ := rv
  exact ⟨.str y, H', I', ⟨_, rfl⟩, q'⟩
theorem op_cmpOwn {op : CmpOp} (hop : ∀ v u : Value, compareOp op v u = richCompare op v u) (F : FnOk X.prog X.w X.K X.mg X.base CXc k f fd ps sp) (hr : Room k X.A) (hs : PySem.W.findIn X.K (.ref C) (cmpInfo op).2.1 = some (some (.ref f))) (hf : PySem.W.isFn X.K (.ref f) = true)
    (hb : Binds X.K fd ps []) (hx : Passes CXc X E) : OpR X (compareOp op) (fun x y H Q => ∃ a b dx dy fs gs, x = .ref a ∧ y = .ref b ∧ H a = some (.ins C dx fs) ∧ H b = some (.ins C dy gs) ∧ sp [.ref a, .ref b] H Q E) := by
  intro pins s σ H x y v u Q I rx ry h
  obtain ⟨a, b, dx, dy, fs, gs, rfl, rfl, ha, hb', q⟩ := h
  cases rx
  cases ry
  obtain ⟨_, _, J⟩ := inst_of I ha
  obtain ⟨_, _, J'⟩ := inst_of I hb'
  obtain ⟨m, hF⟩ := I.fr
  rw [hop]
  have r2 : Vals [V.ref a, V.ref b] [Value.ref a, Value.ref b] := .cons rfl (.cons rfl .nil)
  refine PySem.W.cmp_K (tb := .ref C) hr.units0 hF I.ok.mod.kin J J'.type (by simp [PySem.W.notFirst]) hs hf ?_
  exact wpAny_mono (run_fn (dvs := []) (ds := []) F hr hb .nil hx I r2 (by simpa using q)) (fun _ _ z => cmpBack_of z) fun _ _ z => z
theorem op_eqOwn (F : FnOk X.prog X.w X.K X.mg X.base CXc k f fd ps sp) (hr : Room k X.A) (hs : PySem.W.findIn X.K (.ref C) "__eq__" = some (some (.ref f))) (hf : PySem.W.isFn X.K (.ref f) = true)
    (hb : Binds X.K fd ps []) (hx : Passes CXc X E) : OpR X (compareOp .Eq) (fun x y H Q => ∃ a b dx dy fs gs, x = .ref a ∧ y = .ref b ∧ H a = some (.ins C dx fs) ∧ H b = some (.ins C dy gs) ∧ sp [.ref a, .ref b] H Q E) :=
  op_cmpOwn (op := .Eq) (fun _ _ => rfl) F hr hs hf hb hx
end
end Cs

set_option Elab.async false
set_option linter.all false
set_option maxRecDepth 100000
set_option maxHeartbeats 4000000
/-! LayJ: x != y by the class's own __eq__ (no own __ne__). -/
namespace PySem.ErrX
open PySem PySem.W PySem.Calls PyProof.Rows PySem.Spec
section
variable {prog : Program} {w : World} {A : Around} {E : Value → Shared → Prop} {s : Shared} {K : Frag} {x C L f : Addr} {h₀ : Heap} {m : Str → Option Value} {ox : Obj} {od : Option Obj} {b tb : Value}
/-- what the own == must give here -/
def BoolBk (Q : Bool → Shared → Prop) (v : Value) (s' : Shared) : Prop := ∃ r, v = .bool r ∧ Q r s'
theorem ifB_builtin {M : Model} {name : Str} {id : String} {args : List Value} {Q : Option Value → Shared → Prop} (X : K.In s.heap) (I : InstAt s.heap x ox C od) (hs : findIn K (.ref C) name = some (some (.builtin id))) (S : Slot "object" name id)
    (h : wpAny M A (call (.builtin id) (.ref x :: args)) (fun v => Q (some v)) E s) : wpAny M A (callSpecialIfBound? (.ref x) name args) Q E s := by
  simp only [callSpecialIfBound?, bindSpecialIfBound?]
  refine wpAny_holding (wpAny_bind (wpAny_bind (wpAny_bind (I.type.here ((looks_findIn X hs).here ?_)))))
  simp only [S.bind]
  refine wpAny_bind (wpAny_askSetting (wpAny_ite ?_))
  have fin : wpAny M A (call (.builtin id) ([.ref x] ++ args) >>= fun v => pure (some v)) Q E s := wpAny_bind (wpAny_mono h (fun v s' h' => wpAny_pure h') fun _ _ h' => h')
  split
  · exact wpAny_bind (wpAny_pure (wpAny_pure fin))
  · exact wpAny_tryCatch (wpAny_bind (wpAny_pure (wpAny_pure fin)))
theorem check_slotK {M : Model} {i owner n : String} {self : Value} {rest : List Value} {Q : Unit → Shared → Prop} (hk : builtinKind i = some .slot) (hs : splitId i = some (owner, n)) (hi : Looks M s.heap (isInstance self (.type owner)) true) (ha : argsOk i ⟨self :: rest, []⟩) (q : Q () s) :
    wpAny M A (checkBuiltinCall i ⟨self :: rest, []⟩) Q E s := by
  simp only [checkBuiltinCall, hk, hs]
  refine wpAny_bind (hi.here ?_)
  cases hsig : Manifest.signature? i with
  | none => first | exact wpAny_pure q | (simp only [Bool.not_true, Bool.false_eq_true, if_false]; exact wpAny_pure q)
  | some sig =>
    simp only [argsOk, hsig] at ha
    have h2 : Bind.checkArgs i sig ⟨self :: rest, []⟩ = pure () := ha
    simp only [Bool.not_true, Bool.false_eq_true, if_false]
    show wpAny M A (Bind.checkArgs i sig ⟨self :: rest, []⟩) Q E s
    rw [h2]; exact wpAny_pure q
theorem objNe_K (hu : A.units < cLine) (X : K.In s.heap) (I : InstAt s.heap x ox C od) (hs : findIn K (.ref C) "__eq__" = some (some (.ref f))) (hf : isFn K (.ref f) = true) {Q : Fin → Shared → Prop}
    (h : wpAny (model prog w) A (call (.ref f) [.ref x, b]) (BoolBk fun r s' => Q (.done (.ret (.bool (!r)))) s') E s) : wpAny (model prog w) A (Builtin.«object.__ne__» ⟨[.ref x, b], []⟩) Q E s := by
  unfold Builtin.«object.__ne__»
  repeat (first
    | with_reducible refine wpAny_cRoomFor hu ?_
    | (refine wpAny_bind (m := callSpecialIfBound? (.ref x) (Str.ofString "__eq__") [b])
        (ifBound_K X I hs hf (wpAny_mono h (fun v s' hr => by
          obtain ⟨r, rfl, hq⟩ := hr
          repeat (first | exact hq | exact wpAny_pure hq | exact wpAny_truthy_bool hq | (refine wpAny_bind (m := truthy (.bool _)) (wpAny_truthy_bool ?_)) | wp_step)) fun _ _ e => e)))
    | wp_step)
end
end PySem.ErrX

set_option Elab.async false
set_option linter.all false
set_option maxRecDepth 100000
set_option maxHeartbeats 4000000
/-! LayK: lambdas handed to a def that tells which error they raise; tables of code objects. -/
namespace Cs
open PySem PySem.Spec PyProof.Rows L2 LamX
/-- the error that a lambda raises, None else -/
def THeard (K : PySem.W.Frag) (CS : Addr) : (XK → Hp → VK → Prop) → Hp → VK → Prop := fun tl H Q =>
  tl (fun cls d H' => PySem.W.exmOne K cls (.ref CS) = some true ∧ ∀ a, H' a = none → Q (.ref a) (upd H' a (EXV cls d a))) H (fun _ H' => Q .non H')
theorem takes_len {X : Cx} {W : WX} (tk : Takes X W) : Takes X (fun cls d σ' H' => σ'.length = X.N.length → W cls d σ' H') := fun e s' ⟨a, B, sI, pins', σ', H', cls, d, e1, J, nb, up, sky, na, os, ag, w⟩ =>
  tk _ _ ⟨a, B, sI, pins', σ', H', cls, d, e1, J, nb, up, sky, na, os, ag, w J.len⟩
theorem set_at {σ : L2.St} {i : Nat} {x : Option V} (h : i < σ.length) : (σ.set i x)[i]? = some x := by
  rw [List.getElem?_set_self h]
section
variable {X : Cx}
theorem heard_gives {x q : Str} {sg : Scope} {g CS : Addr} {cdg : Value} {j : Nat} {p1 p2 p3 p4 p5 p6 p7 p8 p9 p10 p11 p12 p13 p14 : Pos} (hm : X.mg "BallError" = some (.ref CS)) (hge : sg.names.lookup ("BallError" : Str) = some .globalImplicit)
    (h1 : sg.names.lookup ("ask" : Str) = some .local) (h2 : sg.names.lookup ("caught" : Str) = some .local) (h3 : sg.names.lookup ("error" : Str) = some .local) :
    GivesTo X ["ask", "caught", "error"] x sg g cdg [.Assign [.Name "caught" p1] (.Constant .none j p2) p3, .Try [.Expr (.Call (.Name "ask" p4) [] [] p5) p6] [.ExceptHandler (some (.Name "BallError" p7)) (some "error") [.Assign [.Name "caught" p8] (.Name "error" p9) p10] p11] [] [] p12,
      .Return (some (.Name "caught" p13)) p14] "ask" q (THeard X.K CS) := by
  intro f c' s H Q tl act hc h
  have nd : (["ask", "caught", "error"] : List Str).Nodup := by decide +kernel
  have hgl : Gl (cxOf C8.CX0 X.prog X.w X.K X.mg X.base ["ask", "caught", "error"] x sg g cdg X.A X.stack s H C8.E0).nox "BallError" := hge
  refine ⟨_, pss_cons (ps_asg pe_non (pg_name (i := 1) nd rfl (.inl h2))) (pss_cons (ps_tryE (X := (cxOf C8.CX0 X.prog X.w X.K X.mg X.base ["ask", "caught", "error"] x sg g cdg X.A X.stack s H C8.E0).nox) (l := [(.ref CS, some 2, _)])
      (tb := fun W D σ H => ∃ Ech : XK, (∀ cls d σ' H', Ech cls d H' → σ'.length = 3 → W cls d σ' H') ∧ σ[0]? = some (some (.ref f)) ∧ H c' = some (CodeO c' q) ∧ tl Ech H (fun _ H' => D.nx σ H'))
      rfl rfl nd rfl L2.takes0 (fun W pn xe tk _ => ?_) (.as ⟨hgl, by decide, .inl hm⟩ rfl h3 (fun a pn => pss_one (ps_asg (pv 2 rfl (.inl h3)) (pg_name (i := 1) nd rfl (.inl h2)))) .nil)) (pss_one (ps_ret (pv 1 rfl (.inl h2))))), ?_⟩
  · refine ⟨fun pins s' σ H' D I h' => ?_⟩
    obtain ⟨Ech, hW, e1, e2, e3⟩ := h'
    have hp := act (fun cls d σ' H' => σ'.length = 3 → W cls d σ' H') pn xe Ech p4 p5 (takes_len tk) (fun cls d σ' H' e hl => hW cls d σ' H' e hl)
    have hq := pss_one (ps_expr (pos := p6) hp)
    exact hq.run pins s' σ H' D I ⟨e1, e2, e3⟩
  · refine ⟨fun cls d H' => PySem.W.exmOne X.K cls (.ref CS) = some true ∧ ∀ a, H' a = none → Q (.ref a) (upd H' a (EXV cls d a)), fun cls d σ' H' hE hl => ?_, rfl, hc, ?_⟩
    · refine ⟨true, hE.1, fun _ a ha => ?_, fun z => nomatch z⟩
      refine ⟨.ref a, set_at (by omega), ?_⟩
      refine ⟨.ref a, ?_, hE.2 a ha⟩
      rw [List.getElem?_set_ne (by decide)]
      exact set_at (by rw [List.length_set]; omega)
    · have e : (fun (_ : V) (H' : Hp) => tRet (tVar 1) { nx := fun _ H' => Q V.non H', rt := Q } (List.set (L2.start ["ask", "caught", "error"] [V.ref f]) 1 (some V.non)) H') = fun _ H' => Q .non H' := by
        funext _ H'
        refine propext ⟨fun ⟨v, e, q⟩ => ?_, fun q => ⟨.non, rfl, q⟩⟩
        have z : v = .non := by
          have z : some (some V.non) = some (some v) := e
          cases z
          rfl
        rw [z] at q
        exact q
      have h := h
      unfold THeard at h
      rw [← e] at h
      exact h
end

/-- the def that hears: where it stands -/
structure HeardAt (K : PySem.W.Frag) (mg : Str → Option Value) (st : Stmt) : Prop where
  ex : ∃ (g : Addr) (fd : FuncData), Fun K "_law_heard" "_law_heard" st g fd ∧ mg "_law_heard" = some (.ref g) ∧ L2.Binds K fd ["ask"] []
/-- the maker's code object at c, its table in the list Tb -/
structure MakerAt (base : Heap) (mg : Str → Option Value) (Tb : List (Addr × Str)) (c : Addr) (q : Str) : Prop where
  ex : ∃ P, TabB base mg c P ∧ (P, q) ∈ Tb ∧ ∀ p ∈ Tb, p.1 = P → p.2 = q
/-- a def whose code object is known -/
structure FunL (K : PySem.W.Frag) (x qual : Str) (st : Stmt) (f : Addr) (fd : FuncData) (c : Addr) : Prop where
  ex : ∃ (oc : Value) (od : Option Addr) (kV doc pm : Value) (an : Option Addr) (ct : Value) (osl : Array (Option Value)),
    fd = PySem.W.fnOf x qual (defArgs st) (defBody st) (defScope st) .none kV doc pm an (.ref c) ct ∧ K.lookup f = some ⟨oc, od, .func fd, osl⟩ ∧ PySem.W.codeIn K (.ref c) qual = true
  kp : PySem.W.keepIn K (.ref f) = true
section
variable {P : Program} {w : World} {K : PySem.W.Frag} {mg : Str → Option Value} {base : Heap}
theorem FunL.fun {x qual : Str} {st : Stmt} {f c : Addr} {fd : FuncData} (F : FunL K x qual st f fd c) : Fun K x qual st f fd := by
  obtain ⟨oc, od, kV, doc, pm, an, ct, osl, e, lk, hcd⟩ := F.ex
  exact ⟨⟨oc, od, kV, doc, pm, an, _, ct, osl, e, lk, hcd⟩, F.kp⟩
theorem FunL.ok {x qual : Str} {st : Stmt} {f c : Addr} {fd : FuncData} {N ps : List Str} {k : Nat} {sp : Sp} (F : FunL K x qual st f fd c) (S : FnScope N ps (defScope st)) (len : ∀ vs H Q E, sp vs H Q E → vs.length = ps.length)
    (hbody : ∀ (A : Around) (outer : List Env) (s : Shared) (H : Hp) (vs : List V) (Q : VK) (E : XK), Room k (A.deeper (envOfC qual (defScope st) s.heap.objs.size f (.ref c))) → sp vs H Q E →
      ∃ t, PSs (cxOf L2.CX0 P w K mg base N qual (defScope st) f (.ref c) A outer s H E).nox (defBody st) t ∧ t { nx := fun _ H' => Q .non H', rt := Q } (start N vs) H) : FnOk P w K mg base L2.CX0 (k + 1) f fd ps sp := by
  obtain ⟨oc, od, kV, doc, pm, an, ct, osl, rfl, lk, hcd⟩ := F.ex
  refine fn_of lk hcd S len fun A outer s H vs Q E hr hsp => ?_
  obtain ⟨t, h, q⟩ := hbody A outer s H vs Q E hr hsp
  exact ⟨t, h.nox, q⟩
end
section
variable {X : Cx} {Tb : List (Addr × Str)} {c CS : Addr} {k j : Nat} {params : Arguments} {body : Expr} {scope : Scope} {t : XK → TE} {p lpos pos : Pos} {st : Stmt}
theorem pe_heard {K : PySem.W.Frag} (h : HeardAt X.K X.mg st) (hG : ∀ (X : Cx) (g : Addr) (cdv : Value) (q : Str), X.mg "BallError" = some (.ref CS) → GivesTo X ["ask", "caught", "error"] "_law_heard" (defScope st) g cdv (defBody st) "ask" q (THeard X.K CS)) (hB : X.mg "BallError" = some (.ref CS))
    (S : FnScope ["ask", "caught", "error"] ["ask"] (defScope st)) (hv : Vis (defScope st) "ask") (m : MakerAt X.base X.mg Tb c (X.env.qual ++ "<lambda>")) (hr : Room j X.A) (hk : k + 2 ≤ j)
    (hbody : ∀ (A : Around) (outer : List Env) (s : Shared) (H : Hp) (E : XK) (f c' : Addr), Room k (A.deeper (lamEnv X scope s.heap.objs.size f c')) → PE (lamCx X A outer s H E scope f c') body (t E))
    (L : LamS X.env.scope scope) (hg : Gl X "_law_heard" := by rfl) (hcode : X.env.code = .ref c := by rfl) (hdef : defaultsOf params X.env = ([], []) := by rfl)
    (hbind : ∀ (q : Str) (cl : List (Str × Addr)) (pm cv ctv : Value), bindArgs (PySem.W.kla_fn "<lambda>" q params body scope cl pm cv ctv) ⟨[], []⟩ = pure [] := by exact fun _ _ _ _ _ => rfl) (hK : X.K = K := by rfl) :
    PE X (.Call (.Name "_law_heard" p) [.Lambda params body scope lpos] [] pos) (tLam Tb (THeard K CS) t) := by
  subst hK
  obtain ⟨g, fd, F, hm, hb⟩ := h.ex
  obtain ⟨oc, od, kV, doc, pm, an, cdv, ct, osl, rfl, lk, hcd⟩ := F.ex
  obtain ⟨P, TB, h1, h2⟩ := m.ex
  exact pe_lamcall (k := k) hg hm F.kp lk hcd hb S rfl hv (hG X g cdv _ hB) TB hcode h1 h2 (hr.mono hk) L hdef hbind hbody
theorem r_lam {K : PySem.W.Frag} {σ : L2.St} {H : Hp} {Q : VK} (hT : Tabs Tb H) (q : ∀ H1, ExtN H H1 → Tabs Tb H1 → t (fun cls d H' => PySem.W.exmOne K cls (.ref CS) = some true ∧ ∀ a, H' a = none → Q (.ref a) (upd H' a (EXV cls d a))) σ H1 fun _ H' => Q .non H') : tLam Tb (THeard K CS) t σ H Q := ⟨hT, q⟩
end
/-! ### all but tables is kept -/
theorem sqL_ext {K : PySem.W.Frag} {H H' : Hp} {a : Addr} {xs : List V} (e : ExtN H H') (h : SqL K H a xs) : SqL K H' a xs := by
  rcases h with (h | ⟨o, h⟩) | h
  · exact .inl (.inl (e _ _ h (fun ps z => nomatch z)))
  · exact .inl (.inr ⟨o, e _ _ h (fun ps z => nomatch z)⟩)
  · exact .inr h
theorem extN_same {H H' : Hp} (e : Same H H') : ExtN H H' := fun b o h _ => e b o h
/-- the pen is at work, tables may have grown: H1 at the beginning, H2 now -/
structure LK (P : Pen) (Tb : List (Addr × Str)) (H1 : Hp) (n : Nat) (H2 : Hp) : Prop where
  k : ∀ b o, b ≠ P.p → (∀ ps, o ≠ .tbl ps) → H1 b = some o → H2 b = some o
  p : PenAt P n H2
  t : Tabs Tb H2
section
variable {P : Pen} {Tb : List (Addr × Str)} {H H1 H2 H3 : Hp} {n m : Nat} {a : Addr} {o : HO}
theorem tabs_keepB (t : Tabs Tb H) (p : PenAt P n H) (k : KeepB P H H1) : Tabs Tb H1 := fun q hq => by
  obtain ⟨_, _, _, _, _, e⟩ := p.ex
  obtain ⟨ps, h1, h2, h3⟩ := t q hq
  refine ⟨ps, k _ _ (fun z => ?_) h1, h2, fun pos cv hc => ?_⟩
  · rw [z, e] at h1
    cases h1
  · obtain ⟨c, e1, e2⟩ := h3 pos cv hc
    refine ⟨c, e1, k _ _ (fun z => ?_) e2⟩
    rw [z, e] at e2
    cases e2
theorem LK.start (p : PenAt P n H) (t : Tabs Tb H) : LK P Tb H n H := ⟨fun _ _ _ _ h => h, p, t⟩
theorem LK.same (h : LK P Tb H1 n H2) (e : Same H2 H3) : LK P Tb H1 n H3 := ⟨fun b o n1 n2 q => e _ _ (h.k b o n1 n2 q), h.p.same e, h.t.ext e⟩
theorem LK.step (h : LK P Tb H1 n H2) (k : KeepB P H2 H3) (p : PenAt P m H3) : LK P Tb H1 m H3 := ⟨fun b o n1 n2 q => k _ _ n1 (h.k b o n1 n2 q), p, tabs_keepB h.t h.p k⟩
theorem penAt_ext (h : PenAt P n H) (e : ExtN H H1) : PenAt P n H1 := by
  obtain ⟨s, r, h1, h2, h3, h4⟩ := h.ex
  exact ⟨⟨s, r, h1, h2, h3, e _ _ h4 (fun ps z => nomatch z)⟩, e _ _ h.cells (fun ps z => nomatch z), h.len, h.ne⟩
theorem LK.ext (h : LK P Tb H1 n H2) (e : ExtN H2 H3) (t : Tabs Tb H3) : LK P Tb H1 n H3 := ⟨fun b o n1 n2 q => e _ _ (h.k b o n1 n2 q) n2, penAt_ext h.p e, t⟩
theorem LK.mono (h : LK P Tb H1 n H2) (hm : n ≤ m) : LK P Tb H1 m H2 := ⟨h.k, h.p.mono hm, h.t⟩
theorem LK.ne (h : LK P Tb H1 n H2) (ha : H2 a = none) : a ≠ P.p := (h.p.ne_new ha).1.symm
/-- an object that H1 did not know may change -/
theorem LK.mut (h : LK P Tb H1 n H2) (ha : H1 a = none) (hn : a ≠ P.p) (hc : a ≠ P.c) (h2 : H2 a = some o) (no : ∀ ps, o ≠ .tbl ps) (ne : ∀ q, o ≠ CodeO a q) {o' : HO} : LK P Tb H1 n (upd H2 a o') := by
  obtain ⟨s, r, h3, h4, h5, h6⟩ := h.p.ex
  refine ⟨fun b u n1 n2 q => ?_, ⟨⟨s, r, h3, h4, h5, by rw [upd_ne hn.symm]; exact h6⟩, by rw [upd_ne hc.symm]; exact h.p.cells, h.p.len, h.p.ne⟩, fun q hq => ?_⟩
  · rw [upd_ne (ne_of_none q ha)]
    exact h.k b u n1 n2 q
  · obtain ⟨ps, g1, g2, g3⟩ := h.t q hq
    refine ⟨ps, ?_, g2, fun pos cv hc => ?_⟩
    · rw [upd_ne]
      · exact g1
      · intro z
        rw [z, h2] at g1
        exact no ps (Option.some.inj g1)
    · obtain ⟨c, e1, e2⟩ := g3 pos cv hc
      refine ⟨c, e1, ?_⟩
      rw [upd_ne]
      · exact e2
      · intro z
        rw [z, h2] at e2
        have z2 := Option.some.inj e2
        exact ne _ z2
end
end Cs

set_option Elab.async false
set_option linter.all false
set_option maxRecDepth 100000
set_option maxHeartbeats 4000000
/-! LayL: static methods, methods and makings by keyword, a making by its default, own operators with any right side, own iteration. -/
namespace Cs
open PySem PySem.Spec PyProof.Rows L2 LamX
/-- C.m is a static method -/
structure StaAt (K : PySem.W.Frag) (C : Addr) (m : Str) (f : Addr) : Prop where
  ex : ∃ (mc : Value) (p : Addr) (rest : List Value), ClX.CRead K C mc ∧ PySem.W.findCls K (.ref C) mc m = some (.get (.builtin "staticmethod.__get__") (.ref p) .none (.ref C)) ∧ PySem.W.recIn K p "staticmethod" = some (.ref f :: rest)
  kp : PySem.W.keepIn K (.ref f) = true
structure StaX (P : Program) (w : World) (K : PySem.W.Frag) (mg : Str → Option Value) (base : Heap) (CX : CXT) (k : Nat) (C : Addr) (m : Str) (sp : Sp) : Prop where
  ex : ∃ (f : Addr) (fd : FuncData) (ps : List Str), StaAt K C m f ∧ FnOk P w K mg base CX k f fd ps sp ∧ Binds K fd ps []
structure StaK (P : Program) (w : World) (K : PySem.W.Frag) (mg : Str → Option Value) (base : Heap) (CX : CXT) (k : Nat) (C : Addr) (m : Str) (ks : List Str) (sp : Sp) : Prop where
  ex : ∃ (f : Addr) (fd : FuncData) (ps : List Str), StaAt K C m f ∧ FnOk P w K mg base CX k f fd ps sp ∧ KBn K fd ps 0 ks (fun us ws => us ++ ws) (fun vs zs => vs ++ zs)
section
variable {X : Cx} {pins : List (Addr × Obj)} {σ : L2.St} {H : Hp} {s : Shared} {CX : CXT} {C f : Addr} {m : Str} {k j : Nat} {sp : Sp} {E : XK} {o e : Expr} {es : List Expr} {pos apos : Pos} {ta : TE} {t tk : TA} {pl : Sem Bool} {ks : List Str} {kws : List Keyword}
theorem getsta_ok {Q : Value × List Value → Shared → Prop} {A : Around} {E : Value → Shared → Prop} (I : Inv X pins σ H s) (S : StaAt X.K C m f) (h : ∀ s', Inv X pins σ H s' → Q (.ref f, []) s') : wpAny (model X.prog X.w) A (getMethod (.ref C) m pl) Q E s := by
  obtain ⟨mc, p, rest, r, e, hp⟩ := S.ex
  refine PySem.W.method_cls I.kIn r.ga (PySem.W.cls_bind I.kIn r.rd e ?_)
  exact wpAny_call (PySem.W.sm_get (s := { s with toks := s.toks + 1 }) I.kIn hp (PySem.W.handed_on rfl (h _ (I.tok _))))
/-- C.m(e, ..) -/
def tSta (C : Addr) (sp : Sp) (E : XK) (ta : TE) (t : TA) : TE := fun σ H Q => ta σ H fun x H1 => x = .ref C ∧ t σ H1 fun vs H2 => sp vs H2 Q E
theorem pe_sta (c : StaX X.prog X.w X.K X.mg X.base CX k C m sp) (he : PE X o ta) (hr : Room j X.A) (hk : k ≤ j) (hx : Passes CX X E) (ha : PA X (e :: es) t)
    (hst : starEach (e :: es) X.env = (false, eval e X.env) :: starEach es X.env := by rfl) (hpl : (backTo pos (starEach es X.env)).any (·.1) = false := by rfl)
    (ht : eval (.Call (.Attribute o m apos) (e :: es) [] pos) X.env = (do
      let ov ← eval o X.env
      standAt apos.atName
      let (f, first) ← holding [ov] (getMethod ov m pl)
      callWith pos f first (backTo pos (starEach (e :: es) X.env)) (backToKw pos (keywordEach [] X.env))) := by rfl) :
    PE X (.Call (.Attribute o m apos) (e :: es) [] pos) (tSta C sp E ta t) := by
  obtain ⟨f, fd, ps, S, F, hb⟩ := c.ex
  refine ⟨fun pins s σ H Q I h => ?_⟩
  refine PySem.W.methodCall_KW (pl := pl) (thn (he.run pins s σ H _ I h) fun u s1 ⟨x, H1, I1, rx, ex, q⟩ => ?_) ht
  subst ex
  obtain rfl : u = Value.ref C := rx
  refine getsta_ok I1 S fun s2 I2 => ?_
  refine PySem.W.callWith_K (first := []) (h₀ := X.base) I.ok.mod.kin S.kp (thn (ha.run pos pins s2 σ H1 _ I2 q) fun us s3 ⟨vs, H2, I3, r, q2⟩ => ⟨I3.kIn, ?_⟩) hst hpl
  exact run_fn (us := us) (vs := vs) F (hr.mono hk) hb .nil hx I3 r (by simpa using q2)
/-- C.m(k = v) -/
theorem pe_staK (c : StaK X.prog X.w X.K X.mg X.base CX k C m ks sp) (he : PE X o ta) (hr : Room j X.A) (hk : k ≤ j) (hx : Passes CX X E) (hkw : PK X kws tk)
    (hall : (backToKw pos (keywordEach kws X.env)).all (·.1.isSome) = true := by rfl) (hks : (backToKw pos (keywordEach kws X.env)).filterMap (·.1) = ks := by rfl)
    (hpl : ((backTo pos (starEach [] X.env)).any (·.1) || (backToKw pos (keywordEach kws X.env)).any (·.1.isNone)) = false := by rfl)
    (ht : eval (.Call (.Attribute o m apos) [] kws pos) X.env = (do
      let ov ← eval o X.env
      standAt apos.atName
      let (f, first) ← holding [ov] (getMethod ov m pl)
      callWith pos f first (backTo pos (starEach [] X.env)) (backToKw pos (keywordEach kws X.env))) := by rfl) :
    PE X (.Call (.Attribute o m apos) [] kws pos) (tSta C (fun zs H Q E => zs.length = ks.length ∧ sp zs H Q E) E ta tk) := by
  obtain ⟨f, fd, ps, S, F, hb⟩ := c.ex
  refine ⟨fun pins s σ H Q I h => ?_⟩
  refine PySem.W.methodCall_KW (pl := pl) (thn (he.run pins s σ H _ I h) fun u s1 ⟨x, H1, I1, rx, ex, q⟩ => ?_) ht
  subst ex
  obtain rfl : u = Value.ref C := rx
  refine getsta_ok I1 S fun s2 I2 => ?_
  refine PySem.W.callWith_KW0 (first := []) (h₀ := X.base) I.ok.mod.kin S.kp hall (thn (hkw.run pos pins s2 σ H1 _ I2 q) fun ws s3 ⟨zs, H2, I3, rz, hl, q2⟩ => ⟨I3.kIn, ?_⟩) hpl
  rw [hks]
  have r2 : Vals zs ws := rz
  refine wpAny_call (codeAny_mono (F.run X.A X.stack s3 H2 ⟨[], ks.zip ws⟩ ws zs Q E (hr.mono hk) I3.env0 ?_ r2 q2) fun r s' hq => ?_)
  · have z := hb.to s3 [] ws I3.kIn rfl (rz.length.symm.trans hl)
    simpa using z
  · cases r with
    | error e => exact hx pins σ H2 s3 e s' I3 hq
    | ok fl =>
      cases fl with
      | ret u => exact I3.after hq
      | next => exact False.elim hq
      | brk => exact False.elim hq
      | cont => exact False.elim hq
/-! ### methods of instances -/
structure MetA (P : Program) (w : World) (K : PySem.W.Frag) (mg : Str → Option Value) (base : Heap) (CX : CXT) (k : Nat) (C : Addr) (m : Str) (sp : Sp) : Prop where
  ex : ∃ (f : Addr) (fd : FuncData) (ps : List Str), Meth K C m f ∧ FnOk P w K mg base CX k f fd ps sp ∧ Binds K fd ps []
structure MetK (P : Program) (w : World) (K : PySem.W.Frag) (mg : Str → Option Value) (base : Heap) (CX : CXT) (k : Nat) (C : Addr) (m : Str) (ks : List Str) (sp : Sp) : Prop where
  ex : ∃ (f : Addr) (fd : FuncData) (ps : List Str), Meth K C m f ∧ FnOk P w K mg base CX k f fd ps sp ∧ KBn K fd ps 1 ks (fun us ws => us ++ ws) (fun vs zs => vs ++ zs)
/-- o.m(e, ..), o of the class at C -/
def tMetA (C : Addr) (m : Str) (sp : Sp) (E : XK) (ta : TE) (t : TA) : TE := fun σ H Q => ta σ H fun x H1 => ∃ a dx fs, x = .ref a ∧ H1 a = some (.ins C dx fs) ∧ fs.lookup m = none ∧ t σ H1 fun vs H2 => sp (.ref a :: vs) H2 Q E
theorem pe_metA (c : MetA X.prog X.w X.K X.mg X.base CX k C m sp) (cl : Cls X.K C) (he : PE X o ta) (hr : Room j X.A) (hk : k ≤ j) (hx : Passes CX X E) (ha : PA X (e :: es) t)
    (hst : starEach (e :: es) X.env = (false, eval e X.env) :: starEach es X.env := by rfl) (hpl : (backTo pos (starEach es X.env)).any (·.1) = false := by rfl)
    (ht : eval (.Call (.Attribute o m apos) (e :: es) [] pos) X.env = (do
      let ov ← eval o X.env
      standAt apos.atName
      let (f, first) ← holding [ov] (getMethod ov m pl)
      callWith pos f first (backTo pos (starEach (e :: es) X.env)) (backToKw pos (keywordEach [] X.env))) := by rfl) :
    PE X (.Call (.Attribute o m apos) (e :: es) [] pos) (tMetA C m sp E ta t) := by
  obtain ⟨f, fd, ps, hm, F, hb⟩ := c.ex
  refine ⟨fun pins s σ H Q I h => ?_⟩
  refine PySem.W.methodCall_KW (pl := pl) (thn (he.run pins s σ H _ I h) fun u s1 ⟨x, H1, I1, rx, a, dx, fs, ex, ea, l, q⟩ => ?_) ht
  subst ex
  obtain rfl : u = Value.ref a := rx
  refine getmeth_ok I1 ea cl hm l ?_
  refine PySem.W.callWith_K (first := [.ref a]) (h₀ := X.base) I.ok.mod.kin hm.kp (thn (ha.run pos pins s1 σ H1 _ I1 q) fun us s2 ⟨vs, H2, I2, r, q2⟩ => ⟨I2.kIn, ?_⟩) hst hpl
  exact run_fn (us := .ref a :: us) (vs := .ref a :: vs) F (hr.mono hk) hb .nil hx I2 (.cons rfl r) (by simpa using q2)
theorem pe_metK (c : MetK X.prog X.w X.K X.mg X.base CX k C m ks sp) (cl : Cls X.K C) (he : PE X o ta) (hr : Room j X.A) (hk : k ≤ j) (hx : Passes CX X E) (hkw : PK X kws tk)
    (hall : (backToKw pos (keywordEach kws X.env)).all (·.1.isSome) = true := by rfl) (hks : (backToKw pos (keywordEach kws X.env)).filterMap (·.1) = ks := by rfl)
    (hpl : ((backTo pos (starEach [] X.env)).any (·.1) || (backToKw pos (keywordEach kws X.env)).any (·.1.isNone)) = false := by rfl)
    (ht : eval (.Call (.Attribute o m apos) [] kws pos) X.env = (do
      let ov ← eval o X.env
      standAt apos.atName
      let (f, first) ← holding [ov] (getMethod ov m pl)
      callWith pos f first (backTo pos (starEach [] X.env)) (backToKw pos (keywordEach kws X.env))) := by rfl) :
    PE X (.Call (.Attribute o m apos) [] kws pos) (tMetA C m (fun zs H Q E => zs.length = ks.length + 1 ∧ sp zs H Q E) E ta tk) := by
  obtain ⟨f, fd, ps, hm, F, hb⟩ := c.ex
  refine ⟨fun pins s σ H Q I h => ?_⟩
  refine PySem.W.methodCall_KW (pl := pl) (thn (he.run pins s σ H _ I h) fun u s1 ⟨x, H1, I1, rx, a, dx, fs, ex, ea, l, q⟩ => ?_) ht
  subst ex
  obtain rfl : u = Value.ref a := rx
  refine getmeth_ok I1 ea cl hm l ?_
  refine PySem.W.callWith_KW0 (first := [.ref a]) (h₀ := X.base) I.ok.mod.kin hm.kp hall (thn (hkw.run pos pins s1 σ H1 _ I1 q) fun ws s3 ⟨zs, H2, I3, rz, hl, q2⟩ => ⟨I3.kIn, ?_⟩) hpl
  rw [hks]
  have r2 : Vals (.ref a :: zs) (.ref a :: ws) := .cons rfl rz
  refine wpAny_call (codeAny_mono (F.run X.A X.stack s3 H2 ⟨[.ref a], ks.zip ws⟩ (.ref a :: ws) (.ref a :: zs) Q E (hr.mono hk) I3.env0 ?_ r2 q2) fun r s' hq => ?_)
  · have hl' : zs.length = ks.length := by simpa using hl
    have z := hb.to s3 [.ref a] ws I3.kIn rfl (rz.length.symm.trans hl')
    simpa using z
  · cases r with
    | error e => exact hx pins σ H2 s3 e s' I3 hq
    | ok fl =>
      cases fl with
      | ret u => exact I3.after hq
      | next => exact False.elim hq
      | brk => exact False.elim hq
      | cont => exact False.elim hq
/-! ### makings -/
structure MakD (P : Program) (w : World) (K : PySem.W.Frag) (mg : Str → Option Value) (base : Heap) (k : Nat) (x : Str) (C : Addr) (dvs : List V) (sp : Sp) : Prop where
  ex : ∃ (f : Addr) (fd : FuncData) (ps : List Str) (ds : List Value), Mk K C f ∧ FnOk P w K mg base (L2.CX P w) k f fd ps sp ∧ mg x = some (.ref C) ∧ Binds K fd ps ds ∧ Vals dvs ds
structure MakK (P : Program) (w : World) (K : PySem.W.Frag) (mg : Str → Option Value) (base : Heap) (k : Nat) (x : Str) (C : Addr) (ks : List Str) (sp : Sp) : Prop where
  ex : ∃ (f : Addr) (fd : FuncData) (ps : List Str), Mk K C f ∧ FnOk P w K mg base (L2.CX P w) k f fd ps sp ∧ mg x = some (.ref C) ∧ KBn K fd ps 1 ks (fun us ws => us ++ ws) (fun vs zs => vs ++ zs)
theorem pe_mD0 {x : Str} {p : Pos} {dvs : List V} (c : MakD X.prog X.w X.K X.mg X.base k x C dvs sp) (hr : Room j X.A) (hk : k + 1 ≤ j) (hx : Passes (L2.CX X.prog X.w) X E) (hg : Gl X x := by rfl) (hdb : (x == ("__debug__" : Str)) = false := by decide) :
    PE X (.Call (.Name x p) [] [] pos) (tMake C sp dvs E tNil) := by
  obtain ⟨f, fd, ps, ds, M, F, hm, b, r⟩ := c.ex
  exact pe_make0 M F (hr.mono hk) hg hm b r hx hdb
theorem pe_mK {x : Str} {p : Pos} (c : MakK X.prog X.w X.K X.mg X.base k x C ks sp) (hr : Room j X.A) (hk : k + 1 ≤ j) (hx : Passes (L2.CX X.prog X.w) X E) (hkw : PK X kws tk) (hg : Gl X x := by rfl)
    (hall : (backToKw pos (keywordEach kws X.env)).all (·.1.isSome) = true := by rfl) (hks : (backToKw pos (keywordEach kws X.env)).filterMap (·.1) = ks := by rfl)
    (hdb : (x == ("__debug__" : Str)) = false := by decide)
    (hpl : ((backTo pos (starEach [] X.env)).any (·.1) || (backToKw pos (keywordEach kws X.env)).any (·.1.isNone)) = false := by rfl) :
    PE X (.Call (.Name x p) [] kws pos) (tMakeK C 0 ks.length sp (fun vs zs => vs ++ zs) E tNil tk) := by
  obtain ⟨f, fd, ps, M, F, hm, b⟩ := c.ex
  exact pe_makeK0 M F (hr.mono hk) hg hm b hx hkw hall hks hdb hpl
end
end Cs

set_option Elab.async false
set_option linter.all false
set_option maxRecDepth 100000
set_option maxHeartbeats 4000000
/-! LayM: an own operator with any right side; iter(text); a loop over an instance by its own __iter__; is True, is False. -/
namespace PySem.ErrX
open PySem PySem.W PySem.Calls PyProof.Rows PySem.Spec
section
variable {prog : Program} {w : World} {A : Around} {E : Value → Shared → Prop} {s : Shared} {K : Frag} {x C L f : Addr} {h₀ : Heap} {m : Str → Option Value} {ox : Obj} {od : Option Obj} {T : String}
theorem own_binT {op : Operator} {b : Value} {fo ro rc : Option Value} {Q : Value → Shared → Prop} (X : K.In s.heap) (I : InstAt s.heap x ox C od) (hb : Looks (model prog w) s.heap (typeOf b) (.type T)) (hc : selfFirst K C = true)
    (hs : findIn K (.ref C) (PySem.dunder op.info.2) = some (some (.ref f))) (hf : isFn K (.ref f) = true) (hr : findIn K (.ref C) (dunderR op.info.2) = some rc) (hp : rc = none ∨ ∃ g : Addr, rc = some (.ref g))
    (h1 : findIn K (.type T) (PySem.dunder op.info.2) = some fo) (h2 : findIn K (.type T) (dunderR op.info.2) = some ro) (hsub : subIn K (.type T) (.ref C) = some false)
    (h : wpAny (model prog w) A (call (.ref f) [.ref x, b]) (PySem.W.CmpBack Q) E s) : wpAny (model prog w) A (binaryOp op (.ref x) b) Q E s := by
  obtain ⟨cd, rest, hcd, hm⟩ := ksp_first hc
  rcases hi : op.info with ⟨sym, nm'⟩
  rw [hi] at hs hr h1 h2
  dsimp only at hs hr h1 h2
  have one := ksp_try X I hs hf h
  have Lx : Looks (model prog w) s.heap (typeOf (.ref x)) (.ref C) := I.type
  have L3 : Looks (model prog w) s.heap (fillsNumberSlot (.ref C) nm') true := fills_K X hcd hm hs
  have L4 := ksp_fillsT (M := model prog w) X h1 h2
  have L5 : Looks (model prog w) s.heap (isSubtype (.type T) (.ref C)) false := looks_subIn X hsub
  have L6 : Looks (model prog w) s.heap (numberSlotInPython (.ref C) nm') true := ksp_inPy X hs hr hp
  have L7 : Looks (model prog w) s.heap (numberSlotInPython (.type T) nm') false := Looks.of_pure rfl
  have L8 : Looks (model prog w) s.heap (typeLookup (.type T) (dunderR nm')) ro := looks_findIn X h2
  obtain ⟨hh, g, d, tt, os⟩ := s
  generalize ((fo.isSome && !isSeqSlot fo) || (ro.isSome && !isSeqSlot ro)) = right at L4
  have hne : (Value.ref C == Value.type T) = false := Bool.eq_false_iff.mpr fun q => by cases beq_iff_eq.mp q
  simp only [binaryOp, hi]
  refine wpAny_holding (wpAny_bind ?_)
  unfold binaryOp1
  refine wpAny_bind (Lx.at (wpAny_bind (hb.at (wpAny_bind (L3.at ?_)))))
  simp only [hne, Bool.false_eq_true, if_false]
  have fin : ∀ (r : Option Value) (s' : Shared), (∃ v, r = some v ∧ Q v s') → ∃ v, r = some v ∧ Q v s' := fun _ _ z => z
  cases right with
  | false =>
    ksp_lk
    refine wpAny_mono one (fun r s' hr' => ?_) fun _ _ e => e
    obtain ⟨v, rfl, hq⟩ := fin _ _ hr'
    ksp_lk
    exact hq
  | true =>
    ksp_lk
    refine wpAny_mono one (fun r s' hr' => ?_) fun _ _ e => e
    obtain ⟨v, rfl, hq⟩ := fin _ _ hr'
    ksp_lk
    exact hq
end
end PySem.ErrX
namespace Cs
open PySem PySem.Spec PyProof.Rows L2 LamX
structure OwnBin (P : Program) (w : World) (K : PySem.W.Frag) (mg : Str → Option Value) (base : Heap) (CX : CXT) (k : Nat) (C : Addr) (op : Operator) (Ts : List String) (sp : Sp) : Prop where
  ex : ∃ (f : Addr) (fd : FuncData) (ps : List Str) (rc : Option Value), PySem.W.selfFirst K C = true ∧ PySem.W.findIn K (.ref C) (PySem.dunder op.info.2) = some (some (.ref f)) ∧ PySem.W.isFn K (.ref f) = true ∧ FnOk P w K mg base CX k f fd ps sp ∧ Binds K fd ps [] ∧
    PySem.W.findIn K (.ref C) (dunderR op.info.2) = some rc ∧ (rc = none ∨ ∃ g : Addr, rc = some (.ref g)) ∧
    ∀ T ∈ Ts, (∃ fo, PySem.W.findIn K (.type T) (PySem.dunder op.info.2) = some fo) ∧ (∃ ro, PySem.W.findIn K (.type T) (dunderR op.info.2) = some ro) ∧ PySem.W.subIn K (.type T) (.ref C) = some false
/-- x op y: x of the class at C, y too, or of one of the built-in types -/
def rBin (K : PySem.W.Frag) (C : Addr) (Ts : List String) (sp : Sp) (E : XK) : R2 := fun x y H Q => ∃ a dx fs, x = .ref a ∧ H a = some (.ins C dx fs) ∧ ((∃ b dy gs, y = .ref b ∧ H b = some (.ins C dy gs)) ∨ ∃ T, T ∈ Ts ∧ TyX K H y (.type T)) ∧ sp [x, y] H Q E
section
variable {X : Cx} {CXc : CXT} {k j : Nat} {C f : Addr} {fd : FuncData} {ps : List Str} {sp : Sp} {E : XK} {pins : List (Addr × Obj)} {σ : L2.St} {H : Hp} {s : Shared} {Q : VK}
theorem op_bin {op : Operator} {Ts : List String} (c : OwnBin X.prog X.w X.K X.mg X.base CXc k C op Ts sp) (hr : Room j X.A) (hk : k ≤ j) (hx : Passes CXc X E) : OpR X (binaryOp op) (rBin X.K C Ts sp E) := by
  obtain ⟨f, fd, ps, rc, sf, hs, hf, F, hb, hR, hp, hT⟩ := c.ex
  intro pins s σ H x y v u Q I rx ry h
  obtain ⟨a, dx, fs, rfl, ha, hy, q⟩ := h
  cases rx
  obtain ⟨_, _, J⟩ := inst_of I ha
  obtain ⟨m, hF⟩ := I.fr
  have r2 : Vals [V.ref a, y] [Value.ref a, u] := .cons rfl (.cons ry .nil)
  have run := wpAny_mono (run_fn (dvs := []) (ds := []) F (hr.mono hk) hb .nil hx I r2 (by simpa using q)) (fun _ _ z => cmpBack_of z) fun _ _ z => z
  rcases hy with ⟨b, dy, gs, rfl, hb'⟩ | ⟨T, hTm, ty⟩
  · cases ry
    obtain ⟨_, _, J'⟩ := inst_of I hb'
    exact PySem.W.binop_K hF I.ok.mod.kin J J'.type sf hs hf run
  · obtain ⟨P, kx, hP, _⟩ := kit_of I ry ty
    obtain ⟨⟨fo, g1⟩, ⟨ro, g2⟩, g3⟩ := hT T hTm
    exact PySem.ErrX.own_binT I.kIn J (kx.ty _ _ I.kIn hP) sf hs hf hR hp g1 g2 g3 run
theorem r_bin {K : PySem.W.Frag} {Ts : List String} {a b dx dy : Addr} {fs gs : List (Str × V)} (h1 : H a = some (.ins C dx fs)) (h2 : H b = some (.ins C dy gs)) (q : sp [.ref a, .ref b] H Q E) : rBin K C Ts sp E (.ref a) (.ref b) H Q := ⟨a, dx, fs, rfl, h1, .inl ⟨b, dy, gs, rfl, h2⟩, q⟩
theorem r_binT {K : PySem.W.Frag} {Ts : List String} {a dx : Addr} {fs : List (Str × V)} {y : V} {T : String} (h1 : H a = some (.ins C dx fs)) (h2 : TyX K H y (.type T)) (hT : T ∈ Ts) (q : sp [.ref a, y] H Q E) : rBin K C Ts sp E (.ref a) y H Q := ⟨a, dx, fs, rfl, h1, .inr ⟨T, hT, h2⟩, q⟩
/-- ~x -/
structure OwnInv (P : Program) (w : World) (K : PySem.W.Frag) (mg : Str → Option Value) (base : Heap) (CX : CXT) (k : Nat) (C : Addr) (sp : Sp) : Prop where
  ex : ∃ (f : Addr) (fd : FuncData) (ps : List Str), PySem.W.findIn K (.ref C) "__invert__" = some (some (.ref f)) ∧ PySem.W.isFn K (.ref f) = true ∧ FnOk P w K mg base CX k f fd ps sp ∧ Binds K fd ps []
def rInv (C : Addr) (sp : Sp) (E : XK) : V → Hp → VK → Prop := fun x H Q => ∃ a dx fs, x = .ref a ∧ H a = some (.ins C dx fs) ∧ sp [.ref a] H Q E
theorem un_inv (c : OwnInv X.prog X.w X.K X.mg X.base CXc k C sp) (hr : Room j X.A) (hk : k ≤ j) (hx : Passes CXc X E) : UnR X (unaryOp .Invert) (rInv C sp E) := by
  obtain ⟨f, fd, ps, hs, hf, F, hb⟩ := c.ex
  exact un_ownI F (hr.mono hk) hs hf hb hx
/-! ### iter(text) -/
/-- at it an iterator over a text, at its beginning -/
def ItS (z : Str) (it : Addr) : HO := .ext fun h => ∃ t, h.IsStrIter it (strIterType z) z t 0
theorem itS_ok {P : Program} {w : World} {H : Hp} {h : Heap} {z : Str} {it : Addr} {t : Tok} (e : h.IsStrIter it (strIterType z) z t 0) : ObjOk P w H h it (ItS z it) :=
  ⟨⟨t, e⟩, let ⟨o, ho, _⟩ := e; ⟨o, ho⟩, fun h1 h2 ⟨t, o, ho, r⟩ k => ⟨t, o, k _ ho, r⟩⟩
def rIterS (n : Nat) : List V → Hp → VK → Prop := fun xs H Q => ∃ w : List Nat, xs = [.str (S w)] ∧ ∀ it, H it = none → n ≤ it → Q (.ref it) (upd H it (ItS (S w) it))
theorem call_iterS : CallR X (.builtin "iter") (rIterS X.s_0.heap.objs.size) := by
  intro pins s σ H xs us Q I r h
  obtain ⟨w, rfl, q⟩ := h
  obtain ⟨u, rfl, ru⟩ := vals1 r
  obtain ⟨t, rfl⟩ := ru
  refine Calls.call_function_entry (by decide +kernel) (by decide +kernel) PySem.W.kdk_entry_iter (PySem.W.kdk_args_iter _) ?_
  unfold Builtin.«iter»
  refine wpAny_bind (m := someArgs "iter" 1 2 _) (wpAny_of_eq (a := [Value.str (S w) t]) (by first | rfl | kernel_rfl!) ?_)
  show wpAny _ _ (pyIter (.str (S w) t) >>= _) _ _ _
  have fin : ∀ ty, strIterType (S w) = ty → EP X pins σ Q (.ref s.heap.objs.size) { s with heap := s.heap.push { cls := .type ty, data := .fields #[.str (S w) t, .int 0 0] } } := fun ty e => by
    refine ⟨.ref s.heap.objs.size, _, I.laid (t' := s.toks) (fun b u e => Heap.get?_push_of_some _ e) (Nat.le_refl _) (itS_ok (z := S w) (t := t) ⟨_, Heap.get?_push_size _ rfl, by rw [e], rfl⟩), rfl, q _ (I.hok.fresh (Nat.le_refl _)) I.sz⟩
  cases ha : (S w).cps.all (· < 128)
  · exact wpAny_bind (wpAny_pyIter_wide ha (wpAny_pure ⟨_, rfl, fin _ (by unfold strIterType; rw [ha] <;> rfl)⟩))
  · exact wpAny_bind (wpAny_pyIter_ascii ha (wpAny_pure ⟨_, rfl, fin _ (by unfold strIterType; rw [ha] <;> rfl)⟩))
end
/-! ### a def whose promise knows how large the heap was at its call -/
structure FnS (P : Program) (w : World) (K : PySem.W.Frag) (mg : Str → Option Value) (base : Heap) (CX : CXT) (k : Nat) (f : Addr) (fd : FuncData) (ps : List Str) (sp : Nat → Sp) : Prop where
  len : ∀ n vs H Q E, sp n vs H Q E → vs.length = ps.length
  run : ∀ (A : Around) (outer : List Env) (s : Shared) (H : Hp) (args : Args) (us : List Value) (vs : List V) (Q : VK) (E : XK), Room k A → Env0 P w K mg base A outer s H → BindsTo s fd args (ps.zip us) → Vals vs us → sp s.heap.objs.size vs H Q E →
    codeAny (model P w) A (.call (.ref f) args) (CR CX outer P w H s Q E) s
theorem fun_okS {CX : CXT} {P : Program} {w : World} {K : PySem.W.Frag} {mg : Str → Option Value} {base : Heap} {x qual : Str} {st : Stmt} {f : Addr} {fd : FuncData} {N ps : List Str} {k : Nat} {sp : Nat → Sp} (F : Fun K x qual st f fd) (S : FnScope N ps (defScope st))
    (len : ∀ n vs H Q E, sp n vs H Q E → vs.length = ps.length)
    (hbody : ∀ (cdv : Value) (A : Around) (outer : List Env) (s : Shared) (H : Hp) (vs : List V) (Q : VK) (E : XK), Room k (A.deeper (envOfC qual (defScope st) s.heap.objs.size f cdv)) → sp s.heap.objs.size vs H Q E →
      ∃ t, PSs (cxOf CX P w K mg base N qual (defScope st) f cdv A outer s H E) (defBody st) t ∧ t { nx := fun _ H' => Q .non H', rt := Q } (L2.start N vs) H) : FnS P w K mg base CX (k + 1) f fd ps sp := by
  obtain ⟨oc, od, kV, doc, pm, an, cdv, ct, osl, rfl, lk, hcd⟩ := F.ex
  exact ⟨len, fun A outer s H args us vs Q E hr e0 hb r hsp => run_ofS lk hcd S hr e0 hb r (len _ _ _ _ _ hsp) fun hr' => hbody cdv A outer s H vs Q E hr' hsp⟩
/-! ### for c in x, by the own __iter__ -/
structure OwnIter (P : Program) (w : World) (K : PySem.W.Frag) (mg : Str → Option Value) (base : Heap) (CX : CXT) (k : Nat) (C : Addr) (sp : Nat → Sp) : Prop where
  ex : ∃ (f : Addr) (fd : FuncData) (ps : List Str), PySem.W.findIn K (.ref C) "__iter__" = some (some (.ref f)) ∧ PySem.W.isFn K (.ref f) = true ∧ FnS P w K mg base CX k f fd ps sp ∧ Binds K fd ps []
def rOwnIt (C : Addr) (sp : Nat → Sp) (E : XK) (R : It → Hp → Prop) : V → Hp → Prop := fun x H1 => ∃ a dx fs, x = .ref a ∧ H1 a = some (.ins C dx fs) ∧ ∀ n, sp n [.ref a] H1 (fun v H2 => ∃ it z, v = .ref it ∧ n ≤ it ∧ H2 it = some (ItS z it) ∧ R (Its z) (ItX.dropH H2 it)) E
def iOwn (C : Addr) (sp : Nat → Sp) (E : XK) (te : TE) : TI := fun σ H R => te σ H fun x H1 => rOwnIt C sp E R x H1
section
variable {X : Cx} {CXc : CXT} {k j : Nat} {C f : Addr} {fd : FuncData} {ps : List Str} {sp : Nat → Sp} {E : XK} {pins : List (Addr × Obj)} {σ : L2.St} {H : Hp} {s : Shared} {Q : VK}
theorem pi_own {tg e : Expr} {te : TE} (c : OwnIter X.prog X.w X.K X.mg X.base CXc k C sp) (hr : Room j X.A) (hk : k ≤ j) (hx : Passes CXc X E) (he : PE X e te) : PI X tg e (iOwn C sp E te) := by
  obtain ⟨f, fd, ps, hs, hf, F, hb⟩ := c.ex
  refine ⟨fun pins s σ H R I h => ?_⟩
  refine thn (he.run pins s σ H _ I h) fun u s1 ⟨x, H1, I1, rx, a, dx, fs, ex, ea, q0⟩ => ?_
  subst ex
  obtain rfl : u = Value.ref a := rx
  obtain ⟨_, _, J⟩ := inst_of I1 ea
  obtain ⟨m, hF⟩ := I1.fr
  have q := q0 s1.heap.objs.size
  have r2 : Vals [V.ref a] [Value.ref a] := .cons rfl .nil
  have hl : ([Value.ref a] ++ ([] : List Value)).length = ps.length := by rw [List.append_nil, ← r2.length]; exact F.len _ _ _ _ _ q
  refine PySem.W.owit_iter hF I1.ok.mod.kin J hs hf ?_
  refine wpAny_call (codeAny_mono (F.run X.A X.stack s1 H1 ⟨[.ref a], []⟩ [.ref a] [.ref a] _ E (hr.mono hk) I1.env0 (by simpa using hb s1 [.ref a] I1.kIn hl) r2 q) fun r s' hq => ?_)
  cases r with
  | error e => exact hx pins σ H1 s1 e s' I1 hq
  | ok fl =>
    cases fl with
    | next => exact False.elim hq
    | brk => exact False.elim hq
    | cont => exact False.elim hq
    | ret u =>
      obtain ⟨v, H2, e1, e2, un, e4, rv, it, z, rfl, young, hi, q2⟩ := hq
      obtain ⟨v', H2', I2, rv', ev, eH⟩ := I1.after (Q := fun v' H' => v' = .ref it ∧ H' = H2) ⟨V.ref it, H2, e1, e2, un, e4, rv, rfl, rfl⟩
      subst eH
      cases rv
      obtain ⟨⟨t, st⟩, _, _⟩ := (show ObjOk X.prog X.w H2' s'.heap it (ItS z it) from I2.hok it _ hi)
      have hi' := hi
      unfold ItS at hi'
      have ph : PIE X pins σ tg R (.ref it) s' := by
        refine ⟨it, [it], _, _, ItX.dropH H2' it, rfl, ItX.inv_drop I2 hi', turn_str (P := X.prog) (w := X.w) (K := X.K) (tg := tg) it z t (strIterType z) ?_, st, fun b hb => ?_, q2⟩
        · unfold strIterType
          cases z.cps.all (· < 128)
          · exact .inr rfl
          · exact .inl rfl
        · have e : b = it := by simpa using hb
          rw [e]
          exact ItX.inv_fp I2 hi (Nat.le_trans I1.sz young)
      unfold PySem.W.OwitIt
      have st2 := st
      have e : strIterType z = "str_ascii_iterator" ∨ strIterType z = "str_iterator" := by
        unfold strIterType
        cases z.cps.all (· < 128)
        · exact .inr rfl
        · exact .inl rfl
      rcases e with e | e
      · rw [e] at st2
        exact wpAny_specialOf (name := Str.ofString "__next__") st2.typeIs PySem.F.slot_str_ascii_iterator_next.lookup ph
      · rw [e] at st2
        exact wpAny_specialOf (name := Str.ofString "__next__") st2.typeIs PySem.F.slot_str_iterator_next.lookup ph
end
end Cs
namespace Cs
open PySem PySem.Spec PyProof.Rows L2 LamX
/-! ### is True, is False -/
def rIsBl : R2 := fun x y H Q => (∃ a b : Bool, x = .bl a ∧ y = .bl b ∧ Q (.bl (decide (a = b))) H) ∨ ∃ (n : Int) (b : Bool), x = .int n ∧ y = .bl b ∧ Q (.bl false) H
def rNotBl : R2 := fun x y H Q => (∃ a b : Bool, x = .bl a ∧ y = .bl b ∧ Q (.bl (!decide (a = b))) H) ∨ ∃ (n : Int) (b : Bool), x = .int n ∧ y = .bl b ∧ Q (.bl true) H
section
variable {X : Cx}
theorem op_isBI : OpR X (compareOp .Is) rIsBl := by
  refine (op_isBl (X := X)).or ?_
  intro pins s σ H x y v u Q I rx ry h
  obtain ⟨n, b, rfl, rfl, q⟩ := h
  obtain ⟨t, rfl⟩ := rx
  cases (show u = Value.bool b from ry)
  exact wpAny_is_other rfl (fun z => nomatch z) ⟨.bl false, H, I, rfl, q⟩
theorem op_notBI : OpR X (compareOp .IsNot) rNotBl := by
  refine (op_notBl (X := X)).or ?_
  intro pins s σ H x y v u Q I rx ry h
  obtain ⟨n, b, rfl, rfl, q⟩ := h
  obtain ⟨t, rfl⟩ := rx
  cases (show u = Value.bool b from ry)
  exact wpAny_isNot_other rfl (fun z => nomatch z) ⟨.bl true, H, I, rfl, q⟩
theorem r_isB {H : Hp} {Q : VK} {a b : Bool} (q : Q (.bl (decide (a = b))) H) : rIsBl (.bl a) (.bl b) H Q := .inl ⟨a, b, rfl, rfl, q⟩
theorem r_notB {H : Hp} {Q : VK} {a b : Bool} (q : Q (.bl (!decide (a = b))) H) : rNotBl (.bl a) (.bl b) H Q := .inl ⟨a, b, rfl, rfl, q⟩
theorem r_notBI {H : Hp} {Q : VK} {n : Int} {b : Bool} (q : Q (.bl true) H) : rNotBl (.int n) (.bl b) H Q := .inr ⟨n, b, rfl, rfl, q⟩
end
end Cs

set_option Elab.async false
set_option linter.all false
set_option maxRecDepth 100000
set_option maxHeartbeats 4000000
/-! LayN: x == y and x != y by the own __eq__ (object.__ne__), where it may decline. -/
namespace PySem.ErrX
open PySem PySem.W PySem.Calls PyProof.Rows PySem.Spec
section
variable {prog : Program} {w : World} {A : Around} {E : Value → Shared → Prop} {s : Shared} {K : Frag} {x C L f : Addr} {h₀ : Heap} {m : Str → Option Value} {ox : Obj} {od : Option Obj} {b tb : Value}
/-- a truth, or declined -/
def BkQ (neg : Bool) (Q : Option Value → Shared → Prop) (v : Value) (s' : Shared) : Prop := (∃ r, v = .bool r ∧ Q (some (.bool (r != neg))) s') ∨ (v = .notImplemented ∧ Q none s')
theorem tryEq_K {Q : Option Value → Shared → Prop} (X : K.In s.heap) (I : InstAt s.heap x ox C od) (hs : findIn K (.ref C) "__eq__" = some (some (.ref f))) (hf : isFn K (.ref f) = true)
    (h : wpAny (model prog w) A (call (.ref f) [.ref x, b]) (BkQ false Q) E s) : wpAny (model prog w) A (tryCompare (.ref x) (cmpInfo .Eq).2.1 b) Q E s := by
  unfold tryCompare
  refine wpAny_bind (ifBound_K X I hs hf (wpAny_mono h (fun v s' hv => ?_) fun _ _ e => e))
  rcases hv with ⟨r, rfl, hq⟩ | ⟨rfl, hq⟩
  · refine wpAny_pure ?_
    simpa using hq
  · exact wpAny_pure hq
theorem objNe_B (hu : A.units < cLine) (X : K.In s.heap) (I : InstAt s.heap x ox C od) (hs : findIn K (.ref C) "__eq__" = some (some (.ref f))) (hf : isFn K (.ref f) = true) {Q : Fin → Shared → Prop}
    (h : wpAny (model prog w) A (call (.ref f) [.ref x, b]) (fun v s' => (∃ r, v = .bool r ∧ Q (.done (.ret (.bool (!r)))) s') ∨ (v = .notImplemented ∧ Q (.done (.ret .notImplemented)) s')) E s) : wpAny (model prog w) A (Builtin.«object.__ne__» ⟨[.ref x, b], []⟩) Q E s := by
  unfold Builtin.«object.__ne__»
  repeat (first
    | with_reducible refine wpAny_cRoomFor hu ?_
    | (refine wpAny_bind (m := callSpecialIfBound? (.ref x) (Str.ofString "__eq__") [b])
        (ifBound_K X I hs hf (wpAny_mono h (fun v s' hr => by
          rcases hr with ⟨r, rfl, hq⟩ | ⟨rfl, hq⟩
          · repeat (first | exact hq | exact wpAny_pure hq | exact wpAny_truthy_bool hq | (refine wpAny_bind (m := truthy (.bool _)) (wpAny_truthy_bool ?_)) | wp_step)
          · repeat (first | exact hq | exact wpAny_pure hq | wp_step)) fun _ _ e => e)))
    | wp_step)
theorem tryNe_K {Q : Option Value → Shared → Prop} (hu : A.in1.units < cLine) (X : K.In s.heap) (I : InstAt s.heap x ox C od) (hn : findIn K (.ref C) "__ne__" = some (some (.builtin "object.__ne__"))) (ho : mroIn K C (.type "object") = some true)
    (hs : findIn K (.ref C) "__eq__" = some (some (.ref f))) (hf : isFn K (.ref f) = true)
    (h : wpAny (model prog w) A.in1 (call (.ref f) [.ref x, b]) (BkQ true Q) E s) : wpAny (model prog w) A (tryCompare (.ref x) (cmpInfo .NotEq).2.1 b) Q E s := by
  unfold tryCompare
  have slot : Slot "object" "__ne__" "object.__ne__" := PySem.F.cmp_object.ne
  refine wpAny_bind (ifB_builtin (Q := fun r s' => wpAny (model prog w) A (match r with | some .notImplemented | none => pure none | some v => pure (some v)) Q E s') X I hn slot ?_)
  refine wpAny_call (codeAny_call_builtin slot.plain PySem.F.cmpEntry_ne (check_slotK PySem.F.cmpKind_ne PySem.F.cmpSplit_ne (I.type.andThen (looks_mroIn X ho)) (PySem.F.cmpArgs_ne _ _) ?_))
  refine objNe_B (A := A.in1) hu X I hs hf (wpAny_mono h (fun v s' hv => ?_) fun _ _ e => e)
  rcases hv with ⟨r, rfl, hq⟩ | ⟨rfl, hq⟩
  · refine .inl ⟨r, rfl, ?_⟩
    refine wpAny_pure ?_
    simpa using hq
  · exact .inr ⟨rfl, wpAny_pure hq⟩
/-- the comparison: told by the left side, or both decline -/
theorem rc_own {op : CmpOp} {Q : Value → Shared → Prop} (hop : op = .Eq ∨ op = .NotEq) (hu : A.units < cLine) (X : K.In s.heap) (I : InstAt s.heap x ox C od) (hb : Looks (model prog w) s.heap (typeOf b) tb) (hn : notFirst K C tb = true)
    (h : wpAny (model prog w) A (tryCompare (.ref x) (cmpInfo op).2.1 b) (fun r s' => (∃ v, r = some v ∧ Q v s') ∨ (r = none ∧ wpAny (model prog w) A (tryCompare b (cmpInfo op).2.2 (.ref x)) (fun r s₂ => r = none ∧ wpAny (model prog w) A (isSame (.ref x) b) (fun k s₃ => Q (.bool (k != decide (op = .NotEq))) s₃) E s₂) E s')) E s) :
    wpAny (model prog w) A (richCompare op (.ref x) b) Q E s := by
  unfold richCompare
  simp only [oneThing_ref]
  refine wpAny_holding (wpAny_bind (wpAny_cRoomFor hu ?_))
  refine wpAny_bind (I.type.here (wpAny_bind (hb.here ?_)))
  have step : ∀ (fin : Option Value → Sem Value), (∀ r s', ((∃ v, r = some v ∧ Q v s') ∨ (r = none ∧ wpAny (model prog w) A (tryCompare b (cmpInfo op).2.2 (.ref x)) (fun r s₂ => r = none ∧ wpAny (model prog w) A (isSame (.ref x) b) (fun k s₃ => Q (.bool (k != decide (op = .NotEq))) s₃) E s₂) E s')) → wpAny (model prog w) A (fin r) Q E s') →
      wpAny (model prog w) A (tryCompare (.ref x) (cmpInfo op).2.1 b >>= fin) Q E s := fun fin hfin => wpAny_bind (wpAny_mono h (fun r s' z => hfin r s' z) fun _ _ e => e)
  have last : ∀ s', wpAny (model prog w) A (tryCompare b (cmpInfo op).2.2 (.ref x)) (fun r s₂ => r = none ∧ wpAny (model prog w) A (isSame (.ref x) b) (fun k s₃ => Q (.bool (k != decide (op = .NotEq))) s₃) E s₂) E s' →
      wpAny (model prog w) A (do
        if let some v ← tryCompare b (cmpInfo op).2.2 (.ref x) then return v
        match op with
        | .Eq => rule "compare.eq-identity"; return .bool (← isSame (.ref x) b)
        | .NotEq => rule "compare.ne-identity"; return .bool (!(← isSame (.ref x) b))
        | _ =>
          rule "compare.unsupported"
          raiseError "TypeError" s!"'{(cmpInfo op).1}' not supported between instances of '{← typeNameOf (.ref x)}' and '{← typeNameOf b}'") Q E s' := fun s' z => by
    refine wpAny_bind (wpAny_mono z (fun r s₂ z => ?_) fun _ _ e => e)
    obtain ⟨rfl, z⟩ := z
    rcases hop with rfl | rfl
    · refine wpAny_bind (wpAny_rule (wpAny_bind (wpAny_mono z (fun k s₃ z => wpAny_pure ?_) fun _ _ e => e)))
      simpa using z
    · refine wpAny_bind (wpAny_rule (wpAny_bind (wpAny_mono z (fun k s₃ z => wpAny_pure ?_) fun _ _ e => e)))
      simpa using z
  split
  · rename_i q
    have e : subIn K tb (.ref C) = some false := by
      rcases Bool.or_eq_true_iff.mp hn with e | e
      · rw [beq_iff_eq.mp e] at q; simp at q
      · exact beq_iff_eq.mp e
    refine wpAny_bind ((looks_subIn X e).here ?_)
    simp only [Bool.false_eq_true, if_false]
    refine step _ fun r s' z => ?_
    rcases z with ⟨v, rfl, hq⟩ | ⟨rfl, hq⟩
    · exact wpAny_pure hq
    · exact last s' hq
  · refine wpAny_bind (wpAny_pure ?_)
    simp only [Bool.false_eq_true, if_false]
    refine step _ fun r s' z => ?_
    rcases z with ⟨v, rfl, hq⟩ | ⟨rfl, hq⟩
    · exact wpAny_pure hq
    · exact last s' hq
end
end PySem.ErrX

set_option Elab.async false
set_option linter.all false
set_option maxRecDepth 100000
set_option maxHeartbeats 4000000
/-! LayO: built-in values decline a comparison with an instance; own == and != as rules. -/
namespace PySem.ErrX
open PySem PySem.W PySem.Calls PyProof.Rows PySem.Spec

theorem int_eq_decl (n : Int) (u : Tok) (l : Addr) (C dx : Addr) : Meets (Builtin.«int.__eq__» ⟨[.int n u, .ref l], []⟩) (fun _ R s => s.heap.get? l = some (instObj C dx) ∧ R (.ok (.ret .notImplemented)) s) :=
  .of_wp fun prog w A R s h => by
    obtain ⟨hp, g, d, tk, os⟩ := s
    obtain ⟨hl, h⟩ := h
    unfold instObj at hl
    wp_walk using wpAny_loadPart' hl, wpAny_load hl
    exact ⟨_, rfl, h⟩
theorem int_ne_decl (n : Int) (u : Tok) (l : Addr) (C dx : Addr) : Meets (Builtin.«int.__ne__» ⟨[.int n u, .ref l], []⟩) (fun _ R s => s.heap.get? l = some (instObj C dx) ∧ R (.ok (.ret .notImplemented)) s) :=
  .of_wp fun prog w A R s h => by
    obtain ⟨hp, g, d, tk, os⟩ := s
    obtain ⟨hl, h⟩ := h
    unfold instObj at hl
    wp_walk using wpAny_loadPart' hl, wpAny_load hl
    exact ⟨_, rfl, h⟩
theorem bool_eq_decl (n : Bool) (l : Addr) (C dx : Addr) : Meets (Builtin.«int.__eq__» ⟨[.bool n, .ref l], []⟩) (fun _ R s => s.heap.get? l = some (instObj C dx) ∧ R (.ok (.ret .notImplemented)) s) :=
  .of_wp fun prog w A R s h => by
    obtain ⟨hp, g, d, tk, os⟩ := s
    obtain ⟨hl, h⟩ := h
    unfold instObj at hl
    wp_walk using wpAny_loadPart' hl, wpAny_load hl
    exact ⟨_, rfl, h⟩
theorem bool_ne_decl (n : Bool) (l : Addr) (C dx : Addr) : Meets (Builtin.«int.__ne__» ⟨[.bool n, .ref l], []⟩) (fun _ R s => s.heap.get? l = some (instObj C dx) ∧ R (.ok (.ret .notImplemented)) s) :=
  .of_wp fun prog w A R s h => by
    obtain ⟨hp, g, d, tk, os⟩ := s
    obtain ⟨hl, h⟩ := h
    unfold instObj at hl
    wp_walk using wpAny_loadPart' hl, wpAny_load hl
    exact ⟨_, rfl, h⟩
theorem str_eq_decl (n : Str) (u : Tok) (l : Addr) (C dx : Addr) : Meets (Builtin.«str.__eq__» ⟨[.str n u, .ref l], []⟩) (fun _ R s => s.heap.get? l = some (instObj C dx) ∧ R (.ok (.ret .notImplemented)) s) :=
  .of_wp fun prog w A R s h => by
    obtain ⟨hp, g, d, tk, os⟩ := s
    obtain ⟨hl, h⟩ := h
    unfold instObj at hl
    wp_walk using wpAny_loadPart' hl, wpAny_load hl
    exact ⟨_, rfl, h⟩
theorem str_ne_decl (n : Str) (u : Tok) (l : Addr) (C dx : Addr) : Meets (Builtin.«str.__ne__» ⟨[.str n u, .ref l], []⟩) (fun _ R s => s.heap.get? l = some (instObj C dx) ∧ R (.ok (.ret .notImplemented)) s) :=
  .of_wp fun prog w A R s h => by
    obtain ⟨hp, g, d, tk, os⟩ := s
    obtain ⟨hl, h⟩ := h
    unfold instObj at hl
    wp_walk using wpAny_loadPart' hl, wpAny_load hl
    exact ⟨_, rfl, h⟩
theorem list_eq_decl (b l : Addr) (C dx : Addr) (items : Array Value) (n : Nat) (dd : Option Addr) (sl : Array (Option Value)) (K : Frag) (hs : subIn K (.ref C) (.type "list") = some false) : Meets (Builtin.«list.__eq__» ⟨[.ref b, .ref l], []⟩)
    (fun _ R s => K.In s.heap ∧ s.heap.get? b = some { cls := .type "list", dict := dd, data := .seq items n, slots := sl } ∧ s.heap.get? l = some (instObj C dx) ∧ R (.ok (.ret .notImplemented)) s) :=
  .of_wp fun prog w A R s h => by
    obtain ⟨hp, g, d, tk, os⟩ := s
    obtain ⟨X, hb, hl, h⟩ := h
    unfold instObj at hl
    have LS : Looks (model prog w) hp (isSubtype (.ref C) (.type "list")) false := looks_subIn X hs
    wp_walk using wpAny_loadPart' hb, wpAny_loadPart' hl, wpAny_load hl
    exact LS.at (wpAny_pure ⟨_, rfl, h⟩)
theorem list_ne_decl (b l : Addr) (C dx : Addr) (items : Array Value) (n : Nat) (dd : Option Addr) (sl : Array (Option Value)) (K : Frag) (hs : subIn K (.ref C) (.type "list") = some false) : Meets (Builtin.«list.__ne__» ⟨[.ref b, .ref l], []⟩)
    (fun _ R s => K.In s.heap ∧ s.heap.get? b = some { cls := .type "list", dict := dd, data := .seq items n, slots := sl } ∧ s.heap.get? l = some (instObj C dx) ∧ R (.ok (.ret .notImplemented)) s) :=
  .of_wp fun prog w A R s h => by
    obtain ⟨hp, g, d, tk, os⟩ := s
    obtain ⟨X, hb, hl, h⟩ := h
    unfold instObj at hl
    have LS : Looks (model prog w) hp (isSubtype (.ref C) (.type "list")) false := looks_subIn X hs
    wp_walk using wpAny_loadPart' hb, wpAny_loadPart' hl, wpAny_load hl
    exact LS.at (wpAny_pure ⟨_, rfl, h⟩)
theorem tuple_eq_decl (b l : Addr) (C dx : Addr) (items : Array Value) (n : Nat) (dd : Option Addr) (sl : Array (Option Value)) (K : Frag) (hs : subIn K (.ref C) (.type "tuple") = some false) : Meets (Builtin.«tuple.__eq__» ⟨[.ref b, .ref l], []⟩)
    (fun _ R s => K.In s.heap ∧ s.heap.get? b = some { cls := .type "tuple", dict := dd, data := .seq items n, slots := sl } ∧ s.heap.get? l = some (instObj C dx) ∧ R (.ok (.ret .notImplemented)) s) :=
  .of_wp fun prog w A R s h => by
    obtain ⟨hp, g, d, tk, os⟩ := s
    obtain ⟨X, hb, hl, h⟩ := h
    unfold instObj at hl
    have LS : Looks (model prog w) hp (isSubtype (.ref C) (.type "tuple")) false := looks_subIn X hs
    wp_walk using wpAny_loadPart' hb, wpAny_loadPart' hl, wpAny_load hl
    exact LS.at (wpAny_pure ⟨_, rfl, h⟩)
theorem tuple_ne_decl (b l : Addr) (C dx : Addr) (items : Array Value) (n : Nat) (dd : Option Addr) (sl : Array (Option Value)) (K : Frag) (hs : subIn K (.ref C) (.type "tuple") = some false) : Meets (Builtin.«tuple.__ne__» ⟨[.ref b, .ref l], []⟩)
    (fun _ R s => K.In s.heap ∧ s.heap.get? b = some { cls := .type "tuple", dict := dd, data := .seq items n, slots := sl } ∧ s.heap.get? l = some (instObj C dx) ∧ R (.ok (.ret .notImplemented)) s) :=
  .of_wp fun prog w A R s h => by
    obtain ⟨hp, g, d, tk, os⟩ := s
    obtain ⟨X, hb, hl, h⟩ := h
    unfold instObj at hl
    have LS : Looks (model prog w) hp (isSubtype (.ref C) (.type "tuple")) false := looks_subIn X hs
    wp_walk using wpAny_loadPart' hb, wpAny_loadPart' hl, wpAny_load hl
    exact LS.at (wpAny_pure ⟨_, rfl, h⟩)
end PySem.ErrX
namespace Cs
open PySem PySem.Spec PyProof.Rows L2 LamX PySem.ErrX
/-- a value of a built-in type -/
inductive BV (H : Hp) : V → String → Prop
  | non : BV H .non "NoneType"
  | int (n : Int) : BV H (.int n) "int"
  | bl (n : Bool) : BV H (.bl n) "bool"
  | str (n : Str) : BV H (.str n) "str"
  | lst {a : Addr} {xs : List V} (h : H a = some (.lst xs)) : BV H (.ref a) "list"
  | tup {a : Addr} {xs : List V} (h : H a = some (.tup xs)) : BV H (.ref a) "tuple"
section
variable {X : Cx} {pins : List (Addr × Obj)} {σ : L2.St} {H : Hp} {s : Shared} {A : Around} {E : Value → Shared → Prop} {y : V} {u : Value} {T : String} {a C dx : Addr} {fs : List (Str × V)}
theorem BV.ty {K : PySem.W.Frag} (h : BV H y T) : TyX K H y (.type T) := by
  cases h with
  | non => exact .base .non
  | int n => exact .base (.int n)
  | bl n => exact .base (.bl n)
  | str n => exact .base (.str n)
  | lst h => exact .base (.lst h)
  | tup h => exact .base (.tup h)
theorem ins_obj (I : Inv X pins σ H s) (h : H a = some (.ins C dx fs)) : s.heap.get? a = some (PySem.W.instObj C dx) := by
  obtain ⟨d, z, ne, ob, _⟩ := (show ObjOk X.prog X.w H s.heap a (.ins C dx fs) from I.hok a _ h)
  exact ob
theorem decl_of {op : CmpOp} (hop : op = .Eq ∨ op = .NotEq) (I : Inv X pins σ H s) (ha : H a = some (.ins C dx fs)) (hy : BV H y T) (ry : RelV y u) (hu : A.units < cLine) (h1 : PySem.W.subIn X.K (.ref C) (.type "list") = some false) (h2 : PySem.W.subIn X.K (.ref C) (.type "tuple") = some false)
    {Q : Option Value → Shared → Prop} (q : Q none s) : wpAny (model X.prog X.w) A (tryCompare u (cmpInfo op).2.2 (.ref a)) Q E s := by
  have ho := ins_obj I ha
  cases hy with
  | non =>
    cases (show u = Value.none from ry)
    rcases hop with rfl | rfl
    · exact wpAny_tryCompare_declines (T := "NoneType") rfl PySem.F.slot_NoneType_eq_refl (call_gives PySem.F.slot_NoneType_eq_refl rfl PySem.F.entry_NoneType_eq (PySem.F.args_NoneType_eq_2 _ _) (PySem.SeqAt.NoneType___eq___none_ref_0 a) ⟨rfl, q⟩)
    · exact wpAny_tryCompare_declines (T := "NoneType") rfl PySem.F.slot_NoneType_ne_refl (call_gives PySem.F.slot_NoneType_ne_refl rfl PySem.F.entry_NoneType_ne (PySem.F.args_NoneType_ne_2 _ _) (PySem.SeqAt.NoneType___ne___none_ref_0 a) ⟨rfl, q⟩)
  | int n =>
    obtain ⟨t, rfl⟩ := ry
    rcases hop with rfl | rfl
    · exact wpAny_tryCompare_declines (typeIs_int s n t) PySem.F.slot_int_eq_refl (call_meets PySem.F.slot_int_eq_refl (typeIs_int s n t) PySem.F.entry_int_eq (PySem.F.args_int_eq_2 _ _) (int_eq_decl n t a C dx) ⟨ho, rfl, q⟩)
    · exact wpAny_tryCompare_declines (typeIs_int s n t) PySem.F.slot_int_ne_refl (call_meets PySem.F.slot_int_ne_refl (typeIs_int s n t) PySem.F.entry_int_ne (PySem.F.args_int_ne_2 _ _) (int_ne_decl n t a C dx) ⟨ho, rfl, q⟩)
  | bl n =>
    cases (show u = Value.bool n from ry)
    rcases hop with rfl | rfl
    · exact wpAny_tryCompare_declines (T := "bool") rfl PySem.F.slot_bool_eq_refl (call_meets PySem.F.slot_bool_eq_refl rfl PySem.F.entry_int_eq (PySem.F.args_int_eq_2 _ _) (bool_eq_decl n a C dx) ⟨ho, rfl, q⟩)
    · exact wpAny_tryCompare_declines (T := "bool") rfl PySem.F.slot_bool_ne_refl (call_meets PySem.F.slot_bool_ne_refl rfl PySem.F.entry_int_ne (PySem.F.args_int_ne_2 _ _) (bool_ne_decl n a C dx) ⟨ho, rfl, q⟩)
  | str n =>
    obtain ⟨t, rfl⟩ := ry
    rcases hop with rfl | rfl
    · exact wpAny_tryCompare_declines (typeIs_str s n t) PySem.F.slot_str_eq_refl (call_meets PySem.F.slot_str_eq_refl (typeIs_str s n t) PySem.F.entry_str_eq (PySem.F.args_str_eq_2 _ _) (str_eq_decl n t a C dx) ⟨ho, rfl, q⟩)
    · exact wpAny_tryCompare_declines (typeIs_str s n t) PySem.F.slot_str_ne_refl (call_meets PySem.F.slot_str_ne_refl (typeIs_str s n t) PySem.F.entry_str_ne (PySem.F.args_str_ne_2 _ _) (str_ne_decl n t a C dx) ⟨ho, rfl, q⟩)
  | @lst b xs hb =>
    cases (show u = Value.ref b from ry)
    obtain ⟨_, vs, n, _, hb1⟩ := (show ObjOk X.prog X.w H s.heap b (.lst xs) from I.hok b _ hb)
    rcases hop with rfl | rfl
    · exact wpAny_tryCompare_declines (T := "list") ⟨_, hb1, rfl⟩ PySem.F.slot_list_eq_refl (call_meets PySem.F.slot_list_eq_refl ⟨_, hb1, rfl⟩ PySem.F.entry_list_eq (PySem.F.args_list_eq_2 _ _) (list_eq_decl b a C dx _ _ _ _ X.K h1) ⟨I.kIn, hb1, ho, rfl, q⟩)
    · exact wpAny_tryCompare_declines (T := "list") ⟨_, hb1, rfl⟩ PySem.F.slot_list_ne_refl (call_meets PySem.F.slot_list_ne_refl ⟨_, hb1, rfl⟩ PySem.F.entry_list_ne (PySem.F.args_list_ne_2 _ _) (list_ne_decl b a C dx _ _ _ _ X.K h1) ⟨I.kIn, hb1, ho, rfl, q⟩)
  | @tup b xs hb =>
    cases (show u = Value.ref b from ry)
    obtain ⟨_, vs, _, ⟨cls, dd, data, sl⟩, hb1, hc, n, hd⟩ := (show ObjOk X.prog X.w H s.heap b (.tup xs) from I.hok b _ hb)
    simp only at hc hd
    subst hc hd
    rcases hop with rfl | rfl
    · exact wpAny_tryCompare_declines (T := "tuple") ⟨_, hb1, rfl⟩ PySem.F.slot_tuple_eq_refl (call_meets PySem.F.slot_tuple_eq_refl ⟨_, hb1, rfl⟩ PySem.F.entry_tuple_eq (PySem.F.args_tuple_eq_2 _ _) (tuple_eq_decl b a C dx _ _ _ _ X.K h2) ⟨I.kIn, hb1, ho, rfl, q⟩)
    · exact wpAny_tryCompare_declines (T := "tuple") ⟨_, hb1, rfl⟩ PySem.F.slot_tuple_ne_refl (call_meets PySem.F.slot_tuple_ne_refl ⟨_, hb1, rfl⟩ PySem.F.entry_tuple_ne (PySem.F.args_tuple_ne_2 _ _) (tuple_ne_decl b a C dx _ _ _ _ X.K h2) ⟨I.kIn, hb1, ho, rfl, q⟩)
theorem same_of (I : Inv X pins σ H s) (ha : H a = some (.ins C dx fs)) (hy : BV H y T) (ry : RelV y u) {Q : Bool → Shared → Prop} (q : Q false s) : wpAny (model X.prog X.w) A (isSame (.ref a) u) Q E s := by
  have ho := ins_obj I ha
  have refs : ∀ {b : Addr} {ob : Obj}, s.heap.get? b = some ob → a ≠ b → wpAny (model X.prog X.w) A (isSame (.ref a) (.ref b)) Q E s := fun {b ob} hb hne => by
    show wpAny _ A (if (a == b) = true then pure true else _) Q E s
    rw [if_neg (by simpa using hne)]
    refine wpAny_bind (wpAny_load ho (wpAny_bind (wpAny_load hb ?_)))
    split
    · rename_i z _ _ _
      exact nomatch z
    · exact wpAny_pure q
  cases hy with
  | non => cases (show u = Value.none from ry); exact wpAny_of_eq (rfl : isSame (.ref a) .none = pure false) q
  | int n => obtain ⟨t, rfl⟩ := ry; exact wpAny_of_eq (rfl : isSame (.ref a) (.int n t) = pure false) q
  | bl n => cases (show u = Value.bool n from ry); exact wpAny_of_eq (rfl : isSame (.ref a) (.bool n) = pure false) q
  | str n => obtain ⟨t, rfl⟩ := ry; exact wpAny_of_eq (rfl : isSame (.ref a) (.str n t) = pure false) q
  | @lst b xs hb =>
    cases (show u = Value.ref b from ry)
    obtain ⟨_, vs, n, _, hb1⟩ := (show ObjOk X.prog X.w H s.heap b (.lst xs) from I.hok b _ hb)
    exact refs hb1 fun z => by rw [z, hb] at ha; cases ha
  | @tup b xs hb =>
    cases (show u = Value.ref b from ry)
    obtain ⟨_, vs, _, ob, hb1, _⟩ := (show ObjOk X.prog X.w H s.heap b (.tup xs) from I.hok b _ hb)
    exact refs hb1 fun z => by rw [z, hb] at ha; cases ha
end
end Cs

set_option Elab.async false
set_option linter.all false
set_option maxRecDepth 100000
set_option maxHeartbeats 4000000
/-! LayP: == and != of own instances as rules. -/
namespace Cs
open PySem PySem.Spec PyProof.Rows L2 LamX PySem.ErrX
/-- how the own __eq__ declines a value of a built-in type -/
def NiRun (P : Program) (w : World) (K : PySem.W.Frag) (mg : Str → Option Value) (base : Heap) (k : Nat) (C f : Addr) : Prop :=
  ∀ (A : Around) (outer : List Env) (s : Shared) (H : Hp) (a dx : Addr) (fs : List (Str × V)) (y : V) (u : Value) (T : String), Room k A → Env0 P w K mg base A outer s H → H a = some (.ins C dx fs) → BV H y T → RelV y u →
    codeAny (model P w) A (.call (.ref f) ⟨[.ref a, u], []⟩) (fun r s' => r = .ok (.ret .notImplemented) ∧ s'.os = s.os ∧ AllBare s'.gens ∧ Un (frs outer) [] H H s.heap s'.heap ∧ HOk P w H s'.heap) s
theorem ni_run {P : Program} {w : World} {K : PySem.W.Frag} {mg : Str → Option Value} {base : Heap} {x qual : Str} {st : Stmt} {f C : Addr} {fd : FuncData} {N ps : List Str} {k : Nat} {c : Expr} {r1 els rest : List Stmt} {p1 p2 p3 : Pos} {tc : TT} (F : Fun K x qual st f fd) (S : FnScope N ps (defScope st)) (hb : Binds K fd ps []) (hps : ps.length = 2)
    (hbd : defBody st = .If c (.Return (some (.Name "NotImplemented" p1)) p2 :: r1) els p3 :: rest) (hg : (defScope st).names.lookup ("NotImplemented" : Str) = some .globalImplicit) (hm : mg "NotImplemented" = none)
    (hc : ∀ (cdv : Value) (A : Around) (outer : List Env) (s : Shared) (H : Hp) (Q : VK) (E : XK), Room k (A.deeper (envOfC qual (defScope st) s.heap.objs.size f cdv)) → PT (cxOf L2.CX0 P w K mg base N qual (defScope st) f cdv A outer s H E) c tc)
    (ht : ∀ (H : Hp) (a dx : Addr) (fs : List (Str × V)) (y : V) (T : String), H a = some (.ins C dx fs) → BV H y T → tc (L2.start N [.ref a, y]) H fun b H' => b = true ∧ H' = H) : NiRun P w K mg base (k + 1) C f := by
  obtain ⟨oc, od, kV, doc, pm, an, cdv, ct, osl, rfl, lk, hcd⟩ := F.ex
  intro A outer s H a dx fs y u T hr e0 ha hy ry
  have KX : K.In s.heap := e0.mod.kin.keeps fun b o e => (e0.bs b o e).1
  have lim : s.heap.NoLimit := e0.mod.nolimit.keeps fun b o e => (e0.bs b o e).1
  have r : Vals [V.ref a, y] [Value.ref a, u] := .cons rfl (.cons ry .nil)
  have hbs := hb s [.ref a, u] KX (by rw [List.append_nil, hps]; rfl)
  rw [List.append_nil] at hbs
  have hkind : ∀ y ∈ ps.zip [Value.ref a, u], (defScope st).names.lookup y.1 = some .local ∨ ((defScope st).names.lookup y.1 = some .cell ∧ ((cellsFrom (s.heap.objs.size + 1) (defScope st).names []).lookup y.1).isSome = true) := fun ⟨n, v⟩ hy => by
    rcases S.par n (List.of_mem_zip hy).1 with q | q
    · exact .inl q
    · exact .inr ⟨q, PySem.W.cellsFrom_some _ _ _ (.inl q)⟩
  refine codeAny_call_function hr.depth (KX _ _ lk) rfl S.co S.gen rfl (PySem.W.codeRec_of KX hcd) (hbs _ _ _ _ ?_)
  refine wpAny_newFunctionEnv_cells S.kind hkind fun env he s1 xx => ?_
  subst he
  refine ⟨lim.keeps xx.toInCall.keep, codeAny_func ?_⟩
  have I : Inv (cxOf L2.CX0 P w K mg base N qual (defScope st) f cdv A outer s H L2.E0) [] (L2.start N [.ref a, y]) H s1 := inv_start S hr.hd e0 (by rw [hps]; rfl) r xx
  rw [hbd]
  refine wpAny_execs_cons (wpAny_If (wpAny_mono ((hc cdv A outer s H (fun _ _ => False) L2.E0 (hr.deeper _)).run [] s1 _ H _ I (ht H a dx fs y T ha hy)) (fun d s2 ⟨H2, I2, e1, e2⟩ => ?_) fun e s' z => wpAny_mono z (fun _ _ q => False.elim q) fun _ _ q => False.elim q))
  subst e1
  subst e2
  show wpAny _ _ (execs (.Return (some (.Name "NotImplemented" p1)) p2 :: r1) _) _ _ _
  refine wpAny_execs_cons (wpAny_Return_some (ld_blt (u := .notImplemented) I2 hg hm (by first | rfl | decide +kernel | kernel_rfl) ?_))
  exact ⟨rfl, I2.os, I2.bare, I2.base, I2.hok⟩
structure OwnEq (P : Program) (w : World) (K : PySem.W.Frag) (mg : Str → Option Value) (base : Heap) (k : Nat) (C : Addr) (Ts : List String) (sp : Sp) : Prop where
  ex : ∃ (f : Addr) (fd : FuncData) (ps : List Str), PySem.W.findIn K (.ref C) "__eq__" = some (some (.ref f)) ∧ PySem.W.isFn K (.ref f) = true ∧ FnOk P w K mg base L2.CX0 k f fd ps sp ∧ Binds K fd ps [] ∧ NiRun P w K mg base k C f
  ne : PySem.W.findIn K (.ref C) "__ne__" = some (some (.builtin "object.__ne__"))
  ob : PySem.W.mroIn K C (.type "object") = some true
  s1 : PySem.W.subIn K (.ref C) (.type "list") = some false
  s2 : PySem.W.subIn K (.ref C) (.type "tuple") = some false
  ts : ∀ T ∈ Ts, PySem.W.subIn K (.type T) (.ref C) = some false
/-- x == y (neg: !=), x of the class at C, y too, or a value of one of the built-in types -/
def rEqO (neg : Bool) (C : Addr) (Ts : List String) (sp : Sp) : R2 := fun x y H Q => ∃ a dx fs, x = .ref a ∧ H a = some (.ins C dx fs) ∧
  ((∃ b dy gs, y = .ref b ∧ H b = some (.ins C dy gs) ∧ sp [.ref a, .ref b] H (fun v H' => ∃ r : Bool, v = .bl r ∧ Q (.bl (r != neg)) H') L2.E0) ∨ (∃ T, T ∈ Ts ∧ BV H y T ∧ Q (.bl neg) H))
section
variable {X : Cx} {k j : Nat} {C : Addr} {Ts : List String} {sp : Sp} {pins : List (Addr × Obj)} {σ : L2.St} {H : Hp} {s : Shared} {Q : VK}
theorem ni_call {A : Around} {f a dx : Addr} {fs : List (Str × V)} {y : V} {u : Value} {T : String} (F : NiRun X.prog X.w X.K X.mg X.base k C f) (hA : A.frames = X.A.frames) (hr : Room k A) (I : Inv X pins σ H s) (ha : H a = some (.ins C dx fs)) (hy : BV H y T) (ry : RelV y u) :
    wpAny (model X.prog X.w) A (call (.ref f) [.ref a, u]) (fun v s' => v = .notImplemented ∧ Inv X pins σ H s') X.xe s := by
  have e0 : Env0 X.prog X.w X.K X.mg X.base A X.stack s H := by
    have e := I.env0
    exact ⟨by rw [hA]; exact e.frames, e.mod, e.bs, e.bsz, e.funs, e.frf, e.hok, e.bare⟩
  refine wpAny_call (codeAny_mono (F A X.stack s H a dx fs y u T hr e0 ha hy ry) fun r s' hq => ?_)
  obtain ⟨rfl, h1, h2, h3, h4⟩ := hq
  refine ⟨rfl, ?_⟩
  obtain ⟨v', H', I', _, _, eH⟩ := I.after (Q := fun v' H' => v' = .non ∧ H' = H) (u := .none) ⟨V.non, H, h1, h2, h3, h4, rfl, rfl, rfl⟩
  rw [eH] at I'
  exact I'
theorem bool_bk {neg : Bool} {v : Value} {s' : Shared} (h : EP X pins σ (fun v H' => ∃ r : Bool, v = .bl r ∧ Q (.bl (r != neg)) H') v s') :
    ∃ r, v = .bool r ∧ EP X pins σ Q (.bool (r != neg)) s' := by
  obtain ⟨v', H', I', rv, r, rfl, q⟩ := h
  exact ⟨r, rv, .bl (r != neg), H', I', rfl, q⟩
theorem op_eqO (c : OwnEq X.prog X.w X.K X.mg X.base k C Ts sp) (hr : Room j X.A) (hk : k + 1 ≤ j) : OpR X (compareOp .Eq) (rEqO false C Ts sp) := by
  obtain ⟨f, fd, ps, hs, hf, F, hb, ni⟩ := c.ex
  intro pins s σ H x y v u Q I rx ry h
  obtain ⟨a, dx, fs, rfl, ha, hy⟩ := h
  cases rx
  obtain ⟨_, _, J⟩ := inst_of I ha
  have hr0 : Room k X.A := hr.mono (by omega)
  show wpAny _ _ (richCompare .Eq (.ref a) u) _ _ _
  rcases hy with ⟨b, dy, gs, rfl, hb', q⟩ | ⟨T, hT, bv, q⟩
  · cases ry
    obtain ⟨_, _, J'⟩ := inst_of I hb'
    have r2 : Vals [V.ref a, V.ref b] [Value.ref a, Value.ref b] := .cons rfl (.cons rfl .nil)
    refine rc_own (.inl rfl) hr.units0 I.kIn J J'.type (by simp [PySem.W.notFirst]) (tryEq_K I.kIn J hs hf ?_)
    refine wpAny_mono (run_fn (dvs := []) (ds := []) (E := L2.E0) F hr0 hb .nil pass0 I r2 (by rw [List.append_nil]; exact q)) (fun v s' z => ?_) fun _ _ z => z
    obtain ⟨r, er, z2⟩ := bool_bk (neg := false) (Q := Q) z
    exact .inl ⟨r, er, .inl ⟨_, rfl, z2⟩⟩
  · obtain ⟨P, kx, hP, _⟩ := kit_of I ry (bv.ty (K := X.K))
    refine rc_own (.inl rfl) hr.units0 I.kIn J (kx.ty _ _ I.kIn hP) (by simp [PySem.W.notFirst, c.ts T hT]) (tryEq_K I.kIn J hs hf ?_)
    refine wpAny_mono (ni_call ni rfl hr0 I ha bv ry) (fun v s' z => ?_) fun _ _ z => z
    obtain ⟨rfl, I'⟩ := z
    refine .inr ⟨rfl, .inr ⟨rfl, decl_of (.inl rfl) I' ha bv ry hr.units0 c.s1 c.s2 ⟨rfl, same_of I' ha bv ry ?_⟩⟩⟩
    exact ⟨.bl false, H, I', rfl, q⟩
theorem op_neO (c : OwnEq X.prog X.w X.K X.mg X.base k C Ts sp) (hr : Room j X.A) (hk : k + 1 ≤ j) : OpR X (compareOp .NotEq) (rEqO true C Ts sp) := by
  obtain ⟨f, fd, ps, hs, hf, F, hb, ni⟩ := c.ex
  intro pins s σ H x y v u Q I rx ry h
  obtain ⟨a, dx, fs, rfl, ha, hy⟩ := h
  cases rx
  obtain ⟨_, _, J⟩ := inst_of I ha
  have hr1 : Room k X.A.in1 := (hr.mono hk).in1
  have hu1 : X.A.in1.units < cLine := hr1.units0
  show wpAny _ _ (richCompare .NotEq (.ref a) u) _ _ _
  rcases hy with ⟨b, dy, gs, rfl, hb', q⟩ | ⟨T, hT, bv, q⟩
  · cases ry
    obtain ⟨_, _, J'⟩ := inst_of I hb'
    have r2 : Vals [V.ref a, V.ref b] [Value.ref a, Value.ref b] := .cons rfl (.cons rfl .nil)
    refine rc_own (.inr rfl) hr.units0 I.kIn J J'.type (by simp [PySem.W.notFirst]) (tryNe_K hu1 I.kIn J c.ne c.ob hs hf ?_)
    refine wpAny_mono (run_fnA (A := X.A.in1) (E := L2.E0) F rfl hr1 hb pass0 I r2 q) (fun v s' z => ?_) fun _ _ z => z
    obtain ⟨r, er, z2⟩ := bool_bk (neg := true) (Q := Q) z
    exact .inl ⟨r, er, .inl ⟨_, rfl, z2⟩⟩
  · obtain ⟨P, kx, hP, _⟩ := kit_of I ry (bv.ty (K := X.K))
    refine rc_own (.inr rfl) hr.units0 I.kIn J (kx.ty _ _ I.kIn hP) (by simp [PySem.W.notFirst, c.ts T hT]) (tryNe_K hu1 I.kIn J c.ne c.ob hs hf ?_)
    refine wpAny_mono (ni_call (A := X.A.in1) ni rfl hr1 I ha bv ry) (fun v s' z => ?_) fun _ _ z => z
    obtain ⟨rfl, I'⟩ := z
    refine .inr ⟨rfl, .inr ⟨rfl, decl_of (.inr rfl) I' ha bv ry hr.units0 c.s1 c.s2 ⟨rfl, same_of I' ha bv ry ?_⟩⟩⟩
    exact ⟨.bl true, H, I', rfl, q⟩
theorem r_eqO {neg : Bool} {a b dx dy : Addr} {fs gs : List (Str × V)} (h1 : H a = some (.ins C dx fs)) (h2 : H b = some (.ins C dy gs)) (q : sp [.ref a, .ref b] H (fun v H' => ∃ r : Bool, v = .bl r ∧ Q (.bl (r != neg)) H') L2.E0) : rEqO neg C Ts sp (.ref a) (.ref b) H Q := ⟨a, dx, fs, rfl, h1, .inl ⟨b, dy, gs, rfl, h2, q⟩⟩
theorem r_eqOT {neg : Bool} {a dx : Addr} {fs : List (Str × V)} {y : V} {T : String} (h1 : H a = some (.ins C dx fs)) (h2 : BV H y T) (hT : T ∈ Ts) (q : Q (.bl neg) H) : rEqO neg C Ts sp (.ref a) y H Q := ⟨a, dx, fs, rfl, h1, .inr ⟨T, hT, h2, q⟩⟩
end
end Cs

set_option Elab.async false
set_option linter.all false
set_option maxRecDepth 100000
set_option maxHeartbeats 4000000
/-! LayQ: text[::-1], text.index, max, str, int of a truth, len and str of own instances, while, pairs in a comprehension. -/
namespace Cs
open PySem PySem.Spec PyProof.Rows L2 LamX
/-! ### text[::-1] -/
theorem sliceBy_rev (w : List Nat) (u : Tok) : Txt.sliceBy (S w) none none (-1, u) = S w.reverse := by
  have h := step_rev_list (S w) u
  have e : (Txt.sliceBy (S w) none none (-1, u)).cps.toList = w.reverse := by
    rw [h, S_len]
    apply List.ext_getElem
    · simp
    · intro i h1 h2
      have hi : i < w.length := by simpa using h1
      rw [List.getElem_map, List.getElem_range, List.getElem_reverse]
      show (S w).cps.getD (w.length - 1 - i) 0 = _
      have hj : w.length - 1 - i < w.length := by omega
      simp [S, Array.getD, hj]
  generalize Txt.sliceBy (S w) none none (-1, u) = z at e
  obtain ⟨⟨l⟩⟩ := z
  have e : l = w.reverse := e
  rw [e]
def rRevS (x : V) (H : Hp) (Q : VK) : Prop := ∃ w : List Nat, x = .str (S w) ∧ w.length ≤ 1000000 ∧ Q (.str (S w.reverse)) H
def tRevS (te : TE) : TE := fun σ H Q => te σ H fun x H1 => rRevS x H1 Q
theorem pe_revS {X : Cx} {e : Expr} {te : TE} {k : Nat} {p1 p2 p3 pos : Pos} (he : PE X e te) : PE X (.Subscript e (.Slice none none (some (.UnaryOp .USub (.Constant (.int 1) k p1) p2)) p3) pos) (tRevS te) := by
  refine ⟨fun pins s σ H Q I h => ?_⟩
  refine Subscript_ (thn (he.run pins s σ H _ I h) fun v s1 ⟨x, H1, I1, r1, q1⟩ => ?_)
  obtain ⟨w, ex, hl, q⟩ := q1
  subst ex
  obtain ⟨t, rfl⟩ := r1
  have hst : PO X (some (.UnaryOp .USub (.Constant (.int 1) k p1) p2)) (tPart (tUn (rU fun i => .int (-i)) (tC (.int 1)))) := po_some (pe_un un_neg pe_int)
  refine wpAny_Slice (thn (po_none.run pins s1 σ H1 (fun o H2 => o = none ∧ H2 = H1) I1 ⟨rfl, rfl⟩) fun vl s2 ⟨l, H2, I2, pl, el, e2⟩ => ?_)
  subst el e2
  refine thn (po_none.run pins s2 σ H2 (fun o H3 => o = none ∧ H3 = H2) I2 ⟨rfl, rfl⟩) fun vu s3 ⟨u, H3, I3, pu, eu, e3⟩ => ?_
  subst eu e3
  refine thn (hst.run pins s3 σ H3 (fun o H4 => o = some (-1) ∧ H4 = H3) I3 ⟨1, rfl, -1, rfl, rfl, rfl⟩) fun vs s4 ⟨o, H4, I4, ps, eo, e4⟩ => ?_
  subst eo e4
  have I5 : Inv X pins σ H4 { s4 with heap := s4.heap.push { cls := .type "slice", data := .fields #[vl, vu, vs] } } := I4.kept (t' := s4.toks) fun b ob q => Heap.get?_push_of_some _ q
  obtain ⟨l, rfl, el⟩ := IsPart.raw pl
  obtain ⟨u, rfl, eu⟩ := IsPart.raw pu
  obtain ⟨st, rfl, es⟩ := IsPart.raw ps
  obtain rfl : l = none := by simpa using el
  obtain rfl : u = none := by simpa using eu
  obtain ⟨tk, rfl⟩ : ∃ tk, st = some (-1, tk) := by
    cases st with
    | none => cases es
    | some p =>
      obtain ⟨p1, p2⟩ := p
      have e : p1 = -1 := by simpa using es
      exact ⟨p2, by rw [e]⟩
  refine tail_any (ops := [.str (S w) t, .ref s4.heap.objs.size]) (typeIs_str _ _ _) (PySem.F.slot_str_getitem.lookup) ?_ (by with_unfolding_all rfl)
  refine wpAny_getItem_str_slice (l := none) (u := none) (st := some (-1, tk)) ⟨_, Heap.get?_push_size _ rfl, rfl, rfl⟩ rfl ?_
  have hn := sliceBy_rev w tk
  have hm : (Builtin.Str.strSliceIndices none none (-1) (S w).length).filterMap ((S w).cps[·]?) = w.reverse := by
    have z := congrArg (fun x : Str => x.cps.toList) hn
    unfold Txt.sliceBy slicePicked at z
    rw [if_neg (by simp)] at z
    simpa using z
  show Made.post (if ((-1 : Int) == 1 && (Builtin.Str.strSliceIndices none none (-1) (S w).length).length == (S w).length) = true then Made.val (.str (S w) t)
    else Made.str ⟨((Builtin.Str.strSliceIndices none none (-1) (S w).length).filterMap ((S w).cps[·]?)).toArray⟩) (EP X pins σ Q) _
  rw [if_neg (by simp), hm]
  exact ⟨by show (S w.reverse).length ≤ sizeLine; rw [S_len, List.length_reverse, sizeLine_eq]; omega, .str _, H4, I5.tok _, ⟨_, rfl⟩, q⟩
/-! ### text.index -/
def plc (c : Nat) : Nat := lets.idxOf c
def rIdx8 : V → List V → Hp → VK → Prop := fun x xs H Q => ∃ c, x = .str (S lets) ∧ xs = [.str (S [c])] ∧ isL c = true ∧ Q (.int (plc c : Nat)) H
theorem occ8 {c : Nat} (h : isL c = true) : ∃ rest, Builtin.Str.occurrences (S lets) (S [c]) 0 (S lets).length 1 = plc c :: rest := by
  rcases isL_cases h with rfl | rfl | rfl | rfl | rfl | rfl | rfl | rfl <;> exact ⟨[], by decide +kernel⟩
theorem mb_sindex {X : Cx} : MtR X "str.index" rIdx8 := by
  intro pins s σ H x xs v us Q I rx rs h
  obtain ⟨c, rfl, rfl, hc, q⟩ := h
  obtain ⟨rest, e⟩ := occ8 hc
  exact mt_sindex pins s σ H _ _ v us Q I rx rs ⟨_, _, _, _, rfl, rfl, e, q⟩
theorem plc_lt {c : Nat} (h : isL c = true) : plc c < 8 := by
  rcases isL_cases h with rfl | rfl | rfl | rfl | rfl | rfl | rfl | rfl <;> decide
theorem at_und {c : Nat} (h : isL c = true) : atI lets (((plc c : Nat) + 4 : Int) % 8) = some (und c) := by
  rcases isL_cases h with rfl | rfl | rfl | rfl | rfl | rfl | rfl | rfl <;> decide
theorem at_und' {c : Nat} (h : isL c = true) : atI [97, 98, 99, 100, 65, 66, 67, 68] ((plc c : Nat) : Int) = some (und c) := by
  rcases isL_cases h with rfl | rfl | rfl | rfl | rfl | rfl | rfl | rfl <;> decide
/-! ### int * int, text * int, of any size -/
def rMulB : R2 := fun a b H Q => rI IntMulOk (fun i j => .int (i * j)) a b H Q ∨ rRepS a b H Q
theorem op_mulB {X : Cx} : OpR X (binaryOp .Mult) rMulB := (opI fun _ _ _ _ _ _ _ hc q => mul_int q hc).or op_repS
theorem r_mI {H : Hp} {Q : VK} {a b : Int} (c : CMulW a b) (q : Q (.int (a * b)) H) : rMulB (.int a) (.int b) H Q := .inl ⟨a, b, rfl, rfl, c.ok, q⟩
theorem r_mL {H : Hp} {Q : VK} {a b : Int} (c : Builtin.Int.intBits a ≤ 64) (q : Q (.int (a * b)) H) : rMulB (.int a) (.int b) H Q := .inl ⟨a, b, rfl, rfl, .of_left c, q⟩
theorem r_mS {H : Hp} {Q : VK} {w : List Nat} {n : Nat} (hw : w.length ≤ 1000) (hn : n ≤ 10000) (q : Q (.str (S (List.replicate n w).flatten)) H) : rMulB (.str (S w)) (.int (n : Nat)) H Q := .inr ⟨w, n, rfl, rfl, hw, hn, q⟩
/-! ### built-in calls -/
def rMax2 : List V → Hp → VK → Prop := fun xs H Q => ∃ i j, xs = [.int i, .int j] ∧ Q (.int (if j > i then j else i)) H
def rStrS : List V → Hp → VK → Prop := fun xs H Q => ∃ a, xs = [.str a] ∧ Q (.str a) H
structure OwnF (P : Program) (w : World) (K : PySem.W.Frag) (mg : Str → Option Value) (base : Heap) (k : Nat) (C : Addr) (m : Str) (sp : Sp) : Prop where
  ex : ∃ (f : Addr) (fd : FuncData) (ps : List Str), PySem.W.findIn K (.ref C) m = some (some (.ref f)) ∧ PySem.W.isFn K (.ref f) = true ∧ FnOk P w K mg base L2.CX0 k f fd ps sp ∧ Binds K fd ps []
def rLenO (C : Addr) (sp : Sp) : List V → Hp → VK → Prop := fun xs H Q => ∃ a dx fs, xs = [.ref a] ∧ H a = some (.ins C dx fs) ∧ sp [.ref a] H (fun v H' => ∃ n : Nat, v = .int (n : Nat) ∧ n < 2 ^ 63 ∧ Q (.int (n : Nat)) H') L2.E0
def rStrO (C : Addr) (sp : Sp) : List V → Hp → VK → Prop := fun xs H Q => ∃ a dx fs, xs = [.ref a] ∧ H a = some (.ins C dx fs) ∧ sp [.ref a] H (fun v H' => ∃ z, v = .str z ∧ Q (.str z) H') L2.E0
section
variable {X : Cx} {k j : Nat} {C : Addr} {sp : Sp}
theorem call_maxB (hc : X.calm = true) : CallR X (.builtin "max") rMax2 := call_max2 hc
theorem call_strB : CallR X (.type "str") rStrS := SkE.call_str_str
theorem call_lenO (c : OwnF X.prog X.w X.K X.mg X.base k C "__len__" sp) (hr : Room j X.A) (hk : k + 1 ≤ j) : CallR X (.builtin "len") (rLenO C sp) := by
  obtain ⟨f, fd, ps, hs, hf, F, hb⟩ := c.ex
  exact call_lenOwn F (hr.mono hk) hs hf hb pass0
theorem call_strO (c : OwnF X.prog X.w X.K X.mg X.base k C "__str__" sp) (hr : Room j X.A) (hk : k + 2 ≤ j) : CallR X (.type "str") (rStrO C sp) := by
  obtain ⟨f, fd, ps, hs, hf, F, hb⟩ := c.ex
  exact call_strOwn F (hr.mono hk) hs hf hb pass0
end
section
variable {K : PySem.W.Frag} {σ : L2.St} {H : Hp} {Q : VK} {a : Addr} {xs : List V} {De : Ends}
theorem r_intB {b : Bool} (q : Q (.int (if b then 1 else 0)) H) : rInt1 [.bl b] H Q := .inr ⟨b, rfl, q⟩
theorem r_max {i j : Int} (q : Q (.int (if j > i then j else i)) H) : rMax2 [.int i, .int j] H Q := ⟨i, j, rfl, q⟩
theorem r_strS {a : Str} (q : Q (.str a) H) : rStrS [.str a] H Q := ⟨a, rfl, q⟩
theorem r_idx8 {c : Nat} (h : isL c = true) (q : Q (.int (plc c : Nat)) H) : rIdx8 (.str (S lets)) [.str (S [c])] H Q := ⟨c, rfl, rfl, h, q⟩
theorem r_revS {te : TE} (q : te σ H fun x H1 => rRevS x H1 Q) : tRevS te σ H Q := q
theorem q_revS {w : List Nat} (hl : w.length ≤ 1000000) (q : Q (.str (S w.reverse)) H) : rRevS (.str (S w)) H Q := ⟨w, rfl, hl, q⟩
/-! ### while -/
theorem r_wh {c : TT} {tb : TS} (Pv : Nat → L2.St → Hp → Prop) (m : Nat) (h0 : Pv m σ H) (hs : ∀ m σ H, Pv m σ H → c σ H fun b H1 => if b = true then ∃ N : L2.St → Hp → Prop, (∀ σ' H', N σ' H' → ∃ m', m' < m ∧ Pv m' σ' H') ∧ tb { De with nx := N, ct := N, bk := De.nx } σ H1 else De.nx σ H1) : tWhile c tb De σ H :=
  ⟨Pv, ⟨m, h0⟩, hs⟩
theorem r_wN {tb : TS} {Pv : Nat → L2.St → Hp → Prop} {m : Nat} {nx bk ct : L2.St → Hp → Prop} {rt : VK} (q : tb (Ends.mk (fun σ' H' => ∃ m', m' < m ∧ Pv m' σ' H') rt nx (fun σ' H' => ∃ m', m' < m ∧ Pv m' σ' H')) σ H) :
    ∃ N : L2.St → Hp → Prop, (∀ σ' H', N σ' H' → ∃ m', m' < m ∧ Pv m' σ' H') ∧ tb { Ends.mk nx rt bk ct with nx := N, ct := N, bk := nx } σ H := ⟨_, fun _ _ h => h, q⟩
end
/-! ### readings -/
theorem r_aug {σ : L2.St} {H : Hp} {i : Nat} {te : TE} {ti : TIp} {De : Ends} {x : V} (h : σ[i]? = some (some x)) (q : te σ H fun y H1 => ti x y H1 fun z H2 => De.nx (σ.set i (some z)) H2) : tAug i te ti De σ H := ⟨x, h, q⟩
theorem r_par {σ : L2.St} {H : Hp} {i j : Nat} {ta : TA} {De : Ends} (q : ta σ H fun vs H1 => ∃ v w, vs = [v, w] ∧ De.nx ((σ.set i (some v)).set j (some w)) H1) : tPar i j ta De σ H := q
theorem r_vw {x y : V} {A : V → V → Prop} (q : A x y) : ∃ v w, [x, y] = [v, w] ∧ A v w := ⟨x, y, rfl, q⟩
theorem r_ipI {H : Hp} {Q : VK} {f : Int → Int → Int} {i j : Int} (q : Q (.int (f i j)) H) : ipI f (.int i) (.int j) H Q := ⟨i, j, rfl, rfl, q⟩
def rMetA (C : Addr) (m : Str) (sp : Sp) (E : XK) (t : TA) (σ : L2.St) (x : V) (H1 : Hp) (Q : VK) : Prop := ∃ a dx fs, x = .ref a ∧ H1 a = some (.ins C dx fs) ∧ fs.lookup m = none ∧ t σ H1 fun vs H2 => sp (.ref a :: vs) H2 Q E
section
variable {K : PySem.W.Frag} {σ : L2.St} {H : Hp} {Q : VK} {a C dx : Addr} {fs : List (Str × V)} {ta : TE} {t : TA} {sp : Sp} {E : XK} {m : Str}
theorem r_sta (q : t σ H fun vs H2 => sp vs H2 Q E) : tSta C sp E (tC (.ref C)) t σ H Q := ⟨rfl, q⟩
theorem r_metA (q : ta σ H fun x H1 => rMetA C m sp E t σ x H1 Q) : tMetA C m sp E ta t σ H Q := q
theorem q_metA (h : H a = some (.ins C dx fs)) (l : fs.lookup m = none) (q : t σ H fun vs H2 => sp (.ref a :: vs) H2 Q E) : rMetA C m sp E t σ (.ref a) H Q := ⟨a, dx, fs, rfl, h, l, q⟩
theorem r_mK1 {k : Str} {tk : TA} (q : tk σ H fun zs H2 => zs.length = 1 ∧ rMake C sp E zs H2 Q) : tMakeK C 0 [k].length sp (fun vs zs => vs ++ zs) E tNil tk σ H Q := by
  show tk σ H fun zs H2 => _
  have e : (fun zs H2 => zs.length = 1 ∧ rMake C sp E zs H2 Q) = fun (zs : List V) (H2 : Hp) => ([] : List V).length = 0 ∧ zs.length = 1 ∧ ∀ x dx, H2 x = none → H2 dx = none → dx ≠ x → sp ((fun vs zs => vs ++ zs) [V.ref x] zs) (upd (upd H2 dx (.own x)) x (.ins C dx [])) (fun v H3 => v = .non ∧ Q (.ref x) H3) E := by
    funext zs H2
    exact propext ⟨fun h => ⟨rfl, h.1, h.2⟩, fun h => ⟨h.2.1, h.2.2⟩⟩
  rw [e] at q
  exact q
theorem r_mD {dvs : List V} (q : rMake C sp E dvs H Q) : tMake C sp dvs E tNil σ H Q := q
theorem r_iOwn {sp : Nat → Sp} {R : It → Hp → Prop} (q : ta σ H fun x H1 => rOwnIt C sp E R x H1) : iOwn C sp E ta σ H R := q
theorem q_inv (h : H a = some (.ins C dx fs)) (q : sp [.ref a] H Q E) : rInv C sp E (.ref a) H Q := ⟨a, dx, fs, rfl, h, q⟩
theorem q_lenO (h : H a = some (.ins C dx fs)) (q : sp [.ref a] H (fun v H' => ∃ n : Nat, v = .int (n : Nat) ∧ n < 2 ^ 63 ∧ Q (.int (n : Nat)) H') L2.E0) : rLenO C sp [.ref a] H Q := ⟨a, dx, fs, rfl, h, q⟩
theorem q_strO (h : H a = some (.ins C dx fs)) (q : sp [.ref a] H (fun v H' => ∃ z, v = .str z ∧ Q (.str z) H') L2.E0) : rStrO C sp [.ref a] H Q := ⟨a, dx, fs, rfl, h, q⟩
end
/-- [.. for a, b in pairs] -/
theorem gUp2 {K : PySem.W.Frag} {σ : L2.St} {H : Hp} {p : Addr} {a b : V} {i j : Nat} {QS : L2.St → Hp → Prop} (h : SqT K H p [a, b]) (q : QS ((σ.set i (some a)).set j (some b)) H) : gTup K 2 (gCons (gName i) (gCons (gName j) gNil)) (.ref p) σ H QS := r_up2 h rfl q
theorem wipe2 {σ : L2.St} {i j : Nat} {x y : Option V} : wipe ((((wipe σ [i, j]).set i x).set j y)) [i, j] = wipe σ [i, j] := by
  show (((((σ.set j none).set i none).set i x).set j y).set j none).set i none = (σ.set j none).set i none
  apply List.ext_getElem?
  intro n
  simp only [List.getElem?_set, List.length_set]
  by_cases h1 : j = n <;> by_cases h2 : i = n <;> simp [h1, h2] <;> split <;> simp_all
theorem lcP {K : PySem.W.Frag} {J : It} {tt : TT} {te : TE} {σ : L2.St} {ps : List (V × V)} {its : List V} {G : Hp → Prop} {i k : Nat} {H1 : Hp} {Dl : Addr} {Qd : Hp → Prop} (w : Walk J its.length G (YAt its)) (hl : its.length = ps.length) (Pv : Nat → List V → Hp → Prop) (h0 : Pv 0 [] (upd H1 Dl (.lst []))) (hG : ∀ j acc H, j ≤ its.length → Pv j acc H → H Dl = some (.lst acc) → G H)
    (ht : ∀ j x p acc H, its[j]? = some x → ps[j]? = some p → Pv j acc H → ∃ q, x = .ref q ∧ SqT K H q [p.1, p.2])
    (hs : ∀ j p acc H, ps[j]? = some p → Pv j acc H → H Dl = some (.lst acc) → tt ((((σ.set k none).set i none).set i (some p.1)).set k (some p.2)) H fun b H3 =>
      if b = true then te ((((σ.set k none).set i none).set i (some p.1)).set k (some p.2)) H3 fun y H4 => ∃ acc, H4 Dl = some (.lst acc) ∧ acc.length < sizeLine ∧ ∃ a2, Pv (j + 1) a2 (upd H4 Dl (.lst (acc ++ [y]))) ∧ (upd H4 Dl (.lst (acc ++ [y]))) Dl = some (.lst a2) else ∃ a2, Pv (j + 1) a2 H3 ∧ H3 Dl = some (.lst a2))
    (hd : ∀ acc H, Pv its.length acc H → H Dl = some (.lst acc) → Qd H) : LcW J (gTup K 2 (gCons (gName i) (gCons (gName k) gNil))) tt te [i, k] σ H1 Dl Qd := by
  refine lc_it w (fun j H => ∃ acc, Pv j acc H ∧ H Dl = some (.lst acc)) ⟨[], h0, upd_same⟩ (fun j H hj ⟨acc, p, e⟩ => hG j acc H hj p e) ?_ (fun H ⟨acc, p, e⟩ => hd acc H p e)
  rintro j x H H' hj ⟨acc, p, e⟩ ⟨rfl, hx⟩
  have hj2 : j < ps.length := by omega
  obtain ⟨q, rfl, hq⟩ := ht j x ps[j] acc _ hx (by simp [hj2]) p
  refine gUp2 hq ⟨wipe2, ?_⟩
  exact hs j ps[j] acc _ (by simp [hj2]) p e
end Cs

set_option Elab.async false
set_option linter.all false
set_option maxRecDepth 100000
set_option maxHeartbeats 4000000
/-! LayX: products of words, undoings, words put together. -/
namespace Cs
open PySem PySem.Spec PyProof.Rows L2
theorem allL_app {a b : List Nat} (ha : AllL a) (hb : AllL b) : AllL (a ++ b) := fun c hc => (List.mem_append.mp hc).elim (ha c) (hb c)
theorem allL_take {a : List Nat} (ha : AllL a) (n : Nat) : AllL (a.take n) := fun c hc => ha c (List.mem_of_mem_take hc)
theorem allL_drop {a : List Nat} (ha : AllL a) (n : Nat) : AllL (a.drop n) := fun c hc => ha c (List.mem_of_mem_drop hc)
theorem allL_one {c : Nat} (h : isL c = true) : AllL [c] := fun d hd => by rw [List.mem_singleton.mp hd]; exact h
/-- the undoing of a row -/
def back (w : List Nat) : List Nat := (w.map und).reverse
theorem back_nil : back [] = [] := rfl
theorem back_cons (c : Nat) (w : List Nat) : back (c :: w) = back w ++ [und c] := by simp [back]
theorem back_app (a b : List Nat) : back (a ++ b) = back b ++ back a := by simp [back]
theorem back_len (w : List Nat) : (back w).length = w.length := by simp [back]
theorem back_rev (w : List Nat) : w.reverse.map und = back w := by simp [back, List.map_reverse]
theorem allL_back {w : List Nat} (h : AllL w) : AllL (back w) := fun c hc => by
  obtain ⟨d, hd, rfl⟩ := List.mem_map.mp (List.mem_reverse.mp hc)
  exact und_L (h d hd)
theorem back_back {w : List Nat} (h : AllL w) : back (back w) = w := by
  unfold back
  rw [List.map_reverse, List.reverse_reverse, List.map_map]
  conv => rhs; rw [← List.map_id w]
  exact List.map_congr_left fun c hc => und_und (h c hc)
/-- b ++ back b ++ r comes to r -/
theorem val_back {a b r : List Nat} (hb : AllL b) (hr : AllL r) : val (a ++ b ++ back b ++ r) = val (a ++ r) := by
  induction b using snocInd generalizing a r with
  | h0 => simp [back]
  | h1 v c ih =>
    have hc := hb c (by simp)
    have hv : AllL v := fun d hd => hb d (by simp [hd])
    rw [back_app]
    have e : a ++ (v ++ [c]) ++ (back [c] ++ back v) ++ r = (a ++ v) ++ c :: und c :: (back v ++ r) := by simp [back]
    rw [e, val_strike hc (allL_app (allL_back hv) hr)]
    have z := ih (a := a) (r := r) hv hr
    simpa [List.append_assoc] using z
theorem val_back1 {b : List Nat} (hb : AllL b) : val (b ++ back b) = [] := by
  have z := val_back (a := []) (r := []) hb (fun c hc => by cases hc)
  simpa [val] using z
theorem val_back2 {b : List Nat} (hb : AllL b) : val (back b ++ b) = [] := by
  have z := val_back1 (allL_back hb)
  rw [back_back hb] at z
  exact z
/-- what is put behind a word that ends so -/
theorem good_app : ∀ {b a : List Nat}, Good a → Good b → (∀ c d, lastL a = [c] → b.head? = some d → d ≠ und c) → Good (a ++ b) := by
  intro b
  induction b using snocInd with
  | h0 => intro a ha _ _; simpa using ha
  | h1 v d ih =>
    intro a ha hb hn
    obtain ⟨hv, hd, hl⟩ := good_snoc.mp hb
    rw [← List.append_assoc]
    have hav : Good (a ++ v) := ih ha hv fun c x h1 h2 => hn c x h1 (by
      cases v with
      | nil => cases h2
      | cons y v => exact h2)
    refine good_snoc.mpr ⟨hav, hd, ?_⟩
    by_cases e : v = []
    · subst e
      rw [List.append_nil]
      by_cases ea : a = []
      · subst ea
        simp [lastL]
      · obtain ⟨u, c, rfl⟩ := snoc_of ea
        rw [lastL_snoc]
        intro z
        exact hn c d (lastL_snoc u c) rfl (by simpa using z)
    · obtain ⟨u, c, rfl⟩ := snoc_of e
      rw [← List.append_assoc, lastL_snoc]
      rw [lastL_snoc] at hl
      exact hl
theorem good_drop {w : List Nat} (h : Good w) (n : Nat) : Good (w.drop n) := by
  induction n generalizing w with
  | zero => exact h
  | succ n ih =>
    cases w with
    | nil => exact h
    | cons c r =>
      rw [List.drop_succ_cons]
      rw [good_gd, gd_cons] at h
      exact ih (good_gd.mpr (gd_tail h.2))
theorem good_back {w : List Nat} (h : Good w) : Good (back w) := by
  induction w with
  | nil => exact good_nil
  | cons c r ih =>
    have hr : Good r := by
      have := good_drop h 1
      simpa using this
    have hL := good_L h
    rw [back_cons]
    refine good_snoc.mpr ⟨ih hr, und_L (hL c List.mem_cons_self), ?_⟩
    cases r with
    | nil => simp [back, lastL]
    | cons d r =>
      rw [back_cons, lastL_snoc]
      intro z
      have hd : isL d = true := hL d (by simp)
      have e : und c = d := by
        have z : und c = und (und d) := by simpa using z
        rw [und_und hd] at z
        exact z
      rw [good_gd, gd_cons] at h
      have h2 := h.2
      simp only [gd, badC, Bool.and_eq_true, Bool.not_eq_true', Bool.or_eq_false_iff, decide_eq_false_iff_not, List.map_cons, List.map_nil] at h2
      exact h2.1.2 (by rw [e])
/-- one letter more -/
theorem val_snoc {v : List Nat} {c : Nat} (hv : Good v) (hc : isL c = true) : val (v ++ [c]) = if lastL v = [und c] then v.dropLast else v ++ [c] := by
  by_cases h : lastL v = [und c]
  · rw [if_pos h]
    have hne : v ≠ [] := fun e => by rw [e] at h; cases h
    obtain ⟨u, d, rfl⟩ := snoc_of hne
    rw [lastL_snoc] at h
    have e : d = und c := by simpa using h
    subst e
    rw [List.dropLast_concat]
    have z := val_strike (a := u) (b := []) (und_L hc) (fun c hc => by cases hc)
    rw [und_und hc, List.append_nil, val_self (good_snoc.mp hv).1] at z
    have e : u ++ [und c] ++ [c] = u ++ und c :: c :: [] := by simp
    rw [e]
    exact z
  · rw [if_neg h]
    refine val_self (good_snoc.mpr ⟨hv, hc, fun z => h ?_⟩)
    by_cases e : v = []
    · subst e; cases z
    · obtain ⟨u, d, rfl⟩ := snoc_of e
      have hd : isL d = true := good_L hv d (by simp)
      rw [lastL_snoc] at z ⊢
      have z : c = und d := by simpa using z
      rw [z, und_und hd]
theorem val_nilr {b : List Nat} : val b = val ([] ++ b) := rfl
theorem val_step {w : List Nat} {i c : Nat} (hw : AllL w) (h : w[i]? = some c) : val (w.take (i + 1)) = val (val (w.take i) ++ [c]) := by
  rw [take_snoc h]
  have hc := hw c (List.mem_of_getElem? h)
  have z := val_vals (a := w.take i) (b := [c]) (allL_take hw i) (allL_one hc)
  rw [← z]
  rfl
/-- the product -/
theorem val_prod {a b : List Nat} (ha : Good a) (hb : Good b) : val (a ++ b) = val (a ++ b) := rfl
theorem val_assoc {a b c : List Nat} (ha : AllL a) (hb : AllL b) (hc : AllL c) : val (val (a ++ b) ++ c) = val (a ++ val (b ++ c)) := by
  have e1 : val (val (a ++ b) ++ c) = val (a ++ b ++ c) := by
    have z := val_vals (a := val (a ++ b)) (b := c) (good_L (val_good (allL_app ha hb))) hc
    rw [val_self (val_good (allL_app ha hb))] at z
    have z2 := val_vals (a := a ++ b) (b := c) (allL_app ha hb) hc
    rw [← z, z2]
  have e2 : val (a ++ val (b ++ c)) = val (a ++ (b ++ c)) := by
    have z := val_vals (a := a) (b := val (b ++ c)) ha (good_L (val_good (allL_app hb hc)))
    rw [val_self (val_good (allL_app hb hc))] at z
    have z2 := val_vals (a := a) (b := b ++ c) ha (allL_app hb hc)
    rw [← z, z2]
  rw [e1, e2, List.append_assoc]
theorem val_left {a b : List Nat} (ha : AllL a) (hb : AllL b) : val (val a ++ b) = val (a ++ b) := by
  have z := val_vals (a := val a) (b := b) (good_L (val_good ha)) hb
  rw [val_self (val_good ha)] at z
  rw [← z, val_vals ha hb]
theorem val_right {a b : List Nat} (ha : AllL a) (hb : AllL b) : val (a ++ val b) = val (a ++ b) := by
  have z := val_vals (a := a) (b := val b) ha (good_L (val_good hb))
  rw [val_self (val_good hb)] at z
  rw [← z, val_vals ha hb]
theorem val_len (w : List Nat) : (val w).length ≤ w.length := by
  induction w with
  | nil => exact Nat.le_refl _
  | cons c w ih =>
    rw [val_cons]
    cases e : val w with
    | nil => simp [act]
    | cons d r =>
      rw [e] at ih
      by_cases h : und c = d
      · subst h; rw [act_hit]; simp at ih ⊢; omega
      · rw [act_miss h]; simp at ih ⊢; omega
/-- the undoing of what a text comes to -/
theorem val_bk {w : List Nat} (h : AllL w) : val (back w) = back (val w) := by
  have g1 := val_good h
  have gb := good_back g1
  have hL := good_L g1
  have e1 : val (back w ++ val w) = [] := by rw [val_right (allL_back h) h, val_back2 h]
  have z := val_assoc (a := back w) (b := val w) (c := back (val w)) (allL_back h) hL (allL_back hL)
  rw [e1, val_back1 hL, List.nil_append, List.append_nil, val_self gb] at z
  exact z.symm
theorem back_inj {a b : List Nat} (ha : AllL a) (hb : AllL b) (h : back a = back b) : a = b := by rw [← back_back ha, ← back_back hb, h]
end Cs

set_option Elab.async false
set_option linter.all false
set_option maxRecDepth 100000
set_option maxHeartbeats 4000000
/-! LayY: rows said over and over; rows that commute; the least unit of a row. -/
namespace Cs
open PySem PySem.Spec PyProof.Rows L2
namespace Rp
def rep (n : Nat) (u : List Nat) : List Nat := (List.replicate n u).flatten
theorem rep_zero (u : List Nat) : rep 0 u = [] := rfl
theorem rep_succ (n : Nat) (u : List Nat) : rep (n + 1) u = u ++ rep n u := by simp [rep, List.replicate_succ]
theorem rep_one (u : List Nat) : rep 1 u = u := by rw [rep_succ, rep_zero, List.append_nil]
theorem rep_add (i j : Nat) (u : List Nat) : rep (i + j) u = rep i u ++ rep j u := by
  induction i with
  | zero => simp [rep_zero]
  | succ i ih => rw [Nat.succ_add, rep_succ, ih, rep_succ, List.append_assoc]
theorem rep_snoc (n : Nat) (u : List Nat) : rep (n + 1) u = rep n u ++ u := by rw [rep_add, rep_one]
theorem rep_mul (i j : Nat) (u : List Nat) : rep i (rep j u) = rep (i * j) u := by
  induction i with
  | zero => simp [rep_zero]
  | succ i ih => rw [rep_succ, ih, Nat.succ_mul, Nat.add_comm (i * j) j, rep_add]
theorem rep_len (n : Nat) (u : List Nat) : (rep n u).length = n * u.length := by
  induction n with
  | zero => simp [rep_zero]
  | succ n ih => rw [rep_succ, List.length_append, ih, Nat.succ_mul, Nat.add_comm]
theorem rep_nil (n : Nat) : rep n [] = [] := List.eq_nil_of_length_eq_zero (by rw [rep_len]; simp)
theorem comm_pow : ∀ (n : Nat) (u v : List Nat), u.length + v.length ≤ n → u ++ v = v ++ u → ∃ t i j, u = rep i t ∧ v = rep j t := by
  intro n
  induction n with
  | zero =>
    intro u v hl _
    have hu : u = [] := List.eq_nil_of_length_eq_zero (by omega)
    have hv : v = [] := List.eq_nil_of_length_eq_zero (by omega)
    exact ⟨[], 0, 0, by rw [hu]; rfl, by rw [hv]; rfl⟩
  | succ n ih =>
    intro u v hl h
    by_cases hu : u = []
    · exact ⟨v, 0, 1, by rw [hu]; rfl, (rep_one v).symm⟩
    by_cases hv : v = []
    · exact ⟨u, 1, 0, (rep_one u).symm, by rw [hv]; rfl⟩
    have lu : 0 < u.length := List.length_pos_iff.mpr hu
    have lv : 0 < v.length := List.length_pos_iff.mpr hv
    by_cases hle : u.length ≤ v.length
    · obtain ⟨v', rfl⟩ : ∃ v', v = u ++ v' := by
        have p1 : u <+: v ++ u := ⟨v, h⟩
        have p2 : v <+: v ++ u := List.prefix_append _ _
        obtain ⟨v', e⟩ := List.prefix_of_prefix_length_le p1 p2 hle
        exact ⟨v', e.symm⟩
      rw [List.append_assoc] at h
      have h2 := List.append_cancel_left h
      rw [List.length_append] at hl
      obtain ⟨t, i, j, e1, e2⟩ := ih u v' (by omega) h2
      exact ⟨t, i, i + j, e1, by rw [rep_add, ← e1, ← e2]⟩
    · obtain ⟨u', rfl⟩ : ∃ u', u = v ++ u' := by
        have p1 : v <+: u ++ v := ⟨u, h.symm⟩
        have p2 : u <+: u ++ v := List.prefix_append _ _
        obtain ⟨u', e⟩ := List.prefix_of_prefix_length_le p1 p2 (by omega)
        exact ⟨u', e.symm⟩
      rw [List.append_assoc] at h
      have h2 := List.append_cancel_left h
      rw [List.length_append] at hl
      obtain ⟨t, i, j, e1, e2⟩ := ih u' v (by omega) h2
      exact ⟨t, j + i, j, by rw [rep_add, ← e1, ← e2], e2⟩
/-- c is so many times its first d letters -/
def unitB (c : List Nat) (d : Nat) : Bool := decide (c.length % d = 0) && decide (c = rep (c.length / d) (c.take d))
theorem unit_all (c : List Nat) : unitB c c.length = true := by
  unfold unitB
  by_cases h : c = []
  · subst h; rfl
  · have : 0 < c.length := List.length_pos_iff.mpr h
    rw [Nat.mod_self, Nat.div_self this, List.take_length, rep_one]
    simp
/-- c's least unit, by search from d on -/
def perF (c : List Nat) : Nat → Nat → Nat
  | 0, d => d
  | n + 1, d => if unitB c d = true then d else perF c n (d + 1)
def per (c : List Nat) : Nat := perF c (c.length - 1) 1
theorem perF_spec (c : List Nat) : ∀ (n d : Nat), d + n = c.length → unitB c (perF c n d) = true ∧ d ≤ perF c n d ∧ perF c n d ≤ c.length ∧ ∀ k, d ≤ k → k < perF c n d → unitB c k = false
  | 0, d, h => by
    have e : d = c.length := by omega
    unfold perF
    exact ⟨by rw [e]; exact unit_all c, Nat.le_refl _, by omega, fun k h1 h2 => absurd h1 (by omega)⟩
  | n + 1, d, h => by
    unfold perF
    by_cases hu : unitB c d = true
    · rw [if_pos hu]
      exact ⟨hu, Nat.le_refl _, by omega, fun k h1 h2 => absurd h1 (by omega)⟩
    · rw [if_neg hu]
      obtain ⟨h1, h2, h3, h4⟩ := perF_spec c n (d + 1) (by omega)
      refine ⟨h1, by omega, h3, fun k k1 k2 => ?_⟩
      by_cases e : k = d
      · subst e
        simpa using hu
      · exact h4 k (by omega) k2
theorem per_spec {c : List Nat} (hc : c ≠ []) : unitB c (per c) = true ∧ 1 ≤ per c ∧ per c ≤ c.length ∧ ∀ k, 1 ≤ k → k < per c → unitB c k = false := by
  have : 0 < c.length := List.length_pos_iff.mpr hc
  exact perF_spec c (c.length - 1) 1 (by omega)
/-- the least unit -/
def prim (c : List Nat) : List Nat := c.take (per c)
theorem prim_len {c : List Nat} (hc : c ≠ []) : (prim c).length = per c := by
  unfold prim
  rw [List.length_take]
  have := (per_spec hc).2.2.1
  omega
theorem prim_rep {c : List Nat} (hc : c ≠ []) : c = rep (c.length / per c) (prim c) := by
  have h := (per_spec hc).1
  unfold unitB at h
  rw [Bool.and_eq_true] at h
  exact of_decide_eq_true h.2
theorem prim_dvd {c : List Nat} (hc : c ≠ []) : c.length % per c = 0 := by
  have h := (per_spec hc).1
  unfold unitB at h
  rw [Bool.and_eq_true] at h
  exact of_decide_eq_true h.1
theorem prim_ne {c : List Nat} (hc : c ≠ []) : prim c ≠ [] := fun z => by
  have h := prim_len hc
  rw [z] at h
  have := (per_spec hc).2.1
  simp at h
  omega
theorem unit_of {s : List Nat} {i : Nat} (hi : 0 < i) (hs : s ≠ []) : unitB (rep i s) s.length = true := by
  have : 0 < s.length := List.length_pos_iff.mpr hs
  unfold unitB
  rw [rep_len, Nat.mul_mod_left, Nat.mul_div_cancel _ this]
  have e : (rep i s).take s.length = s := by
    obtain ⟨j, rfl⟩ : ∃ j, i = j + 1 := ⟨i - 1, by omega⟩
    rw [rep_succ, List.take_append_of_le_length (Nat.le_refl _), List.take_length]
  rw [e]
  simp
/-- every unit is so many times the least one -/
theorem prim_min {c s : List Nat} {i : Nat} (hc : c ≠ []) (h : c = rep i s) : ∃ e, 0 < e ∧ s = rep e (prim c) := by
  have hu := prim_rep hc
  have hn := prim_ne hc
  have hi : 0 < i := Nat.pos_of_ne_zero fun z => hc (by rw [h, z]; rfl)
  have hs : s ≠ [] := fun z => hc (by rw [h, z, rep_nil])
  have hk : 0 < c.length / per c := Nat.div_pos (per_spec hc).2.2.1 (per_spec hc).2.1
  generalize hkd : c.length / per c = k at hu hk
  generalize hud : prim c = u at hu hn
  have pre : ∀ {x : List Nat} {m : Nat}, 0 < m → c = rep m x → x <+: c ∧ x ++ c = c ++ x := fun {x m} hm e => by
    obtain ⟨m', rfl⟩ : ∃ m', m = m' + 1 := ⟨m - 1, by omega⟩
    refine ⟨⟨rep m' x, by rw [← rep_succ, ← e]⟩, ?_⟩
    rw [e]
    rw [← rep_succ, rep_snoc]
  obtain ⟨p1, q1⟩ := pre hi h
  obtain ⟨p2, q2⟩ := pre hk hu
  have both : ∀ {x y : List Nat}, x <+: c → y <+: c → x ++ c = c ++ x → x ++ y <+: c ++ c := fun {x y} px py q => by
    have a1 : x ++ y <+: x ++ c := (List.prefix_append_right_inj x).mpr py
    rw [q] at a1
    exact a1.trans ((List.prefix_append_right_inj c).mpr px)
  have b1 := both p1 p2 q1
  have b2 := both p2 p1 q2
  have e : s ++ u = u ++ s := by
    have h1 := List.prefix_of_prefix_length_le b1 b2 (by rw [List.length_append, List.length_append]; omega)
    exact h1.eq_of_length (by rw [List.length_append, List.length_append]; omega)
  obtain ⟨t, a, b, e1, e2⟩ := comm_pow _ s u (Nat.le_refl _) e
  have hb : 0 < b := Nat.pos_of_ne_zero fun z => hn (by rw [e2, z]; rfl)
  have ht : t ≠ [] := fun z => hn (by rw [e2, z, rep_nil])
  have hct : c = rep (k * b) t := by rw [hu, e2, rep_mul]
  have hun : unitB c t.length = true := by
    have z := unit_of (s := t) (i := k * b) (Nat.mul_pos hk hb) ht
    rw [← hct] at z
    exact z
  have lt : 0 < t.length := List.length_pos_iff.mpr ht
  have hle : per c ≤ t.length := Nat.le_of_not_lt fun z => by
    have := (per_spec hc).2.2.2 t.length lt z
    rw [hun] at this
    cases this
  have hlu : u.length = per c := by rw [← hud]; exact prim_len hc
  have hb1 : b = 1 := by
    have z := congrArg List.length e2
    rw [rep_len, hlu] at z
    have : b * t.length ≤ 1 * t.length := by omega
    have := Nat.le_of_mul_le_mul_right this lt
    omega
  subst hb1
  rw [rep_one] at e2
  have ha : 0 < a := Nat.pos_of_ne_zero fun z => hs (by rw [e1, z]; rfl)
  exact ⟨a, ha, by rw [e1, e2]⟩
/-- powers of one row have one least unit -/
theorem prim_pow {t : List Nat} {i j : Nat} (ht : t ≠ []) (hi : 0 < i) (hj : 0 < j) : prim (rep i t) = prim (rep j t) := by
  have ne : ∀ {m}, 0 < m → rep m t ≠ [] := fun {m} hm z => by
    have := congrArg List.length z
    rw [rep_len] at this
    have lt : 0 < t.length := List.length_pos_iff.mpr ht
    have := Nat.mul_pos hm lt
    simp at *
    omega
  have go : ∀ {m n}, 0 < m → 0 < n → ∃ e, 0 < e ∧ prim (rep n t) = rep e (prim (rep m t)) := fun {m n} hm hn => by
    obtain ⟨a, ha, e1⟩ := prim_min (ne hn) rfl
    have e2 : rep m t = rep (m * a) (prim (rep n t)) := by
      conv => lhs; rw [e1]
      rw [rep_mul]
    exact prim_min (ne hm) e2
  obtain ⟨a, ha, e1⟩ := go hi hj
  obtain ⟨b, hb, e2⟩ := go hj hi
  have l1 := congrArg List.length e1
  have l2 := congrArg List.length e2
  rw [rep_len] at l1 l2
  have lp : 0 < (prim (rep i t)).length := List.length_pos_iff.mpr (prim_ne (ne hi))
  have hab : (prim (rep i t)).length = b * a * (prim (rep i t)).length := by
    conv => lhs; rw [l2, l1]
    rw [Nat.mul_assoc]
  have h1 : b * a = 1 := by
    have : b * a * (prim (rep i t)).length = 1 * (prim (rep i t)).length := by omega
    exact Nat.eq_of_mul_eq_mul_right lp this
  have ha1 : a = 1 := Nat.eq_one_of_mul_eq_one_left h1
  rw [ha1, rep_one] at e1
  exact e1.symm
end Rp
end Cs

set_option Elab.async false
set_option linter.all false
set_option maxRecDepth 100000
set_option maxHeartbeats 4000000
/-! LayZ: coats, cores, roots, powers of words; words that commute. -/
namespace Cs
open PySem PySem.Spec PyProof.Rows L2
namespace Rp
/-- may stand side by side -/
def Jn (a b : List Nat) : Prop := ∀ x y, lastL a = [x] → b.head? = some y → y ≠ und x
theorem jn_app {a b : List Nat} (ha : Good a) (hb : Good b) (h : Jn a b) : Good (a ++ b) := good_app ha hb h
theorem good_l {a b : List Nat} (h : Good (a ++ b)) : Good a := by have z := good_take h a.length; simpa using z
theorem good_r {a b : List Nat} (h : Good (a ++ b)) : Good b := by have z := good_drop h a.length; simpa using z
theorem jn_of {a b : List Nat} (h : Good (a ++ b)) : Jn a b := by
  intro x y hx hy e
  cases b with
  | nil => cases hy
  | cons d r =>
    have hd : d = y := by simpa using hy
    subst hd
    have hne : a ≠ [] := fun z => by rw [z] at hx; cases hx
    obtain ⟨u, c, rfl⟩ := snoc_of hne
    rw [lastL_snoc] at hx
    have hx : c = x := by simpa using hx
    subst hx
    have e2 : u ++ [c] ++ d :: r = (u ++ [c] ++ [d]) ++ r := by simp
    rw [e2] at h
    have z := (good_snoc.mp (good_l h)).2.2
    rw [lastL_snoc] at z
    exact z (by simp [e])
theorem lastL_app {a b : List Nat} (hb : b ≠ []) : lastL (a ++ b) = lastL b := by
  obtain ⟨u, c, rfl⟩ := snoc_of hb
  rw [← List.append_assoc, lastL_snoc, lastL_snoc]
theorem head_app {a b : List Nat} (ha : a ≠ []) : (a ++ b).head? = a.head? := by
  cases a with
  | nil => exact absurd rfl ha
  | cons c r => rfl
theorem jn_appl {a b c : List Nat} (hb : b ≠ []) : Jn (a ++ b) c ↔ Jn b c := by unfold Jn; rw [lastL_app hb]
theorem jn_appr {a b c : List Nat} (hb : b ≠ []) : Jn a (b ++ c) ↔ Jn a b := by unfold Jn; rw [head_app hb]
def Cyc (c : List Nat) : Prop := Jn c c
theorem rep_ne {k : Nat} {c : List Nat} (hk : 0 < k) (hc : c ≠ []) : rep k c ≠ [] := fun z => by
  have := congrArg List.length z
  rw [rep_len] at this
  have lt : 0 < c.length := List.length_pos_iff.mpr hc
  have := Nat.mul_pos hk lt
  simp at *
  omega
theorem rep_last {k : Nat} {c : List Nat} (hk : 0 < k) : lastL (rep k c) = lastL c := by
  obtain ⟨j, rfl⟩ : ∃ j, k = j + 1 := ⟨k - 1, by omega⟩
  by_cases hc : c = []
  · subst hc; rw [rep_nil]
  · rw [rep_snoc, lastL_app hc]
theorem rep_head {k : Nat} {c : List Nat} (hk : 0 < k) : (rep k c).head? = c.head? := by
  obtain ⟨j, rfl⟩ : ∃ j, k = j + 1 := ⟨k - 1, by omega⟩
  by_cases hc : c = []
  · subst hc; rw [rep_nil]
  · rw [rep_succ, head_app hc]
theorem cyc_rep {c : List Nat} (hg : Good c) (hc : Cyc c) : ∀ k, Good (rep k c)
  | 0 => good_nil
  | k + 1 => by
    rw [rep_snoc]
    by_cases h : k = 0
    · subst h; rw [rep_zero, List.nil_append]; exact hg
    · exact jn_app (cyc_rep hg hc k) hg fun x y h1 h2 => hc x y (by rw [← rep_last (k := k) (by omega)]; exact h1) h2
theorem cyc_of_rep {c : List Nat} {k : Nat} (hk : 0 < k) : Cyc (rep k c) ↔ Cyc c := by
  unfold Cyc Jn
  rw [rep_last hk, rep_head hk]
theorem rep_back {c : List Nat} : ∀ k, rep k (back c) = back (rep k c)
  | 0 => rfl
  | k + 1 => by rw [rep_succ, rep_back k, rep_snoc, back_app]
theorem allL_rep {c : List Nat} (h : AllL c) : ∀ k, AllL (rep k c)
  | 0 => fun _ hc => by cases hc
  | k + 1 => by rw [rep_succ]; exact allL_app h (allL_rep h k)
theorem cyc_back {c : List Nat} (hg : Good c) (hc : Cyc c) : Cyc (back c) := by
  have z := good_back (jn_app hg hg hc)
  rw [back_app] at z
  exact jn_of z
theorem back_ne {c : List Nat} (h : c ≠ []) : back c ≠ [] := fun z => h (List.eq_nil_of_length_eq_zero (by rw [← back_len, z]; rfl))
theorem sand {p c x : List Nat} (h : Good (p ++ c ++ back p)) (hc : c ≠ []) (hx : Good x) (hxn : x ≠ []) (hh : x.head? = c.head?) (hl : lastL x = lastL c) : Good (p ++ x ++ back p) :=
  jn_app (jn_app (good_l (good_l h)) hx (fun a b h1 h2 => jn_of (good_l h) a b h1 (hh ▸ h2))) (good_r h)
    ((jn_appl hxn).mpr fun a b h1 h2 => (jn_appl hc).mp (jn_of h) a b (by rw [← hl]; exact h1) h2)
/-- a coat and a core -/
structure Core (w p c : List Nat) : Prop where
  e : w = p ++ c ++ back p
  ne : c ≠ []
  cy : Cyc c
def coatB (w : List Nat) (k : Nat) : Bool := decide (2 * k + 1 < w.length) && decide (w[k]? = (w[w.length - 1 - k]?).map und)
def coatF (w : List Nat) : Nat → Nat → Nat
  | 0, k => k
  | n + 1, k => if coatB w k = true then coatF w n (k + 1) else k
def coat (w : List Nat) : Nat := coatF w w.length 0
theorem dec : ∀ (n : Nat) (w : List Nat), w.length ≤ n → Good w → w ≠ [] → ∃ p c, Core w p c := by
  intro n
  induction n with
  | zero => intro w h _ hn; exact absurd (List.eq_nil_of_length_eq_zero (by omega)) hn
  | succ n ih =>
    intro w hl hg hn
    obtain ⟨t, y, rfl⟩ := snoc_of hn
    have hy : isL y = true := good_L hg y (by simp)
    cases t with
    | nil =>
      refine ⟨[], [y], by simp [back], by simp, fun a b h1 h2 => ?_⟩
      have h1 : y = a := by simpa [lastL] using h1
      have h2 : y = b := by simpa using h2
      subst h1; subst h2
      exact fun z => und_ne hy z.symm
    | cons x m =>
      have hx : isL x = true := good_L hg x (by simp)
      by_cases h : y = und x
      · subst h
        have hm : m ≠ [] := fun z => by
          subst z
          have z := (good_snoc.mp hg).2.2
          exact z (by simp [lastL])
        have gm : Good m := by
          have z := good_l hg
          exact good_r (a := [x]) z
        have hlm : m.length ≤ n := by simp at hl; omega
        obtain ⟨p, c, hc⟩ := ih m hlm gm hm
        exact ⟨x :: p, c, by rw [back_cons, hc.e]; simp, hc.ne, hc.cy⟩
      · refine ⟨[], x :: m ++ [y], by simp [back], by simp, fun a b h1 h2 => ?_⟩
        rw [lastL_snoc] at h1
        have h1 : y = a := by simpa using h1
        have h2 : x = b := by simpa using h2
        subst h1; subst h2
        exact fun z => h (by rw [z, und_und hy])
theorem dec' {w : List Nat} (hg : Good w) (hn : w ≠ []) : ∃ p c, Core w p c := dec _ w (Nat.le_refl _) hg hn
theorem coatB_lt {w p c : List Nat} {k : Nat} (h : Core w p c) (hw : AllL w) (hk : k < p.length) : coatB w k = true := by
  obtain ⟨e, ne, cy⟩ := h
  have hc : 0 < c.length := List.length_pos_iff.mpr ne
  have hl : w.length = p.length + c.length + p.length := by rw [e]; simp [back_len]; omega
  unfold coatB
  rw [Bool.and_eq_true, decide_eq_true_iff, decide_eq_true_iff]
  refine ⟨by omega, ?_⟩
  have hp : AllL p := fun d hd => hw d (by rw [e]; simp [hd])
  have e1 : w[k]? = p[k]? := by rw [e, List.append_assoc, List.getElem?_append_left hk]
  have e2 : w[w.length - 1 - k]? = (p.map und)[k]? := by
    rw [hl, e, List.getElem?_append_right (by simp; omega)]
    unfold back
    rw [List.getElem?_reverse (by simp; omega)]
    congr 1
    simp
    omega
  rw [e1, e2, List.getElem?_map]
  rw [List.getElem?_eq_getElem hk]
  simp only [Option.map_some]
  rw [und_und (hp _ (List.getElem_mem hk))]
theorem coatB_at {w p c : List Nat} (h : Core w p c) (hw : AllL w) : coatB w p.length = false := by
  obtain ⟨e, ne, cy⟩ := h
  have hl : w.length = p.length + c.length + p.length := by rw [e]; simp [back_len]; omega
  unfold coatB
  rw [Bool.and_eq_false_iff, decide_eq_false_iff_not, decide_eq_false_iff_not]
  right
  intro z
  obtain ⟨v, y, rfl⟩ := snoc_of ne
  have e1 : w[p.length]? = (v ++ [y]).head? := by
    rw [e, List.append_assoc, List.getElem?_append_right (Nat.le_refl _), Nat.sub_self]
    cases v <;> simp
  have e2 : w[w.length - 1 - p.length]? = some y := by
    rw [hl, e]
    rw [List.append_assoc, List.getElem?_append_right (by simp; omega), List.append_assoc, List.getElem?_append_right (by simp; omega)]
    have : p.length + (v ++ [y]).length + p.length - 1 - p.length - p.length - v.length = 0 := by simp; omega
    rw [this]
    rfl
  rw [e1, e2] at z
  exact cy y (und y) (lastL_snoc v y) (by rw [z]; rfl) rfl
theorem coatF_core {w p c : List Nat} (h : Core w p c) (hw : AllL w) : ∀ n k, k ≤ p.length → p.length < k + n → coatF w n k = p.length
  | 0, k, h1, h2 => by omega
  | n + 1, k, h1, h2 => by
    unfold coatF
    by_cases hk : k < p.length
    · rw [if_pos (coatB_lt h hw hk)]
      exact coatF_core h hw n (k + 1) (by omega) (by omega)
    · have : k = p.length := by omega
      subst this
      rw [coatB_at h hw]
      rfl
theorem coat_core {w p c : List Nat} (h : Core w p c) (hw : AllL w) : coat w = p.length := by
  have hc : 0 < c.length := List.length_pos_iff.mpr h.ne
  exact coatF_core h hw _ 0 (Nat.zero_le _) (by rw [h.e]; simp [back_len]; omega)
def pre (w : List Nat) : List Nat := w.take (coat w)
def cor (w : List Nat) : List Nat := (w.take (w.length - coat w)).drop (coat w)
def post (w : List Nat) : List Nat := w.drop (w.length - coat w)
theorem coat_nil : coat [] = 0 := rfl
theorem pre_core {w p c : List Nat} (h : Core w p c) (hw : AllL w) : pre w = p := by
  unfold pre; rw [coat_core h hw, h.e, List.append_assoc, List.take_left']; rfl
theorem cor_core {w p c : List Nat} (h : Core w p c) (hw : AllL w) : cor w = c := by
  unfold cor
  rw [coat_core h hw, h.e]
  have : (p ++ c ++ back p).length - p.length = (p ++ c).length := by simp [back_len]; omega
  rw [this, List.take_left', List.drop_left']
  · rfl
  · rfl
theorem post_core {w p c : List Nat} (h : Core w p c) (hw : AllL w) : post w = back p := by
  unfold post
  rw [coat_core h hw, h.e]
  have : (p ++ c ++ back p).length - p.length = (p ++ c).length := by simp [back_len]; omega
  rw [this, List.drop_left']
  rfl
theorem coat_le {w : List Nat} (hg : Good w) : 2 * coat w ≤ w.length := by
  by_cases hn : w = []
  · subst hn; exact Nat.le_refl _
  · obtain ⟨p, c, h⟩ := dec' hg hn
    rw [coat_core h (good_L hg), h.e]
    simp [back_len]
    omega
theorem post_back {w : List Nat} (hg : Good w) : post w = back (pre w) := by
  by_cases hn : w = []
  · subst hn; rfl
  · obtain ⟨p, c, h⟩ := dec' hg hn
    rw [post_core h (good_L hg), pre_core h (good_L hg)]
theorem core_self {w : List Nat} (hg : Good w) (hn : w ≠ []) : Core w (pre w) (cor w) := by
  obtain ⟨p, c, h⟩ := dec' hg hn
  rw [pre_core h (good_L hg), cor_core h (good_L hg)]
  exact h
theorem good_pre {w : List Nat} (hg : Good w) : Good (pre w) := good_take hg _
theorem good_cor {w : List Nat} (hg : Good w) : Good (cor w) := good_drop (good_take hg _) _
theorem core_eq {w : List Nat} (hg : Good w) : pre w ++ cor w ++ back (pre w) = w := by
  by_cases hn : w = []
  · subst hn; rfl
  · exact (core_self hg hn).e.symm
theorem core_back {w p c : List Nat} (h : Core w p c) (hg : Good w) : Core (back w) p (back c) := by
  have hp : Good p := by have z := hg; rw [h.e] at z; exact good_l (good_l z)
  have hc : Good c := by have z := hg; rw [h.e] at z; exact good_r (good_l z)
  refine ⟨?_, back_ne h.ne, cyc_back hc h.cy⟩
  rw [h.e, back_app, back_app, back_back (good_L hp), List.append_assoc]
theorem good_pow {w p c : List Nat} (h : Core w p c) (hg : Good w) {k : Nat} (hk : 0 < k) : Good (p ++ rep k c ++ back p) := by
  have z := hg
  rw [h.e] at z
  exact sand z h.ne (cyc_rep (good_r (good_l z)) h.cy k) (rep_ne hk h.ne) (rep_head hk) (rep_last hk)
theorem val_rep {w p c : List Nat} (h : Core w p c) (hg : Good w) : ∀ k, val (rep (k + 1) w) = p ++ rep (k + 1) c ++ back p
  | 0 => by rw [rep_one, rep_one, val_self hg, ← h.e]
  | k + 1 => by
    have hL := good_L hg
    have hp : AllL p := fun d hd => hL d (by rw [h.e]; simp [hd])
    have hc : AllL c := fun d hd => hL d (by rw [h.e]; simp [hd])
    rw [rep_succ (k + 1) w, ← val_right hL (allL_rep hL _), val_rep h hg k]
    have e : w ++ (p ++ rep (k + 1) c ++ back p) = (p ++ c) ++ back p ++ back (back p) ++ (rep (k + 1) c ++ back p) := by
      rw [back_back hp]
      conv => lhs; rw [h.e]
      simp
    rw [e, val_back (allL_back hp) (allL_app (allL_rep hc _) (allL_back hp))]
    have e2 : p ++ c ++ (rep (k + 1) c ++ back p) = p ++ rep (k + 1 + 1) c ++ back p := by rw [rep_succ (k + 1) c]; simp
    rw [e2, val_self (good_pow h hg (Nat.succ_pos _))]
def sg (w : List Nat) (n : Int) : List Nat := if 0 < n then w else back w
/-- what power makes -/
def powL (w : List Nat) (n : Int) : List Nat := if n = 0 ∨ w = [] then [] else pre w ++ (if 0 < n then rep n.natAbs (cor w) else back (rep n.natAbs (cor w))) ++ post w
theorem powL_val {w : List Nat} (hg : Good w) (n : Int) : powL w n = val (rep n.natAbs (sg w n)) := by
  unfold powL sg
  by_cases h0 : n = 0
  · subst h0; rfl
  by_cases hw : w = []
  · subst hw
    rw [if_pos (Or.inr rfl)]
    have : (if 0 < n then ([] : List Nat) else back []) = [] := by split <;> rfl
    rw [this, rep_nil]
    rfl
  rw [if_neg (fun z => z.elim h0 hw), post_back hg]
  have hk : 0 < n.natAbs := by omega
  obtain ⟨k, ek⟩ : ∃ k, n.natAbs = k + 1 := ⟨n.natAbs - 1, by omega⟩
  rw [ek]
  have hc := core_self hg hw
  by_cases hn : 0 < n
  · rw [if_pos hn, if_pos hn, val_rep hc hg]
  · rw [if_neg hn, if_neg hn, val_rep (core_back hc hg) (good_back hg), rep_back]
theorem powL_good {w : List Nat} (hg : Good w) (n : Int) : Good (powL w n) := by
  rw [powL_val hg]
  refine val_good (allL_rep ?_ _)
  unfold sg
  split
  · exact good_L hg
  · exact allL_back (good_L hg)
theorem powL_neg {w : List Nat} (hg : Good w) (n : Int) : powL w (-n) = back (powL w n) := by
  have hL := good_L hg
  rw [powL_val hg, powL_val hg, Int.natAbs_neg]
  unfold sg
  by_cases h0 : n = 0
  · subst h0; rfl
  by_cases hn : 0 < n
  · rw [if_pos hn, if_neg (by omega), rep_back, val_bk (allL_rep hL _)]
  · rw [if_neg hn, if_pos (by omega), rep_back, ← val_bk (allL_back (allL_rep hL _)), back_back (allL_rep hL _)]
theorem powL_succ {w : List Nat} (hg : Good w) (n : Int) : powL w (n + 1) = val (powL w n ++ w) := by
  have hL := good_L hg
  rw [powL_val hg, powL_val hg]
  unfold sg
  by_cases hn : 0 ≤ n
  · have e : (n + 1).natAbs = n.natAbs + 1 := by omega
    rw [if_pos (by omega : 0 < n + 1), e, rep_snoc]
    by_cases h0 : n = 0
    · subst h0; rfl
    · rw [if_pos (by omega : 0 < n), val_left (allL_rep hL _) hL]
  · have e : n.natAbs = (n + 1).natAbs + 1 := by omega
    rw [if_neg (by omega : ¬ 0 < n + 1), if_neg (by omega : ¬ 0 < n), e, rep_snoc]
    rw [val_left (allL_app (allL_rep (allL_back hL) _) (allL_back hL)) hL]
    have z := val_back (a := rep (n + 1).natAbs (back w)) (b := back w) (r := []) (allL_back hL) (fun c hc => by cases hc)
    rw [back_back hL, List.append_nil, List.append_nil] at z
    exact z.symm
theorem powL_len {w : List Nat} (hg : Good w) {n : Int} (h0 : n ≠ 0) (hw : w ≠ []) : (powL w n).length = 2 * coat w + n.natAbs * (cor w).length := by
  unfold powL
  rw [if_neg (fun z => z.elim h0 hw), post_back hg]
  have hp : (pre w).length = coat w := by
    unfold pre
    have := coat_le hg
    rw [List.length_take]
    omega
  have e : (if 0 < n then rep n.natAbs (cor w) else back (rep n.natAbs (cor w))).length = n.natAbs * (cor w).length := by
    split
    · rw [rep_len]
    · rw [back_len, rep_len]
  rw [List.length_append, List.length_append, e, back_len, hp]
  omega
/-- the root -/
def rootL (w : List Nat) : List Nat := pre w ++ prim (cor w) ++ post w
theorem prim_pos {c : List Nat} (hc : c ≠ []) : 0 < c.length / per c := Nat.div_pos (per_spec hc).2.2.1 (per_spec hc).2.1
theorem cyc_prim {c : List Nat} (hc : c ≠ []) (h : Cyc c) : Cyc (prim c) := by
  have e := prim_rep hc
  rw [e] at h
  exact (cyc_of_rep (prim_pos hc)).mp h
theorem root_core {w p c : List Nat} (h : Core w p c) (hg : Good w) : rootL w = p ++ prim c ++ back p ∧ Core (rootL w) p (prim c) ∧ Good (rootL w) := by
  have hL := good_L hg
  have e : rootL w = p ++ prim c ++ back p := by unfold rootL; rw [pre_core h hL, cor_core h hL, post_core h hL]
  refine ⟨e, ⟨e, prim_ne h.ne, cyc_prim h.ne h.cy⟩, ?_⟩
  rw [e]
  have z := hg
  rw [h.e] at z
  have gp : Good (prim c) := good_take (good_r (good_l z)) _
  have hh : (prim c).head? = c.head? := by conv => rhs; rw [prim_rep h.ne]
                                           rw [rep_head (prim_pos h.ne)]
  have hl : lastL (prim c) = lastL c := by conv => rhs; rw [prim_rep h.ne]
                                           rw [rep_last (prim_pos h.ne)]
  exact sand z h.ne gp (prim_ne h.ne) hh hl
theorem root_good {w : List Nat} (hg : Good w) : Good (rootL w) := by
  by_cases hn : w = []
  · subst hn; exact good_nil
  · exact (root_core (core_self hg hn) hg).2.2
theorem root_nil : rootL [] = [] := rfl
theorem root_ne {w : List Nat} (hg : Good w) (hn : w ≠ []) : rootL w ≠ [] := fun z => by
  have h := (root_core (core_self hg hn) hg).1
  have := congrArg List.length h
  rw [z] at this
  have := List.length_pos_iff.mpr (prim_ne (core_self hg hn).ne)
  simp at *
  omega
def timesL (w : List Nat) : Nat := (cor w).length / per (cor w)
theorem times_pos {w : List Nat} (hg : Good w) (hn : w ≠ []) : 0 < timesL w := prim_pos (core_self hg hn).ne
theorem root_pow {w : List Nat} (hg : Good w) (hn : w ≠ []) : powL (rootL w) (timesL w : Int) = w := by
  have h := core_self hg hn
  obtain ⟨e, hc, gr⟩ := root_core h hg
  have hk := times_pos hg hn
  rw [powL_val gr]
  unfold sg
  rw [if_pos (by omega), Int.natAbs_natCast]
  obtain ⟨k, ek⟩ : ∃ k, timesL w = k + 1 := ⟨timesL w - 1, by omega⟩
  rw [ek, val_rep hc gr, ← ek]
  unfold timesL
  rw [← prim_rep h.ne]
  exact h.e.symm
/-- the law's own search for the root -/
theorem law_root_lt {c : List Nat} {m : Nat} (hc : c ≠ []) (h1 : c.length / per c < m) : rep m (c.take (c.length / m)) ≠ c := fun z => by
  obtain ⟨e, he, hs⟩ := prim_min hc z.symm
  have l1 := congrArg List.length z
  have l2 := congrArg List.length hs
  rw [rep_len] at l1 l2
  rw [prim_len hc] at l2
  have hp := (per_spec hc).2.1
  have : per c ≤ (c.take (c.length / m)).length := by rw [l2]; exact Nat.le_mul_of_pos_left _ he
  have h2 : m * per c ≤ c.length := by
    rw [← l1]
    exact Nat.mul_le_mul_left _ this
  have h3 : m ≤ c.length / per c := (Nat.le_div_iff_mul_le hp).mpr h2
  omega
theorem law_root_at {c : List Nat} (hc : c ≠ []) : c.length / (c.length / per c) = per c := by
  have hd := prim_dvd hc
  have hk := prim_pos hc
  have e : c.length = per c * (c.length / per c) := (Nat.mul_div_cancel' (Nat.dvd_of_mod_eq_zero hd)).symm
  exact Nat.div_eq_of_eq_mul_left hk e
theorem prim_back {c : List Nat} (hc : c ≠ []) (hL : AllL c) : prim (back c) = back (prim c) := by
  have e1 : back c = rep (c.length / per c) (back (prim c)) := by
    rw [rep_back, ← prim_rep hc]
  obtain ⟨m, hm, h1⟩ := prim_min (back_ne hc) e1
  have e2 : c = rep ((back c).length / per (back c)) (back (prim (back c))) := by
    rw [rep_back, ← prim_rep (back_ne hc), back_back hL]
  obtain ⟨k, hk, h2⟩ := prim_min hc e2
  have l1 := congrArg List.length h1
  have l2 := congrArg List.length h2
  rw [rep_len, back_len] at l1 l2
  have lp : 0 < (prim c).length := List.length_pos_iff.mpr (prim_ne hc)
  have hab : m * k * (prim c).length = 1 * (prim c).length := by
    rw [Nat.mul_assoc, ← l2, ← l1, Nat.one_mul]
  have hmk := Nat.eq_of_mul_eq_mul_right lp hab
  have hm1 : m = 1 := Nat.eq_one_of_mul_eq_one_right hmk
  rw [hm1, rep_one] at h1
  exact h1.symm
/-- commuting -/
def Cm (x y : List Nat) : Prop := val (x ++ y) = val (y ++ x)
theorem cm_app {x y z : List Nat} (hx : AllL x) (hy : AllL y) (hz : AllL z) (h1 : Cm x y) (h2 : Cm x z) : Cm x (y ++ z) := by
  unfold Cm at *
  rw [← List.append_assoc, ← val_left (allL_app hx hy) hz, h1, val_left (allL_app hy hx) hz, List.append_assoc, ← val_right hy (allL_app hx hz), h2, val_right hy (allL_app hz hx), ← List.append_assoc]
theorem cm_rep {x y : List Nat} (hx : AllL x) (hy : AllL y) (h : Cm x y) : ∀ k, Cm x (rep k y)
  | 0 => by unfold Cm; rw [rep_zero, List.append_nil, List.nil_append]
  | k + 1 => by rw [rep_succ]; exact cm_app hx hy (allL_rep hy k) h (cm_rep hx hy h k)
theorem cm_reps {x y : List Nat} (hx : AllL x) (hy : AllL y) (h : Cm x y) (i j : Nat) : Cm (rep i x) (rep j y) :=
  (cm_rep (allL_rep hy j) hx (cm_rep hx hy h j).symm i).symm
theorem cm_val {x y : List Nat} (hx : AllL x) (hy : AllL y) : Cm (val x) (val y) ↔ Cm x y := by
  unfold Cm
  rw [val_vals hx hy, val_vals hy hx]
theorem jn_not {d c : List Nat} (hd : AllL d) (hc : AllL c) (h : ¬ Jn d c) : (val (d ++ c)).length < d.length + c.length ∧ ∃ x, lastL d = [x] ∧ c.head? = some (und x) := by
  have ⟨x, y, h1, h2, h3⟩ : ∃ x y, lastL d = [x] ∧ c.head? = some y ∧ y = und x := by
    apply Classical.byContradiction
    intro z
    exact h fun x y a b e => z ⟨x, y, a, b, e⟩
  subst h3
  refine ⟨?_, x, h1, h2⟩
  have hne : d ≠ [] := fun z => by rw [z] at h1; cases h1
  obtain ⟨u, x', rfl⟩ := snoc_of hne
  rw [lastL_snoc] at h1
  have h1 : x' = x := by simpa using h1
  subst h1
  cases c with
  | nil => cases h2
  | cons y r =>
    have h2 : y = und x' := by simpa using h2
    subst h2
    have hr : AllL r := fun e he => hc e (by simp [he])
    have z := val_strike (a := u) (b := r) (hd x' (by simp)) hr
    have e : u ++ [x'] ++ und x' :: r = u ++ x' :: und x' :: r := by simp
    rw [e, z]
    have := val_len (u ++ r)
    simp at *
    omega
theorem jn_sym {c d : List Nat} (hc : Good c) (hd : Good d) (h : Cm c d) (hj : Jn c d) : Jn d c := by
  apply Classical.byContradiction
  intro hn
  have l1 := (jn_not (good_L hd) (good_L hc) hn).1
  unfold Cm at h
  rw [← h, val_self (jn_app hc hd hj), List.length_append] at l1
  omega
theorem cm_jn {c d : List Nat} (hc : Good c) (hd : Good d) (h : Cm c d) (hj : Jn c d) : c ++ d = d ++ c := by
  have hj2 := jn_sym hc hd h hj
  unfold Cm at h
  rw [val_self (jn_app hc hd hj), val_self (jn_app hd hc hj2)] at h
  exact h
theorem cm_back {c d : List Nat} (hc : AllL c) (hd : AllL d) (h : Cm c d) : Cm c (back d) := by
  have hb := allL_back hd
  have h1 : val (back d ++ (d ++ c) ++ back d) = val (c ++ back d) := by
    have z := val_back (a := []) (b := back d) (r := c ++ back d) hb (allL_app hc hb)
    rw [back_back hd] at z
    simpa using z
  have h2 : val (back d ++ (c ++ d) ++ back d) = val (back d ++ c) := by
    have z := val_back (a := back d ++ c) (b := d) (r := []) hd (fun c hc => by cases hc)
    simpa using z
  unfold Cm at *
  have e : val (back d ++ (d ++ c) ++ back d) = val (back d ++ (c ++ d) ++ back d) := by
    rw [← val_left (allL_app hb (allL_app hd hc)) hb, ← val_right hb (allL_app hd hc), ← h, val_right hb (allL_app hc hd), val_left (allL_app hb (allL_app hc hd)) hb]
  rw [← h1, e, h2]
theorem cyc_comm {c d : List Nat} (hc : Good c) (cy : Cyc c) (hd : Good d) (h : Cm c d) : c ++ d = d ++ c ∨ c ++ back d = back d ++ c := by
  by_cases hj : Jn c d
  · exact Or.inl (cm_jn hc hd h hj)
  · right
    have hj2 : ¬ Jn d c := fun z => hj (jn_sym hd hc h.symm z)
    obtain ⟨-, x, hx, hcx⟩ := jn_not (good_L hd) (good_L hc) hj2
    refine cm_jn hc (good_back hd) (cm_back (good_L hc) (good_L hd) h) fun a b ha hb e => ?_
    have hdn : d ≠ [] := fun z => by rw [z] at hx; cases hx
    obtain ⟨u, x', rfl⟩ := snoc_of hdn
    rw [lastL_snoc] at hx
    have hx : x' = x := by simpa using hx
    subst hx
    have hb2 : und x' = b := by
      rw [back_app] at hb
      simpa [back] using hb
    exact cy a (und x') ha hcx (by rw [hb2, e])
theorem comm_iff {a b : List Nat} (ha : Good a) (hb : Good b) (na : a ≠ []) (nb : b ≠ []) : val (a ++ b) = val (b ++ a) ↔ rootL a = rootL b ∨ rootL a = back (rootL b) := by
  have la := good_L ha
  have lb := good_L hb
  constructor
  · intro h
    have hA := core_self ha na
    generalize pre a = p at hA
    generalize cor a = c at hA
    have ga := ha
    rw [hA.e] at ga
    have gp := good_l (good_l ga)
    have gc := good_r (good_l ga)
    have lp := good_L gp
    have lc := good_L gc
    have lq := allL_back lp
    have bp : back (back p) = p := back_back lp
    have nil : AllL ([] : List Nat) := fun c hc => by cases hc
    -- a is led to c, b to b1
    have hb1 : b = val (p ++ val (back p ++ b ++ p) ++ back p) := by
      rw [← val_left (allL_app lp (good_L (val_good (allL_app (allL_app lq lb) lp)))) lq, val_right lp (allL_app (allL_app lq lb) lp), val_left (allL_app lp (allL_app (allL_app lq lb) lp)) lq]
      have e : p ++ (back p ++ b ++ p) ++ back p = [] ++ p ++ back p ++ (b ++ p ++ back p) := by simp
      rw [e, val_back lp (allL_app (allL_app lb lp) lq)]
      have z := val_back (a := b) (b := p) (r := []) lp nil
      simp only [List.append_nil, List.nil_append] at z ⊢
      rw [z, val_self hb]
    have hcm : Cm c (val (back p ++ b ++ p)) := by
      have hc1 : c = val (back p ++ a ++ p) := by
        have e : back p ++ a ++ p = [] ++ back p ++ back (back p) ++ (c ++ back p ++ p) := by
          rw [bp, hA.e]; simp
        rw [e, val_back lq (allL_app (allL_app lc lq) lp)]
        have z := val_back (a := c) (b := back p) (r := []) lq nil
        rw [bp] at z
        simp only [List.append_nil, List.nil_append] at z ⊢
        rw [z, val_self gc]
      have key : ∀ {x y : List Nat}, AllL x → AllL y → val ((back p ++ x ++ p) ++ (back p ++ y ++ p)) = val (back p ++ val (x ++ y) ++ p) := fun {x y} hx hy => by
        rw [← val_left (allL_app lq (good_L (val_good (allL_app hx hy)))) lp, val_right lq (allL_app hx hy), val_left (allL_app lq (allL_app hx hy)) lp]
        have z := val_back (a := back p ++ x) (b := p) (r := y ++ p) lp (allL_app hy lp)
        have e1 : (back p ++ x ++ p) ++ (back p ++ y ++ p) = back p ++ x ++ p ++ back p ++ (y ++ p) := by simp
        have e2 : back p ++ (x ++ y) ++ p = back p ++ x ++ (y ++ p) := by simp
        rw [e1, e2, z]
      rw [hc1]
      refine (cm_val (allL_app (allL_app lq la) lp) (allL_app (allL_app lq lb) lp)).mpr ?_
      unfold Cm
      rw [key la lb, key lb la, h]
    have gb1 : Good (val (back p ++ b ++ p)) := val_good (allL_app (allL_app lq lb) lp)
    generalize val (back p ++ b ++ p) = d at hb1 hcm gb1
    have nd : d ≠ [] := fun z => nb (by
      rw [hb1, z, List.append_nil]
      exact val_back1 lp)
    have fin : ∀ {e : List Nat}, Good e → e ≠ [] → c ++ e = e ++ c → prim c = prim e ∧ Cyc e ∧ Good (p ++ e ++ back p) := fun {e} ge ne hce => by
      obtain ⟨t, i, j, e1, e2⟩ := comm_pow _ c e (Nat.le_refl _) hce
      have hi : 0 < i := Nat.pos_of_ne_zero fun z => hA.ne (by rw [e1, z]; rfl)
      have hj : 0 < j := Nat.pos_of_ne_zero fun z => ne (by rw [e2, z]; rfl)
      have ht : t ≠ [] := fun z => hA.ne (by rw [e1, z, rep_nil])
      have cyt : Cyc t := (cyc_of_rep hi).mp (by rw [← e1]; exact hA.cy)
      refine ⟨by rw [e1, e2]; exact prim_pow ht hi hj, by rw [e2]; exact (cyc_of_rep hj).mpr cyt, ?_⟩
      exact sand ga hA.ne ge ne (by rw [e1, e2, rep_head hi, rep_head hj]) (by rw [e1, e2, rep_last hi, rep_last hj])
    have ra := (root_core hA ha).1
    rcases cyc_comm gc hA.cy gb1 hcm with h1 | h1
    · obtain ⟨q1, q2, q3⟩ := fin gb1 nd h1
      rw [val_self q3] at hb1
      have hB : Core b p d := ⟨hb1, nd, q2⟩
      left
      rw [ra, (root_core hB hb).1, q1]
    · have ld := good_L gb1
      obtain ⟨q1, q2, q3⟩ := fin (good_back gb1) (back_ne nd) h1
      have q4 := good_back q3
      rw [back_app, back_app, bp, back_back ld, ← List.append_assoc] at q4
      rw [val_self q4] at hb1
      have cyd : Cyc d := by
        have z := cyc_back (good_back gb1) q2
        rw [back_back ld] at z
        exact z
      have hB : Core b p d := ⟨hb1, nd, cyd⟩
      right
      rw [ra, (root_core hB hb).1, back_app, back_app, bp, ← List.append_assoc, ← prim_back nd ld, q1]
  · intro h
    have hr := root_good hb
    have lr := good_L hr
    have ea := root_pow ha na
    have eb := root_pow hb nb
    rw [powL_val (root_good ha)] at ea
    rw [powL_val hr] at eb
    have tb := times_pos hb nb
    have ta := times_pos ha na
    unfold sg at ea eb
    rw [if_pos (by omega)] at ea eb
    rw [← ea, ← eb]
    have self : Cm (rootL b) (rootL b) := rfl
    rcases h with h | h
    · rw [h]
      exact (cm_val (allL_rep lr _) (allL_rep lr _)).mpr (cm_reps lr lr self _ _)
    · rw [h]
      exact (cm_val (allL_rep (allL_back lr) _) (allL_rep lr _)).mpr (cm_reps (allL_back lr) lr (cm_back lr lr self).symm _ _)
end Rp
end Cs

set_option Elab.async false
set_option linter.all false
set_option maxRecDepth 100000
set_option maxHeartbeats 4000000
/-! LayR: split(" "), ranges of two and of three numbers, slices from within. -/
namespace Cs
open PySem PySem.Spec PyProof.Rows L2
def rSplit : V → List V → Hp → VK → Prop := fun x xs H Q => ∃ a b, x = .str a ∧ xs = [.str b] ∧ (b.length == 0) = false ∧ a.length + 2 ≤ sizeLine ∧ rNewStrs (Txt.split a b) H Q
theorem mb_split {X : Cx} : MtR X "str.split" rSplit := mt_split
/-- the items between blanks -/
def spl (w : List Nat) : List (List Nat) := (Txt.split (S w) (S [32])).map fun p => p.cps.toList
theorem S_cps (z : Str) : S z.cps.toList = z := by
  cases z
  simp [S]
theorem spl_S (w : List Nat) : (spl w).map (fun p => V.str (S p)) = (Txt.split (S w) (S [32])).map V.str := by
  unfold spl
  rw [List.map_map]
  exact List.map_congr_left fun z _ => by show V.str (S z.cps.toList) = _; rw [S_cps]
theorem q_split {w : List Nat} {H : Hp} {Q : VK} (hl : w.length ≤ 1000000) (q : ∀ l, H l = none → Q (.ref l) (upd H l (.lst ((spl w).map fun p => V.str (S p))))) : rSplit (.str (S w)) [.str (S [32])] H Q :=
  ⟨_, _, rfl, rfl, rfl, by rw [S_len, sizeLine_eq]; omega, fun l h => by rw [← spl_S]; exact q l h⟩
theorem spl_len (w : List Nat) : 1 ≤ (spl w).length := by
  unfold spl
  rw [List.length_map]
  exact split_pos _ _
theorem spl_short {w p : List Nat} (h : p ∈ spl w) : p.length ≤ w.length := by
  obtain ⟨z, hz, rfl⟩ := List.mem_map.mp h
  have := part_short hz
  rw [S_len] at this
  simpa [Str.length] using this
theorem spl_one {w p : List Nat} (h : spl w = [p]) : p = w := by
  have e := StrLaws.join_split (S w) (S [32])
  unfold spl at h
  cases hs : Txt.split (S w) (S [32]) with
  | nil => rw [hs] at h; cases h
  | cons a r =>
    rw [hs] at h e
    cases r with
    | cons b r => cases h
    | nil =>
      have h : a.cps.toList = p := by simpa using h
      have e : a = S w := e
      rw [← h, e]
theorem spl_free {w : List Nat} (h : 32 ∉ w) : spl w = [w] := by
  have e := split_len (S w) 32
  have hc : (S w).cps.toList = w := by simp [S]
  rw [hc, cnt_none _ _ h] at e
  have hl : (spl w).length = 1 := by
    unfold spl
    rw [List.length_map]
    have e : ((Txt.split (S w) (S [32])).length : Int) = 1 + 0 := e
    omega
  obtain ⟨p, hp⟩ := List.length_eq_one_iff.mp hl
  rw [hp, spl_one hp]
theorem spl_cons (w : List Nat) : ∃ p r, spl w = p :: r ∧ p.length ≤ w.length ∧ (r = [] → p = w) := by
  have h := spl_len w
  cases e : spl w with
  | nil => rw [e] at h; simp at h
  | cons p r => exact ⟨p, r, rfl, spl_short (by rw [e]; exact List.mem_cons_self), fun z => spl_one (by rw [e, z])⟩
section
variable {K : PySem.W.Frag} {σ : L2.St} {H : Hp} {Q : VK} {t : TA} {tr : TA}
theorem r_iRng2 {R : It → Hp → Prop} (q : tr σ H fun vs H1 => ∃ i j : Int, vs = [.int i, .int j] ∧ (-(2 ^ 62) ≤ i ∧ i < 2 ^ 62 ∧ -(2 ^ 62) ≤ j ∧ j < 2 ^ 62) ∧ R (Itr i (j - i).toNat) H1) : iRng2 tr σ H R := q
theorem r_iRng3 {R : It → Hp → Prop} (q : tr σ H fun vs H1 => ∃ (i j c : Int) (n : Nat), vs = [.int i, .int j, .int c] ∧ RgC i j c n ∧ R (Itc i c n) H1) : iRng3 tr σ H R := q
theorem r_fdivH {a b : Int} (h : 0 < b) (hb : b < 100000000000000000000000000000000000000000) (q : Q (.int (a / b)) H) : rI CDivW (fun i j => .int (i / j)) (.int a) (.int b) H Q := ⟨a, b, rfl, rfl, wide_div (b := 140) h (by omega) (by decide) (by decide), q⟩
end
theorem cut_mid (w : List Nat) {a b : Int} {i j : Nat} (ea : a = (i : Nat)) (eb : b = (j : Nat)) (hi : i ≤ j) (hj : j ≤ w.length) : cutS (S w) (some a) (some b) = S ((w.take j).drop i) := by
  subst ea; subst eb
  rw [cutS_S, HT.sIx_nat, HT.sIx_nat, Nat.min_eq_left hj, Nat.min_eq_left (by omega), List.drop_take]
/-- w[1:-1] -/
theorem cut_in (w : List Nat) (h : 1 ≤ w.length) : cutS (S w) (some 1) (some (-1)) = S ((w.take (w.length - 1)).drop 1) := by
  have e0 : (1 : Int) = ((1 : Nat) : Int) := rfl
  rw [cutS_S, e0, HT.sIx_nat, Nat.min_eq_left h, List.drop_take]
  have e' : HT.sIx w.length w.length (some (-((1 : Nat) : Int))) = w.length - 1 := by
    unfold HT.sIx
    simp only [show (-((1 : Nat) : Int)) < 0 by decide, if_true]
    omega
  rw [e']
theorem cut_toN (w : List Nat) {n : Int} {k : Nat} (e : n = (k : Nat)) : cutS (S w) none (some n) = S (w.take k) := by
  subst e
  exact cut_to w k
theorem cut_fromN (w : List Nat) {n : Int} {k : Nat} (e : n = (k : Nat)) : cutS (S w) (some n) none = S (w.drop k) := by
  subst e
  exact cut_from w k
section
variable {X : Cx} {CX : CXT} {C : Addr} {m : Str} {k j : Nat} {sp : Sp} {E : XK} {o : Expr} {pos apos : Pos} {ta : TE} {pl : Sem Bool}
theorem pe_met0 (c : MetA X.prog X.w X.K X.mg X.base CX k C m sp) (cl : Cls X.K C) (he : PE X o ta) (hr : Room j X.A) (hk : k ≤ j) (hx : Passes CX X E)
    (ht : eval (.Call (.Attribute o m apos) [] [] pos) X.env = (do
      let ov ← eval o X.env
      standAt apos.atName
      let (f, first) ← holding [ov] (getMethod ov m pl)
      callWith pos f first (backTo pos (starEach [] X.env)) (backToKw pos (keywordEach [] X.env))) := by rfl) :
    PE X (.Call (.Attribute o m apos) [] [] pos) (tMetA C m sp E ta tNil) := by
  obtain ⟨f, fd, ps, hm, F, hb⟩ := c.ex
  refine ⟨fun pins s σ H Q I h => ?_⟩
  refine PySem.W.methodCall_KW (pl := pl) (thn (he.run pins s σ H _ I h) fun u s1 ⟨x, H1, I1, rx, a, dx, fs, ex, ea, l, q⟩ => ?_) ht
  subst ex
  obtain rfl : u = Value.ref a := rx
  refine getmeth_ok I1 ea cl hm l ?_
  exact PySem.W.callWith_K0 (first := [.ref a]) I1.kIn hm.kp (run_fn (us := [.ref a]) (vs := [.ref a]) F (hr.mono hk) hb .nil hx I1 (.cons rfl .nil) q)
end
end Cs

set_option Elab.async false
set_option linter.all false
set_option maxRecDepth 100000
set_option maxHeartbeats 4000000
/-! LayS: defs that run where no guard stands (repr of containers), repr of data. -/
namespace Cs
open PySem PySem.Spec PyProof.Rows L2 LamX
/-- a def's promise where no guard stands -/
structure FnOkG (P : Program) (w : World) (K : PySem.W.Frag) (mg : Str → Option Value) (base : Heap) (CXc : CXT) (k : Nat) (f : Addr) (fd : FuncData) (ps : List Str) (sp : Sp) : Prop where
  len : ∀ vs H Q E, sp vs H Q E → vs.length = ps.length
  run : ∀ (A : Around) (stk : List Env) (s : Shared) (H : Hp) (us : List Value) (args : Args) (vs : List V) (Q : VK) (E : XK), Room k A → A.guards = some [] → Env0 P w K mg base A stk s H → BindsTo s fd args (ps.zip us) → Vals vs us → sp vs H Q E →
    codeAny (model P w) A (.call (.ref f) args) (CR CXc stk P w H s Q E) s
theorem okG {CXc : CXT} {P : Program} {w : World} {K : PySem.W.Frag} {mg : Str → Option Value} {base : Heap} {x qual : Str} {st : Stmt} {f : Addr} {fd : FuncData} {N ps : List Str} {k : Nat} {sp : Sp} (F : Fun K x qual st f fd) (S : FnScope N ps (defScope st))
    (len : ∀ vs H Q E, sp vs H Q E → vs.length = ps.length)
    (hbody : ∀ (cdv : Value) (A : Around) (stk : List Env) (s : Shared) (H : Hp) (vs : List V) (Q : VK) (E : XK), Room k (A.deeper (envOfC qual (defScope st) s.heap.objs.size f cdv)) → A.guards = some [] → sp vs H Q E →
      ∃ t, PSs (cxOf CXc P w K mg base N qual (defScope st) f cdv A stk s H E) (defBody st) t ∧ t { nx := fun _ H' => Q .non H', rt := Q } (L2.start N vs) H) : FnOkG P w K mg base CXc (k + 1) f fd ps sp := by
  obtain ⟨oc, od, kV, doc, pm, an, cdv, ct, osl, rfl, lk, hcd⟩ := F.ex
  exact ⟨len, fun A stk s H us args vs Q E hr hg e0 hb r hsp => run_ofS lk hcd S hr e0 hb r (len _ _ _ _ hsp) fun hr' => hbody cdv A stk s H vs Q E hr' hg hsp⟩
theorem FnOk.g {P : Program} {w : World} {K : PySem.W.Frag} {mg : Str → Option Value} {base : Heap} {CXc : CXT} {k : Nat} {f : Addr} {fd : FuncData} {ps : List Str} {sp : Sp} (F : FnOk P w K mg base CXc k f fd ps sp) : FnOkG P w K mg base CXc k f fd ps sp :=
  ⟨F.len, fun A stk s H us args vs Q E hr _ e0 hb r h => F.run A stk s H args us vs Q E hr e0 hb r h⟩
/-- such a def by its name -/
structure CalG (P : Program) (w : World) (K : PySem.W.Frag) (mg : Str → Option Value) (base : Heap) (CXc : CXT) (k : Nat) (x : Str) (sp : Sp) : Prop where
  ex : ∃ (f : Addr) (fd : FuncData) (ps : List Str), FnOkG P w K mg base CXc k f fd ps sp ∧ mg x = some (.ref f) ∧ PySem.W.keepIn K (.ref f) = true ∧ Binds K fd ps []
section
variable {X : Cx} {CXc : CXT} {k j : Nat} {C f : Addr} {fd : FuncData} {ps : List Str} {sp : Sp} {E : XK} {pins : List (Addr × Obj)} {σ : L2.St} {H : Hp} {s : Shared} {Q : VK} {x : Str} {p pos : Pos} {e : Expr} {es : List Expr} {t : TA}
theorem run_G {us : List Value} {vs : List V} (F : FnOkG X.prog X.w X.K X.mg X.base CXc k f fd ps sp) (hr : Room k X.A) (hg : X.A.guards = some []) (hb : Binds X.K fd ps []) (hx : Passes CXc X E) (I : Inv X pins σ H s) (r : Vals vs us) (h : sp vs H Q E) :
    wpAny (model X.prog X.w) X.A (call (.ref f) us) (EP X pins σ Q) X.xe s := by
  have hl := F.len _ _ _ _ h
  have hb2 : BindsTo s fd ⟨us, []⟩ (ps.zip us) := by
    have z := hb s us I.kIn (by rw [List.append_nil, ← r.length]; exact hl)
    simpa using z
  refine wpAny_call (codeAny_mono (F.run X.A X.stack s H us ⟨us, []⟩ vs Q E hr hg I.env0 hb2 r h) fun r s' hq => ?_)
  cases r with
  | error e => exact hx pins σ H s e s' I hq
  | ok fl =>
    cases fl with
    | ret u => exact I.after hq
    | next => exact False.elim hq
    | brk => exact False.elim hq
    | cont => exact False.elim hq
theorem pe_cG (c : CalG X.prog X.w X.K X.mg X.base CXc k x sp) (hr : Room j X.A) (hk : k ≤ j) (hgd : X.A.guards = some []) (hx : Passes CXc X E) (ha : PA X (e :: es) t) (hg : Gl X x := by rfl)
    (hdb : (x == ("__debug__" : Str)) = false := by decide) (he : starEach (e :: es) X.env = (false, eval e X.env) :: starEach es X.env := by rfl) (hpl : (backTo pos (starEach es X.env)).any (·.1) = false := by rfl) :
    PE X (.Call (.Name x p) (e :: es) [] pos) (tCall sp [] E t) := by
  obtain ⟨f, fd, ps, F, hm, kp, b⟩ := c.ex
  refine ⟨fun pins s σ H Q I h => wpAny_Call_Name_kw (ld_glob I hg hm ?_ hdb)⟩
  refine PySem.W.callWith_K (h₀ := X.base) I.ok.mod.kin kp (thn (ha.run pos pins s σ H _ I h) fun us s1 ⟨vs, H1, I1, r, q⟩ => ⟨I1.kIn, ?_⟩) he hpl
  exact run_G F (hr.mono hk) hgd b hx I1 r (by simpa using q)
theorem pe_cG0 (c : CalG X.prog X.w X.K X.mg X.base CXc k x sp) (hr : Room j X.A) (hk : k ≤ j) (hgd : X.A.guards = some []) (hx : Passes CXc X E) (hg : Gl X x := by rfl) (hdb : (x == ("__debug__" : Str)) = false := by decide) :
    PE X (.Call (.Name x p) [] [] pos) (tCall sp [] E tNil) := by
  obtain ⟨f, fd, ps, F, hm, kp, b⟩ := c.ex
  refine ⟨fun pins s σ H Q I h => wpAny_Call_Name_kw (ld_glob I hg hm ?_ hdb)⟩
  exact PySem.W.callWith_K0 I.kIn kp (run_G F (hr.mono hk) hgd b hx I .nil (by simpa [tCall, tNil] using h))
end
/-! ### data with empty dicts -/
mutual
/-- b: no list stands where the modules' dict stands -/
inductive Dq (K : PySem.W.Frag) (H : Hp) (b : Bool) : V → PyData → Prop
  | non : Dq K H b .non .none
  | bl (c : Bool) : Dq K H b (.bl c) (.bool c)
  | int (i : Int) : Dq K H b (.int i) (.int i)
  | str (x : Str) : Dq K H b (.str x) (.str x)
  | lst {a : Addr} {xs : List V} {ds : List PyData} : SqL K H a xs → DqAll K H b xs ds → (b = true → (a == sysModules) = false) → Dq K H b (.ref a) (.list ds)
  | tup {a : Addr} {xs : List V} {ds : List PyData} : SqT K H a xs → DqAll K H b xs ds → Dq K H b (.ref a) (.tuple ds)
  | dk {a : Addr} : H a = some (.dK []) → Dq K H b (.ref a) (.dict [])
inductive DqAll (K : PySem.W.Frag) (H : Hp) (b : Bool) : List V → List PyData → Prop
  | nil : DqAll K H b [] []
  | cons {v : V} {vs : List V} {d : PyData} {ds : List PyData} : Dq K H b v d → DqAll K H b vs ds → DqAll K H b (v :: vs) (d :: ds)
end
section
variable {X : Cx} {pins : List (Addr × Obj)} {σ : L2.St} {H H' : Hp} {s : Shared} {b : Bool}
mutual
theorem Dq.reads (I : Inv X pins σ H s) : ∀ (d : PyData) (v : V) (u : Value), Dq X.K H b v d → RelV v u → ∃ as, Reads s.heap u d as ∧ (b = true → sysModules ∉ as)
  | .none, _, _, h, r => by
    cases h; cases r
    exact ⟨_, Reads.none, fun _ => by simp⟩
  | .bool b, _, _, h, r => by
    cases h; cases r
    exact ⟨_, Reads.bool b, fun _ => by simp⟩
  | .int i, _, _, h, r => by
    cases h
    obtain ⟨t, rfl⟩ := r
    exact ⟨_, Reads.int i t, fun _ => by simp⟩
  | .str x, _, _, h, r => by
    cases h
    obtain ⟨t, rfl⟩ := r
    exact ⟨_, Reads.str x t, fun _ => by simp⟩
  | .list ds, _, _, h, r => by
    cases h with
    | lst hs ha hn =>
      cases r
      obtain ⟨its, rv, ⟨o, n, ho, hc, _, hd⟩, _⟩ := I.list hs
      obtain ⟨as, hr, hm⟩ := Dq.readsAll I ds _ its ha rv
      refine ⟨_, Reads.list ho hc hd hr, fun e z => ?_⟩
      rcases List.mem_cons.mp z with z | z
      · have := hn e
        rw [z] at this
        simp at this
      · exact hm e z
  | .tuple ds, _, _, h, r => by
    cases h with
    | tup hs ha =>
      cases r
      obtain ⟨its, rv, ⟨o, ho, hc, n, hd⟩, _⟩ := I.tuple hs
      obtain ⟨as, hr, hm⟩ := Dq.readsAll I ds _ its ha rv
      exact ⟨_, Reads.tuple ho hc hd hr, fun e z => hm e z⟩
  | .dict ds, _, _, h, r => by
    cases h with
    | dk e =>
      cases r
      obtain ⟨hz, hd, vs, rel, dd⟩ := dk_of I.hok e
      cases rel
      obtain ⟨o, es, ep, ho, hc, hda, r1, r2, r3⟩ := dd
      have hes : es.toList = [] := by
        generalize es.toList = l at r2
        cases r2
        rfl
      refine ⟨_, Reads.dict (as := []) (bs := []) (kvs := []) ho hc.1 hda (by rw [hes]; exact .nil) (by rw [hes]; exact .nil), fun _ z => ?_⟩
      rw [List.append_nil, List.mem_singleton] at z
      rw [z] at hd
      simp at hd
theorem Dq.readsAll (I : Inv X pins σ H s) : ∀ (ds : List PyData) (vs : List V) (us : List Value), DqAll X.K H b vs ds → Vals vs us → ∃ as, ReadsAll s.heap us ds as ∧ (b = true → sysModules ∉ as)
  | [], _, _, h, r => by
    cases h; cases r
    exact ⟨_, ReadsAll.nil, fun _ => by simp⟩
  | d :: ds, _, _, h, r => by
    cases h with
    | cons h1 h2 =>
      cases r with
      | cons r1 r2 =>
        obtain ⟨as, q1, m1⟩ := Dq.reads I d _ _ h1 r1
        obtain ⟨bs, q2, m2⟩ := Dq.readsAll I ds _ _ h2 r2
        exact ⟨_, ReadsAll.cons q1 q2, fun e z => (List.mem_append.mp z).elim (m1 e) (m2 e)⟩
end
end
mutual
theorem Dq.same {K : PySem.W.Frag} {H H' : Hp} {b : Bool} (e : Same H H') : ∀ {v : V} {d : PyData}, Dq K H b v d → Dq K H' b v d
  | _, _, .non => .non
  | _, _, .bl c => .bl c
  | _, _, .int i => .int i
  | _, _, .str x => .str x
  | _, _, .lst hs ha hn => .lst (sqL_same e hs) (DqAll.same e ha) hn
  | _, _, .tup hs ha => .tup (sqT_same e hs) (DqAll.same e ha)
  | _, _, .dk h => .dk (e _ _ h)
theorem DqAll.same {K : PySem.W.Frag} {H H' : Hp} {b : Bool} (e : Same H H') : ∀ {vs : List V} {ds : List PyData}, DqAll K H b vs ds → DqAll K H' b vs ds
  | _, _, .nil => .nil
  | _, _, .cons h t => .cons (Dq.same e h) (DqAll.same e t)
end
/-- repr(x) -/
def rRepr (K : PySem.W.Frag) : List V → Hp → VK → Prop := fun xs H Q => ∃ x d b, xs = [x] ∧ Dq K H b x d ∧ (d.hasDict = true → b = true) ∧ d.showable = true ∧ d.depth ≤ 8 ∧ d.shown.length ≤ 1000000 ∧ Q (.str d.shown) H
theorem call_repr {X : Cx} {K : PySem.W.Frag} {j : Nat} (hr : Room j X.A) (hgd : X.A.guards = some []) (hK : X.K = K := by rfl) : CallR X (.builtin "repr") (rRepr K) := by
  subst hK
  intro pins s σ H xs us Q I r h
  obtain ⟨x, d, b, rfl, hd, hb, hs, hdp, hl, q⟩ := h
  obtain ⟨u, rfl, rx⟩ := vals1 r
  have hz : d.shown.length ≤ sizeLine := by rw [sizeLine_eq]; omega
  have hun := hr.un
  cases hd with
  | non =>
    obtain rfl : u = Value.none := rx
    exact PySem.P.repr_of_none ⟨.str _, H, I.tok _, ⟨_, rfl⟩, by simpa only [PyData.shown] using q⟩
  | bl c =>
    obtain rfl : u = Value.bool c := rx
    exact PySem.P.repr_of_bool ⟨.str _, H, I.tok _, ⟨_, rfl⟩, by simpa only [PyData.shown] using q⟩
  | int i =>
    obtain ⟨t, rfl⟩ := rx
    exact PySem.P.repr_of_int (by simpa [PyData.showable] using hs) ⟨.str _, H, I.tok _, ⟨_, rfl⟩, by simpa only [PyData.shown] using q⟩
  | str y =>
    obtain ⟨t, rfl⟩ := rx
    exact PySem.P.repr_of_str ⟨.str _, H, I.tok _, ⟨_, rfl⟩, by simpa only [PyData.shown] using q⟩ (by simpa only [PyData.shown] using hz)
  | @lst a xs ds h1 h2 h3 =>
    obtain rfl : u = Value.ref a := rx
    obtain ⟨as, rd, hm⟩ := Dq.reads I (.list ds) (.ref a) (.ref a) (Dq.lst h1 h2 h3) rfl
    exact repr_of_reads' rd hs (fun z => hm (hb z)) hgd (by omega) (fun _ _ e => e) (fun h' u tk hk => ⟨.str _, H, I.kept hk, ⟨_, rfl⟩, q⟩) hz
  | @tup a xs ds h1 h2 =>
    obtain rfl : u = Value.ref a := rx
    obtain ⟨as, rd, hm⟩ := Dq.reads I (.tuple ds) (.ref a) (.ref a) (Dq.tup h1 h2) rfl
    exact repr_of_reads' rd hs (fun z => hm (hb z)) hgd (by omega) (fun _ _ e => e) (fun h' u tk hk => ⟨.str _, H, I.kept hk, ⟨_, rfl⟩, q⟩) hz
  | @dk a h1 =>
    obtain rfl : u = Value.ref a := rx
    obtain ⟨as, rd, hm⟩ := Dq.reads (b := b) I (.dict []) (.ref a) (.ref a) (Dq.dk h1) rfl
    exact repr_of_reads' rd hs (fun z => hm (hb z)) hgd (by omega) (fun _ _ e => e) (fun h' u tk hk => ⟨.str _, H, I.kept hk, ⟨_, rfl⟩, q⟩) hz
/-- [..], not where the modules' dict stands -/
def tLstB (t : TA) : TE := fun σ H Q => t σ H fun xs H1 => xs.length ≤ sizeLine ∧ ∀ p, H1 p = none → (p == sysModules) = false → Q (.ref p) (upd H1 p (.lst xs))
theorem pe_lstB {X : Cx} {es : List Expr} {t : TA} {pos : Pos} (h : PA X es t) : PE X (.List es pos) (tLstB t) := by
  refine ⟨fun pins s σ H Q I hq => wpAny_List_spliced (thn (h.run pos pins s σ H _ I hq) fun us s1 ⟨xs, H1, I1, r, z, q⟩ => ⟨by rw [← r.length]; exact z, ?_⟩)⟩
  have z0 : xs.length ≤ sizeLine := z
  have J := I1.laid (t' := s1.toks) (a := s1.heap.objs.size) (o := .lst xs) (h' := s1.heap.push { cls := .type "list", data := .seq us.toArray }) (fun b u e => Heap.get?_push_of_some _ e) (Nat.le_refl _) ⟨z0, us, 0, r, Heap.get?_push_size _ rfl⟩
  have hb := I1.big
  exact ⟨.ref s1.heap.objs.size, _, J, rfl, q _ (I1.hok.fresh (Nat.le_refl _)) (beq_eq_false_iff_ne.mpr (Nat.ne_of_gt hb))⟩
theorem r_lstB {σ : L2.St} {H : Hp} {Q : VK} {tr : TA} (q : tr σ H fun xs H1 => xs.length ≤ sizeLine ∧ ∀ p, H1 p = none → (p == sysModules) = false → Q (.ref p) (upd H1 p (.lst xs))) : tLstB tr σ H Q := q
/-- list * int -/
def rMulL : R2 := fun a b H Q => rMulB a b H Q ∨ rRep a b H Q
theorem op_mulL {X : Cx} : OpR X (binaryOp .Mult) rMulL := op_mulB.or op_rep
theorem q_mulL {H : Hp} {Q : VK} {l : Addr} {xs : List V} {n : Nat} (h : H l = some (.lst xs)) (hn : n ≤ 1000000) (hz : xs.length * n ≤ 1000000) (q : ∀ p, H p = none → Q (.ref p) (upd H p (.lst (List.replicate n xs).flatten))) : rMulL (.ref l) (.int (n : Nat)) H Q :=
  .inr ⟨l, n, xs, rfl, rfl, h, by omega, by omega, by rw [sizeLine_eq, Int.toNat_natCast]; omega, by rw [Int.toNat_natCast]; exact q⟩
theorem q_mulM {a b : V} {H : Hp} {Q : VK} (q : rMulB a b H Q) : rMulL a b H Q := .inl q
end Cs
namespace Cs
open PySem PySem.Spec PyProof.Rows L2 LamX
/-! ### the law's own call, where no guard stands -/
section
variable {P : Program} {w : World} {K : PySem.W.Frag} {mg : Str → Option Value} {CXc : CXT} {k : Nat} {fa a : Addr} {cs : List (Addr × Addr)} {fd : FuncData} {x : Str} {sp : Sp} {s₁ : Shared} {H : Hp}
/-- what the tables and the script are in the heap at the call -/
structure Stands (K : PySem.W.Frag) (cs : List (Addr × Addr)) (a : Addr) (vs : List Value) (h : Heap) : Prop where
  kin : K.In h
  tabs : ∀ p ∈ cs, h.get? p.2 = some { cls := .none, data := .fields #[] }
  free : ∀ p ∈ cs, K.lookup p.2 = none
  heads : ∀ p ∈ cs, PySem.W.CodeHd h p.1 p.2
  scr : h.get? a = some { cls := .type "list", data := .seq vs.toArray }
/-- what may be tracked ahead of the call -/
structure Ahead (P : Program) (w : World) (K : PySem.W.Frag) (cs : List (Addr × Addr)) (a : Addr) (H : Hp) (h : Heap) : Prop where
  tbl : ∀ p ∈ cs, H p.2 = some (.tbl #[])
  kind : ∀ b, H b = none ∨ b ∈ cs.map (·.2) ∨ ∃ o xs, H b = some (.frz o (.lst xs))
  ok : HOk P w H h
  only : ∀ b, H b ≠ none → b = a ∨ b ∈ cs.map (·.2)
  out : H a ≠ none → K.lookup a = none
theorem Stands.at {vs : List Value} {h : Heap} (S : Stands K cs a vs h) {b : Addr} (hb : b ∈ cs.map (·.2)) : h.get? b = some { cls := .none, data := .fields #[] } := by
  obtain ⟨p, hp, rfl⟩ := List.mem_map.mp hb
  exact S.tabs p hp
theorem Stands.apart {vs : List Value} {h : Heap} (S : Stands K cs a vs h) : a ∉ cs.map (·.2) := fun z => by
  have e := S.at z
  rw [S.scr] at e
  have e' := congrArg Obj.data (Option.some.inj e)
  cases e'
/-- an object that is neither the script nor a table is in the base -/
theorem Ahead.hid {vs : List Value} {h : Heap} (S : Stands K cs a vs h) (T : Ahead P w K cs a H h) {b : Addr} {o : Obj} (e : h.get? b = some o) (n1 : ∀ ws n, o.data ≠ .seq ws n) (n2 : o.data ≠ .fields #[]) : (hidT h H).get? b = some o := by
  refine hidT_get e ?_
  cases q : H b with
  | none => rfl
  | some u =>
    rcases T.only b (by rw [q]; simp) with rfl | hb
    · rw [S.scr] at e
      cases e
      exact (n1 _ _ rfl).elim
    · rw [S.at hb] at e
      cases e
      exact (n2 rfl).elim
theorem Ahead.ns {vs : List Value} {h : Heap} (S : Stands K cs a vs h) (T : Ahead P w K cs a H h) {b : Addr} {m : Str → Option Value} : h.Ns b m → (hidT h H).Ns b m := fun ⟨o, es, ep, e, d, r⟩ =>
  ⟨o, es, ep, T.hid S e (fun ws n z => by rw [d] at z; cases z) (fun z => by rw [d] at z; cases z), d, r⟩
theorem Ahead.kin {vs : List Value} {h : Heap} (S : Stands K cs a vs h) (T : Ahead P w K cs a H h) : K.In (hidT h H) := fun b o e => hidT_get (S.kin b o e) (by
  cases q : H b with
  | none => rfl
  | some u =>
    rcases T.only b (by rw [q]; simp) with rfl | hb
    · rw [T.out (by rw [q]; simp)] at e
      cases e
    · obtain ⟨p, hp, rfl⟩ := List.mem_map.mp hb
      rw [S.free p hp] at e
      cases e)
theorem Ahead.tabB {vs : List Value} {h : Heap} (S : Stands K cs a vs h) (T : Ahead P w K cs a H h) (hns : h.Ns mainGlobals mg)
    (hbm : ∃ (bm : Addr) (ob : Obj), mg "__builtins__" = some (.ref bm) ∧ bm ≠ builtinsNs ∧ h.get? bm = some ob ∧ ob.cls = .type "module" ∧ ob.dict = some builtinsNs ∧ ob.data = .plain) : ∀ p ∈ cs, TabB (hidT h H) mg p.1 p.2 := fun p hp => by
  have tp := S.tabs p hp
  refine ⟨?_, ?_, fun z => ?_⟩
  · obtain ⟨o, us, file, tf, flags, tg, inF, text, tt, e1, r1, r2, r3, rest⟩ := S.heads p hp
    refine ⟨o, us, file, tf, flags, tg, inF, text, tt, T.hid S e1 (fun ws n z => by rw [r2] at z; cases z) (fun z => ?_), r1, r2, r3, rest⟩
    rw [r2] at z
    cases z
    simp at r3
  · obtain ⟨bm, ob, b1, b2, b3, b4, b5, b6⟩ := hbm
    refine ⟨bm, ob, b1, b2, fun q => ?_, fun q => ?_, T.hid S b3 (fun ws n z => by rw [b6] at z; cases z) (fun z => by rw [b6] at z; cases z), b4, b5, b6⟩
    · obtain ⟨o, es, ep, e, hd, _⟩ := hns
      rw [q, e] at b3
      cases b3
      rw [hd] at b6
      cases b6
    · rw [q, tp] at b3
      cases b3
      cases b6
  · obtain ⟨o, es, ep, e, hd, _⟩ := hns
    rw [z, tp] at e
    cases e
    cases hd
theorem law_callG {mb : Str → Option Value} {vs : List Value} {ns : List Int} (S : Stands K cs a vs s₁.heap) (T : Ahead P w K cs a H s₁.heap) (hns : s₁.heap.Ns mainGlobals mg) (hb : s₁.heap.Ns builtinsNs mb) (hbb : ∀ y : Str, y ≠ "__name__" → mb y = bootBuiltins y) (hlim : s₁.heap.NoLimit) (hgen : s₁.gens = #[])
    (hbm : ∃ (bm : Addr) (ob : Obj), mg "__builtins__" = some (.ref bm) ∧ bm ≠ builtinsNs ∧ s₁.heap.get? bm = some ob ∧ ob.cls = .type "module" ∧ ob.dict = some builtinsNs ∧ ob.data = .plain) (hr : Room k callerA)
    (F : ∀ base : Heap, K.In base → base.Ns mainGlobals mg → (∀ p ∈ cs, TabB base mg p.1 p.2) → FnOkG P w K mg base CXc k fa fd [x] sp) (hbind : ∀ (s : Shared) (u : Value), BindsTo s fd ⟨[u], []⟩ [(x, u)])
    (hsp : sp [.ref a] H (fun v _ => v = .bl true) fun _ _ _ => False) (hCX : ∀ e s', CXc [] H s₁ (fun _ _ _ => False) e s' → False) :
    codeAny (model P w) callerA (.call (.ref fa) ⟨[.ref a], []⟩) (fun r s' => r = .ok (.ret (.bool true)) ∧ OldK s₁.heap s'.heap ∧ s'.os = s₁.os ∧ AllBare s'.gens) s₁ := by
  have hM : L2.Mod K mg (hidT s₁.heap H) := ⟨T.kin S, T.ns S hns, ⟨mb, T.ns S hb, hbb⟩, let ⟨mc, h1, h2⟩ := hlim; ⟨mc, T.ns S h1, h2⟩⟩
  have e0 : Env0 P w K mg (hidT s₁.heap H) callerA [] s₁ H := ⟨rfl, hM, fun b o e => of_hidT e, Nat.le_of_eq (hidT_size _ _), trivial, fun b z => absurd (show b ∈ ([] : List Addr) from z) (by simp), T.ok, .of_eq hgen⟩
  refine codeAny_mono ((F _ (T.kin S) (T.ns S hns) (T.tabB S hns hbm)).run callerA [] s₁ H [.ref a] ⟨[.ref a], []⟩ [.ref a] _ _ hr rfl e0 (hbind s₁ (.ref a)) (.cons rfl .nil) hsp) fun r s' h => ?_
  cases r with
  | error e => exact (hCX e s' h).elim
  | ok fl =>
    cases fl with
    | next => exact False.elim h
    | brk => exact False.elim h
    | cont => exact False.elim h
    | ret u =>
      obtain ⟨v, H', os, bare, un, ok', r', q⟩ := h
      obtain rfl : v = .bl true := q
      obtain rfl : u = Value.bool true := r'
      have old : ∀ b o, b ∉ cs.map (·.2) → s₁.heap.get? b = some o → s'.heap.get? b = some o := fun b o nb e => by
        cases q : H b with
        | none => exact un.keep b o e q (fun z => absurd (show b ∈ ([] : List Addr) from z) (by simp)) (by simp)
        | some u =>
          rcases T.kind b with z | z | ⟨ob, xs, z⟩
          · rw [q] at z; cases z
          · exact absurd z nb
          · obtain ⟨e1, _⟩ := T.ok b _ z
            obtain ⟨e2, _⟩ := ok' b _ (un.frzs b ob _ z)
            rw [e] at e1
            cases e1
            exact e2
      have more : ∀ p ∈ cs, ∃ us : Array Value, s'.heap.get? p.2 = some { cls := .none, data := .fields us } := fun p hp => by
        obtain ⟨us, z⟩ := un.tbls p.2 #[] (T.tbl p hp)
        exact ⟨_, ok' p.2 _ z⟩
      refine ⟨rfl, ⟨fun b o e => ?_, fun b o e => ?_⟩, os, bare⟩ <;> by_cases hb : b ∈ cs.map (·.2)
      · obtain ⟨p, hp, rfl⟩ := List.mem_map.mp hb
        obtain ⟨us, hm⟩ := more p hp
        rw [S.tabs p hp] at e
        cases e
        exact .inr (.inl ⟨((S.heads p hp).tab (S.tabs p hp)).isCodeTable, rfl, #[], us, rfl, by rw [Array.empty_append]; exact hm⟩)
      · exact .inl (old b o hb e)
      · obtain ⟨p, hp, rfl⟩ := List.mem_map.mp hb
        obtain ⟨us, hm⟩ := more p hp
        exact ⟨_, hm⟩
      · exact ⟨o, old b o hb e⟩
/-- some such abstract heap -/
theorem ahead {vs : List Value} {ns : List Int} {h : Heap} (S : Stands K cs a vs h) (hi : IntsAre vs ns) (hl : ns.length ≤ sizeLine) : ∃ H, Ahead P w K cs a H h ∧ SqL K H a (ns.map V.int) := by
  have rv := vals_ints hi
  have lenV := hi.length
  have memT : ∀ p ∈ cs, p.2 ∈ cs.map (·.2) := fun p hp => List.mem_map.mpr ⟨p, hp, rfl⟩
  cases hk : K.lookup a with
  | some o =>
    have e := S.kin a o hk
    rw [S.scr] at e
    cases e
    have n0 : ∀ b, b ∉ cs.map (·.2) → (fun b => if b ∈ cs.map (·.2) then some (HO.tbl #[]) else none : Hp) b = none := fun b hb => if_neg hb
    refine ⟨fun b => if b ∈ cs.map (·.2) then some (.tbl #[]) else none, ⟨fun p hp => if_pos (memT p hp), fun b => ?_, fun b u z => ?_, fun b z => ?_, fun z => absurd (n0 a S.apart) z⟩, .inr ⟨_, vs.toArray, _, hk, rfl, rfl, rfl, by rw [List.size_toArray, lenV]; exact hl, by simpa using rv⟩⟩
    · by_cases hb : b ∈ cs.map (·.2)
      · exact .inr (.inl hb)
      · exact .inl (if_neg hb)
    · by_cases hb : b ∈ cs.map (·.2)
      · cases (if_pos hb).symm.trans z
        exact S.at hb
      · cases (if_neg hb).symm.trans z
    · exact .inr (Decidable.byContradiction fun hb => z (if_neg hb))
  | none =>
    refine ⟨fun b => if b = a then some (.frz { cls := .type "list", data := .seq vs.toArray } (.lst (ns.map V.int))) else if b ∈ cs.map (·.2) then some (.tbl #[]) else none,
      ⟨fun p hp => (if_neg (show ¬ p.2 = a from fun z => S.apart (z ▸ memT p hp))).trans (if_pos (memT p hp)), fun b => ?_, fun b u z => ?_, fun b z => ?_, fun _ => hk⟩, .inl (.inr ⟨_, if_pos rfl⟩)⟩
    · by_cases hb : b = a
      · exact .inr (.inr ⟨_, _, if_pos hb⟩)
      · by_cases hb2 : b ∈ cs.map (·.2)
        · exact .inr (.inl hb2)
        · exact .inl ((if_neg hb).trans (if_neg hb2))
    · by_cases hb : b = a
      · cases (if_pos hb).symm.trans z
        rw [hb]
        exact ⟨S.scr, by rw [List.length_map]; exact hl, vs, _, rv, S.scr⟩
      · have z1 := (if_neg hb).symm.trans z
        by_cases hb2 : b ∈ cs.map (·.2)
        · cases (if_pos hb2).symm.trans z1
          exact S.at hb2
        · cases (if_neg hb2).symm.trans z1
    · by_cases hb : b = a
      · exact .inl hb
      · exact .inr (Decidable.byContradiction fun hb2 => z ((if_neg hb).trans (if_neg hb2)))
end
/-- what is known of the law's promise at the head's heap -/
def LawAtG (l : PySem.W.OpenLaw) (w : World) (K : PySem.W.Frag) (CXc : CXT) (k n : Nat) (x : Str) (mg : Str → Option Value) (fa : Addr) (h : Heap) : Prop :=
  ∃ (fd : FuncData) (cs : List (Addr × Addr)) (sp : Sp), ((∀ p ∈ cs, h.get? p.2 = some { cls := .none, data := .fields #[] }) ∧ (∀ p ∈ cs, K.lookup p.2 = none) ∧ ∀ p ∈ cs, PySem.W.CodeHd h p.1 p.2) ∧ (∀ (s : Shared) (u : Value), BindsTo s fd ⟨[u], []⟩ [(x, u)]) ∧
    (∀ (H : Hp) (a : Addr) (ns : List Int), ns.length ≤ n → (∀ z ∈ ns, Builtin.Int.intBits z ≤ 1048576) → (∀ p ∈ cs, H p.2 = some (.tbl #[])) → SqL K H a (ns.map V.int) → sp [.ref a] H (fun v _ => v = .bl true) fun _ _ _ => False) ∧
    ∀ base : Heap, K.In base → base.Ns mainGlobals mg → (∀ p ∈ cs, TabB base mg p.1 p.2) → FnOkG l.prog w K mg base CXc k fa fd [x] sp
theorem walk_ofG {l : PySem.W.OpenLaw} {n k : Nat} {q : Program} {loose : List Str} {XP : (Str → Option Value) → Heap → Prop} {YP : World → Heap → Prop} {d : DefRec} {K : Params → PySem.W.Frag} {CXc : World → CXT} {x : Str}
    (hn : l.most = some n) (hn2 : n ≤ sizeLine) (hdf : d.params.defaults = []) (hr : Room k callerA) (hY : ∀ (w : World) (h : Heap), YP w h → (K w.params).In h)
    (F : ∀ (w : World) (mg : Str → Option Value) (fa : Addr) (h : Heap), YP w h → (K w.params).In h → h.Ns mainGlobals mg → mg d.name = some (.ref fa) → LawAtG l w (K w.params) (CXc w) k n x mg fa h)
    (hCX : ∀ (w : World) (H : Hp) (s : Shared) (e : Value) (s' : Shared), CXc w [] H s (fun _ _ _ => False) e s' → False) :
    PySem.W.WalkO q loose XP YP l.row.toRowW d [] (fun f vs => PySem.call f vs) := by
  refine Att.attach_callB hn hdf fun w s₀ s₁ mg mb fa o pm cd doc a vs ns G Y ho hd hcd hmg hobj hints hlen hbits hgn => ?_
  obtain ⟨fd, cs, sp, ⟨hT, nT, C⟩, hb, hsp, hF⟩ := F w mg fa _ Y (hY w _ Y) G.T.g hmg
  have S : Stands (K w.params) cs a vs s₁.heap := ⟨hY w _ Y, hT, nT, C, hobj⟩
  obtain ⟨H, T, hS⟩ := ahead (P := l.prog) (w := w) S hints (Nat.le_trans hlen hn2)
  exact law_callG (ns := ns) S T G.T.g G.T.b G.T.builtins G.T.nolimit hgn G.T.bmain hr hF hb (hsp H a ns hlen hbits T.tbl hS) fun e s' => hCX w H s₁ e s'
end Cs
namespace Cs
open PySem PySem.Spec PyProof.Rows L2 LamX
section
variable {P : Program} {w : World} {K : PySem.W.Frag} {mg : Str → Option Value} {base : Heap}
theorem _root_.L2.Fun.okG {x qual : Str} {st : Stmt} {f : Addr} {fd : FuncData} {N ps : List Str} {k : Nat} {sp : Sp} (F : Fun K x qual st f fd) (S : FnScope N ps (defScope st)) (len : ∀ vs H Q E, sp vs H Q E → vs.length = ps.length)
    (hbody : ∀ (cdv : Value) (A : Around) (stk : List Env) (s : Shared) (H : Hp) (vs : List V) (Q : VK) (E : XK), Room k (A.deeper (envOfC qual (defScope st) s.heap.objs.size f cdv)) → A.guards = some [] → sp vs H Q E →
      ∃ t, PSs (cxOf L2.CX0 P w K mg base N qual (defScope st) f cdv A stk s H E).nox (defBody st) t ∧ t { nx := fun _ H' => Q .non H', rt := Q } (L2.start N vs) H) : FnOkG P w K mg base L2.CX0 (k + 1) f fd ps sp :=
  Cs.okG F S len fun cdv A stk s H vs Q E hr hg h => let ⟨t, p, q⟩ := hbody cdv A stk s H vs Q E hr hg h; ⟨t, p.nox, q⟩
theorem FunL.okG {x qual : Str} {st : Stmt} {f c : Addr} {fd : FuncData} {N ps : List Str} {k : Nat} {sp : Sp} (F : FunL K x qual st f fd c) (S : FnScope N ps (defScope st)) (len : ∀ vs H Q E, sp vs H Q E → vs.length = ps.length)
    (hbody : ∀ (A : Around) (stk : List Env) (s : Shared) (H : Hp) (vs : List V) (Q : VK) (E : XK), Room k (A.deeper (envOfC qual (defScope st) s.heap.objs.size f (.ref c))) → A.guards = some [] → sp vs H Q E →
      ∃ t, PSs (cxOf L2.CX0 P w K mg base N qual (defScope st) f (.ref c) A stk s H E).nox (defBody st) t ∧ t { nx := fun _ H' => Q .non H', rt := Q } (L2.start N vs) H) : FnOkG P w K mg base L2.CX0 (k + 1) f fd ps sp := by
  obtain ⟨oc, od, kV, doc, pm, an, ct, osl, rfl, lk, hcd⟩ := F.ex
  exact ⟨len, fun A stk s H us args vs Q E hr hg e0 hb r hsp => run_ofS lk hcd S hr e0 hb r (len _ _ _ _ hsp) fun hr' => let ⟨t, p, q⟩ := hbody A stk s H vs Q E hr' hg hsp; ⟨t, p.nox, q⟩⟩
end
theorem mb_lindex {X : Cx} {K : PySem.W.Frag} (hK : X.K = K := by rfl) : MtR X "list.index" (rIndex K) := by subst hK; exact mt_index
end Cs

set_option Elab.async false
set_option linter.all false
set_option maxRecDepth 100000
set_option maxHeartbeats 4000000
/-! LayT: own errors made by keywords, own errors without a field. -/
namespace PySem.ErrX
open PySem PySem.W PyProof.Rows L2 PySem.HandSPX
section
variable {M : Model} {A : Around} {E : Value → Shared → Prop} {h : Heap} {g : Array GenState} {d : Drawn} {t : Nat} {os : OsState} {kw : List (Str × Value)}
variable {nm q : Str} {C N : Addr} {bs bm bmB : List Value} {hdct : Bool} {sn : List Str} {sub : List Value} {ab : Bool} {col : Option Bool} {dd : Option Addr} {k0 k1 k2 k3 k5 : Option Value} {B newId initId : String}
theorem kw_check (F : ExcBaseFacts B newId initId bmB) (hT : ∀ X : String, bm.contains (.type X) = bmB.contains (.type X)) {Q : Unit → Shared → Prop}
    (hC : h.get? C = some (excClassObj nm q C N bs bm hdct sn sub ab col dd k0 k1 k2 k3 k5 newId)) (hq : Q () ⟨h, g, d, t, os⟩) : wpAny M A (checkBuiltinCall newId ⟨[.ref C], kw⟩) Q E ⟨h, g, d, t, os⟩ := by
  have c1 : (Value.ref C :: bm).contains (.type B) = true := by rw [List.contains_cons, hT, F.hasB, Bool.or_true]
  have s1 := F.noStar
  simp only [checkBuiltinCall, F.newKind, F.newSplit, F.newRow]
  repeat (first | refine wpAny_loadPart_at hC ?_ | (refine wpAny_isSubtype_exc hC ?_; rw [c1]) | refine wpAny_staticBase_exc hC ?_ | refine wpAny_madeBy_exc hC ?_ | simp only [bne_self_eq_false, Bool.false_eq_true, if_false] | wp_step)
  exact hq
end
section
variable {prog : Program} {w : World} {A : Around} {E : Value → Shared → Prop} {R : Result → Shared → Prop} {h : Heap} {g : Array GenState} {d : Drawn} {t : Nat} {os : OsState} {kw : List (Str × Value)}
variable {nm q : Str} {C N : Addr} {bs bm bmB : List Value} {hdct : Bool} {sn : List Str} {sub : List Value} {ab : Bool} {col : Option Bool} {dd : Option Addr} {k0 k1 k2 k3 k5 : Option Value} {B newId initId : String}
theorem kw_new (F : ExcBaseFacts B newId initId bmB) (hT : ∀ X : String, bm.contains (.type X) = bmB.contains (.type X))
    (hC : h.get? C = some (excClassObj nm q C N bs bm hdct sn sub ab col dd k0 k1 k2 k3 k5 newId))
    (hq : R (.ok (.ret (.ref (h.objs.size + 1)))) ⟨(h.push (kdv_tup [])).push (excO C h.objs.size), g, d, t, os⟩) :
    codeAny (model prog w) A (.builtin newId ⟨[.ref C], kw⟩) R ⟨h, g, d, t, os⟩ := by
  have e1 := F.ends
  have c1 : (Value.ref C :: bm).contains (.type B) = true := by rw [List.contains_cons, hT, F.hasB, Bool.or_true]
  have c2 : (Value.ref C :: bm).contains (.type "AttributeError") = false := by rw [List.contains_cons, hT, F.noAttr]; rfl
  have c3 : (Value.ref C :: bm).contains (.type "NameError") = false := by rw [List.contains_cons, hT, F.noName]; rfl
  refine codeAny_builtinAt F.entry ?_
  unfold Builtin.«BaseException.__new__»
  refine wpAt_bind ?_
  show wpAt _ _ _ (stack >>= _) _ _ _
  refine wpAt_bind (wpAt_stack fun p below => wpAt_of_wpAny ?_)
  wp_walk
  refine wpAt_of_wpAny ?_
  rw [F.owner]
  repeat (first | with_reducible refine wpAny_madeHere_exc F.canon hC ?_ | with_reducible refine wpAny_loadPart_at hC ?_ | (with_reducible refine wpAny_isSubtype_exc hC ?_; first | rw [c1] | rw [c2] | rw [c3]) | wp_step)
  show R _ _
  rw [Heap.size_push]
  exact hq
theorem kw_type (F : ExcBaseFacts B newId initId bmB) (hT : ∀ X : String, bm.contains (.type X) = bmB.contains (.type X)) {fI : Addr} {Q : Fin → Shared → Prop}
    (hC : h.get? C = some (excClassObj nm q C N bs bm hdct sn sub ab col dd k0 k1 k2 k3 k5 newId))
    (hi : Looks (model prog w) h (typeLookup (.ref C) "__init__") (some (.ref fI))) (hb : ∀ self, Looks (model prog w) h (bindSpecial (.ref fI) self) (.ref fI, [self]))
    (hq : codeAny (model prog w) A (.call (.ref fI) ⟨[.ref (h.objs.size + 1)], kw⟩)
      (fun r s' => match r with | .ok (.ret v) => v = .none ∧ Q (.done (.ret (.ref (h.objs.size + 1)))) s' | .ok _ => False | .error e => E e s')
      ⟨(h.push (kdv_tup [])).push (excO C h.objs.size), g, d, t, os⟩) :
    wpAny (model prog w) A (Builtin.«type.__call__» ⟨[.ref C], kw⟩) Q E ⟨h, g, d, t, os⟩ := by
  repeat (first | with_reducible refine wpAny_loadPart_at hC ?_ | with_reducible refine wpAny_madeBy_exc hC ?_ | wp_step)
  refine codeAny_call_builtin_code (Code.quiet_builtin _ F.quiet) (kw_check F hT hC ?_)
  refine kw_new F hT hC ?_
  show wpAny _ _ _ _ _ _
  have k : ∀ b o, h.get? b = some o → ((h.push (kdv_tup [])).push (excO C h.objs.size)).get? b = some o := fun b o e => Heap.get?_push_of_some _ (Heap.get?_push_of_some _ e)
  have hC1 := k _ _ hC
  have he : ((h.push (kdv_tup [])).push (excO C h.objs.size)).get? (h.objs.size + 1) = some (excO C h.objs.size) := by heap_get
  have hcc : (Value.ref C :: bm).contains (.ref C) = true := by simp
  have i1 := hi.keeps k
  have b1 := (hb (.ref (h.objs.size + 1))).keeps k
  unfold isInstance
  repeat (first | with_reducible refine wpAny_loadPart_at he ?_ | (with_reducible refine wpAny_isSubtype_exc hC1 ?_; rw [hcc]) | wp_step)
  show wpAny _ _ (typeLookup (.ref C) _) _ _ _
  refine i1.at ?_
  refine wpAny_holding (wpAny_bind (b1.at ?_))
  refine wpAny_bind (wpAny_call (codeAny_mono hq fun r s' z => ?_))
  rcases r with e | (v | _ | _ | _) <;> first | exact z | exact z.elim | skip
  obtain ⟨rfl, z⟩ := z
  first
    | exact wpAny_pure (wpAny_pure z)
    | (wp_walk; exact z)
theorem kw_chk {M : Model} {Q : Unit → Shared → Prop} (hC : h.get? C = some (excClassObj nm q C N bs bm hdct sn sub ab col dd k0 k1 k2 k3 k5 newId))
    (hq : Q () ⟨h, g, d, t, os⟩) : wpAny M A (checkBuiltinCall "type.__call__" ⟨[.ref C], kw⟩) Q E ⟨h, g, d, t, os⟩ := by
  have f3 := tc_sub
  have hTy : (⟨h, g, d, t, os⟩ : Shared).TypeIs (.ref C) "type" := ⟨_, hC, rfl⟩
  simp only [checkBuiltinCall, tc_kind, tc_split]
  repeat (any_goals (first | assumption | with_reducible refine wpAny_loadPart_at hC ?_ | with_reducible refine wpAny_onRaise ?_ | with_reducible refine wpAny_map ?_ | wp_step))
theorem kw_own (F : ExcBaseFacts B newId initId bmB) (hT : ∀ X : String, bm.contains (.type X) = bmB.contains (.type X)) {fI : Addr}
    (hC : h.get? C = some (excClassObj nm q C N bs bm hdct sn sub ab col dd k0 k1 k2 k3 k5 newId))
    (hi : Looks (model prog w) h (typeLookup (.ref C) "__init__") (some (.ref fI))) (hb : ∀ self, Looks (model prog w) h (bindSpecial (.ref fI) self) (.ref fI, [self]))
    (hq : codeAny (model prog w) (A.under (.builtin "type.__call__" ⟨[.ref C], kw⟩)) (.call (.ref fI) ⟨[.ref (h.objs.size + 1)], kw⟩) (InitBack (h.objs.size + 1) R) ⟨(h.push (kdv_tup [])).push (excO C h.objs.size), g, d, t, os⟩) :
    codeAny (model prog w) A (.call (.ref C) ⟨[], kw⟩) R ⟨h, g, d, t, os⟩ := by
  have f1 := tc_lookup
  have f2 := tc_bind (.ref C)
  have hTy : (⟨h, g, d, t, os⟩ : Shared).TypeIs (.ref C) "type" := ⟨_, hC, rfl⟩
  refine codeAny_of_tree ?_
  show wpAny _ _ (callAny (.ref C) _) _ _ _
  repeat (any_goals (first | assumption | with_reducible refine wpAny_loadPart_at hC ?_ | wp_step))
  refine ⟨rfl, ?_⟩
  refine codeAny_call_builtin_at (Code.quiet_builtin _ (by decide +kernel)) entry_typeCall (kw_chk hC (kw_type F hT hC hi hb ?_))
  refine codeAny_mono hq fun r s' z => ?_
  rcases r with e | (v | _ | _ | _) <;> exact z
end
end PySem.ErrX
namespace Cs
open PySem PySem.Spec PyProof.Rows L2 LamX PySem.ErrX
/-- an error's class whose __init__ is handed keywords ks -/
structure EMkK (prog : Program) (w : World) (K : PySem.W.Frag) (mg : Str → Option Value) (base : Heap) (C fI : Addr) (ks : List Str) : Prop where
  T : PySem.ErrX.ECls prog K C fI
  run : Mod K mg base → ∀ {A : Around} {s : Shared} {R : Result → Shared → Prop} {x t0 : Addr} {us : List Value}, us.length = ks.length → (∀ b o, base.get? b = some o → s.heap.get? b = some o) → s.heap.get? x = some (PySem.HandSPX.excO C t0) →
    base.get? x = none → A.depth < recursionLimit → (∀ h' tk dx, PySem.ErrX.InitEnd s.heap h' x C dx (fun y => (ks.zip us).lookup y) → R (.ok (.ret .none)) { s with heap := h', toks := tk }) →
    codeAny (model prog w) A (.call (.ref fI) ⟨[.ref x], ks.zip us⟩) R s
/-- an error's class without fields -/
structure EMk0 (prog : Program) (w : World) (K : PySem.W.Frag) (mg : Str → Option Value) (base : Heap) (C fI : Addr) : Prop where
  T : PySem.ErrX.ECls prog K C fI
  run : Mod K mg base → ∀ {A : Around} {s : Shared} {R : Result → Shared → Prop} {x t0 : Addr}, (∀ b o, base.get? b = some o → s.heap.get? b = some o) → s.heap.get? x = some (PySem.HandSPX.excO C t0) →
    base.get? x = none → A.depth < recursionLimit → (∀ h' tk t1, (∀ b o, b ≠ x → s.heap.get? b = some o → h'.get? b = some o) → h'.get? x = some (PySem.HandSPX.excO C t1) → R (.ok (.ret .none)) { s with heap := h', toks := tk }) →
    codeAny (model prog w) A (.call (.ref fI) ⟨[.ref x], []⟩) R s
section
variable {prog : Program} {w : World} {A : Around} {R : Result → Shared → Prop} {s : Shared} {K : PySem.W.Frag} {mg : Str → Option Value} {base : Heap} {C fI : Addr} {ks : List Str}
open PySem.HandSPX in
theorem err_madeK (M : Mod K mg base) (kb : ∀ b o, base.get? b = some o → s.heap.get? b = some o) (T : EMkK prog w K mg base C fI ks) {us : List Value} (hl : us.length = ks.length) (hroom : A.depth + 1 < recursionLimit)
    (hq : ∀ h' tk e d, ErrMade s.heap h' e C d (fun y => (ks.zip us).lookup y) → R (.ok (.ret (.ref e))) { s with heap := h', toks := tk }) :
    codeAny (model prog w) A (.call (.ref C) ⟨[], ks.zip us⟩) R s := by
  obtain ⟨nm, q, N, bs, bm, sn, sub, ab, col, dd, k0, k1, k2, k3, k5, hC, hbm, hal⟩ := T.T.cls
  have X : K.In s.heap := M.kin.keeps kb
  obtain ⟨hp, g, dr, tk, os⟩ := s
  have k : ∀ b o, hp.get? b = some o → ((hp.push (PySem.W.kdv_tup [])).push (excO C hp.objs.size)).get? b = some o := fun b o e => Heap.get?_push_of_some _ (Heap.get?_push_of_some _ e)
  have hget : ((hp.push (PySem.W.kdv_tup [])).push (excO C hp.objs.size)).get? (hp.objs.size + 1) = some (excO C hp.objs.size) := by heap_get
  have hbx : base.get? (hp.objs.size + 1) = none := by
    cases e : base.get? (hp.objs.size + 1) with
    | none => rfl
    | some o =>
      have z : hp.get? (hp.objs.size + 1) = some o := kb _ _ e
      exact absurd (Nat.lt_of_succ_lt (Heap.lt_size z)) (Nat.lt_irrefl _)
  refine kw_own F.excBase_ValueError (fun X => refsVE_contains X bm hbm) (X _ _ hC) (PySem.W.looks_findIn X T.T.iC) (fun self => PySem.W.bind_fn X self T.T.tI) ?_
  refine T.run M (s := ⟨(hp.push (PySem.W.kdv_tup [])).push (excO C hp.objs.size), g, dr, tk, os⟩) hl (fun b o e => k b o (kb b o e)) hget hbx ?_ fun h' tk' dx ⟨k', hx, dn, dne, hns⟩ => ?_
  · show A.depth + 1 < recursionLimit
    exact hroom
  · have old : ∀ b o, hp.get? b = some o → h'.get? b = some o := fun b o e => k' b o (Nat.ne_of_lt (Nat.lt_succ_of_lt (Heap.lt_size e))) (k b o e)
    have z : hp.objs.size + 1 + 1 ≤ dx := by
      have q := dn
      simp only [Heap.size_push] at q
      exact q
    exact ⟨rfl, hq h' tk' (hp.objs.size + 1) dx ⟨old, Nat.le_succ _, hx, Nat.le_trans (Nat.le_trans (Nat.le_succ _) (Nat.le_succ _)) z, dne, hns⟩⟩
open PySem.HandSPX in
theorem err_made0 (M : Mod K mg base) (kb : ∀ b o, base.get? b = some o → s.heap.get? b = some o) (T : EMk0 prog w K mg base C fI) (hroom : A.depth + 1 < recursionLimit)
    (hq : ∀ h' tk e t1, (∀ b o, s.heap.get? b = some o → h'.get? b = some o) → s.heap.objs.size ≤ e → h'.get? e = some (excO C t1) → R (.ok (.ret (.ref e))) { s with heap := h', toks := tk }) :
    codeAny (model prog w) A (.call (.ref C) ⟨[], []⟩) R s := by
  obtain ⟨nm, q, N, bs, bm, sn, sub, ab, col, dd, k0, k1, k2, k3, k5, hC, hbm, hal⟩ := T.T.cls
  have X : K.In s.heap := M.kin.keeps kb
  obtain ⟨hp, g, dr, tk, os⟩ := s
  have k : ∀ b o, hp.get? b = some o → ((hp.push (PySem.W.kdv_tup [])).push (excO C hp.objs.size)).get? b = some o := fun b o e => Heap.get?_push_of_some _ (Heap.get?_push_of_some _ e)
  have hget : ((hp.push (PySem.W.kdv_tup [])).push (excO C hp.objs.size)).get? (hp.objs.size + 1) = some (excO C hp.objs.size) := by heap_get
  have hbx : base.get? (hp.objs.size + 1) = none := by
    cases e : base.get? (hp.objs.size + 1) with
    | none => rfl
    | some o =>
      have z : hp.get? (hp.objs.size + 1) = some o := kb _ _ e
      exact absurd (Nat.lt_of_succ_lt (Heap.lt_size z)) (Nat.lt_irrefl _)
  refine kw_own F.excBase_ValueError (fun X => refsVE_contains X bm hbm) (X _ _ hC) (PySem.W.looks_findIn X T.T.iC) (fun self => PySem.W.bind_fn X self T.T.tI) ?_
  refine T.run M (s := ⟨(hp.push (PySem.W.kdv_tup [])).push (excO C hp.objs.size), g, dr, tk, os⟩) (fun b o e => k b o (kb b o e)) hget hbx ?_ fun h' tk' t1 k' hx => ?_
  · show A.depth + 1 < recursionLimit
    exact hroom
  · have old : ∀ b o, hp.get? b = some o → h'.get? b = some o := fun b o e => k' b o (Nat.ne_of_lt (Nat.lt_succ_of_lt (Heap.lt_size e))) (k b o e)
    exact ⟨rfl, hq h' tk' (hp.objs.size + 1) t1 old (Nat.le_succ _) hx⟩
end
section
variable {X : Cx} {C fI : Addr} {ks : List Str}
/-- C(f = v, ..) -/
def tErrK (C : Addr) (ks : List Str) (tk : TA) : TE := fun σ H Q => tk σ H fun vs H1 => vs.length = ks.length ∧ ∀ a d, H1 a = none → H1 d = none → d ≠ a → Q (.ref a) (upd (upd H1 d (.xd (ks.zip vs))) a (EXV (.ref C) (some d) a))
theorem pe_errK {x : Str} {kws : List Keyword} {tk : TA} {p pos : Pos} {k : Nat} (T : EMkK X.prog X.w X.K X.mg X.base C fI ks) (hr : Room k X.A) (hkw : PK X kws tk) (hm : X.mg x = some (.ref C)) (hg : Gl X x := by rfl)
    (hall : (backToKw pos (keywordEach kws X.env)).all (·.1.isSome) = true := by rfl) (hks : (backToKw pos (keywordEach kws X.env)).filterMap (·.1) = ks := by rfl)
    (hdb : (x == ("__debug__" : Str)) = false := by decide) (hpl : ((backTo pos (starEach [] X.env)).any (·.1) || (backToKw pos (keywordEach kws X.env)).any (·.1.isNone)) = false := by rfl) :
    PE X (.Call (.Name x p) [] kws pos) (tErrK C ks tk) := by
  refine ⟨fun pins s σ H Q I h => wpAny_Call_Name_kw (ld_glob I hg hm ?_ hdb)⟩
  refine PySem.W.callWith_KW0 (h₀ := X.base) I.ok.mod.kin T.T.kC hall ?_ hpl
  refine thn (hkw.run pos pins s σ H _ I h) fun us s1 ⟨vs, H1, I1, r1, hl, q1⟩ => ⟨I1.kIn, ?_⟩
  rw [hks]
  have hlu : us.length = ks.length := by rw [← Vals.length r1]; exact hl
  obtain ⟨hp, g, dr, tk, os⟩ := s1
  refine wpAny_call (err_madeK I1.ok.mod I1.bk T hlu (by have := hr.dp; omega) fun h' tk' e d M => ?_)
  obtain ⟨t1, hoe⟩ := M.obj
  have nH : H1 e = none := I1.hok.fresh M.new
  have ob : ObjOk X.prog X.w (upd H1 d (.xd (ks.zip vs))) h' d (.xd (ks.zip vs)) := err_xd r1 M.ns
  have J : Inv X pins σ (upd H1 d (.xd (ks.zip vs))) ⟨h', g, dr, tk', os⟩ := I1.laid (t' := tk') M.keep M.dbig ob
  have lt : ∀ b o, hp.get? b = some o → b ≠ e := fun b o q => Nat.ne_of_lt (Nat.lt_of_lt_of_le (Heap.lt_size q) M.new)
  refine ⟨.ref e, _, J.track (a := e) (o := EXV (.ref C) (some d) e) (exv_ok hoe ⟨rfl, rfl⟩ rfl) (by rw [upd_ne (Ne.symm M.dne)]; exact nH) ?_ ?_ (fun x c hc => ?_) fun p hp' => ?_, rfl, q1 e d nH (I1.hok.fresh M.dbig) M.dne⟩
  · obtain ⟨m, ⟨o, _, _, ho, _⟩, _⟩ := I1.loc
    exact Ne.symm (lt _ o ho)
  · cases q : X.s_0.heap.get? e with
    | none => rfl
    | some o => exact absurd (Nat.lt_of_lt_of_le (Heap.lt_size q) (Nat.le_trans I1.sz M.new)) (Nat.lt_irrefl _)
  · obtain ⟨v, o, ho, _⟩ := I1.cell x c hc
    exact lt _ o ho
  · obtain ⟨z, _⟩ := I1.pin p hp'
    exact lt _ _ z
/-- C() -/
def tErr0 (C : Addr) : TE := fun σ H Q => ∀ a, H a = none → Q (.ref a) (upd H a (EXV (.ref C) none a))
theorem pe_err0 {x : Str} {p pos : Pos} {k : Nat} (T : EMk0 X.prog X.w X.K X.mg X.base C fI) (hr : Room k X.A) (hm : X.mg x = some (.ref C)) (hg : Gl X x := by rfl) (hdb : (x == ("__debug__" : Str)) = false := by decide) :
    PE X (.Call (.Name x p) [] [] pos) (tErr0 C) := by
  refine ⟨fun pins s σ H Q I h => wpAny_Call_Name_kw (ld_glob I hg hm ?_ hdb)⟩
  refine PySem.W.callWith_K0 I.kIn T.T.kC ?_
  obtain ⟨hp, g, dr, tk, os⟩ := s
  refine wpAny_call (err_made0 I.ok.mod I.bk T (by have := hr.dp; omega) fun h' tk' e t1 M new hoe => ?_)
  have nH : H e = none := I.hok.fresh new
  have J : Inv X pins σ H ⟨h', g, dr, tk', os⟩ := I.kept (t' := tk') M
  have lt : ∀ b o, hp.get? b = some o → b ≠ e := fun b o q => Nat.ne_of_lt (Nat.lt_of_lt_of_le (Heap.lt_size q) new)
  refine ⟨.ref e, _, J.track (a := e) (o := EXV (.ref C) none e) (exv_ok hoe ⟨rfl, rfl⟩ rfl) nH ?_ ?_ (fun x c hc => ?_) fun p hp' => ?_, rfl, h e nH⟩
  · obtain ⟨m, ⟨o, _, _, ho, _⟩, _⟩ := I.loc
    exact Ne.symm (lt _ o ho)
  · cases q : X.s_0.heap.get? e with
    | none => rfl
    | some o => exact absurd (Nat.lt_of_lt_of_le (Heap.lt_size q) (Nat.le_trans I.sz new)) (Nat.lt_irrefl _)
  · obtain ⟨v, o, ho, _⟩ := I.cell x c hc
    exact lt _ o ho
  · obtain ⟨z, _⟩ := I.pin p hp'
    exact lt _ _ z
end
section
variable {P : Program} {w : World} {K : PySem.W.Frag} {mg : Str → Option Value} {base : Heap} {C fI : Addr} {params : Arguments} {scope : Scope} {msg f g : Str} {p0 p1 p2 p3 p4 p5 q0 q1 q2 q3 r0 r1 r2 r3 : Pos}
theorem emk0 (T : ECls P K C fI) (S : EShape params scope []) (F : EFun P K C fI params [sup msg p0 p1 p2 p3 p4 p5] scope)
    (hb : ∀ (s : Shared) (x : Addr) (qual : Str) (kV doc pm ct : Value) (an : Option Addr) (cda cc : Addr), BindsTo s (PySem.W.ksFn "__init__" qual params [sup msg p0 p1 p2 p3 p4 p5] scope .none kV doc pm an (.ref cda) ct cc) ⟨[.ref x], []⟩ [("self", .ref x)])
    (hev : ∀ (L cda cc : Addr) (qual : Str), interactive (PySem.W.ksEnv qual scope L fI (.ref cda) cc) = false ∧ (∃ pl, SupEv msg p0 p1 p2 p3 p4 pl (PySem.W.ksEnv qual scope L fI (.ref cda) cc))) : EMk0 P w K mg base C fI where
  T := T
  run := fun M {A s R x t0} kb hx hbx hroom hq => err_init0 M kb T S F hx hbx hroom (hb s x) hev fun h' tk t1 k' hx' => hq h' tk t1 k' hx'
theorem emkK1 (T : ECls P K C fI) (S : EShape params scope [f]) (F : EFun P K C fI params [sup msg p0 p1 p2 p3 p4 p5, sto f q0 q1 q2 q3] scope) (nof : PySem.W.findIn K (.ref C) f = some none)
    (hb : ∀ (s : Shared) (x : Addr) (v : Value) (qual : Str) (kV doc pm ct : Value) (an : Option Addr) (cda cc : Addr), BindsTo s (PySem.W.ksFn "__init__" qual params [sup msg p0 p1 p2 p3 p4 p5, sto f q0 q1 q2 q3] scope .none kV doc pm an (.ref cda) ct cc) ⟨[.ref x], [(f, v)]⟩ [("self", .ref x), (f, v)])
    (hev : ∀ (L cda cc : Addr) (qual : Str), interactive (PySem.W.ksEnv qual scope L fI (.ref cda) cc) = false ∧ (∃ pl, SupEv msg p0 p1 p2 p3 p4 pl (PySem.W.ksEnv qual scope L fI (.ref cda) cc)) ∧
      swapsWith (.Name f q2) (some (.Attribute (.Name "self" q0) f q1)) q3.line (PySem.W.ksEnv qual scope L fI (.ref cda) cc) = pure false) : EMkK P w K mg base C fI [f] where
  T := T
  run := fun M {A s R x t0 us} hl kb hx hbx hroom hq => by
    match us, hl with
    | [v], _ =>
      refine err_init1 (args := ⟨[.ref x], [f].zip [v]⟩) M kb T S F hx hbx hroom nof (hb s x v) hev fun h' tk dx I => hq h' tk dx ?_
      have e : (fun y => ([f].zip [v]).lookup y) = fun y => if y = f then some v else none := by
        funext y
        simp only [List.zip_cons_cons, List.zip_nil_right, List.lookup_cons, List.lookup_nil]
        by_cases h : y = f
        · rw [if_pos h, h, beq_self_eq_true]
        · rw [if_neg h, beq_eq_false_iff_ne.mpr h]
      rw [e]
      exact I
/-- the keywords turned about -/
theorem emkK2r (T : ECls P K C fI) (S : EShape params scope [f, g]) (F : EFun P K C fI params [sup msg p0 p1 p2 p3 p4 p5, sto f q0 q1 q2 q3, sto g r0 r1 r2 r3] scope) (nof : PySem.W.findIn K (.ref C) f = some none) (nog : PySem.W.findIn K (.ref C) g = some none)
    (hb : ∀ (s : Shared) (x : Addr) (v u : Value) (qual : Str) (kV doc pm ct : Value) (an : Option Addr) (cda cc : Addr), BindsTo s (PySem.W.ksFn "__init__" qual params [sup msg p0 p1 p2 p3 p4 p5, sto f q0 q1 q2 q3, sto g r0 r1 r2 r3] scope .none kV doc pm an (.ref cda) ct cc) ⟨[.ref x], [(g, u), (f, v)]⟩ [("self", .ref x), (f, v), (g, u)])
    (hev : ∀ (L cda cc : Addr) (qual : Str), interactive (PySem.W.ksEnv qual scope L fI (.ref cda) cc) = false ∧ (∃ pl, SupEv msg p0 p1 p2 p3 p4 pl (PySem.W.ksEnv qual scope L fI (.ref cda) cc)) ∧
      swapsWith (.Name f q2) (some (.Attribute (.Name "self" q0) f q1)) q3.line (PySem.W.ksEnv qual scope L fI (.ref cda) cc) = pure false ∧ swapsWith (.Name g r2) (some (.Attribute (.Name "self" r0) g r1)) r3.line (PySem.W.ksEnv qual scope L fI (.ref cda) cc) = pure false) : EMkK P w K mg base C fI [g, f] where
  T := T
  run := fun M {A s R x t0 us} hl kb hx hbx hroom hq => by
    match us, hl with
    | [u, v], _ =>
      refine err_init2 (args := ⟨[.ref x], [g, f].zip [u, v]⟩) M kb T S F hx hbx hroom nof nog (hb s x v u) hev fun h' tk dx I => hq h' tk dx ?_
      have e : (fun y => ([g, f].zip [u, v]).lookup y) = fun y => if y = g then some u else if y = f then some v else none := by
        funext y
        simp only [List.zip_cons_cons, List.zip_nil_right, List.lookup_cons, List.lookup_nil]
        by_cases h : y = g
        · rw [h, beq_self_eq_true, if_pos rfl]
        · rw [beq_eq_false_iff_ne.mpr h, if_neg h]
          by_cases h2 : y = f
          · rw [if_pos h2, h2, beq_self_eq_true]
          · rw [if_neg h2, beq_eq_false_iff_ne.mpr h2]
      rw [e]
      exact I
end
section
variable {σ : L2.St} {H : Hp} {Q : VK} {tr : TA} {C : Addr} {ks : List Str}
def rMkE (C : Addr) (ks : List Str) (vs : List V) (H1 : Hp) (Q : VK) : Prop := vs.length = ks.length ∧ ∀ a d, H1 a = none → H1 d = none → d ≠ a → Q (.ref a) (upd (upd H1 d (.xd (ks.zip vs))) a (EXV (.ref C) (some d) a))
theorem r_errK (q : tr σ H fun vs H1 => rMkE C ks vs H1 Q) : tErrK C ks tr σ H Q := q
theorem r_err (q : tr σ H fun vs H1 => rMkE C ks vs H1 Q) : tErr C ks tr σ H Q := q
theorem r_err0 (q : ∀ a, H a = none → Q (.ref a) (upd H a (EXV (.ref C) none a))) : tErr0 C σ H Q := q
end
end Cs

set_option Elab.async false
set_option linter.all false
set_option maxRecDepth 100000
set_option maxHeartbeats 4000000
/-! LayU: errors that go out, heard errors, signs in a list: what every law wants. -/
namespace Cs
open PySem PySem.Spec PyProof.Rows L2 LamX
section
variable {P : Program} {w : World} {K : PySem.W.Frag} {mg : Str → Option Value} {base : Heap}
/-- an error goes out -/
def Rse (E : XK) (H : Hp) (C : Addr) (fs : List (Str × V)) : Prop := ∀ d, H d = none → E (.ref C) (some d) (upd H d (.xd fs))
theorem updd {H : Hp} {p : Addr} {a b : HO} : upd (upd H p a) p b = upd H p b := by
  funext q
  by_cases e : q = p
  · subst e
    rw [upd_same, upd_same]
  · rw [upd_ne e, upd_ne e, upd_ne e]
def sgn (w : List Nat) : List V := w.map fun c => .str (S [c])
theorem sgn_len (w : List Nat) : (sgn w).length = w.length := by simp [sgn]
theorem sgn_snoc (w : List Nat) (c : Nat) : sgn (w ++ [c]) = sgn w ++ [.str (S [c])] := by simp [sgn]
theorem sgn_init (w : List Nat) : sgn w.dropLast = (sgn w).dropLast := by simp [sgn, List.map_dropLast]
theorem sgn_last {w : List Nat} {c : Nat} (h : atI w (-1) = some c) : atI (sgn w) (-1) = some (.str (S [c])) := by
  by_cases e : w = []
  · subst e; simp [atI, ixN] at h
  · obtain ⟨v, d, rfl⟩ := snoc_of e
    have z : atI (v ++ [d]) (-1) = some d := atI_neg (k := 1) (by decide) (by simp) (by simp)
    rw [z] at h
    cases h
    rw [sgn_snoc]
    exact atI_neg (k := 1) (by decide) (by simp) (by simp [sgn])
theorem sgn_last2 {w : List Nat} {c : Nat} (h : atI w (-1) = some c) : (sgn w)[(sgn w).length - 1]? = some (.str (S [c])) := by
  by_cases e : w = []
  · subst e; simp [atI, ixN] at h
  · obtain ⟨v, d, rfl⟩ := snoc_of e
    have z : atI (v ++ [d]) (-1) = some d := atI_neg (k := 1) (by decide) (by simp) (by simp)
    rw [z] at h
    cases h
    rw [sgn_snoc]
    simp
theorem joinL_one : ∀ (w : List Nat), TL.joinL [] (w.map fun c => [c]) = w
  | [] => rfl
  | [c] => rfl
  | c :: d :: w => by
    have z := joinL_one (d :: w)
    show [c] ++ [] ++ TL.joinL [] ((d :: w).map fun c => [c]) = _
    rw [z]
    rfl
/-- "".join(signs) -/
theorem q_join1 {H : Hp} {Q : VK} {a : Addr} {w : List Nat} (h : SqL K H a (sgn w)) (hl : w.length ≤ 1000000) (q : Q (.str (S w)) H) : rJoin K (.str (S [])) [.ref a] H Q := by
  have e : ((w.map fun c => [c]).map S).map V.str = sgn w := by simp [sgn]
  refine ⟨S [], a, (w.map fun c => [c]).map S, rfl, rfl, .inl (by rw [e]; exact h), ?_, ?_⟩
  · have e2 : (((w.map fun c => [c]).map S).map (·.length)).sum = w.length := by
      rw [List.map_map, List.map_map]
      have : ∀ l : List Nat, (l.map ((fun x : Str => x.length) ∘ S ∘ fun c => [c])).sum = l.length := fun l => by
        induction l with
        | nil => rfl
        | cons c l ih => rw [List.map_cons, List.sum_cons, ih]; simp [S_len]; omega
      exact this w
    rw [e2, S_len]
    simp
    omega
  · rw [SX.join_S, joinL_one]
    exact q
theorem dpC {H : Hp} : ∀ (w : List Nat), DpAll K H (sgn w) (w.map fun c => PyData.str (S [c]))
  | [] => .nil
  | c :: w => .cons (.str _) (dpC w)
theorem lay_sgn {w : List Nat} (h : ∀ c ∈ w, c < 0x110000) : Lay 1 (.list (w.map fun c => PyData.str (S [c]))) := lay_list fun d hd => by
  obtain ⟨c, hc, rfl⟩ := List.mem_map.mp hd
  exact lay_S (by simp [okS, h c hc])
theorem small_L {w : List Nat} (h : AllL w) : ∀ c ∈ w, c < 0x110000 := fun c hc => by
  rcases isL_cases (h c hc) with rfl | rfl | rfl | rfl | rfl | rfl | rfl | rfl <;> decide
/-- what is wished of an error behind the hearing def -/
def HE (K : PySem.W.Frag) (CS : Addr) (Q : VK) : XK := fun cls d H' => PySem.W.exmOne K cls (.ref CS) = some true ∧ ∀ a, H' a = none → Q (.ref a) (upd H' a (EXV cls d a))
/-- what the hearing def gives of an error -/
theorem heardE {Q : VK} {H : Hp} {C CS : Addr} {fs : List (Str × V)} (hx : PySem.W.exmOne K (.ref C) (.ref CS) = some true) (q : ∀ a d H', Same H H' → H' a = some (EXV (.ref C) (some d) a) → H' d = some (.xd fs) → Q (.ref a) H') :
    Rse (HE K CS Q) H C fs := fun d hd => ⟨hx, fun a ha => by
  have had : a ≠ d := fun z => by rw [z, upd_same] at ha; cases ha
  refine q a d _ ((same_upd hd).trans (same_upd ha)) upd_same ?_
  rw [upd_ne had.symm]
  exact upd_same⟩
theorem r_lamH {Tb : List (Addr × Str)} {CS : Addr} {t : XK → TE} {σ : L2.St} {H : Hp} {Q : VK} (hT : Tabs Tb H) (q : ∀ H1, ExtN H H1 → Tabs Tb H1 → t (HE K CS Q) σ H1 fun _ H' => Q .non H') : tLam Tb (THeard K CS) t σ H Q := r_lam hT q
theorem extN_trans {H H1 H2 : Hp} (a : ExtN H H1) (b : ExtN H1 H2) : ExtN H H2 := a.trans b
theorem tabs_same {Tb : List (Addr × Str)} {H H' : Hp} (t : Tabs Tb H) (e : Same H H') : Tabs Tb H' := t.ext e
/-- an error stands at a -/
def ErrAt (H : Hp) (a C : Addr) (fs : List (Str × V)) : Prop := ∃ d, H a = some (EXV (.ref C) (some d) a) ∧ H d = some (.xd fs)
theorem errAt_ext {H H' : Hp} {a C : Addr} {fs : List (Str × V)} (e : ExtN H H') (h : ErrAt H a C fs) : ErrAt H' a C fs := let ⟨d, h1, h2⟩ := h; ⟨d, e _ _ h1 (fun ps z => by cases z), e _ _ h2 (fun ps z => by cases z)⟩
theorem errAt_lk {P : Pen} {Tb : List (Addr × Str)} {n m : Nat} {H1 H2 H3 : Hp} {a C : Addr} {fs : List (Str × V)} (l : LK P Tb H1 n H2) (l2 : LK P Tb H2 m H3) (h : ErrAt H2 a C fs) : ErrAt H3 a C fs := by
  obtain ⟨d, h1, h2⟩ := h
  obtain ⟨_, _, _, _, _, e⟩ := l.p.ex
  refine ⟨d, l2.k _ _ (fun z => ?_) (fun ps z => by cases z) h1, l2.k _ _ (fun z => ?_) (fun ps z => by cases z) h2⟩
  · rw [z, e] at h1
    cases h1
  · rw [z, e] at h2
    cases h2
theorem err_isK {H : Hp} {a C : Addr} {fs : List (Str × V)} (h : ErrAt H a C fs) (x : XiC K C) : IsK K H (.ref a) (.ref C) true := let ⟨d, h1, h2⟩ := h; .inr ⟨a, C, some d, rfl, h1, fun y e => ⟨_, by cases e; exact h2⟩, x, kit_self⟩
theorem err_at {H : Hp} {a C : Addr} {fs : List (Str × V)} {f : Str} {v : V} {Q : VK} (h : ErrAt H a C fs) (x : XfF K C f) (l : fs.lookup f = some v) (q : Q v H) : rAttr K f (.ref a) H Q := let ⟨d, h1, h2⟩ := h; .inr ⟨a, C, d, _, _, rfl, x, h1, h2, l, q⟩
theorem r_mO {w : List Nat} {n : Int} {Q : VK} {H : Hp} {m : Nat} (e : n = (m : Nat)) (hw : w.length ≤ 1000) (hn : m ≤ 10000) (q : Q (.str (S (List.replicate m w).flatten)) H) : rMulB (.str (S w)) (.int n) H Q := by
  subst e
  exact r_mS hw hn q
theorem cut_toI (w : List Nat) {n : Int} {k : Nat} (e : n = (k : Nat)) : cutS (S w) none (some n) = S (w.take k) := by
  subst e
  exact cut_to w k
theorem cut_fromI (w : List Nat) {n : Int} {k : Nat} (e : n = (k : Nat)) : cutS (S w) (some n) none = S (w.drop k) := by
  subst e
  exact cut_from w k
theorem LK.trans {P : Pen} {Tb : List (Addr × Str)} {n m : Nat} {H1 H2 H3 : Hp} (a : LK P Tb H1 n H2) (b : LK P Tb H2 m H3) : LK P Tb H1 m H3 := ⟨fun c o n1 n2 q => b.k c o n1 n2 (a.k c o n1 n2 q), b.p, b.t⟩
theorem op_binK {X : Cx} {CXc : CXT} {k j : Nat} {C : Addr} {sp : Sp} {E : XK} {op : Operator} {Ts : List String} (c : OwnBin X.prog X.w X.K X.mg X.base CXc k C op Ts sp) (hr : Room j X.A) (hk : k ≤ j) (hx : Passes CXc X E) (hK : X.K = K := by rfl) : OpR X (binaryOp op) (rBin K C Ts sp E) := by
  subst hK
  exact op_bin c hr hk hx
theorem tyX_ext {H H' : Hp} {x : V} {t : Value} (e : ExtN H H') (h : TyX K H x t) : TyX K H' x t := by
  have g : ∀ {b : Addr} {o : HO}, (∀ ps, o ≠ .tbl ps) → H b = some o → H' b = some o := fun n h => e _ _ h n
  cases h with
  | base h =>
    cases h with
    | non => exact .base .non
    | bl x => exact .base (.bl x)
    | int x => exact .base (.int x)
    | str x => exact .base (.str x)
    | flt x => exact .base (.flt x)
    | lst h => exact .base (.lst (g (fun ps z => by cases z) h))
    | frz h => exact .base (.frz (g (fun ps z => by cases z) h))
    | tup h => exact .base (.tup (g (fun ps z => by cases z) h))
    | dK h => exact .base (.dK (g (fun ps z => by cases z) h))
    | dT h => exact .base (.dT (g (fun ps z => by cases z) h))
    | ins h c a n k m => exact .base (.ins (g (fun ps z => by cases z) h) c a n k m)
  | byt b => exact .byt b
  | set h => exact .set (g (fun ps z => by cases z) h)
  | kList h c => exact .kList h c
  | kTuple h c => exact .kTuple h c
  | kDict h c => exact .kDict h c
  | fTuple h => exact .fTuple (g (fun ps z => by cases z) h)
  | fDict h => exact .fDict (g (fun ps z => by cases z) h)
/-- the value is of a class (not its own error's) of which isinstance tells b -/
def TyK (K : PySem.W.Frag) (H : Hp) (x : V) (u : Value) (b : Bool) : Prop := ∃ t, TyX K H x t ∧ PySem.W.kitOne K t u = some b
theorem tyK_ext {H H' : Hp} {x : V} {u : Value} {b : Bool} (e : ExtN H H') (h : TyK K H x u b) : TyK K H' x u b := let ⟨t, h, k⟩ := h; ⟨t, tyX_ext e h, k⟩
theorem tyK_is {H : Hp} {x : V} {u : Value} {b : Bool} (h : TyK K H x u b) : IsK K H x u b := .inl h
theorem lk_get {P : Pen} {Tb : List (Addr × Str)} {n m : Nat} {H2 H3 : Hp} {b : Addr} {o : HO} (p : PenAt P n H2) (l : LK P Tb H2 m H3) (h : H2 b = some o) (n1 : ∀ s r, o ≠ penO P s r) (n2 : ∀ ps, o ≠ .tbl ps) : H3 b = some o := by
  obtain ⟨s, r, _, _, _, e⟩ := p.ex
  exact l.k b o (fun z => by rw [z, e] at h; exact n1 _ _ (Option.some.inj h).symm) n2 h
theorem r_disp1 {σ : L2.St} {H : Hp} {Q : VK} {z : Str} {v : V} (q : ∀ p, H p = none → Q (.ref p) (upd H p (.dK [(.inr z, v)]))) : tDisp [(tC (.str z), tC v)] σ H Q := fun p hp => by
  refine ⟨upd_same, [(.inr z, v)], rfl, by simp, ?_⟩
  rw [updd]
  exact q p hp
theorem bv_ext {H H' : Hp} {y : V} {t : String} (e : ExtN H H') (h : BV H y t) : BV H' y t := by
  cases h with
  | non => exact .non
  | int n => exact .int n
  | bl n => exact .bl n
  | str n => exact .str n
  | lst h => exact .lst (e _ _ h (fun ps z => by cases z))
  | tup h => exact .tup (e _ _ h (fun ps z => by cases z))
end
end Cs

set_option Elab.async false
set_option linter.all false
set_option maxRecDepth 100000
set_option maxHeartbeats 4000000
/-! LayV: how long a repr is. -/
namespace Cs
open PySem PySem.Spec PyProof.Rows L2
theorem textFrom_le : ∀ (ts : List Str) (k : Nat) (acc : Str), (textFrom k acc ts).length ≤ acc.length + (ts.map fun t => t.length + 2).sum
  | [], k, acc => by show acc.length ≤ _; omega
  | t :: r, k, acc => by
    have h := textFrom_le r (k + 1) (acc ++ (if k > 0 then ", " else "" : String) ++ t)
    show (textFrom (k + 1) (acc ++ (if k > 0 then ", " else "" : String) ++ t) r).length ≤ _
    rw [strLen_append, strLen_append] at h
    have h2 : ((if k > 0 then ", " else "" : String) : Str).length ≤ 2 := by
      split <;> decide
    rw [List.map_cons, List.sum_cons]
    omega
theorem listText_le (ts : List Str) : (listText ts).length ≤ 2 + (ts.map fun t => t.length + 2).sum := by
  have h := textFrom_le ts 0 "["
  have e : (listText ts).length = (textFrom 0 "[" ts).length + 1 := by
    show (textFrom 0 "[" ts ++ "]").length = _
    rw [strLen_append]; rfl
  have e1 : ("[" : Str).length = 1 := by decide
  omega
theorem join_le : ∀ (ts : List Str), (Str.join ", " ts).length ≤ (ts.map fun t => t.length + 2).sum
  | [] => Nat.zero_le _
  | [x] => by show x.length ≤ _; simp
  | x :: y :: r => by
    have h := join_le (y :: r)
    show (x ++ ", " ++ Str.join ", " (y :: r)).length ≤ _
    rw [strLen_append, strLen_append, List.map_cons, List.sum_cons]
    have e : (", " : Str).length = 2 := by decide
    omega
theorem tupleText_le (ts : List Str) : (tupleText ts).length ≤ 3 + (ts.map fun t => t.length + 2).sum := by
  unfold tupleText
  rw [strLen_append, strLen_append]
  have h := join_le ts
  have e : ("(" : Str).length = 1 := by decide
  have e2 : ((if ts.length == 1 then ",)" else ")" : String) : Str).length ≤ 2 := by
    split <;> decide
  omega
mutual
/-- a bound of a repr's length -/
def slen : PyData → Nat
  | .none => 4
  | .bool _ => 5
  | .int _ => 1921
  | .str x => (reprText x).length
  | .list xs => 2 + slens xs
  | .tuple xs => 3 + slens xs
  | .dict kvs => (dictText (PyData.shownKv kvs)).length
def slens : List PyData → Nat
  | [] => 0
  | x :: xs => (slen x + 2) + slens xs
end
mutual
theorem shown_le : ∀ (d : PyData), d.showable = true → d.shown.length ≤ slen d
  | .none, _ => by simp only [PyData.shown, slen]; decide
  | .bool b, _ => by cases b <;> (simp only [PyData.shown, slen]; decide)
  | .int i, h => by
    simp only [PyData.shown, slen]
    exact int_text_len_1921 (by simpa [PyData.showable] using h)
  | .str x, _ => by simp only [PyData.shown, slen]; exact Nat.le_refl _
  | .list xs, h => by
    simp only [PyData.shown, slen]
    have h1 := listText_le (PyData.shownAll xs)
    have h2 := shown_les xs (by simpa [PyData.showable] using h)
    omega
  | .tuple xs, h => by
    simp only [PyData.shown, slen]
    have h1 := tupleText_le (PyData.shownAll xs)
    have h2 := shown_les xs (by simpa [PyData.showable] using h)
    omega
  | .dict kvs, _ => by simp only [PyData.shown, slen]; exact Nat.le_refl _
theorem shown_les : ∀ (xs : List PyData), PyData.showableAll xs = true → ((PyData.shownAll xs).map fun t => t.length + 2).sum ≤ slens xs
  | [], _ => by simp [PyData.shownAll, slens]
  | x :: xs, h => by
    simp only [PyData.showableAll, Bool.and_eq_true] at h
    have h1 := shown_le x h.1
    have h2 := shown_les xs h.2
    simp only [PyData.shownAll, slens, List.map_cons, List.sum_cons]
    omega
end
/-- repr(x), by data -/
theorem q_repr {K : PySem.W.Frag} {H : Hp} {Q : VK} {x : V} {d : PyData} {b : Bool} (h : Dq K H b x d) (hb : d.hasDict = true → b = true) (hs : d.showable = true) (hd : d.depth ≤ 8) (hl : slen d ≤ 1000000) (q : Q (.str d.shown) H) : rRepr K [x] H Q :=
  ⟨x, d, b, rfl, h, hb, hs, hd, Nat.le_trans (shown_le d hs) hl, q⟩
/-- x == y of texts of any kind -/
theorem r_eqX {K : PySem.W.Frag} {H : Hp} {Q : VK} {a b : Str} (q : Q (.bl (decide (a = b))) H) : rEqA K (.str a) (.str b) H Q := .inl ⟨rfl, by
  have e : decide (V.str a = V.str b) = decide (a = b) := by simp
  rw [e]; exact q⟩
theorem r_neX {K : PySem.W.Frag} {H : Hp} {Q : VK} {a b : Str} (q : Q (.bl (!decide (a = b))) H) : rNeA K (.str a) (.str b) H Q := .inl ⟨rfl, by
  have e : decide (V.str a = V.str b) = decide (a = b) := by simp
  rw [e]; exact q⟩
theorem eqv_bools (ns ms : List Bool) : PyData.eqvAll (ns.map PyData.bool) (ms.map PyData.bool) = decide (ns = ms) := by
  induction ns generalizing ms with
  | nil => cases ms <;> simp [PyData.eqvAll]
  | cons a ns ih => cases ms with
    | nil => simp [PyData.eqvAll]
    | cons b ms =>
      rw [Bool.eq_iff_iff]
      simp [PyData.eqvAll, PyData.eqv, ih]
theorem dpB {K : PySem.W.Frag} {H : Hp} : ∀ (ns : List Bool), DpAll K H (ns.map V.bl) (ns.map PyData.bool)
  | [] => .nil
  | n :: ns => .cons (.bl n) (dpB ns)
theorem lay_bools (ns : List Bool) : Lay 1 (.list (ns.map PyData.bool)) := lay_list fun d hd => by
  obtain ⟨n, _, rfl⟩ := List.mem_map.mp hd
  exact lay_bl
theorem r_neBs {K : PySem.W.Frag} {H : Hp} {Q : VK} {a b : Addr} {xs ys : List Bool} (h1 : SqL K H a (xs.map V.bl)) (h2 : SqL K H b (ys.map V.bl)) (q : Q (.bl (!decide (xs = ys))) H) : rNeA K (.ref a) (.ref b) H Q := by
  refine r_neD (.lst h1 (dpB xs)) (.lst h2 (dpB ys)) (shaped_of (lay_bools xs)) (shaped_of (lay_bools ys)) ?_
  simp only [PyData.eqv, eqv_bools]
  exact q
end Cs
namespace Cs
open PySem PySem.Spec PyProof.Rows L2
theorem PenAt.at {P : Pen} {n : Nat} {H : Hp} {a : Addr} {o : HO} (h : PenAt P n H) (n1 : P.p ≠ a) (n2 : P.c ≠ a) : PenAt P n (upd H a o) := by
  obtain ⟨s, r, h1, h2, h3, h4⟩ := h.ex
  exact ⟨⟨s, r, h1, h2, h3, by rw [upd_ne n1]; exact h4⟩, by rw [upd_ne n2]; exact h.cells, h.len, h.ne⟩
/-- a walk that has j turns taken: the item's place lies within -/
theorem its_lt {α : Type} {xs : List α} {j : Nat} {x : α} (h : xs[j]? = some x) : j < xs.length := (List.getElem?_eq_some_iff.mp h).1
end Cs
namespace Cs
open PySem PySem.Spec PyProof.Rows L2
section
variable {K : PySem.W.Frag} {H H' : Hp} {a C l : Addr} {fs : List (Str × V)} {Q : VK}
theorem mkErr (q : ∀ a H', Same H H' → H a = none → ErrAt H' a C fs → Q (.ref a) H') : ∀ a d, H a = none → H d = none → d ≠ a → Q (.ref a) (upd (upd H d (.xd fs)) a (EXV (.ref C) (some d) a)) := fun a d ha hd ne => by
  refine q a _ (fun b o e => ?_) ha ⟨d, upd_same, ?_⟩
  · rw [upd_ne (ne_of_none e ha), upd_ne (ne_of_none e hd)]
    exact e
  · rw [upd_ne ne]
    exact upd_same
theorem q_mkE {ks : List Str} {vs : List V} (hl : vs.length = ks.length) (q : ∀ a H', Same H H' → H a = none → ErrAt H' a C (ks.zip vs) → Q (.ref a) H') : rMkE C ks vs H Q := ⟨hl, mkErr q⟩
theorem errAt_same (e : Same H H') (h : ErrAt H a C fs) : ErrAt H' a C fs := let ⟨d, h1, h2⟩ := h; ⟨d, e _ _ h1, e _ _ h2⟩
theorem errAt_lst {xs ys : List V} (hl : H l = some (.lst xs)) (h : ErrAt H a C fs) : ErrAt (upd H l (.lst ys)) a C fs := by
  obtain ⟨d, h1, h2⟩ := h
  refine ⟨d, ?_, ?_⟩
  · rw [upd_ne (fun z => by rw [z, hl] at h1; cases h1)]
    exact h1
  · rw [upd_ne (fun z => by rw [z, hl] at h2; cases h2)]
    exact h2
theorem okS_str (s : String) : okS (Str.ofString s).cps.toList = true := by
  rw [Str.ofString_eq_toList]
  unfold okS
  rw [List.all_eq_true]
  intro c hc
  obtain ⟨ch, _, rfl⟩ := List.mem_map.mp (show c ∈ s.toList.map Char.toNat by simpa using hc)
  have := ch.valid
  have e : ch.toNat = ch.val.toNat := rfl
  rw [e, decide_eq_true_eq]
  rcases this with h | ⟨h1, h2⟩
  · exact Nat.lt_trans h (by decide)
  · exact h2
theorem lay_str {n : Nat} {x : Str} (h : okS x.cps.toList = true) : Lay n (.str x) := by
  have e : x = S x.cps.toList := (S_cps x).symm
  rw [e]
  exact lay_S (by simpa using h)
theorem eqv_rep (x : Str) : ∀ n, PyData.eqvAll (List.replicate n (PyData.str x)) (List.replicate n (PyData.str x)) = true
  | 0 => rfl
  | n + 1 => by
    simp only [List.replicate_succ, PyData.eqvAll, eqv_rep x n, Bool.and_true]
    simp [PyData.eqv]
theorem dp_rep (x : Str) : ∀ n, DpAll K H (List.replicate n (.str x)) (List.replicate n (PyData.str x))
  | 0 => .nil
  | n + 1 => .cons (.str x) (dp_rep x n)
/-- two lists of one text each time -/
theorem r_eqReps {p q : Addr} {n : Nat} {x : Str} (h1 : SqL K H p (List.replicate n (.str x))) (h2 : SqL K H q (List.replicate n (.str x))) (ok : okS x.cps.toList = true) (k : Q (.bl true) H) : rEqA K (.ref p) (.ref q) H Q := by
  have ly : Lay 1 (.list (List.replicate n (PyData.str x))) := lay_list fun d hd => by
    rw [List.eq_of_mem_replicate hd]
    exact lay_str ok
  refine r_eqD (.lst h1 (dp_rep x n)) (.lst h2 (dp_rep x n)) (shaped_of ly) (shaped_of ly) ?_
  simp only [PyData.eqv, eqv_rep]
  exact k
theorem r_neReps {p q : Addr} {n : Nat} {x : Str} (h1 : SqL K H p (List.replicate n (.str x))) (h2 : SqL K H q (List.replicate n (.str x))) (ok : okS x.cps.toList = true) (k : Q (.bl false) H) : rNeA K (.ref p) (.ref q) H Q := by
  have ly : Lay 1 (.list (List.replicate n (PyData.str x))) := lay_list fun d hd => by
    rw [List.eq_of_mem_replicate hd]
    exact lay_str ok
  refine r_neD (.lst h1 (dp_rep x n)) (.lst h2 (dp_rep x n)) (shaped_of ly) (shaped_of ly) ?_
  simp only [PyData.eqv, eqv_rep]
  exact k
end
end Cs
namespace Cs
open PySem PySem.Spec PyProof.Rows L2
theorem r_neSame {K : PySem.W.Frag} {H : Hp} {Q : VK} {a : Str} (q : Q (.bl false) H) : rNeA K (.str a) (.str a) H Q := r_neX (by rw [decide_eq_true rfl]; exact q)
theorem r_eqSame {K : PySem.W.Frag} {H : Hp} {Q : VK} {a : Str} (q : Q (.bl true) H) : rEqA K (.str a) (.str a) H Q := r_eqX (by rw [decide_eq_true rfl]; exact q)
end Cs
namespace Cs
open PySem PySem.Spec PyProof.Rows L2
/-- the item of a walk over range(n) -/
theorem range_it {n j : Nat} {z : V} (h : ((List.range n).map fun i => V.int (i : Nat))[j]? = some z) : j < n ∧ z = .int (j : Nat) := by
  have hj : j < n := by have := its_lt h; simpa using this
  rw [List.getElem?_map, List.getElem?_range hj] at h
  exact ⟨hj, (Option.some.inj h).symm⟩
theorem map_range_snoc {α : Type} (f : Nat → α) (j : Nat) : (List.range (j + 1)).map f = (List.range j).map f ++ [f j] := by rw [List.range_succ, List.map_append]; rfl
theorem dec_nat {i j : Nat} : decide ((i : Int) = (j : Int)) = decide (i = j) := by
  rw [Bool.eq_iff_iff, decide_eq_true_iff, decide_eq_true_iff]
  omega
end Cs
namespace Cs
open PySem PySem.Spec PyProof.Rows L2
section
variable {K : PySem.W.Frag} {A C : Addr}
theorem kit_refT (i : PySem.W.isClsIn K C = true) (ty : PySem.W.typeIn K (.ref C) = some (.type "type")) (s : PySem.W.subIn K (.ref A) (.ref C) = some true) : PySem.W.kitOne K (.ref A) (.ref C) = some true := by
  unfold PySem.W.kitOne
  by_cases e : (Value.ref A == Value.ref C) = true
  · rw [if_pos e]
  · rw [if_neg e]
    exact kitc_own i ty s
theorem kit_refF (i : PySem.W.isClsIn K C = true) (ty : PySem.W.typeIn K (.ref C) = some (.type "type")) (own : PySem.W.mroIn K C (.ref C) = some true) (s : PySem.W.subIn K (.ref A) (.ref C) = some false) : PySem.W.kitOne K (.ref A) (.ref C) = some false := by
  unfold PySem.W.kitOne
  by_cases e : (Value.ref A == Value.ref C) = true
  · have e' : A = C := by
      have := eq_of_beq e
      cases this
      rfl
    subst e'
    have s' : PySem.W.mroIn K A (.ref A) = some false := s
    rw [own] at s'
    cases s'
  · rw [if_neg e]
    exact kitc_own i ty s
end
end Cs


set_option Elab.async false
set_option linter.all false
set_option maxRecDepth 100000
set_option maxHeartbeats 4000000
namespace Cs
open PySem PySem.Spec PyProof.Rows L2 LamX
local macro_rules | `(tactic| walk_at "base") => `(tactic| with_reducible (first
  | refine r_seq ?_ | refine r_asg ?_ | refine r_gname ?_ | refine r_ret ?_ | refine r_drop ?_ | refine r_next ?_ | refine r_retN ?_ | refine r_fld ?_ | refine r_gsub ?_ | refine r_brk ?_ | refine r_cont ?_
  | refine r_var rfl ?_ | refine r_c ?_ | refine r_op ?_ | refine r_un ?_ | refine r_test ?_ | refine r_tB ?_ | refine r_bl ?_ | refine r_blv ?_
  | refine r_cons ?_ | refine r_nil ?_ | refine r_lc ?_ | refine r_yes ?_ | refine r_iLT0 ?_ | refine r_iEnumS ?_ | refine r_iEnum ?_ | refine r_iStr ?_ | refine r_iList ?_ | refine r_iRng ?_ | refine r_iRng2 ?_ | refine r_iRng3 ?_ | refine r_iStrS ?_ | refine r_iStrE ?_ | refine r_cb ?_ | refine r_call0 ?_ | refine r_callS ?_ | refine r_callK ?_ | refine r_tup ?_ | refine r_lst ?_ | refine r_make0 ?_ | refine r_attr ?_
  | refine r_err0 ?_ | refine r_err ?_ | refine r_errK ?_ | refine r_lstB ?_ | refine r_sl ?_ | refine r_nopart ?_ | refine r_part ?_ | refine r_parti ?_ | refine r_tyS ?_ | refine r_bm0 ?_ | refine r_bm ?_ | refine r_dnew ?_
  | refine r_and ?_ | refine r_or ?_ | refine r_not ?_ | refine r_andV ?_ | refine r_orV ?_ | refine r_notV ?_ | refine r_if ?_ | refine r_ift ?_ | refine r_iff ?_ | refine r_revL ?_ | refine r_ntt ?_ | refine r_nff ?_ | refine r_itup ?_ | refine r_chain ?_
  | refine r_I0 ?_ | refine r_U ?_ | refine r_addI ?_ | refine r_eqI ?_ | refine r_neI ?_ | refine r_eqS ?_ | refine r_neS ?_ | refine r_eqB ?_ | refine r_neB ?_ | refine r_inS ?_ | refine r_niS ?_ | refine r_int1 ?_ | refine r_abs ?_ | refine r_isN ?_ | refine r_notN ?_
  | refine r_intB ?_ | refine r_max ?_ | refine r_strS ?_ | refine r_isB ?_ | refine r_notB ?_ | refine r_notBI ?_ | refine r_revS ?_ | refine r_sta ?_ | refine r_metA ?_ | refine r_mK1 ?_ | refine r_mD ?_ | refine r_iOwn ?_ | refine r_aug rfl ?_ | refine r_ipI ?_ | refine r_par ?_ | refine r_vw ?_))
local macro_rules | `(tactic| walk_at "ends") => `(tactic| with_reducible (first | refine r_nx ?_ | refine r_rt ?_ | refine r_ct ?_ | refine r_bk ?_))
local macro_rules | `(tactic| walk_at "two") => `(tactic| first | walk_at "base" | walk_at "ends")
local macro_rules | `(tactic| walk_at "one") => `(tactic| first | walk_at "base" | with_reducible (first | refine r_ifs ?_ | refine r_forE ?_) | walk_at "ends")
local macro_rules | `(tactic| walk_at "go") => `(tactic| repeat walk_at "one")
local macro_rules | `(tactic| walk_at "gp") => `(tactic| repeat walk_at "two")

section
variable {P : Program} {w : World} {K : PySem.W.Frag} {mg : Str → Option Value} {base : Heap}

def top (i : Nat) : Stmt := PySem.Challenge.pw_copyshare_k00_errors_and_checks.main.body.getD i (.Pass ⟨0, 0, 0, 0⟩)
structure Ad where
  BadLetter : Addr
  BadLine : Addr
  BadLot : Addr
  BadMachine : Addr
  BadName : Addr
  BadNumber : Addr
  BadPaper : Addr
  BadPiece : Addr
  BadPoint : Addr
  BadText : Addr
  BadTurn : Addr
  BadWord : Addr
  BallError : Addr
  NoName : Addr
  NoWay : Addr
  Nothing : Addr
  Thin : Addr
  TooMany : Addr
  Twice : Addr
  i_BadLetter : Addr
  i_BadLine : Addr
  i_BadLot : Addr
  i_BadMachine : Addr
  i_BadName : Addr
  i_BadNumber : Addr
  i_BadPaper : Addr
  i_BadPiece : Addr
  i_BadPoint : Addr
  i_BadText : Addr
  i_BadTurn : Addr
  i_BadWord : Addr
  i_NoName : Addr
  i_NoWay : Addr
  i_Nothing : Addr
  i_Thin : Addr
  i_TooMany : Addr
  i_Twice : Addr
structure Txt (P : Program) (w : World) (K : PySem.W.Frag) (mg : Str → Option Value) (base : Heap) (D : Ad) : Prop where
  b_LookupError : mg "LookupError" = none
  b_ValueError : mg "ValueError" = none
  b_abs : mg "abs" = none
  b_bool : mg "bool" = none
  b_enumerate : mg "enumerate" = none
  b_int : mg "int" = none
  b_isinstance : mg "isinstance" = none
  b_len : mg "len" = none
  b_list : mg "list" = none
  b_range : mg "range" = none
  b_repr : mg "repr" = none
  b_str : mg "str" = none
  c_BadLetter : mg "BadLetter" = some (.ref D.BadLetter)
  c_BadLine : mg "BadLine" = some (.ref D.BadLine)
  c_BadLot : mg "BadLot" = some (.ref D.BadLot)
  c_BadMachine : mg "BadMachine" = some (.ref D.BadMachine)
  c_BadName : mg "BadName" = some (.ref D.BadName)
  c_BadNumber : mg "BadNumber" = some (.ref D.BadNumber)
  c_BadPaper : mg "BadPaper" = some (.ref D.BadPaper)
  c_BadPiece : mg "BadPiece" = some (.ref D.BadPiece)
  c_BadPoint : mg "BadPoint" = some (.ref D.BadPoint)
  c_BadText : mg "BadText" = some (.ref D.BadText)
  c_BadTurn : mg "BadTurn" = some (.ref D.BadTurn)
  c_BadWord : mg "BadWord" = some (.ref D.BadWord)
  c_BallError : mg "BallError" = some (.ref D.BallError)
  c_NoName : mg "NoName" = some (.ref D.NoName)
  c_NoWay : mg "NoWay" = some (.ref D.NoWay)
  c_Nothing : mg "Nothing" = some (.ref D.Nothing)
  c_Thin : mg "Thin" = some (.ref D.Thin)
  c_TooMany : mg "TooMany" = some (.ref D.TooMany)
  c_Twice : mg "Twice" = some (.ref D.Twice)
  e0_Nothing : EMk0 P w K mg base D.Nothing D.i_Nothing
  e_BadLetter : EMk P w K mg base D.BadLetter D.i_BadLetter ["value"]
  e_BadLine : EMk P w K mg base D.BadLine D.i_BadLine ["item"]
  e_BadLot : EMk P w K mg base D.BadLot D.i_BadLot ["part"]
  e_BadMachine : EMk P w K mg base D.BadMachine D.i_BadMachine ["part"]
  e_BadName : EMk P w K mg base D.BadName D.i_BadName ["value"]
  e_BadNumber : EMk P w K mg base D.BadNumber D.i_BadNumber ["part"]
  e_BadPaper : EMk P w K mg base D.BadPaper D.i_BadPaper ["part"]
  e_BadPiece : EMk P w K mg base D.BadPiece D.i_BadPiece ["part"]
  e_BadPoint : EMk P w K mg base D.BadPoint D.i_BadPoint ["part"]
  e_BadText : EMk P w K mg base D.BadText D.i_BadText ["item"]
  e_BadTurn : EMk P w K mg base D.BadTurn D.i_BadTurn ["part"]
  e_BadWord : EMk P w K mg base D.BadWord D.i_BadWord ["at"]
  e_NoName : EMk P w K mg base D.NoName D.i_NoName ["name"]
  e_NoWay : EMk P w K mg base D.NoWay D.i_NoWay ["paper"]
  e_Thin : EMk P w K mg base D.Thin D.i_Thin ["word"]
  e_TooMany : EMk P w K mg base D.TooMany D.i_TooMany ["what", "most"]
  e_Twice : EMk P w K mg base D.Twice D.i_Twice ["name"]
  ek_BadLetter_value : EMkK P w K mg base D.BadLetter D.i_BadLetter ["value"]
  ek_BadLine_item : EMkK P w K mg base D.BadLine D.i_BadLine ["item"]
  ek_BadLot_part : EMkK P w K mg base D.BadLot D.i_BadLot ["part"]
  ek_BadMachine_part : EMkK P w K mg base D.BadMachine D.i_BadMachine ["part"]
  ek_BadName_value : EMkK P w K mg base D.BadName D.i_BadName ["value"]
  ek_BadNumber_part : EMkK P w K mg base D.BadNumber D.i_BadNumber ["part"]
  ek_BadPaper_part : EMkK P w K mg base D.BadPaper D.i_BadPaper ["part"]
  ek_BadPiece_part : EMkK P w K mg base D.BadPiece D.i_BadPiece ["part"]
  ek_BadPoint_part : EMkK P w K mg base D.BadPoint D.i_BadPoint ["part"]
  ek_BadText_item : EMkK P w K mg base D.BadText D.i_BadText ["item"]
  ek_BadTurn_part : EMkK P w K mg base D.BadTurn D.i_BadTurn ["part"]
  ek_BadWord_at : EMkK P w K mg base D.BadWord D.i_BadWord ["at"]
  ek_NoName_name : EMkK P w K mg base D.NoName D.i_NoName ["name"]
  ek_NoWay_paper : EMkK P w K mg base D.NoWay D.i_NoWay ["paper"]
  ek_Thin_word : EMkK P w K mg base D.Thin D.i_Thin ["word"]
  ek_TooMany_most_what : EMkK P w K mg base D.TooMany D.i_TooMany ["most", "what"]
  ek_Twice_name : EMkK P w K mg base D.Twice D.i_Twice ["name"]
  ex_BadLetter_BallError : PySem.W.exmOne K (.ref D.BadLetter) (.ref D.BallError) = some true
  g_LETTERS : ∃ t, mg "LETTERS" = some (.str (S [65, 66, 67, 68, 97, 98, 99, 100]) t)
  k_BadLetter_BadLetter : PySem.W.kitOne K (.ref D.BadLetter) (.ref D.BadLetter) = some true
  k_BadLetter_BadLine : PySem.W.kitOne K (.ref D.BadLetter) (.ref D.BadLine) = some false
  k_BadLetter_BadLot : PySem.W.kitOne K (.ref D.BadLetter) (.ref D.BadLot) = some false
  k_BadLetter_BadMachine : PySem.W.kitOne K (.ref D.BadLetter) (.ref D.BadMachine) = some false
  k_BadLetter_BadName : PySem.W.kitOne K (.ref D.BadLetter) (.ref D.BadName) = some false
  k_BadLetter_BadNumber : PySem.W.kitOne K (.ref D.BadLetter) (.ref D.BadNumber) = some false
  k_BadLetter_BadPaper : PySem.W.kitOne K (.ref D.BadLetter) (.ref D.BadPaper) = some false
  k_BadLetter_BadPiece : PySem.W.kitOne K (.ref D.BadLetter) (.ref D.BadPiece) = some false
  k_BadLetter_BadPoint : PySem.W.kitOne K (.ref D.BadLetter) (.ref D.BadPoint) = some false
  k_BadLetter_BadText : PySem.W.kitOne K (.ref D.BadLetter) (.ref D.BadText) = some false
  k_BadLetter_BadTurn : PySem.W.kitOne K (.ref D.BadLetter) (.ref D.BadTurn) = some false
  k_BadLetter_BadWord : PySem.W.kitOne K (.ref D.BadLetter) (.ref D.BadWord) = some false
  k_BadLetter_BallError : PySem.W.kitOne K (.ref D.BadLetter) (.ref D.BallError) = some true
  k_BadLetter_LookupError : PySem.W.kitOne K (.ref D.BadLetter) (.type "LookupError") = some false
  k_BadLetter_NoName : PySem.W.kitOne K (.ref D.BadLetter) (.ref D.NoName) = some false
  k_BadLetter_NoWay : PySem.W.kitOne K (.ref D.BadLetter) (.ref D.NoWay) = some false
  k_BadLetter_Nothing : PySem.W.kitOne K (.ref D.BadLetter) (.ref D.Nothing) = some false
  k_BadLetter_Thin : PySem.W.kitOne K (.ref D.BadLetter) (.ref D.Thin) = some false
  k_BadLetter_TooMany : PySem.W.kitOne K (.ref D.BadLetter) (.ref D.TooMany) = some false
  k_BadLetter_Twice : PySem.W.kitOne K (.ref D.BadLetter) (.ref D.Twice) = some false
  k_BadLetter_ValueError : PySem.W.kitOne K (.ref D.BadLetter) (.type "ValueError") = some true
  k_BadLine_BadLetter : PySem.W.kitOne K (.ref D.BadLine) (.ref D.BadLetter) = some false
  k_BadLine_BadLine : PySem.W.kitOne K (.ref D.BadLine) (.ref D.BadLine) = some true
  k_BadLine_BadLot : PySem.W.kitOne K (.ref D.BadLine) (.ref D.BadLot) = some false
  k_BadLine_BadMachine : PySem.W.kitOne K (.ref D.BadLine) (.ref D.BadMachine) = some false
  k_BadLine_BadName : PySem.W.kitOne K (.ref D.BadLine) (.ref D.BadName) = some false
  k_BadLine_BadNumber : PySem.W.kitOne K (.ref D.BadLine) (.ref D.BadNumber) = some false
  k_BadLine_BadPaper : PySem.W.kitOne K (.ref D.BadLine) (.ref D.BadPaper) = some false
  k_BadLine_BadPiece : PySem.W.kitOne K (.ref D.BadLine) (.ref D.BadPiece) = some false
  k_BadLine_BadPoint : PySem.W.kitOne K (.ref D.BadLine) (.ref D.BadPoint) = some false
  k_BadLine_BadText : PySem.W.kitOne K (.ref D.BadLine) (.ref D.BadText) = some false
  k_BadLine_BadTurn : PySem.W.kitOne K (.ref D.BadLine) (.ref D.BadTurn) = some false
  k_BadLine_BadWord : PySem.W.kitOne K (.ref D.BadLine) (.ref D.BadWord) = some false
  k_BadLine_BallError : PySem.W.kitOne K (.ref D.BadLine) (.ref D.BallError) = some true
  k_BadLine_LookupError : PySem.W.kitOne K (.ref D.BadLine) (.type "LookupError") = some false
  k_BadLine_NoName : PySem.W.kitOne K (.ref D.BadLine) (.ref D.NoName) = some false
  k_BadLine_NoWay : PySem.W.kitOne K (.ref D.BadLine) (.ref D.NoWay) = some false
  k_BadLine_Nothing : PySem.W.kitOne K (.ref D.BadLine) (.ref D.Nothing) = some false
  k_BadLine_Thin : PySem.W.kitOne K (.ref D.BadLine) (.ref D.Thin) = some false
  k_BadLine_TooMany : PySem.W.kitOne K (.ref D.BadLine) (.ref D.TooMany) = some false
  k_BadLine_Twice : PySem.W.kitOne K (.ref D.BadLine) (.ref D.Twice) = some false
  k_BadLine_ValueError : PySem.W.kitOne K (.ref D.BadLine) (.type "ValueError") = some true
  k_BadLot_BadLetter : PySem.W.kitOne K (.ref D.BadLot) (.ref D.BadLetter) = some false
  k_BadLot_BadLine : PySem.W.kitOne K (.ref D.BadLot) (.ref D.BadLine) = some false
  k_BadLot_BadLot : PySem.W.kitOne K (.ref D.BadLot) (.ref D.BadLot) = some true
  k_BadLot_BadMachine : PySem.W.kitOne K (.ref D.BadLot) (.ref D.BadMachine) = some false
  k_BadLot_BadName : PySem.W.kitOne K (.ref D.BadLot) (.ref D.BadName) = some false
  k_BadLot_BadNumber : PySem.W.kitOne K (.ref D.BadLot) (.ref D.BadNumber) = some false
  k_BadLot_BadPaper : PySem.W.kitOne K (.ref D.BadLot) (.ref D.BadPaper) = some false
  k_BadLot_BadPiece : PySem.W.kitOne K (.ref D.BadLot) (.ref D.BadPiece) = some false
  k_BadLot_BadPoint : PySem.W.kitOne K (.ref D.BadLot) (.ref D.BadPoint) = some false
  k_BadLot_BadText : PySem.W.kitOne K (.ref D.BadLot) (.ref D.BadText) = some false
  k_BadLot_BadTurn : PySem.W.kitOne K (.ref D.BadLot) (.ref D.BadTurn) = some false
  k_BadLot_BadWord : PySem.W.kitOne K (.ref D.BadLot) (.ref D.BadWord) = some false
  k_BadLot_BallError : PySem.W.kitOne K (.ref D.BadLot) (.ref D.BallError) = some true
  k_BadLot_LookupError : PySem.W.kitOne K (.ref D.BadLot) (.type "LookupError") = some false
  k_BadLot_NoName : PySem.W.kitOne K (.ref D.BadLot) (.ref D.NoName) = some false
  k_BadLot_NoWay : PySem.W.kitOne K (.ref D.BadLot) (.ref D.NoWay) = some false
  k_BadLot_Nothing : PySem.W.kitOne K (.ref D.BadLot) (.ref D.Nothing) = some false
  k_BadLot_Thin : PySem.W.kitOne K (.ref D.BadLot) (.ref D.Thin) = some false
  k_BadLot_TooMany : PySem.W.kitOne K (.ref D.BadLot) (.ref D.TooMany) = some false
  k_BadLot_Twice : PySem.W.kitOne K (.ref D.BadLot) (.ref D.Twice) = some false
  k_BadLot_ValueError : PySem.W.kitOne K (.ref D.BadLot) (.type "ValueError") = some true
  k_BadMachine_BadLetter : PySem.W.kitOne K (.ref D.BadMachine) (.ref D.BadLetter) = some false
  k_BadMachine_BadLine : PySem.W.kitOne K (.ref D.BadMachine) (.ref D.BadLine) = some false
  k_BadMachine_BadLot : PySem.W.kitOne K (.ref D.BadMachine) (.ref D.BadLot) = some false
  k_BadMachine_BadMachine : PySem.W.kitOne K (.ref D.BadMachine) (.ref D.BadMachine) = some true
  k_BadMachine_BadName : PySem.W.kitOne K (.ref D.BadMachine) (.ref D.BadName) = some false
  k_BadMachine_BadNumber : PySem.W.kitOne K (.ref D.BadMachine) (.ref D.BadNumber) = some false
  k_BadMachine_BadPaper : PySem.W.kitOne K (.ref D.BadMachine) (.ref D.BadPaper) = some false
  k_BadMachine_BadPiece : PySem.W.kitOne K (.ref D.BadMachine) (.ref D.BadPiece) = some false
  k_BadMachine_BadPoint : PySem.W.kitOne K (.ref D.BadMachine) (.ref D.BadPoint) = some false
  k_BadMachine_BadText : PySem.W.kitOne K (.ref D.BadMachine) (.ref D.BadText) = some false
  k_BadMachine_BadTurn : PySem.W.kitOne K (.ref D.BadMachine) (.ref D.BadTurn) = some false
  k_BadMachine_BadWord : PySem.W.kitOne K (.ref D.BadMachine) (.ref D.BadWord) = some false
  k_BadMachine_BallError : PySem.W.kitOne K (.ref D.BadMachine) (.ref D.BallError) = some true
  k_BadMachine_LookupError : PySem.W.kitOne K (.ref D.BadMachine) (.type "LookupError") = some false
  k_BadMachine_NoName : PySem.W.kitOne K (.ref D.BadMachine) (.ref D.NoName) = some false
  k_BadMachine_NoWay : PySem.W.kitOne K (.ref D.BadMachine) (.ref D.NoWay) = some false
  k_BadMachine_Nothing : PySem.W.kitOne K (.ref D.BadMachine) (.ref D.Nothing) = some false
  k_BadMachine_Thin : PySem.W.kitOne K (.ref D.BadMachine) (.ref D.Thin) = some false
  k_BadMachine_TooMany : PySem.W.kitOne K (.ref D.BadMachine) (.ref D.TooMany) = some false
  k_BadMachine_Twice : PySem.W.kitOne K (.ref D.BadMachine) (.ref D.Twice) = some false
  k_BadMachine_ValueError : PySem.W.kitOne K (.ref D.BadMachine) (.type "ValueError") = some true
  k_BadName_BadLetter : PySem.W.kitOne K (.ref D.BadName) (.ref D.BadLetter) = some false
  k_BadName_BadLine : PySem.W.kitOne K (.ref D.BadName) (.ref D.BadLine) = some false
  k_BadName_BadLot : PySem.W.kitOne K (.ref D.BadName) (.ref D.BadLot) = some false
  k_BadName_BadMachine : PySem.W.kitOne K (.ref D.BadName) (.ref D.BadMachine) = some false
  k_BadName_BadName : PySem.W.kitOne K (.ref D.BadName) (.ref D.BadName) = some true
  k_BadName_BadNumber : PySem.W.kitOne K (.ref D.BadName) (.ref D.BadNumber) = some false
  k_BadName_BadPaper : PySem.W.kitOne K (.ref D.BadName) (.ref D.BadPaper) = some false
  k_BadName_BadPiece : PySem.W.kitOne K (.ref D.BadName) (.ref D.BadPiece) = some false
  k_BadName_BadPoint : PySem.W.kitOne K (.ref D.BadName) (.ref D.BadPoint) = some false
  k_BadName_BadText : PySem.W.kitOne K (.ref D.BadName) (.ref D.BadText) = some false
  k_BadName_BadTurn : PySem.W.kitOne K (.ref D.BadName) (.ref D.BadTurn) = some false
  k_BadName_BadWord : PySem.W.kitOne K (.ref D.BadName) (.ref D.BadWord) = some false
  k_BadName_BallError : PySem.W.kitOne K (.ref D.BadName) (.ref D.BallError) = some true
  k_BadName_LookupError : PySem.W.kitOne K (.ref D.BadName) (.type "LookupError") = some false
  k_BadName_NoName : PySem.W.kitOne K (.ref D.BadName) (.ref D.NoName) = some false
  k_BadName_NoWay : PySem.W.kitOne K (.ref D.BadName) (.ref D.NoWay) = some false
  k_BadName_Nothing : PySem.W.kitOne K (.ref D.BadName) (.ref D.Nothing) = some false
  k_BadName_Thin : PySem.W.kitOne K (.ref D.BadName) (.ref D.Thin) = some false
  k_BadName_TooMany : PySem.W.kitOne K (.ref D.BadName) (.ref D.TooMany) = some false
  k_BadName_Twice : PySem.W.kitOne K (.ref D.BadName) (.ref D.Twice) = some false
  k_BadName_ValueError : PySem.W.kitOne K (.ref D.BadName) (.type "ValueError") = some true
  k_BadNumber_BadLetter : PySem.W.kitOne K (.ref D.BadNumber) (.ref D.BadLetter) = some false
  k_BadNumber_BadLine : PySem.W.kitOne K (.ref D.BadNumber) (.ref D.BadLine) = some false
  k_BadNumber_BadLot : PySem.W.kitOne K (.ref D.BadNumber) (.ref D.BadLot) = some false
  k_BadNumber_BadMachine : PySem.W.kitOne K (.ref D.BadNumber) (.ref D.BadMachine) = some false
  k_BadNumber_BadName : PySem.W.kitOne K (.ref D.BadNumber) (.ref D.BadName) = some false
  k_BadNumber_BadNumber : PySem.W.kitOne K (.ref D.BadNumber) (.ref D.BadNumber) = some true
  k_BadNumber_BadPaper : PySem.W.kitOne K (.ref D.BadNumber) (.ref D.BadPaper) = some false
  k_BadNumber_BadPiece : PySem.W.kitOne K (.ref D.BadNumber) (.ref D.BadPiece) = some false
  k_BadNumber_BadPoint : PySem.W.kitOne K (.ref D.BadNumber) (.ref D.BadPoint) = some false
  k_BadNumber_BadText : PySem.W.kitOne K (.ref D.BadNumber) (.ref D.BadText) = some false
  k_BadNumber_BadTurn : PySem.W.kitOne K (.ref D.BadNumber) (.ref D.BadTurn) = some false
  k_BadNumber_BadWord : PySem.W.kitOne K (.ref D.BadNumber) (.ref D.BadWord) = some false
  k_BadNumber_BallError : PySem.W.kitOne K (.ref D.BadNumber) (.ref D.BallError) = some true
  k_BadNumber_LookupError : PySem.W.kitOne K (.ref D.BadNumber) (.type "LookupError") = some false
  k_BadNumber_NoName : PySem.W.kitOne K (.ref D.BadNumber) (.ref D.NoName) = some false
  k_BadNumber_NoWay : PySem.W.kitOne K (.ref D.BadNumber) (.ref D.NoWay) = some false
  k_BadNumber_Nothing : PySem.W.kitOne K (.ref D.BadNumber) (.ref D.Nothing) = some false
  k_BadNumber_Thin : PySem.W.kitOne K (.ref D.BadNumber) (.ref D.Thin) = some false
  k_BadNumber_TooMany : PySem.W.kitOne K (.ref D.BadNumber) (.ref D.TooMany) = some false
  k_BadNumber_Twice : PySem.W.kitOne K (.ref D.BadNumber) (.ref D.Twice) = some false
  k_BadNumber_ValueError : PySem.W.kitOne K (.ref D.BadNumber) (.type "ValueError") = some true
  k_BadPaper_BadLetter : PySem.W.kitOne K (.ref D.BadPaper) (.ref D.BadLetter) = some false
  k_BadPaper_BadLine : PySem.W.kitOne K (.ref D.BadPaper) (.ref D.BadLine) = some false
  k_BadPaper_BadLot : PySem.W.kitOne K (.ref D.BadPaper) (.ref D.BadLot) = some false
  k_BadPaper_BadMachine : PySem.W.kitOne K (.ref D.BadPaper) (.ref D.BadMachine) = some false
  k_BadPaper_BadName : PySem.W.kitOne K (.ref D.BadPaper) (.ref D.BadName) = some false
  k_BadPaper_BadNumber : PySem.W.kitOne K (.ref D.BadPaper) (.ref D.BadNumber) = some false
  k_BadPaper_BadPaper : PySem.W.kitOne K (.ref D.BadPaper) (.ref D.BadPaper) = some true
  k_BadPaper_BadPiece : PySem.W.kitOne K (.ref D.BadPaper) (.ref D.BadPiece) = some false
  k_BadPaper_BadPoint : PySem.W.kitOne K (.ref D.BadPaper) (.ref D.BadPoint) = some false
  k_BadPaper_BadText : PySem.W.kitOne K (.ref D.BadPaper) (.ref D.BadText) = some false
  k_BadPaper_BadTurn : PySem.W.kitOne K (.ref D.BadPaper) (.ref D.BadTurn) = some false
  k_BadPaper_BadWord : PySem.W.kitOne K (.ref D.BadPaper) (.ref D.BadWord) = some false
  k_BadPaper_BallError : PySem.W.kitOne K (.ref D.BadPaper) (.ref D.BallError) = some true
  k_BadPaper_LookupError : PySem.W.kitOne K (.ref D.BadPaper) (.type "LookupError") = some false
  k_BadPaper_NoName : PySem.W.kitOne K (.ref D.BadPaper) (.ref D.NoName) = some false
  k_BadPaper_NoWay : PySem.W.kitOne K (.ref D.BadPaper) (.ref D.NoWay) = some false
  k_BadPaper_Nothing : PySem.W.kitOne K (.ref D.BadPaper) (.ref D.Nothing) = some false
  k_BadPaper_Thin : PySem.W.kitOne K (.ref D.BadPaper) (.ref D.Thin) = some false
  k_BadPaper_TooMany : PySem.W.kitOne K (.ref D.BadPaper) (.ref D.TooMany) = some false
  k_BadPaper_Twice : PySem.W.kitOne K (.ref D.BadPaper) (.ref D.Twice) = some false
  k_BadPaper_ValueError : PySem.W.kitOne K (.ref D.BadPaper) (.type "ValueError") = some true
  k_BadPiece_BadLetter : PySem.W.kitOne K (.ref D.BadPiece) (.ref D.BadLetter) = some false
  k_BadPiece_BadLine : PySem.W.kitOne K (.ref D.BadPiece) (.ref D.BadLine) = some false
  k_BadPiece_BadLot : PySem.W.kitOne K (.ref D.BadPiece) (.ref D.BadLot) = some false
  k_BadPiece_BadMachine : PySem.W.kitOne K (.ref D.BadPiece) (.ref D.BadMachine) = some false
  k_BadPiece_BadName : PySem.W.kitOne K (.ref D.BadPiece) (.ref D.BadName) = some false
  k_BadPiece_BadNumber : PySem.W.kitOne K (.ref D.BadPiece) (.ref D.BadNumber) = some false
  k_BadPiece_BadPaper : PySem.W.kitOne K (.ref D.BadPiece) (.ref D.BadPaper) = some false
  k_BadPiece_BadPiece : PySem.W.kitOne K (.ref D.BadPiece) (.ref D.BadPiece) = some true
  k_BadPiece_BadPoint : PySem.W.kitOne K (.ref D.BadPiece) (.ref D.BadPoint) = some false
  k_BadPiece_BadText : PySem.W.kitOne K (.ref D.BadPiece) (.ref D.BadText) = some false
  k_BadPiece_BadTurn : PySem.W.kitOne K (.ref D.BadPiece) (.ref D.BadTurn) = some false
  k_BadPiece_BadWord : PySem.W.kitOne K (.ref D.BadPiece) (.ref D.BadWord) = some false
  k_BadPiece_BallError : PySem.W.kitOne K (.ref D.BadPiece) (.ref D.BallError) = some true
  k_BadPiece_LookupError : PySem.W.kitOne K (.ref D.BadPiece) (.type "LookupError") = some false
  k_BadPiece_NoName : PySem.W.kitOne K (.ref D.BadPiece) (.ref D.NoName) = some false
  k_BadPiece_NoWay : PySem.W.kitOne K (.ref D.BadPiece) (.ref D.NoWay) = some false
  k_BadPiece_Nothing : PySem.W.kitOne K (.ref D.BadPiece) (.ref D.Nothing) = some false
  k_BadPiece_Thin : PySem.W.kitOne K (.ref D.BadPiece) (.ref D.Thin) = some false
  k_BadPiece_TooMany : PySem.W.kitOne K (.ref D.BadPiece) (.ref D.TooMany) = some false
  k_BadPiece_Twice : PySem.W.kitOne K (.ref D.BadPiece) (.ref D.Twice) = some false
  k_BadPiece_ValueError : PySem.W.kitOne K (.ref D.BadPiece) (.type "ValueError") = some true
  k_BadPoint_BadLetter : PySem.W.kitOne K (.ref D.BadPoint) (.ref D.BadLetter) = some false
  k_BadPoint_BadLine : PySem.W.kitOne K (.ref D.BadPoint) (.ref D.BadLine) = some false
  k_BadPoint_BadLot : PySem.W.kitOne K (.ref D.BadPoint) (.ref D.BadLot) = some false
  k_BadPoint_BadMachine : PySem.W.kitOne K (.ref D.BadPoint) (.ref D.BadMachine) = some false
  k_BadPoint_BadName : PySem.W.kitOne K (.ref D.BadPoint) (.ref D.BadName) = some false
  k_BadPoint_BadNumber : PySem.W.kitOne K (.ref D.BadPoint) (.ref D.BadNumber) = some false
  k_BadPoint_BadPaper : PySem.W.kitOne K (.ref D.BadPoint) (.ref D.BadPaper) = some false
  k_BadPoint_BadPiece : PySem.W.kitOne K (.ref D.BadPoint) (.ref D.BadPiece) = some false
  k_BadPoint_BadPoint : PySem.W.kitOne K (.ref D.BadPoint) (.ref D.BadPoint) = some true
  k_BadPoint_BadText : PySem.W.kitOne K (.ref D.BadPoint) (.ref D.BadText) = some false
  k_BadPoint_BadTurn : PySem.W.kitOne K (.ref D.BadPoint) (.ref D.BadTurn) = some false
  k_BadPoint_BadWord : PySem.W.kitOne K (.ref D.BadPoint) (.ref D.BadWord) = some false
  k_BadPoint_BallError : PySem.W.kitOne K (.ref D.BadPoint) (.ref D.BallError) = some true
  k_BadPoint_LookupError : PySem.W.kitOne K (.ref D.BadPoint) (.type "LookupError") = some false
  k_BadPoint_NoName : PySem.W.kitOne K (.ref D.BadPoint) (.ref D.NoName) = some false
  k_BadPoint_NoWay : PySem.W.kitOne K (.ref D.BadPoint) (.ref D.NoWay) = some false
  k_BadPoint_Nothing : PySem.W.kitOne K (.ref D.BadPoint) (.ref D.Nothing) = some false
  k_BadPoint_Thin : PySem.W.kitOne K (.ref D.BadPoint) (.ref D.Thin) = some false
  k_BadPoint_TooMany : PySem.W.kitOne K (.ref D.BadPoint) (.ref D.TooMany) = some false
  k_BadPoint_Twice : PySem.W.kitOne K (.ref D.BadPoint) (.ref D.Twice) = some false
  k_BadPoint_ValueError : PySem.W.kitOne K (.ref D.BadPoint) (.type "ValueError") = some true
  k_BadText_BadLetter : PySem.W.kitOne K (.ref D.BadText) (.ref D.BadLetter) = some false
  k_BadText_BadLine : PySem.W.kitOne K (.ref D.BadText) (.ref D.BadLine) = some false
  k_BadText_BadLot : PySem.W.kitOne K (.ref D.BadText) (.ref D.BadLot) = some false
  k_BadText_BadMachine : PySem.W.kitOne K (.ref D.BadText) (.ref D.BadMachine) = some false
  k_BadText_BadName : PySem.W.kitOne K (.ref D.BadText) (.ref D.BadName) = some false
  k_BadText_BadNumber : PySem.W.kitOne K (.ref D.BadText) (.ref D.BadNumber) = some false
  k_BadText_BadPaper : PySem.W.kitOne K (.ref D.BadText) (.ref D.BadPaper) = some false
  k_BadText_BadPiece : PySem.W.kitOne K (.ref D.BadText) (.ref D.BadPiece) = some false
  k_BadText_BadPoint : PySem.W.kitOne K (.ref D.BadText) (.ref D.BadPoint) = some false
  k_BadText_BadText : PySem.W.kitOne K (.ref D.BadText) (.ref D.BadText) = some true
  k_BadText_BadTurn : PySem.W.kitOne K (.ref D.BadText) (.ref D.BadTurn) = some false
  k_BadText_BadWord : PySem.W.kitOne K (.ref D.BadText) (.ref D.BadWord) = some false
  k_BadText_BallError : PySem.W.kitOne K (.ref D.BadText) (.ref D.BallError) = some true
  k_BadText_LookupError : PySem.W.kitOne K (.ref D.BadText) (.type "LookupError") = some false
  k_BadText_NoName : PySem.W.kitOne K (.ref D.BadText) (.ref D.NoName) = some false
  k_BadText_NoWay : PySem.W.kitOne K (.ref D.BadText) (.ref D.NoWay) = some false
  k_BadText_Nothing : PySem.W.kitOne K (.ref D.BadText) (.ref D.Nothing) = some false
  k_BadText_Thin : PySem.W.kitOne K (.ref D.BadText) (.ref D.Thin) = some false
  k_BadText_TooMany : PySem.W.kitOne K (.ref D.BadText) (.ref D.TooMany) = some false
  k_BadText_Twice : PySem.W.kitOne K (.ref D.BadText) (.ref D.Twice) = some false
  k_BadText_ValueError : PySem.W.kitOne K (.ref D.BadText) (.type "ValueError") = some true
  k_BadTurn_BadLetter : PySem.W.kitOne K (.ref D.BadTurn) (.ref D.BadLetter) = some false
  k_BadTurn_BadLine : PySem.W.kitOne K (.ref D.BadTurn) (.ref D.BadLine) = some false
  k_BadTurn_BadLot : PySem.W.kitOne K (.ref D.BadTurn) (.ref D.BadLot) = some false
  k_BadTurn_BadMachine : PySem.W.kitOne K (.ref D.BadTurn) (.ref D.BadMachine) = some false
  k_BadTurn_BadName : PySem.W.kitOne K (.ref D.BadTurn) (.ref D.BadName) = some false
  k_BadTurn_BadNumber : PySem.W.kitOne K (.ref D.BadTurn) (.ref D.BadNumber) = some false
  k_BadTurn_BadPaper : PySem.W.kitOne K (.ref D.BadTurn) (.ref D.BadPaper) = some false
  k_BadTurn_BadPiece : PySem.W.kitOne K (.ref D.BadTurn) (.ref D.BadPiece) = some false
  k_BadTurn_BadPoint : PySem.W.kitOne K (.ref D.BadTurn) (.ref D.BadPoint) = some false
  k_BadTurn_BadText : PySem.W.kitOne K (.ref D.BadTurn) (.ref D.BadText) = some false
  k_BadTurn_BadTurn : PySem.W.kitOne K (.ref D.BadTurn) (.ref D.BadTurn) = some true
  k_BadTurn_BadWord : PySem.W.kitOne K (.ref D.BadTurn) (.ref D.BadWord) = some false
  k_BadTurn_BallError : PySem.W.kitOne K (.ref D.BadTurn) (.ref D.BallError) = some true
  k_BadTurn_LookupError : PySem.W.kitOne K (.ref D.BadTurn) (.type "LookupError") = some false
  k_BadTurn_NoName : PySem.W.kitOne K (.ref D.BadTurn) (.ref D.NoName) = some false
  k_BadTurn_NoWay : PySem.W.kitOne K (.ref D.BadTurn) (.ref D.NoWay) = some false
  k_BadTurn_Nothing : PySem.W.kitOne K (.ref D.BadTurn) (.ref D.Nothing) = some false
  k_BadTurn_Thin : PySem.W.kitOne K (.ref D.BadTurn) (.ref D.Thin) = some false
  k_BadTurn_TooMany : PySem.W.kitOne K (.ref D.BadTurn) (.ref D.TooMany) = some false
  k_BadTurn_Twice : PySem.W.kitOne K (.ref D.BadTurn) (.ref D.Twice) = some false
  k_BadTurn_ValueError : PySem.W.kitOne K (.ref D.BadTurn) (.type "ValueError") = some true
  k_BadWord_BadLetter : PySem.W.kitOne K (.ref D.BadWord) (.ref D.BadLetter) = some false
  k_BadWord_BadLine : PySem.W.kitOne K (.ref D.BadWord) (.ref D.BadLine) = some false
  k_BadWord_BadLot : PySem.W.kitOne K (.ref D.BadWord) (.ref D.BadLot) = some false
  k_BadWord_BadMachine : PySem.W.kitOne K (.ref D.BadWord) (.ref D.BadMachine) = some false
  k_BadWord_BadName : PySem.W.kitOne K (.ref D.BadWord) (.ref D.BadName) = some false
  k_BadWord_BadNumber : PySem.W.kitOne K (.ref D.BadWord) (.ref D.BadNumber) = some false
  k_BadWord_BadPaper : PySem.W.kitOne K (.ref D.BadWord) (.ref D.BadPaper) = some false
  k_BadWord_BadPiece : PySem.W.kitOne K (.ref D.BadWord) (.ref D.BadPiece) = some false
  k_BadWord_BadPoint : PySem.W.kitOne K (.ref D.BadWord) (.ref D.BadPoint) = some false
  k_BadWord_BadText : PySem.W.kitOne K (.ref D.BadWord) (.ref D.BadText) = some false
  k_BadWord_BadTurn : PySem.W.kitOne K (.ref D.BadWord) (.ref D.BadTurn) = some false
  k_BadWord_BadWord : PySem.W.kitOne K (.ref D.BadWord) (.ref D.BadWord) = some true
  k_BadWord_BallError : PySem.W.kitOne K (.ref D.BadWord) (.ref D.BallError) = some true
  k_BadWord_LookupError : PySem.W.kitOne K (.ref D.BadWord) (.type "LookupError") = some false
  k_BadWord_NoName : PySem.W.kitOne K (.ref D.BadWord) (.ref D.NoName) = some false
  k_BadWord_NoWay : PySem.W.kitOne K (.ref D.BadWord) (.ref D.NoWay) = some false
  k_BadWord_Nothing : PySem.W.kitOne K (.ref D.BadWord) (.ref D.Nothing) = some false
  k_BadWord_Thin : PySem.W.kitOne K (.ref D.BadWord) (.ref D.Thin) = some false
  k_BadWord_TooMany : PySem.W.kitOne K (.ref D.BadWord) (.ref D.TooMany) = some false
  k_BadWord_Twice : PySem.W.kitOne K (.ref D.BadWord) (.ref D.Twice) = some false
  k_BadWord_ValueError : PySem.W.kitOne K (.ref D.BadWord) (.type "ValueError") = some true
  k_NoName_BadLetter : PySem.W.kitOne K (.ref D.NoName) (.ref D.BadLetter) = some false
  k_NoName_BadLine : PySem.W.kitOne K (.ref D.NoName) (.ref D.BadLine) = some false
  k_NoName_BadLot : PySem.W.kitOne K (.ref D.NoName) (.ref D.BadLot) = some false
  k_NoName_BadMachine : PySem.W.kitOne K (.ref D.NoName) (.ref D.BadMachine) = some false
  k_NoName_BadName : PySem.W.kitOne K (.ref D.NoName) (.ref D.BadName) = some false
  k_NoName_BadNumber : PySem.W.kitOne K (.ref D.NoName) (.ref D.BadNumber) = some false
  k_NoName_BadPaper : PySem.W.kitOne K (.ref D.NoName) (.ref D.BadPaper) = some false
  k_NoName_BadPiece : PySem.W.kitOne K (.ref D.NoName) (.ref D.BadPiece) = some false
  k_NoName_BadPoint : PySem.W.kitOne K (.ref D.NoName) (.ref D.BadPoint) = some false
  k_NoName_BadText : PySem.W.kitOne K (.ref D.NoName) (.ref D.BadText) = some false
  k_NoName_BadTurn : PySem.W.kitOne K (.ref D.NoName) (.ref D.BadTurn) = some false
  k_NoName_BadWord : PySem.W.kitOne K (.ref D.NoName) (.ref D.BadWord) = some false
  k_NoName_BallError : PySem.W.kitOne K (.ref D.NoName) (.ref D.BallError) = some true
  k_NoName_LookupError : PySem.W.kitOne K (.ref D.NoName) (.type "LookupError") = some false
  k_NoName_NoName : PySem.W.kitOne K (.ref D.NoName) (.ref D.NoName) = some true
  k_NoName_NoWay : PySem.W.kitOne K (.ref D.NoName) (.ref D.NoWay) = some false
  k_NoName_Nothing : PySem.W.kitOne K (.ref D.NoName) (.ref D.Nothing) = some false
  k_NoName_Thin : PySem.W.kitOne K (.ref D.NoName) (.ref D.Thin) = some false
  k_NoName_TooMany : PySem.W.kitOne K (.ref D.NoName) (.ref D.TooMany) = some false
  k_NoName_Twice : PySem.W.kitOne K (.ref D.NoName) (.ref D.Twice) = some false
  k_NoName_ValueError : PySem.W.kitOne K (.ref D.NoName) (.type "ValueError") = some true
  k_NoWay_BadLetter : PySem.W.kitOne K (.ref D.NoWay) (.ref D.BadLetter) = some false
  k_NoWay_BadLine : PySem.W.kitOne K (.ref D.NoWay) (.ref D.BadLine) = some false
  k_NoWay_BadLot : PySem.W.kitOne K (.ref D.NoWay) (.ref D.BadLot) = some false
  k_NoWay_BadMachine : PySem.W.kitOne K (.ref D.NoWay) (.ref D.BadMachine) = some false
  k_NoWay_BadName : PySem.W.kitOne K (.ref D.NoWay) (.ref D.BadName) = some false
  k_NoWay_BadNumber : PySem.W.kitOne K (.ref D.NoWay) (.ref D.BadNumber) = some false
  k_NoWay_BadPaper : PySem.W.kitOne K (.ref D.NoWay) (.ref D.BadPaper) = some false
  k_NoWay_BadPiece : PySem.W.kitOne K (.ref D.NoWay) (.ref D.BadPiece) = some false
  k_NoWay_BadPoint : PySem.W.kitOne K (.ref D.NoWay) (.ref D.BadPoint) = some false
  k_NoWay_BadText : PySem.W.kitOne K (.ref D.NoWay) (.ref D.BadText) = some false
  k_NoWay_BadTurn : PySem.W.kitOne K (.ref D.NoWay) (.ref D.BadTurn) = some false
  k_NoWay_BadWord : PySem.W.kitOne K (.ref D.NoWay) (.ref D.BadWord) = some false
  k_NoWay_BallError : PySem.W.kitOne K (.ref D.NoWay) (.ref D.BallError) = some true
  k_NoWay_LookupError : PySem.W.kitOne K (.ref D.NoWay) (.type "LookupError") = some false
  k_NoWay_NoName : PySem.W.kitOne K (.ref D.NoWay) (.ref D.NoName) = some false
  k_NoWay_NoWay : PySem.W.kitOne K (.ref D.NoWay) (.ref D.NoWay) = some true
  k_NoWay_Nothing : PySem.W.kitOne K (.ref D.NoWay) (.ref D.Nothing) = some false
  k_NoWay_Thin : PySem.W.kitOne K (.ref D.NoWay) (.ref D.Thin) = some false
  k_NoWay_TooMany : PySem.W.kitOne K (.ref D.NoWay) (.ref D.TooMany) = some false
  k_NoWay_Twice : PySem.W.kitOne K (.ref D.NoWay) (.ref D.Twice) = some false
  k_NoWay_ValueError : PySem.W.kitOne K (.ref D.NoWay) (.type "ValueError") = some true
  k_Nothing_BadLetter : PySem.W.kitOne K (.ref D.Nothing) (.ref D.BadLetter) = some false
  k_Nothing_BadLine : PySem.W.kitOne K (.ref D.Nothing) (.ref D.BadLine) = some false
  k_Nothing_BadLot : PySem.W.kitOne K (.ref D.Nothing) (.ref D.BadLot) = some false
  k_Nothing_BadMachine : PySem.W.kitOne K (.ref D.Nothing) (.ref D.BadMachine) = some false
  k_Nothing_BadName : PySem.W.kitOne K (.ref D.Nothing) (.ref D.BadName) = some false
  k_Nothing_BadNumber : PySem.W.kitOne K (.ref D.Nothing) (.ref D.BadNumber) = some false
  k_Nothing_BadPaper : PySem.W.kitOne K (.ref D.Nothing) (.ref D.BadPaper) = some false
  k_Nothing_BadPiece : PySem.W.kitOne K (.ref D.Nothing) (.ref D.BadPiece) = some false
  k_Nothing_BadPoint : PySem.W.kitOne K (.ref D.Nothing) (.ref D.BadPoint) = some false
  k_Nothing_BadText : PySem.W.kitOne K (.ref D.Nothing) (.ref D.BadText) = some false
  k_Nothing_BadTurn : PySem.W.kitOne K (.ref D.Nothing) (.ref D.BadTurn) = some false
  k_Nothing_BadWord : PySem.W.kitOne K (.ref D.Nothing) (.ref D.BadWord) = some false
  k_Nothing_BallError : PySem.W.kitOne K (.ref D.Nothing) (.ref D.BallError) = some true
  k_Nothing_LookupError : PySem.W.kitOne K (.ref D.Nothing) (.type "LookupError") = some false
  k_Nothing_NoName : PySem.W.kitOne K (.ref D.Nothing) (.ref D.NoName) = some false
  k_Nothing_NoWay : PySem.W.kitOne K (.ref D.Nothing) (.ref D.NoWay) = some false
  k_Nothing_Nothing : PySem.W.kitOne K (.ref D.Nothing) (.ref D.Nothing) = some true
  k_Nothing_Thin : PySem.W.kitOne K (.ref D.Nothing) (.ref D.Thin) = some false
  k_Nothing_TooMany : PySem.W.kitOne K (.ref D.Nothing) (.ref D.TooMany) = some false
  k_Nothing_Twice : PySem.W.kitOne K (.ref D.Nothing) (.ref D.Twice) = some false
  k_Nothing_ValueError : PySem.W.kitOne K (.ref D.Nothing) (.type "ValueError") = some true
  k_Thin_BadLetter : PySem.W.kitOne K (.ref D.Thin) (.ref D.BadLetter) = some false
  k_Thin_BadLine : PySem.W.kitOne K (.ref D.Thin) (.ref D.BadLine) = some false
  k_Thin_BadLot : PySem.W.kitOne K (.ref D.Thin) (.ref D.BadLot) = some false
  k_Thin_BadMachine : PySem.W.kitOne K (.ref D.Thin) (.ref D.BadMachine) = some false
  k_Thin_BadName : PySem.W.kitOne K (.ref D.Thin) (.ref D.BadName) = some false
  k_Thin_BadNumber : PySem.W.kitOne K (.ref D.Thin) (.ref D.BadNumber) = some false
  k_Thin_BadPaper : PySem.W.kitOne K (.ref D.Thin) (.ref D.BadPaper) = some false
  k_Thin_BadPiece : PySem.W.kitOne K (.ref D.Thin) (.ref D.BadPiece) = some false
  k_Thin_BadPoint : PySem.W.kitOne K (.ref D.Thin) (.ref D.BadPoint) = some false
  k_Thin_BadText : PySem.W.kitOne K (.ref D.Thin) (.ref D.BadText) = some false
  k_Thin_BadTurn : PySem.W.kitOne K (.ref D.Thin) (.ref D.BadTurn) = some false
  k_Thin_BadWord : PySem.W.kitOne K (.ref D.Thin) (.ref D.BadWord) = some false
  k_Thin_BallError : PySem.W.kitOne K (.ref D.Thin) (.ref D.BallError) = some true
  k_Thin_LookupError : PySem.W.kitOne K (.ref D.Thin) (.type "LookupError") = some false
  k_Thin_NoName : PySem.W.kitOne K (.ref D.Thin) (.ref D.NoName) = some false
  k_Thin_NoWay : PySem.W.kitOne K (.ref D.Thin) (.ref D.NoWay) = some false
  k_Thin_Nothing : PySem.W.kitOne K (.ref D.Thin) (.ref D.Nothing) = some false
  k_Thin_Thin : PySem.W.kitOne K (.ref D.Thin) (.ref D.Thin) = some true
  k_Thin_TooMany : PySem.W.kitOne K (.ref D.Thin) (.ref D.TooMany) = some false
  k_Thin_Twice : PySem.W.kitOne K (.ref D.Thin) (.ref D.Twice) = some false
  k_Thin_ValueError : PySem.W.kitOne K (.ref D.Thin) (.type "ValueError") = some true
  k_TooMany_BadLetter : PySem.W.kitOne K (.ref D.TooMany) (.ref D.BadLetter) = some false
  k_TooMany_BadLine : PySem.W.kitOne K (.ref D.TooMany) (.ref D.BadLine) = some false
  k_TooMany_BadLot : PySem.W.kitOne K (.ref D.TooMany) (.ref D.BadLot) = some false
  k_TooMany_BadMachine : PySem.W.kitOne K (.ref D.TooMany) (.ref D.BadMachine) = some false
  k_TooMany_BadName : PySem.W.kitOne K (.ref D.TooMany) (.ref D.BadName) = some false
  k_TooMany_BadNumber : PySem.W.kitOne K (.ref D.TooMany) (.ref D.BadNumber) = some false
  k_TooMany_BadPaper : PySem.W.kitOne K (.ref D.TooMany) (.ref D.BadPaper) = some false
  k_TooMany_BadPiece : PySem.W.kitOne K (.ref D.TooMany) (.ref D.BadPiece) = some false
  k_TooMany_BadPoint : PySem.W.kitOne K (.ref D.TooMany) (.ref D.BadPoint) = some false
  k_TooMany_BadText : PySem.W.kitOne K (.ref D.TooMany) (.ref D.BadText) = some false
  k_TooMany_BadTurn : PySem.W.kitOne K (.ref D.TooMany) (.ref D.BadTurn) = some false
  k_TooMany_BadWord : PySem.W.kitOne K (.ref D.TooMany) (.ref D.BadWord) = some false
  k_TooMany_BallError : PySem.W.kitOne K (.ref D.TooMany) (.ref D.BallError) = some true
  k_TooMany_LookupError : PySem.W.kitOne K (.ref D.TooMany) (.type "LookupError") = some false
  k_TooMany_NoName : PySem.W.kitOne K (.ref D.TooMany) (.ref D.NoName) = some false
  k_TooMany_NoWay : PySem.W.kitOne K (.ref D.TooMany) (.ref D.NoWay) = some false
  k_TooMany_Nothing : PySem.W.kitOne K (.ref D.TooMany) (.ref D.Nothing) = some false
  k_TooMany_Thin : PySem.W.kitOne K (.ref D.TooMany) (.ref D.Thin) = some false
  k_TooMany_TooMany : PySem.W.kitOne K (.ref D.TooMany) (.ref D.TooMany) = some true
  k_TooMany_Twice : PySem.W.kitOne K (.ref D.TooMany) (.ref D.Twice) = some false
  k_TooMany_ValueError : PySem.W.kitOne K (.ref D.TooMany) (.type "ValueError") = some true
  k_Twice_BadLetter : PySem.W.kitOne K (.ref D.Twice) (.ref D.BadLetter) = some false
  k_Twice_BadLine : PySem.W.kitOne K (.ref D.Twice) (.ref D.BadLine) = some false
  k_Twice_BadLot : PySem.W.kitOne K (.ref D.Twice) (.ref D.BadLot) = some false
  k_Twice_BadMachine : PySem.W.kitOne K (.ref D.Twice) (.ref D.BadMachine) = some false
  k_Twice_BadName : PySem.W.kitOne K (.ref D.Twice) (.ref D.BadName) = some false
  k_Twice_BadNumber : PySem.W.kitOne K (.ref D.Twice) (.ref D.BadNumber) = some false
  k_Twice_BadPaper : PySem.W.kitOne K (.ref D.Twice) (.ref D.BadPaper) = some false
  k_Twice_BadPiece : PySem.W.kitOne K (.ref D.Twice) (.ref D.BadPiece) = some false
  k_Twice_BadPoint : PySem.W.kitOne K (.ref D.Twice) (.ref D.BadPoint) = some false
  k_Twice_BadText : PySem.W.kitOne K (.ref D.Twice) (.ref D.BadText) = some false
  k_Twice_BadTurn : PySem.W.kitOne K (.ref D.Twice) (.ref D.BadTurn) = some false
  k_Twice_BadWord : PySem.W.kitOne K (.ref D.Twice) (.ref D.BadWord) = some false
  k_Twice_BallError : PySem.W.kitOne K (.ref D.Twice) (.ref D.BallError) = some true
  k_Twice_LookupError : PySem.W.kitOne K (.ref D.Twice) (.type "LookupError") = some false
  k_Twice_NoName : PySem.W.kitOne K (.ref D.Twice) (.ref D.NoName) = some false
  k_Twice_NoWay : PySem.W.kitOne K (.ref D.Twice) (.ref D.NoWay) = some false
  k_Twice_Nothing : PySem.W.kitOne K (.ref D.Twice) (.ref D.Nothing) = some false
  k_Twice_Thin : PySem.W.kitOne K (.ref D.Twice) (.ref D.Thin) = some false
  k_Twice_TooMany : PySem.W.kitOne K (.ref D.Twice) (.ref D.TooMany) = some false
  k_Twice_Twice : PySem.W.kitOne K (.ref D.Twice) (.ref D.Twice) = some true
  k_Twice_ValueError : PySem.W.kitOne K (.ref D.Twice) (.type "ValueError") = some true
  xf_BadLetter_value : XfF K D.BadLetter "value"
  xf_BadLine_item : XfF K D.BadLine "item"
  xf_BadLot_part : XfF K D.BadLot "part"
  xf_BadMachine_part : XfF K D.BadMachine "part"
  xf_BadName_value : XfF K D.BadName "value"
  xf_BadNumber_part : XfF K D.BadNumber "part"
  xf_BadPaper_part : XfF K D.BadPaper "part"
  xf_BadPiece_part : XfF K D.BadPiece "part"
  xf_BadPoint_part : XfF K D.BadPoint "part"
  xf_BadText_item : XfF K D.BadText "item"
  xf_BadTurn_part : XfF K D.BadTurn "part"
  xf_BadWord_at : XfF K D.BadWord "at"
  xf_NoName_name : XfF K D.NoName "name"
  xf_NoWay_paper : XfF K D.NoWay "paper"
  xf_Thin_word : XfF K D.Thin "word"
  xf_TooMany_most : XfF K D.TooMany "most"
  xf_TooMany_what : XfF K D.TooMany "what"
  xf_Twice_name : XfF K D.Twice "name"
  xi_BadLetter : XiC K D.BadLetter
  xi_BadLine : XiC K D.BadLine
  xi_BadLot : XiC K D.BadLot
  xi_BadMachine : XiC K D.BadMachine
  xi_BadName : XiC K D.BadName
  xi_BadNumber : XiC K D.BadNumber
  xi_BadPaper : XiC K D.BadPaper
  xi_BadPiece : XiC K D.BadPiece
  xi_BadPoint : XiC K D.BadPoint
  xi_BadText : XiC K D.BadText
  xi_BadTurn : XiC K D.BadTurn
  xi_BadWord : XiC K D.BadWord
  xi_NoName : XiC K D.NoName
  xi_NoWay : XiC K D.NoWay
  xi_Nothing : XiC K D.Nothing
  xi_Thin : XiC K D.Thin
  xi_TooMany : XiC K D.TooMany
  xi_Twice : XiC K D.Twice

variable {D : Ad}
/-! ### values -/
def vstrs : List (List Nat) := [[98], [], [65], [97], [100], [68], [65, 66], [69], [32], [97, 98], [66]]
/-- a drawn value, as data -/
inductive Vk (H : Hp) : V → PyData → Prop
  | non : Vk H .non .none
  | bl (b : Bool) : Vk H (.bl b) (.bool b)
  | int (n : Int) : n.natAbs ≤ 1000000000000 → Vk H (.int n) (.int n)
  | str (w : List Nat) : w ∈ vstrs → Vk H (.str (S w)) (.str (S w))
  | lst {a : Addr} : H a = some (.lst [.str (S [65])]) → (a == sysModules) = false → Vk H (.ref a) (.list [.str (S [65])])
  | tup {a : Addr} : H a = some (.tup [.str (S [65])]) → Vk H (.ref a) (.tuple [.str (S [65])])
  | nil {a : Addr} : H a = some (.lst []) → (a == sysModules) = false → Vk H (.ref a) (.list [])
  | dk {a : Addr} : H a = some (.dK []) → Vk H (.ref a) (.dict [])
theorem vk_same {H H' : Hp} {x : V} {d : PyData} (e : Same H H') (h : Vk H x d) : Vk H' x d := by
  cases h with
  | non => exact .non
  | bl b => exact .bl b
  | int n h => exact .int n h
  | str w h => exact .str w h
  | lst h n => exact .lst (e _ _ h) n
  | tup h => exact .tup (e _ _ h)
  | nil h n => exact .nil (e _ _ h) n
  | dk h => exact .dk (e _ _ h)
theorem vk_ext {H H' : Hp} {x : V} {d : PyData} (e : ExtN H H') (h : Vk H x d) : Vk H' x d := by
  cases h with
  | non => exact .non
  | bl b => exact .bl b
  | int n h => exact .int n h
  | str w h => exact .str w h
  | lst h n => exact .lst (e _ _ h (fun ps z => by cases z)) n
  | tup h => exact .tup (e _ _ h (fun ps z => by cases z))
  | nil h n => exact .nil (e _ _ h (fun ps z => by cases z)) n
  | dk h => exact .dk (e _ _ h (fun ps z => by cases z))
theorem vk_lk {Pn : Pen} {Tb : List (Addr × Str)} {n m : Nat} {H2 H3 : Hp} {x : V} {d : PyData} (p : PenAt Pn n H2) (l : LK Pn Tb H2 m H3) (h : Vk H2 x d) : Vk H3 x d := by
  have g : ∀ {b : Addr} {o : HO}, (∀ s r, o ≠ penO Pn s r) → (∀ ps, o ≠ .tbl ps) → H2 b = some o → H3 b = some o := fun n1 n2 h => lk_get p l h n1 n2
  cases h with
  | non => exact .non
  | bl b => exact .bl b
  | int n h => exact .int n h
  | str w h => exact .str w h
  | lst h n => exact .lst (g (fun s r z => by cases z) (fun ps z => by cases z) h) n
  | tup h => exact .tup (g (fun s r z => by cases z) (fun ps z => by cases z) h)
  | nil h n => exact .nil (g (fun s r z => by cases z) (fun ps z => by cases z) h) n
  | dk h => exact .dk (g (fun s r z => by cases z) (fun ps z => by cases z) h)
theorem vk_keep {Pn : Pen} {n : Nat} {H2 H3 : Hp} {x : V} {d : PyData} (p : PenAt Pn n H2) (l : KeepB Pn H2 H3) (h : Vk H2 x d) : Vk H3 x d := by
  obtain ⟨s, r, _, _, _, e⟩ := p.ex
  have g : ∀ {b : Addr} {o : HO}, (∀ s r, o ≠ penO Pn s r) → H2 b = some o → H3 b = some o := fun n1 h => l _ _ (fun z => by rw [z, e] at h; exact n1 _ _ (Option.some.inj h).symm) h
  cases h with
  | non => exact .non
  | bl b => exact .bl b
  | int n h => exact .int n h
  | str w h => exact .str w h
  | lst h n => exact .lst (g (fun s r z => by cases z) h) n
  | tup h => exact .tup (g (fun s r z => by cases z) h)
  | nil h n => exact .nil (g (fun s r z => by cases z) h) n
  | dk h => exact .dk (g (fun s r z => by cases z) h)
def isI : PyData → Bool
  | .int _ => true
  | .bool _ => true
  | _ => false
def isB : PyData → Bool
  | .bool _ => true
  | _ => false
def isS : PyData → Bool
  | .str _ => true
  | _ => false
theorem vk_is {H : Hp} {x : V} {d : PyData} (h : Vk H x d) : IsK K H x (.type "int") (isI d) ∧ IsK K H x (.type "bool") (isB d) ∧ IsK K H x (.type "str") (isS d) := by
  cases h with
  | non => exact ⟨isK (b := false) ty_non (kit_ty (by decide +kernel)), isK (b := false) ty_non (kit_ty (by decide +kernel)), isK (b := false) ty_non (kit_ty (by decide +kernel))⟩
  | bl b => exact ⟨isK (b := true) ty_bl (kit_ty (by decide +kernel)), isK (b := true) ty_bl (kit_ty (by decide +kernel)), isK (b := false) ty_bl (kit_ty (by decide +kernel))⟩
  | int n h => exact ⟨isK (b := true) ty_int (kit_ty (by decide +kernel)), isK (b := false) ty_int (kit_ty (by decide +kernel)), isK (b := false) ty_int (kit_ty (by decide +kernel))⟩
  | str w h => exact ⟨isK (b := false) ty_str (kit_ty (by decide +kernel)), isK (b := false) ty_str (kit_ty (by decide +kernel)), isK (b := true) ty_str (kit_ty (by decide +kernel))⟩
  | lst h n => exact ⟨isK (b := false) (ty_lst h) (kit_ty (by decide +kernel)), isK (b := false) (ty_lst h) (kit_ty (by decide +kernel)), isK (b := false) (ty_lst h) (kit_ty (by decide +kernel))⟩
  | tup h => exact ⟨isK (b := false) (ty_tup h) (kit_ty (by decide +kernel)), isK (b := false) (ty_tup h) (kit_ty (by decide +kernel)), isK (b := false) (ty_tup h) (kit_ty (by decide +kernel))⟩
  | nil h n => exact ⟨isK (b := false) (ty_lst h) (kit_ty (by decide +kernel)), isK (b := false) (ty_lst h) (kit_ty (by decide +kernel)), isK (b := false) (ty_lst h) (kit_ty (by decide +kernel))⟩
  | dk h => exact ⟨isK (b := false) (ty_dK h) (kit_ty (by decide +kernel)), isK (b := false) (ty_dK h) (kit_ty (by decide +kernel)), isK (b := false) (ty_dK h) (kit_ty (by decide +kernel))⟩
theorem vstr_len {w : List Nat} (h : w ∈ vstrs) : w.length ≤ 2 := by
  have z : ∀ w ∈ vstrs, w.length ≤ 2 := by decide
  exact z w h
theorem vstr_repr {w : List Nat} (h : w ∈ vstrs) : (reprText (S w)).length ≤ 10 := by
  have z : ∀ w ∈ vstrs, (reprText (S w)).length ≤ 10 := by decide +kernel
  exact z w h
theorem vk_dq {H : Hp} {x : V} {d : PyData} (h : Vk H x d) : Dq K H true x d ∧ d.showable = true ∧ d.depth ≤ 1 ∧ slen d ≤ 2000 := by
  cases h with
  | non => exact ⟨.non, rfl, by decide, by decide⟩
  | bl b => exact ⟨.bl b, rfl, Nat.zero_le _, by simp [slen]⟩
  | int n h =>
    refine ⟨.int n, ?_, Nat.zero_le _, by simp [slen]⟩
    simp only [PyData.showable, decide_eq_true_eq]
    have h2 : n.natAbs < 2 ^ 40 := by omega
    by_cases e : n.natAbs = 0
    · rw [e]; decide
    · have := (Nat.log2_lt e).mpr h2
      omega
  | str w h =>
    have := vstr_repr h
    exact ⟨.str _, rfl, Nat.zero_le _, by simp only [slen]; omega⟩
  | lst h n =>
    have := vstr_repr (w := [65]) (by decide)
    exact ⟨.lst (SqL.of h) (.cons (.str _) .nil) (fun _ => n), rfl, by decide, by simp only [slen, slens]; omega⟩
  | tup h =>
    have := vstr_repr (w := [65]) (by decide)
    exact ⟨.tup (SqT.of h) (.cons (.str _) .nil), rfl, by decide, by simp only [slen, slens]; omega⟩
  | nil h n => exact ⟨.lst (SqL.of h) .nil (fun _ => n), rfl, by decide, by simp [slen, slens]⟩
  | dk h => exact ⟨.dk h, rfl, by decide, by simp only [slen]; decide +kernel⟩
theorem q_reprV {H : Hp} {Q : VK} {x : V} {d : PyData} (h : Vk H x d) (q : Q (.str d.shown) H) : rRepr K [x] H Q := by
  obtain ⟨h1, h2, h3, h4⟩ := vk_dq (K := K) h
  exact q_repr h1 (fun _ => rfl) h2 (by omega) (by omega) q
abbrev st_is_integer : Stmt := top 22
theorem sc_is_integer : FnScope ["value"] ["value"] (defScope st_is_integer) := ⟨rfl, rfl, rfl, by decide +kernel, rfl, by decide +kernel, by decide +kernel⟩
def sp_is_integer (K : PySem.W.Frag) (D : Ad) : Sp := fun vs H Q _ => ∃ x b1 b2, vs = [x] ∧ IsK K H x (.type "int") b1 ∧ IsK K H x (.type "bool") b2 ∧ Q (.bl (b1 && !b2)) H
theorem ok_is_integer {f : Addr} {fd : FuncData} (F : Fun K "is_integer" "is_integer" st_is_integer f fd) (T : Txt P w K mg base D) : FnOk P w K mg base CX0 1 f fd ["value"] (sp_is_integer K D) := by
  refine F.ok sc_is_integer (fun vs H Q E h => ?_) (fun cdv A outer s H vs Q E hr h => ?_)
  · obtain ⟨x, b1, b2, rfl, _⟩ := h
    rfl
  · obtain ⟨x, b1, b2, rfl, h1, h2, q⟩ := h
    have hu := hr.units
    refine ⟨_, (pss_one (ps_ret (pe_and (pe_callB (id := "isinstance") (call_isiEK (K := K)) (by rfl) T.b_isinstance (by decide +kernel) (pa_cons (pv 0) (pa_cons (pe_bltn (v := .ty "int") rfl T.b_int (by decide +kernel) rfl) pa_nil))) (pe_one (pe_not (pe_callB (id := "isinstance") (call_isiEK (K := K)) (by rfl) T.b_isinstance (by decide +kernel) (pa_cons (pv 0) (pa_cons (pe_bltn (v := .ty "bool") rfl T.b_bool (by decide +kernel) rfl) pa_nil)))))))), ?_⟩
    repeat walk_at "one"
    refine r_isK (.ty "int") h1 ?_
    repeat walk_at "one"
    refine r_ib (fun e => ?_) (fun e => ?_)
    · subst e
      repeat walk_at "one"
      refine r_isK (.ty "bool") h2 ?_
      repeat walk_at "one"
      exact q
    · subst e
      exact q
abbrev st_is_within : Stmt := top 23
theorem sc_is_within : FnScope ["value", "least", "most"] ["value", "least", "most"] (defScope st_is_within) := ⟨rfl, rfl, rfl, by decide +kernel, rfl, by decide +kernel, by decide +kernel⟩
def sp_is_within (K : PySem.W.Frag) (D : Ad) : Sp := fun vs H Q _ => ∃ x d, ∃ i j : Int, vs = [x, .int i, .int j] ∧ Vk H x d ∧ ((isI d && !isB d) = true → ∃ n : Int, x = .int n ∧ Q (.bl (decide (i ≤ n) && decide (n ≤ j))) H) ∧ ((isI d && !isB d) = false → Q (.bl false) H)
theorem ok_is_within {f : Addr} {fd : FuncData} (F : Fun K "is_within" "is_within" st_is_within f fd) (T : Txt P w K mg base D) (d_is_integer : CalN P w K mg base 1 "is_integer" (sp_is_integer K D)) : FnOk P w K mg base CX0 2 f fd ["value", "least", "most"] (sp_is_within K D) := by
  refine F.ok sc_is_within (fun vs H Q E h => ?_) (fun cdv A outer s H vs Q E hr h => ?_)
  · obtain ⟨x, d, i, j, rfl, _⟩ := h
    rfl
  · obtain ⟨x, d, i, j, rfl, hv, h1, h2⟩ := h
    have hu := hr.units
    refine ⟨_, (pss_one (ps_ret (pe_and (pe_c0 d_is_integer hr (by decide) (pa_cons (pv 0) pa_nil)) (pe_one (pe_chain op_le op_le (pv 1) (pv 0) (pv 2)))))), ?_⟩
    obtain ⟨v1, v2, v3⟩ := vk_is (K := K) hv
    walk_at "go"
    refine ⟨x, _, _, rfl, v1, v2, ?_⟩
    walk_at "go"
    refine r_ib (fun e => ?_) (fun e => ?_)
    · obtain ⟨n, rfl, q⟩ := h1 e
      walk_at "go"
      refine r_ib (fun e => ?_) (fun e => ?_)
      · walk_at "go"
        rw [e, Bool.true_and] at q
        exact q
      · rw [e, Bool.false_and] at q
        exact q
    · exact h2 e
abbrev st_is_letter : Stmt := top 24
theorem sc_is_letter : FnScope ["value"] ["value"] (defScope st_is_letter) := ⟨rfl, rfl, rfl, by decide +kernel, rfl, by decide +kernel, by decide +kernel⟩
def isLd : PyData → Bool
  | .str x => decide (∃ c ∈ lets, x = S [c])
  | _ => false
theorem isLd_str (w : List Nat) : isLd (.str (S w)) = decide (∃ c ∈ lets, w = [c]) := by
  simp only [isLd, S_inj]
def sp_is_letter (K : PySem.W.Frag) (D : Ad) : Sp := fun vs H Q _ => ∃ x d, vs = [x] ∧ Vk H x d ∧ Q (.bl (isLd d)) H
theorem ok_is_letter {f : Addr} {fd : FuncData} (F : Fun K "is_letter" "is_letter" st_is_letter f fd) (T : Txt P w K mg base D) : FnOk P w K mg base CX0 1 f fd ["value"] (sp_is_letter K D) := by
  refine F.ok sc_is_letter (fun vs H Q E h => ?_) (fun cdv A outer s H vs Q E hr h => ?_)
  · obtain ⟨x, d, rfl, _⟩ := h
    rfl
  · obtain ⟨x, d, rfl, hv, q⟩ := h
    have hu := hr.units
    refine ⟨_, (pss_one (ps_ret (pe_and (pe_callB (id := "isinstance") (call_isiEK (K := K)) (by rfl) T.b_isinstance (by decide +kernel) (pa_cons (pv 0) (pa_cons (pe_bltn (v := .ty "str") rfl T.b_str (by decide +kernel) rfl) pa_nil))) (pe_and (pe_cmpR (op_eqK (K := K) hu) (pe_callB (id := "len") (call_lenB (K := K)) (by rfl) T.b_len PySem.boot_len (pa_cons (pv 0) pa_nil)) pe_int (nomark _)) (pe_one (pe_cmpR (op_inK (K := K)) (pv 0) (pe_gS rfl T.g_LETTERS) rfl)))))), ?_⟩
    obtain ⟨v1, v2, v3⟩ := vk_is (K := K) hv
    walk_at "go"
    refine r_isK (.ty "str") v3 ?_
    walk_at "go"
    cases hv with
    | str w hw =>
      have hl := vstr_len hw
      refine r_it rfl ?_
      walk_at "go"
      refine q_lenS (w := w) (by omega) ?_
      walk_at "go"
      rw [isLd_str] at q
      refine r_ib (fun e => ?_) (fun e => ?_)
      · have e : w.length = 1 := by have := of_decide_eq_true e; omega
        obtain ⟨c, rfl⟩ := List.length_eq_one_iff.mp e
        walk_at "go"
        have z : decide (∃ c' ∈ lets, [c] = [c']) = decide (c ∈ [65, 66, 67, 68, 97, 98, 99, 100]) := by
          rw [Bool.eq_iff_iff, decide_eq_true_iff, decide_eq_true_iff]
          exact ⟨fun ⟨c', h, e⟩ => by cases e; exact h, fun h => ⟨c, h, rfl⟩⟩
        rw [z] at q
        exact q
      · have e : w.length ≠ 1 := by have := of_decide_eq_false e; omega
        have z : decide (∃ c' ∈ lets, w = [c']) = false := decide_eq_false fun ⟨c', _, h⟩ => e (by rw [h]; rfl)
        rw [z] at q
        exact q
    | non => exact r_ie rfl q
    | bl b => exact r_ie rfl q
    | int n h => exact r_ie rfl q
    | lst h n => exact r_ie rfl q
    | tup h => exact r_ie rfl q
    | nil h n => exact r_ie rfl q
    | dk h => exact r_ie rfl q
abbrev st_undoing : Stmt := top 25
theorem sc_undoing : FnScope ["letter"] ["letter"] (defScope st_undoing) := ⟨rfl, rfl, rfl, by decide +kernel, rfl, by decide +kernel, by decide +kernel⟩
def sp_undoing (K : PySem.W.Frag) (D : Ad) : Sp := fun vs H Q E => ∃ x d, vs = [x] ∧ Vk H x d ∧ (isLd d = false → Rse E H D.BadLetter [("value", x)]) ∧ (isLd d = true → ∃ c, x = .str (S [c]) ∧ isL c = true ∧ Q (.str (S [und c])) H)
theorem ok_undoing {f : Addr} {fd : FuncData} (F : Fun K "undoing" "undoing" st_undoing f fd) (T : Txt P w K mg base D) (d_is_letter : CalN P w K mg base 1 "is_letter" (sp_is_letter K D)) : FnOk P w K mg base (L2.CX P w) 2 f fd ["letter"] (sp_undoing K D) := by
  refine F.okX sc_undoing (fun vs H Q E h => ?_) (fun cdv A outer s H vs Q E hr h => ?_)
  · obtain ⟨x, d, rfl, _⟩ := h
    rfl
  · obtain ⟨x, d, rfl, hv, h1, h2⟩ := h
    have hu := hr.units
    refine ⟨_, (pss_cons (ps_if (pt_not (pt_val (pe_c0 d_is_letter hr (by decide) (pa_cons (pv 0) pa_nil))))
      (pss_one (ps_raise rfl (takes_of rfl rfl rfl rfl) (pmk_err T.e_BadLetter hr (by decide) (pa_cons (pv 0) pa_nil) T.c_BadLetter)))
      pss_nil)
      (pss_one (ps_ret (pe_bm0K (K := K) PySem.F.plainAttrs_str PySem.F.slot_str_swapcase PySem.F.type_str_swapcase mb_swapcase (pv 0))))), ?_⟩
    walk_at "go"
    refine ⟨x, d, rfl, hv, ?_⟩
    walk_at "go"
    cases e : isLd d with
    | false =>
      walk_at "go"
      refine r_mkE ?_
      walk_at "go"
      exact ⟨rfl, h1 e⟩
    | true =>
      obtain ⟨c, rfl, hc, q⟩ := h2 e
      walk_at "go"
      refine q_swap (allL_one hc) (by simp) ?_
      exact q
end
end Cs


set_option Elab.async false
set_option linter.all false
set_option maxRecDepth 100000
set_option maxHeartbeats 4000000
namespace Cs
open PySem PySem.Spec PyProof.Rows L2 LamX
local macro_rules | `(tactic| walk_at "base") => `(tactic| with_reducible (first
  | refine r_seq ?_ | refine r_asg ?_ | refine r_gname ?_ | refine r_ret ?_ | refine r_drop ?_ | refine r_next ?_ | refine r_retN ?_ | refine r_fld ?_ | refine r_gsub ?_ | refine r_brk ?_ | refine r_cont ?_
  | refine r_var rfl ?_ | refine r_c ?_ | refine r_op ?_ | refine r_un ?_ | refine r_test ?_ | refine r_tB ?_ | refine r_bl ?_ | refine r_blv ?_
  | refine r_cons ?_ | refine r_nil ?_ | refine r_lc ?_ | refine r_yes ?_ | refine r_iLT0 ?_ | refine r_iEnumS ?_ | refine r_iEnum ?_ | refine r_iStr ?_ | refine r_iList ?_ | refine r_iRng ?_ | refine r_iRng2 ?_ | refine r_iRng3 ?_ | refine r_iStrS ?_ | refine r_iStrE ?_ | refine r_cb ?_ | refine r_call0 ?_ | refine r_callS ?_ | refine r_callK ?_ | refine r_tup ?_ | refine r_lst ?_ | refine r_make0 ?_ | refine r_attr ?_
  | refine r_err0 ?_ | refine r_err ?_ | refine r_errK ?_ | refine r_lstB ?_ | refine r_sl ?_ | refine r_nopart ?_ | refine r_part ?_ | refine r_parti ?_ | refine r_tyS ?_ | refine r_bm0 ?_ | refine r_bm ?_ | refine r_dnew ?_
  | refine r_and ?_ | refine r_or ?_ | refine r_not ?_ | refine r_andV ?_ | refine r_orV ?_ | refine r_notV ?_ | refine r_if ?_ | refine r_ift ?_ | refine r_iff ?_ | refine r_revL ?_ | refine r_ntt ?_ | refine r_nff ?_ | refine r_itup ?_ | refine r_chain ?_
  | refine r_I0 ?_ | refine r_U ?_ | refine r_addI ?_ | refine r_eqI ?_ | refine r_neI ?_ | refine r_eqS ?_ | refine r_neS ?_ | refine r_eqB ?_ | refine r_neB ?_ | refine r_inS ?_ | refine r_niS ?_ | refine r_int1 ?_ | refine r_abs ?_ | refine r_isN ?_ | refine r_notN ?_
  | refine r_intB ?_ | refine r_max ?_ | refine r_strS ?_ | refine r_isB ?_ | refine r_notB ?_ | refine r_notBI ?_ | refine r_revS ?_ | refine r_sta ?_ | refine r_metA ?_ | refine r_mK1 ?_ | refine r_mD ?_ | refine r_iOwn ?_ | refine r_aug rfl ?_ | refine r_ipI ?_ | refine r_par ?_ | refine r_vw ?_))
local macro_rules | `(tactic| walk_at "ends") => `(tactic| with_reducible (first | refine r_nx ?_ | refine r_rt ?_ | refine r_ct ?_ | refine r_bk ?_))
local macro_rules | `(tactic| walk_at "two") => `(tactic| first | walk_at "base" | walk_at "ends")
local macro_rules | `(tactic| walk_at "one") => `(tactic| first | walk_at "base" | with_reducible (first | refine r_ifs ?_ | refine r_forE ?_) | walk_at "ends")
local macro_rules | `(tactic| walk_at "go") => `(tactic| repeat walk_at "one")
local macro_rules | `(tactic| walk_at "gp") => `(tactic| repeat walk_at "two")

section
variable {P : Program} {w : World} {K : PySem.W.Frag} {mg : Str → Option Value} {base : Heap} {D : Ad}

abbrev st__law_heard0 : Stmt := top 30
theorem sc__law_heard0 : FnScope ["ask", "caught", "error"] ["ask"] (defScope st__law_heard0) := ⟨rfl, rfl, rfl, by decide +kernel, rfl, by decide +kernel, by decide +kernel⟩
abbrev st_law_pen : Stmt := top 27
theorem sc_law_pen : FnScope ["script"] ["script"] (defScope st_law_pen) := ⟨rfl, rfl, rfl, by decide +kernel, rfl, by decide +kernel, by decide +kernel⟩
def sp_law_pen (K : PySem.W.Frag) (D : Ad) : Sp := fun vs H Q _ => ∃ (a : Addr) (ns : List Int), vs = [.ref a] ∧ SqL K H a (ns.map V.int) ∧ ns.length ≤ 63 ∧ ∀ P H', Same H H' → PenAt P 0 H' → H P.p = none → H P.c = none → Q (.ref P.p) H'
theorem ok_law_pen {f : Addr} {fd : FuncData} (F : Fun K "_law_pen" "_law_pen" st_law_pen f fd) (T : Txt P w K mg base D) : FnOk P w K mg base CX0 1 f fd ["script"] (sp_law_pen K D) := by
  refine F.ok sc_law_pen (fun vs H Q E h => ?_) (fun cdv A outer s H vs Q E hr h => ?_)
  · obtain ⟨a, ns, rfl, _⟩ := h
    rfl
  · obtain ⟨a, ns, rfl, ha, hl, q⟩ := h
    have hu := hr.units
    refine ⟨_, (pss_one (ps_ret (pe_lst (pa_cons (pe_callTy (T := "list") (call_listB (K := K)) (by rfl) T.b_list (by decide +kernel) (pa_cons (pe_slice (sl_anyK (K := K)) (pv 0) po_none (po_some pe_int)) pa_nil)) (pa_cons pe_int (pa_cons pe_int pa_nil)))))), ?_⟩
    walk_at "go"
    refine r_slL (xs' := ns.map V.int) ha ?_ fun l1 h1 => ?_
    · show cutV (ns.map V.int) none (some ((63 : Nat) : Int)) = _
      rw [cutV_to, List.take_of_length_le (by simpa using hl)]
    walk_at "go"
    refine q_listL (SqL.of upd_same) fun l2 h2 => ?_
    walk_at "go"
    refine r_sz (by simp) fun p hp => ?_
    have s1 := same_upd (o := .lst (ns.map V.int)) h1
    have s2 := s1.trans (same_upd (o := .lst (ns.map V.int)) h2)
    have n2 : p ≠ l2 := fun z => by rw [z, upd_same] at hp; cases hp
    exact q ⟨p, l2, ns⟩ _ (s2.trans (same_upd hp)) ⟨⟨0, 0, by decide, by decide, by decide, upd_same⟩, by rw [upd_ne n2.symm]; exact upd_same, hl, n2⟩ (s2.free hp) (s1.free h2)
abbrev st_law_draw : Stmt := top 28
theorem sc_law_draw : FnScope ["pen", "many", "spot", "cell", "mixed", "digit", "great"] ["pen", "many"] (defScope st_law_draw) := ⟨rfl, rfl, rfl, by decide +kernel, rfl, by decide +kernel, by decide +kernel⟩
def sp_law_draw (K : PySem.W.Frag) (D : Ad) : Sp := fun vs H Q _ => ∃ (P : Pen) (n : Nat) (m : Int), vs = [.ref P.p, .int m] ∧ PenAt P n H ∧ n ≤ 100000 ∧ 0 < m ∧ m < 1152921504606846976 ∧ ∀ d H', 0 ≤ d → d < m → KeepB P H H' → PenAt P (n + 1) H' → Q (.int d) H'
theorem ok_law_draw {f : Addr} {fd : FuncData} (F : Fun K "_law_draw" "_law_draw" st_law_draw f fd) (T : Txt P w K mg base D) : FnOk P w K mg base CX0 1 f fd ["pen", "many"] (sp_law_draw K D) := by
  refine F.ok sc_law_draw (fun vs H Q E h => ?_) (fun cdv A outer s H vs Q E hr h => ?_)
  · obtain ⟨P, n, m, rfl, _⟩ := h
    rfl
  · obtain ⟨P, n, m, rfl, hP, hn, hm, hm2, q⟩ := h
    have hu := hr.units
    refine ⟨_, (pss_cons (ps_if (pt_cmpR op_gt (pe_ix (ix_seqK (K := K)) (pv 0) pe_int (fun _ _ => rfl)) pe_int (nomark _))
      (pss_cons (ps_asg (pe_op op_mod (pe_callTy (T := "int") call_intB (by rfl) T.b_int (by decide +kernel) (pa_cons (pe_ix (ix_seqK (K := K)) (pv 0) pe_int (fun _ _ => rfl)) pa_nil)) (pv 1)) (pg_name (i := 5) sc_law_draw.nd rfl (Or.inl rfl)))
      (pss_cons (ps_asg (pe_op op_fdivW (pe_callTy (T := "int") call_intB (by rfl) T.b_int (by decide +kernel) (pa_cons (pe_ix (ix_seqK (K := K)) (pv 0) pe_int (fun _ _ => rfl)) pa_nil)) (pv 1)) (pg_sub (pv 0) pe_int set_list))
      (pss_one (ps_ret (pv 5)))))
      pss_nil)
      (pss_cons (ps_asg (pe_ix (ix_seqK (K := K)) (pv 0) pe_int (fun _ _ => rfl)) (pg_name (i := 2) sc_law_draw.nd rfl (Or.inl rfl)))
      (pss_cons (ps_asg (pe_op op_addA (pv 2) pe_int) (pg_sub (pv 0) pe_int set_list))
      (pss_cons (ps_asg (pe_op op_addA (pe_op op_mulB pe_int (pv 2)) pe_int) (pg_name (i := 3) sc_law_draw.nd rfl (Or.inl rfl)))
      (pss_cons (ps_if (pt_cmpR (op_neK (K := K) hu) (pe_ix (ix_seqK (K := K)) (pv 0) pe_int (fun _ _ => rfl)) (pe_lst pa_nil) (nomark _))
      (pss_one (ps_asg (pe_ix (ix_seqK (K := K)) (pe_ix (ix_seqK (K := K)) (pv 0) pe_int (fun _ _ => rfl)) (pe_op op_mod (pe_callTy (T := "int") call_intB (by rfl) T.b_int (by decide +kernel) (pa_cons (pv 2) pa_nil)) (pe_callB (id := "len") (call_lenB (K := K)) (by rfl) T.b_len PySem.boot_len (pa_cons (pe_ix (ix_seqK (K := K)) (pv 0) pe_int (fun _ _ => rfl)) pa_nil))) (fun _ _ => rfl)) (pg_name (i := 3) sc_law_draw.nd rfl (Or.inl rfl))))
      pss_nil)
      (pss_cons (ps_if (PW.pt (pw_and (pt_cmpR op_lt (pv 2) (pe_callB (id := "len") (call_lenB (K := K)) (by rfl) T.b_len PySem.boot_len (pa_cons (pe_ix (ix_seqK (K := K)) (pv 0) pe_int (fun _ _ => rfl)) pa_nil)) (nomark _)) (pw_and1 (pt_cmpR op_ge (pe_callB (id := "abs") call_absB (by rfl) T.b_abs (by decide +kernel) (pa_cons (pv 3) pa_nil)) (pe_op op_pow pe_int pe_int) (nomark _)))))
      (pss_cons (ps_asg (pe_op op_addA (pe_op op_mulB pe_int (pe_op op_sub (pe_callB (id := "abs") call_absB (by rfl) T.b_abs (by decide +kernel) (pa_cons (pv 3) pa_nil)) (pe_op op_pow pe_int pe_int))) (pe_callTy (T := "int") call_intB (by rfl) T.b_int (by decide +kernel) (pa_cons (pe_cmpR op_lt (pv 3) pe_int (nomark _)) pa_nil))) (pg_name (i := 6) sc_law_draw.nd rfl (Or.inl rfl)))
      (pss_cons (ps_asg (pe_op op_fdivW (pe_callTy (T := "int") call_intB (by rfl) T.b_int (by decide +kernel) (pa_cons (pv 6) pa_nil)) (pv 1)) (pg_sub (pv 0) pe_int set_list))
      (pss_one (ps_ret (pe_op op_mod (pe_callTy (T := "int") call_intB (by rfl) T.b_int (by decide +kernel) (pa_cons (pv 6) pa_nil)) (pv 1))))))
      pss_nil)
      (pss_cons (ps_asg (pe_op op_mod (pe_callTy (T := "int") call_intB (by rfl) T.b_int (by decide +kernel) (pa_cons (pe_op op_pow (pe_op op_addA (pe_op op_addA (pe_op op_mod (pe_callTy (T := "int") call_intB (by rfl) T.b_int (by decide +kernel) (pa_cons (pv 3) pa_nil)) pe_int) (pe_op op_mulB pe_int (pv 2))) pe_int) pe_int) pa_nil)) pe_int) (pg_name (i := 4) sc_law_draw.nd rfl (Or.inl rfl)))
      (pss_cons (ps_asg (pe_op op_mod (pe_callTy (T := "int") call_intB (by rfl) T.b_int (by decide +kernel) (pa_cons (pe_op op_pow (pe_op op_addA (pe_op op_addA (pe_op op_mulB (pv 4) (pe_op op_addA (pe_op op_mulB pe_int (pv 2)) pe_int)) (pe_op op_mulB (pe_op op_mulB pe_int (pv 2)) (pv 2))) pe_int) pe_int) pa_nil)) pe_int) (pg_name (i := 4) sc_law_draw.nd rfl (Or.inl rfl)))
      (pss_one (ps_ret (pe_op op_mod (pe_callTy (T := "int") call_intB (by rfl) T.b_int (by decide +kernel) (pa_cons (pe_op op_fdivW (pv 4) pe_int) pa_nil)) (pv 1)))))))))))), ?_⟩
    obtain ⟨s, r, hs0, hsn, hr0, k0⟩ := KP.of hP
    have fin : ∀ {d s' r' : Int} {H' : Hp}, 0 ≤ d → d < m → KP P H H' s' r' → 0 ≤ s' → s' ≤ n + 1 → 0 ≤ r' → Q (.int d) H' := fun h1 h2 k h3 h4 h5 => q _ _ h1 h2 k.keep (k.done h3 (by omega) h5 hP.len)
    walk_at "go"
    refine r_ixL (SqL.of k0.pen) rfl ?_
    walk_at "go"
    refine r_ib (fun e => ?_) (fun e => ?_)
    · walk_at "go"
      refine r_ixL (SqL.of k0.pen) rfl ?_
      walk_at "go"
      refine r_mod hm ?_
      walk_at "go"
      refine r_ixL (SqL.of k0.pen) rfl ?_
      walk_at "go"
      refine r_fdiv hm (by omega) ?_
      walk_at "go"
      refine q_set k0.pen rfl ?_
      have k1 : KP P H (upd H P.p (penO P s (r / m))) s (r / m) := k0.set
      walk_at "go"
      exact fin (Int.emod_nonneg _ (by omega)) (Int.emod_lt_of_pos _ hm) k1 hs0 (by omega) (Int.ediv_nonneg hr0 (by omega))
    · walk_at "go"
      refine r_ixL (SqL.of k0.pen) rfl ?_
      walk_at "go"
      refine q_set k0.pen rfl ?_
      have k1 : KP P H (upd H P.p (penO P (s + 1) r)) (s + 1) r := k0.set
      generalize upd H P.p (.lst ([V.ref P.c, .int s, .int r].set 1 (.int (s + 1)))) = H1 at k1 ⊢
      walk_at "gp"
      refine r_mI (wm (n := 64) (m := 64) (by omega) (by omega)) ?_
      walk_at "gp"
      refine r_cut (fun σ' H' => ∃ (c : Int), KP P H H' (s + 1) r ∧ σ' = [some (.ref P.p), some (.int m), some (.int s), some (.int c), none, none, none]) (fun nx hnx => ?_) ?_
      · walk_at "go"
        refine r_ixL (SqL.of k1.pen) rfl ?_
        walk_at "go"
        refine r_sz (by decide) fun e1 he1 => ?_
        have k2 := k1.new (o := .lst []) he1
        refine r_neNil (SqL.of k2.cells) (dpI P.ns) ((lay_ints P.ns).mono (by decide)) (SqL.of upd_same) ?_
        walk_at "go"
        refine r_ib (fun e => ?_) (fun e => ?_)
        · have hne : P.ns ≠ [] := fun z => by rw [z] at e; simp at e
          have hlen : 0 < P.ns.length := List.length_pos_iff.mpr hne
          walk_at "go"
          refine r_ixL (SqL.of k2.pen) rfl ?_
          walk_at "go"
          refine r_ixL (SqL.of k2.pen) rfl ?_
          walk_at "go"
          refine q_lenL (SqL.of k2.cells) ?_
          rw [List.length_map]
          walk_at "go"
          refine r_mod (by omega) ?_
          refine r_ixLi k2.cells (Int.emod_nonneg _ (by omega)) (Int.emod_lt_of_pos _ (by omega)) fun c hc => ?_
          walk_at "go"
          exact hnx _ _ ⟨c, k2, rfl⟩
        · walk_at "go"
          exact hnx _ _ ⟨_, k2, rfl⟩
      · rintro σ' H2 ⟨c, k2, rfl⟩
        walk_at "gp"
        refine r_cut (fun σ' H' => KP P H H' (s + 1) r ∧ σ' = [some (.ref P.p), some (.int m), some (.int s), some (.int c), none, none, none]) (fun nx hnx => ?_) ?_
        · walk_at "go"
          refine r_ixL (SqL.of k2.pen) rfl ?_
          walk_at "go"
          refine q_lenL (SqL.of k2.cells) ?_
          walk_at "go"
          refine r_ib (fun e => ?_) (fun e => ?_)
          · walk_at "go"
            refine r_pow (by decide) (by decide) ?_
            walk_at "go"
            refine r_ib (fun e => ?_) (fun e => ?_)
            · have e := of_decide_eq_true e
              walk_at "go"
              refine r_pow (by decide) (by decide) ?_
              walk_at "go"
              generalize hcc : (if c < 0 then -c else c) = cc at e ⊢
              generalize htt : (10 : Int) ^ (18 : Int).toNat = tt at e ⊢
              refine r_mL (by decide) ?_
              walk_at "go"
              have hg0 : 0 ≤ 2 * (cc - tt) + (if decide (c < 0) = true then 1 else 0) := by
                split <;> omega
              generalize 2 * (cc - tt) + (if decide (c < 0) = true then 1 else 0) = gg at hg0 ⊢
              refine r_fdiv hm (by omega) ?_
              walk_at "go"
              refine q_set k2.pen rfl ?_
              have k3 : KP P H (upd H2 P.p (penO P (s + 1) (gg / m))) (s + 1) (gg / m) := k2.set
              walk_at "go"
              refine r_mod hm ?_
              walk_at "go"
              exact fin (Int.emod_nonneg _ (by omega)) (Int.emod_lt_of_pos _ hm) k3 (by omega) (by omega) (Int.ediv_nonneg hg0 (by omega))
            · walk_at "go"
              exact hnx _ _ ⟨k2, rfl⟩
          · walk_at "go"
            exact hnx _ _ ⟨k2, rfl⟩
        · rintro σ' H3 ⟨k3, rfl⟩
          walk_at "go"
          refine r_mod (by decide) ?_
          walk_at "go"
          refine r_mI (wm (n := 64) (m := 64) (by omega) (by omega)) ?_
          walk_at "go"
          have c0 := Int.emod_nonneg c (show (2147483399 : Int) ≠ 0 by decide)
          have c1 := Int.emod_lt_of_pos c (show (0 : Int) < 2147483399 by decide)
          refine r_pow (by decide) (by omega) ?_
          walk_at "go"
          refine r_mod (by decide) ?_
          walk_at "go"
          generalize hx : (c % 2147483399 + 61231 * s + 877) ^ (5 : Int).toNat = x1
          have x0 := Int.emod_nonneg x1 (show (2147483353 : Int) ≠ 0 by decide)
          have x2 := Int.emod_lt_of_pos x1 (show (0 : Int) < 2147483353 by decide)
          generalize x1 % 2147483353 = mx at x0 x2 ⊢
          refine r_mI (wm (n := 64) (m := 64) (by omega) (by omega)) ?_
          walk_at "go"
          refine r_mI (wm (n := 64) (m := 64) (by omega) (by omega)) ?_
          walk_at "go"
          refine r_mI (wm (n := 64) (m := 64) (by omega) (by omega)) ?_
          walk_at "go"
          refine r_mI (wm (n := 64) (m := 64) (by omega) (by omega)) ?_
          walk_at "go"
          have b1 := mulB (a := mx) (b := 2 * s + 163) (x := 2147483353) (y := 200173) x0 (by omega) (by omega) (by omega)
          have b2 := mulB (a := 541 * s) (b := s) (x := 54100000) (y := 100000) (by omega) (by omega) (by omega) (by omega)
          refine r_pow (by decide) (by omega) ?_
          walk_at "go"
          refine r_mod (by decide) ?_
          walk_at "go"
          refine r_fdiv (by decide) (by decide) ?_
          walk_at "go"
          refine r_mod hm ?_
          walk_at "go"
          exact fin (Int.emod_nonneg _ (by omega)) (Int.emod_lt_of_pos _ hm) k3 (by omega) (by omega) hr0
abbrev st_law_pick : Stmt := top 29
theorem sc_law_pick : FnScope ["pen", "some"] ["pen", "some"] (defScope st_law_pick) := ⟨rfl, rfl, rfl, by decide +kernel, rfl, by decide +kernel, by decide +kernel⟩
def sp_law_pick (K : PySem.W.Frag) (D : Ad) : Sp := fun vs H Q _ => ∃ (P : Pen) (n : Nat) (y : V), vs = [.ref P.p, y] ∧ PenAt P n H ∧ n ≤ 99000 ∧ ((∃ (a : Addr) (xs : List V), y = .ref a ∧ H a = some (.lst xs) ∧ a ≠ P.p ∧ 0 < xs.length ∧ xs.length ≤ 1000000 ∧
  ∀ (j : Nat) x H', xs[j]? = some x → KeepB P H H' → PenAt P (n + 1) H' → Q x H') ∨ (∃ w : List Nat, y = .str (S w) ∧ 0 < w.length ∧ w.length ≤ 1000000 ∧ ∀ c H', c ∈ w → KeepB P H H' → PenAt P (n + 1) H' → Q (.str (S [c])) H'))
theorem ok_law_pick {f : Addr} {fd : FuncData} (F : Fun K "_law_pick" "_law_pick" st_law_pick f fd) (T : Txt P w K mg base D) (d_law_draw : CalN P w K mg base 1 "_law_draw" (sp_law_draw K D)) : FnOk P w K mg base CX0 2 f fd ["pen", "some"] (sp_law_pick K D) := by
  refine F.ok sc_law_pick (fun vs H Q E h => ?_) (fun cdv A outer s H vs Q E hr h => ?_)
  · obtain ⟨P, n, y, rfl, _⟩ := h
    rfl
  · obtain ⟨P, n, y, rfl, hP, hn, h⟩ := h
    have hu := hr.units
    refine ⟨_, (pss_one (ps_ret (pe_ix (ix_seqK (K := K)) (pv 1) (pe_c0 d_law_draw hr (by decide) (pa_cons (pv 0) (pa_cons (pe_callB (id := "len") (call_lenB (K := K)) (by rfl) T.b_len PySem.boot_len (pa_cons (pv 1) pa_nil)) pa_nil))) (fun _ _ => rfl)))), ?_⟩
    rcases h with ⟨a, xs, rfl, ha, hap, h0, hl, q⟩ | ⟨w, rfl, h0, hl, q⟩
    · walk_at "go"
      refine q_lenL (SqL.of ha) ?_
      walk_at "go"
      refine ⟨P, n, _, rfl, hP, by omega, by omega, by omega, fun d H' h1 h2 k hP' => ?_⟩
      obtain ⟨j, rfl⟩ := Int.eq_ofNat_of_zero_le h1
      have hj : j < xs.length := by omega
      have e : xs[j]? = some xs[j] := by simp [hj]
      exact r_ixL (SqL.of (k a _ hap ha)) (atI_nat e) (q j _ H' e k hP')
    · walk_at "go"
      refine q_lenS (by omega) ?_
      walk_at "go"
      refine ⟨P, n, _, rfl, hP, by omega, by omega, by omega, fun d H' h1 h2 k hP' => ?_⟩
      obtain ⟨j, rfl⟩ := Int.eq_ofNat_of_zero_le h1
      have hj : j < w.length := by omega
      have e : w[j]? = some w[j] := by simp [hj]
      exact r_ixS (by omega) (atI_nat e) (q _ H' (List.getElem_mem hj) k hP')
theorem q_pickL_law_pick {H : Hp} {Q : VK} {P : Pen} {n : Nat} {a : Addr} {xs : List V} (hP : PenAt P n H) (hn : n ≤ 99000) (ha : H a = some (.lst xs)) (hap : a ≠ P.p) (h0 : 0 < xs.length) (hl : xs.length ≤ 1000000) (q : ∀ (j : Nat) x H', xs[j]? = some x → KeepB P H H' → PenAt P (n + 1) H' → Q x H') : sp_law_pick K D [.ref P.p, .ref a] H Q E0 :=
  ⟨P, n, _, rfl, hP, hn, .inl ⟨a, xs, rfl, ha, hap, h0, hl, q⟩⟩
theorem q_pickS_law_pick {H : Hp} {Q : VK} {P : Pen} {n : Nat} {w : List Nat} (hP : PenAt P n H) (hn : n ≤ 99000) (h0 : 0 < w.length) (hl : w.length ≤ 1000000) (q : ∀ c H', c ∈ w → KeepB P H H' → PenAt P (n + 1) H' → Q (.str (S [c])) H') : sp_law_pick K D [.ref P.p, .str (S w)] H Q E0 :=
  ⟨P, n, _, rfl, hP, hn, .inr ⟨w, rfl, h0, hl, q⟩⟩
end
end Cs


set_option Elab.async false
set_option linter.all false
set_option maxRecDepth 100000
set_option maxHeartbeats 4000000
namespace Cs
open PySem PySem.Spec PyProof.Rows L2 LamX
local macro_rules | `(tactic| walk_at "base") => `(tactic| with_reducible (first
  | refine r_seq ?_ | refine r_asg ?_ | refine r_gname ?_ | refine r_ret ?_ | refine r_drop ?_ | refine r_next ?_ | refine r_retN ?_ | refine r_fld ?_ | refine r_gsub ?_ | refine r_brk ?_ | refine r_cont ?_
  | refine r_var rfl ?_ | refine r_c ?_ | refine r_op ?_ | refine r_un ?_ | refine r_test ?_ | refine r_tB ?_ | refine r_bl ?_ | refine r_blv ?_
  | refine r_cons ?_ | refine r_nil ?_ | refine r_lc ?_ | refine r_yes ?_ | refine r_iLT0 ?_ | refine r_iEnumS ?_ | refine r_iEnum ?_ | refine r_iStr ?_ | refine r_iList ?_ | refine r_iRng ?_ | refine r_iRng2 ?_ | refine r_iRng3 ?_ | refine r_iStrS ?_ | refine r_iStrE ?_ | refine r_cb ?_ | refine r_call0 ?_ | refine r_callS ?_ | refine r_callK ?_ | refine r_tup ?_ | refine r_lst ?_ | refine r_make0 ?_ | refine r_attr ?_
  | refine r_err0 ?_ | refine r_err ?_ | refine r_errK ?_ | refine r_lstB ?_ | refine r_sl ?_ | refine r_nopart ?_ | refine r_part ?_ | refine r_parti ?_ | refine r_tyS ?_ | refine r_bm0 ?_ | refine r_bm ?_ | refine r_dnew ?_
  | refine r_and ?_ | refine r_or ?_ | refine r_not ?_ | refine r_andV ?_ | refine r_orV ?_ | refine r_notV ?_ | refine r_if ?_ | refine r_ift ?_ | refine r_iff ?_ | refine r_revL ?_ | refine r_ntt ?_ | refine r_nff ?_ | refine r_itup ?_ | refine r_chain ?_
  | refine r_I0 ?_ | refine r_U ?_ | refine r_addI ?_ | refine r_eqI ?_ | refine r_neI ?_ | refine r_eqS ?_ | refine r_neS ?_ | refine r_eqB ?_ | refine r_neB ?_ | refine r_inS ?_ | refine r_niS ?_ | refine r_int1 ?_ | refine r_abs ?_ | refine r_isN ?_ | refine r_notN ?_
  | refine r_intB ?_ | refine r_max ?_ | refine r_strS ?_ | refine r_isB ?_ | refine r_notB ?_ | refine r_notBI ?_ | refine r_revS ?_ | refine r_sta ?_ | refine r_metA ?_ | refine r_mK1 ?_ | refine r_mD ?_ | refine r_iOwn ?_ | refine r_aug rfl ?_ | refine r_ipI ?_ | refine r_par ?_ | refine r_vw ?_))
local macro_rules | `(tactic| walk_at "ends") => `(tactic| with_reducible (first | refine r_nx ?_ | refine r_rt ?_ | refine r_ct ?_ | refine r_bk ?_))
local macro_rules | `(tactic| walk_at "two") => `(tactic| first | walk_at "base" | walk_at "ends")
local macro_rules | `(tactic| walk_at "one") => `(tactic| first | walk_at "base" | with_reducible (first | refine r_ifs ?_ | refine r_forE ?_) | walk_at "ends")
local macro_rules | `(tactic| walk_at "go") => `(tactic| repeat walk_at "one")
local macro_rules | `(tactic| walk_at "gp") => `(tactic| repeat walk_at "two")

section
variable {P : Program} {w : World} {K : PySem.W.Frag} {mg : Str → Option Value} {base : Heap} {D : Ad}

abbrev st_law_values : Stmt := top 31
theorem sc_law_values : FnScope ["pen", "number", "some", "turn"] ["pen"] (defScope st_law_values) := ⟨rfl, rfl, rfl, by decide +kernel, rfl, by decide +kernel, by decide +kernel⟩
def sp_law_values (K : PySem.W.Frag) (D : Ad) : Sp := fun vs H Q _ => ∃ (P : Pen) (n : Nat), vs = [.ref P.p] ∧ PenAt P n H ∧ n ≤ 80000 ∧ ∀ p xs H', KeepB P H H' → PenAt P (n + 10) H' → H p = none → H' p = some (.lst xs) → p ≠ P.p → xs.length = 12 → (∀ x ∈ xs, ∃ d, Vk H' x d) → Q (.ref p) H'
theorem ok_law_values {f : Addr} {fd : FuncData} (F : Fun K "_law_values" "_law_values" st_law_values f fd) (T : Txt P w K mg base D) (d_law_draw : CalN P w K mg base 1 "_law_draw" (sp_law_draw K D)) (d_law_pick : CalN P w K mg base 2 "_law_pick" (sp_law_pick K D)) : FnOk P w K mg base CX0 3 f fd ["pen"] (sp_law_values K D) := by
  refine F.ok sc_law_values (fun vs H Q E h => ?_) (fun cdv A outer s H vs Q E hr h => ?_)
  · obtain ⟨P, n, rfl, _⟩ := h
    rfl
  · obtain ⟨P, n, rfl, hP, hn, q⟩ := h
    have hu := hr.units
    refine ⟨_, (pss_cons (ps_asg (pe_op op_sub (pe_c0 d_law_draw hr (by decide) (pa_cons (pv 0) (pa_cons (pe_op op_pow pe_int pe_int) pa_nil))) (pe_op op_mulB pe_int (pe_op op_pow pe_int pe_int))) (pg_name (i := 1) sc_law_values.nd rfl (Or.inl rfl)))
      (pss_cons (ps_asg (pe_lst (pa_cons pe_non (pa_cons pe_bl (pa_cons pe_bl (pa_cons (pv 1) (pa_cons pe_int (pa_cons (pe_un un_neg pe_int) (pa_cons pe_int (pa_cons (pe_S (w := []) (by decide +kernel)) (pa_cons (pe_S (w := [65]) (by decide +kernel)) (pa_cons (pe_S (w := [97]) (by decide +kernel)) (pa_cons (pe_S (w := [100]) (by decide +kernel)) (pa_cons (pe_S (w := [68]) (by decide +kernel)) (pa_cons (pe_S (w := [65, 66]) (by decide +kernel)) (pa_cons (pe_S (w := [69]) (by decide +kernel)) (pa_cons (pe_S (w := [32]) (by decide +kernel)) (pa_cons (pe_S (w := [97, 98]) (by decide +kernel)) (pa_cons (pe_lstB (pa_cons (pe_S (w := [65]) (by decide +kernel)) pa_nil)) (pa_cons (pe_tup (pa_cons (pe_S (w := [65]) (by decide +kernel)) pa_nil)) (pa_cons (pe_lstB pa_nil) (pa_cons pe_dnewK pa_nil))))))))))))))))))))) (pg_name (i := 2) sc_law_values.nd rfl (Or.inr rfl)))
      (pss_one (ps_ret (pe_op op_addA (pe_lc (own := [("turn", 3)]) (g := gName 3) (tt := tYes) rfl sc_law_values.nd (pi_range1 rfl T.b_range (pa_cons pe_int pa_nil)) (blkOk_by (N := ["pen", "number", "some", "turn"]) (sc := defScope st_law_values) (by decide +kernel)) (fun _ _ _ _ _ => (pg_name (i := 3) sc_law_values.nd rfl (Or.inl rfl))) (fun _ _ _ _ _ => pts_nil) (fun _ _ _ _ _ => (pe_c0 d_law_pick hr (by decide) (pa_cons (pv 0) (pa_cons (pv 2) pa_nil))))) (pe_lst (pa_cons (pv 1) (pa_cons (pe_S (w := [66]) (by decide +kernel)) (pa_cons pe_bl pa_nil))))))))), ?_⟩
    walk_at "go"
    refine r_pow (by decide) (by decide) ?_
    walk_at "go"
    refine ⟨P, n, _, rfl, hP, by omega, by decide, by decide, fun dd H1 h1 h2 k1 P1 => ?_⟩
    walk_at "go"
    refine r_pow (by decide) (by decide) ?_
    walk_at "go"
    refine r_mI (wm (n := 64) (m := 64) (by decide) (by decide)) ?_
    walk_at "go"
    generalize hnum : dd - 5 * (10 : Int) ^ (11 : Int).toNat = num
    have hnum2 : num.natAbs ≤ 1000000000000 := by
      have e1 : (10 : Int) ^ (11 : Int).toNat = 100000000000 := by decide
      have e2 : (10 : Int) ^ (12 : Int).toNat = 1000000000000 := by decide
      rw [e1] at hnum
      rw [e2] at h2
      omega
    clear hnum
    refine r_sz (by simp) fun l1 hl1 nl1 => ?_
    walk_at "go"
    refine r_sz (by simp) fun l2 hl2 => ?_
    walk_at "go"
    refine r_sz (by simp) fun l3 hl3 nl3 => ?_
    walk_at "go"
    intro l4 hl4
    walk_at "go"
    refine r_sz (by simp) fun l5 hl5 => ?_
    walk_at "go"
    have s1 := same_upd (o := .lst [V.str (S [65])]) hl1
    have s2 := s1.trans (same_upd (o := .tup [V.str (S [65])]) hl2)
    have s3 := s2.trans (same_upd (o := .lst []) hl3)
    have s4 := s3.trans (same_upd (o := .dK []) hl4)
    generalize hxs : ([V.non, .bl true, .bl false, .int num, .int 0, .int (-1), .int 1, .str (S []), .str (S [65]), .str (S [97]), .str (S [100]), .str (S [68]), .str (S [65, 66]), .str (S [69]), .str (S [32]), .str (S [97, 98]), .ref l1, .ref l2, .ref l3, .ref l4] : List V) = some_
    have hs5 := same_upd (o := .lst some_) hl5
    have e1 := ((((same_upd (o := .tup [V.str (S [65])]) hl2).trans (same_upd (o := .lst []) hl3)).trans (same_upd (o := .dK []) hl4)).trans hs5) _ _ (upd_same (H := H1) (a := l1) (o := .lst [V.str (S [65])]))
    have e2 := (((same_upd (o := .lst []) hl3).trans (same_upd (o := .dK []) hl4)).trans hs5) _ _ (upd_same (a := l2) (o := .tup [V.str (S [65])]))
    have e3 := ((same_upd (o := .dK []) hl4).trans hs5) _ _ (upd_same (a := l3) (o := .lst []))
    have e4 := hs5 _ _ (upd_same (a := l4) (o := .dK []))
    have s5 := s4.trans hs5
    have n5 : P.p ≠ l5 ∧ P.c ≠ l5 := (P1.same s4).ne_new hl5
    have P5 := P1.same s5
    have k5 : KeepB P H _ := k1.trans (KeepB.of_same s5)
    have e5 : upd (upd (upd (upd (upd H1 l1 (.lst [V.str (S [65])])) l2 (.tup [V.str (S [65])])) l3 (.lst [])) l4 (.dK [])) l5 (.lst some_) l5 = some (.lst some_) := upd_same
    generalize upd (upd (upd (upd (upd H1 l1 (.lst [V.str (S [65])])) l2 (.tup [V.str (S [65])])) l3 (.lst [])) l4 (.dK [])) l5 (.lst some_) = H5 at e1 e2 e3 e4 s5 P5 k5 e5 ⊢
    have hv : ∀ x ∈ some_, ∃ d, Vk H5 x d := by
      rw [← hxs]
      intro x hx
      simp only [List.mem_cons, List.mem_nil_iff, or_false] at hx
      rcases hx with rfl | rfl | rfl | rfl | rfl | rfl | rfl | rfl | rfl | rfl | rfl | rfl | rfl | rfl | rfl | rfl | rfl | rfl | rfl | rfl
      · exact ⟨_, .non⟩
      · exact ⟨_, .bl _⟩
      · exact ⟨_, .bl _⟩
      · exact ⟨_, .int _ hnum2⟩
      · exact ⟨_, .int _ (by decide)⟩
      · exact ⟨_, .int _ (by decide)⟩
      · exact ⟨_, .int _ (by decide)⟩
      all_goals first
        | exact ⟨_, .str _ (by decide)⟩
        | exact ⟨_, .lst e1 nl1⟩
        | exact ⟨_, .tup e2⟩
        | exact ⟨_, .nil e3 nl3⟩
        | exact ⟨_, .dk e4⟩
    have hlen : some_.length = 20 := by rw [← hxs]; rfl
    refine ⟨9, rfl, by decide, by decide, fun Dl hDl => ?_⟩
    obtain ⟨nD1, nD2⟩ := P5.ne_new hDl
    refine lcG (its := (List.range 9).map fun i => V.int (i : Nat)) walk_range0 (fun i acc H' => KeepB P H5 H' ∧ PenAt P (n + 1 + i) H' ∧ acc.length = i ∧ ∀ x ∈ acc, ∃ d, Vk H5 x d) ⟨KeepB.of_same (same_upd hDl), P5.same (same_upd hDl), rfl, fun c hc => by cases hc⟩ (fun _ _ _ _ _ _ => trivial) ?_ ?_
    · rintro i x acc H6 hx ⟨k6, P6, hl, ha⟩ e6
      have hi : i < 9 := by have := its_lt hx; simpa using this
      walk_at "go"
      refine q_pickL_law_pick (K := K) (D := D) P6 (by omega) (k6 _ _ n5.1.symm e5) n5.1.symm (by omega) (by omega) fun j y H7 hy k7 P7 => ?_
      refine lcFin (Pv := fun acc H' => KeepB P H5 H' ∧ PenAt P (n + 1 + (i + 1)) H' ∧ acc.length = i + 1 ∧ ∀ x ∈ acc, ∃ d, Vk H5 x d) (k7 _ _ nD1.symm e6) (by omega) ⟨(k6.trans k7).mut hDl, (P7.at nD1 nD2).mono (by omega), by simp [hl], fun x hx => ?_⟩
      rcases List.mem_append.mp hx with hx | hx
      · exact ha x hx
      · rw [List.mem_singleton.mp hx]
        exact hv y (List.mem_of_getElem? hy)
    · rintro acc H6 ⟨k6, P6, hl, ha⟩ e6
      rw [List.length_map, List.length_range] at hl P6
      walk_at "go"
      refine r_sz (by simp) fun l7 hl7 => ?_
      walk_at "go"
      have s7 := same_upd (o := .lst [V.int num, .str (S [66]), .bl true]) hl7
      refine r_addL (s7 _ _ e6) upd_same (by simp; omega) fun l8 hl8 => ?_
      have s8 := s7.trans (same_upd (o := .lst (acc ++ [V.int num, .str (S [66]), .bl true])) hl8)
      have k8 := k6.trans (KeepB.of_same s8)
      have P8 := P6.same s8
      refine q l8 _ _ (k5.trans k8) (P8.mono (by omega)) ?_ upd_same ((P6.same s7).ne_new hl8).1.symm (by simp; omega) fun x hx => ?_
      · exact (k5.trans (k6.trans (KeepB.of_same s7))).free hl8 (P6.same s7)
      · have hvk : ∀ {x d}, Vk H5 x d → Vk (upd (upd H6 l7 (.lst [V.int num, .str (S [66]), .bl true])) l8 (.lst (acc ++ [V.int num, .str (S [66]), .bl true]))) x d := fun h => vk_keep P5 k8 h
        rcases List.mem_append.mp hx with hx | hx
        · obtain ⟨d, h⟩ := ha x hx
          exact ⟨d, hvk h⟩
        · simp only [List.mem_cons, List.mem_nil_iff, or_false] at hx
          rcases hx with rfl | rfl | rfl
          · exact ⟨_, .int _ hnum2⟩
          · exact ⟨_, .str _ (by decide)⟩
          · exact ⟨_, .bl _⟩
end
end Cs


set_option Elab.async false
set_option linter.all false
set_option maxRecDepth 100000
set_option maxHeartbeats 4000000
namespace Cs
open PySem PySem.Spec PyProof.Rows L2 LamX
local macro_rules | `(tactic| walk_at "base") => `(tactic| with_reducible (first
  | refine r_seq ?_ | refine r_asg ?_ | refine r_gname ?_ | refine r_ret ?_ | refine r_drop ?_ | refine r_next ?_ | refine r_retN ?_ | refine r_fld ?_ | refine r_gsub ?_ | refine r_brk ?_ | refine r_cont ?_
  | refine r_var rfl ?_ | refine r_c ?_ | refine r_op ?_ | refine r_un ?_ | refine r_test ?_ | refine r_tB ?_ | refine r_bl ?_ | refine r_blv ?_
  | refine r_cons ?_ | refine r_nil ?_ | refine r_lc ?_ | refine r_yes ?_ | refine r_iLT0 ?_ | refine r_iEnumS ?_ | refine r_iEnum ?_ | refine r_iStr ?_ | refine r_iList ?_ | refine r_iRng ?_ | refine r_iRng2 ?_ | refine r_iRng3 ?_ | refine r_iStrS ?_ | refine r_iStrE ?_ | refine r_cb ?_ | refine r_call0 ?_ | refine r_callS ?_ | refine r_callK ?_ | refine r_tup ?_ | refine r_lst ?_ | refine r_make0 ?_ | refine r_attr ?_
  | refine r_err0 ?_ | refine r_err ?_ | refine r_errK ?_ | refine r_lstB ?_ | refine r_sl ?_ | refine r_nopart ?_ | refine r_part ?_ | refine r_parti ?_ | refine r_tyS ?_ | refine r_bm0 ?_ | refine r_bm ?_ | refine r_dnew ?_
  | refine r_and ?_ | refine r_or ?_ | refine r_not ?_ | refine r_andV ?_ | refine r_orV ?_ | refine r_notV ?_ | refine r_if ?_ | refine r_ift ?_ | refine r_iff ?_ | refine r_revL ?_ | refine r_ntt ?_ | refine r_nff ?_ | refine r_itup ?_ | refine r_chain ?_
  | refine r_I0 ?_ | refine r_U ?_ | refine r_addI ?_ | refine r_eqI ?_ | refine r_neI ?_ | refine r_eqS ?_ | refine r_neS ?_ | refine r_eqB ?_ | refine r_neB ?_ | refine r_inS ?_ | refine r_niS ?_ | refine r_int1 ?_ | refine r_abs ?_ | refine r_isN ?_ | refine r_notN ?_
  | refine r_intB ?_ | refine r_max ?_ | refine r_strS ?_ | refine r_isB ?_ | refine r_notB ?_ | refine r_notBI ?_ | refine r_revS ?_ | refine r_sta ?_ | refine r_metA ?_ | refine r_mK1 ?_ | refine r_mD ?_ | refine r_iOwn ?_ | refine r_aug rfl ?_ | refine r_ipI ?_ | refine r_par ?_ | refine r_vw ?_))
local macro_rules | `(tactic| walk_at "ends") => `(tactic| with_reducible (first | refine r_nx ?_ | refine r_rt ?_ | refine r_ct ?_ | refine r_bk ?_))
local macro_rules | `(tactic| walk_at "two") => `(tactic| first | walk_at "base" | walk_at "ends")
local macro_rules | `(tactic| walk_at "one") => `(tactic| first | walk_at "base" | with_reducible (first | refine r_ifs ?_ | refine r_forE ?_) | walk_at "ends")
local macro_rules | `(tactic| walk_at "go") => `(tactic| repeat walk_at "one")
local macro_rules | `(tactic| walk_at "gp") => `(tactic| repeat walk_at "two")

section
variable {P : Program} {w : World} {K : PySem.W.Frag} {mg : Str → Option Value} {base : Heap} {D : Ad}

abbrev st_law_is_number : Stmt := top 36
theorem sc_law_is_number : FnScope ["value"] ["value"] (defScope st_law_is_number) := ⟨rfl, rfl, rfl, by decide +kernel, rfl, by decide +kernel, by decide +kernel⟩
def sp_law_is_number (K : PySem.W.Frag) (D : Ad) : Sp := fun vs H Q _ => ∃ x d, vs = [x] ∧ Vk H x d ∧ Q (.bl (isI d && !isB d)) H
theorem ok_law_is_number {f : Addr} {fd : FuncData} (F : Fun K "_law_is_number" "_law_is_number" st_law_is_number f fd) (T : Txt P w K mg base D) : FnOk P w K mg base CX0 1 f fd ["value"] (sp_law_is_number K D) := by
  refine F.ok sc_law_is_number (fun vs H Q E h => ?_) (fun cdv A outer s H vs Q E hr h => ?_)
  · obtain ⟨x, d, rfl, _⟩ := h
    rfl
  · obtain ⟨x, d, rfl, hv, q⟩ := h
    have hu := hr.units
    refine ⟨_, (pss_one (ps_ret (pe_and (pe_callB (id := "isinstance") (call_isiEK (K := K)) (by rfl) T.b_isinstance (by decide +kernel) (pa_cons (pv 0) (pa_cons (pe_bltn (v := .ty "int") rfl T.b_int (by decide +kernel) rfl) pa_nil))) (pe_and (pe_cmpR op_notBI (pv 0) pe_bl (nomark _)) (pe_one (pe_cmpR op_notBI (pv 0) pe_bl (nomark _))))))), ?_⟩
    obtain ⟨v1, v2, v3⟩ := vk_is (K := K) hv
    walk_at "go"
    refine r_isK (.ty "int") v1 ?_
    walk_at "go"
    cases hv with
    | int n h =>
      refine r_it rfl ?_
      walk_at "go"
      exact q
    | bl b =>
      refine r_it rfl ?_
      walk_at "go"
      cases b with
      | true => exact r_ie rfl q
      | false =>
        refine r_it rfl ?_
        walk_at "go"
        exact q
    | non => exact r_ie rfl q
    | str w h => exact r_ie rfl q
    | lst h n => exact r_ie rfl q
    | tup h => exact r_ie rfl q
    | nil h n => exact r_ie rfl q
    | dk h => exact r_ie rfl q
abbrev st_law_told : Stmt := top 37
theorem sc_law_told : FnScope ["told", "due"] ["told", "due"] (defScope st_law_told) := ⟨rfl, rfl, rfl, by decide +kernel, rfl, by decide +kernel, by decide +kernel⟩
def sp_law_told (K : PySem.W.Frag) (D : Ad) : Sp := fun vs H Q _ => ∃ a b : Bool, vs = [.bl a, .bl b] ∧ Q (.bl (decide (a = b))) H
theorem ok_law_told {f : Addr} {fd : FuncData} (F : Fun K "_law_told" "_law_told" st_law_told f fd) (T : Txt P w K mg base D) : FnOk P w K mg base CX0 1 f fd ["told", "due"] (sp_law_told K D) := by
  refine F.ok sc_law_told (fun vs H Q E h => ?_) (fun cdv A outer s H vs Q E hr h => ?_)
  · obtain ⟨a, b, rfl, _⟩ := h
    rfl
  · obtain ⟨a, b, rfl, q⟩ := h
    have hu := hr.units
    refine ⟨_, (pss_one (ps_ret (pe_ifExp (pt_val (pv 1)) (pe_cmpR op_isBI (pv 0) pe_bl (nomark _)) (pe_cmpR op_isBI (pv 0) pe_bl (nomark _))))), ?_⟩
    walk_at "go"
    cases b with
    | true =>
      walk_at "go"
      exact q
    | false =>
      walk_at "go"
      exact q
/-! ### the classes of errors -/
def errCs (D : Ad) : List Addr := [D.BadNumber, D.BadPoint, D.BadTurn, D.BadMachine, D.BadPiece, D.BadLot, D.BadPaper, D.BadWord, D.BadLetter, D.Thin, D.TooMany, D.BadText, D.BadName, D.NoName, D.Twice, D.BadLine, D.Nothing, D.NoWay]
/-- of the i-th class, by isinstance -/
def Kinds (K : PySem.W.Frag) (D : Ad) (i : Nat) (C : Addr) : Prop := ∀ (j : Nat) (Cj : Addr), (errCs D)[j]? = some Cj → PySem.W.kitOne K (.ref C) (.ref Cj) = some (decide (i = j))
/-- an error, with its dict or without one -/
structure ErrW (K : PySem.W.Frag) (H : Hp) (a C : Addr) : Prop where
  isAt : ∃ d, H a = some (EXV (.ref C) d a) ∧ ∀ dd, d = some dd → ∃ fs, H dd = some (.xd fs)
  xi : XiC K C
theorem errW_same {H H' : Hp} {a C : Addr} (e : Same H H') (h : ErrW K H a C) : ErrW K H' a C := ⟨let ⟨d, h1, h2⟩ := h.isAt; ⟨d, e _ _ h1, fun dd z => let ⟨fs, q⟩ := h2 dd z; ⟨fs, e _ _ q⟩⟩, h.xi⟩
theorem errW_is {H : Hp} {a C : Addr} {u : Value} {b : Bool} (h : ErrW K H a C) (k : PySem.W.kitOne K (.ref C) u = some b) : IsK K H (.ref a) u b := let ⟨d, h1, h2⟩ := h.isAt; .inr ⟨a, C, d, rfl, h1, h2, h.xi, k⟩
def kindsL (i : Nat) : List Bool := (List.range 18).map fun j => decide (i = j)
abbrev st_law_kinds : Stmt := top 34
theorem sc_law_kinds : FnScope ["error", "found"] ["error"] (defScope st_law_kinds) := ⟨rfl, rfl, rfl, by decide +kernel, rfl, by decide +kernel, by decide +kernel⟩
def sp_law_kinds (K : PySem.W.Frag) (D : Ad) : Sp := fun vs H Q _ => ∃ (a C : Addr) (i : Nat), vs = [.ref a] ∧ ErrW K H a C ∧ Kinds K D i C ∧ ∀ p H', Same H H' → H' p = some (.lst ((kindsL i).map V.bl)) → Q (.ref p) H'
theorem ok_law_kinds {f : Addr} {fd : FuncData} (F : Fun K "_law_kinds" "_law_kinds" st_law_kinds f fd) (T : Txt P w K mg base D) : FnOk P w K mg base CX0 1 f fd ["error"] (sp_law_kinds K D) := by
  refine F.ok sc_law_kinds (fun vs H Q E h => ?_) (fun cdv A outer s H vs Q E hr h => ?_)
  · obtain ⟨a, C, i, rfl, _⟩ := h
    rfl
  · obtain ⟨a, C, i, rfl, he, hk, q⟩ := h
    have hu := hr.units
    refine ⟨_, (pss_cons (ps_asg (pe_lst (pa_cons (pe_callB (id := "isinstance") (call_isiEK (K := K)) (by rfl) T.b_isinstance (by decide +kernel) (pa_cons (pv 0) (pa_cons (pe_glob (v := .ref D.BadNumber) rfl T.c_BadNumber rfl) pa_nil))) (pa_cons (pe_callB (id := "isinstance") (call_isiEK (K := K)) (by rfl) T.b_isinstance (by decide +kernel) (pa_cons (pv 0) (pa_cons (pe_glob (v := .ref D.BadPoint) rfl T.c_BadPoint rfl) pa_nil))) (pa_cons (pe_callB (id := "isinstance") (call_isiEK (K := K)) (by rfl) T.b_isinstance (by decide +kernel) (pa_cons (pv 0) (pa_cons (pe_glob (v := .ref D.BadTurn) rfl T.c_BadTurn rfl) pa_nil))) pa_nil)))) (pg_name (i := 1) sc_law_kinds.nd rfl (Or.inl rfl)))
      (pss_cons (ps_asg (pe_op op_addA (pv 1) (pe_lst (pa_cons (pe_callB (id := "isinstance") (call_isiEK (K := K)) (by rfl) T.b_isinstance (by decide +kernel) (pa_cons (pv 0) (pa_cons (pe_glob (v := .ref D.BadMachine) rfl T.c_BadMachine rfl) pa_nil))) (pa_cons (pe_callB (id := "isinstance") (call_isiEK (K := K)) (by rfl) T.b_isinstance (by decide +kernel) (pa_cons (pv 0) (pa_cons (pe_glob (v := .ref D.BadPiece) rfl T.c_BadPiece rfl) pa_nil))) (pa_cons (pe_callB (id := "isinstance") (call_isiEK (K := K)) (by rfl) T.b_isinstance (by decide +kernel) (pa_cons (pv 0) (pa_cons (pe_glob (v := .ref D.BadLot) rfl T.c_BadLot rfl) pa_nil))) pa_nil))))) (pg_name (i := 1) sc_law_kinds.nd rfl (Or.inl rfl)))
      (pss_cons (ps_asg (pe_op op_addA (pv 1) (pe_lst (pa_cons (pe_callB (id := "isinstance") (call_isiEK (K := K)) (by rfl) T.b_isinstance (by decide +kernel) (pa_cons (pv 0) (pa_cons (pe_glob (v := .ref D.BadPaper) rfl T.c_BadPaper rfl) pa_nil))) (pa_cons (pe_callB (id := "isinstance") (call_isiEK (K := K)) (by rfl) T.b_isinstance (by decide +kernel) (pa_cons (pv 0) (pa_cons (pe_glob (v := .ref D.BadWord) rfl T.c_BadWord rfl) pa_nil))) (pa_cons (pe_callB (id := "isinstance") (call_isiEK (K := K)) (by rfl) T.b_isinstance (by decide +kernel) (pa_cons (pv 0) (pa_cons (pe_glob (v := .ref D.BadLetter) rfl T.c_BadLetter rfl) pa_nil))) pa_nil))))) (pg_name (i := 1) sc_law_kinds.nd rfl (Or.inl rfl)))
      (pss_cons (ps_asg (pe_op op_addA (pv 1) (pe_lst (pa_cons (pe_callB (id := "isinstance") (call_isiEK (K := K)) (by rfl) T.b_isinstance (by decide +kernel) (pa_cons (pv 0) (pa_cons (pe_glob (v := .ref D.Thin) rfl T.c_Thin rfl) pa_nil))) (pa_cons (pe_callB (id := "isinstance") (call_isiEK (K := K)) (by rfl) T.b_isinstance (by decide +kernel) (pa_cons (pv 0) (pa_cons (pe_glob (v := .ref D.TooMany) rfl T.c_TooMany rfl) pa_nil))) (pa_cons (pe_callB (id := "isinstance") (call_isiEK (K := K)) (by rfl) T.b_isinstance (by decide +kernel) (pa_cons (pv 0) (pa_cons (pe_glob (v := .ref D.BadText) rfl T.c_BadText rfl) pa_nil))) pa_nil))))) (pg_name (i := 1) sc_law_kinds.nd rfl (Or.inl rfl)))
      (pss_cons (ps_asg (pe_op op_addA (pv 1) (pe_lst (pa_cons (pe_callB (id := "isinstance") (call_isiEK (K := K)) (by rfl) T.b_isinstance (by decide +kernel) (pa_cons (pv 0) (pa_cons (pe_glob (v := .ref D.BadName) rfl T.c_BadName rfl) pa_nil))) (pa_cons (pe_callB (id := "isinstance") (call_isiEK (K := K)) (by rfl) T.b_isinstance (by decide +kernel) (pa_cons (pv 0) (pa_cons (pe_glob (v := .ref D.NoName) rfl T.c_NoName rfl) pa_nil))) (pa_cons (pe_callB (id := "isinstance") (call_isiEK (K := K)) (by rfl) T.b_isinstance (by decide +kernel) (pa_cons (pv 0) (pa_cons (pe_glob (v := .ref D.Twice) rfl T.c_Twice rfl) pa_nil))) pa_nil))))) (pg_name (i := 1) sc_law_kinds.nd rfl (Or.inl rfl)))
      (pss_one (ps_ret (pe_op op_addA (pv 1) (pe_lst (pa_cons (pe_callB (id := "isinstance") (call_isiEK (K := K)) (by rfl) T.b_isinstance (by decide +kernel) (pa_cons (pv 0) (pa_cons (pe_glob (v := .ref D.BadLine) rfl T.c_BadLine rfl) pa_nil))) (pa_cons (pe_callB (id := "isinstance") (call_isiEK (K := K)) (by rfl) T.b_isinstance (by decide +kernel) (pa_cons (pv 0) (pa_cons (pe_glob (v := .ref D.Nothing) rfl T.c_Nothing rfl) pa_nil))) (pa_cons (pe_callB (id := "isinstance") (call_isiEK (K := K)) (by rfl) T.b_isinstance (by decide +kernel) (pa_cons (pv 0) (pa_cons (pe_glob (v := .ref D.NoWay) rfl T.c_NoWay rfl) pa_nil))) pa_nil)))))))))))), ?_⟩
    have hi : ∀ {H' : Hp} (j : Nat) (Cj : Addr), Same H H' → (errCs D)[j]? = some Cj → IsK K H' (.ref a) (.ref Cj) (decide (i = j)) := fun j Cj s e => errW_is (errW_same s he) (hk j Cj e)
    have s0 : Same H H := Same.refl _
    walk_at "go"
    refine r_isK (.own D.BadNumber) (hi 0 _ s0 rfl) ?_
    walk_at "go"
    refine r_isK (.own D.BadPoint) (hi 1 _ s0 rfl) ?_
    walk_at "go"
    refine r_isK (.own D.BadTurn) (hi 2 _ s0 rfl) ?_
    walk_at "go"
    refine r_sz (by simp) fun l0 hl0 => ?_
    have t0 := s0.trans (same_upd (o := .lst [V.bl (decide (i = 0)), V.bl (decide (i = 1)), V.bl (decide (i = 2))]) hl0)
    walk_at "go"
    let M0 := upd H l0 (.lst [V.bl (decide (i = 0)), V.bl (decide (i = 1)), V.bl (decide (i = 2))])
    have f0 := upd_same (H := H) (a := l0) (o := .lst [V.bl (decide (i = 0)), V.bl (decide (i = 1)), V.bl (decide (i = 2))])
    walk_at "go"
    refine r_isK (.own D.BadMachine) (hi 3 _ t0 rfl) ?_
    walk_at "go"
    refine r_isK (.own D.BadPiece) (hi 4 _ t0 rfl) ?_
    walk_at "go"
    refine r_isK (.own D.BadLot) (hi 5 _ t0 rfl) ?_
    walk_at "go"
    refine r_sz (by simp) fun l1 hl1 => ?_
    let G1 := (upd M0 l1 (.lst [V.bl (decide (i = 3)), V.bl (decide (i = 4)), V.bl (decide (i = 5))]))
    have t1 := t0.trans (same_upd (o := .lst [V.bl (decide (i = 3)), V.bl (decide (i = 4)), V.bl (decide (i = 5))]) hl1)
    walk_at "go"
    refine r_addL ((same_upd (o := .lst [V.bl (decide (i = 3)), V.bl (decide (i = 4)), V.bl (decide (i = 5))]) hl1) _ _ f0) upd_same (by simp) fun m1 hm1 => ?_
    let M1 := upd G1 m1 (.lst ([V.bl (decide (i = 0)), V.bl (decide (i = 1)), V.bl (decide (i = 2))] ++ [V.bl (decide (i = 3)), V.bl (decide (i = 4)), V.bl (decide (i = 5))]))
    have u1 := t1.trans (same_upd (o := .lst ([V.bl (decide (i = 0)), V.bl (decide (i = 1)), V.bl (decide (i = 2))] ++ [V.bl (decide (i = 3)), V.bl (decide (i = 4)), V.bl (decide (i = 5))])) hm1)
    have f1 := upd_same (H := G1) (a := m1) (o := .lst ([V.bl (decide (i = 0)), V.bl (decide (i = 1)), V.bl (decide (i = 2))] ++ [V.bl (decide (i = 3)), V.bl (decide (i = 4)), V.bl (decide (i = 5))]))
    walk_at "go"
    refine r_isK (.own D.BadPaper) (hi 6 _ u1 rfl) ?_
    walk_at "go"
    refine r_isK (.own D.BadWord) (hi 7 _ u1 rfl) ?_
    walk_at "go"
    refine r_isK (.own D.BadLetter) (hi 8 _ u1 rfl) ?_
    walk_at "go"
    refine r_sz (by simp) fun l2 hl2 => ?_
    let G2 := (upd M1 l2 (.lst [V.bl (decide (i = 6)), V.bl (decide (i = 7)), V.bl (decide (i = 8))]))
    have t2 := u1.trans (same_upd (o := .lst [V.bl (decide (i = 6)), V.bl (decide (i = 7)), V.bl (decide (i = 8))]) hl2)
    walk_at "go"
    refine r_addL ((same_upd (o := .lst [V.bl (decide (i = 6)), V.bl (decide (i = 7)), V.bl (decide (i = 8))]) hl2) _ _ f1) upd_same (by simp) fun m2 hm2 => ?_
    let M2 := upd G2 m2 (.lst ([V.bl (decide (i = 0)), V.bl (decide (i = 1)), V.bl (decide (i = 2)), V.bl (decide (i = 3)), V.bl (decide (i = 4)), V.bl (decide (i = 5))] ++ [V.bl (decide (i = 6)), V.bl (decide (i = 7)), V.bl (decide (i = 8))]))
    have u2 := t2.trans (same_upd (o := .lst ([V.bl (decide (i = 0)), V.bl (decide (i = 1)), V.bl (decide (i = 2)), V.bl (decide (i = 3)), V.bl (decide (i = 4)), V.bl (decide (i = 5))] ++ [V.bl (decide (i = 6)), V.bl (decide (i = 7)), V.bl (decide (i = 8))])) hm2)
    have f2 := upd_same (H := G2) (a := m2) (o := .lst ([V.bl (decide (i = 0)), V.bl (decide (i = 1)), V.bl (decide (i = 2)), V.bl (decide (i = 3)), V.bl (decide (i = 4)), V.bl (decide (i = 5))] ++ [V.bl (decide (i = 6)), V.bl (decide (i = 7)), V.bl (decide (i = 8))]))
    walk_at "go"
    refine r_isK (.own D.Thin) (hi 9 _ u2 rfl) ?_
    walk_at "go"
    refine r_isK (.own D.TooMany) (hi 10 _ u2 rfl) ?_
    walk_at "go"
    refine r_isK (.own D.BadText) (hi 11 _ u2 rfl) ?_
    walk_at "go"
    refine r_sz (by simp) fun l3 hl3 => ?_
    let G3 := (upd M2 l3 (.lst [V.bl (decide (i = 9)), V.bl (decide (i = 10)), V.bl (decide (i = 11))]))
    have t3 := u2.trans (same_upd (o := .lst [V.bl (decide (i = 9)), V.bl (decide (i = 10)), V.bl (decide (i = 11))]) hl3)
    walk_at "go"
    refine r_addL ((same_upd (o := .lst [V.bl (decide (i = 9)), V.bl (decide (i = 10)), V.bl (decide (i = 11))]) hl3) _ _ f2) upd_same (by simp) fun m3 hm3 => ?_
    let M3 := upd G3 m3 (.lst ([V.bl (decide (i = 0)), V.bl (decide (i = 1)), V.bl (decide (i = 2)), V.bl (decide (i = 3)), V.bl (decide (i = 4)), V.bl (decide (i = 5)), V.bl (decide (i = 6)), V.bl (decide (i = 7)), V.bl (decide (i = 8))] ++ [V.bl (decide (i = 9)), V.bl (decide (i = 10)), V.bl (decide (i = 11))]))
    have u3 := t3.trans (same_upd (o := .lst ([V.bl (decide (i = 0)), V.bl (decide (i = 1)), V.bl (decide (i = 2)), V.bl (decide (i = 3)), V.bl (decide (i = 4)), V.bl (decide (i = 5)), V.bl (decide (i = 6)), V.bl (decide (i = 7)), V.bl (decide (i = 8))] ++ [V.bl (decide (i = 9)), V.bl (decide (i = 10)), V.bl (decide (i = 11))])) hm3)
    have f3 := upd_same (H := G3) (a := m3) (o := .lst ([V.bl (decide (i = 0)), V.bl (decide (i = 1)), V.bl (decide (i = 2)), V.bl (decide (i = 3)), V.bl (decide (i = 4)), V.bl (decide (i = 5)), V.bl (decide (i = 6)), V.bl (decide (i = 7)), V.bl (decide (i = 8))] ++ [V.bl (decide (i = 9)), V.bl (decide (i = 10)), V.bl (decide (i = 11))]))
    walk_at "go"
    refine r_isK (.own D.BadName) (hi 12 _ u3 rfl) ?_
    walk_at "go"
    refine r_isK (.own D.NoName) (hi 13 _ u3 rfl) ?_
    walk_at "go"
    refine r_isK (.own D.Twice) (hi 14 _ u3 rfl) ?_
    walk_at "go"
    refine r_sz (by simp) fun l4 hl4 => ?_
    let G4 := (upd M3 l4 (.lst [V.bl (decide (i = 12)), V.bl (decide (i = 13)), V.bl (decide (i = 14))]))
    have t4 := u3.trans (same_upd (o := .lst [V.bl (decide (i = 12)), V.bl (decide (i = 13)), V.bl (decide (i = 14))]) hl4)
    walk_at "go"
    refine r_addL ((same_upd (o := .lst [V.bl (decide (i = 12)), V.bl (decide (i = 13)), V.bl (decide (i = 14))]) hl4) _ _ f3) upd_same (by simp) fun m4 hm4 => ?_
    let M4 := upd G4 m4 (.lst ([V.bl (decide (i = 0)), V.bl (decide (i = 1)), V.bl (decide (i = 2)), V.bl (decide (i = 3)), V.bl (decide (i = 4)), V.bl (decide (i = 5)), V.bl (decide (i = 6)), V.bl (decide (i = 7)), V.bl (decide (i = 8)), V.bl (decide (i = 9)), V.bl (decide (i = 10)), V.bl (decide (i = 11))] ++ [V.bl (decide (i = 12)), V.bl (decide (i = 13)), V.bl (decide (i = 14))]))
    have u4 := t4.trans (same_upd (o := .lst ([V.bl (decide (i = 0)), V.bl (decide (i = 1)), V.bl (decide (i = 2)), V.bl (decide (i = 3)), V.bl (decide (i = 4)), V.bl (decide (i = 5)), V.bl (decide (i = 6)), V.bl (decide (i = 7)), V.bl (decide (i = 8)), V.bl (decide (i = 9)), V.bl (decide (i = 10)), V.bl (decide (i = 11))] ++ [V.bl (decide (i = 12)), V.bl (decide (i = 13)), V.bl (decide (i = 14))])) hm4)
    have f4 := upd_same (H := G4) (a := m4) (o := .lst ([V.bl (decide (i = 0)), V.bl (decide (i = 1)), V.bl (decide (i = 2)), V.bl (decide (i = 3)), V.bl (decide (i = 4)), V.bl (decide (i = 5)), V.bl (decide (i = 6)), V.bl (decide (i = 7)), V.bl (decide (i = 8)), V.bl (decide (i = 9)), V.bl (decide (i = 10)), V.bl (decide (i = 11))] ++ [V.bl (decide (i = 12)), V.bl (decide (i = 13)), V.bl (decide (i = 14))]))
    walk_at "go"
    refine r_isK (.own D.BadLine) (hi 15 _ u4 rfl) ?_
    walk_at "go"
    refine r_isK (.own D.Nothing) (hi 16 _ u4 rfl) ?_
    walk_at "go"
    refine r_isK (.own D.NoWay) (hi 17 _ u4 rfl) ?_
    walk_at "go"
    refine r_sz (by simp) fun l5 hl5 => ?_
    let G5 := (upd M4 l5 (.lst [V.bl (decide (i = 15)), V.bl (decide (i = 16)), V.bl (decide (i = 17))]))
    have t5 := u4.trans (same_upd (o := .lst [V.bl (decide (i = 15)), V.bl (decide (i = 16)), V.bl (decide (i = 17))]) hl5)
    walk_at "go"
    refine r_addL ((same_upd (o := .lst [V.bl (decide (i = 15)), V.bl (decide (i = 16)), V.bl (decide (i = 17))]) hl5) _ _ f4) upd_same (by simp) fun m5 hm5 => ?_
    let M5 := upd G5 m5 (.lst ([V.bl (decide (i = 0)), V.bl (decide (i = 1)), V.bl (decide (i = 2)), V.bl (decide (i = 3)), V.bl (decide (i = 4)), V.bl (decide (i = 5)), V.bl (decide (i = 6)), V.bl (decide (i = 7)), V.bl (decide (i = 8)), V.bl (decide (i = 9)), V.bl (decide (i = 10)), V.bl (decide (i = 11)), V.bl (decide (i = 12)), V.bl (decide (i = 13)), V.bl (decide (i = 14))] ++ [V.bl (decide (i = 15)), V.bl (decide (i = 16)), V.bl (decide (i = 17))]))
    have u5 := t5.trans (same_upd (o := .lst ([V.bl (decide (i = 0)), V.bl (decide (i = 1)), V.bl (decide (i = 2)), V.bl (decide (i = 3)), V.bl (decide (i = 4)), V.bl (decide (i = 5)), V.bl (decide (i = 6)), V.bl (decide (i = 7)), V.bl (decide (i = 8)), V.bl (decide (i = 9)), V.bl (decide (i = 10)), V.bl (decide (i = 11)), V.bl (decide (i = 12)), V.bl (decide (i = 13)), V.bl (decide (i = 14))] ++ [V.bl (decide (i = 15)), V.bl (decide (i = 16)), V.bl (decide (i = 17))])) hm5)
    have f5 := upd_same (H := G5) (a := m5) (o := .lst ([V.bl (decide (i = 0)), V.bl (decide (i = 1)), V.bl (decide (i = 2)), V.bl (decide (i = 3)), V.bl (decide (i = 4)), V.bl (decide (i = 5)), V.bl (decide (i = 6)), V.bl (decide (i = 7)), V.bl (decide (i = 8)), V.bl (decide (i = 9)), V.bl (decide (i = 10)), V.bl (decide (i = 11)), V.bl (decide (i = 12)), V.bl (decide (i = 13)), V.bl (decide (i = 14))] ++ [V.bl (decide (i = 15)), V.bl (decide (i = 16)), V.bl (decide (i = 17))]))
    exact q _ _ u5 f5
theorem kinds_all (T : Txt P w K mg base D) : ∀ (i : Nat) (C : Addr), (errCs D)[i]? = some C → Kinds K D i C := by
  intro i C hi j Cj hj
  match i, hi with
  | 0, hi =>
    cases hi
    match j, hj with
    | 0, hj => cases hj; exact T.k_BadNumber_BadNumber
    | 1, hj => cases hj; exact T.k_BadNumber_BadPoint
    | 2, hj => cases hj; exact T.k_BadNumber_BadTurn
    | 3, hj => cases hj; exact T.k_BadNumber_BadMachine
    | 4, hj => cases hj; exact T.k_BadNumber_BadPiece
    | 5, hj => cases hj; exact T.k_BadNumber_BadLot
    | 6, hj => cases hj; exact T.k_BadNumber_BadPaper
    | 7, hj => cases hj; exact T.k_BadNumber_BadWord
    | 8, hj => cases hj; exact T.k_BadNumber_BadLetter
    | 9, hj => cases hj; exact T.k_BadNumber_Thin
    | 10, hj => cases hj; exact T.k_BadNumber_TooMany
    | 11, hj => cases hj; exact T.k_BadNumber_BadText
    | 12, hj => cases hj; exact T.k_BadNumber_BadName
    | 13, hj => cases hj; exact T.k_BadNumber_NoName
    | 14, hj => cases hj; exact T.k_BadNumber_Twice
    | 15, hj => cases hj; exact T.k_BadNumber_BadLine
    | 16, hj => cases hj; exact T.k_BadNumber_Nothing
    | 17, hj => cases hj; exact T.k_BadNumber_NoWay
    | j + 18, hj => cases hj
  | 1, hi =>
    cases hi
    match j, hj with
    | 0, hj => cases hj; exact T.k_BadPoint_BadNumber
    | 1, hj => cases hj; exact T.k_BadPoint_BadPoint
    | 2, hj => cases hj; exact T.k_BadPoint_BadTurn
    | 3, hj => cases hj; exact T.k_BadPoint_BadMachine
    | 4, hj => cases hj; exact T.k_BadPoint_BadPiece
    | 5, hj => cases hj; exact T.k_BadPoint_BadLot
    | 6, hj => cases hj; exact T.k_BadPoint_BadPaper
    | 7, hj => cases hj; exact T.k_BadPoint_BadWord
    | 8, hj => cases hj; exact T.k_BadPoint_BadLetter
    | 9, hj => cases hj; exact T.k_BadPoint_Thin
    | 10, hj => cases hj; exact T.k_BadPoint_TooMany
    | 11, hj => cases hj; exact T.k_BadPoint_BadText
    | 12, hj => cases hj; exact T.k_BadPoint_BadName
    | 13, hj => cases hj; exact T.k_BadPoint_NoName
    | 14, hj => cases hj; exact T.k_BadPoint_Twice
    | 15, hj => cases hj; exact T.k_BadPoint_BadLine
    | 16, hj => cases hj; exact T.k_BadPoint_Nothing
    | 17, hj => cases hj; exact T.k_BadPoint_NoWay
    | j + 18, hj => cases hj
  | 2, hi =>
    cases hi
    match j, hj with
    | 0, hj => cases hj; exact T.k_BadTurn_BadNumber
    | 1, hj => cases hj; exact T.k_BadTurn_BadPoint
    | 2, hj => cases hj; exact T.k_BadTurn_BadTurn
    | 3, hj => cases hj; exact T.k_BadTurn_BadMachine
    | 4, hj => cases hj; exact T.k_BadTurn_BadPiece
    | 5, hj => cases hj; exact T.k_BadTurn_BadLot
    | 6, hj => cases hj; exact T.k_BadTurn_BadPaper
    | 7, hj => cases hj; exact T.k_BadTurn_BadWord
    | 8, hj => cases hj; exact T.k_BadTurn_BadLetter
    | 9, hj => cases hj; exact T.k_BadTurn_Thin
    | 10, hj => cases hj; exact T.k_BadTurn_TooMany
    | 11, hj => cases hj; exact T.k_BadTurn_BadText
    | 12, hj => cases hj; exact T.k_BadTurn_BadName
    | 13, hj => cases hj; exact T.k_BadTurn_NoName
    | 14, hj => cases hj; exact T.k_BadTurn_Twice
    | 15, hj => cases hj; exact T.k_BadTurn_BadLine
    | 16, hj => cases hj; exact T.k_BadTurn_Nothing
    | 17, hj => cases hj; exact T.k_BadTurn_NoWay
    | j + 18, hj => cases hj
  | 3, hi =>
    cases hi
    match j, hj with
    | 0, hj => cases hj; exact T.k_BadMachine_BadNumber
    | 1, hj => cases hj; exact T.k_BadMachine_BadPoint
    | 2, hj => cases hj; exact T.k_BadMachine_BadTurn
    | 3, hj => cases hj; exact T.k_BadMachine_BadMachine
    | 4, hj => cases hj; exact T.k_BadMachine_BadPiece
    | 5, hj => cases hj; exact T.k_BadMachine_BadLot
    | 6, hj => cases hj; exact T.k_BadMachine_BadPaper
    | 7, hj => cases hj; exact T.k_BadMachine_BadWord
    | 8, hj => cases hj; exact T.k_BadMachine_BadLetter
    | 9, hj => cases hj; exact T.k_BadMachine_Thin
    | 10, hj => cases hj; exact T.k_BadMachine_TooMany
    | 11, hj => cases hj; exact T.k_BadMachine_BadText
    | 12, hj => cases hj; exact T.k_BadMachine_BadName
    | 13, hj => cases hj; exact T.k_BadMachine_NoName
    | 14, hj => cases hj; exact T.k_BadMachine_Twice
    | 15, hj => cases hj; exact T.k_BadMachine_BadLine
    | 16, hj => cases hj; exact T.k_BadMachine_Nothing
    | 17, hj => cases hj; exact T.k_BadMachine_NoWay
    | j + 18, hj => cases hj
  | 4, hi =>
    cases hi
    match j, hj with
    | 0, hj => cases hj; exact T.k_BadPiece_BadNumber
    | 1, hj => cases hj; exact T.k_BadPiece_BadPoint
    | 2, hj => cases hj; exact T.k_BadPiece_BadTurn
    | 3, hj => cases hj; exact T.k_BadPiece_BadMachine
    | 4, hj => cases hj; exact T.k_BadPiece_BadPiece
    | 5, hj => cases hj; exact T.k_BadPiece_BadLot
    | 6, hj => cases hj; exact T.k_BadPiece_BadPaper
    | 7, hj => cases hj; exact T.k_BadPiece_BadWord
    | 8, hj => cases hj; exact T.k_BadPiece_BadLetter
    | 9, hj => cases hj; exact T.k_BadPiece_Thin
    | 10, hj => cases hj; exact T.k_BadPiece_TooMany
    | 11, hj => cases hj; exact T.k_BadPiece_BadText
    | 12, hj => cases hj; exact T.k_BadPiece_BadName
    | 13, hj => cases hj; exact T.k_BadPiece_NoName
    | 14, hj => cases hj; exact T.k_BadPiece_Twice
    | 15, hj => cases hj; exact T.k_BadPiece_BadLine
    | 16, hj => cases hj; exact T.k_BadPiece_Nothing
    | 17, hj => cases hj; exact T.k_BadPiece_NoWay
    | j + 18, hj => cases hj
  | 5, hi =>
    cases hi
    match j, hj with
    | 0, hj => cases hj; exact T.k_BadLot_BadNumber
    | 1, hj => cases hj; exact T.k_BadLot_BadPoint
    | 2, hj => cases hj; exact T.k_BadLot_BadTurn
    | 3, hj => cases hj; exact T.k_BadLot_BadMachine
    | 4, hj => cases hj; exact T.k_BadLot_BadPiece
    | 5, hj => cases hj; exact T.k_BadLot_BadLot
    | 6, hj => cases hj; exact T.k_BadLot_BadPaper
    | 7, hj => cases hj; exact T.k_BadLot_BadWord
    | 8, hj => cases hj; exact T.k_BadLot_BadLetter
    | 9, hj => cases hj; exact T.k_BadLot_Thin
    | 10, hj => cases hj; exact T.k_BadLot_TooMany
    | 11, hj => cases hj; exact T.k_BadLot_BadText
    | 12, hj => cases hj; exact T.k_BadLot_BadName
    | 13, hj => cases hj; exact T.k_BadLot_NoName
    | 14, hj => cases hj; exact T.k_BadLot_Twice
    | 15, hj => cases hj; exact T.k_BadLot_BadLine
    | 16, hj => cases hj; exact T.k_BadLot_Nothing
    | 17, hj => cases hj; exact T.k_BadLot_NoWay
    | j + 18, hj => cases hj
  | 6, hi =>
    cases hi
    match j, hj with
    | 0, hj => cases hj; exact T.k_BadPaper_BadNumber
    | 1, hj => cases hj; exact T.k_BadPaper_BadPoint
    | 2, hj => cases hj; exact T.k_BadPaper_BadTurn
    | 3, hj => cases hj; exact T.k_BadPaper_BadMachine
    | 4, hj => cases hj; exact T.k_BadPaper_BadPiece
    | 5, hj => cases hj; exact T.k_BadPaper_BadLot
    | 6, hj => cases hj; exact T.k_BadPaper_BadPaper
    | 7, hj => cases hj; exact T.k_BadPaper_BadWord
    | 8, hj => cases hj; exact T.k_BadPaper_BadLetter
    | 9, hj => cases hj; exact T.k_BadPaper_Thin
    | 10, hj => cases hj; exact T.k_BadPaper_TooMany
    | 11, hj => cases hj; exact T.k_BadPaper_BadText
    | 12, hj => cases hj; exact T.k_BadPaper_BadName
    | 13, hj => cases hj; exact T.k_BadPaper_NoName
    | 14, hj => cases hj; exact T.k_BadPaper_Twice
    | 15, hj => cases hj; exact T.k_BadPaper_BadLine
    | 16, hj => cases hj; exact T.k_BadPaper_Nothing
    | 17, hj => cases hj; exact T.k_BadPaper_NoWay
    | j + 18, hj => cases hj
  | 7, hi =>
    cases hi
    match j, hj with
    | 0, hj => cases hj; exact T.k_BadWord_BadNumber
    | 1, hj => cases hj; exact T.k_BadWord_BadPoint
    | 2, hj => cases hj; exact T.k_BadWord_BadTurn
    | 3, hj => cases hj; exact T.k_BadWord_BadMachine
    | 4, hj => cases hj; exact T.k_BadWord_BadPiece
    | 5, hj => cases hj; exact T.k_BadWord_BadLot
    | 6, hj => cases hj; exact T.k_BadWord_BadPaper
    | 7, hj => cases hj; exact T.k_BadWord_BadWord
    | 8, hj => cases hj; exact T.k_BadWord_BadLetter
    | 9, hj => cases hj; exact T.k_BadWord_Thin
    | 10, hj => cases hj; exact T.k_BadWord_TooMany
    | 11, hj => cases hj; exact T.k_BadWord_BadText
    | 12, hj => cases hj; exact T.k_BadWord_BadName
    | 13, hj => cases hj; exact T.k_BadWord_NoName
    | 14, hj => cases hj; exact T.k_BadWord_Twice
    | 15, hj => cases hj; exact T.k_BadWord_BadLine
    | 16, hj => cases hj; exact T.k_BadWord_Nothing
    | 17, hj => cases hj; exact T.k_BadWord_NoWay
    | j + 18, hj => cases hj
  | 8, hi =>
    cases hi
    match j, hj with
    | 0, hj => cases hj; exact T.k_BadLetter_BadNumber
    | 1, hj => cases hj; exact T.k_BadLetter_BadPoint
    | 2, hj => cases hj; exact T.k_BadLetter_BadTurn
    | 3, hj => cases hj; exact T.k_BadLetter_BadMachine
    | 4, hj => cases hj; exact T.k_BadLetter_BadPiece
    | 5, hj => cases hj; exact T.k_BadLetter_BadLot
    | 6, hj => cases hj; exact T.k_BadLetter_BadPaper
    | 7, hj => cases hj; exact T.k_BadLetter_BadWord
    | 8, hj => cases hj; exact T.k_BadLetter_BadLetter
    | 9, hj => cases hj; exact T.k_BadLetter_Thin
    | 10, hj => cases hj; exact T.k_BadLetter_TooMany
    | 11, hj => cases hj; exact T.k_BadLetter_BadText
    | 12, hj => cases hj; exact T.k_BadLetter_BadName
    | 13, hj => cases hj; exact T.k_BadLetter_NoName
    | 14, hj => cases hj; exact T.k_BadLetter_Twice
    | 15, hj => cases hj; exact T.k_BadLetter_BadLine
    | 16, hj => cases hj; exact T.k_BadLetter_Nothing
    | 17, hj => cases hj; exact T.k_BadLetter_NoWay
    | j + 18, hj => cases hj
  | 9, hi =>
    cases hi
    match j, hj with
    | 0, hj => cases hj; exact T.k_Thin_BadNumber
    | 1, hj => cases hj; exact T.k_Thin_BadPoint
    | 2, hj => cases hj; exact T.k_Thin_BadTurn
    | 3, hj => cases hj; exact T.k_Thin_BadMachine
    | 4, hj => cases hj; exact T.k_Thin_BadPiece
    | 5, hj => cases hj; exact T.k_Thin_BadLot
    | 6, hj => cases hj; exact T.k_Thin_BadPaper
    | 7, hj => cases hj; exact T.k_Thin_BadWord
    | 8, hj => cases hj; exact T.k_Thin_BadLetter
    | 9, hj => cases hj; exact T.k_Thin_Thin
    | 10, hj => cases hj; exact T.k_Thin_TooMany
    | 11, hj => cases hj; exact T.k_Thin_BadText
    | 12, hj => cases hj; exact T.k_Thin_BadName
    | 13, hj => cases hj; exact T.k_Thin_NoName
    | 14, hj => cases hj; exact T.k_Thin_Twice
    | 15, hj => cases hj; exact T.k_Thin_BadLine
    | 16, hj => cases hj; exact T.k_Thin_Nothing
    | 17, hj => cases hj; exact T.k_Thin_NoWay
    | j + 18, hj => cases hj
  | 10, hi =>
    cases hi
    match j, hj with
    | 0, hj => cases hj; exact T.k_TooMany_BadNumber
    | 1, hj => cases hj; exact T.k_TooMany_BadPoint
    | 2, hj => cases hj; exact T.k_TooMany_BadTurn
    | 3, hj => cases hj; exact T.k_TooMany_BadMachine
    | 4, hj => cases hj; exact T.k_TooMany_BadPiece
    | 5, hj => cases hj; exact T.k_TooMany_BadLot
    | 6, hj => cases hj; exact T.k_TooMany_BadPaper
    | 7, hj => cases hj; exact T.k_TooMany_BadWord
    | 8, hj => cases hj; exact T.k_TooMany_BadLetter
    | 9, hj => cases hj; exact T.k_TooMany_Thin
    | 10, hj => cases hj; exact T.k_TooMany_TooMany
    | 11, hj => cases hj; exact T.k_TooMany_BadText
    | 12, hj => cases hj; exact T.k_TooMany_BadName
    | 13, hj => cases hj; exact T.k_TooMany_NoName
    | 14, hj => cases hj; exact T.k_TooMany_Twice
    | 15, hj => cases hj; exact T.k_TooMany_BadLine
    | 16, hj => cases hj; exact T.k_TooMany_Nothing
    | 17, hj => cases hj; exact T.k_TooMany_NoWay
    | j + 18, hj => cases hj
  | 11, hi =>
    cases hi
    match j, hj with
    | 0, hj => cases hj; exact T.k_BadText_BadNumber
    | 1, hj => cases hj; exact T.k_BadText_BadPoint
    | 2, hj => cases hj; exact T.k_BadText_BadTurn
    | 3, hj => cases hj; exact T.k_BadText_BadMachine
    | 4, hj => cases hj; exact T.k_BadText_BadPiece
    | 5, hj => cases hj; exact T.k_BadText_BadLot
    | 6, hj => cases hj; exact T.k_BadText_BadPaper
    | 7, hj => cases hj; exact T.k_BadText_BadWord
    | 8, hj => cases hj; exact T.k_BadText_BadLetter
    | 9, hj => cases hj; exact T.k_BadText_Thin
    | 10, hj => cases hj; exact T.k_BadText_TooMany
    | 11, hj => cases hj; exact T.k_BadText_BadText
    | 12, hj => cases hj; exact T.k_BadText_BadName
    | 13, hj => cases hj; exact T.k_BadText_NoName
    | 14, hj => cases hj; exact T.k_BadText_Twice
    | 15, hj => cases hj; exact T.k_BadText_BadLine
    | 16, hj => cases hj; exact T.k_BadText_Nothing
    | 17, hj => cases hj; exact T.k_BadText_NoWay
    | j + 18, hj => cases hj
  | 12, hi =>
    cases hi
    match j, hj with
    | 0, hj => cases hj; exact T.k_BadName_BadNumber
    | 1, hj => cases hj; exact T.k_BadName_BadPoint
    | 2, hj => cases hj; exact T.k_BadName_BadTurn
    | 3, hj => cases hj; exact T.k_BadName_BadMachine
    | 4, hj => cases hj; exact T.k_BadName_BadPiece
    | 5, hj => cases hj; exact T.k_BadName_BadLot
    | 6, hj => cases hj; exact T.k_BadName_BadPaper
    | 7, hj => cases hj; exact T.k_BadName_BadWord
    | 8, hj => cases hj; exact T.k_BadName_BadLetter
    | 9, hj => cases hj; exact T.k_BadName_Thin
    | 10, hj => cases hj; exact T.k_BadName_TooMany
    | 11, hj => cases hj; exact T.k_BadName_BadText
    | 12, hj => cases hj; exact T.k_BadName_BadName
    | 13, hj => cases hj; exact T.k_BadName_NoName
    | 14, hj => cases hj; exact T.k_BadName_Twice
    | 15, hj => cases hj; exact T.k_BadName_BadLine
    | 16, hj => cases hj; exact T.k_BadName_Nothing
    | 17, hj => cases hj; exact T.k_BadName_NoWay
    | j + 18, hj => cases hj
  | 13, hi =>
    cases hi
    match j, hj with
    | 0, hj => cases hj; exact T.k_NoName_BadNumber
    | 1, hj => cases hj; exact T.k_NoName_BadPoint
    | 2, hj => cases hj; exact T.k_NoName_BadTurn
    | 3, hj => cases hj; exact T.k_NoName_BadMachine
    | 4, hj => cases hj; exact T.k_NoName_BadPiece
    | 5, hj => cases hj; exact T.k_NoName_BadLot
    | 6, hj => cases hj; exact T.k_NoName_BadPaper
    | 7, hj => cases hj; exact T.k_NoName_BadWord
    | 8, hj => cases hj; exact T.k_NoName_BadLetter
    | 9, hj => cases hj; exact T.k_NoName_Thin
    | 10, hj => cases hj; exact T.k_NoName_TooMany
    | 11, hj => cases hj; exact T.k_NoName_BadText
    | 12, hj => cases hj; exact T.k_NoName_BadName
    | 13, hj => cases hj; exact T.k_NoName_NoName
    | 14, hj => cases hj; exact T.k_NoName_Twice
    | 15, hj => cases hj; exact T.k_NoName_BadLine
    | 16, hj => cases hj; exact T.k_NoName_Nothing
    | 17, hj => cases hj; exact T.k_NoName_NoWay
    | j + 18, hj => cases hj
  | 14, hi =>
    cases hi
    match j, hj with
    | 0, hj => cases hj; exact T.k_Twice_BadNumber
    | 1, hj => cases hj; exact T.k_Twice_BadPoint
    | 2, hj => cases hj; exact T.k_Twice_BadTurn
    | 3, hj => cases hj; exact T.k_Twice_BadMachine
    | 4, hj => cases hj; exact T.k_Twice_BadPiece
    | 5, hj => cases hj; exact T.k_Twice_BadLot
    | 6, hj => cases hj; exact T.k_Twice_BadPaper
    | 7, hj => cases hj; exact T.k_Twice_BadWord
    | 8, hj => cases hj; exact T.k_Twice_BadLetter
    | 9, hj => cases hj; exact T.k_Twice_Thin
    | 10, hj => cases hj; exact T.k_Twice_TooMany
    | 11, hj => cases hj; exact T.k_Twice_BadText
    | 12, hj => cases hj; exact T.k_Twice_BadName
    | 13, hj => cases hj; exact T.k_Twice_NoName
    | 14, hj => cases hj; exact T.k_Twice_Twice
    | 15, hj => cases hj; exact T.k_Twice_BadLine
    | 16, hj => cases hj; exact T.k_Twice_Nothing
    | 17, hj => cases hj; exact T.k_Twice_NoWay
    | j + 18, hj => cases hj
  | 15, hi =>
    cases hi
    match j, hj with
    | 0, hj => cases hj; exact T.k_BadLine_BadNumber
    | 1, hj => cases hj; exact T.k_BadLine_BadPoint
    | 2, hj => cases hj; exact T.k_BadLine_BadTurn
    | 3, hj => cases hj; exact T.k_BadLine_BadMachine
    | 4, hj => cases hj; exact T.k_BadLine_BadPiece
    | 5, hj => cases hj; exact T.k_BadLine_BadLot
    | 6, hj => cases hj; exact T.k_BadLine_BadPaper
    | 7, hj => cases hj; exact T.k_BadLine_BadWord
    | 8, hj => cases hj; exact T.k_BadLine_BadLetter
    | 9, hj => cases hj; exact T.k_BadLine_Thin
    | 10, hj => cases hj; exact T.k_BadLine_TooMany
    | 11, hj => cases hj; exact T.k_BadLine_BadText
    | 12, hj => cases hj; exact T.k_BadLine_BadName
    | 13, hj => cases hj; exact T.k_BadLine_NoName
    | 14, hj => cases hj; exact T.k_BadLine_Twice
    | 15, hj => cases hj; exact T.k_BadLine_BadLine
    | 16, hj => cases hj; exact T.k_BadLine_Nothing
    | 17, hj => cases hj; exact T.k_BadLine_NoWay
    | j + 18, hj => cases hj
  | 16, hi =>
    cases hi
    match j, hj with
    | 0, hj => cases hj; exact T.k_Nothing_BadNumber
    | 1, hj => cases hj; exact T.k_Nothing_BadPoint
    | 2, hj => cases hj; exact T.k_Nothing_BadTurn
    | 3, hj => cases hj; exact T.k_Nothing_BadMachine
    | 4, hj => cases hj; exact T.k_Nothing_BadPiece
    | 5, hj => cases hj; exact T.k_Nothing_BadLot
    | 6, hj => cases hj; exact T.k_Nothing_BadPaper
    | 7, hj => cases hj; exact T.k_Nothing_BadWord
    | 8, hj => cases hj; exact T.k_Nothing_BadLetter
    | 9, hj => cases hj; exact T.k_Nothing_Thin
    | 10, hj => cases hj; exact T.k_Nothing_TooMany
    | 11, hj => cases hj; exact T.k_Nothing_BadText
    | 12, hj => cases hj; exact T.k_Nothing_BadName
    | 13, hj => cases hj; exact T.k_Nothing_NoName
    | 14, hj => cases hj; exact T.k_Nothing_Twice
    | 15, hj => cases hj; exact T.k_Nothing_BadLine
    | 16, hj => cases hj; exact T.k_Nothing_Nothing
    | 17, hj => cases hj; exact T.k_Nothing_NoWay
    | j + 18, hj => cases hj
  | 17, hi =>
    cases hi
    match j, hj with
    | 0, hj => cases hj; exact T.k_NoWay_BadNumber
    | 1, hj => cases hj; exact T.k_NoWay_BadPoint
    | 2, hj => cases hj; exact T.k_NoWay_BadTurn
    | 3, hj => cases hj; exact T.k_NoWay_BadMachine
    | 4, hj => cases hj; exact T.k_NoWay_BadPiece
    | 5, hj => cases hj; exact T.k_NoWay_BadLot
    | 6, hj => cases hj; exact T.k_NoWay_BadPaper
    | 7, hj => cases hj; exact T.k_NoWay_BadWord
    | 8, hj => cases hj; exact T.k_NoWay_BadLetter
    | 9, hj => cases hj; exact T.k_NoWay_Thin
    | 10, hj => cases hj; exact T.k_NoWay_TooMany
    | 11, hj => cases hj; exact T.k_NoWay_BadText
    | 12, hj => cases hj; exact T.k_NoWay_BadName
    | 13, hj => cases hj; exact T.k_NoWay_NoName
    | 14, hj => cases hj; exact T.k_NoWay_Twice
    | 15, hj => cases hj; exact T.k_NoWay_BadLine
    | 16, hj => cases hj; exact T.k_NoWay_Nothing
    | 17, hj => cases hj; exact T.k_NoWay_NoWay
    | j + 18, hj => cases hj
  | i + 18, hi => cases hi
theorem xi_all (T : Txt P w K mg base D) : ∀ (i : Nat) (C : Addr), (errCs D)[i]? = some C → XiC K C := by
  intro i C hi
  match i, hi with
  | 0, hi => cases hi; exact T.xi_BadNumber
  | 1, hi => cases hi; exact T.xi_BadPoint
  | 2, hi => cases hi; exact T.xi_BadTurn
  | 3, hi => cases hi; exact T.xi_BadMachine
  | 4, hi => cases hi; exact T.xi_BadPiece
  | 5, hi => cases hi; exact T.xi_BadLot
  | 6, hi => cases hi; exact T.xi_BadPaper
  | 7, hi => cases hi; exact T.xi_BadWord
  | 8, hi => cases hi; exact T.xi_BadLetter
  | 9, hi => cases hi; exact T.xi_Thin
  | 10, hi => cases hi; exact T.xi_TooMany
  | 11, hi => cases hi; exact T.xi_BadText
  | 12, hi => cases hi; exact T.xi_BadName
  | 13, hi => cases hi; exact T.xi_NoName
  | 14, hi => cases hi; exact T.xi_Twice
  | 15, hi => cases hi; exact T.xi_BadLine
  | 16, hi => cases hi; exact T.xi_Nothing
  | 17, hi => cases hi; exact T.xi_NoWay
  | i + 18, hi => cases hi
theorem kit_BallError (T : Txt P w K mg base D) : ∀ (i : Nat) (C : Addr), (errCs D)[i]? = some C → PySem.W.kitOne K (.ref C) (.ref D.BallError) = some true := by
  intro i C hi
  match i, hi with
  | 0, hi => cases hi; exact T.k_BadNumber_BallError
  | 1, hi => cases hi; exact T.k_BadPoint_BallError
  | 2, hi => cases hi; exact T.k_BadTurn_BallError
  | 3, hi => cases hi; exact T.k_BadMachine_BallError
  | 4, hi => cases hi; exact T.k_BadPiece_BallError
  | 5, hi => cases hi; exact T.k_BadLot_BallError
  | 6, hi => cases hi; exact T.k_BadPaper_BallError
  | 7, hi => cases hi; exact T.k_BadWord_BallError
  | 8, hi => cases hi; exact T.k_BadLetter_BallError
  | 9, hi => cases hi; exact T.k_Thin_BallError
  | 10, hi => cases hi; exact T.k_TooMany_BallError
  | 11, hi => cases hi; exact T.k_BadText_BallError
  | 12, hi => cases hi; exact T.k_BadName_BallError
  | 13, hi => cases hi; exact T.k_NoName_BallError
  | 14, hi => cases hi; exact T.k_Twice_BallError
  | 15, hi => cases hi; exact T.k_BadLine_BallError
  | 16, hi => cases hi; exact T.k_Nothing_BallError
  | 17, hi => cases hi; exact T.k_NoWay_BallError
  | i + 18, hi => cases hi
theorem kit_ValueError (T : Txt P w K mg base D) : ∀ (i : Nat) (C : Addr), (errCs D)[i]? = some C → PySem.W.kitOne K (.ref C) (.type "ValueError") = some true := by
  intro i C hi
  match i, hi with
  | 0, hi => cases hi; exact T.k_BadNumber_ValueError
  | 1, hi => cases hi; exact T.k_BadPoint_ValueError
  | 2, hi => cases hi; exact T.k_BadTurn_ValueError
  | 3, hi => cases hi; exact T.k_BadMachine_ValueError
  | 4, hi => cases hi; exact T.k_BadPiece_ValueError
  | 5, hi => cases hi; exact T.k_BadLot_ValueError
  | 6, hi => cases hi; exact T.k_BadPaper_ValueError
  | 7, hi => cases hi; exact T.k_BadWord_ValueError
  | 8, hi => cases hi; exact T.k_BadLetter_ValueError
  | 9, hi => cases hi; exact T.k_Thin_ValueError
  | 10, hi => cases hi; exact T.k_TooMany_ValueError
  | 11, hi => cases hi; exact T.k_BadText_ValueError
  | 12, hi => cases hi; exact T.k_BadName_ValueError
  | 13, hi => cases hi; exact T.k_NoName_ValueError
  | 14, hi => cases hi; exact T.k_Twice_ValueError
  | 15, hi => cases hi; exact T.k_BadLine_ValueError
  | 16, hi => cases hi; exact T.k_Nothing_ValueError
  | 17, hi => cases hi; exact T.k_NoWay_ValueError
  | i + 18, hi => cases hi
theorem kit_LookupError (T : Txt P w K mg base D) : ∀ (i : Nat) (C : Addr), (errCs D)[i]? = some C → PySem.W.kitOne K (.ref C) (.type "LookupError") = some false := by
  intro i C hi
  match i, hi with
  | 0, hi => cases hi; exact T.k_BadNumber_LookupError
  | 1, hi => cases hi; exact T.k_BadPoint_LookupError
  | 2, hi => cases hi; exact T.k_BadTurn_LookupError
  | 3, hi => cases hi; exact T.k_BadMachine_LookupError
  | 4, hi => cases hi; exact T.k_BadPiece_LookupError
  | 5, hi => cases hi; exact T.k_BadLot_LookupError
  | 6, hi => cases hi; exact T.k_BadPaper_LookupError
  | 7, hi => cases hi; exact T.k_BadWord_LookupError
  | 8, hi => cases hi; exact T.k_BadLetter_LookupError
  | 9, hi => cases hi; exact T.k_Thin_LookupError
  | 10, hi => cases hi; exact T.k_TooMany_LookupError
  | 11, hi => cases hi; exact T.k_BadText_LookupError
  | 12, hi => cases hi; exact T.k_BadName_LookupError
  | 13, hi => cases hi; exact T.k_NoName_LookupError
  | 14, hi => cases hi; exact T.k_Twice_LookupError
  | 15, hi => cases hi; exact T.k_BadLine_LookupError
  | 16, hi => cases hi; exact T.k_Nothing_LookupError
  | 17, hi => cases hi; exact T.k_NoWay_LookupError
  | i + 18, hi => cases hi
end
end Cs


set_option Elab.async false
set_option linter.all false
set_option maxRecDepth 100000
set_option maxHeartbeats 4000000
namespace Cs
open PySem PySem.Spec PyProof.Rows L2 LamX
local macro_rules | `(tactic| walk_at "base") => `(tactic| with_reducible (first
  | refine r_seq ?_ | refine r_asg ?_ | refine r_gname ?_ | refine r_ret ?_ | refine r_drop ?_ | refine r_next ?_ | refine r_retN ?_ | refine r_fld ?_ | refine r_gsub ?_ | refine r_brk ?_ | refine r_cont ?_
  | refine r_var rfl ?_ | refine r_c ?_ | refine r_op ?_ | refine r_un ?_ | refine r_test ?_ | refine r_tB ?_ | refine r_bl ?_ | refine r_blv ?_
  | refine r_cons ?_ | refine r_nil ?_ | refine r_lc ?_ | refine r_yes ?_ | refine r_iLT0 ?_ | refine r_iEnumS ?_ | refine r_iEnum ?_ | refine r_iStr ?_ | refine r_iList ?_ | refine r_iRng ?_ | refine r_iRng2 ?_ | refine r_iRng3 ?_ | refine r_iStrS ?_ | refine r_iStrE ?_ | refine r_cb ?_ | refine r_call0 ?_ | refine r_callS ?_ | refine r_callK ?_ | refine r_tup ?_ | refine r_lst ?_ | refine r_make0 ?_ | refine r_attr ?_
  | refine r_err0 ?_ | refine r_err ?_ | refine r_errK ?_ | refine r_lstB ?_ | refine r_sl ?_ | refine r_nopart ?_ | refine r_part ?_ | refine r_parti ?_ | refine r_tyS ?_ | refine r_bm0 ?_ | refine r_bm ?_ | refine r_dnew ?_
  | refine r_and ?_ | refine r_or ?_ | refine r_not ?_ | refine r_andV ?_ | refine r_orV ?_ | refine r_notV ?_ | refine r_if ?_ | refine r_ift ?_ | refine r_iff ?_ | refine r_revL ?_ | refine r_ntt ?_ | refine r_nff ?_ | refine r_itup ?_ | refine r_chain ?_
  | refine r_I0 ?_ | refine r_U ?_ | refine r_addI ?_ | refine r_eqI ?_ | refine r_neI ?_ | refine r_eqS ?_ | refine r_neS ?_ | refine r_eqB ?_ | refine r_neB ?_ | refine r_inS ?_ | refine r_niS ?_ | refine r_int1 ?_ | refine r_abs ?_ | refine r_isN ?_ | refine r_notN ?_
  | refine r_intB ?_ | refine r_max ?_ | refine r_strS ?_ | refine r_isB ?_ | refine r_notB ?_ | refine r_notBI ?_ | refine r_revS ?_ | refine r_sta ?_ | refine r_metA ?_ | refine r_mK1 ?_ | refine r_mD ?_ | refine r_iOwn ?_ | refine r_aug rfl ?_ | refine r_ipI ?_ | refine r_par ?_ | refine r_vw ?_))
local macro_rules | `(tactic| walk_at "ends") => `(tactic| with_reducible (first | refine r_nx ?_ | refine r_rt ?_ | refine r_ct ?_ | refine r_bk ?_))
local macro_rules | `(tactic| walk_at "two") => `(tactic| first | walk_at "base" | walk_at "ends")
local macro_rules | `(tactic| walk_at "one") => `(tactic| first | walk_at "base" | with_reducible (first | refine r_ifs ?_ | refine r_forE ?_) | walk_at "ends")
local macro_rules | `(tactic| walk_at "go") => `(tactic| repeat walk_at "one")
local macro_rules | `(tactic| walk_at "gp") => `(tactic| repeat walk_at "two")

section
variable {P : Program} {w : World} {K : PySem.W.Frag} {mg : Str → Option Value} {base : Heap} {D : Ad}

theorem vk_ok {H : Hp} {x : V} {d : PyData} (h : Vk H x d) : okS d.shown.cps.toList = true := by
  have zs : ∀ w ∈ vstrs, okS (reprText (S w)).cps.toList = true := by decide +kernel
  cases h with
  | non => simp only [PyData.shown]; exact okS_str _
  | bl b => cases b <;> (simp only [PyData.shown]; exact okS_str _)
  | int n h => simp only [PyData.shown]; exact okS_str _
  | str w h => simp only [PyData.shown]; exact zs w h
  | lst h n => decide +kernel
  | tup h => decide +kernel
  | nil h n => decide +kernel
  | dk h => decide +kernel
/-- an error with the field f that holds x -/
structure ErrF (K : PySem.W.Frag) (H : Hp) (a : Addr) (f : Str) (x : V) : Prop where
  ex : ∃ C fs, ErrAt H a C fs ∧ XfF K C f ∧ fs.lookup f = some x
theorem errF_same {H H' : Hp} {a : Addr} {f : Str} {x : V} (e : Same H H') (h : ErrF K H a f x) : ErrF K H' a f x := ⟨let ⟨C, fs, h1, h2, h3⟩ := h.ex; ⟨C, fs, errAt_same e h1, h2, h3⟩⟩
theorem errF_lst {H : Hp} {a l : Addr} {f : Str} {x : V} {xs ys : List V} (e : H l = some (.lst xs)) (h : ErrF K H a f x) : ErrF K (upd H l (.lst ys)) a f x := ⟨let ⟨C, fs, h1, h2, h3⟩ := h.ex; ⟨C, fs, errAt_lst e h1, h2, h3⟩⟩
theorem errF_of {H : Hp} {a C : Addr} {f : Str} {x : V} {fs : List (Str × V)} (h : ErrAt H a C fs) (xf : XfF K C f) (l : fs.lookup f = some x) : ErrF K H a f x := ⟨⟨C, fs, h, xf, l⟩⟩
theorem q_fld {H : Hp} {a : Addr} {f : Str} {x : V} {Q : VK} (h : ErrF K H a f x) (q : Q x H) : rAttr K f (.ref a) H Q := let ⟨C, fs, h1, h2, h3⟩ := h.ex; err_at h1 h2 h3 q
abbrev st_law_parts_right : Stmt := top 32
theorem sc_law_parts_right : FnScope ["value", "made", "named", "one"] ["value"] (defScope st_law_parts_right) := ⟨rfl, rfl, rfl, by decide +kernel, rfl, by decide +kernel, by decide +kernel⟩
def sp_law_parts_right (K : PySem.W.Frag) (D : Ad) : Sp := fun vs H Q _ => ∃ x d, vs = [x] ∧ Vk H x d ∧ ∀ H', Same H H' → Q (.bl true) H'
theorem ok_law_parts_right {f : Addr} {fd : FuncData} (F : Fun K "_law_parts_right" "_law_parts_right" st_law_parts_right f fd) (T : Txt P w K mg base D) : FnOkG P w K mg base CX0 1 f fd ["value"] (sp_law_parts_right K D) := by
  refine F.okG sc_law_parts_right (fun vs H Q E h => ?_) (fun cdv A outer s H vs Q E hr hgd h => ?_)
  · obtain ⟨x, d, rfl, _⟩ := h
    rfl
  · obtain ⟨x, d, rfl, hv, q⟩ := h
    have hu := hr.units
    refine ⟨_, (pss_cons (ps_asg (pe_lst (pa_cons (pe_err T.e_BadNumber hr (by decide) (pa_cons (pv 0) pa_nil) T.c_BadNumber) (pa_cons (pe_err T.e_BadPoint hr (by decide) (pa_cons (pv 0) pa_nil) T.c_BadPoint) (pa_cons (pe_err T.e_BadTurn hr (by decide) (pa_cons (pv 0) pa_nil) T.c_BadTurn) (pa_cons (pe_err T.e_BadMachine hr (by decide) (pa_cons (pv 0) pa_nil) T.c_BadMachine) (pa_cons (pe_err T.e_BadPiece hr (by decide) (pa_cons (pv 0) pa_nil) T.c_BadPiece) (pa_cons (pe_err T.e_BadLot hr (by decide) (pa_cons (pv 0) pa_nil) T.c_BadLot) pa_nil))))))) (pg_name (i := 1) sc_law_parts_right.nd rfl (Or.inl rfl)))
      (pss_cons (ps_expr (pe_bmK (K := K) PySem.F.plainAttrs_list PySem.F.slot_list_append PySem.F.type_list_append mb_append (pv 1) (pa_cons (pe_err T.e_BadPaper hr (by decide) (pa_cons (pv 0) pa_nil) T.c_BadPaper) pa_nil)))
      (pss_cons (ps_asg (pe_lst (pa_cons (pe_errK T.ek_BadNumber_part hr (pk_cons (pv 0) pk_nil) T.c_BadNumber) (pa_cons (pe_errK T.ek_BadPoint_part hr (pk_cons (pv 0) pk_nil) T.c_BadPoint) (pa_cons (pe_errK T.ek_BadTurn_part hr (pk_cons (pv 0) pk_nil) T.c_BadTurn) (pa_cons (pe_errK T.ek_BadMachine_part hr (pk_cons (pv 0) pk_nil) T.c_BadMachine) pa_nil))))) (pg_name (i := 2) sc_law_parts_right.nd rfl (Or.inl rfl)))
      (pss_cons (ps_asg (pe_op op_addA (pv 2) (pe_lst (pa_cons (pe_errK T.ek_BadPiece_part hr (pk_cons (pv 0) pk_nil) T.c_BadPiece) (pa_cons (pe_errK T.ek_BadLot_part hr (pk_cons (pv 0) pk_nil) T.c_BadLot) (pa_cons (pe_errK T.ek_BadPaper_part hr (pk_cons (pv 0) pk_nil) T.c_BadPaper) pa_nil))))) (pg_name (i := 2) sc_law_parts_right.nd rfl (Or.inl rfl)))
      (pss_one (ps_ret (pe_cmpR (op_eqK (K := K) hu) (pe_lc (own := [("one", 3)]) (g := gName 3) (tt := tYes) rfl sc_law_parts_right.nd (pi_list (pe_op op_addA (pv 1) (pv 2))) (blkOk_by (N := ["value", "made", "named", "one"]) (sc := defScope st_law_parts_right) (by decide +kernel)) (fun _ _ _ _ _ => (pg_name (i := 3) sc_law_parts_right.nd rfl (Or.inl rfl))) (fun _ _ _ _ _ => pts_nil) (fun _ _ _ _ _ => (pe_callB (id := "repr") (call_repr (K := K) hr hgd) (by rfl) T.b_repr (by decide +kernel) (pa_cons (pe_attrK (K := K) (pv 3)) pa_nil)))) (pe_op op_mulL (pe_lst (pa_cons (pe_callB (id := "repr") (call_repr (K := K) hr hgd) (by rfl) T.b_repr (by decide +kernel) (pa_cons (pv 0) pa_nil)) pa_nil)) pe_int) (nomark _)))))))), ?_⟩
    have ok := vk_ok hv
    walk_at "go"
    refine q_mkE rfl fun a1 H1 s1 n1 e1 => ?_
    have f1 := errF_of e1 T.xf_BadNumber_part (x := x) rfl
    clear e1 n1
    have b : Same H H1 := s1
    walk_at "go"
    refine q_mkE rfl fun a2 H2 s2 n2 e2 => ?_
    have f2 := errF_of e2 T.xf_BadPoint_part (x := x) rfl
    clear e2 n2
    replace f1 := errF_same s2 f1
    replace b := b.trans s2
    walk_at "go"
    refine q_mkE rfl fun a3 H3 s3 n3 e3 => ?_
    have f3 := errF_of e3 T.xf_BadTurn_part (x := x) rfl
    clear e3 n3
    replace f1 := errF_same s3 f1
    replace f2 := errF_same s3 f2
    replace b := b.trans s3
    walk_at "go"
    refine q_mkE rfl fun a4 H4 s4 n4 e4 => ?_
    have f4 := errF_of e4 T.xf_BadMachine_part (x := x) rfl
    clear e4 n4
    replace f1 := errF_same s4 f1
    replace f2 := errF_same s4 f2
    replace f3 := errF_same s4 f3
    replace b := b.trans s4
    walk_at "go"
    refine q_mkE rfl fun a5 H5 s5 n5 e5 => ?_
    have f5 := errF_of e5 T.xf_BadPiece_part (x := x) rfl
    clear e5 n5
    replace f1 := errF_same s5 f1
    replace f2 := errF_same s5 f2
    replace f3 := errF_same s5 f3
    replace f4 := errF_same s5 f4
    replace b := b.trans s5
    walk_at "go"
    refine q_mkE rfl fun a6 H6 s6 n6 e6 => ?_
    have f6 := errF_of e6 T.xf_BadLot_part (x := x) rfl
    clear e6 n6
    replace f1 := errF_same s6 f1
    replace f2 := errF_same s6 f2
    replace f3 := errF_same s6 f3
    replace f4 := errF_same s6 f4
    replace f5 := errF_same s6 f5
    replace b := b.trans s6
    walk_at "go"
    refine r_sz (by simp) fun m hm => ?_
    have sm := same_upd (o := .lst [V.ref a1, .ref a2, .ref a3, .ref a4, .ref a5, .ref a6]) hm
    have nm : H m = none := b.free hm
    have hm1 := upd_same (H := H6) (a := m) (o := .lst [V.ref a1, .ref a2, .ref a3, .ref a4, .ref a5, .ref a6])
    replace f1 := errF_same sm f1
    replace f2 := errF_same sm f2
    replace f3 := errF_same sm f3
    replace f4 := errF_same sm f4
    replace f5 := errF_same sm f5
    replace f6 := errF_same sm f6
    replace b := b.trans sm
    generalize upd H6 m (.lst [V.ref a1, .ref a2, .ref a3, .ref a4, .ref a5, .ref a6]) = M1 at *
    walk_at "go"
    refine r_tyL (SqL.of hm1) ?_
    walk_at "go"
    refine q_mkE rfl fun a7 H7 s7 n7 e7 => ?_
    have f7 := errF_of e7 T.xf_BadPaper_part (x := x) rfl
    clear e7 n7
    replace f1 := errF_same s7 f1
    replace f2 := errF_same s7 f2
    replace f3 := errF_same s7 f3
    replace f4 := errF_same s7 f4
    replace f5 := errF_same s7 f5
    replace f6 := errF_same s7 f6
    replace b := b.trans s7
    walk_at "go"
    refine q_append (s7 _ _ hm1) (by simp) ?_
    replace hm1 := s7 _ _ hm1
    replace b : Same H (upd H7 m (.lst ([V.ref a1, .ref a2, .ref a3, .ref a4, .ref a5, .ref a6] ++ [.ref a7]))) := same_mut b nm
    replace f1 := errF_lst (ys := [V.ref a1, .ref a2, .ref a3, .ref a4, .ref a5, .ref a6] ++ [.ref a7]) hm1 f1
    replace f2 := errF_lst (ys := [V.ref a1, .ref a2, .ref a3, .ref a4, .ref a5, .ref a6] ++ [.ref a7]) hm1 f2
    replace f3 := errF_lst (ys := [V.ref a1, .ref a2, .ref a3, .ref a4, .ref a5, .ref a6] ++ [.ref a7]) hm1 f3
    replace f4 := errF_lst (ys := [V.ref a1, .ref a2, .ref a3, .ref a4, .ref a5, .ref a6] ++ [.ref a7]) hm1 f4
    replace f5 := errF_lst (ys := [V.ref a1, .ref a2, .ref a3, .ref a4, .ref a5, .ref a6] ++ [.ref a7]) hm1 f5
    replace f6 := errF_lst (ys := [V.ref a1, .ref a2, .ref a3, .ref a4, .ref a5, .ref a6] ++ [.ref a7]) hm1 f6
    replace f7 := errF_lst (ys := [V.ref a1, .ref a2, .ref a3, .ref a4, .ref a5, .ref a6] ++ [.ref a7]) hm1 f7
    have hm2 := upd_same (H := H7) (a := m) (o := .lst ([V.ref a1, .ref a2, .ref a3, .ref a4, .ref a5, .ref a6] ++ [.ref a7]))
    clear hm1 s1 s2 s3 s4 s5 s6 s7 sm
    generalize upd H7 m (.lst ([V.ref a1, .ref a2, .ref a3, .ref a4, .ref a5, .ref a6] ++ [.ref a7])) = M2 at *
    walk_at "go"
    refine q_mkE rfl fun a8 H8 s8 n8 e8 => ?_
    have f8 := errF_of e8 T.xf_BadNumber_part (x := x) rfl
    clear e8 n8
    replace f1 := errF_same s8 f1
    replace f2 := errF_same s8 f2
    replace f3 := errF_same s8 f3
    replace f4 := errF_same s8 f4
    replace f5 := errF_same s8 f5
    replace f6 := errF_same s8 f6
    replace f7 := errF_same s8 f7
    replace b := b.trans s8
    walk_at "go"
    replace hm2 := s8 _ _ hm2
    refine q_mkE rfl fun a9 H9 s9 n9 e9 => ?_
    have f9 := errF_of e9 T.xf_BadPoint_part (x := x) rfl
    clear e9 n9
    replace f1 := errF_same s9 f1
    replace f2 := errF_same s9 f2
    replace f3 := errF_same s9 f3
    replace f4 := errF_same s9 f4
    replace f5 := errF_same s9 f5
    replace f6 := errF_same s9 f6
    replace f7 := errF_same s9 f7
    replace f8 := errF_same s9 f8
    replace b := b.trans s9
    walk_at "go"
    replace hm2 := s9 _ _ hm2
    refine q_mkE rfl fun a10 H10 s10 n10 e10 => ?_
    have f10 := errF_of e10 T.xf_BadTurn_part (x := x) rfl
    clear e10 n10
    replace f1 := errF_same s10 f1
    replace f2 := errF_same s10 f2
    replace f3 := errF_same s10 f3
    replace f4 := errF_same s10 f4
    replace f5 := errF_same s10 f5
    replace f6 := errF_same s10 f6
    replace f7 := errF_same s10 f7
    replace f8 := errF_same s10 f8
    replace f9 := errF_same s10 f9
    replace b := b.trans s10
    walk_at "go"
    replace hm2 := s10 _ _ hm2
    refine q_mkE rfl fun a11 H11 s11 n11 e11 => ?_
    have f11 := errF_of e11 T.xf_BadMachine_part (x := x) rfl
    clear e11 n11
    replace f1 := errF_same s11 f1
    replace f2 := errF_same s11 f2
    replace f3 := errF_same s11 f3
    replace f4 := errF_same s11 f4
    replace f5 := errF_same s11 f5
    replace f6 := errF_same s11 f6
    replace f7 := errF_same s11 f7
    replace f8 := errF_same s11 f8
    replace f9 := errF_same s11 f9
    replace f10 := errF_same s11 f10
    replace b := b.trans s11
    walk_at "go"
    replace hm2 := s11 _ _ hm2
    refine r_sz (by simp) fun l1 hl1 => ?_
    have t1 := same_upd (o := .lst [V.ref a8, .ref a9, .ref a10, .ref a11]) hl1
    have g1 := upd_same (H := H11) (a := l1) (o := .lst [V.ref a8, .ref a9, .ref a10, .ref a11])
    replace hm2 := t1 _ _ hm2
    replace b := b.trans t1
    replace f1 := errF_same t1 f1
    replace f2 := errF_same t1 f2
    replace f3 := errF_same t1 f3
    replace f4 := errF_same t1 f4
    replace f5 := errF_same t1 f5
    replace f6 := errF_same t1 f6
    replace f7 := errF_same t1 f7
    replace f8 := errF_same t1 f8
    replace f9 := errF_same t1 f9
    replace f10 := errF_same t1 f10
    replace f11 := errF_same t1 f11
    generalize upd H11 l1 (.lst [V.ref a8, .ref a9, .ref a10, .ref a11]) = M3 at *
    walk_at "go"
    refine q_mkE rfl fun a12 H12 s12 n12 e12 => ?_
    have f12 := errF_of e12 T.xf_BadPiece_part (x := x) rfl
    clear e12 n12
    replace f1 := errF_same s12 f1
    replace f2 := errF_same s12 f2
    replace f3 := errF_same s12 f3
    replace f4 := errF_same s12 f4
    replace f5 := errF_same s12 f5
    replace f6 := errF_same s12 f6
    replace f7 := errF_same s12 f7
    replace f8 := errF_same s12 f8
    replace f9 := errF_same s12 f9
    replace f10 := errF_same s12 f10
    replace f11 := errF_same s12 f11
    replace b := b.trans s12
    walk_at "go"
    replace hm2 := s12 _ _ hm2
    replace g1 := s12 _ _ g1
    refine q_mkE rfl fun a13 H13 s13 n13 e13 => ?_
    have f13 := errF_of e13 T.xf_BadLot_part (x := x) rfl
    clear e13 n13
    replace f1 := errF_same s13 f1
    replace f2 := errF_same s13 f2
    replace f3 := errF_same s13 f3
    replace f4 := errF_same s13 f4
    replace f5 := errF_same s13 f5
    replace f6 := errF_same s13 f6
    replace f7 := errF_same s13 f7
    replace f8 := errF_same s13 f8
    replace f9 := errF_same s13 f9
    replace f10 := errF_same s13 f10
    replace f11 := errF_same s13 f11
    replace f12 := errF_same s13 f12
    replace b := b.trans s13
    walk_at "go"
    replace hm2 := s13 _ _ hm2
    replace g1 := s13 _ _ g1
    refine q_mkE rfl fun a14 H14 s14 n14 e14 => ?_
    have f14 := errF_of e14 T.xf_BadPaper_part (x := x) rfl
    clear e14 n14
    replace f1 := errF_same s14 f1
    replace f2 := errF_same s14 f2
    replace f3 := errF_same s14 f3
    replace f4 := errF_same s14 f4
    replace f5 := errF_same s14 f5
    replace f6 := errF_same s14 f6
    replace f7 := errF_same s14 f7
    replace f8 := errF_same s14 f8
    replace f9 := errF_same s14 f9
    replace f10 := errF_same s14 f10
    replace f11 := errF_same s14 f11
    replace f12 := errF_same s14 f12
    replace f13 := errF_same s14 f13
    replace b := b.trans s14
    walk_at "go"
    replace hm2 := s14 _ _ hm2
    replace g1 := s14 _ _ g1
    refine r_sz (by simp) fun l2 hl2 => ?_
    have t2 := same_upd (o := .lst [V.ref a12, .ref a13, .ref a14]) hl2
    walk_at "go"
    refine r_addL (t2 _ _ g1) upd_same (by simp) fun l3 hl3 => ?_
    have t3 := t2.trans (same_upd (o := .lst ([V.ref a8, .ref a9, .ref a10, .ref a11] ++ [V.ref a12, .ref a13, .ref a14])) hl3)
    have g3 := upd_same (H := upd H14 l2 (.lst [V.ref a12, .ref a13, .ref a14])) (a := l3) (o := .lst ([V.ref a8, .ref a9, .ref a10, .ref a11] ++ [V.ref a12, .ref a13, .ref a14]))
    walk_at "go"
    refine r_addL (t3 _ _ hm2) g3 (by simp) fun l4 hl4 => ?_
    generalize hits : [V.ref a1, .ref a2, .ref a3, .ref a4, .ref a5, .ref a6] ++ [.ref a7] ++ ([V.ref a8, .ref a9, .ref a10, .ref a11] ++ [V.ref a12, .ref a13, .ref a14]) = its at *
    have t4 := t3.trans (same_upd (o := .lst its) hl4)
    have g4 := upd_same (H := upd (upd H14 l2 (.lst [V.ref a12, .ref a13, .ref a14])) l3 (.lst ([V.ref a8, .ref a9, .ref a10, .ref a11] ++ [V.ref a12, .ref a13, .ref a14]))) (a := l4) (o := .lst its)
    replace b := b.trans t4
    have hl : its.length = 14 := by rw [← hits]; rfl
    have hf : ∀ y ∈ its, ∃ a, y = .ref a ∧ ErrF K H14 a "part" x := by
      rw [← hits]
      intro y hy
      simp only [List.mem_append, List.mem_cons, List.mem_nil_iff, or_false] at hy
      rcases hy with ((rfl | rfl | rfl | rfl | rfl | rfl) | rfl) | (rfl | rfl | rfl | rfl) | rfl | rfl | rfl
      · exact ⟨_, rfl, f1⟩
      · exact ⟨_, rfl, f2⟩
      · exact ⟨_, rfl, f3⟩
      · exact ⟨_, rfl, f4⟩
      · exact ⟨_, rfl, f5⟩
      · exact ⟨_, rfl, f6⟩
      · exact ⟨_, rfl, f7⟩
      · exact ⟨_, rfl, f8⟩
      · exact ⟨_, rfl, f9⟩
      · exact ⟨_, rfl, f10⟩
      · exact ⟨_, rfl, f11⟩
      · exact ⟨_, rfl, f12⟩
      · exact ⟨_, rfl, f13⟩
      · exact ⟨_, rfl, f14⟩
    replace hf : ∀ y ∈ its, ∃ a, y = .ref a ∧ ErrF K _ a "part" x := fun y hy => let ⟨a, e, h⟩ := hf y hy; ⟨a, e, errF_same t4 h⟩
    clear hits
    generalize upd (upd (upd H14 l2 _) l3 _) l4 _ = M4 at *
    clear t2 t3 t4
    walk_at "go"
    refine ⟨l4, rfl, ⟨its, SqL.of g4⟩, fun Dl hDl => ?_⟩
    refine lcG (its := its) walk_list (fun j acc H' => Same M4 H' ∧ acc = List.replicate j (.str d.shown)) ⟨same_upd hDl, rfl⟩ (fun j acc H' _ h _ => SqL.of (h.1 _ _ g4)) ?_ ?_
    · rintro j y acc H5 hy ⟨k5, rfl⟩ e5
      obtain ⟨a, rfl, hfa⟩ := hf y (List.mem_of_getElem? hy)
      walk_at "go"
      refine q_fld (errF_same k5 hfa) ?_
      walk_at "go"
      refine q_reprV (vk_same (b.trans k5) hv) ?_
      refine lcFin (Pv := fun acc H' => Same M4 H' ∧ acc = List.replicate (j + 1) (.str d.shown)) e5 (by have := its_lt hy; rw [List.length_replicate]; omega) ⟨same_mut k5 hDl, by rw [List.replicate_succ']⟩
    · rintro acc H5 ⟨k5, rfl⟩ e5
      rw [hl] at e5
      walk_at "go"
      refine q_reprV (vk_same (b.trans k5) hv) ?_
      walk_at "go"
      refine r_sz (by simp) fun l5 hl5 => ?_
      walk_at "go"
      have t5 := same_upd (o := .lst [V.str d.shown]) hl5
      refine q_mulL (n := 14) upd_same (by decide) (by simp) fun l6 hl6 => ?_
      have t6 := same_upd (o := .lst (List.replicate 14 [V.str d.shown]).flatten) hl6
      walk_at "go"
      have e6 : (List.replicate 14 [V.str d.shown]).flatten = List.replicate 14 (.str d.shown) := rfl
      refine r_eqReps (n := 14) (SqL.of (t6 _ _ (t5 _ _ e5))) (SqL.of (by rw [e6]; exact upd_same)) ok ?_
      exact q _ (((b.trans k5).trans t5).trans t6)
end
end Cs


set_option Elab.async false
set_option linter.all false
set_option maxRecDepth 100000
set_option maxHeartbeats 4000000
namespace Cs
open PySem PySem.Spec PyProof.Rows L2 LamX
local macro_rules | `(tactic| walk_at "base") => `(tactic| with_reducible (first
  | refine r_seq ?_ | refine r_asg ?_ | refine r_gname ?_ | refine r_ret ?_ | refine r_drop ?_ | refine r_next ?_ | refine r_retN ?_ | refine r_fld ?_ | refine r_gsub ?_ | refine r_brk ?_ | refine r_cont ?_
  | refine r_var rfl ?_ | refine r_c ?_ | refine r_op ?_ | refine r_un ?_ | refine r_test ?_ | refine r_tB ?_ | refine r_bl ?_ | refine r_blv ?_
  | refine r_cons ?_ | refine r_nil ?_ | refine r_lc ?_ | refine r_yes ?_ | refine r_iLT0 ?_ | refine r_iEnumS ?_ | refine r_iEnum ?_ | refine r_iStr ?_ | refine r_iList ?_ | refine r_iRng ?_ | refine r_iRng2 ?_ | refine r_iRng3 ?_ | refine r_iStrS ?_ | refine r_iStrE ?_ | refine r_cb ?_ | refine r_call0 ?_ | refine r_callS ?_ | refine r_callK ?_ | refine r_tup ?_ | refine r_lst ?_ | refine r_make0 ?_ | refine r_attr ?_
  | refine r_err0 ?_ | refine r_err ?_ | refine r_errK ?_ | refine r_lstB ?_ | refine r_sl ?_ | refine r_nopart ?_ | refine r_part ?_ | refine r_parti ?_ | refine r_tyS ?_ | refine r_bm0 ?_ | refine r_bm ?_ | refine r_dnew ?_
  | refine r_and ?_ | refine r_or ?_ | refine r_not ?_ | refine r_andV ?_ | refine r_orV ?_ | refine r_notV ?_ | refine r_if ?_ | refine r_ift ?_ | refine r_iff ?_ | refine r_revL ?_ | refine r_ntt ?_ | refine r_nff ?_ | refine r_itup ?_ | refine r_chain ?_
  | refine r_I0 ?_ | refine r_U ?_ | refine r_addI ?_ | refine r_eqI ?_ | refine r_neI ?_ | refine r_eqS ?_ | refine r_neS ?_ | refine r_eqB ?_ | refine r_neB ?_ | refine r_inS ?_ | refine r_niS ?_ | refine r_int1 ?_ | refine r_abs ?_ | refine r_isN ?_ | refine r_notN ?_
  | refine r_intB ?_ | refine r_max ?_ | refine r_strS ?_ | refine r_isB ?_ | refine r_notB ?_ | refine r_notBI ?_ | refine r_revS ?_ | refine r_sta ?_ | refine r_metA ?_ | refine r_mK1 ?_ | refine r_mD ?_ | refine r_iOwn ?_ | refine r_aug rfl ?_ | refine r_ipI ?_ | refine r_par ?_ | refine r_vw ?_))
local macro_rules | `(tactic| walk_at "ends") => `(tactic| with_reducible (first | refine r_nx ?_ | refine r_rt ?_ | refine r_ct ?_ | refine r_bk ?_))
local macro_rules | `(tactic| walk_at "two") => `(tactic| first | walk_at "base" | walk_at "ends")
local macro_rules | `(tactic| walk_at "one") => `(tactic| first | walk_at "base" | with_reducible (first | refine r_ifs ?_ | refine r_forE ?_) | walk_at "ends")
local macro_rules | `(tactic| walk_at "go") => `(tactic| repeat walk_at "one")
local macro_rules | `(tactic| walk_at "gp") => `(tactic| repeat walk_at "two")

section
variable {P : Program} {w : World} {K : PySem.W.Frag} {mg : Str → Option Value} {base : Heap} {D : Ad}

theorem vk_small {H : Hp} {o : Int} (h : o.natAbs ≤ 1000000000000) : Vk H (.int o) (.int o) := .int o h
theorem q_repr2 {H : Hp} {Q : VK} {x : V} {d : PyData} {l : Addr} (hv : Vk H x d) (h : H l = some (.lst [x, x])) (nl : (l == sysModules) = false) (q : Q (.str (PyData.list [d, d]).shown) H) : rRepr K [.ref l] H Q := by
  obtain ⟨h1, h2, h3, h4⟩ := vk_dq (K := K) hv
  refine q_repr (b := true) (d := .list [d, d]) (.lst (SqL.of h) (.cons h1 (.cons h1 .nil)) (fun _ => nl)) (fun _ => rfl) ?_ ?_ ?_ q
  · simp [PyData.showable, PyData.showableAll, h2]
  · simp only [PyData.depth, PyData.depthAll]; omega
  · simp only [slen, slens]; omega
theorem q_repr3 {H : Hp} {Q : VK} {x y : V} {d e : PyData} {l : Addr} (hv : Vk H x d) (hy : Vk H y e) (h : H l = some (.tup [y, x, y])) (q : Q (.str (PyData.tuple [e, d, e]).shown) H) : rRepr K [.ref l] H Q := by
  obtain ⟨h1, h2, h3, h4⟩ := vk_dq (K := K) hv
  obtain ⟨g1, g2, g3, g4⟩ := vk_dq (K := K) hy
  refine q_repr (b := true) (d := .tuple [e, d, e]) (.tup (SqT.of h) (.cons g1 (.cons h1 (.cons g1 .nil)))) (fun _ => rfl) ?_ ?_ ?_ q
  · simp [PyData.showable, PyData.showableAll, h2, g2]
  · simp only [PyData.depth, PyData.depthAll]; omega
  · simp only [slen, slens]; omega
abbrev st_law_fields_right : Stmt := top 33
theorem sc_law_fields_right : FnScope ["value", "other", "named", "many", "text", "one"] ["value", "other"] (defScope st_law_fields_right) := ⟨rfl, rfl, rfl, by decide +kernel, rfl, by decide +kernel, by decide +kernel⟩
def sp_law_fields_right (K : PySem.W.Frag) (D : Ad) : Sp := fun vs H Q _ => ∃ x d, ∃ o : Int, vs = [x, .int o] ∧ Vk H x d ∧ o.natAbs ≤ 1000000000000 ∧ ∀ H', Same H H' → Q (.bl true) H'
theorem ok_law_fields_right {f : Addr} {fd : FuncData} (F : Fun K "_law_fields_right" "_law_fields_right" st_law_fields_right f fd) (T : Txt P w K mg base D) : FnOkG P w K mg base CX0 1 f fd ["value", "other"] (sp_law_fields_right K D) := by
  refine F.okG sc_law_fields_right (fun vs H Q E h => ?_) (fun cdv A outer s H vs Q E hr hgd h => ?_)
  · obtain ⟨x, d, o, rfl, _⟩ := h
    rfl
  · obtain ⟨x, d, o, rfl, hv, ho, q⟩ := h
    have hu := hr.units
    refine ⟨_, (pss_cons (ps_if (PW.pt (pw_or (pt_cmpR (op_neK (K := K) hu) (pe_callB (id := "repr") (call_repr (K := K) hr hgd) (by rfl) T.b_repr (by decide +kernel) (pa_cons (pe_attrK (K := K) (pe_err T.e_BadWord hr (by decide) (pa_cons (pv 0) pa_nil) T.c_BadWord)) pa_nil)) (pe_callB (id := "repr") (call_repr (K := K) hr hgd) (by rfl) T.b_repr (by decide +kernel) (pa_cons (pv 0) pa_nil)) (nomark _)) (pw_or1 (pt_cmpR (op_neK (K := K) hu) (pe_callB (id := "repr") (call_repr (K := K) hr hgd) (by rfl) T.b_repr (by decide +kernel) (pa_cons (pe_attrK (K := K) (pe_errK T.ek_BadWord_at hr (pk_cons (pv 0) pk_nil) T.c_BadWord)) pa_nil)) (pe_callB (id := "repr") (call_repr (K := K) hr hgd) (by rfl) T.b_repr (by decide +kernel) (pa_cons (pv 0) pa_nil)) (nomark _)))))
      (pss_one (ps_ret pe_bl))
      pss_nil)
      (pss_cons (ps_if (PW.pt (pw_or (pt_cmpR (op_neK (K := K) hu) (pe_callB (id := "repr") (call_repr (K := K) hr hgd) (by rfl) T.b_repr (by decide +kernel) (pa_cons (pe_attrK (K := K) (pe_err T.e_BadLetter hr (by decide) (pa_cons (pv 0) pa_nil) T.c_BadLetter)) pa_nil)) (pe_callB (id := "repr") (call_repr (K := K) hr hgd) (by rfl) T.b_repr (by decide +kernel) (pa_cons (pv 0) pa_nil)) (nomark _)) (pw_or1 (pt_cmpR (op_neK (K := K) hu) (pe_callB (id := "repr") (call_repr (K := K) hr hgd) (by rfl) T.b_repr (by decide +kernel) (pa_cons (pe_attrK (K := K) (pe_errK T.ek_BadName_value hr (pk_cons (pv 0) pk_nil) T.c_BadName)) pa_nil)) (pe_callB (id := "repr") (call_repr (K := K) hr hgd) (by rfl) T.b_repr (by decide +kernel) (pa_cons (pv 0) pa_nil)) (nomark _)))))
      (pss_one (ps_ret pe_bl))
      pss_nil)
      (pss_cons (ps_if (PW.pt (pw_or (pt_cmpR (op_neK (K := K) hu) (pe_callB (id := "repr") (call_repr (K := K) hr hgd) (by rfl) T.b_repr (by decide +kernel) (pa_cons (pe_attrK (K := K) (pe_err T.e_Thin hr (by decide) (pa_cons (pv 0) pa_nil) T.c_Thin)) pa_nil)) (pe_callB (id := "repr") (call_repr (K := K) hr hgd) (by rfl) T.b_repr (by decide +kernel) (pa_cons (pv 0) pa_nil)) (nomark _)) (pw_or1 (pt_cmpR (op_neK (K := K) hu) (pe_callB (id := "repr") (call_repr (K := K) hr hgd) (by rfl) T.b_repr (by decide +kernel) (pa_cons (pe_attrK (K := K) (pe_errK T.ek_NoName_name hr (pk_cons (pv 0) pk_nil) T.c_NoName)) pa_nil)) (pe_callB (id := "repr") (call_repr (K := K) hr hgd) (by rfl) T.b_repr (by decide +kernel) (pa_cons (pv 0) pa_nil)) (nomark _)))))
      (pss_one (ps_ret pe_bl))
      pss_nil)
      (pss_cons (ps_if (pt_cmpR (op_neK (K := K) hu) (pe_callB (id := "repr") (call_repr (K := K) hr hgd) (by rfl) T.b_repr (by decide +kernel) (pa_cons (pe_lstB (pa_cons (pe_attrK (K := K) (pe_err T.e_NoWay hr (by decide) (pa_cons (pv 0) pa_nil) T.c_NoWay)) (pa_cons (pe_attrK (K := K) (pe_errK T.ek_NoWay_paper hr (pk_cons (pv 0) pk_nil) T.c_NoWay)) pa_nil))) pa_nil)) (pe_callB (id := "repr") (call_repr (K := K) hr hgd) (by rfl) T.b_repr (by decide +kernel) (pa_cons (pe_lstB (pa_cons (pv 0) (pa_cons (pv 0) pa_nil))) pa_nil)) (nomark _))
      (pss_one (ps_ret pe_bl))
      pss_nil)
      (pss_cons (ps_if (PW.pt (pw_or (pt_cmpR (op_neK (K := K) hu) (pe_callB (id := "repr") (call_repr (K := K) hr hgd) (by rfl) T.b_repr (by decide +kernel) (pa_cons (pe_attrK (K := K) (pe_err T.e_Twice hr (by decide) (pa_cons (pv 0) pa_nil) T.c_Twice)) pa_nil)) (pe_callB (id := "repr") (call_repr (K := K) hr hgd) (by rfl) T.b_repr (by decide +kernel) (pa_cons (pv 0) pa_nil)) (nomark _)) (pw_or1 (pt_cmpR (op_neK (K := K) hu) (pe_callB (id := "repr") (call_repr (K := K) hr hgd) (by rfl) T.b_repr (by decide +kernel) (pa_cons (pe_attrK (K := K) (pe_err T.e_BadLine hr (by decide) (pa_cons (pv 0) pa_nil) T.c_BadLine)) pa_nil)) (pe_callB (id := "repr") (call_repr (K := K) hr hgd) (by rfl) T.b_repr (by decide +kernel) (pa_cons (pv 0) pa_nil)) (nomark _)))))
      (pss_one (ps_ret pe_bl))
      pss_nil)
      (pss_cons (ps_asg (pe_lst (pa_cons (pe_attrK (K := K) (pe_errK T.ek_Thin_word hr (pk_cons (pv 0) pk_nil) T.c_Thin)) (pa_cons (pe_attrK (K := K) (pe_errK T.ek_Twice_name hr (pk_cons (pv 0) pk_nil) T.c_Twice)) (pa_cons (pe_attrK (K := K) (pe_errK T.ek_BadLetter_value hr (pk_cons (pv 0) pk_nil) T.c_BadLetter)) (pa_cons (pe_attrK (K := K) (pe_errK T.ek_BadLine_item hr (pk_cons (pv 0) pk_nil) T.c_BadLine)) pa_nil))))) (pg_name (i := 2) sc_law_fields_right.nd rfl (Or.inl rfl)))
      (pss_cons (ps_asg (pe_op op_addA (pv 2) (pe_lst (pa_cons (pe_attrK (K := K) (pe_err T.e_BadText hr (by decide) (pa_cons (pv 0) pa_nil) T.c_BadText)) (pa_cons (pe_attrK (K := K) (pe_err T.e_BadName hr (by decide) (pa_cons (pv 0) pa_nil) T.c_BadName)) (pa_cons (pe_attrK (K := K) (pe_err T.e_NoName hr (by decide) (pa_cons (pv 0) pa_nil) T.c_NoName)) (pa_cons (pe_attrK (K := K) (pe_err T.e_TooMany hr (by decide) (pa_cons (pv 0) (pa_cons (pv 1) pa_nil)) T.c_TooMany)) pa_nil)))))) (pg_name (i := 2) sc_law_fields_right.nd rfl (Or.inl rfl)))
      (pss_cons (ps_if (pt_cmpR (op_neK (K := K) hu) (pe_lc (own := [("one", 5)]) (g := gName 5) (tt := tYes) rfl sc_law_fields_right.nd (pi_list (pv 2)) (blkOk_by (N := ["value", "other", "named", "many", "text", "one"]) (sc := defScope st_law_fields_right) (by decide +kernel)) (fun _ _ _ _ _ => (pg_name (i := 5) sc_law_fields_right.nd rfl (Or.inl rfl))) (fun _ _ _ _ _ => pts_nil) (fun _ _ _ _ _ => (pe_callB (id := "repr") (call_repr (K := K) hr hgd) (by rfl) T.b_repr (by decide +kernel) (pa_cons (pv 5) pa_nil)))) (pe_op op_mulL (pe_lst (pa_cons (pe_callB (id := "repr") (call_repr (K := K) hr hgd) (by rfl) T.b_repr (by decide +kernel) (pa_cons (pv 0) pa_nil)) pa_nil)) pe_int) (nomark _))
      (pss_one (ps_ret pe_bl))
      pss_nil)
      (pss_cons (ps_asg (pe_errK T.ek_TooMany_most_what hr (pk_cons (pv 0) (pk_cons (pv 1) pk_nil)) T.c_TooMany) (pg_name (i := 3) sc_law_fields_right.nd rfl (Or.inl rfl)))
      (pss_cons (ps_asg (pe_errK T.ek_BadText_item hr (pk_cons (pv 1) pk_nil) T.c_BadText) (pg_name (i := 4) sc_law_fields_right.nd rfl (Or.inl rfl)))
      (pss_one (ps_ret (pe_cmpR (op_eqK (K := K) hu) (pe_callB (id := "repr") (call_repr (K := K) hr hgd) (by rfl) T.b_repr (by decide +kernel) (pa_cons (pe_tup (pa_cons (pe_attrK (K := K) (pv 3)) (pa_cons (pe_attrK (K := K) (pv 3)) (pa_cons (pe_attrK (K := K) (pv 4)) pa_nil)))) pa_nil)) (pe_callB (id := "repr") (call_repr (K := K) hr hgd) (by rfl) T.b_repr (by decide +kernel) (pa_cons (pe_tup (pa_cons (pv 1) (pa_cons (pv 0) (pa_cons (pv 1) pa_nil)))) pa_nil)) (nomark _)))))))))))))), ?_⟩
    have ok := vk_ok hv
    have b : Same H H := Same.refl H
    walk_at "go"
    refine q_mkE rfl fun a1 H1 s1 n1 e1 => ?_
    replace b := b.trans s1
    replace hv := vk_same s1 hv
    walk_at "go"
    refine err_at e1 T.xf_BadWord_at rfl ?_
    walk_at "go"
    refine q_reprV hv ?_
    walk_at "go"
    refine q_reprV hv ?_
    walk_at "go"
    refine r_ie (by simp) ?_
    walk_at "go"
    refine q_mkE rfl fun a2 H2 s2 n2 e2 => ?_
    replace b := b.trans s2
    replace hv := vk_same s2 hv
    walk_at "go"
    refine err_at e2 T.xf_BadWord_at rfl ?_
    walk_at "go"
    refine q_reprV hv ?_
    walk_at "go"
    refine q_reprV hv ?_
    walk_at "go"
    refine r_ie (by simp) ?_
    walk_at "go"
    refine q_mkE rfl fun a3 H3 s3 n3 e3 => ?_
    replace b := b.trans s3
    replace hv := vk_same s3 hv
    walk_at "go"
    refine err_at e3 T.xf_BadLetter_value rfl ?_
    walk_at "go"
    refine q_reprV hv ?_
    walk_at "go"
    refine q_reprV hv ?_
    walk_at "go"
    refine r_ie (by simp) ?_
    walk_at "go"
    refine q_mkE rfl fun a4 H4 s4 n4 e4 => ?_
    replace b := b.trans s4
    replace hv := vk_same s4 hv
    walk_at "go"
    refine err_at e4 T.xf_BadName_value rfl ?_
    walk_at "go"
    refine q_reprV hv ?_
    walk_at "go"
    refine q_reprV hv ?_
    walk_at "go"
    refine r_ie (by simp) ?_
    walk_at "go"
    refine q_mkE rfl fun a5 H5 s5 n5 e5 => ?_
    replace b := b.trans s5
    replace hv := vk_same s5 hv
    walk_at "go"
    refine err_at e5 T.xf_Thin_word rfl ?_
    walk_at "go"
    refine q_reprV hv ?_
    walk_at "go"
    refine q_reprV hv ?_
    walk_at "go"
    refine r_ie (by simp) ?_
    walk_at "go"
    refine q_mkE rfl fun a6 H6 s6 n6 e6 => ?_
    replace b := b.trans s6
    replace hv := vk_same s6 hv
    walk_at "go"
    refine err_at e6 T.xf_NoName_name rfl ?_
    walk_at "go"
    refine q_reprV hv ?_
    walk_at "go"
    refine q_reprV hv ?_
    walk_at "go"
    refine r_ie (by simp) ?_
    walk_at "go"
    refine q_mkE rfl fun a7 H7 s7 n7 e7 => ?_
    replace b := b.trans s7
    replace hv := vk_same s7 hv
    walk_at "go"
    refine err_at e7 T.xf_NoWay_paper rfl ?_
    walk_at "go"
    refine q_mkE rfl fun a8 H8 s8 n8 e8 => ?_
    replace b := b.trans s8
    replace hv := vk_same s8 hv
    walk_at "go"
    refine err_at e8 T.xf_NoWay_paper rfl ?_
    walk_at "go"
    refine r_sz (by simp) fun l1 hl1 nl1 => ?_
    have t1 := same_upd (o := .lst [x, x]) hl1
    replace b := b.trans t1
    replace hv := vk_same t1 hv
    walk_at "go"
    refine q_repr2 hv upd_same nl1 ?_
    walk_at "go"
    refine r_sz (by simp) fun l2 hl2 nl2 => ?_
    have t2 := same_upd (o := .lst [x, x]) hl2
    replace b := b.trans t2
    replace hv := vk_same t2 hv
    walk_at "go"
    refine q_repr2 hv upd_same nl2 ?_
    walk_at "go"
    refine r_ie (by simp) ?_
    walk_at "go"
    clear t1 t2
    generalize upd (upd H8 l1 _) l2 _ = H8 at *
    refine q_mkE rfl fun a9 H9 s9 n9 e9 => ?_
    replace b := b.trans s9
    replace hv := vk_same s9 hv
    walk_at "go"
    refine err_at e9 T.xf_Twice_name rfl ?_
    walk_at "go"
    refine q_reprV hv ?_
    walk_at "go"
    refine q_reprV hv ?_
    walk_at "go"
    refine r_ie (by simp) ?_
    walk_at "go"
    refine q_mkE rfl fun a10 H10 s10 n10 e10 => ?_
    replace b := b.trans s10
    replace hv := vk_same s10 hv
    walk_at "go"
    refine err_at e10 T.xf_BadLine_item rfl ?_
    walk_at "go"
    refine q_reprV hv ?_
    walk_at "go"
    refine q_reprV hv ?_
    walk_at "go"
    refine r_ie (by simp) ?_
    walk_at "go"
    refine q_mkE rfl fun a11 H11 s11 n11 e11 => ?_
    replace b := b.trans s11
    replace hv := vk_same s11 hv
    walk_at "go"
    refine err_at e11 T.xf_Thin_word rfl ?_
    walk_at "go"
    refine q_mkE rfl fun a12 H12 s12 n12 e12 => ?_
    replace b := b.trans s12
    replace hv := vk_same s12 hv
    walk_at "go"
    refine err_at e12 T.xf_Twice_name rfl ?_
    walk_at "go"
    refine q_mkE rfl fun a13 H13 s13 n13 e13 => ?_
    replace b := b.trans s13
    replace hv := vk_same s13 hv
    walk_at "go"
    refine err_at e13 T.xf_BadLetter_value rfl ?_
    walk_at "go"
    refine q_mkE rfl fun a14 H14 s14 n14 e14 => ?_
    replace b := b.trans s14
    replace hv := vk_same s14 hv
    walk_at "go"
    refine err_at e14 T.xf_BadLine_item rfl ?_
    walk_at "go"
    refine r_sz (by simp) fun l3 hl3 => ?_
    have t3 := same_upd (o := .lst [x, x, x, x]) hl3
    have g3 := upd_same (H := H14) (a := l3) (o := .lst [x, x, x, x])
    replace b := b.trans t3
    replace hv := vk_same t3 hv
    generalize upd H14 l3 _ = H14 at *
    walk_at "go"
    refine q_mkE rfl fun a15 H15 s15 n15 e15 => ?_
    replace b := b.trans s15
    replace hv := vk_same s15 hv
    walk_at "go"
    refine err_at e15 T.xf_BadText_item rfl ?_
    walk_at "go"
    replace g3 := s15 _ _ g3
    refine q_mkE rfl fun a16 H16 s16 n16 e16 => ?_
    replace b := b.trans s16
    replace hv := vk_same s16 hv
    walk_at "go"
    refine err_at e16 T.xf_BadName_value rfl ?_
    walk_at "go"
    replace g3 := s16 _ _ g3
    refine q_mkE rfl fun a17 H17 s17 n17 e17 => ?_
    replace b := b.trans s17
    replace hv := vk_same s17 hv
    walk_at "go"
    refine err_at e17 T.xf_NoName_name rfl ?_
    walk_at "go"
    replace g3 := s17 _ _ g3
    refine q_mkE rfl fun a18 H18 s18 n18 e18 => ?_
    replace b := b.trans s18
    replace hv := vk_same s18 hv
    walk_at "go"
    refine err_at e18 T.xf_TooMany_what rfl ?_
    walk_at "go"
    replace g3 := s18 _ _ g3
    refine r_sz (by simp) fun l4 hl4 => ?_
    have t4 := same_upd (o := .lst [x, x, x, x]) hl4
    walk_at "go"
    refine r_addL (t4 _ _ g3) upd_same (by simp) fun l5 hl5 => ?_
    have t5 := t4.trans (same_upd (o := .lst ([x, x, x, x] ++ [x, x, x, x])) hl5)
    have g5 := upd_same (H := upd H18 l4 (.lst [x, x, x, x])) (a := l5) (o := .lst ([x, x, x, x] ++ [x, x, x, x]))
    have e5 : [x, x, x, x] ++ [x, x, x, x] = List.replicate 8 x := rfl
    rw [e5] at g5 t5 ⊢
    replace b := b.trans t5
    replace hv := vk_same t5 hv
    generalize upd (upd H18 l4 _) l5 _ = M4 at *
    clear t5 t4 g3
    walk_at "go"
    refine ⟨l5, rfl, ⟨_, SqL.of g5⟩, fun Dl hDl => ?_⟩
    refine lcG (its := List.replicate 8 x) walk_list (fun j acc H' => Same M4 H' ∧ acc = List.replicate j (.str d.shown)) ⟨same_upd hDl, rfl⟩ (fun j acc H' _ h _ => SqL.of (h.1 _ _ g5)) ?_ ?_
    · rintro j y acc H5 hy ⟨k5, rfl⟩ eD
      obtain rfl : y = x := List.eq_of_mem_replicate (List.mem_of_getElem? hy)
      walk_at "go"
      refine q_reprV (vk_same k5 hv) ?_
      refine lcFin (Pv := fun acc H' => Same M4 H' ∧ acc = List.replicate (j + 1) (.str d.shown)) eD (by have := its_lt hy; rw [List.length_replicate] at *; omega) ⟨same_mut k5 hDl, by rw [List.replicate_succ']⟩
    · rintro acc H5 ⟨k5, rfl⟩ eD
      rw [List.length_replicate] at eD
      replace b := b.trans k5
      replace hv := vk_same k5 hv
      walk_at "go"
      refine q_reprV hv ?_
      walk_at "go"
      refine r_sz (by simp) fun l6 hl6 => ?_
      walk_at "go"
      have t6 := same_upd (o := .lst [V.str d.shown]) hl6
      refine q_mulL (n := 8) upd_same (by decide) (by simp) fun l7 hl7 => ?_
      have t7 := same_upd (o := .lst (List.replicate 8 [V.str d.shown]).flatten) hl7
      walk_at "go"
      have e6 : (List.replicate 8 [V.str d.shown]).flatten = List.replicate 8 (.str d.shown) := rfl
      refine r_neReps (n := 8) (SqL.of (t7 _ _ (t6 _ _ eD))) (SqL.of (by rw [e6]; exact upd_same)) ok ?_
      replace b := (b.trans t6).trans t7
      replace hv := vk_same (t6.trans t7) hv
      walk_at "go"
      refine q_mkE rfl fun a1 M1 s1 n1 e1 => ?_
      walk_at "go"
      refine q_mkE rfl fun a2 M2 s2 n2 e2 => ?_
      replace e1 := errAt_same s2 e1
      replace b := (b.trans s1).trans s2
      replace hv := vk_same (s1.trans s2) hv
      walk_at "go"
      refine err_at e1 T.xf_TooMany_what rfl ?_
      walk_at "go"
      refine err_at e1 T.xf_TooMany_most rfl ?_
      walk_at "go"
      refine err_at e2 T.xf_BadText_item rfl ?_
      walk_at "go"
      refine r_sz (by simp) fun l8 hl8 => ?_
      have t8 := same_upd (o := .tup [V.int o, x, .int o]) hl8
      walk_at "go"
      refine q_repr3 (vk_same t8 hv) (vk_small ho) upd_same ?_
      walk_at "go"
      refine r_sz (by simp) fun l9 hl9 => ?_
      have t9 := same_upd (o := .tup [V.int o, x, .int o]) hl9
      walk_at "go"
      refine q_repr3 (vk_same (t8.trans t9) hv) (vk_small ho) upd_same ?_
      walk_at "go"
      rw [decide_eq_true rfl]
      exact q _ ((b.trans t8).trans t9)
end
end Cs


set_option Elab.async false
set_option linter.all false
set_option maxRecDepth 100000
set_option maxHeartbeats 4000000
namespace Cs
open PySem PySem.Spec PyProof.Rows L2 LamX
local macro_rules | `(tactic| walk_at "base") => `(tactic| with_reducible (first
  | refine r_seq ?_ | refine r_asg ?_ | refine r_gname ?_ | refine r_ret ?_ | refine r_drop ?_ | refine r_next ?_ | refine r_retN ?_ | refine r_fld ?_ | refine r_gsub ?_ | refine r_brk ?_ | refine r_cont ?_
  | refine r_var rfl ?_ | refine r_c ?_ | refine r_op ?_ | refine r_un ?_ | refine r_test ?_ | refine r_tB ?_ | refine r_bl ?_ | refine r_blv ?_
  | refine r_cons ?_ | refine r_nil ?_ | refine r_lc ?_ | refine r_yes ?_ | refine r_iLT0 ?_ | refine r_iEnumS ?_ | refine r_iEnum ?_ | refine r_iStr ?_ | refine r_iList ?_ | refine r_iRng ?_ | refine r_iRng2 ?_ | refine r_iRng3 ?_ | refine r_iStrS ?_ | refine r_iStrE ?_ | refine r_cb ?_ | refine r_call0 ?_ | refine r_callS ?_ | refine r_callK ?_ | refine r_tup ?_ | refine r_lst ?_ | refine r_make0 ?_ | refine r_attr ?_
  | refine r_err0 ?_ | refine r_err ?_ | refine r_errK ?_ | refine r_lstB ?_ | refine r_sl ?_ | refine r_nopart ?_ | refine r_part ?_ | refine r_parti ?_ | refine r_tyS ?_ | refine r_bm0 ?_ | refine r_bm ?_ | refine r_dnew ?_
  | refine r_and ?_ | refine r_or ?_ | refine r_not ?_ | refine r_andV ?_ | refine r_orV ?_ | refine r_notV ?_ | refine r_if ?_ | refine r_ift ?_ | refine r_iff ?_ | refine r_revL ?_ | refine r_ntt ?_ | refine r_nff ?_ | refine r_itup ?_ | refine r_chain ?_
  | refine r_I0 ?_ | refine r_U ?_ | refine r_addI ?_ | refine r_eqI ?_ | refine r_neI ?_ | refine r_eqS ?_ | refine r_neS ?_ | refine r_eqB ?_ | refine r_neB ?_ | refine r_inS ?_ | refine r_niS ?_ | refine r_int1 ?_ | refine r_abs ?_ | refine r_isN ?_ | refine r_notN ?_
  | refine r_intB ?_ | refine r_max ?_ | refine r_strS ?_ | refine r_isB ?_ | refine r_notB ?_ | refine r_notBI ?_ | refine r_revS ?_ | refine r_sta ?_ | refine r_metA ?_ | refine r_mK1 ?_ | refine r_mD ?_ | refine r_iOwn ?_ | refine r_aug rfl ?_ | refine r_ipI ?_ | refine r_par ?_ | refine r_vw ?_))
local macro_rules | `(tactic| walk_at "ends") => `(tactic| with_reducible (first | refine r_nx ?_ | refine r_rt ?_ | refine r_ct ?_ | refine r_bk ?_))
local macro_rules | `(tactic| walk_at "two") => `(tactic| first | walk_at "base" | walk_at "ends")
local macro_rules | `(tactic| walk_at "one") => `(tactic| first | walk_at "base" | with_reducible (first | refine r_ifs ?_ | refine r_forE ?_) | walk_at "ends")
local macro_rules | `(tactic| walk_at "go") => `(tactic| repeat walk_at "one")
local macro_rules | `(tactic| walk_at "gp") => `(tactic| repeat walk_at "two")

section
variable {P : Program} {w : World} {K : PySem.W.Frag} {mg : Str → Option Value} {base : Heap} {D : Ad}

theorem errW_of {H : Hp} {a C : Addr} {fs : List (Str × V)} (h : ErrAt H a C fs) (x : XiC K C) : ErrW K H a C := ⟨let ⟨d, h1, h2⟩ := h; ⟨some d, h1, fun dd e => by cases e; exact ⟨_, h2⟩⟩, x⟩
theorem errW_lst {H : Hp} {a C l : Addr} {xs ys : List V} (hl : H l = some (.lst xs)) (h : ErrW K H a C) : ErrW K (upd H l (.lst ys)) a C := ⟨by
  obtain ⟨d, h1, h2⟩ := h.isAt
  refine ⟨d, ?_, fun dd e => ?_⟩
  · rw [upd_ne (fun z => by rw [z, hl] at h1; cases h1)]
    exact h1
  · obtain ⟨fs, h3⟩ := h2 dd e
    exact ⟨fs, by rw [upd_ne (fun z => by rw [z, hl] at h3; cases h3)]; exact h3⟩, h.xi⟩
abbrev st_law_classes_right : Stmt := top 35
theorem sc_law_classes_right : FnScope ["value", "made", "at", "error", "spot"] ["value"] (defScope st_law_classes_right) := ⟨rfl, rfl, rfl, by decide +kernel, rfl, by decide +kernel, by decide +kernel⟩
def sp_law_classes_right (K : PySem.W.Frag) (D : Ad) : Sp := fun vs H Q _ => ∃ x d, vs = [x] ∧ Vk H x d ∧ ∀ H', Same H H' → Q (.bl true) H'
theorem ok_law_classes_right {f : Addr} {fd : FuncData} (F : Fun K "_law_classes_right" "_law_classes_right" st_law_classes_right f fd) (T : Txt P w K mg base D) (d_law_kinds : CalN P w K mg base 1 "_law_kinds" (sp_law_kinds K D)) : FnOk P w K mg base CX0 2 f fd ["value"] (sp_law_classes_right K D) := by
  refine F.ok sc_law_classes_right (fun vs H Q E h => ?_) (fun cdv A outer s H vs Q E hr h => ?_)
  · obtain ⟨x, d, rfl, _⟩ := h
    rfl
  · obtain ⟨x, d, rfl, hv, q⟩ := h
    have hu := hr.units
    refine ⟨_, (pss_cons (ps_asg (pe_lst (pa_cons (pe_err T.e_BadNumber hr (by decide) (pa_cons (pv 0) pa_nil) T.c_BadNumber) (pa_cons (pe_err T.e_BadPoint hr (by decide) (pa_cons (pv 0) pa_nil) T.c_BadPoint) (pa_cons (pe_err T.e_BadTurn hr (by decide) (pa_cons (pv 0) pa_nil) T.c_BadTurn) (pa_cons (pe_err T.e_BadMachine hr (by decide) (pa_cons (pv 0) pa_nil) T.c_BadMachine) (pa_cons (pe_err T.e_BadPiece hr (by decide) (pa_cons (pv 0) pa_nil) T.c_BadPiece) (pa_cons (pe_err T.e_BadLot hr (by decide) (pa_cons (pv 0) pa_nil) T.c_BadLot) pa_nil))))))) (pg_name (i := 1) sc_law_classes_right.nd rfl (Or.inl rfl)))
      (pss_cons (ps_asg (pe_op op_addA (pv 1) (pe_lst (pa_cons (pe_err T.e_BadPaper hr (by decide) (pa_cons (pv 0) pa_nil) T.c_BadPaper) (pa_cons (pe_err T.e_BadWord hr (by decide) (pa_cons (pv 0) pa_nil) T.c_BadWord) (pa_cons (pe_err T.e_BadLetter hr (by decide) (pa_cons (pv 0) pa_nil) T.c_BadLetter) (pa_cons (pe_err T.e_Thin hr (by decide) (pa_cons (pv 0) pa_nil) T.c_Thin) (pa_cons (pe_err T.e_TooMany hr (by decide) (pa_cons (pv 0) (pa_cons (pv 0) pa_nil)) T.c_TooMany) pa_nil))))))) (pg_name (i := 1) sc_law_classes_right.nd rfl (Or.inl rfl)))
      (pss_cons (ps_asg (pe_op op_addA (pv 1) (pe_lst (pa_cons (pe_err T.e_BadText hr (by decide) (pa_cons (pv 0) pa_nil) T.c_BadText) (pa_cons (pe_err T.e_BadName hr (by decide) (pa_cons (pv 0) pa_nil) T.c_BadName) (pa_cons (pe_err T.e_NoName hr (by decide) (pa_cons (pv 0) pa_nil) T.c_NoName) (pa_cons (pe_err T.e_Twice hr (by decide) (pa_cons (pv 0) pa_nil) T.c_Twice) (pa_cons (pe_err T.e_BadLine hr (by decide) (pa_cons (pv 0) pa_nil) T.c_BadLine) (pa_cons (pe_err0 T.e0_Nothing hr T.c_Nothing) (pa_cons (pe_err T.e_NoWay hr (by decide) (pa_cons (pv 0) pa_nil) T.c_NoWay) pa_nil))))))))) (pg_name (i := 1) sc_law_classes_right.nd rfl (Or.inl rfl)))
      (pss_cons (ps_for PassesOwn.never rfl (pi_enum (by rfl) T.b_enumerate (pa_cons (pv 1) pa_nil)) (pg_tup (by rfl) (pgs_cons (pg_name (i := 2) sc_law_classes_right.nd rfl (Or.inr rfl)) (pgs_cons (pg_name (i := 3) sc_law_classes_right.nd rfl (Or.inl rfl)) pgs_nil)))
      (pss_cons (ps_if (PW.pt (pw_or (pt_not (pt_val (pe_callB (id := "isinstance") (call_isiEK (K := K)) (by rfl) T.b_isinstance (by decide +kernel) (pa_cons (pv 3) (pa_cons (pe_glob (v := .ref D.BallError) rfl T.c_BallError rfl) pa_nil))))) (pw_or (pt_not (pt_val (pe_callB (id := "isinstance") (call_isiEK (K := K)) (by rfl) T.b_isinstance (by decide +kernel) (pa_cons (pv 3) (pa_cons (pe_bltn (v := .ty "ValueError") rfl T.b_ValueError (by decide +kernel) rfl) pa_nil))))) (pw_or1 (pt_val (pe_callB (id := "isinstance") (call_isiEK (K := K)) (by rfl) T.b_isinstance (by decide +kernel) (pa_cons (pv 3) (pa_cons (pe_bltn (v := .ty "LookupError") rfl T.b_LookupError (by decide +kernel) rfl) pa_nil))))))))
      (pss_one (ps_ret pe_bl))
      pss_nil)
      (pss_one (ps_if (pt_cmpR (op_neK (K := K) hu) (pe_c0 d_law_kinds hr (by decide) (pa_cons (pv 3) pa_nil)) (pe_lc (own := [("spot", 4)]) (g := gName 4) (tt := tYes) rfl sc_law_classes_right.nd (pi_range1 rfl T.b_range (pa_cons pe_int pa_nil)) (blkOk_by (N := ["value", "made", "at", "error", "spot"]) (sc := defScope st_law_classes_right) (by decide +kernel)) (fun _ _ _ _ _ => (pg_name (i := 4) sc_law_classes_right.nd rfl (Or.inl rfl))) (fun _ _ _ _ _ => pts_nil) (fun _ _ _ _ _ => (pe_cmpR (op_eqK (K := K) hu) (pv 2) (pv 4) (nomark _)))) (nomark _))
      (pss_one (ps_ret pe_bl))
      pss_nil))))
      (pss_one (ps_ret pe_bl)))))), ?_⟩
    have b : Same H H := Same.refl H
    walk_at "go"
    refine q_mkE rfl fun a1 H1 s1 n1 e1 => ?_
    have f1 := errW_of e1 T.xi_BadNumber
    clear e1 n1
    replace b := b.trans s1
    walk_at "go"
    refine q_mkE rfl fun a2 H2 s2 n2 e2 => ?_
    have f2 := errW_of e2 T.xi_BadPoint
    clear e2 n2
    replace f1 := errW_same s2 f1
    replace b := b.trans s2
    walk_at "go"
    refine q_mkE rfl fun a3 H3 s3 n3 e3 => ?_
    have f3 := errW_of e3 T.xi_BadTurn
    clear e3 n3
    replace f1 := errW_same s3 f1
    replace f2 := errW_same s3 f2
    replace b := b.trans s3
    walk_at "go"
    refine q_mkE rfl fun a4 H4 s4 n4 e4 => ?_
    have f4 := errW_of e4 T.xi_BadMachine
    clear e4 n4
    replace f1 := errW_same s4 f1
    replace f2 := errW_same s4 f2
    replace f3 := errW_same s4 f3
    replace b := b.trans s4
    walk_at "go"
    refine q_mkE rfl fun a5 H5 s5 n5 e5 => ?_
    have f5 := errW_of e5 T.xi_BadPiece
    clear e5 n5
    replace f1 := errW_same s5 f1
    replace f2 := errW_same s5 f2
    replace f3 := errW_same s5 f3
    replace f4 := errW_same s5 f4
    replace b := b.trans s5
    walk_at "go"
    refine q_mkE rfl fun a6 H6 s6 n6 e6 => ?_
    have f6 := errW_of e6 T.xi_BadLot
    clear e6 n6
    replace f1 := errW_same s6 f1
    replace f2 := errW_same s6 f2
    replace f3 := errW_same s6 f3
    replace f4 := errW_same s6 f4
    replace f5 := errW_same s6 f5
    replace b := b.trans s6
    walk_at "go"
    refine r_sz (by simp) fun l1 hl1 => ?_
    have t1 := same_upd (o := .lst [V.ref a1, .ref a2, .ref a3, .ref a4, .ref a5, .ref a6]) hl1
    have g1 := upd_same (H := H6) (a := l1) (o := .lst [V.ref a1, .ref a2, .ref a3, .ref a4, .ref a5, .ref a6])
    replace b := b.trans t1
    replace f1 := errW_same t1 f1
    replace f2 := errW_same t1 f2
    replace f3 := errW_same t1 f3
    replace f4 := errW_same t1 f4
    replace f5 := errW_same t1 f5
    replace f6 := errW_same t1 f6
    generalize upd H6 l1 (.lst _) = M1 at *
    walk_at "go"
    refine q_mkE rfl fun a7 H7 s7 n7 e7 => ?_
    have f7 := errW_of e7 T.xi_BadPaper
    clear e7 n7
    replace f1 := errW_same s7 f1
    replace f2 := errW_same s7 f2
    replace f3 := errW_same s7 f3
    replace f4 := errW_same s7 f4
    replace f5 := errW_same s7 f5
    replace f6 := errW_same s7 f6
    replace b := b.trans s7
    replace g1 := s7 _ _ g1
    walk_at "go"
    refine q_mkE rfl fun a8 H8 s8 n8 e8 => ?_
    have f8 := errW_of e8 T.xi_BadWord
    clear e8 n8
    replace f1 := errW_same s8 f1
    replace f2 := errW_same s8 f2
    replace f3 := errW_same s8 f3
    replace f4 := errW_same s8 f4
    replace f5 := errW_same s8 f5
    replace f6 := errW_same s8 f6
    replace f7 := errW_same s8 f7
    replace b := b.trans s8
    replace g1 := s8 _ _ g1
    walk_at "go"
    refine q_mkE rfl fun a9 H9 s9 n9 e9 => ?_
    have f9 := errW_of e9 T.xi_BadLetter
    clear e9 n9
    replace f1 := errW_same s9 f1
    replace f2 := errW_same s9 f2
    replace f3 := errW_same s9 f3
    replace f4 := errW_same s9 f4
    replace f5 := errW_same s9 f5
    replace f6 := errW_same s9 f6
    replace f7 := errW_same s9 f7
    replace f8 := errW_same s9 f8
    replace b := b.trans s9
    replace g1 := s9 _ _ g1
    walk_at "go"
    refine q_mkE rfl fun a10 H10 s10 n10 e10 => ?_
    have f10 := errW_of e10 T.xi_Thin
    clear e10 n10
    replace f1 := errW_same s10 f1
    replace f2 := errW_same s10 f2
    replace f3 := errW_same s10 f3
    replace f4 := errW_same s10 f4
    replace f5 := errW_same s10 f5
    replace f6 := errW_same s10 f6
    replace f7 := errW_same s10 f7
    replace f8 := errW_same s10 f8
    replace f9 := errW_same s10 f9
    replace b := b.trans s10
    replace g1 := s10 _ _ g1
    walk_at "go"
    refine q_mkE rfl fun a11 H11 s11 n11 e11 => ?_
    have f11 := errW_of e11 T.xi_TooMany
    clear e11 n11
    replace f1 := errW_same s11 f1
    replace f2 := errW_same s11 f2
    replace f3 := errW_same s11 f3
    replace f4 := errW_same s11 f4
    replace f5 := errW_same s11 f5
    replace f6 := errW_same s11 f6
    replace f7 := errW_same s11 f7
    replace f8 := errW_same s11 f8
    replace f9 := errW_same s11 f9
    replace f10 := errW_same s11 f10
    replace b := b.trans s11
    replace g1 := s11 _ _ g1
    walk_at "go"
    refine r_sz (by simp) fun l2 hl2 => ?_
    have t2 := same_upd (o := .lst [V.ref a7, .ref a8, .ref a9, .ref a10, .ref a11]) hl2
    walk_at "go"
    refine r_addL (t2 _ _ g1) upd_same (by simp) fun l3 hl3 => ?_
    have t3 := t2.trans (same_upd (o := .lst ([V.ref a1, .ref a2, .ref a3, .ref a4, .ref a5, .ref a6] ++ [V.ref a7, .ref a8, .ref a9, .ref a10, .ref a11])) hl3)
    have g3 := upd_same (H := upd H11 l2 (.lst [V.ref a7, .ref a8, .ref a9, .ref a10, .ref a11])) (a := l3) (o := .lst ([V.ref a1, .ref a2, .ref a3, .ref a4, .ref a5, .ref a6] ++ [V.ref a7, .ref a8, .ref a9, .ref a10, .ref a11]))
    replace b := b.trans t3
    replace f1 := errW_same t3 f1
    replace f2 := errW_same t3 f2
    replace f3 := errW_same t3 f3
    replace f4 := errW_same t3 f4
    replace f5 := errW_same t3 f5
    replace f6 := errW_same t3 f6
    replace f7 := errW_same t3 f7
    replace f8 := errW_same t3 f8
    replace f9 := errW_same t3 f9
    replace f10 := errW_same t3 f10
    replace f11 := errW_same t3 f11
    clear t2 g1
    generalize upd (upd H11 l2 _) l3 _ = M3 at *
    clear t3
    walk_at "go"
    refine q_mkE rfl fun a12 H12 s12 n12 e12 => ?_
    have f12 := errW_of e12 T.xi_BadText
    clear e12 n12
    replace f1 := errW_same s12 f1
    replace f2 := errW_same s12 f2
    replace f3 := errW_same s12 f3
    replace f4 := errW_same s12 f4
    replace f5 := errW_same s12 f5
    replace f6 := errW_same s12 f6
    replace f7 := errW_same s12 f7
    replace f8 := errW_same s12 f8
    replace f9 := errW_same s12 f9
    replace f10 := errW_same s12 f10
    replace f11 := errW_same s12 f11
    replace b := b.trans s12
    replace g3 := s12 _ _ g3
    walk_at "go"
    refine q_mkE rfl fun a13 H13 s13 n13 e13 => ?_
    have f13 := errW_of e13 T.xi_BadName
    clear e13 n13
    replace f1 := errW_same s13 f1
    replace f2 := errW_same s13 f2
    replace f3 := errW_same s13 f3
    replace f4 := errW_same s13 f4
    replace f5 := errW_same s13 f5
    replace f6 := errW_same s13 f6
    replace f7 := errW_same s13 f7
    replace f8 := errW_same s13 f8
    replace f9 := errW_same s13 f9
    replace f10 := errW_same s13 f10
    replace f11 := errW_same s13 f11
    replace f12 := errW_same s13 f12
    replace b := b.trans s13
    replace g3 := s13 _ _ g3
    walk_at "go"
    refine q_mkE rfl fun a14 H14 s14 n14 e14 => ?_
    have f14 := errW_of e14 T.xi_NoName
    clear e14 n14
    replace f1 := errW_same s14 f1
    replace f2 := errW_same s14 f2
    replace f3 := errW_same s14 f3
    replace f4 := errW_same s14 f4
    replace f5 := errW_same s14 f5
    replace f6 := errW_same s14 f6
    replace f7 := errW_same s14 f7
    replace f8 := errW_same s14 f8
    replace f9 := errW_same s14 f9
    replace f10 := errW_same s14 f10
    replace f11 := errW_same s14 f11
    replace f12 := errW_same s14 f12
    replace f13 := errW_same s14 f13
    replace b := b.trans s14
    replace g3 := s14 _ _ g3
    walk_at "go"
    refine q_mkE rfl fun a15 H15 s15 n15 e15 => ?_
    have f15 := errW_of e15 T.xi_Twice
    clear e15 n15
    replace f1 := errW_same s15 f1
    replace f2 := errW_same s15 f2
    replace f3 := errW_same s15 f3
    replace f4 := errW_same s15 f4
    replace f5 := errW_same s15 f5
    replace f6 := errW_same s15 f6
    replace f7 := errW_same s15 f7
    replace f8 := errW_same s15 f8
    replace f9 := errW_same s15 f9
    replace f10 := errW_same s15 f10
    replace f11 := errW_same s15 f11
    replace f12 := errW_same s15 f12
    replace f13 := errW_same s15 f13
    replace f14 := errW_same s15 f14
    replace b := b.trans s15
    replace g3 := s15 _ _ g3
    walk_at "go"
    refine q_mkE rfl fun a16 H16 s16 n16 e16 => ?_
    have f16 := errW_of e16 T.xi_BadLine
    clear e16 n16
    replace f1 := errW_same s16 f1
    replace f2 := errW_same s16 f2
    replace f3 := errW_same s16 f3
    replace f4 := errW_same s16 f4
    replace f5 := errW_same s16 f5
    replace f6 := errW_same s16 f6
    replace f7 := errW_same s16 f7
    replace f8 := errW_same s16 f8
    replace f9 := errW_same s16 f9
    replace f10 := errW_same s16 f10
    replace f11 := errW_same s16 f11
    replace f12 := errW_same s16 f12
    replace f13 := errW_same s16 f13
    replace f14 := errW_same s16 f14
    replace f15 := errW_same s16 f15
    replace b := b.trans s16
    replace g3 := s16 _ _ g3
    walk_at "go"
    intro a17 ha17
    have s17 := same_upd (o := EXV (.ref D.Nothing) none a17) ha17
    have f17 : ErrW K (upd H16 a17 (EXV (.ref D.Nothing) none a17)) a17 D.Nothing := ⟨⟨none, upd_same, fun dd e => (nomatch e)⟩, T.xi_Nothing⟩
    replace f1 := errW_same s17 f1
    replace f2 := errW_same s17 f2
    replace f3 := errW_same s17 f3
    replace f4 := errW_same s17 f4
    replace f5 := errW_same s17 f5
    replace f6 := errW_same s17 f6
    replace f7 := errW_same s17 f7
    replace f8 := errW_same s17 f8
    replace f9 := errW_same s17 f9
    replace f10 := errW_same s17 f10
    replace f11 := errW_same s17 f11
    replace f12 := errW_same s17 f12
    replace f13 := errW_same s17 f13
    replace f14 := errW_same s17 f14
    replace f15 := errW_same s17 f15
    replace f16 := errW_same s17 f16
    replace b := b.trans s17
    replace g3 := s17 _ _ g3
    generalize upd H16 a17 (EXV (.ref D.Nothing) none a17) = H17 at *
    walk_at "go"
    refine q_mkE rfl fun a18 H18 s18 n18 e18 => ?_
    have f18 := errW_of e18 T.xi_NoWay
    clear e18 n18
    replace f1 := errW_same s18 f1
    replace f2 := errW_same s18 f2
    replace f3 := errW_same s18 f3
    replace f4 := errW_same s18 f4
    replace f5 := errW_same s18 f5
    replace f6 := errW_same s18 f6
    replace f7 := errW_same s18 f7
    replace f8 := errW_same s18 f8
    replace f9 := errW_same s18 f9
    replace f10 := errW_same s18 f10
    replace f11 := errW_same s18 f11
    replace f12 := errW_same s18 f12
    replace f13 := errW_same s18 f13
    replace f14 := errW_same s18 f14
    replace f15 := errW_same s18 f15
    replace f16 := errW_same s18 f16
    replace f17 := errW_same s18 f17
    replace b := b.trans s18
    replace g3 := s18 _ _ g3
    walk_at "go"
    refine r_sz (by simp) fun l4 hl4 => ?_
    have t4 := same_upd (o := .lst [V.ref a12, .ref a13, .ref a14, .ref a15, .ref a16, .ref a17, .ref a18]) hl4
    walk_at "go"
    refine r_addL (t4 _ _ g3) upd_same (by simp) fun l5 hl5 => ?_
    have t5 := t4.trans (same_upd (o := .lst ([V.ref a1, .ref a2, .ref a3, .ref a4, .ref a5, .ref a6] ++ [V.ref a7, .ref a8, .ref a9, .ref a10, .ref a11] ++ [V.ref a12, .ref a13, .ref a14, .ref a15, .ref a16, .ref a17, .ref a18])) hl5)
    have g5 := upd_same (H := upd H18 l4 (.lst [V.ref a12, .ref a13, .ref a14, .ref a15, .ref a16, .ref a17, .ref a18])) (a := l5) (o := .lst ([V.ref a1, .ref a2, .ref a3, .ref a4, .ref a5, .ref a6] ++ [V.ref a7, .ref a8, .ref a9, .ref a10, .ref a11] ++ [V.ref a12, .ref a13, .ref a14, .ref a15, .ref a16, .ref a17, .ref a18]))
    replace b := b.trans t5
    replace f1 := errW_same t5 f1
    replace f2 := errW_same t5 f2
    replace f3 := errW_same t5 f3
    replace f4 := errW_same t5 f4
    replace f5 := errW_same t5 f5
    replace f6 := errW_same t5 f6
    replace f7 := errW_same t5 f7
    replace f8 := errW_same t5 f8
    replace f9 := errW_same t5 f9
    replace f10 := errW_same t5 f10
    replace f11 := errW_same t5 f11
    replace f12 := errW_same t5 f12
    replace f13 := errW_same t5 f13
    replace f14 := errW_same t5 f14
    replace f15 := errW_same t5 f15
    replace f16 := errW_same t5 f16
    replace f17 := errW_same t5 f17
    replace f18 := errW_same t5 f18
    clear t4 g3
    generalize hits : [V.ref a1, .ref a2, .ref a3, .ref a4, .ref a5, .ref a6] ++ [V.ref a7, .ref a8, .ref a9, .ref a10, .ref a11] ++ [V.ref a12, .ref a13, .ref a14, .ref a15, .ref a16, .ref a17, .ref a18] = its at *
    generalize upd (upd H18 l4 _) l5 _ = M5 at *
    clear t5
    have hl : its.length = 18 := by rw [← hits]; rfl
    have hf : ∀ (i : Nat) (y : V), its[i]? = some y → ∃ a C, y = .ref a ∧ (errCs D)[i]? = some C ∧ ErrW K M5 a C := by
      rw [← hits]
      intro i y hy
      match i, hy with
      | 0, hy => cases hy; exact ⟨_, _, rfl, rfl, f1⟩
      | 1, hy => cases hy; exact ⟨_, _, rfl, rfl, f2⟩
      | 2, hy => cases hy; exact ⟨_, _, rfl, rfl, f3⟩
      | 3, hy => cases hy; exact ⟨_, _, rfl, rfl, f4⟩
      | 4, hy => cases hy; exact ⟨_, _, rfl, rfl, f5⟩
      | 5, hy => cases hy; exact ⟨_, _, rfl, rfl, f6⟩
      | 6, hy => cases hy; exact ⟨_, _, rfl, rfl, f7⟩
      | 7, hy => cases hy; exact ⟨_, _, rfl, rfl, f8⟩
      | 8, hy => cases hy; exact ⟨_, _, rfl, rfl, f9⟩
      | 9, hy => cases hy; exact ⟨_, _, rfl, rfl, f10⟩
      | 10, hy => cases hy; exact ⟨_, _, rfl, rfl, f11⟩
      | 11, hy => cases hy; exact ⟨_, _, rfl, rfl, f12⟩
      | 12, hy => cases hy; exact ⟨_, _, rfl, rfl, f13⟩
      | 13, hy => cases hy; exact ⟨_, _, rfl, rfl, f14⟩
      | 14, hy => cases hy; exact ⟨_, _, rfl, rfl, f15⟩
      | 15, hy => cases hy; exact ⟨_, _, rfl, rfl, f16⟩
      | 16, hy => cases hy; exact ⟨_, _, rfl, rfl, f17⟩
      | 17, hy => cases hy; exact ⟨_, _, rfl, rfl, f18⟩
      | i + 18, hy => cases hy
    clear hits
    walk_at "go"
    refine ⟨l5, its, rfl, SqL.of g5, ?_⟩
    refine for_enumL (xs := its) (fun i σ H' => Same M5 H' ∧ ∃ v1 v2 v3, σ = [some x, some (.ref l5), v1, v2, v3]) ⟨Same.refl _, _, _, _, rfl⟩ (fun i σ H' _ h => sqL_same h.1 (SqL.of g5)) ?_ ?_
    · rintro i y p σ H2 hy ⟨k2, v1, v2, v3, rfl⟩ hp
      obtain ⟨a, C, rfl, hC, hE⟩ := hf i y hy
      have k3 := k2.trans (same_upd (o := .tup [.int (i : Nat), .ref a]) hp)
      refine r_up2 (SqT.of upd_same) rfl ?_
      generalize upd H2 p _ = H3 at k3 ⊢
      have hE3 := errW_same k3 hE
      walk_at "go"
      refine r_isK (.own D.BallError) (errW_is hE3 (kit_BallError T i C hC)) ?_
      walk_at "go"
      refine r_isK (.ty "ValueError") (errW_is hE3 (kit_ValueError T i C hC)) ?_
      walk_at "go"
      refine r_isK (.ty "LookupError") (errW_is hE3 (kit_LookupError T i C hC)) ?_
      walk_at "go"
      refine ⟨a, C, i, rfl, hE3, kinds_all T i C hC, fun p4 H4 s4 h4 => ?_⟩
      walk_at "go"
      refine ⟨18, rfl, by decide, by decide, fun Dl hDl => ?_⟩
      refine lcG (its := (List.range 18).map fun i => V.int (i : Nat)) walk_range0 (fun j acc H' => Same H4 H' ∧ acc = ((List.range j).map fun k => decide (i = k)).map V.bl) ⟨same_upd hDl, rfl⟩ (fun _ _ _ _ _ _ => trivial) ?_ ?_
      · rintro j z acc H5 hz ⟨k5, rfl⟩ e5
        obtain ⟨hj, rfl⟩ := range_it hz
        walk_at "go"
        rw [dec_nat]
        refine lcFin (Pv := fun acc H' => Same H4 H' ∧ acc = ((List.range (j + 1)).map fun k => decide (i = k)).map V.bl) e5 (by simp; omega) ⟨same_mut k5 hDl, by rw [map_range_snoc, List.map_append]; rfl⟩
      · rintro acc H5 ⟨k5, rfl⟩ e5
        rw [List.length_map, List.length_range] at e5
        walk_at "go"
        refine r_neBs (xs := kindsL i) (ys := kindsL i) (SqL.of (k5 _ _ h4)) (SqL.of e5) ?_
        walk_at "go"
        refine r_ie (by simp) ?_
        walk_at "go"
        exact ⟨(k3.trans s4).trans k5, _, _, _, rfl⟩
    · rintro σ H2 ⟨k2, v1, v2, v3, rfl⟩
      walk_at "go"
      exact q _ (b.trans k2)
end
end Cs


set_option Elab.async false
set_option linter.all false
set_option maxRecDepth 100000
set_option maxHeartbeats 4000000
namespace Cs
open PySem PySem.Spec PyProof.Rows L2 LamX
local macro_rules | `(tactic| walk_at "base") => `(tactic| with_reducible (first
  | refine r_seq ?_ | refine r_asg ?_ | refine r_gname ?_ | refine r_ret ?_ | refine r_drop ?_ | refine r_next ?_ | refine r_retN ?_ | refine r_fld ?_ | refine r_gsub ?_ | refine r_brk ?_ | refine r_cont ?_
  | refine r_var rfl ?_ | refine r_c ?_ | refine r_op ?_ | refine r_un ?_ | refine r_test ?_ | refine r_tB ?_ | refine r_bl ?_ | refine r_blv ?_
  | refine r_cons ?_ | refine r_nil ?_ | refine r_lc ?_ | refine r_yes ?_ | refine r_iLT0 ?_ | refine r_iEnumS ?_ | refine r_iEnum ?_ | refine r_iStr ?_ | refine r_iList ?_ | refine r_iRng ?_ | refine r_iRng2 ?_ | refine r_iRng3 ?_ | refine r_iStrS ?_ | refine r_iStrE ?_ | refine r_cb ?_ | refine r_call0 ?_ | refine r_callS ?_ | refine r_callK ?_ | refine r_tup ?_ | refine r_lst ?_ | refine r_make0 ?_ | refine r_attr ?_
  | refine r_err0 ?_ | refine r_err ?_ | refine r_errK ?_ | refine r_lstB ?_ | refine r_sl ?_ | refine r_nopart ?_ | refine r_part ?_ | refine r_parti ?_ | refine r_tyS ?_ | refine r_bm0 ?_ | refine r_bm ?_ | refine r_dnew ?_
  | refine r_and ?_ | refine r_or ?_ | refine r_not ?_ | refine r_andV ?_ | refine r_orV ?_ | refine r_notV ?_ | refine r_if ?_ | refine r_ift ?_ | refine r_iff ?_ | refine r_revL ?_ | refine r_ntt ?_ | refine r_nff ?_ | refine r_itup ?_ | refine r_chain ?_
  | refine r_I0 ?_ | refine r_U ?_ | refine r_addI ?_ | refine r_eqI ?_ | refine r_neI ?_ | refine r_eqS ?_ | refine r_neS ?_ | refine r_eqB ?_ | refine r_neB ?_ | refine r_inS ?_ | refine r_niS ?_ | refine r_int1 ?_ | refine r_abs ?_ | refine r_isN ?_ | refine r_notN ?_
  | refine r_intB ?_ | refine r_max ?_ | refine r_strS ?_ | refine r_isB ?_ | refine r_notB ?_ | refine r_notBI ?_ | refine r_revS ?_ | refine r_sta ?_ | refine r_metA ?_ | refine r_mK1 ?_ | refine r_mD ?_ | refine r_iOwn ?_ | refine r_aug rfl ?_ | refine r_ipI ?_ | refine r_par ?_ | refine r_vw ?_))
local macro_rules | `(tactic| walk_at "ends") => `(tactic| with_reducible (first | refine r_nx ?_ | refine r_rt ?_ | refine r_ct ?_ | refine r_bk ?_))
local macro_rules | `(tactic| walk_at "two") => `(tactic| first | walk_at "base" | walk_at "ends")
local macro_rules | `(tactic| walk_at "one") => `(tactic| first | walk_at "base" | with_reducible (first | refine r_ifs ?_ | refine r_forE ?_) | walk_at "ends")
local macro_rules | `(tactic| walk_at "go") => `(tactic| repeat walk_at "one")
local macro_rules | `(tactic| walk_at "gp") => `(tactic| repeat walk_at "two")

section
variable {P : Program} {w : World} {K : PySem.W.Frag} {mg : Str → Option Value} {base : Heap} {D : Ad}

def known8 : List V := lets.map fun c => V.str (S [c])
theorem known_in {w : List Nat} (h : w ∈ vstrs) : inV (.str (S w)) known8 = isLd (.str (S w)) := by
  have z : ∀ w ∈ vstrs, inV (.str (S w)) known8 = isLd (.str (S w)) := by decide +kernel
  exact z w h
theorem known_at {c : Nat} (h : isL c = true) : atI known8 (((plc c : Nat) + 4 : Int) % 8) = some (.str (S [und c])) := by
  rcases isL_cases h with rfl | rfl | rfl | rfl | rfl | rfl | rfl | rfl <;> decide +kernel
theorem q_index8 {H : Hp} {Q : VK} {l : Addr} {c : Nat} (h : isL c = true) (hl : SqL K H l known8) (q : Q (.int (plc c : Nat)) H) : rIndex K (.ref l) [.str (S [c])] H Q := by
  refine ⟨l, known8, _, plc c, .str (S [c]), rfl, rfl, hl, rfl, by decide +kernel, ?_, ?_, ?_, q⟩
  · rcases isL_cases h with rfl | rfl | rfl | rfl | rfl | rfl | rfl | rfl <;> decide +kernel
  · rcases isL_cases h with rfl | rfl | rfl | rfl | rfl | rfl | rfl | rfl <;> decide +kernel
  · have z : ∀ m < 8, ∀ z', known8[m]? = some z' → m < plc c → eqV z' (.str (S [c])) = false := by
      intro m hm z' hz hlt
      have e : z' = .str (S [lets[m]!]) := by
        match m, hm, hz with
        | 0, _, hz => cases hz; rfl
        | 1, _, hz => cases hz; rfl
        | 2, _, hz => cases hz; rfl
        | 3, _, hz => cases hz; rfl
        | 4, _, hz => cases hz; rfl
        | 5, _, hz => cases hz; rfl
        | 6, _, hz => cases hz; rfl
        | 7, _, hz => cases hz; rfl
      subst e
      revert hlt
      rcases isL_cases h with rfl | rfl | rfl | rfl | rfl | rfl | rfl | rfl <;> (revert m; decide +kernel)
    intro m z' hm hz
    exact z m (by have := plc_lt h; omega) z' hz hm
theorem vk_letter {H : Hp} {x : V} {d : PyData} (h : Vk H x d) (e : isLd d = true) : ∃ c, x = .str (S [c]) ∧ d = .str (S [c]) ∧ isL c = true ∧ [und c] ∈ vstrs := by
  cases h with
  | str w hw =>
    rw [isLd_str] at e
    obtain ⟨c, hc, rfl⟩ := of_decide_eq_true e
    refine ⟨c, rfl, rfl, isL_iff.mpr hc, ?_⟩
    have z : ∀ w ∈ vstrs, ∀ c ∈ lets, w = [c] → [und c] ∈ vstrs := by decide
    exact z _ hw c hc rfl
  | non => cases e
  | bl b => cases e
  | int n h => cases e
  | lst h n => cases e
  | tup h => cases e
  | nil h n => cases e
  | dk h => cases e
abbrev st_law_letters_right : Stmt := top 38
theorem sc_law_letters_right : FnScope ["value", "known", "is_one", "caught", "back"] ["value"] (defScope st_law_letters_right) := ⟨rfl, rfl, rfl, by decide +kernel, rfl, by decide +kernel, by decide +kernel⟩
def sp_law_letters_right (K : PySem.W.Frag) (D : Ad) (Tb : List (Addr × Str)) : Sp := fun vs H Q _ => ∃ x d, vs = [x] ∧ Vk H x d ∧ Tabs Tb H ∧ ∀ H', ExtN H H' → Tabs Tb H' → Q (.bl true) H'
theorem ok_law_letters_right {f : Addr} {fd : FuncData} {Tb : List (Addr × Str)} {c : Addr} (F : FunL K "_law_letters_right" "_law_letters_right" st_law_letters_right f fd c) (T : Txt P w K mg base D) (d_is_letter : CalN P w K mg base 1 "is_letter" (sp_is_letter K D)) (d_law_told : CalN P w K mg base 1 "_law_told" (sp_law_told K D)) (d_undoing : CalX P w K mg base 2 "undoing" (sp_undoing K D)) (dk_undoing_letter : CalK P w K mg base (L2.CX P w) 2 "undoing" ["letter"] (gPm (α := V) .non 0 1 [0]) (sp_undoing K D)) (lh : HeardAt K mg st__law_heard0) (lm_law_letters_right : MakerAt base mg Tb c ((("_law_letters_right" : Str) ++ ".<locals>.") ++ "<lambda>")) : FnOkG P w K mg base CX0 5 f fd ["value"] (sp_law_letters_right K D Tb) := by
  refine F.okG sc_law_letters_right (fun vs H Q E h => ?_) (fun A outer s H vs Q E hr hgd h => ?_)
  · obtain ⟨x, d, rfl, _⟩ := h
    rfl
  · obtain ⟨x, d, rfl, hv, hT, q⟩ := h
    have hu := hr.units
    refine ⟨_, (pss_cons (ps_asg (pe_lst (pa_cons (pe_S (w := [65]) (by decide +kernel)) (pa_cons (pe_S (w := [66]) (by decide +kernel)) (pa_cons (pe_S (w := [67]) (by decide +kernel)) (pa_cons (pe_S (w := [68]) (by decide +kernel)) (pa_cons (pe_S (w := [97]) (by decide +kernel)) (pa_cons (pe_S (w := [98]) (by decide +kernel)) (pa_cons (pe_S (w := [99]) (by decide +kernel)) (pa_cons (pe_S (w := [100]) (by decide +kernel)) pa_nil))))))))) (pg_name (i := 1) sc_law_letters_right.nd rfl (Or.inl rfl)))
      (pss_cons (ps_asg (pe_and (pe_callB (id := "isinstance") (call_isiEK (K := K)) (by rfl) T.b_isinstance (by decide +kernel) (pa_cons (pv 0) (pa_cons (pe_bltn (v := .ty "str") rfl T.b_str (by decide +kernel) rfl) pa_nil))) (pe_one (pe_cmpR (op_inK (K := K)) (pv 0) (pv 1) rfl))) (pg_name (i := 2) sc_law_letters_right.nd rfl (Or.inl rfl)))
      (pss_cons (ps_if (pt_not (pt_val (pe_c0 d_law_told hr (by decide) (pa_cons (pe_c0 d_is_letter hr (by decide) (pa_cons (pv 0) pa_nil)) (pa_cons (pv 2) pa_nil)))))
      (pss_one (ps_ret pe_bl))
      pss_nil)
      (pss_cons (ps_if (pt_val (pv 2))
      (pss_cons (ps_asg (pe_cX d_undoing hr (by decide) passL (pa_cons (pv 0) pa_nil)) (pg_name (i := 4) sc_law_letters_right.nd rfl (Or.inl rfl)))
      (pss_one (ps_ret (pe_and (pe_cmpR (op_eqK (K := K) hu) (pv 4) (pe_ix (ix_seqK (K := K)) (pv 1) (pe_op op_mod (pe_op op_addA (pe_bmK (K := K) PySem.F.plainAttrs_list PySem.F.slot_list_index PySem.F.type_list_index (mb_lindex (K := K)) (pv 1) (pa_cons (pv 0) pa_nil)) pe_int) pe_int) (fun _ _ => rfl)) (nomark _)) (pe_one (pe_cmpR (op_eqK (K := K) hu) (pe_cK0 dk_undoing_letter hr (by decide) passL (pk_cons (pv 4) pk_nil)) (pv 0) (nomark _)))))))
      pss_nil)
      (pss_cons (ps_asg (pe_heard (K := K) (k := 2) lh (fun X g cdv q hm => heard_gives hm rfl rfl rfl rfl) T.c_BallError sc__law_heard0 (.inl rfl) lm_law_letters_right hr (by decide) (fun A outer s H E f c hr => (pe_cX d_undoing hr (by decide) (passes_call (takes_of rfl rfl rfl rfl) fun _ _ _ _ h => h) (pa_cons (pv 0) pa_nil))) (lamS_by (sc := defScope st_law_letters_right) (by decide +kernel))) (pg_name (i := 3) sc_law_letters_right.nd rfl (Or.inl rfl)))
      (pss_one (ps_ret (pe_and (pe_callB (id := "isinstance") (call_isiEK (K := K)) (by rfl) T.b_isinstance (by decide +kernel) (pa_cons (pv 3) (pa_cons (pe_glob (v := .ref D.BadLetter) rfl T.c_BadLetter rfl) pa_nil))) (pe_one (pe_cmpR (op_eqK (K := K) hu) (pe_callB (id := "repr") (call_repr (K := K) hr hgd) (by rfl) T.b_repr (by decide +kernel) (pa_cons (pe_attrK (K := K) (pv 3)) pa_nil)) (pe_callB (id := "repr") (call_repr (K := K) hr hgd) (by rfl) T.b_repr (by decide +kernel) (pa_cons (pv 0) pa_nil)) (nomark _))))))))))), ?_⟩
    obtain ⟨v1, v2, v3⟩ := vk_is (K := K) hv
    walk_at "go"
    refine r_sz (by simp) fun l hl => ?_
    have s1 := same_upd (o := .lst known8) hl
    have g1 := upd_same (H := H) (a := l) (o := .lst known8)
    have hT1 := tabs_same hT s1
    have hv1 := vk_same s1 hv
    replace v3 := isK_same s1 v3
    have ek : [V.str (S [65]), .str (S [66]), .str (S [67]), .str (S [68]), .str (S [97]), .str (S [98]), .str (S [99]), .str (S [100])] = known8 := rfl
    rw [ek]
    generalize upd H l (.lst known8) = H1 at *
    with_reducible refine r_gname ?_
    with_reducible refine r_nx ?_
    with_reducible refine r_seq ?_
    refine r_cut (fun σ' H' => H' = H1 ∧ σ' = [some x, some (.ref l), some (.bl (isLd d)), none, none]) (fun nx hnx => ?_) ?_
    · walk_at "go"
      refine r_isK (.ty "str") v3 ?_
      walk_at "go"
      cases hv with
      | str w hw =>
        refine r_it rfl ?_
        walk_at "go"
        refine .inr ⟨l, known8, rfl, .inl (SqL.of g1), rfl, by decide +kernel, ?_⟩
        rw [if_neg (by decide), known_in hw]
        walk_at "go"
        exact hnx _ _ ⟨rfl, rfl⟩
      | non => refine r_ie rfl ?_; walk_at "go"; exact hnx _ _ ⟨rfl, rfl⟩
      | bl b => refine r_ie rfl ?_; walk_at "go"; exact hnx _ _ ⟨rfl, rfl⟩
      | int n h => refine r_ie rfl ?_; walk_at "go"; exact hnx _ _ ⟨rfl, rfl⟩
      | lst h n => refine r_ie rfl ?_; walk_at "go"; exact hnx _ _ ⟨rfl, rfl⟩
      | tup h => refine r_ie rfl ?_; walk_at "go"; exact hnx _ _ ⟨rfl, rfl⟩
      | nil h n => refine r_ie rfl ?_; walk_at "go"; exact hnx _ _ ⟨rfl, rfl⟩
      | dk h => refine r_ie rfl ?_; walk_at "go"; exact hnx _ _ ⟨rfl, rfl⟩
    · rintro σ' H' ⟨rfl, rfl⟩
      walk_at "go"
      refine ⟨x, d, rfl, hv1, ?_⟩
      walk_at "go"
      refine ⟨isLd d, isLd d, rfl, ?_⟩
      rw [decide_eq_true rfl]
      walk_at "go"
      refine r_ib (fun e => ?_) (fun e => ?_)
      · obtain ⟨c, rfl, rfl, hc, hu2⟩ := vk_letter hv e
        walk_at "go"
        refine ⟨_, _, rfl, hv1, fun z => (by rw [e] at z; cases z), fun _ => ⟨c, rfl, hc, ?_⟩⟩
        walk_at "go"
        refine r_tyL (SqL.of g1) ?_
        walk_at "go"
        refine q_index8 hc (SqL.of g1) ?_
        walk_at "go"
        refine r_mod (by decide) ?_
        walk_at "go"
        refine r_ixL (SqL.of g1) (known_at hc) ?_
        walk_at "go"
        refine r_it (by simp) ?_
        walk_at "go"
        have eu : isLd (.str (S [und c])) = true := by
          rw [isLd_str]
          exact decide_eq_true ⟨und c, isL_iff.mp (und_L hc), rfl⟩
        refine ⟨.str (S [und c]), .str (S [und c]), rfl, .str _ hu2, fun z => (by rw [eu] at z; cases z), fun _ => ⟨und c, rfl, und_L hc, ?_⟩⟩
        walk_at "go"
        rw [und_und hc, decide_eq_true rfl]
        exact q _ (extN_same s1) hT1
      · walk_at "go"
        refine r_lamH hT1 fun H2 x2 T2 => ?_
        walk_at "go"
        refine ⟨x, d, rfl, vk_ext x2 hv1, fun _ => heardE T.ex_BadLetter_BallError fun a3 d3 H3 s3 ha3 hd3 => ?_, fun z => (by rw [e] at z; cases z)⟩
        have e3 : ErrAt H3 a3 D.BadLetter [("value", x)] := ⟨d3, ha3, hd3⟩
        have hv3 := vk_same s3 (vk_ext x2 hv1)
        walk_at "go"
        refine r_isK (.own D.BadLetter) (err_isK e3 T.xi_BadLetter) ?_
        walk_at "go"
        refine err_at e3 T.xf_BadLetter_value rfl ?_
        walk_at "go"
        refine q_reprV hv3 ?_
        walk_at "go"
        refine q_reprV hv3 ?_
        walk_at "go"
        rw [decide_eq_true rfl]
        exact q _ (((extN_same s1).trans x2).trans (extN_same s3)) (T2.ext s3)
abbrev st_law : Stmt := top 39
theorem sc_law : FnScope ["script", "pen", "value", "most", "is_one", "other", "least"] ["script"] (defScope st_law) := ⟨rfl, rfl, rfl, by decide +kernel, rfl, by decide +kernel, by decide +kernel⟩
def sp_law (K : PySem.W.Frag) (D : Ad) (Tb : List (Addr × Str)) : Sp := fun vs H Q _ => ∃ (a : Addr) (ns : List Int), vs = [.ref a] ∧ SqL K H a (ns.map V.int) ∧ ns.length ≤ 63 ∧ Tabs Tb H ∧ ∀ H', Q (.bl true) H'
theorem ok_law {f : Addr} {fd : FuncData} {Tb : List (Addr × Str)} (F : Fun K "law" "law" st_law f fd) (T : Txt P w K mg base D) (d_is_integer : CalN P w K mg base 1 "is_integer" (sp_is_integer K D)) (d_is_within : CalN P w K mg base 2 "is_within" (sp_is_within K D)) (d_law_classes_right : CalN P w K mg base 2 "_law_classes_right" (sp_law_classes_right K D)) (d_law_draw : CalN P w K mg base 1 "_law_draw" (sp_law_draw K D)) (d_law_fields_right : CalG P w K mg base CX0 1 "_law_fields_right" (sp_law_fields_right K D)) (d_law_is_number : CalN P w K mg base 1 "_law_is_number" (sp_law_is_number K D)) (d_law_letters_right : CalG P w K mg base CX0 5 "_law_letters_right" (sp_law_letters_right K D Tb)) (d_law_parts_right : CalG P w K mg base CX0 1 "_law_parts_right" (sp_law_parts_right K D)) (d_law_pen : CalN P w K mg base 1 "_law_pen" (sp_law_pen K D)) (d_law_told : CalN P w K mg base 1 "_law_told" (sp_law_told K D)) (d_law_values : CalN P w K mg base 3 "_law_values" (sp_law_values K D)) (dk_is_within_least_most_value : CalK P w K mg base CX0 2 "is_within" ["least", "most", "value"] (gPm (α := V) .non 0 3 [2, 0, 1]) (sp_is_within K D)) : FnOkG P w K mg base CX0 6 f fd ["script"] (sp_law K D Tb) := by
  refine F.okG sc_law (fun vs H Q E h => ?_) (fun cdv A outer s H vs Q E hr hgd h => ?_)
  · obtain ⟨a, ns, rfl, _⟩ := h
    rfl
  · obtain ⟨a, ns, rfl, ha, hl, hT, q⟩ := h
    have hu := hr.units
    refine ⟨_, (pss_cons (ps_asg (pe_c0 d_law_pen hr (by decide) (pa_cons (pv 0) pa_nil)) (pg_name (i := 1) sc_law.nd rfl (Or.inl rfl)))
      (pss_cons (ps_if (pt_cmpR (op_neK (K := K) hu) (pe_gS rfl T.g_LETTERS) (pe_S (w := [65, 66, 67, 68, 97, 98, 99, 100]) (by decide +kernel)) (nomark _))
      (pss_one (ps_ret pe_bl))
      pss_nil)
      (pss_cons (ps_for PassesOwn.never rfl (pi_list (pe_c0 d_law_values hr (by decide) (pa_cons (pv 1) pa_nil))) (pg_name (i := 2) sc_law.nd rfl (Or.inl rfl))
      (pss_cons (ps_par (i := 5) (j := 6) rfl sc_law.nd rfl rfl (by decide) rfl rfl (pa_cons (pe_c0 d_law_draw hr (by decide) (pa_cons (pv 1) (pa_cons (pe_op op_pow pe_int pe_int) pa_nil))) (pa_cons (pe_op op_sub (pe_c0 d_law_draw hr (by decide) (pa_cons (pv 1) (pa_cons pe_int pa_nil))) pe_int) pa_nil)) rfl)
      (pss_cons (ps_asg (pe_op op_sub (pe_op op_addA (pv 6) (pe_c0 d_law_draw hr (by decide) (pa_cons (pv 1) (pa_cons pe_int pa_nil)))) pe_int) (pg_name (i := 3) sc_law.nd rfl (Or.inl rfl)))
      (pss_cons (ps_if (PW.pt (pw_or (pt_not (pt_val (pe_cG d_law_parts_right hr (by decide) hgd pass0 (pa_cons (pv 2) pa_nil)))) (pw_or (pt_not (pt_val (pe_cG d_law_fields_right hr (by decide) hgd pass0 (pa_cons (pv 2) (pa_cons (pv 5) pa_nil))))) (pw_or1 (pt_not (pt_val (pe_c0 d_law_classes_right hr (by decide) (pa_cons (pv 2) pa_nil))))))))
      (pss_one (ps_ret pe_bl))
      pss_nil)
      (pss_cons (ps_asg (pe_c0 d_law_is_number hr (by decide) (pa_cons (pv 2) pa_nil)) (pg_name (i := 4) sc_law.nd rfl (Or.inl rfl)))
      (pss_cons (ps_if (PW.pt (pw_or (pt_not (pt_val (pe_c0 d_law_told hr (by decide) (pa_cons (pe_c0 d_is_integer hr (by decide) (pa_cons (pv 2) pa_nil)) (pa_cons (pv 4) pa_nil))))) (pw_or1 (pt_not (pt_val (pe_cG d_law_letters_right hr (by decide) hgd pass0 (pa_cons (pv 2) pa_nil)))))))
      (pss_one (ps_ret pe_bl))
      pss_nil)
      (pss_cons (ps_if (pt_not (pt_val (pe_c0 d_law_told hr (by decide) (pa_cons (pe_c0 d_is_within hr (by decide) (pa_cons (pv 2) (pa_cons (pv 6) (pa_cons (pv 3) pa_nil)))) (pa_cons (pe_and (pv 4) (pe_and (pe_cmpR op_le (pv 6) (pv 2) (nomark _)) (pe_one (pe_cmpR op_le (pv 2) (pv 3) (nomark _))))) pa_nil)))))
      (pss_one (ps_ret pe_bl))
      pss_nil)
      (pss_one (ps_if (PW.pt (pw_or (pt_cmpR op_notBI (pe_cK0 dk_is_within_least_most_value hr (by decide) pass0 (pk_cons (pv 5) (pk_cons (pv 5) (pk_cons (pv 5) pk_nil)))) pe_bl (nomark _)) (pw_or1 (pt_cmpR op_notBI (pe_c0 d_is_within hr (by decide) (pa_cons (pv 5) (pa_cons (pe_op op_addA (pv 5) pe_int) (pa_cons (pe_op op_addA (pv 5) pe_int) pa_nil)))) pe_bl (nomark _)))))
      (pss_one (ps_ret pe_bl))
      pss_nil)))))))))
      (pss_one (ps_ret pe_bl))))), ?_⟩
    walk_at "go"
    refine ⟨a, ns, rfl, ha, hl, fun P H1 s1 hP hpn hcn => ?_⟩
    have k1 := LK.start hP (hT.ext s1)
    walk_at "go"
    refine r_ie (by simp) ?_
    walk_at "go"
    refine ⟨P, 0, rfl, k1.p, by omega, fun p xs H2 kk2 hP2 np h2 npp hxl hx => ?_⟩
    have k2 := k1.step kk2 hP2
    walk_at "go"
    refine ⟨p, rfl, ⟨xs, SqL.of h2⟩, ?_⟩
    refine for_it (walk_list (xs := xs)) (fun i σ H' => LK P Tb H2 (10 + 3 * i) H' ∧ ∃ (v3 v4 v5 v6 v7 : Option V), σ = [some (.ref a), some (.ref P.p), v3, v4, v5, v6, v7])
      ⟨LK.start hP2 k2.t, _, _, _, _, _, rfl⟩ (fun i σ H' _ h => SqL.of (lk_get hP2 h.1 h2 (fun s r z => ?_) (fun ps z => by cases z))) ?_ ?_
    · cases z
      simp at hxl
    · rintro i x σ H3 H3' hi ⟨k3, v3, v4, v5, v6, v7, rfl⟩ ⟨rfl, hxi⟩
      obtain ⟨d, hv⟩ := hx x (List.mem_of_getElem? hxi)
      replace hv := vk_lk hP2 k3 hv
      walk_at "go"
      refine r_pow (by decide) (by decide) ?_
      walk_at "go"
      refine ⟨P, _, _, rfl, k3.p, by have := its_lt hxi; omega, by decide, by decide, fun o H4 o1 o2 kk4 hP4 => ?_⟩
      have k4 := k3.step kk4 hP4
      replace hv := vk_keep k3.p kk4 hv
      have o3 : o.natAbs ≤ 1000000000000 := by
        have e1 : (10 : Int) ^ (6 : Int).toNat = 1000000 := by decide
        rw [e1] at o2
        omega
      walk_at "go"
      refine ⟨P, _, _, rfl, k4.p, by have := its_lt hxi; omega, by decide, by decide, fun le H5 _ _ kk5 hP5 => ?_⟩
      have k5 := k4.step kk5 hP5
      replace hv := vk_keep k4.p kk5 hv
      walk_at "go"
      refine ⟨P, _, _, rfl, k5.p, by have := its_lt hxi; omega, by decide, by decide, fun mo H6 _ _ kk6 hP6 => ?_⟩
      have k6 := k5.step kk6 hP6
      replace hv := vk_keep k5.p kk6 hv
      walk_at "go"
      refine ⟨x, d, rfl, hv, fun H7 s7 => ?_⟩
      have k7 := k6.same s7
      replace hv := vk_same s7 hv
      walk_at "go"
      refine ⟨x, d, o, rfl, hv, o3, fun H8 s8 => ?_⟩
      have k8 := k7.same s8
      replace hv := vk_same s8 hv
      walk_at "go"
      refine ⟨x, d, rfl, hv, fun H9 s9 => ?_⟩
      have k9 := k8.same s9
      replace hv := vk_same s9 hv
      walk_at "go"
      refine ⟨x, d, rfl, hv, ?_⟩
      walk_at "go"
      obtain ⟨v1, v2, v3'⟩ := vk_is (K := K) hv
      refine ⟨x, _, _, rfl, v1, v2, ?_⟩
      walk_at "go"
      refine ⟨_, _, rfl, ?_⟩
      rw [decide_eq_true rfl]
      walk_at "go"
      refine ⟨x, d, rfl, hv, k9.t, fun H10 x10 T10 => ?_⟩
      have k10 := k9.ext x10 T10
      replace hv := vk_ext x10 hv
      with_reducible refine r_bl ?_
      with_reducible refine r_ntt ?_
      with_reducible refine r_next ?_
      with_reducible refine r_nx ?_
      with_reducible refine r_seq ?_
      have k11 : LK P Tb H2 (10 + 3 * (i + 1)) H10 := k10.mono (by omega)
      refine r_cut (fun σ' H' => H' = H10 ∧ ∃ (w3 w4 : Option V), σ' = [some (.ref a), some (.ref P.p), some x, w3, w4, some (.int o), some (.int (le - 4))]) (fun nx hnx => ?_) ?_
      · walk_at "go"
        refine ⟨x, d, _, _, rfl, hv, fun e => ?_, fun e => ?_⟩
        · cases hv with
          | int n hn =>
            refine ⟨n, rfl, ?_⟩
            walk_at "go"
            refine r_it e ?_
            walk_at "go"
            refine r_ib (fun e1 => ?_) (fun e1 => ?_)
            · walk_at "go"
              refine ⟨_, _, rfl, ?_⟩
              rw [e1, Bool.true_and, decide_eq_true rfl]
              walk_at "go"
              exact hnx _ _ ⟨rfl, _, _, rfl⟩
            · refine ⟨_, _, rfl, ?_⟩
              rw [e1, Bool.false_and, decide_eq_true rfl]
              walk_at "go"
              exact hnx _ _ ⟨rfl, _, _, rfl⟩
          | bl b => cases e
          | non => cases e
          | str w h => cases e
          | lst h n => cases e
          | tup h => cases e
          | nil h n => cases e
          | dk h => cases e
        · walk_at "go"
          refine r_ie e ?_
          walk_at "go"
          refine ⟨_, _, rfl, ?_⟩
          rw [decide_eq_true rfl]
          walk_at "go"
          exact hnx _ _ ⟨rfl, _, _, rfl⟩
      · rintro σ' H' ⟨rfl, w3, w4, rfl⟩
        walk_at "go"
        refine ⟨.int o, .int o, o, o, rfl, vk_small o3, fun _ => ⟨o, rfl, ?_⟩, fun e => nomatch e⟩
        walk_at "go"
        refine r_ie (by simp) ?_
        walk_at "go"
        refine ⟨.int o, .int o, _, _, rfl, vk_small o3, fun _ => ⟨o, rfl, ?_⟩, fun e => nomatch e⟩
        walk_at "go"
        have e1 : decide (o + 1 ≤ o) = false := decide_eq_false (by omega)
        rw [e1, Bool.false_and]
        walk_at "go"
        refine r_ie (by simp) ?_
        walk_at "go"
        exact ⟨k11, _, _, _, _, _, rfl⟩
    · rintro σ H3 ⟨k3, v3, v4, v5, v6, v7, rfl⟩
      walk_at "go"
      exact q _
end
end Cs

set_option Elab.async false
set_option linter.all false
set_option maxRecDepth 100000
set_option maxHeartbeats 4000000
namespace Cs
open PySem PySem.Spec PyProof.Rows L2 LamX
abbrev ei_BadLetter : Stmt := inClass (top 10) 0
theorem mk_BadLetter {P : Program} {w : World} {K : PySem.W.Frag} {mg : Str → Option Value} {base : Heap} {C fI : Addr} (T : PySem.ErrX.ECls P K C fI) (F : PySem.ErrX.EFun P K C fI (defArgs ei_BadLetter) (defBody ei_BadLetter) (defScope ei_BadLetter)) (no0 : PySem.W.findIn K (.ref C) "value" = some none) : EMk P w K mg base C fI ["value"] :=
  emk1 T ⟨rfl, by decide +kernel, rfl, rfl, rfl, rfl, rfl, by decide +kernel, ⟨_, _, rfl⟩, by decide +kernel⟩ F no0 (fun _ _ _ _ _ _ _ _ _ _ _ => .of_eq rfl) fun L cda cc qual => ⟨rfl, ⟨_, rfl⟩, rfl⟩
theorem mkK_BadLetter_value {P : Program} {w : World} {K : PySem.W.Frag} {mg : Str → Option Value} {base : Heap} {C fI : Addr} (T : PySem.ErrX.ECls P K C fI) (F : PySem.ErrX.EFun P K C fI (defArgs ei_BadLetter) (defBody ei_BadLetter) (defScope ei_BadLetter)) (no0 : PySem.W.findIn K (.ref C) "value" = some none) : EMkK P w K mg base C fI ["value"] :=
  emkK1 T ⟨rfl, by decide +kernel, rfl, rfl, rfl, rfl, rfl, by decide +kernel, ⟨_, _, rfl⟩, by decide +kernel⟩ F no0 (fun _ _ _ _ _ _ _ _ _ _ _ => .of_eq rfl) fun L cda cc qual => ⟨rfl, ⟨_, rfl⟩, rfl⟩
abbrev ei_BadLine : Stmt := inClass (top 17) 0
theorem mk_BadLine {P : Program} {w : World} {K : PySem.W.Frag} {mg : Str → Option Value} {base : Heap} {C fI : Addr} (T : PySem.ErrX.ECls P K C fI) (F : PySem.ErrX.EFun P K C fI (defArgs ei_BadLine) (defBody ei_BadLine) (defScope ei_BadLine)) (no0 : PySem.W.findIn K (.ref C) "item" = some none) : EMk P w K mg base C fI ["item"] :=
  emk1 T ⟨rfl, by decide +kernel, rfl, rfl, rfl, rfl, rfl, by decide +kernel, ⟨_, _, rfl⟩, by decide +kernel⟩ F no0 (fun _ _ _ _ _ _ _ _ _ _ _ => .of_eq rfl) fun L cda cc qual => ⟨rfl, ⟨_, rfl⟩, rfl⟩
theorem mkK_BadLine_item {P : Program} {w : World} {K : PySem.W.Frag} {mg : Str → Option Value} {base : Heap} {C fI : Addr} (T : PySem.ErrX.ECls P K C fI) (F : PySem.ErrX.EFun P K C fI (defArgs ei_BadLine) (defBody ei_BadLine) (defScope ei_BadLine)) (no0 : PySem.W.findIn K (.ref C) "item" = some none) : EMkK P w K mg base C fI ["item"] :=
  emkK1 T ⟨rfl, by decide +kernel, rfl, rfl, rfl, rfl, rfl, by decide +kernel, ⟨_, _, rfl⟩, by decide +kernel⟩ F no0 (fun _ _ _ _ _ _ _ _ _ _ _ => .of_eq rfl) fun L cda cc qual => ⟨rfl, ⟨_, rfl⟩, rfl⟩
abbrev ei_BadLot : Stmt := inClass (top 7) 0
theorem mk_BadLot {P : Program} {w : World} {K : PySem.W.Frag} {mg : Str → Option Value} {base : Heap} {C fI : Addr} (T : PySem.ErrX.ECls P K C fI) (F : PySem.ErrX.EFun P K C fI (defArgs ei_BadLot) (defBody ei_BadLot) (defScope ei_BadLot)) (no0 : PySem.W.findIn K (.ref C) "part" = some none) : EMk P w K mg base C fI ["part"] :=
  emk1 T ⟨rfl, by decide +kernel, rfl, rfl, rfl, rfl, rfl, by decide +kernel, ⟨_, _, rfl⟩, by decide +kernel⟩ F no0 (fun _ _ _ _ _ _ _ _ _ _ _ => .of_eq rfl) fun L cda cc qual => ⟨rfl, ⟨_, rfl⟩, rfl⟩
theorem mkK_BadLot_part {P : Program} {w : World} {K : PySem.W.Frag} {mg : Str → Option Value} {base : Heap} {C fI : Addr} (T : PySem.ErrX.ECls P K C fI) (F : PySem.ErrX.EFun P K C fI (defArgs ei_BadLot) (defBody ei_BadLot) (defScope ei_BadLot)) (no0 : PySem.W.findIn K (.ref C) "part" = some none) : EMkK P w K mg base C fI ["part"] :=
  emkK1 T ⟨rfl, by decide +kernel, rfl, rfl, rfl, rfl, rfl, by decide +kernel, ⟨_, _, rfl⟩, by decide +kernel⟩ F no0 (fun _ _ _ _ _ _ _ _ _ _ _ => .of_eq rfl) fun L cda cc qual => ⟨rfl, ⟨_, rfl⟩, rfl⟩
abbrev ei_BadMachine : Stmt := inClass (top 5) 0
theorem mk_BadMachine {P : Program} {w : World} {K : PySem.W.Frag} {mg : Str → Option Value} {base : Heap} {C fI : Addr} (T : PySem.ErrX.ECls P K C fI) (F : PySem.ErrX.EFun P K C fI (defArgs ei_BadMachine) (defBody ei_BadMachine) (defScope ei_BadMachine)) (no0 : PySem.W.findIn K (.ref C) "part" = some none) : EMk P w K mg base C fI ["part"] :=
  emk1 T ⟨rfl, by decide +kernel, rfl, rfl, rfl, rfl, rfl, by decide +kernel, ⟨_, _, rfl⟩, by decide +kernel⟩ F no0 (fun _ _ _ _ _ _ _ _ _ _ _ => .of_eq rfl) fun L cda cc qual => ⟨rfl, ⟨_, rfl⟩, rfl⟩
theorem mkK_BadMachine_part {P : Program} {w : World} {K : PySem.W.Frag} {mg : Str → Option Value} {base : Heap} {C fI : Addr} (T : PySem.ErrX.ECls P K C fI) (F : PySem.ErrX.EFun P K C fI (defArgs ei_BadMachine) (defBody ei_BadMachine) (defScope ei_BadMachine)) (no0 : PySem.W.findIn K (.ref C) "part" = some none) : EMkK P w K mg base C fI ["part"] :=
  emkK1 T ⟨rfl, by decide +kernel, rfl, rfl, rfl, rfl, rfl, by decide +kernel, ⟨_, _, rfl⟩, by decide +kernel⟩ F no0 (fun _ _ _ _ _ _ _ _ _ _ _ => .of_eq rfl) fun L cda cc qual => ⟨rfl, ⟨_, rfl⟩, rfl⟩
abbrev ei_BadName : Stmt := inClass (top 14) 0
theorem mk_BadName {P : Program} {w : World} {K : PySem.W.Frag} {mg : Str → Option Value} {base : Heap} {C fI : Addr} (T : PySem.ErrX.ECls P K C fI) (F : PySem.ErrX.EFun P K C fI (defArgs ei_BadName) (defBody ei_BadName) (defScope ei_BadName)) (no0 : PySem.W.findIn K (.ref C) "value" = some none) : EMk P w K mg base C fI ["value"] :=
  emk1 T ⟨rfl, by decide +kernel, rfl, rfl, rfl, rfl, rfl, by decide +kernel, ⟨_, _, rfl⟩, by decide +kernel⟩ F no0 (fun _ _ _ _ _ _ _ _ _ _ _ => .of_eq rfl) fun L cda cc qual => ⟨rfl, ⟨_, rfl⟩, rfl⟩
theorem mkK_BadName_value {P : Program} {w : World} {K : PySem.W.Frag} {mg : Str → Option Value} {base : Heap} {C fI : Addr} (T : PySem.ErrX.ECls P K C fI) (F : PySem.ErrX.EFun P K C fI (defArgs ei_BadName) (defBody ei_BadName) (defScope ei_BadName)) (no0 : PySem.W.findIn K (.ref C) "value" = some none) : EMkK P w K mg base C fI ["value"] :=
  emkK1 T ⟨rfl, by decide +kernel, rfl, rfl, rfl, rfl, rfl, by decide +kernel, ⟨_, _, rfl⟩, by decide +kernel⟩ F no0 (fun _ _ _ _ _ _ _ _ _ _ _ => .of_eq rfl) fun L cda cc qual => ⟨rfl, ⟨_, rfl⟩, rfl⟩
abbrev ei_BadNumber : Stmt := inClass (top 2) 0
theorem mk_BadNumber {P : Program} {w : World} {K : PySem.W.Frag} {mg : Str → Option Value} {base : Heap} {C fI : Addr} (T : PySem.ErrX.ECls P K C fI) (F : PySem.ErrX.EFun P K C fI (defArgs ei_BadNumber) (defBody ei_BadNumber) (defScope ei_BadNumber)) (no0 : PySem.W.findIn K (.ref C) "part" = some none) : EMk P w K mg base C fI ["part"] :=
  emk1 T ⟨rfl, by decide +kernel, rfl, rfl, rfl, rfl, rfl, by decide +kernel, ⟨_, _, rfl⟩, by decide +kernel⟩ F no0 (fun _ _ _ _ _ _ _ _ _ _ _ => .of_eq rfl) fun L cda cc qual => ⟨rfl, ⟨_, rfl⟩, rfl⟩
theorem mkK_BadNumber_part {P : Program} {w : World} {K : PySem.W.Frag} {mg : Str → Option Value} {base : Heap} {C fI : Addr} (T : PySem.ErrX.ECls P K C fI) (F : PySem.ErrX.EFun P K C fI (defArgs ei_BadNumber) (defBody ei_BadNumber) (defScope ei_BadNumber)) (no0 : PySem.W.findIn K (.ref C) "part" = some none) : EMkK P w K mg base C fI ["part"] :=
  emkK1 T ⟨rfl, by decide +kernel, rfl, rfl, rfl, rfl, rfl, by decide +kernel, ⟨_, _, rfl⟩, by decide +kernel⟩ F no0 (fun _ _ _ _ _ _ _ _ _ _ _ => .of_eq rfl) fun L cda cc qual => ⟨rfl, ⟨_, rfl⟩, rfl⟩
abbrev ei_BadPaper : Stmt := inClass (top 8) 0
theorem mk_BadPaper {P : Program} {w : World} {K : PySem.W.Frag} {mg : Str → Option Value} {base : Heap} {C fI : Addr} (T : PySem.ErrX.ECls P K C fI) (F : PySem.ErrX.EFun P K C fI (defArgs ei_BadPaper) (defBody ei_BadPaper) (defScope ei_BadPaper)) (no0 : PySem.W.findIn K (.ref C) "part" = some none) : EMk P w K mg base C fI ["part"] :=
  emk1 T ⟨rfl, by decide +kernel, rfl, rfl, rfl, rfl, rfl, by decide +kernel, ⟨_, _, rfl⟩, by decide +kernel⟩ F no0 (fun _ _ _ _ _ _ _ _ _ _ _ => .of_eq rfl) fun L cda cc qual => ⟨rfl, ⟨_, rfl⟩, rfl⟩
theorem mkK_BadPaper_part {P : Program} {w : World} {K : PySem.W.Frag} {mg : Str → Option Value} {base : Heap} {C fI : Addr} (T : PySem.ErrX.ECls P K C fI) (F : PySem.ErrX.EFun P K C fI (defArgs ei_BadPaper) (defBody ei_BadPaper) (defScope ei_BadPaper)) (no0 : PySem.W.findIn K (.ref C) "part" = some none) : EMkK P w K mg base C fI ["part"] :=
  emkK1 T ⟨rfl, by decide +kernel, rfl, rfl, rfl, rfl, rfl, by decide +kernel, ⟨_, _, rfl⟩, by decide +kernel⟩ F no0 (fun _ _ _ _ _ _ _ _ _ _ _ => .of_eq rfl) fun L cda cc qual => ⟨rfl, ⟨_, rfl⟩, rfl⟩
abbrev ei_BadPiece : Stmt := inClass (top 6) 0
theorem mk_BadPiece {P : Program} {w : World} {K : PySem.W.Frag} {mg : Str → Option Value} {base : Heap} {C fI : Addr} (T : PySem.ErrX.ECls P K C fI) (F : PySem.ErrX.EFun P K C fI (defArgs ei_BadPiece) (defBody ei_BadPiece) (defScope ei_BadPiece)) (no0 : PySem.W.findIn K (.ref C) "part" = some none) : EMk P w K mg base C fI ["part"] :=
  emk1 T ⟨rfl, by decide +kernel, rfl, rfl, rfl, rfl, rfl, by decide +kernel, ⟨_, _, rfl⟩, by decide +kernel⟩ F no0 (fun _ _ _ _ _ _ _ _ _ _ _ => .of_eq rfl) fun L cda cc qual => ⟨rfl, ⟨_, rfl⟩, rfl⟩
theorem mkK_BadPiece_part {P : Program} {w : World} {K : PySem.W.Frag} {mg : Str → Option Value} {base : Heap} {C fI : Addr} (T : PySem.ErrX.ECls P K C fI) (F : PySem.ErrX.EFun P K C fI (defArgs ei_BadPiece) (defBody ei_BadPiece) (defScope ei_BadPiece)) (no0 : PySem.W.findIn K (.ref C) "part" = some none) : EMkK P w K mg base C fI ["part"] :=
  emkK1 T ⟨rfl, by decide +kernel, rfl, rfl, rfl, rfl, rfl, by decide +kernel, ⟨_, _, rfl⟩, by decide +kernel⟩ F no0 (fun _ _ _ _ _ _ _ _ _ _ _ => .of_eq rfl) fun L cda cc qual => ⟨rfl, ⟨_, rfl⟩, rfl⟩
abbrev ei_BadPoint : Stmt := inClass (top 3) 0
theorem mk_BadPoint {P : Program} {w : World} {K : PySem.W.Frag} {mg : Str → Option Value} {base : Heap} {C fI : Addr} (T : PySem.ErrX.ECls P K C fI) (F : PySem.ErrX.EFun P K C fI (defArgs ei_BadPoint) (defBody ei_BadPoint) (defScope ei_BadPoint)) (no0 : PySem.W.findIn K (.ref C) "part" = some none) : EMk P w K mg base C fI ["part"] :=
  emk1 T ⟨rfl, by decide +kernel, rfl, rfl, rfl, rfl, rfl, by decide +kernel, ⟨_, _, rfl⟩, by decide +kernel⟩ F no0 (fun _ _ _ _ _ _ _ _ _ _ _ => .of_eq rfl) fun L cda cc qual => ⟨rfl, ⟨_, rfl⟩, rfl⟩
theorem mkK_BadPoint_part {P : Program} {w : World} {K : PySem.W.Frag} {mg : Str → Option Value} {base : Heap} {C fI : Addr} (T : PySem.ErrX.ECls P K C fI) (F : PySem.ErrX.EFun P K C fI (defArgs ei_BadPoint) (defBody ei_BadPoint) (defScope ei_BadPoint)) (no0 : PySem.W.findIn K (.ref C) "part" = some none) : EMkK P w K mg base C fI ["part"] :=
  emkK1 T ⟨rfl, by decide +kernel, rfl, rfl, rfl, rfl, rfl, by decide +kernel, ⟨_, _, rfl⟩, by decide +kernel⟩ F no0 (fun _ _ _ _ _ _ _ _ _ _ _ => .of_eq rfl) fun L cda cc qual => ⟨rfl, ⟨_, rfl⟩, rfl⟩
abbrev ei_BadText : Stmt := inClass (top 13) 0
theorem mk_BadText {P : Program} {w : World} {K : PySem.W.Frag} {mg : Str → Option Value} {base : Heap} {C fI : Addr} (T : PySem.ErrX.ECls P K C fI) (F : PySem.ErrX.EFun P K C fI (defArgs ei_BadText) (defBody ei_BadText) (defScope ei_BadText)) (no0 : PySem.W.findIn K (.ref C) "item" = some none) : EMk P w K mg base C fI ["item"] :=
  emk1 T ⟨rfl, by decide +kernel, rfl, rfl, rfl, rfl, rfl, by decide +kernel, ⟨_, _, rfl⟩, by decide +kernel⟩ F no0 (fun _ _ _ _ _ _ _ _ _ _ _ => .of_eq rfl) fun L cda cc qual => ⟨rfl, ⟨_, rfl⟩, rfl⟩
theorem mkK_BadText_item {P : Program} {w : World} {K : PySem.W.Frag} {mg : Str → Option Value} {base : Heap} {C fI : Addr} (T : PySem.ErrX.ECls P K C fI) (F : PySem.ErrX.EFun P K C fI (defArgs ei_BadText) (defBody ei_BadText) (defScope ei_BadText)) (no0 : PySem.W.findIn K (.ref C) "item" = some none) : EMkK P w K mg base C fI ["item"] :=
  emkK1 T ⟨rfl, by decide +kernel, rfl, rfl, rfl, rfl, rfl, by decide +kernel, ⟨_, _, rfl⟩, by decide +kernel⟩ F no0 (fun _ _ _ _ _ _ _ _ _ _ _ => .of_eq rfl) fun L cda cc qual => ⟨rfl, ⟨_, rfl⟩, rfl⟩
abbrev ei_BadTurn : Stmt := inClass (top 4) 0
theorem mk_BadTurn {P : Program} {w : World} {K : PySem.W.Frag} {mg : Str → Option Value} {base : Heap} {C fI : Addr} (T : PySem.ErrX.ECls P K C fI) (F : PySem.ErrX.EFun P K C fI (defArgs ei_BadTurn) (defBody ei_BadTurn) (defScope ei_BadTurn)) (no0 : PySem.W.findIn K (.ref C) "part" = some none) : EMk P w K mg base C fI ["part"] :=
  emk1 T ⟨rfl, by decide +kernel, rfl, rfl, rfl, rfl, rfl, by decide +kernel, ⟨_, _, rfl⟩, by decide +kernel⟩ F no0 (fun _ _ _ _ _ _ _ _ _ _ _ => .of_eq rfl) fun L cda cc qual => ⟨rfl, ⟨_, rfl⟩, rfl⟩
theorem mkK_BadTurn_part {P : Program} {w : World} {K : PySem.W.Frag} {mg : Str → Option Value} {base : Heap} {C fI : Addr} (T : PySem.ErrX.ECls P K C fI) (F : PySem.ErrX.EFun P K C fI (defArgs ei_BadTurn) (defBody ei_BadTurn) (defScope ei_BadTurn)) (no0 : PySem.W.findIn K (.ref C) "part" = some none) : EMkK P w K mg base C fI ["part"] :=
  emkK1 T ⟨rfl, by decide +kernel, rfl, rfl, rfl, rfl, rfl, by decide +kernel, ⟨_, _, rfl⟩, by decide +kernel⟩ F no0 (fun _ _ _ _ _ _ _ _ _ _ _ => .of_eq rfl) fun L cda cc qual => ⟨rfl, ⟨_, rfl⟩, rfl⟩
abbrev ei_BadWord : Stmt := inClass (top 9) 0
theorem mk_BadWord {P : Program} {w : World} {K : PySem.W.Frag} {mg : Str → Option Value} {base : Heap} {C fI : Addr} (T : PySem.ErrX.ECls P K C fI) (F : PySem.ErrX.EFun P K C fI (defArgs ei_BadWord) (defBody ei_BadWord) (defScope ei_BadWord)) (no0 : PySem.W.findIn K (.ref C) "at" = some none) : EMk P w K mg base C fI ["at"] :=
  emk1 T ⟨rfl, by decide +kernel, rfl, rfl, rfl, rfl, rfl, by decide +kernel, ⟨_, _, rfl⟩, by decide +kernel⟩ F no0 (fun _ _ _ _ _ _ _ _ _ _ _ => .of_eq rfl) fun L cda cc qual => ⟨rfl, ⟨_, rfl⟩, rfl⟩
theorem mkK_BadWord_at {P : Program} {w : World} {K : PySem.W.Frag} {mg : Str → Option Value} {base : Heap} {C fI : Addr} (T : PySem.ErrX.ECls P K C fI) (F : PySem.ErrX.EFun P K C fI (defArgs ei_BadWord) (defBody ei_BadWord) (defScope ei_BadWord)) (no0 : PySem.W.findIn K (.ref C) "at" = some none) : EMkK P w K mg base C fI ["at"] :=
  emkK1 T ⟨rfl, by decide +kernel, rfl, rfl, rfl, rfl, rfl, by decide +kernel, ⟨_, _, rfl⟩, by decide +kernel⟩ F no0 (fun _ _ _ _ _ _ _ _ _ _ _ => .of_eq rfl) fun L cda cc qual => ⟨rfl, ⟨_, rfl⟩, rfl⟩
abbrev ei_NoName : Stmt := inClass (top 15) 0
theorem mk_NoName {P : Program} {w : World} {K : PySem.W.Frag} {mg : Str → Option Value} {base : Heap} {C fI : Addr} (T : PySem.ErrX.ECls P K C fI) (F : PySem.ErrX.EFun P K C fI (defArgs ei_NoName) (defBody ei_NoName) (defScope ei_NoName)) (no0 : PySem.W.findIn K (.ref C) "name" = some none) : EMk P w K mg base C fI ["name"] :=
  emk1 T ⟨rfl, by decide +kernel, rfl, rfl, rfl, rfl, rfl, by decide +kernel, ⟨_, _, rfl⟩, by decide +kernel⟩ F no0 (fun _ _ _ _ _ _ _ _ _ _ _ => .of_eq rfl) fun L cda cc qual => ⟨rfl, ⟨_, rfl⟩, rfl⟩
theorem mkK_NoName_name {P : Program} {w : World} {K : PySem.W.Frag} {mg : Str → Option Value} {base : Heap} {C fI : Addr} (T : PySem.ErrX.ECls P K C fI) (F : PySem.ErrX.EFun P K C fI (defArgs ei_NoName) (defBody ei_NoName) (defScope ei_NoName)) (no0 : PySem.W.findIn K (.ref C) "name" = some none) : EMkK P w K mg base C fI ["name"] :=
  emkK1 T ⟨rfl, by decide +kernel, rfl, rfl, rfl, rfl, rfl, by decide +kernel, ⟨_, _, rfl⟩, by decide +kernel⟩ F no0 (fun _ _ _ _ _ _ _ _ _ _ _ => .of_eq rfl) fun L cda cc qual => ⟨rfl, ⟨_, rfl⟩, rfl⟩
abbrev ei_NoWay : Stmt := inClass (top 18) 0
theorem mk_NoWay {P : Program} {w : World} {K : PySem.W.Frag} {mg : Str → Option Value} {base : Heap} {C fI : Addr} (T : PySem.ErrX.ECls P K C fI) (F : PySem.ErrX.EFun P K C fI (defArgs ei_NoWay) (defBody ei_NoWay) (defScope ei_NoWay)) (no0 : PySem.W.findIn K (.ref C) "paper" = some none) : EMk P w K mg base C fI ["paper"] :=
  emk1 T ⟨rfl, by decide +kernel, rfl, rfl, rfl, rfl, rfl, by decide +kernel, ⟨_, _, rfl⟩, by decide +kernel⟩ F no0 (fun _ _ _ _ _ _ _ _ _ _ _ => .of_eq rfl) fun L cda cc qual => ⟨rfl, ⟨_, rfl⟩, rfl⟩
theorem mkK_NoWay_paper {P : Program} {w : World} {K : PySem.W.Frag} {mg : Str → Option Value} {base : Heap} {C fI : Addr} (T : PySem.ErrX.ECls P K C fI) (F : PySem.ErrX.EFun P K C fI (defArgs ei_NoWay) (defBody ei_NoWay) (defScope ei_NoWay)) (no0 : PySem.W.findIn K (.ref C) "paper" = some none) : EMkK P w K mg base C fI ["paper"] :=
  emkK1 T ⟨rfl, by decide +kernel, rfl, rfl, rfl, rfl, rfl, by decide +kernel, ⟨_, _, rfl⟩, by decide +kernel⟩ F no0 (fun _ _ _ _ _ _ _ _ _ _ _ => .of_eq rfl) fun L cda cc qual => ⟨rfl, ⟨_, rfl⟩, rfl⟩
abbrev ei_Nothing : Stmt := inClass (top 19) 0
theorem mk0_Nothing {P : Program} {w : World} {K : PySem.W.Frag} {mg : Str → Option Value} {base : Heap} {C fI : Addr} (T : PySem.ErrX.ECls P K C fI) (F : PySem.ErrX.EFun P K C fI (defArgs ei_Nothing) (defBody ei_Nothing) (defScope ei_Nothing)) : EMk0 P w K mg base C fI :=
  emk0 T ⟨rfl, by decide +kernel, rfl, rfl, rfl, rfl, rfl, by decide +kernel, ⟨_, _, rfl⟩, by decide +kernel⟩ F  (fun _ _ _ _ _ _ _ _ _ _ => .of_eq rfl) fun L cda cc qual => ⟨rfl, ⟨_, rfl⟩⟩
abbrev ei_Thin : Stmt := inClass (top 11) 0
theorem mk_Thin {P : Program} {w : World} {K : PySem.W.Frag} {mg : Str → Option Value} {base : Heap} {C fI : Addr} (T : PySem.ErrX.ECls P K C fI) (F : PySem.ErrX.EFun P K C fI (defArgs ei_Thin) (defBody ei_Thin) (defScope ei_Thin)) (no0 : PySem.W.findIn K (.ref C) "word" = some none) : EMk P w K mg base C fI ["word"] :=
  emk1 T ⟨rfl, by decide +kernel, rfl, rfl, rfl, rfl, rfl, by decide +kernel, ⟨_, _, rfl⟩, by decide +kernel⟩ F no0 (fun _ _ _ _ _ _ _ _ _ _ _ => .of_eq rfl) fun L cda cc qual => ⟨rfl, ⟨_, rfl⟩, rfl⟩
theorem mkK_Thin_word {P : Program} {w : World} {K : PySem.W.Frag} {mg : Str → Option Value} {base : Heap} {C fI : Addr} (T : PySem.ErrX.ECls P K C fI) (F : PySem.ErrX.EFun P K C fI (defArgs ei_Thin) (defBody ei_Thin) (defScope ei_Thin)) (no0 : PySem.W.findIn K (.ref C) "word" = some none) : EMkK P w K mg base C fI ["word"] :=
  emkK1 T ⟨rfl, by decide +kernel, rfl, rfl, rfl, rfl, rfl, by decide +kernel, ⟨_, _, rfl⟩, by decide +kernel⟩ F no0 (fun _ _ _ _ _ _ _ _ _ _ _ => .of_eq rfl) fun L cda cc qual => ⟨rfl, ⟨_, rfl⟩, rfl⟩
abbrev ei_TooMany : Stmt := inClass (top 12) 0
theorem mk_TooMany {P : Program} {w : World} {K : PySem.W.Frag} {mg : Str → Option Value} {base : Heap} {C fI : Addr} (T : PySem.ErrX.ECls P K C fI) (F : PySem.ErrX.EFun P K C fI (defArgs ei_TooMany) (defBody ei_TooMany) (defScope ei_TooMany)) (no0 : PySem.W.findIn K (.ref C) "what" = some none) (no1 : PySem.W.findIn K (.ref C) "most" = some none) : EMk P w K mg base C fI ["what", "most"] :=
  emk2 T ⟨rfl, by decide +kernel, rfl, rfl, rfl, rfl, rfl, by decide +kernel, ⟨_, _, rfl⟩, by decide +kernel⟩ F no0 no1 (fun _ _ _ _ _ _ _ _ _ _ _ _ => .of_eq rfl) fun L cda cc qual => ⟨rfl, ⟨_, rfl⟩, rfl, rfl⟩
theorem mkK_TooMany_most_what {P : Program} {w : World} {K : PySem.W.Frag} {mg : Str → Option Value} {base : Heap} {C fI : Addr} (T : PySem.ErrX.ECls P K C fI) (F : PySem.ErrX.EFun P K C fI (defArgs ei_TooMany) (defBody ei_TooMany) (defScope ei_TooMany)) (no0 : PySem.W.findIn K (.ref C) "what" = some none) (no1 : PySem.W.findIn K (.ref C) "most" = some none) : EMkK P w K mg base C fI ["most", "what"] :=
  emkK2r T ⟨rfl, by decide +kernel, rfl, rfl, rfl, rfl, rfl, by decide +kernel, ⟨_, _, rfl⟩, by decide +kernel⟩ F no0 no1 (fun _ _ _ _ _ _ _ _ _ _ _ _ => .of_eq rfl) fun L cda cc qual => ⟨rfl, ⟨_, rfl⟩, rfl, rfl⟩
abbrev ei_Twice : Stmt := inClass (top 16) 0
theorem mk_Twice {P : Program} {w : World} {K : PySem.W.Frag} {mg : Str → Option Value} {base : Heap} {C fI : Addr} (T : PySem.ErrX.ECls P K C fI) (F : PySem.ErrX.EFun P K C fI (defArgs ei_Twice) (defBody ei_Twice) (defScope ei_Twice)) (no0 : PySem.W.findIn K (.ref C) "name" = some none) : EMk P w K mg base C fI ["name"] :=
  emk1 T ⟨rfl, by decide +kernel, rfl, rfl, rfl, rfl, rfl, by decide +kernel, ⟨_, _, rfl⟩, by decide +kernel⟩ F no0 (fun _ _ _ _ _ _ _ _ _ _ _ => .of_eq rfl) fun L cda cc qual => ⟨rfl, ⟨_, rfl⟩, rfl⟩
theorem mkK_Twice_name {P : Program} {w : World} {K : PySem.W.Frag} {mg : Str → Option Value} {base : Heap} {C fI : Addr} (T : PySem.ErrX.ECls P K C fI) (F : PySem.ErrX.EFun P K C fI (defArgs ei_Twice) (defBody ei_Twice) (defScope ei_Twice)) (no0 : PySem.W.findIn K (.ref C) "name" = some none) : EMkK P w K mg base C fI ["name"] :=
  emkK1 T ⟨rfl, by decide +kernel, rfl, rfl, rfl, rfl, rfl, by decide +kernel, ⟨_, _, rfl⟩, by decide +kernel⟩ F no0 (fun _ _ _ _ _ _ _ _ _ _ _ => .of_eq rfl) fun L cda cc qual => ⟨rfl, ⟨_, rfl⟩, rfl⟩
theorem all_mk {l : PySem.W.OpenLaw} {w : World} {K : PySem.W.Frag} {h : Heap} {mg : Str → Option Value} {fa : Addr} (X : K.In h) (G : h.Ns mainGlobals mg) (hfa : mg "law" = some (.ref fa))
    {f_law_heard f_is_integer f_is_within f_is_letter f_undoing f_law_pen f_law_draw f_law_pick f_law_values f_law_is_number f_law_told f_law_kinds f_law_parts_right f_law_fields_right f_law_classes_right f_law_letters_right f_law : Addr}
    {C_BadLetter C_BadLine C_BadLot C_BadMachine C_BadName C_BadNumber C_BadPaper C_BadPiece C_BadPoint C_BadText C_BadTurn C_BadWord C_BallError C_NoName C_NoWay C_Nothing C_Thin C_TooMany C_Twice : Addr}
    {i_BadLetter i_BadLine i_BadLot i_BadMachine i_BadName i_BadNumber i_BadPaper i_BadPiece i_BadPoint i_BadText i_BadTurn i_BadWord i_NoName i_NoWay i_Nothing i_Thin i_TooMany i_Twice : Addr}
    {od_law_heard an_law_heard : Option Addr} {sl_law_heard : Array (Option Value)} {oc_law_heard kV_law_heard dc_law_heard pm_law_heard cd_law_heard ct_law_heard : Value}
    {od_is_integer an_is_integer : Option Addr} {sl_is_integer : Array (Option Value)} {oc_is_integer kV_is_integer dc_is_integer pm_is_integer cd_is_integer ct_is_integer : Value}
    {od_is_within an_is_within : Option Addr} {sl_is_within : Array (Option Value)} {oc_is_within kV_is_within dc_is_within pm_is_within cd_is_within ct_is_within : Value}
    {od_is_letter an_is_letter : Option Addr} {sl_is_letter : Array (Option Value)} {oc_is_letter kV_is_letter dc_is_letter pm_is_letter cd_is_letter ct_is_letter : Value}
    {od_undoing an_undoing : Option Addr} {sl_undoing : Array (Option Value)} {oc_undoing kV_undoing dc_undoing pm_undoing cd_undoing ct_undoing : Value}
    {od_law_pen an_law_pen : Option Addr} {sl_law_pen : Array (Option Value)} {oc_law_pen kV_law_pen dc_law_pen pm_law_pen cd_law_pen ct_law_pen : Value}
    {od_law_draw an_law_draw : Option Addr} {sl_law_draw : Array (Option Value)} {oc_law_draw kV_law_draw dc_law_draw pm_law_draw cd_law_draw ct_law_draw : Value}
    {od_law_pick an_law_pick : Option Addr} {sl_law_pick : Array (Option Value)} {oc_law_pick kV_law_pick dc_law_pick pm_law_pick cd_law_pick ct_law_pick : Value}
    {od_law_values an_law_values : Option Addr} {sl_law_values : Array (Option Value)} {oc_law_values kV_law_values dc_law_values pm_law_values cd_law_values ct_law_values : Value}
    {od_law_is_number an_law_is_number : Option Addr} {sl_law_is_number : Array (Option Value)} {oc_law_is_number kV_law_is_number dc_law_is_number pm_law_is_number cd_law_is_number ct_law_is_number : Value}
    {od_law_told an_law_told : Option Addr} {sl_law_told : Array (Option Value)} {oc_law_told kV_law_told dc_law_told pm_law_told cd_law_told ct_law_told : Value}
    {od_law_kinds an_law_kinds : Option Addr} {sl_law_kinds : Array (Option Value)} {oc_law_kinds kV_law_kinds dc_law_kinds pm_law_kinds cd_law_kinds ct_law_kinds : Value}
    {od_law_parts_right an_law_parts_right : Option Addr} {sl_law_parts_right : Array (Option Value)} {oc_law_parts_right kV_law_parts_right dc_law_parts_right pm_law_parts_right cd_law_parts_right ct_law_parts_right : Value}
    {od_law_fields_right an_law_fields_right : Option Addr} {sl_law_fields_right : Array (Option Value)} {oc_law_fields_right kV_law_fields_right dc_law_fields_right pm_law_fields_right cd_law_fields_right ct_law_fields_right : Value}
    {od_law_classes_right an_law_classes_right : Option Addr} {sl_law_classes_right : Array (Option Value)} {oc_law_classes_right kV_law_classes_right dc_law_classes_right pm_law_classes_right cd_law_classes_right ct_law_classes_right : Value}
    {od_law_letters_right an_law_letters_right : Option Addr} {sl_law_letters_right : Array (Option Value)} {oc_law_letters_right kV_law_letters_right dc_law_letters_right pm_law_letters_right ct_law_letters_right : Value}
    {cc_law_letters_right pt_law_letters_right : Addr} {ccl_law_letters_right : Value} {cdd_law_letters_right : Option Addr} {cvs_law_letters_right : Array Value} {ccs_law_letters_right : Array (Option Value)}
    {od_law an_law : Option Addr} {sl_law : Array (Option Value)} {oc_law kV_law dc_law pm_law cd_law ct_law : Value}
    {nm_Nothing q_Nothing : Str} {N_Nothing cda_Nothing cc_Nothing : Addr} {bs_Nothing sub_Nothing : List Value} {sn_Nothing : List Str} {ab_Nothing : Bool} {col_Nothing : Option Bool} {dd_Nothing od_Nothing an_Nothing cdd_Nothing cld_Nothing : Option Addr} {m0_Nothing m1_Nothing m2_Nothing m3_Nothing m5_Nothing : Option Value} {oc_Nothing kV_Nothing doc_Nothing pm_Nothing ct_Nothing ccl_Nothing cl_Nothing : Value} {osl_Nothing ccs_Nothing csl_Nothing : Array (Option Value)} {vs_Nothing : Array Value} {file_Nothing : Str} {tf_Nothing : Tok}
    {nm_BadLetter q_BadLetter : Str} {N_BadLetter cda_BadLetter cc_BadLetter : Addr} {bs_BadLetter sub_BadLetter : List Value} {sn_BadLetter : List Str} {ab_BadLetter : Bool} {col_BadLetter : Option Bool} {dd_BadLetter od_BadLetter an_BadLetter cdd_BadLetter cld_BadLetter : Option Addr} {m0_BadLetter m1_BadLetter m2_BadLetter m3_BadLetter m5_BadLetter : Option Value} {oc_BadLetter kV_BadLetter doc_BadLetter pm_BadLetter ct_BadLetter ccl_BadLetter cl_BadLetter : Value} {osl_BadLetter ccs_BadLetter csl_BadLetter : Array (Option Value)} {vs_BadLetter : Array Value} {file_BadLetter : Str} {tf_BadLetter : Tok}
    {nm_BadLine q_BadLine : Str} {N_BadLine cda_BadLine cc_BadLine : Addr} {bs_BadLine sub_BadLine : List Value} {sn_BadLine : List Str} {ab_BadLine : Bool} {col_BadLine : Option Bool} {dd_BadLine od_BadLine an_BadLine cdd_BadLine cld_BadLine : Option Addr} {m0_BadLine m1_BadLine m2_BadLine m3_BadLine m5_BadLine : Option Value} {oc_BadLine kV_BadLine doc_BadLine pm_BadLine ct_BadLine ccl_BadLine cl_BadLine : Value} {osl_BadLine ccs_BadLine csl_BadLine : Array (Option Value)} {vs_BadLine : Array Value} {file_BadLine : Str} {tf_BadLine : Tok}
    {nm_BadLot q_BadLot : Str} {N_BadLot cda_BadLot cc_BadLot : Addr} {bs_BadLot sub_BadLot : List Value} {sn_BadLot : List Str} {ab_BadLot : Bool} {col_BadLot : Option Bool} {dd_BadLot od_BadLot an_BadLot cdd_BadLot cld_BadLot : Option Addr} {m0_BadLot m1_BadLot m2_BadLot m3_BadLot m5_BadLot : Option Value} {oc_BadLot kV_BadLot doc_BadLot pm_BadLot ct_BadLot ccl_BadLot cl_BadLot : Value} {osl_BadLot ccs_BadLot csl_BadLot : Array (Option Value)} {vs_BadLot : Array Value} {file_BadLot : Str} {tf_BadLot : Tok}
    {nm_BadMachine q_BadMachine : Str} {N_BadMachine cda_BadMachine cc_BadMachine : Addr} {bs_BadMachine sub_BadMachine : List Value} {sn_BadMachine : List Str} {ab_BadMachine : Bool} {col_BadMachine : Option Bool} {dd_BadMachine od_BadMachine an_BadMachine cdd_BadMachine cld_BadMachine : Option Addr} {m0_BadMachine m1_BadMachine m2_BadMachine m3_BadMachine m5_BadMachine : Option Value} {oc_BadMachine kV_BadMachine doc_BadMachine pm_BadMachine ct_BadMachine ccl_BadMachine cl_BadMachine : Value} {osl_BadMachine ccs_BadMachine csl_BadMachine : Array (Option Value)} {vs_BadMachine : Array Value} {file_BadMachine : Str} {tf_BadMachine : Tok}
    {nm_BadName q_BadName : Str} {N_BadName cda_BadName cc_BadName : Addr} {bs_BadName sub_BadName : List Value} {sn_BadName : List Str} {ab_BadName : Bool} {col_BadName : Option Bool} {dd_BadName od_BadName an_BadName cdd_BadName cld_BadName : Option Addr} {m0_BadName m1_BadName m2_BadName m3_BadName m5_BadName : Option Value} {oc_BadName kV_BadName doc_BadName pm_BadName ct_BadName ccl_BadName cl_BadName : Value} {osl_BadName ccs_BadName csl_BadName : Array (Option Value)} {vs_BadName : Array Value} {file_BadName : Str} {tf_BadName : Tok}
    {nm_BadNumber q_BadNumber : Str} {N_BadNumber cda_BadNumber cc_BadNumber : Addr} {bs_BadNumber sub_BadNumber : List Value} {sn_BadNumber : List Str} {ab_BadNumber : Bool} {col_BadNumber : Option Bool} {dd_BadNumber od_BadNumber an_BadNumber cdd_BadNumber cld_BadNumber : Option Addr} {m0_BadNumber m1_BadNumber m2_BadNumber m3_BadNumber m5_BadNumber : Option Value} {oc_BadNumber kV_BadNumber doc_BadNumber pm_BadNumber ct_BadNumber ccl_BadNumber cl_BadNumber : Value} {osl_BadNumber ccs_BadNumber csl_BadNumber : Array (Option Value)} {vs_BadNumber : Array Value} {file_BadNumber : Str} {tf_BadNumber : Tok}
    {nm_BadPaper q_BadPaper : Str} {N_BadPaper cda_BadPaper cc_BadPaper : Addr} {bs_BadPaper sub_BadPaper : List Value} {sn_BadPaper : List Str} {ab_BadPaper : Bool} {col_BadPaper : Option Bool} {dd_BadPaper od_BadPaper an_BadPaper cdd_BadPaper cld_BadPaper : Option Addr} {m0_BadPaper m1_BadPaper m2_BadPaper m3_BadPaper m5_BadPaper : Option Value} {oc_BadPaper kV_BadPaper doc_BadPaper pm_BadPaper ct_BadPaper ccl_BadPaper cl_BadPaper : Value} {osl_BadPaper ccs_BadPaper csl_BadPaper : Array (Option Value)} {vs_BadPaper : Array Value} {file_BadPaper : Str} {tf_BadPaper : Tok}
    {nm_BadPiece q_BadPiece : Str} {N_BadPiece cda_BadPiece cc_BadPiece : Addr} {bs_BadPiece sub_BadPiece : List Value} {sn_BadPiece : List Str} {ab_BadPiece : Bool} {col_BadPiece : Option Bool} {dd_BadPiece od_BadPiece an_BadPiece cdd_BadPiece cld_BadPiece : Option Addr} {m0_BadPiece m1_BadPiece m2_BadPiece m3_BadPiece m5_BadPiece : Option Value} {oc_BadPiece kV_BadPiece doc_BadPiece pm_BadPiece ct_BadPiece ccl_BadPiece cl_BadPiece : Value} {osl_BadPiece ccs_BadPiece csl_BadPiece : Array (Option Value)} {vs_BadPiece : Array Value} {file_BadPiece : Str} {tf_BadPiece : Tok}
    {nm_BadPoint q_BadPoint : Str} {N_BadPoint cda_BadPoint cc_BadPoint : Addr} {bs_BadPoint sub_BadPoint : List Value} {sn_BadPoint : List Str} {ab_BadPoint : Bool} {col_BadPoint : Option Bool} {dd_BadPoint od_BadPoint an_BadPoint cdd_BadPoint cld_BadPoint : Option Addr} {m0_BadPoint m1_BadPoint m2_BadPoint m3_BadPoint m5_BadPoint : Option Value} {oc_BadPoint kV_BadPoint doc_BadPoint pm_BadPoint ct_BadPoint ccl_BadPoint cl_BadPoint : Value} {osl_BadPoint ccs_BadPoint csl_BadPoint : Array (Option Value)} {vs_BadPoint : Array Value} {file_BadPoint : Str} {tf_BadPoint : Tok}
    {nm_BadText q_BadText : Str} {N_BadText cda_BadText cc_BadText : Addr} {bs_BadText sub_BadText : List Value} {sn_BadText : List Str} {ab_BadText : Bool} {col_BadText : Option Bool} {dd_BadText od_BadText an_BadText cdd_BadText cld_BadText : Option Addr} {m0_BadText m1_BadText m2_BadText m3_BadText m5_BadText : Option Value} {oc_BadText kV_BadText doc_BadText pm_BadText ct_BadText ccl_BadText cl_BadText : Value} {osl_BadText ccs_BadText csl_BadText : Array (Option Value)} {vs_BadText : Array Value} {file_BadText : Str} {tf_BadText : Tok}
    {nm_BadTurn q_BadTurn : Str} {N_BadTurn cda_BadTurn cc_BadTurn : Addr} {bs_BadTurn sub_BadTurn : List Value} {sn_BadTurn : List Str} {ab_BadTurn : Bool} {col_BadTurn : Option Bool} {dd_BadTurn od_BadTurn an_BadTurn cdd_BadTurn cld_BadTurn : Option Addr} {m0_BadTurn m1_BadTurn m2_BadTurn m3_BadTurn m5_BadTurn : Option Value} {oc_BadTurn kV_BadTurn doc_BadTurn pm_BadTurn ct_BadTurn ccl_BadTurn cl_BadTurn : Value} {osl_BadTurn ccs_BadTurn csl_BadTurn : Array (Option Value)} {vs_BadTurn : Array Value} {file_BadTurn : Str} {tf_BadTurn : Tok}
    {nm_BadWord q_BadWord : Str} {N_BadWord cda_BadWord cc_BadWord : Addr} {bs_BadWord sub_BadWord : List Value} {sn_BadWord : List Str} {ab_BadWord : Bool} {col_BadWord : Option Bool} {dd_BadWord od_BadWord an_BadWord cdd_BadWord cld_BadWord : Option Addr} {m0_BadWord m1_BadWord m2_BadWord m3_BadWord m5_BadWord : Option Value} {oc_BadWord kV_BadWord doc_BadWord pm_BadWord ct_BadWord ccl_BadWord cl_BadWord : Value} {osl_BadWord ccs_BadWord csl_BadWord : Array (Option Value)} {vs_BadWord : Array Value} {file_BadWord : Str} {tf_BadWord : Tok}
    {nm_NoName q_NoName : Str} {N_NoName cda_NoName cc_NoName : Addr} {bs_NoName sub_NoName : List Value} {sn_NoName : List Str} {ab_NoName : Bool} {col_NoName : Option Bool} {dd_NoName od_NoName an_NoName cdd_NoName cld_NoName : Option Addr} {m0_NoName m1_NoName m2_NoName m3_NoName m5_NoName : Option Value} {oc_NoName kV_NoName doc_NoName pm_NoName ct_NoName ccl_NoName cl_NoName : Value} {osl_NoName ccs_NoName csl_NoName : Array (Option Value)} {vs_NoName : Array Value} {file_NoName : Str} {tf_NoName : Tok}
    {nm_NoWay q_NoWay : Str} {N_NoWay cda_NoWay cc_NoWay : Addr} {bs_NoWay sub_NoWay : List Value} {sn_NoWay : List Str} {ab_NoWay : Bool} {col_NoWay : Option Bool} {dd_NoWay od_NoWay an_NoWay cdd_NoWay cld_NoWay : Option Addr} {m0_NoWay m1_NoWay m2_NoWay m3_NoWay m5_NoWay : Option Value} {oc_NoWay kV_NoWay doc_NoWay pm_NoWay ct_NoWay ccl_NoWay cl_NoWay : Value} {osl_NoWay ccs_NoWay csl_NoWay : Array (Option Value)} {vs_NoWay : Array Value} {file_NoWay : Str} {tf_NoWay : Tok}
    {nm_Thin q_Thin : Str} {N_Thin cda_Thin cc_Thin : Addr} {bs_Thin sub_Thin : List Value} {sn_Thin : List Str} {ab_Thin : Bool} {col_Thin : Option Bool} {dd_Thin od_Thin an_Thin cdd_Thin cld_Thin : Option Addr} {m0_Thin m1_Thin m2_Thin m3_Thin m5_Thin : Option Value} {oc_Thin kV_Thin doc_Thin pm_Thin ct_Thin ccl_Thin cl_Thin : Value} {osl_Thin ccs_Thin csl_Thin : Array (Option Value)} {vs_Thin : Array Value} {file_Thin : Str} {tf_Thin : Tok}
    {nm_TooMany q_TooMany : Str} {N_TooMany cda_TooMany cc_TooMany : Addr} {bs_TooMany sub_TooMany : List Value} {sn_TooMany : List Str} {ab_TooMany : Bool} {col_TooMany : Option Bool} {dd_TooMany od_TooMany an_TooMany cdd_TooMany cld_TooMany : Option Addr} {m0_TooMany m1_TooMany m2_TooMany m3_TooMany m5_TooMany : Option Value} {oc_TooMany kV_TooMany doc_TooMany pm_TooMany ct_TooMany ccl_TooMany cl_TooMany : Value} {osl_TooMany ccs_TooMany csl_TooMany : Array (Option Value)} {vs_TooMany : Array Value} {file_TooMany : Str} {tf_TooMany : Tok}
    {nm_Twice q_Twice : Str} {N_Twice cda_Twice cc_Twice : Addr} {bs_Twice sub_Twice : List Value} {sn_Twice : List Str} {ab_Twice : Bool} {col_Twice : Option Bool} {dd_Twice od_Twice an_Twice cdd_Twice cld_Twice : Option Addr} {m0_Twice m1_Twice m2_Twice m3_Twice m5_Twice : Option Value} {oc_Twice kV_Twice doc_Twice pm_Twice ct_Twice ccl_Twice cl_Twice : Value} {osl_Twice ccs_Twice csl_Twice : Array (Option Value)} {vs_Twice : Array Value} {file_Twice : Str} {tf_Twice : Tok}
    {tg_LETTERS : Tok}
    (a_BadLetter : PySem.W.nsIn K mainGlobals "BadLetter" = some (some (.ref C_BadLetter)))
    (a_BadLine : PySem.W.nsIn K mainGlobals "BadLine" = some (some (.ref C_BadLine)))
    (a_BadLot : PySem.W.nsIn K mainGlobals "BadLot" = some (some (.ref C_BadLot)))
    (a_BadMachine : PySem.W.nsIn K mainGlobals "BadMachine" = some (some (.ref C_BadMachine)))
    (a_BadName : PySem.W.nsIn K mainGlobals "BadName" = some (some (.ref C_BadName)))
    (a_BadNumber : PySem.W.nsIn K mainGlobals "BadNumber" = some (some (.ref C_BadNumber)))
    (a_BadPaper : PySem.W.nsIn K mainGlobals "BadPaper" = some (some (.ref C_BadPaper)))
    (a_BadPiece : PySem.W.nsIn K mainGlobals "BadPiece" = some (some (.ref C_BadPiece)))
    (a_BadPoint : PySem.W.nsIn K mainGlobals "BadPoint" = some (some (.ref C_BadPoint)))
    (a_BadText : PySem.W.nsIn K mainGlobals "BadText" = some (some (.ref C_BadText)))
    (a_BadTurn : PySem.W.nsIn K mainGlobals "BadTurn" = some (some (.ref C_BadTurn)))
    (a_BadWord : PySem.W.nsIn K mainGlobals "BadWord" = some (some (.ref C_BadWord)))
    (a_BallError : PySem.W.nsIn K mainGlobals "BallError" = some (some (.ref C_BallError)))
    (a_NoName : PySem.W.nsIn K mainGlobals "NoName" = some (some (.ref C_NoName)))
    (a_NoWay : PySem.W.nsIn K mainGlobals "NoWay" = some (some (.ref C_NoWay)))
    (a_Nothing : PySem.W.nsIn K mainGlobals "Nothing" = some (some (.ref C_Nothing)))
    (a_Thin : PySem.W.nsIn K mainGlobals "Thin" = some (some (.ref C_Thin)))
    (a_TooMany : PySem.W.nsIn K mainGlobals "TooMany" = some (some (.ref C_TooMany)))
    (a_Twice : PySem.W.nsIn K mainGlobals "Twice" = some (some (.ref C_Twice)))
    (a_law_heard : PySem.W.nsIn K mainGlobals "_law_heard" = some (some (.ref f_law_heard)))
    (l_law_heard : K.lookup f_law_heard = some ⟨oc_law_heard, od_law_heard, .func (PySem.W.fnOf "_law_heard" "_law_heard" (defArgs st__law_heard0) (defBody st__law_heard0) (defScope st__law_heard0) .none kV_law_heard dc_law_heard pm_law_heard an_law_heard cd_law_heard ct_law_heard), sl_law_heard⟩)
    (c_law_heard : PySem.W.codeIn K cd_law_heard "_law_heard" = true)
    (k_law_heard : PySem.W.keepIn K (.ref f_law_heard) = true)
    (a_is_integer : PySem.W.nsIn K mainGlobals "is_integer" = some (some (.ref f_is_integer)))
    (l_is_integer : K.lookup f_is_integer = some ⟨oc_is_integer, od_is_integer, .func (PySem.W.fnOf "is_integer" "is_integer" (defArgs st_is_integer) (defBody st_is_integer) (defScope st_is_integer) .none kV_is_integer dc_is_integer pm_is_integer an_is_integer cd_is_integer ct_is_integer), sl_is_integer⟩)
    (c_is_integer : PySem.W.codeIn K cd_is_integer "is_integer" = true)
    (k_is_integer : PySem.W.keepIn K (.ref f_is_integer) = true)
    (a_is_within : PySem.W.nsIn K mainGlobals "is_within" = some (some (.ref f_is_within)))
    (l_is_within : K.lookup f_is_within = some ⟨oc_is_within, od_is_within, .func (PySem.W.fnOf "is_within" "is_within" (defArgs st_is_within) (defBody st_is_within) (defScope st_is_within) .none kV_is_within dc_is_within pm_is_within an_is_within cd_is_within ct_is_within), sl_is_within⟩)
    (c_is_within : PySem.W.codeIn K cd_is_within "is_within" = true)
    (k_is_within : PySem.W.keepIn K (.ref f_is_within) = true)
    (a_is_letter : PySem.W.nsIn K mainGlobals "is_letter" = some (some (.ref f_is_letter)))
    (l_is_letter : K.lookup f_is_letter = some ⟨oc_is_letter, od_is_letter, .func (PySem.W.fnOf "is_letter" "is_letter" (defArgs st_is_letter) (defBody st_is_letter) (defScope st_is_letter) .none kV_is_letter dc_is_letter pm_is_letter an_is_letter cd_is_letter ct_is_letter), sl_is_letter⟩)
    (c_is_letter : PySem.W.codeIn K cd_is_letter "is_letter" = true)
    (k_is_letter : PySem.W.keepIn K (.ref f_is_letter) = true)
    (a_undoing : PySem.W.nsIn K mainGlobals "undoing" = some (some (.ref f_undoing)))
    (l_undoing : K.lookup f_undoing = some ⟨oc_undoing, od_undoing, .func (PySem.W.fnOf "undoing" "undoing" (defArgs st_undoing) (defBody st_undoing) (defScope st_undoing) .none kV_undoing dc_undoing pm_undoing an_undoing cd_undoing ct_undoing), sl_undoing⟩)
    (c_undoing : PySem.W.codeIn K cd_undoing "undoing" = true)
    (k_undoing : PySem.W.keepIn K (.ref f_undoing) = true)
    (a_law_pen : PySem.W.nsIn K mainGlobals "_law_pen" = some (some (.ref f_law_pen)))
    (l_law_pen : K.lookup f_law_pen = some ⟨oc_law_pen, od_law_pen, .func (PySem.W.fnOf "_law_pen" "_law_pen" (defArgs st_law_pen) (defBody st_law_pen) (defScope st_law_pen) .none kV_law_pen dc_law_pen pm_law_pen an_law_pen cd_law_pen ct_law_pen), sl_law_pen⟩)
    (c_law_pen : PySem.W.codeIn K cd_law_pen "_law_pen" = true)
    (k_law_pen : PySem.W.keepIn K (.ref f_law_pen) = true)
    (a_law_draw : PySem.W.nsIn K mainGlobals "_law_draw" = some (some (.ref f_law_draw)))
    (l_law_draw : K.lookup f_law_draw = some ⟨oc_law_draw, od_law_draw, .func (PySem.W.fnOf "_law_draw" "_law_draw" (defArgs st_law_draw) (defBody st_law_draw) (defScope st_law_draw) .none kV_law_draw dc_law_draw pm_law_draw an_law_draw cd_law_draw ct_law_draw), sl_law_draw⟩)
    (c_law_draw : PySem.W.codeIn K cd_law_draw "_law_draw" = true)
    (k_law_draw : PySem.W.keepIn K (.ref f_law_draw) = true)
    (a_law_pick : PySem.W.nsIn K mainGlobals "_law_pick" = some (some (.ref f_law_pick)))
    (l_law_pick : K.lookup f_law_pick = some ⟨oc_law_pick, od_law_pick, .func (PySem.W.fnOf "_law_pick" "_law_pick" (defArgs st_law_pick) (defBody st_law_pick) (defScope st_law_pick) .none kV_law_pick dc_law_pick pm_law_pick an_law_pick cd_law_pick ct_law_pick), sl_law_pick⟩)
    (c_law_pick : PySem.W.codeIn K cd_law_pick "_law_pick" = true)
    (k_law_pick : PySem.W.keepIn K (.ref f_law_pick) = true)
    (a_law_values : PySem.W.nsIn K mainGlobals "_law_values" = some (some (.ref f_law_values)))
    (l_law_values : K.lookup f_law_values = some ⟨oc_law_values, od_law_values, .func (PySem.W.fnOf "_law_values" "_law_values" (defArgs st_law_values) (defBody st_law_values) (defScope st_law_values) .none kV_law_values dc_law_values pm_law_values an_law_values cd_law_values ct_law_values), sl_law_values⟩)
    (c_law_values : PySem.W.codeIn K cd_law_values "_law_values" = true)
    (k_law_values : PySem.W.keepIn K (.ref f_law_values) = true)
    (a_law_is_number : PySem.W.nsIn K mainGlobals "_law_is_number" = some (some (.ref f_law_is_number)))
    (l_law_is_number : K.lookup f_law_is_number = some ⟨oc_law_is_number, od_law_is_number, .func (PySem.W.fnOf "_law_is_number" "_law_is_number" (defArgs st_law_is_number) (defBody st_law_is_number) (defScope st_law_is_number) .none kV_law_is_number dc_law_is_number pm_law_is_number an_law_is_number cd_law_is_number ct_law_is_number), sl_law_is_number⟩)
    (c_law_is_number : PySem.W.codeIn K cd_law_is_number "_law_is_number" = true)
    (k_law_is_number : PySem.W.keepIn K (.ref f_law_is_number) = true)
    (a_law_told : PySem.W.nsIn K mainGlobals "_law_told" = some (some (.ref f_law_told)))
    (l_law_told : K.lookup f_law_told = some ⟨oc_law_told, od_law_told, .func (PySem.W.fnOf "_law_told" "_law_told" (defArgs st_law_told) (defBody st_law_told) (defScope st_law_told) .none kV_law_told dc_law_told pm_law_told an_law_told cd_law_told ct_law_told), sl_law_told⟩)
    (c_law_told : PySem.W.codeIn K cd_law_told "_law_told" = true)
    (k_law_told : PySem.W.keepIn K (.ref f_law_told) = true)
    (a_law_kinds : PySem.W.nsIn K mainGlobals "_law_kinds" = some (some (.ref f_law_kinds)))
    (l_law_kinds : K.lookup f_law_kinds = some ⟨oc_law_kinds, od_law_kinds, .func (PySem.W.fnOf "_law_kinds" "_law_kinds" (defArgs st_law_kinds) (defBody st_law_kinds) (defScope st_law_kinds) .none kV_law_kinds dc_law_kinds pm_law_kinds an_law_kinds cd_law_kinds ct_law_kinds), sl_law_kinds⟩)
    (c_law_kinds : PySem.W.codeIn K cd_law_kinds "_law_kinds" = true)
    (k_law_kinds : PySem.W.keepIn K (.ref f_law_kinds) = true)
    (a_law_parts_right : PySem.W.nsIn K mainGlobals "_law_parts_right" = some (some (.ref f_law_parts_right)))
    (l_law_parts_right : K.lookup f_law_parts_right = some ⟨oc_law_parts_right, od_law_parts_right, .func (PySem.W.fnOf "_law_parts_right" "_law_parts_right" (defArgs st_law_parts_right) (defBody st_law_parts_right) (defScope st_law_parts_right) .none kV_law_parts_right dc_law_parts_right pm_law_parts_right an_law_parts_right cd_law_parts_right ct_law_parts_right), sl_law_parts_right⟩)
    (c_law_parts_right : PySem.W.codeIn K cd_law_parts_right "_law_parts_right" = true)
    (k_law_parts_right : PySem.W.keepIn K (.ref f_law_parts_right) = true)
    (a_law_fields_right : PySem.W.nsIn K mainGlobals "_law_fields_right" = some (some (.ref f_law_fields_right)))
    (l_law_fields_right : K.lookup f_law_fields_right = some ⟨oc_law_fields_right, od_law_fields_right, .func (PySem.W.fnOf "_law_fields_right" "_law_fields_right" (defArgs st_law_fields_right) (defBody st_law_fields_right) (defScope st_law_fields_right) .none kV_law_fields_right dc_law_fields_right pm_law_fields_right an_law_fields_right cd_law_fields_right ct_law_fields_right), sl_law_fields_right⟩)
    (c_law_fields_right : PySem.W.codeIn K cd_law_fields_right "_law_fields_right" = true)
    (k_law_fields_right : PySem.W.keepIn K (.ref f_law_fields_right) = true)
    (a_law_classes_right : PySem.W.nsIn K mainGlobals "_law_classes_right" = some (some (.ref f_law_classes_right)))
    (l_law_classes_right : K.lookup f_law_classes_right = some ⟨oc_law_classes_right, od_law_classes_right, .func (PySem.W.fnOf "_law_classes_right" "_law_classes_right" (defArgs st_law_classes_right) (defBody st_law_classes_right) (defScope st_law_classes_right) .none kV_law_classes_right dc_law_classes_right pm_law_classes_right an_law_classes_right cd_law_classes_right ct_law_classes_right), sl_law_classes_right⟩)
    (c_law_classes_right : PySem.W.codeIn K cd_law_classes_right "_law_classes_right" = true)
    (k_law_classes_right : PySem.W.keepIn K (.ref f_law_classes_right) = true)
    (a_law_letters_right : PySem.W.nsIn K mainGlobals "_law_letters_right" = some (some (.ref f_law_letters_right)))
    (l_law_letters_right : K.lookup f_law_letters_right = some ⟨oc_law_letters_right, od_law_letters_right, .func (PySem.W.fnOf "_law_letters_right" "_law_letters_right" (defArgs st_law_letters_right) (defBody st_law_letters_right) (defScope st_law_letters_right) .none kV_law_letters_right dc_law_letters_right pm_law_letters_right an_law_letters_right (.ref cc_law_letters_right) ct_law_letters_right), sl_law_letters_right⟩)
    (c_law_letters_right : PySem.W.codeIn K (.ref cc_law_letters_right) "_law_letters_right" = true)
    (lc_law_letters_right : K.lookup cc_law_letters_right = some ⟨ccl_law_letters_right, cdd_law_letters_right, .fields cvs_law_letters_right, ccs_law_letters_right⟩)
    (h11_law_letters_right : cvs_law_letters_right[11]? = some (.ref pt_law_letters_right))
    (ch_law_letters_right : PySem.W.codeHdIn K cc_law_letters_right pt_law_letters_right = true)
    (np_law_letters_right : K.lookup pt_law_letters_right = none)
    (tb_law_letters_right : h.get? pt_law_letters_right = some (PySem.W.tabObj #[]))
    (k_law_letters_right : PySem.W.keepIn K (.ref f_law_letters_right) = true)
    (a_law : PySem.W.nsIn K mainGlobals "law" = some (some (.ref f_law)))
    (l_law : K.lookup f_law = some ⟨oc_law, od_law, .func (PySem.W.fnOf "law" "law" (defArgs st_law) (defBody st_law) (defScope st_law) .none kV_law dc_law pm_law an_law cd_law ct_law), sl_law⟩)
    (c_law : PySem.W.codeIn K cd_law "law" = true)
    (k_law : PySem.W.keepIn K (.ref f_law) = true)
    (noSup : PySem.W.nsIn K mainGlobals "super" = some none)
    (noAny : PySem.W.nsIn K cStatics "thirdparty.any" = some none)
    (top : (l.prog.main.scope.names.lookup ("super" : Str)).isSome = false)
    (b_LookupError : PySem.W.nsIn K mainGlobals "LookupError" = some none)
    (b_ValueError : PySem.W.nsIn K mainGlobals "ValueError" = some none)
    (b_abs : PySem.W.nsIn K mainGlobals "abs" = some none)
    (b_bool : PySem.W.nsIn K mainGlobals "bool" = some none)
    (b_enumerate : PySem.W.nsIn K mainGlobals "enumerate" = some none)
    (b_int : PySem.W.nsIn K mainGlobals "int" = some none)
    (b_isinstance : PySem.W.nsIn K mainGlobals "isinstance" = some none)
    (b_len : PySem.W.nsIn K mainGlobals "len" = some none)
    (b_list : PySem.W.nsIn K mainGlobals "list" = some none)
    (b_range : PySem.W.nsIn K mainGlobals "range" = some none)
    (b_repr : PySem.W.nsIn K mainGlobals "repr" = some none)
    (b_str : PySem.W.nsIn K mainGlobals "str" = some none)
    (xL_Nothing : K.lookup C_Nothing = some (PySem.excClassObj nm_Nothing q_Nothing C_Nothing N_Nothing bs_Nothing [.ref C_BallError, .type "ValueError", .type "Exception", .type "BaseException", .type "object"] true sn_Nothing sub_Nothing ab_Nothing col_Nothing dd_Nothing m0_Nothing m1_Nothing m2_Nothing m3_Nothing m5_Nothing "ValueError.__new__"))
    (al_Nothing : PySem.W.alongIn K "__init__" [.ref C_BallError, .type "ValueError", .type "Exception", .type "BaseException", .type "object"] = some (some (.builtin "ValueError.__init__")))
    (sa_Nothing : PySem.W.findIn K (.ref C_Nothing) "__setattr__" = some (some (.builtin "object.__setattr__")))
    (iC_Nothing : PySem.W.findIn K (.ref C_Nothing) "__init__" = some (some (.ref i_Nothing)))
    (tI_Nothing : PySem.W.typeIn K (.ref i_Nothing) = some (.type "function"))
    (exC_Nothing : PySem.W.subIn K (.ref C_Nothing) (.type "BaseException") = some true)
    (veC_Nothing : PySem.W.subIn K (.ref C_Nothing) (.type "ValueError") = some true)
    (tyC_Nothing : PySem.W.typeIn K (.ref C_Nothing) = some (.type "type"))
    (kC_Nothing : PySem.W.keepIn K (.ref C_Nothing) = true)
    (own_Nothing : PySem.W.mroIn K C_Nothing (.ref C_Nothing) = some true)
    (lf_Nothing : K.lookup i_Nothing = some ⟨oc_Nothing, od_Nothing, .func (PySem.W.ksFn "__init__" "Nothing.__init__" (defArgs ei_Nothing) (defBody ei_Nothing) (defScope ei_Nothing) .none kV_Nothing doc_Nothing pm_Nothing an_Nothing (.ref cda_Nothing) ct_Nothing cc_Nothing), osl_Nothing⟩)
    (hcd_Nothing : PySem.W.codeIn K (.ref cda_Nothing) "Nothing.__init__" = true)
    (lc_Nothing : K.lookup cda_Nothing = some ⟨ccl_Nothing, cdd_Nothing, .fields vs_Nothing, ccs_Nothing⟩)
    (hvs_Nothing : vs_Nothing[2]? = some (.str file_Nothing tf_Nothing))
    (hfile_Nothing : ((l.prog.main.file : Str) == file_Nothing) = true)
    (lcc_Nothing : K.lookup cc_Nothing = some ⟨cl_Nothing, cld_Nothing, .cell (some (.ref C_Nothing)), csl_Nothing⟩)
    (xL_BadLetter : K.lookup C_BadLetter = some (PySem.excClassObj nm_BadLetter q_BadLetter C_BadLetter N_BadLetter bs_BadLetter [.ref C_BallError, .type "ValueError", .type "Exception", .type "BaseException", .type "object"] true sn_BadLetter sub_BadLetter ab_BadLetter col_BadLetter dd_BadLetter m0_BadLetter m1_BadLetter m2_BadLetter m3_BadLetter m5_BadLetter "ValueError.__new__"))
    (al_BadLetter : PySem.W.alongIn K "__init__" [.ref C_BallError, .type "ValueError", .type "Exception", .type "BaseException", .type "object"] = some (some (.builtin "ValueError.__init__")))
    (sa_BadLetter : PySem.W.findIn K (.ref C_BadLetter) "__setattr__" = some (some (.builtin "object.__setattr__")))
    (iC_BadLetter : PySem.W.findIn K (.ref C_BadLetter) "__init__" = some (some (.ref i_BadLetter)))
    (tI_BadLetter : PySem.W.typeIn K (.ref i_BadLetter) = some (.type "function"))
    (exC_BadLetter : PySem.W.subIn K (.ref C_BadLetter) (.type "BaseException") = some true)
    (veC_BadLetter : PySem.W.subIn K (.ref C_BadLetter) (.type "ValueError") = some true)
    (tyC_BadLetter : PySem.W.typeIn K (.ref C_BadLetter) = some (.type "type"))
    (kC_BadLetter : PySem.W.keepIn K (.ref C_BadLetter) = true)
    (own_BadLetter : PySem.W.mroIn K C_BadLetter (.ref C_BadLetter) = some true)
    (lf_BadLetter : K.lookup i_BadLetter = some ⟨oc_BadLetter, od_BadLetter, .func (PySem.W.ksFn "__init__" "BadLetter.__init__" (defArgs ei_BadLetter) (defBody ei_BadLetter) (defScope ei_BadLetter) .none kV_BadLetter doc_BadLetter pm_BadLetter an_BadLetter (.ref cda_BadLetter) ct_BadLetter cc_BadLetter), osl_BadLetter⟩)
    (hcd_BadLetter : PySem.W.codeIn K (.ref cda_BadLetter) "BadLetter.__init__" = true)
    (lc_BadLetter : K.lookup cda_BadLetter = some ⟨ccl_BadLetter, cdd_BadLetter, .fields vs_BadLetter, ccs_BadLetter⟩)
    (hvs_BadLetter : vs_BadLetter[2]? = some (.str file_BadLetter tf_BadLetter))
    (hfile_BadLetter : ((l.prog.main.file : Str) == file_BadLetter) = true)
    (lcc_BadLetter : K.lookup cc_BadLetter = some ⟨cl_BadLetter, cld_BadLetter, .cell (some (.ref C_BadLetter)), csl_BadLetter⟩)
    (no_BadLetter_value : PySem.W.findIn K (.ref C_BadLetter) "value" = some none)
    (xL_BadLine : K.lookup C_BadLine = some (PySem.excClassObj nm_BadLine q_BadLine C_BadLine N_BadLine bs_BadLine [.ref C_BallError, .type "ValueError", .type "Exception", .type "BaseException", .type "object"] true sn_BadLine sub_BadLine ab_BadLine col_BadLine dd_BadLine m0_BadLine m1_BadLine m2_BadLine m3_BadLine m5_BadLine "ValueError.__new__"))
    (al_BadLine : PySem.W.alongIn K "__init__" [.ref C_BallError, .type "ValueError", .type "Exception", .type "BaseException", .type "object"] = some (some (.builtin "ValueError.__init__")))
    (sa_BadLine : PySem.W.findIn K (.ref C_BadLine) "__setattr__" = some (some (.builtin "object.__setattr__")))
    (iC_BadLine : PySem.W.findIn K (.ref C_BadLine) "__init__" = some (some (.ref i_BadLine)))
    (tI_BadLine : PySem.W.typeIn K (.ref i_BadLine) = some (.type "function"))
    (exC_BadLine : PySem.W.subIn K (.ref C_BadLine) (.type "BaseException") = some true)
    (veC_BadLine : PySem.W.subIn K (.ref C_BadLine) (.type "ValueError") = some true)
    (tyC_BadLine : PySem.W.typeIn K (.ref C_BadLine) = some (.type "type"))
    (kC_BadLine : PySem.W.keepIn K (.ref C_BadLine) = true)
    (own_BadLine : PySem.W.mroIn K C_BadLine (.ref C_BadLine) = some true)
    (lf_BadLine : K.lookup i_BadLine = some ⟨oc_BadLine, od_BadLine, .func (PySem.W.ksFn "__init__" "BadLine.__init__" (defArgs ei_BadLine) (defBody ei_BadLine) (defScope ei_BadLine) .none kV_BadLine doc_BadLine pm_BadLine an_BadLine (.ref cda_BadLine) ct_BadLine cc_BadLine), osl_BadLine⟩)
    (hcd_BadLine : PySem.W.codeIn K (.ref cda_BadLine) "BadLine.__init__" = true)
    (lc_BadLine : K.lookup cda_BadLine = some ⟨ccl_BadLine, cdd_BadLine, .fields vs_BadLine, ccs_BadLine⟩)
    (hvs_BadLine : vs_BadLine[2]? = some (.str file_BadLine tf_BadLine))
    (hfile_BadLine : ((l.prog.main.file : Str) == file_BadLine) = true)
    (lcc_BadLine : K.lookup cc_BadLine = some ⟨cl_BadLine, cld_BadLine, .cell (some (.ref C_BadLine)), csl_BadLine⟩)
    (no_BadLine_item : PySem.W.findIn K (.ref C_BadLine) "item" = some none)
    (xL_BadLot : K.lookup C_BadLot = some (PySem.excClassObj nm_BadLot q_BadLot C_BadLot N_BadLot bs_BadLot [.ref C_BallError, .type "ValueError", .type "Exception", .type "BaseException", .type "object"] true sn_BadLot sub_BadLot ab_BadLot col_BadLot dd_BadLot m0_BadLot m1_BadLot m2_BadLot m3_BadLot m5_BadLot "ValueError.__new__"))
    (al_BadLot : PySem.W.alongIn K "__init__" [.ref C_BallError, .type "ValueError", .type "Exception", .type "BaseException", .type "object"] = some (some (.builtin "ValueError.__init__")))
    (sa_BadLot : PySem.W.findIn K (.ref C_BadLot) "__setattr__" = some (some (.builtin "object.__setattr__")))
    (iC_BadLot : PySem.W.findIn K (.ref C_BadLot) "__init__" = some (some (.ref i_BadLot)))
    (tI_BadLot : PySem.W.typeIn K (.ref i_BadLot) = some (.type "function"))
    (exC_BadLot : PySem.W.subIn K (.ref C_BadLot) (.type "BaseException") = some true)
    (veC_BadLot : PySem.W.subIn K (.ref C_BadLot) (.type "ValueError") = some true)
    (tyC_BadLot : PySem.W.typeIn K (.ref C_BadLot) = some (.type "type"))
    (kC_BadLot : PySem.W.keepIn K (.ref C_BadLot) = true)
    (own_BadLot : PySem.W.mroIn K C_BadLot (.ref C_BadLot) = some true)
    (lf_BadLot : K.lookup i_BadLot = some ⟨oc_BadLot, od_BadLot, .func (PySem.W.ksFn "__init__" "BadLot.__init__" (defArgs ei_BadLot) (defBody ei_BadLot) (defScope ei_BadLot) .none kV_BadLot doc_BadLot pm_BadLot an_BadLot (.ref cda_BadLot) ct_BadLot cc_BadLot), osl_BadLot⟩)
    (hcd_BadLot : PySem.W.codeIn K (.ref cda_BadLot) "BadLot.__init__" = true)
    (lc_BadLot : K.lookup cda_BadLot = some ⟨ccl_BadLot, cdd_BadLot, .fields vs_BadLot, ccs_BadLot⟩)
    (hvs_BadLot : vs_BadLot[2]? = some (.str file_BadLot tf_BadLot))
    (hfile_BadLot : ((l.prog.main.file : Str) == file_BadLot) = true)
    (lcc_BadLot : K.lookup cc_BadLot = some ⟨cl_BadLot, cld_BadLot, .cell (some (.ref C_BadLot)), csl_BadLot⟩)
    (no_BadLot_part : PySem.W.findIn K (.ref C_BadLot) "part" = some none)
    (xL_BadMachine : K.lookup C_BadMachine = some (PySem.excClassObj nm_BadMachine q_BadMachine C_BadMachine N_BadMachine bs_BadMachine [.ref C_BallError, .type "ValueError", .type "Exception", .type "BaseException", .type "object"] true sn_BadMachine sub_BadMachine ab_BadMachine col_BadMachine dd_BadMachine m0_BadMachine m1_BadMachine m2_BadMachine m3_BadMachine m5_BadMachine "ValueError.__new__"))
    (al_BadMachine : PySem.W.alongIn K "__init__" [.ref C_BallError, .type "ValueError", .type "Exception", .type "BaseException", .type "object"] = some (some (.builtin "ValueError.__init__")))
    (sa_BadMachine : PySem.W.findIn K (.ref C_BadMachine) "__setattr__" = some (some (.builtin "object.__setattr__")))
    (iC_BadMachine : PySem.W.findIn K (.ref C_BadMachine) "__init__" = some (some (.ref i_BadMachine)))
    (tI_BadMachine : PySem.W.typeIn K (.ref i_BadMachine) = some (.type "function"))
    (exC_BadMachine : PySem.W.subIn K (.ref C_BadMachine) (.type "BaseException") = some true)
    (veC_BadMachine : PySem.W.subIn K (.ref C_BadMachine) (.type "ValueError") = some true)
    (tyC_BadMachine : PySem.W.typeIn K (.ref C_BadMachine) = some (.type "type"))
    (kC_BadMachine : PySem.W.keepIn K (.ref C_BadMachine) = true)
    (own_BadMachine : PySem.W.mroIn K C_BadMachine (.ref C_BadMachine) = some true)
    (lf_BadMachine : K.lookup i_BadMachine = some ⟨oc_BadMachine, od_BadMachine, .func (PySem.W.ksFn "__init__" "BadMachine.__init__" (defArgs ei_BadMachine) (defBody ei_BadMachine) (defScope ei_BadMachine) .none kV_BadMachine doc_BadMachine pm_BadMachine an_BadMachine (.ref cda_BadMachine) ct_BadMachine cc_BadMachine), osl_BadMachine⟩)
    (hcd_BadMachine : PySem.W.codeIn K (.ref cda_BadMachine) "BadMachine.__init__" = true)
    (lc_BadMachine : K.lookup cda_BadMachine = some ⟨ccl_BadMachine, cdd_BadMachine, .fields vs_BadMachine, ccs_BadMachine⟩)
    (hvs_BadMachine : vs_BadMachine[2]? = some (.str file_BadMachine tf_BadMachine))
    (hfile_BadMachine : ((l.prog.main.file : Str) == file_BadMachine) = true)
    (lcc_BadMachine : K.lookup cc_BadMachine = some ⟨cl_BadMachine, cld_BadMachine, .cell (some (.ref C_BadMachine)), csl_BadMachine⟩)
    (no_BadMachine_part : PySem.W.findIn K (.ref C_BadMachine) "part" = some none)
    (xL_BadName : K.lookup C_BadName = some (PySem.excClassObj nm_BadName q_BadName C_BadName N_BadName bs_BadName [.ref C_BallError, .type "ValueError", .type "Exception", .type "BaseException", .type "object"] true sn_BadName sub_BadName ab_BadName col_BadName dd_BadName m0_BadName m1_BadName m2_BadName m3_BadName m5_BadName "ValueError.__new__"))
    (al_BadName : PySem.W.alongIn K "__init__" [.ref C_BallError, .type "ValueError", .type "Exception", .type "BaseException", .type "object"] = some (some (.builtin "ValueError.__init__")))
    (sa_BadName : PySem.W.findIn K (.ref C_BadName) "__setattr__" = some (some (.builtin "object.__setattr__")))
    (iC_BadName : PySem.W.findIn K (.ref C_BadName) "__init__" = some (some (.ref i_BadName)))
    (tI_BadName : PySem.W.typeIn K (.ref i_BadName) = some (.type "function"))
    (exC_BadName : PySem.W.subIn K (.ref C_BadName) (.type "BaseException") = some true)
    (veC_BadName : PySem.W.subIn K (.ref C_BadName) (.type "ValueError") = some true)
    (tyC_BadName : PySem.W.typeIn K (.ref C_BadName) = some (.type "type"))
    (kC_BadName : PySem.W.keepIn K (.ref C_BadName) = true)
    (own_BadName : PySem.W.mroIn K C_BadName (.ref C_BadName) = some true)
    (lf_BadName : K.lookup i_BadName = some ⟨oc_BadName, od_BadName, .func (PySem.W.ksFn "__init__" "BadName.__init__" (defArgs ei_BadName) (defBody ei_BadName) (defScope ei_BadName) .none kV_BadName doc_BadName pm_BadName an_BadName (.ref cda_BadName) ct_BadName cc_BadName), osl_BadName⟩)
    (hcd_BadName : PySem.W.codeIn K (.ref cda_BadName) "BadName.__init__" = true)
    (lc_BadName : K.lookup cda_BadName = some ⟨ccl_BadName, cdd_BadName, .fields vs_BadName, ccs_BadName⟩)
    (hvs_BadName : vs_BadName[2]? = some (.str file_BadName tf_BadName))
    (hfile_BadName : ((l.prog.main.file : Str) == file_BadName) = true)
    (lcc_BadName : K.lookup cc_BadName = some ⟨cl_BadName, cld_BadName, .cell (some (.ref C_BadName)), csl_BadName⟩)
    (no_BadName_value : PySem.W.findIn K (.ref C_BadName) "value" = some none)
    (xL_BadNumber : K.lookup C_BadNumber = some (PySem.excClassObj nm_BadNumber q_BadNumber C_BadNumber N_BadNumber bs_BadNumber [.ref C_BallError, .type "ValueError", .type "Exception", .type "BaseException", .type "object"] true sn_BadNumber sub_BadNumber ab_BadNumber col_BadNumber dd_BadNumber m0_BadNumber m1_BadNumber m2_BadNumber m3_BadNumber m5_BadNumber "ValueError.__new__"))
    (al_BadNumber : PySem.W.alongIn K "__init__" [.ref C_BallError, .type "ValueError", .type "Exception", .type "BaseException", .type "object"] = some (some (.builtin "ValueError.__init__")))
    (sa_BadNumber : PySem.W.findIn K (.ref C_BadNumber) "__setattr__" = some (some (.builtin "object.__setattr__")))
    (iC_BadNumber : PySem.W.findIn K (.ref C_BadNumber) "__init__" = some (some (.ref i_BadNumber)))
    (tI_BadNumber : PySem.W.typeIn K (.ref i_BadNumber) = some (.type "function"))
    (exC_BadNumber : PySem.W.subIn K (.ref C_BadNumber) (.type "BaseException") = some true)
    (veC_BadNumber : PySem.W.subIn K (.ref C_BadNumber) (.type "ValueError") = some true)
    (tyC_BadNumber : PySem.W.typeIn K (.ref C_BadNumber) = some (.type "type"))
    (kC_BadNumber : PySem.W.keepIn K (.ref C_BadNumber) = true)
    (own_BadNumber : PySem.W.mroIn K C_BadNumber (.ref C_BadNumber) = some true)
    (lf_BadNumber : K.lookup i_BadNumber = some ⟨oc_BadNumber, od_BadNumber, .func (PySem.W.ksFn "__init__" "BadNumber.__init__" (defArgs ei_BadNumber) (defBody ei_BadNumber) (defScope ei_BadNumber) .none kV_BadNumber doc_BadNumber pm_BadNumber an_BadNumber (.ref cda_BadNumber) ct_BadNumber cc_BadNumber), osl_BadNumber⟩)
    (hcd_BadNumber : PySem.W.codeIn K (.ref cda_BadNumber) "BadNumber.__init__" = true)
    (lc_BadNumber : K.lookup cda_BadNumber = some ⟨ccl_BadNumber, cdd_BadNumber, .fields vs_BadNumber, ccs_BadNumber⟩)
    (hvs_BadNumber : vs_BadNumber[2]? = some (.str file_BadNumber tf_BadNumber))
    (hfile_BadNumber : ((l.prog.main.file : Str) == file_BadNumber) = true)
    (lcc_BadNumber : K.lookup cc_BadNumber = some ⟨cl_BadNumber, cld_BadNumber, .cell (some (.ref C_BadNumber)), csl_BadNumber⟩)
    (no_BadNumber_part : PySem.W.findIn K (.ref C_BadNumber) "part" = some none)
    (xL_BadPaper : K.lookup C_BadPaper = some (PySem.excClassObj nm_BadPaper q_BadPaper C_BadPaper N_BadPaper bs_BadPaper [.ref C_BallError, .type "ValueError", .type "Exception", .type "BaseException", .type "object"] true sn_BadPaper sub_BadPaper ab_BadPaper col_BadPaper dd_BadPaper m0_BadPaper m1_BadPaper m2_BadPaper m3_BadPaper m5_BadPaper "ValueError.__new__"))
    (al_BadPaper : PySem.W.alongIn K "__init__" [.ref C_BallError, .type "ValueError", .type "Exception", .type "BaseException", .type "object"] = some (some (.builtin "ValueError.__init__")))
    (sa_BadPaper : PySem.W.findIn K (.ref C_BadPaper) "__setattr__" = some (some (.builtin "object.__setattr__")))
    (iC_BadPaper : PySem.W.findIn K (.ref C_BadPaper) "__init__" = some (some (.ref i_BadPaper)))
    (tI_BadPaper : PySem.W.typeIn K (.ref i_BadPaper) = some (.type "function"))
    (exC_BadPaper : PySem.W.subIn K (.ref C_BadPaper) (.type "BaseException") = some true)
    (veC_BadPaper : PySem.W.subIn K (.ref C_BadPaper) (.type "ValueError") = some true)
    (tyC_BadPaper : PySem.W.typeIn K (.ref C_BadPaper) = some (.type "type"))
    (kC_BadPaper : PySem.W.keepIn K (.ref C_BadPaper) = true)
    (own_BadPaper : PySem.W.mroIn K C_BadPaper (.ref C_BadPaper) = some true)
    (lf_BadPaper : K.lookup i_BadPaper = some ⟨oc_BadPaper, od_BadPaper, .func (PySem.W.ksFn "__init__" "BadPaper.__init__" (defArgs ei_BadPaper) (defBody ei_BadPaper) (defScope ei_BadPaper) .none kV_BadPaper doc_BadPaper pm_BadPaper an_BadPaper (.ref cda_BadPaper) ct_BadPaper cc_BadPaper), osl_BadPaper⟩)
    (hcd_BadPaper : PySem.W.codeIn K (.ref cda_BadPaper) "BadPaper.__init__" = true)
    (lc_BadPaper : K.lookup cda_BadPaper = some ⟨ccl_BadPaper, cdd_BadPaper, .fields vs_BadPaper, ccs_BadPaper⟩)
    (hvs_BadPaper : vs_BadPaper[2]? = some (.str file_BadPaper tf_BadPaper))
    (hfile_BadPaper : ((l.prog.main.file : Str) == file_BadPaper) = true)
    (lcc_BadPaper : K.lookup cc_BadPaper = some ⟨cl_BadPaper, cld_BadPaper, .cell (some (.ref C_BadPaper)), csl_BadPaper⟩)
    (no_BadPaper_part : PySem.W.findIn K (.ref C_BadPaper) "part" = some none)
    (xL_BadPiece : K.lookup C_BadPiece = some (PySem.excClassObj nm_BadPiece q_BadPiece C_BadPiece N_BadPiece bs_BadPiece [.ref C_BallError, .type "ValueError", .type "Exception", .type "BaseException", .type "object"] true sn_BadPiece sub_BadPiece ab_BadPiece col_BadPiece dd_BadPiece m0_BadPiece m1_BadPiece m2_BadPiece m3_BadPiece m5_BadPiece "ValueError.__new__"))
    (al_BadPiece : PySem.W.alongIn K "__init__" [.ref C_BallError, .type "ValueError", .type "Exception", .type "BaseException", .type "object"] = some (some (.builtin "ValueError.__init__")))
    (sa_BadPiece : PySem.W.findIn K (.ref C_BadPiece) "__setattr__" = some (some (.builtin "object.__setattr__")))
    (iC_BadPiece : PySem.W.findIn K (.ref C_BadPiece) "__init__" = some (some (.ref i_BadPiece)))
    (tI_BadPiece : PySem.W.typeIn K (.ref i_BadPiece) = some (.type "function"))
    (exC_BadPiece : PySem.W.subIn K (.ref C_BadPiece) (.type "BaseException") = some true)
    (veC_BadPiece : PySem.W.subIn K (.ref C_BadPiece) (.type "ValueError") = some true)
    (tyC_BadPiece : PySem.W.typeIn K (.ref C_BadPiece) = some (.type "type"))
    (kC_BadPiece : PySem.W.keepIn K (.ref C_BadPiece) = true)
    (own_BadPiece : PySem.W.mroIn K C_BadPiece (.ref C_BadPiece) = some true)
    (lf_BadPiece : K.lookup i_BadPiece = some ⟨oc_BadPiece, od_BadPiece, .func (PySem.W.ksFn "__init__" "BadPiece.__init__" (defArgs ei_BadPiece) (defBody ei_BadPiece) (defScope ei_BadPiece) .none kV_BadPiece doc_BadPiece pm_BadPiece an_BadPiece (.ref cda_BadPiece) ct_BadPiece cc_BadPiece), osl_BadPiece⟩)
    (hcd_BadPiece : PySem.W.codeIn K (.ref cda_BadPiece) "BadPiece.__init__" = true)
    (lc_BadPiece : K.lookup cda_BadPiece = some ⟨ccl_BadPiece, cdd_BadPiece, .fields vs_BadPiece, ccs_BadPiece⟩)
    (hvs_BadPiece : vs_BadPiece[2]? = some (.str file_BadPiece tf_BadPiece))
    (hfile_BadPiece : ((l.prog.main.file : Str) == file_BadPiece) = true)
    (lcc_BadPiece : K.lookup cc_BadPiece = some ⟨cl_BadPiece, cld_BadPiece, .cell (some (.ref C_BadPiece)), csl_BadPiece⟩)
    (no_BadPiece_part : PySem.W.findIn K (.ref C_BadPiece) "part" = some none)
    (xL_BadPoint : K.lookup C_BadPoint = some (PySem.excClassObj nm_BadPoint q_BadPoint C_BadPoint N_BadPoint bs_BadPoint [.ref C_BallError, .type "ValueError", .type "Exception", .type "BaseException", .type "object"] true sn_BadPoint sub_BadPoint ab_BadPoint col_BadPoint dd_BadPoint m0_BadPoint m1_BadPoint m2_BadPoint m3_BadPoint m5_BadPoint "ValueError.__new__"))
    (al_BadPoint : PySem.W.alongIn K "__init__" [.ref C_BallError, .type "ValueError", .type "Exception", .type "BaseException", .type "object"] = some (some (.builtin "ValueError.__init__")))
    (sa_BadPoint : PySem.W.findIn K (.ref C_BadPoint) "__setattr__" = some (some (.builtin "object.__setattr__")))
    (iC_BadPoint : PySem.W.findIn K (.ref C_BadPoint) "__init__" = some (some (.ref i_BadPoint)))
    (tI_BadPoint : PySem.W.typeIn K (.ref i_BadPoint) = some (.type "function"))
    (exC_BadPoint : PySem.W.subIn K (.ref C_BadPoint) (.type "BaseException") = some true)
    (veC_BadPoint : PySem.W.subIn K (.ref C_BadPoint) (.type "ValueError") = some true)
    (tyC_BadPoint : PySem.W.typeIn K (.ref C_BadPoint) = some (.type "type"))
    (kC_BadPoint : PySem.W.keepIn K (.ref C_BadPoint) = true)
    (own_BadPoint : PySem.W.mroIn K C_BadPoint (.ref C_BadPoint) = some true)
    (lf_BadPoint : K.lookup i_BadPoint = some ⟨oc_BadPoint, od_BadPoint, .func (PySem.W.ksFn "__init__" "BadPoint.__init__" (defArgs ei_BadPoint) (defBody ei_BadPoint) (defScope ei_BadPoint) .none kV_BadPoint doc_BadPoint pm_BadPoint an_BadPoint (.ref cda_BadPoint) ct_BadPoint cc_BadPoint), osl_BadPoint⟩)
    (hcd_BadPoint : PySem.W.codeIn K (.ref cda_BadPoint) "BadPoint.__init__" = true)
    (lc_BadPoint : K.lookup cda_BadPoint = some ⟨ccl_BadPoint, cdd_BadPoint, .fields vs_BadPoint, ccs_BadPoint⟩)
    (hvs_BadPoint : vs_BadPoint[2]? = some (.str file_BadPoint tf_BadPoint))
    (hfile_BadPoint : ((l.prog.main.file : Str) == file_BadPoint) = true)
    (lcc_BadPoint : K.lookup cc_BadPoint = some ⟨cl_BadPoint, cld_BadPoint, .cell (some (.ref C_BadPoint)), csl_BadPoint⟩)
    (no_BadPoint_part : PySem.W.findIn K (.ref C_BadPoint) "part" = some none)
    (xL_BadText : K.lookup C_BadText = some (PySem.excClassObj nm_BadText q_BadText C_BadText N_BadText bs_BadText [.ref C_BallError, .type "ValueError", .type "Exception", .type "BaseException", .type "object"] true sn_BadText sub_BadText ab_BadText col_BadText dd_BadText m0_BadText m1_BadText m2_BadText m3_BadText m5_BadText "ValueError.__new__"))
    (al_BadText : PySem.W.alongIn K "__init__" [.ref C_BallError, .type "ValueError", .type "Exception", .type "BaseException", .type "object"] = some (some (.builtin "ValueError.__init__")))
    (sa_BadText : PySem.W.findIn K (.ref C_BadText) "__setattr__" = some (some (.builtin "object.__setattr__")))
    (iC_BadText : PySem.W.findIn K (.ref C_BadText) "__init__" = some (some (.ref i_BadText)))
    (tI_BadText : PySem.W.typeIn K (.ref i_BadText) = some (.type "function"))
    (exC_BadText : PySem.W.subIn K (.ref C_BadText) (.type "BaseException") = some true)
    (veC_BadText : PySem.W.subIn K (.ref C_BadText) (.type "ValueError") = some true)
    (tyC_BadText : PySem.W.typeIn K (.ref C_BadText) = some (.type "type"))
    (kC_BadText : PySem.W.keepIn K (.ref C_BadText) = true)
    (own_BadText : PySem.W.mroIn K C_BadText (.ref C_BadText) = some true)
    (lf_BadText : K.lookup i_BadText = some ⟨oc_BadText, od_BadText, .func (PySem.W.ksFn "__init__" "BadText.__init__" (defArgs ei_BadText) (defBody ei_BadText) (defScope ei_BadText) .none kV_BadText doc_BadText pm_BadText an_BadText (.ref cda_BadText) ct_BadText cc_BadText), osl_BadText⟩)
    (hcd_BadText : PySem.W.codeIn K (.ref cda_BadText) "BadText.__init__" = true)
    (lc_BadText : K.lookup cda_BadText = some ⟨ccl_BadText, cdd_BadText, .fields vs_BadText, ccs_BadText⟩)
    (hvs_BadText : vs_BadText[2]? = some (.str file_BadText tf_BadText))
    (hfile_BadText : ((l.prog.main.file : Str) == file_BadText) = true)
    (lcc_BadText : K.lookup cc_BadText = some ⟨cl_BadText, cld_BadText, .cell (some (.ref C_BadText)), csl_BadText⟩)
    (no_BadText_item : PySem.W.findIn K (.ref C_BadText) "item" = some none)
    (xL_BadTurn : K.lookup C_BadTurn = some (PySem.excClassObj nm_BadTurn q_BadTurn C_BadTurn N_BadTurn bs_BadTurn [.ref C_BallError, .type "ValueError", .type "Exception", .type "BaseException", .type "object"] true sn_BadTurn sub_BadTurn ab_BadTurn col_BadTurn dd_BadTurn m0_BadTurn m1_BadTurn m2_BadTurn m3_BadTurn m5_BadTurn "ValueError.__new__"))
    (al_BadTurn : PySem.W.alongIn K "__init__" [.ref C_BallError, .type "ValueError", .type "Exception", .type "BaseException", .type "object"] = some (some (.builtin "ValueError.__init__")))
    (sa_BadTurn : PySem.W.findIn K (.ref C_BadTurn) "__setattr__" = some (some (.builtin "object.__setattr__")))
    (iC_BadTurn : PySem.W.findIn K (.ref C_BadTurn) "__init__" = some (some (.ref i_BadTurn)))
    (tI_BadTurn : PySem.W.typeIn K (.ref i_BadTurn) = some (.type "function"))
    (exC_BadTurn : PySem.W.subIn K (.ref C_BadTurn) (.type "BaseException") = some true)
    (veC_BadTurn : PySem.W.subIn K (.ref C_BadTurn) (.type "ValueError") = some true)
    (tyC_BadTurn : PySem.W.typeIn K (.ref C_BadTurn) = some (.type "type"))
    (kC_BadTurn : PySem.W.keepIn K (.ref C_BadTurn) = true)
    (own_BadTurn : PySem.W.mroIn K C_BadTurn (.ref C_BadTurn) = some true)
    (lf_BadTurn : K.lookup i_BadTurn = some ⟨oc_BadTurn, od_BadTurn, .func (PySem.W.ksFn "__init__" "BadTurn.__init__" (defArgs ei_BadTurn) (defBody ei_BadTurn) (defScope ei_BadTurn) .none kV_BadTurn doc_BadTurn pm_BadTurn an_BadTurn (.ref cda_BadTurn) ct_BadTurn cc_BadTurn), osl_BadTurn⟩)
    (hcd_BadTurn : PySem.W.codeIn K (.ref cda_BadTurn) "BadTurn.__init__" = true)
    (lc_BadTurn : K.lookup cda_BadTurn = some ⟨ccl_BadTurn, cdd_BadTurn, .fields vs_BadTurn, ccs_BadTurn⟩)
    (hvs_BadTurn : vs_BadTurn[2]? = some (.str file_BadTurn tf_BadTurn))
    (hfile_BadTurn : ((l.prog.main.file : Str) == file_BadTurn) = true)
    (lcc_BadTurn : K.lookup cc_BadTurn = some ⟨cl_BadTurn, cld_BadTurn, .cell (some (.ref C_BadTurn)), csl_BadTurn⟩)
    (no_BadTurn_part : PySem.W.findIn K (.ref C_BadTurn) "part" = some none)
    (xL_BadWord : K.lookup C_BadWord = some (PySem.excClassObj nm_BadWord q_BadWord C_BadWord N_BadWord bs_BadWord [.ref C_BallError, .type "ValueError", .type "Exception", .type "BaseException", .type "object"] true sn_BadWord sub_BadWord ab_BadWord col_BadWord dd_BadWord m0_BadWord m1_BadWord m2_BadWord m3_BadWord m5_BadWord "ValueError.__new__"))
    (al_BadWord : PySem.W.alongIn K "__init__" [.ref C_BallError, .type "ValueError", .type "Exception", .type "BaseException", .type "object"] = some (some (.builtin "ValueError.__init__")))
    (sa_BadWord : PySem.W.findIn K (.ref C_BadWord) "__setattr__" = some (some (.builtin "object.__setattr__")))
    (iC_BadWord : PySem.W.findIn K (.ref C_BadWord) "__init__" = some (some (.ref i_BadWord)))
    (tI_BadWord : PySem.W.typeIn K (.ref i_BadWord) = some (.type "function"))
    (exC_BadWord : PySem.W.subIn K (.ref C_BadWord) (.type "BaseException") = some true)
    (veC_BadWord : PySem.W.subIn K (.ref C_BadWord) (.type "ValueError") = some true)
    (tyC_BadWord : PySem.W.typeIn K (.ref C_BadWord) = some (.type "type"))
    (kC_BadWord : PySem.W.keepIn K (.ref C_BadWord) = true)
    (own_BadWord : PySem.W.mroIn K C_BadWord (.ref C_BadWord) = some true)
    (lf_BadWord : K.lookup i_BadWord = some ⟨oc_BadWord, od_BadWord, .func (PySem.W.ksFn "__init__" "BadWord.__init__" (defArgs ei_BadWord) (defBody ei_BadWord) (defScope ei_BadWord) .none kV_BadWord doc_BadWord pm_BadWord an_BadWord (.ref cda_BadWord) ct_BadWord cc_BadWord), osl_BadWord⟩)
    (hcd_BadWord : PySem.W.codeIn K (.ref cda_BadWord) "BadWord.__init__" = true)
    (lc_BadWord : K.lookup cda_BadWord = some ⟨ccl_BadWord, cdd_BadWord, .fields vs_BadWord, ccs_BadWord⟩)
    (hvs_BadWord : vs_BadWord[2]? = some (.str file_BadWord tf_BadWord))
    (hfile_BadWord : ((l.prog.main.file : Str) == file_BadWord) = true)
    (lcc_BadWord : K.lookup cc_BadWord = some ⟨cl_BadWord, cld_BadWord, .cell (some (.ref C_BadWord)), csl_BadWord⟩)
    (no_BadWord_at : PySem.W.findIn K (.ref C_BadWord) "at" = some none)
    (xL_NoName : K.lookup C_NoName = some (PySem.excClassObj nm_NoName q_NoName C_NoName N_NoName bs_NoName [.ref C_BallError, .type "ValueError", .type "Exception", .type "BaseException", .type "object"] true sn_NoName sub_NoName ab_NoName col_NoName dd_NoName m0_NoName m1_NoName m2_NoName m3_NoName m5_NoName "ValueError.__new__"))
    (al_NoName : PySem.W.alongIn K "__init__" [.ref C_BallError, .type "ValueError", .type "Exception", .type "BaseException", .type "object"] = some (some (.builtin "ValueError.__init__")))
    (sa_NoName : PySem.W.findIn K (.ref C_NoName) "__setattr__" = some (some (.builtin "object.__setattr__")))
    (iC_NoName : PySem.W.findIn K (.ref C_NoName) "__init__" = some (some (.ref i_NoName)))
    (tI_NoName : PySem.W.typeIn K (.ref i_NoName) = some (.type "function"))
    (exC_NoName : PySem.W.subIn K (.ref C_NoName) (.type "BaseException") = some true)
    (veC_NoName : PySem.W.subIn K (.ref C_NoName) (.type "ValueError") = some true)
    (tyC_NoName : PySem.W.typeIn K (.ref C_NoName) = some (.type "type"))
    (kC_NoName : PySem.W.keepIn K (.ref C_NoName) = true)
    (own_NoName : PySem.W.mroIn K C_NoName (.ref C_NoName) = some true)
    (lf_NoName : K.lookup i_NoName = some ⟨oc_NoName, od_NoName, .func (PySem.W.ksFn "__init__" "NoName.__init__" (defArgs ei_NoName) (defBody ei_NoName) (defScope ei_NoName) .none kV_NoName doc_NoName pm_NoName an_NoName (.ref cda_NoName) ct_NoName cc_NoName), osl_NoName⟩)
    (hcd_NoName : PySem.W.codeIn K (.ref cda_NoName) "NoName.__init__" = true)
    (lc_NoName : K.lookup cda_NoName = some ⟨ccl_NoName, cdd_NoName, .fields vs_NoName, ccs_NoName⟩)
    (hvs_NoName : vs_NoName[2]? = some (.str file_NoName tf_NoName))
    (hfile_NoName : ((l.prog.main.file : Str) == file_NoName) = true)
    (lcc_NoName : K.lookup cc_NoName = some ⟨cl_NoName, cld_NoName, .cell (some (.ref C_NoName)), csl_NoName⟩)
    (no_NoName_name : PySem.W.findIn K (.ref C_NoName) "name" = some none)
    (xL_NoWay : K.lookup C_NoWay = some (PySem.excClassObj nm_NoWay q_NoWay C_NoWay N_NoWay bs_NoWay [.ref C_BallError, .type "ValueError", .type "Exception", .type "BaseException", .type "object"] true sn_NoWay sub_NoWay ab_NoWay col_NoWay dd_NoWay m0_NoWay m1_NoWay m2_NoWay m3_NoWay m5_NoWay "ValueError.__new__"))
    (al_NoWay : PySem.W.alongIn K "__init__" [.ref C_BallError, .type "ValueError", .type "Exception", .type "BaseException", .type "object"] = some (some (.builtin "ValueError.__init__")))
    (sa_NoWay : PySem.W.findIn K (.ref C_NoWay) "__setattr__" = some (some (.builtin "object.__setattr__")))
    (iC_NoWay : PySem.W.findIn K (.ref C_NoWay) "__init__" = some (some (.ref i_NoWay)))
    (tI_NoWay : PySem.W.typeIn K (.ref i_NoWay) = some (.type "function"))
    (exC_NoWay : PySem.W.subIn K (.ref C_NoWay) (.type "BaseException") = some true)
    (veC_NoWay : PySem.W.subIn K (.ref C_NoWay) (.type "ValueError") = some true)
    (tyC_NoWay : PySem.W.typeIn K (.ref C_NoWay) = some (.type "type"))
    (kC_NoWay : PySem.W.keepIn K (.ref C_NoWay) = true)
    (own_NoWay : PySem.W.mroIn K C_NoWay (.ref C_NoWay) = some true)
    (lf_NoWay : K.lookup i_NoWay = some ⟨oc_NoWay, od_NoWay, .func (PySem.W.ksFn "__init__" "NoWay.__init__" (defArgs ei_NoWay) (defBody ei_NoWay) (defScope ei_NoWay) .none kV_NoWay doc_NoWay pm_NoWay an_NoWay (.ref cda_NoWay) ct_NoWay cc_NoWay), osl_NoWay⟩)
    (hcd_NoWay : PySem.W.codeIn K (.ref cda_NoWay) "NoWay.__init__" = true)
    (lc_NoWay : K.lookup cda_NoWay = some ⟨ccl_NoWay, cdd_NoWay, .fields vs_NoWay, ccs_NoWay⟩)
    (hvs_NoWay : vs_NoWay[2]? = some (.str file_NoWay tf_NoWay))
    (hfile_NoWay : ((l.prog.main.file : Str) == file_NoWay) = true)
    (lcc_NoWay : K.lookup cc_NoWay = some ⟨cl_NoWay, cld_NoWay, .cell (some (.ref C_NoWay)), csl_NoWay⟩)
    (no_NoWay_paper : PySem.W.findIn K (.ref C_NoWay) "paper" = some none)
    (xL_Thin : K.lookup C_Thin = some (PySem.excClassObj nm_Thin q_Thin C_Thin N_Thin bs_Thin [.ref C_BallError, .type "ValueError", .type "Exception", .type "BaseException", .type "object"] true sn_Thin sub_Thin ab_Thin col_Thin dd_Thin m0_Thin m1_Thin m2_Thin m3_Thin m5_Thin "ValueError.__new__"))
    (al_Thin : PySem.W.alongIn K "__init__" [.ref C_BallError, .type "ValueError", .type "Exception", .type "BaseException", .type "object"] = some (some (.builtin "ValueError.__init__")))
    (sa_Thin : PySem.W.findIn K (.ref C_Thin) "__setattr__" = some (some (.builtin "object.__setattr__")))
    (iC_Thin : PySem.W.findIn K (.ref C_Thin) "__init__" = some (some (.ref i_Thin)))
    (tI_Thin : PySem.W.typeIn K (.ref i_Thin) = some (.type "function"))
    (exC_Thin : PySem.W.subIn K (.ref C_Thin) (.type "BaseException") = some true)
    (veC_Thin : PySem.W.subIn K (.ref C_Thin) (.type "ValueError") = some true)
    (tyC_Thin : PySem.W.typeIn K (.ref C_Thin) = some (.type "type"))
    (kC_Thin : PySem.W.keepIn K (.ref C_Thin) = true)
    (own_Thin : PySem.W.mroIn K C_Thin (.ref C_Thin) = some true)
    (lf_Thin : K.lookup i_Thin = some ⟨oc_Thin, od_Thin, .func (PySem.W.ksFn "__init__" "Thin.__init__" (defArgs ei_Thin) (defBody ei_Thin) (defScope ei_Thin) .none kV_Thin doc_Thin pm_Thin an_Thin (.ref cda_Thin) ct_Thin cc_Thin), osl_Thin⟩)
    (hcd_Thin : PySem.W.codeIn K (.ref cda_Thin) "Thin.__init__" = true)
    (lc_Thin : K.lookup cda_Thin = some ⟨ccl_Thin, cdd_Thin, .fields vs_Thin, ccs_Thin⟩)
    (hvs_Thin : vs_Thin[2]? = some (.str file_Thin tf_Thin))
    (hfile_Thin : ((l.prog.main.file : Str) == file_Thin) = true)
    (lcc_Thin : K.lookup cc_Thin = some ⟨cl_Thin, cld_Thin, .cell (some (.ref C_Thin)), csl_Thin⟩)
    (no_Thin_word : PySem.W.findIn K (.ref C_Thin) "word" = some none)
    (xL_TooMany : K.lookup C_TooMany = some (PySem.excClassObj nm_TooMany q_TooMany C_TooMany N_TooMany bs_TooMany [.ref C_BallError, .type "ValueError", .type "Exception", .type "BaseException", .type "object"] true sn_TooMany sub_TooMany ab_TooMany col_TooMany dd_TooMany m0_TooMany m1_TooMany m2_TooMany m3_TooMany m5_TooMany "ValueError.__new__"))
    (al_TooMany : PySem.W.alongIn K "__init__" [.ref C_BallError, .type "ValueError", .type "Exception", .type "BaseException", .type "object"] = some (some (.builtin "ValueError.__init__")))
    (sa_TooMany : PySem.W.findIn K (.ref C_TooMany) "__setattr__" = some (some (.builtin "object.__setattr__")))
    (iC_TooMany : PySem.W.findIn K (.ref C_TooMany) "__init__" = some (some (.ref i_TooMany)))
    (tI_TooMany : PySem.W.typeIn K (.ref i_TooMany) = some (.type "function"))
    (exC_TooMany : PySem.W.subIn K (.ref C_TooMany) (.type "BaseException") = some true)
    (veC_TooMany : PySem.W.subIn K (.ref C_TooMany) (.type "ValueError") = some true)
    (tyC_TooMany : PySem.W.typeIn K (.ref C_TooMany) = some (.type "type"))
    (kC_TooMany : PySem.W.keepIn K (.ref C_TooMany) = true)
    (own_TooMany : PySem.W.mroIn K C_TooMany (.ref C_TooMany) = some true)
    (lf_TooMany : K.lookup i_TooMany = some ⟨oc_TooMany, od_TooMany, .func (PySem.W.ksFn "__init__" "TooMany.__init__" (defArgs ei_TooMany) (defBody ei_TooMany) (defScope ei_TooMany) .none kV_TooMany doc_TooMany pm_TooMany an_TooMany (.ref cda_TooMany) ct_TooMany cc_TooMany), osl_TooMany⟩)
    (hcd_TooMany : PySem.W.codeIn K (.ref cda_TooMany) "TooMany.__init__" = true)
    (lc_TooMany : K.lookup cda_TooMany = some ⟨ccl_TooMany, cdd_TooMany, .fields vs_TooMany, ccs_TooMany⟩)
    (hvs_TooMany : vs_TooMany[2]? = some (.str file_TooMany tf_TooMany))
    (hfile_TooMany : ((l.prog.main.file : Str) == file_TooMany) = true)
    (lcc_TooMany : K.lookup cc_TooMany = some ⟨cl_TooMany, cld_TooMany, .cell (some (.ref C_TooMany)), csl_TooMany⟩)
    (no_TooMany_what : PySem.W.findIn K (.ref C_TooMany) "what" = some none)
    (no_TooMany_most : PySem.W.findIn K (.ref C_TooMany) "most" = some none)
    (xL_Twice : K.lookup C_Twice = some (PySem.excClassObj nm_Twice q_Twice C_Twice N_Twice bs_Twice [.ref C_BallError, .type "ValueError", .type "Exception", .type "BaseException", .type "object"] true sn_Twice sub_Twice ab_Twice col_Twice dd_Twice m0_Twice m1_Twice m2_Twice m3_Twice m5_Twice "ValueError.__new__"))
    (al_Twice : PySem.W.alongIn K "__init__" [.ref C_BallError, .type "ValueError", .type "Exception", .type "BaseException", .type "object"] = some (some (.builtin "ValueError.__init__")))
    (sa_Twice : PySem.W.findIn K (.ref C_Twice) "__setattr__" = some (some (.builtin "object.__setattr__")))
    (iC_Twice : PySem.W.findIn K (.ref C_Twice) "__init__" = some (some (.ref i_Twice)))
    (tI_Twice : PySem.W.typeIn K (.ref i_Twice) = some (.type "function"))
    (exC_Twice : PySem.W.subIn K (.ref C_Twice) (.type "BaseException") = some true)
    (veC_Twice : PySem.W.subIn K (.ref C_Twice) (.type "ValueError") = some true)
    (tyC_Twice : PySem.W.typeIn K (.ref C_Twice) = some (.type "type"))
    (kC_Twice : PySem.W.keepIn K (.ref C_Twice) = true)
    (own_Twice : PySem.W.mroIn K C_Twice (.ref C_Twice) = some true)
    (lf_Twice : K.lookup i_Twice = some ⟨oc_Twice, od_Twice, .func (PySem.W.ksFn "__init__" "Twice.__init__" (defArgs ei_Twice) (defBody ei_Twice) (defScope ei_Twice) .none kV_Twice doc_Twice pm_Twice an_Twice (.ref cda_Twice) ct_Twice cc_Twice), osl_Twice⟩)
    (hcd_Twice : PySem.W.codeIn K (.ref cda_Twice) "Twice.__init__" = true)
    (lc_Twice : K.lookup cda_Twice = some ⟨ccl_Twice, cdd_Twice, .fields vs_Twice, ccs_Twice⟩)
    (hvs_Twice : vs_Twice[2]? = some (.str file_Twice tf_Twice))
    (hfile_Twice : ((l.prog.main.file : Str) == file_Twice) = true)
    (lcc_Twice : K.lookup cc_Twice = some ⟨cl_Twice, cld_Twice, .cell (some (.ref C_Twice)), csl_Twice⟩)
    (no_Twice_name : PySem.W.findIn K (.ref C_Twice) "name" = some none)
    (su_BadLetter_BallError : PySem.W.subIn K (.ref C_BadLetter) (.ref C_BallError) = some true)
    (icl_BallError : PySem.W.isClsIn K C_BallError = true)
    (tyC_BallError : PySem.W.typeIn K (.ref C_BallError) = some (.type "type"))
    (exC_BallError : PySem.W.subIn K (.ref C_BallError) (.type "BaseException") = some true)
    (g_LETTERS : PySem.W.nsIn K mainGlobals "LETTERS" = some (some (.str (S [65, 66, 67, 68, 97, 98, 99, 100]) tg_LETTERS)))
    (su_BadLetter_BadLine : PySem.W.subIn K (.ref C_BadLetter) (.ref C_BadLine) = some false)
    (icl_BadLine : PySem.W.isClsIn K C_BadLine = true)
    (su_BadLetter_BadLot : PySem.W.subIn K (.ref C_BadLetter) (.ref C_BadLot) = some false)
    (icl_BadLot : PySem.W.isClsIn K C_BadLot = true)
    (su_BadLetter_BadMachine : PySem.W.subIn K (.ref C_BadLetter) (.ref C_BadMachine) = some false)
    (icl_BadMachine : PySem.W.isClsIn K C_BadMachine = true)
    (su_BadLetter_BadName : PySem.W.subIn K (.ref C_BadLetter) (.ref C_BadName) = some false)
    (icl_BadName : PySem.W.isClsIn K C_BadName = true)
    (su_BadLetter_BadNumber : PySem.W.subIn K (.ref C_BadLetter) (.ref C_BadNumber) = some false)
    (icl_BadNumber : PySem.W.isClsIn K C_BadNumber = true)
    (su_BadLetter_BadPaper : PySem.W.subIn K (.ref C_BadLetter) (.ref C_BadPaper) = some false)
    (icl_BadPaper : PySem.W.isClsIn K C_BadPaper = true)
    (su_BadLetter_BadPiece : PySem.W.subIn K (.ref C_BadLetter) (.ref C_BadPiece) = some false)
    (icl_BadPiece : PySem.W.isClsIn K C_BadPiece = true)
    (su_BadLetter_BadPoint : PySem.W.subIn K (.ref C_BadLetter) (.ref C_BadPoint) = some false)
    (icl_BadPoint : PySem.W.isClsIn K C_BadPoint = true)
    (su_BadLetter_BadText : PySem.W.subIn K (.ref C_BadLetter) (.ref C_BadText) = some false)
    (icl_BadText : PySem.W.isClsIn K C_BadText = true)
    (su_BadLetter_BadTurn : PySem.W.subIn K (.ref C_BadLetter) (.ref C_BadTurn) = some false)
    (icl_BadTurn : PySem.W.isClsIn K C_BadTurn = true)
    (su_BadLetter_BadWord : PySem.W.subIn K (.ref C_BadLetter) (.ref C_BadWord) = some false)
    (icl_BadWord : PySem.W.isClsIn K C_BadWord = true)
    (su_BadLetter_LookupError : PySem.W.subIn K (.ref C_BadLetter) (.type "LookupError") = some false)
    (su_BadLetter_NoName : PySem.W.subIn K (.ref C_BadLetter) (.ref C_NoName) = some false)
    (icl_NoName : PySem.W.isClsIn K C_NoName = true)
    (su_BadLetter_NoWay : PySem.W.subIn K (.ref C_BadLetter) (.ref C_NoWay) = some false)
    (icl_NoWay : PySem.W.isClsIn K C_NoWay = true)
    (su_BadLetter_Nothing : PySem.W.subIn K (.ref C_BadLetter) (.ref C_Nothing) = some false)
    (icl_Nothing : PySem.W.isClsIn K C_Nothing = true)
    (su_BadLetter_Thin : PySem.W.subIn K (.ref C_BadLetter) (.ref C_Thin) = some false)
    (icl_Thin : PySem.W.isClsIn K C_Thin = true)
    (su_BadLetter_TooMany : PySem.W.subIn K (.ref C_BadLetter) (.ref C_TooMany) = some false)
    (icl_TooMany : PySem.W.isClsIn K C_TooMany = true)
    (su_BadLetter_Twice : PySem.W.subIn K (.ref C_BadLetter) (.ref C_Twice) = some false)
    (icl_Twice : PySem.W.isClsIn K C_Twice = true)
    (su_BadLetter_ValueError : PySem.W.subIn K (.ref C_BadLetter) (.type "ValueError") = some true)
    (su_BadLine_BadLetter : PySem.W.subIn K (.ref C_BadLine) (.ref C_BadLetter) = some false)
    (icl_BadLetter : PySem.W.isClsIn K C_BadLetter = true)
    (su_BadLine_BadLot : PySem.W.subIn K (.ref C_BadLine) (.ref C_BadLot) = some false)
    (su_BadLine_BadMachine : PySem.W.subIn K (.ref C_BadLine) (.ref C_BadMachine) = some false)
    (su_BadLine_BadName : PySem.W.subIn K (.ref C_BadLine) (.ref C_BadName) = some false)
    (su_BadLine_BadNumber : PySem.W.subIn K (.ref C_BadLine) (.ref C_BadNumber) = some false)
    (su_BadLine_BadPaper : PySem.W.subIn K (.ref C_BadLine) (.ref C_BadPaper) = some false)
    (su_BadLine_BadPiece : PySem.W.subIn K (.ref C_BadLine) (.ref C_BadPiece) = some false)
    (su_BadLine_BadPoint : PySem.W.subIn K (.ref C_BadLine) (.ref C_BadPoint) = some false)
    (su_BadLine_BadText : PySem.W.subIn K (.ref C_BadLine) (.ref C_BadText) = some false)
    (su_BadLine_BadTurn : PySem.W.subIn K (.ref C_BadLine) (.ref C_BadTurn) = some false)
    (su_BadLine_BadWord : PySem.W.subIn K (.ref C_BadLine) (.ref C_BadWord) = some false)
    (su_BadLine_BallError : PySem.W.subIn K (.ref C_BadLine) (.ref C_BallError) = some true)
    (su_BadLine_LookupError : PySem.W.subIn K (.ref C_BadLine) (.type "LookupError") = some false)
    (su_BadLine_NoName : PySem.W.subIn K (.ref C_BadLine) (.ref C_NoName) = some false)
    (su_BadLine_NoWay : PySem.W.subIn K (.ref C_BadLine) (.ref C_NoWay) = some false)
    (su_BadLine_Nothing : PySem.W.subIn K (.ref C_BadLine) (.ref C_Nothing) = some false)
    (su_BadLine_Thin : PySem.W.subIn K (.ref C_BadLine) (.ref C_Thin) = some false)
    (su_BadLine_TooMany : PySem.W.subIn K (.ref C_BadLine) (.ref C_TooMany) = some false)
    (su_BadLine_Twice : PySem.W.subIn K (.ref C_BadLine) (.ref C_Twice) = some false)
    (su_BadLine_ValueError : PySem.W.subIn K (.ref C_BadLine) (.type "ValueError") = some true)
    (su_BadLot_BadLetter : PySem.W.subIn K (.ref C_BadLot) (.ref C_BadLetter) = some false)
    (su_BadLot_BadLine : PySem.W.subIn K (.ref C_BadLot) (.ref C_BadLine) = some false)
    (su_BadLot_BadMachine : PySem.W.subIn K (.ref C_BadLot) (.ref C_BadMachine) = some false)
    (su_BadLot_BadName : PySem.W.subIn K (.ref C_BadLot) (.ref C_BadName) = some false)
    (su_BadLot_BadNumber : PySem.W.subIn K (.ref C_BadLot) (.ref C_BadNumber) = some false)
    (su_BadLot_BadPaper : PySem.W.subIn K (.ref C_BadLot) (.ref C_BadPaper) = some false)
    (su_BadLot_BadPiece : PySem.W.subIn K (.ref C_BadLot) (.ref C_BadPiece) = some false)
    (su_BadLot_BadPoint : PySem.W.subIn K (.ref C_BadLot) (.ref C_BadPoint) = some false)
    (su_BadLot_BadText : PySem.W.subIn K (.ref C_BadLot) (.ref C_BadText) = some false)
    (su_BadLot_BadTurn : PySem.W.subIn K (.ref C_BadLot) (.ref C_BadTurn) = some false)
    (su_BadLot_BadWord : PySem.W.subIn K (.ref C_BadLot) (.ref C_BadWord) = some false)
    (su_BadLot_BallError : PySem.W.subIn K (.ref C_BadLot) (.ref C_BallError) = some true)
    (su_BadLot_LookupError : PySem.W.subIn K (.ref C_BadLot) (.type "LookupError") = some false)
    (su_BadLot_NoName : PySem.W.subIn K (.ref C_BadLot) (.ref C_NoName) = some false)
    (su_BadLot_NoWay : PySem.W.subIn K (.ref C_BadLot) (.ref C_NoWay) = some false)
    (su_BadLot_Nothing : PySem.W.subIn K (.ref C_BadLot) (.ref C_Nothing) = some false)
    (su_BadLot_Thin : PySem.W.subIn K (.ref C_BadLot) (.ref C_Thin) = some false)
    (su_BadLot_TooMany : PySem.W.subIn K (.ref C_BadLot) (.ref C_TooMany) = some false)
    (su_BadLot_Twice : PySem.W.subIn K (.ref C_BadLot) (.ref C_Twice) = some false)
    (su_BadLot_ValueError : PySem.W.subIn K (.ref C_BadLot) (.type "ValueError") = some true)
    (su_BadMachine_BadLetter : PySem.W.subIn K (.ref C_BadMachine) (.ref C_BadLetter) = some false)
    (su_BadMachine_BadLine : PySem.W.subIn K (.ref C_BadMachine) (.ref C_BadLine) = some false)
    (su_BadMachine_BadLot : PySem.W.subIn K (.ref C_BadMachine) (.ref C_BadLot) = some false)
    (su_BadMachine_BadName : PySem.W.subIn K (.ref C_BadMachine) (.ref C_BadName) = some false)
    (su_BadMachine_BadNumber : PySem.W.subIn K (.ref C_BadMachine) (.ref C_BadNumber) = some false)
    (su_BadMachine_BadPaper : PySem.W.subIn K (.ref C_BadMachine) (.ref C_BadPaper) = some false)
    (su_BadMachine_BadPiece : PySem.W.subIn K (.ref C_BadMachine) (.ref C_BadPiece) = some false)
    (su_BadMachine_BadPoint : PySem.W.subIn K (.ref C_BadMachine) (.ref C_BadPoint) = some false)
    (su_BadMachine_BadText : PySem.W.subIn K (.ref C_BadMachine) (.ref C_BadText) = some false)
    (su_BadMachine_BadTurn : PySem.W.subIn K (.ref C_BadMachine) (.ref C_BadTurn) = some false)
    (su_BadMachine_BadWord : PySem.W.subIn K (.ref C_BadMachine) (.ref C_BadWord) = some false)
    (su_BadMachine_BallError : PySem.W.subIn K (.ref C_BadMachine) (.ref C_BallError) = some true)
    (su_BadMachine_LookupError : PySem.W.subIn K (.ref C_BadMachine) (.type "LookupError") = some false)
    (su_BadMachine_NoName : PySem.W.subIn K (.ref C_BadMachine) (.ref C_NoName) = some false)
    (su_BadMachine_NoWay : PySem.W.subIn K (.ref C_BadMachine) (.ref C_NoWay) = some false)
    (su_BadMachine_Nothing : PySem.W.subIn K (.ref C_BadMachine) (.ref C_Nothing) = some false)
    (su_BadMachine_Thin : PySem.W.subIn K (.ref C_BadMachine) (.ref C_Thin) = some false)
    (su_BadMachine_TooMany : PySem.W.subIn K (.ref C_BadMachine) (.ref C_TooMany) = some false)
    (su_BadMachine_Twice : PySem.W.subIn K (.ref C_BadMachine) (.ref C_Twice) = some false)
    (su_BadMachine_ValueError : PySem.W.subIn K (.ref C_BadMachine) (.type "ValueError") = some true)
    (su_BadName_BadLetter : PySem.W.subIn K (.ref C_BadName) (.ref C_BadLetter) = some false)
    (su_BadName_BadLine : PySem.W.subIn K (.ref C_BadName) (.ref C_BadLine) = some false)
    (su_BadName_BadLot : PySem.W.subIn K (.ref C_BadName) (.ref C_BadLot) = some false)
    (su_BadName_BadMachine : PySem.W.subIn K (.ref C_BadName) (.ref C_BadMachine) = some false)
    (su_BadName_BadNumber : PySem.W.subIn K (.ref C_BadName) (.ref C_BadNumber) = some false)
    (su_BadName_BadPaper : PySem.W.subIn K (.ref C_BadName) (.ref C_BadPaper) = some false)
    (su_BadName_BadPiece : PySem.W.subIn K (.ref C_BadName) (.ref C_BadPiece) = some false)
    (su_BadName_BadPoint : PySem.W.subIn K (.ref C_BadName) (.ref C_BadPoint) = some false)
    (su_BadName_BadText : PySem.W.subIn K (.ref C_BadName) (.ref C_BadText) = some false)
    (su_BadName_BadTurn : PySem.W.subIn K (.ref C_BadName) (.ref C_BadTurn) = some false)
    (su_BadName_BadWord : PySem.W.subIn K (.ref C_BadName) (.ref C_BadWord) = some false)
    (su_BadName_BallError : PySem.W.subIn K (.ref C_BadName) (.ref C_BallError) = some true)
    (su_BadName_LookupError : PySem.W.subIn K (.ref C_BadName) (.type "LookupError") = some false)
    (su_BadName_NoName : PySem.W.subIn K (.ref C_BadName) (.ref C_NoName) = some false)
    (su_BadName_NoWay : PySem.W.subIn K (.ref C_BadName) (.ref C_NoWay) = some false)
    (su_BadName_Nothing : PySem.W.subIn K (.ref C_BadName) (.ref C_Nothing) = some false)
    (su_BadName_Thin : PySem.W.subIn K (.ref C_BadName) (.ref C_Thin) = some false)
    (su_BadName_TooMany : PySem.W.subIn K (.ref C_BadName) (.ref C_TooMany) = some false)
    (su_BadName_Twice : PySem.W.subIn K (.ref C_BadName) (.ref C_Twice) = some false)
    (su_BadName_ValueError : PySem.W.subIn K (.ref C_BadName) (.type "ValueError") = some true)
    (su_BadNumber_BadLetter : PySem.W.subIn K (.ref C_BadNumber) (.ref C_BadLetter) = some false)
    (su_BadNumber_BadLine : PySem.W.subIn K (.ref C_BadNumber) (.ref C_BadLine) = some false)
    (su_BadNumber_BadLot : PySem.W.subIn K (.ref C_BadNumber) (.ref C_BadLot) = some false)
    (su_BadNumber_BadMachine : PySem.W.subIn K (.ref C_BadNumber) (.ref C_BadMachine) = some false)
    (su_BadNumber_BadName : PySem.W.subIn K (.ref C_BadNumber) (.ref C_BadName) = some false)
    (su_BadNumber_BadPaper : PySem.W.subIn K (.ref C_BadNumber) (.ref C_BadPaper) = some false)
    (su_BadNumber_BadPiece : PySem.W.subIn K (.ref C_BadNumber) (.ref C_BadPiece) = some false)
    (su_BadNumber_BadPoint : PySem.W.subIn K (.ref C_BadNumber) (.ref C_BadPoint) = some false)
    (su_BadNumber_BadText : PySem.W.subIn K (.ref C_BadNumber) (.ref C_BadText) = some false)
    (su_BadNumber_BadTurn : PySem.W.subIn K (.ref C_BadNumber) (.ref C_BadTurn) = some false)
    (su_BadNumber_BadWord : PySem.W.subIn K (.ref C_BadNumber) (.ref C_BadWord) = some false)
    (su_BadNumber_BallError : PySem.W.subIn K (.ref C_BadNumber) (.ref C_BallError) = some true)
    (su_BadNumber_LookupError : PySem.W.subIn K (.ref C_BadNumber) (.type "LookupError") = some false)
    (su_BadNumber_NoName : PySem.W.subIn K (.ref C_BadNumber) (.ref C_NoName) = some false)
    (su_BadNumber_NoWay : PySem.W.subIn K (.ref C_BadNumber) (.ref C_NoWay) = some false)
    (su_BadNumber_Nothing : PySem.W.subIn K (.ref C_BadNumber) (.ref C_Nothing) = some false)
    (su_BadNumber_Thin : PySem.W.subIn K (.ref C_BadNumber) (.ref C_Thin) = some false)
    (su_BadNumber_TooMany : PySem.W.subIn K (.ref C_BadNumber) (.ref C_TooMany) = some false)
    (su_BadNumber_Twice : PySem.W.subIn K (.ref C_BadNumber) (.ref C_Twice) = some false)
    (su_BadNumber_ValueError : PySem.W.subIn K (.ref C_BadNumber) (.type "ValueError") = some true)
    (su_BadPaper_BadLetter : PySem.W.subIn K (.ref C_BadPaper) (.ref C_BadLetter) = some false)
    (su_BadPaper_BadLine : PySem.W.subIn K (.ref C_BadPaper) (.ref C_BadLine) = some false)
    (su_BadPaper_BadLot : PySem.W.subIn K (.ref C_BadPaper) (.ref C_BadLot) = some false)
    (su_BadPaper_BadMachine : PySem.W.subIn K (.ref C_BadPaper) (.ref C_BadMachine) = some false)
    (su_BadPaper_BadName : PySem.W.subIn K (.ref C_BadPaper) (.ref C_BadName) = some false)
    (su_BadPaper_BadNumber : PySem.W.subIn K (.ref C_BadPaper) (.ref C_BadNumber) = some false)
    (su_BadPaper_BadPiece : PySem.W.subIn K (.ref C_BadPaper) (.ref C_BadPiece) = some false)
    (su_BadPaper_BadPoint : PySem.W.subIn K (.ref C_BadPaper) (.ref C_BadPoint) = some false)
    (su_BadPaper_BadText : PySem.W.subIn K (.ref C_BadPaper) (.ref C_BadText) = some false)
    (su_BadPaper_BadTurn : PySem.W.subIn K (.ref C_BadPaper) (.ref C_BadTurn) = some false)
    (su_BadPaper_BadWord : PySem.W.subIn K (.ref C_BadPaper) (.ref C_BadWord) = some false)
    (su_BadPaper_BallError : PySem.W.subIn K (.ref C_BadPaper) (.ref C_BallError) = some true)
    (su_BadPaper_LookupError : PySem.W.subIn K (.ref C_BadPaper) (.type "LookupError") = some false)
    (su_BadPaper_NoName : PySem.W.subIn K (.ref C_BadPaper) (.ref C_NoName) = some false)
    (su_BadPaper_NoWay : PySem.W.subIn K (.ref C_BadPaper) (.ref C_NoWay) = some false)
    (su_BadPaper_Nothing : PySem.W.subIn K (.ref C_BadPaper) (.ref C_Nothing) = some false)
    (su_BadPaper_Thin : PySem.W.subIn K (.ref C_BadPaper) (.ref C_Thin) = some false)
    (su_BadPaper_TooMany : PySem.W.subIn K (.ref C_BadPaper) (.ref C_TooMany) = some false)
    (su_BadPaper_Twice : PySem.W.subIn K (.ref C_BadPaper) (.ref C_Twice) = some false)
    (su_BadPaper_ValueError : PySem.W.subIn K (.ref C_BadPaper) (.type "ValueError") = some true)
    (su_BadPiece_BadLetter : PySem.W.subIn K (.ref C_BadPiece) (.ref C_BadLetter) = some false)
    (su_BadPiece_BadLine : PySem.W.subIn K (.ref C_BadPiece) (.ref C_BadLine) = some false)
    (su_BadPiece_BadLot : PySem.W.subIn K (.ref C_BadPiece) (.ref C_BadLot) = some false)
    (su_BadPiece_BadMachine : PySem.W.subIn K (.ref C_BadPiece) (.ref C_BadMachine) = some false)
    (su_BadPiece_BadName : PySem.W.subIn K (.ref C_BadPiece) (.ref C_BadName) = some false)
    (su_BadPiece_BadNumber : PySem.W.subIn K (.ref C_BadPiece) (.ref C_BadNumber) = some false)
    (su_BadPiece_BadPaper : PySem.W.subIn K (.ref C_BadPiece) (.ref C_BadPaper) = some false)
    (su_BadPiece_BadPoint : PySem.W.subIn K (.ref C_BadPiece) (.ref C_BadPoint) = some false)
    (su_BadPiece_BadText : PySem.W.subIn K (.ref C_BadPiece) (.ref C_BadText) = some false)
    (su_BadPiece_BadTurn : PySem.W.subIn K (.ref C_BadPiece) (.ref C_BadTurn) = some false)
    (su_BadPiece_BadWord : PySem.W.subIn K (.ref C_BadPiece) (.ref C_BadWord) = some false)
    (su_BadPiece_BallError : PySem.W.subIn K (.ref C_BadPiece) (.ref C_BallError) = some true)
    (su_BadPiece_LookupError : PySem.W.subIn K (.ref C_BadPiece) (.type "LookupError") = some false)
    (su_BadPiece_NoName : PySem.W.subIn K (.ref C_BadPiece) (.ref C_NoName) = some false)
    (su_BadPiece_NoWay : PySem.W.subIn K (.ref C_BadPiece) (.ref C_NoWay) = some false)
    (su_BadPiece_Nothing : PySem.W.subIn K (.ref C_BadPiece) (.ref C_Nothing) = some false)
    (su_BadPiece_Thin : PySem.W.subIn K (.ref C_BadPiece) (.ref C_Thin) = some false)
    (su_BadPiece_TooMany : PySem.W.subIn K (.ref C_BadPiece) (.ref C_TooMany) = some false)
    (su_BadPiece_Twice : PySem.W.subIn K (.ref C_BadPiece) (.ref C_Twice) = some false)
    (su_BadPiece_ValueError : PySem.W.subIn K (.ref C_BadPiece) (.type "ValueError") = some true)
    (su_BadPoint_BadLetter : PySem.W.subIn K (.ref C_BadPoint) (.ref C_BadLetter) = some false)
    (su_BadPoint_BadLine : PySem.W.subIn K (.ref C_BadPoint) (.ref C_BadLine) = some false)
    (su_BadPoint_BadLot : PySem.W.subIn K (.ref C_BadPoint) (.ref C_BadLot) = some false)
    (su_BadPoint_BadMachine : PySem.W.subIn K (.ref C_BadPoint) (.ref C_BadMachine) = some false)
    (su_BadPoint_BadName : PySem.W.subIn K (.ref C_BadPoint) (.ref C_BadName) = some false)
    (su_BadPoint_BadNumber : PySem.W.subIn K (.ref C_BadPoint) (.ref C_BadNumber) = some false)
    (su_BadPoint_BadPaper : PySem.W.subIn K (.ref C_BadPoint) (.ref C_BadPaper) = some false)
    (su_BadPoint_BadPiece : PySem.W.subIn K (.ref C_BadPoint) (.ref C_BadPiece) = some false)
    (su_BadPoint_BadText : PySem.W.subIn K (.ref C_BadPoint) (.ref C_BadText) = some false)
    (su_BadPoint_BadTurn : PySem.W.subIn K (.ref C_BadPoint) (.ref C_BadTurn) = some false)
    (su_BadPoint_BadWord : PySem.W.subIn K (.ref C_BadPoint) (.ref C_BadWord) = some false)
    (su_BadPoint_BallError : PySem.W.subIn K (.ref C_BadPoint) (.ref C_BallError) = some true)
    (su_BadPoint_LookupError : PySem.W.subIn K (.ref C_BadPoint) (.type "LookupError") = some false)
    (su_BadPoint_NoName : PySem.W.subIn K (.ref C_BadPoint) (.ref C_NoName) = some false)
    (su_BadPoint_NoWay : PySem.W.subIn K (.ref C_BadPoint) (.ref C_NoWay) = some false)
    (su_BadPoint_Nothing : PySem.W.subIn K (.ref C_BadPoint) (.ref C_Nothing) = some false)
    (su_BadPoint_Thin : PySem.W.subIn K (.ref C_BadPoint) (.ref C_Thin) = some false)
    (su_BadPoint_TooMany : PySem.W.subIn K (.ref C_BadPoint) (.ref C_TooMany) = some false)
    (su_BadPoint_Twice : PySem.W.subIn K (.ref C_BadPoint) (.ref C_Twice) = some false)
    (su_BadPoint_ValueError : PySem.W.subIn K (.ref C_BadPoint) (.type "ValueError") = some true)
    (su_BadText_BadLetter : PySem.W.subIn K (.ref C_BadText) (.ref C_BadLetter) = some false)
    (su_BadText_BadLine : PySem.W.subIn K (.ref C_BadText) (.ref C_BadLine) = some false)
    (su_BadText_BadLot : PySem.W.subIn K (.ref C_BadText) (.ref C_BadLot) = some false)
    (su_BadText_BadMachine : PySem.W.subIn K (.ref C_BadText) (.ref C_BadMachine) = some false)
    (su_BadText_BadName : PySem.W.subIn K (.ref C_BadText) (.ref C_BadName) = some false)
    (su_BadText_BadNumber : PySem.W.subIn K (.ref C_BadText) (.ref C_BadNumber) = some false)
    (su_BadText_BadPaper : PySem.W.subIn K (.ref C_BadText) (.ref C_BadPaper) = some false)
    (su_BadText_BadPiece : PySem.W.subIn K (.ref C_BadText) (.ref C_BadPiece) = some false)
    (su_BadText_BadPoint : PySem.W.subIn K (.ref C_BadText) (.ref C_BadPoint) = some false)
    (su_BadText_BadTurn : PySem.W.subIn K (.ref C_BadText) (.ref C_BadTurn) = some false)
    (su_BadText_BadWord : PySem.W.subIn K (.ref C_BadText) (.ref C_BadWord) = some false)
    (su_BadText_BallError : PySem.W.subIn K (.ref C_BadText) (.ref C_BallError) = some true)
    (su_BadText_LookupError : PySem.W.subIn K (.ref C_BadText) (.type "LookupError") = some false)
    (su_BadText_NoName : PySem.W.subIn K (.ref C_BadText) (.ref C_NoName) = some false)
    (su_BadText_NoWay : PySem.W.subIn K (.ref C_BadText) (.ref C_NoWay) = some false)
    (su_BadText_Nothing : PySem.W.subIn K (.ref C_BadText) (.ref C_Nothing) = some false)
    (su_BadText_Thin : PySem.W.subIn K (.ref C_BadText) (.ref C_Thin) = some false)
    (su_BadText_TooMany : PySem.W.subIn K (.ref C_BadText) (.ref C_TooMany) = some false)
    (su_BadText_Twice : PySem.W.subIn K (.ref C_BadText) (.ref C_Twice) = some false)
    (su_BadText_ValueError : PySem.W.subIn K (.ref C_BadText) (.type "ValueError") = some true)
    (su_BadTurn_BadLetter : PySem.W.subIn K (.ref C_BadTurn) (.ref C_BadLetter) = some false)
    (su_BadTurn_BadLine : PySem.W.subIn K (.ref C_BadTurn) (.ref C_BadLine) = some false)
    (su_BadTurn_BadLot : PySem.W.subIn K (.ref C_BadTurn) (.ref C_BadLot) = some false)
    (su_BadTurn_BadMachine : PySem.W.subIn K (.ref C_BadTurn) (.ref C_BadMachine) = some false)
    (su_BadTurn_BadName : PySem.W.subIn K (.ref C_BadTurn) (.ref C_BadName) = some false)
    (su_BadTurn_BadNumber : PySem.W.subIn K (.ref C_BadTurn) (.ref C_BadNumber) = some false)
    (su_BadTurn_BadPaper : PySem.W.subIn K (.ref C_BadTurn) (.ref C_BadPaper) = some false)
    (su_BadTurn_BadPiece : PySem.W.subIn K (.ref C_BadTurn) (.ref C_BadPiece) = some false)
    (su_BadTurn_BadPoint : PySem.W.subIn K (.ref C_BadTurn) (.ref C_BadPoint) = some false)
    (su_BadTurn_BadText : PySem.W.subIn K (.ref C_BadTurn) (.ref C_BadText) = some false)
    (su_BadTurn_BadWord : PySem.W.subIn K (.ref C_BadTurn) (.ref C_BadWord) = some false)
    (su_BadTurn_BallError : PySem.W.subIn K (.ref C_BadTurn) (.ref C_BallError) = some true)
    (su_BadTurn_LookupError : PySem.W.subIn K (.ref C_BadTurn) (.type "LookupError") = some false)
    (su_BadTurn_NoName : PySem.W.subIn K (.ref C_BadTurn) (.ref C_NoName) = some false)
    (su_BadTurn_NoWay : PySem.W.subIn K (.ref C_BadTurn) (.ref C_NoWay) = some false)
    (su_BadTurn_Nothing : PySem.W.subIn K (.ref C_BadTurn) (.ref C_Nothing) = some false)
    (su_BadTurn_Thin : PySem.W.subIn K (.ref C_BadTurn) (.ref C_Thin) = some false)
    (su_BadTurn_TooMany : PySem.W.subIn K (.ref C_BadTurn) (.ref C_TooMany) = some false)
    (su_BadTurn_Twice : PySem.W.subIn K (.ref C_BadTurn) (.ref C_Twice) = some false)
    (su_BadTurn_ValueError : PySem.W.subIn K (.ref C_BadTurn) (.type "ValueError") = some true)
    (su_BadWord_BadLetter : PySem.W.subIn K (.ref C_BadWord) (.ref C_BadLetter) = some false)
    (su_BadWord_BadLine : PySem.W.subIn K (.ref C_BadWord) (.ref C_BadLine) = some false)
    (su_BadWord_BadLot : PySem.W.subIn K (.ref C_BadWord) (.ref C_BadLot) = some false)
    (su_BadWord_BadMachine : PySem.W.subIn K (.ref C_BadWord) (.ref C_BadMachine) = some false)
    (su_BadWord_BadName : PySem.W.subIn K (.ref C_BadWord) (.ref C_BadName) = some false)
    (su_BadWord_BadNumber : PySem.W.subIn K (.ref C_BadWord) (.ref C_BadNumber) = some false)
    (su_BadWord_BadPaper : PySem.W.subIn K (.ref C_BadWord) (.ref C_BadPaper) = some false)
    (su_BadWord_BadPiece : PySem.W.subIn K (.ref C_BadWord) (.ref C_BadPiece) = some false)
    (su_BadWord_BadPoint : PySem.W.subIn K (.ref C_BadWord) (.ref C_BadPoint) = some false)
    (su_BadWord_BadText : PySem.W.subIn K (.ref C_BadWord) (.ref C_BadText) = some false)
    (su_BadWord_BadTurn : PySem.W.subIn K (.ref C_BadWord) (.ref C_BadTurn) = some false)
    (su_BadWord_BallError : PySem.W.subIn K (.ref C_BadWord) (.ref C_BallError) = some true)
    (su_BadWord_LookupError : PySem.W.subIn K (.ref C_BadWord) (.type "LookupError") = some false)
    (su_BadWord_NoName : PySem.W.subIn K (.ref C_BadWord) (.ref C_NoName) = some false)
    (su_BadWord_NoWay : PySem.W.subIn K (.ref C_BadWord) (.ref C_NoWay) = some false)
    (su_BadWord_Nothing : PySem.W.subIn K (.ref C_BadWord) (.ref C_Nothing) = some false)
    (su_BadWord_Thin : PySem.W.subIn K (.ref C_BadWord) (.ref C_Thin) = some false)
    (su_BadWord_TooMany : PySem.W.subIn K (.ref C_BadWord) (.ref C_TooMany) = some false)
    (su_BadWord_Twice : PySem.W.subIn K (.ref C_BadWord) (.ref C_Twice) = some false)
    (su_BadWord_ValueError : PySem.W.subIn K (.ref C_BadWord) (.type "ValueError") = some true)
    (su_NoName_BadLetter : PySem.W.subIn K (.ref C_NoName) (.ref C_BadLetter) = some false)
    (su_NoName_BadLine : PySem.W.subIn K (.ref C_NoName) (.ref C_BadLine) = some false)
    (su_NoName_BadLot : PySem.W.subIn K (.ref C_NoName) (.ref C_BadLot) = some false)
    (su_NoName_BadMachine : PySem.W.subIn K (.ref C_NoName) (.ref C_BadMachine) = some false)
    (su_NoName_BadName : PySem.W.subIn K (.ref C_NoName) (.ref C_BadName) = some false)
    (su_NoName_BadNumber : PySem.W.subIn K (.ref C_NoName) (.ref C_BadNumber) = some false)
    (su_NoName_BadPaper : PySem.W.subIn K (.ref C_NoName) (.ref C_BadPaper) = some false)
    (su_NoName_BadPiece : PySem.W.subIn K (.ref C_NoName) (.ref C_BadPiece) = some false)
    (su_NoName_BadPoint : PySem.W.subIn K (.ref C_NoName) (.ref C_BadPoint) = some false)
    (su_NoName_BadText : PySem.W.subIn K (.ref C_NoName) (.ref C_BadText) = some false)
    (su_NoName_BadTurn : PySem.W.subIn K (.ref C_NoName) (.ref C_BadTurn) = some false)
    (su_NoName_BadWord : PySem.W.subIn K (.ref C_NoName) (.ref C_BadWord) = some false)
    (su_NoName_BallError : PySem.W.subIn K (.ref C_NoName) (.ref C_BallError) = some true)
    (su_NoName_LookupError : PySem.W.subIn K (.ref C_NoName) (.type "LookupError") = some false)
    (su_NoName_NoWay : PySem.W.subIn K (.ref C_NoName) (.ref C_NoWay) = some false)
    (su_NoName_Nothing : PySem.W.subIn K (.ref C_NoName) (.ref C_Nothing) = some false)
    (su_NoName_Thin : PySem.W.subIn K (.ref C_NoName) (.ref C_Thin) = some false)
    (su_NoName_TooMany : PySem.W.subIn K (.ref C_NoName) (.ref C_TooMany) = some false)
    (su_NoName_Twice : PySem.W.subIn K (.ref C_NoName) (.ref C_Twice) = some false)
    (su_NoName_ValueError : PySem.W.subIn K (.ref C_NoName) (.type "ValueError") = some true)
    (su_NoWay_BadLetter : PySem.W.subIn K (.ref C_NoWay) (.ref C_BadLetter) = some false)
    (su_NoWay_BadLine : PySem.W.subIn K (.ref C_NoWay) (.ref C_BadLine) = some false)
    (su_NoWay_BadLot : PySem.W.subIn K (.ref C_NoWay) (.ref C_BadLot) = some false)
    (su_NoWay_BadMachine : PySem.W.subIn K (.ref C_NoWay) (.ref C_BadMachine) = some false)
    (su_NoWay_BadName : PySem.W.subIn K (.ref C_NoWay) (.ref C_BadName) = some false)
    (su_NoWay_BadNumber : PySem.W.subIn K (.ref C_NoWay) (.ref C_BadNumber) = some false)
    (su_NoWay_BadPaper : PySem.W.subIn K (.ref C_NoWay) (.ref C_BadPaper) = some false)
    (su_NoWay_BadPiece : PySem.W.subIn K (.ref C_NoWay) (.ref C_BadPiece) = some false)
    (su_NoWay_BadPoint : PySem.W.subIn K (.ref C_NoWay) (.ref C_BadPoint) = some false)
    (su_NoWay_BadText : PySem.W.subIn K (.ref C_NoWay) (.ref C_BadText) = some false)
    (su_NoWay_BadTurn : PySem.W.subIn K (.ref C_NoWay) (.ref C_BadTurn) = some false)
    (su_NoWay_BadWord : PySem.W.subIn K (.ref C_NoWay) (.ref C_BadWord) = some false)
    (su_NoWay_BallError : PySem.W.subIn K (.ref C_NoWay) (.ref C_BallError) = some true)
    (su_NoWay_LookupError : PySem.W.subIn K (.ref C_NoWay) (.type "LookupError") = some false)
    (su_NoWay_NoName : PySem.W.subIn K (.ref C_NoWay) (.ref C_NoName) = some false)
    (su_NoWay_Nothing : PySem.W.subIn K (.ref C_NoWay) (.ref C_Nothing) = some false)
    (su_NoWay_Thin : PySem.W.subIn K (.ref C_NoWay) (.ref C_Thin) = some false)
    (su_NoWay_TooMany : PySem.W.subIn K (.ref C_NoWay) (.ref C_TooMany) = some false)
    (su_NoWay_Twice : PySem.W.subIn K (.ref C_NoWay) (.ref C_Twice) = some false)
    (su_NoWay_ValueError : PySem.W.subIn K (.ref C_NoWay) (.type "ValueError") = some true)
    (su_Nothing_BadLetter : PySem.W.subIn K (.ref C_Nothing) (.ref C_BadLetter) = some false)
    (su_Nothing_BadLine : PySem.W.subIn K (.ref C_Nothing) (.ref C_BadLine) = some false)
    (su_Nothing_BadLot : PySem.W.subIn K (.ref C_Nothing) (.ref C_BadLot) = some false)
    (su_Nothing_BadMachine : PySem.W.subIn K (.ref C_Nothing) (.ref C_BadMachine) = some false)
    (su_Nothing_BadName : PySem.W.subIn K (.ref C_Nothing) (.ref C_BadName) = some false)
    (su_Nothing_BadNumber : PySem.W.subIn K (.ref C_Nothing) (.ref C_BadNumber) = some false)
    (su_Nothing_BadPaper : PySem.W.subIn K (.ref C_Nothing) (.ref C_BadPaper) = some false)
    (su_Nothing_BadPiece : PySem.W.subIn K (.ref C_Nothing) (.ref C_BadPiece) = some false)
    (su_Nothing_BadPoint : PySem.W.subIn K (.ref C_Nothing) (.ref C_BadPoint) = some false)
    (su_Nothing_BadText : PySem.W.subIn K (.ref C_Nothing) (.ref C_BadText) = some false)
    (su_Nothing_BadTurn : PySem.W.subIn K (.ref C_Nothing) (.ref C_BadTurn) = some false)
    (su_Nothing_BadWord : PySem.W.subIn K (.ref C_Nothing) (.ref C_BadWord) = some false)
    (su_Nothing_BallError : PySem.W.subIn K (.ref C_Nothing) (.ref C_BallError) = some true)
    (su_Nothing_LookupError : PySem.W.subIn K (.ref C_Nothing) (.type "LookupError") = some false)
    (su_Nothing_NoName : PySem.W.subIn K (.ref C_Nothing) (.ref C_NoName) = some false)
    (su_Nothing_NoWay : PySem.W.subIn K (.ref C_Nothing) (.ref C_NoWay) = some false)
    (su_Nothing_Thin : PySem.W.subIn K (.ref C_Nothing) (.ref C_Thin) = some false)
    (su_Nothing_TooMany : PySem.W.subIn K (.ref C_Nothing) (.ref C_TooMany) = some false)
    (su_Nothing_Twice : PySem.W.subIn K (.ref C_Nothing) (.ref C_Twice) = some false)
    (su_Nothing_ValueError : PySem.W.subIn K (.ref C_Nothing) (.type "ValueError") = some true)
    (su_Thin_BadLetter : PySem.W.subIn K (.ref C_Thin) (.ref C_BadLetter) = some false)
    (su_Thin_BadLine : PySem.W.subIn K (.ref C_Thin) (.ref C_BadLine) = some false)
    (su_Thin_BadLot : PySem.W.subIn K (.ref C_Thin) (.ref C_BadLot) = some false)
    (su_Thin_BadMachine : PySem.W.subIn K (.ref C_Thin) (.ref C_BadMachine) = some false)
    (su_Thin_BadName : PySem.W.subIn K (.ref C_Thin) (.ref C_BadName) = some false)
    (su_Thin_BadNumber : PySem.W.subIn K (.ref C_Thin) (.ref C_BadNumber) = some false)
    (su_Thin_BadPaper : PySem.W.subIn K (.ref C_Thin) (.ref C_BadPaper) = some false)
    (su_Thin_BadPiece : PySem.W.subIn K (.ref C_Thin) (.ref C_BadPiece) = some false)
    (su_Thin_BadPoint : PySem.W.subIn K (.ref C_Thin) (.ref C_BadPoint) = some false)
    (su_Thin_BadText : PySem.W.subIn K (.ref C_Thin) (.ref C_BadText) = some false)
    (su_Thin_BadTurn : PySem.W.subIn K (.ref C_Thin) (.ref C_BadTurn) = some false)
    (su_Thin_BadWord : PySem.W.subIn K (.ref C_Thin) (.ref C_BadWord) = some false)
    (su_Thin_BallError : PySem.W.subIn K (.ref C_Thin) (.ref C_BallError) = some true)
    (su_Thin_LookupError : PySem.W.subIn K (.ref C_Thin) (.type "LookupError") = some false)
    (su_Thin_NoName : PySem.W.subIn K (.ref C_Thin) (.ref C_NoName) = some false)
    (su_Thin_NoWay : PySem.W.subIn K (.ref C_Thin) (.ref C_NoWay) = some false)
    (su_Thin_Nothing : PySem.W.subIn K (.ref C_Thin) (.ref C_Nothing) = some false)
    (su_Thin_TooMany : PySem.W.subIn K (.ref C_Thin) (.ref C_TooMany) = some false)
    (su_Thin_Twice : PySem.W.subIn K (.ref C_Thin) (.ref C_Twice) = some false)
    (su_Thin_ValueError : PySem.W.subIn K (.ref C_Thin) (.type "ValueError") = some true)
    (su_TooMany_BadLetter : PySem.W.subIn K (.ref C_TooMany) (.ref C_BadLetter) = some false)
    (su_TooMany_BadLine : PySem.W.subIn K (.ref C_TooMany) (.ref C_BadLine) = some false)
    (su_TooMany_BadLot : PySem.W.subIn K (.ref C_TooMany) (.ref C_BadLot) = some false)
    (su_TooMany_BadMachine : PySem.W.subIn K (.ref C_TooMany) (.ref C_BadMachine) = some false)
    (su_TooMany_BadName : PySem.W.subIn K (.ref C_TooMany) (.ref C_BadName) = some false)
    (su_TooMany_BadNumber : PySem.W.subIn K (.ref C_TooMany) (.ref C_BadNumber) = some false)
    (su_TooMany_BadPaper : PySem.W.subIn K (.ref C_TooMany) (.ref C_BadPaper) = some false)
    (su_TooMany_BadPiece : PySem.W.subIn K (.ref C_TooMany) (.ref C_BadPiece) = some false)
    (su_TooMany_BadPoint : PySem.W.subIn K (.ref C_TooMany) (.ref C_BadPoint) = some false)
    (su_TooMany_BadText : PySem.W.subIn K (.ref C_TooMany) (.ref C_BadText) = some false)
    (su_TooMany_BadTurn : PySem.W.subIn K (.ref C_TooMany) (.ref C_BadTurn) = some false)
    (su_TooMany_BadWord : PySem.W.subIn K (.ref C_TooMany) (.ref C_BadWord) = some false)
    (su_TooMany_BallError : PySem.W.subIn K (.ref C_TooMany) (.ref C_BallError) = some true)
    (su_TooMany_LookupError : PySem.W.subIn K (.ref C_TooMany) (.type "LookupError") = some false)
    (su_TooMany_NoName : PySem.W.subIn K (.ref C_TooMany) (.ref C_NoName) = some false)
    (su_TooMany_NoWay : PySem.W.subIn K (.ref C_TooMany) (.ref C_NoWay) = some false)
    (su_TooMany_Nothing : PySem.W.subIn K (.ref C_TooMany) (.ref C_Nothing) = some false)
    (su_TooMany_Thin : PySem.W.subIn K (.ref C_TooMany) (.ref C_Thin) = some false)
    (su_TooMany_Twice : PySem.W.subIn K (.ref C_TooMany) (.ref C_Twice) = some false)
    (su_TooMany_ValueError : PySem.W.subIn K (.ref C_TooMany) (.type "ValueError") = some true)
    (su_Twice_BadLetter : PySem.W.subIn K (.ref C_Twice) (.ref C_BadLetter) = some false)
    (su_Twice_BadLine : PySem.W.subIn K (.ref C_Twice) (.ref C_BadLine) = some false)
    (su_Twice_BadLot : PySem.W.subIn K (.ref C_Twice) (.ref C_BadLot) = some false)
    (su_Twice_BadMachine : PySem.W.subIn K (.ref C_Twice) (.ref C_BadMachine) = some false)
    (su_Twice_BadName : PySem.W.subIn K (.ref C_Twice) (.ref C_BadName) = some false)
    (su_Twice_BadNumber : PySem.W.subIn K (.ref C_Twice) (.ref C_BadNumber) = some false)
    (su_Twice_BadPaper : PySem.W.subIn K (.ref C_Twice) (.ref C_BadPaper) = some false)
    (su_Twice_BadPiece : PySem.W.subIn K (.ref C_Twice) (.ref C_BadPiece) = some false)
    (su_Twice_BadPoint : PySem.W.subIn K (.ref C_Twice) (.ref C_BadPoint) = some false)
    (su_Twice_BadText : PySem.W.subIn K (.ref C_Twice) (.ref C_BadText) = some false)
    (su_Twice_BadTurn : PySem.W.subIn K (.ref C_Twice) (.ref C_BadTurn) = some false)
    (su_Twice_BadWord : PySem.W.subIn K (.ref C_Twice) (.ref C_BadWord) = some false)
    (su_Twice_BallError : PySem.W.subIn K (.ref C_Twice) (.ref C_BallError) = some true)
    (su_Twice_LookupError : PySem.W.subIn K (.ref C_Twice) (.type "LookupError") = some false)
    (su_Twice_NoName : PySem.W.subIn K (.ref C_Twice) (.ref C_NoName) = some false)
    (su_Twice_NoWay : PySem.W.subIn K (.ref C_Twice) (.ref C_NoWay) = some false)
    (su_Twice_Nothing : PySem.W.subIn K (.ref C_Twice) (.ref C_Nothing) = some false)
    (su_Twice_Thin : PySem.W.subIn K (.ref C_Twice) (.ref C_Thin) = some false)
    (su_Twice_TooMany : PySem.W.subIn K (.ref C_Twice) (.ref C_TooMany) = some false)
    (su_Twice_ValueError : PySem.W.subIn K (.ref C_Twice) (.type "ValueError") = some true)
    (ga_BadLetter : PySem.W.findIn K (.ref C_BadLetter) "__getattribute__" = some (some (.builtin "BaseException.__getattribute__")))
    (gg_BadLetter : PySem.W.findIn K (.ref C_BadLetter) "__getattr__" = some none)
    (hd_BadLetter : PySem.W.hasDictIn K C_BadLetter = true)
    (ga_BadLine : PySem.W.findIn K (.ref C_BadLine) "__getattribute__" = some (some (.builtin "BaseException.__getattribute__")))
    (gg_BadLine : PySem.W.findIn K (.ref C_BadLine) "__getattr__" = some none)
    (hd_BadLine : PySem.W.hasDictIn K C_BadLine = true)
    (ga_BadLot : PySem.W.findIn K (.ref C_BadLot) "__getattribute__" = some (some (.builtin "BaseException.__getattribute__")))
    (gg_BadLot : PySem.W.findIn K (.ref C_BadLot) "__getattr__" = some none)
    (hd_BadLot : PySem.W.hasDictIn K C_BadLot = true)
    (ga_BadMachine : PySem.W.findIn K (.ref C_BadMachine) "__getattribute__" = some (some (.builtin "BaseException.__getattribute__")))
    (gg_BadMachine : PySem.W.findIn K (.ref C_BadMachine) "__getattr__" = some none)
    (hd_BadMachine : PySem.W.hasDictIn K C_BadMachine = true)
    (ga_BadName : PySem.W.findIn K (.ref C_BadName) "__getattribute__" = some (some (.builtin "BaseException.__getattribute__")))
    (gg_BadName : PySem.W.findIn K (.ref C_BadName) "__getattr__" = some none)
    (hd_BadName : PySem.W.hasDictIn K C_BadName = true)
    (ga_BadNumber : PySem.W.findIn K (.ref C_BadNumber) "__getattribute__" = some (some (.builtin "BaseException.__getattribute__")))
    (gg_BadNumber : PySem.W.findIn K (.ref C_BadNumber) "__getattr__" = some none)
    (hd_BadNumber : PySem.W.hasDictIn K C_BadNumber = true)
    (ga_BadPaper : PySem.W.findIn K (.ref C_BadPaper) "__getattribute__" = some (some (.builtin "BaseException.__getattribute__")))
    (gg_BadPaper : PySem.W.findIn K (.ref C_BadPaper) "__getattr__" = some none)
    (hd_BadPaper : PySem.W.hasDictIn K C_BadPaper = true)
    (ga_BadPiece : PySem.W.findIn K (.ref C_BadPiece) "__getattribute__" = some (some (.builtin "BaseException.__getattribute__")))
    (gg_BadPiece : PySem.W.findIn K (.ref C_BadPiece) "__getattr__" = some none)
    (hd_BadPiece : PySem.W.hasDictIn K C_BadPiece = true)
    (ga_BadPoint : PySem.W.findIn K (.ref C_BadPoint) "__getattribute__" = some (some (.builtin "BaseException.__getattribute__")))
    (gg_BadPoint : PySem.W.findIn K (.ref C_BadPoint) "__getattr__" = some none)
    (hd_BadPoint : PySem.W.hasDictIn K C_BadPoint = true)
    (ga_BadText : PySem.W.findIn K (.ref C_BadText) "__getattribute__" = some (some (.builtin "BaseException.__getattribute__")))
    (gg_BadText : PySem.W.findIn K (.ref C_BadText) "__getattr__" = some none)
    (hd_BadText : PySem.W.hasDictIn K C_BadText = true)
    (ga_BadTurn : PySem.W.findIn K (.ref C_BadTurn) "__getattribute__" = some (some (.builtin "BaseException.__getattribute__")))
    (gg_BadTurn : PySem.W.findIn K (.ref C_BadTurn) "__getattr__" = some none)
    (hd_BadTurn : PySem.W.hasDictIn K C_BadTurn = true)
    (ga_BadWord : PySem.W.findIn K (.ref C_BadWord) "__getattribute__" = some (some (.builtin "BaseException.__getattribute__")))
    (gg_BadWord : PySem.W.findIn K (.ref C_BadWord) "__getattr__" = some none)
    (hd_BadWord : PySem.W.hasDictIn K C_BadWord = true)
    (ga_NoName : PySem.W.findIn K (.ref C_NoName) "__getattribute__" = some (some (.builtin "BaseException.__getattribute__")))
    (gg_NoName : PySem.W.findIn K (.ref C_NoName) "__getattr__" = some none)
    (hd_NoName : PySem.W.hasDictIn K C_NoName = true)
    (ga_NoWay : PySem.W.findIn K (.ref C_NoWay) "__getattribute__" = some (some (.builtin "BaseException.__getattribute__")))
    (gg_NoWay : PySem.W.findIn K (.ref C_NoWay) "__getattr__" = some none)
    (hd_NoWay : PySem.W.hasDictIn K C_NoWay = true)
    (ga_Thin : PySem.W.findIn K (.ref C_Thin) "__getattribute__" = some (some (.builtin "BaseException.__getattribute__")))
    (gg_Thin : PySem.W.findIn K (.ref C_Thin) "__getattr__" = some none)
    (hd_Thin : PySem.W.hasDictIn K C_Thin = true)
    (ga_TooMany : PySem.W.findIn K (.ref C_TooMany) "__getattribute__" = some (some (.builtin "BaseException.__getattribute__")))
    (gg_TooMany : PySem.W.findIn K (.ref C_TooMany) "__getattr__" = some none)
    (hd_TooMany : PySem.W.hasDictIn K C_TooMany = true)
    (ga_Twice : PySem.W.findIn K (.ref C_Twice) "__getattribute__" = some (some (.builtin "BaseException.__getattribute__")))
    (gg_Twice : PySem.W.findIn K (.ref C_Twice) "__getattr__" = some none)
    (hd_Twice : PySem.W.hasDictIn K C_Twice = true)
    (ha_BadLetter : PySem.W.findIn K (.ref C_BadLetter) "__class__" = some (some (.builtin "object.__class__")))
    (hn : PySem.W.specialIn K (.builtin "object.__class__") "__get__" = some (some (.builtin "getset_descriptor.__get__")))
    (htk : PySem.W.takesIn K (.builtin "object.__class__") = some true)
    (hm_BadLetter : PySem.W.mroIn K C_BadLetter (.type "object") = some true)
    (clI_BadLetter : PySem.W.isClsIn K C_BadLetter = true)
    (ha_BadLine : PySem.W.findIn K (.ref C_BadLine) "__class__" = some (some (.builtin "object.__class__")))
    (hm_BadLine : PySem.W.mroIn K C_BadLine (.type "object") = some true)
    (clI_BadLine : PySem.W.isClsIn K C_BadLine = true)
    (ha_BadLot : PySem.W.findIn K (.ref C_BadLot) "__class__" = some (some (.builtin "object.__class__")))
    (hm_BadLot : PySem.W.mroIn K C_BadLot (.type "object") = some true)
    (clI_BadLot : PySem.W.isClsIn K C_BadLot = true)
    (ha_BadMachine : PySem.W.findIn K (.ref C_BadMachine) "__class__" = some (some (.builtin "object.__class__")))
    (hm_BadMachine : PySem.W.mroIn K C_BadMachine (.type "object") = some true)
    (clI_BadMachine : PySem.W.isClsIn K C_BadMachine = true)
    (ha_BadName : PySem.W.findIn K (.ref C_BadName) "__class__" = some (some (.builtin "object.__class__")))
    (hm_BadName : PySem.W.mroIn K C_BadName (.type "object") = some true)
    (clI_BadName : PySem.W.isClsIn K C_BadName = true)
    (ha_BadNumber : PySem.W.findIn K (.ref C_BadNumber) "__class__" = some (some (.builtin "object.__class__")))
    (hm_BadNumber : PySem.W.mroIn K C_BadNumber (.type "object") = some true)
    (clI_BadNumber : PySem.W.isClsIn K C_BadNumber = true)
    (ha_BadPaper : PySem.W.findIn K (.ref C_BadPaper) "__class__" = some (some (.builtin "object.__class__")))
    (hm_BadPaper : PySem.W.mroIn K C_BadPaper (.type "object") = some true)
    (clI_BadPaper : PySem.W.isClsIn K C_BadPaper = true)
    (ha_BadPiece : PySem.W.findIn K (.ref C_BadPiece) "__class__" = some (some (.builtin "object.__class__")))
    (hm_BadPiece : PySem.W.mroIn K C_BadPiece (.type "object") = some true)
    (clI_BadPiece : PySem.W.isClsIn K C_BadPiece = true)
    (ha_BadPoint : PySem.W.findIn K (.ref C_BadPoint) "__class__" = some (some (.builtin "object.__class__")))
    (hm_BadPoint : PySem.W.mroIn K C_BadPoint (.type "object") = some true)
    (clI_BadPoint : PySem.W.isClsIn K C_BadPoint = true)
    (ha_BadText : PySem.W.findIn K (.ref C_BadText) "__class__" = some (some (.builtin "object.__class__")))
    (hm_BadText : PySem.W.mroIn K C_BadText (.type "object") = some true)
    (clI_BadText : PySem.W.isClsIn K C_BadText = true)
    (ha_BadTurn : PySem.W.findIn K (.ref C_BadTurn) "__class__" = some (some (.builtin "object.__class__")))
    (hm_BadTurn : PySem.W.mroIn K C_BadTurn (.type "object") = some true)
    (clI_BadTurn : PySem.W.isClsIn K C_BadTurn = true)
    (ha_BadWord : PySem.W.findIn K (.ref C_BadWord) "__class__" = some (some (.builtin "object.__class__")))
    (hm_BadWord : PySem.W.mroIn K C_BadWord (.type "object") = some true)
    (clI_BadWord : PySem.W.isClsIn K C_BadWord = true)
    (ha_NoName : PySem.W.findIn K (.ref C_NoName) "__class__" = some (some (.builtin "object.__class__")))
    (hm_NoName : PySem.W.mroIn K C_NoName (.type "object") = some true)
    (clI_NoName : PySem.W.isClsIn K C_NoName = true)
    (ha_NoWay : PySem.W.findIn K (.ref C_NoWay) "__class__" = some (some (.builtin "object.__class__")))
    (hm_NoWay : PySem.W.mroIn K C_NoWay (.type "object") = some true)
    (clI_NoWay : PySem.W.isClsIn K C_NoWay = true)
    (ha_Nothing : PySem.W.findIn K (.ref C_Nothing) "__class__" = some (some (.builtin "object.__class__")))
    (hm_Nothing : PySem.W.mroIn K C_Nothing (.type "object") = some true)
    (clI_Nothing : PySem.W.isClsIn K C_Nothing = true)
    (ga_Nothing : PySem.W.findIn K (.ref C_Nothing) "__getattribute__" = some (some (.builtin "BaseException.__getattribute__")))
    (gg_Nothing : PySem.W.findIn K (.ref C_Nothing) "__getattr__" = some none)
    (hd_Nothing : PySem.W.hasDictIn K C_Nothing = true)
    (ha_Thin : PySem.W.findIn K (.ref C_Thin) "__class__" = some (some (.builtin "object.__class__")))
    (hm_Thin : PySem.W.mroIn K C_Thin (.type "object") = some true)
    (clI_Thin : PySem.W.isClsIn K C_Thin = true)
    (ha_TooMany : PySem.W.findIn K (.ref C_TooMany) "__class__" = some (some (.builtin "object.__class__")))
    (hm_TooMany : PySem.W.mroIn K C_TooMany (.type "object") = some true)
    (clI_TooMany : PySem.W.isClsIn K C_TooMany = true)
    (ha_Twice : PySem.W.findIn K (.ref C_Twice) "__class__" = some (some (.builtin "object.__class__")))
    (hm_Twice : PySem.W.mroIn K C_Twice (.type "object") = some true)
    (clI_Twice : PySem.W.isClsIn K C_Twice = true)
    : Cs.LawAtG l w K CX0 6 63 "script" mg fa h := by
  have e := hfa.symm.trans (PySem.W.mg_of X G a_law)
  cases e
  have F_law_heard := fun_mk (st := st__law_heard0) l_law_heard c_law_heard k_law_heard
  have b_law_heard := F_law_heard.binds (ps := ["ask"]) fun _ _ _ _ _ _ us hl => match us, hl with | [_], _ => rfl
  have F_is_integer := fun_mk (st := st_is_integer) l_is_integer c_is_integer k_is_integer
  have b_is_integer := F_is_integer.binds (ps := ["value"]) fun _ _ _ _ _ _ us hl => match us, hl with | [_], _ => rfl
  have F_is_within := fun_mk (st := st_is_within) l_is_within c_is_within k_is_within
  have b_is_within := F_is_within.binds (ps := ["value", "least", "most"]) fun _ _ _ _ _ _ us hl => match us, hl with | [_, _, _], _ => rfl
  have F_is_letter := fun_mk (st := st_is_letter) l_is_letter c_is_letter k_is_letter
  have b_is_letter := F_is_letter.binds (ps := ["value"]) fun _ _ _ _ _ _ us hl => match us, hl with | [_], _ => rfl
  have F_undoing := fun_mk (st := st_undoing) l_undoing c_undoing k_undoing
  have b_undoing := F_undoing.binds (ps := ["letter"]) fun _ _ _ _ _ _ us hl => match us, hl with | [_], _ => rfl
  have F_law_pen := fun_mk (st := st_law_pen) l_law_pen c_law_pen k_law_pen
  have b_law_pen := F_law_pen.binds (ps := ["script"]) fun _ _ _ _ _ _ us hl => match us, hl with | [_], _ => rfl
  have F_law_draw := fun_mk (st := st_law_draw) l_law_draw c_law_draw k_law_draw
  have b_law_draw := F_law_draw.binds (ps := ["pen", "many"]) fun _ _ _ _ _ _ us hl => match us, hl with | [_, _], _ => rfl
  have F_law_pick := fun_mk (st := st_law_pick) l_law_pick c_law_pick k_law_pick
  have b_law_pick := F_law_pick.binds (ps := ["pen", "some"]) fun _ _ _ _ _ _ us hl => match us, hl with | [_, _], _ => rfl
  have F_law_values := fun_mk (st := st_law_values) l_law_values c_law_values k_law_values
  have b_law_values := F_law_values.binds (ps := ["pen"]) fun _ _ _ _ _ _ us hl => match us, hl with | [_], _ => rfl
  have F_law_is_number := fun_mk (st := st_law_is_number) l_law_is_number c_law_is_number k_law_is_number
  have b_law_is_number := F_law_is_number.binds (ps := ["value"]) fun _ _ _ _ _ _ us hl => match us, hl with | [_], _ => rfl
  have F_law_told := fun_mk (st := st_law_told) l_law_told c_law_told k_law_told
  have b_law_told := F_law_told.binds (ps := ["told", "due"]) fun _ _ _ _ _ _ us hl => match us, hl with | [_, _], _ => rfl
  have F_law_kinds := fun_mk (st := st_law_kinds) l_law_kinds c_law_kinds k_law_kinds
  have b_law_kinds := F_law_kinds.binds (ps := ["error"]) fun _ _ _ _ _ _ us hl => match us, hl with | [_], _ => rfl
  have F_law_parts_right := fun_mk (st := st_law_parts_right) l_law_parts_right c_law_parts_right k_law_parts_right
  have b_law_parts_right := F_law_parts_right.binds (ps := ["value"]) fun _ _ _ _ _ _ us hl => match us, hl with | [_], _ => rfl
  have F_law_fields_right := fun_mk (st := st_law_fields_right) l_law_fields_right c_law_fields_right k_law_fields_right
  have b_law_fields_right := F_law_fields_right.binds (ps := ["value", "other"]) fun _ _ _ _ _ _ us hl => match us, hl with | [_, _], _ => rfl
  have F_law_classes_right := fun_mk (st := st_law_classes_right) l_law_classes_right c_law_classes_right k_law_classes_right
  have b_law_classes_right := F_law_classes_right.binds (ps := ["value"]) fun _ _ _ _ _ _ us hl => match us, hl with | [_], _ => rfl
  have F_law_letters_right : FunL K "_law_letters_right" "_law_letters_right" st_law_letters_right f_law_letters_right _ cc_law_letters_right := ⟨⟨oc_law_letters_right, od_law_letters_right, kV_law_letters_right, dc_law_letters_right, pm_law_letters_right, an_law_letters_right, ct_law_letters_right, sl_law_letters_right, rfl, l_law_letters_right, c_law_letters_right⟩, k_law_letters_right⟩
  have b_law_letters_right := F_law_letters_right.fun.binds (ps := ["value"]) fun _ _ _ _ _ _ us hl => match us, hl with | [_], _ => rfl
  have F_law := fun_mk (st := st_law) l_law c_law k_law
  have b_law := F_law.binds (ps := ["script"]) fun _ _ _ _ _ _ us hl => match us, hl with | [_], _ => rfl
  refine ⟨PySem.W.fnOf "law" "law" (defArgs st_law) (defBody st_law) (defScope st_law) .none kV_law dc_law pm_law an_law cd_law ct_law, [(cc_law_letters_right, pt_law_letters_right)], sp_law K ({ BadLetter := C_BadLetter, BadLine := C_BadLine, BadLot := C_BadLot, BadMachine := C_BadMachine, BadName := C_BadName, BadNumber := C_BadNumber, BadPaper := C_BadPaper, BadPiece := C_BadPiece, BadPoint := C_BadPoint, BadText := C_BadText, BadTurn := C_BadTurn, BadWord := C_BadWord, BallError := C_BallError, NoName := C_NoName, NoWay := C_NoWay, Nothing := C_Nothing, Thin := C_Thin, TooMany := C_TooMany, Twice := C_Twice, i_BadLetter := i_BadLetter, i_BadLine := i_BadLine, i_BadLot := i_BadLot, i_BadMachine := i_BadMachine, i_BadName := i_BadName, i_BadNumber := i_BadNumber, i_BadPaper := i_BadPaper, i_BadPiece := i_BadPiece, i_BadPoint := i_BadPoint, i_BadText := i_BadText, i_BadTurn := i_BadTurn, i_BadWord := i_BadWord, i_NoName := i_NoName, i_NoWay := i_NoWay, i_Nothing := i_Nothing, i_Thin := i_Thin, i_TooMany := i_TooMany, i_Twice := i_Twice } : Ad) ([(pt_law_letters_right, ((("_law_letters_right" : Str) ++ ".<locals>.") ++ "<lambda>"))] : List (Addr × Str)), ⟨(List.forall_mem_cons.mpr ⟨tb_law_letters_right, (fun _ z => nomatch z)⟩), (List.forall_mem_cons.mpr ⟨np_law_letters_right, (fun _ z => nomatch z)⟩), (List.forall_mem_cons.mpr ⟨PySem.W.codeHd_of_K X ch_law_letters_right, (fun _ z => nomatch z)⟩)⟩, fun s v => .of_eq rfl, fun H a ns hn _ hH hS => ⟨a, ns, rfl, hS, hn, ?_, fun _ => rfl⟩, fun base Xb Gb hTB => ?_⟩
  · exact (List.forall_mem_cons.mpr ⟨LamX.TabS.nil (hH (cc_law_letters_right, pt_law_letters_right) (by simp)), (fun _ z => nomatch z)⟩)
  have lm_law_letters_right : MakerAt base mg ([(pt_law_letters_right, ((("_law_letters_right" : Str) ++ ".<locals>.") ++ "<lambda>"))] : List (Addr × Str)) cc_law_letters_right ((("_law_letters_right" : Str) ++ ".<locals>.") ++ "<lambda>") := ⟨pt_law_letters_right, hTB (cc_law_letters_right, pt_law_letters_right) (by simp), by simp, fun p hp e => ?_⟩
  rotate_left
  · rcases List.mem_cons.mp hp with rfl | hp
    · rfl
    · cases hp
  have T : Txt l.prog w K mg base ({ BadLetter := C_BadLetter, BadLine := C_BadLine, BadLot := C_BadLot, BadMachine := C_BadMachine, BadName := C_BadName, BadNumber := C_BadNumber, BadPaper := C_BadPaper, BadPiece := C_BadPiece, BadPoint := C_BadPoint, BadText := C_BadText, BadTurn := C_BadTurn, BadWord := C_BadWord, BallError := C_BallError, NoName := C_NoName, NoWay := C_NoWay, Nothing := C_Nothing, Thin := C_Thin, TooMany := C_TooMany, Twice := C_Twice, i_BadLetter := i_BadLetter, i_BadLine := i_BadLine, i_BadLot := i_BadLot, i_BadMachine := i_BadMachine, i_BadName := i_BadName, i_BadNumber := i_BadNumber, i_BadPaper := i_BadPaper, i_BadPiece := i_BadPiece, i_BadPoint := i_BadPoint, i_BadText := i_BadText, i_BadTurn := i_BadTurn, i_BadWord := i_BadWord, i_NoName := i_NoName, i_NoWay := i_NoWay, i_Nothing := i_Nothing, i_Thin := i_Thin, i_TooMany := i_TooMany, i_Twice := i_Twice } : Ad) := {
    b_LookupError := PySem.W.mg_none_of X G b_LookupError
    b_ValueError := PySem.W.mg_none_of X G b_ValueError
    b_abs := PySem.W.mg_none_of X G b_abs
    b_bool := PySem.W.mg_none_of X G b_bool
    b_enumerate := PySem.W.mg_none_of X G b_enumerate
    b_int := PySem.W.mg_none_of X G b_int
    b_isinstance := PySem.W.mg_none_of X G b_isinstance
    b_len := PySem.W.mg_none_of X G b_len
    b_list := PySem.W.mg_none_of X G b_list
    b_range := PySem.W.mg_none_of X G b_range
    b_repr := PySem.W.mg_none_of X G b_repr
    b_str := PySem.W.mg_none_of X G b_str
    c_BadLetter := PySem.W.mg_of X G a_BadLetter
    c_BadLine := PySem.W.mg_of X G a_BadLine
    c_BadLot := PySem.W.mg_of X G a_BadLot
    c_BadMachine := PySem.W.mg_of X G a_BadMachine
    c_BadName := PySem.W.mg_of X G a_BadName
    c_BadNumber := PySem.W.mg_of X G a_BadNumber
    c_BadPaper := PySem.W.mg_of X G a_BadPaper
    c_BadPiece := PySem.W.mg_of X G a_BadPiece
    c_BadPoint := PySem.W.mg_of X G a_BadPoint
    c_BadText := PySem.W.mg_of X G a_BadText
    c_BadTurn := PySem.W.mg_of X G a_BadTurn
    c_BadWord := PySem.W.mg_of X G a_BadWord
    c_BallError := PySem.W.mg_of X G a_BallError
    c_NoName := PySem.W.mg_of X G a_NoName
    c_NoWay := PySem.W.mg_of X G a_NoWay
    c_Nothing := PySem.W.mg_of X G a_Nothing
    c_Thin := PySem.W.mg_of X G a_Thin
    c_TooMany := PySem.W.mg_of X G a_TooMany
    c_Twice := PySem.W.mg_of X G a_Twice
    e0_Nothing := mk0_Nothing ⟨⟨_, _, _, _, _, _, _, _, _, _, _, _, _, _, _,  xL_Nothing, rfl, al_Nothing⟩, sa_Nothing, iC_Nothing, tI_Nothing, exC_Nothing, veC_Nothing, tyC_Nothing, kC_Nothing, own_Nothing, noSup, noAny, top⟩ ⟨⟨_, _, _, _, _, _, _, _, _, _, _, _, _, _, _, _, _, _, _, _,  lf_Nothing, hcd_Nothing, lc_Nothing, hvs_Nothing, hfile_Nothing, lcc_Nothing⟩⟩ 
    e_BadLetter := mk_BadLetter ⟨⟨_, _, _, _, _, _, _, _, _, _, _, _, _, _, _,  xL_BadLetter, rfl, al_BadLetter⟩, sa_BadLetter, iC_BadLetter, tI_BadLetter, exC_BadLetter, veC_BadLetter, tyC_BadLetter, kC_BadLetter, own_BadLetter, noSup, noAny, top⟩ ⟨⟨_, _, _, _, _, _, _, _, _, _, _, _, _, _, _, _, _, _, _, _,  lf_BadLetter, hcd_BadLetter, lc_BadLetter, hvs_BadLetter, hfile_BadLetter, lcc_BadLetter⟩⟩ no_BadLetter_value
    e_BadLine := mk_BadLine ⟨⟨_, _, _, _, _, _, _, _, _, _, _, _, _, _, _,  xL_BadLine, rfl, al_BadLine⟩, sa_BadLine, iC_BadLine, tI_BadLine, exC_BadLine, veC_BadLine, tyC_BadLine, kC_BadLine, own_BadLine, noSup, noAny, top⟩ ⟨⟨_, _, _, _, _, _, _, _, _, _, _, _, _, _, _, _, _, _, _, _,  lf_BadLine, hcd_BadLine, lc_BadLine, hvs_BadLine, hfile_BadLine, lcc_BadLine⟩⟩ no_BadLine_item
    e_BadLot := mk_BadLot ⟨⟨_, _, _, _, _, _, _, _, _, _, _, _, _, _, _,  xL_BadLot, rfl, al_BadLot⟩, sa_BadLot, iC_BadLot, tI_BadLot, exC_BadLot, veC_BadLot, tyC_BadLot, kC_BadLot, own_BadLot, noSup, noAny, top⟩ ⟨⟨_, _, _, _, _, _, _, _, _, _, _, _, _, _, _, _, _, _, _, _,  lf_BadLot, hcd_BadLot, lc_BadLot, hvs_BadLot, hfile_BadLot, lcc_BadLot⟩⟩ no_BadLot_part
    e_BadMachine := mk_BadMachine ⟨⟨_, _, _, _, _, _, _, _, _, _, _, _, _, _, _,  xL_BadMachine, rfl, al_BadMachine⟩, sa_BadMachine, iC_BadMachine, tI_BadMachine, exC_BadMachine, veC_BadMachine, tyC_BadMachine, kC_BadMachine, own_BadMachine, noSup, noAny, top⟩ ⟨⟨_, _, _, _, _, _, _, _, _, _, _, _, _, _, _, _, _, _, _, _,  lf_BadMachine, hcd_BadMachine, lc_BadMachine, hvs_BadMachine, hfile_BadMachine, lcc_BadMachine⟩⟩ no_BadMachine_part
    e_BadName := mk_BadName ⟨⟨_, _, _, _, _, _, _, _, _, _, _, _, _, _, _,  xL_BadName, rfl, al_BadName⟩, sa_BadName, iC_BadName, tI_BadName, exC_BadName, veC_BadName, tyC_BadName, kC_BadName, own_BadName, noSup, noAny, top⟩ ⟨⟨_, _, _, _, _, _, _, _, _, _, _, _, _, _, _, _, _, _, _, _,  lf_BadName, hcd_BadName, lc_BadName, hvs_BadName, hfile_BadName, lcc_BadName⟩⟩ no_BadName_value
    e_BadNumber := mk_BadNumber ⟨⟨_, _, _, _, _, _, _, _, _, _, _, _, _, _, _,  xL_BadNumber, rfl, al_BadNumber⟩, sa_BadNumber, iC_BadNumber, tI_BadNumber, exC_BadNumber, veC_BadNumber, tyC_BadNumber, kC_BadNumber, own_BadNumber, noSup, noAny, top⟩ ⟨⟨_, _, _, _, _, _, _, _, _, _, _, _, _, _, _, _, _, _, _, _,  lf_BadNumber, hcd_BadNumber, lc_BadNumber, hvs_BadNumber, hfile_BadNumber, lcc_BadNumber⟩⟩ no_BadNumber_part
    e_BadPaper := mk_BadPaper ⟨⟨_, _, _, _, _, _, _, _, _, _, _, _, _, _, _,  xL_BadPaper, rfl, al_BadPaper⟩, sa_BadPaper, iC_BadPaper, tI_BadPaper, exC_BadPaper, veC_BadPaper, tyC_BadPaper, kC_BadPaper, own_BadPaper, noSup, noAny, top⟩ ⟨⟨_, _, _, _, _, _, _, _, _, _, _, _, _, _, _, _, _, _, _, _,  lf_BadPaper, hcd_BadPaper, lc_BadPaper, hvs_BadPaper, hfile_BadPaper, lcc_BadPaper⟩⟩ no_BadPaper_part
    e_BadPiece := mk_BadPiece ⟨⟨_, _, _, _, _, _, _, _, _, _, _, _, _, _, _,  xL_BadPiece, rfl, al_BadPiece⟩, sa_BadPiece, iC_BadPiece, tI_BadPiece, exC_BadPiece, veC_BadPiece, tyC_BadPiece, kC_BadPiece, own_BadPiece, noSup, noAny, top⟩ ⟨⟨_, _, _, _, _, _, _, _, _, _, _, _, _, _, _, _, _, _, _, _,  lf_BadPiece, hcd_BadPiece, lc_BadPiece, hvs_BadPiece, hfile_BadPiece, lcc_BadPiece⟩⟩ no_BadPiece_part
    e_BadPoint := mk_BadPoint ⟨⟨_, _, _, _, _, _, _, _, _, _, _, _, _, _, _,  xL_BadPoint, rfl, al_BadPoint⟩, sa_BadPoint, iC_BadPoint, tI_BadPoint, exC_BadPoint, veC_BadPoint, tyC_BadPoint, kC_BadPoint, own_BadPoint, noSup, noAny, top⟩ ⟨⟨_, _, _, _, _, _, _, _, _, _, _, _, _, _, _, _, _, _, _, _,  lf_BadPoint, hcd_BadPoint, lc_BadPoint, hvs_BadPoint, hfile_BadPoint, lcc_BadPoint⟩⟩ no_BadPoint_part
    e_BadText := mk_BadText ⟨⟨_, _, _, _, _, _, _, _, _, _, _, _, _, _, _,  xL_BadText, rfl, al_BadText⟩, sa_BadText, iC_BadText, tI_BadText, exC_BadText, veC_BadText, tyC_BadText, kC_BadText, own_BadText, noSup, noAny, top⟩ ⟨⟨_, _, _, _, _, _, _, _, _, _, _, _, _, _, _, _, _, _, _, _,  lf_BadText, hcd_BadText, lc_BadText, hvs_BadText, hfile_BadText, lcc_BadText⟩⟩ no_BadText_item
    e_BadTurn := mk_BadTurn ⟨⟨_, _, _, _, _, _, _, _, _, _, _, _, _, _, _,  xL_BadTurn, rfl, al_BadTurn⟩, sa_BadTurn, iC_BadTurn, tI_BadTurn, exC_BadTurn, veC_BadTurn, tyC_BadTurn, kC_BadTurn, own_BadTurn, noSup, noAny, top⟩ ⟨⟨_, _, _, _, _, _, _, _, _, _, _, _, _, _, _, _, _, _, _, _,  lf_BadTurn, hcd_BadTurn, lc_BadTurn, hvs_BadTurn, hfile_BadTurn, lcc_BadTurn⟩⟩ no_BadTurn_part
    e_BadWord := mk_BadWord ⟨⟨_, _, _, _, _, _, _, _, _, _, _, _, _, _, _,  xL_BadWord, rfl, al_BadWord⟩, sa_BadWord, iC_BadWord, tI_BadWord, exC_BadWord, veC_BadWord, tyC_BadWord, kC_BadWord, own_BadWord, noSup, noAny, top⟩ ⟨⟨_, _, _, _, _, _, _, _, _, _, _, _, _, _, _, _, _, _, _, _,  lf_BadWord, hcd_BadWord, lc_BadWord, hvs_BadWord, hfile_BadWord, lcc_BadWord⟩⟩ no_BadWord_at
    e_NoName := mk_NoName ⟨⟨_, _, _, _, _, _, _, _, _, _, _, _, _, _, _,  xL_NoName, rfl, al_NoName⟩, sa_NoName, iC_NoName, tI_NoName, exC_NoName, veC_NoName, tyC_NoName, kC_NoName, own_NoName, noSup, noAny, top⟩ ⟨⟨_, _, _, _, _, _, _, _, _, _, _, _, _, _, _, _, _, _, _, _,  lf_NoName, hcd_NoName, lc_NoName, hvs_NoName, hfile_NoName, lcc_NoName⟩⟩ no_NoName_name
    e_NoWay := mk_NoWay ⟨⟨_, _, _, _, _, _, _, _, _, _, _, _, _, _, _,  xL_NoWay, rfl, al_NoWay⟩, sa_NoWay, iC_NoWay, tI_NoWay, exC_NoWay, veC_NoWay, tyC_NoWay, kC_NoWay, own_NoWay, noSup, noAny, top⟩ ⟨⟨_, _, _, _, _, _, _, _, _, _, _, _, _, _, _, _, _, _, _, _,  lf_NoWay, hcd_NoWay, lc_NoWay, hvs_NoWay, hfile_NoWay, lcc_NoWay⟩⟩ no_NoWay_paper
    e_Thin := mk_Thin ⟨⟨_, _, _, _, _, _, _, _, _, _, _, _, _, _, _,  xL_Thin, rfl, al_Thin⟩, sa_Thin, iC_Thin, tI_Thin, exC_Thin, veC_Thin, tyC_Thin, kC_Thin, own_Thin, noSup, noAny, top⟩ ⟨⟨_, _, _, _, _, _, _, _, _, _, _, _, _, _, _, _, _, _, _, _,  lf_Thin, hcd_Thin, lc_Thin, hvs_Thin, hfile_Thin, lcc_Thin⟩⟩ no_Thin_word
    e_TooMany := mk_TooMany ⟨⟨_, _, _, _, _, _, _, _, _, _, _, _, _, _, _,  xL_TooMany, rfl, al_TooMany⟩, sa_TooMany, iC_TooMany, tI_TooMany, exC_TooMany, veC_TooMany, tyC_TooMany, kC_TooMany, own_TooMany, noSup, noAny, top⟩ ⟨⟨_, _, _, _, _, _, _, _, _, _, _, _, _, _, _, _, _, _, _, _,  lf_TooMany, hcd_TooMany, lc_TooMany, hvs_TooMany, hfile_TooMany, lcc_TooMany⟩⟩ no_TooMany_what no_TooMany_most
    e_Twice := mk_Twice ⟨⟨_, _, _, _, _, _, _, _, _, _, _, _, _, _, _,  xL_Twice, rfl, al_Twice⟩, sa_Twice, iC_Twice, tI_Twice, exC_Twice, veC_Twice, tyC_Twice, kC_Twice, own_Twice, noSup, noAny, top⟩ ⟨⟨_, _, _, _, _, _, _, _, _, _, _, _, _, _, _, _, _, _, _, _,  lf_Twice, hcd_Twice, lc_Twice, hvs_Twice, hfile_Twice, lcc_Twice⟩⟩ no_Twice_name
    ek_BadLetter_value := mkK_BadLetter_value ⟨⟨_, _, _, _, _, _, _, _, _, _, _, _, _, _, _,  xL_BadLetter, rfl, al_BadLetter⟩, sa_BadLetter, iC_BadLetter, tI_BadLetter, exC_BadLetter, veC_BadLetter, tyC_BadLetter, kC_BadLetter, own_BadLetter, noSup, noAny, top⟩ ⟨⟨_, _, _, _, _, _, _, _, _, _, _, _, _, _, _, _, _, _, _, _,  lf_BadLetter, hcd_BadLetter, lc_BadLetter, hvs_BadLetter, hfile_BadLetter, lcc_BadLetter⟩⟩ no_BadLetter_value
    ek_BadLine_item := mkK_BadLine_item ⟨⟨_, _, _, _, _, _, _, _, _, _, _, _, _, _, _,  xL_BadLine, rfl, al_BadLine⟩, sa_BadLine, iC_BadLine, tI_BadLine, exC_BadLine, veC_BadLine, tyC_BadLine, kC_BadLine, own_BadLine, noSup, noAny, top⟩ ⟨⟨_, _, _, _, _, _, _, _, _, _, _, _, _, _, _, _, _, _, _, _,  lf_BadLine, hcd_BadLine, lc_BadLine, hvs_BadLine, hfile_BadLine, lcc_BadLine⟩⟩ no_BadLine_item
    ek_BadLot_part := mkK_BadLot_part ⟨⟨_, _, _, _, _, _, _, _, _, _, _, _, _, _, _,  xL_BadLot, rfl, al_BadLot⟩, sa_BadLot, iC_BadLot, tI_BadLot, exC_BadLot, veC_BadLot, tyC_BadLot, kC_BadLot, own_BadLot, noSup, noAny, top⟩ ⟨⟨_, _, _, _, _, _, _, _, _, _, _, _, _, _, _, _, _, _, _, _,  lf_BadLot, hcd_BadLot, lc_BadLot, hvs_BadLot, hfile_BadLot, lcc_BadLot⟩⟩ no_BadLot_part
    ek_BadMachine_part := mkK_BadMachine_part ⟨⟨_, _, _, _, _, _, _, _, _, _, _, _, _, _, _,  xL_BadMachine, rfl, al_BadMachine⟩, sa_BadMachine, iC_BadMachine, tI_BadMachine, exC_BadMachine, veC_BadMachine, tyC_BadMachine, kC_BadMachine, own_BadMachine, noSup, noAny, top⟩ ⟨⟨_, _, _, _, _, _, _, _, _, _, _, _, _, _, _, _, _, _, _, _,  lf_BadMachine, hcd_BadMachine, lc_BadMachine, hvs_BadMachine, hfile_BadMachine, lcc_BadMachine⟩⟩ no_BadMachine_part
    ek_BadName_value := mkK_BadName_value ⟨⟨_, _, _, _, _, _, _, _, _, _, _, _, _, _, _,  xL_BadName, rfl, al_BadName⟩, sa_BadName, iC_BadName, tI_BadName, exC_BadName, veC_BadName, tyC_BadName, kC_BadName, own_BadName, noSup, noAny, top⟩ ⟨⟨_, _, _, _, _, _, _, _, _, _, _, _, _, _, _, _, _, _, _, _,  lf_BadName, hcd_BadName, lc_BadName, hvs_BadName, hfile_BadName, lcc_BadName⟩⟩ no_BadName_value
    ek_BadNumber_part := mkK_BadNumber_part ⟨⟨_, _, _, _, _, _, _, _, _, _, _, _, _, _, _,  xL_BadNumber, rfl, al_BadNumber⟩, sa_BadNumber, iC_BadNumber, tI_BadNumber, exC_BadNumber, veC_BadNumber, tyC_BadNumber, kC_BadNumber, own_BadNumber, noSup, noAny, top⟩ ⟨⟨_, _, _, _, _, _, _, _, _, _, _, _, _, _, _, _, _, _, _, _,  lf_BadNumber, hcd_BadNumber, lc_BadNumber, hvs_BadNumber, hfile_BadNumber, lcc_BadNumber⟩⟩ no_BadNumber_part
    ek_BadPaper_part := mkK_BadPaper_part ⟨⟨_, _, _, _, _, _, _, _, _, _, _, _, _, _, _,  xL_BadPaper, rfl, al_BadPaper⟩, sa_BadPaper, iC_BadPaper, tI_BadPaper, exC_BadPaper, veC_BadPaper, tyC_BadPaper, kC_BadPaper, own_BadPaper, noSup, noAny, top⟩ ⟨⟨_, _, _, _, _, _, _, _, _, _, _, _, _, _, _, _, _, _, _, _,  lf_BadPaper, hcd_BadPaper, lc_BadPaper, hvs_BadPaper, hfile_BadPaper, lcc_BadPaper⟩⟩ no_BadPaper_part
    ek_BadPiece_part := mkK_BadPiece_part ⟨⟨_, _, _, _, _, _, _, _, _, _, _, _, _, _, _,  xL_BadPiece, rfl, al_BadPiece⟩, sa_BadPiece, iC_BadPiece, tI_BadPiece, exC_BadPiece, veC_BadPiece, tyC_BadPiece, kC_BadPiece, own_BadPiece, noSup, noAny, top⟩ ⟨⟨_, _, _, _, _, _, _, _, _, _, _, _, _, _, _, _, _, _, _, _,  lf_BadPiece, hcd_BadPiece, lc_BadPiece, hvs_BadPiece, hfile_BadPiece, lcc_BadPiece⟩⟩ no_BadPiece_part
    ek_BadPoint_part := mkK_BadPoint_part ⟨⟨_, _, _, _, _, _, _, _, _, _, _, _, _, _, _,  xL_BadPoint, rfl, al_BadPoint⟩, sa_BadPoint, iC_BadPoint, tI_BadPoint, exC_BadPoint, veC_BadPoint, tyC_BadPoint, kC_BadPoint, own_BadPoint, noSup, noAny, top⟩ ⟨⟨_, _, _, _, _, _, _, _, _, _, _, _, _, _, _, _, _, _, _, _,  lf_BadPoint, hcd_BadPoint, lc_BadPoint, hvs_BadPoint, hfile_BadPoint, lcc_BadPoint⟩⟩ no_BadPoint_part
    ek_BadText_item := mkK_BadText_item ⟨⟨_, _, _, _, _, _, _, _, _, _, _, _, _, _, _,  xL_BadText, rfl, al_BadText⟩, sa_BadText, iC_BadText, tI_BadText, exC_BadText, veC_BadText, tyC_BadText, kC_BadText, own_BadText, noSup, noAny, top⟩ ⟨⟨_, _, _, _, _, _, _, _, _, _, _, _, _, _, _, _, _, _, _, _,  lf_BadText, hcd_BadText, lc_BadText, hvs_BadText, hfile_BadText, lcc_BadText⟩⟩ no_BadText_item
    ek_BadTurn_part := mkK_BadTurn_part ⟨⟨_, _, _, _, _, _, _, _, _, _, _, _, _, _, _,  xL_BadTurn, rfl, al_BadTurn⟩, sa_BadTurn, iC_BadTurn, tI_BadTurn, exC_BadTurn, veC_BadTurn, tyC_BadTurn, kC_BadTurn, own_BadTurn, noSup, noAny, top⟩ ⟨⟨_, _, _, _, _, _, _, _, _, _, _, _, _, _, _, _, _, _, _, _,  lf_BadTurn, hcd_BadTurn, lc_BadTurn, hvs_BadTurn, hfile_BadTurn, lcc_BadTurn⟩⟩ no_BadTurn_part
    ek_BadWord_at := mkK_BadWord_at ⟨⟨_, _, _, _, _, _, _, _, _, _, _, _, _, _, _,  xL_BadWord, rfl, al_BadWord⟩, sa_BadWord, iC_BadWord, tI_BadWord, exC_BadWord, veC_BadWord, tyC_BadWord, kC_BadWord, own_BadWord, noSup, noAny, top⟩ ⟨⟨_, _, _, _, _, _, _, _, _, _, _, _, _, _, _, _, _, _, _, _,  lf_BadWord, hcd_BadWord, lc_BadWord, hvs_BadWord, hfile_BadWord, lcc_BadWord⟩⟩ no_BadWord_at
    ek_NoName_name := mkK_NoName_name ⟨⟨_, _, _, _, _, _, _, _, _, _, _, _, _, _, _,  xL_NoName, rfl, al_NoName⟩, sa_NoName, iC_NoName, tI_NoName, exC_NoName, veC_NoName, tyC_NoName, kC_NoName, own_NoName, noSup, noAny, top⟩ ⟨⟨_, _, _, _, _, _, _, _, _, _, _, _, _, _, _, _, _, _, _, _,  lf_NoName, hcd_NoName, lc_NoName, hvs_NoName, hfile_NoName, lcc_NoName⟩⟩ no_NoName_name
    ek_NoWay_paper := mkK_NoWay_paper ⟨⟨_, _, _, _, _, _, _, _, _, _, _, _, _, _, _,  xL_NoWay, rfl, al_NoWay⟩, sa_NoWay, iC_NoWay, tI_NoWay, exC_NoWay, veC_NoWay, tyC_NoWay, kC_NoWay, own_NoWay, noSup, noAny, top⟩ ⟨⟨_, _, _, _, _, _, _, _, _, _, _, _, _, _, _, _, _, _, _, _,  lf_NoWay, hcd_NoWay, lc_NoWay, hvs_NoWay, hfile_NoWay, lcc_NoWay⟩⟩ no_NoWay_paper
    ek_Thin_word := mkK_Thin_word ⟨⟨_, _, _, _, _, _, _, _, _, _, _, _, _, _, _,  xL_Thin, rfl, al_Thin⟩, sa_Thin, iC_Thin, tI_Thin, exC_Thin, veC_Thin, tyC_Thin, kC_Thin, own_Thin, noSup, noAny, top⟩ ⟨⟨_, _, _, _, _, _, _, _, _, _, _, _, _, _, _, _, _, _, _, _,  lf_Thin, hcd_Thin, lc_Thin, hvs_Thin, hfile_Thin, lcc_Thin⟩⟩ no_Thin_word
    ek_TooMany_most_what := mkK_TooMany_most_what ⟨⟨_, _, _, _, _, _, _, _, _, _, _, _, _, _, _,  xL_TooMany, rfl, al_TooMany⟩, sa_TooMany, iC_TooMany, tI_TooMany, exC_TooMany, veC_TooMany, tyC_TooMany, kC_TooMany, own_TooMany, noSup, noAny, top⟩ ⟨⟨_, _, _, _, _, _, _, _, _, _, _, _, _, _, _, _, _, _, _, _,  lf_TooMany, hcd_TooMany, lc_TooMany, hvs_TooMany, hfile_TooMany, lcc_TooMany⟩⟩ no_TooMany_what no_TooMany_most
    ek_Twice_name := mkK_Twice_name ⟨⟨_, _, _, _, _, _, _, _, _, _, _, _, _, _, _,  xL_Twice, rfl, al_Twice⟩, sa_Twice, iC_Twice, tI_Twice, exC_Twice, veC_Twice, tyC_Twice, kC_Twice, own_Twice, noSup, noAny, top⟩ ⟨⟨_, _, _, _, _, _, _, _, _, _, _, _, _, _, _, _, _, _, _, _,  lf_Twice, hcd_Twice, lc_Twice, hvs_Twice, hfile_Twice, lcc_Twice⟩⟩ no_Twice_name
    ex_BadLetter_BallError := exm_own exC_BallError icl_BallError tyC_BallError su_BadLetter_BallError
    g_LETTERS := ⟨_, PySem.W.mg_of X G g_LETTERS⟩
    k_BadLetter_BadLetter := kit_self
    k_BadLetter_BadLine := kit_refF icl_BadLine tyC_BadLine own_BadLine su_BadLetter_BadLine
    k_BadLetter_BadLot := kit_refF icl_BadLot tyC_BadLot own_BadLot su_BadLetter_BadLot
    k_BadLetter_BadMachine := kit_refF icl_BadMachine tyC_BadMachine own_BadMachine su_BadLetter_BadMachine
    k_BadLetter_BadName := kit_refF icl_BadName tyC_BadName own_BadName su_BadLetter_BadName
    k_BadLetter_BadNumber := kit_refF icl_BadNumber tyC_BadNumber own_BadNumber su_BadLetter_BadNumber
    k_BadLetter_BadPaper := kit_refF icl_BadPaper tyC_BadPaper own_BadPaper su_BadLetter_BadPaper
    k_BadLetter_BadPiece := kit_refF icl_BadPiece tyC_BadPiece own_BadPiece su_BadLetter_BadPiece
    k_BadLetter_BadPoint := kit_refF icl_BadPoint tyC_BadPoint own_BadPoint su_BadLetter_BadPoint
    k_BadLetter_BadText := kit_refF icl_BadText tyC_BadText own_BadText su_BadLetter_BadText
    k_BadLetter_BadTurn := kit_refF icl_BadTurn tyC_BadTurn own_BadTurn su_BadLetter_BadTurn
    k_BadLetter_BadWord := kit_refF icl_BadWord tyC_BadWord own_BadWord su_BadLetter_BadWord
    k_BadLetter_BallError := kit_refT icl_BallError tyC_BallError su_BadLetter_BallError
    k_BadLetter_LookupError := kit_bt su_BadLetter_LookupError
    k_BadLetter_NoName := kit_refF icl_NoName tyC_NoName own_NoName su_BadLetter_NoName
    k_BadLetter_NoWay := kit_refF icl_NoWay tyC_NoWay own_NoWay su_BadLetter_NoWay
    k_BadLetter_Nothing := kit_refF icl_Nothing tyC_Nothing own_Nothing su_BadLetter_Nothing
    k_BadLetter_Thin := kit_refF icl_Thin tyC_Thin own_Thin su_BadLetter_Thin
    k_BadLetter_TooMany := kit_refF icl_TooMany tyC_TooMany own_TooMany su_BadLetter_TooMany
    k_BadLetter_Twice := kit_refF icl_Twice tyC_Twice own_Twice su_BadLetter_Twice
    k_BadLetter_ValueError := kit_bt su_BadLetter_ValueError
    k_BadLine_BadLetter := kit_refF icl_BadLetter tyC_BadLetter own_BadLetter su_BadLine_BadLetter
    k_BadLine_BadLine := kit_self
    k_BadLine_BadLot := kit_refF icl_BadLot tyC_BadLot own_BadLot su_BadLine_BadLot
    k_BadLine_BadMachine := kit_refF icl_BadMachine tyC_BadMachine own_BadMachine su_BadLine_BadMachine
    k_BadLine_BadName := kit_refF icl_BadName tyC_BadName own_BadName su_BadLine_BadName
    k_BadLine_BadNumber := kit_refF icl_BadNumber tyC_BadNumber own_BadNumber su_BadLine_BadNumber
    k_BadLine_BadPaper := kit_refF icl_BadPaper tyC_BadPaper own_BadPaper su_BadLine_BadPaper
    k_BadLine_BadPiece := kit_refF icl_BadPiece tyC_BadPiece own_BadPiece su_BadLine_BadPiece
    k_BadLine_BadPoint := kit_refF icl_BadPoint tyC_BadPoint own_BadPoint su_BadLine_BadPoint
    k_BadLine_BadText := kit_refF icl_BadText tyC_BadText own_BadText su_BadLine_BadText
    k_BadLine_BadTurn := kit_refF icl_BadTurn tyC_BadTurn own_BadTurn su_BadLine_BadTurn
    k_BadLine_BadWord := kit_refF icl_BadWord tyC_BadWord own_BadWord su_BadLine_BadWord
    k_BadLine_BallError := kit_refT icl_BallError tyC_BallError su_BadLine_BallError
    k_BadLine_LookupError := kit_bt su_BadLine_LookupError
    k_BadLine_NoName := kit_refF icl_NoName tyC_NoName own_NoName su_BadLine_NoName
    k_BadLine_NoWay := kit_refF icl_NoWay tyC_NoWay own_NoWay su_BadLine_NoWay
    k_BadLine_Nothing := kit_refF icl_Nothing tyC_Nothing own_Nothing su_BadLine_Nothing
    k_BadLine_Thin := kit_refF icl_Thin tyC_Thin own_Thin su_BadLine_Thin
    k_BadLine_TooMany := kit_refF icl_TooMany tyC_TooMany own_TooMany su_BadLine_TooMany
    k_BadLine_Twice := kit_refF icl_Twice tyC_Twice own_Twice su_BadLine_Twice
    k_BadLine_ValueError := kit_bt su_BadLine_ValueError
    k_BadLot_BadLetter := kit_refF icl_BadLetter tyC_BadLetter own_BadLetter su_BadLot_BadLetter
    k_BadLot_BadLine := kit_refF icl_BadLine tyC_BadLine own_BadLine su_BadLot_BadLine
    k_BadLot_BadLot := kit_self
    k_BadLot_BadMachine := kit_refF icl_BadMachine tyC_BadMachine own_BadMachine su_BadLot_BadMachine
    k_BadLot_BadName := kit_refF icl_BadName tyC_BadName own_BadName su_BadLot_BadName
    k_BadLot_BadNumber := kit_refF icl_BadNumber tyC_BadNumber own_BadNumber su_BadLot_BadNumber
    k_BadLot_BadPaper := kit_refF icl_BadPaper tyC_BadPaper own_BadPaper su_BadLot_BadPaper
    k_BadLot_BadPiece := kit_refF icl_BadPiece tyC_BadPiece own_BadPiece su_BadLot_BadPiece
    k_BadLot_BadPoint := kit_refF icl_BadPoint tyC_BadPoint own_BadPoint su_BadLot_BadPoint
    k_BadLot_BadText := kit_refF icl_BadText tyC_BadText own_BadText su_BadLot_BadText
    k_BadLot_BadTurn := kit_refF icl_BadTurn tyC_BadTurn own_BadTurn su_BadLot_BadTurn
    k_BadLot_BadWord := kit_refF icl_BadWord tyC_BadWord own_BadWord su_BadLot_BadWord
    k_BadLot_BallError := kit_refT icl_BallError tyC_BallError su_BadLot_BallError
    k_BadLot_LookupError := kit_bt su_BadLot_LookupError
    k_BadLot_NoName := kit_refF icl_NoName tyC_NoName own_NoName su_BadLot_NoName
    k_BadLot_NoWay := kit_refF icl_NoWay tyC_NoWay own_NoWay su_BadLot_NoWay
    k_BadLot_Nothing := kit_refF icl_Nothing tyC_Nothing own_Nothing su_BadLot_Nothing
    k_BadLot_Thin := kit_refF icl_Thin tyC_Thin own_Thin su_BadLot_Thin
    k_BadLot_TooMany := kit_refF icl_TooMany tyC_TooMany own_TooMany su_BadLot_TooMany
    k_BadLot_Twice := kit_refF icl_Twice tyC_Twice own_Twice su_BadLot_Twice
    k_BadLot_ValueError := kit_bt su_BadLot_ValueError
    k_BadMachine_BadLetter := kit_refF icl_BadLetter tyC_BadLetter own_BadLetter su_BadMachine_BadLetter
    k_BadMachine_BadLine := kit_refF icl_BadLine tyC_BadLine own_BadLine su_BadMachine_BadLine
    k_BadMachine_BadLot := kit_refF icl_BadLot tyC_BadLot own_BadLot su_BadMachine_BadLot
    k_BadMachine_BadMachine := kit_self
    k_BadMachine_BadName := kit_refF icl_BadName tyC_BadName own_BadName su_BadMachine_BadName
    k_BadMachine_BadNumber := kit_refF icl_BadNumber tyC_BadNumber own_BadNumber su_BadMachine_BadNumber
    k_BadMachine_BadPaper := kit_refF icl_BadPaper tyC_BadPaper own_BadPaper su_BadMachine_BadPaper
    k_BadMachine_BadPiece := kit_refF icl_BadPiece tyC_BadPiece own_BadPiece su_BadMachine_BadPiece
    k_BadMachine_BadPoint := kit_refF icl_BadPoint tyC_BadPoint own_BadPoint su_BadMachine_BadPoint
    k_BadMachine_BadText := kit_refF icl_BadText tyC_BadText own_BadText su_BadMachine_BadText
    k_BadMachine_BadTurn := kit_refF icl_BadTurn tyC_BadTurn own_BadTurn su_BadMachine_BadTurn
    k_BadMachine_BadWord := kit_refF icl_BadWord tyC_BadWord own_BadWord su_BadMachine_BadWord
    k_BadMachine_BallError := kit_refT icl_BallError tyC_BallError su_BadMachine_BallError
    k_BadMachine_LookupError := kit_bt su_BadMachine_LookupError
    k_BadMachine_NoName := kit_refF icl_NoName tyC_NoName own_NoName su_BadMachine_NoName
    k_BadMachine_NoWay := kit_refF icl_NoWay tyC_NoWay own_NoWay su_BadMachine_NoWay
    k_BadMachine_Nothing := kit_refF icl_Nothing tyC_Nothing own_Nothing su_BadMachine_Nothing
    k_BadMachine_Thin := kit_refF icl_Thin tyC_Thin own_Thin su_BadMachine_Thin
    k_BadMachine_TooMany := kit_refF icl_TooMany tyC_TooMany own_TooMany su_BadMachine_TooMany
    k_BadMachine_Twice := kit_refF icl_Twice tyC_Twice own_Twice su_BadMachine_Twice
    k_BadMachine_ValueError := kit_bt su_BadMachine_ValueError
    k_BadName_BadLetter := kit_refF icl_BadLetter tyC_BadLetter own_BadLetter su_BadName_BadLetter
    k_BadName_BadLine := kit_refF icl_BadLine tyC_BadLine own_BadLine su_BadName_BadLine
    k_BadName_BadLot := kit_refF icl_BadLot tyC_BadLot own_BadLot su_BadName_BadLot
    k_BadName_BadMachine := kit_refF icl_BadMachine tyC_BadMachine own_BadMachine su_BadName_BadMachine
    k_BadName_BadName := kit_self
    k_BadName_BadNumber := kit_refF icl_BadNumber tyC_BadNumber own_BadNumber su_BadName_BadNumber
    k_BadName_BadPaper := kit_refF icl_BadPaper tyC_BadPaper own_BadPaper su_BadName_BadPaper
    k_BadName_BadPiece := kit_refF icl_BadPiece tyC_BadPiece own_BadPiece su_BadName_BadPiece
    k_BadName_BadPoint := kit_refF icl_BadPoint tyC_BadPoint own_BadPoint su_BadName_BadPoint
    k_BadName_BadText := kit_refF icl_BadText tyC_BadText own_BadText su_BadName_BadText
    k_BadName_BadTurn := kit_refF icl_BadTurn tyC_BadTurn own_BadTurn su_BadName_BadTurn
    k_BadName_BadWord := kit_refF icl_BadWord tyC_BadWord own_BadWord su_BadName_BadWord
    k_BadName_BallError := kit_refT icl_BallError tyC_BallError su_BadName_BallError
    k_BadName_LookupError := kit_bt su_BadName_LookupError
    k_BadName_NoName := kit_refF icl_NoName tyC_NoName own_NoName su_BadName_NoName
    k_BadName_NoWay := kit_refF icl_NoWay tyC_NoWay own_NoWay su_BadName_NoWay
    k_BadName_Nothing := kit_refF icl_Nothing tyC_Nothing own_Nothing su_BadName_Nothing
    k_BadName_Thin := kit_refF icl_Thin tyC_Thin own_Thin su_BadName_Thin
    k_BadName_TooMany := kit_refF icl_TooMany tyC_TooMany own_TooMany su_BadName_TooMany
    k_BadName_Twice := kit_refF icl_Twice tyC_Twice own_Twice su_BadName_Twice
    k_BadName_ValueError := kit_bt su_BadName_ValueError
    k_BadNumber_BadLetter := kit_refF icl_BadLetter tyC_BadLetter own_BadLetter su_BadNumber_BadLetter
    k_BadNumber_BadLine := kit_refF icl_BadLine tyC_BadLine own_BadLine su_BadNumber_BadLine
    k_BadNumber_BadLot := kit_refF icl_BadLot tyC_BadLot own_BadLot su_BadNumber_BadLot
    k_BadNumber_BadMachine := kit_refF icl_BadMachine tyC_BadMachine own_BadMachine su_BadNumber_BadMachine
    k_BadNumber_BadName := kit_refF icl_BadName tyC_BadName own_BadName su_BadNumber_BadName
    k_BadNumber_BadNumber := kit_self
    k_BadNumber_BadPaper := kit_refF icl_BadPaper tyC_BadPaper own_BadPaper su_BadNumber_BadPaper
    k_BadNumber_BadPiece := kit_refF icl_BadPiece tyC_BadPiece own_BadPiece su_BadNumber_BadPiece
    k_BadNumber_BadPoint := kit_refF icl_BadPoint tyC_BadPoint own_BadPoint su_BadNumber_BadPoint
    k_BadNumber_BadText := kit_refF icl_BadText tyC_BadText own_BadText su_BadNumber_BadText
    k_BadNumber_BadTurn := kit_refF icl_BadTurn tyC_BadTurn own_BadTurn su_BadNumber_BadTurn
    k_BadNumber_BadWord := kit_refF icl_BadWord tyC_BadWord own_BadWord su_BadNumber_BadWord
    k_BadNumber_BallError := kit_refT icl_BallError tyC_BallError su_BadNumber_BallError
    k_BadNumber_LookupError := kit_bt su_BadNumber_LookupError
    k_BadNumber_NoName := kit_refF icl_NoName tyC_NoName own_NoName su_BadNumber_NoName
    k_BadNumber_NoWay := kit_refF icl_NoWay tyC_NoWay own_NoWay su_BadNumber_NoWay
    k_BadNumber_Nothing := kit_refF icl_Nothing tyC_Nothing own_Nothing su_BadNumber_Nothing
    k_BadNumber_Thin := kit_refF icl_Thin tyC_Thin own_Thin su_BadNumber_Thin
    k_BadNumber_TooMany := kit_refF icl_TooMany tyC_TooMany own_TooMany su_BadNumber_TooMany
    k_BadNumber_Twice := kit_refF icl_Twice tyC_Twice own_Twice su_BadNumber_Twice
    k_BadNumber_ValueError := kit_bt su_BadNumber_ValueError
    k_BadPaper_BadLetter := kit_refF icl_BadLetter tyC_BadLetter own_BadLetter su_BadPaper_BadLetter
    k_BadPaper_BadLine := kit_refF icl_BadLine tyC_BadLine own_BadLine su_BadPaper_BadLine
    k_BadPaper_BadLot := kit_refF icl_BadLot tyC_BadLot own_BadLot su_BadPaper_BadLot
    k_BadPaper_BadMachine := kit_refF icl_BadMachine tyC_BadMachine own_BadMachine su_BadPaper_BadMachine
    k_BadPaper_BadName := kit_refF icl_BadName tyC_BadName own_BadName su_BadPaper_BadName
    k_BadPaper_BadNumber := kit_refF icl_BadNumber tyC_BadNumber own_BadNumber su_BadPaper_BadNumber
    k_BadPaper_BadPaper := kit_self
    k_BadPaper_BadPiece := kit_refF icl_BadPiece tyC_BadPiece own_BadPiece su_BadPaper_BadPiece
    k_BadPaper_BadPoint := kit_refF icl_BadPoint tyC_BadPoint own_BadPoint su_BadPaper_BadPoint
    k_BadPaper_BadText := kit_refF icl_BadText tyC_BadText own_BadText su_BadPaper_BadText
    k_BadPaper_BadTurn := kit_refF icl_BadTurn tyC_BadTurn own_BadTurn su_BadPaper_BadTurn
    k_BadPaper_BadWord := kit_refF icl_BadWord tyC_BadWord own_BadWord su_BadPaper_BadWord
    k_BadPaper_BallError := kit_refT icl_BallError tyC_BallError su_BadPaper_BallError
    k_BadPaper_LookupError := kit_bt su_BadPaper_LookupError
    k_BadPaper_NoName := kit_refF icl_NoName tyC_NoName own_NoName su_BadPaper_NoName
    k_BadPaper_NoWay := kit_refF icl_NoWay tyC_NoWay own_NoWay su_BadPaper_NoWay
    k_BadPaper_Nothing := kit_refF icl_Nothing tyC_Nothing own_Nothing su_BadPaper_Nothing
    k_BadPaper_Thin := kit_refF icl_Thin tyC_Thin own_Thin su_BadPaper_Thin
    k_BadPaper_TooMany := kit_refF icl_TooMany tyC_TooMany own_TooMany su_BadPaper_TooMany
    k_BadPaper_Twice := kit_refF icl_Twice tyC_Twice own_Twice su_BadPaper_Twice
    k_BadPaper_ValueError := kit_bt su_BadPaper_ValueError
    k_BadPiece_BadLetter := kit_refF icl_BadLetter tyC_BadLetter own_BadLetter su_BadPiece_BadLetter
    k_BadPiece_BadLine := kit_refF icl_BadLine tyC_BadLine own_BadLine su_BadPiece_BadLine
    k_BadPiece_BadLot := kit_refF icl_BadLot tyC_BadLot own_BadLot su_BadPiece_BadLot
    k_BadPiece_BadMachine := kit_refF icl_BadMachine tyC_BadMachine own_BadMachine su_BadPiece_BadMachine
    k_BadPiece_BadName := kit_refF icl_BadName tyC_BadName own_BadName su_BadPiece_BadName
    k_BadPiece_BadNumber := kit_refF icl_BadNumber tyC_BadNumber own_BadNumber su_BadPiece_BadNumber
    k_BadPiece_BadPaper := kit_refF icl_BadPaper tyC_BadPaper own_BadPaper su_BadPiece_BadPaper
    k_BadPiece_BadPiece := kit_self
    k_BadPiece_BadPoint := kit_refF icl_BadPoint tyC_BadPoint own_BadPoint su_BadPiece_BadPoint
    k_BadPiece_BadText := kit_refF icl_BadText tyC_BadText own_BadText su_BadPiece_BadText
    k_BadPiece_BadTurn := kit_refF icl_BadTurn tyC_BadTurn own_BadTurn su_BadPiece_BadTurn
    k_BadPiece_BadWord := kit_refF icl_BadWord tyC_BadWord own_BadWord su_BadPiece_BadWord
    k_BadPiece_BallError := kit_refT icl_BallError tyC_BallError su_BadPiece_BallError
    k_BadPiece_LookupError := kit_bt su_BadPiece_LookupError
    k_BadPiece_NoName := kit_refF icl_NoName tyC_NoName own_NoName su_BadPiece_NoName
    k_BadPiece_NoWay := kit_refF icl_NoWay tyC_NoWay own_NoWay su_BadPiece_NoWay
    k_BadPiece_Nothing := kit_refF icl_Nothing tyC_Nothing own_Nothing su_BadPiece_Nothing
    k_BadPiece_Thin := kit_refF icl_Thin tyC_Thin own_Thin su_BadPiece_Thin
    k_BadPiece_TooMany := kit_refF icl_TooMany tyC_TooMany own_TooMany su_BadPiece_TooMany
    k_BadPiece_Twice := kit_refF icl_Twice tyC_Twice own_Twice su_BadPiece_Twice
    k_BadPiece_ValueError := kit_bt su_BadPiece_ValueError
    k_BadPoint_BadLetter := kit_refF icl_BadLetter tyC_BadLetter own_BadLetter su_BadPoint_BadLetter
    k_BadPoint_BadLine := kit_refF icl_BadLine tyC_BadLine own_BadLine su_BadPoint_BadLine
    k_BadPoint_BadLot := kit_refF icl_BadLot tyC_BadLot own_BadLot su_BadPoint_BadLot
    k_BadPoint_BadMachine := kit_refF icl_BadMachine tyC_BadMachine own_BadMachine su_BadPoint_BadMachine
    k_BadPoint_BadName := kit_refF icl_BadName tyC_BadName own_BadName su_BadPoint_BadName
    k_BadPoint_BadNumber := kit_refF icl_BadNumber tyC_BadNumber own_BadNumber su_BadPoint_BadNumber
    k_BadPoint_BadPaper := kit_refF icl_BadPaper tyC_BadPaper own_BadPaper su_BadPoint_BadPaper
    k_BadPoint_BadPiece := kit_refF icl_BadPiece tyC_BadPiece own_BadPiece su_BadPoint_BadPiece
    k_BadPoint_BadPoint := kit_self
    k_BadPoint_BadText := kit_refF icl_BadText tyC_BadText own_BadText su_BadPoint_BadText
    k_BadPoint_BadTurn := kit_refF icl_BadTurn tyC_BadTurn own_BadTurn su_BadPoint_BadTurn
    k_BadPoint_BadWord := kit_refF icl_BadWord tyC_BadWord own_BadWord su_BadPoint_BadWord
    k_BadPoint_BallError := kit_refT icl_BallError tyC_BallError su_BadPoint_BallError
    k_BadPoint_LookupError := kit_bt su_BadPoint_LookupError
    k_BadPoint_NoName := kit_refF icl_NoName tyC_NoName own_NoName su_BadPoint_NoName
    k_BadPoint_NoWay := kit_refF icl_NoWay tyC_NoWay own_NoWay su_BadPoint_NoWay
    k_BadPoint_Nothing := kit_refF icl_Nothing tyC_Nothing own_Nothing su_BadPoint_Nothing
    k_BadPoint_Thin := kit_refF icl_Thin tyC_Thin own_Thin su_BadPoint_Thin
    k_BadPoint_TooMany := kit_refF icl_TooMany tyC_TooMany own_TooMany su_BadPoint_TooMany
    k_BadPoint_Twice := kit_refF icl_Twice tyC_Twice own_Twice su_BadPoint_Twice
    k_BadPoint_ValueError := kit_bt su_BadPoint_ValueError
    k_BadText_BadLetter := kit_refF icl_BadLetter tyC_BadLetter own_BadLetter su_BadText_BadLetter
    k_BadText_BadLine := kit_refF icl_BadLine tyC_BadLine own_BadLine su_BadText_BadLine
    k_BadText_BadLot := kit_refF icl_BadLot tyC_BadLot own_BadLot su_BadText_BadLot
    k_BadText_BadMachine := kit_refF icl_BadMachine tyC_BadMachine own_BadMachine su_BadText_BadMachine
    k_BadText_BadName := kit_refF icl_BadName tyC_BadName own_BadName su_BadText_BadName
    k_BadText_BadNumber := kit_refF icl_BadNumber tyC_BadNumber own_BadNumber su_BadText_BadNumber
    k_BadText_BadPaper := kit_refF icl_BadPaper tyC_BadPaper own_BadPaper su_BadText_BadPaper
    k_BadText_BadPiece := kit_refF icl_BadPiece tyC_BadPiece own_BadPiece su_BadText_BadPiece
    k_BadText_BadPoint := kit_refF icl_BadPoint tyC_BadPoint own_BadPoint su_BadText_BadPoint
    k_BadText_BadText := kit_self
    k_BadText_BadTurn := kit_refF icl_BadTurn tyC_BadTurn own_BadTurn su_BadText_BadTurn
    k_BadText_BadWord := kit_refF icl_BadWord tyC_BadWord own_BadWord su_BadText_BadWord
    k_BadText_BallError := kit_refT icl_BallError tyC_BallError su_BadText_BallError
    k_BadText_LookupError := kit_bt su_BadText_LookupError
    k_BadText_NoName := kit_refF icl_NoName tyC_NoName own_NoName su_BadText_NoName
    k_BadText_NoWay := kit_refF icl_NoWay tyC_NoWay own_NoWay su_BadText_NoWay
    k_BadText_Nothing := kit_refF icl_Nothing tyC_Nothing own_Nothing su_BadText_Nothing
    k_BadText_Thin := kit_refF icl_Thin tyC_Thin own_Thin su_BadText_Thin
    k_BadText_TooMany := kit_refF icl_TooMany tyC_TooMany own_TooMany su_BadText_TooMany
    k_BadText_Twice := kit_refF icl_Twice tyC_Twice own_Twice su_BadText_Twice
    k_BadText_ValueError := kit_bt su_BadText_ValueError
    k_BadTurn_BadLetter := kit_refF icl_BadLetter tyC_BadLetter own_BadLetter su_BadTurn_BadLetter
    k_BadTurn_BadLine := kit_refF icl_BadLine tyC_BadLine own_BadLine su_BadTurn_BadLine
    k_BadTurn_BadLot := kit_refF icl_BadLot tyC_BadLot own_BadLot su_BadTurn_BadLot
    k_BadTurn_BadMachine := kit_refF icl_BadMachine tyC_BadMachine own_BadMachine su_BadTurn_BadMachine
    k_BadTurn_BadName := kit_refF icl_BadName tyC_BadName own_BadName su_BadTurn_BadName
    k_BadTurn_BadNumber := kit_refF icl_BadNumber tyC_BadNumber own_BadNumber su_BadTurn_BadNumber
    k_BadTurn_BadPaper := kit_refF icl_BadPaper tyC_BadPaper own_BadPaper su_BadTurn_BadPaper
    k_BadTurn_BadPiece := kit_refF icl_BadPiece tyC_BadPiece own_BadPiece su_BadTurn_BadPiece
    k_BadTurn_BadPoint := kit_refF icl_BadPoint tyC_BadPoint own_BadPoint su_BadTurn_BadPoint
    k_BadTurn_BadText := kit_refF icl_BadText tyC_BadText own_BadText su_BadTurn_BadText
    k_BadTurn_BadTurn := kit_self
    k_BadTurn_BadWord := kit_refF icl_BadWord tyC_BadWord own_BadWord su_BadTurn_BadWord
    k_BadTurn_BallError := kit_refT icl_BallError tyC_BallError su_BadTurn_BallError
    k_BadTurn_LookupError := kit_bt su_BadTurn_LookupError
    k_BadTurn_NoName := kit_refF icl_NoName tyC_NoName own_NoName su_BadTurn_NoName
    k_BadTurn_NoWay := kit_refF icl_NoWay tyC_NoWay own_NoWay su_BadTurn_NoWay
    k_BadTurn_Nothing := kit_refF icl_Nothing tyC_Nothing own_Nothing su_BadTurn_Nothing
    k_BadTurn_Thin := kit_refF icl_Thin tyC_Thin own_Thin su_BadTurn_Thin
    k_BadTurn_TooMany := kit_refF icl_TooMany tyC_TooMany own_TooMany su_BadTurn_TooMany
    k_BadTurn_Twice := kit_refF icl_Twice tyC_Twice own_Twice su_BadTurn_Twice
    k_BadTurn_ValueError := kit_bt su_BadTurn_ValueError
    k_BadWord_BadLetter := kit_refF icl_BadLetter tyC_BadLetter own_BadLetter su_BadWord_BadLetter
    k_BadWord_BadLine := kit_refF icl_BadLine tyC_BadLine own_BadLine su_BadWord_BadLine
    k_BadWord_BadLot := kit_refF icl_BadLot tyC_BadLot own_BadLot su_BadWord_BadLot
    k_BadWord_BadMachine := kit_refF icl_BadMachine tyC_BadMachine own_BadMachine su_BadWord_BadMachine
    k_BadWord_BadName := kit_refF icl_BadName tyC_BadName own_BadName su_BadWord_BadName
    k_BadWord_BadNumber := kit_refF icl_BadNumber tyC_BadNumber own_BadNumber su_BadWord_BadNumber
    k_BadWord_BadPaper := kit_refF icl_BadPaper tyC_BadPaper own_BadPaper su_BadWord_BadPaper
    k_BadWord_BadPiece := kit_refF icl_BadPiece tyC_BadPiece own_BadPiece su_BadWord_BadPiece
    k_BadWord_BadPoint := kit_refF icl_BadPoint tyC_BadPoint own_BadPoint su_BadWord_BadPoint
    k_BadWord_BadText := kit_refF icl_BadText tyC_BadText own_BadText su_BadWord_BadText
    k_BadWord_BadTurn := kit_refF icl_BadTurn tyC_BadTurn own_BadTurn su_BadWord_BadTurn
    k_BadWord_BadWord := kit_self
    k_BadWord_BallError := kit_refT icl_BallError tyC_BallError su_BadWord_BallError
    k_BadWord_LookupError := kit_bt su_BadWord_LookupError
    k_BadWord_NoName := kit_refF icl_NoName tyC_NoName own_NoName su_BadWord_NoName
    k_BadWord_NoWay := kit_refF icl_NoWay tyC_NoWay own_NoWay su_BadWord_NoWay
    k_BadWord_Nothing := kit_refF icl_Nothing tyC_Nothing own_Nothing su_BadWord_Nothing
    k_BadWord_Thin := kit_refF icl_Thin tyC_Thin own_Thin su_BadWord_Thin
    k_BadWord_TooMany := kit_refF icl_TooMany tyC_TooMany own_TooMany su_BadWord_TooMany
    k_BadWord_Twice := kit_refF icl_Twice tyC_Twice own_Twice su_BadWord_Twice
    k_BadWord_ValueError := kit_bt su_BadWord_ValueError
    k_NoName_BadLetter := kit_refF icl_BadLetter tyC_BadLetter own_BadLetter su_NoName_BadLetter
    k_NoName_BadLine := kit_refF icl_BadLine tyC_BadLine own_BadLine su_NoName_BadLine
    k_NoName_BadLot := kit_refF icl_BadLot tyC_BadLot own_BadLot su_NoName_BadLot
    k_NoName_BadMachine := kit_refF icl_BadMachine tyC_BadMachine own_BadMachine su_NoName_BadMachine
    k_NoName_BadName := kit_refF icl_BadName tyC_BadName own_BadName su_NoName_BadName
    k_NoName_BadNumber := kit_refF icl_BadNumber tyC_BadNumber own_BadNumber su_NoName_BadNumber
    k_NoName_BadPaper := kit_refF icl_BadPaper tyC_BadPaper own_BadPaper su_NoName_BadPaper
    k_NoName_BadPiece := kit_refF icl_BadPiece tyC_BadPiece own_BadPiece su_NoName_BadPiece
    k_NoName_BadPoint := kit_refF icl_BadPoint tyC_BadPoint own_BadPoint su_NoName_BadPoint
    k_NoName_BadText := kit_refF icl_BadText tyC_BadText own_BadText su_NoName_BadText
    k_NoName_BadTurn := kit_refF icl_BadTurn tyC_BadTurn own_BadTurn su_NoName_BadTurn
    k_NoName_BadWord := kit_refF icl_BadWord tyC_BadWord own_BadWord su_NoName_BadWord
    k_NoName_BallError := kit_refT icl_BallError tyC_BallError su_NoName_BallError
    k_NoName_LookupError := kit_bt su_NoName_LookupError
    k_NoName_NoName := kit_self
    k_NoName_NoWay := kit_refF icl_NoWay tyC_NoWay own_NoWay su_NoName_NoWay
    k_NoName_Nothing := kit_refF icl_Nothing tyC_Nothing own_Nothing su_NoName_Nothing
    k_NoName_Thin := kit_refF icl_Thin tyC_Thin own_Thin su_NoName_Thin
    k_NoName_TooMany := kit_refF icl_TooMany tyC_TooMany own_TooMany su_NoName_TooMany
    k_NoName_Twice := kit_refF icl_Twice tyC_Twice own_Twice su_NoName_Twice
    k_NoName_ValueError := kit_bt su_NoName_ValueError
    k_NoWay_BadLetter := kit_refF icl_BadLetter tyC_BadLetter own_BadLetter su_NoWay_BadLetter
    k_NoWay_BadLine := kit_refF icl_BadLine tyC_BadLine own_BadLine su_NoWay_BadLine
    k_NoWay_BadLot := kit_refF icl_BadLot tyC_BadLot own_BadLot su_NoWay_BadLot
    k_NoWay_BadMachine := kit_refF icl_BadMachine tyC_BadMachine own_BadMachine su_NoWay_BadMachine
    k_NoWay_BadName := kit_refF icl_BadName tyC_BadName own_BadName su_NoWay_BadName
    k_NoWay_BadNumber := kit_refF icl_BadNumber tyC_BadNumber own_BadNumber su_NoWay_BadNumber
    k_NoWay_BadPaper := kit_refF icl_BadPaper tyC_BadPaper own_BadPaper su_NoWay_BadPaper
    k_NoWay_BadPiece := kit_refF icl_BadPiece tyC_BadPiece own_BadPiece su_NoWay_BadPiece
    k_NoWay_BadPoint := kit_refF icl_BadPoint tyC_BadPoint own_BadPoint su_NoWay_BadPoint
    k_NoWay_BadText := kit_refF icl_BadText tyC_BadText own_BadText su_NoWay_BadText
    k_NoWay_BadTurn := kit_refF icl_BadTurn tyC_BadTurn own_BadTurn su_NoWay_BadTurn
    k_NoWay_BadWord := kit_refF icl_BadWord tyC_BadWord own_BadWord su_NoWay_BadWord
    k_NoWay_BallError := kit_refT icl_BallError tyC_BallError su_NoWay_BallError
    k_NoWay_LookupError := kit_bt su_NoWay_LookupError
    k_NoWay_NoName := kit_refF icl_NoName tyC_NoName own_NoName su_NoWay_NoName
    k_NoWay_NoWay := kit_self
    k_NoWay_Nothing := kit_refF icl_Nothing tyC_Nothing own_Nothing su_NoWay_Nothing
    k_NoWay_Thin := kit_refF icl_Thin tyC_Thin own_Thin su_NoWay_Thin
    k_NoWay_TooMany := kit_refF icl_TooMany tyC_TooMany own_TooMany su_NoWay_TooMany
    k_NoWay_Twice := kit_refF icl_Twice tyC_Twice own_Twice su_NoWay_Twice
    k_NoWay_ValueError := kit_bt su_NoWay_ValueError
    k_Nothing_BadLetter := kit_refF icl_BadLetter tyC_BadLetter own_BadLetter su_Nothing_BadLetter
    k_Nothing_BadLine := kit_refF icl_BadLine tyC_BadLine own_BadLine su_Nothing_BadLine
    k_Nothing_BadLot := kit_refF icl_BadLot tyC_BadLot own_BadLot su_Nothing_BadLot
    k_Nothing_BadMachine := kit_refF icl_BadMachine tyC_BadMachine own_BadMachine su_Nothing_BadMachine
    k_Nothing_BadName := kit_refF icl_BadName tyC_BadName own_BadName su_Nothing_BadName
    k_Nothing_BadNumber := kit_refF icl_BadNumber tyC_BadNumber own_BadNumber su_Nothing_BadNumber
    k_Nothing_BadPaper := kit_refF icl_BadPaper tyC_BadPaper own_BadPaper su_Nothing_BadPaper
    k_Nothing_BadPiece := kit_refF icl_BadPiece tyC_BadPiece own_BadPiece su_Nothing_BadPiece
    k_Nothing_BadPoint := kit_refF icl_BadPoint tyC_BadPoint own_BadPoint su_Nothing_BadPoint
    k_Nothing_BadText := kit_refF icl_BadText tyC_BadText own_BadText su_Nothing_BadText
    k_Nothing_BadTurn := kit_refF icl_BadTurn tyC_BadTurn own_BadTurn su_Nothing_BadTurn
    k_Nothing_BadWord := kit_refF icl_BadWord tyC_BadWord own_BadWord su_Nothing_BadWord
    k_Nothing_BallError := kit_refT icl_BallError tyC_BallError su_Nothing_BallError
    k_Nothing_LookupError := kit_bt su_Nothing_LookupError
    k_Nothing_NoName := kit_refF icl_NoName tyC_NoName own_NoName su_Nothing_NoName
    k_Nothing_NoWay := kit_refF icl_NoWay tyC_NoWay own_NoWay su_Nothing_NoWay
    k_Nothing_Nothing := kit_self
    k_Nothing_Thin := kit_refF icl_Thin tyC_Thin own_Thin su_Nothing_Thin
    k_Nothing_TooMany := kit_refF icl_TooMany tyC_TooMany own_TooMany su_Nothing_TooMany
    k_Nothing_Twice := kit_refF icl_Twice tyC_Twice own_Twice su_Nothing_Twice
    k_Nothing_ValueError := kit_bt su_Nothing_ValueError
    k_Thin_BadLetter := kit_refF icl_BadLetter tyC_BadLetter own_BadLetter su_Thin_BadLetter
    k_Thin_BadLine := kit_refF icl_BadLine tyC_BadLine own_BadLine su_Thin_BadLine
    k_Thin_BadLot := kit_refF icl_BadLot tyC_BadLot own_BadLot su_Thin_BadLot
    k_Thin_BadMachine := kit_refF icl_BadMachine tyC_BadMachine own_BadMachine su_Thin_BadMachine
    k_Thin_BadName := kit_refF icl_BadName tyC_BadName own_BadName su_Thin_BadName
    k_Thin_BadNumber := kit_refF icl_BadNumber tyC_BadNumber own_BadNumber su_Thin_BadNumber
    k_Thin_BadPaper := kit_refF icl_BadPaper tyC_BadPaper own_BadPaper su_Thin_BadPaper
    k_Thin_BadPiece := kit_refF icl_BadPiece tyC_BadPiece own_BadPiece su_Thin_BadPiece
    k_Thin_BadPoint := kit_refF icl_BadPoint tyC_BadPoint own_BadPoint su_Thin_BadPoint
    k_Thin_BadText := kit_refF icl_BadText tyC_BadText own_BadText su_Thin_BadText
    k_Thin_BadTurn := kit_refF icl_BadTurn tyC_BadTurn own_BadTurn su_Thin_BadTurn
    k_Thin_BadWord := kit_refF icl_BadWord tyC_BadWord own_BadWord su_Thin_BadWord
    k_Thin_BallError := kit_refT icl_BallError tyC_BallError su_Thin_BallError
    k_Thin_LookupError := kit_bt su_Thin_LookupError
    k_Thin_NoName := kit_refF icl_NoName tyC_NoName own_NoName su_Thin_NoName
    k_Thin_NoWay := kit_refF icl_NoWay tyC_NoWay own_NoWay su_Thin_NoWay
    k_Thin_Nothing := kit_refF icl_Nothing tyC_Nothing own_Nothing su_Thin_Nothing
    k_Thin_Thin := kit_self
    k_Thin_TooMany := kit_refF icl_TooMany tyC_TooMany own_TooMany su_Thin_TooMany
    k_Thin_Twice := kit_refF icl_Twice tyC_Twice own_Twice su_Thin_Twice
    k_Thin_ValueError := kit_bt su_Thin_ValueError
    k_TooMany_BadLetter := kit_refF icl_BadLetter tyC_BadLetter own_BadLetter su_TooMany_BadLetter
    k_TooMany_BadLine := kit_refF icl_BadLine tyC_BadLine own_BadLine su_TooMany_BadLine
    k_TooMany_BadLot := kit_refF icl_BadLot tyC_BadLot own_BadLot su_TooMany_BadLot
    k_TooMany_BadMachine := kit_refF icl_BadMachine tyC_BadMachine own_BadMachine su_TooMany_BadMachine
    k_TooMany_BadName := kit_refF icl_BadName tyC_BadName own_BadName su_TooMany_BadName
    k_TooMany_BadNumber := kit_refF icl_BadNumber tyC_BadNumber own_BadNumber su_TooMany_BadNumber
    k_TooMany_BadPaper := kit_refF icl_BadPaper tyC_BadPaper own_BadPaper su_TooMany_BadPaper
    k_TooMany_BadPiece := kit_refF icl_BadPiece tyC_BadPiece own_BadPiece su_TooMany_BadPiece
    k_TooMany_BadPoint := kit_refF icl_BadPoint tyC_BadPoint own_BadPoint su_TooMany_BadPoint
    k_TooMany_BadText := kit_refF icl_BadText tyC_BadText own_BadText su_TooMany_BadText
    k_TooMany_BadTurn := kit_refF icl_BadTurn tyC_BadTurn own_BadTurn su_TooMany_BadTurn
    k_TooMany_BadWord := kit_refF icl_BadWord tyC_BadWord own_BadWord su_TooMany_BadWord
    k_TooMany_BallError := kit_refT icl_BallError tyC_BallError su_TooMany_BallError
    k_TooMany_LookupError := kit_bt su_TooMany_LookupError
    k_TooMany_NoName := kit_refF icl_NoName tyC_NoName own_NoName su_TooMany_NoName
    k_TooMany_NoWay := kit_refF icl_NoWay tyC_NoWay own_NoWay su_TooMany_NoWay
    k_TooMany_Nothing := kit_refF icl_Nothing tyC_Nothing own_Nothing su_TooMany_Nothing
    k_TooMany_Thin := kit_refF icl_Thin tyC_Thin own_Thin su_TooMany_Thin
    k_TooMany_TooMany := kit_self
    k_TooMany_Twice := kit_refF icl_Twice tyC_Twice own_Twice su_TooMany_Twice
    k_TooMany_ValueError := kit_bt su_TooMany_ValueError
    k_Twice_BadLetter := kit_refF icl_BadLetter tyC_BadLetter own_BadLetter su_Twice_BadLetter
    k_Twice_BadLine := kit_refF icl_BadLine tyC_BadLine own_BadLine su_Twice_BadLine
    k_Twice_BadLot := kit_refF icl_BadLot tyC_BadLot own_BadLot su_Twice_BadLot
    k_Twice_BadMachine := kit_refF icl_BadMachine tyC_BadMachine own_BadMachine su_Twice_BadMachine
    k_Twice_BadName := kit_refF icl_BadName tyC_BadName own_BadName su_Twice_BadName
    k_Twice_BadNumber := kit_refF icl_BadNumber tyC_BadNumber own_BadNumber su_Twice_BadNumber
    k_Twice_BadPaper := kit_refF icl_BadPaper tyC_BadPaper own_BadPaper su_Twice_BadPaper
    k_Twice_BadPiece := kit_refF icl_BadPiece tyC_BadPiece own_BadPiece su_Twice_BadPiece
    k_Twice_BadPoint := kit_refF icl_BadPoint tyC_BadPoint own_BadPoint su_Twice_BadPoint
    k_Twice_BadText := kit_refF icl_BadText tyC_BadText own_BadText su_Twice_BadText
    k_Twice_BadTurn := kit_refF icl_BadTurn tyC_BadTurn own_BadTurn su_Twice_BadTurn
    k_Twice_BadWord := kit_refF icl_BadWord tyC_BadWord own_BadWord su_Twice_BadWord
    k_Twice_BallError := kit_refT icl_BallError tyC_BallError su_Twice_BallError
    k_Twice_LookupError := kit_bt su_Twice_LookupError
    k_Twice_NoName := kit_refF icl_NoName tyC_NoName own_NoName su_Twice_NoName
    k_Twice_NoWay := kit_refF icl_NoWay tyC_NoWay own_NoWay su_Twice_NoWay
    k_Twice_Nothing := kit_refF icl_Nothing tyC_Nothing own_Nothing su_Twice_Nothing
    k_Twice_Thin := kit_refF icl_Thin tyC_Thin own_Thin su_Twice_Thin
    k_Twice_TooMany := kit_refF icl_TooMany tyC_TooMany own_TooMany su_Twice_TooMany
    k_Twice_Twice := kit_self
    k_Twice_ValueError := kit_bt su_Twice_ValueError
    xf_BadLetter_value := ⟨⟨ga_BadLetter, gg_BadLetter, exC_BadLetter, hd_BadLetter⟩, no_BadLetter_value⟩
    xf_BadLine_item := ⟨⟨ga_BadLine, gg_BadLine, exC_BadLine, hd_BadLine⟩, no_BadLine_item⟩
    xf_BadLot_part := ⟨⟨ga_BadLot, gg_BadLot, exC_BadLot, hd_BadLot⟩, no_BadLot_part⟩
    xf_BadMachine_part := ⟨⟨ga_BadMachine, gg_BadMachine, exC_BadMachine, hd_BadMachine⟩, no_BadMachine_part⟩
    xf_BadName_value := ⟨⟨ga_BadName, gg_BadName, exC_BadName, hd_BadName⟩, no_BadName_value⟩
    xf_BadNumber_part := ⟨⟨ga_BadNumber, gg_BadNumber, exC_BadNumber, hd_BadNumber⟩, no_BadNumber_part⟩
    xf_BadPaper_part := ⟨⟨ga_BadPaper, gg_BadPaper, exC_BadPaper, hd_BadPaper⟩, no_BadPaper_part⟩
    xf_BadPiece_part := ⟨⟨ga_BadPiece, gg_BadPiece, exC_BadPiece, hd_BadPiece⟩, no_BadPiece_part⟩
    xf_BadPoint_part := ⟨⟨ga_BadPoint, gg_BadPoint, exC_BadPoint, hd_BadPoint⟩, no_BadPoint_part⟩
    xf_BadText_item := ⟨⟨ga_BadText, gg_BadText, exC_BadText, hd_BadText⟩, no_BadText_item⟩
    xf_BadTurn_part := ⟨⟨ga_BadTurn, gg_BadTurn, exC_BadTurn, hd_BadTurn⟩, no_BadTurn_part⟩
    xf_BadWord_at := ⟨⟨ga_BadWord, gg_BadWord, exC_BadWord, hd_BadWord⟩, no_BadWord_at⟩
    xf_NoName_name := ⟨⟨ga_NoName, gg_NoName, exC_NoName, hd_NoName⟩, no_NoName_name⟩
    xf_NoWay_paper := ⟨⟨ga_NoWay, gg_NoWay, exC_NoWay, hd_NoWay⟩, no_NoWay_paper⟩
    xf_Thin_word := ⟨⟨ga_Thin, gg_Thin, exC_Thin, hd_Thin⟩, no_Thin_word⟩
    xf_TooMany_most := ⟨⟨ga_TooMany, gg_TooMany, exC_TooMany, hd_TooMany⟩, no_TooMany_most⟩
    xf_TooMany_what := ⟨⟨ga_TooMany, gg_TooMany, exC_TooMany, hd_TooMany⟩, no_TooMany_what⟩
    xf_Twice_name := ⟨⟨ga_Twice, gg_Twice, exC_Twice, hd_Twice⟩, no_Twice_name⟩
    xi_BadLetter := ⟨⟨ga_BadLetter, gg_BadLetter, exC_BadLetter, hd_BadLetter⟩, clI_BadLetter, ha_BadLetter, hn, htk, hm_BadLetter⟩
    xi_BadLine := ⟨⟨ga_BadLine, gg_BadLine, exC_BadLine, hd_BadLine⟩, clI_BadLine, ha_BadLine, hn, htk, hm_BadLine⟩
    xi_BadLot := ⟨⟨ga_BadLot, gg_BadLot, exC_BadLot, hd_BadLot⟩, clI_BadLot, ha_BadLot, hn, htk, hm_BadLot⟩
    xi_BadMachine := ⟨⟨ga_BadMachine, gg_BadMachine, exC_BadMachine, hd_BadMachine⟩, clI_BadMachine, ha_BadMachine, hn, htk, hm_BadMachine⟩
    xi_BadName := ⟨⟨ga_BadName, gg_BadName, exC_BadName, hd_BadName⟩, clI_BadName, ha_BadName, hn, htk, hm_BadName⟩
    xi_BadNumber := ⟨⟨ga_BadNumber, gg_BadNumber, exC_BadNumber, hd_BadNumber⟩, clI_BadNumber, ha_BadNumber, hn, htk, hm_BadNumber⟩
    xi_BadPaper := ⟨⟨ga_BadPaper, gg_BadPaper, exC_BadPaper, hd_BadPaper⟩, clI_BadPaper, ha_BadPaper, hn, htk, hm_BadPaper⟩
    xi_BadPiece := ⟨⟨ga_BadPiece, gg_BadPiece, exC_BadPiece, hd_BadPiece⟩, clI_BadPiece, ha_BadPiece, hn, htk, hm_BadPiece⟩
    xi_BadPoint := ⟨⟨ga_BadPoint, gg_BadPoint, exC_BadPoint, hd_BadPoint⟩, clI_BadPoint, ha_BadPoint, hn, htk, hm_BadPoint⟩
    xi_BadText := ⟨⟨ga_BadText, gg_BadText, exC_BadText, hd_BadText⟩, clI_BadText, ha_BadText, hn, htk, hm_BadText⟩
    xi_BadTurn := ⟨⟨ga_BadTurn, gg_BadTurn, exC_BadTurn, hd_BadTurn⟩, clI_BadTurn, ha_BadTurn, hn, htk, hm_BadTurn⟩
    xi_BadWord := ⟨⟨ga_BadWord, gg_BadWord, exC_BadWord, hd_BadWord⟩, clI_BadWord, ha_BadWord, hn, htk, hm_BadWord⟩
    xi_NoName := ⟨⟨ga_NoName, gg_NoName, exC_NoName, hd_NoName⟩, clI_NoName, ha_NoName, hn, htk, hm_NoName⟩
    xi_NoWay := ⟨⟨ga_NoWay, gg_NoWay, exC_NoWay, hd_NoWay⟩, clI_NoWay, ha_NoWay, hn, htk, hm_NoWay⟩
    xi_Nothing := ⟨⟨ga_Nothing, gg_Nothing, exC_Nothing, hd_Nothing⟩, clI_Nothing, ha_Nothing, hn, htk, hm_Nothing⟩
    xi_Thin := ⟨⟨ga_Thin, gg_Thin, exC_Thin, hd_Thin⟩, clI_Thin, ha_Thin, hn, htk, hm_Thin⟩
    xi_TooMany := ⟨⟨ga_TooMany, gg_TooMany, exC_TooMany, hd_TooMany⟩, clI_TooMany, ha_TooMany, hn, htk, hm_TooMany⟩
    xi_Twice := ⟨⟨ga_Twice, gg_Twice, exC_Twice, hd_Twice⟩, clI_Twice, ha_Twice, hn, htk, hm_Twice⟩
  }
  have d_is_integer : CalN l.prog w K mg base 1 "is_integer" (sp_is_integer K ({ BadLetter := C_BadLetter, BadLine := C_BadLine, BadLot := C_BadLot, BadMachine := C_BadMachine, BadName := C_BadName, BadNumber := C_BadNumber, BadPaper := C_BadPaper, BadPiece := C_BadPiece, BadPoint := C_BadPoint, BadText := C_BadText, BadTurn := C_BadTurn, BadWord := C_BadWord, BallError := C_BallError, NoName := C_NoName, NoWay := C_NoWay, Nothing := C_Nothing, Thin := C_Thin, TooMany := C_TooMany, Twice := C_Twice, i_BadLetter := i_BadLetter, i_BadLine := i_BadLine, i_BadLot := i_BadLot, i_BadMachine := i_BadMachine, i_BadName := i_BadName, i_BadNumber := i_BadNumber, i_BadPaper := i_BadPaper, i_BadPiece := i_BadPiece, i_BadPoint := i_BadPoint, i_BadText := i_BadText, i_BadTurn := i_BadTurn, i_BadWord := i_BadWord, i_NoName := i_NoName, i_NoWay := i_NoWay, i_Nothing := i_Nothing, i_Thin := i_Thin, i_TooMany := i_TooMany, i_Twice := i_Twice } : Ad)) := ⟨_, _, _, (ok_is_integer F_is_integer T), PySem.W.mg_of X G a_is_integer, F_is_integer.kp, b_is_integer⟩
  have d_is_letter : CalN l.prog w K mg base 1 "is_letter" (sp_is_letter K ({ BadLetter := C_BadLetter, BadLine := C_BadLine, BadLot := C_BadLot, BadMachine := C_BadMachine, BadName := C_BadName, BadNumber := C_BadNumber, BadPaper := C_BadPaper, BadPiece := C_BadPiece, BadPoint := C_BadPoint, BadText := C_BadText, BadTurn := C_BadTurn, BadWord := C_BadWord, BallError := C_BallError, NoName := C_NoName, NoWay := C_NoWay, Nothing := C_Nothing, Thin := C_Thin, TooMany := C_TooMany, Twice := C_Twice, i_BadLetter := i_BadLetter, i_BadLine := i_BadLine, i_BadLot := i_BadLot, i_BadMachine := i_BadMachine, i_BadName := i_BadName, i_BadNumber := i_BadNumber, i_BadPaper := i_BadPaper, i_BadPiece := i_BadPiece, i_BadPoint := i_BadPoint, i_BadText := i_BadText, i_BadTurn := i_BadTurn, i_BadWord := i_BadWord, i_NoName := i_NoName, i_NoWay := i_NoWay, i_Nothing := i_Nothing, i_Thin := i_Thin, i_TooMany := i_TooMany, i_Twice := i_Twice } : Ad)) := ⟨_, _, _, (ok_is_letter F_is_letter T), PySem.W.mg_of X G a_is_letter, F_is_letter.kp, b_is_letter⟩
  have d_law_draw : CalN l.prog w K mg base 1 "_law_draw" (sp_law_draw K ({ BadLetter := C_BadLetter, BadLine := C_BadLine, BadLot := C_BadLot, BadMachine := C_BadMachine, BadName := C_BadName, BadNumber := C_BadNumber, BadPaper := C_BadPaper, BadPiece := C_BadPiece, BadPoint := C_BadPoint, BadText := C_BadText, BadTurn := C_BadTurn, BadWord := C_BadWord, BallError := C_BallError, NoName := C_NoName, NoWay := C_NoWay, Nothing := C_Nothing, Thin := C_Thin, TooMany := C_TooMany, Twice := C_Twice, i_BadLetter := i_BadLetter, i_BadLine := i_BadLine, i_BadLot := i_BadLot, i_BadMachine := i_BadMachine, i_BadName := i_BadName, i_BadNumber := i_BadNumber, i_BadPaper := i_BadPaper, i_BadPiece := i_BadPiece, i_BadPoint := i_BadPoint, i_BadText := i_BadText, i_BadTurn := i_BadTurn, i_BadWord := i_BadWord, i_NoName := i_NoName, i_NoWay := i_NoWay, i_Nothing := i_Nothing, i_Thin := i_Thin, i_TooMany := i_TooMany, i_Twice := i_Twice } : Ad)) := ⟨_, _, _, (ok_law_draw F_law_draw T), PySem.W.mg_of X G a_law_draw, F_law_draw.kp, b_law_draw⟩
  have d_law_pick : CalN l.prog w K mg base 2 "_law_pick" (sp_law_pick K ({ BadLetter := C_BadLetter, BadLine := C_BadLine, BadLot := C_BadLot, BadMachine := C_BadMachine, BadName := C_BadName, BadNumber := C_BadNumber, BadPaper := C_BadPaper, BadPiece := C_BadPiece, BadPoint := C_BadPoint, BadText := C_BadText, BadTurn := C_BadTurn, BadWord := C_BadWord, BallError := C_BallError, NoName := C_NoName, NoWay := C_NoWay, Nothing := C_Nothing, Thin := C_Thin, TooMany := C_TooMany, Twice := C_Twice, i_BadLetter := i_BadLetter, i_BadLine := i_BadLine, i_BadLot := i_BadLot, i_BadMachine := i_BadMachine, i_BadName := i_BadName, i_BadNumber := i_BadNumber, i_BadPaper := i_BadPaper, i_BadPiece := i_BadPiece, i_BadPoint := i_BadPoint, i_BadText := i_BadText, i_BadTurn := i_BadTurn, i_BadWord := i_BadWord, i_NoName := i_NoName, i_NoWay := i_NoWay, i_Nothing := i_Nothing, i_Thin := i_Thin, i_TooMany := i_TooMany, i_Twice := i_Twice } : Ad)) := ⟨_, _, _, (ok_law_pick F_law_pick T d_law_draw), PySem.W.mg_of X G a_law_pick, F_law_pick.kp, b_law_pick⟩
  have d_law_kinds : CalN l.prog w K mg base 1 "_law_kinds" (sp_law_kinds K ({ BadLetter := C_BadLetter, BadLine := C_BadLine, BadLot := C_BadLot, BadMachine := C_BadMachine, BadName := C_BadName, BadNumber := C_BadNumber, BadPaper := C_BadPaper, BadPiece := C_BadPiece, BadPoint := C_BadPoint, BadText := C_BadText, BadTurn := C_BadTurn, BadWord := C_BadWord, BallError := C_BallError, NoName := C_NoName, NoWay := C_NoWay, Nothing := C_Nothing, Thin := C_Thin, TooMany := C_TooMany, Twice := C_Twice, i_BadLetter := i_BadLetter, i_BadLine := i_BadLine, i_BadLot := i_BadLot, i_BadMachine := i_BadMachine, i_BadName := i_BadName, i_BadNumber := i_BadNumber, i_BadPaper := i_BadPaper, i_BadPiece := i_BadPiece, i_BadPoint := i_BadPoint, i_BadText := i_BadText, i_BadTurn := i_BadTurn, i_BadWord := i_BadWord, i_NoName := i_NoName, i_NoWay := i_NoWay, i_Nothing := i_Nothing, i_Thin := i_Thin, i_TooMany := i_TooMany, i_Twice := i_Twice } : Ad)) := ⟨_, _, _, (ok_law_kinds F_law_kinds T), PySem.W.mg_of X G a_law_kinds, F_law_kinds.kp, b_law_kinds⟩
  have d_law_told : CalN l.prog w K mg base 1 "_law_told" (sp_law_told K ({ BadLetter := C_BadLetter, BadLine := C_BadLine, BadLot := C_BadLot, BadMachine := C_BadMachine, BadName := C_BadName, BadNumber := C_BadNumber, BadPaper := C_BadPaper, BadPiece := C_BadPiece, BadPoint := C_BadPoint, BadText := C_BadText, BadTurn := C_BadTurn, BadWord := C_BadWord, BallError := C_BallError, NoName := C_NoName, NoWay := C_NoWay, Nothing := C_Nothing, Thin := C_Thin, TooMany := C_TooMany, Twice := C_Twice, i_BadLetter := i_BadLetter, i_BadLine := i_BadLine, i_BadLot := i_BadLot, i_BadMachine := i_BadMachine, i_BadName := i_BadName, i_BadNumber := i_BadNumber, i_BadPaper := i_BadPaper, i_BadPiece := i_BadPiece, i_BadPoint := i_BadPoint, i_BadText := i_BadText, i_BadTurn := i_BadTurn, i_BadWord := i_BadWord, i_NoName := i_NoName, i_NoWay := i_NoWay, i_Nothing := i_Nothing, i_Thin := i_Thin, i_TooMany := i_TooMany, i_Twice := i_Twice } : Ad)) := ⟨_, _, _, (ok_law_told F_law_told T), PySem.W.mg_of X G a_law_told, F_law_told.kp, b_law_told⟩
  have d_undoing : CalX l.prog w K mg base 2 "undoing" (sp_undoing K ({ BadLetter := C_BadLetter, BadLine := C_BadLine, BadLot := C_BadLot, BadMachine := C_BadMachine, BadName := C_BadName, BadNumber := C_BadNumber, BadPaper := C_BadPaper, BadPiece := C_BadPiece, BadPoint := C_BadPoint, BadText := C_BadText, BadTurn := C_BadTurn, BadWord := C_BadWord, BallError := C_BallError, NoName := C_NoName, NoWay := C_NoWay, Nothing := C_Nothing, Thin := C_Thin, TooMany := C_TooMany, Twice := C_Twice, i_BadLetter := i_BadLetter, i_BadLine := i_BadLine, i_BadLot := i_BadLot, i_BadMachine := i_BadMachine, i_BadName := i_BadName, i_BadNumber := i_BadNumber, i_BadPaper := i_BadPaper, i_BadPiece := i_BadPiece, i_BadPoint := i_BadPoint, i_BadText := i_BadText, i_BadTurn := i_BadTurn, i_BadWord := i_BadWord, i_NoName := i_NoName, i_NoWay := i_NoWay, i_Nothing := i_Nothing, i_Thin := i_Thin, i_TooMany := i_TooMany, i_Twice := i_Twice } : Ad)) := ⟨_, _, _, (ok_undoing F_undoing T d_is_letter), PySem.W.mg_of X G a_undoing, F_undoing.kp, b_undoing⟩
  have dk_undoing_letter : CalK l.prog w K mg base (L2.CX l.prog w) 2 "undoing" ["letter"] (gPm (α := V) .non 0 1 [0]) (sp_undoing K ({ BadLetter := C_BadLetter, BadLine := C_BadLine, BadLot := C_BadLot, BadMachine := C_BadMachine, BadName := C_BadName, BadNumber := C_BadNumber, BadPaper := C_BadPaper, BadPiece := C_BadPiece, BadPoint := C_BadPoint, BadText := C_BadText, BadTurn := C_BadTurn, BadWord := C_BadWord, BallError := C_BallError, NoName := C_NoName, NoWay := C_NoWay, Nothing := C_Nothing, Thin := C_Thin, TooMany := C_TooMany, Twice := C_Twice, i_BadLetter := i_BadLetter, i_BadLine := i_BadLine, i_BadLot := i_BadLot, i_BadMachine := i_BadMachine, i_BadName := i_BadName, i_BadNumber := i_BadNumber, i_BadPaper := i_BadPaper, i_BadPiece := i_BadPiece, i_BadPoint := i_BadPoint, i_BadText := i_BadText, i_BadTurn := i_BadTurn, i_BadWord := i_BadWord, i_NoName := i_NoName, i_NoWay := i_NoWay, i_Nothing := i_Nothing, i_Thin := i_Thin, i_TooMany := i_TooMany, i_Twice := i_Twice } : Ad)) := ⟨_, _, _, gPm .none 0 1 [0], (ok_undoing F_undoing T d_is_letter), PySem.W.mg_of X G a_undoing, F_undoing.kp, ⟨(fun s us ws _ hl => by
      unfold gPm at hl ⊢
      by_cases h : us.length = 0 ∧ ws.length = 1
      · rw [if_pos h]
        match us, ws, h with
        | [], [_], _ => exact .of_eq rfl
      · rw [if_neg h] at hl; cases hl), gPm_rel⟩⟩
  have lh : HeardAt K mg st__law_heard0 := ⟨⟨_, _, F_law_heard, PySem.W.mg_of X G a_law_heard, b_law_heard⟩⟩
  have d_is_within : CalN l.prog w K mg base 2 "is_within" (sp_is_within K ({ BadLetter := C_BadLetter, BadLine := C_BadLine, BadLot := C_BadLot, BadMachine := C_BadMachine, BadName := C_BadName, BadNumber := C_BadNumber, BadPaper := C_BadPaper, BadPiece := C_BadPiece, BadPoint := C_BadPoint, BadText := C_BadText, BadTurn := C_BadTurn, BadWord := C_BadWord, BallError := C_BallError, NoName := C_NoName, NoWay := C_NoWay, Nothing := C_Nothing, Thin := C_Thin, TooMany := C_TooMany, Twice := C_Twice, i_BadLetter := i_BadLetter, i_BadLine := i_BadLine, i_BadLot := i_BadLot, i_BadMachine := i_BadMachine, i_BadName := i_BadName, i_BadNumber := i_BadNumber, i_BadPaper := i_BadPaper, i_BadPiece := i_BadPiece, i_BadPoint := i_BadPoint, i_BadText := i_BadText, i_BadTurn := i_BadTurn, i_BadWord := i_BadWord, i_NoName := i_NoName, i_NoWay := i_NoWay, i_Nothing := i_Nothing, i_Thin := i_Thin, i_TooMany := i_TooMany, i_Twice := i_Twice } : Ad)) := ⟨_, _, _, (ok_is_within F_is_within T d_is_integer), PySem.W.mg_of X G a_is_within, F_is_within.kp, b_is_within⟩
  have d_law_classes_right : CalN l.prog w K mg base 2 "_law_classes_right" (sp_law_classes_right K ({ BadLetter := C_BadLetter, BadLine := C_BadLine, BadLot := C_BadLot, BadMachine := C_BadMachine, BadName := C_BadName, BadNumber := C_BadNumber, BadPaper := C_BadPaper, BadPiece := C_BadPiece, BadPoint := C_BadPoint, BadText := C_BadText, BadTurn := C_BadTurn, BadWord := C_BadWord, BallError := C_BallError, NoName := C_NoName, NoWay := C_NoWay, Nothing := C_Nothing, Thin := C_Thin, TooMany := C_TooMany, Twice := C_Twice, i_BadLetter := i_BadLetter, i_BadLine := i_BadLine, i_BadLot := i_BadLot, i_BadMachine := i_BadMachine, i_BadName := i_BadName, i_BadNumber := i_BadNumber, i_BadPaper := i_BadPaper, i_BadPiece := i_BadPiece, i_BadPoint := i_BadPoint, i_BadText := i_BadText, i_BadTurn := i_BadTurn, i_BadWord := i_BadWord, i_NoName := i_NoName, i_NoWay := i_NoWay, i_Nothing := i_Nothing, i_Thin := i_Thin, i_TooMany := i_TooMany, i_Twice := i_Twice } : Ad)) := ⟨_, _, _, (ok_law_classes_right F_law_classes_right T d_law_kinds), PySem.W.mg_of X G a_law_classes_right, F_law_classes_right.kp, b_law_classes_right⟩
  have d_law_fields_right : CalG l.prog w K mg base CX0 1 "_law_fields_right" (sp_law_fields_right K ({ BadLetter := C_BadLetter, BadLine := C_BadLine, BadLot := C_BadLot, BadMachine := C_BadMachine, BadName := C_BadName, BadNumber := C_BadNumber, BadPaper := C_BadPaper, BadPiece := C_BadPiece, BadPoint := C_BadPoint, BadText := C_BadText, BadTurn := C_BadTurn, BadWord := C_BadWord, BallError := C_BallError, NoName := C_NoName, NoWay := C_NoWay, Nothing := C_Nothing, Thin := C_Thin, TooMany := C_TooMany, Twice := C_Twice, i_BadLetter := i_BadLetter, i_BadLine := i_BadLine, i_BadLot := i_BadLot, i_BadMachine := i_BadMachine, i_BadName := i_BadName, i_BadNumber := i_BadNumber, i_BadPaper := i_BadPaper, i_BadPiece := i_BadPiece, i_BadPoint := i_BadPoint, i_BadText := i_BadText, i_BadTurn := i_BadTurn, i_BadWord := i_BadWord, i_NoName := i_NoName, i_NoWay := i_NoWay, i_Nothing := i_Nothing, i_Thin := i_Thin, i_TooMany := i_TooMany, i_Twice := i_Twice } : Ad)) := ⟨_, _, _, (ok_law_fields_right F_law_fields_right T), PySem.W.mg_of X G a_law_fields_right, F_law_fields_right.kp, b_law_fields_right⟩
  have d_law_is_number : CalN l.prog w K mg base 1 "_law_is_number" (sp_law_is_number K ({ BadLetter := C_BadLetter, BadLine := C_BadLine, BadLot := C_BadLot, BadMachine := C_BadMachine, BadName := C_BadName, BadNumber := C_BadNumber, BadPaper := C_BadPaper, BadPiece := C_BadPiece, BadPoint := C_BadPoint, BadText := C_BadText, BadTurn := C_BadTurn, BadWord := C_BadWord, BallError := C_BallError, NoName := C_NoName, NoWay := C_NoWay, Nothing := C_Nothing, Thin := C_Thin, TooMany := C_TooMany, Twice := C_Twice, i_BadLetter := i_BadLetter, i_BadLine := i_BadLine, i_BadLot := i_BadLot, i_BadMachine := i_BadMachine, i_BadName := i_BadName, i_BadNumber := i_BadNumber, i_BadPaper := i_BadPaper, i_BadPiece := i_BadPiece, i_BadPoint := i_BadPoint, i_BadText := i_BadText, i_BadTurn := i_BadTurn, i_BadWord := i_BadWord, i_NoName := i_NoName, i_NoWay := i_NoWay, i_Nothing := i_Nothing, i_Thin := i_Thin, i_TooMany := i_TooMany, i_Twice := i_Twice } : Ad)) := ⟨_, _, _, (ok_law_is_number F_law_is_number T), PySem.W.mg_of X G a_law_is_number, F_law_is_number.kp, b_law_is_number⟩
  have d_law_letters_right : CalG l.prog w K mg base CX0 5 "_law_letters_right" (sp_law_letters_right K ({ BadLetter := C_BadLetter, BadLine := C_BadLine, BadLot := C_BadLot, BadMachine := C_BadMachine, BadName := C_BadName, BadNumber := C_BadNumber, BadPaper := C_BadPaper, BadPiece := C_BadPiece, BadPoint := C_BadPoint, BadText := C_BadText, BadTurn := C_BadTurn, BadWord := C_BadWord, BallError := C_BallError, NoName := C_NoName, NoWay := C_NoWay, Nothing := C_Nothing, Thin := C_Thin, TooMany := C_TooMany, Twice := C_Twice, i_BadLetter := i_BadLetter, i_BadLine := i_BadLine, i_BadLot := i_BadLot, i_BadMachine := i_BadMachine, i_BadName := i_BadName, i_BadNumber := i_BadNumber, i_BadPaper := i_BadPaper, i_BadPiece := i_BadPiece, i_BadPoint := i_BadPoint, i_BadText := i_BadText, i_BadTurn := i_BadTurn, i_BadWord := i_BadWord, i_NoName := i_NoName, i_NoWay := i_NoWay, i_Nothing := i_Nothing, i_Thin := i_Thin, i_TooMany := i_TooMany, i_Twice := i_Twice } : Ad) ([(pt_law_letters_right, ((("_law_letters_right" : Str) ++ ".<locals>.") ++ "<lambda>"))] : List (Addr × Str))) := ⟨_, _, _, (ok_law_letters_right F_law_letters_right T d_is_letter d_law_told d_undoing dk_undoing_letter lh lm_law_letters_right), PySem.W.mg_of X G a_law_letters_right, F_law_letters_right.kp, b_law_letters_right⟩
  have d_law_parts_right : CalG l.prog w K mg base CX0 1 "_law_parts_right" (sp_law_parts_right K ({ BadLetter := C_BadLetter, BadLine := C_BadLine, BadLot := C_BadLot, BadMachine := C_BadMachine, BadName := C_BadName, BadNumber := C_BadNumber, BadPaper := C_BadPaper, BadPiece := C_BadPiece, BadPoint := C_BadPoint, BadText := C_BadText, BadTurn := C_BadTurn, BadWord := C_BadWord, BallError := C_BallError, NoName := C_NoName, NoWay := C_NoWay, Nothing := C_Nothing, Thin := C_Thin, TooMany := C_TooMany, Twice := C_Twice, i_BadLetter := i_BadLetter, i_BadLine := i_BadLine, i_BadLot := i_BadLot, i_BadMachine := i_BadMachine, i_BadName := i_BadName, i_BadNumber := i_BadNumber, i_BadPaper := i_BadPaper, i_BadPiece := i_BadPiece, i_BadPoint := i_BadPoint, i_BadText := i_BadText, i_BadTurn := i_BadTurn, i_BadWord := i_BadWord, i_NoName := i_NoName, i_NoWay := i_NoWay, i_Nothing := i_Nothing, i_Thin := i_Thin, i_TooMany := i_TooMany, i_Twice := i_Twice } : Ad)) := ⟨_, _, _, (ok_law_parts_right F_law_parts_right T), PySem.W.mg_of X G a_law_parts_right, F_law_parts_right.kp, b_law_parts_right⟩
  have d_law_pen : CalN l.prog w K mg base 1 "_law_pen" (sp_law_pen K ({ BadLetter := C_BadLetter, BadLine := C_BadLine, BadLot := C_BadLot, BadMachine := C_BadMachine, BadName := C_BadName, BadNumber := C_BadNumber, BadPaper := C_BadPaper, BadPiece := C_BadPiece, BadPoint := C_BadPoint, BadText := C_BadText, BadTurn := C_BadTurn, BadWord := C_BadWord, BallError := C_BallError, NoName := C_NoName, NoWay := C_NoWay, Nothing := C_Nothing, Thin := C_Thin, TooMany := C_TooMany, Twice := C_Twice, i_BadLetter := i_BadLetter, i_BadLine := i_BadLine, i_BadLot := i_BadLot, i_BadMachine := i_BadMachine, i_BadName := i_BadName, i_BadNumber := i_BadNumber, i_BadPaper := i_BadPaper, i_BadPiece := i_BadPiece, i_BadPoint := i_BadPoint, i_BadText := i_BadText, i_BadTurn := i_BadTurn, i_BadWord := i_BadWord, i_NoName := i_NoName, i_NoWay := i_NoWay, i_Nothing := i_Nothing, i_Thin := i_Thin, i_TooMany := i_TooMany, i_Twice := i_Twice } : Ad)) := ⟨_, _, _, (ok_law_pen F_law_pen T), PySem.W.mg_of X G a_law_pen, F_law_pen.kp, b_law_pen⟩
  have d_law_values : CalN l.prog w K mg base 3 "_law_values" (sp_law_values K ({ BadLetter := C_BadLetter, BadLine := C_BadLine, BadLot := C_BadLot, BadMachine := C_BadMachine, BadName := C_BadName, BadNumber := C_BadNumber, BadPaper := C_BadPaper, BadPiece := C_BadPiece, BadPoint := C_BadPoint, BadText := C_BadText, BadTurn := C_BadTurn, BadWord := C_BadWord, BallError := C_BallError, NoName := C_NoName, NoWay := C_NoWay, Nothing := C_Nothing, Thin := C_Thin, TooMany := C_TooMany, Twice := C_Twice, i_BadLetter := i_BadLetter, i_BadLine := i_BadLine, i_BadLot := i_BadLot, i_BadMachine := i_BadMachine, i_BadName := i_BadName, i_BadNumber := i_BadNumber, i_BadPaper := i_BadPaper, i_BadPiece := i_BadPiece, i_BadPoint := i_BadPoint, i_BadText := i_BadText, i_BadTurn := i_BadTurn, i_BadWord := i_BadWord, i_NoName := i_NoName, i_NoWay := i_NoWay, i_Nothing := i_Nothing, i_Thin := i_Thin, i_TooMany := i_TooMany, i_Twice := i_Twice } : Ad)) := ⟨_, _, _, (ok_law_values F_law_values T d_law_draw d_law_pick), PySem.W.mg_of X G a_law_values, F_law_values.kp, b_law_values⟩
  have dk_is_within_least_most_value : CalK l.prog w K mg base CX0 2 "is_within" ["least", "most", "value"] (gPm (α := V) .non 0 3 [2, 0, 1]) (sp_is_within K ({ BadLetter := C_BadLetter, BadLine := C_BadLine, BadLot := C_BadLot, BadMachine := C_BadMachine, BadName := C_BadName, BadNumber := C_BadNumber, BadPaper := C_BadPaper, BadPiece := C_BadPiece, BadPoint := C_BadPoint, BadText := C_BadText, BadTurn := C_BadTurn, BadWord := C_BadWord, BallError := C_BallError, NoName := C_NoName, NoWay := C_NoWay, Nothing := C_Nothing, Thin := C_Thin, TooMany := C_TooMany, Twice := C_Twice, i_BadLetter := i_BadLetter, i_BadLine := i_BadLine, i_BadLot := i_BadLot, i_BadMachine := i_BadMachine, i_BadName := i_BadName, i_BadNumber := i_BadNumber, i_BadPaper := i_BadPaper, i_BadPiece := i_BadPiece, i_BadPoint := i_BadPoint, i_BadText := i_BadText, i_BadTurn := i_BadTurn, i_BadWord := i_BadWord, i_NoName := i_NoName, i_NoWay := i_NoWay, i_Nothing := i_Nothing, i_Thin := i_Thin, i_TooMany := i_TooMany, i_Twice := i_Twice } : Ad)) := ⟨_, _, _, gPm .none 0 3 [2, 0, 1], (ok_is_within F_is_within T d_is_integer), PySem.W.mg_of X G a_is_within, F_is_within.kp, ⟨(fun s us ws _ hl => by
      unfold gPm at hl ⊢
      by_cases h : us.length = 0 ∧ ws.length = 3
      · rw [if_pos h]
        match us, ws, h with
        | [], [_, _, _], _ => exact .of_eq rfl
      · rw [if_neg h] at hl; cases hl), gPm_rel⟩⟩
  exact ok_law F_law T d_is_integer d_is_within d_law_classes_right d_law_draw d_law_fields_right d_law_is_number d_law_letters_right d_law_parts_right d_law_pen d_law_told d_law_values dk_is_within_least_most_value
theorem walk {l : PySem.W.OpenLaw} {q : Program} {loose : List Str} {XP : (Str → Option Value) → Heap → Prop} {YP : World → Heap → Prop} {d : DefRec} {K : Params → PySem.W.Frag} (hn : l.most = some 63) (hdf : d.params.defaults = [])
    (hY : ∀ (w : World) (h : Heap), YP w h → (K w.params).In h)
    (F : ∀ (w : World) (mg : Str → Option Value) (fa : Addr) (h : Heap), YP w h → (K w.params).In h → h.Ns mainGlobals mg → mg d.name = some (.ref fa) → Cs.LawAtG l w (K w.params) CX0 6 63 "script" mg fa h) :
    PySem.W.WalkO q loose XP YP l.row.toRowW d [] (fun f vs => PySem.call f vs) :=
  Cs.walk_ofG (n := 63) (k := 6) (x := "script") (CXc := fun _ => CX0) hn (by decide) hdf ⟨rfl, by decide, by decide⟩ hY F fun _ _ _ _ _ z => z

end Cs

open PySem PySem.W PyProof.Rows in
set_option maxRecDepth 100000 in
set_option maxHeartbeats 0 in
theorem PySem.Challenge.cw_copyshare_k00_errors_and_checks_holds : PySem.Challenge.rw_copyshare_k00_errors_and_checks.Holds := by
  w_on; o_law; k_head; (case hw => w_witness2)
  k_fill
  refine Cs.walk (l := PySem.Challenge.rw_copyshare_k00_errors_and_checks) rfl rfl (fun w h Y => PySem.W.km_in_of Y) ?F
  case F =>
    intro w mg fa h Y KX G hmg
    have hT8 := PySem.W.km_tabs_of Y
    refine' Cs.all_mk KX G hmg ?a_BadLetter ?a_BadLine ?a_BadLot ?a_BadMachine ?a_BadName ?a_BadNumber ?a_BadPaper ?a_BadPiece ?a_BadPoint ?a_BadText ?a_BadTurn ?a_BadWord ?a_BallError ?a_NoName ?a_NoWay ?a_Nothing ?a_Thin ?a_TooMany ?a_Twice ?a_law_heard ?l_law_heard ?c_law_heard ?k_law_heard ?a_is_integer ?l_is_integer ?c_is_integer ?k_is_integer ?a_is_within ?l_is_within ?c_is_within ?k_is_within ?a_is_letter ?l_is_letter ?c_is_letter ?k_is_letter ?a_undoing ?l_undoing ?c_undoing ?k_undoing ?a_law_pen ?l_law_pen ?c_law_pen ?k_law_pen ?a_law_draw ?l_law_draw ?c_law_draw ?k_law_draw ?a_law_pick ?l_law_pick ?c_law_pick ?k_law_pick ?a_law_values ?l_law_values ?c_law_values ?k_law_values ?a_law_is_number ?l_law_is_number ?c_law_is_number ?k_law_is_number ?a_law_told ?l_law_told ?c_law_told ?k_law_told ?a_law_kinds ?l_law_kinds ?c_law_kinds ?k_law_kinds ?a_law_parts_right ?l_law_parts_right ?c_law_parts_right ?k_law_parts_right ?a_law_fields_right ?l_law_fields_right ?c_law_fields_right ?k_law_fields_right ?a_law_classes_right ?l_law_classes_right ?c_law_classes_right ?k_law_classes_right ?a_law_letters_right ?l_law_letters_right ?c_law_letters_right ?lc_law_letters_right ?h11_law_letters_right ?ch_law_letters_right ?np_law_letters_right ?tb_law_letters_right ?k_law_letters_right ?a_law ?l_law ?c_law ?k_law ?noSup ?noAny ?top ?b_LookupError ?b_ValueError ?b_abs ?b_bool ?b_enumerate ?b_int ?b_isinstance ?b_len ?b_list ?b_range ?b_repr ?b_str ?xL_Nothing ?al_Nothing ?sa_Nothing ?iC_Nothing ?tI_Nothing ?exC_Nothing ?veC_Nothing ?tyC_Nothing ?kC_Nothing ?own_Nothing ?lf_Nothing ?hcd_Nothing ?lc_Nothing ?hvs_Nothing ?hfile_Nothing ?lcc_Nothing ?xL_BadLetter ?al_BadLetter ?sa_BadLetter ?iC_BadLetter ?tI_BadLetter ?exC_BadLetter ?veC_BadLetter ?tyC_BadLetter ?kC_BadLetter ?own_BadLetter ?lf_BadLetter ?hcd_BadLetter ?lc_BadLetter ?hvs_BadLetter ?hfile_BadLetter ?lcc_BadLetter ?no_BadLetter_value ?xL_BadLine ?al_BadLine ?sa_BadLine ?iC_BadLine ?tI_BadLine ?exC_BadLine ?veC_BadLine ?tyC_BadLine ?kC_BadLine ?own_BadLine ?lf_BadLine ?hcd_BadLine ?lc_BadLine ?hvs_BadLine ?hfile_BadLine ?lcc_BadLine ?no_BadLine_item ?xL_BadLot ?al_BadLot ?sa_BadLot ?iC_BadLot ?tI_BadLot ?exC_BadLot ?veC_BadLot ?tyC_BadLot ?kC_BadLot ?own_BadLot ?lf_BadLot ?hcd_BadLot ?lc_BadLot ?hvs_BadLot ?hfile_BadLot ?lcc_BadLot ?no_BadLot_part ?xL_BadMachine ?al_BadMachine ?sa_BadMachine ?iC_BadMachine ?tI_BadMachine ?exC_BadMachine ?veC_BadMachine ?tyC_BadMachine ?kC_BadMachine ?own_BadMachine ?lf_BadMachine ?hcd_BadMachine ?lc_BadMachine ?hvs_BadMachine ?hfile_BadMachine ?lcc_BadMachine ?no_BadMachine_part ?xL_BadName ?al_BadName ?sa_BadName ?iC_BadName ?tI_BadName ?exC_BadName ?veC_BadName ?tyC_BadName ?kC_BadName ?own_BadName ?lf_BadName ?hcd_BadName ?lc_BadName ?hvs_BadName ?hfile_BadName ?lcc_BadName ?no_BadName_value ?xL_BadNumber ?al_BadNumber ?sa_BadNumber ?iC_BadNumber ?tI_BadNumber ?exC_BadNumber ?veC_BadNumber ?tyC_BadNumber ?kC_BadNumber ?own_BadNumber ?lf_BadNumber ?hcd_BadNumber ?lc_BadNumber ?hvs_BadNumber ?hfile_BadNumber ?lcc_BadNumber ?no_BadNumber_part ?xL_BadPaper ?al_BadPaper ?sa_BadPaper ?iC_BadPaper ?tI_BadPaper ?exC_BadPaper ?veC_BadPaper ?tyC_BadPaper ?kC_BadPaper ?own_BadPaper ?lf_BadPaper ?hcd_BadPaper ?lc_BadPaper ?hvs_BadPaper ?hfile_BadPaper ?lcc_BadPaper ?no_BadPaper_part ?xL_BadPiece ?al_BadPiece ?sa_BadPiece ?iC_BadPiece ?tI_BadPiece ?exC_BadPiece ?veC_BadPiece ?tyC_BadPiece ?kC_BadPiece ?own_BadPiece ?lf_BadPiece ?hcd_BadPiece ?lc_BadPiece ?hvs_BadPiece ?hfile_BadPiece ?lcc_BadPiece ?no_BadPiece_part ?xL_BadPoint ?al_BadPoint ?sa_BadPoint ?iC_BadPoint ?tI_BadPoint ?exC_BadPoint ?veC_BadPoint ?tyC_BadPoint ?kC_BadPoint ?own_BadPoint ?lf_BadPoint ?hcd_BadPoint ?lc_BadPoint ?hvs_BadPoint ?hfile_BadPoint ?lcc_BadPoint ?no_BadPoint_part ?xL_BadText ?al_BadText ?sa_BadText ?iC_BadText ?tI_BadText ?exC_BadText ?veC_BadText ?tyC_BadText ?kC_BadText ?own_BadText ?lf_BadText ?hcd_BadText ?lc_BadText ?hvs_BadText ?hfile_BadText ?lcc_BadText ?no_BadText_item ?xL_BadTurn ?al_BadTurn ?sa_BadTurn ?iC_BadTurn ?tI_BadTurn ?exC_BadTurn ?veC_BadTurn ?tyC_BadTurn ?kC_BadTurn ?own_BadTurn ?lf_BadTurn ?hcd_BadTurn ?lc_BadTurn ?hvs_BadTurn ?hfile_BadTurn ?lcc_BadTurn ?no_BadTurn_part ?xL_BadWord ?al_BadWord ?sa_BadWord ?iC_BadWord ?tI_BadWord ?exC_BadWord ?veC_BadWord ?tyC_BadWord ?kC_BadWord ?own_BadWord ?lf_BadWord ?hcd_BadWord ?lc_BadWord ?hvs_BadWord ?hfile_BadWord ?lcc_BadWord ?no_BadWord_at ?xL_NoName ?al_NoName ?sa_NoName ?iC_NoName ?tI_NoName ?exC_NoName ?veC_NoName ?tyC_NoName ?kC_NoName ?own_NoName ?lf_NoName ?hcd_NoName ?lc_NoName ?hvs_NoName ?hfile_NoName ?lcc_NoName ?no_NoName_name ?xL_NoWay ?al_NoWay ?sa_NoWay ?iC_NoWay ?tI_NoWay ?exC_NoWay ?veC_NoWay ?tyC_NoWay ?kC_NoWay ?own_NoWay ?lf_NoWay ?hcd_NoWay ?lc_NoWay ?hvs_NoWay ?hfile_NoWay ?lcc_NoWay ?no_NoWay_paper ?xL_Thin ?al_Thin ?sa_Thin ?iC_Thin ?tI_Thin ?exC_Thin ?veC_Thin ?tyC_Thin ?kC_Thin ?own_Thin ?lf_Thin ?hcd_Thin ?lc_Thin ?hvs_Thin ?hfile_Thin ?lcc_Thin ?no_Thin_word ?xL_TooMany ?al_TooMany ?sa_TooMany ?iC_TooMany ?tI_TooMany ?exC_TooMany ?veC_TooMany ?tyC_TooMany ?kC_TooMany ?own_TooMany ?lf_TooMany ?hcd_TooMany ?lc_TooMany ?hvs_TooMany ?hfile_TooMany ?lcc_TooMany ?no_TooMany_what ?no_TooMany_most ?xL_Twice ?al_Twice ?sa_Twice ?iC_Twice ?tI_Twice ?exC_Twice ?veC_Twice ?tyC_Twice ?kC_Twice ?own_Twice ?lf_Twice ?hcd_Twice ?lc_Twice ?hvs_Twice ?hfile_Twice ?lcc_Twice ?no_Twice_name ?su_BadLetter_BallError ?icl_BallError ?tyC_BallError ?exC_BallError ?g_LETTERS ?su_BadLetter_BadLine ?icl_BadLine ?su_BadLetter_BadLot ?icl_BadLot ?su_BadLetter_BadMachine ?icl_BadMachine ?su_BadLetter_BadName ?icl_BadName ?su_BadLetter_BadNumber ?icl_BadNumber ?su_BadLetter_BadPaper ?icl_BadPaper ?su_BadLetter_BadPiece ?icl_BadPiece ?su_BadLetter_BadPoint ?icl_BadPoint ?su_BadLetter_BadText ?icl_BadText ?su_BadLetter_BadTurn ?icl_BadTurn ?su_BadLetter_BadWord ?icl_BadWord ?su_BadLetter_LookupError ?su_BadLetter_NoName ?icl_NoName ?su_BadLetter_NoWay ?icl_NoWay ?su_BadLetter_Nothing ?icl_Nothing ?su_BadLetter_Thin ?icl_Thin ?su_BadLetter_TooMany ?icl_TooMany ?su_BadLetter_Twice ?icl_Twice ?su_BadLetter_ValueError ?su_BadLine_BadLetter ?icl_BadLetter ?su_BadLine_BadLot ?su_BadLine_BadMachine ?su_BadLine_BadName ?su_BadLine_BadNumber ?su_BadLine_BadPaper ?su_BadLine_BadPiece ?su_BadLine_BadPoint ?su_BadLine_BadText ?su_BadLine_BadTurn ?su_BadLine_BadWord ?su_BadLine_BallError ?su_BadLine_LookupError ?su_BadLine_NoName ?su_BadLine_NoWay ?su_BadLine_Nothing ?su_BadLine_Thin ?su_BadLine_TooMany ?su_BadLine_Twice ?su_BadLine_ValueError ?su_BadLot_BadLetter ?su_BadLot_BadLine ?su_BadLot_BadMachine ?su_BadLot_BadName ?su_BadLot_BadNumber ?su_BadLot_BadPaper ?su_BadLot_BadPiece ?su_BadLot_BadPoint ?su_BadLot_BadText ?su_BadLot_BadTurn ?su_BadLot_BadWord ?su_BadLot_BallError ?su_BadLot_LookupError ?su_BadLot_NoName ?su_BadLot_NoWay ?su_BadLot_Nothing ?su_BadLot_Thin ?su_BadLot_TooMany ?su_BadLot_Twice ?su_BadLot_ValueError ?su_BadMachine_BadLetter ?su_BadMachine_BadLine ?su_BadMachine_BadLot ?su_BadMachine_BadName ?su_BadMachine_BadNumber ?su_BadMachine_BadPaper ?su_BadMachine_BadPiece ?su_BadMachine_BadPoint ?su_BadMachine_BadText ?su_BadMachine_BadTurn ?su_BadMachine_BadWord ?su_BadMachine_BallError ?su_BadMachine_LookupError ?su_BadMachine_NoName ?su_BadMachine_NoWay ?su_BadMachine_Nothing ?su_BadMachine_Thin ?su_BadMachine_TooMany ?su_BadMachine_Twice ?su_BadMachine_ValueError ?su_BadName_BadLetter ?su_BadName_BadLine ?su_BadName_BadLot ?su_BadName_BadMachine ?su_BadName_BadNumber ?su_BadName_BadPaper ?su_BadName_BadPiece ?su_BadName_BadPoint ?su_BadName_BadText ?su_BadName_BadTurn ?su_BadName_BadWord ?su_BadName_BallError ?su_BadName_LookupError ?su_BadName_NoName ?su_BadName_NoWay ?su_BadName_Nothing ?su_BadName_Thin ?su_BadName_TooMany ?su_BadName_Twice ?su_BadName_ValueError ?su_BadNumber_BadLetter ?su_BadNumber_BadLine ?su_BadNumber_BadLot ?su_BadNumber_BadMachine ?su_BadNumber_BadName ?su_BadNumber_BadPaper ?su_BadNumber_BadPiece ?su_BadNumber_BadPoint ?su_BadNumber_BadText ?su_BadNumber_BadTurn ?su_BadNumber_BadWord ?su_BadNumber_BallError ?su_BadNumber_LookupError ?su_BadNumber_NoName ?su_BadNumber_NoWay ?su_BadNumber_Nothing ?su_BadNumber_Thin ?su_BadNumber_TooMany ?su_BadNumber_Twice ?su_BadNumber_ValueError ?su_BadPaper_BadLetter ?su_BadPaper_BadLine ?su_BadPaper_BadLot ?su_BadPaper_BadMachine ?su_BadPaper_BadName ?su_BadPaper_BadNumber ?su_BadPaper_BadPiece ?su_BadPaper_BadPoint ?su_BadPaper_BadText ?su_BadPaper_BadTurn ?su_BadPaper_BadWord ?su_BadPaper_BallError ?su_BadPaper_LookupError ?su_BadPaper_NoName ?su_BadPaper_NoWay ?su_BadPaper_Nothing ?su_BadPaper_Thin ?su_BadPaper_TooMany ?su_BadPaper_Twice ?su_BadPaper_ValueError ?su_BadPiece_BadLetter ?su_BadPiece_BadLine ?su_BadPiece_BadLot ?su_BadPiece_BadMachine ?su_BadPiece_BadName ?su_BadPiece_BadNumber ?su_BadPiece_BadPaper ?su_BadPiece_BadPoint ?su_BadPiece_BadText ?su_BadPiece_BadTurn ?su_BadPiece_BadWord ?su_BadPiece_BallError ?su_BadPiece_LookupError ?su_BadPiece_NoName ?su_BadPiece_NoWay ?su_BadPiece_Nothing ?su_BadPiece_Thin ?su_BadPiece_TooMany ?su_BadPiece_Twice ?su_BadPiece_ValueError ?su_BadPoint_BadLetter ?su_BadPoint_BadLine ?su_BadPoint_BadLot ?su_BadPoint_BadMachine ?su_BadPoint_BadName ?su_BadPoint_BadNumber ?su_BadPoint_BadPaper ?su_BadPoint_BadPiece ?su_BadPoint_BadText ?su_BadPoint_BadTurn ?su_BadPoint_BadWord ?su_BadPoint_BallError ?su_BadPoint_LookupError ?su_BadPoint_NoName ?su_BadPoint_NoWay ?su_BadPoint_Nothing ?su_BadPoint_Thin ?su_BadPoint_TooMany ?su_BadPoint_Twice ?su_BadPoint_ValueError ?su_BadText_BadLetter ?su_BadText_BadLine ?su_BadText_BadLot ?su_BadText_BadMachine ?su_BadText_BadName ?su_BadText_BadNumber ?su_BadText_BadPaper ?su_BadText_BadPiece ?su_BadText_BadPoint ?su_BadText_BadTurn ?su_BadText_BadWord ?su_BadText_BallError ?su_BadText_LookupError ?su_BadText_NoName ?su_BadText_NoWay ?su_BadText_Nothing ?su_BadText_Thin ?su_BadText_TooMany ?su_BadText_Twice ?su_BadText_ValueError ?su_BadTurn_BadLetter ?su_BadTurn_BadLine ?su_BadTurn_BadLot ?su_BadTurn_BadMachine ?su_BadTurn_BadName ?su_BadTurn_BadNumber ?su_BadTurn_BadPaper ?su_BadTurn_BadPiece ?su_BadTurn_BadPoint ?su_BadTurn_BadText ?su_BadTurn_BadWord ?su_BadTurn_BallError ?su_BadTurn_LookupError ?su_BadTurn_NoName ?su_BadTurn_NoWay ?su_BadTurn_Nothing ?su_BadTurn_Thin ?su_BadTurn_TooMany ?su_BadTurn_Twice ?su_BadTurn_ValueError ?su_BadWord_BadLetter ?su_BadWord_BadLine ?su_BadWord_BadLot ?su_BadWord_BadMachine ?su_BadWord_BadName ?su_BadWord_BadNumber ?su_BadWord_BadPaper ?su_BadWord_BadPiece ?su_BadWord_BadPoint ?su_BadWord_BadText ?su_BadWord_BadTurn ?su_BadWord_BallError ?su_BadWord_LookupError ?su_BadWord_NoName ?su_BadWord_NoWay ?su_BadWord_Nothing ?su_BadWord_Thin ?su_BadWord_TooMany ?su_BadWord_Twice ?su_BadWord_ValueError ?su_NoName_BadLetter ?su_NoName_BadLine ?su_NoName_BadLot ?su_NoName_BadMachine ?su_NoName_BadName ?su_NoName_BadNumber ?su_NoName_BadPaper ?su_NoName_BadPiece ?su_NoName_BadPoint ?su_NoName_BadText ?su_NoName_BadTurn ?su_NoName_BadWord ?su_NoName_BallError ?su_NoName_LookupError ?su_NoName_NoWay ?su_NoName_Nothing ?su_NoName_Thin ?su_NoName_TooMany ?su_NoName_Twice ?su_NoName_ValueError ?su_NoWay_BadLetter ?su_NoWay_BadLine ?su_NoWay_BadLot ?su_NoWay_BadMachine ?su_NoWay_BadName ?su_NoWay_BadNumber ?su_NoWay_BadPaper ?su_NoWay_BadPiece ?su_NoWay_BadPoint ?su_NoWay_BadText ?su_NoWay_BadTurn ?su_NoWay_BadWord ?su_NoWay_BallError ?su_NoWay_LookupError ?su_NoWay_NoName ?su_NoWay_Nothing ?su_NoWay_Thin ?su_NoWay_TooMany ?su_NoWay_Twice ?su_NoWay_ValueError ?su_Nothing_BadLetter ?su_Nothing_BadLine ?su_Nothing_BadLot ?su_Nothing_BadMachine ?su_Nothing_BadName ?su_Nothing_BadNumber ?su_Nothing_BadPaper ?su_Nothing_BadPiece ?su_Nothing_BadPoint ?su_Nothing_BadText ?su_Nothing_BadTurn ?su_Nothing_BadWord ?su_Nothing_BallError ?su_Nothing_LookupError ?su_Nothing_NoName ?su_Nothing_NoWay ?su_Nothing_Thin ?su_Nothing_TooMany ?su_Nothing_Twice ?su_Nothing_ValueError ?su_Thin_BadLetter ?su_Thin_BadLine ?su_Thin_BadLot ?su_Thin_BadMachine ?su_Thin_BadName ?su_Thin_BadNumber ?su_Thin_BadPaper ?su_Thin_BadPiece ?su_Thin_BadPoint ?su_Thin_BadText ?su_Thin_BadTurn ?su_Thin_BadWord ?su_Thin_BallError ?su_Thin_LookupError ?su_Thin_NoName ?su_Thin_NoWay ?su_Thin_Nothing ?su_Thin_TooMany ?su_Thin_Twice ?su_Thin_ValueError ?su_TooMany_BadLetter ?su_TooMany_BadLine ?su_TooMany_BadLot ?su_TooMany_BadMachine ?su_TooMany_BadName ?su_TooMany_BadNumber ?su_TooMany_BadPaper ?su_TooMany_BadPiece ?su_TooMany_BadPoint ?su_TooMany_BadText ?su_TooMany_BadTurn ?su_TooMany_BadWord ?su_TooMany_BallError ?su_TooMany_LookupError ?su_TooMany_NoName ?su_TooMany_NoWay ?su_TooMany_Nothing ?su_TooMany_Thin ?su_TooMany_Twice ?su_TooMany_ValueError ?su_Twice_BadLetter ?su_Twice_BadLine ?su_Twice_BadLot ?su_Twice_BadMachine ?su_Twice_BadName ?su_Twice_BadNumber ?su_Twice_BadPaper ?su_Twice_BadPiece ?su_Twice_BadPoint ?su_Twice_BadText ?su_Twice_BadTurn ?su_Twice_BadWord ?su_Twice_BallError ?su_Twice_LookupError ?su_Twice_NoName ?su_Twice_NoWay ?su_Twice_Nothing ?su_Twice_Thin ?su_Twice_TooMany ?su_Twice_ValueError ?ga_BadLetter ?gg_BadLetter ?hd_BadLetter ?ga_BadLine ?gg_BadLine ?hd_BadLine ?ga_BadLot ?gg_BadLot ?hd_BadLot ?ga_BadMachine ?gg_BadMachine ?hd_BadMachine ?ga_BadName ?gg_BadName ?hd_BadName ?ga_BadNumber ?gg_BadNumber ?hd_BadNumber ?ga_BadPaper ?gg_BadPaper ?hd_BadPaper ?ga_BadPiece ?gg_BadPiece ?hd_BadPiece ?ga_BadPoint ?gg_BadPoint ?hd_BadPoint ?ga_BadText ?gg_BadText ?hd_BadText ?ga_BadTurn ?gg_BadTurn ?hd_BadTurn ?ga_BadWord ?gg_BadWord ?hd_BadWord ?ga_NoName ?gg_NoName ?hd_NoName ?ga_NoWay ?gg_NoWay ?hd_NoWay ?ga_Thin ?gg_Thin ?hd_Thin ?ga_TooMany ?gg_TooMany ?hd_TooMany ?ga_Twice ?gg_Twice ?hd_Twice ?ha_BadLetter ?hn ?htk ?hm_BadLetter ?clI_BadLetter ?ha_BadLine ?hm_BadLine ?clI_BadLine ?ha_BadLot ?hm_BadLot ?clI_BadLot ?ha_BadMachine ?hm_BadMachine ?clI_BadMachine ?ha_BadName ?hm_BadName ?clI_BadName ?ha_BadNumber ?hm_BadNumber ?clI_BadNumber ?ha_BadPaper ?hm_BadPaper ?clI_BadPaper ?ha_BadPiece ?hm_BadPiece ?clI_BadPiece ?ha_BadPoint ?hm_BadPoint ?clI_BadPoint ?ha_BadText ?hm_BadText ?clI_BadText ?ha_BadTurn ?hm_BadTurn ?clI_BadTurn ?ha_BadWord ?hm_BadWord ?clI_BadWord ?ha_NoName ?hm_NoName ?clI_NoName ?ha_NoWay ?hm_NoWay ?clI_NoWay ?ha_Nothing ?hm_Nothing ?clI_Nothing ?ga_Nothing ?gg_Nothing ?hd_Nothing ?ha_Thin ?hm_Thin ?clI_Thin ?ha_TooMany ?hm_TooMany ?clI_TooMany ?ha_Twice ?hm_Twice ?clI_Twice
    (case a_BadLetter => k_is)
    (case a_BadLine => k_is)
    (case a_BadLot => k_is)
    (case a_BadMachine => k_is)
    (case a_BadName => k_is)
    (case a_BadNumber => k_is)
    (case a_BadPaper => k_is)
    (case a_BadPiece => k_is)
    (case a_BadPoint => k_is)
    (case a_BadText => k_is)
    (case a_BadTurn => k_is)
    (case a_BadWord => k_is)
    (case a_BallError => k_is)
    (case a_NoName => k_is)
    (case a_NoWay => k_is)
    (case a_Nothing => k_is)
    (case a_Thin => k_is)
    (case a_TooMany => k_is)
    (case a_Twice => k_is)
    (case a_law_heard => k_is)
    (case l_law_heard => k_is)
    (case c_law_heard => k_is)
    (case k_law_heard => k_is)
    (case a_is_integer => k_is)
    (case l_is_integer => k_is)
    (case c_is_integer => k_is)
    (case k_is_integer => k_is)
    (case a_is_within => k_is)
    (case l_is_within => k_is)
    (case c_is_within => k_is)
    (case k_is_within => k_is)
    (case a_is_letter => k_is)
    (case l_is_letter => k_is)
    (case c_is_letter => k_is)
    (case k_is_letter => k_is)
    (case a_undoing => k_is)
    (case l_undoing => k_is)
    (case c_undoing => k_is)
    (case k_undoing => k_is)
    (case a_law_pen => k_is)
    (case l_law_pen => k_is)
    (case c_law_pen => k_is)
    (case k_law_pen => k_is)
    (case a_law_draw => k_is)
    (case l_law_draw => k_is)
    (case c_law_draw => k_is)
    (case k_law_draw => k_is)
    (case a_law_pick => k_is)
    (case l_law_pick => k_is)
    (case c_law_pick => k_is)
    (case k_law_pick => k_is)
    (case a_law_values => k_is)
    (case l_law_values => k_is)
    (case c_law_values => k_is)
    (case k_law_values => k_is)
    (case a_law_is_number => k_is)
    (case l_law_is_number => k_is)
    (case c_law_is_number => k_is)
    (case k_law_is_number => k_is)
    (case a_law_told => k_is)
    (case l_law_told => k_is)
    (case c_law_told => k_is)
    (case k_law_told => k_is)
    (case a_law_kinds => k_is)
    (case l_law_kinds => k_is)
    (case c_law_kinds => k_is)
    (case k_law_kinds => k_is)
    (case a_law_parts_right => k_is)
    (case l_law_parts_right => k_is)
    (case c_law_parts_right => k_is)
    (case k_law_parts_right => k_is)
    (case a_law_fields_right => k_is)
    (case l_law_fields_right => k_is)
    (case c_law_fields_right => k_is)
    (case k_law_fields_right => k_is)
    (case a_law_classes_right => k_is)
    (case l_law_classes_right => k_is)
    (case c_law_classes_right => k_is)
    (case k_law_classes_right => k_is)
    (case a_law_letters_right => k_is)
    (case l_law_letters_right => k_is)
    (case c_law_letters_right => k_is)
    (case lc_law_letters_right => k_is)
    (case h11_law_letters_right => first | rfl | k_is)
    (case ch_law_letters_right => first | kernel_rfl | k_is | decide +kernel)
    (case np_law_letters_right => first | kernel_rfl | decide +kernel | rfl)
    (case tb_law_letters_right => exact hT8 _ (by first | decide | simp))
    (case k_law_letters_right => k_is)
    (case a_law => k_is)
    (case l_law => k_is)
    (case c_law => k_is)
    (case k_law => k_is)
    (case noSup => k_is)
    (case noAny => k_is)
    (case top => first | rfl | decide +kernel | k_is)
    (case b_LookupError => k_is)
    (case b_ValueError => k_is)
    (case b_abs => k_is)
    (case b_bool => k_is)
    (case b_enumerate => k_is)
    (case b_int => k_is)
    (case b_isinstance => k_is)
    (case b_len => k_is)
    (case b_list => k_is)
    (case b_range => k_is)
    (case b_repr => k_is)
    (case b_str => k_is)
    (case xL_Nothing => k_is)
    (case al_Nothing => first | k_is | rfl | decide +kernel)
    (case sa_Nothing => k_is)
    (case iC_Nothing => k_is)
    (case tI_Nothing => k_is)
    (case exC_Nothing => k_is)
    (case veC_Nothing => k_is)
    (case tyC_Nothing => k_is)
    (case kC_Nothing => k_is)
    (case own_Nothing => k_is)
    (case lf_Nothing => k_is)
    (case hcd_Nothing => k_is)
    (case lc_Nothing => k_is)
    (case hvs_Nothing => first | rfl | k_is)
    (case hfile_Nothing => first | rfl | decide +kernel | k_is)
    (case lcc_Nothing => k_is)
    (case xL_BadLetter => k_is)
    (case al_BadLetter => first | k_is | rfl | decide +kernel)
    (case sa_BadLetter => k_is)
    (case iC_BadLetter => k_is)
    (case tI_BadLetter => k_is)
    (case exC_BadLetter => k_is)
    (case veC_BadLetter => k_is)
    (case tyC_BadLetter => k_is)
    (case kC_BadLetter => k_is)
    (case own_BadLetter => k_is)
    (case lf_BadLetter => k_is)
    (case hcd_BadLetter => k_is)
    (case lc_BadLetter => k_is)
    (case hvs_BadLetter => first | rfl | k_is)
    (case hfile_BadLetter => first | rfl | decide +kernel | k_is)
    (case lcc_BadLetter => k_is)
    (case no_BadLetter_value => k_is)
    (case xL_BadLine => k_is)
    (case al_BadLine => first | k_is | rfl | decide +kernel)
    (case sa_BadLine => k_is)
    (case iC_BadLine => k_is)
    (case tI_BadLine => k_is)
    (case exC_BadLine => k_is)
    (case veC_BadLine => k_is)
    (case tyC_BadLine => k_is)
    (case kC_BadLine => k_is)
    (case own_BadLine => k_is)
    (case lf_BadLine => k_is)
    (case hcd_BadLine => k_is)
    (case lc_BadLine => k_is)
    (case hvs_BadLine => first | rfl | k_is)
    (case hfile_BadLine => first | rfl | decide +kernel | k_is)
    (case lcc_BadLine => k_is)
    (case no_BadLine_item => k_is)
    (case xL_BadLot => k_is)
    (case al_BadLot => first | k_is | rfl | decide +kernel)
    (case sa_BadLot => k_is)
    (case iC_BadLot => k_is)
    (case tI_BadLot => k_is)
    (case exC_BadLot => k_is)
    (case veC_BadLot => k_is)
    (case tyC_BadLot => k_is)
    (case kC_BadLot => k_is)
    (case own_BadLot => k_is)
    (case lf_BadLot => k_is)
    (case hcd_BadLot => k_is)
    (case lc_BadLot => k_is)
    (case hvs_BadLot => first | rfl | k_is)
    (case hfile_BadLot => first | rfl | decide +kernel | k_is)
    (case lcc_BadLot => k_is)
    (case no_BadLot_part => k_is)
    (case xL_BadMachine => k_is)
    (case al_BadMachine => first | k_is | rfl | decide +kernel)
    (case sa_BadMachine => k_is)
    (case iC_BadMachine => k_is)
    (case tI_BadMachine => k_is)
    (case exC_BadMachine => k_is)
    (case veC_BadMachine => k_is)
    (case tyC_BadMachine => k_is)
    (case kC_BadMachine => k_is)
    (case own_BadMachine => k_is)
    (case lf_BadMachine => k_is)
    (case hcd_BadMachine => k_is)
    (case lc_BadMachine => k_is)
    (case hvs_BadMachine => first | rfl | k_is)
    (case hfile_BadMachine => first | rfl | decide +kernel | k_is)
    (case lcc_BadMachine => k_is)
    (case no_BadMachine_part => k_is)
    (case xL_BadName => k_is)
    (case al_BadName => first | k_is | rfl | decide +kernel)
    (case sa_BadName => k_is)
    (case iC_BadName => k_is)
    (case tI_BadName => k_is)
    (case exC_BadName => k_is)
    (case veC_BadName => k_is)
    (case tyC_BadName => k_is)
    (case kC_BadName => k_is)
    (case own_BadName => k_is)
    (case lf_BadName => k_is)
    (case hcd_BadName => k_is)
    (case lc_BadName => k_is)
    (case hvs_BadName => first | rfl | k_is)
    (case hfile_BadName => first | rfl | decide +kernel | k_is)
    (case lcc_BadName => k_is)
    (case no_BadName_value => k_is)
    (case xL_BadNumber => k_is)
    (case al_BadNumber => first | k_is | rfl | decide +kernel)
    (case sa_BadNumber => k_is)
    (case iC_BadNumber => k_is)
    (case tI_BadNumber => k_is)
    (case exC_BadNumber => k_is)
    (case veC_BadNumber => k_is)
    (case tyC_BadNumber => k_is)
    (case kC_BadNumber => k_is)
    (case own_BadNumber => k_is)
    (case lf_BadNumber => k_is)
    (case hcd_BadNumber => k_is)
    (case lc_BadNumber => k_is)
    (case hvs_BadNumber => first | rfl | k_is)
    (case hfile_BadNumber => first | rfl | decide +kernel | k_is)
    (case lcc_BadNumber => k_is)
    (case no_BadNumber_part => k_is)
    (case xL_BadPaper => k_is)
    (case al_BadPaper => first | k_is | rfl | decide +kernel)
    (case sa_BadPaper => k_is)
    (case iC_BadPaper => k_is)
    (case tI_BadPaper => k_is)
    (case exC_BadPaper => k_is)
    (case veC_BadPaper => k_is)
    (case tyC_BadPaper => k_is)
    (case kC_BadPaper => k_is)
    (case own_BadPaper => k_is)
    (case lf_BadPaper => k_is)
    (case hcd_BadPaper => k_is)
    (case lc_BadPaper => k_is)
    (case hvs_BadPaper => first | rfl | k_is)
    (case hfile_BadPaper => first | rfl | decide +kernel | k_is)
    (case lcc_BadPaper => k_is)
    (case no_BadPaper_part => k_is)
    (case xL_BadPiece => k_is)
    (case al_BadPiece => first | k_is | rfl | decide +kernel)
    (case sa_BadPiece => k_is)
    (case iC_BadPiece => k_is)
    (case tI_BadPiece => k_is)
    (case exC_BadPiece => k_is)
    (case veC_BadPiece => k_is)
    (case tyC_BadPiece => k_is)
    (case kC_BadPiece => k_is)
    (case own_BadPiece => k_is)
    (case lf_BadPiece => k_is)
    (case hcd_BadPiece => k_is)
    (case lc_BadPiece => k_is)
    (case hvs_BadPiece => first | rfl | k_is)
    (case hfile_BadPiece => first | rfl | decide +kernel | k_is)
    (case lcc_BadPiece => k_is)
    (case no_BadPiece_part => k_is)
    (case xL_BadPoint => k_is)
    (case al_BadPoint => first | k_is | rfl | decide +kernel)
    (case sa_BadPoint => k_is)
    (case iC_BadPoint => k_is)
    (case tI_BadPoint => k_is)
    (case exC_BadPoint => k_is)
    (case veC_BadPoint => k_is)
    (case tyC_BadPoint => k_is)
    (case kC_BadPoint => k_is)
    (case own_BadPoint => k_is)
    (case lf_BadPoint => k_is)
    (case hcd_BadPoint => k_is)
    (case lc_BadPoint => k_is)
    (case hvs_BadPoint => first | rfl | k_is)
    (case hfile_BadPoint => first | rfl | decide +kernel | k_is)
    (case lcc_BadPoint => k_is)
    (case no_BadPoint_part => k_is)
    (case xL_BadText => k_is)
    (case al_BadText => first | k_is | rfl | decide +kernel)
    (case sa_BadText => k_is)
    (case iC_BadText => k_is)
    (case tI_BadText => k_is)
    (case exC_BadText => k_is)
    (case veC_BadText => k_is)
    (case tyC_BadText => k_is)
    (case kC_BadText => k_is)
    (case own_BadText => k_is)
    (case lf_BadText => k_is)
    (case hcd_BadText => k_is)
    (case lc_BadText => k_is)
    (case hvs_BadText => first | rfl | k_is)
    (case hfile_BadText => first | rfl | decide +kernel | k_is)
    (case lcc_BadText => k_is)
    (case no_BadText_item => k_is)
    (case xL_BadTurn => k_is)
    (case al_BadTurn => first | k_is | rfl | decide +kernel)
    (case sa_BadTurn => k_is)
    (case iC_BadTurn => k_is)
    (case tI_BadTurn => k_is)
    (case exC_BadTurn => k_is)
    (case veC_BadTurn => k_is)
    (case tyC_BadTurn => k_is)
    (case kC_BadTurn => k_is)
    (case own_BadTurn => k_is)
    (case lf_BadTurn => k_is)
    (case hcd_BadTurn => k_is)
    (case lc_BadTurn => k_is)
    (case hvs_BadTurn => first | rfl | k_is)
    (case hfile_BadTurn => first | rfl | decide +kernel | k_is)
    (case lcc_BadTurn => k_is)
    (case no_BadTurn_part => k_is)
    (case xL_BadWord => k_is)
    (case al_BadWord => first | k_is | rfl | decide +kernel)
    (case sa_BadWord => k_is)
    (case iC_BadWord => k_is)
    (case tI_BadWord => k_is)
    (case exC_BadWord => k_is)
    (case veC_BadWord => k_is)
    (case tyC_BadWord => k_is)
    (case kC_BadWord => k_is)
    (case own_BadWord => k_is)
    (case lf_BadWord => k_is)
    (case hcd_BadWord => k_is)
    (case lc_BadWord => k_is)
    (case hvs_BadWord => first | rfl | k_is)
    (case hfile_BadWord => first | rfl | decide +kernel | k_is)
    (case lcc_BadWord => k_is)
    (case no_BadWord_at => k_is)
    (case xL_NoName => k_is)
    (case al_NoName => first | k_is | rfl | decide +kernel)
    (case sa_NoName => k_is)
    (case iC_NoName => k_is)
    (case tI_NoName => k_is)
    (case exC_NoName => k_is)
    (case veC_NoName => k_is)
    (case tyC_NoName => k_is)
    (case kC_NoName => k_is)
    (case own_NoName => k_is)
    (case lf_NoName => k_is)
    (case hcd_NoName => k_is)
    (case lc_NoName => k_is)
    (case hvs_NoName => first | rfl | k_is)
    (case hfile_NoName => first | rfl | decide +kernel | k_is)
    (case lcc_NoName => k_is)
    (case no_NoName_name => k_is)
    (case xL_NoWay => k_is)
    (case al_NoWay => first | k_is | rfl | decide +kernel)
    (case sa_NoWay => k_is)
    (case iC_NoWay => k_is)
    (case tI_NoWay => k_is)
    (case exC_NoWay => k_is)
    (case veC_NoWay => k_is)
    (case tyC_NoWay => k_is)
    (case kC_NoWay => k_is)
    (case own_NoWay => k_is)
    (case lf_NoWay => k_is)
    (case hcd_NoWay => k_is)
    (case lc_NoWay => k_is)
    (case hvs_NoWay => first | rfl | k_is)
    (case hfile_NoWay => first | rfl | decide +kernel | k_is)
    (case lcc_NoWay => k_is)
    (case no_NoWay_paper => k_is)
    (case xL_Thin => k_is)
    (case al_Thin => first | k_is | rfl | decide +kernel)
    (case sa_Thin => k_is)
    (case iC_Thin => k_is)
    (case tI_Thin => k_is)
    (case exC_Thin => k_is)
    (case veC_Thin => k_is)
    (case tyC_Thin => k_is)
    (case kC_Thin => k_is)
    (case own_Thin => k_is)
    (case lf_Thin => k_is)
    (case hcd_Thin => k_is)
    (case lc_Thin => k_is)
    (case hvs_Thin => first | rfl | k_is)
    (case hfile_Thin => first | rfl | decide +kernel | k_is)
    (case lcc_Thin => k_is)
    (case no_Thin_word => k_is)
    (case xL_TooMany => k_is)
    (case al_TooMany => first | k_is | rfl | decide +kernel)
    (case sa_TooMany => k_is)
    (case iC_TooMany => k_is)
    (case tI_TooMany => k_is)
    (case exC_TooMany => k_is)
    (case veC_TooMany => k_is)
    (case tyC_TooMany => k_is)
    (case kC_TooMany => k_is)
    (case own_TooMany => k_is)
    (case lf_TooMany => k_is)
    (case hcd_TooMany => k_is)
    (case lc_TooMany => k_is)
    (case hvs_TooMany => first | rfl | k_is)
    (case hfile_TooMany => first | rfl | decide +kernel | k_is)
    (case lcc_TooMany => k_is)
    (case no_TooMany_what => k_is)
    (case no_TooMany_most => k_is)
    (case xL_Twice => k_is)
    (case al_Twice => first | k_is | rfl | decide +kernel)
    (case sa_Twice => k_is)
    (case iC_Twice => k_is)
    (case tI_Twice => k_is)
    (case exC_Twice => k_is)
    (case veC_Twice => k_is)
    (case tyC_Twice => k_is)
    (case kC_Twice => k_is)
    (case own_Twice => k_is)
    (case lf_Twice => k_is)
    (case hcd_Twice => k_is)
    (case lc_Twice => k_is)
    (case hvs_Twice => first | rfl | k_is)
    (case hfile_Twice => first | rfl | decide +kernel | k_is)
    (case lcc_Twice => k_is)
    (case no_Twice_name => k_is)
    (case su_BadLetter_BallError => first | k_is | rfl)
    (case icl_BallError => k_is)
    (case tyC_BallError => k_is)
    (case exC_BallError => k_is)
    (case g_LETTERS => k_is)
    (case su_BadLetter_BadLine => first | k_is | rfl)
    (case icl_BadLine => k_is)
    (case su_BadLetter_BadLot => first | k_is | rfl)
    (case icl_BadLot => k_is)
    (case su_BadLetter_BadMachine => first | k_is | rfl)
    (case icl_BadMachine => k_is)
    (case su_BadLetter_BadName => first | k_is | rfl)
    (case icl_BadName => k_is)
    (case su_BadLetter_BadNumber => first | k_is | rfl)
    (case icl_BadNumber => k_is)
    (case su_BadLetter_BadPaper => first | k_is | rfl)
    (case icl_BadPaper => k_is)
    (case su_BadLetter_BadPiece => first | k_is | rfl)
    (case icl_BadPiece => k_is)
    (case su_BadLetter_BadPoint => first | k_is | rfl)
    (case icl_BadPoint => k_is)
    (case su_BadLetter_BadText => first | k_is | rfl)
    (case icl_BadText => k_is)
    (case su_BadLetter_BadTurn => first | k_is | rfl)
    (case icl_BadTurn => k_is)
    (case su_BadLetter_BadWord => first | k_is | rfl)
    (case icl_BadWord => k_is)
    (case su_BadLetter_LookupError => first | k_is | rfl)
    (case su_BadLetter_NoName => first | k_is | rfl)
    (case icl_NoName => k_is)
    (case su_BadLetter_NoWay => first | k_is | rfl)
    (case icl_NoWay => k_is)
    (case su_BadLetter_Nothing => first | k_is | rfl)
    (case icl_Nothing => k_is)
    (case su_BadLetter_Thin => first | k_is | rfl)
    (case icl_Thin => k_is)
    (case su_BadLetter_TooMany => first | k_is | rfl)
    (case icl_TooMany => k_is)
    (case su_BadLetter_Twice => first | k_is | rfl)
    (case icl_Twice => k_is)
    (case su_BadLetter_ValueError => first | k_is | rfl)
    (case su_BadLine_BadLetter => first | k_is | rfl)
    (case icl_BadLetter => k_is)
    (case su_BadLine_BadLot => first | k_is | rfl)
    (case su_BadLine_BadMachine => first | k_is | rfl)
    (case su_BadLine_BadName => first | k_is | rfl)
    (case su_BadLine_BadNumber => first | k_is | rfl)
    (case su_BadLine_BadPaper => first | k_is | rfl)
    (case su_BadLine_BadPiece => first | k_is | rfl)
    (case su_BadLine_BadPoint => first | k_is | rfl)
    (case su_BadLine_BadText => first | k_is | rfl)
    (case su_BadLine_BadTurn => first | k_is | rfl)
    (case su_BadLine_BadWord => first | k_is | rfl)
    (case su_BadLine_BallError => first | k_is | rfl)
    (case su_BadLine_LookupError => first | k_is | rfl)
    (case su_BadLine_NoName => first | k_is | rfl)
    (case su_BadLine_NoWay => first | k_is | rfl)
    (case su_BadLine_Nothing => first | k_is | rfl)
    (case su_BadLine_Thin => first | k_is | rfl)
    (case su_BadLine_TooMany => first | k_is | rfl)
    (case su_BadLine_Twice => first | k_is | rfl)
    (case su_BadLine_ValueError => first | k_is | rfl)
    (case su_BadLot_BadLetter => first | k_is | rfl)
    (case su_BadLot_BadLine => first | k_is | rfl)
    (case su_BadLot_BadMachine => first | k_is | rfl)
    (case su_BadLot_BadName => first | k_is | rfl)
    (case su_BadLot_BadNumber => first | k_is | rfl)
    (case su_BadLot_BadPaper => first | k_is | rfl)
    (case su_BadLot_BadPiece => first | k_is | rfl)
    (case su_BadLot_BadPoint => first | k_is | rfl)
    (case su_BadLot_BadText => first | k_is | rfl)
    (case su_BadLot_BadTurn => first | k_is | rfl)
    (case su_BadLot_BadWord => first | k_is | rfl)
    (case su_BadLot_BallError => first | k_is | rfl)
    (case su_BadLot_LookupError => first | k_is | rfl)
    (case su_BadLot_NoName => first | k_is | rfl)
    (case su_BadLot_NoWay => first | k_is | rfl)
    (case su_BadLot_Nothing => first | k_is | rfl)
    (case su_BadLot_Thin => first | k_is | rfl)
    (case su_BadLot_TooMany => first | k_is | rfl)
    (case su_BadLot_Twice => first | k_is | rfl)
    (case su_BadLot_ValueError => first | k_is | rfl)
    (case su_BadMachine_BadLetter => first | k_is | rfl)
    (case su_BadMachine_BadLine => first | k_is | rfl)
    (case su_BadMachine_BadLot => first | k_is | rfl)
    (case su_BadMachine_BadName => first | k_is | rfl)
    (case su_BadMachine_BadNumber => first | k_is | rfl)
    (case su_BadMachine_BadPaper => first | k_is | rfl)
    (case su_BadMachine_BadPiece => first | k_is | rfl)
    (case su_BadMachine_BadPoint => first | k_is | rfl)
    (case su_BadMachine_BadText => first | k_is | rfl)
    (case su_BadMachine_BadTurn => first | k_is | rfl)
    (case su_BadMachine_BadWord => first | k_is | rfl)
    (case su_BadMachine_BallError => first | k_is | rfl)
    (case su_BadMachine_LookupError => first | k_is | rfl)
    (case su_BadMachine_NoName => first | k_is | rfl)
    (case su_BadMachine_NoWay => first | k_is | rfl)
    (case su_BadMachine_Nothing => first | k_is | rfl)
    (case su_BadMachine_Thin => first | k_is | rfl)
    (case su_BadMachine_TooMany => first | k_is | rfl)
    (case su_BadMachine_Twice => first | k_is | rfl)
    (case su_BadMachine_ValueError => first | k_is | rfl)
    (case su_BadName_BadLetter => first | k_is | rfl)
    (case su_BadName_BadLine => first | k_is | rfl)
    (case su_BadName_BadLot => first | k_is | rfl)
    (case su_BadName_BadMachine => first | k_is | rfl)
    (case su_BadName_BadNumber => first | k_is | rfl)
    (case su_BadName_BadPaper => first | k_is | rfl)
    (case su_BadName_BadPiece => first | k_is | rfl)
    (case su_BadName_BadPoint => first | k_is | rfl)
    (case su_BadName_BadText => first | k_is | rfl)
    (case su_BadName_BadTurn => first | k_is | rfl)
    (case su_BadName_BadWord => first | k_is | rfl)
    (case su_BadName_BallError => first | k_is | rfl)
    (case su_BadName_LookupError => first | k_is | rfl)
    (case su_BadName_NoName => first | k_is | rfl)
    (case su_BadName_NoWay => first | k_is | rfl)
    (case su_BadName_Nothing => first | k_is | rfl)
    (case su_BadName_Thin => first | k_is | rfl)
    (case su_BadName_TooMany => first | k_is | rfl)
    (case su_BadName_Twice => first | k_is | rfl)
    (case su_BadName_ValueError => first | k_is | rfl)
    (case su_BadNumber_BadLetter => first | k_is | rfl)
    (case su_BadNumber_BadLine => first | k_is | rfl)
    (case su_BadNumber_BadLot => first | k_is | rfl)
    (case su_BadNumber_BadMachine => first | k_is | rfl)
    (case su_BadNumber_BadName => first | k_is | rfl)
    (case su_BadNumber_BadPaper => first | k_is | rfl)
    (case su_BadNumber_BadPiece => first | k_is | rfl)
    (case su_BadNumber_BadPoint => first | k_is | rfl)
    (case su_BadNumber_BadText => first | k_is | rfl)
    (case su_BadNumber_BadTurn => first | k_is | rfl)
    (case su_BadNumber_BadWord => first | k_is | rfl)
    (case su_BadNumber_BallError => first | k_is | rfl)
    (case su_BadNumber_LookupError => first | k_is | rfl)
    (case su_BadNumber_NoName => first | k_is | rfl)
    (case su_BadNumber_NoWay => first | k_is | rfl)
    (case su_BadNumber_Nothing => first | k_is | rfl)
    (case su_BadNumber_Thin => first | k_is | rfl)
    (case su_BadNumber_TooMany => first | k_is | rfl)
    (case su_BadNumber_Twice => first | k_is | rfl)
    (case su_BadNumber_ValueError => first | k_is | rfl)
    (case su_BadPaper_BadLetter => first | k_is | rfl)
    (case su_BadPaper_BadLine => first | k_is | rfl)
    (case su_BadPaper_BadLot => first | k_is | rfl)
    (case su_BadPaper_BadMachine => first | k_is | rfl)
    (case su_BadPaper_BadName => first | k_is | rfl)
    (case su_BadPaper_BadNumber => first | k_is | rfl)
    (case su_BadPaper_BadPiece => first | k_is | rfl)
    (case su_BadPaper_BadPoint => first | k_is | rfl)
    (case su_BadPaper_BadText => first | k_is | rfl)
    (case su_BadPaper_BadTurn => first | k_is | rfl)
    (case su_BadPaper_BadWord => first | k_is | rfl)
    (case su_BadPaper_BallError => first | k_is | rfl)
    (case su_BadPaper_LookupError => first | k_is | rfl)
    (case su_BadPaper_NoName => first | k_is | rfl)
    (case su_BadPaper_NoWay => first | k_is | rfl)
    (case su_BadPaper_Nothing => first | k_is | rfl)
    (case su_BadPaper_Thin => first | k_is | rfl)
    (case su_BadPaper_TooMany => first | k_is | rfl)
    (case su_BadPaper_Twice => first | k_is | rfl)
    (case su_BadPaper_ValueError => first | k_is | rfl)
    (case su_BadPiece_BadLetter => first | k_is | rfl)
    (case su_BadPiece_BadLine => first | k_is | rfl)
    (case su_BadPiece_BadLot => first | k_is | rfl)
    (case su_BadPiece_BadMachine => first | k_is | rfl)
    (case su_BadPiece_BadName => first | k_is | rfl)
    (case su_BadPiece_BadNumber => first | k_is | rfl)
    (case su_BadPiece_BadPaper => first | k_is | rfl)
    (case su_BadPiece_BadPoint => first | k_is | rfl)
    (case su_BadPiece_BadText => first | k_is | rfl)
    (case su_BadPiece_BadTurn => first | k_is | rfl)
    (case su_BadPiece_BadWord => first | k_is | rfl)
    (case su_BadPiece_BallError => first | k_is | rfl)
    (case su_BadPiece_LookupError => first | k_is | rfl)
    (case su_BadPiece_NoName => first | k_is | rfl)
    (case su_BadPiece_NoWay => first | k_is | rfl)
    (case su_BadPiece_Nothing => first | k_is | rfl)
    (case su_BadPiece_Thin => first | k_is | rfl)
    (case su_BadPiece_TooMany => first | k_is | rfl)
    (case su_BadPiece_Twice => first | k_is | rfl)
    (case su_BadPiece_ValueError => first | k_is | rfl)
    (case su_BadPoint_BadLetter => first | k_is | rfl)
    (case su_BadPoint_BadLine => first | k_is | rfl)
    (case su_BadPoint_BadLot => first | k_is | rfl)
    (case su_BadPoint_BadMachine => first | k_is | rfl)
    (case su_BadPoint_BadName => first | k_is | rfl)
    (case su_BadPoint_BadNumber => first | k_is | rfl)
    (case su_BadPoint_BadPaper => first | k_is | rfl)
    (case su_BadPoint_BadPiece => first | k_is | rfl)
    (case su_BadPoint_BadText => first | k_is | rfl)
    (case su_BadPoint_BadTurn => first | k_is | rfl)
    (case su_BadPoint_BadWord => first | k_is | rfl)
    (case su_BadPoint_BallError => first | k_is | rfl)
    (case su_BadPoint_LookupError => first | k_is | rfl)
    (case su_BadPoint_NoName => first | k_is | rfl)
    (case su_BadPoint_NoWay => first | k_is | rfl)
    (case su_BadPoint_Nothing => first | k_is | rfl)
    (case su_BadPoint_Thin => first | k_is | rfl)
    (case su_BadPoint_TooMany => first | k_is | rfl)
    (case su_BadPoint_Twice => first | k_is | rfl)
    (case su_BadPoint_ValueError => first | k_is | rfl)
    (case su_BadText_BadLetter => first | k_is | rfl)
    (case su_BadText_BadLine => first | k_is | rfl)
    (case su_BadText_BadLot => first | k_is | rfl)
    (case su_BadText_BadMachine => first | k_is | rfl)
    (case su_BadText_BadName => first | k_is | rfl)
    (case su_BadText_BadNumber => first | k_is | rfl)
    (case su_BadText_BadPaper => first | k_is | rfl)
    (case su_BadText_BadPiece => first | k_is | rfl)
    (case su_BadText_BadPoint => first | k_is | rfl)
    (case su_BadText_BadTurn => first | k_is | rfl)
    (case su_BadText_BadWord => first | k_is | rfl)
    (case su_BadText_BallError => first | k_is | rfl)
    (case su_BadText_LookupError => first | k_is | rfl)
    (case su_BadText_NoName => first | k_is | rfl)
    (case su_BadText_NoWay => first | k_is | rfl)
    (case su_BadText_Nothing => first | k_is | rfl)
    (case su_BadText_Thin => first | k_is | rfl)
    (case su_BadText_TooMany => first | k_is | rfl)
    (case su_BadText_Twice => first | k_is | rfl)
    (case su_BadText_ValueError => first | k_is | rfl)
    (case su_BadTurn_BadLetter => first | k_is | rfl)
    (case su_BadTurn_BadLine => first | k_is | rfl)
    (case su_BadTurn_BadLot => first | k_is | rfl)
    (case su_BadTurn_BadMachine => first | k_is | rfl)
    (case su_BadTurn_BadName => first | k_is | rfl)
    (case su_BadTurn_BadNumber => first | k_is | rfl)
    (case su_BadTurn_BadPaper => first | k_is | rfl)
    (case su_BadTurn_BadPiece => first | k_is | rfl)
    (case su_BadTurn_BadPoint => first | k_is | rfl)
    (case su_BadTurn_BadText => first | k_is | rfl)
    (case su_BadTurn_BadWord => first | k_is | rfl)
    (case su_BadTurn_BallError => first | k_is | rfl)
    (case su_BadTurn_LookupError => first | k_is | rfl)
    (case su_BadTurn_NoName => first | k_is | rfl)
    (case su_BadTurn_NoWay => first | k_is | rfl)
    (case su_BadTurn_Nothing => first | k_is | rfl)
    (case su_BadTurn_Thin => first | k_is | rfl)
    (case su_BadTurn_TooMany => first | k_is | rfl)
    (case su_BadTurn_Twice => first | k_is | rfl)
    (case su_BadTurn_ValueError => first | k_is | rfl)
    (case su_BadWord_BadLetter => first | k_is | rfl)
    (case su_BadWord_BadLine => first | k_is | rfl)
    (case su_BadWord_BadLot => first | k_is | rfl)
    (case su_BadWord_BadMachine => first | k_is | rfl)
    (case su_BadWord_BadName => first | k_is | rfl)
    (case su_BadWord_BadNumber => first | k_is | rfl)
    (case su_BadWord_BadPaper => first | k_is | rfl)
    (case su_BadWord_BadPiece => first | k_is | rfl)
    (case su_BadWord_BadPoint => first | k_is | rfl)
    (case su_BadWord_BadText => first | k_is | rfl)
    (case su_BadWord_BadTurn => first | k_is | rfl)
    (case su_BadWord_BallError => first | k_is | rfl)
    (case su_BadWord_LookupError => first | k_is | rfl)
    (case su_BadWord_NoName => first | k_is | rfl)
    (case su_BadWord_NoWay => first | k_is | rfl)
    (case su_BadWord_Nothing => first | k_is | rfl)
    (case su_BadWord_Thin => first | k_is | rfl)
    (case su_BadWord_TooMany => first | k_is | rfl)
    (case su_BadWord_Twice => first | k_is | rfl)
    (case su_BadWord_ValueError => first | k_is | rfl)
    (case su_NoName_BadLetter => first | k_is | rfl)
    (case su_NoName_BadLine => first | k_is | rfl)
    (case su_NoName_BadLot => first | k_is | rfl)
    (case su_NoName_BadMachine => first | k_is | rfl)
    (case su_NoName_BadName => first | k_is | rfl)
    (case su_NoName_BadNumber => first | k_is | rfl)
    (case su_NoName_BadPaper => first | k_is | rfl)
    (case su_NoName_BadPiece => first | k_is | rfl)
    (case su_NoName_BadPoint => first | k_is | rfl)
    (case su_NoName_BadText => first | k_is | rfl)
    (case su_NoName_BadTurn => first | k_is | rfl)
    (case su_NoName_BadWord => first | k_is | rfl)
    (case su_NoName_BallError => first | k_is | rfl)
    (case su_NoName_LookupError => first | k_is | rfl)
    (case su_NoName_NoWay => first | k_is | rfl)
    (case su_NoName_Nothing => first | k_is | rfl)
    (case su_NoName_Thin => first | k_is | rfl)
    (case su_NoName_TooMany => first | k_is | rfl)
    (case su_NoName_Twice => first | k_is | rfl)
    (case su_NoName_ValueError => first | k_is | rfl)
    (case su_NoWay_BadLetter => first | k_is | rfl)
    (case su_NoWay_BadLine => first | k_is | rfl)
    (case su_NoWay_BadLot => first | k_is | rfl)
    (case su_NoWay_BadMachine => first | k_is | rfl)
    (case su_NoWay_BadName => first | k_is | rfl)
    (case su_NoWay_BadNumber => first | k_is | rfl)
    (case su_NoWay_BadPaper => first | k_is | rfl)
    (case su_NoWay_BadPiece => first | k_is | rfl)
    (case su_NoWay_BadPoint => first | k_is | rfl)
    (case su_NoWay_BadText => first | k_is | rfl)
    (case su_NoWay_BadTurn => first | k_is | rfl)
    (case su_NoWay_BadWord => first | k_is | rfl)
    (case su_NoWay_BallError => first | k_is | rfl)
    (case su_NoWay_LookupError => first | k_is | rfl)
    (case su_NoWay_NoName => first | k_is | rfl)
    (case su_NoWay_Nothing => first | k_is | rfl)
    (case su_NoWay_Thin => first | k_is | rfl)
    (case su_NoWay_TooMany => first | k_is | rfl)
    (case su_NoWay_Twice => first | k_is | rfl)
    (case su_NoWay_ValueError => first | k_is | rfl)
    (case su_Nothing_BadLetter => first | k_is | rfl)
    (case su_Nothing_BadLine => first | k_is | rfl)
    (case su_Nothing_BadLot => first | k_is | rfl)
    (case su_Nothing_BadMachine => first | k_is | rfl)
    (case su_Nothing_BadName => first | k_is | rfl)
    (case su_Nothing_BadNumber => first | k_is | rfl)
    (case su_Nothing_BadPaper => first | k_is | rfl)
    (case su_Nothing_BadPiece => first | k_is | rfl)
    (case su_Nothing_BadPoint => first | k_is | rfl)
    (case su_Nothing_BadText => first | k_is | rfl)
    (case su_Nothing_BadTurn => first | k_is | rfl)
    (case su_Nothing_BadWord => first | k_is | rfl)
    (case su_Nothing_BallError => first | k_is | rfl)
    (case su_Nothing_LookupError => first | k_is | rfl)
    (case su_Nothing_NoName => first | k_is | rfl)
    (case su_Nothing_NoWay => first | k_is | rfl)
    (case su_Nothing_Thin => first | k_is | rfl)
    (case su_Nothing_TooMany => first | k_is | rfl)
    (case su_Nothing_Twice => first | k_is | rfl)
    (case su_Nothing_ValueError => first | k_is | rfl)
    (case su_Thin_BadLetter => first | k_is | rfl)
    (case su_Thin_BadLine => first | k_is | rfl)
    (case su_Thin_BadLot => first | k_is | rfl)
    (case su_Thin_BadMachine => first | k_is | rfl)
    (case su_Thin_BadName => first | k_is | rfl)
    (case su_Thin_BadNumber => first | k_is | rfl)
    (case su_Thin_BadPaper => first | k_is | rfl)
    (case su_Thin_BadPiece => first | k_is | rfl)
    (case su_Thin_BadPoint => first | k_is | rfl)
    (case su_Thin_BadText => first | k_is | rfl)
    (case su_Thin_BadTurn => first | k_is | rfl)
    (case su_Thin_BadWord => first | k_is | rfl)
    (case su_Thin_BallError => first | k_is | rfl)
    (case su_Thin_LookupError => first | k_is | rfl)
    (case su_Thin_NoName => first | k_is | rfl)
    (case su_Thin_NoWay => first | k_is | rfl)
    (case su_Thin_Nothing => first | k_is | rfl)
    (case su_Thin_TooMany => first | k_is | rfl)
    (case su_Thin_Twice => first | k_is | rfl)
    (case su_Thin_ValueError => first | k_is | rfl)
    (case su_TooMany_BadLetter => first | k_is | rfl)
    (case su_TooMany_BadLine => first | k_is | rfl)
    (case su_TooMany_BadLot => first | k_is | rfl)
    (case su_TooMany_BadMachine => first | k_is | rfl)
    (case su_TooMany_BadName => first | k_is | rfl)
    (case su_TooMany_BadNumber => first | k_is | rfl)
    (case su_TooMany_BadPaper => first | k_is | rfl)
    (case su_TooMany_BadPiece => first | k_is | rfl)
    (case su_TooMany_BadPoint => first | k_is | rfl)
    (case su_TooMany_BadText => first | k_is | rfl)
    (case su_TooMany_BadTurn => first | k_is | rfl)
    (case su_TooMany_BadWord => first | k_is | rfl)
    (case su_TooMany_BallError => first | k_is | rfl)
    (case su_TooMany_LookupError => first | k_is | rfl)
    (case su_TooMany_NoName => first | k_is | rfl)
    (case su_TooMany_NoWay => first | k_is | rfl)
    (case su_TooMany_Nothing => first | k_is | rfl)
    (case su_TooMany_Thin => first | k_is | rfl)
    (case su_TooMany_Twice => first | k_is | rfl)
    (case su_TooMany_ValueError => first | k_is | rfl)
    (case su_Twice_BadLetter => first | k_is | rfl)
    (case su_Twice_BadLine => first | k_is | rfl)
    (case su_Twice_BadLot => first | k_is | rfl)
    (case su_Twice_BadMachine => first | k_is | rfl)
    (case su_Twice_BadName => first | k_is | rfl)
    (case su_Twice_BadNumber => first | k_is | rfl)
    (case su_Twice_BadPaper => first | k_is | rfl)
    (case su_Twice_BadPiece => first | k_is | rfl)
    (case su_Twice_BadPoint => first | k_is | rfl)
    (case su_Twice_BadText => first | k_is | rfl)
    (case su_Twice_BadTurn => first | k_is | rfl)
    (case su_Twice_BadWord => first | k_is | rfl)
    (case su_Twice_BallError => first | k_is | rfl)
    (case su_Twice_LookupError => first | k_is | rfl)
    (case su_Twice_NoName => first | k_is | rfl)
    (case su_Twice_NoWay => first | k_is | rfl)
    (case su_Twice_Nothing => first | k_is | rfl)
    (case su_Twice_Thin => first | k_is | rfl)
    (case su_Twice_TooMany => first | k_is | rfl)
    (case su_Twice_ValueError => first | k_is | rfl)
    (case ga_BadLetter => k_is)
    (case gg_BadLetter => k_is)
    (case hd_BadLetter => k_is)
    (case ga_BadLine => k_is)
    (case gg_BadLine => k_is)
    (case hd_BadLine => k_is)
    (case ga_BadLot => k_is)
    (case gg_BadLot => k_is)
    (case hd_BadLot => k_is)
    (case ga_BadMachine => k_is)
    (case gg_BadMachine => k_is)
    (case hd_BadMachine => k_is)
    (case ga_BadName => k_is)
    (case gg_BadName => k_is)
    (case hd_BadName => k_is)
    (case ga_BadNumber => k_is)
    (case gg_BadNumber => k_is)
    (case hd_BadNumber => k_is)
    (case ga_BadPaper => k_is)
    (case gg_BadPaper => k_is)
    (case hd_BadPaper => k_is)
    (case ga_BadPiece => k_is)
    (case gg_BadPiece => k_is)
    (case hd_BadPiece => k_is)
    (case ga_BadPoint => k_is)
    (case gg_BadPoint => k_is)
    (case hd_BadPoint => k_is)
    (case ga_BadText => k_is)
    (case gg_BadText => k_is)
    (case hd_BadText => k_is)
    (case ga_BadTurn => k_is)
    (case gg_BadTurn => k_is)
    (case hd_BadTurn => k_is)
    (case ga_BadWord => k_is)
    (case gg_BadWord => k_is)
    (case hd_BadWord => k_is)
    (case ga_NoName => k_is)
    (case gg_NoName => k_is)
    (case hd_NoName => k_is)
    (case ga_NoWay => k_is)
    (case gg_NoWay => k_is)
    (case hd_NoWay => k_is)
    (case ga_Thin => k_is)
    (case gg_Thin => k_is)
    (case hd_Thin => k_is)
    (case ga_TooMany => k_is)
    (case gg_TooMany => k_is)
    (case hd_TooMany => k_is)
    (case ga_Twice => k_is)
    (case gg_Twice => k_is)
    (case hd_Twice => k_is)
    (case ha_BadLetter => k_is)
    (case hn => k_is)
    (case htk => k_is)
    (case hm_BadLetter => k_is)
    (case clI_BadLetter => k_is)
    (case ha_BadLine => k_is)
    (case hm_BadLine => k_is)
    (case clI_BadLine => k_is)
    (case ha_BadLot => k_is)
    (case hm_BadLot => k_is)
    (case clI_BadLot => k_is)
    (case ha_BadMachine => k_is)
    (case hm_BadMachine => k_is)
    (case clI_BadMachine => k_is)
    (case ha_BadName => k_is)
    (case hm_BadName => k_is)
    (case clI_BadName => k_is)
    (case ha_BadNumber => k_is)
    (case hm_BadNumber => k_is)
    (case clI_BadNumber => k_is)
    (case ha_BadPaper => k_is)
    (case hm_BadPaper => k_is)
    (case clI_BadPaper => k_is)
    (case ha_BadPiece => k_is)
    (case hm_BadPiece => k_is)
    (case clI_BadPiece => k_is)
    (case ha_BadPoint => k_is)
    (case hm_BadPoint => k_is)
    (case clI_BadPoint => k_is)
    (case ha_BadText => k_is)
    (case hm_BadText => k_is)
    (case clI_BadText => k_is)
    (case ha_BadTurn => k_is)
    (case hm_BadTurn => k_is)
    (case clI_BadTurn => k_is)
    (case ha_BadWord => k_is)
    (case hm_BadWord => k_is)
    (case clI_BadWord => k_is)
    (case ha_NoName => k_is)
    (case hm_NoName => k_is)
    (case clI_NoName => k_is)
    (case ha_NoWay => k_is)
    (case hm_NoWay => k_is)
    (case clI_NoWay => k_is)
    (case ha_Nothing => k_is)
    (case hm_Nothing => k_is)
    (case clI_Nothing => k_is)
    (case ga_Nothing => k_is)
    (case gg_Nothing => k_is)
    (case hd_Nothing => k_is)
    (case ha_Thin => k_is)
    (case hm_Thin => k_is)
    (case clI_Thin => k_is)
    (case ha_TooMany => k_is)
    (case hm_TooMany => k_is)
    (case clI_TooMany => k_is)
    (case ha_Twice => k_is)
    (case hm_Twice => k_is)
    (case clI_Twice => k_is)
