import PyProof.Rows.All
import Wide.All
import OpenK.AllK
import Wide.FinOn
import KE.KExcSuper
import HandS.ForExc
import HandS.ExcInit
import HandS.ExcValue
import KE.KExcIs
import HandS.ExcField
import HandS.IsInst
import HandS.TryMany
import HandS.ForMost
import HandS.Walk
import HandS.Flow
import HandS.Style
import HandS.More
import HandS.NoneIn
import HandS.StrMore
import HandS.Wide
import HandS.Codes
import HandS.TupAny
import PyProof.StrOps2
import PyProof.Draws
import HandS.Defaults
import PySem.Challenge.RW_copyshare_k30_twins_words_apart_and_tops
set_option Elab.async false
set_option linter.all false
set_option maxRecDepth 100000
set_option maxHeartbeats 4000000
/-! ErrA: the making of an own error whose __init__ says super().__init__('..') and then stores its parameters, at the library's level. -/
namespace PySem
namespace ErrX
open PySem.W PySem.Calls PyProof.Rows PySem.Spec PySem.HandSPX

/-- the statement super().__init__(msg) -/
abbrev sup (msg : Str) (p0 p1 p2 p3 p4 p5 : Pos) : Stmt :=
  .Expr (.Call (.Attribute (.Call (.Name "super" p0) [] [] p1) "__init__" p2) [.Constant (.str msg) 0 p3] [] p4) p5
abbrev sto (f : Str) (q0 q1 q2 q3 : Pos) : Stmt := .Assign [.Attribute (.Name "self" q0) f q1] (.Name f q2) q3

/-- how super().__init__(msg) is evaluated -/
def SupEv (msg : Str) (p0 p1 p2 p3 p4 : Pos) (pl : Sem Bool) (env : Env) : Prop :=
  eval (.Call (.Attribute (.Call (.Name "super" p0) [] [] p1) "__init__" p2) [.Constant (.str msg) 0 p3] [] p4) env = (do
      let ov ← attributeBase (.Call (.Name "super" p0) [] [] p1) "__init__" env (eval (.Call (.Name "super" p0) [] [] p1) env)
      standAt p2.atName
      let (f, first) ← holding [ov] (getMethod ov "__init__" pl)
      callWith p4 f first (backTo p4 (starEach [.Constant (.str msg) 0 p3] env)) [])
/-- what the written part says of an error's class at C, whose __init__ stands at fI -/
structure ECls (prog : Program) (K : Frag) (C fI : Addr) : Prop where
  cls : ∃ nm q N bs bm sn sub ab col dd k0 k1 k2 k3 k5, K.lookup C = some (excClassObj nm q C N bs bm true sn sub ab col dd k0 k1 k2 k3 k5 "ValueError.__new__") ∧ refsVE bm = true ∧
    alongIn K "__init__" bm = some (some (.builtin "ValueError.__init__"))
  sa : findIn K (.ref C) "__setattr__" = some (some (.builtin "object.__setattr__"))
  iC : findIn K (.ref C) "__init__" = some (some (.ref fI))
  tI : typeIn K (.ref fI) = some (.type "function")
  exC : subIn K (.ref C) (.type "BaseException") = some true
  veC : subIn K (.ref C) (.type "ValueError") = some true
  tyC : typeIn K (.ref C) = some (.type "type")
  kC : keepIn K (.ref C) = true
  own : mroIn K C (.ref C) = some true
  noSup : nsIn K mainGlobals "super" = some none
  noAny : nsIn K cStatics "thirdparty.any" = some none
  top : (prog.main.scope.names.lookup ("super" : Str)).isSome = false

structure EFun (prog : Program) (K : Frag) (C fI : Addr) (params : Arguments) (body : List Stmt) (scope : Scope) : Prop where
  fn : ∃ (oc : Value) (od an : Option Addr) (kV doc pm ct : Value) (osl : Array (Option Value)) (qual : Str) (cda cc : Addr) (ccl cl : Value) (cdd cld : Option Addr) (vs : Array Value) (ccs csl : Array (Option Value)) (file : Str) (tf : Tok),
    K.lookup fI = some ⟨oc, od, .func (ksFn "__init__" qual params body scope .none kV doc pm an (.ref cda) ct cc), osl⟩ ∧ codeIn K (.ref cda) qual = true ∧
    K.lookup cda = some ⟨ccl, cdd, .fields vs, ccs⟩ ∧ vs[2]? = some (.str file tf) ∧ ((prog.main.file : Str) == file) = true ∧
    K.lookup cc = some ⟨cl, cld, .cell (some (.ref C)), csl⟩

section
variable {prog : Program} {w : World} {A : Around} {E : Value → Shared → Prop} {s : Shared} {K : Frag} {mg : Str → Option Value} {C fI : Addr}

/-- super().__init__(msg) within the __init__ of C, self at x -/
theorem sup_run {base : Heap} (M : L2.Mod K mg base) (kb : ∀ b o, base.get? b = some o → s.heap.get? b = some o) (T : ECls prog K C fI)
    {qual : Str} {params : Arguments} {body : List Stmt} {scope : Scope} {kV doc pm ct oc : Value} {an od : Option Addr} {osl : Array (Option Value)} {cda cc L : Addr} {ccl cl : Value} {cdd cld : Option Addr} {vs : Array Value} {ccs csl : Array (Option Value)} {file : Str} {tf : Tok} {ar : Arg}
    (lf : K.lookup fI = some ⟨oc, od, .func (ksFn "__init__" qual params body scope .none kV doc pm an (.ref cda) ct cc), osl⟩)
    (lc : K.lookup cda = some ⟨ccl, cdd, .fields vs, ccs⟩) (hvs : vs[2]? = some (.str file tf)) (hfile : ((prog.main.file : Str) == file) = true) (lcc : K.lookup cc = some ⟨cl, cld, .cell (some (.ref C)), csl⟩)
    (hp : (params.posonlyargs ++ params.args).head? = some ar) (hks : scope.names.lookup ("super" : Str) = some .globalImplicit) (hkc : scope.names.lookup ("__class__" : Str) = some .free) (hka : scope.names.lookup ar.arg = some .local) (hk : scope.kind = .function)
    {m : Str → Option Value} (hn : s.heap.Ns L m) {x t0 : Addr} (hm : m ar.arg = some (.ref x)) (hx : s.heap.get? x = some (excO C t0)) (xL : x ≠ L)
    {msg : Str} {p0 p1 p2 p3 p4 p5 : Pos} {rest : List Stmt} {Q : Flow → Shared → Prop} (hin : interactive (ksEnv qual scope L fI (.ref cda) cc) = false) {pl : Sem Bool} (he : SupEv msg p0 p1 p2 p3 p4 pl (ksEnv qual scope L fI (.ref cda) cc))
    (h : ∀ h' t1 tk, (∀ b o, b ≠ x → s.heap.get? b = some o → h'.get? b = some o) → h'.get? x = some (excO C t1) →
      wpAny (model prog w) A (execs rest (ksEnv qual scope L fI (.ref cda) cc)) Q E { s with heap := h', toks := tk }) :
    wpAt (model prog w) A (.func body (ksEnv qual scope L fI (.ref cda) cc)) (execs (sup msg p0 p1 p2 p3 p4 p5 :: rest) (ksEnv qual scope L fI (.ref cda) cc)) Q E s := by
  obtain ⟨nm, q, N, bs, bm, sn, sub, ab, col, dd, k0, k1, k2, k3, k5, hC, hbm, hal⟩ := T.cls
  have X : K.In s.heap := M.kin.keeps kb
  obtain ⟨mb, hb, hbb⟩ := M.blt
  refine ks_wpAt_execs_cons (ks_wpAt_Expr_any (ks_wpAt_MethodCall (pl := pl) (ks_wpAt_super_base (env := ksEnv qual scope L fI (.ref cda) cc) hks hkc (by decide) rfl (X _ _ lf) rfl hp rfl (X _ _ lc) rfl hvs hfile T.top ?_) he) hin)
  refine ks_loadName_global hk hks (loadGlobal_builtin (env := ksEnv qual scope L fI (.ref cda) cc) (M.glob.keeps kb) (mg_none_of M.kin M.glob T.noSup) (hb.keeps kb) ((hbb _ (by decide +kernel)).trans Boot.«super») ⟨rfl, ?_⟩)
  refine wpAny_loadName_free hk hkc rfl ⟨_, X _ _ lcc, rfl⟩ ?_
  refine wpAny_loadName_local hk hka hn hm ?_
  obtain ⟨hp', g, d, t, os⟩ := s
  refine ks_wpAny_isType_cls (X _ _ hC) rfl ⟨rfl, ?_⟩
  refine ks_wpAny_call_super (X _ _ hC) rfl hx rfl (fun c e => by cases e) (looks_mroIn X T.own) (fun h1 e1 kk1 => ?_)
  have X1 : K.In h1 := X.keeps kk1
  have hx1 := kk1 _ _ hx
  have hcl : clsIn K C = some { name := nm, bases := bs, mro := .ref C :: bm, ns := N, qualname := q, hasDict := true, slotNames := sn, subclasses := sub, abstract := ab, collection := col, hasDel := false } := by unfold clsIn; rw [hC] <;> rfl
  have I1 : InstAt h1 x (excO C t0) C none := ⟨hx1, rfl, rfl, trivial⟩
  have hI : Looks (model prog w) h1 (isInstance (.ref x) (.type "ValueError")) true := I1.type.andThen (looks_subIn X1 T.veC)
  refine kxs_getMethod kxs_ValueError e1 (looks_opaque X1 T.noAny) (l₀ := .ref C :: bm) ?_ (l := bm) (by simp [List.dropWhile_cons]) X1 hal hI (ks_ne X1 I1 hcl) (by decide) ?_
  · exact fun A Q E s k q => wpAny_bind ((looks_clsIn X1 hcl) A _ E s k (wpAny_pure q))
  have kk2 : ∀ b o, h1.get? b = some o → (h1.push (kxs_mw "ValueError.__init__" x)).get? b = some o := fun b o e => Heap.get?_push_of_some _ e
  have hu : (h1.push (kxs_mw "ValueError.__init__" x)).get? h1.objs.size = some (kxs_mw "ValueError.__init__" x) := Heap.get?_push_at rfl rfl
  refine kxs_callWith (i := "ValueError.__init__") (x := x) rfl ?_
  refine evalArgs_plain (spliced_cons (x := eval (.Constant (.str msg) 0 p3) (ksEnv qual scope L fI (.ref cda) cc)) ?_)
  refine Constant_str (k := 0) (pos := p3) ?_
  refine spliced_nil ?_
  refine ⟨hu, ?_⟩
  refine wpAny_call (codeAny_of_tree ?_)
  show wpAny _ A.in1 (callAny (.ref h1.objs.size) ⟨_, []⟩) _ _ _
  simp only [callAny]
  refine wpAny_bind (wpAny_load hu ?_)
  simp only [kxs_mw, show (Value.type "method-wrapper" == Value.type "method" || Value.type "method-wrapper" == Value.type "builtin_function_or_method" || Value.type "method-wrapper" == Value.type "method-wrapper") = true by decide, if_true]
  refine KFB.if_so (by decide) ?_
  refine wpAny_bind (check_bound_init F.excBase_ValueError.toExcCallFacts (kk2 _ _ (X1 _ _ hC)) (kk2 _ _ hx1) rfl ?_)
  refine wpAny_bind (wpAny_pure (wpAny_pure ?_))
  refine ⟨plainId_quiet F.excBase_ValueError.init.plain _, codeAny_builtin F.excBase_ValueError.initEntry ?_⟩
  refine exc_init_tree (cls := .ref C) (t0 := t0) (dv := none) (c2 := .none) (c3 := .none) (b4 := .bool false) (kk2 _ _ hx1) (by rw [sizeLine_eq]; show 1 ≤ 16777216; decide) (fun h' k' e' t' => ?_)
  exact wpAt_of_wpAny (h h' _ _ (fun b o hb ho => k' b o hb (kk2 b o (kk1 b o ho))) e')

/-- what __init__ leaves of a fresh error at x: its dict at dx -/
structure InitEnd (h h' : Heap) (x C dx : Addr) (m : Str → Option Value) : Prop where
  keep : ∀ b o, b ≠ x → h.get? b = some o → h'.get? b = some o
  obj : ∃ t1, h'.get? x = some { cls := .ref C, dict := some dx, data := .fields #[.ref t1, .none, .none, .none, .bool false, .none] }
  dbig : h.objs.size ≤ dx
  dne : dx ≠ x
  ns : h'.Ns1 dx m

theorem ld_L {M : Model} {s : Shared} {name : Str} {scope : Scope} {L a cc : Addr} {cd : Value} {m : Str → Option Value} {x : Str} {pos : Pos} {v : Value} {Q : Value → Shared → Prop} {A : Around} {E : Value → Shared → Prop} (hn : s.heap.Ns L m) (hv : m x = some v) (h : Q v s)
    (hk : scope.kind = .function) (hl : scope.names.lookup x = some .local) (hd : (x == ("__debug__" : Str)) = false) :
    wpAny M A (eval (.Name x pos) (ksEnv name scope L a cd cc)) Q E s := wpAny_Name (wpAny_loadName_local hk hl hn hv h) hd

/-- self, then the parameters, as they are bound -/
abbrev bnd (x : Addr) (ps : List Str) (us : List Value) : List (Str × Value) := (("self" : Str), Value.ref x) :: ps.zip us
/-- what binding leaves in the frame: self, then the parameters -/
structure EShape (params : Arguments) (scope : Scope) (ps : List Str) : Prop where
  self : scope.names.lookup ("self" : Str) = some .local
  loc : ∀ f ∈ ps, scope.names.lookup f = some .local ∧ (f == ("self" : Str)) = false ∧ (f == ("__debug__" : Str)) = false
  sup : scope.names.lookup ("super" : Str) = some .globalImplicit
  cls : scope.names.lookup ("__class__" : Str) = some .free
  kind : scope.kind = .function
  co : scope.isCoroutine = false
  gen : scope.isGenerator = false
  cell : ∀ y ∈ scope.names, y.2 ≠ .cell
  par : ∃ p a, (params.posonlyargs ++ params.args).head? = some { arg := "self", annotation := a, pos := p }
  nd : ps.Nodup

/-- the entry of __init__, and its first statement -/
theorem err_enter {base : Heap} (M : L2.Mod K mg base) (kb : ∀ b o, base.get? b = some o → s.heap.get? b = some o) (T : ECls prog K C fI)
    {params : Arguments} {scope : Scope} {msg : Str} {ps : List Str} {p0 p1 p2 p3 p4 p5 : Pos} {rest : List Stmt} (S : EShape params scope ps)
    (F : EFun prog K C fI params (sup msg p0 p1 p2 p3 p4 p5 :: rest) scope)
    {R : Result → Shared → Prop} {x t0 : Addr} {us : List Value} (hx : s.heap.get? x = some (excO C t0)) (hbx : base.get? x = none) (hroom : A.depth < recursionLimit) (hl : us.length = ps.length)
    (hb : ∀ (qual : Str) (kV doc pm ct : Value) (an : Option Addr) (cda cc : Addr), BindsTo s (ksFn "__init__" qual params (sup msg p0 p1 p2 p3 p4 p5 :: rest) scope .none kV doc pm an (.ref cda) ct cc) ⟨.ref x :: us, []⟩ (bnd x ps us))
    (hev : ∀ (L cda cc : Addr) (qual : Str), interactive (ksEnv qual scope L fI (.ref cda) cc) = false ∧ (∃ pl, SupEv msg p0 p1 p2 p3 p4 pl (ksEnv qual scope L fI (.ref cda) cc)))
    (h : ∀ (h' : Heap) (t1 tk cda cc : Addr) (qual : Str) (A' : Around), (∀ b o, b ≠ x → s.heap.get? b = some o → h'.get? b = some o) → s.heap.objs.size ≠ x → h'.get? x = some (excO C t1) →
      h'.Ns s.heap.objs.size (fun y => (bnd x ps us).reverse.lookup y) →
      wpAny (model prog w) A' (execs rest (ksEnv qual scope s.heap.objs.size fI (.ref cda) cc)) (fun f s' => R (.ok (.ret (match f with | .ret v => v | _ => .none))) s') (fun _ _ => False) { s with heap := h', toks := tk }) :
    codeAny (model prog w) A (.call (.ref fI) ⟨.ref x :: us, []⟩) R s := by
  obtain ⟨oc, od, an, kV, doc, pm, ct, osl, qual, cda, cc, ccl, cl, cdd, cld, vs, ccs, csl, file, tf, lf, hcd, lc, hvs, hfile, lcc⟩ := F.fn
  obtain ⟨pp, pa, hp⟩ := S.par
  have X : K.In s.heap := M.kin.keeps kb
  refine ks_codeAny_call_defAt (fd := ksFn "__init__" qual params _ scope .none kV doc pm an (.ref cda) ct cc) (binds := bnd x ps us) hroom (X _ _ lf) rfl (M.nolimit.keeps kb) (codeRec_of X hcd) rfl (hb _ _ _ _ _ _ _ _) S.cell
    (fun y hy => ?_) (fun h₁ hns hk₁ => ?_) S.co S.gen S.kind
  · rcases List.mem_cons.mp hy with rfl | hy
    · exact S.self
    · obtain ⟨f, u⟩ := y
      exact (S.loc f (List.of_mem_zip hy).1).1
  have hxL : s.heap.objs.size ≠ x := Nat.ne_of_gt (Heap.lt_size hx)
  have hx₁ := hk₁ _ _ hx
  obtain ⟨hin, pl, he⟩ := hev s.heap.objs.size cda cc qual
  have m1 : (fun y => List.lookup y (bnd x ps us).reverse) "self" = some (.ref x) := by
    show List.lookup ("self" : Str) ((("self" : Str), Value.ref x) :: ps.zip us).reverse = _
    rw [List.reverse_cons, List.lookup_append]
    have z : List.lookup ("self" : Str) (ps.zip us).reverse = none := by
      rw [List.lookup_eq_none_iff]
      intro p hp'
      have q := (S.loc p.1 (List.of_mem_zip (List.mem_reverse.mp hp')).1).2.1
      have q2 : p.1 ≠ "self" := by simpa using q
      simpa using Ne.symm q2
    rw [z]
    simp
  refine ks_wpAt_mono (sup_run (E := fun _ _ => False) M (fun b o e => hk₁ b o (kb b o e)) T lf lc hvs hfile lcc hp S.sup S.cls S.self S.kind hns m1 hx₁ (Ne.symm hxL) hin he fun h2 t1 tk k2 hx2 => ?_) (fun f s' q => q) (fun e s' q => q.elim)
  refine h h2 t1 tk cda cc qual _ (fun b o hbx ho => k2 b o hbx (hk₁ b o ho)) hxL hx2 ?_
  obtain ⟨o, es, ep, ho, r⟩ := hns
  exact ⟨o, es, ep, k2 _ _ hxL ho, r⟩

/-- self.f = f, the first store: the dict is laid -/
theorem err_sto0 {base h0 : Heap} (M : L2.Mod K mg base) (T : ECls prog K C fI) {scope : Scope} {L cda cc x t1 tk : Addr} {qual f : Str} {q0 q1 q2 q3 : Pos} {rest : List Stmt} {m : Str → Option Value} {v : Value} {Q : Flow → Shared → Prop}
    (kb : ∀ b o, base.get? b = some o → s.heap.get? b = some o) (hx : s.heap.get? x = some (excO C t1)) (hn : s.heap.Ns L m) (hL : L ≠ x) (ms : m "self" = some (.ref x)) (mf : m f = some v)
    (hk : scope.kind = .function) (hs : scope.names.lookup ("self" : Str) = some .local) (hf : scope.names.lookup f = some .local) (hfd : (f == ("__debug__" : Str)) = false) (nof : findIn K (.ref C) f = some none)
    (hsw : swapsWith (.Name f q2) (some (.Attribute (.Name "self" q0) f q1)) q3.line (ksEnv qual scope L fI (.ref cda) cc) = pure false)
    (h : ∀ h' tk' dx, (∀ b o, b ≠ x → s.heap.get? b = some o → h'.get? b = some o) → s.heap.objs.size ≤ dx → dx ≠ x → h'.get? x = some { cls := .ref C, dict := some dx, data := .fields #[.ref t1, .none, .none, .none, .bool false, .none] } →
      h'.Ns1 dx (fun y => if y = f then some v else none) → wpAny (model prog w) A (execs rest (ksEnv qual scope L fI (.ref cda) cc)) Q E { s with heap := h', toks := tk' }) :
    wpAny (model prog w) A (execs (sto f q0 q1 q2 q3 :: rest) (ksEnv qual scope L fI (.ref cda) cc)) Q E s := by
  obtain ⟨nm, q, N, bs, bm, sn, sub, ab, col, dd, k0, k1, k2, k3, k5, hC, hbm, hal⟩ := id T.cls
  have hcl : clsIn K C = some { name := nm, bases := bs, mro := .ref C :: bm, ns := N, qualname := q, hasDict := true, slotNames := sn, subclasses := sub, abstract := ab, collection := col, hasDel := false } := by unfold clsIn; rw [hC] <;> rfl
  have X : K.In s.heap := M.kin.keeps kb
  refine wpAny_execs_cons (plainObj_wpAny_Assign_Attribute ?_ hsw)
  refine ld_L hn mf (ld_L hn ms ?_ hk hs (by decide)) hk hf hfd
  refine set_plain X (ox := excO C t1) (od := none) ⟨hx, rfl, rfl, trivial⟩ T.sa ?_
  obtain ⟨hp, g, d, t, os⟩ := s
  exact exc_osa X hx hcl (show refsVE (.ref C :: bm) = true from hbm) rfl nof (fun h₃ tk₃ dx k₃ dn dne hx₃ hn₃ => h h₃ tk₃ dx k₃ dn dne hx₃ hn₃)
/-- .. a further store -/
theorem err_sto1 {base h0 : Heap} (M : L2.Mod K mg base) (T : ECls prog K C fI) {scope : Scope} {L cda cc x t1 tk dx : Addr} {qual f : Str} {q0 q1 q2 q3 : Pos} {rest : List Stmt} {m m0 : Str → Option Value} {nl : List Str} {v : Value} {Q : Flow → Shared → Prop}
    (kb : ∀ b o, base.get? b = some o → s.heap.get? b = some o) (hx : s.heap.get? x = some { cls := .ref C, dict := some dx, data := .fields #[.ref t1, .none, .none, .none, .bool false, .none] }) (hns : s.heap.Ns1 dx m0) (hw : Within m0 nl) (hz : nl.length ≤ 1000)
    (hn : s.heap.Ns L m) (ms : m "self" = some (.ref x)) (mf : m f = some v)
    (hk : scope.kind = .function) (hs : scope.names.lookup ("self" : Str) = some .local) (hf : scope.names.lookup f = some .local) (hfd : (f == ("__debug__" : Str)) = false) (nof : findIn K (.ref C) f = some none)
    (hsw : swapsWith (.Name f q2) (some (.Attribute (.Name "self" q0) f q1)) q3.line (ksEnv qual scope L fI (.ref cda) cc) = pure false)
    (h : ∀ h' tk', (∀ b o, b ≠ dx → s.heap.get? b = some o → h'.get? b = some o) → h'.Ns1 dx (fun y => if y = f then some v else m0 y) → wpAny (model prog w) A (execs rest (ksEnv qual scope L fI (.ref cda) cc)) Q E { s with heap := h', toks := tk' }) :
    wpAny (model prog w) A (execs (sto f q0 q1 q2 q3 :: rest) (ksEnv qual scope L fI (.ref cda) cc)) Q E s := by
  obtain ⟨nm, q, N, bs, bm, sn, sub, ab, col, dd, k0, k1, k2, k3, k5, hC, hbm, hal⟩ := id T.cls
  have hcl : clsIn K C = some { name := nm, bases := bs, mro := .ref C :: bm, ns := N, qualname := q, hasDict := true, slotNames := sn, subclasses := sub, abstract := ab, collection := col, hasDel := false } := by unfold clsIn; rw [hC] <;> rfl
  have X : K.In s.heap := M.kin.keeps kb
  refine wpAny_execs_cons (plainObj_wpAny_Assign_Attribute ?_ hsw)
  refine ld_L hn mf (ld_L hn ms ?_ hk hs (by decide)) hk hf hfd
  obtain ⟨oD, esD, epD, hoD, hdD, _⟩ := id hns
  refine set_plain X (ox := { cls := .ref C, dict := some dx, data := .fields #[.ref t1, .none, .none, .none, .bool false, .none] }) (od := some oD) ⟨hx, rfl, rfl, hoD⟩ T.sa ?_
  obtain ⟨hp, g, d, t, os⟩ := s
  exact PySem.OEX.osa_old X hx hns hw hz hcl (show refsVE (.ref C :: bm) = true from hbm) rfl nof (fun h₃ tk₃ k₃ hn₃ => h h₃ tk₃ k₃ hn₃)

/-- no field -/
theorem err_init0 {base : Heap} (M : L2.Mod K mg base) (kb : ∀ b o, base.get? b = some o → s.heap.get? b = some o) (T : ECls prog K C fI)
    {params : Arguments} {scope : Scope} {msg : Str} {p0 p1 p2 p3 p4 p5 : Pos} (S : EShape params scope [])
    (F : EFun prog K C fI params [sup msg p0 p1 p2 p3 p4 p5] scope)
    {R : Result → Shared → Prop} {x t0 : Addr} (hx : s.heap.get? x = some (excO C t0)) (hbx : base.get? x = none) (hroom : A.depth < recursionLimit)
    (hb : ∀ (qual : Str) (kV doc pm ct : Value) (an : Option Addr) (cda cc : Addr), BindsTo s (ksFn "__init__" qual params [sup msg p0 p1 p2 p3 p4 p5] scope .none kV doc pm an (.ref cda) ct cc) ⟨[.ref x], []⟩ [("self", .ref x)])
    (hev : ∀ (L cda cc : Addr) (qual : Str), interactive (ksEnv qual scope L fI (.ref cda) cc) = false ∧ (∃ pl, SupEv msg p0 p1 p2 p3 p4 pl (ksEnv qual scope L fI (.ref cda) cc)))
    (hq : ∀ h' tk t1, (∀ b o, b ≠ x → s.heap.get? b = some o → h'.get? b = some o) → h'.get? x = some (excO C t1) → R (.ok (.ret .none)) { s with heap := h', toks := tk }) :
    codeAny (model prog w) A (.call (.ref fI) ⟨[.ref x], []⟩) R s :=
  err_enter (us := []) M kb T S F hx hbx hroom rfl hb hev fun h2 t1 tk cda cc qual A' k2 _ hx2 _ => wpAny_execs_nil (hq h2 tk t1 k2 hx2)

theorem m_self {x : Addr} {ps : List Str} {us : List Value} (h : ∀ f ∈ ps, (f == ("self" : Str)) = false) : (bnd x ps us).reverse.lookup ("self" : Str) = some (.ref x) := by
  show List.lookup ("self" : Str) ((("self" : Str), Value.ref x) :: ps.zip us).reverse = _
  rw [List.reverse_cons, List.lookup_append]
  have z : List.lookup ("self" : Str) (ps.zip us).reverse = none := by
    rw [List.lookup_eq_none_iff]
    intro p hp'
    have q := h p.1 (List.of_mem_zip (List.mem_reverse.mp hp')).1
    have q2 : p.1 ≠ "self" := by simpa using q
    simpa using Ne.symm q2
  rw [z]
  simp

/-- one field -/
theorem err_init1 {base : Heap} (M : L2.Mod K mg base) (kb : ∀ b o, base.get? b = some o → s.heap.get? b = some o) (T : ECls prog K C fI)
    {params : Arguments} {scope : Scope} {msg f : Str} {p0 p1 p2 p3 p4 p5 q0 q1 q2 q3 : Pos} (S : EShape params scope [f])
    (F : EFun prog K C fI params [sup msg p0 p1 p2 p3 p4 p5, sto f q0 q1 q2 q3] scope)
    {R : Result → Shared → Prop} {x t0 : Addr} {v : Value} (hx : s.heap.get? x = some (excO C t0)) (hbx : base.get? x = none) (hroom : A.depth < recursionLimit) (nof : findIn K (.ref C) f = some none)
    (hb : ∀ (qual : Str) (kV doc pm ct : Value) (an : Option Addr) (cda cc : Addr), BindsTo s (ksFn "__init__" qual params [sup msg p0 p1 p2 p3 p4 p5, sto f q0 q1 q2 q3] scope .none kV doc pm an (.ref cda) ct cc) ⟨[.ref x, v], []⟩ [("self", .ref x), (f, v)])
    (hev : ∀ (L cda cc : Addr) (qual : Str), interactive (ksEnv qual scope L fI (.ref cda) cc) = false ∧ (∃ pl, SupEv msg p0 p1 p2 p3 p4 pl (ksEnv qual scope L fI (.ref cda) cc)) ∧
      swapsWith (.Name f q2) (some (.Attribute (.Name "self" q0) f q1)) q3.line (ksEnv qual scope L fI (.ref cda) cc) = pure false)
    (hq : ∀ h' tk dx, InitEnd s.heap h' x C dx (fun y => if y = f then some v else none) → R (.ok (.ret .none)) { s with heap := h', toks := tk }) :
    codeAny (model prog w) A (.call (.ref fI) ⟨[.ref x, v], []⟩) R s := by
  refine err_enter (us := [v]) (ps := [f]) M kb T S F hx hbx hroom rfl hb (fun L cda cc qual => ⟨(hev L cda cc qual).1, (hev L cda cc qual).2.1⟩) fun h2 t1 tk cda cc qual A' k2 hL hx2 hn2 => ?_
  obtain ⟨l1, l2, l3⟩ := S.loc f (by simp)
  refine err_sto0 (h0 := base) (tk := tk) (t1 := t1) (x := x) (v := v) M T (fun b o e => k2 b o (fun z => by rw [z, hbx] at e; cases e) (kb b o e)) hx2 hn2 hL (m_self fun g hg => (S.loc g hg).2.1) ?_ S.kind S.self l1 l3 nof (hev _ _ _ _).2.2 ?_
  · show List.lookup f [(f, v), (("self" : Str), Value.ref x)] = _
    simp
  · intro h3 tk3 dx k3 dn dne hx3 hn3
    refine wpAny_execs_nil (hq h3 tk3 dx ⟨fun b o hb ho => k3 b o hb (k2 b o hb ho), ⟨_, hx3⟩, ?_, dne, hn3⟩)
    have z : s.heap.objs.size ≤ h2.objs.size := by
      obtain ⟨o, es, ep, ho, r⟩ := hn2
      exact Nat.le_of_lt (Heap.lt_size ho)
    exact Nat.le_trans z dn
/-- two fields -/
theorem err_init2 {base : Heap} (M : L2.Mod K mg base) (kb : ∀ b o, base.get? b = some o → s.heap.get? b = some o) (T : ECls prog K C fI)
    {params : Arguments} {scope : Scope} {msg f g : Str} {p0 p1 p2 p3 p4 p5 q0 q1 q2 q3 r0 r1 r2 r3 : Pos} (S : EShape params scope [f, g])
    (F : EFun prog K C fI params [sup msg p0 p1 p2 p3 p4 p5, sto f q0 q1 q2 q3, sto g r0 r1 r2 r3] scope)
    {R : Result → Shared → Prop} {x t0 : Addr} {v u : Value} (hx : s.heap.get? x = some (excO C t0)) (hbx : base.get? x = none) (hroom : A.depth < recursionLimit) (nof : findIn K (.ref C) f = some none) (nog : findIn K (.ref C) g = some none)
    (hb : ∀ (qual : Str) (kV doc pm ct : Value) (an : Option Addr) (cda cc : Addr), BindsTo s (ksFn "__init__" qual params [sup msg p0 p1 p2 p3 p4 p5, sto f q0 q1 q2 q3, sto g r0 r1 r2 r3] scope .none kV doc pm an (.ref cda) ct cc) ⟨[.ref x, v, u], []⟩ [("self", .ref x), (f, v), (g, u)])
    (hev : ∀ (L cda cc : Addr) (qual : Str), interactive (ksEnv qual scope L fI (.ref cda) cc) = false ∧ (∃ pl, SupEv msg p0 p1 p2 p3 p4 pl (ksEnv qual scope L fI (.ref cda) cc)) ∧
      swapsWith (.Name f q2) (some (.Attribute (.Name "self" q0) f q1)) q3.line (ksEnv qual scope L fI (.ref cda) cc) = pure false ∧ swapsWith (.Name g r2) (some (.Attribute (.Name "self" r0) g r1)) r3.line (ksEnv qual scope L fI (.ref cda) cc) = pure false)
    (hq : ∀ h' tk dx, InitEnd s.heap h' x C dx (fun y => if y = g then some u else if y = f then some v else none) → R (.ok (.ret .none)) { s with heap := h', toks := tk }) :
    codeAny (model prog w) A (.call (.ref fI) ⟨[.ref x, v, u], []⟩) R s := by
  refine err_enter (us := [v, u]) (ps := [f, g]) M kb T S F hx hbx hroom rfl hb (fun L cda cc qual => ⟨(hev L cda cc qual).1, (hev L cda cc qual).2.1⟩) fun h2 t1 tk cda cc qual A' k2 hL hx2 hn2 => ?_
  obtain ⟨l1, l2, l3⟩ := S.loc f (by simp)
  obtain ⟨j1, j2, j3⟩ := S.loc g (by simp)
  have gf : f ≠ g := by
    have z := S.nd
    simp at z
    exact z
  have fg : (f == g) = false := by simpa using gf
  have kb2 : ∀ b o, base.get? b = some o → h2.get? b = some o := fun b o e => k2 b o (fun z => by rw [z, hbx] at e; cases e) (kb b o e)
  have ms : (bnd x [f, g] [v, u]).reverse.lookup ("self" : Str) = some (.ref x) := m_self fun g hg => (S.loc g hg).2.1
  have mf : (bnd x [f, g] [v, u]).reverse.lookup f = some v := by
    show List.lookup f [(g, u), (f, v), (("self" : Str), Value.ref x)] = _
    simp [List.lookup_cons, fg]
  have mgg : (bnd x [f, g] [v, u]).reverse.lookup g = some u := by
    show List.lookup g [(g, u), (f, v), (("self" : Str), Value.ref x)] = _
    simp
  refine err_sto0 (h0 := base) (tk := tk) (t1 := t1) (x := x) (v := v) M T kb2 hx2 hn2 hL ms mf S.kind S.self l1 l3 nof (hev _ _ _ _).2.2.1 ?_
  intro h3 tk3 dx k3 dn dne hx3 hn3
  have hn3' : h3.Ns s.heap.objs.size (fun y => (bnd x [f, g] [v, u]).reverse.lookup y) := by
    obtain ⟨o, es, ep, ho, r⟩ := hn2
    exact ⟨o, es, ep, k3 _ _ hL ho, r⟩
  have z : s.heap.objs.size ≤ h2.objs.size := by
    obtain ⟨o, es, ep, ho, r⟩ := hn2
    exact Nat.le_of_lt (Heap.lt_size ho)
  refine err_sto1 (h0 := base) (tk := tk3) (t1 := t1) (x := x) (v := u) (nl := [f]) M T (fun b o e => k3 b o (fun z => by rw [z, hbx] at e; cases e) (kb2 b o e)) hx3 hn3 (Within.cons f v Within.nil) (by simp) hn3' ms mgg S.kind S.self j1 j3 nog (hev _ _ _ _).2.2.2 ?_
  intro h4 tk4 k4 hn4
  refine wpAny_execs_nil (hq h4 tk4 dx ⟨fun b o hb ho => k4 b o (fun y => ?_) (k3 b o hb (k2 b o hb ho)), ⟨_, k4 _ _ (Ne.symm dne) hx3⟩, Nat.le_trans z dn, dne, hn4⟩)
  have q := Heap.lt_size (k2 b o hb ho)
  rw [y] at q
  exact absurd (Nat.lt_of_lt_of_le q dn) (Nat.lt_irrefl _)
end
end ErrX
end PySem

set_option Elab.async false
set_option linter.all false
set_option maxRecDepth 100000
set_option maxHeartbeats 4000000
/-! ErrB: own errors over the layer: made as a value, raised, caught (the caught one is tracked), their fields, isinstance. -/
namespace L2
open PySem PySem.Spec PyProof.Rows

/-- an error object of the class cls, its dict d, at a -/
def EXV (cls : Value) (d : Option Addr) (a : Addr) : HO := .ext fun h => ∃ (oe : Obj) (vs : Array Value), h.get? a = some oe ∧ Zc cls d oe ∧ oe.data = .fields vs
theorem exv_ok {P : Program} {w : World} {H : Hp} {h : Heap} {a : Addr} {cls : Value} {d : Option Addr} {oe : Obj} {vs : Array Value} (e : h.get? a = some oe) (z : Zc cls d oe) (hd : oe.data = .fields vs) : ObjOk P w H h a (EXV cls d a) :=
  ⟨⟨oe, vs, e, z, hd⟩, ⟨oe, e⟩, fun _ _ ⟨o, v, q, r⟩ k => ⟨o, v, k o q, r⟩⟩
theorem exv_at {P : Program} {w : World} {H : Hp} {h : Heap} {a : Addr} {cls : Value} {d : Option Addr} (hok : HOk P w H h) (e : H a = some (EXV cls d a)) : ∃ (oe : Obj) (vs : Array Value), h.get? a = some oe ∧ Zc cls d oe ∧ oe.data = .fields vs := by
  have x : ObjOk P w H h a (.ext fun h => ∃ (oe : Obj) (vs : Array Value), h.get? a = some oe ∧ Zc cls d oe ∧ oe.data = .fields vs) := hok a _ e
  exact x.1

section
variable {X : Cx} {pins : List (Addr × Obj)} {σ : St} {H : Hp} {s : Shared}
/-- an untracked object that is new since the entry is tracked from now on -/
theorem Inv.track {a : Addr} {o : HO} (I : Inv X pins σ H s) (ha : ObjOk X.prog X.w (upd H a o) s.heap a o) (na : H a = none) (nL : a ≠ X.env.locals) (n0 : X.s_0.heap.get? a = none) (nc : ∀ x c, X.env.cells.lookup x = some c → c ≠ a)
    (np : ∀ p ∈ X.pn ++ pins, p.1 ≠ a) : Inv X pins σ (upd H a o) s := by
  have ne0 : ∀ b u, X.s_0.heap.get? b = some u → b ≠ a := fun b u e z => by rw [z, n0] at e; cases e
  refine ⟨I.ok, I.os, I.bare, ⟨I.base.keep, I.base.slot, fun b u e n hx => ?_, I.base.there, fun b xs e => ?_, fun b u xs e => ?_, fun b ps e => ?_⟩, I.loc, I.cell, ?_, fun x c e => ?_, fun p hp => ?_, ?_, I.len⟩
  · rw [upd_ne (ne0 b u e)]; exact I.base.free b u e n hx
  · have q := I.base.tups b xs e
    rw [upd_ne (ne_of_none q na)]; exact q
  · have q := I.base.frzs b u xs e
    rw [upd_ne (ne_of_none q na)]; exact q
  · obtain ⟨m, q⟩ := I.base.tbls b ps e
    exact ⟨m, by rw [upd_ne (ne_of_none q na)]; exact q⟩
  · rw [upd_ne (Ne.symm nL)]; exact I.free
  · rw [upd_ne (nc x c e)]; exact I.freeC x c e
  · obtain ⟨e, n, ne, nf, d⟩ := I.pin p hp
    exact ⟨e, by rw [upd_ne (np p hp)]; exact n, ne, nf, d⟩
  · exact I.hok.laidN (fun _ _ q => q) na ha

theorem Vals.relO : ∀ {ps : List Str} {vs : List V} {us : List Value}, Vals vs us → ∀ f, RelO ((ps.zip vs).lookup f) ((ps.zip us).lookup f)
  | [], _, _, _, f => by simp [RelO]
  | _ :: _, _, _, .nil, f => by simp [RelO]
  | p :: ps, _, _, .cons r t, f => by
    simp only [List.zip_cons_cons, List.lookup_cons]
    cases h : f == p with
    | true => exact r
    | false => exact Vals.relO t f
end

/-- an error's class at C with its __init__ at fI, whose parameters (and fields) are ps -/
structure EMk (prog : Program) (w : World) (K : PySem.W.Frag) (mg : Str → Option Value) (base : Heap) (C fI : Addr) (ps : List Str) : Prop where
  T : PySem.ErrX.ECls prog K C fI
  run : Mod K mg base → ∀ {A : Around} {s : Shared} {R : Result → Shared → Prop} {x t0 : Addr} {us : List Value}, us.length = ps.length → (∀ b o, base.get? b = some o → s.heap.get? b = some o) → s.heap.get? x = some (PySem.HandSPX.excO C t0) →
    base.get? x = none → A.depth < recursionLimit → (∀ h' tk dx, PySem.ErrX.InitEnd s.heap h' x C dx (fun y => (ps.zip us).lookup y) → R (.ok (.ret .none)) { s with heap := h', toks := tk }) →
    codeAny (model prog w) A (.call (.ref fI) ⟨.ref x :: us, []⟩) R s
  no : ∀ f ∈ ps, PySem.W.findIn K (.ref C) f = some none
/-- a made error -/
structure ErrMade (h h' : Heap) (e C d : Addr) (m : Str → Option Value) : Prop where
  keep : ∀ b o, h.get? b = some o → h'.get? b = some o
  new : h.objs.size ≤ e
  obj : ∃ t1 : Addr, h'.get? e = some { cls := .ref C, dict := some d, data := .fields #[.ref t1, .none, .none, .none, .bool false, .none] }
  dbig : h.objs.size ≤ d
  dne : d ≠ e
  ns : h'.Ns1 d m
section
variable {prog : Program} {w : World} {A : Around} {R : Result → Shared → Prop} {s : Shared} {K : PySem.W.Frag} {mg : Str → Option Value} {base : Heap} {C fI : Addr} {ps : List Str}
open PySem.HandSPX in
theorem err_made (M : Mod K mg base) (kb : ∀ b o, base.get? b = some o → s.heap.get? b = some o) (T : EMk prog w K mg base C fI ps) {us : List Value} (hl : us.length = ps.length) (hz : us.length ≤ 1000) (hroom : A.depth + 1 < recursionLimit)
    (hq : ∀ h' tk e d, ErrMade s.heap h' e C d (fun y => (ps.zip us).lookup y) → R (.ok (.ret (.ref e))) { s with heap := h', toks := tk }) :
    codeAny (model prog w) A (.call (.ref C) ⟨us, []⟩) R s := by
  obtain ⟨nm, q, N, bs, bm, sn, sub, ab, col, dd, k0, k1, k2, k3, k5, hC, hbm, hal⟩ := T.T.cls
  have X : K.In s.heap := M.kin.keeps kb
  obtain ⟨hp, g, dr, tk, os⟩ := s
  have k : ∀ b o, hp.get? b = some o → ((hp.push (PySem.W.kdv_tup us)).push (excO C hp.objs.size)).get? b = some o := fun b o e => Heap.get?_push_of_some _ (Heap.get?_push_of_some _ e)
  have hget : ((hp.push (PySem.W.kdv_tup us)).push (excO C hp.objs.size)).get? (hp.objs.size + 1) = some (excO C hp.objs.size) := by heap_get
  have hbx : base.get? (hp.objs.size + 1) = none := by
    cases e : base.get? (hp.objs.size + 1) with
    | none => rfl
    | some o =>
      have z : hp.get? (hp.objs.size + 1) = some o := kb _ _ e
      exact absurd (Nat.lt_of_succ_lt (Heap.lt_size z)) (Nat.lt_irrefl _)
  refine call_own F.excBase_ValueError (fun X => refsVE_contains X bm hbm) (X _ _ hC) (PySem.W.looks_findIn X T.T.iC) (fun self => PySem.W.bind_fn X self T.T.tI) (by rw [sizeLine_eq]; omega) ?_
  refine T.run M (s := ⟨(hp.push (PySem.W.kdv_tup us)).push (excO C hp.objs.size), g, dr, tk, os⟩) hl (fun b o e => k b o (kb b o e)) hget hbx ?_ fun h' tk' dx ⟨k', hx, dn, dne, hns⟩ => ?_
  · show A.depth + 1 < recursionLimit
    exact hroom
  · have old : ∀ b o, hp.get? b = some o → h'.get? b = some o := fun b o e => k' b o (Nat.ne_of_lt (Nat.lt_succ_of_lt (Heap.lt_size e))) (k b o e)
    have z : hp.objs.size + 1 + 1 ≤ dx := by
      have q := dn
      simp only [Heap.size_push] at q
      exact q
    exact ⟨rfl, hq h' tk' (hp.objs.size + 1) dx ⟨old, Nat.le_succ _, hx, Nat.le_trans (Nat.le_trans (Nat.le_succ _) (Nat.le_succ _)) z, dne, hns⟩⟩
end

section
variable {X : Cx} {C fI : Addr} {ps : List Str}
/-- C(..), to be raised -/
def tMkE (C : Addr) (ps : List Str) (ta : TA) : St → Hp → XK → Prop := fun σ H Q => ta σ H fun vs H1 => vs.length = ps.length ∧ ∀ d, H1 d = none → Q (.ref C) (some d) (upd H1 d (.xd (ps.zip vs)))
theorem err_xd {P : Program} {w : World} {H : Hp} {h : Heap} {d : Addr} {vs : List V} {us : List Value} (r : Vals vs us) (hn : h.Ns1 d (fun y => (ps.zip us).lookup y)) : ObjOk P w H h d (.xd (ps.zip vs)) := ⟨_, hn, fun f => Vals.relO r f⟩
theorem pmk_err {x : Str} {es : List Expr} {e : Expr} {ta : TA} {p pos : Pos} {k : Nat} (T : EMk X.prog X.w X.K X.mg X.base C fI ps) (hr : Room k X.A) (hps : ps.length ≤ 1000) (ha : PA X (e :: es) ta) (hm : X.mg x = some (.ref C)) (hg : Gl X x := by rfl) (hdb : (x == ("__debug__" : Str)) = false := by decide)
    (he : starEach (e :: es) X.env = (false, eval e X.env) :: starEach es X.env := by rfl) (hpl : (backTo pos (starEach es X.env)).any (·.1) = false := by rfl) :
    PMk X (.Call (.Name x p) (e :: es) [] pos) (tMkE C ps ta) := by
  intro pins s σ H Q I h
  refine wpAny_Call_Name_kw (ld_glob I hg hm ?_ hdb)
  refine PySem.W.callWith_K (h₀ := X.base) I.ok.mod.kin T.T.kC (thn (ha.run pos pins s σ H _ I h) fun us s1 hh => ?_) he hpl
  obtain ⟨vs, H1, I1, r1, hl, q1⟩ := hh
  refine ⟨I1.kIn, ?_⟩
  show wpAny _ _ (call (.ref C) us) _ _ _
  have hlu : us.length = ps.length := by rw [← r1.length]; exact hl
  obtain ⟨hp, g, dr, tk, os⟩ := s1
  refine wpAny_call (err_made I1.ok.mod I1.bk T hlu (by rw [hlu]; exact hps) (by have := hr.dp; omega) fun h' tk' e d M => ?_)
  show MkP X pins σ Q (.ref e) ⟨h', g, dr, tk', os⟩
  obtain ⟨t1, hoe⟩ := M.obj
  obtain ⟨G', g1, g2⟩ := restrict h' fun b => decide (b ≠ e)
  have gk : ∀ b, b ≠ e → G'.get? b = h'.get? b := fun b hb => g1 b (decide_eq_true hb)
  have ge : G'.get? e = none := g2 e (by simp)
  have old : ∀ b o, hp.get? b = some o → G'.get? b = some o := fun b o q => (gk b (Nat.ne_of_lt (Nat.lt_of_lt_of_le (Heap.lt_size q) M.new))).trans (M.keep b o q)
  have ob : ObjOk X.prog X.w (upd H1 d (.xd (ps.zip vs))) G' d (.xd (ps.zip vs)) := err_xd r1 (M.ns.at fun o q => (gk d M.dne).trans q)
  have J : Inv X pins σ (upd H1 d (.xd (ps.zip vs))) ⟨G', g, dr, tk', os⟩ := I1.laid (t' := tk') old M.dbig ob
  refine ⟨e, _, _, ⟨G', g, dr, tk', os⟩, _, .ref C, some d, rfl, J, fun b o q => ?_, ge, hoe, ⟨rfl, rfl⟩, rfl, rfl, ?_, rfl, I1.bare, raises_own T.T.exC T.T.tyC, q1 d (I1.hok.fresh M.dbig)⟩
  · by_cases hb : b = e
    · have q' : G'.get? b = some o := q
      rw [hb, ge] at q'; cases q'
    · exact (gk b hb).symm.trans q
  · rw [upd_ne (Ne.symm M.dne)]
    exact I1.hok.fresh M.new
/-- C(..) as a value -/
def tErr (C : Addr) (ps : List Str) (ta : TA) : TE := fun σ H Q => ta σ H fun vs H1 => vs.length = ps.length ∧ ∀ a d, H1 a = none → H1 d = none → d ≠ a → Q (.ref a) (upd (upd H1 d (.xd (ps.zip vs))) a (EXV (.ref C) (some d) a))
theorem pe_err {x : Str} {es : List Expr} {e : Expr} {ta : TA} {p pos : Pos} {k : Nat} (T : EMk X.prog X.w X.K X.mg X.base C fI ps) (hr : Room k X.A) (hps : ps.length ≤ 1000) (ha : PA X (e :: es) ta) (hm : X.mg x = some (.ref C)) (hg : Gl X x := by rfl) (hdb : (x == ("__debug__" : Str)) = false := by decide)
    (he : starEach (e :: es) X.env = (false, eval e X.env) :: starEach es X.env := by rfl) (hpl : (backTo pos (starEach es X.env)).any (·.1) = false := by rfl) :
    PE X (.Call (.Name x p) (e :: es) [] pos) (tErr C ps ta) := by
  refine ⟨fun pins s σ H Q I h => ?_⟩
  refine wpAny_Call_Name_kw (ld_glob I hg hm ?_ hdb)
  refine PySem.W.callWith_K (h₀ := X.base) I.ok.mod.kin T.T.kC (thn (ha.run pos pins s σ H _ I h) fun us s1 hh => ?_) he hpl
  obtain ⟨vs, H1, I1, r1, hl, q1⟩ := hh
  refine ⟨I1.kIn, ?_⟩
  show wpAny _ _ (call (.ref C) us) _ _ _
  have hlu : us.length = ps.length := by rw [← r1.length]; exact hl
  obtain ⟨hp, g, dr, tk, os⟩ := s1
  refine wpAny_call (err_made I1.ok.mod I1.bk T hlu (by rw [hlu]; exact hps) (by have := hr.dp; omega) fun h' tk' e d M => ?_)
  obtain ⟨t1, hoe⟩ := M.obj
  have nH : H1 e = none := I1.hok.fresh M.new
  have nD : H1 d = none := I1.hok.fresh M.dbig
  have ob : ObjOk X.prog X.w (upd H1 d (.xd (ps.zip vs))) h' d (.xd (ps.zip vs)) := err_xd r1 M.ns
  have J : Inv X pins σ (upd H1 d (.xd (ps.zip vs))) ⟨h', g, dr, tk', os⟩ := I1.laid (t' := tk') M.keep M.dbig ob
  have lt : ∀ b o, hp.get? b = some o → b ≠ e := fun b o q => Nat.ne_of_lt (Nat.lt_of_lt_of_le (Heap.lt_size q) M.new)
  refine ⟨.ref e, _, J.track (a := e) (o := EXV (.ref C) (some d) e) (exv_ok hoe ⟨rfl, rfl⟩ rfl) (by rw [upd_ne (Ne.symm M.dne)]; exact nH) ?_ ?_ (fun x c hc => ?_) fun p hp' => ?_, rfl, q1 e d nH nD M.dne⟩
  · obtain ⟨m, ⟨o, _, _, ho, _⟩, _⟩ := I1.loc
    exact Ne.symm (lt _ o ho)
  · cases q : X.s_0.heap.get? e with
    | none => rfl
    | some o => exact absurd (Nat.lt_of_lt_of_le (Heap.lt_size q) (Nat.le_trans I1.sz M.new)) (Nat.lt_irrefl _)
  · obtain ⟨v, o, ho, _⟩ := I1.cell x c hc
    exact lt _ o ho
  · obtain ⟨z, _⟩ := I1.pin p hp'
    exact lt _ _ z

/-! ### a field of an error -/
def tExf (f : Str) (te : TE) : TE := fun σ H Q => te σ H fun x H1 => ∃ (a C dd : Addr) (fs : List (Str × V)) (v : V), x = .ref a ∧ H1 a = some (EXV (.ref C) (some dd) a) ∧ H1 dd = some (.xd fs) ∧ fs.lookup f = some v ∧ Q v H1
end

/-- what an own error's class must have for its instances' fields to be read; f is no class attribute -/
structure XfF (K : PySem.W.Frag) (C : Addr) (f : Str) : Prop where
  c : XfC K C
  no : PySem.W.findIn K (.ref C) f = some none
def tExfK (K : PySem.W.Frag) (f : Str) (te : TE) : TE := fun σ H Q => te σ H fun x H1 => ∃ (a C dd : Addr) (fs : List (Str × V)) (v : V), x = .ref a ∧ XfF K C f ∧ H1 a = some (EXV (.ref C) (some dd) a) ∧ H1 dd = some (.xd fs) ∧ fs.lookup f = some v ∧ Q v H1
theorem pe_exf {X : Cx} {e : Expr} {te : TE} {pos : Pos} {n : Str} (he : PE X e te) (hb : attributeBase e n X.env (eval e X.env) = eval e X.env := by rfl) : PE X (.Attribute e n pos) (tExfK X.K n te) := by
  refine ⟨fun pins s σ H Q I h => ?_⟩
  refine attr_of hb (thn (he.run pins s σ H _ I h) fun u s1 hh => ?_)
  obtain ⟨x, H1, I1, rx, a, C, dd, fs, v, ex, T, ea, ed, l, q⟩ := hh
  subst ex
  obtain rfl : u = Value.ref a := rx
  obtain ⟨oe, vs, ha, hz, hd⟩ := exv_at I1.hok ea
  have hx : ObjOk X.prog X.w H1 s1.heap dd (.xd fs) := I1.hok dd _ ed
  obtain ⟨mA, hns, hr⟩ := hx
  obtain ⟨od, ho, hl⟩ := lookIn_ns hns
  obtain ⟨u, hu, ru⟩ := RelO.some_of (v := v) (o := mA n) (by rw [← l]; exact hr n)
  have J : PySem.W.InstAt s1.heap a oe C (some od) := ⟨ha, hz.1, by unfold PySem.W.notCls; rw [hd] <;> rfl, by rw [hz.2]; exact ho⟩
  exact HandSPX.exc_get I1.kIn J T.c.ga T.c.gg T.c.exC (PySem.W.findObj_own T.c.hdC T.no rfl (by rw [hl, hu])) (handed_of ru) ⟨v, H1, I1.tok _, ru, q⟩

/-! ### isinstance of an error -/
structure XiC (K : PySem.W.Frag) (C : Addr) : Prop where
  c : XfC K C
  cl : (PySem.W.clsIn K C).isSome = true
  ha : PySem.W.findIn K (.ref C) "__class__" = some (some (.builtin "object.__class__"))
  hn : PySem.W.specialIn K (.builtin "object.__class__") "__get__" = some (some (.builtin "getset_descriptor.__get__"))
  tk : PySem.W.takesIn K (.builtin "object.__class__") = some true
  hm : PySem.W.mroIn K C (.type "object") = some true
/-- isinstance(x, c): x an error, or any other value -/
def rIsiE (K : PySem.W.Frag) : List V → Hp → VK → Prop := fun xs H Q => ∃ (x c : V) (u : Value) (b : Bool), xs = [x, c] ∧ ClsV c u ∧
  ((∃ t, TyX K H x t ∧ PySem.W.kitOne K t u = some b) ∨ (∃ (a C : Addr) (d : Option Addr), x = .ref a ∧ H a = some (EXV (.ref C) d a) ∧ (∀ dd, d = some dd → ∃ fs, H dd = some (.xd fs)) ∧ XiC K C ∧ PySem.W.kitOne K (.ref C) u = some b)) ∧ Q (.bl b) H
theorem call_isiE {X : Cx} : CallR X (.builtin "isinstance") (rIsiE X.K) := by
  intro pins s σ H xs us Q I r h
  obtain ⟨x, c, u, b, rfl, k, ty, q⟩ := h
  rcases ty with ⟨t, ty, e⟩ | ⟨a, C, d, rfl, ea, hdd, T, e⟩
  · exact call_isi pins s σ H _ us Q I r ⟨x, c, t, u, b, rfl, k, ty, e, q⟩
  · obtain ⟨u1, u2, rfl, r1, r2⟩ := vals2 r
    have e2 := k.eq r2
    subst e2
    obtain rfl : u1 = Value.ref a := r1
    obtain ⟨oe, vs, ha, hz, hd⟩ := exv_at I.hok ea
    cases d with
    | none =>
      have J : PySem.W.InstAt s.heap a oe C none := ⟨ha, hz.1, by unfold PySem.W.notCls; rw [hd] <;> rfl, by rw [hz.2]; exact trivial⟩
      exact PySem.W.kia_one (PySem.W.kitx_exc T.cl T.c.ga T.c.gg T.c.exC T.ha T.hn T.tk T.hm) I.kIn J e (fun z => nomatch z) fun tk => ⟨.bl b, H, I.tok tk, rfl, q⟩
    | some dd =>
      obtain ⟨fs, ed⟩ := hdd dd rfl
      have hx : ObjOk X.prog X.w H s.heap dd (.xd fs) := I.hok dd _ ed
      obtain ⟨mA, hns, hr⟩ := hx
      obtain ⟨od, ho, hl⟩ := lookIn_ns hns
      have J : PySem.W.InstAt s.heap a oe C (some od) := ⟨ha, hz.1, by unfold PySem.W.notCls; rw [hd] <;> rfl, by rw [hz.2]; exact ho⟩
      exact PySem.W.kia_one (PySem.W.kitx_exc T.cl T.c.ga T.c.gg T.c.exC T.ha T.hn T.tk T.hm) I.kIn J e (fun z => nomatch z) fun tk => ⟨.bl b, H, I.tok tk, rfl, q⟩

/-! ### try: body / except X as n: suite / except Y: suite .. -/
/-- the context of an except suite; the caught error is tracked -/
abbrev Cx.suiteE (X : Cx) (a : Addr) (pn : List (Addr × Obj)) : Cx := { X with A := X.A.mark (some (.ref a)), calm := false, pn := pn, xe := fun _ _ => False }
abbrev Clause := Value × Option Nat × (Addr → TS)
/-- what the clauses wish of an error of the body, one after the other -/
def wTry (K : PySem.W.Frag) (Wout : WX) (D : Ends) : List Clause → WX
  | [] => Wout
  | (c, none, ts) :: r => fun cls d σ H => ∃ b, PySem.W.exmOne K cls c = some b ∧ (b = true → ∀ a, H a = none → ts a D σ (upd H a (EXV cls d a))) ∧ (b = false → wTry K Wout D r cls d σ H)
  | (c, some i, ts) :: r => fun cls d σ H => ∃ b, PySem.W.exmOne K cls c = some b ∧
      (b = true → ∀ a, H a = none → ts a { nx := fun σ' H' => D.nx (σ'.set i none) H', rt := D.rt, bk := fun σ' H' => D.bk (σ'.set i none) H', ct := fun σ' H' => D.ct (σ'.set i none) H' } (σ.set i (some (.ref a))) (upd H a (EXV cls d a))) ∧
      (b = false → wTry K Wout D r cls d σ H)
inductive HdsE (X : Cx) : List ExceptHandler → List Clause → Prop
  | nil : HdsE X [] []
  | cons {x : Str} {c : Value} {ts : Addr → TS} {b₀ : Stmt} {suite : List Stmt} {np pos' : Pos} {hds : List ExceptHandler} {l : List Clause} (hc : Names X x c)
      (hsu : ∀ (a : Addr) (pn : List (Addr × Obj)), PSs (X.suiteE a pn) (b₀ :: suite) (ts a)) (r : HdsE X hds l) :
      HdsE X (.ExceptHandler (some (.Name x np)) none (b₀ :: suite) pos' :: hds) ((c, none, ts) :: l)
  | as {x n : Str} {c : Value} {i : Nat} {ts : Addr → TS} {b₀ : Stmt} {suite : List Stmt} {np pos' : Pos} {hds : List ExceptHandler} {l : List Clause} (hc : Names X x c) (hi : X.N[i]? = some n) (hln : X.env.kindOf n = some .local)
      (hsu : ∀ (a : Addr) (pn : List (Addr × Obj)), PSs (X.suiteE a pn) (b₀ :: suite) (ts a)) (r : HdsE X hds l) :
      HdsE X (.ExceptHandler (some (.Name x np)) (some n) (b₀ :: suite) pos' :: hds) ((c, some i, ts) :: l)
section
variable {X : Cx} {pins : List (Addr × Obj)} {σ : St} {H : Hp} {s : Shared}
theorem Cx.Ok.suiteE {X : Cx} (ok : X.Ok) (a : Addr) (pn : List (Addr × Obj)) : (X.suiteE a pn).Ok :=
  ⟨ok.mod, ok.kind, ok.glob, ok.blt, ok.above, ok.inj, ok.has, ok.cab, (fun z => absurd (show false = true from z) Bool.false_ne_true), ok.frames, ok.stk, ok.exf, ok.bs, ok.bsz, ok.noex, ok.exfs, ok.funs, ok.frf⟩
theorem Inv.suiteE (I : Inv X pins σ H s) (a : Addr) : Inv (X.suiteE a (X.pn ++ pins)) [] σ H s :=
  ⟨I.ok.suiteE _ _, I.os, I.bare, I.base, I.loc, I.cell, I.free, I.freeC, fun p hp => I.pin p (by rw [List.append_nil] at hp; exact hp), I.hok, I.len⟩
theorem Inv.unsuiteE {a : Addr} {pn' : List (Addr × Obj)} (I : Inv (X.suiteE a (X.pn ++ pins)) pn' σ H s) (ok : X.Ok) : Inv X pins σ H s :=
  ⟨ok, I.os, I.bare, I.base, I.loc, I.cell, I.free, I.freeC, fun p hp => I.pin p (List.mem_append_left _ hp), I.hok, I.len⟩
end
section
variable {X : Cx} {body : List Stmt} {h₀ : ExceptHandler} {hds : List ExceptHandler} {l : List Clause} {pos : Pos} {tb : WX → TS} {Wout : WX}
theorem ps_tryE (hs : X.stack = X.env :: X.outer) (hf : X.env.frame = some X.env.locals) (hN : X.N.Nodup) (hex : X.ex = []) (tk : Takes X Wout)
    (hb : ∀ (W : WX) (pn : List (Addr × Obj)) (xe : Value → Shared → Prop), Takes (X.tr pn xe) W → PassesOwn (model X.prog X.w) X.A X.env xe → PSs (X.tr pn xe) body (tb W))
    (hh : HdsE X (h₀ :: hds) l) : PS X (.Try body (h₀ :: hds) [] [] pos) (fun D σ H => tb (wTry X.K Wout D l) D σ H) := by
  refine ⟨fun pins s σ H D I h => ?_⟩
  have ok := I.ok
  have hfr : X.A.frames = some (X.env :: X.outer) := by rw [ok.frames, hs]
  refine wpAny_Try_except ?_
  refine wpAny_mono ((hb (wTry X.K Wout D l) (X.pn ++ pins) (fun e s₁ => wpAny (model X.prog X.w) X.A (noteFrame e X.env) (fun _ s₂ => wpAny (model X.prog X.w) X.A (setFlight e none) (fun _ s₃ =>
    wpAny (model X.prog X.w) X.A (handleBy e X.env (h₀ :: hds)) (SP X pins D) X.xe s₃) X.xe s₂) X.xe s₁) (fun u s' xx => ?_) PassesOwn.looking).run [] s σ H D (I.toTry _) h) (fun f s1 hsp => ?_) (fun e s1 he => he)
  · -- the catch
    obtain ⟨a, B, sI, pins', σ', H', cls, d, rfl, J', nb, up, sky, na, os, ag, w⟩ := xx
    have J : Inv X pins σ' H' sI := J'.ofTry ok
    have sky' : Sky B (X.env :: X.outer) a (Zc cls d) X.env.locals s'.heap := by rw [← hs]; exact sky
    show wpAny (model X.prog X.w) X.A (noteFrame (.ref a) X.env) _ _ _
    refine Sky.land Zc.steady hfr hf sky' fun h3 fl3 up3 => ?_
    have J3 : Inv X pins σ' H' { s' with heap := h3 } := J.landed nb fl3.1 (up.trans up3) os ag
    obtain ⟨oe3, vs3, he3, hz3, hd3⟩ := fl3.there
    have notFr : ∀ {h : Heap} {o : Obj} {vs : Array Value}, h.FunFrames B (X.env :: X.outer) → h.get? a = some o → o.data = .fields vs → a ∉ frs (X.env :: X.outer) := fun {h o vs} ff e dd hm => by
      obtain ⟨_, o', e', hnf⟩ := ff.mem hm
      rw [e] at e'; cases e'
      exact hnf _ dd
    have nfr := notFr fl3.2.2.1 he3 hd3
    have nL : a ≠ X.env.locals := fun z => nfr (List.mem_filterMap.mpr ⟨X.env, List.mem_cons_self, by rw [hf, z]⟩)
    have nI : sI.heap.get? a = none := by
      cases e : sI.heap.get? a with
      | none => rfl
      | some o =>
        have z := nb a o e (by rw [hs]; exact nfr)
        rw [fl3.2.1] at z
        cases z
    have n0 : X.s_0.heap.get? a = none := by
      cases e : X.s_0.heap.get? a with
      | none => rfl
      | some o =>
        obtain ⟨o', z⟩ := J.base.there a o e (by rw [hex]; exact fun z => nomatch z)
        rw [nI] at z
        cases z
    have nc : ∀ x c, X.env.cells.lookup x = some c → c ≠ a := fun x c e z => by
      obtain ⟨v, o, ho, _⟩ := J.cell x c e
      rw [z, nI] at ho
      cases ho
    have npn : ∀ p ∈ X.pn ++ pins, p.1 ≠ a := fun p hp z => by
      obtain ⟨e, _⟩ := J.pin p hp
      rw [z, nI] at e
      cases e
    have S3 := J3.suiteE a
    have go : ∀ {hds' : List ExceptHandler} {l' : List Clause}, HdsE X hds' l' → wTry X.K Wout D l' cls d σ' H' →
        wpAny (model X.prog X.w) X.A (handleBy (.ref a) X.env hds') (SP X pins D) X.xe { s' with heap := h3 } := by
      intro hds' l' hk
      have LT : PySem.W.Looks (model X.prog X.w) h3 (typeOf (.ref a)) cls := fun A Q E s k q => wpAny_typeOf_ref (k _ _ he3) (by rw [hz3.1]; exact q)
      have test : ∀ {x : Str} {c : Value} {np : Pos} (hc : Names X x c) {Q : Value → Shared → Prop} {E : Value → Shared → Prop}, Q c { s' with heap := h3 } → wpAny (model X.prog X.w) (X.A.mark (some (.ref a))) (eval (.Name x np) X.env) Q E { s' with heap := h3 } := fun {x c np} hc {Q E} q => by
        obtain ⟨hg, hdbg, hm | ⟨hm, hv, hnn⟩⟩ := hc
        · exact ld_glob (X := X.suiteE a (X.pn ++ pins)) S3 hg hm q hdbg
        · exact ld_blt (X := X.suiteE a (X.pn ++ pins)) S3 hg hm hv q hnn hdbg
      induction hk with
      | nil =>
        intro w
        refine wpAny_handleBy_nil ?_
        obtain ⟨k1, k2, k3, oe, vs, T, oT, ts', he, hz, hd, h1, hr⟩ := id fl3
        unfold PySem.passOn
        refine wpAny_bind (wpAny_field he hd h1 ?_)
        rw [if_neg (show ¬ ((Value.ref T == Value.none) = true) from by simp)]
        have fin : wpAny (model X.prog X.w) X.A (setFlight (.ref a) X.env.frame) (fun _ s4 => wpAny (model X.prog X.w) X.A (throw (.ref a) : Sem Flow) (SP X pins D) X.xe s4) X.xe { s' with heap := h3 } := by
          rw [hf]
          refine HandSPX.setFlight_upZ fl3 fun h4 hh4 up4 => wpAny_throw (tk _ _ ?_)
          exact ⟨a, B, sI, pins, σ', H', cls, d, rfl, J, nb, (up.trans up3).trans up4, .inr (.inr (by rw [hs]; exact hh4)), na, os, ag, w⟩
        first
          | exact wpAny_bind (wpAny_pure (wpAny_bind fin))
          | exact wpAny_bind fin
      | @cons x c ts b₀ suite np pos' hds2 l2 hc hsu r ih =>
        intro w
        obtain ⟨b, hb1, hyes, hno⟩ := w
        refine wpAny_handleBy_cons (codeAny_handlers_test ?_) (by intro q; cases q)
        have LM := PySem.W.exm_one (M := model X.prog X.w) (J3.kIn) LT hb1
        refine test hc (LM.here ?_)
        cases b with
        | true =>
          refine codeAny_handlers_suite ?_
          refine HandSPX.lands_againZ fl3 fun h4 fl4 up4 => ?_
          have J4 : Inv X pins σ' H' { s' with heap := h4 } := J.landed nb fl4.1 ((up.trans up3).trans up4) os ag
          obtain ⟨oe4, vs4, he4, hz4, hd4⟩ := fl4.there
          have S4 := (J4.track (a := a) (o := EXV cls d a) (exv_ok he4 hz4 hd4) na nL n0 nc npn).suiteE a
          refine wpAny_mono ((hsu a (X.pn ++ pins)).run [] _ _ _ _ S4 (hyes rfl a na)) (fun f s6 hsp => ?_) (fun _ _ z => False.elim z)
          cases f with
          | next =>
            obtain ⟨σ6, H6, S6, q6⟩ := hsp
            exact ⟨_, _, S6.unsuiteE ok, q6⟩
          | brk =>
            obtain ⟨σ6, H6, S6, q6⟩ := hsp
            exact ⟨_, _, S6.unsuiteE ok, q6⟩
          | cont =>
            obtain ⟨σ6, H6, S6, q6⟩ := hsp
            exact ⟨_, _, S6.unsuiteE ok, q6⟩
          | ret u =>
            obtain ⟨v6, σ6, H6, S6, r6, q6⟩ := hsp
            exact ⟨_, _, _, S6.unsuiteE ok, r6, q6⟩
        | false =>
          show wpAny _ X.A (handleBy (.ref a) X.env hds2) _ _ _
          exact ih (hno rfl)
      | @as x n c i ts b₀ suite np pos' hds2 l2 hc hi hln hsu r ih =>
        intro w
        obtain ⟨b, hb1, hyes, hno⟩ := w
        refine wpAny_handleBy_cons (codeAny_handlers_test ?_) (by intro q; cases q)
        have LM := PySem.W.exm_one (M := model X.prog X.w) (J3.kIn) LT hb1
        refine test hc (LM.here ?_)
        cases b with
        | true =>
          refine codeAny_handlers_suite_as ?_
          refine HandSPX.lands_againZ fl3 fun h4 fl4 up4 => ?_
          have J4 : Inv X pins σ' H' { s' with heap := h4 } := J.landed nb fl4.1 ((up.trans up3).trans up4) os ag
          obtain ⟨oe4, vs4, he4, hz4, hd4⟩ := fl4.there
          have S4 := (J4.track (a := a) (o := EXV cls d a) (exv_ok he4 hz4 hd4) na nL n0 nc npn).suiteE a
          refine store_ok (X := X.suiteE a (X.pn ++ pins)) (v := .ref a) S4 hN hi (.inl hln) rfl (fun s5 S5 => ?_) (.inr hln)
          refine wpAny_mono ((hsu a (X.pn ++ pins)).run [] s5 _ _ _ S5 (hyes rfl a na)) (fun f s6 hsp => ?_) (fun _ _ z => False.elim z)
          have end_ : ∀ {σ6 : St} {H6 : Hp} {Q : Shared → Prop}, Inv (X.suiteE a (X.pn ++ pins)) [] σ6 H6 s6 → (∀ s7, Inv X pins (σ6.set i none) H6 s7 → Q s7) →
              wpAny (model X.prog X.w) X.A (do bindName X.env n .none; unbindBehindTheSuite X.env n pos') (fun _ s7 => Q s7) X.xe s6 := fun {σ6 H6 Q} S6 hq => gone_ok (S6.unsuiteE ok) hN hi hln hq
          cases f with
          | next =>
            obtain ⟨σ6, H6, S6, q6⟩ := hsp
            exact end_ S6 fun s7 J7 => ⟨_, _, J7, q6⟩
          | brk =>
            obtain ⟨σ6, H6, S6, q6⟩ := hsp
            exact end_ S6 fun s7 J7 => ⟨_, _, J7, q6⟩
          | cont =>
            obtain ⟨σ6, H6, S6, q6⟩ := hsp
            exact end_ S6 fun s7 J7 => ⟨_, _, J7, q6⟩
          | ret u =>
            obtain ⟨v6, σ6, H6, S6, r6, q6⟩ := hsp
            exact end_ S6 fun s7 J7 => ⟨_, _, _, J7, r6, q6⟩
        | false =>
          show wpAny _ X.A (handleBy (.ref a) X.env hds2) _ _ _
          exact ih (hno rfl)
    exact go hh w
  · cases f with
    | next =>
      obtain ⟨σ', H', J', q⟩ := hsp
      exact wpAny_execs_nil ⟨σ', H', J'.ofTry ok, q⟩
    | brk =>
      obtain ⟨σ', H', J', q⟩ := hsp
      exact ⟨σ', H', J'.ofTry ok, q⟩
    | cont =>
      obtain ⟨σ', H', J', q⟩ := hsp
      exact ⟨σ', H', J'.ofTry ok, q⟩
    | ret u =>
      obtain ⟨v, σ', H', J', r, q⟩ := hsp
      exact ⟨v, σ', H', J'.ofTry ok, r, q⟩
end
end L2

set_option Elab.async false
set_option linter.all false
set_option maxRecDepth 100000
set_option maxHeartbeats 4000000
/-! LayA: my own short words over the hand layer: what is known of the heap as a list (Lg), the pen from which a law draws (PenAt), operators of any kinds, calls of defs that may raise, readings step by step (r_*). -/
namespace Cs
open PySem PySem.Spec PyProof.Rows L2

/-! ### what is known of the heap -/
structure Lg (H : Hp) (L : List (Addr × HO)) : Prop where
  get : ∀ p ∈ L, H p.1 = some p.2
  nd : (L.map (·.1)).Nodup
section
variable {H H' : Hp} {L : List (Addr × HO)} {p : Addr} {o o' : HO}
theorem Lg.nil {H : Hp} : Lg H [] := ⟨fun _ h => absurd h (by simp), List.nodup_nil⟩
theorem Lg.at (g : Lg H L) (i : Nat) (h : L[i]? = some (p, o)) : H p = some o := g.get (p, o) (List.mem_of_getElem? h)
theorem Lg.fresh (g : Lg H L) (hp : H p = none) : p ∉ L.map (·.1) := fun h => by
  obtain ⟨q, hq, e⟩ := List.mem_map.mp h
  have z := g.get q hq
  rw [e, hp] at z
  cases z
theorem Lg.new (g : Lg H L) (hp : H p = none) : Lg (upd H p o) ((p, o) :: L) := by
  refine ⟨fun q hq => ?_, ?_⟩
  · rcases List.mem_cons.mp hq with rfl | hq
    · exact upd_same
    · rw [upd_ne (ne_of_none (g.get q hq) hp)]
      exact g.get q hq
  · rw [List.map_cons]
    exact List.nodup_cons.mpr ⟨g.fresh hp, g.nd⟩
theorem Lg.cons (g : Lg H L) (hp : H p = some o) (n : p ∉ L.map (·.1)) : Lg H ((p, o) :: L) := by
  refine ⟨fun q hq => ?_, ?_⟩
  · rcases List.mem_cons.mp hq with rfl | hq
    · exact hp
    · exact g.get q hq
  · rw [List.map_cons]
    exact List.nodup_cons.mpr ⟨n, g.nd⟩
theorem Lg.one (hp : H p = some o) : Lg H [(p, o)] := Lg.nil.cons hp (by simp)
theorem Lg.same (g : Lg H L) (e : Same H H') : Lg H' L := ⟨fun q hq => e _ _ (g.get q hq), g.nd⟩
theorem Lg.tail {x : Addr × HO} (g : Lg H (x :: L)) : Lg H L := ⟨fun q hq => g.get q (List.mem_cons_of_mem _ hq), by
  have z := g.nd
  rw [List.map_cons] at z
  exact (List.nodup_cons.mp z).2⟩
theorem nodup_ixA {l : List Addr} (hN : l.Nodup) {i j : Nat} {x : Addr} (a : l[i]? = some x) (b : l[j]? = some x) : i = j := by
  obtain ⟨h1, e1⟩ := List.getElem?_eq_some_iff.mp a
  obtain ⟨h2, e2⟩ := List.getElem?_eq_some_iff.mp b
  exact (List.getElem_inj hN).mp (e1.trans e2.symm)
theorem set_selfA {α : Type} : ∀ {l : List α} {i : Nat} {x : α}, l[i]? = some x → l.set i x = l
  | _ :: _, 0, _, h => by cases h; rfl
  | a :: l, i + 1, x, h => by
    show a :: l.set i x = a :: l
    rw [set_selfA (l := l) (by simpa using h)]
  | [], i, x, h => by simp at h
theorem Lg.set (g : Lg H L) (i : Nat) (h : L[i]? = some (p, o)) : Lg (upd H p o') (L.set i (p, o')) := by
  have hi : i < L.length := (List.getElem?_eq_some_iff.mp h).1
  have e : (L.set i (p, o')).map (·.1) = L.map (·.1) := by
    rw [List.map_set]
    have z : (L.map (·.1))[i]? = some p := by rw [List.getElem?_map, h]; rfl
    exact set_selfA z
  refine ⟨fun q hq => ?_, by rw [e]; exact g.nd⟩
  obtain ⟨j, hj⟩ := List.mem_iff_getElem?.mp hq
  by_cases hij : i = j
  · subst hij
    rw [List.getElem?_set_self hi] at hj
    cases hj
    exact upd_same
  · rw [List.getElem?_set_ne hij] at hj
    have nq : q.1 ≠ p := fun e => hij (nodup_ixA g.nd (by rw [List.getElem?_map, h]; rfl) (by rw [List.getElem?_map, hj]; exact congrArg some e))
    rw [upd_ne nq]
    exact g.get q (List.mem_of_getElem? hj)
end
theorem same_upd {H : Hp} {p : Addr} {o : HO} (h : H p = none) : Same H (upd H p o) := fun b u e => by
  rw [upd_ne (ne_of_none e h)]
  exact e
/-- an object that H does not know may change -/
theorem same_mut {H H' : Hp} {p : Addr} {o : HO} (e : Same H H') (h : H p = none) : Same H (upd H' p o) := fun b u q => by
  rw [upd_ne (ne_of_none q h)]
  exact e b u q

/-! ### the pen -/
/-- p: the pen's list; c: the cells' list; ns: the cells -/
structure Pen where
  p : Addr
  c : Addr
  ns : List Int
def penO (P : Pen) (spot rest : Int) : HO := .lst [.ref P.c, .int spot, .int rest]
structure PenAt (P : Pen) (n : Nat) (H : Hp) : Prop where
  ex : ∃ spot rest : Int, 0 ≤ spot ∧ spot ≤ n ∧ 0 ≤ rest ∧ H P.p = some (penO P spot rest)
  cells : H P.c = some (.lst (P.ns.map V.int))
  len : P.ns.length ≤ 63
  ne : P.p ≠ P.c
/-- all but the pen is kept -/
def KeepB (P : Pen) (H H' : Hp) : Prop := ∀ b o, b ≠ P.p → H b = some o → H' b = some o
/-- a state in which law's defs run: the pen, drawn from at most n times so far, and what else is known -/
structure PL (P : Pen) (n : Nat) (H : Hp) (L : List (Addr × HO)) : Prop where
  pen : PenAt P n H
  lg : Lg H L
  np : P.p ∉ L.map (·.1)
  nc : P.c ∉ L.map (·.1)
section
variable {P : Pen} {n m : Nat} {H H' H'' : Hp} {L : List (Addr × HO)} {p : Addr} {o o' : HO}
theorem KeepB.refl : KeepB P H H := fun _ _ _ h => h
theorem KeepB.of_same (e : Same H H') : KeepB P H H' := fun b o _ h => e b o h
theorem KeepB.trans (a : KeepB P H H') (b : KeepB P H' H'') : KeepB P H H'' := fun c o n h => b c o n (a c o n h)
theorem KeepB.free (a : KeepB P H H') (h : H' p = none) (hp : PenAt P n H') : H p = none := by
  cases q : H p with
  | none => rfl
  | some o =>
    obtain ⟨s, r, _, _, _, hpp⟩ := hp.ex
    have np : p ≠ P.p := fun z => by rw [z, hpp] at h; cases h
    rw [a p o np q] at h
    cases h
theorem KeepB.new (a : KeepB P H H') (h : H' p = none) : KeepB P H (upd H' p o) := fun b u nb e => by
  have z := a b u nb e
  rw [upd_ne (ne_of_none z h)]
  exact z
theorem KeepB.mut (a : KeepB P H H') (h : H p = none) : KeepB P H (upd H' p o) := fun b u nb e => by
  rw [upd_ne (ne_of_none e h)]
  exact a b u nb e
theorem PenAt.ne_new (h : PenAt P n H) (hp : H p = none) : P.p ≠ p ∧ P.c ≠ p := by
  obtain ⟨_, _, _, _, _, e⟩ := h.ex
  exact ⟨ne_of_none e hp, ne_of_none h.cells hp⟩
theorem PenAt.same (h : PenAt P n H) (e : Same H H') : PenAt P n H' := by
  obtain ⟨s, r, h1, h2, h3, h4⟩ := h.ex
  exact ⟨⟨s, r, h1, h2, h3, e _ _ h4⟩, e _ _ h.cells, h.len, h.ne⟩
theorem PenAt.mono (h : PenAt P n H) (hm : n ≤ m) : PenAt P m H := by
  obtain ⟨s, r, h1, h2, h3, h4⟩ := h.ex
  exact ⟨⟨s, r, h1, by omega, h3, h4⟩, h.cells, h.len, h.ne⟩
theorem PL.at (g : PL P n H L) (i : Nat) (h : L[i]? = some (p, o)) : H p = some o := g.lg.at i h
theorem PL.mono (g : PL P n H L) (hm : n ≤ m) : PL P m H L := ⟨g.pen.mono hm, g.lg, g.np, g.nc⟩
theorem PL.start (h : PenAt P n H) : PL P n H [] := ⟨h, Lg.nil, by simp, by simp⟩
theorem PL.new (g : PL P n H L) (hp : H p = none) : PL P n (upd H p o) ((p, o) :: L) := by
  obtain ⟨h1, h2⟩ := g.pen.ne_new hp
  refine ⟨g.pen.same (same_upd hp), g.lg.new hp, ?_, ?_⟩
  · rw [List.map_cons, List.mem_cons]
    exact fun z => z.elim h1 g.np
  · rw [List.map_cons, List.mem_cons]
    exact fun z => z.elim h2 g.nc
theorem PL.same (g : PL P n H L) (e : Same H H') : PL P n H' L := ⟨g.pen.same e, g.lg.same e, g.np, g.nc⟩
theorem PL.tail {x : Addr × HO} (g : PL P n H (x :: L)) : PL P n H L := ⟨g.pen, g.lg.tail, fun h => g.np (by rw [List.map_cons]; exact List.mem_cons_of_mem _ h), fun h => g.nc (by rw [List.map_cons]; exact List.mem_cons_of_mem _ h)⟩
theorem PL.cons (g : PL P n H L) (hp : H p = some o) (n1 : p ∉ L.map (·.1)) (n2 : p ≠ P.p) (n3 : p ≠ P.c) : PL P n H ((p, o) :: L) := by
  refine ⟨g.pen, g.lg.cons hp n1, ?_, ?_⟩
  · rw [List.map_cons, List.mem_cons]
    exact fun z => z.elim (fun e => n2 e.symm) g.np
  · rw [List.map_cons, List.mem_cons]
    exact fun z => z.elim (fun e => n3 e.symm) g.nc
theorem PL.set (g : PL P n H L) (i : Nat) (h : L[i]? = some (p, o)) : PL P n (upd H p o') (L.set i (p, o')) := by
  have m : p ∈ L.map (·.1) := List.mem_map.mpr ⟨(p, o), List.mem_of_getElem? h, rfl⟩
  have n1 : P.p ≠ p := fun z => g.np (z ▸ m)
  have n2 : P.c ≠ p := fun z => g.nc (z ▸ m)
  have e : (L.set i (p, o')).map (·.1) = L.map (·.1) := by
    rw [List.map_set]
    have z : (L.map (·.1))[i]? = some p := by rw [List.getElem?_map, h]; rfl
    exact set_selfA z
  obtain ⟨s, r, h1, h2, h3, h4⟩ := g.pen.ex
  exact ⟨⟨⟨s, r, h1, h2, h3, by rw [upd_ne n1]; exact h4⟩, by rw [upd_ne n2]; exact g.pen.cells, g.pen.len, g.pen.ne⟩, g.lg.set i h, by rw [e]; exact g.np, by rw [e]; exact g.nc⟩
/-- behind a def that drew -/
theorem PL.drawn (g : PL P n H L) (k : KeepB P H H') (h : PenAt P m H') : PL P m H' L :=
  ⟨h, ⟨fun q hq => k _ _ (fun z => g.np (z ▸ List.mem_map_of_mem hq)) (g.lg.get q hq), g.lg.nd⟩, g.np, g.nc⟩
end

/-! ### texts as lists of code points -/
abbrev S (w : List Nat) : Str := ⟨w.toArray⟩
theorem S_inj {a b : List Nat} : S a = S b ↔ a = b := by
  constructor
  · intro h
    have z := congrArg (fun x : Str => x.cps.toList) h
    simpa using z
  · intro h; rw [h]
theorem S_len (w : List Nat) : (S w).length = w.length := by simp [S, Str.length]
theorem S_app (a b : List Nat) : S a ++ S b = S (a ++ b) := by
  show (⟨a.toArray ++ b.toArray⟩ : Str) = _
  simp [S]

/-! ### operators of several kinds -/
section
variable {X : Cx}
def rAddA : R2 := fun x y H Q => (rI0 (fun i j => .int (i + j)) x y H Q) ∨ (∃ i j, x = .str i ∧ y = .str j ∧ i.length + j.length ≤ sizeLine ∧ Q (.str (i ++ j)) H) ∨ rCat x y H Q
theorem op_addA : OpR X (binaryOp .Add) rAddA := op_add.or (op_add_str.or op_cat)
def rEqA (K : PySem.W.Frag) : R2 := fun x y H Q => rEq x y H Q ∨ rEqD K x y H Q
def rNeA (K : PySem.W.Frag) : R2 := fun x y H Q => rNe x y H Q ∨ rNeD K x y H Q
theorem op_eqA (hu : X.A.units + 64 < cLine) : OpR X (compareOp .Eq) (rEqA X.K) := op_eq.or (op_eqD hu)
theorem op_neA (hu : X.A.units + 64 < cLine) : OpR X (compareOp .NotEq) (rNeA X.K) := op_ne.or (op_neD hu)
def rInA (K : PySem.W.Frag) : R2 := fun x y H Q => (∃ (c : Nat) (z : Str), x = .str ⟨#[c]⟩ ∧ y = .str z ∧ Q (.bl (decide (c ∈ z.cps.toList))) H) ∨ rIn K false x y H Q
def rNiA (K : PySem.W.Frag) : R2 := fun x y H Q => (∃ (c : Nat) (z : Str), x = .str ⟨#[c]⟩ ∧ y = .str z ∧ Q (.bl (!decide (c ∈ z.cps.toList))) H) ∨ rIn K true x y H Q
theorem op_inA : OpR X (compareOp .In) (rInA X.K) := op_in_sign.or op_in_seq
theorem op_niA : OpR X (compareOp .NotIn) (rNiA X.K) := op_notIn_sign.or op_notIn_seq
def rSlA (K : PySem.W.Frag) : V → Option Int → Option Int → Hp → VK → Prop := fun x lo hi H Q => rSlL K x lo hi H Q ∨ rSlS x lo hi H Q
theorem sl_any : SlR X (rSlA X.K) := sl_list.or sl_str

theorem pe_S {x : Str} {w : List Nat} {j : Nat} {pos : Pos} (h : x = S w) : PE X (.Constant (.str x) j pos) (tC (.str (S w))) := by subst h; exact pe_str
/-- o.f: of an instance, or of an error -/
def tAttr (K : PySem.W.Frag) (f : Str) (te : TE) : TE := fun σ H Q => te σ H fun x H1 =>
  (∃ a C dx fs v, x = .ref a ∧ H1 a = some (.ins C dx fs) ∧ Cls K C ∧ NoAttr K C f ∧ fs.lookup f = some v ∧ Q v H1) ∨
  (∃ (a C dd : Addr) (fs : List (Str × V)) (v : V), x = .ref a ∧ XfF K C f ∧ H1 a = some (EXV (.ref C) (some dd) a) ∧ H1 dd = some (.xd fs) ∧ fs.lookup f = some v ∧ Q v H1)
theorem pe_attr {e : Expr} {te : TE} {pos : Pos} {n : Str} (he : PE X e te) (hb : attributeBase e n X.env (eval e X.env) = eval e X.env := by rfl) : PE X (.Attribute e n pos) (tAttr X.K n te) := by
  refine ⟨fun pins s σ H Q I h => ?_⟩
  refine attr_of hb (thn (he.run pins s σ H _ I h) fun u s1 ⟨x, H1, I1, rx, hh⟩ => ?_)
  rcases hh with ⟨a, C, dx, fs, v, ex, ea, c, n, l, q⟩ | ⟨a, C, dd, fs, v, ex, T, ea, ed, l, q⟩
  · subst ex
    obtain rfl : u = Value.ref a := rx
    exact getattr_ok I1 ea c n l fun u' s2 I2 ru => ⟨v, H1, I2, ru, q⟩
  · subst ex
    obtain rfl : u = Value.ref a := rx
    obtain ⟨oe, vs, ha, hz, hd⟩ := exv_at I1.hok ea
    have hx : ObjOk X.prog X.w H1 s1.heap dd (.xd fs) := I1.hok dd _ ed
    obtain ⟨mA, hns, hr⟩ := hx
    obtain ⟨od, ho, hl⟩ := lookIn_ns hns
    obtain ⟨u, hu, ru⟩ := RelO.some_of (v := v) (o := mA n) (by rw [← l]; exact hr n)
    have J : PySem.W.InstAt s1.heap a oe C (some od) := ⟨ha, hz.1, by unfold PySem.W.notCls; rw [hd] <;> rfl, by rw [hz.2]; exact ho⟩
    exact HandSPX.exc_get I1.kIn J T.c.ga T.c.gg T.c.exC (PySem.W.findObj_own T.c.hdC T.no rfl (by rw [hl, hu])) (handed_of ru) ⟨v, H1, I1.tok _, ru, q⟩
end

/-! ### a def that may raise, a class whose __init__ may raise -/
/-- a def that raises nothing -/
structure CalN (P : Program) (w : World) (K : PySem.W.Frag) (mg : Str → Option Value) (base : Heap) (k : Nat) (x : Str) (sp : Sp) : Prop where
  ex : ∃ (f : Addr) (fd : FuncData) (ps : List Str), FnOk P w K mg base CX0 k f fd ps sp ∧ mg x = some (.ref f) ∧ PySem.W.keepIn K (.ref f) = true ∧ Binds K fd ps []
structure CalX (P : Program) (w : World) (K : PySem.W.Frag) (mg : Str → Option Value) (base : Heap) (k : Nat) (x : Str) (sp : Sp) : Prop where
  ex : ∃ (f : Addr) (fd : FuncData) (ps : List Str), FnOk P w K mg base (L2.CX P w) k f fd ps sp ∧ mg x = some (.ref f) ∧ PySem.W.keepIn K (.ref f) = true ∧ Binds K fd ps []
section
variable {X : Cx} {k j : Nat} {C : Addr} {x m : Str} {sp : Sp} {p pos apos : Pos} {e o : Expr} {es : List Expr} {ta : TE} {t : TA} {E : XK} {W : WX}
theorem pe_cX (c : CalX X.prog X.w X.K X.mg X.base k x sp) (hr : Room j X.A) (hk : k ≤ j) (hx : Passes (L2.CX X.prog X.w) X E) (ha : PA X (e :: es) t) (hg : Gl X x := by rfl)
    (hdb : (x == ("__debug__" : Str)) = false := by decide) (he : starEach (e :: es) X.env = (false, eval e X.env) :: starEach es X.env := by rfl) (hpl : (backTo pos (starEach es X.env)).any (·.1) = false := by rfl) :
    PE X (.Call (.Name x p) (e :: es) [] pos) (tCall sp [] E t) := by
  obtain ⟨f, fd, ps, F, hm, kp, b⟩ := c.ex
  exact pe_call F (hr.mono hk) hg hm kp b .nil hx ha hdb he hpl
theorem pe_c0 (c : CalN X.prog X.w X.K X.mg X.base k x sp) (hr : Room j X.A) (hk : k ≤ j) (ha : PA X (e :: es) t) (hg : Gl X x := by rfl)
    (hdb : (x == ("__debug__" : Str)) = false := by decide) (he : starEach (e :: es) X.env = (false, eval e X.env) :: starEach es X.env := by rfl) (hpl : (backTo pos (starEach es X.env)).any (·.1) = false := by rfl) :
    PE X (.Call (.Name x p) (e :: es) [] pos) (tCall sp [] L2.E0 t) := by
  obtain ⟨f, fd, ps, F, hm, kp, b⟩ := c.ex
  exact pe_call F (hr.mono hk) hg hm kp b .nil pass0 ha hdb he hpl
/-- within a try -/
theorem pe_cS (c : CalX X.prog X.w X.K X.mg X.base k x sp) (hr : Room j X.A) (hk : k ≤ j) (tk : Takes X W) (ha : PA X (e :: es) t) (hg : Gl X x := by rfl)
    (hdb : (x == ("__debug__" : Str)) = false := by decide) (he : starEach (e :: es) X.env = (false, eval e X.env) :: starEach es X.env := by rfl) (hpl : (backTo pos (starEach es X.env)).any (·.1) = false := by rfl) :
    PE X (.Call (.Name x p) (e :: es) [] pos) (tCallS sp (WE W) t) := by
  obtain ⟨f, fd, ps, F, hm, kp, b⟩ := c.ex
  exact pe_callS F (hr.mono hk) hg hm kp b (fun σ => passAt tk σ) ha hdb he hpl
structure MakX (P : Program) (w : World) (K : PySem.W.Frag) (mg : Str → Option Value) (base : Heap) (k : Nat) (x : Str) (C : Addr) (sp : Sp) : Prop where
  ex : ∃ (f : Addr) (fd : FuncData) (ps : List Str), Mk K C f ∧ FnOk P w K mg base (L2.CX P w) k f fd ps sp ∧ mg x = some (.ref C) ∧ Binds K fd ps []
theorem pe_mX (c : MakX X.prog X.w X.K X.mg X.base k x C sp) (hr : Room j X.A) (hk : k + 1 ≤ j) (hx : Passes (L2.CX X.prog X.w) X E) (ha : PA X (e :: es) t) (hg : Gl X x := by rfl)
    (hdb : (x == ("__debug__" : Str)) = false := by decide) (he : starEach (e :: es) X.env = (false, eval e X.env) :: starEach es X.env := by rfl) (hpl : (backTo pos (starEach es X.env)).any (·.1) = false := by rfl) :
    PE X (.Call (.Name x p) (e :: es) [] pos) (tMake C sp [] E t) := by
  obtain ⟨f, fd, ps, M, F, hm, b⟩ := c.ex
  exact pe_make M F (hr.mono hk) hg hm b .nil hx ha hdb he hpl
end
end Cs

set_option Elab.async false
set_option linter.all false
set_option maxRecDepth 100000
set_option maxHeartbeats 4000000
/-! TxtA: texts of the eight letters. -/
namespace Cs
open PySem PySem.Spec PyProof.Rows L2

abbrev lets : List Nat := [65, 66, 67, 68, 97, 98, 99, 100]
/-- one of the eight letters -/
def isL (c : Nat) : Bool := lets.contains c
/-- the undoing of a letter -/
def und (c : Nat) : Nat := if c < 97 then c + 32 else c - 32
def AllL (w : List Nat) : Prop := ∀ c ∈ w, isL c = true
theorem isL_mem {c : Nat} (h : isL c = true) : c ∈ lets := by simpa [isL] using h
theorem isL_iff {c : Nat} : isL c = true ↔ c ∈ lets := by simp [isL]
theorem isL_cases {c : Nat} (h : isL c = true) : c = 65 ∨ c = 66 ∨ c = 67 ∨ c = 68 ∨ c = 97 ∨ c = 98 ∨ c = 99 ∨ c = 100 := by
  have z := isL_mem h
  simpa [lets] using z
theorem und_und {c : Nat} (h : isL c = true) : und (und c) = c := by
  rcases isL_cases h with rfl | rfl | rfl | rfl | rfl | rfl | rfl | rfl <;> rfl
theorem und_L {c : Nat} (h : isL c = true) : isL (und c) = true := by
  rcases isL_cases h with rfl | rfl | rfl | rfl | rfl | rfl | rfl | rfl <;> rfl
theorem und_ne {c : Nat} (h : isL c = true) : und c ≠ c := by
  rcases isL_cases h with rfl | rfl | rfl | rfl | rfl | rfl | rfl | rfl <;> decide
theorem und_inj {c d : Nat} (hc : isL c = true) (hd : isL d = true) (h : und c = und d) : c = d := by
  rw [← und_und hc, ← und_und hd, h]

theorem placed_one {w : List Nat} {f : Nat → Nat → List Nat} {g : Nat → Nat} (h : ∀ (i c : Nat), w[i]? = some c → f i c = [g c]) : placed (S w) f = (w.map g).toArray := by
  unfold placed
  apply Array.ext'
  simp only [S, List.mapIdx_toArray, Array.toList_flatten]
  have e : List.mapIdx (fun i c => (f i c).toArray) w = w.map fun c => #[g c] := by
    apply List.ext_getElem?
    intro i
    simp only [List.getElem?_mapIdx, List.getElem?_map]
    cases q : w[i]? with
    | none => rfl
    | some c =>
      simp [h i c q]
  rw [e]
  clear e h
  induction w with
  | nil => rfl
  | cons a w ih => simpa using ih

theorem up_of {c : Nat} (h : isL c = true) : Unicode.isUpper c = decide (c < 97) ∧ Unicode.isLower c = decide (97 ≤ c) ∧ Unicode.isTitle c = false := by
  rcases isL_cases h with rfl | rfl | rfl | rfl | rfl | rfl | rfl | rfl <;> decide +kernel
theorem lowerOf_of {c : Nat} (h : isL c = true) : Unicode.lowerOf c = [if c < 97 then c + 32 else c] := by
  rcases isL_cases h with rfl | rfl | rfl | rfl | rfl | rfl | rfl | rfl <;> decide +kernel
theorem upperOf_of {c : Nat} (h : isL c = true) : Unicode.upperOf c = [if c < 97 then c else c - 32] := by
  rcases isL_cases h with rfl | rfl | rfl | rfl | rfl | rfl | rfl | rfl <;> decide +kernel
theorem lowerAt_of {w : List Nat} {i c : Nat} (h : isL c = true) (hi : w[i]? = some c) : Unicode.lowerAt (S w).cps i = [if c < 97 then c + 32 else c] := by
  unfold Unicode.lowerAt
  have e : (S w).cps[i]? = some c := by simpa using hi
  rw [e]
  have n : (c == 0x3A3) = false := by
    rcases isL_cases h with rfl | rfl | rfl | rfl | rfl | rfl | rfl | rfl <;> rfl
  simp only [n, Bool.false_and, Bool.false_eq_true, if_false]
  exact lowerOf_of h
def low (c : Nat) : Nat := if c < 97 then c + 32 else c
def upp (c : Nat) : Nat := if c < 97 then c else c - 32
theorem swapcase_S {w : List Nat} (h : AllL w) : Txt.swapcase (S w) = S (w.map und) := by
  unfold Txt.swapcase
  rw [placed_one (w := w) (g := und) fun i c hi => ?_]
  have hc := h c (List.mem_of_getElem? hi)
  obtain ⟨h1, h2, _⟩ := up_of hc
  by_cases q : c < 97
  · rw [h1, decide_eq_true q, if_pos rfl, lowerAt_of hc hi]
    simp [und, q]
  · rw [h1, decide_eq_false q, if_neg Bool.false_ne_true, h2, decide_eq_true (by omega : 97 ≤ c), if_pos rfl, upperOf_of hc]
    simp [und, q]
theorem lower_S {w : List Nat} (h : AllL w) : Txt.lower (S w) = S (w.map low) := by
  unfold Txt.lower
  rw [placed_one (w := w) (g := low) fun i c hi => ?_]
  exact lowerAt_of (h c (List.mem_of_getElem? hi)) hi
theorem upper_S {w : List Nat} (h : AllL w) : Txt.upper (S w) = S (w.map upp) := by
  unfold Txt.upper
  rw [placed_one (w := w) (g := upp) fun i c hi => ?_]
  exact upperOf_of (h c (List.mem_of_getElem? hi))
theorem isupper_1 {c : Nat} (h : isL c = true) : Txt.isupper (S [c]) = decide (c < 97) := by
  obtain ⟨h1, h2, h3⟩ := up_of h
  unfold Txt.isupper
  simp only [S, List.any_toArray, List.any_cons, List.any_nil, Bool.or_false, h1, h2, h3]
  by_cases q : c < 97
  · simp [q]
  · simp [q]
theorem startswith_S (a b : List Nat) : Txt.startswith (S a) (S b) = b.isPrefixOf a := by
  unfold Txt.startswith
  rw [S_len, S_len]
  unfold PySem.Builtin.Str.subAt
  rw [S_len]
  have e : ((S a).cps.extract 0 (0 + b.length) == (S b).cps) = decide (a.take b.length = b) := by
    rw [Bool.eq_iff_iff, beq_iff_eq, decide_eq_true_iff]
    constructor
    · intro h
      have z := congrArg Array.toList h
      simpa using z
    · intro h
      apply Array.ext'
      simpa using h
  rw [e, Bool.eq_iff_iff, List.isPrefixOf_iff_prefix, List.prefix_iff_eq_take]
  simp only [Bool.and_eq_true, decide_eq_true_iff, Nat.zero_add]
  constructor
  · intro h; exact h.2.symm
  · intro h
    refine ⟨?_, h.symm⟩
    have z := congrArg List.length h
    rw [List.length_take] at z
    omega
theorem toList_S (w : List Nat) : (S w).cps.toList = w := by simp
/-! ### slices -/
theorem cutS_S (w : List Nat) (lo hi : Option Int) : cutS (S w) lo hi = S ((w.drop (HT.sIx w.length 0 lo)).take (HT.sIx w.length w.length hi - HT.sIx w.length 0 lo)) := by
  unfold cutS
  rw [S_len]
/-- w[:k], 0 ≤ k -/
theorem cut_to (w : List Nat) (k : Nat) : cutS (S w) none (some (k : Int)) = S (w.take k) := by
  rw [cutS_S, HT.sIx_none, HT.sIx_nat]
  simp only [List.drop_zero, Nat.sub_zero]
  by_cases h : k ≤ w.length
  · rw [Nat.min_eq_left h]
  · rw [Nat.min_eq_right (by omega), List.take_length, List.take_of_length_le (by omega)]
/-- w[k:], 0 ≤ k -/
theorem cut_from (w : List Nat) (k : Nat) : cutS (S w) (some (k : Int)) none = S (w.drop k) := by
  rw [cutS_S, HT.sIx_none, HT.sIx_nat]
  congr 2
  by_cases h : k ≤ w.length
  · rw [Nat.min_eq_left h]
    apply List.take_of_length_le
    simp
  · rw [Nat.min_eq_right (by omega)]
    rw [List.drop_of_length_le (by omega : w.length ≤ k), List.drop_length]
    simp
/-- w[:-1] -/
theorem cut_init (w : List Nat) : cutS (S w) none (some (-1)) = S w.dropLast := by
  rw [cutS_S, HT.sIx_none]
  have e : HT.sIx w.length w.length (some (-1)) = w.length - 1 := by
    unfold HT.sIx
    simp only [show (-1 : Int) < 0 by decide, if_true]
    omega
  rw [e, List.dropLast_eq_take]
  simp
/-- w[-1:] -/
theorem cut_last (w : List Nat) : cutS (S w) (some (-1)) none = S (w.drop (w.length - 1)) := by
  rw [cutS_S, HT.sIx_none]
  have e : HT.sIx w.length 0 (some (-1)) = w.length - 1 := by
    unfold HT.sIx
    simp only [show (-1 : Int) < 0 by decide, if_true]
    omega
  rw [e]
  congr 2
  apply List.take_of_length_le
  simp
/-- w[-2:-1] -/
theorem cut_21 (w : List Nat) : cutS (S w) (some (-2)) (some (-1)) = S ((w.drop (w.length - 2)).take (w.length - 1 - (w.length - 2))) := by
  rw [cutS_S]
  have e : HT.sIx w.length 0 (some (-2)) = w.length - 2 := by
    unfold HT.sIx
    simp only [show (-2 : Int) < 0 by decide, if_true]
    omega
  have e' : HT.sIx w.length w.length (some (-1)) = w.length - 1 := by
    unfold HT.sIx
    simp only [show (-1 : Int) < 0 by decide, if_true]
    omega
  rw [e, e']
theorem atI_neg {α : Type} {xs : List α} {k : Nat} {x : α} (h0 : 0 < k) (hk : k ≤ xs.length) (h : xs[xs.length - k]? = some x) : atI xs (-(k : Int)) = some x := by
  unfold atI ixN
  rw [if_neg (by omega), if_pos (by omega)]
  have e : (-(k : Int) + (xs.length : Int)).toNat = xs.length - k := by omega
  rw [e]
  exact h
end Cs

set_option Elab.async false
set_option linter.all false
set_option maxRecDepth 100000
set_option maxHeartbeats 4000000
/-! LayB: readings, step by step. -/
namespace Cs
open PySem PySem.Spec PyProof.Rows L2
/-- x.f -/
def rAttr (K : PySem.W.Frag) (f : Str) (x : V) (H1 : Hp) (Q : VK) : Prop := (∃ a C dx fs v, x = .ref a ∧ H1 a = some (.ins C dx fs) ∧ Cls K C ∧ NoAttr K C f ∧ fs.lookup f = some v ∧ Q v H1) ∨
  (∃ (a C dd : Addr) (fs : List (Str × V)) (v : V), x = .ref a ∧ XfF K C f ∧ H1 a = some (EXV (.ref C) (some dd) a) ∧ H1 dd = some (.xd fs) ∧ fs.lookup f = some v ∧ Q v H1)
section
variable {K : PySem.W.Frag} {σ : L2.St} {H : Hp} {Q : VK} {QT : Bool → Hp → Prop} {QA : List V → Hp → Prop} {QO : Option Int → Hp → Prop} {D : Ends} {ta tb tc te tv : TE} {tA tB' : TT} {t u : TS} {tr : TA} {x y v : V} {i : Nat} {r r' : R2} {g : TG} {f : Str}
/-! ### expressions -/
theorem r_var (h : σ[i]? = some (some v)) (q : Q v H) : tVar i σ H Q := ⟨v, h, q⟩
theorem r_c (q : Q v H) : tC v σ H Q := q
theorem r_op (q : ta σ H fun x H1 => tb σ H1 fun y H2 => r x y H2 Q) : tOp r ta tb σ H Q := q
theorem r_un {ru : V → Hp → VK → Prop} (q : ta σ H fun x H1 => ru x H1 Q) : tUn ru ta σ H Q := q
theorem r_I0 {gg : Int → Int → V} {a b : Int} (q : Q (gg a b) H) : rI0 gg (.int a) (.int b) H Q := ⟨a, b, rfl, rfl, q⟩
theorem r_I {C : Int → Int → Prop} {gg : Int → Int → V} {a b : Int} (c : C a b) (q : Q (gg a b) H) : rI C gg (.int a) (.int b) H Q := ⟨a, b, rfl, rfl, c, q⟩
theorem r_U {gg : Int → V} {a : Int} (q : Q (gg a) H) : rU gg (.int a) H Q := ⟨a, rfl, q⟩
theorem r_addI {a b : Int} (q : Q (.int (a + b)) H) : rAddA (.int a) (.int b) H Q := .inl ⟨a, b, rfl, rfl, q⟩
theorem r_addS {a b : List Nat} (hl : a.length + b.length ≤ 1000000) (q : Q (.str (S (a ++ b))) H) : rAddA (.str (S a)) (.str (S b)) H Q :=
  .inr (.inl ⟨S a, S b, rfl, rfl, by rw [S_len, S_len, sizeLine_eq]; omega, by rw [S_app]; exact q⟩)
theorem r_addL {l b : Addr} {xs zs : List V} (h1 : H l = some (.lst xs)) (h2 : H b = some (.lst zs)) (hl : xs.length + zs.length ≤ 1000000) (q : ∀ p, H p = none → Q (.ref p) (upd H p (.lst (xs ++ zs)))) : rAddA (.ref l) (.ref b) H Q :=
  .inr (.inr ⟨l, b, xs, zs, rfl, rfl, h1, h2, by rw [sizeLine_eq]; omega, q⟩)
theorem r_eqI {a b : Int} (q : Q (.bl (decide (a = b))) H) : rEqA K (.int a) (.int b) H Q := .inl ⟨rfl, by
  have e : decide (V.int a = V.int b) = decide (a = b) := by simp
  rw [e]; exact q⟩
theorem r_neI {a b : Int} (q : Q (.bl (!decide (a = b))) H) : rNeA K (.int a) (.int b) H Q := .inl ⟨rfl, by
  have e : decide (V.int a = V.int b) = decide (a = b) := by simp
  rw [e]; exact q⟩
theorem r_eqS {a b : List Nat} (q : Q (.bl (decide (a = b))) H) : rEqA K (.str (S a)) (.str (S b)) H Q := .inl ⟨rfl, by
  have e : decide (V.str (S a) = V.str (S b)) = decide (a = b) := by simp
  rw [e]; exact q⟩
theorem r_neS {a b : List Nat} (q : Q (.bl (!decide (a = b))) H) : rNeA K (.str (S a)) (.str (S b)) H Q := .inl ⟨rfl, by
  have e : decide (V.str (S a) = V.str (S b)) = decide (a = b) := by simp
  rw [e]; exact q⟩
theorem r_eqB {a b : Bool} (q : Q (.bl (decide (a = b))) H) : rEqA K (.bl a) (.bl b) H Q := .inl ⟨rfl, by
  have e : decide (V.bl a = V.bl b) = decide (a = b) := by simp
  rw [e]; exact q⟩
theorem r_neB {a b : Bool} (q : Q (.bl (!decide (a = b))) H) : rNeA K (.bl a) (.bl b) H Q := .inl ⟨rfl, by
  have e : decide (V.bl a = V.bl b) = decide (a = b) := by simp
  rw [e]; exact q⟩
theorem r_eqD {d e : PyData} (hx : Dp K H x d) (hy : Dp K H y e) (h1 : SeqAt.shaped d = true) (h2 : SeqAt.shaped e = true) (q : Q (.bl (PyData.eqv d e)) H) : rEqA K x y H Q := .inr ⟨d, e, hx, hy, h1, h2, q⟩
theorem r_neD {d e : PyData} (hx : Dp K H x d) (hy : Dp K H y e) (h1 : SeqAt.shaped d = true) (h2 : SeqAt.shaped e = true) (q : Q (.bl (!PyData.eqv d e)) H) : rNeA K x y H Q := .inr ⟨d, e, hx, hy, h1, h2, q⟩
theorem r_inS {c : Nat} {w : List Nat} (q : Q (.bl (decide (c ∈ w))) H) : rInA K (.str (S [c])) (.str (S w)) H Q := .inl ⟨c, S w, rfl, rfl, by rw [toList_S]; exact q⟩
theorem r_niS {c : Nat} {w : List Nat} (q : Q (.bl (!decide (c ∈ w))) H) : rNiA K (.str (S [c])) (.str (S w)) H Q := .inl ⟨c, S w, rfl, rfl, by rw [toList_S]; exact q⟩
theorem r_test (q : te σ H fun x H' => ∃ k, x = .bl k ∧ QT k H') : tTest te σ H QT := q
theorem r_tB (q : te σ H fun x H' => ∃ k, x = .bl k ∧ QT k H') : tB te σ H QT := q
theorem r_bl {b : Bool} {A : Bool → Prop} (q : A b) : ∃ k, V.bl b = .bl k ∧ A k := ⟨b, rfl, q⟩
theorem r_and (q : tA σ H fun c H1 => if c = true then tB' σ H1 QT else QT false H1) : tAnd tA tB' σ H QT := q
theorem r_or (q : tA σ H fun c H1 => if c = true then QT true H1 else tB' σ H1 QT) : tOr tA tB' σ H QT := q
theorem r_not (q : tA σ H fun c H1 => QT (!c) H1) : tNot tA σ H QT := q
theorem r_andV (q : ta σ H fun x H1 => ∃ c, x = .bl c ∧ if c = true then tb σ H1 Q else Q (.bl false) H1) : tAndV ta tb σ H Q := q
theorem r_orV (q : ta σ H fun x H1 => ∃ c, x = .bl c ∧ if c = true then Q (.bl true) H1 else tb σ H1 Q) : tOrV ta tb σ H Q := q
theorem r_notV (q : ta σ H fun x H1 => ∃ c, x = .bl c ∧ Q (.bl (!c)) H1) : tNotV ta σ H Q := q
theorem r_blv {b : Bool} {P : Bool → Prop} (q : P b) : ∃ c, V.bl b = .bl c ∧ P c := ⟨b, rfl, q⟩
theorem r_if (q : tA σ H fun c H1 => if c = true then ta σ H1 Q else tb σ H1 Q) : tIf tA ta tb σ H Q := q
theorem r_ift {A B : Prop} (q : A) : if true = true then A else B := by rw [if_pos rfl]; exact q
theorem r_iff {A B : Prop} (q : B) : if false = true then A else B := by rw [if_neg Bool.false_ne_true]; exact q
theorem r_it {b : Bool} {A B : Prop} (h : b = true) (q : A) : if b = true then A else B := by rw [if_pos h]; exact q
theorem r_ie {b : Bool} {A B : Prop} (h : b = false) (q : B) : if b = true then A else B := by rw [h, if_neg Bool.false_ne_true]; exact q
theorem r_ib {b : Bool} {A B : Prop} (h1 : b = true → A) (h2 : b = false → B) : if b = true then A else B := by
  cases b with
  | true => exact r_ift (h1 rfl)
  | false => exact r_iff (h2 rfl)
theorem r_nil (q : QA [] H) : tNil σ H QA := q
theorem r_cons (q : te σ H fun x H1 => tr σ H1 fun xs H2 => QA (x :: xs) H2) : tCons te tr σ H QA := q
theorem r_tup (q : tr σ H fun xs H1 => xs.length ≤ sizeLine ∧ ∀ p, H1 p = none → Q (.ref p) (upd H1 p (.tup xs))) : tTup tr σ H Q := q
theorem r_lst (q : tr σ H fun xs H1 => xs.length ≤ sizeLine ∧ ∀ p, H1 p = none → Q (.ref p) (upd H1 p (.lst xs))) : tLst tr σ H Q := q
theorem r_sz {xs : List V} {A : Prop} (h : xs.length ≤ 1000000) (q : A) : xs.length ≤ sizeLine ∧ A := ⟨by rw [sizeLine_eq]; omega, q⟩
theorem r_cb {rc : List V → Hp → VK → Prop} (q : tr σ H fun vs H1 => rc vs H1 Q) : tCB rc tr σ H Q := q
theorem r_call {sp : Sp} {dvs : List V} {E : XK} (q : tr σ H fun vs H1 => sp (vs ++ dvs) H1 Q E) : tCall sp dvs E tr σ H Q := q
theorem r_callS {sp : Sp} {E : L2.St → XK} (q : tr σ H fun vs H1 => sp vs H1 Q (E σ)) : tCallS sp E tr σ H Q := q
theorem r_app {vs : List V} {P : List V → Prop} (q : P vs) : P (vs ++ []) := by rw [List.append_nil]; exact q
theorem r_make {C : Addr} {sp : Sp} {dvs : List V} {E : XK} (q : tr σ H fun vs H1 => ∀ x dx, H1 x = none → H1 dx = none → dx ≠ x → sp (.ref x :: (vs ++ dvs)) (upd (upd H1 dx (.own x)) x (.ins C dx [])) (fun v H2 => v = .non ∧ Q (.ref x) H2) E) : tMake C sp dvs E tr σ H Q := q
theorem r_attr (q : te σ H fun x H1 => rAttr K f x H1 Q) : tAttr K f te σ H Q := q
theorem r_sl {rs : V → Option Int → Option Int → Hp → VK → Prop} {tl th : TO} (q : te σ H fun x H1 => tl σ H1 fun l H2 => th σ H2 fun u H3 => rs x l u H3 Q) : tSl rs te tl th σ H Q := q
theorem r_nopart (q : QO none H) : tNoPart σ H QO := q
theorem r_part (q : te σ H fun x H1 => ∃ i, x = .int i ∧ QO (some i) H1) : tPart te σ H QO := q
theorem r_parti {n : Int} {A : Int → Prop} (q : A n) : ∃ i, V.int n = .int i ∧ A i := ⟨n, rfl, q⟩
theorem r_slS {w w' : List Nat} {lo hi : Option Int} (e : cutS (S w) lo hi = S w') (hl : w.length ≤ 1000000) (q : Q (.str (S w')) H) : rSlA K (.str (S w)) lo hi H Q := .inr ⟨S w, rfl, by rw [S_len, sizeLine_eq]; omega, by rw [e]; exact q⟩
theorem r_slL {a : Addr} {xs xs' : List V} {lo hi : Option Int} (h : SqL K H a xs) (e : cutV xs lo hi = xs') (q : ∀ p, H p = none → Q (.ref p) (upd H p (.lst xs'))) : rSlA K (.ref a) lo hi H Q := .inl ⟨a, xs, rfl, h, by rw [e]; exact q⟩
theorem r_ixS {w : List Nat} {n : Int} {c : Nat} (hl : w.length ≤ 1000000) (h : atI w n = some c) (q : Q (.str (S [c])) H) : rIx K (.str (S w)) (.int n) H Q := .inr (.inr ⟨S w, n, c, rfl, rfl, by rw [S_len, sizeLine_eq]; omega, by rw [toList_S]; exact h, q⟩)
theorem r_ixL {a : Addr} {xs : List V} {n : Int} {v : V} (h : SqL K H a xs) (e : atI xs n = some v) (q : Q v H) : rIx K (.ref a) (.int n) H Q := .inl ⟨a, xs, n, v, rfl, rfl, h, e, q⟩
theorem r_ixT {a : Addr} {xs : List V} {n : Int} {v : V} (h : SqT K H a xs) (e : atI xs n = some v) (q : Q v H) : rIx K (.ref a) (.int n) H Q := .inr (.inl ⟨a, xs, n, v, rfl, rfl, h, e, q⟩)
theorem r_bm0 {T : String} {rm : V → List V → Hp → VK → Prop} (q : te σ H fun x H1 => tyV K T x H1 ∧ rm x [] H1 Q) : tBM0 K T rm te σ H Q := q
theorem r_bm {T : String} {rm : V → List V → Hp → VK → Prop} (q : te σ H fun x H1 => tyV K T x H1 ∧ tr σ H1 fun xs H2 => rm x xs H2 Q) : tBM K T rm te tr σ H Q := q
theorem r_tyL {a : Addr} {xs : List V} {A : Prop} (h : SqL K H a xs) (q : A) : tyV K "list" (.ref a) H ∧ A := ⟨.inl ⟨rfl, _, h⟩, q⟩
theorem r_tyS {z : Str} {A : Prop} (q : A) : tyV K "str" (.str z) H ∧ A := ⟨rfl, q⟩
theorem r_dnew (q : ∀ p, H p = none → Q (.ref p) (upd H p (.dK []))) : tDNewK σ H Q := q
theorem r_isi (q : te σ H fun x H1 => tr σ H1 fun xs H2 => rIsiE K (x :: xs) H2 Q) : tCB (rIsiE K) (tCons te tr) σ H Q := q
theorem r_lenS {w : List Nat} (hl : w.length ≤ 1000000) (q : Q (.int (w.length : Nat)) H) : ∃ x n, [V.str (S w)] = [x] ∧ LenV K x H n ∧ Q (.int (n : Nat)) H := ⟨_, w.length, rfl, ⟨by rw [S_len, sizeLine_eq]; omega, (S_len w).symm⟩, q⟩
theorem r_lenL {a : Addr} {xs : List V} (h : SqL K H a xs) (q : Q (.int (xs.length : Nat)) H) : ∃ x n, [V.ref a] = [x] ∧ LenV K x H n ∧ Q (.int (n : Nat)) H := ⟨_, xs.length, rfl, .inl ⟨xs, h, rfl⟩, q⟩
theorem r_lenT {a : Addr} {xs : List V} (h : SqT K H a xs) (q : Q (.int (xs.length : Nat)) H) : ∃ x n, [V.ref a] = [x] ∧ LenV K x H n ∧ Q (.int (n : Nat)) H := ⟨_, xs.length, rfl, .inr ⟨xs, h, rfl⟩, q⟩
/-! ### statements -/
theorem r_seq (q : t { D with nx := u D } σ H) : tSeq t u D σ H := q
theorem r_next (q : D.nx σ H) : tNext D σ H := q
theorem r_brk (q : D.bk σ H) : tBreak D σ H := q
theorem r_cont (q : D.ct σ H) : tCont D σ H := q
theorem r_asg (q : te σ H fun x H1 => g x σ H1 D.nx) : tAsg te g D σ H := q
theorem r_gname {QS : L2.St → Hp → Prop} (q : QS (σ.set i (some v)) H) : gName i v σ H QS := q
theorem r_ret (q : te σ H D.rt) : tRet te D σ H := q
theorem r_retN (q : D.rt .non H) : tRetN D σ H := q
theorem r_drop (q : te σ H fun _ H1 => D.nx σ H1) : tDrop te D σ H := q
theorem r_ifs {c : TT} (q : c σ H fun b H1 => if b = true then t D σ H1 else u D σ H1) : tIfS c t u D σ H := q
theorem r_fld (q : tv σ H fun y H1 => ta σ H1 fun x H2 => ∃ a C dx fs, x = .ref a ∧ H2 a = some (.ins C dx fs) ∧ Cls K C ∧ NoAttr K C f ∧ fs.length < 1000 ∧ D.nx σ (upd H2 a (.ins C dx (putF f y fs)))) : sFld K ta tv f D σ H := q
theorem r_gsub {to ti : TE} {ts : TSet} {QS : L2.St → Hp → Prop} (q : to σ H fun o H1 => ti σ H1 fun i H2 => ts o i v H2 fun H3 => QS σ H3) : gSub to ti ts v σ H QS := q
end
/-! ### the stepper: k_step "go" -/
local macro_rules | `(tactic| walk_at "one") => `(tactic| with_reducible (first
  | refine r_seq ?_ | refine r_asg ?_ | refine r_gname ?_ | refine r_ret ?_ | refine r_drop ?_ | refine r_ifs ?_ | refine r_next ?_ | refine r_retN ?_ | refine r_fld ?_ | refine r_gsub ?_ | refine r_brk ?_ | refine r_cont ?_
  | refine r_var rfl ?_ | refine r_c ?_ | refine r_op ?_ | refine r_un ?_ | refine r_test ?_ | refine r_tB ?_ | refine r_bl ?_ | refine r_blv ?_
  | refine r_cons ?_ | refine r_nil ?_ | refine r_cb ?_ | refine r_call ?_ | refine r_callS ?_ | refine r_tup ?_ | refine r_lst ?_ | refine r_make ?_ | refine r_attr ?_
  | refine r_sl ?_ | refine r_nopart ?_ | refine r_part ?_ | refine r_parti ?_ | refine r_bm0 ?_ | refine r_bm ?_ | refine r_dnew ?_
  | refine r_and ?_ | refine r_or ?_ | refine r_not ?_ | refine r_andV ?_ | refine r_orV ?_ | refine r_notV ?_ | refine r_if ?_ | refine r_ift ?_ | refine r_iff ?_
  | refine r_I0 ?_ | refine r_U ?_ | refine r_addI ?_ | refine r_eqI ?_ | refine r_neI ?_ | refine r_eqS ?_ | refine r_neS ?_ | refine r_eqB ?_ | refine r_neB ?_ | refine r_inS ?_ | refine r_niS ?_))
end Cs

set_option Elab.async false
set_option linter.all false
set_option maxRecDepth 100000
set_option maxHeartbeats 4000000
/-! LayC: rules that the layer lacks: enumerate of a text, text times int, swapcase, calls by keywords alone. -/
namespace Cs
open PySem PySem.Spec PyProof.Rows L2
section
variable {X : Cx}
theorem mt_swapcase : MtR X "str.swapcase" (fun x xs H Q => ∃ a, x = .str a ∧ xs = [] ∧ a.length ≤ 5592405 ∧ Q (.str (Txt.swapcase a)) H) :=
  mt0 (C := fun a => a.length ≤ 5592405) (g := fun a => .str (Txt.swapcase a)) fun a _ s _ hc h =>
    SCL.swapcase hc (fun _ => h _ (s.toks + 1) ⟨_, rfl⟩)
theorem mt_isupper : MtR X "str.isupper" (fun x xs H Q => ∃ a, x = .str a ∧ xs = [] ∧ True ∧ Q (.bl (Txt.isupper a)) H) :=
  mt0 (C := fun _ => True) (g := fun a => .bl (Txt.isupper a)) fun _ _ s _ _ h => PySem.SC.isupper (h _ s.toks rfl)
/-- text * n -/
def rRepS : R2 := fun x y H Q => ∃ (w : List Nat) (n : Nat), x = .str (S w) ∧ y = .int (n : Nat) ∧ w.length ≤ 1000 ∧ n ≤ 10000 ∧ Q (.str (S (List.replicate n w).flatten)) H
theorem foldl_arr (w : Array Nat) : ∀ (n : Nat) (acc : Array Nat), (List.replicate n w).foldl (· ++ ·) acc = acc ++ ((List.replicate n w.toList).flatten).toArray
  | 0, acc => by simp
  | n + 1, acc => by
    rw [List.replicate_succ, List.foldl_cons, foldl_arr w n, List.replicate_succ, List.flatten_cons]
    apply Array.ext'
    simp
theorem rep_len (w : List Nat) (n : Nat) : ((List.replicate n w).flatten).length = n * w.length := by
  induction n with
  | zero => simp
  | succ n ih => rw [List.replicate_succ, List.flatten_cons, List.length_append, ih, Nat.succ_mul, Nat.add_comm]
theorem op_repS : OpR X (binaryOp .Mult) rRepS := by
  intro pins s σ H x y v u Q I rx ry h
  obtain ⟨w, n, rfl, rfl, hw, hn, q⟩ := h
  obtain ⟨t, rfl⟩ := rx
  obtain ⟨t', rfl⟩ := ry
  have hm : w.length * n ≤ 1000 * 10000 := Nat.mul_le_mul hw hn
  have hp : (1 : Int) ≤ (n : Int) ∨ (n : Int) < 1 := by omega
  refine PySem.P.mul_str ?_ (fun h1 _ => ?_) (fun h1 _ => ?_) ?_
  · rw [decide_eq_false (by omega), decide_eq_false (by omega)]; rfl
  · rw [S_len]
    have h2 : (0 : Int) < (n : Int) := by omega
    have h3 : ((w.length : Int)) * (n : Int) ≤ 2 ^ 63 - 1 := by
      have : ((w.length * n : Nat) : Int) ≤ 10000000 := by omega
      rw [Int.natCast_mul] at this
      omega
    have h4 : (w.length : Int) ≤ (2 ^ 63 - 1) / (n : Int) := Int.le_ediv_of_mul_le h2 h3
    omega
  · rw [S_len]
    exact short24 (by rw [Int.toNat_natCast]; omega)
  · have fin : ∀ {z : Str}, z = S (List.replicate n w).flatten → (Made.str z).post (EP X pins σ Q) s := fun {z} e => by
      refine ⟨?_, ?_⟩
      · rw [e]
        rw [S_len, rep_len, sizeLine_eq, Nat.mul_comm]
        omega
      · exact ⟨.str z, H, I.tok _, ⟨_, rfl⟩, by rw [e]; exact q⟩
    split
    · rename_i h1
      have e : n = 0 := by omega
      subst e
      exact fin rfl
    · split
      · rename_i h1 h2
        have e : S w = S (List.replicate n w).flatten := by
          simp only [Bool.or_eq_true, beq_iff_eq] at h2
          rcases h2 with h2 | h2
          · have : n = 1 := by omega
            subst this
            simp
          · rw [S_len] at h2
            have : w = [] := List.eq_nil_of_length_eq_zero h2
            subst this
            rw [S_inj]
            refine (List.eq_nil_of_length_eq_zero ?_).symm
            rw [rep_len]; simp
        exact ⟨.str (S w), H, I, ⟨_, rfl⟩, by rw [← e] at q; exact q⟩
      · refine fin ?_
        rw [Int.toNat_natCast, foldl_arr]
        simp [S]
end

/-! ### enumerate of a text -/
def Ites (x : Str) : It :=
  ⟨fun i _ => i < x.cps.size, fun i H v H' => ∃ T c, v = .ref T ∧ H T = none ∧ H' = upd H T (.tup [.int (i : Nat), .str ⟨#[c]⟩]) ∧ x.cps[i]? = some c, fun i _ => x.cps.size ≤ i⟩
theorem turn_enumS {P : Program} {w : World} {K : PySem.W.Frag} {elts : List Expr} {kk : Nat} {tpos : Pos} (x : Str) (t : Tok) (e it : Addr) :
    Turn P w K (.Tuple elts kk tpos) (Ites x) [e, it] e (fun i h => (∃ old, IsEnum h e it ((i : Nat) : Int) old) ∧ h.IsStrIter it (strIterType x) x t i ∧ e ≠ it) where
  mem := by simp
  obj := fun i h st b hb => by
    obtain ⟨⟨old, he⟩, ⟨o, ho, hc, hd⟩, _⟩ := st
    have e' : b = e ∨ b = it := by simpa using hb
    rcases e' with z | z
    · rw [z]; exact ⟨_, he, fun v q => nomatch q⟩
    · rw [z]; exact ⟨o, ho, fun v q => by rw [hd] at q; cases q⟩
  keep := fun i h h' st k => let ⟨⟨old, he⟩, ⟨o, ho, r⟩, hne⟩ := st; ⟨⟨old, k e (by simp) _ he⟩, ⟨o, k it (by simp) o ho, r⟩, hne⟩
  item := by
    intro X hP hw hK hc i pins s σ H E I hf st hg
    subst hP hw hK
    obtain ⟨⟨old, he⟩, hit, hne⟩ := st
    have hel : e < s.heap.objs.size := Heap.lt_size he
    have hil : it < s.heap.objs.size := by obtain ⟨_, q, _⟩ := hit; exact Heap.lt_size q
    have D : Draws X.prog X.w X.A.in1 it [it] x.cps.size (fun i v => ∃ c u, x.cps[i]? = some c ∧ v = .str ⟨#[c]⟩ u) (fun i h => h.IsStrIter it (strIterType x) x t i) := by
      cases ha : x.cps.all (· < 128)
      · have e : strIterType x = "str_iterator" := by simp [strIterType, ha]
        rw [e]; exact Draws.strWide (A := X.A.in1) (I.ok.hd hc) it x t
      · have e : strIterType x = "str_ascii_iterator" := by simp [strIterType, ha]
        rw [e]; exact Draws.strAscii (A := X.A.in1) (I.ok.hd hc) it x t
    refine wpAny_pyNext_enum_itemD D he hit hg hne (fun z => hne (by simpa using z)) fun u h' tk hP ho hit' hT hsz hk => ?_
    obtain ⟨c, uu, hcx, rfl⟩ := hP
    refine ⟨_, rfl, wpAny_letOwnedTupleGo_enum (s := { s with heap := h', toks := tk + 1 }) ho fun h'' he' sb => ?_⟩
    have hT2 : h''.get? s.heap.objs.size = some { cls := .type "tuple", data := .seq #[.int i tk, .str ⟨#[c]⟩ uu] } := (sb.2 _ (Nat.ne_of_gt hel)).trans hT
    have new : ObjOk X.prog X.w (upd H s.heap.objs.size (.tup [.int (i : Nat), .str ⟨#[c]⟩])) h'' s.heap.objs.size (.tup [.int (i : Nat), .str ⟨#[c]⟩]) :=
      ⟨by show 2 ≤ sizeLine; decide, [.int i tk, .str ⟨#[c]⟩ uu], .cons ⟨_, rfl⟩ (.cons ⟨_, rfl⟩ .nil), ⟨_, hT2, rfl, _, rfl⟩⟩
    have I1 : Inv X pins σ (upd H s.heap.objs.size (.tup [.int (i : Nat), .str ⟨#[c]⟩])) { s with heap := h'', toks := tk + 1 } :=
      I.turnedNew (ch := [e, it]) (fun b ob hb q => (sb.2 b (fun z => hb (by simp [z]))).trans (hk b ob (fun z => hb (by simp [z])) (fun z => hb (by simp [z])) q)) hf (Nat.le_refl _) new
    refine ⟨.ref s.heap.objs.size, _, I1, rfl, ⟨_, c, rfl, I.hok.fresh (Nat.le_refl _), rfl, hcx⟩, ⟨⟨.str ⟨#[c]⟩ uu, ?_⟩, ?_, hne⟩, fun b hb => ?_⟩
    · have e1 : ((i + 1 : Nat) : Int) = (i : Int) + 1 := by omega
      rw [e1]; exact he'
    · obtain ⟨o, q, r⟩ := hit'
      exact ⟨o, (sb.2 it (Ne.symm hne)).trans q, r⟩
    · have hb' : b < s.heap.objs.size := by
        have e' : b = e ∨ b = it := by simpa using hb
        rcases e' with z | z
        · rw [z]; exact hel
        · rw [z]; exact hil
      rw [upd_ne (Nat.ne_of_lt hb')]
      exact (hf b hb).1
  done := by
    intro X hP hw hK hc i pins s σ H E I hf st hg
    subst hP hw hK
    obtain ⟨⟨old, he⟩, hit, hne⟩ := st
    obtain ⟨f0, f1, f2, f3, f4, f5⟩ := hf it (by simp)
    have hx : x.cps[i]? = none := Array.getElem?_eq_none hg
    have hT : s.TypeIs (.ref e) "enumerate" := ⟨_, he, rfl⟩
    have fin : ∀ (Q : Value → Shared → Prop) (E : Value → Shared → Prop), (∀ h' u, Heap.ExtBut it s.heap h' → (∃ o, h'.get? u = some o ∧ o.cls = .type "StopIteration") → E (.ref u) { s with heap := h' }) →
        wpAny (model X.prog X.w) X.A.in1 (Builtin.SmallTypes.nextOf (.ref it)) Q E s := fun Q E hE => by
      cases ha : x.cps.all (· < 128)
      · have q : strIterType x = "str_iterator" := by simp [strIterType, ha]
        rw [q] at hit; exact wpAny_nextOf_wide_end (I.ok.hd hc) hit hx hE
      · have q : strIterType x = "str_ascii_iterator" := by simp [strIterType, ha]
        rw [q] at hit; exact wpAny_nextOf_ascii_end (I.ok.hd hc) hit hx hE
    unfold pyNext
    refine wpAny_bind (wpAny_attempt (wpAny_callSpecial?_slot (name := Str.ofString "__next__") hT F.slot_enumerate_next
      (wpAny_call_entry F.slot_enumerate_next hT F.entry_enumerate_next ?_ (F.args_enumerate_next_1 _))))
    show wpAny _ _ (field (.ref e) 2 >>= _) _ _ _
    refine wpAny_bind (wpAny_field he rfl (x := .ref it) rfl ?_)
    refine wpAny_bind (fin _ _ fun h' u eb hx' => ?_)
    obtain ⟨o, ho, hcl⟩ := hx'
    refine wpAny_bind (wpAny_isInstance (T := "StopIteration") (b := true) ⟨o, ho, hcl⟩ isSubtype_stop ?_)
    exact wpAny_pure ⟨rfl, I.turned (t' := s.toks) (fun b o hb q => eb b o hb q) f0 f1 f3 f4 f5⟩
  self := fun A i s Q E st h => let ⟨⟨_, he⟩, _⟩ := st; wpAny_pyIter_enum he h
def iEnumS (ta : TA) : TI := fun σ H R => ta σ H fun vs H1 => ∃ x, vs = [.str x] ∧ R (Ites x) H1
theorem pi_enumS {X : Cx} {e : Expr} {ta : TA} {p pos tpos : Pos} {elts : List Expr} {kk : Nat} (hg : Gl X "enumerate") (hm : X.mg "enumerate" = none) (ha : PA X [e] ta) (hs : starEach [e] X.env = [(false, eval e X.env)] := by rfl) :
    PI X (.Tuple elts kk tpos) (.Call (.Name "enumerate" p) [e] [] pos) (iEnumS ta) := by
  refine ⟨fun pins s σ H R I h => ?_⟩
  refine Call_ (ld_blt I hg hm boot_enumerate (PyProof.Rows.callWith_type1 (thn (ha.run pos pins s σ H _ I h) fun us s1 ⟨vs, H1, I1, r1, q1⟩ => ?_) hs rfl))
  obtain ⟨x, ex, q⟩ := q1
  subst ex
  cases r1 with
  | cons r rr =>
    cases rr
    obtain ⟨t, rfl⟩ := r
    refine call_enumerate_str fun h' he hit hsz hk => wpAny_pyIter_enum he ?_
    have I2 : Inv X pins σ H1 { s1 with heap := h' } := I1.kept (t' := s1.toks) hk
    refine ⟨s1.heap.objs.size + 1, [s1.heap.objs.size + 1, s1.heap.objs.size], _, _, H1, rfl, I2, turn_enumS x t (s1.heap.objs.size + 1) s1.heap.objs.size, ⟨⟨.none, he⟩, hit, Nat.succ_ne_self _⟩, fun b hb => ?_, q⟩
    have e' : b = s1.heap.objs.size + 1 ∨ b = s1.heap.objs.size := by simpa using hb
    have hle : s1.heap.objs.size ≤ b := by
      rcases e' with z | z
      · rw [z]; exact Nat.le_add_right _ _
      · rw [z]; exact Nat.le_refl _
    exact I1.fpOk hle (I1.hok.fresh hle)
theorem walk_enumS {w : List Nat} : Walk (Ites (S w)) w.length (fun _ => True) (YPair (fun i => some (.int (i : Nat))) (fun i => w[i]?.map fun c => V.str (S [c]))) := by
  refine ⟨fun i H hi _ => by show i < (S w).cps.size; simpa using hi, fun H _ => by show (S w).cps.size ≤ w.length; simp, fun i H v H' hi _ y => ?_⟩
  obtain ⟨T, c, h1, h2, h3, h4⟩ := y
  have h5 : w[i]? = some c := by simpa using h4
  exact ⟨T, _, _, h1, h2, h3, rfl, by show (w[i]?).map _ = _; rw [h5]; rfl⟩
theorem walk_S {w : List Nat} : Walk (Its (S w)) w.length (fun _ => True) (YAt (w.map fun c => V.str (S [c]))) := by
  refine ⟨fun i H hi _ => by show i < (S w).cps.size; simpa using hi, fun H _ => by show (S w).cps.size ≤ w.length; simp, fun i H v H' hi _ y => ?_⟩
  obtain ⟨h1, c, h2, h3⟩ := y
  have h5 : w[i]? = some c := by simpa using h2
  exact ⟨h1, by rw [List.getElem?_map, h5, h3]; rfl⟩

/-! ### f(k = v, ..) -/
section
variable {X : Cx} {CX : CXT} {k : Nat} {f : Addr} {fd : FuncData} {ps ks : List Str} {sp : Sp} {E : XK} {x : Str} {p pos : Pos} {kws : List Keyword} {tk : TA} {g : List Value → List Value → List Value} {gV : List V → List V → List V}
theorem pe_callK0 (F : FnOk X.prog X.w X.K X.mg X.base CX k f fd ps sp) (hr : Room k X.A) (hg : Gl X x) (hm : X.mg x = some (.ref f)) (hk : PySem.W.keepIn X.K (.ref f) = true) (hb : KBinds X.K fd ps ks g gV) (hx : Passes CX X E)
    (hkw : PK X kws tk) (hall : (backToKw pos (keywordEach kws X.env)).all (·.1.isSome) = true := by rfl) (hks : (backToKw pos (keywordEach kws X.env)).filterMap (·.1) = ks := by rfl)
    (hdb : (x == ("__debug__" : Str)) = false := by decide)
    (hpl : ((backTo pos (starEach [] X.env)).any (·.1) || (backToKw pos (keywordEach kws X.env)).any (·.1.isNone)) = false := by rfl) :
    PE X (.Call (.Name x p) [] kws pos) (tCallK sp gV E tNil tk) := by
  refine ⟨fun pins s σ H Q I h => ?_⟩
  refine wpAny_Call_Name_kw (ld_glob I hg hm ?_ hdb)
  refine PySem.W.callWith_KW0 (h₀ := X.base) I.ok.mod.kin hk hall ?_ hpl
  refine thn (hkw.run pos pins s σ H _ I h) fun ws s2 ⟨zs, H2, I2, rz, q2⟩ => ⟨I2.kIn, ?_⟩
  rw [hks]
  exact run_fnk (us := []) (vs := []) F hr hb hx I2 .nil rz q2
end
end Cs

set_option Elab.async false
set_option linter.all false
set_option maxRecDepth 100000
set_option maxHeartbeats 4000000
/-! LayD: more readings: numbers, nested data, kinds of values, Word objects. -/
namespace Cs
open PySem PySem.Spec PyProof.Rows L2
section
variable {X : Cx} {x : Str} {pos : Pos}
theorem pe_gI {n : Int} (hg : Gl X x) (h : ∃ t, X.mg x = some (.int n t)) (hd : (x == ("__debug__" : Str)) = false := by decide) : PE X (.Name x pos) (tC (.int n)) := by
  obtain ⟨t, h⟩ := h
  exact pe_glob hg h ⟨t, rfl⟩ hd
theorem pe_gS {z : Str} (hg : Gl X x) (h : ∃ t, X.mg x = some (.str z t)) (hd : (x == ("__debug__" : Str)) = false := by decide) : PE X (.Name x pos) (tC (.str z)) := by
  obtain ⟨t, h⟩ := h
  exact pe_glob hg h ⟨t, rfl⟩ hd
/-- int * int, text * int -/
def rMulA : R2 := fun a b H Q => rI CMulW (fun i j => .int (i * j)) a b H Q ∨ rRepS a b H Q
theorem op_mulA : OpR X (binaryOp .Mult) rMulA := op_mulW.or op_repS
end
/-- C(vs) -/
def rMake (C : Addr) (sp : Sp) (E : XK) (vs : List V) (H1 : Hp) (Q : VK) : Prop := ∀ x dx, H1 x = none → H1 dx = none → dx ≠ x → sp (.ref x :: vs) (upd (upd H1 dx (.own x)) x (.ins C dx [])) (fun v H2 => v = .non ∧ Q (.ref x) H2) E
/-! ### the layer's rules, their readings by name -/
def rLenB (K : PySem.W.Frag) : List V → Hp → VK → Prop := fun xs H Q => ∃ x n, xs = [x] ∧ LenV K x H n ∧ Q (.int (n : Nat)) H
def rInt1 : List V → Hp → VK → Prop := fun xs H Q => (∃ i, xs = [.int i] ∧ Q (.int i) H) ∨ ∃ k, xs = [.bl k] ∧ Q (.int (if k then 1 else 0)) H
def rAbsB : List V → Hp → VK → Prop := fun xs H Q => ∃ i, xs = [.int i] ∧ Q (.int (if i < 0 then -i else i)) H
def rListOf (K : PySem.W.Frag) : List V → Hp → VK → Prop := fun xs H Q => ∃ p ys, xs = [.ref p] ∧ (SqL K H p ys ∨ SqT K H p ys) ∧ ∀ l, H l = none → Q (.ref l) (upd H l (.lst ys))
def rTupOf (K : PySem.W.Frag) : List V → Hp → VK → Prop := fun xs H Q => ∃ p ys, xs = [.ref p] ∧ ((SqL K H p ys ∧ ∀ l, H l = none → Q (.ref l) (upd H l (.tup ys))) ∨ (SqT K H p ys ∧ Q (.ref p) H))
def rIsNo : R2 := fun x y H Q => y = .non ∧ Q (.bl (decide (x = .non))) H
def rNotNo : R2 := fun x y H Q => y = .non ∧ Q (.bl (!decide (x = .non))) H
def rSwap : V → List V → Hp → VK → Prop := fun x xs H Q => ∃ a, x = .str a ∧ xs = [] ∧ a.length ≤ 5592405 ∧ Q (.str (Txt.swapcase a)) H
def rLower : V → List V → Hp → VK → Prop := fun x xs H Q => ∃ a, x = .str a ∧ xs = [] ∧ a.length ≤ 5592405 ∧ Q (.str (Txt.lower a)) H
def rUpper : V → List V → Hp → VK → Prop := fun x xs H Q => ∃ a, x = .str a ∧ xs = [] ∧ a.length ≤ 5592405 ∧ Q (.str (Txt.upper a)) H
def rIsup : V → List V → Hp → VK → Prop := fun x xs H Q => ∃ a, x = .str a ∧ xs = [] ∧ True ∧ Q (.bl (Txt.isupper a)) H
section
variable {X : Cx}
theorem call_lenB {K : PySem.W.Frag} (h : X.K = K := by rfl) : CallR X (.builtin "len") (rLenB K) := by subst h; exact call_len
theorem call_intB : CallR X (.type "int") rInt1 := call_int1
theorem call_absB : CallR X (.builtin "abs") rAbsB := call_abs
theorem call_listB {K : PySem.W.Frag} (h : X.K = K := by rfl) : CallR X (.type "list") (rListOf K) := by subst h; exact call_list_of
theorem call_tupleB {K : PySem.W.Frag} (h : X.K = K := by rfl) : CallR X (.type "tuple") (rTupOf K) := by subst h; exact call_tuple_of
theorem call_allB {K : PySem.W.Frag} (hc : X.calm = true) (h : X.K = K := by rfl) : CallR X (.builtin "all") (rAll K) := by subst h; exact cr_all hc
theorem call_anyB {K : PySem.W.Frag} (hc : X.calm = true) (h : X.K = K := by rfl) : CallR X (.builtin "any") (rAny K) := by subst h; exact cr_any hc
theorem op_isNo : OpR X (compareOp .Is) rIsNo := op_isN
theorem op_notNo : OpR X (compareOp .IsNot) rNotNo := op_notN
theorem mb_swapcase : MtR X "str.swapcase" rSwap := mt_swapcase
theorem mb_lower : MtR X "str.lower" rLower := mt_lower
theorem mb_upper : MtR X "str.upper" rUpper := mt_upper
theorem mb_isupper : MtR X "str.isupper" rIsup := mt_isupper
end
/-- keywords: the callee with its binding -/
structure CalK (P : Program) (w : World) (K : PySem.W.Frag) (mg : Str → Option Value) (base : Heap) (CXc : CXT) (k : Nat) (x : Str) (ks : List Str) (gV : List V → List V → List V) (sp : Sp) : Prop where
  ex : ∃ (f : Addr) (fd : FuncData) (ps : List Str) (g : List Value → List Value → List Value), FnOk P w K mg base CXc k f fd ps sp ∧ mg x = some (.ref f) ∧ PySem.W.keepIn K (.ref f) = true ∧ KBinds K fd ps ks g gV
section
variable {X : Cx} {CXc : CXT} {k j : Nat} {x : Str} {sp : Sp} {p pos : Pos} {e : Expr} {es : List Expr} {t tk : TA} {E : XK} {kws : List Keyword} {ks : List Str} {gV : List V → List V → List V}
theorem pe_cK0 (c : CalK X.prog X.w X.K X.mg X.base CXc k x ks gV sp) (hr : Room j X.A) (hk : k ≤ j) (hx : Passes CXc X E) (hkw : PK X kws tk) (hg : Gl X x := by rfl)
    (hall : (backToKw pos (keywordEach kws X.env)).all (·.1.isSome) = true := by rfl) (hks : (backToKw pos (keywordEach kws X.env)).filterMap (·.1) = ks := by rfl)
    (hdb : (x == ("__debug__" : Str)) = false := by decide) (hpl : ((backTo pos (starEach [] X.env)).any (·.1) || (backToKw pos (keywordEach kws X.env)).any (·.1.isNone)) = false := by rfl) :
    PE X (.Call (.Name x p) [] kws pos) (tCallK sp gV E tNil tk) := by
  obtain ⟨f, fd, ps, g, F, hm, kp, b⟩ := c.ex
  exact pe_callK0 F (hr.mono hk) hg hm kp b hx hkw hall hks hdb hpl
theorem pe_cK (c : CalK X.prog X.w X.K X.mg X.base CXc k x ks gV sp) (hr : Room j X.A) (hk : k ≤ j) (hx : Passes CXc X E) (ha : PA X (e :: es) t) (hkw : PK X kws tk) (hg : Gl X x := by rfl)
    (hall : (backToKw pos (keywordEach kws X.env)).all (·.1.isSome) = true := by rfl) (hks : (backToKw pos (keywordEach kws X.env)).filterMap (·.1) = ks := by rfl)
    (hdb : (x == ("__debug__" : Str)) = false := by decide) (he : starEach (e :: es) X.env = (false, eval e X.env) :: starEach es X.env := by rfl)
    (hpl : ((backTo pos (starEach (e :: es) X.env)).any (·.1) || (backToKw pos (keywordEach kws X.env)).any (·.1.isNone)) = false := by rfl) :
    PE X (.Call (.Name x p) (e :: es) kws pos) (tCallK sp gV E t tk) := by
  obtain ⟨f, fd, ps, g, F, hm, kp, b⟩ := c.ex
  exact pe_callK F (hr.mono hk) hg hm kp b hx ha hkw hall hks hdb he hpl
end
section
variable {K : PySem.W.Frag} {σ : L2.St} {H : Hp} {Q : VK} {QT : Bool → Hp → Prop} {ta tb tc : TE} {tr tk : TA} {x y : V}
theorem r_mulI {a b : Int} (c : CMulW a b) (q : Q (.int (a * b)) H) : rMulA (.int a) (.int b) H Q := .inl ⟨a, b, rfl, rfl, c, q⟩
theorem r_mulS {w : List Nat} {n : Nat} (hw : w.length ≤ 1000) (hn : n ≤ 10000) (q : Q (.str (S (List.replicate n w).flatten)) H) : rMulA (.str (S w)) (.int (n : Nat)) H Q := .inr ⟨w, n, rfl, rfl, hw, hn, q⟩
theorem r_callK {sp : Sp} {gV : List V → List V → List V} {E : XK} (q : tr σ H fun vs H1 => tk σ H1 fun zs H2 => sp (gV vs zs) H2 Q E) : tCallK sp gV E tr tk σ H Q := q
theorem r_up2 {p : Addr} {a b : V} {n i j : Nat} {QS : L2.St → Hp → Prop} (h : SqT K H p [a, b]) (hn : n = 2) (q : QS ((σ.set i (some a)).set j (some b)) H) : gTup K n (gCons (gName i) (gCons (gName j) gNil)) (.ref p) σ H QS :=
  ⟨p, _, rfl, h, hn.symm, a, [b], rfl, b, [], rfl, rfl, q⟩
theorem r_upl2 {p : Addr} {a b : V} {n i j : Nat} {QS : L2.St → Hp → Prop} (h : SqL K H p [a, b]) (hn : n = 2) (q : QS ((σ.set i (some a)).set j (some b)) H) : gUnl K n (gCons (gName i) (gCons (gName j) gNil)) (.ref p) σ H QS :=
  ⟨p, _, rfl, h, hn.symm, a, [b], rfl, b, [], rfl, rfl, q⟩
/-- for at, sign in enumerate(text) -/
theorem for_enumS {w : List Nat} {g : TG} {tb : TS} {De : Ends} (Pv : Nat → L2.St → Hp → Prop) (h0 : Pv 0 σ H)
    (hs : ∀ i c p σ H, w[i]? = some c → Pv i σ H → H p = none → g (.ref p) σ (upd H p (.tup [.int (i : Nat), .str (S [c])])) fun σ2 H2 => tb { De with nx := Pv (i + 1), ct := Pv (i + 1), bk := De.nx } σ2 H2) (hd : ∀ σ H, Pv w.length σ H → De.nx σ H) :
    ∃ W : Nat → Nat → L2.St → Hp → Prop, (∃ m, W 0 m σ H) ∧ ∀ i m σ H, W i m σ H →
      ((Ites (S w)).stop i H ∧ De.nx σ H) ∨ ((Ites (S w)).go i H ∧ ∃ N : L2.St → Hp → Prop, (∀ σ' H', N σ' H' → ∃ m', m' < m ∧ W (i + 1) m' σ' H') ∧ ∀ x H', (Ites (S w)).yld i H x H' → g x σ H' fun σ2 H2 => tb { De with nx := N, ct := N, bk := De.nx } σ2 H2) := by
  refine for_it walk_enumS Pv h0 (fun _ _ _ _ _ => trivial) ?_ hd
  rintro i y σ H H' hi hp ⟨p, y1, y2, rfl, hn, rfl, e1, e2⟩
  have hc : w[i]? = some w[i] := by simp [hi]
  cases e1
  have e3 : y2 = .str (S [w[i]]) := by
    have e4 : (w[i]?).map (fun c => V.str (S [c])) = some y2 := e2
    rw [hc] at e4
    exact (Option.some.inj e4).symm
  subst e3
  exact hs i w[i] p σ H hc hp hn
/-- for at, x in enumerate(list) -/
theorem for_enumL {a : Addr} {xs : List V} {g : TG} {tb : TS} {De : Ends} (Pv : Nat → L2.St → Hp → Prop) (h0 : Pv 0 σ H) (hG : ∀ i σ H, i ≤ xs.length → Pv i σ H → SqL K H a xs)
    (hs : ∀ i x p σ H, xs[i]? = some x → Pv i σ H → H p = none → g (.ref p) σ (upd H p (.tup [.int (i : Nat), x])) fun σ2 H2 => tb { De with nx := Pv (i + 1), ct := Pv (i + 1), bk := De.nx } σ2 H2) (hd : ∀ σ H, Pv xs.length σ H → De.nx σ H) :
    ∃ W : Nat → Nat → L2.St → Hp → Prop, (∃ m, W 0 m σ H) ∧ ∀ i m σ H, W i m σ H →
      ((Ite K a).stop i H ∧ De.nx σ H) ∨ ((Ite K a).go i H ∧ ∃ N : L2.St → Hp → Prop, (∀ σ' H', N σ' H' → ∃ m', m' < m ∧ W (i + 1) m' σ' H') ∧ ∀ x H', (Ite K a).yld i H x H' → g x σ H' fun σ2 H2 => tb { De with nx := N, ct := N, bk := De.nx } σ2 H2) := by
  refine for_it walk_enum Pv h0 hG ?_ hd
  rintro i y σ H H' hi hp ⟨p, y1, y2, rfl, hn, rfl, e1, e2⟩
  cases e1
  exact hs i y2 p σ H e2 hp hn
/-- for c in text -/
theorem for_S {w : List Nat} {g : TG} {tb : TS} {De : Ends} (Pv : Nat → L2.St → Hp → Prop) (h0 : Pv 0 σ H)
    (hs : ∀ i c σ H, w[i]? = some c → Pv i σ H → g (.str (S [c])) σ H fun σ2 H2 => tb { De with nx := Pv (i + 1), ct := Pv (i + 1), bk := De.nx } σ2 H2) (hd : ∀ σ H, Pv w.length σ H → De.nx σ H) :
    ∃ W : Nat → Nat → L2.St → Hp → Prop, (∃ m, W 0 m σ H) ∧ ∀ i m σ H, W i m σ H →
      ((Its (S w)).stop i H ∧ De.nx σ H) ∨ ((Its (S w)).go i H ∧ ∃ N : L2.St → Hp → Prop, (∀ σ' H', N σ' H' → ∃ m', m' < m ∧ W (i + 1) m' σ' H') ∧ ∀ x H', (Its (S w)).yld i H x H' → g x σ H' fun σ2 H2 => tb { De with nx := N, ct := N, bk := De.nx } σ2 H2) := by
  refine for_it walk_S Pv h0 (fun _ _ _ _ _ => trivial) ?_ hd
  rintro i y σ H H' hi hp ⟨rfl, e⟩
  have hc : w[i]? = some w[i] := by simp [hi]
  rw [List.getElem?_map, hc] at e
  cases e
  exact hs i w[i] σ _ hc hp
/-- [.. for c in text] -/
theorem lc_S {w : List Nat} {g : TG} {tt : TT} {te : TE} {vs : List Nat} {H1 : Hp} {Dl : Addr} {Qd : Hp → Prop} (Pv : Nat → Hp → Prop) (h0 : Pv 0 (upd H1 Dl (.lst [])))
    (hs : ∀ i c H, w[i]? = some c → Pv i H → g (.str (S [c])) (wipe σ vs) H fun σ2 H2 => wipe σ2 vs = wipe σ vs ∧ tt σ2 H2 fun b H3 =>
      if b = true then te σ2 H3 fun y H4 => ∃ acc, H4 Dl = some (.lst acc) ∧ acc.length < sizeLine ∧ Pv (i + 1) (upd H4 Dl (.lst (acc ++ [y]))) else Pv (i + 1) H3) (hd : ∀ H, Pv w.length H → Qd H) :
    ∃ W : Nat → Nat → Hp → Prop, (∃ m, W 0 m (upd H1 Dl (.lst []))) ∧ ∀ i m H, W i m H →
      ((Its (S w)).stop i H ∧ Qd H) ∨ ((Its (S w)).go i H ∧ ∃ Nx : Hp → Prop, (∀ H', Nx H' → ∃ m', m' < m ∧ W (i + 1) m' H') ∧ ∀ x H', (Its (S w)).yld i H x H' → g x (wipe σ vs) H' fun σ2 H2 => wipe σ2 vs = wipe σ vs ∧ tt σ2 H2 fun b H3 =>
        if b = true then te σ2 H3 fun y H4 => ∃ acc, H4 Dl = some (.lst acc) ∧ acc.length < sizeLine ∧ Nx (upd H4 Dl (.lst (acc ++ [y]))) else Nx H3) := by
  refine lc_it walk_S Pv h0 (fun _ _ _ _ => trivial) ?_ hd
  rintro i y H H' hi hp ⟨rfl, e⟩
  have hc : w[i]? = some w[i] := by simp [hi]
  rw [List.getElem?_map, hc] at e
  cases e
  exact hs i w[i] _ hc hp
theorem r_mkE {C : Addr} {ps : List Str} {QX : XK} (q : tr σ H fun vs H1 => vs.length = ps.length ∧ ∀ d, H1 d = none → QX (.ref C) (some d) (upd H1 d (.xd (ps.zip vs)))) : tMkE C ps tr σ H QX := q
theorem r_nx {f bk ct : L2.St → Hp → Prop} {rt : VK} (q : f σ H) : Ends.nx (Ends.mk f rt bk ct) σ H := q
theorem r_ct {f bk nx : L2.St → Hp → Prop} {rt : VK} (q : f σ H) : Ends.ct (Ends.mk nx rt bk f) σ H := q
theorem r_bk {f ct nx : L2.St → Hp → Prop} {rt : VK} (q : f σ H) : Ends.bk (Ends.mk nx rt f ct) σ H := q
theorem r_rt {f bk nx : L2.St → Hp → Prop} {rt : VK} (q : rt x H) : Ends.rt (Ends.mk nx rt bk f) x H := q
theorem r_call0 {sp : Sp} {E : XK} (q : tr σ H fun vs H1 => sp vs H1 Q E) : tCall sp [] E tr σ H Q := by
  unfold tCall
  simpa only [List.append_nil] using q
theorem r_make0 {C : Addr} {sp : Sp} {E : XK} (q : tr σ H fun vs H1 => rMake C sp E vs H1 Q) : tMake C sp [] E tr σ H Q := by
  unfold tMake
  unfold rMake at q
  simpa only [List.append_nil] using q
theorem r_iEnumS {R : It → Hp → Prop} (q : tr σ H fun vs H1 => ∃ x, vs = [.str x] ∧ R (Ites x) H1) : iEnumS tr σ H R := q
theorem r_iEnum {R : It → Hp → Prop} (q : tr σ H fun vs H1 => ∃ a xs, vs = [.ref a] ∧ SqL K H1 a xs ∧ R (Ite K a) H1) : iEnum K tr σ H R := q
theorem r_iStr {R : It → Hp → Prop} (q : ta σ H fun v H1 => ∃ x, v = .str x ∧ R (Its x) H1) : iStr ta σ H R := q
theorem r_iStrS {w : List Nat} {A : Str → Prop} (q : A (S w)) : ∃ x, V.str (S w) = .str x ∧ A x := ⟨_, rfl, q⟩
theorem r_iStrE {w : List Nat} {A : Str → Prop} (q : A (S w)) : ∃ x, [V.str (S w)] = [.str x] ∧ A x := ⟨_, rfl, q⟩
theorem r_iList {R : It → Hp → Prop} (q : ta σ H fun x H1 => ∃ a, x = .ref a ∧ (∃ xs, SqL K H1 a xs) ∧ R (Itl K a) H1) : iList K ta σ H R := q
theorem r_iRng {R : It → Hp → Prop} (q : tr σ H fun vs H1 => ∃ j : Int, vs = [.int j] ∧ -(2 ^ 62) ≤ j ∧ j < 2 ^ 62 ∧ R (Itr 0 j.toNat) H1) : iRng1 tr σ H R := q
theorem r_forE {wi : TI} {g : TG} {tb : TS} {De : Ends} (q : wi σ H fun J H1 => ∃ W : Nat → Nat → L2.St → Hp → Prop, (∃ m, W 0 m σ H1) ∧ ∀ i m σ H, W i m σ H →
      (J.stop i H ∧ De.nx σ H) ∨ (J.go i H ∧ ∃ N : L2.St → Hp → Prop, (∀ σ' H', N σ' H' → ∃ m', m' < m ∧ W (i + 1) m' σ' H') ∧ ∀ x H', J.yld i H x H' → g x σ H' fun σ2 H2 => tb { De with nx := N, ct := N, bk := De.nx } σ2 H2)) : tFor wi g tb De σ H := q
theorem r_chain {r r' : R2} (q : ta σ H fun x H1 => tb σ H1 fun y H2 => r x y H2 fun z H3 => ∃ k, z = .bl k ∧ (if k = true then tc σ H3 fun w' H4 => r' y w' H4 Q else Q (.bl false) H3)) : tChain r r' ta tb tc σ H Q := q
theorem r_mod {a b : Int} (h : 0 < b) (q : Q (.int (a % b)) H) : rI (fun _ j => 0 < j) (fun i j => .int (i % j)) (.int a) (.int b) H Q := ⟨a, b, rfl, rfl, h, q⟩
theorem r_fdiv {a b : Int} (h : 0 < b) (hb : b < 2 ^ 60) (q : Q (.int (a / b)) H) : rI CDivW (fun i j => .int (i / j)) (.int a) (.int b) H Q := ⟨a, b, rfl, rfl, wide_div (b := 60) h (by omega) (by decide) (by decide), q⟩
theorem r_pow {a b : Int} (h : 0 ≤ b ∧ b ≤ 1000) (ha : -(2 ^ 64) < a ∧ a < 2 ^ 64) (q : Q (.int (a ^ b.toNat)) H) : rI CPow (fun i j => .int (i ^ j.toNat)) (.int a) (.int b) H Q := ⟨a, b, rfl, rfl, ⟨h.1, by omega, by omega⟩, q⟩
theorem r_int1 {a : Int} (q : Q (.int a) H) : rInt1 [.int a] H Q := .inl ⟨a, rfl, q⟩
theorem q_lenS {w : List Nat} (hl : w.length ≤ 1000000) (q : Q (.int (w.length : Nat)) H) : rLenB K [.str (S w)] H Q := ⟨_, w.length, rfl, ⟨by rw [S_len, sizeLine_eq]; omega, (S_len w).symm⟩, q⟩
theorem q_lenL {a : Addr} {xs : List V} (h : SqL K H a xs) (q : Q (.int (xs.length : Nat)) H) : rLenB K [.ref a] H Q := ⟨_, xs.length, rfl, .inl ⟨xs, h, rfl⟩, q⟩
theorem q_lenT {a : Addr} {xs : List V} (h : SqT K H a xs) (q : Q (.int (xs.length : Nat)) H) : rLenB K [.ref a] H Q := ⟨_, xs.length, rfl, .inr ⟨xs, h, rfl⟩, q⟩
theorem q_listL {a : Addr} {xs : List V} (h : SqL K H a xs) (q : ∀ l, H l = none → Q (.ref l) (upd H l (.lst xs))) : rListOf K [.ref a] H Q := ⟨a, xs, rfl, .inl h, q⟩
theorem q_listT {a : Addr} {xs : List V} (h : SqT K H a xs) (q : ∀ l, H l = none → Q (.ref l) (upd H l (.lst xs))) : rListOf K [.ref a] H Q := ⟨a, xs, rfl, .inr h, q⟩
theorem q_tupL {a : Addr} {xs : List V} (h : SqL K H a xs) (q : ∀ l, H l = none → Q (.ref l) (upd H l (.tup xs))) : rTupOf K [.ref a] H Q := ⟨a, xs, rfl, .inl ⟨h, q⟩⟩
theorem q_swap {w : List Nat} (h : AllL w) (hl : w.length ≤ 1000000) (q : Q (.str (S (w.map und))) H) : rSwap (.str (S w)) [] H Q := ⟨S w, rfl, rfl, by rw [S_len]; omega, by rw [swapcase_S h]; exact q⟩
theorem q_lower {w : List Nat} (h : AllL w) (hl : w.length ≤ 1000000) (q : Q (.str (S (w.map low))) H) : rLower (.str (S w)) [] H Q := ⟨S w, rfl, rfl, by rw [S_len]; omega, by rw [lower_S h]; exact q⟩
theorem q_upper {w : List Nat} (h : AllL w) (hl : w.length ≤ 1000000) (q : Q (.str (S (w.map upp))) H) : rUpper (.str (S w)) [] H Q := ⟨S w, rfl, rfl, by rw [S_len]; omega, by rw [upper_S h]; exact q⟩
theorem q_isup {c : Nat} (h : isL c = true) (q : Q (.bl (decide (c < 97))) H) : rIsup (.str (S [c])) [] H Q := ⟨S [c], rfl, rfl, trivial, by rw [isupper_1 h]; exact q⟩
theorem r_abs {a : Int} (q : Q (.int (if a < 0 then -a else a)) H) : rAbsB [.int a] H Q := ⟨a, rfl, q⟩
theorem r_isN (q : Q (.bl (decide (x = .non))) H) : rIsNo x .non H Q := ⟨rfl, q⟩
theorem r_notN (q : Q (.bl (!decide (x = .non))) H) : rNotNo x .non H Q := ⟨rfl, q⟩
theorem wm {a b : Int} {n m : Nat} (ha : a.natAbs < 2 ^ n) (hb : b.natAbs < 2 ^ m) (h0 : 0 < n := by decide) (h1 : 0 < m := by decide) (h : n + m ≤ 1000000 := by decide) : CMulW a b := wide_mul ha hb h0 h1 h
/-! ### isinstance -/
/-- the value x is of a class whose isinstance of u is b -/
def IsK (K : PySem.W.Frag) (H : Hp) (x : V) (u : Value) (b : Bool) : Prop := (∃ t, TyX K H x t ∧ PySem.W.kitOne K t u = some b) ∨ (∃ (a C : Addr) (d : Option Addr), x = .ref a ∧ H a = some (EXV (.ref C) d a) ∧ (∀ dd, d = some dd → ∃ fs, H dd = some (.xd fs)) ∧ XiC K C ∧ PySem.W.kitOne K (.ref C) u = some b)
theorem r_isK {c : V} {u : Value} {b : Bool} (k : ClsV c u) (h : IsK K H x u b) (q : Q (.bl b) H) : rIsiE K [x, c] H Q := ⟨x, c, u, b, rfl, k, h, q⟩
theorem isK {t u : Value} {b : Bool} (h : TyX K H x t) (e : PySem.W.kitOne K t u = some b) : IsK K H x u b := .inl ⟨t, h, e⟩
theorem ty_int {n : Int} : TyX K H (.int n) (.type "int") := .base (.int n)
theorem ty_bl {n : Bool} : TyX K H (.bl n) (.type "bool") := .base (.bl n)
theorem ty_str {n : Str} : TyX K H (.str n) (.type "str") := .base (.str n)
theorem ty_non : TyX K H .non (.type "NoneType") := .base .non
theorem ty_lst {a : Addr} {xs : List V} (h : H a = some (.lst xs)) : TyX K H (.ref a) (.type "list") := .base (.lst h)
theorem ty_tup {a : Addr} {xs : List V} (h : H a = some (.tup xs)) : TyX K H (.ref a) (.type "tuple") := .base (.tup h)
theorem ty_dK {a : Addr} {xs : List (Key × V)} (h : H a = some (.dK xs)) : TyX K H (.ref a) (.type "dict") := .base (.dK h)
end
structure TyI (K : PySem.W.Frag) (C : Addr) : Prop where
  ha : PySem.W.findIn K (.ref C) "__class__" = some (some (.builtin "object.__class__"))
  hn : PySem.W.specialIn K (.builtin "object.__class__") "__get__" = some (some (.builtin "getset_descriptor.__get__"))
  htk : PySem.W.takesIn K (.builtin "object.__class__") = some true
  hm : PySem.W.mroIn K C (.type "object") = some true
theorem ty_ins {K : PySem.W.Frag} {H : Hp} {a C dx : Addr} {fs : List (Str × V)} (h : H a = some (.ins C dx fs)) (cl : Cls K C) (t : TyI K C) : TyX K H (.ref a) (.ref C) := .base (.ins h cl t.ha t.hn t.htk t.hm)
/-! ### nested data -/
section
variable {K : PySem.W.Frag} {H : Hp}
theorem dpI : ∀ (ns : List Int), DpAll K H (ns.map V.int) (ns.map PyData.int)
  | [] => .nil
  | n :: ns => .cons (.int n) (dpI ns)
theorem dpS : ∀ (ns : List (List Nat)), DpAll K H (ns.map fun w => V.str (S w)) (ns.map fun w => PyData.str (S w))
  | [] => .nil
  | n :: ns => .cons (.str _) (dpS ns)
/-- data that can be laid, of depth n at most -/
def Lay (n : Nat) (d : PyData) : Prop := d.canLay0 = true ∧ d.depth ≤ n
theorem lay_all {n : Nat} : ∀ {ds : List PyData}, (∀ d ∈ ds, Lay n d) → PyData.canLayAll0 ds = true ∧ PyData.depthAll ds ≤ n
  | [], _ => by simp [PyData.canLayAll0, PyData.depthAll]
  | d :: ds, h => by
    obtain ⟨h1, h2⟩ := lay_all fun e he => h e (List.mem_cons_of_mem _ he)
    obtain ⟨z1, z2⟩ := h d List.mem_cons_self
    simp only [PyData.canLayAll0, PyData.depthAll, h1, z1, Bool.and_self, true_and]
    omega
theorem lay_list {n : Nat} {ds : List PyData} (h : ∀ d ∈ ds, Lay n d) : Lay (n + 1) (.list ds) := by
  obtain ⟨h1, h2⟩ := lay_all h
  exact ⟨by simpa [PyData.canLay0] using h1, by simp only [PyData.depth]; omega⟩
theorem lay_tuple {n : Nat} {ds : List PyData} (h : ∀ d ∈ ds, Lay n d) : Lay (n + 1) (.tuple ds) := by
  obtain ⟨h1, h2⟩ := lay_all h
  exact ⟨by simpa [PyData.canLay0] using h1, by simp only [PyData.depth]; omega⟩
theorem lay_int {n : Nat} {i : Int} : Lay n (.int i) := ⟨rfl, Nat.zero_le _⟩
theorem lay_bl {n : Nat} {i : Bool} : Lay n (.bool i) := ⟨rfl, Nat.zero_le _⟩
theorem lay_non {n : Nat} : Lay n .none := ⟨rfl, Nat.zero_le _⟩
def okS (w : List Nat) : Bool := w.all (· < 0x110000)
theorem lay_S {n : Nat} {w : List Nat} (h : okS w = true) : Lay n (.str (S w)) := by
  refine ⟨?_, Nat.zero_le _⟩
  simp only [PyData.canLay0, PyData.strOk]
  simpa [okS] using h
theorem shaped_of {n : Nat} {d : PyData} (h : Lay n d) (hn : n ≤ 64 := by decide) : SeqAt.shaped d = true := by
  unfold SeqAt.shaped
  rw [h.1, decide_eq_true (Nat.le_trans h.2 hn)]
  rfl
theorem okS_L {w : List Nat} (h : AllL w) : okS w = true := by
  unfold okS
  rw [List.all_eq_true]
  intro c hc
  rcases isL_cases (h c hc) with rfl | rfl | rfl | rfl | rfl | rfl | rfl | rfl <;> decide
theorem lay_ints (ns : List Int) : Lay 1 (.list (ns.map PyData.int)) := lay_list fun d hd => by
  obtain ⟨n, _, rfl⟩ := List.mem_map.mp hd
  exact lay_int
theorem lay_nil {n : Nat} : Lay (n + 1) (.list []) := lay_list fun d hd => absurd hd (by simp)
theorem lay_strs {ws : List (List Nat)} (h : ∀ w ∈ ws, okS w = true) : Lay 1 (.list (ws.map fun w => PyData.str (S w))) := lay_list fun d hd => by
  obtain ⟨n, hn, rfl⟩ := List.mem_map.mp hd
  exact lay_S (h n hn)
theorem eqv_ints (ns ms : List Int) : PyData.eqvAll (ns.map PyData.int) (ms.map PyData.int) = decide (ns = ms) := by
  induction ns generalizing ms with
  | nil => cases ms <;> simp [PyData.eqvAll]
  | cons a ns ih => cases ms with
    | nil => simp [PyData.eqvAll]
    | cons b ms =>
      rw [Bool.eq_iff_iff]
      simp [PyData.eqvAll, PyData.eqv, ih]
theorem eqv_strs (ns ms : List (List Nat)) : PyData.eqvAll (ns.map fun w => PyData.str (S w)) (ms.map fun w => PyData.str (S w)) = decide (ns = ms) := by
  induction ns generalizing ms with
  | nil => cases ms <;> simp [PyData.eqvAll]
  | cons a ns ih => cases ms with
    | nil => simp [PyData.eqvAll]
    | cons b ms => 
      simp only [List.map_cons, PyData.eqvAll, PyData.eqv, ih, List.cons.injEq, Bool.decide_and]
      congr 1
      rw [Bool.eq_iff_iff]
      simp [S_inj]
/-- list == [] -/
theorem r_neNil {K : PySem.W.Frag} {H : Hp} {Q : VK} {a b : Addr} {xs : List V} {ds : List PyData} (h1 : SqL K H a xs) (d : DpAll K H xs ds) (hl : Lay 8 (.list ds)) (h2 : SqL K H b []) (q : Q (.bl (!decide (xs = []))) H) : rNeA K (.ref a) (.ref b) H Q := by
  refine r_neD (.lst h1 d) (.lst h2 .nil) (shaped_of hl) (shaped_of (lay_nil (n := 1))) ?_
  have e : PyData.eqv (.list ds) (.list []) = decide (xs = []) := by
    cases d <;> simp [PyData.eqv, PyData.eqvAll]
  rw [e]
  exact q
theorem r_eqNil {K : PySem.W.Frag} {H : Hp} {Q : VK} {a b : Addr} {xs : List V} {ds : List PyData} (h1 : SqL K H a xs) (d : DpAll K H xs ds) (hl : Lay 8 (.list ds)) (h2 : SqL K H b []) (q : Q (.bl (decide (xs = []))) H) : rEqA K (.ref a) (.ref b) H Q := by
  refine r_eqD (.lst h1 d) (.lst h2 .nil) (shaped_of hl) (shaped_of (lay_nil (n := 1))) ?_
  have e : PyData.eqv (.list ds) (.list []) = decide (xs = []) := by
    cases d <;> simp [PyData.eqv, PyData.eqvAll]
  rw [e]
  exact q
theorem Lay.mono {n m : Nat} {d : PyData} (h : Lay n d) (hm : n ≤ m) : Lay m d := ⟨h.1, Nat.le_trans h.2 hm⟩
end
end Cs

set_option Elab.async false
set_option linter.all false
set_option maxRecDepth 100000
set_option maxHeartbeats 4000000
/-! LayE: kinds kept, list-or-tuple walks, methods by name. -/
namespace Cs
open PySem PySem.Spec PyProof.Rows L2
section
variable {K : PySem.W.Frag} {H H' : Hp} {x : V} {t u : Value} {b : Bool}
theorem tyX_same (e : Same H H') (h : TyX K H x t) : TyX K H' x t := by
  cases h with
  | base h =>
    cases h with
    | non => exact .base .non
    | bl x => exact .base (.bl x)
    | int x => exact .base (.int x)
    | str x => exact .base (.str x)
    | flt x => exact .base (.flt x)
    | lst h => exact .base (.lst (e _ _ h))
    | frz h => exact .base (.frz (e _ _ h))
    | tup h => exact .base (.tup (e _ _ h))
    | dK h => exact .base (.dK (e _ _ h))
    | dT h => exact .base (.dT (e _ _ h))
    | ins h c a n k m => exact .base (.ins (e _ _ h) c a n k m)
  | byt b => exact .byt b
  | set h => exact .set (e _ _ h)
  | kList h c => exact .kList h c
  | kTuple h c => exact .kTuple h c
  | kDict h c => exact .kDict h c
  | fTuple h => exact .fTuple (e _ _ h)
  | fDict h => exact .fDict (e _ _ h)
theorem isK_same (e : Same H H') (h : IsK K H x u b) : IsK K H' x u b := by
  rcases h with ⟨t, h, q⟩ | ⟨a, C, d, rfl, h, hd, T, q⟩
  · exact .inl ⟨t, tyX_same e h, q⟩
  · exact .inr ⟨a, C, d, rfl, e _ _ h, fun dd z => let ⟨fs, w⟩ := hd dd z; ⟨fs, e _ _ w⟩, T, q⟩
/-- isinstance(x, (c, ..)) -/
def IsT (K : PySem.W.Frag) (H : Hp) (x : V) (us : List Value) (b : Bool) : Prop := ∃ t, TyX K H x t ∧ PySem.W.kitAny K t us = some b
theorem isT_same {us : List Value} (e : Same H H') (h : IsT K H x us b) : IsT K H' x us b := let ⟨t, h, q⟩ := h; ⟨t, tyX_same e h, q⟩
theorem q_isT2 {c1 c2 : V} {u1 u2 : Value} {p : Addr} {Q : VK} (hp : H p = some (.tup [c1, c2])) (k1 : ClsV c1 u1) (k2 : ClsV c2 u2) (h : IsT K H x [u1, u2] b) (q : Q (.bl b) H) : rIsiT K [x, .ref p] H Q := by
  obtain ⟨t, ty, e⟩ := h
  exact ⟨x, p, _, t, _, b, rfl, hp, .cons k1 (.cons k2 .nil), ty, e, q⟩
theorem sqL_same {a : Addr} {xs : List V} (e : Same H H') (h : SqL K H a xs) : SqL K H' a xs := e.seq h
theorem sqT_same {a : Addr} {xs : List V} (e : Same H H') (h : SqT K H a xs) : SqT K H' a xs :=
  h.elim (fun h => .inl (h.elim (fun h => .inl (e _ _ h)) fun ⟨o, h⟩ => .inr ⟨o, e _ _ h⟩)) fun h => .inr h
/-- a list or a tuple -/
def SqA (K : PySem.W.Frag) (H : Hp) (a : Addr) (xs : List V) : Prop := SqL K H a xs ∨ SqT K H a xs
theorem sqA_same {a : Addr} {xs : List V} (e : Same H H') (h : SqA K H a xs) : SqA K H' a xs := h.elim (fun h => .inl (sqL_same e h)) fun h => .inr (sqT_same e h)
theorem q_lenA {a : Addr} {xs : List V} {Q : VK} (h : SqA K H a xs) (q : Q (.int (xs.length : Nat)) H) : rLenB K [.ref a] H Q := h.elim (fun h => q_lenL h q) fun h => q_lenT h q
def iLT (K : PySem.W.Frag) (tl : TE) : TI := fun σ H R => tl σ H fun x H1 => ∃ a, x = .ref a ∧ (((∃ xs, SqL K H1 a xs) ∧ R (Itl K a) H1) ∨ ((∃ xs, SqT K H1 a xs) ∧ R (Itt K a) H1))
end
section
variable {X : Cx} {tg : Expr}
theorem pi_lt {l : Expr} {tl : TE} (hl : PE X l tl) : PI X tg l (iLT X.K tl) := by
  refine ⟨fun pins s σ H R I h => ?_⟩
  refine thn (hl.run pins s σ H _ I h) fun v s1 ⟨x, H1, I1, r1, q1⟩ => ?_
  obtain ⟨a, e, ⟨⟨xs, hq⟩, q⟩ | ⟨⟨xs, hq⟩, q⟩⟩ := q1
  · subst e
    cases r1
    obtain ⟨its, rv, p, hz⟩ := I1.list hq
    refine wpAny_pyIter_list p.isList ?_
    refine ⟨s1.heap.objs.size, [s1.heap.objs.size], _, _, H1, rfl, I1.kept (t' := s1.toks) fun b o e => Heap.get?_push_of_some _ e, turn_list a _, ⟨_, Heap.get?_push_size _ rfl, rfl, rfl⟩, fun b hb => ?_, q⟩
    have e : b = s1.heap.objs.size := by simpa using hb
    subst e
    exact I1.fpOk (Nat.le_refl _) (I1.hok.fresh (Nat.le_refl _))
  · subst e
    cases r1
    obtain ⟨its, rv, p, hz⟩ := I1.tuple hq
    refine wpAny_pyIter_tuple (show s1.heap.IsTuple a its.toArray from p) ?_
    refine ⟨s1.heap.objs.size, [s1.heap.objs.size], _, _, H1, rfl, I1.kept (t' := s1.toks) fun b o e => Heap.get?_push_of_some _ e, turn_tuple a _, ⟨_, Heap.get?_push_size _ rfl, rfl, rfl⟩, fun b hb => ?_, q⟩
    have e : b = s1.heap.objs.size := by simpa using hb
    subst e
    exact I1.fpOk (Nat.le_refl _) (I1.hok.fresh (Nat.le_refl _))
end
def rLT (K : PySem.W.Frag) (R : It → Hp → Prop) (x : V) (H1 : Hp) : Prop := ∃ a, x = .ref a ∧ (((∃ xs, SqL K H1 a xs) ∧ R (Itl K a) H1) ∨ ((∃ xs, SqT K H1 a xs) ∧ R (Itt K a) H1))
/-! ### comprehensions -/
/-- what a comprehension's walk asks -/
def LcW (J : It) (g : TG) (tt : TT) (te : TE) (vs : List Nat) (σ : L2.St) (H1 : Hp) (Dl : Addr) (Qd : Hp → Prop) : Prop :=
  ∃ W : Nat → Nat → Hp → Prop, (∃ m, W 0 m (upd H1 Dl (.lst []))) ∧ ∀ i m H, W i m H →
      (J.stop i H ∧ Qd H) ∨ (J.go i H ∧ ∃ Nx : Hp → Prop, (∀ H', Nx H' → ∃ m', m' < m ∧ W (i + 1) m' H') ∧ ∀ x H', J.yld i H x H' → g x (wipe σ vs) H' fun σ2 H2 => wipe σ2 vs = wipe σ vs ∧ tt σ2 H2 fun b H3 =>
        if b = true then te σ2 H3 fun y H4 => ∃ acc, H4 Dl = some (.lst acc) ∧ acc.length < sizeLine ∧ Nx (upd H4 Dl (.lst (acc ++ [y]))) else Nx H3)
section
variable {K : PySem.W.Frag} {H H' : Hp} {σ : L2.St} {Q : VK} {QS : L2.St → Hp → Prop} {tr : TA} {te tx : TE} {g : TG} {tt : TT} {vs : List Nat} {De : Ends}
theorem r_iLT0 {R : It → Hp → Prop} (q : te σ H fun x H1 => rLT K R x H1) : iLT K te σ H R := q
theorem r_iLT {R : It → Hp → Prop} {a : Addr} {xs : List V} (h : SqA K H a xs) (q1 : SqL K H a xs → R (Itl K a) H) (q2 : SqT K H a xs → R (Itt K a) H) : rLT K R (.ref a) H :=
  ⟨a, rfl, h.elim (fun h => .inl ⟨⟨xs, h⟩, q1 h⟩) fun h => .inr ⟨⟨xs, h⟩, q2 h⟩⟩
theorem r_yes {A : Bool → Hp → Prop} (q : A true H) : tYes σ H A := q
theorem r_lc {wi : TI} (q : wi σ H fun J H1 => ∀ Dl, H1 Dl = none → LcW J g tt te vs σ H1 Dl (Q (.ref Dl))) : tLc wi g tt te vs σ H Q := q
theorem walk_rangeY {lo : Int} {n : Nat} : Walk (Itr lo n) ((List.range n).map fun i => V.int (lo + (i : Nat))).length (fun _ => True) (YAt ((List.range n).map fun i => V.int (lo + (i : Nat)))) := by
  have e : ((List.range n).map fun i => V.int (lo + (i : Nat))).length = n := by simp
  rw [e]
  refine ⟨fun i H hi _ => hi, fun H _ => Nat.le_refl _, fun i H x H' hi _ y => ⟨y.1, ?_⟩⟩
  rw [List.getElem?_map, List.getElem?_range hi, y.2]
  rfl
theorem wipe1 {i : Nat} {x : Option V} : wipe ((wipe σ [i]).set i x) [i] = wipe σ [i] := by
  show ((σ.set i none).set i x).set i none = σ.set i none
  rw [List.set_set, List.set_set]
theorem lcFin {Pv : List V → Hp → Prop} {y : V} {acc : List V} {Dl : Addr} (e : H Dl = some (.lst acc)) (hl : acc.length ≤ 1000000) (p : Pv (acc ++ [y]) (upd H Dl (.lst (acc ++ [y])))) :
    ∃ acc, H Dl = some (.lst acc) ∧ acc.length < sizeLine ∧ ∃ a2, Pv a2 (upd H Dl (.lst (acc ++ [y]))) ∧ (upd H Dl (.lst (acc ++ [y]))) Dl = some (.lst a2) :=
  ⟨acc, e, by rw [sizeLine_eq]; omega, _, p, upd_same⟩
/-- a comprehension: Pv by the turn, what is made so far, the heap -/
theorem lcG {J : It} {its : List V} {G : Hp → Prop} {i : Nat} {H1 : Hp} {Dl : Addr} {Qd : Hp → Prop} (w : Walk J its.length G (YAt its)) (Pv : Nat → List V → Hp → Prop) (h0 : Pv 0 [] (upd H1 Dl (.lst []))) (hG : ∀ j acc H, j ≤ its.length → Pv j acc H → H Dl = some (.lst acc) → G H)
    (hs : ∀ j x acc H, its[j]? = some x → Pv j acc H → H Dl = some (.lst acc) → tt ((σ.set i none).set i (some x)) H fun b H3 =>
      if b = true then te ((σ.set i none).set i (some x)) H3 fun y H4 => ∃ acc, H4 Dl = some (.lst acc) ∧ acc.length < sizeLine ∧ ∃ a2, Pv (j + 1) a2 (upd H4 Dl (.lst (acc ++ [y]))) ∧ (upd H4 Dl (.lst (acc ++ [y]))) Dl = some (.lst a2) else ∃ a2, Pv (j + 1) a2 H3 ∧ H3 Dl = some (.lst a2))
    (hd : ∀ acc H, Pv its.length acc H → H Dl = some (.lst acc) → Qd H) : LcW J (gName i) tt te [i] σ H1 Dl Qd := by
  refine lc_it w (fun j H => ∃ acc, Pv j acc H ∧ H Dl = some (.lst acc)) ⟨[], h0, upd_same⟩ (fun j H hj ⟨acc, p, e⟩ => hG j acc H hj p e) ?_ (fun H ⟨acc, p, e⟩ => hd acc H p e)
  rintro j x H H' hj ⟨acc, p, e⟩ ⟨rfl, hx⟩
  exact ⟨wipe1, hs j x acc _ hx p e⟩
end
/-! ### methods by name -/
def rStarts : V → List V → Hp → VK → Prop := fun x xs H Q => ∃ a b, x = .str a ∧ xs = [.str b] ∧ Q (.bl (Txt.startswith a b)) H
def rJoin (K : PySem.W.Frag) : V → List V → Hp → VK → Prop := fun x xs H Q => ∃ a p, ∃ ys : List Str, x = .str a ∧ xs = [.ref p] ∧ (SqL K H p (ys.map V.str) ∨ SqT K H p (ys.map V.str)) ∧
    (ys.map (·.length)).sum + ys.length * a.length ≤ 16777216 ∧ Q (.str (Txt.join a ys)) H
def rInsert : V → List V → Hp → VK → Prop := fun x vs H Q => ∃ (l : Addr) (xs : List V) (i : Int) (y : V), x = .ref l ∧ vs = [.int i, y] ∧ H l = some (.lst xs) ∧ xs.length < sizeLine ∧ 0 ≤ i ∧ i < 2 ^ 63 ∧
    Q .non (upd H l (.lst (xs.take i.toNat ++ [y] ++ xs.drop i.toNat)))
section
variable {X : Cx}
theorem mb_startswith : MtR X "str.startswith" rStarts := mt_startswith
theorem mb_join {K : PySem.W.Frag} (h : X.K = K := by rfl) : MtR X "str.join" (rJoin K) := by subst h; exact mt_join
theorem mb_insert : MtR X "list.insert" rInsert := mt_insert
theorem mb_append : MtR X "list.append" rAppend := mt_append
theorem mb_pop : MtR X "list.pop" rPop := mt_pop
end
section
variable {K : PySem.W.Frag} {H : Hp} {Q : VK} {l : Addr} {xs : List V} {y : V}
theorem q_starts {a b : List Nat} (q : Q (.bl (b.isPrefixOf a)) H) : rStarts (.str (S a)) [.str (S b)] H Q := ⟨_, _, rfl, rfl, by rw [startswith_S]; exact q⟩
theorem q_append (h : H l = some (.lst xs)) (hl : xs.length ≤ 1000000) (q : Q .non (upd H l (.lst (xs ++ [y])))) : rAppend (.ref l) [y] H Q := ⟨l, xs, y, rfl, rfl, h, by rw [sizeLine_eq]; omega, q⟩
theorem q_insert {n : Nat} (h : H l = some (.lst xs)) (hl : xs.length ≤ 1000000) (hn : n ≤ 1000000) (q : Q .non (upd H l (.lst (xs.take n ++ [y] ++ xs.drop n)))) : rInsert (.ref l) [.int (n : Nat), y] H Q := ⟨l, xs, n, y, rfl, rfl, h, by rw [sizeLine_eq]; omega, by omega, by omega, q⟩
end
/-! ### words: texts of letters -/
def lastL (v : List Nat) : List Nat := v.drop (v.length - 1)
theorem lastL_snoc (v : List Nat) (c : Nat) : lastL (v ++ [c]) = [c] := by simp [lastL]
theorem lastL_one {w : List Nat} (h : w ≠ []) : ∃ c, lastL w = [c] ∧ atI w (-1) = some c := by
  obtain ⟨v, c, rfl⟩ : ∃ v c, w = v ++ [c] := ⟨w.dropLast, w.getLast h, (List.dropLast_concat_getLast h).symm⟩
  refine ⟨c, lastL_snoc v c, ?_⟩
  exact atI_neg (k := 1) (by decide) (by simp) (by simp)
theorem snoc_of {w : List Nat} (h : w ≠ []) : ∃ v c, w = v ++ [c] := ⟨w.dropLast, w.getLast h, (List.dropLast_concat_getLast h).symm⟩
theorem cut_21' (w : List Nat) : cutS (S w) (some (-2)) (some (-1)) = S (lastL w.dropLast) := by
  rw [cut_21]
  congr 1
  by_cases h : w = []
  · subst h; rfl
  · obtain ⟨v, c, rfl⟩ := snoc_of h
    simp only [List.length_append, List.length_singleton, List.dropLast_concat, lastL]
    by_cases hv : v = []
    · subst hv; rfl
    · have : 0 < v.length := List.length_pos_iff.mpr hv
      have e1 : v.length + 1 - 2 = v.length - 1 := by omega
      have e2 : v.length + 1 - 1 - (v.length - 1) = 1 := by omega
      rw [e1, e2, List.drop_append_of_le_length (by omega)]
      rw [List.take_append_of_le_length (by simp; omega), List.take_of_length_le (by simp; omega)]
theorem snocInd {A : List Nat → Prop} (h0 : A []) (h1 : ∀ v c, A v → A (v ++ [c])) : ∀ w, A w := by
  intro w
  generalize hn : w.length = n
  induction n generalizing w with
  | zero => rw [List.eq_nil_of_length_eq_zero hn]; exact h0
  | succ n ih =>
    obtain ⟨v, c, rfl⟩ := snoc_of (w := w) (by intro e; rw [e] at hn; cases hn)
    exact h1 v c (ih v (by simpa using hn))
/-- every sign a letter, none undoing the one ahead -/
def badC (a : List Nat) (c : Nat) : Bool := !isL c || decide ([c] = a.map und)
/-- the first sign that is no letter or undoes the one ahead -/
def fb : List Nat → Nat → List Nat → Option Nat
  | _, _, [] => none
  | a, i, c :: r => if badC a c = true then some i else fb [c] (i + 1) r
/-- a word -/
def Good (w : List Nat) : Prop := fb [] 0 w = none
def ahd (w : List Nat) : Nat → List Nat
  | 0 => []
  | i + 1 => match w[i]? with | some c => [c] | none => []
def gd : List Nat → List Nat → Bool
  | _, [] => true
  | a, c :: r => !badC a c && gd [c] r
theorem fb_none : ∀ (w a : List Nat) (i : Nat), fb a i w = none ↔ gd a w = true
  | [], a, i => by simp [fb, gd]
  | c :: r, a, i => by
    unfold fb gd
    cases badC a c with
    | true => simp
    | false => simpa using fb_none r [c] (i + 1)
theorem good_gd {w : List Nat} : Good w ↔ gd [] w = true := fb_none w [] 0
theorem gd_snoc : ∀ (v a : List Nat) (c : Nat), gd a (v ++ [c]) = (gd a v && !badC (if v = [] then a else lastL v) c)
  | [], a, c => by simp [gd]
  | x :: v, a, c => by
    rw [List.cons_append]
    unfold gd
    rw [gd_snoc v [x] c, Bool.and_assoc]
    have e : (if v = [] then [x] else lastL v) = (if x :: v = [] then a else lastL (x :: v)) := by
      rw [if_neg (List.cons_ne_nil x v)]
      by_cases h : v = []
      · subst h; rfl
      · rw [if_neg h]
        obtain ⟨u, d, rfl⟩ := snoc_of h
        rw [lastL_snoc, ← List.cons_append, lastL_snoc]
    rw [e]
theorem good_snoc {v : List Nat} {c : Nat} : Good (v ++ [c]) ↔ Good v ∧ isL c = true ∧ [c] ≠ (lastL v).map und := by
  rw [good_gd, good_gd, gd_snoc]
  have e : (if v = [] then [] else lastL v) = lastL v := by
    by_cases h : v = []
    · subst h; rfl
    · rw [if_neg h]
  rw [e]
  simp [badC]
theorem good_nil : Good [] := rfl
theorem good_L {w : List Nat} (h : Good w) : AllL w := by
  refine snocInd (A := fun w => Good w → AllL w) (fun _ c hc => by cases hc) (fun v c ih h => ?_) w h
  obtain ⟨h1, h2, _⟩ := good_snoc.mp h
  intro d hd
  rcases List.mem_append.mp hd with hd | hd
  · exact ih h1 d hd
  · rw [List.mem_singleton.mp hd]; exact h2
theorem good_init {w : List Nat} (h : Good w) : Good w.dropLast := by
  by_cases e : w = []
  · subst e; exact h
  · obtain ⟨v, c, rfl⟩ := snoc_of e
    rw [List.dropLast_concat]
    exact (good_snoc.mp h).1
theorem good_take {w : List Nat} (h : Good w) : ∀ n, Good (w.take n) := by
  refine snocInd (A := fun w => Good w → ∀ n, Good (w.take n)) (fun h n => by simpa using h) (fun v c ih h n => ?_) w h
  by_cases hn : n ≤ v.length
  · rw [List.take_append_of_le_length hn]
    exact ih (good_snoc.mp h).1 n
  · rw [List.take_of_length_le (by simp; omega)]
    exact h
/-! ### twins -/
def hasTw (w : List Nat) : Bool := !decide (w = []) && !decide (lastL w = lastL w.dropLast)
def twOf (w : List Nat) : List Nat := w.dropLast ++ (lastL w).map und
theorem twOf_snoc (v : List Nat) (c : Nat) : twOf (v ++ [c]) = v ++ [und c] := by
  unfold twOf
  rw [List.dropLast_concat, lastL_snoc]
  rfl
theorem hasTw_snoc (v : List Nat) (c : Nat) : hasTw (v ++ [c]) = !decide ([c] = lastL v) := by
  unfold hasTw
  rw [List.dropLast_concat, lastL_snoc]
  simp
theorem hasTw_ne {w : List Nat} (h : hasTw w = true) : w ≠ [] := by
  intro e
  subst e
  exact absurd h (by decide)
theorem allL_last {w : List Nat} (h : AllL w) : AllL (lastL w) := fun c hc => h c (List.mem_of_mem_drop hc)
theorem good_tw {w : List Nat} (h : Good w) (ht : hasTw w = true) : Good (twOf w) := by
  obtain ⟨v, c, rfl⟩ := snoc_of (hasTw_ne ht)
  obtain ⟨h1, h2, h3⟩ := good_snoc.mp h
  rw [hasTw_snoc] at ht
  rw [twOf_snoc, good_snoc]
  refine ⟨h1, und_L h2, fun e => ?_⟩
  have hv := allL_last (good_L h1)
  have : [c] = lastL v := by
    cases hl : lastL v with
    | nil => rw [hl] at e; cases e
    | cons a r =>
      rw [hl] at e hv
      cases r with
      | nil =>
        have e2 : und c = und a := by simpa using e
        rw [und_inj h2 (hv a List.mem_cons_self) e2]
      | cons b r => simp at e
  rw [this] at ht
  simp at ht
theorem tw_tw {w : List Nat} (h : AllL w) (hw : w ≠ []) : twOf (twOf w) = w := by
  obtain ⟨v, c, rfl⟩ := snoc_of hw
  rw [twOf_snoc, twOf_snoc, und_und (h c (by simp))]
theorem tw_len {w : List Nat} (hw : w ≠ []) : (twOf w).length = w.length := by
  obtain ⟨v, c, rfl⟩ := snoc_of hw
  rw [twOf_snoc]
  simp
theorem hasTw_tw {w : List Nat} (h : Good w) (ht : hasTw w = true) : hasTw (twOf w) = true := by
  obtain ⟨v, c, rfl⟩ := snoc_of (hasTw_ne ht)
  obtain ⟨h1, h2, h3⟩ := good_snoc.mp h
  rw [twOf_snoc, hasTw_snoc]
  have hv := allL_last (good_L h1)
  have : ¬ [und c] = lastL v := fun e => h3 (by rw [← e]; simp [und_und h2])
  simpa using this
/-! ### the same rules, K said -/
section
variable {X : Cx} {K : PySem.W.Frag}
theorem call_isiEK (h : X.K = K := by rfl) : CallR X (.builtin "isinstance") (rIsiE K) := by subst h; exact call_isiE
theorem call_isiTK (h : X.K = K := by rfl) : CallR X (.builtin "isinstance") (rIsiT K) := by subst h; exact call_isiT
theorem ix_seqK (h : X.K = K := by rfl) : IxR X (rIx K) := by subst h; exact ix_seq
theorem sl_anyK (h : X.K = K := by rfl) : SlR X (rSlA K) := by subst h; exact sl_any
theorem op_eqK (hu : X.A.units + 64 < cLine) (h : X.K = K := by rfl) : OpR X (compareOp .Eq) (rEqA K) := by subst h; exact op_eqA hu
theorem op_neK (hu : X.A.units + 64 < cLine) (h : X.K = K := by rfl) : OpR X (compareOp .NotEq) (rNeA K) := by subst h; exact op_neA hu
theorem op_inK (h : X.K = K := by rfl) : OpR X (compareOp .In) (rInA K) := by subst h; exact op_inA
theorem op_niK (h : X.K = K := by rfl) : OpR X (compareOp .NotIn) (rNiA K) := by subst h; exact op_niA
theorem pe_attrK {e : Expr} {te : TE} {pos : Pos} {n : Str} (he : PE X e te) (h : X.K = K := by rfl) (hb : attributeBase e n X.env (eval e X.env) = eval e X.env := by rfl) : PE X (.Attribute e n pos) (tAttr K n te) := by subst h; exact pe_attr he hb
end
/-! ### rows apart -/
def Apart (rows : List (List Nat)) : Prop := ∀ (i j : Nat) (x y : List Nat), rows[i]? = some x → rows[j]? = some y → i ≠ j → y.isPrefixOf x = false
theorem paired_len {α β : Type} {G : α → β → Prop} : ∀ {xs : List α} {ys : List β}, Paired G xs ys → xs.length = ys.length
  | _, _, .nil => rfl
  | _, _, .cons _ t => congrArg (· + 1) (paired_len t)
theorem paired_at {α β : Type} {G : α → β → Prop} : ∀ {xs : List α} {ys : List β}, Paired G xs ys → ∀ {i : Nat} {x : α} {y : β}, xs[i]? = some x → ys[i]? = some y → G x y
  | _, _, .cons g _, 0, _, _, h1, h2 => by cases h1; cases h2; exact g
  | _, _, .cons _ t, i + 1, _, _, h1, h2 => paired_at t (by simpa using h1) (by simpa using h2)
theorem paired_snoc {α β : Type} {G : α → β → Prop} : ∀ {xs : List α} {ys : List β} {x : α} {y : β}, Paired G xs ys → G x y → Paired G (xs ++ [x]) (ys ++ [y])
  | _, _, _, _, .nil, g => .cons g .nil
  | _, _, _, _, .cons h t, g => .cons h (paired_snoc t g)
theorem paired_mono {α β : Type} {G G' : α → β → Prop} (hm : ∀ x y, G x y → G' x y) : ∀ {xs : List α} {ys : List β}, Paired G xs ys → Paired G' xs ys
  | _, _, .nil => .nil
  | _, _, .cons h t => .cons (hm _ _ h) (paired_mono hm t)
theorem paired_of {α β : Type} {G : α → β → Prop} : ∀ {xs : List α} {ys : List β}, xs.length = ys.length → (∀ (i : Nat) (x : α) (y : β), xs[i]? = some x → ys[i]? = some y → G x y) → Paired G xs ys
  | [], [], _, _ => .nil
  | _ :: _, _ :: _, hl, h => .cons (h 0 _ _ rfl rfl) (paired_of (by simpa using hl) fun i x y a b => h (i + 1) x y (by simpa using a) (by simpa using b))
theorem paired_rev {α β : Type} {G : α → β → Prop} : ∀ {xs : List α} {ys : List β}, Paired G xs ys → Paired G xs.reverse ys.reverse
  | _, _, .nil => .nil
  | _, _, .cons h t => by
    rw [List.reverse_cons, List.reverse_cons]
    exact paired_snoc (paired_rev t) h
theorem take_snoc {α : Type} {xs : List α} {j : Nat} {x : α} (h : xs[j]? = some x) : xs.take (j + 1) = xs.take j ++ [x] := by
  rw [List.take_add_one, h]
  rfl
end Cs

set_option Elab.async false
set_option linter.all false
set_option maxRecDepth 100000
set_option maxHeartbeats 4000000
/-! LayF: plain lemmas: tops of a stem, rows apart. -/
namespace Cs
open PySem PySem.Spec PyProof.Rows L2
section
variable {X : Cx} {K : PySem.W.Frag} {e : Expr} {es : List Expr}
theorem pe_bm0K {T id : String} {name : Str} {r : V → List V → Hp → VK → Prop} {o : Expr} {to : TE} {apos cpos : Pos} (pa : PlainAttrs T) (slot : Slot T name id) (hty : typeOf (.builtin id) = pure (.type "method_descriptor")) (hm : MtR X id r) (ho : PE X o to) (h : X.K = K := by rfl)
    (hbase : attributeBase o name X.env (eval o X.env) = eval o X.env := by rfl) (hline : (apos.endLine == cpos.line) = true := by rfl) : PE X (.Call (.Attribute o name apos) [] [] cpos) (tBM0 K T r to) := by
  subst h
  exact pe_bm0 pa slot hty hm ho hbase hline
theorem pe_bmK {T id : String} {name : Str} {r : V → List V → Hp → VK → Prop} {o : Expr} {to : TE} {t : TA} {apos cpos : Pos} (pa : PlainAttrs T) (slot : Slot T name id) (hty : typeOf (.builtin id) = pure (.type "method_descriptor")) (hm : MtR X id r) (ho : PE X o to) (ha : PA X (e :: es) t) (h : X.K = K := by rfl)
    (hbase : attributeBase o name X.env (eval o X.env) = eval o X.env := by rfl)
    (hfew : ((backTo cpos (starEach (e :: es) X.env)).all (fun x => !x.1) && (backToKw cpos (keywordEach [] X.env)).all (fun x => x.1.isSome)
      && decide ((e :: es).length + ([] : List Keyword).length + (if ([] : List Keyword).isEmpty then 0 else 1) < 30)) = true := by rfl)
    (hline : (apos.endLine == cpos.line) = true := by rfl) (hs : starEach (e :: es) X.env = (false, eval e X.env) :: starEach es X.env := by rfl) (hplain : (backTo cpos (starEach es X.env)).any (·.1) = false := by rfl) :
    PE X (.Call (.Attribute o name apos) (e :: es) [] cpos) (tBM K T r to t) := by
  subst h
  exact pe_bm pa slot hty hm ho ha hbase hfew hline hs hplain
end
theorem walk_range0 {n : Nat} : Walk (Itr 0 n) ((List.range n).map fun i => V.int (i : Nat)).length (fun _ => True) (YAt ((List.range n).map fun i => V.int (i : Nat))) := by
  have e : ((List.range n).map fun i => V.int (i : Nat)).length = n := by simp
  rw [e]
  refine ⟨fun i H hi _ => hi, fun H _ => Nat.le_refl _, fun i H x H' hi _ y => ⟨y.1, ?_⟩⟩
  rw [List.getElem?_map, List.getElem?_range hi, y.2, Int.zero_add]
  rfl
theorem cutV_to (xs : List V) (k : Nat) : cutV xs none (some (k : Int)) = xs.take k := by
  unfold cutV
  rw [HT.sIx_none, HT.sIx_nat]
  simp only [List.drop_zero, Nat.sub_zero]
  by_cases h : k ≤ xs.length
  · rw [Nat.min_eq_left h]
  · rw [Nat.min_eq_right (by omega), List.take_length, List.take_of_length_le (by omega)]
theorem cutV_from (xs : List V) (k : Nat) : cutV xs (some (k : Int)) none = xs.drop k := by
  unfold cutV
  rw [HT.sIx_none, HT.sIx_nat]
  by_cases h : k ≤ xs.length
  · rw [Nat.min_eq_left h]
    apply List.take_of_length_le
    simp
  · rw [Nat.min_eq_right (by omega), List.drop_of_length_le (by omega : xs.length ≤ k), List.drop_length]
    simp
theorem rep1 (n c : Nat) : (List.replicate n [c]).flatten = List.replicate n c := by
  induction n with
  | zero => rfl
  | succ n ih => rw [List.replicate_succ, List.flatten_cons, ih]; rfl
/-- the first two of A, B, C that the last letter is not of -/
def free2 (u : List Nat) : List Nat := ([65, 66, 67].filter fun c => !decide (c ∈ (lastL u).map upp))
theorem lastL_le (u : List Nat) : (lastL u).length ≤ 1 := by
  unfold lastL
  rw [List.length_drop]
  omega
theorem free2_two (u : List Nat) : ∃ a b r, free2 u = a :: b :: r ∧ a ≠ b ∧ (a = 65 ∨ a = 66) ∧ (b = 66 ∨ b = 67) ∧ a ∉ (lastL u).map upp ∧ b ∉ (lastL u).map upp := by
  unfold free2
  have h := lastL_le u
  generalize lastL u = l at h
  match l, h with
  | [], _ => exact ⟨65, 66, [67], rfl, by decide, .inl rfl, .inl rfl, by simp, by simp⟩
  | [d], _ =>
    by_cases h1 : upp d = 65
    · exact ⟨66, 67, [], by simp [h1], by decide, .inr rfl, .inr rfl, by simp [h1], by simp [h1]⟩
    · by_cases h2 : upp d = 66
      · exact ⟨65, 67, [], by simp [h2], by decide, .inl rfl, .inr rfl, by simp [h2], by simp [h2]⟩
      · refine ⟨65, 66, ([67].filter fun c => !decide (c ∈ [d].map upp)), ?_, by decide, .inl rfl, .inl rfl, ?_, ?_⟩
        · have e1 : (!decide (65 ∈ [d].map upp)) = true := by simp; omega
          have e2 : (!decide (66 ∈ [d].map upp)) = true := by simp; omega
          rw [List.filter_cons, if_pos e1, List.filter_cons, if_pos e2]
        · simp; omega
        · simp; omega
theorem nu {a : Nat} {l : List Nat} (ha : a = 65 ∨ a = 66 ∨ a = 67) (hL : AllL l) (h : a ∉ l.map upp) : [a] ≠ l.map und ∧ [a] ≠ l := by
  constructor
  · intro e
    cases l with
    | nil => cases e
    | cons d r =>
      have hd : isL d = true := hL d List.mem_cons_self
      have e1 : a = und d := by simpa using congrArg List.head? e
      apply h
      rw [List.map_cons, e1]
      refine List.mem_cons.mpr (.inl ?_)
      rw [e1] at ha
      rcases isL_cases hd with rfl | rfl | rfl | rfl | rfl | rfl | rfl | rfl <;> simp [und, upp] at ha ⊢
  · intro e
    rw [← e] at h
    apply h
    rcases ha with rfl | rfl | rfl <;> decide
theorem good_rep {u : List Nat} {a : Nat} (hg : Good u) (ha : a = 65 ∨ a = 66 ∨ a = 67) (h : a ∉ (lastL u).map upp) : ∀ m, Good (u ++ List.replicate m a)
  | 0 => by simpa using hg
  | m + 1 => by
    rw [List.replicate_succ', ← List.append_assoc]
    refine good_snoc.mpr ⟨good_rep hg ha h m, by rcases ha with rfl | rfl | rfl <;> rfl, ?_⟩
    cases m with
    | zero =>
      rw [List.replicate_zero, List.append_nil]
      exact (nu ha (allL_last (good_L hg)) h).1
    | succ m =>
      rw [List.replicate_succ', ← List.append_assoc, lastL_snoc]
      rcases ha with rfl | rfl | rfl <;> decide
/-- u a .. a b, a m times -/
def topW (u : List Nat) (a b m : Nat) : List Nat := u ++ List.replicate m a ++ [b]
theorem last_rep {u : List Nat} {a m : Nat} : lastL (u ++ List.replicate (m + 1) a) = [a] := by
  rw [List.replicate_succ', ← List.append_assoc, lastL_snoc]
theorem good_top {u : List Nat} {a b : Nat} (hg : Good u) (ha : a = 65 ∨ a = 66 ∨ a = 67) (hb : b = 65 ∨ b = 66 ∨ b = 67) (hab : a ≠ b) (h : a ∉ (lastL u).map upp) (h2 : b ∉ (lastL u).map upp) (m : Nat) :
    Good (topW u a b m) ∧ hasTw (topW u a b m) = true ∧ twOf (topW u a b m) = u ++ List.replicate m a ++ [und b] := by
  have hl : [b] ≠ (lastL (u ++ List.replicate m a)).map und ∧ [b] ≠ lastL (u ++ List.replicate m a) := by
    cases m with
    | zero =>
      rw [List.replicate_zero, List.append_nil]
      exact nu hb (allL_last (good_L hg)) h2
    | succ m =>
      rw [last_rep]
      refine ⟨?_, fun e => hab (by simpa using e.symm)⟩
      rcases ha with rfl | rfl | rfl <;> rcases hb with rfl | rfl | rfl <;> decide
  refine ⟨good_snoc.mpr ⟨good_rep hg ha h m, by rcases hb with rfl | rfl | rfl <;> rfl, hl.1⟩, ?_, twOf_snoc _ _⟩
  unfold topW
  rw [hasTw_snoc, decide_eq_false hl.2]
  rfl
/-- the rows of the tops and of their twins -/
def topRows (u : List Nat) (a b : Nat) : Nat → List (List Nat)
  | 0 => []
  | m + 1 => topRows u a b m ++ [topW u a b m, u ++ List.replicate m a ++ [und b]]
theorem topRows_at {u : List Nat} {a b : Nat} : ∀ {n i : Nat} {x : List Nat}, (topRows u a b n)[i]? = some x → ∃ m c, m = i / 2 ∧ (c = b ∧ i % 2 = 0 ∨ c = und b ∧ i % 2 = 1) ∧ x = u ++ List.replicate m a ++ [c] := by
  intro n
  have hlen : ∀ n, (topRows u a b n).length = 2 * n := by
    intro n
    induction n with
    | zero => rfl
    | succ n ih => unfold topRows; rw [List.length_append, ih]; simp; omega
  induction n with
  | zero => intro i x h; simp [topRows] at h
  | succ n ih =>
    intro i x h
    unfold topRows at h
    by_cases hi : i < (topRows u a b n).length
    · rw [List.getElem?_append_left hi] at h
      exact ih h
    · rw [List.getElem?_append_right (by omega), hlen] at h
      rw [hlen] at hi
      by_cases h0 : i - 2 * n = 0
      · rw [h0] at h
        cases h
        exact ⟨n, b, by omega, .inl ⟨rfl, by omega⟩, rfl⟩
      · by_cases h1 : i - 2 * n = 1
        · rw [h1] at h
          cases h
          exact ⟨n, und b, by omega, .inr ⟨rfl, by omega⟩, rfl⟩
        · rw [List.getElem?_eq_none (by simp; omega)] at h
          cases h
theorem rep_pre {u : List Nat} {a c d m k : Nat} (hc : c ≠ a) (hd : d ≠ a) (h : (u ++ List.replicate m a ++ [c]) <+: (u ++ List.replicate k a ++ [d])) : m = k ∧ c = d := by
  rw [List.append_assoc, List.append_assoc, List.prefix_append_right_inj] at h
  induction m generalizing k with
  | zero =>
    cases k with
    | zero => simpa using h
    | succ k =>
      rw [List.replicate_succ] at h
      simp at h
      try exact absurd h hc
  | succ m ih =>
    cases k with
    | zero =>
      rw [List.replicate_succ] at h
      simp at h
      try exact absurd h.1.symm hd
    | succ k =>
      rw [List.replicate_succ, List.replicate_succ, List.cons_append, List.cons_append, List.cons_prefix_cons] at h
      obtain ⟨e1, e2⟩ := ih h.2
      exact ⟨congrArg (· + 1) e1, e2⟩
theorem topRows_apart {u : List Nat} {a b : Nat} (ha : a = 65 ∨ a = 66 ∨ a = 67) (hb : b = 65 ∨ b = 66 ∨ b = 67) (hab : a ≠ b) (n : Nat) : Apart (topRows u a b n) := by
  intro i j x y hx hy hne
  obtain ⟨m, c, rfl, hc, rfl⟩ := topRows_at hx
  obtain ⟨k, d, rfl, hd, rfl⟩ := topRows_at hy
  rw [Bool.eq_false_iff]
  intro h
  have h := List.isPrefixOf_iff_prefix.mp h
  have ub : und b ≠ a ∧ und b ≠ b := by
    rcases ha with rfl | rfl | rfl <;> rcases hb with rfl | rfl | rfl <;> decide
  have nc : c ≠ a := hc.elim (fun h => h.1 ▸ hab.symm) (fun h => h.1 ▸ ub.1)
  have nd : d ≠ a := hd.elim (fun h => h.1 ▸ hab.symm) (fun h => h.1 ▸ ub.1)
  obtain ⟨e1, e2⟩ := rep_pre nd nc h
  apply hne
  rcases hc with ⟨rfl, h1⟩ | ⟨rfl, h1⟩ <;> rcases hd with ⟨rfl, h2⟩ | ⟨rfl, h2⟩
  · omega
  · exact absurd e2 ub.2
  · exact absurd e2.symm ub.2
  · omega
theorem topRows_pre {u : List Nat} {a b n : Nat} {x : List Nat} (h : x ∈ topRows u a b n) : u <+: x := by
  obtain ⟨i, hi⟩ := List.mem_iff_getElem?.mp h
  obtain ⟨m, c, _, _, rfl⟩ := topRows_at hi
  rw [List.append_assoc]
  exact List.prefix_append _ _
end Cs

set_option Elab.async false
set_option linter.all false
set_option maxRecDepth 100000
set_option maxHeartbeats 4000000
/-! LayG: the pen at work; joins behind an if. -/
namespace Cs
open PySem PySem.Spec PyProof.Rows L2
/-- n positional values, m keywords; the keywords' values in the order ix -/
def gPm {α : Type} (z : α) (n m : Nat) (ix : List Nat) (us ws : List α) : List α := if us.length = n ∧ ws.length = m then us ++ ix.map (fun i => ws.getD i z) else []
theorem vals_getD : ∀ {zs : List V} {ws : List Value} (i : Nat), Vals zs ws → RelV (zs.getD i .non) (ws.getD i .none)
  | _, _, _, .nil => rfl
  | _, _, 0, .cons r _ => r
  | _, _, i + 1, .cons _ t => by simpa using vals_getD i t
theorem vals_ix {zs : List V} {ws : List Value} (h : Vals zs ws) : ∀ (ix : List Nat), Vals (ix.map fun i => zs.getD i .non) (ix.map fun i => ws.getD i .none)
  | [] => .nil
  | i :: ix => .cons (vals_getD i h) (vals_ix h ix)
theorem gPm_rel {n m : Nat} {ix : List Nat} {vs : List V} {us : List Value} {zs : List V} {ws : List Value} (h1 : Vals vs us) (h2 : Vals zs ws) : Vals (gPm .non n m ix vs zs) (gPm .none n m ix us ws) := by
  unfold gPm
  rw [h1.length, h2.length]
  by_cases h : us.length = n ∧ ws.length = m
  · rw [if_pos h, if_pos h]
    exact h1.append (vals_ix h2 ix)
  · rw [if_neg h, if_neg h]
    exact .nil
theorem r_ntt {A B : Prop} (q : B) : if (!true) = true then A else B := q
theorem r_nff {A B : Prop} (q : A) : if (!false) = true then A else B := q
theorem r_itup {K : PySem.W.Frag} {σ : L2.St} {H : Hp} {ta : TE} {R : It → Hp → Prop} (q : ta σ H fun x H1 => ∃ a, x = .ref a ∧ (∃ xs, SqT K H1 a xs) ∧ R (Itt K a) H1) : iTup K ta σ H R := q
def rRevL (K : PySem.W.Frag) (x : V) (H1 : Hp) (Q : VK) : Prop := ∃ a xs, x = .ref a ∧ SqL K H1 a xs ∧ ∀ p, H1 p = none → Q (.ref p) (upd H1 p (.lst xs.reverse))
theorem r_revL {K : PySem.W.Frag} {σ : L2.St} {H : Hp} {te : TE} {Q : VK} (q : te σ H fun x H1 => rRevL K x H1 Q) : tRevL K te σ H Q := q
theorem paired_app {α β : Type} {G : α → β → Prop} : ∀ {xs xs' : List α} {ys ys' : List β}, Paired G xs ys → Paired G xs' ys' → Paired G (xs ++ xs') (ys ++ ys')
  | _, _, _, _, .nil, h => h
  | _, _, _, _, .cons g t, h => .cons g (paired_app t h)
theorem paired_take {α β : Type} {G : α → β → Prop} : ∀ {xs : List α} {ys : List β} (n : Nat), Paired G xs ys → Paired G (xs.take n) (ys.take n)
  | _, _, 0, _ => .nil
  | _, _, n + 1, .nil => .nil
  | _, _, n + 1, .cons g t => .cons g (paired_take n t)
theorem paired_drop {α β : Type} {G : α → β → Prop} : ∀ {xs : List α} {ys : List β} (n : Nat), Paired G xs ys → Paired G (xs.drop n) (ys.drop n)
  | _, _, 0, h => h
  | _, _, n + 1, .nil => .nil
  | _, _, n + 1, .cons g t => paired_drop n t
/-- what follows a statement is proved once -/
theorem r_cut {T : TS} {σ : L2.St} {H : Hp} {f bk ct : L2.St → Hp → Prop} {rt : VK} (Mid : L2.St → Hp → Prop) (h1 : ∀ nx, (∀ σ' H', Mid σ' H' → nx σ' H') → T (Ends.mk nx rt bk ct) σ H) (h2 : ∀ σ' H', Mid σ' H' → f σ' H') : T (Ends.mk f rt bk ct) σ H := h1 f h2
/-- if .. elif .. else: the else is proved once -/
theorem r_els {c1 c2 : TT} {t1 t2 t3 : TS} {De : Ends} {σ : L2.St} {H : Hp} (Mid : L2.St → Hp → Prop) (h3 : ∀ σ H, Mid σ H → t3 De σ H) (h : ∀ t3' : TS, (∀ σ H, Mid σ H → t3' De σ H) → tIfS c1 t1 (tIfS c2 t2 t3') De σ H) : tIfS c1 t1 (tIfS c2 t2 t3) De σ H := h t3 h3
theorem q_set {H : Hp} {p : Addr} {k : Int} {j : Nat} {v : V} {xs : List V} {Q : Hp → Prop} (h : H p = some (.lst xs)) (hj : ixN xs.length k = some j) (q : Q (upd H p (.lst (xs.set j v)))) : rSetL (.ref p) (.int k) v H Q := ⟨p, xs, k, j, rfl, rfl, h, hj, q⟩
structure KP (P : Pen) (H0 H : Hp) (spot rest : Int) : Prop where
  keep : KeepB P H0 H
  pen : H P.p = some (penO P spot rest)
  cells : H P.c = some (.lst (P.ns.map V.int))
  ne : P.p ≠ P.c
section
variable {P : Pen} {n m : Nat} {H H0 H' : Hp} {s r s' r' : Int} {p : Addr} {o : HO}
theorem KP.of (h : PenAt P n H) : ∃ s r : Int, 0 ≤ s ∧ s ≤ n ∧ 0 ≤ r ∧ KP P H H s r := by
  obtain ⟨s, r, h1, h2, h3, h4⟩ := h.ex
  exact ⟨s, r, h1, h2, h3, KeepB.refl, h4, h.cells, h.ne⟩
theorem KP.set (h : KP P H0 H s r) : KP P H0 (upd H P.p (penO P s' r')) s' r' :=
  ⟨fun b o nb e => by rw [upd_ne nb]; exact h.keep b o nb e, upd_same, by rw [upd_ne h.ne.symm]; exact h.cells, h.ne⟩
theorem KP.new (h : KP P H0 H s r) (hp : H p = none) : KP P H0 (upd H p o) s r :=
  ⟨h.keep.new hp, by rw [upd_ne (ne_of_none h.pen hp)]; exact h.pen, by rw [upd_ne (ne_of_none h.cells hp)]; exact h.cells, h.ne⟩
theorem KP.done (h : KP P H0 H s r) (h1 : 0 ≤ s) (h2 : s ≤ n) (h3 : 0 ≤ r) (hl : P.ns.length ≤ 63) : PenAt P n H := ⟨⟨s, r, h1, h2, h3, h.pen⟩, h.cells, hl, h.ne⟩
end
theorem r_ixLi {K : PySem.W.Frag} {H : Hp} {a : Addr} {ns : List Int} {k : Int} {Q : VK} (h : H a = some (.lst (ns.map V.int))) (h0 : 0 ≤ k) (h1 : k < ns.length) (q : ∀ c, ns[k.toNat]? = some c → Q (.int c) H) : rIx K (.ref a) (.int k) H Q := by
  obtain ⟨j, rfl⟩ := Int.eq_ofNat_of_zero_le h0
  have hj : j < ns.length := by omega
  have e : (ns.map V.int)[j]? = some (V.int ns[j]) := by simp [hj]
  exact r_ixL (SqL.of h) (atI_nat e) (q ns[j] (by simp [hj]))
theorem mulB {a b x y : Int} (h0 : 0 ≤ a) (h1 : a ≤ x) (h2 : 0 ≤ b) (h3 : b ≤ y) : 0 ≤ a * b ∧ a * b ≤ x * y := ⟨Int.mul_nonneg h0 h2, Int.mul_le_mul h1 h3 h2 (by omega)⟩
end Cs

set_option Elab.async false
set_option linter.all false
set_option maxRecDepth 100000
set_option maxHeartbeats 4000000
/-! LayH: from the facts of the written part to the makers of errors, the callees. -/
namespace Cs
open PySem PySem.Spec PyProof.Rows L2 PySem.ErrX
section
variable {K : PySem.W.Frag} {C : Addr} {t : Value} {v : Bool}
theorem kit_self : PySem.W.kitOne K (.ref C) (.ref C) = some true := by
  unfold PySem.W.kitOne
  rw [if_pos (beq_self_eq_true _)]
theorem kitc_own (i : PySem.W.isClsIn K C = true) (ty : PySem.W.typeIn K (.ref C) = some (.type "type")) (s : PySem.W.subIn K t (.ref C) = some v) : PySem.W.kitCls K t (.ref C) = some v := by
  unfold PySem.W.kitCls
  have i' : (PySem.W.clsIn K C).isSome = true := i
  simp only [i', ty]
  exact s
theorem kit_own {T : String} (i : PySem.W.isClsIn K C = true) (ty : PySem.W.typeIn K (.ref C) = some (.type "type")) (s : PySem.W.subIn K (.type T) (.ref C) = some v) : PySem.W.kitOne K (.type T) (.ref C) = some v := by
  unfold PySem.W.kitOne
  rw [if_neg (by simp)]
  exact kitc_own i ty s
theorem kit_bt {T : String} (s : PySem.W.subIn K (.ref C) (.type T) = some v) (m : PySem.W.kitMeta T = true := by decide +kernel) : PySem.W.kitOne K (.ref C) (.type T) = some v := by
  unfold PySem.W.kitOne
  rw [if_neg (by simp)]
  unfold PySem.W.kitCls
  simp only [m, if_true]
  exact s
theorem exm_own {A : Addr} (e : PySem.W.subIn K (.ref C) (.type "BaseException") = some true) (i : PySem.W.isClsIn K C = true) (ty : PySem.W.typeIn K (.ref C) = some (.type "type")) (s : PySem.W.subIn K (.ref A) (.ref C) = some v) : PySem.W.exmOne K (.ref A) (.ref C) = some v := by
  unfold PySem.W.exmOne
  rw [e, if_pos (by decide)]
  exact kitc_own i ty s
end
section
variable {P : Program} {w : World} {K : PySem.W.Frag} {mg : Str → Option Value} {base : Heap} {C fI : Addr} {params : Arguments} {scope : Scope} {msg f g : Str} {p0 p1 p2 p3 p4 p5 q0 q1 q2 q3 r0 r1 r2 r3 : Pos}
theorem emk1 (T : ECls P K C fI) (S : EShape params scope [f]) (F : EFun P K C fI params [sup msg p0 p1 p2 p3 p4 p5, sto f q0 q1 q2 q3] scope) (nof : PySem.W.findIn K (.ref C) f = some none)
    (hb : ∀ (s : Shared) (x : Addr) (v : Value) (qual : Str) (kV doc pm ct : Value) (an : Option Addr) (cda cc : Addr), BindsTo s (PySem.W.ksFn "__init__" qual params [sup msg p0 p1 p2 p3 p4 p5, sto f q0 q1 q2 q3] scope .none kV doc pm an (.ref cda) ct cc) ⟨[.ref x, v], []⟩ [("self", .ref x), (f, v)])
    (hev : ∀ (L cda cc : Addr) (qual : Str), interactive (PySem.W.ksEnv qual scope L fI (.ref cda) cc) = false ∧ (∃ pl, SupEv msg p0 p1 p2 p3 p4 pl (PySem.W.ksEnv qual scope L fI (.ref cda) cc)) ∧
      swapsWith (.Name f q2) (some (.Attribute (.Name "self" q0) f q1)) q3.line (PySem.W.ksEnv qual scope L fI (.ref cda) cc) = pure false) : EMk P w K mg base C fI [f] where
  T := T
  run := fun M {A s R x t0 us} hl kb hx hbx hroom hq => by
    match us, hl with
    | [v], _ =>
      refine err_init1 M kb T S F hx hbx hroom nof (hb s x v) hev fun h' tk dx I => hq h' tk dx ?_
      have e : (fun y => ([f].zip [v]).lookup y) = fun y => if y = f then some v else none := by
        funext y
        simp only [List.zip_cons_cons, List.zip_nil_right, List.lookup_cons, List.lookup_nil]
        by_cases h : y = f
        · rw [if_pos h, h, beq_self_eq_true]
        · rw [if_neg h, beq_eq_false_iff_ne.mpr h]
      rw [e]
      exact I
  no := fun x hx => by rw [List.mem_singleton.mp hx]; exact nof
theorem emk2 (T : ECls P K C fI) (S : EShape params scope [f, g]) (F : EFun P K C fI params [sup msg p0 p1 p2 p3 p4 p5, sto f q0 q1 q2 q3, sto g r0 r1 r2 r3] scope) (nof : PySem.W.findIn K (.ref C) f = some none) (nog : PySem.W.findIn K (.ref C) g = some none)
    (hb : ∀ (s : Shared) (x : Addr) (v u : Value) (qual : Str) (kV doc pm ct : Value) (an : Option Addr) (cda cc : Addr), BindsTo s (PySem.W.ksFn "__init__" qual params [sup msg p0 p1 p2 p3 p4 p5, sto f q0 q1 q2 q3, sto g r0 r1 r2 r3] scope .none kV doc pm an (.ref cda) ct cc) ⟨[.ref x, v, u], []⟩ [("self", .ref x), (f, v), (g, u)])
    (hev : ∀ (L cda cc : Addr) (qual : Str), interactive (PySem.W.ksEnv qual scope L fI (.ref cda) cc) = false ∧ (∃ pl, SupEv msg p0 p1 p2 p3 p4 pl (PySem.W.ksEnv qual scope L fI (.ref cda) cc)) ∧
      swapsWith (.Name f q2) (some (.Attribute (.Name "self" q0) f q1)) q3.line (PySem.W.ksEnv qual scope L fI (.ref cda) cc) = pure false ∧ swapsWith (.Name g r2) (some (.Attribute (.Name "self" r0) g r1)) r3.line (PySem.W.ksEnv qual scope L fI (.ref cda) cc) = pure false) : EMk P w K mg base C fI [f, g] where
  T := T
  run := fun M {A s R x t0 us} hl kb hx hbx hroom hq => by
    match us, hl with
    | [v, u], _ =>
      refine err_init2 M kb T S F hx hbx hroom nof nog (hb s x v u) hev fun h' tk dx I => hq h' tk dx ?_
      have gf : f ≠ g := by
        have z := S.nd
        simp at z
        exact z
      have e : (fun y => ([f, g].zip [v, u]).lookup y) = fun y => if y = g then some u else if y = f then some v else none := by
        funext y
        simp only [List.zip_cons_cons, List.zip_nil_right, List.lookup_cons, List.lookup_nil]
        by_cases h : y = f
        · rw [h, beq_self_eq_true, if_neg gf, if_pos rfl]
        · rw [beq_eq_false_iff_ne.mpr h, if_neg h]
          by_cases h2 : y = g
          · rw [if_pos h2, h2, beq_self_eq_true]
          · rw [if_neg h2, beq_eq_false_iff_ne.mpr h2]
      rw [e]
      exact I
  no := fun x hx => by
    rcases List.mem_cons.mp hx with rfl | hx
    · exact nof
    · rw [List.mem_singleton.mp hx]; exact nog
end
end Cs


set_option Elab.async false
set_option linter.all false
set_option maxRecDepth 100000
set_option maxHeartbeats 4000000
namespace Cs
open PySem PySem.Spec PyProof.Rows L2
local macro_rules | `(tactic| walk_at "two") => `(tactic| with_reducible (first
  | refine r_seq ?_ | refine r_nx ?_ | refine r_rt ?_ | refine r_ct ?_ | refine r_bk ?_ | refine r_asg ?_ | refine r_gname ?_ | refine r_ret ?_ | refine r_drop ?_ | refine r_next ?_ | refine r_retN ?_ | refine r_fld ?_ | refine r_gsub ?_ | refine r_brk ?_ | refine r_cont ?_
  | refine r_var rfl ?_ | refine r_c ?_ | refine r_op ?_ | refine r_un ?_ | refine r_test ?_ | refine r_tB ?_ | refine r_bl ?_ | refine r_blv ?_
  | refine r_cons ?_ | refine r_nil ?_ | refine r_lc ?_ | refine r_yes ?_ | refine r_iLT0 ?_ | refine r_iEnumS ?_ | refine r_iEnum ?_ | refine r_iStr ?_ | refine r_iList ?_ | refine r_iRng ?_ | refine r_iStrS ?_ | refine r_iStrE ?_ | refine r_cb ?_ | refine r_call0 ?_ | refine r_callS ?_ | refine r_callK ?_ | refine r_tup ?_ | refine r_lst ?_ | refine r_make0 ?_ | refine r_attr ?_
  | refine r_sl ?_ | refine r_nopart ?_ | refine r_part ?_ | refine r_parti ?_ | refine r_tyS ?_ | refine r_bm0 ?_ | refine r_bm ?_ | refine r_dnew ?_
  | refine r_and ?_ | refine r_or ?_ | refine r_not ?_ | refine r_andV ?_ | refine r_orV ?_ | refine r_notV ?_ | refine r_if ?_ | refine r_ift ?_ | refine r_iff ?_ | refine r_revL ?_ | refine r_ntt ?_ | refine r_nff ?_ | refine r_itup ?_ | refine r_chain ?_
  | refine r_I0 ?_ | refine r_U ?_ | refine r_addI ?_ | refine r_eqI ?_ | refine r_neI ?_ | refine r_eqS ?_ | refine r_neS ?_ | refine r_eqB ?_ | refine r_neB ?_ | refine r_inS ?_ | refine r_niS ?_ | refine r_int1 ?_ | refine r_abs ?_ | refine r_isN ?_ | refine r_notN ?_))
local macro_rules | `(tactic| walk_at "one") => `(tactic| first | walk_at "two" | with_reducible (first | refine r_ifs ?_ | refine r_forE ?_))
local macro_rules | `(tactic| walk_at "go") => `(tactic| repeat walk_at "one")
local macro_rules | `(tactic| walk_at "gp") => `(tactic| repeat walk_at "two")

section
variable {P : Program} {w : World} {K : PySem.W.Frag} {mg : Str → Option Value} {base : Heap}

def top (i : Nat) : Stmt := PySem.Challenge.pw_copyshare_k30_twins_words_apart_and_tops.main.body.getD i (.Pass ⟨0, 0, 0, 0⟩)
structure Ad where
  BadNumber : Addr
  BadWord : Addr
  BallError : Addr
  TooMany : Addr
  Word : Addr
  i_BadNumber : Addr
  i_BadWord : Addr
  i_TooMany : Addr
structure Txt (P : Program) (w : World) (K : PySem.W.Frag) (mg : Str → Option Value) (base : Heap) (D : Ad) : Prop where
  b_abs : mg "abs" = none
  b_all : mg "all" = none
  b_bool : mg "bool" = none
  b_enumerate : mg "enumerate" = none
  b_int : mg "int" = none
  b_isinstance : mg "isinstance" = none
  b_len : mg "len" = none
  b_list : mg "list" = none
  b_range : mg "range" = none
  b_str : mg "str" = none
  b_tuple : mg "tuple" = none
  c_BadNumber : mg "BadNumber" = some (.ref D.BadNumber)
  c_BadWord : mg "BadWord" = some (.ref D.BadWord)
  c_BallError : mg "BallError" = some (.ref D.BallError)
  c_TooMany : mg "TooMany" = some (.ref D.TooMany)
  c_Word : mg "Word" = some (.ref D.Word)
  cl_Word : Cls K D.Word
  e_BadNumber : EMk P w K mg base D.BadNumber D.i_BadNumber ["part"]
  e_BadWord : EMk P w K mg base D.BadWord D.i_BadWord ["at"]
  e_TooMany : EMk P w K mg base D.TooMany D.i_TooMany ["what", "most"]
  ex_BadNumber_BadNumber : PySem.W.exmOne K (.ref D.BadNumber) (.ref D.BadNumber) = some true
  ex_BadNumber_BadWord : PySem.W.exmOne K (.ref D.BadNumber) (.ref D.BadWord) = some false
  ex_BadWord_BadWord : PySem.W.exmOne K (.ref D.BadWord) (.ref D.BadWord) = some true
  ex_BadWord_BallError : PySem.W.exmOne K (.ref D.BadWord) (.ref D.BallError) = some true
  ex_TooMany_BadNumber : PySem.W.exmOne K (.ref D.TooMany) (.ref D.BadNumber) = some false
  ex_TooMany_BadWord : PySem.W.exmOne K (.ref D.TooMany) (.ref D.BadWord) = some false
  ex_TooMany_TooMany : PySem.W.exmOne K (.ref D.TooMany) (.ref D.TooMany) = some true
  g_LETTERS : ∃ t, mg "LETTERS" = some (.str (S [65, 66, 67, 68, 97, 98, 99, 100]) t)
  g_MOST_APART : ∃ t, mg "MOST_APART" = some (.int 30 t)
  g_MOST_BEGUN : ∃ t, mg "MOST_BEGUN" = some (.int 24 t)
  g_MOST_LETTERS : ∃ t, mg "MOST_LETTERS" = some (.int 4000 t)
  g_MOST_TOPS : ∃ t, mg "MOST_TOPS" = some (.int 12 t)
  k_NoneType_Word : PySem.W.kitOne K (.type "NoneType") (.ref D.Word) = some false
  k_Word_Word : PySem.W.kitOne K (.ref D.Word) (.ref D.Word) = some true
  k_Word_bool : PySem.W.kitOne K (.ref D.Word) (.type "bool") = some false
  k_Word_int : PySem.W.kitOne K (.ref D.Word) (.type "int") = some false
  k_Word_list : PySem.W.kitOne K (.ref D.Word) (.type "list") = some false
  k_Word_str : PySem.W.kitOne K (.ref D.Word) (.type "str") = some false
  k_Word_tuple : PySem.W.kitOne K (.ref D.Word) (.type "tuple") = some false
  k_bool_Word : PySem.W.kitOne K (.type "bool") (.ref D.Word) = some false
  k_dict_Word : PySem.W.kitOne K (.type "dict") (.ref D.Word) = some false
  k_int_Word : PySem.W.kitOne K (.type "int") (.ref D.Word) = some false
  k_list_Word : PySem.W.kitOne K (.type "list") (.ref D.Word) = some false
  k_str_Word : PySem.W.kitOne K (.type "str") (.ref D.Word) = some false
  k_tuple_Word : PySem.W.kitOne K (.type "tuple") (.ref D.Word) = some false
  na_Word_letters : NoAttr K D.Word "letters"
  na_Word_size : NoAttr K D.Word "size"
  ti_Word : TyI K D.Word
  xf_BadNumber_part : XfF K D.BadNumber "part"
  xf_BadWord_at : XfF K D.BadWord "at"
  xf_TooMany_most : XfF K D.TooMany "most"
  xf_TooMany_what : XfF K D.TooMany "what"

/-- an error goes out -/
def Rse (E : XK) (H : Hp) (C : Addr) (fs : List (Str × V)) : Prop := ∀ d, H d = none → E (.ref C) (some d) (upd H d (.xd fs))
variable {D : Ad}
abbrev st_is_integer : Stmt := top 9
theorem sc_is_integer : FnScope ["value"] ["value"] (defScope st_is_integer) := ⟨rfl, rfl, rfl, by decide +kernel, rfl, by decide +kernel, by decide +kernel⟩
def sp_is_integer (K : PySem.W.Frag) (D : Ad) : Sp := fun vs H Q _ => ∃ x b1 b2, vs = [x] ∧ IsK K H x (.type "int") b1 ∧ IsK K H x (.type "bool") b2 ∧ Q (.bl (b1 && !b2)) H
theorem ok_is_integer {f : Addr} {fd : FuncData} (F : Fun K "is_integer" "is_integer" st_is_integer f fd) (T : Txt P w K mg base D) : FnOk P w K mg base CX0 1 f fd ["value"] (sp_is_integer K D) := by
  refine F.ok sc_is_integer (fun vs H Q E h => ?_) (fun cdv A outer s H vs Q E hr h => ?_)
  · obtain ⟨x, b1, b2, rfl, _⟩ := h
    rfl
  · obtain ⟨x, b1, b2, rfl, h1, h2, q⟩ := h
    have hu := hr.units
    refine ⟨_, (pss_one (ps_ret (pe_and (pe_callB (id := "isinstance") (call_isiEK (K := K)) (by rfl) T.b_isinstance (by decide +kernel) (pa_cons (pv 0) (pa_cons (pe_bltn (v := .ty "int") rfl T.b_int (by decide +kernel) rfl) pa_nil))) (pe_one (pe_not (pe_callB (id := "isinstance") (call_isiEK (K := K)) (by rfl) T.b_isinstance (by decide +kernel) (pa_cons (pv 0) (pa_cons (pe_bltn (v := .ty "bool") rfl T.b_bool (by decide +kernel) rfl) pa_nil)))))))), ?_⟩
    repeat walk_at "one"
    refine r_isK (.ty "int") h1 ?_
    repeat walk_at "one"
    refine r_ib (fun e => ?_) (fun e => ?_)
    · subst e
      repeat walk_at "one"
      refine r_isK (.ty "bool") h2 ?_
      repeat walk_at "one"
      exact q
    · subst e
      exact q
/-- x is a whole number (no bool) within lo .. hi: ok -/
def InR (K : PySem.W.Frag) (H : Hp) (x : V) (lo hi : Int) (ok : Bool) : Prop := ∃ b1 b2, IsK K H x (.type "int") b1 ∧ IsK K H x (.type "bool") b2 ∧ ((b1 && !b2) = true → ∃ n, x = .int n ∧ ok = (decide (lo ≤ n) && decide (n ≤ hi))) ∧ ((b1 && !b2) = false → ok = false)
abbrev st_is_within : Stmt := top 10
theorem sc_is_within : FnScope ["value", "least", "most"] ["value", "least", "most"] (defScope st_is_within) := ⟨rfl, rfl, rfl, by decide +kernel, rfl, by decide +kernel, by decide +kernel⟩
def sp_is_within (K : PySem.W.Frag) (D : Ad) : Sp := fun vs H Q _ => ∃ x lo hi ok, vs = [x, .int lo, .int hi] ∧ InR K H x lo hi ok ∧ Q (.bl ok) H
theorem ok_is_within {f : Addr} {fd : FuncData} (F : Fun K "is_within" "is_within" st_is_within f fd) (T : Txt P w K mg base D) (d_is_integer : CalN P w K mg base 1 "is_integer" (sp_is_integer K D)) : FnOk P w K mg base CX0 2 f fd ["value", "least", "most"] (sp_is_within K D) := by
  refine F.ok sc_is_within (fun vs H Q E h => ?_) (fun cdv A outer s H vs Q E hr h => ?_)
  · obtain ⟨x, lo, hi, ok, rfl, _⟩ := h
    rfl
  · obtain ⟨x, lo, hi, ok, rfl, ⟨b1, b2, h1, h2, h3, h4⟩, q⟩ := h
    have hu := hr.units
    refine ⟨_, (pss_one (ps_ret (pe_and (pe_c0 d_is_integer hr (by decide) (pa_cons (pv 0) pa_nil)) (pe_one (pe_chain op_le op_le (pv 1) (pv 0) (pv 2)))))), ?_⟩
    repeat walk_at "one"
    refine ⟨x, b1, b2, rfl, h1, h2, ?_⟩
    repeat walk_at "one"
    refine r_ib (fun e => ?_) (fun e => ?_)
    · obtain ⟨n, rfl, rfl⟩ := h3 e
      repeat walk_at "one"
      refine r_ib (fun e => ?_) (fun e => ?_)
      · repeat walk_at "one"
        rw [e] at q
        exact q
      · rw [e] at q
        exact q
    · rw [h4 e] at q
      exact q
abbrev st_need_within : Stmt := top 12
theorem sc_need_within : FnScope ["value", "least", "most", "part"] ["value", "least", "most", "part"] (defScope st_need_within) := ⟨rfl, rfl, rfl, by decide +kernel, rfl, by decide +kernel, by decide +kernel⟩
def sp_need_within (K : PySem.W.Frag) (D : Ad) : Sp := fun vs H Q E => ∃ x lo hi part ok, vs = [x, .int lo, .int hi, part] ∧ InR K H x lo hi ok ∧ (ok = true → Q .non H) ∧ (ok = false → Rse E H D.BadNumber [("part", part)])
theorem ok_need_within {f : Addr} {fd : FuncData} (F : Fun K "need_within" "need_within" st_need_within f fd) (T : Txt P w K mg base D) (d_is_within : CalN P w K mg base 2 "is_within" (sp_is_within K D)) : FnOk P w K mg base (L2.CX P w) 3 f fd ["value", "least", "most", "part"] (sp_need_within K D) := by
  refine F.okX sc_need_within (fun vs H Q E h => ?_) (fun cdv A outer s H vs Q E hr h => ?_)
  · obtain ⟨x, lo, hi, part, ok, rfl, _⟩ := h
    rfl
  · obtain ⟨x, lo, hi, part, ok, rfl, h1, h2, h3⟩ := h
    have hu := hr.units
    refine ⟨_, (pss_one (ps_if (pt_not (pt_val (pe_c0 d_is_within hr (by decide) (pa_cons (pv 0) (pa_cons (pv 1) (pa_cons (pv 2) pa_nil))))))
      (pss_one (ps_raise rfl (takes_of rfl rfl rfl rfl) (pmk_err T.e_BadNumber hr (by decide) (pa_cons (pv 3) pa_nil) T.c_BadNumber)))
      pss_nil)), ?_⟩
    repeat walk_at "one"
    refine ⟨x, lo, hi, ok, rfl, h1, ?_⟩
    repeat walk_at "one"
    refine r_ib (fun e => ?_) (fun e => ?_)
    · refine r_mkE ?_
      repeat walk_at "one"
      exact ⟨rfl, h3 (by simpa using e)⟩
    · repeat walk_at "one"
      exact h2 (by simpa using e)
/-! ### rows of letters -/
abbrev st_need_row : Stmt := top 16
theorem sc_need_row : FnScope ["value", "ahead", "at", "sign"] ["value"] (defScope st_need_row) := ⟨rfl, rfl, rfl, by decide +kernel, rfl, by decide +kernel, by decide +kernel⟩
def sp_need_row (K : PySem.W.Frag) (D : Ad) : Sp := fun vs H Q E => ∃ x b, vs = [x] ∧ IsK K H x (.type "str") b ∧ (b = false → Rse E H D.BadWord [("at", .int 0)]) ∧
  (b = true → ∃ w, x = .str (S w) ∧ (fb [] 0 w = none → ∀ H', Same H H' → Q .non H') ∧ (∀ i, fb [] 0 w = some i → ∀ H', Same H H' → Rse E H' D.BadWord [("at", .int (i : Nat))]))
theorem ok_need_row {f : Addr} {fd : FuncData} (F : Fun K "need_row" "need_row" st_need_row f fd) (T : Txt P w K mg base D) : FnOk P w K mg base (L2.CX P w) 1 f fd ["value"] (sp_need_row K D) := by
  refine F.okX sc_need_row (fun vs H Q E h => ?_) (fun cdv A outer s H vs Q E hr h => ?_)
  · obtain ⟨x, b, rfl, _⟩ := h
    rfl
  · obtain ⟨x, b, rfl, h1, h2, h3⟩ := h
    have hu := hr.units
    refine ⟨_, (pss_cons (ps_if (pt_not (pt_val (pe_callB (id := "isinstance") (call_isiEK (K := K)) (by rfl) T.b_isinstance (by decide +kernel) (pa_cons (pv 0) (pa_cons (pe_bltn (v := .ty "str") rfl T.b_str (by decide +kernel) rfl) pa_nil)))))
      (pss_one (ps_raise rfl (takes_of rfl rfl rfl rfl) (pmk_err T.e_BadWord hr (by decide) (pa_cons pe_int pa_nil) T.c_BadWord)))
      pss_nil)
      (pss_cons (ps_asg (pe_S (w := []) (by decide +kernel)) (pg_name (i := 1) sc_need_row.nd rfl (Or.inl rfl)))
      (pss_one (ps_for PassesOwn.leaving rfl (pi_enumS (by rfl) T.b_enumerate (pa_cons (pv 0) pa_nil)) (pg_tup (by rfl) (pgs_cons (pg_name (i := 2) sc_need_row.nd rfl (Or.inl rfl)) (pgs_cons (pg_name (i := 3) sc_need_row.nd rfl (Or.inl rfl)) pgs_nil)))
      (pss_cons (ps_if (PW.pt (pw_or (pt_cmpR (op_niK (K := K)) (pv 3) (pe_gS rfl T.g_LETTERS) rfl) (pw_or1 (pt_cmpR (op_eqK (K := K) hu) (pv 3) (pe_bm0K (K := K) PySem.F.plainAttrs_str PySem.F.slot_str_swapcase PySem.F.type_str_swapcase mb_swapcase (pv 1)) (nomark _)))))
      (pss_one (ps_raise rfl (takes_of rfl rfl rfl rfl) (pmk_err T.e_BadWord hr (by decide) (pa_cons (pv 2) pa_nil) T.c_BadWord)))
      pss_nil)
      (pss_one (ps_asg (pv 3) (pg_name (i := 1) sc_need_row.nd rfl (Or.inl rfl))))))))), ?_⟩
    repeat walk_at "one"
    refine r_isK (.ty "str") h1 ?_
    repeat walk_at "one"
    refine r_ib (fun e => ?_) (fun e => ?_)
    · refine r_mkE ?_
      repeat walk_at "one"
      exact ⟨rfl, h2 (by simpa using e)⟩
    · obtain ⟨w, rfl, h4, h5⟩ := h3 (by simpa using e)
      repeat walk_at "one"
      refine for_enumS (fun i σ H' => Same H H' ∧ fb [] 0 w = fb (ahd w i) i (w.drop i) ∧ AllL (ahd w i) ∧ (ahd w i).length ≤ 1 ∧ ∃ v1 v2, σ = [some (.str (S w)), some (.str (S (ahd w i))), v1, v2]) ⟨Same.refl _, by simp [ahd], by simp [ahd, AllL], by simp [ahd], _, _, rfl⟩ ?_ ?_
      · rintro i c p σ H1 hc ⟨s1, hf, ha, hl1, v1, v2, rfl⟩ hp
        have hdr : w.drop i = c :: w.drop (i + 1) := by
          obtain ⟨hi, e⟩ := List.getElem?_eq_some_iff.mp hc
          rw [← List.getElem_cons_drop hi, e]
        have hnx : ahd w (i + 1) = [c] := by
          show (match w[i]? with | some c => [c] | none => []) = [c]
          rw [hc]
        have s2 : Same H (upd H1 p (.tup [.int (i : Nat), .str (S [c])])) := fun b u e => same_upd hp b u (s1 b u e)
        refine r_up2 (SqT.of upd_same) rfl ?_
        repeat walk_at "one"
        have hbad : badC (ahd w i) c = (!decide (c ∈ [65, 66, 67, 68, 97, 98, 99, 100]) || decide ([c] = (ahd w i).map und)) := by
          unfold badC isL
          congr 2
          rw [Bool.eq_iff_iff]
          simp
        refine r_ib (fun e => ?_) (fun e => ?_)
        · repeat walk_at "one"
          refine r_mkE ?_
          repeat walk_at "one"
          refine ⟨rfl, h5 i ?_ _ s2⟩
          rw [hf, hdr]
          unfold fb
          rw [hbad, e]
          rfl
        · repeat walk_at "one"
          have hlc : isL c = true := isL_iff.mpr (of_decide_eq_true (by simpa only [Bool.not_eq_false'] using e))
          refine q_swap ha (by omega) ?_
          repeat walk_at "one"
          have hb2 : badC (ahd w i) c = decide ([c] = (ahd w i).map und) := by rw [hbad, e, Bool.false_or]
          refine r_ib (fun e => ?_) (fun e => ?_)
          · refine r_mkE ?_
            repeat walk_at "one"
            refine ⟨rfl, h5 i ?_ _ s2⟩
            rw [hf, hdr]
            unfold fb
            rw [hb2, e]
            rfl
          · repeat walk_at "one"
            refine ⟨s2, ?_, ?_, ?_, some (.int (i : Nat)), some (.str (S [c])), ?_⟩
            · rw [hf, hdr, hnx]
              conv => lhs; unfold fb
              rw [hb2, e]
              rfl
            · rw [hnx]
              intro z hz
              rw [List.mem_singleton.mp hz]
              exact hlc
            · rw [hnx]
              exact Nat.le_refl 1
            · rw [hnx]
              rfl
      · rintro σ H' ⟨s1, hf, ha, hl1, v1, v2, rfl⟩
        rw [List.drop_length] at hf
        exact h4 hf H' s1
abbrev st_need_word : Stmt := top 20
theorem sc_need_word : FnScope ["value"] ["value"] (defScope st_need_word) := ⟨rfl, rfl, rfl, by decide +kernel, rfl, by decide +kernel, by decide +kernel⟩
def sp_need_word (K : PySem.W.Frag) (D : Ad) : Sp := fun vs H Q E => ∃ x b, vs = [x] ∧ IsK K H x (.ref D.Word) b ∧ (b = true → Q .non H) ∧ (b = false → Rse E H D.BadWord [("at", .int 0)])
theorem ok_need_word {f : Addr} {fd : FuncData} (F : Fun K "need_word" "need_word" st_need_word f fd) (T : Txt P w K mg base D) : FnOk P w K mg base (L2.CX P w) 1 f fd ["value"] (sp_need_word K D) := by
  refine F.okX sc_need_word (fun vs H Q E h => ?_) (fun cdv A outer s H vs Q E hr h => ?_)
  · obtain ⟨x, b, rfl, _⟩ := h
    rfl
  · obtain ⟨x, b, rfl, h1, h2, h3⟩ := h
    have hu := hr.units
    refine ⟨_, (pss_one (ps_if (pt_not (pt_val (pe_callB (id := "isinstance") (call_isiEK (K := K)) (by rfl) T.b_isinstance (by decide +kernel) (pa_cons (pv 0) (pa_cons (pe_glob (v := .ref D.Word) rfl T.c_Word rfl) pa_nil)))))
      (pss_one (ps_raise rfl (takes_of rfl rfl rfl rfl) (pmk_err T.e_BadWord hr (by decide) (pa_cons pe_int pa_nil) T.c_BadWord)))
      pss_nil)), ?_⟩
    repeat walk_at "one"
    refine r_isK (.own D.Word) h1 ?_
    repeat walk_at "one"
    refine r_ib (fun e => ?_) (fun e => ?_)
    · refine r_mkE ?_
      repeat walk_at "one"
      exact ⟨rfl, h3 (by simpa using e)⟩
    · repeat walk_at "one"
      exact h2 (by simpa using e)
/-- a Word's fields -/
def wf (w : List Nat) : List (Str × V) := putF "size" (.int (w.length : Nat)) (putF "letters" (.str (S w)) [])
theorem sl_ : ¬ (("letters" : Str) = "size") := by decide +kernel
theorem wf_letters (w : List Nat) : (wf w).lookup ("letters" : Str) = some (.str (S w)) := by
  unfold wf
  rw [lookup_putF, if_neg sl_, lookup_putF, if_pos rfl]
theorem wf_size (w : List Nat) : (wf w).lookup ("size" : Str) = some (.int (w.length : Nat)) := by
  unfold wf
  rw [lookup_putF, if_pos rfl]
theorem updd {H : Hp} {p : Addr} {a b : HO} : upd (upd H p a) p b = upd H p b := by
  funext q
  by_cases e : q = p
  · subst e
    rw [upd_same, upd_same]
  · rw [upd_ne e, upd_ne e, upd_ne e]
abbrev st_Word_init : Stmt := inClass (top 21) 0
theorem sc_Word_init : FnScope ["self", "letters"] ["self", "letters"] (defScope st_Word_init) := ⟨rfl, rfl, rfl, by decide +kernel, rfl, by decide +kernel, by decide +kernel⟩
def sp_Word_init (K : PySem.W.Frag) (D : Ad) : Sp := fun vs H Q E => ∃ p dx x b, vs = [.ref p, x] ∧ H p = some (.ins D.Word dx []) ∧ IsK K H x (.type "str") b ∧ (b = false → Rse E H D.BadWord [("at", .int 0)]) ∧
  (b = true → ∃ w, x = .str (S w) ∧ w.length ≤ 1000000 ∧ (∀ i, fb [] 0 w = some i → ∀ H', Same H H' → Rse E H' D.BadWord [("at", .int (i : Nat))]) ∧
    (Good w → 4000 < w.length → ∀ H', Same H H' → Rse E H' D.TooMany [("what", .str (S [108, 101, 116, 116, 101, 114, 115])), ("most", .int 4000)]) ∧
    (Good w → w.length ≤ 4000 → ∀ H', Same H H' → Q .non (upd H' p (.ins D.Word dx (wf w)))))
theorem ok_Word_init {f : Addr} {fd : FuncData} (F : FunD K "__init__" "Word.__init__" (defArgs st_Word_init) (defBody st_Word_init) (defScope st_Word_init) [.str (S [])] [] f fd) (T : Txt P w K mg base D) (d_need_row : CalX P w K mg base 1 "need_row" (sp_need_row K D)) : FnOk P w K mg base (L2.CX P w) 2 f fd ["self", "letters"] (sp_Word_init K D) := by
  refine F.ok (CX := (L2.CX P w)) sc_Word_init (fun vs H Q E h => ?_) (fun cdv A outer s H vs Q E hr h => ?_)
  · obtain ⟨p, dx, x, b, rfl, _⟩ := h
    rfl
  · obtain ⟨p, dx, x, b, rfl, hp, h1, h2, h3⟩ := h
    have hu := hr.units
    refine ⟨_, (pss_cons (ps_expr (pe_cX d_need_row hr (by decide) (passes_call (takes_of rfl rfl rfl rfl) fun _ _ _ _ h => h) (pa_cons (pv 1) pa_nil)))
      (pss_cons (ps_if (pt_cmpR op_gt (pe_callB (id := "len") (call_lenB (K := K)) (by rfl) T.b_len PySem.boot_len (pa_cons (pv 1) pa_nil)) (pe_gI rfl T.g_MOST_LETTERS) (nomark _))
      (pss_one (ps_raise rfl (takes_of rfl rfl rfl rfl) (pmk_err T.e_TooMany hr (by decide) (pa_cons (pe_S (w := [108, 101, 116, 116, 101, 114, 115]) (by decide +kernel)) (pa_cons (pe_gI rfl T.g_MOST_LETTERS) pa_nil)) T.c_TooMany)))
      pss_nil)
      (pss_cons (ps_fld (pv 0) (pv 1) rfl)
      (pss_one (ps_fld (pv 0) (pe_callB (id := "len") (call_lenB (K := K)) (by rfl) T.b_len PySem.boot_len (pa_cons (pv 1) pa_nil)) rfl))))), ?_⟩
    repeat walk_at "one"
    refine ⟨x, b, rfl, h1, h2, fun e => ?_⟩
    obtain ⟨w, rfl, hl, h4, h5, h6⟩ := h3 e
    refine ⟨w, rfl, fun hg H1 s1 => ?_, h4⟩
    repeat walk_at "one"
    refine q_lenS hl ?_
    repeat walk_at "one"
    refine r_ib (fun e => ?_) (fun e => ?_)
    · refine r_mkE ?_
      repeat walk_at "one"
      exact ⟨rfl, h5 hg (by have := of_decide_eq_true e; omega) H1 s1⟩
    · have e := of_decide_eq_false e
      repeat walk_at "one"
      refine ⟨p, D.Word, dx, [], rfl, s1 _ _ hp, T.cl_Word, T.na_Word_letters, by decide, ?_⟩
      repeat walk_at "one"
      refine q_lenS hl ?_
      repeat walk_at "one"
      refine ⟨p, D.Word, dx, _, rfl, upd_same, T.cl_Word, T.na_Word_size, by show 1 < 1000; decide, ?_⟩
      have z := h6 hg (by omega) H1 s1
      rw [updd]
      exact z
end
end Cs


set_option Elab.async false
set_option linter.all false
set_option maxRecDepth 100000
set_option maxHeartbeats 4000000
namespace Cs
open PySem PySem.Spec PyProof.Rows L2
local macro_rules | `(tactic| walk_at "two") => `(tactic| with_reducible (first
  | refine r_seq ?_ | refine r_nx ?_ | refine r_rt ?_ | refine r_ct ?_ | refine r_bk ?_ | refine r_asg ?_ | refine r_gname ?_ | refine r_ret ?_ | refine r_drop ?_ | refine r_next ?_ | refine r_retN ?_ | refine r_fld ?_ | refine r_gsub ?_ | refine r_brk ?_ | refine r_cont ?_
  | refine r_var rfl ?_ | refine r_c ?_ | refine r_op ?_ | refine r_un ?_ | refine r_test ?_ | refine r_tB ?_ | refine r_bl ?_ | refine r_blv ?_
  | refine r_cons ?_ | refine r_nil ?_ | refine r_lc ?_ | refine r_yes ?_ | refine r_iLT0 ?_ | refine r_iEnumS ?_ | refine r_iEnum ?_ | refine r_iStr ?_ | refine r_iList ?_ | refine r_iRng ?_ | refine r_iStrS ?_ | refine r_iStrE ?_ | refine r_cb ?_ | refine r_call0 ?_ | refine r_callS ?_ | refine r_callK ?_ | refine r_tup ?_ | refine r_lst ?_ | refine r_make0 ?_ | refine r_attr ?_
  | refine r_sl ?_ | refine r_nopart ?_ | refine r_part ?_ | refine r_parti ?_ | refine r_tyS ?_ | refine r_bm0 ?_ | refine r_bm ?_ | refine r_dnew ?_
  | refine r_and ?_ | refine r_or ?_ | refine r_not ?_ | refine r_andV ?_ | refine r_orV ?_ | refine r_notV ?_ | refine r_if ?_ | refine r_ift ?_ | refine r_iff ?_ | refine r_revL ?_ | refine r_ntt ?_ | refine r_nff ?_ | refine r_itup ?_ | refine r_chain ?_
  | refine r_I0 ?_ | refine r_U ?_ | refine r_addI ?_ | refine r_eqI ?_ | refine r_neI ?_ | refine r_eqS ?_ | refine r_neS ?_ | refine r_eqB ?_ | refine r_neB ?_ | refine r_inS ?_ | refine r_niS ?_ | refine r_int1 ?_ | refine r_abs ?_ | refine r_isN ?_ | refine r_notN ?_))
local macro_rules | `(tactic| walk_at "one") => `(tactic| first | walk_at "two" | with_reducible (first | refine r_ifs ?_ | refine r_forE ?_))
local macro_rules | `(tactic| walk_at "go") => `(tactic| repeat walk_at "one")
local macro_rules | `(tactic| walk_at "gp") => `(tactic| repeat walk_at "two")

section
variable {P : Program} {w : World} {K : PySem.W.Frag} {mg : Str → Option Value} {base : Heap} {D : Ad}

abbrev st_has_twin : Stmt := top 28
theorem sc_has_twin : FnScope ["letters"] ["letters"] (defScope st_has_twin) := ⟨rfl, rfl, rfl, by decide +kernel, rfl, by decide +kernel, by decide +kernel⟩
def sp_has_twin (K : PySem.W.Frag) (D : Ad) : Sp := fun vs H Q _ => ∃ w, vs = [.str (S w)] ∧ w.length ≤ 1000000 ∧ Q (.bl (hasTw w)) H
theorem ok_has_twin {f : Addr} {fd : FuncData} (F : Fun K "has_twin" "has_twin" st_has_twin f fd) (T : Txt P w K mg base D) : FnOk P w K mg base CX0 1 f fd ["letters"] (sp_has_twin K D) := by
  refine F.ok sc_has_twin (fun vs H Q E h => ?_) (fun cdv A outer s H vs Q E hr h => ?_)
  · obtain ⟨x, rfl, _⟩ := h
    rfl
  · obtain ⟨w, rfl, hl, q⟩ := h
    have hu := hr.units
    refine ⟨_, (pss_one (ps_ret (pe_and (pe_cmpR (op_neK (K := K) hu) (pv 0) (pe_S (w := []) (by decide +kernel)) (nomark _)) (pe_one (pe_cmpR (op_neK (K := K) hu) (pe_ix (ix_seqK (K := K)) (pv 0) (pe_un un_neg pe_int) (fun _ _ => rfl)) (pe_slice (sl_anyK (K := K)) (pv 0) (po_some (pe_un un_neg pe_int)) (po_some (pe_un un_neg pe_int))) (nomark _)))))), ?_⟩
    repeat walk_at "one"
    unfold hasTw at q
    refine r_ib (fun e => ?_) (fun e => ?_)
    · have hw : w ≠ [] := by simpa using e
      obtain ⟨c, h1, h2⟩ := lastL_one hw
      repeat walk_at "one"
      refine r_ixS hl h2 ?_
      repeat walk_at "one"
      refine r_slS (cut_21' w) hl ?_
      repeat walk_at "one"
      rw [e, h1, Bool.true_and] at q
      exact q
    · rw [e] at q
      exact q
abbrev st_twin_of : Stmt := top 29
theorem sc_twin_of : FnScope ["letters"] ["letters"] (defScope st_twin_of) := ⟨rfl, rfl, rfl, by decide +kernel, rfl, by decide +kernel, by decide +kernel⟩
def sp_twin_of (K : PySem.W.Frag) (D : Ad) : Sp := fun vs H Q _ => ∃ w, vs = [.str (S w)] ∧ AllL w ∧ w ≠ [] ∧ w.length ≤ 900000 ∧ Q (.str (S (twOf w))) H
theorem ok_twin_of {f : Addr} {fd : FuncData} (F : Fun K "twin_of" "twin_of" st_twin_of f fd) (T : Txt P w K mg base D) : FnOk P w K mg base CX0 1 f fd ["letters"] (sp_twin_of K D) := by
  refine F.ok sc_twin_of (fun vs H Q E h => ?_) (fun cdv A outer s H vs Q E hr h => ?_)
  · obtain ⟨x, rfl, _⟩ := h
    rfl
  · obtain ⟨w, rfl, ha, hw, hl, q⟩ := h
    have hu := hr.units
    refine ⟨_, (pss_one (ps_ret (pe_op op_addA (pe_slice (sl_anyK (K := K)) (pv 0) po_none (po_some (pe_un un_neg pe_int))) (pe_bm0K (K := K) PySem.F.plainAttrs_str PySem.F.slot_str_swapcase PySem.F.type_str_swapcase mb_swapcase (pe_ix (ix_seqK (K := K)) (pv 0) (pe_un un_neg pe_int) (fun _ _ => rfl)))))), ?_⟩
    obtain ⟨c, h1, h2⟩ := lastL_one hw
    have hc : AllL [c] := by rw [← h1]; exact allL_last ha
    repeat walk_at "one"
    refine r_slS (cut_init w) (by omega) ?_
    repeat walk_at "one"
    refine r_ixS (by omega) h2 ?_
    repeat walk_at "one"
    refine q_swap hc (by simp) ?_
    refine r_addS (by rw [List.length_dropLast]; simp; omega) ?_
    unfold twOf at q
    rw [h1] at q
    exact q
/-! ### Word objects -/
/-- a new Word -/
theorem q_Word {E : XK} {H : Hp} {Q : VK} {w : List Nat} (hg : Good w) (hl : w.length ≤ 4000) (q : ∀ p dx H', Same H H' → H p = none → H' p = some (.ins D.Word dx (wf w)) → Q (.ref p) H') :
    rMake D.Word (sp_Word_init K D) E [.str (S w)] H Q := by
  intro p dx hp hd hne
  refine ⟨p, dx, _, true, rfl, upd_same, isK ty_str (kit_ty (by decide +kernel)), (fun e => nomatch e), fun _ => ⟨w, rfl, by omega, fun i hi => ?_, fun _ h => by omega, fun _ _ H' s1 => ⟨rfl, ?_⟩⟩⟩
  · unfold Good at hg
    rw [hg] at hi
    cases hi
  · refine q p dx _ ?_ hp upd_same
    have s2 : Same H H' := fun b o e => s1 b o (by rw [upd_ne (ne_of_none e hp), upd_ne (ne_of_none e hd)]; exact e)
    exact same_mut s2 hp
theorem q_letters (T : Txt P w K mg base D) {H : Hp} {Q : VK} {p dx : Addr} {u : List Nat} (h : H p = some (.ins D.Word dx (wf u))) (q : Q (.str (S u)) H) : rAttr K "letters" (.ref p) H Q :=
  .inl ⟨p, D.Word, dx, _, _, rfl, h, T.cl_Word, T.na_Word_letters, wf_letters u, q⟩
theorem q_size (T : Txt P w K mg base D) {H : Hp} {Q : VK} {p dx : Addr} {u : List Nat} (h : H p = some (.ins D.Word dx (wf u))) (q : Q (.int (u.length : Nat)) H) : rAttr K "size" (.ref p) H Q :=
  .inl ⟨p, D.Word, dx, _, _, rfl, h, T.cl_Word, T.na_Word_size, wf_size u, q⟩
theorem isW (T : Txt P w K mg base D) {H : Hp} {p dx : Addr} {fs : List (Str × V)} (h : H p = some (.ins D.Word dx fs)) : IsK K H (.ref p) (.ref D.Word) true := isK (ty_ins h T.cl_Word T.ti_Word) T.k_Word_Word
abbrev st_twin : Stmt := top 30
theorem sc_twin : FnScope ["word"] ["word"] (defScope st_twin) := ⟨rfl, rfl, rfl, by decide +kernel, rfl, by decide +kernel, by decide +kernel⟩
def sp_twin (K : PySem.W.Frag) (D : Ad) : Sp := fun vs H Q E => ∃ x b, vs = [x] ∧ IsK K H x (.ref D.Word) b ∧ (b = false → Rse E H D.BadWord [("at", .int 0)]) ∧
  (b = true → ∃ p dx u, x = .ref p ∧ H p = some (.ins D.Word dx (wf u)) ∧ Good u ∧ u.length ≤ 4000 ∧ (hasTw u = false → Rse E H D.BadWord [("at", .int 0)]) ∧
    (hasTw u = true → ∀ q dx H', Same H H' → H q = none → H' q = some (.ins D.Word dx (wf (twOf u))) → Q (.ref q) H'))
theorem ok_twin {f : Addr} {fd : FuncData} (F : Fun K "twin" "twin" st_twin f fd) (T : Txt P w K mg base D) (d_has_twin : CalN P w K mg base 1 "has_twin" (sp_has_twin K D)) (d_need_word : CalX P w K mg base 1 "need_word" (sp_need_word K D)) (d_twin_of : CalN P w K mg base 1 "twin_of" (sp_twin_of K D)) (m_Word : MakX P w K mg base 2 "Word" D.Word (sp_Word_init K D)) : FnOk P w K mg base (L2.CX P w) 4 f fd ["word"] (sp_twin K D) := by
  refine F.okX sc_twin (fun vs H Q E h => ?_) (fun cdv A outer s H vs Q E hr h => ?_)
  · obtain ⟨x, b, rfl, _⟩ := h
    rfl
  · obtain ⟨x, b, rfl, h1, h2, h3⟩ := h
    have hu := hr.units
    refine ⟨_, (pss_cons (ps_expr (pe_cX d_need_word hr (by decide) (passes_call (takes_of rfl rfl rfl rfl) fun _ _ _ _ h => h) (pa_cons (pv 0) pa_nil)))
      (pss_cons (ps_if (pt_not (pt_val (pe_c0 d_has_twin hr (by decide) (pa_cons (pe_attrK (K := K) (pv 0)) pa_nil))))
      (pss_one (ps_raise rfl (takes_of rfl rfl rfl rfl) (pmk_err T.e_BadWord hr (by decide) (pa_cons pe_int pa_nil) T.c_BadWord)))
      pss_nil)
      (pss_one (ps_ret (pe_mX m_Word hr (by decide) (passes_call (takes_of rfl rfl rfl rfl) fun _ _ _ _ h => h) (pa_cons (pe_c0 d_twin_of hr (by decide) (pa_cons (pe_attrK (K := K) (pv 0)) pa_nil)) pa_nil)))))), ?_⟩
    repeat walk_at "one"
    refine ⟨x, b, rfl, h1, fun e => ?_, h2⟩
    obtain ⟨p, dx, u, rfl, hp, hg, hl, h4, h5⟩ := h3 e
    repeat walk_at "one"
    refine q_letters T hp ?_
    repeat walk_at "one"
    refine ⟨u, rfl, by omega, ?_⟩
    repeat walk_at "one"
    refine r_ib (fun e => ?_) (fun e => ?_)
    · refine r_mkE ?_
      repeat walk_at "one"
      exact ⟨rfl, h4 (by simpa using e)⟩
    · have e : hasTw u = true := by simpa using e
      repeat walk_at "one"
      refine q_letters T hp ?_
      repeat walk_at "one"
      refine ⟨u, rfl, good_L hg, hasTw_ne e, by omega, ?_⟩
      repeat walk_at "one"
      exact q_Word (good_tw hg e) (by rw [tw_len (hasTw_ne e)]; exact hl) fun q dx' H' s1 hn hq => h5 e q dx' H' s1 hn hq
end
end Cs


set_option Elab.async false
set_option linter.all false
set_option maxRecDepth 100000
set_option maxHeartbeats 4000000
namespace Cs
open PySem PySem.Spec PyProof.Rows L2
local macro_rules | `(tactic| walk_at "two") => `(tactic| with_reducible (first
  | refine r_seq ?_ | refine r_nx ?_ | refine r_rt ?_ | refine r_ct ?_ | refine r_bk ?_ | refine r_asg ?_ | refine r_gname ?_ | refine r_ret ?_ | refine r_drop ?_ | refine r_next ?_ | refine r_retN ?_ | refine r_fld ?_ | refine r_gsub ?_ | refine r_brk ?_ | refine r_cont ?_
  | refine r_var rfl ?_ | refine r_c ?_ | refine r_op ?_ | refine r_un ?_ | refine r_test ?_ | refine r_tB ?_ | refine r_bl ?_ | refine r_blv ?_
  | refine r_cons ?_ | refine r_nil ?_ | refine r_lc ?_ | refine r_yes ?_ | refine r_iLT0 ?_ | refine r_iEnumS ?_ | refine r_iEnum ?_ | refine r_iStr ?_ | refine r_iList ?_ | refine r_iRng ?_ | refine r_iStrS ?_ | refine r_iStrE ?_ | refine r_cb ?_ | refine r_call0 ?_ | refine r_callS ?_ | refine r_callK ?_ | refine r_tup ?_ | refine r_lst ?_ | refine r_make0 ?_ | refine r_attr ?_
  | refine r_sl ?_ | refine r_nopart ?_ | refine r_part ?_ | refine r_parti ?_ | refine r_tyS ?_ | refine r_bm0 ?_ | refine r_bm ?_ | refine r_dnew ?_
  | refine r_and ?_ | refine r_or ?_ | refine r_not ?_ | refine r_andV ?_ | refine r_orV ?_ | refine r_notV ?_ | refine r_if ?_ | refine r_ift ?_ | refine r_iff ?_ | refine r_revL ?_ | refine r_ntt ?_ | refine r_nff ?_ | refine r_itup ?_ | refine r_chain ?_
  | refine r_I0 ?_ | refine r_U ?_ | refine r_addI ?_ | refine r_eqI ?_ | refine r_neI ?_ | refine r_eqS ?_ | refine r_neS ?_ | refine r_eqB ?_ | refine r_neB ?_ | refine r_inS ?_ | refine r_niS ?_ | refine r_int1 ?_ | refine r_abs ?_ | refine r_isN ?_ | refine r_notN ?_))
local macro_rules | `(tactic| walk_at "one") => `(tactic| first | walk_at "two" | with_reducible (first | refine r_ifs ?_ | refine r_forE ?_))
local macro_rules | `(tactic| walk_at "go") => `(tactic| repeat walk_at "one")
local macro_rules | `(tactic| walk_at "gp") => `(tactic| repeat walk_at "two")

section
variable {P : Program} {w : World} {K : PySem.W.Frag} {mg : Str → Option Value} {base : Heap} {D : Ad}

/-- xs are Words whose letters are rows -/
def Ws (D : Ad) (H : Hp) (xs : List V) (rows : List (List Nat)) : Prop := Paired (fun x u => ∃ p dx, x = V.ref p ∧ H p = some (.ins D.Word dx (wf u))) xs rows
theorem ws_same {H H' : Hp} {xs : List V} {rows : List (List Nat)} (e : Same H H') (h : Ws D H xs rows) : Ws D H' xs rows := paired_mono (fun _ _ ⟨p, dx, e1, e2⟩ => ⟨p, dx, e1, e _ _ e2⟩) h
abbrev st_are_rows_apart : Stmt := top 31
theorem sc_are_rows_apart : FnScope ["rows", "at", "row", "place", "other"] ["rows"] (defScope st_are_rows_apart) := ⟨rfl, rfl, rfl, by decide +kernel, rfl, by decide +kernel, by decide +kernel⟩
def sp_are_rows_apart (K : PySem.W.Frag) (D : Ad) : Sp := fun vs H Q _ => ∃ a rows, vs = [.ref a] ∧ SqL K H a (rows.map fun u => V.str (S u)) ∧ ∀ b H', Same H H' → (b = true ↔ Apart rows) → Q (.bl b) H'
theorem ok_are_rows_apart {f : Addr} {fd : FuncData} (F : Fun K "are_rows_apart" "are_rows_apart" st_are_rows_apart f fd) (T : Txt P w K mg base D) : FnOk P w K mg base CX0 1 f fd ["rows"] (sp_are_rows_apart K D) := by
  refine F.ok sc_are_rows_apart (fun vs H Q E h => ?_) (fun cdv A outer s H vs Q E hr h => ?_)
  · obtain ⟨a, rows, rfl, _⟩ := h
    rfl
  · obtain ⟨a, rows, rfl, ha, q⟩ := h
    have hu := hr.units
    refine ⟨_, (pss_cons (ps_for PassesOwn.never rfl (pi_enum (by rfl) T.b_enumerate (pa_cons (pv 0) pa_nil)) (pg_tup (by rfl) (pgs_cons (pg_name (i := 1) sc_are_rows_apart.nd rfl (Or.inl rfl)) (pgs_cons (pg_name (i := 2) sc_are_rows_apart.nd rfl (Or.inl rfl)) pgs_nil)))
      (pss_one (ps_for PassesOwn.never rfl (pi_enum (by rfl) T.b_enumerate (pa_cons (pv 0) pa_nil)) (pg_tup (by rfl) (pgs_cons (pg_name (i := 3) sc_are_rows_apart.nd rfl (Or.inl rfl)) (pgs_cons (pg_name (i := 4) sc_are_rows_apart.nd rfl (Or.inl rfl)) pgs_nil)))
      (pss_one (ps_if (PW.pt (pw_and (pt_cmpR (op_neK (K := K) hu) (pv 1) (pv 3) (nomark _)) (pw_and1 (pt_val (pe_bmK (K := K) PySem.F.plainAttrs_str PySem.F.slot_str_startswith PySem.F.type_str_startswith mb_startswith (pv 2) (pa_cons (pv 4) pa_nil))))))
      (pss_one (ps_ret pe_bl))
      pss_nil)))))
      (pss_one (ps_ret pe_bl))), ?_⟩
    repeat walk_at "one"
    refine ⟨a, _, rfl, ha, ?_⟩
    refine for_enumL (xs := rows.map fun u => V.str (S u)) (fun i σ H' => Same H H' ∧ (∀ (i' j : Nat) (x y : List Nat), i' < i → rows[i']? = some x → rows[j]? = some y → i' ≠ j → y.isPrefixOf x = false) ∧ ∃ v1 v2 v3 v4, σ = [some (.ref a), v1, v2, v3, v4])
      ⟨Same.refl _, fun _ _ _ _ h => by omega, _, _, _, _, rfl⟩ (fun i σ H' _ h => sqL_same h.1 ha) ?_ ?_
    · rintro i x p σ H1 hx ⟨s1, hi, v1, v2, v3, v4, rfl⟩ hp
      obtain ⟨r, hr1, rfl⟩ : ∃ r, rows[i]? = some r ∧ x = .str (S r) := by
        rw [List.getElem?_map] at hx
        cases e : rows[i]? with
        | none => rw [e] at hx; cases hx
        | some r => rw [e] at hx; exact ⟨r, rfl, (Option.some.inj hx).symm⟩
      have s2 : Same H (upd H1 p (.tup [.int (i : Nat), .str (S r)])) := s1.trans (same_upd hp)
      refine r_up2 (SqT.of upd_same) rfl ?_
      repeat walk_at "one"
      refine ⟨a, _, rfl, sqL_same s2 ha, ?_⟩
      refine for_enumL (xs := rows.map fun u => V.str (S u)) (fun j σ H' => Same H H' ∧ (∀ (j' : Nat) (y : List Nat), j' < j → rows[j']? = some y → i ≠ j' → y.isPrefixOf r = false) ∧ ∃ v3 v4, σ = [some (.ref a), some (.int (i : Nat)), some (.str (S r)), v3, v4])
        ⟨s2, fun _ _ h => by omega, v3, v4, rfl⟩ (fun i σ H' _ h => sqL_same h.1 ha) ?_ ?_
      · rintro j y p2 σ H2 hy ⟨s3, hj, v3, v4, rfl⟩ hp2
        obtain ⟨o, ho1, rfl⟩ : ∃ r, rows[j]? = some r ∧ y = .str (S r) := by
          rw [List.getElem?_map] at hy
          cases e : rows[j]? with
          | none => rw [e] at hy; cases hy
          | some r => rw [e] at hy; exact ⟨r, rfl, (Option.some.inj hy).symm⟩
        have s4 : Same H (upd H2 p2 (.tup [.int (j : Nat), .str (S o)])) := s3.trans (same_upd hp2)
        refine r_up2 (SqT.of upd_same) rfl ?_
        repeat walk_at "one"
        have fin : (∀ (j' : Nat) (y : List Nat), j' < j + 1 → rows[j']? = some y → i ≠ j' → y.isPrefixOf r = false) → (Same H (upd H2 p2 (.tup [.int (j : Nat), .str (S o)])) ∧ (∀ (j' : Nat) (y : List Nat), j' < j + 1 → rows[j']? = some y → i ≠ j' → y.isPrefixOf r = false) ∧
            ∃ w3 w4, (([some (V.ref a), some (.int (i : Nat)), some (.str (S r)), v3, v4].set 3 (some (.int (j : Nat)))).set 4 (some (.str (S o)))) = [some (V.ref a), some (.int (i : Nat)), some (.str (S r)), w3, w4]) := fun h => ⟨s4, h, some (.int (j : Nat)), some (.str (S o)), rfl⟩
        refine r_ib (fun e => ?_) (fun e => ?_)
        · have e : i ≠ j := fun z => by subst z; simp at e
          repeat walk_at "one"
          refine q_starts ?_
          repeat walk_at "one"
          refine r_ib (fun e1 => ?_) (fun e1 => ?_)
          · repeat walk_at "one"
            refine q false _ s4 ⟨fun z => (nomatch z), fun z => ?_⟩
            rw [z i j r o hr1 ho1 e] at e1
            cases e1
          · repeat walk_at "one"
            refine fin fun j' y hlt hy' hne => ?_
            by_cases ej : j' = j
            · subst ej
              rw [ho1] at hy'
              cases hy'
              exact e1
            · exact hj j' y (by omega) hy' hne
        · have e : i = j := by
            have z : decide ((i : Int) = (j : Int)) = true := by simpa using e
            have := of_decide_eq_true z
            omega
          repeat walk_at "one"
          refine fin fun j' y hlt hy' hne => hj j' y (by omega) hy' hne
      · rintro σ H' ⟨s3, hj, v3, v4, rfl⟩
        refine ⟨s3, fun i' j x y hlt hx' hy' hne => ?_, _, _, _, _, rfl⟩
        by_cases ei : i' = i
        · subst ei
          rw [hr1] at hx'
          cases hx'
          exact hj j y (by rw [List.length_map]; exact (List.getElem?_eq_some_iff.mp hy').1) hy' hne
        · exact hi i' j x y (by omega) hx' hy' hne
    · rintro σ H' ⟨s1, hi, v1, v2, v3, v4, rfl⟩
      repeat walk_at "one"
      refine q true _ s1 ⟨fun _ => fun i j x y hx hy hne => ?_, fun _ => rfl⟩
      exact hi i j x y (by rw [List.length_map]; exact (List.getElem?_eq_some_iff.mp hx).1) hx hy hne
abbrev st_are_words : Stmt := top 32
theorem sc_are_words : FnScope ["value", "least", "most", "each"] ["value", "least", "most"] (defScope st_are_words) := ⟨rfl, rfl, rfl, by decide +kernel, rfl, by decide +kernel, by decide +kernel⟩
/-- bs tells which of the items are Words -/
def WsB (K : PySem.W.Frag) (D : Ad) (H : Hp) (xs : List V) (bs : List Bool) : Prop := Paired (fun x b => IsK K H x (.ref D.Word) b) xs bs
theorem wsB_same {H H' : Hp} {xs : List V} {bs : List Bool} (e : Same H H') (h : WsB K D H xs bs) : WsB K D H' xs bs := paired_mono (fun _ _ h => isK_same e h) h
def sp_are_words (K : PySem.W.Frag) (D : Ad) : Sp := fun vs H Q _ => ∃ x lo hi b, vs = [x, .int lo, .int hi] ∧ IsT K H x [.type "list", .type "tuple"] b ∧ (b = false → ∀ H', Same H H' → Q (.bl false) H') ∧
  (b = true → ∃ a xs bs, x = .ref a ∧ SqA K H a xs ∧ xs.length ≤ 1000000 ∧ WsB K D H xs bs ∧ ∀ H', Same H H' → Q (.bl (decide (lo ≤ (xs.length : Nat)) && decide (((xs.length : Nat) : Int) ≤ hi) && bs.all id)) H')
theorem ok_are_words {f : Addr} {fd : FuncData} (F : Fun K "are_words" "are_words" st_are_words f fd) (T : Txt P w K mg base D) : FnOk P w K mg base CX0 1 f fd ["value", "least", "most"] (sp_are_words K D) := by
  refine F.ok sc_are_words (fun vs H Q E h => ?_) (fun cdv A outer s H vs Q E hr h => ?_)
  · obtain ⟨x, lo, hi, b, rfl, _⟩ := h
    rfl
  · obtain ⟨x, lo, hi, b, rfl, h1, h2, h3⟩ := h
    have hu := hr.units
    refine ⟨_, (pss_cons (ps_if (PW.pt (pw_or (pt_not (pt_val (pe_callB (id := "isinstance") (call_isiTK (K := K)) (by rfl) T.b_isinstance (by decide +kernel) (pa_cons (pv 0) (pa_cons (pe_tup (pa_cons (pe_bltn (v := .ty "list") rfl T.b_list (by decide +kernel) rfl) (pa_cons (pe_bltn (v := .ty "tuple") rfl T.b_tuple (by decide +kernel) rfl) pa_nil))) pa_nil))))) (pw_or1 (pt_not (pt_chain op_le op_le (pv 1) (pe_callB (id := "len") (call_lenB (K := K)) (by rfl) T.b_len PySem.boot_len (pa_cons (pv 0) pa_nil)) (pv 2))))))
      (pss_one (ps_ret pe_bl))
      pss_nil)
      (pss_one (ps_ret (pe_callB (id := "all") (call_allB (K := K) rfl) (by rfl) T.b_all (by decide +kernel) (pa_cons (pe_lc (own := [("each", 3)]) (g := gName 3) (tt := tYes) rfl sc_are_words.nd (pi_lt (pv 0)) (blkOk_by (N := ["value", "least", "most", "each"]) (sc := defScope st_are_words) (by decide +kernel)) (fun _ _ _ _ _ => (pg_name (i := 3) sc_are_words.nd rfl (Or.inl rfl))) (fun _ _ _ _ _ => pts_nil) (fun _ _ _ _ _ => (pe_callB (id := "isinstance") (call_isiEK (K := K)) (by rfl) T.b_isinstance (by decide +kernel) (pa_cons (pv 3) (pa_cons (pe_glob (v := .ref D.Word) rfl T.c_Word rfl) pa_nil))))) pa_nil))))), ?_⟩
    walk_at "go"
    refine r_sz (by decide) (fun t ht => ?_)
    have st := same_upd (o := .tup [V.ty "list", V.ty "tuple"]) ht
    walk_at "go"
    refine q_isT2 (u1 := .type "list") (u2 := .type "tuple") upd_same (.ty _) (.ty _) (isT_same st h1) ?_
    walk_at "go"
    refine r_ib (fun e => ?_) (fun e => ?_)
    · have e : b = false := by simpa using e
      walk_at "go"
      exact h2 e _ st
    · have e : b = true := by simpa using e
      obtain ⟨a, xs, bs, rfl, ha, hl, hw, q⟩ := h3 e
      walk_at "go"
      refine q_lenA (sqA_same st ha) ?_
      walk_at "go"
      have go : ∀ {J : It} {G : Hp → Prop}, L2.Walk J xs.length G (YAt xs) → (∀ H', Same (upd H t (.tup [V.ty "list", V.ty "tuple"])) H' → G H') → (decide (lo ≤ (xs.length : Nat)) && decide (((xs.length : Nat) : Int) ≤ hi)) = true → ∀ Dl, upd H t (.tup [V.ty "list", V.ty "tuple"]) Dl = none →
          LcW J (gName 3) tYes (tCB (rIsiE K) (tCons (tVar 3) (tCons (tC (.ref D.Word)) tNil))) [3] (L2.start ["value", "least", "most", "each"] [.ref a, .int lo, .int hi]) (upd H t (.tup [V.ty "list", V.ty "tuple"])) Dl fun H' => rAll K [.ref Dl] H' Q := fun {J G} hJ hG ec Dl hDl => by
        refine lcG hJ (fun j acc H' => Same (upd H t (.tup [V.ty "list", V.ty "tuple"])) H' ∧ acc = (bs.take j).map V.bl) ⟨same_upd hDl, by simp⟩ (fun j acc H' _ h _ => hG H' h.1) ?_ ?_
        · rintro j x acc H1 hx ⟨s1, rfl⟩ e1
          walk_at "go"
          obtain ⟨b, hb⟩ : ∃ b, bs[j]? = some b := ⟨bs[j]'(by rw [← paired_len hw]; exact (List.getElem?_eq_some_iff.mp hx).1), by simp⟩
          refine r_isK (.own D.Word) (isK_same (st.trans s1) (paired_at hw hx hb)) ?_
          have hlt := (List.getElem?_eq_some_iff.mp hb).1
          have z := paired_len hw
          refine lcFin (Pv := fun acc H' => Same (upd H t (.tup [V.ty "list", V.ty "tuple"])) H' ∧ acc = (bs.take (j + 1)).map V.bl) e1 (by simp; omega) ⟨same_mut s1 hDl, by rw [take_snoc hb, List.map_append]; rfl⟩
        · rintro acc H1 ⟨s1, rfl⟩ e1
          refine ⟨Dl, bs, rfl, SqL.of (by rw [e1, paired_len hw, List.take_length]), ?_⟩
          have z := q H1 (st.trans s1)
          rw [ec, Bool.true_and] at z
          exact z
      have no : (decide (lo ≤ (xs.length : Nat)) && decide (((xs.length : Nat) : Int) ≤ hi)) = false → Q (.bl false) (upd H t (.tup [V.ty "list", V.ty "tuple"])) := fun ec => by
        have z := q _ st
        rw [ec, Bool.false_and] at z
        exact z
      refine r_ib (fun e1 => ?_) (fun e1 => ?_)
      · walk_at "go"
        refine r_ib (fun e2 => ?_) (fun e2 => ?_)
        · walk_at "go"
          exact no (by rw [e1]; simpa using e2)
        · walk_at "go"
          have ec : (decide (lo ≤ (xs.length : Nat)) && decide (((xs.length : Nat) : Int) ≤ hi)) = true := by rw [e1]; simpa using e2
          refine r_iLT (sqA_same st ha) (fun hs Dl hDl => ?_) (fun hs Dl hDl => ?_)
          · exact go walk_list (fun H' s => sqL_same s hs) ec Dl hDl
          · exact go walk_tup (fun H' s => sqT_same s hs) ec Dl hDl
      · walk_at "go"
        exact no (by rw [e1]; rfl)
abbrev st_are_apart : Stmt := top 33
theorem sc_are_apart : FnScope ["words", "each"] ["words"] (defScope st_are_apart) := ⟨rfl, rfl, rfl, by decide +kernel, rfl, by decide +kernel, by decide +kernel⟩
def sp_are_apart (K : PySem.W.Frag) (D : Ad) : Sp := fun vs H Q E => ∃ x b, vs = [x] ∧ IsT K H x [.type "list", .type "tuple"] b ∧ (b = false → ∀ H', Same H H' → Rse E H' D.BadWord [("at", .int 0)]) ∧
  (b = true → ∃ a xs bs, x = .ref a ∧ SqA K H a xs ∧ xs.length ≤ 1000000 ∧ WsB K D H xs bs ∧ ((decide (xs.length ≤ 30) && bs.all id) = false → ∀ H', Same H H' → Rse E H' D.BadWord [("at", .int 0)]) ∧
    ((decide (xs.length ≤ 30) && bs.all id) = true → ∃ rows, Ws D H xs rows ∧ ∀ v H', Same H H' → (v = true ↔ Apart rows) → Q (.bl v) H'))
theorem ok_are_apart {f : Addr} {fd : FuncData} (F : Fun K "are_apart" "are_apart" st_are_apart f fd) (T : Txt P w K mg base D) (d_are_rows_apart : CalN P w K mg base 1 "are_rows_apart" (sp_are_rows_apart K D)) (d_are_words : CalN P w K mg base 1 "are_words" (sp_are_words K D)) : FnOk P w K mg base (L2.CX P w) 2 f fd ["words"] (sp_are_apart K D) := by
  refine F.okX sc_are_apart (fun vs H Q E h => ?_) (fun cdv A outer s H vs Q E hr h => ?_)
  · obtain ⟨x, b, rfl, _⟩ := h
    rfl
  · obtain ⟨x, b, rfl, h1, h2, h3⟩ := h
    have hu := hr.units
    refine ⟨_, (pss_cons (ps_if (pt_not (pt_val (pe_c0 d_are_words hr (by decide) (pa_cons (pv 0) (pa_cons pe_int (pa_cons (pe_gI rfl T.g_MOST_APART) pa_nil))))))
      (pss_one (ps_raise rfl (takes_of rfl rfl rfl rfl) (pmk_err T.e_BadWord hr (by decide) (pa_cons pe_int pa_nil) T.c_BadWord)))
      pss_nil)
      (pss_one (ps_ret (pe_c0 d_are_rows_apart hr (by decide) (pa_cons (pe_lc (own := [("each", 1)]) (g := gName 1) (tt := tYes) rfl sc_are_apart.nd (pi_lt (pv 0)) (blkOk_by (N := ["words", "each"]) (sc := defScope st_are_apart) (by decide +kernel)) (fun _ _ _ _ _ => (pg_name (i := 1) sc_are_apart.nd rfl (Or.inl rfl))) (fun _ _ _ _ _ => pts_nil) (fun _ _ _ _ _ => (pe_attrK (K := K) (pv 1)))) pa_nil))))), ?_⟩
    walk_at "go"
    refine ⟨x, 0, 30, b, rfl, h1, fun e H1 s1 => ?_, fun e => ?_⟩
    · walk_at "go"
      refine r_mkE ?_
      walk_at "go"
      exact ⟨rfl, h2 e H1 s1⟩
    · obtain ⟨a, xs, bs, rfl, ha, hl, hw, h4, h5⟩ := h3 e
      refine ⟨a, xs, bs, rfl, ha, hl, hw, fun H1 s1 => ?_⟩
      have ec : (decide ((0 : Int) ≤ (xs.length : Nat)) && decide (((xs.length : Nat) : Int) ≤ 30) && bs.all id) = (decide (xs.length ≤ 30) && bs.all id) := by
        rw [decide_eq_true (by omega), Bool.true_and]
        congr 1
        rw [Bool.eq_iff_iff, decide_eq_true_iff, decide_eq_true_iff]
        omega
      rw [ec]
      walk_at "go"
      refine r_ib (fun e1 => ?_) (fun e1 => ?_)
      · refine r_mkE ?_
        walk_at "go"
        exact ⟨rfl, h4 (by simpa only [Bool.not_eq_true'] using e1) H1 s1⟩
      · obtain ⟨rows, hr, q⟩ := h5 (by simpa only [Bool.not_eq_false'] using e1)
        walk_at "go"
        have go : ∀ {J : It} {G : Hp → Prop}, L2.Walk J xs.length G (YAt xs) → (∀ H', Same H1 H' → G H') → ∀ Dl, H1 Dl = none →
            LcW J (gName 1) tYes (tAttr K "letters" (tVar 1)) [1] (L2.start ["words", "each"] [.ref a]) H1 Dl fun H' => sp_are_rows_apart K D [.ref Dl] H' Q E0 := fun {J G} hJ hG Dl hDl => by
          refine lcG hJ (fun j acc H' => Same H1 H' ∧ acc = (rows.take j).map fun u => V.str (S u)) ⟨same_upd hDl, by simp⟩ (fun j acc H' _ h _ => hG H' h.1) ?_ ?_
          · rintro j x acc H2 hx ⟨s2, rfl⟩ e2
            walk_at "go"
            obtain ⟨u, hu⟩ : ∃ b, rows[j]? = some b := ⟨rows[j]'(by rw [← paired_len hr]; exact (List.getElem?_eq_some_iff.mp hx).1), by simp⟩
            obtain ⟨p, dx, rfl, hp⟩ := paired_at hr hx hu
            refine q_letters T (s2 _ _ (s1 _ _ hp)) ?_
            have hlt := (List.getElem?_eq_some_iff.mp hu).1
            have z := paired_len hr
            exact lcFin (Pv := fun acc H' => Same H1 H' ∧ acc = (rows.take (j + 1)).map fun u => V.str (S u)) e2 (by simp; omega) ⟨same_mut s2 hDl, by rw [take_snoc hu, List.map_append]; rfl⟩
          · rintro acc H2 ⟨s2, rfl⟩ e2
            refine ⟨Dl, rows, rfl, SqL.of (by rw [e2, paired_len hr, List.take_length]), fun b H3 s3 hb => q b H3 (s1.trans (s2.trans s3)) hb⟩
        refine r_iLT (sqA_same s1 ha) (fun hs Dl hDl => ?_) (fun hs Dl hDl => ?_)
        · exact go walk_list (fun H' s => sqL_same s hs) Dl hDl
        · exact go walk_tup (fun H' s => sqT_same s hs) Dl hDl
end
end Cs


set_option Elab.async false
set_option linter.all false
set_option maxRecDepth 100000
set_option maxHeartbeats 4000000
namespace Cs
open PySem PySem.Spec PyProof.Rows L2
local macro_rules | `(tactic| walk_at "two") => `(tactic| with_reducible (first
  | refine r_seq ?_ | refine r_nx ?_ | refine r_rt ?_ | refine r_ct ?_ | refine r_bk ?_ | refine r_asg ?_ | refine r_gname ?_ | refine r_ret ?_ | refine r_drop ?_ | refine r_next ?_ | refine r_retN ?_ | refine r_fld ?_ | refine r_gsub ?_ | refine r_brk ?_ | refine r_cont ?_
  | refine r_var rfl ?_ | refine r_c ?_ | refine r_op ?_ | refine r_un ?_ | refine r_test ?_ | refine r_tB ?_ | refine r_bl ?_ | refine r_blv ?_
  | refine r_cons ?_ | refine r_nil ?_ | refine r_lc ?_ | refine r_yes ?_ | refine r_iLT0 ?_ | refine r_iEnumS ?_ | refine r_iEnum ?_ | refine r_iStr ?_ | refine r_iList ?_ | refine r_iRng ?_ | refine r_iStrS ?_ | refine r_iStrE ?_ | refine r_cb ?_ | refine r_call0 ?_ | refine r_callS ?_ | refine r_callK ?_ | refine r_tup ?_ | refine r_lst ?_ | refine r_make0 ?_ | refine r_attr ?_
  | refine r_sl ?_ | refine r_nopart ?_ | refine r_part ?_ | refine r_parti ?_ | refine r_tyS ?_ | refine r_bm0 ?_ | refine r_bm ?_ | refine r_dnew ?_
  | refine r_and ?_ | refine r_or ?_ | refine r_not ?_ | refine r_andV ?_ | refine r_orV ?_ | refine r_notV ?_ | refine r_if ?_ | refine r_ift ?_ | refine r_iff ?_ | refine r_revL ?_ | refine r_ntt ?_ | refine r_nff ?_ | refine r_itup ?_ | refine r_chain ?_
  | refine r_I0 ?_ | refine r_U ?_ | refine r_addI ?_ | refine r_eqI ?_ | refine r_neI ?_ | refine r_eqS ?_ | refine r_neS ?_ | refine r_eqB ?_ | refine r_neB ?_ | refine r_inS ?_ | refine r_niS ?_ | refine r_int1 ?_ | refine r_abs ?_ | refine r_isN ?_ | refine r_notN ?_))
local macro_rules | `(tactic| walk_at "one") => `(tactic| first | walk_at "two" | with_reducible (first | refine r_ifs ?_ | refine r_forE ?_))
local macro_rules | `(tactic| walk_at "go") => `(tactic| repeat walk_at "one")
local macro_rules | `(tactic| walk_at "gp") => `(tactic| repeat walk_at "two")

section
variable {P : Program} {w : World} {K : PySem.W.Frag} {mg : Str → Option Value} {base : Heap} {D : Ad}

abbrev st_tops_of : Stmt := top 34
theorem sc_tops_of : FnScope ["word", "count", "along", "aside", "letter", "many"] ["word", "count"] (defScope st_tops_of) := ⟨rfl, rfl, rfl, by decide +kernel, rfl, by decide +kernel, by decide +kernel⟩
def sp_tops_of (K : PySem.W.Frag) (D : Ad) : Sp := fun vs H Q E => ∃ x y b, vs = [x, y] ∧ IsK K H x (.ref D.Word) b ∧ (b = false → Rse E H D.BadWord [("at", .int 0)]) ∧
  (b = true → ∃ p dx u ok, x = .ref p ∧ H p = some (.ins D.Word dx (wf u)) ∧ Good u ∧ u.length ≤ 4000 ∧ InR K H y 1 12 ok ∧ (ok = false → Rse E H D.BadNumber [("part", .str (S [99, 111, 117, 110, 116]))]) ∧
    (ok = true → ∃ n : Nat, y = .int (n : Nat) ∧ n ≤ 12 ∧ (24 < u.length → Rse E H D.TooMany [("what", .str (S [108, 101, 116, 116, 101, 114, 115])), ("most", .int 24)]) ∧
      (u.length ≤ 24 → ∀ q xs a b r H', Same H H' → H q = none → H' q = some (.tup xs) → free2 u = a :: b :: r → Ws D H' xs ((List.range n).map (topW u a b)) → Q (.ref q) H')))
theorem ok_tops_of {f : Addr} {fd : FuncData} (F : Fun K "tops_of" "tops_of" st_tops_of f fd) (T : Txt P w K mg base D) (d_need_within : CalX P w K mg base 3 "need_within" (sp_need_within K D)) (d_need_word : CalX P w K mg base 1 "need_word" (sp_need_word K D)) (m_Word : MakX P w K mg base 2 "Word" D.Word (sp_Word_init K D)) : FnOk P w K mg base (L2.CX P w) 4 f fd ["word", "count"] (sp_tops_of K D) := by
  refine F.okX sc_tops_of (fun vs H Q E h => ?_) (fun cdv A outer s H vs Q E hr h => ?_)
  · obtain ⟨x, y, b, rfl, _⟩ := h
    rfl
  · obtain ⟨x, y, b, rfl, h1, h2, h3⟩ := h
    have hu := hr.units
    refine ⟨_, (pss_cons (ps_expr (pe_cX d_need_word hr (by decide) (passes_call (takes_of rfl rfl rfl rfl) fun _ _ _ _ h => h) (pa_cons (pv 0) pa_nil)))
      (pss_cons (ps_expr (pe_cX d_need_within hr (by decide) (passes_call (takes_of rfl rfl rfl rfl) fun _ _ _ _ h => h) (pa_cons (pv 1) (pa_cons pe_int (pa_cons (pe_gI rfl T.g_MOST_TOPS) (pa_cons (pe_S (w := [99, 111, 117, 110, 116]) (by decide +kernel)) pa_nil))))))
      (pss_cons (ps_if (pt_cmpR op_gt (pe_attrK (K := K) (pv 0)) (pe_gI rfl T.g_MOST_BEGUN) (nomark _))
      (pss_one (ps_raise rfl (takes_of rfl rfl rfl rfl) (pmk_err T.e_TooMany hr (by decide) (pa_cons (pe_S (w := [108, 101, 116, 116, 101, 114, 115]) (by decide +kernel)) (pa_cons (pe_gI rfl T.g_MOST_BEGUN) pa_nil)) T.c_TooMany)))
      pss_nil)
      (pss_cons (ps_asg (pe_slice (sl_anyK (K := K)) (pe_lc (own := [("letter", 4)]) (g := gName 4) rfl sc_tops_of.nd (pi_str (pe_slice (sl_anyK (K := K)) (pe_gS rfl T.g_LETTERS) po_none (po_some pe_int))) (blkOk_by (N := ["word", "count", "along", "aside", "letter", "many"]) (sc := defScope st_tops_of) (by decide +kernel)) (fun _ _ _ _ _ => (pg_name (i := 4) sc_tops_of.nd rfl (Or.inl rfl))) (fun _ _ _ _ _ => (pts_one (pt_cmpR (op_niK (K := K)) (pv 4) (pe_bm0K (K := K) PySem.F.plainAttrs_str PySem.F.slot_str_upper PySem.F.type_str_upper mb_upper (pe_slice (sl_anyK (K := K)) (pe_attrK (K := K) (pv 0)) (po_some (pe_un un_neg pe_int)) po_none)) rfl))) (fun _ _ _ _ _ => (pv 4))) po_none (po_some pe_int)) (pg_unl (by rfl) (pgs_cons (pg_name (i := 2) sc_tops_of.nd rfl (Or.inr rfl)) (pgs_cons (pg_name (i := 3) sc_tops_of.nd rfl (Or.inr rfl)) pgs_nil))))
      (pss_one (ps_ret (pe_callTy (T := "tuple") (call_tupleB (K := K)) (by rfl) T.b_tuple (by decide +kernel) (pa_cons (pe_lc (own := [("many", 5)]) (g := gName 5) (tt := tYes) rfl sc_tops_of.nd (pi_range1 rfl T.b_range (pa_cons (pv 1) pa_nil)) (blkOk_by (N := ["word", "count", "along", "aside", "letter", "many"]) (sc := defScope st_tops_of) (by decide +kernel)) (fun _ _ _ _ _ => (pg_name (i := 5) sc_tops_of.nd rfl (Or.inl rfl))) (fun _ _ _ _ _ => pts_nil) (fun _ _ _ _ _ => (pe_mX m_Word hr (by decide) passL (pa_cons (pe_op op_addA (pe_op op_addA (pe_attrK (K := K) (pv 0)) (pe_op op_mulA (pv 2) (pv 5))) (pv 3)) pa_nil)))) pa_nil)))))))), ?_⟩
    walk_at "go"
    refine ⟨x, b, rfl, h1, fun e => ?_, h2⟩
    obtain ⟨p, dx, u, ok, rfl, hp, hg, hl, hi, h4, h5⟩ := h3 e
    walk_at "go"
    refine ⟨y, 1, 12, _, ok, rfl, hi, fun e => ?_, h4⟩
    obtain ⟨n, rfl, hn, h6, h7⟩ := h5 e
    walk_at "go"
    refine q_size T hp ?_
    walk_at "go"
    refine r_ib (fun e => ?_) (fun e => ?_)
    · refine r_mkE ?_
      walk_at "go"
      exact ⟨rfl, h6 (by have := of_decide_eq_true e; omega)⟩
    · have hu24 : u.length ≤ 24 := by have := of_decide_eq_false e; omega
      walk_at "go"
      refine r_slS (cut_to _ 3) (by decide) ?_
      walk_at "go"
      intro Dl hDl
      obtain ⟨a, b, r, ef, hab, ha, hb, hna, hnb⟩ := free2_two u
      have ha3 : a = 65 ∨ a = 66 ∨ a = 67 := by omega
      have hb3 : b = 65 ∨ b = 66 ∨ b = 67 := by omega
      have hla : AllL (lastL u) := allL_last (good_L hg)
      refine lcG (its := [65, 66, 67].map fun c => V.str (S [c])) walk_S (fun j acc H' => Same H H' ∧ acc = (([65, 66, 67].take j).filter fun c => !decide (c ∈ (lastL u).map upp)).map fun c => V.str (S [c])) ⟨same_upd hDl, rfl⟩ (fun _ _ _ _ _ _ => trivial) ?_ ?_
      · rintro j x acc H1 hx ⟨s1, rfl⟩ e1
        obtain ⟨c, hc, rfl⟩ : ∃ c, [65, 66, 67][j]? = some c ∧ x = .str (S [c]) := by
          rw [List.getElem?_map] at hx
          cases e : [65, 66, 67][j]? with
          | none => rw [e] at hx; cases hx
          | some c => rw [e] at hx; exact ⟨c, rfl, (Option.some.inj hx).symm⟩
        walk_at "go"
        refine q_letters T (s1 _ _ hp) ?_
        walk_at "go"
        refine r_slS (w' := lastL u) (cut_last u) (by omega) ?_
        walk_at "go"
        refine q_upper hla (by have := lastL_le u; omega) ?_
        walk_at "go"
        have lenf : ∀ (l : List Nat) (f : Nat → Bool), l.length ≤ 3 → (l.filter f).length ≤ 1000000 := fun l f h => Nat.le_trans (List.length_filter_le _ _) (by omega)
        refine r_ib (fun e2 => ?_) (fun e2 => ?_)
        · walk_at "go"
          refine lcFin (Pv := fun acc H' => Same H H' ∧ acc = (([65, 66, 67].take (j + 1)).filter fun c => !decide (c ∈ (lastL u).map upp)).map fun c => V.str (S [c])) e1 (by rw [List.length_map]; exact lenf _ _ (by rw [List.length_take]; simp; omega)) ⟨same_mut s1 hDl, ?_⟩
          rw [take_snoc hc, List.filter_append, List.map_append]
          congr 1
          rw [List.filter_cons, if_pos e2]
          rfl
        · refine ⟨_, ⟨s1, ?_⟩, e1⟩
          rw [take_snoc hc, List.filter_append, List.map_append]
          rw [List.filter_cons, if_neg (by rw [e2]; exact Bool.false_ne_true)]
          simp
      · rintro acc H1 ⟨s1, rfl⟩ e1
        walk_at "go"
        have ef2 : ([65, 66, 67].take 3).filter (fun c => !decide (c ∈ (lastL u).map upp)) = a :: b :: r := ef
        refine r_slL (xs' := [V.str (S [a]), V.str (S [b])]) (SqL.of e1) ?_ fun l2 hl2 => ?_
        · show cutV (((([65, 66, 67].take 3).filter fun c => !decide (c ∈ (lastL u).map upp)).map fun c => V.str (S [c]))) none (some ((2 : Nat) : Int)) = _
          rw [ef2, cutV_to]
          rfl
        · have s2 := s1.trans (same_upd (o := .lst [V.str (S [a]), V.str (S [b])]) hl2)
          refine r_upl2 (SqL.of upd_same) rfl ?_
          walk_at "go"
          refine ⟨n, rfl, by omega, by omega, fun D2 hD2 => ?_⟩
          rw [Int.toNat_natCast]
          refine lcG (its := (List.range n).map fun i => V.int (i : Nat)) walk_range0 (fun j acc H' => Same H H' ∧ Ws D H' acc ((List.range j).map (topW u a b)) ∧ acc.length = j) ⟨s2.trans (same_upd hD2), .nil, rfl⟩ (fun _ _ _ _ _ _ => trivial) ?_ ?_
          · rintro j x acc H3 hx ⟨s3, hw, hl3⟩ e3
            obtain ⟨hj, rfl⟩ : j < n ∧ x = .int (j : Nat) := by
              rw [List.getElem?_map] at hx
              by_cases hj : j < n
              · rw [List.getElem?_range hj] at hx
                exact ⟨hj, (Option.some.inj hx).symm⟩
              · rw [List.getElem?_eq_none (by simpa using hj)] at hx
                cases hx
            walk_at "go"
            refine q_letters T (s3 _ _ hp) ?_
            walk_at "go"
            refine r_mulS (by simp) (by omega) ?_
            rw [rep1]
            refine r_addS (by simp; omega) ?_
            walk_at "go"
            refine r_addS (by simp; omega) ?_
            walk_at "go"
            have gt := good_top hg ha3 hb3 hab hna hnb j
            refine q_Word (w := topW u a b j) gt.1 (by unfold topW; simp; omega) fun q dx' H4 s4 hq hq4 => ?_
            refine lcFin (Pv := fun acc H' => Same H H' ∧ Ws D H' acc ((List.range (j + 1)).map (topW u a b)) ∧ acc.length = j + 1) (s4 _ _ e3) (by omega) ⟨?_, ?_, by simp [hl3]⟩
            · exact same_mut (s3.trans s4) (s2.free hD2)
            · rw [List.range_succ, List.map_append]
              have nqD : q ≠ D2 := fun z => by rw [z, e3] at hq; cases hq
              refine paired_snoc (paired_mono (fun x u ⟨p, dx, e1, e2⟩ => ⟨p, dx, e1, ?_⟩) hw) ⟨q, dx', rfl, by rw [upd_ne nqD]; exact hq4⟩
              have npD : p ≠ D2 := fun z => by rw [z, e3] at e2; cases e2
              rw [upd_ne npD]
              exact s4 _ _ e2
          · rintro acc H3 ⟨s3, hw, hl3⟩ e3
            walk_at "go"
            refine q_tupL (SqL.of e3) fun q hq => ?_
            have hw3 : Ws D H3 acc ((List.range n).map (topW u a b)) := by
              have z := hw
              rw [List.length_map, List.length_range] at z
              exact z
            exact h7 hu24 q acc a b r _ (s3.trans (same_upd hq)) (s3.free hq) upd_same ef (ws_same (same_upd hq) hw3)
end
end Cs


set_option Elab.async false
set_option linter.all false
set_option maxRecDepth 100000
set_option maxHeartbeats 4000000
namespace Cs
open PySem PySem.Spec PyProof.Rows L2
local macro_rules | `(tactic| walk_at "two") => `(tactic| with_reducible (first
  | refine r_seq ?_ | refine r_nx ?_ | refine r_rt ?_ | refine r_ct ?_ | refine r_bk ?_ | refine r_asg ?_ | refine r_gname ?_ | refine r_ret ?_ | refine r_drop ?_ | refine r_next ?_ | refine r_retN ?_ | refine r_fld ?_ | refine r_gsub ?_ | refine r_brk ?_ | refine r_cont ?_
  | refine r_var rfl ?_ | refine r_c ?_ | refine r_op ?_ | refine r_un ?_ | refine r_test ?_ | refine r_tB ?_ | refine r_bl ?_ | refine r_blv ?_
  | refine r_cons ?_ | refine r_nil ?_ | refine r_lc ?_ | refine r_yes ?_ | refine r_iLT0 ?_ | refine r_iEnumS ?_ | refine r_iEnum ?_ | refine r_iStr ?_ | refine r_iList ?_ | refine r_iRng ?_ | refine r_iStrS ?_ | refine r_iStrE ?_ | refine r_cb ?_ | refine r_call0 ?_ | refine r_callS ?_ | refine r_callK ?_ | refine r_tup ?_ | refine r_lst ?_ | refine r_make0 ?_ | refine r_attr ?_
  | refine r_sl ?_ | refine r_nopart ?_ | refine r_part ?_ | refine r_parti ?_ | refine r_tyS ?_ | refine r_bm0 ?_ | refine r_bm ?_ | refine r_dnew ?_
  | refine r_and ?_ | refine r_or ?_ | refine r_not ?_ | refine r_andV ?_ | refine r_orV ?_ | refine r_notV ?_ | refine r_if ?_ | refine r_ift ?_ | refine r_iff ?_ | refine r_revL ?_ | refine r_ntt ?_ | refine r_nff ?_ | refine r_itup ?_ | refine r_chain ?_
  | refine r_I0 ?_ | refine r_U ?_ | refine r_addI ?_ | refine r_eqI ?_ | refine r_neI ?_ | refine r_eqS ?_ | refine r_neS ?_ | refine r_eqB ?_ | refine r_neB ?_ | refine r_inS ?_ | refine r_niS ?_ | refine r_int1 ?_ | refine r_abs ?_ | refine r_isN ?_ | refine r_notN ?_))
local macro_rules | `(tactic| walk_at "one") => `(tactic| first | walk_at "two" | with_reducible (first | refine r_ifs ?_ | refine r_forE ?_))
local macro_rules | `(tactic| walk_at "go") => `(tactic| repeat walk_at "one")
local macro_rules | `(tactic| walk_at "gp") => `(tactic| repeat walk_at "two")

section
variable {P : Program} {w : World} {K : PySem.W.Frag} {mg : Str → Option Value} {base : Heap} {D : Ad}

abbrev st_law_pen : Stmt := top 36
theorem sc_law_pen : FnScope ["script"] ["script"] (defScope st_law_pen) := ⟨rfl, rfl, rfl, by decide +kernel, rfl, by decide +kernel, by decide +kernel⟩
def sp_law_pen (K : PySem.W.Frag) (D : Ad) : Sp := fun vs H Q _ => ∃ (a : Addr) (ns : List Int), vs = [.ref a] ∧ SqL K H a (ns.map V.int) ∧ ns.length ≤ 63 ∧ ∀ P H', Same H H' → PenAt P 0 H' → H P.p = none → H P.c = none → Q (.ref P.p) H'
theorem ok_law_pen {f : Addr} {fd : FuncData} (F : Fun K "_law_pen" "_law_pen" st_law_pen f fd) (T : Txt P w K mg base D) : FnOk P w K mg base CX0 1 f fd ["script"] (sp_law_pen K D) := by
  refine F.ok sc_law_pen (fun vs H Q E h => ?_) (fun cdv A outer s H vs Q E hr h => ?_)
  · obtain ⟨a, ns, rfl, _⟩ := h
    rfl
  · obtain ⟨a, ns, rfl, ha, hl, q⟩ := h
    have hu := hr.units
    refine ⟨_, (pss_one (ps_ret (pe_lst (pa_cons (pe_callTy (T := "list") (call_listB (K := K)) (by rfl) T.b_list (by decide +kernel) (pa_cons (pe_slice (sl_anyK (K := K)) (pv 0) po_none (po_some pe_int)) pa_nil)) (pa_cons pe_int (pa_cons pe_int pa_nil)))))), ?_⟩
    walk_at "go"
    refine r_slL (xs' := ns.map V.int) ha ?_ fun l1 h1 => ?_
    · show cutV (ns.map V.int) none (some ((63 : Nat) : Int)) = _
      rw [cutV_to, List.take_of_length_le (by simpa using hl)]
    walk_at "go"
    refine q_listL (SqL.of upd_same) fun l2 h2 => ?_
    walk_at "go"
    refine r_sz (by simp) fun p hp => ?_
    have s1 := same_upd (o := .lst (ns.map V.int)) h1
    have s2 := s1.trans (same_upd (o := .lst (ns.map V.int)) h2)
    have n2 : p ≠ l2 := fun z => by rw [z, upd_same] at hp; cases hp
    exact q ⟨p, l2, ns⟩ _ (s2.trans (same_upd hp)) ⟨⟨0, 0, by decide, by decide, by decide, upd_same⟩, by rw [upd_ne n2.symm]; exact upd_same, hl, n2⟩ (s2.free hp) (s1.free h2)
abbrev st_law_draw : Stmt := top 37
theorem sc_law_draw : FnScope ["pen", "limit", "begun", "cell", "mixed", "digit", "great"] ["pen", "limit"] (defScope st_law_draw) := ⟨rfl, rfl, rfl, by decide +kernel, rfl, by decide +kernel, by decide +kernel⟩
def sp_law_draw (K : PySem.W.Frag) (D : Ad) : Sp := fun vs H Q _ => ∃ (P : Pen) (n : Nat) (m : Int), vs = [.ref P.p, .int m] ∧ PenAt P n H ∧ n ≤ 100000 ∧ 0 < m ∧ m < 1152921504606846976 ∧ ∀ d H', 0 ≤ d → d < m → KeepB P H H' → PenAt P (n + 1) H' → Q (.int d) H'
theorem ok_law_draw {f : Addr} {fd : FuncData} (F : Fun K "_law_draw" "_law_draw" st_law_draw f fd) (T : Txt P w K mg base D) : FnOk P w K mg base CX0 1 f fd ["pen", "limit"] (sp_law_draw K D) := by
  refine F.ok sc_law_draw (fun vs H Q E h => ?_) (fun cdv A outer s H vs Q E hr h => ?_)
  · obtain ⟨P, n, m, rfl, _⟩ := h
    rfl
  · obtain ⟨P, n, m, rfl, hP, hn, hm, hm2, q⟩ := h
    have hu := hr.units
    refine ⟨_, (pss_cons (ps_if (pt_cmpR op_gt (pe_ix (ix_seqK (K := K)) (pv 0) pe_int (fun _ _ => rfl)) pe_int (nomark _))
      (pss_cons (ps_asg (pe_op op_mod (pe_callTy (T := "int") call_intB (by rfl) T.b_int (by decide +kernel) (pa_cons (pe_ix (ix_seqK (K := K)) (pv 0) pe_int (fun _ _ => rfl)) pa_nil)) (pv 1)) (pg_name (i := 5) sc_law_draw.nd rfl (Or.inl rfl)))
      (pss_cons (ps_asg (pe_op op_fdivW (pe_callTy (T := "int") call_intB (by rfl) T.b_int (by decide +kernel) (pa_cons (pe_ix (ix_seqK (K := K)) (pv 0) pe_int (fun _ _ => rfl)) pa_nil)) (pv 1)) (pg_sub (pv 0) pe_int set_list))
      (pss_one (ps_ret (pv 5)))))
      pss_nil)
      (pss_cons (ps_asg (pe_ix (ix_seqK (K := K)) (pv 0) pe_int (fun _ _ => rfl)) (pg_name (i := 2) sc_law_draw.nd rfl (Or.inl rfl)))
      (pss_cons (ps_asg (pe_op op_addA (pv 2) pe_int) (pg_sub (pv 0) pe_int set_list))
      (pss_cons (ps_asg (pe_op op_addA (pe_op op_mulA pe_int (pv 2)) pe_int) (pg_name (i := 3) sc_law_draw.nd rfl (Or.inl rfl)))
      (pss_cons (ps_if (pt_cmpR (op_neK (K := K) hu) (pe_ix (ix_seqK (K := K)) (pv 0) pe_int (fun _ _ => rfl)) (pe_lst pa_nil) (nomark _))
      (pss_one (ps_asg (pe_ix (ix_seqK (K := K)) (pe_ix (ix_seqK (K := K)) (pv 0) pe_int (fun _ _ => rfl)) (pe_op op_mod (pe_callTy (T := "int") call_intB (by rfl) T.b_int (by decide +kernel) (pa_cons (pv 2) pa_nil)) (pe_callB (id := "len") (call_lenB (K := K)) (by rfl) T.b_len PySem.boot_len (pa_cons (pe_ix (ix_seqK (K := K)) (pv 0) pe_int (fun _ _ => rfl)) pa_nil))) (fun _ _ => rfl)) (pg_name (i := 3) sc_law_draw.nd rfl (Or.inl rfl))))
      pss_nil)
      (pss_cons (ps_if (PW.pt (pw_and (pt_cmpR op_lt (pv 2) (pe_callB (id := "len") (call_lenB (K := K)) (by rfl) T.b_len PySem.boot_len (pa_cons (pe_ix (ix_seqK (K := K)) (pv 0) pe_int (fun _ _ => rfl)) pa_nil)) (nomark _)) (pw_and1 (pt_cmpR op_ge (pe_callB (id := "abs") call_absB (by rfl) T.b_abs (by decide +kernel) (pa_cons (pv 3) pa_nil)) (pe_op op_pow pe_int pe_int) (nomark _)))))
      (pss_cons (ps_asg (pe_op op_sub (pe_callB (id := "abs") call_absB (by rfl) T.b_abs (by decide +kernel) (pa_cons (pv 3) pa_nil)) (pe_op op_pow pe_int pe_int)) (pg_name (i := 6) sc_law_draw.nd rfl (Or.inl rfl)))
      (pss_cons (ps_asg (pe_op op_fdivW (pe_callTy (T := "int") call_intB (by rfl) T.b_int (by decide +kernel) (pa_cons (pv 6) pa_nil)) (pv 1)) (pg_sub (pv 0) pe_int set_list))
      (pss_one (ps_ret (pe_op op_mod (pe_callTy (T := "int") call_intB (by rfl) T.b_int (by decide +kernel) (pa_cons (pv 6) pa_nil)) (pv 1))))))
      pss_nil)
      (pss_cons (ps_asg (pe_op op_mod (pe_callTy (T := "int") call_intB (by rfl) T.b_int (by decide +kernel) (pa_cons (pe_op op_pow (pe_op op_addA (pe_op op_addA (pe_op op_mod (pe_callTy (T := "int") call_intB (by rfl) T.b_int (by decide +kernel) (pa_cons (pv 3) pa_nil)) pe_int) (pe_op op_mulA pe_int (pv 2))) pe_int) pe_int) pa_nil)) pe_int) (pg_name (i := 4) sc_law_draw.nd rfl (Or.inl rfl)))
      (pss_cons (ps_asg (pe_op op_mod (pe_callTy (T := "int") call_intB (by rfl) T.b_int (by decide +kernel) (pa_cons (pe_op op_pow (pe_op op_addA (pe_op op_addA (pe_op op_mulA (pv 4) (pe_op op_addA (pe_op op_mulA pe_int (pv 2)) pe_int)) (pe_op op_mulA (pe_op op_mulA pe_int (pv 2)) (pv 2))) pe_int) pe_int) pa_nil)) pe_int) (pg_name (i := 4) sc_law_draw.nd rfl (Or.inl rfl)))
      (pss_one (ps_ret (pe_op op_mod (pe_callTy (T := "int") call_intB (by rfl) T.b_int (by decide +kernel) (pa_cons (pe_op op_fdivW (pv 4) pe_int) pa_nil)) (pv 1)))))))))))), ?_⟩
    obtain ⟨s, r, hs0, hsn, hr0, k0⟩ := KP.of hP
    have fin : ∀ {d s' r' : Int} {H' : Hp}, 0 ≤ d → d < m → KP P H H' s' r' → 0 ≤ s' → s' ≤ n + 1 → 0 ≤ r' → Q (.int d) H' := fun h1 h2 k h3 h4 h5 => q _ _ h1 h2 k.keep (k.done h3 (by omega) h5 hP.len)
    walk_at "go"
    refine r_ixL (SqL.of k0.pen) rfl ?_
    walk_at "go"
    refine r_ib (fun e => ?_) (fun e => ?_)
    · walk_at "go"
      refine r_ixL (SqL.of k0.pen) rfl ?_
      walk_at "go"
      refine r_mod hm ?_
      walk_at "go"
      refine r_ixL (SqL.of k0.pen) rfl ?_
      walk_at "go"
      refine r_fdiv hm (by omega) ?_
      walk_at "go"
      refine q_set k0.pen rfl ?_
      have k1 : KP P H (upd H P.p (penO P s (r / m))) s (r / m) := k0.set
      walk_at "go"
      exact fin (Int.emod_nonneg _ (by omega)) (Int.emod_lt_of_pos _ hm) k1 hs0 (by omega) (Int.ediv_nonneg hr0 (by omega))
    · walk_at "go"
      refine r_ixL (SqL.of k0.pen) rfl ?_
      walk_at "go"
      refine q_set k0.pen rfl ?_
      have k1 : KP P H (upd H P.p (penO P (s + 1) r)) (s + 1) r := k0.set
      generalize upd H P.p (.lst ([V.ref P.c, .int s, .int r].set 1 (.int (s + 1)))) = H1 at k1 ⊢
      walk_at "gp"
      refine r_mulI (wm (n := 64) (m := 64) (by omega) (by omega)) ?_
      walk_at "gp"
      refine r_cut (fun σ' H' => ∃ (c : Int), KP P H H' (s + 1) r ∧ σ' = [some (.ref P.p), some (.int m), some (.int s), some (.int c), none, none, none]) (fun nx hnx => ?_) ?_
      · walk_at "go"
        refine r_ixL (SqL.of k1.pen) rfl ?_
        walk_at "go"
        refine r_sz (by decide) fun e1 he1 => ?_
        have k2 := k1.new (o := .lst []) he1
        refine r_neNil (SqL.of k2.cells) (dpI P.ns) ((lay_ints P.ns).mono (by decide)) (SqL.of upd_same) ?_
        walk_at "go"
        refine r_ib (fun e => ?_) (fun e => ?_)
        · have hne : P.ns ≠ [] := fun z => by rw [z] at e; simp at e
          have hlen : 0 < P.ns.length := List.length_pos_iff.mpr hne
          walk_at "go"
          refine r_ixL (SqL.of k2.pen) rfl ?_
          walk_at "go"
          refine r_ixL (SqL.of k2.pen) rfl ?_
          walk_at "go"
          refine q_lenL (SqL.of k2.cells) ?_
          rw [List.length_map]
          walk_at "go"
          refine r_mod (by omega) ?_
          refine r_ixLi k2.cells (Int.emod_nonneg _ (by omega)) (Int.emod_lt_of_pos _ (by omega)) fun c hc => ?_
          walk_at "go"
          exact hnx _ _ ⟨c, k2, rfl⟩
        · walk_at "go"
          exact hnx _ _ ⟨_, k2, rfl⟩
      · rintro σ' H2 ⟨c, k2, rfl⟩
        walk_at "gp"
        refine r_cut (fun σ' H' => KP P H H' (s + 1) r ∧ σ' = [some (.ref P.p), some (.int m), some (.int s), some (.int c), none, none, none]) (fun nx hnx => ?_) ?_
        · walk_at "go"
          refine r_ixL (SqL.of k2.pen) rfl ?_
          walk_at "go"
          refine q_lenL (SqL.of k2.cells) ?_
          walk_at "go"
          refine r_ib (fun e => ?_) (fun e => ?_)
          · walk_at "go"
            refine r_pow (by decide) (by decide) ?_
            walk_at "go"
            refine r_ib (fun e => ?_) (fun e => ?_)
            · have e := of_decide_eq_true e
              walk_at "go"
              refine r_pow (by decide) (by decide) ?_
              walk_at "go"
              generalize (if c < 0 then -c else c) = cc at e ⊢
              generalize (10 : Int) ^ (18 : Int).toNat = tt at e ⊢
              refine r_fdiv hm (by omega) ?_
              walk_at "go"
              refine q_set k2.pen rfl ?_
              have k3 : KP P H (upd H2 P.p (penO P (s + 1) ((cc - tt) / m))) (s + 1) ((cc - tt) / m) := k2.set
              walk_at "go"
              refine r_mod hm ?_
              walk_at "go"
              exact fin (Int.emod_nonneg _ (by omega)) (Int.emod_lt_of_pos _ hm) k3 (by omega) (by omega) (Int.ediv_nonneg (by omega) (by omega))
            · walk_at "go"
              exact hnx _ _ ⟨k2, rfl⟩
          · walk_at "go"
            exact hnx _ _ ⟨k2, rfl⟩
        · rintro σ' H3 ⟨k3, rfl⟩
          walk_at "go"
          refine r_mod (by decide) ?_
          walk_at "go"
          refine r_mulI (wm (n := 64) (m := 64) (by omega) (by omega)) ?_
          walk_at "go"
          have c0 := Int.emod_nonneg c (show (2147483543 : Int) ≠ 0 by decide)
          have c1 := Int.emod_lt_of_pos c (show (0 : Int) < 2147483543 by decide)
          refine r_pow (by decide) (by omega) ?_
          walk_at "go"
          refine r_mod (by decide) ?_
          walk_at "go"
          generalize hx : (c % 2147483543 + 157793 * s + 4493) ^ (5 : Int).toNat = x1
          have x0 := Int.emod_nonneg x1 (show (2147483629 : Int) ≠ 0 by decide)
          have x2 := Int.emod_lt_of_pos x1 (show (0 : Int) < 2147483629 by decide)
          generalize x1 % 2147483629 = mx at x0 x2 ⊢
          refine r_mulI (wm (n := 64) (m := 64) (by omega) (by omega)) ?_
          walk_at "go"
          refine r_mulI (wm (n := 64) (m := 64) (by omega) (by omega)) ?_
          walk_at "go"
          refine r_mulI (wm (n := 64) (m := 64) (by omega) (by omega)) ?_
          walk_at "go"
          refine r_mulI (wm (n := 64) (m := 64) (by omega) (by omega)) ?_
          walk_at "go"
          have b1 := mulB (a := mx) (b := 2 * s + 983) (x := 2147483629) (y := 200983) x0 (by omega) (by omega) (by omega)
          have b2 := mulB (a := 90007 * s) (b := s) (x := 9000700000) (y := 100000) (by omega) (by omega) (by omega) (by omega)
          refine r_pow (by decide) (by omega) ?_
          walk_at "go"
          refine r_mod (by decide) ?_
          walk_at "go"
          refine r_fdiv (by decide) (by decide) ?_
          walk_at "go"
          refine r_mod hm ?_
          walk_at "go"
          exact fin (Int.emod_nonneg _ (by omega)) (Int.emod_lt_of_pos _ hm) k3 (by omega) (by omega) hr0
end
end Cs


set_option Elab.async false
set_option linter.all false
set_option maxRecDepth 100000
set_option maxHeartbeats 4000000
namespace Cs
open PySem PySem.Spec PyProof.Rows L2
local macro_rules | `(tactic| walk_at "two") => `(tactic| with_reducible (first
  | refine r_seq ?_ | refine r_nx ?_ | refine r_rt ?_ | refine r_ct ?_ | refine r_bk ?_ | refine r_asg ?_ | refine r_gname ?_ | refine r_ret ?_ | refine r_drop ?_ | refine r_next ?_ | refine r_retN ?_ | refine r_fld ?_ | refine r_gsub ?_ | refine r_brk ?_ | refine r_cont ?_
  | refine r_var rfl ?_ | refine r_c ?_ | refine r_op ?_ | refine r_un ?_ | refine r_test ?_ | refine r_tB ?_ | refine r_bl ?_ | refine r_blv ?_
  | refine r_cons ?_ | refine r_nil ?_ | refine r_lc ?_ | refine r_yes ?_ | refine r_iLT0 ?_ | refine r_iEnumS ?_ | refine r_iEnum ?_ | refine r_iStr ?_ | refine r_iList ?_ | refine r_iRng ?_ | refine r_iStrS ?_ | refine r_iStrE ?_ | refine r_cb ?_ | refine r_call0 ?_ | refine r_callS ?_ | refine r_callK ?_ | refine r_tup ?_ | refine r_lst ?_ | refine r_make0 ?_ | refine r_attr ?_
  | refine r_sl ?_ | refine r_nopart ?_ | refine r_part ?_ | refine r_parti ?_ | refine r_tyS ?_ | refine r_bm0 ?_ | refine r_bm ?_ | refine r_dnew ?_
  | refine r_and ?_ | refine r_or ?_ | refine r_not ?_ | refine r_andV ?_ | refine r_orV ?_ | refine r_notV ?_ | refine r_if ?_ | refine r_ift ?_ | refine r_iff ?_ | refine r_revL ?_ | refine r_ntt ?_ | refine r_nff ?_ | refine r_itup ?_ | refine r_chain ?_
  | refine r_I0 ?_ | refine r_U ?_ | refine r_addI ?_ | refine r_eqI ?_ | refine r_neI ?_ | refine r_eqS ?_ | refine r_neS ?_ | refine r_eqB ?_ | refine r_neB ?_ | refine r_inS ?_ | refine r_niS ?_ | refine r_int1 ?_ | refine r_abs ?_ | refine r_isN ?_ | refine r_notN ?_))
local macro_rules | `(tactic| walk_at "one") => `(tactic| first | walk_at "two" | with_reducible (first | refine r_ifs ?_ | refine r_forE ?_))
local macro_rules | `(tactic| walk_at "go") => `(tactic| repeat walk_at "one")
local macro_rules | `(tactic| walk_at "gp") => `(tactic| repeat walk_at "two")

section
variable {P : Program} {w : World} {K : PySem.W.Frag} {mg : Str → Option Value} {base : Heap} {D : Ad}

abbrev st_law_pick : Stmt := top 38
theorem sc_law_pick : FnScope ["pen", "some"] ["pen", "some"] (defScope st_law_pick) := ⟨rfl, rfl, rfl, by decide +kernel, rfl, by decide +kernel, by decide +kernel⟩
def sp_law_pick (K : PySem.W.Frag) (D : Ad) : Sp := fun vs H Q _ => ∃ (P : Pen) (n : Nat) (a : Addr) (xs : List V), vs = [.ref P.p, .ref a] ∧ PenAt P n H ∧ n ≤ 100000 ∧ H a = some (.lst xs) ∧ a ≠ P.p ∧ 0 < xs.length ∧ xs.length ≤ 1000000 ∧
  ∀ (j : Nat) x H', xs[j]? = some x → KeepB P H H' → PenAt P (n + 1) H' → Q x H'
theorem ok_law_pick {f : Addr} {fd : FuncData} (F : Fun K "_law_pick" "_law_pick" st_law_pick f fd) (T : Txt P w K mg base D) (d_law_draw : CalN P w K mg base 1 "_law_draw" (sp_law_draw K D)) : FnOk P w K mg base CX0 2 f fd ["pen", "some"] (sp_law_pick K D) := by
  refine F.ok sc_law_pick (fun vs H Q E h => ?_) (fun cdv A outer s H vs Q E hr h => ?_)
  · obtain ⟨P, n, a, xs, rfl, _⟩ := h
    rfl
  · obtain ⟨P, n, a, xs, rfl, hP, hn, ha, hap, h0, hl, q⟩ := h
    have hu := hr.units
    refine ⟨_, (pss_one (ps_ret (pe_ix (ix_seqK (K := K)) (pv 1) (pe_c0 d_law_draw hr (by decide) (pa_cons (pv 0) (pa_cons (pe_callB (id := "len") (call_lenB (K := K)) (by rfl) T.b_len PySem.boot_len (pa_cons (pv 1) pa_nil)) pa_nil))) (fun _ _ => rfl)))), ?_⟩
    walk_at "go"
    refine q_lenL (SqL.of ha) ?_
    walk_at "go"
    refine ⟨P, n, _, rfl, hP, hn, by omega, by omega, fun d H' h1 h2 k hP' => ?_⟩
    obtain ⟨j, rfl⟩ := Int.eq_ofNat_of_zero_le h1
    have hj : j < xs.length := by omega
    have e : xs[j]? = some xs[j] := by simp [hj]
    exact r_ixL (SqL.of (k a _ hap ha)) (atI_nat e) (q j _ H' e k hP')
abbrev st_law_other : Stmt := top 39
theorem sc_law_other : FnScope ["letter"] ["letter"] (defScope st_law_other) := ⟨rfl, rfl, rfl, by decide +kernel, rfl, by decide +kernel, by decide +kernel⟩
def sp_law_other (K : PySem.W.Frag) (D : Ad) : Sp := fun vs H Q _ => ∃ c, vs = [.str (S [c])] ∧ isL c = true ∧ Q (.str (S [und c])) H
theorem one_L {c : Nat} (h : isL c = true) : AllL [c] := fun d hd => by rw [List.mem_singleton.mp hd]; exact h
theorem ok_law_other {f : Addr} {fd : FuncData} (F : Fun K "_law_other" "_law_other" st_law_other f fd) (T : Txt P w K mg base D) : FnOk P w K mg base CX0 1 f fd ["letter"] (sp_law_other K D) := by
  refine F.ok sc_law_other (fun vs H Q E h => ?_) (fun cdv A outer s H vs Q E hr h => ?_)
  · obtain ⟨c, rfl, _⟩ := h
    rfl
  · obtain ⟨c, rfl, hc, q⟩ := h
    have hu := hr.units
    refine ⟨_, (pss_one (ps_ret (pe_ifExp (pt_val (pe_bm0K (K := K) PySem.F.plainAttrs_str PySem.F.slot_str_isupper PySem.F.type_str_isupper mb_isupper (pv 0))) (pe_bm0K (K := K) PySem.F.plainAttrs_str PySem.F.slot_str_lower PySem.F.type_str_lower mb_lower (pv 0)) (pe_bm0K (K := K) PySem.F.plainAttrs_str PySem.F.slot_str_upper PySem.F.type_str_upper mb_upper (pv 0))))), ?_⟩
    walk_at "go"
    refine q_isup hc ?_
    walk_at "go"
    refine r_ib (fun e => ?_) (fun e => ?_)
    · have e := of_decide_eq_true e
      walk_at "go"
      refine q_lower (one_L hc) (by simp) ?_
      have z : [c].map low = [und c] := by simp [low, und, e]
      rw [z]
      exact q
    · have e := of_decide_eq_false e
      walk_at "go"
      refine q_upper (one_L hc) (by simp) ?_
      have z : [c].map upp = [und c] := by simp [upp, und, e]
      rw [z]
      exact q
abbrev st_law_word : Stmt := top 40
theorem sc_law_word : FnScope ["pen", "many", "letters", "turn", "letter"] ["pen", "many"] (defScope st_law_word) := ⟨rfl, rfl, rfl, by decide +kernel, rfl, by decide +kernel, by decide +kernel⟩
def sp_law_word (K : PySem.W.Frag) (D : Ad) : Sp := fun vs H Q _ => ∃ (P : Pen) (n m : Nat), vs = [.ref P.p, .int (m : Nat)] ∧ PenAt P n H ∧ n + m ≤ 100000 ∧ m ≤ 1000 ∧
  ∀ w H', Good w → w.length = m → KeepB P H H' → PenAt P (n + m) H' → Q (.str (S w)) H'
theorem ok_law_word {f : Addr} {fd : FuncData} (F : Fun K "_law_word" "_law_word" st_law_word f fd) (T : Txt P w K mg base D) (d_law_other : CalN P w K mg base 1 "_law_other" (sp_law_other K D)) (d_law_pick : CalN P w K mg base 2 "_law_pick" (sp_law_pick K D)) : FnOk P w K mg base CX0 3 f fd ["pen", "many"] (sp_law_word K D) := by
  refine F.ok sc_law_word (fun vs H Q E h => ?_) (fun cdv A outer s H vs Q E hr h => ?_)
  · obtain ⟨P, n, m, rfl, _⟩ := h
    rfl
  · obtain ⟨P, n, m, rfl, hP, hn, hm, q⟩ := h
    have hu := hr.units
    refine ⟨_, (pss_cons (ps_asg (pe_S (w := []) (by decide +kernel)) (pg_name (i := 2) sc_law_word.nd rfl (Or.inr rfl)))
      (pss_cons (ps_for PassesOwn.never rfl (pi_range1 rfl T.b_range (pa_cons (pv 1) pa_nil)) (pg_name (i := 3) sc_law_word.nd rfl (Or.inl rfl))
      (pss_one (ps_asg (pe_op op_addA (pv 2) (pe_c0 d_law_pick hr (by decide) (pa_cons (pv 0) (pa_cons (pe_lc (own := [("letter", 4)]) (g := gName 4) rfl sc_law_word.nd (pi_str (pe_S (w := [65, 66, 67, 68, 97, 98, 99, 100]) (by decide +kernel))) (blkOk_by (N := ["pen", "many", "letters", "turn", "letter"]) (sc := defScope st_law_word) (by decide +kernel)) (fun _ _ _ _ _ => (pg_name (i := 4) sc_law_word.nd rfl (Or.inl rfl))) (fun _ _ _ _ _ => (pts_one (PW.pt (pw_or (pt_cmpR (op_eqK (K := K) hu) (pv 2) (pe_S (w := []) (by decide +kernel)) (nomark _)) (pw_or1 (pt_cmpR (op_neK (K := K) hu) (pe_ix (ix_seqK (K := K)) (pv 2) (pe_un un_neg pe_int) (fun _ _ => rfl)) (pe_c0 d_law_other hr (by decide) (pa_cons (pv 4) pa_nil)) (nomark _))))))) (fun _ _ _ _ _ => (pv 4))) pa_nil)))) (pg_name (i := 2) sc_law_word.nd rfl (Or.inr rfl)))))
      (pss_one (ps_ret (pv 2))))), ?_⟩
    walk_at "go"
    refine ⟨_, rfl, by omega, by omega, ?_⟩
    rw [Int.toNat_natCast]
    refine for_it walk_range0 (fun i σ H' => ∃ w v1 v2, Good w ∧ w.length = i ∧ KeepB P H H' ∧ PenAt P (n + i) H' ∧ σ = [some (.ref P.p), some (.int (m : Nat)), some (.str (S w)), v1, v2]) ⟨[], _, _, rfl, rfl, KeepB.refl, hP, rfl⟩ (fun _ _ _ _ _ => trivial) ?_ ?_
    · rintro i x σ H1 H2 hi ⟨w, v1, v2, hg, hl, k1, hP1, rfl⟩ ⟨rfl, hx⟩
      have him : i < m := by simpa using hi
      walk_at "go"
      intro Dl hDl
      have hla := good_L hg
      obtain ⟨nD1, nD2⟩ := hP1.ne_new hDl
      refine lcG (its := lets.map fun c => V.str (S [c])) walk_S (fun j acc H' => KeepB P H2 H' ∧ PenAt P (n + i) H' ∧ acc = ((lets.take j).filter fun c => decide (w = []) || !decide (lastL w = [und c])).map fun c => V.str (S [c])) ⟨KeepB.of_same (same_upd hDl), hP1.same (same_upd hDl), rfl⟩ (fun _ _ _ _ _ _ => trivial) ?_ ?_
      · rintro j y acc H3 hy ⟨k3, hP3, rfl⟩ e3
        obtain ⟨c, hc, rfl⟩ : ∃ c, lets[j]? = some c ∧ y = .str (S [c]) := by
          rw [List.getElem?_map] at hy
          cases e : lets[j]? with
          | none => rw [e] at hy; cases hy
          | some c => rw [e] at hy; exact ⟨c, rfl, (Option.some.inj hy).symm⟩
        have hcL : isL c = true := isL_iff.mpr (List.mem_of_getElem? hc)
        have nh : H2 Dl = none := hDl
        have yes : (decide (w = []) || !decide (lastL w = [und c])) = true → ∃ acc, H3 Dl = some (.lst acc) ∧ acc.length < sizeLine ∧ ∃ a2, (KeepB P H2 (upd H3 Dl (.lst (acc ++ [.str (S [c])]))) ∧ PenAt P (n + i) (upd H3 Dl (.lst (acc ++ [.str (S [c])]))) ∧
            a2 = ((lets.take (j + 1)).filter fun c => decide (w = []) || !decide (lastL w = [und c])).map fun c => V.str (S [c])) ∧ upd H3 Dl (.lst (acc ++ [.str (S [c])])) Dl = some (.lst a2) := fun e => by
          refine lcFin (Pv := fun a2 H' => KeepB P H2 H' ∧ PenAt P (n + i) H' ∧ a2 = ((lets.take (j + 1)).filter fun c => decide (w = []) || !decide (lastL w = [und c])).map fun c => V.str (S [c])) e3 ?_ ⟨k3.mut nh, ?_, ?_⟩
          · rw [List.length_map]
            exact Nat.le_trans (List.length_filter_le _ _) (by rw [List.length_take]; simp; omega)
          · obtain ⟨s', r', h1, h2, h3, h4⟩ := hP3.ex
            exact ⟨⟨s', r', h1, h2, h3, by rw [upd_ne nD1]; exact h4⟩, by rw [upd_ne nD2]; exact hP3.cells, hP3.len, hP3.ne⟩
          · rw [take_snoc hc, List.filter_append, List.map_append, List.filter_cons, if_pos e]
            rfl
        have no : (decide (w = []) || !decide (lastL w = [und c])) = false → ∃ a2, (KeepB P H2 H3 ∧ PenAt P (n + i) H3 ∧ a2 = ((lets.take (j + 1)).filter fun c => decide (w = []) || !decide (lastL w = [und c])).map fun c => V.str (S [c])) ∧ H3 Dl = some (.lst a2) := fun e => by
          refine ⟨_, ⟨k3, hP3, ?_⟩, e3⟩
          rw [take_snoc hc, List.filter_append, List.map_append, List.filter_cons, if_neg (by rw [e]; exact Bool.false_ne_true)]
          simp
        walk_at "go"
        refine r_ib (fun e => ?_) (fun e => ?_)
        · walk_at "go"
          exact yes (by rw [e]; rfl)
        · have hw : w ≠ [] := of_decide_eq_false e
          obtain ⟨d, h1, h2⟩ := lastL_one hw
          walk_at "go"
          refine r_ixS (by omega) h2 ?_
          walk_at "go"
          refine ⟨c, rfl, hcL, ?_⟩
          walk_at "go"
          have ef : (decide (w = []) || !decide (lastL w = [und c])) = !decide ([d] = [und c]) := by rw [e, h1, Bool.false_or]
          refine r_ib (fun e2 => ?_) (fun e2 => ?_)
          · walk_at "go"
            exact yes (by rw [ef, e2])
          · exact no (by rw [ef, e2])
      · rintro acc H3 ⟨k3, hP3, rfl⟩ e3
        walk_at "go"
        have hpos : ∃ c ∈ lets, (decide (w = []) || !decide (lastL w = [und c])) = true := by
          by_cases hd : lastL w = [und 65]
          · refine ⟨66, by decide, ?_⟩
            rw [hd]
            simp [und]
          · refine ⟨65, by decide, ?_⟩
            simp [hd]
        refine ⟨P, n + i, Dl, _, rfl, hP3, by omega, e3, nD1.symm, ?_, ?_, fun j x H4 hx k4 hP4 => ?_⟩
        · rw [List.length_map]
          obtain ⟨c, h1, h2⟩ := hpos
          exact List.length_pos_of_mem (List.mem_filter.mpr ⟨by simpa using h1, h2⟩)
        · rw [List.length_map]
          exact Nat.le_trans (List.length_filter_le _ _) (by simp)
        · obtain ⟨c, hc, rfl⟩ := List.mem_map.mp (List.mem_of_getElem? hx)
          obtain ⟨hc1, hc2⟩ := List.mem_filter.mp hc
          have hcL : isL c = true := isL_iff.mpr (by simpa using hc1)
          refine r_addS (by simp; omega) ?_
          walk_at "go"
          refine ⟨w ++ [c], _, _, good_snoc.mpr ⟨hg, hcL, fun z => ?_⟩, by simp [hl], (k1.trans k3).trans k4, hP4, rfl⟩
          have hall := allL_last hla
          cases hll : lastL w with
          | nil => rw [hll] at z; cases z
          | cons d r =>
            have hl1 := lastL_le w
            rw [hll] at hl1 z hall
            have hr : r = [] := List.eq_nil_of_length_eq_zero (by simpa using hl1)
            subst hr
            have hdL := hall d List.mem_cons_self
            have e1 : c = und d := by simpa using z
            have hw : w ≠ [] := fun e => by rw [e] at hll; cases hll
            rw [hll, e1, und_und hdL] at hc2
            simp [hw] at hc2
    · rintro σ H' ⟨w, v1, v2, hg, hl, k1, hP1, rfl⟩
      walk_at "go"
      have hl : w.length = m := by simpa using hl
      exact q w H' hg hl k1 (by rw [List.length_map, List.length_range] at hP1; exact hP1)
end
end Cs


set_option Elab.async false
set_option linter.all false
set_option maxRecDepth 100000
set_option maxHeartbeats 4000000
namespace Cs
open PySem PySem.Spec PyProof.Rows L2
local macro_rules | `(tactic| walk_at "two") => `(tactic| with_reducible (first
  | refine r_seq ?_ | refine r_nx ?_ | refine r_rt ?_ | refine r_ct ?_ | refine r_bk ?_ | refine r_asg ?_ | refine r_gname ?_ | refine r_ret ?_ | refine r_drop ?_ | refine r_next ?_ | refine r_retN ?_ | refine r_fld ?_ | refine r_gsub ?_ | refine r_brk ?_ | refine r_cont ?_
  | refine r_var rfl ?_ | refine r_c ?_ | refine r_op ?_ | refine r_un ?_ | refine r_test ?_ | refine r_tB ?_ | refine r_bl ?_ | refine r_blv ?_
  | refine r_cons ?_ | refine r_nil ?_ | refine r_lc ?_ | refine r_yes ?_ | refine r_iLT0 ?_ | refine r_iEnumS ?_ | refine r_iEnum ?_ | refine r_iStr ?_ | refine r_iList ?_ | refine r_iRng ?_ | refine r_iStrS ?_ | refine r_iStrE ?_ | refine r_cb ?_ | refine r_call0 ?_ | refine r_callS ?_ | refine r_callK ?_ | refine r_tup ?_ | refine r_lst ?_ | refine r_make0 ?_ | refine r_attr ?_
  | refine r_sl ?_ | refine r_nopart ?_ | refine r_part ?_ | refine r_parti ?_ | refine r_tyS ?_ | refine r_bm0 ?_ | refine r_bm ?_ | refine r_dnew ?_
  | refine r_and ?_ | refine r_or ?_ | refine r_not ?_ | refine r_andV ?_ | refine r_orV ?_ | refine r_notV ?_ | refine r_if ?_ | refine r_ift ?_ | refine r_iff ?_ | refine r_revL ?_ | refine r_ntt ?_ | refine r_nff ?_ | refine r_itup ?_ | refine r_chain ?_
  | refine r_I0 ?_ | refine r_U ?_ | refine r_addI ?_ | refine r_eqI ?_ | refine r_neI ?_ | refine r_eqS ?_ | refine r_neS ?_ | refine r_eqB ?_ | refine r_neB ?_ | refine r_inS ?_ | refine r_niS ?_ | refine r_int1 ?_ | refine r_abs ?_ | refine r_isN ?_ | refine r_notN ?_))
local macro_rules | `(tactic| walk_at "one") => `(tactic| first | walk_at "two" | with_reducible (first | refine r_ifs ?_ | refine r_forE ?_))
local macro_rules | `(tactic| walk_at "go") => `(tactic| repeat walk_at "one")
local macro_rules | `(tactic| walk_at "gp") => `(tactic| repeat walk_at "two")

section
variable {P : Program} {w : World} {K : PySem.W.Frag} {mg : Str → Option Value} {base : Heap} {D : Ad}

abbrev st_law_struck : Stmt := top 41
theorem sc_law_struck : FnScope ["letters", "found", "letter"] ["letters"] (defScope st_law_struck) := ⟨rfl, rfl, rfl, by decide +kernel, rfl, by decide +kernel, by decide +kernel⟩
def sp_law_struck (K : PySem.W.Frag) (D : Ad) : Sp := fun vs H Q _ => ∃ w, vs = [.str (S w)] ∧ AllL w ∧ w.length ≤ 100000 ∧ ∀ v, Good v → v.length ≤ w.length → Q (.str (S v)) H
theorem ok_law_struck {f : Addr} {fd : FuncData} (F : Fun K "_law_struck" "_law_struck" st_law_struck f fd) (T : Txt P w K mg base D) (d_law_other : CalN P w K mg base 1 "_law_other" (sp_law_other K D)) : FnOk P w K mg base CX0 2 f fd ["letters"] (sp_law_struck K D) := by
  refine F.ok sc_law_struck (fun vs H Q E h => ?_) (fun cdv A outer s H vs Q E hr h => ?_)
  · obtain ⟨w, rfl, _⟩ := h
    rfl
  · obtain ⟨w, rfl, hw, hl, q⟩ := h
    have hu := hr.units
    refine ⟨_, (pss_cons (ps_asg (pe_S (w := []) (by decide +kernel)) (pg_name (i := 1) sc_law_struck.nd rfl (Or.inl rfl)))
      (pss_cons (ps_for PassesOwn.never rfl (pi_str (pv 0)) (pg_name (i := 2) sc_law_struck.nd rfl (Or.inl rfl))
      (pss_one (ps_asg (pe_ifExp (PW.pt (pw_and (pt_cmpR (op_neK (K := K) hu) (pv 1) (pe_S (w := []) (by decide +kernel)) (nomark _)) (pw_and1 (pt_cmpR (op_eqK (K := K) hu) (pe_ix (ix_seqK (K := K)) (pv 1) (pe_un un_neg pe_int) (fun _ _ => rfl)) (pe_c0 d_law_other hr (by decide) (pa_cons (pv 2) pa_nil)) (nomark _))))) (pe_slice (sl_anyK (K := K)) (pv 1) po_none (po_some (pe_un un_neg pe_int))) (pe_op op_addA (pv 1) (pv 2))) (pg_name (i := 1) sc_law_struck.nd rfl (Or.inl rfl)))))
      (pss_one (ps_ret (pv 1))))), ?_⟩
    walk_at "go"
    refine for_S (fun i σ H' => H' = H ∧ ∃ v v1, Good v ∧ v.length ≤ i ∧ σ = [some (.str (S w)), some (.str (S v)), v1]) ⟨rfl, [], _, rfl, Nat.le_refl _, rfl⟩ ?_ ?_
    · rintro i c σ H1 hc ⟨rfl, v, v1, hg, hv, rfl⟩
      have hi : i < w.length := (List.getElem?_eq_some_iff.mp hc).1
      have hcL := hw c (List.mem_of_getElem? hc)
      have add : (v = [] ∨ ∃ d, lastL v = [d] ∧ d ≠ und c) → H1 = H1 ∧ ∃ v' v1', Good v' ∧ v'.length ≤ i + 1 ∧ [some (V.str (S w)), some (V.str (S (v ++ [c]))), some (V.str (S [c]))] = [some (V.str (S w)), some (V.str (S v')), v1'] := fun h => by
        refine ⟨rfl, v ++ [c], _, good_snoc.mpr ⟨hg, hcL, fun z => ?_⟩, by simp; omega, rfl⟩
        rcases h with rfl | ⟨d, hd, hn⟩
        · cases z
        · rw [hd] at z
          have hdL : isL d = true := allL_last (good_L hg) d (by rw [hd]; exact List.mem_cons_self)
          have e : c = und d := by simpa using z
          rw [e, und_und hdL] at hn
          exact hn rfl
      walk_at "go"
      refine r_ib (fun e => ?_) (fun e => ?_)
      · have hne : v ≠ [] := by simpa using e
        obtain ⟨d, h1, h2⟩ := lastL_one hne
        walk_at "go"
        refine r_ixS (by omega) h2 ?_
        walk_at "go"
        refine ⟨c, rfl, hcL, ?_⟩
        walk_at "go"
        refine r_ib (fun e2 => ?_) (fun e2 => ?_)
        · walk_at "go"
          refine r_slS (cut_init v) (by omega) ?_
          walk_at "go"
          exact ⟨rfl, v.dropLast, some (.str (S [c])), good_init hg, by rw [List.length_dropLast]; omega, rfl⟩
        · walk_at "go"
          refine r_addS (by simp; omega) ?_
          walk_at "go"
          exact add (.inr ⟨d, h1, fun z => by rw [z] at e2; simp at e2⟩)
      · walk_at "go"
        refine r_addS (by simp; omega) ?_
        walk_at "go"
        exact add (.inl (by simpa using e))
    · rintro σ H' ⟨rfl, v, v1, hg, hv, rfl⟩
      walk_at "go"
      exact q v hg hv
abbrev st_law_twin : Stmt := top 43
theorem sc_law_twin : FnScope ["letters"] ["letters"] (defScope st_law_twin) := ⟨rfl, rfl, rfl, by decide +kernel, rfl, by decide +kernel, by decide +kernel⟩
def sp_law_twin (K : PySem.W.Frag) (D : Ad) : Sp := fun vs H Q _ => ∃ w, vs = [.str (S w)] ∧ AllL w ∧ w.length ≤ 900000 ∧ Q (if hasTw w = true then .str (S (twOf w)) else .non) H
theorem prev_one {v : List Nat} {c : Nat} (h : v ≠ []) : ∃ b, lastL v = [b] ∧ atI (v ++ [c]) (-2) = some b := by
  obtain ⟨u, b, rfl⟩ := snoc_of h
  exact ⟨b, lastL_snoc u b, atI_neg (k := 2) (by decide) (by simp) (by simp)⟩
theorem ok_law_twin {f : Addr} {fd : FuncData} (F : Fun K "_law_twin" "_law_twin" st_law_twin f fd) (T : Txt P w K mg base D) (d_law_other : CalN P w K mg base 1 "_law_other" (sp_law_other K D)) : FnOk P w K mg base CX0 2 f fd ["letters"] (sp_law_twin K D) := by
  refine F.ok sc_law_twin (fun vs H Q E h => ?_) (fun cdv A outer s H vs Q E hr h => ?_)
  · obtain ⟨w, rfl, _⟩ := h
    rfl
  · obtain ⟨w, rfl, hw, hl, q⟩ := h
    have hu := hr.units
    refine ⟨_, (pss_cons (ps_if (PW.pt (pw_or (pt_cmpR (op_eqK (K := K) hu) (pv 0) (pe_S (w := []) (by decide +kernel)) (nomark _)) (pw_or1 (PW.pt (pw_and (pt_cmpR op_gt (pe_callB (id := "len") (call_lenB (K := K)) (by rfl) T.b_len PySem.boot_len (pa_cons (pv 0) pa_nil)) pe_int (nomark _)) (pw_and1 (pt_cmpR (op_eqK (K := K) hu) (pe_ix (ix_seqK (K := K)) (pv 0) (pe_un un_neg pe_int) (fun _ _ => rfl)) (pe_ix (ix_seqK (K := K)) (pv 0) (pe_un un_neg pe_int) (fun _ _ => rfl)) (nomark _))))))))
      (pss_one (ps_ret pe_non))
      pss_nil)
      (pss_one (ps_ret (pe_op op_addA (pe_slice (sl_anyK (K := K)) (pv 0) po_none (po_some (pe_un un_neg pe_int))) (pe_c0 d_law_other hr (by decide) (pa_cons (pe_ix (ix_seqK (K := K)) (pv 0) (pe_un un_neg pe_int) (fun _ _ => rfl)) pa_nil)))))), ?_⟩
    walk_at "go"
    refine r_ib (fun e => ?_) (fun e => ?_)
    · have e : w = [] := of_decide_eq_true e
      subst e
      walk_at "go"
      exact q
    · have hne : w ≠ [] := of_decide_eq_false e
      obtain ⟨v, c, rfl⟩ := snoc_of hne
      rw [hasTw_snoc, twOf_snoc] at q
      have hlast : atI (v ++ [c]) (-1) = some c := atI_neg (k := 1) (by decide) (by simp) (by simp)
      have rest : lastL v ≠ [c] → Q (.str (S (v ++ [und c]))) H := fun h => by
        rw [if_pos (by simp; exact fun z => h z.symm)] at q
        exact q
      walk_at "go"
      refine q_lenS (by omega) ?_
      walk_at "go"
      refine r_ib (fun e1 => ?_) (fun e1 => ?_)
      · have e1 := of_decide_eq_true e1
        have hv : v ≠ [] := fun z => by subst z; simp at e1
        obtain ⟨b, h1, h2⟩ := prev_one (c := c) hv
        walk_at "go"
        refine r_ixS (by omega) hlast ?_
        walk_at "go"
        refine r_ixS (by omega) h2 ?_
        walk_at "go"
        refine r_ib (fun e2 => ?_) (fun e2 => ?_)
        · walk_at "go"
          rw [h1] at q
          rw [if_neg (by simpa using e2)] at q
          exact q
        · walk_at "go"
          refine r_slS (cut_init _) (by omega) ?_
          walk_at "go"
          refine r_ixS (by omega) hlast ?_
          walk_at "go"
          refine ⟨c, rfl, hw c (by simp), ?_⟩
          rw [List.dropLast_concat]
          refine r_addS (by simp at hl ⊢; omega) ?_
          exact rest (by rw [h1]; intro z; rw [z] at e2; simp at e2)
      · have e1 := of_decide_eq_false e1
        have hv : v = [] := by
          apply List.eq_nil_of_length_eq_zero
          simp at e1
          omega
        subst hv
        walk_at "go"
        refine r_slS (cut_init _) (by omega) ?_
        walk_at "go"
        refine r_ixS (by omega) hlast ?_
        walk_at "go"
        refine ⟨c, rfl, hw c (by simp), ?_⟩
        rw [List.dropLast_concat]
        refine r_addS (by simp) ?_
        exact rest (by simp [lastL])
abbrev st_law_are_apart : Stmt := top 44
theorem sc_law_are_apart : FnScope ["rows", "at", "row", "place", "other"] ["rows"] (defScope st_law_are_apart) := ⟨rfl, rfl, rfl, by decide +kernel, rfl, by decide +kernel, by decide +kernel⟩
def sp_law_are_apart (K : PySem.W.Frag) (D : Ad) : Sp := fun vs H Q _ => ∃ a rows, vs = [.ref a] ∧ SqL K H a (rows.map fun u => V.str (S u)) ∧ (∀ u ∈ rows, u.length ≤ 100000) ∧ ∀ b H', Same H H' → (b = true ↔ Apart rows) → Q (.bl b) H'
theorem take_pre (a b : List Nat) : decide (a.take b.length = b) = b.isPrefixOf a := by
  rw [Bool.eq_iff_iff, decide_eq_true_iff, List.isPrefixOf_iff_prefix, List.prefix_iff_eq_take]
  exact ⟨fun h => h.symm, fun h => h.symm⟩
theorem ok_law_are_apart {f : Addr} {fd : FuncData} (F : Fun K "_law_are_apart" "_law_are_apart" st_law_are_apart f fd) (T : Txt P w K mg base D) : FnOk P w K mg base CX0 1 f fd ["rows"] (sp_law_are_apart K D) := by
  refine F.ok sc_law_are_apart (fun vs H Q E h => ?_) (fun cdv A outer s H vs Q E hr h => ?_)
  · obtain ⟨a, rows, rfl, _⟩ := h
    rfl
  · obtain ⟨a, rows, rfl, ha, hbd, q⟩ := h
    have hu := hr.units
    refine ⟨_, (pss_cons (ps_for PassesOwn.never rfl (pi_enum (by rfl) T.b_enumerate (pa_cons (pv 0) pa_nil)) (pg_tup (by rfl) (pgs_cons (pg_name (i := 1) sc_law_are_apart.nd rfl (Or.inl rfl)) (pgs_cons (pg_name (i := 2) sc_law_are_apart.nd rfl (Or.inl rfl)) pgs_nil)))
      (pss_one (ps_for PassesOwn.never rfl (pi_enum (by rfl) T.b_enumerate (pa_cons (pv 0) pa_nil)) (pg_tup (by rfl) (pgs_cons (pg_name (i := 3) sc_law_are_apart.nd rfl (Or.inl rfl)) (pgs_cons (pg_name (i := 4) sc_law_are_apart.nd rfl (Or.inl rfl)) pgs_nil)))
      (pss_one (ps_if (PW.pt (pw_and (pt_cmpR (op_neK (K := K) hu) (pv 1) (pv 3) (nomark _)) (pw_and1 (pt_cmpR (op_eqK (K := K) hu) (pe_slice (sl_anyK (K := K)) (pv 2) po_none (po_some (pe_callB (id := "len") (call_lenB (K := K)) (by rfl) T.b_len PySem.boot_len (pa_cons (pv 4) pa_nil)))) (pv 4) (nomark _)))))
      (pss_one (ps_ret pe_bl))
      pss_nil)))))
      (pss_one (ps_ret pe_bl))), ?_⟩
    walk_at "go"
    refine ⟨a, _, rfl, ha, ?_⟩
    refine for_enumL (xs := rows.map fun u => V.str (S u)) (fun i σ H' => Same H H' ∧ (∀ (i' j : Nat) (x y : List Nat), i' < i → rows[i']? = some x → rows[j]? = some y → i' ≠ j → y.isPrefixOf x = false) ∧ ∃ v1 v2 v3 v4, σ = [some (.ref a), v1, v2, v3, v4])
      ⟨Same.refl _, fun _ _ _ _ h => by omega, _, _, _, _, rfl⟩ (fun i σ H' _ h => sqL_same h.1 ha) ?_ ?_
    · rintro i x p σ H1 hx ⟨s1, hi, v1, v2, v3, v4, rfl⟩ hp
      obtain ⟨r, hr1, rfl⟩ : ∃ r, rows[i]? = some r ∧ x = .str (S r) := by
        rw [List.getElem?_map] at hx
        cases e : rows[i]? with
        | none => rw [e] at hx; cases hx
        | some r => rw [e] at hx; exact ⟨r, rfl, (Option.some.inj hx).symm⟩
      have s2 : Same H (upd H1 p (.tup [.int (i : Nat), .str (S r)])) := s1.trans (same_upd hp)
      refine r_up2 (SqT.of upd_same) rfl ?_
      walk_at "go"
      refine ⟨a, _, rfl, sqL_same s2 ha, ?_⟩
      refine for_enumL (xs := rows.map fun u => V.str (S u)) (fun j σ H' => Same H H' ∧ (∀ (j' : Nat) (y : List Nat), j' < j → rows[j']? = some y → i ≠ j' → y.isPrefixOf r = false) ∧ ∃ v3 v4, σ = [some (.ref a), some (.int (i : Nat)), some (.str (S r)), v3, v4])
        ⟨s2, fun _ _ h => by omega, v3, v4, rfl⟩ (fun i σ H' _ h => sqL_same h.1 ha) ?_ ?_
      · rintro j y p2 σ H2 hy ⟨s3, hj, v3, v4, rfl⟩ hp2
        obtain ⟨o, ho1, rfl⟩ : ∃ r, rows[j]? = some r ∧ y = .str (S r) := by
          rw [List.getElem?_map] at hy
          cases e : rows[j]? with
          | none => rw [e] at hy; cases hy
          | some r => rw [e] at hy; exact ⟨r, rfl, (Option.some.inj hy).symm⟩
        have lr := hbd r (List.mem_of_getElem? hr1)
        have lo := hbd o (List.mem_of_getElem? ho1)
        have s4 : Same H (upd H2 p2 (.tup [.int (j : Nat), .str (S o)])) := s3.trans (same_upd hp2)
        refine r_up2 (SqT.of upd_same) rfl ?_
        walk_at "go"
        have fin : (∀ (j' : Nat) (y : List Nat), j' < j + 1 → rows[j']? = some y → i ≠ j' → y.isPrefixOf r = false) → (Same H (upd H2 p2 (.tup [.int (j : Nat), .str (S o)])) ∧ (∀ (j' : Nat) (y : List Nat), j' < j + 1 → rows[j']? = some y → i ≠ j' → y.isPrefixOf r = false) ∧
            ∃ w3 w4, (([some (V.ref a), some (.int (i : Nat)), some (.str (S r)), v3, v4].set 3 (some (.int (j : Nat)))).set 4 (some (.str (S o)))) = [some (V.ref a), some (.int (i : Nat)), some (.str (S r)), w3, w4]) := fun h => ⟨s4, h, some (.int (j : Nat)), some (.str (S o)), rfl⟩
        refine r_ib (fun e => ?_) (fun e => ?_)
        · have e : i ≠ j := fun z => by subst z; simp at e
          walk_at "go"
          refine q_lenS (by omega) ?_
          walk_at "go"
          refine r_slS (cut_to r o.length) (by omega) ?_
          walk_at "go"
          rw [take_pre]
          refine r_ib (fun e1 => ?_) (fun e1 => ?_)
          · walk_at "go"
            refine q false _ s4 ⟨fun z => (nomatch z), fun z => ?_⟩
            rw [z i j r o hr1 ho1 e] at e1
            cases e1
          · walk_at "go"
            refine fin fun j' y hlt hy' hne => ?_
            by_cases ej : j' = j
            · subst ej
              rw [ho1] at hy'
              cases hy'
              exact e1
            · exact hj j' y (by omega) hy' hne
        · have e : i = j := by
            have z : decide ((i : Int) = (j : Int)) = true := by simpa using e
            have := of_decide_eq_true z
            omega
          walk_at "go"
          refine fin fun j' y hlt hy' hne => hj j' y (by omega) hy' hne
      · rintro σ H' ⟨s3, hj, v3, v4, rfl⟩
        refine ⟨s3, fun i' j x y hlt hx' hy' hne => ?_, _, _, _, _, rfl⟩
        by_cases ei : i' = i
        · subst ei
          rw [hr1] at hx'
          cases hx'
          exact hj j y (by rw [List.length_map]; exact (List.getElem?_eq_some_iff.mp hy').1) hy' hne
        · exact hi i' j x y (by omega) hx' hy' hne
    · rintro σ H' ⟨s1, hi, v1, v2, v3, v4, rfl⟩
      walk_at "go"
      refine q true _ s1 ⟨fun _ => fun i j x y hx hy hne => ?_, fun _ => rfl⟩
      exact hi i j x y (by rw [List.length_map]; exact (List.getElem?_eq_some_iff.mp hx).1) hx hy hne
end
end Cs


set_option Elab.async false
set_option linter.all false
set_option maxRecDepth 100000
set_option maxHeartbeats 4000000
namespace Cs
open PySem PySem.Spec PyProof.Rows L2
local macro_rules | `(tactic| walk_at "two") => `(tactic| with_reducible (first
  | refine r_seq ?_ | refine r_nx ?_ | refine r_rt ?_ | refine r_ct ?_ | refine r_bk ?_ | refine r_asg ?_ | refine r_gname ?_ | refine r_ret ?_ | refine r_drop ?_ | refine r_next ?_ | refine r_retN ?_ | refine r_fld ?_ | refine r_gsub ?_ | refine r_brk ?_ | refine r_cont ?_
  | refine r_var rfl ?_ | refine r_c ?_ | refine r_op ?_ | refine r_un ?_ | refine r_test ?_ | refine r_tB ?_ | refine r_bl ?_ | refine r_blv ?_
  | refine r_cons ?_ | refine r_nil ?_ | refine r_lc ?_ | refine r_yes ?_ | refine r_iLT0 ?_ | refine r_iEnumS ?_ | refine r_iEnum ?_ | refine r_iStr ?_ | refine r_iList ?_ | refine r_iRng ?_ | refine r_iStrS ?_ | refine r_iStrE ?_ | refine r_cb ?_ | refine r_call0 ?_ | refine r_callS ?_ | refine r_callK ?_ | refine r_tup ?_ | refine r_lst ?_ | refine r_make0 ?_ | refine r_attr ?_
  | refine r_sl ?_ | refine r_nopart ?_ | refine r_part ?_ | refine r_parti ?_ | refine r_tyS ?_ | refine r_bm0 ?_ | refine r_bm ?_ | refine r_dnew ?_
  | refine r_and ?_ | refine r_or ?_ | refine r_not ?_ | refine r_andV ?_ | refine r_orV ?_ | refine r_notV ?_ | refine r_if ?_ | refine r_ift ?_ | refine r_iff ?_ | refine r_revL ?_ | refine r_ntt ?_ | refine r_nff ?_ | refine r_itup ?_ | refine r_chain ?_
  | refine r_I0 ?_ | refine r_U ?_ | refine r_addI ?_ | refine r_eqI ?_ | refine r_neI ?_ | refine r_eqS ?_ | refine r_neS ?_ | refine r_eqB ?_ | refine r_neB ?_ | refine r_inS ?_ | refine r_niS ?_ | refine r_int1 ?_ | refine r_abs ?_ | refine r_isN ?_ | refine r_notN ?_))
local macro_rules | `(tactic| walk_at "one") => `(tactic| first | walk_at "two" | with_reducible (first | refine r_ifs ?_ | refine r_forE ?_))
local macro_rules | `(tactic| walk_at "go") => `(tactic| repeat walk_at "one")
local macro_rules | `(tactic| walk_at "gp") => `(tactic| repeat walk_at "two")

section
variable {P : Program} {w : World} {K : PySem.W.Frag} {mg : Str → Option Value} {base : Heap} {D : Ad}

-- T.k_bool_Word T.c_BallError T.c_BadWord T.ex_BadWord_BadWord T.xf_BadWord_at T.ex_BadWord_BallError T.c_TooMany T.c_BadNumber T.ex_BadNumber_BadWord T.ex_BadNumber_BadNumber T.ex_TooMany_BadWord T.ex_TooMany_BadNumber T.ex_TooMany_TooMany T.xf_BadNumber_part T.xf_TooMany_what T.xf_TooMany_most T.b_bool T.k_tuple_Word T.k_str_Word T.k_int_Word T.k_list_Word T.k_dict_Word T.k_NoneType_Word T.k_Word_int T.k_Word_bool T.k_Word_str T.k_Word_list T.k_Word_tuple
theorem lk0 {k : Str} {v : V} {r : List (Str × V)} : List.lookup k ((k, v) :: r) = some v := by rw [List.lookup_cons, beq_self_eq_true]
theorem lk1 {k j : Str} {v u : V} {r : List (Str × V)} (h : (k == j) = false) (q : r.lookup k = some v) : List.lookup k ((j, u) :: r) = some v := by rw [List.lookup_cons, h]; exact q
/-- ('word', 0) comes -/
def TwQ (Q : VK) (H : Hp) : Prop := ∀ p H', Same H H' → H p = none → H' p = some (.tup [.str (S [119, 111, 114, 100]), .int 0]) → Q (.ref p) H'
abbrev st_law_told : Stmt := top 45
theorem sc_law_told : FnScope ["which", "value", "error", "found"] ["which", "value"] (defScope st_law_told) := ⟨rfl, rfl, rfl, by decide +kernel, rfl, by decide +kernel, by decide +kernel⟩
def sp_law_told (K : PySem.W.Frag) (D : Ad) : Sp := fun vs H Q _ => ∃ (wh : Int) (x : V) (b : Bool), vs = [.int wh, x] ∧
  ((wh = 0 ∧ IsK K H x (.ref D.Word) b ∧ (b = false → TwQ Q H) ∧ (b = true → ∃ p dx u, x = .ref p ∧ H p = some (.ins D.Word dx (wf u)) ∧ Good u ∧ u.length ≤ 4000 ∧ (hasTw u = false → TwQ Q H) ∧ (hasTw u = true → ∀ H', Same H H' → Q (.str (S (twOf u))) H'))) ∨
   (wh = 1 ∧ IsT K H x [.type "list", .type "tuple"] b ∧ (b = false → TwQ Q H) ∧
    (b = true → ∃ a xs bs, x = .ref a ∧ SqA K H a xs ∧ xs.length ≤ 1000000 ∧ WsB K D H xs bs ∧ ((decide (xs.length ≤ 30) && bs.all id) = false → TwQ Q H) ∧
      ((decide (xs.length ≤ 30) && bs.all id) = true → ∃ rows, Ws D H xs rows ∧ ∀ v H', Same H H' → (v = true ↔ Apart rows) → Q (.bl v) H'))))
theorem tw_catch (T : Txt P w K mg base D) {H H' : Hp} {Q : VK} {nx bk ct : L2.St → Hp → Prop} {l : List Clause} {Wout : WX} {v0 v1 v3 : Option V} (hs : Same H H') (q : TwQ Q H) :
    Rse (WE (wTry K Wout (Ends.mk nx Q bk ct) ((Value.ref D.BadWord, some 2, fun a => tRet (tTup (tCons (tC (.str (S [119, 111, 114, 100]))) (tCons (tAttr K "at" (tVar 2)) tNil)))) :: l)) [v0, v1, none, v3]) H' D.BadWord [("at", .int 0)] := by
  intro d hd
  refine ⟨true, T.ex_BadWord_BadWord, fun _ a ha => ?_, fun z => nomatch z⟩
  have nda : d ≠ a := fun z => by rw [z, upd_same] at ha; cases ha
  have s1 : Same H' (upd H' d (.xd [("at", .int 0)])) := same_upd hd
  walk_at "go"
  refine .inr ⟨a, D.BadWord, d, _, _, rfl, T.xf_BadWord_at, upd_same, by rw [upd_ne nda]; exact upd_same, lk0, ?_⟩
  walk_at "go"
  refine r_sz (by show 2 ≤ 1000000; decide) fun p hp => ?_
  walk_at "go"
  have s2 := hs.trans (s1.trans (same_upd (o := EXV (.ref D.BadWord) (some d) a) ha))
  exact q p _ (s2.trans (same_upd hp)) (s2.free hp) upd_same
theorem ok_law_told {f : Addr} {fd : FuncData} (F : Fun K "_law_told" "_law_told" st_law_told f fd) (T : Txt P w K mg base D) (d_are_apart : CalX P w K mg base 2 "are_apart" (sp_are_apart K D)) (d_twin : CalX P w K mg base 4 "twin" (sp_twin K D)) : FnOk P w K mg base CX0 5 f fd ["which", "value"] (sp_law_told K D) := by
  refine F.ok sc_law_told (fun vs H Q E h => ?_) (fun cdv A outer s H vs Q E hr h => ?_)
  · obtain ⟨wh, x, b, rfl, _⟩ := h
    rfl
  · obtain ⟨wh, x, b, rfl, h⟩ := h
    have hu := hr.units
    refine ⟨_, (pss_cons (ps_tryE rfl rfl sc_law_told.nd rfl takes0 (fun W pn xe tk po =>
      (pss_one (ps_asg (pe_ifExp (pt_cmpR (op_eqK (K := K) hu) (pv 0) pe_int (nomark _)) (pe_cS d_twin hr (by decide) tk (pa_cons (pv 1) pa_nil)) (pe_cS d_are_apart hr (by decide) tk (pa_cons (pv 1) pa_nil))) (pg_name (i := 3) sc_law_told.nd rfl (Or.inl rfl)))))
      (.as (i := 2) ⟨rfl, by decide, .inl T.c_BadWord⟩ rfl rfl (fun a pn => (pss_one (ps_ret (pe_tup (pa_cons (pe_S (w := [119, 111, 114, 100]) (by decide +kernel)) (pa_cons (pe_attrK (K := K) (pv 2)) pa_nil)))))) (.cons ⟨rfl, by decide, .inl T.c_BallError⟩ (fun a pn => (pss_one (ps_ret (pe_S (w := [97, 110, 111, 116, 104, 101, 114, 32, 101, 114, 114, 111, 114]) (by decide +kernel))))) .nil)))
      (pss_one (ps_ret (pe_ifExp (pt_val (pe_callB (id := "isinstance") (call_isiEK (K := K)) (by rfl) T.b_isinstance (by decide +kernel) (pa_cons (pv 3) (pa_cons (pe_glob (v := .ref D.Word) rfl T.c_Word rfl) pa_nil)))) (pe_attrK (K := K) (pv 3)) (pv 3))))), ?_⟩
    walk_at "go"
    refine r_ib (fun e => ?_) (fun e => ?_)
    · have e := of_decide_eq_true e
      rcases h with ⟨_, h1, h2, h3⟩ | ⟨z, _⟩
      · walk_at "go"
        refine ⟨x, b, rfl, h1, fun e => tw_catch T (Same.refl _) (h2 e), fun e => ?_⟩
        obtain ⟨p, dx, u, rfl, hp, hg, hl, h4, h5⟩ := h3 e
        refine ⟨p, dx, u, rfl, hp, hg, hl, fun e => tw_catch T (Same.refl _) (h4 e), fun e2 q dx' H1 s1 hq hq1 => ?_⟩
        walk_at "go"
        refine r_isK (.own D.Word) (isW T hq1) ?_
        walk_at "go"
        refine q_letters T hq1 ?_
        exact h5 e2 H1 s1
      · omega
    · have e := of_decide_eq_false e
      rcases h with ⟨z, _⟩ | ⟨_, h1, h2, h3⟩
      · omega
      · walk_at "go"
        refine ⟨x, b, rfl, h1, fun e H' s => tw_catch T s (h2 e), fun e => ?_⟩
        obtain ⟨a, xs, bs, rfl, ha, hl, hw, h4, h5⟩ := h3 e
        refine ⟨a, xs, bs, rfl, ha, hl, hw, fun e H' s => tw_catch T s (h4 e), fun e => ?_⟩
        obtain ⟨rows, hr, q⟩ := h5 e
        refine ⟨rows, hr, fun v H1 s1 hv => ?_⟩
        walk_at "go"
        refine r_isK (.own D.Word) (isK ty_bl T.k_bool_Word) ?_
        walk_at "go"
        exact q v H1 s1 hv
abbrev st_law_rows : Stmt := top 46
theorem sc_law_rows : FnScope ["pen", "rows", "turn", "way", "old"] ["pen"] (defScope st_law_rows) := ⟨rfl, rfl, rfl, by decide +kernel, rfl, by decide +kernel, by decide +kernel⟩
def sp_law_rows (K : PySem.W.Frag) (D : Ad) : Sp := fun vs H Q _ => ∃ (P : Pen) (n : Nat), vs = [.ref P.p] ∧ PenAt P n H ∧ n ≤ 90000 ∧
  ∀ a (rows : List (List Nat)) H', KeepB P H H' → PenAt P (n + 100) H' → H a = none → a ≠ P.p → a ≠ P.c → H' a = some (.lst (rows.map fun u => V.str (S u))) → rows.length ≤ 7 → (∀ u ∈ rows, Good u ∧ u.length ≤ 100) → Q (.ref a) H'
theorem rows_dp {rows : List (List Nat)} (h : ∀ u ∈ rows, Good u) : Lay 8 (.list (rows.map fun u => PyData.str (S u))) := (lay_strs fun w hw => okS_L (good_L (h w hw))).mono (by decide)
theorem ok_law_rows {f : Addr} {fd : FuncData} (F : Fun K "_law_rows" "_law_rows" st_law_rows f fd) (T : Txt P w K mg base D) (d_law_draw : CalN P w K mg base 1 "_law_draw" (sp_law_draw K D)) (d_law_pick : CalN P w K mg base 2 "_law_pick" (sp_law_pick K D)) (d_law_struck : CalN P w K mg base 2 "_law_struck" (sp_law_struck K D)) (d_law_word : CalN P w K mg base 3 "_law_word" (sp_law_word K D)) : FnOk P w K mg base CX0 4 f fd ["pen"] (sp_law_rows K D) := by
  refine F.ok sc_law_rows (fun vs H Q E h => ?_) (fun cdv A outer s H vs Q E hr h => ?_)
  · obtain ⟨P, n, rfl, _⟩ := h
    rfl
  · obtain ⟨P, n, rfl, hP, hn, q⟩ := h
    have hu := hr.units
    refine ⟨_, (pss_cons (ps_asg (pe_lst pa_nil) (pg_name (i := 1) sc_law_rows.nd rfl (Or.inl rfl)))
      (pss_cons (ps_for PassesOwn.never rfl (pi_range1 rfl T.b_range (pa_cons (pe_c0 d_law_draw hr (by decide) (pa_cons (pv 0) (pa_cons pe_int pa_nil))) pa_nil)) (pg_name (i := 2) sc_law_rows.nd rfl (Or.inl rfl))
      (pss_cons (ps_asg (pe_c0 d_law_draw hr (by decide) (pa_cons (pv 0) (pa_cons pe_int pa_nil))) (pg_name (i := 3) sc_law_rows.nd rfl (Or.inl rfl)))
      (pss_one (ps_if (PW.pt (pw_and (pt_cmpR (op_eqK (K := K) hu) (pv 3) pe_int (nomark _)) (pw_and1 (pt_cmpR (op_neK (K := K) hu) (pv 1) (pe_lst pa_nil) (nomark _)))))
      (pss_cons (ps_asg (pe_c0 d_law_pick hr (by decide) (pa_cons (pv 0) (pa_cons (pv 1) pa_nil))) (pg_name (i := 4) sc_law_rows.nd rfl (Or.inl rfl)))
      (pss_one (ps_expr (pe_bmK (K := K) PySem.F.plainAttrs_list PySem.F.slot_list_append PySem.F.type_list_append mb_append (pv 1) (pa_cons (pe_slice (sl_anyK (K := K)) (pv 4) po_none (po_some (pe_c0 d_law_draw hr (by decide) (pa_cons (pv 0) (pa_cons (pe_op op_addA (pe_callB (id := "len") (call_lenB (K := K)) (by rfl) T.b_len PySem.boot_len (pa_cons (pv 4) pa_nil)) pe_int) pa_nil))))) pa_nil)))))
      (pss_one (ps_if (PW.pt (pw_and (pt_cmpR (op_eqK (K := K) hu) (pv 3) pe_int (nomark _)) (pw_and1 (pt_cmpR (op_neK (K := K) hu) (pv 1) (pe_lst pa_nil) (nomark _)))))
      (pss_cons (ps_asg (pe_c0 d_law_pick hr (by decide) (pa_cons (pv 0) (pa_cons (pv 1) pa_nil))) (pg_name (i := 4) sc_law_rows.nd rfl (Or.inl rfl)))
      (pss_one (ps_expr (pe_bmK (K := K) PySem.F.plainAttrs_list PySem.F.slot_list_append PySem.F.type_list_append mb_append (pv 1) (pa_cons (pe_c0 d_law_struck hr (by decide) (pa_cons (pe_op op_addA (pv 4) (pe_c0 d_law_word hr (by decide) (pa_cons (pv 0) (pa_cons (pe_op op_addA pe_int (pe_c0 d_law_draw hr (by decide) (pa_cons (pv 0) (pa_cons pe_int pa_nil)))) pa_nil)))) pa_nil)) pa_nil)))))
      (pss_one (ps_expr (pe_bmK (K := K) PySem.F.plainAttrs_list PySem.F.slot_list_append PySem.F.type_list_append mb_append (pv 1) (pa_cons (pe_c0 d_law_word hr (by decide) (pa_cons (pv 0) (pa_cons (pe_op op_addA pe_int (pe_c0 d_law_draw hr (by decide) (pa_cons (pv 0) (pa_cons (pe_c0 d_law_pick hr (by decide) (pa_cons (pv 0) (pa_cons (pe_lst (pa_cons pe_int (pa_cons pe_int (pa_cons pe_int pa_nil)))) pa_nil))) pa_nil)))) pa_nil))) pa_nil))))))))))
      (pss_one (ps_ret (pv 1))))), ?_⟩
    walk_at "go"
    refine r_sz (by decide) fun a ha => ?_
    walk_at "go"
    obtain ⟨na1, na2⟩ := hP.ne_new ha
    have hP1 := hP.same (same_upd (o := .lst []) ha)
    refine ⟨P, n, 8, rfl, hP1, by omega, by decide, by decide, fun d H1 h1 h2 k1 hP1 => ⟨d, rfl, by omega, by omega, ?_⟩⟩
    obtain ⟨m, rfl⟩ := Int.eq_ofNat_of_zero_le h1
    rw [Int.toNat_natCast]
    have k01 : KeepB P H H1 := (KeepB.of_same (same_upd ha)).trans k1
    have hm : m ≤ 7 := by omega
    refine for_it walk_range0 (fun i σ H' => ∃ (rows : List (List Nat)) (v1 v2 v3 : Option V), KeepB P H H' ∧ PenAt P (n + 1 + 10 * i) H' ∧ H' a = some (.lst (rows.map fun u => V.str (S u))) ∧ rows.length = i ∧ (∀ u ∈ rows, Good u ∧ u.length ≤ 4 + 2 * i) ∧ σ = [some (.ref P.p), some (.ref a), v1, v2, v3])
      ⟨[], _, _, _, k01, hP1, k1 a _ na1.symm upd_same, rfl, fun _ h => absurd h (by simp), rfl⟩ (fun _ _ _ _ _ => trivial) ?_ ?_
    · rintro i x σ H2 H2' hi ⟨rows, v1, v2, v3, k2, hP2, ha2, hl2, hr2, rfl⟩ ⟨rfl, hx⟩
      have him : i < m := by simpa using hi
      obtain rfl : x = .int (i : Nat) := by
        rw [List.getElem?_map, List.getElem?_range him] at hx
        exact (Option.some.inj hx).symm
      walk_at "go"
      refine ⟨P, _, 4, rfl, hP2, by omega, by decide, by decide, fun d H3 h1 h2 k3 hP3 => ?_⟩
      have ha3 := k3 a _ na1.symm ha2
      have hneP : a ≠ P.p := na1.symm
      have hla : ∀ u ∈ rows, Good u := fun u hu => (hr2 u hu).1
      have fin : ∀ {u : List Nat} {H4 : Hp} {k : Nat}, Good u → u.length ≤ 4 + 2 * (i + 1) → KeepB P H3 H4 → PenAt P k H4 → k ≤ n + 1 + 10 * (i + 1) → H4 a = some (.lst (rows.map fun u => V.str (S u))) →
          ∀ {v1 v2 v3 : Option V}, ∃ (rows' : List (List Nat)) (w1 w2 w3 : Option V), KeepB P H (upd H4 a (.lst ((rows.map fun u => V.str (S u)) ++ [.str (S u)]))) ∧ PenAt P (n + 1 + 10 * (i + 1)) (upd H4 a (.lst ((rows.map fun u => V.str (S u)) ++ [.str (S u)]))) ∧
            (upd H4 a (.lst ((rows.map fun u => V.str (S u)) ++ [.str (S u)]))) a = some (.lst (rows'.map fun u => V.str (S u))) ∧ rows'.length = i + 1 ∧ (∀ u ∈ rows', Good u ∧ u.length ≤ 4 + 2 * (i + 1)) ∧ [some (V.ref P.p), some (V.ref a), v1, v2, v3] = [some (V.ref P.p), some (V.ref a), w1, w2, w3] := fun {u H4 k} hg hlu k4 hP4 hk ha4 {v1 v2 v3} => by
        refine ⟨rows ++ [u], v1, v2, v3, ((k2.trans k3).trans k4).mut ha, ?_, by rw [List.map_append]; exact upd_same, by simp [hl2], fun x hx => ?_, rfl⟩
        · obtain ⟨s', r', h1, h2, h3, h4⟩ := (hP4.mono hk).ex
          exact ⟨⟨s', r', h1, h2, h3, by rw [upd_ne na1]; exact h4⟩, by rw [upd_ne na2]; exact hP4.cells, hP4.len, hP4.ne⟩
        · rcases List.mem_append.mp hx with hx | hx
          · exact ⟨(hr2 x hx).1, by have := (hr2 x hx).2; omega⟩
          · rw [List.mem_singleton.mp hx]; exact ⟨hg, hlu⟩
      have hl3 : (rows.map fun u => V.str (S u)).length ≤ 1000000 := by rw [List.length_map]; omega
      walk_at "gp"
      refine r_els (fun σ' H' => KeepB P H3 H' ∧ PenAt P (n + 1 + 10 * i + 1) H' ∧ σ' = [some (.ref P.p), some (.ref a), some (.int (i : Nat)), some (.int d), v3]) ?_ fun t3' ht3 => ?_
      · rintro σ' H4 ⟨k4, hP4, rfl⟩
        have ha4 := k4 a _ hneP ha3
        walk_at "go"
        refine r_tyL (SqL.of ha4) ?_
        walk_at "go"
        refine r_sz (by decide) fun e he => ?_
        walk_at "go"
        have k5 := KeepB.of_same (P := P) (same_upd (o := .lst [V.int 1, V.int 2, V.int 4]) he)
        have hP5 := hP4.same (same_upd (o := .lst [V.int 1, V.int 2, V.int 4]) he)
        have ne5 : e ≠ P.p := (hP4.ne_new he).1.symm
        refine ⟨P, _, e, _, rfl, hP5, by omega, upd_same, ne5, by decide, by decide, fun j x H6 hx k6 hP6 => ?_⟩
        obtain ⟨l, rfl, hl1, hl2'⟩ : ∃ l : Int, x = .int l ∧ 1 ≤ l ∧ l ≤ 4 := by
          match j, hx with
          | 0, hx => cases hx; exact ⟨1, rfl, by decide, by decide⟩
          | 1, hx => cases hx; exact ⟨2, rfl, by decide, by decide⟩
          | 2, hx => cases hx; exact ⟨4, rfl, by decide, by decide⟩
          | j + 3, hx => cases hx
        walk_at "go"
        refine ⟨P, _, l, rfl, hP6, by omega, by omega, by omega, fun d2 H7 h71 h72 k7 hP7 => ?_⟩
        obtain ⟨d', rfl⟩ := Int.eq_ofNat_of_zero_le h71
        walk_at "go"
        refine ⟨P, _, 1 + d', by rw [Int.natCast_add]; rfl, hP7, by omega, by omega, fun w H8 hg hlw k8 hP8 => ?_⟩
        walk_at "go"
        have k48 := (((k4.trans k5).trans k6).trans k7).trans k8
        have ha8 := k48 a _ hneP ha3
        refine q_append ha8 hl3 ?_
        walk_at "go"
        exact fin hg (by omega) k48 hP8 (by omega) ha8
      · walk_at "go"
        have back : ∀ {H' : Hp}, KeepB P H3 H' → PenAt P (n + 1 + 10 * i + 1) H' → KeepB P H3 H' ∧ PenAt P (n + 1 + 10 * i + 1) H' ∧ ([some (V.ref P.p), some (.ref a), some (.int (i : Nat)), some (.int d), v3] : L2.St) = [some (V.ref P.p), some (.ref a), some (.int (i : Nat)), some (.int d), v3] := fun k h => ⟨k, h, rfl⟩
        have neR : ∀ {Q' : VK} {e : Addr} {H' : Hp}, KeepB P H3 H' → H' e = none → Q' (.bl (!decide (rows = []))) (upd H' e (.lst [])) → rNeA K (.ref a) (.ref e) (upd H' e (.lst [])) Q' := fun {Q' e H'} k he q => by
          have h1 := same_upd (o := .lst []) he _ _ (k a _ hneP ha3)
          refine r_neNil (SqL.of h1) (dpS rows) (rows_dp hla) (SqL.of upd_same) ?_
          have ee : decide ((rows.map fun u => V.str (S u)) = []) = decide (rows = []) := by
            cases rows <;> simp
          rw [ee]
          exact q
        have pick : ∀ {Q' : VK} {H' : Hp}, KeepB P H3 H' → PenAt P (n + 1 + 10 * i + 1) H' → (!decide (rows = [])) = true → (∀ o H4, o ∈ rows → KeepB P H3 H4 → PenAt P (n + 1 + 10 * i + 2) H4 → Q' (.str (S o)) H4) → sp_law_pick K D [.ref P.p, .ref a] H' Q' E0 := fun {Q' H'} k hp e q => by
          refine ⟨P, _, a, _, rfl, hp, by omega, k a _ hneP ha3, hneP, ?_, hl3, fun j x H5 hx k5 hP5 => ?_⟩
          · rw [List.length_map]
            exact List.length_pos_iff.mpr (by simpa using e)
          · rw [List.getElem?_map] at hx
            cases eo : rows[j]? with
            | none => rw [eo] at hx; cases hx
            | some o =>
              rw [eo] at hx
              cases hx
              exact q o H5 (List.mem_of_getElem? eo) (k.trans k5) hP5
        have dne : ∀ {H' : Hp}, KeepB P H3 H' → PenAt P (n + 1 + 10 * i + 1) H' → ∀ e, H' e = none → KeepB P H3 (upd H' e (.lst [])) ∧ PenAt P (n + 1 + 10 * i + 1) (upd H' e (.lst [])) := fun {H'} k h e he => ⟨k.new he, h.same (same_upd he)⟩
        have second : ∀ {H' : Hp}, KeepB P H3 H' → PenAt P (n + 1 + 10 * i + 1) H' → True := fun _ _ => trivial
        refine r_ib (fun e0 => ?_) (fun e0 => ?_)
        · walk_at "go"
          refine r_sz (by decide) fun e he => ?_
          walk_at "go"
          obtain ⟨k4, hP4⟩ := dne KeepB.refl hP3 e he
          refine neR KeepB.refl he ?_
          walk_at "go"
          refine r_ib (fun e1 => ?_) (fun e1 => ?_)
          · walk_at "go"
            refine pick k4 hP4 e1 fun o H5 ho k5 hP5 => ?_
            obtain ⟨hgo, hlo⟩ := hr2 o ho
            have ha5 := k5 a _ hneP ha3
            walk_at "go"
            refine r_tyL (SqL.of ha5) ?_
            walk_at "go"
            refine q_lenS (by omega) ?_
            walk_at "go"
            refine ⟨P, _, _, rfl, hP5, by omega, by omega, by omega, fun d2 H6 h61 h62 k6 hP6 => ?_⟩
            obtain ⟨d', rfl⟩ := Int.eq_ofNat_of_zero_le h61
            walk_at "go"
            refine r_slS (cut_to o d') (by omega) ?_
            walk_at "go"
            have ha6 := (k5.trans k6) a _ hneP ha3
            refine q_append ha6 hl3 ?_
            walk_at "go"
            exact fin (good_take hgo d') (by rw [List.length_take]; omega) (k5.trans k6) hP6 (by omega) ha6
          · walk_at "go"
            have d0 : d = 0 := of_decide_eq_true e0
            subst d0
            refine r_iff ?_
            walk_at "go"
            exact ht3 _ _ (back k4 hP4)
        · walk_at "go"
          refine r_ib (fun e0 => ?_) (fun e0 => ?_)
          · walk_at "go"
            refine r_sz (by decide) fun e he => ?_
            walk_at "go"
            obtain ⟨k4, hP4⟩ := dne KeepB.refl hP3 e he
            refine neR KeepB.refl he ?_
            walk_at "go"
            refine r_ib (fun e1 => ?_) (fun e1 => ?_)
            · walk_at "go"
              refine pick k4 hP4 e1 fun o H5 ho k5 hP5 => ?_
              obtain ⟨hgo, hlo⟩ := hr2 o ho
              have ha5 := k5 a _ hneP ha3
              walk_at "go"
              refine r_tyL (SqL.of ha5) ?_
              walk_at "go"
              refine ⟨P, _, 2, rfl, hP5, by omega, by decide, by decide, fun d2 H6 h61 h62 k6 hP6 => ?_⟩
              obtain ⟨d', rfl⟩ := Int.eq_ofNat_of_zero_le h61
              walk_at "go"
              refine ⟨P, _, 1 + d', by rw [Int.natCast_add]; rfl, hP6, by omega, by omega, fun w H8 hg hlw k8 hP8 => ?_⟩
              refine r_addS (by omega) ?_
              walk_at "go"
              refine ⟨o ++ w, rfl, fun c hc => ?_, by simp; omega, fun v hgv hlv => ?_⟩
              · rcases List.mem_append.mp hc with hc | hc
                · exact good_L hgo c hc
                · exact good_L hg c hc
              · walk_at "go"
                have k58 := (k5.trans k6).trans k8
                have ha8 := k58 a _ hneP ha3
                refine q_append ha8 hl3 ?_
                walk_at "go"
                exact fin hgv (by rw [List.length_append] at hlv; omega) k58 hP8 (by omega) ha8
            · walk_at "go"
              exact ht3 _ _ (back k4 hP4)
          · walk_at "go"
            exact ht3 _ _ (back KeepB.refl hP3)
    · rintro σ H' ⟨rows, v1, v2, v3, k2, hP2, ha2, hl2, hr2, rfl⟩
      walk_at "go"
      have e : ((List.range m).map fun i => V.int (i : Nat)).length = m := by simp
      rw [e] at hP2 hl2 hr2
      exact q a rows H' k2 (hP2.mono (by omega)) ha na1.symm na2.symm ha2 (by omega) fun u hu => ⟨(hr2 u hu).1, by have := (hr2 u hu).2; omega⟩
end
end Cs


set_option Elab.async false
set_option linter.all false
set_option maxRecDepth 100000
set_option maxHeartbeats 4000000
namespace Cs
open PySem PySem.Spec PyProof.Rows L2
local macro_rules | `(tactic| walk_at "two") => `(tactic| with_reducible (first
  | refine r_seq ?_ | refine r_nx ?_ | refine r_rt ?_ | refine r_ct ?_ | refine r_bk ?_ | refine r_asg ?_ | refine r_gname ?_ | refine r_ret ?_ | refine r_drop ?_ | refine r_next ?_ | refine r_retN ?_ | refine r_fld ?_ | refine r_gsub ?_ | refine r_brk ?_ | refine r_cont ?_
  | refine r_var rfl ?_ | refine r_c ?_ | refine r_op ?_ | refine r_un ?_ | refine r_test ?_ | refine r_tB ?_ | refine r_bl ?_ | refine r_blv ?_
  | refine r_cons ?_ | refine r_nil ?_ | refine r_lc ?_ | refine r_yes ?_ | refine r_iLT0 ?_ | refine r_iEnumS ?_ | refine r_iEnum ?_ | refine r_iStr ?_ | refine r_iList ?_ | refine r_iRng ?_ | refine r_iStrS ?_ | refine r_iStrE ?_ | refine r_cb ?_ | refine r_call0 ?_ | refine r_callS ?_ | refine r_callK ?_ | refine r_tup ?_ | refine r_lst ?_ | refine r_make0 ?_ | refine r_attr ?_
  | refine r_sl ?_ | refine r_nopart ?_ | refine r_part ?_ | refine r_parti ?_ | refine r_tyS ?_ | refine r_bm0 ?_ | refine r_bm ?_ | refine r_dnew ?_
  | refine r_and ?_ | refine r_or ?_ | refine r_not ?_ | refine r_andV ?_ | refine r_orV ?_ | refine r_notV ?_ | refine r_if ?_ | refine r_ift ?_ | refine r_iff ?_ | refine r_revL ?_ | refine r_ntt ?_ | refine r_nff ?_ | refine r_itup ?_ | refine r_chain ?_
  | refine r_I0 ?_ | refine r_U ?_ | refine r_addI ?_ | refine r_eqI ?_ | refine r_neI ?_ | refine r_eqS ?_ | refine r_neS ?_ | refine r_eqB ?_ | refine r_neB ?_ | refine r_inS ?_ | refine r_niS ?_ | refine r_int1 ?_ | refine r_abs ?_ | refine r_isN ?_ | refine r_notN ?_))
local macro_rules | `(tactic| walk_at "one") => `(tactic| first | walk_at "two" | with_reducible (first | refine r_ifs ?_ | refine r_forE ?_))
local macro_rules | `(tactic| walk_at "go") => `(tactic| repeat walk_at "one")
local macro_rules | `(tactic| walk_at "gp") => `(tactic| repeat walk_at "two")

section
variable {P : Program} {w : World} {K : PySem.W.Frag} {mg : Str → Option Value} {base : Heap} {D : Ad}

-- T.b_len T.b_range T.b_list
abbrev st_law_are_tops : Stmt := top 48
theorem sc_law_are_tops : FnScope ["stem", "heads", "rows", "top", "row"] ["stem", "heads"] (defScope st_law_are_tops) := ⟨rfl, rfl, rfl, by decide +kernel, rfl, by decide +kernel, by decide +kernel⟩
def sp_law_are_tops (K : PySem.W.Frag) (D : Ad) : Sp := fun vs H Q _ => ∃ (l : Addr) (u : List Nat) (a b n : Nat) (r : List Nat), vs = [.str (S u), .ref l] ∧ Good u ∧ u.length ≤ 24 ∧ n ≤ 12 ∧ free2 u = a :: b :: r ∧ SqL K H l (((List.range n).map (topW u a b)).map fun u => V.str (S u)) ∧
  ∀ H', Same H H' → Q (.bl true) H'
theorem pairU {α : Type} {a b a' b' : α} {r r' : List α} (h : a :: b :: r = a' :: b' :: r') : a = a' ∧ b = b' := by cases h; exact ⟨rfl, rfl⟩
theorem free2_eq {u : List Nat} {a b : Nat} {r : List Nat} (h : free2 u = a :: b :: r) : (a = 65 ∨ a = 66 ∨ a = 67) ∧ (b = 65 ∨ b = 66 ∨ b = 67) ∧ a ≠ b ∧ a ∉ (lastL u).map upp ∧ b ∉ (lastL u).map upp := by
  obtain ⟨a', b', r', e, hab, ha, hb, h1, h2⟩ := free2_two u
  obtain ⟨rfl, rfl⟩ := pairU (h.symm.trans e)
  exact ⟨by omega, by omega, hab, h1, h2⟩
theorem topRows_len {u : List Nat} {a b : Nat} : ∀ n, (topRows u a b n).length = 2 * n
  | 0 => rfl
  | n + 1 => by unfold topRows; rw [List.length_append, topRows_len n]; simp; omega
theorem topRows_bd {u : List Nat} {a b n : Nat} {x : List Nat} (h : x ∈ topRows u a b n) : x.length ≤ u.length + n + 1 := by
  obtain ⟨i, hi⟩ := List.mem_iff_getElem?.mp h
  have hl := (List.getElem?_eq_some_iff.mp hi).1
  rw [topRows_len] at hl
  obtain ⟨m, c, rfl, _, rfl⟩ := topRows_at hi
  simp
  omega
theorem ok_law_are_tops {f : Addr} {fd : FuncData} (F : Fun K "_law_are_tops" "_law_are_tops" st_law_are_tops f fd) (T : Txt P w K mg base D) (d_law_are_apart : CalN P w K mg base 1 "_law_are_apart" (sp_law_are_apart K D)) (d_law_twin : CalN P w K mg base 2 "_law_twin" (sp_law_twin K D)) : FnOk P w K mg base CX0 3 f fd ["stem", "heads"] (sp_law_are_tops K D) := by
  refine F.ok sc_law_are_tops (fun vs H Q E h => ?_) (fun cdv A outer s H vs Q E hr h => ?_)
  · obtain ⟨l, u, a, b, n, r, rfl, _⟩ := h
    rfl
  · obtain ⟨l, u, a, b, n, r, rfl, hg, hu24, hn, hf, hl, q⟩ := h
    obtain ⟨ha, hb, hab, hna, hnb⟩ := free2_eq hf
    have hu := hr.units
    refine ⟨_, (pss_cons (ps_asg (pe_lst pa_nil) (pg_name (i := 2) sc_law_are_tops.nd rfl (Or.inl rfl)))
      (pss_cons (ps_for PassesOwn.never rfl (pi_list (pv 1)) (pg_name (i := 3) sc_law_are_tops.nd rfl (Or.inl rfl))
      (pss_cons (ps_if (pt_cmpR op_isNo (pe_c0 d_law_twin hr (by decide) (pa_cons (pv 3) pa_nil)) pe_non (nomark _))
      (pss_one (ps_ret pe_bl))
      pss_nil)
      (pss_one (ps_asg (pe_op op_addA (pv 2) (pe_lst (pa_cons (pv 3) (pa_cons (pe_c0 d_law_twin hr (by decide) (pa_cons (pv 3) pa_nil)) pa_nil)))) (pg_name (i := 2) sc_law_are_tops.nd rfl (Or.inl rfl))))))
      (pss_one (ps_ret (pe_and (pe_cmpR (op_eqK (K := K) hu) (pe_lc (own := [("row", 4)]) (g := gName 4) rfl sc_law_are_tops.nd (pi_list (pv 2)) (blkOk_by (N := ["stem", "heads", "rows", "top", "row"]) (sc := defScope st_law_are_tops) (by decide +kernel)) (fun _ _ _ _ _ => (pg_name (i := 4) sc_law_are_tops.nd rfl (Or.inl rfl))) (fun _ _ _ _ _ => (pts_one (pt_cmpR (op_neK (K := K) hu) (pe_slice (sl_anyK (K := K)) (pv 4) po_none (po_some (pe_callB (id := "len") (call_lenB (K := K)) (by rfl) T.b_len PySem.boot_len (pa_cons (pv 0) pa_nil)))) (pv 0) (nomark _)))) (fun _ _ _ _ _ => (pv 4))) (pe_lst pa_nil) (nomark _)) (pe_one (pe_c0 d_law_are_apart hr (by decide) (pa_cons (pv 2) pa_nil)))))))), ?_⟩
    walk_at "go"
    refine r_sz (by decide) fun e0 he0 => ?_
    walk_at "go"
    have s0 := same_upd (o := .lst []) he0
    refine ⟨l, rfl, ⟨_, sqL_same s0 hl⟩, ?_⟩
    refine for_it walk_list (fun i σ H' => Same H H' ∧ ∃ (p : Addr) (v3 v4 : Option V), H' p = some (.lst ((topRows u a b i).map fun u => V.str (S u))) ∧ σ = [some (.str (S u)), some (.ref l), some (.ref p), v3, v4]) ⟨s0, e0, _, _, upd_same, rfl⟩ (fun i σ H' _ h => sqL_same h.1 hl) ?_ ?_
    · rintro i x σ H1 H1' hi ⟨s1, p, v3, v4, hp, rfl⟩ ⟨rfl, hx⟩
      have hin : i < n := by simpa using hi
      obtain rfl : x = .str (S (topW u a b i)) := by
        rw [List.getElem?_map, List.getElem?_map, List.getElem?_range hin] at hx
        exact (Option.some.inj hx).symm
      have gt := good_top hg ha hb hab hna hnb i
      have hbd : (topW u a b i).length ≤ 900000 := by unfold topW; simp; omega
      walk_at "go"
      refine ⟨_, rfl, good_L gt.1, hbd, ?_⟩
      rw [if_pos gt.2.1]
      walk_at "go"
      refine r_ie (decide_eq_false (by intro z; cases z)) ?_
      walk_at "go"
      refine ⟨_, rfl, good_L gt.1, hbd, ?_⟩
      rw [if_pos gt.2.1]
      walk_at "go"
      refine r_sz (by simp) fun e1 he1 => ?_
      have s2 := same_upd (o := .lst [V.str (S (topW u a b i)), V.str (S (twOf (topW u a b i)))]) he1
      refine r_addL (s2 _ _ hp) upd_same (by rw [List.length_map, topRows_len]; simp; omega) fun p2 hp2 => ?_
      walk_at "go"
      refine ⟨s1.trans (s2.trans (same_upd hp2)), p2, some (.str (S (topW u a b i))), v4, ?_, rfl⟩
      rw [upd_same, gt.2.2]
      show _ = some (HO.lst ((topRows u a b i ++ [topW u a b i, u ++ List.replicate i a ++ [und b]]).map fun u => V.str (S u)))
      rw [List.map_append]
      rfl
    · rintro σ H1 ⟨s1, p, v3, v4, hp, rfl⟩
      have en : (((List.range n).map (topW u a b)).map fun u => V.str (S u)).length = n := by simp
      rw [en] at hp
      walk_at "go"
      refine ⟨p, rfl, ⟨_, SqL.of hp⟩, fun Dl hDl => ?_⟩
      refine lcG (its := (topRows u a b n).map fun u => V.str (S u)) walk_list (fun j acc H' => Same H1 H' ∧ acc = []) ⟨same_upd hDl, rfl⟩ (fun j acc H' _ h _ => sqL_same h.1 (SqL.of hp)) ?_ ?_
      · rintro j x acc H2 hx ⟨s2, rfl⟩ e2
        obtain ⟨v, hv, rfl⟩ : ∃ v, (topRows u a b n)[j]? = some v ∧ x = .str (S v) := by
          rw [List.getElem?_map] at hx
          cases e : (topRows u a b n)[j]? with
          | none => rw [e] at hx; cases hx
          | some v => rw [e] at hx; exact ⟨v, rfl, (Option.some.inj hx).symm⟩
        have hm := List.mem_of_getElem? hv
        have hbd := topRows_bd hm
        walk_at "go"
        refine q_lenS (by omega) ?_
        walk_at "go"
        refine r_slS (cut_to v u.length) (by omega) ?_
        walk_at "go"
        have ee : v.take u.length = u := (List.prefix_iff_eq_take.mp (topRows_pre hm)).symm
        rw [ee, decide_eq_true rfl]
        exact ⟨_, ⟨s2, rfl⟩, e2⟩
      · rintro acc H2 ⟨s2, rfl⟩ e2
        walk_at "go"
        refine r_sz (by decide) fun e3 he3 => ?_
        have s3 := same_upd (o := .lst []) he3
        refine r_eqNil (SqL.of (s3 _ _ e2)) .nil lay_nil (SqL.of upd_same) ?_
        walk_at "go"
        refine r_it (by simp) ?_
        walk_at "go"
        refine ⟨p, topRows u a b n, rfl, SqL.of (s3 _ _ (s2 _ _ hp)), fun v hv => by have := topRows_bd hv; omega, fun bb H3 s4 hbb => ?_⟩
        have e : bb = true := hbb.mpr (topRows_apart ha hb hab n)
        subst e
        exact q H3 (s1.trans (s2.trans (s3.trans s4)))
/-- a tuple comes -/
def TupQ (xs : List V) (Q : VK) (H : Hp) : Prop := ∀ p H', Same H H' → H p = none → H' p = some (.tup xs) → Q (.ref p) H'
abbrev S_number : List Nat := [110, 117, 109, 98, 101, 114]
abbrev S_count : List Nat := [99, 111, 117, 110, 116]
abbrev S_many : List Nat := [109, 97, 110, 121]
abbrev S_letters : List Nat := [108, 101, 116, 116, 101, 114, 115]
abbrev st_law_other_told : Stmt := top 49
theorem sc_law_other_told : FnScope ["stem", "times", "error", "found"] ["stem", "times"] (defScope st_law_other_told) := ⟨rfl, rfl, rfl, by decide +kernel, rfl, by decide +kernel, by decide +kernel⟩
def sp_law_other_told (K : PySem.W.Frag) (D : Ad) : Sp := fun vs H Q _ => ∃ x y b, vs = [x, y] ∧ IsK K H x (.ref D.Word) b ∧ (b = false → TupQ [.str (S [119, 111, 114, 100]), .int 0] Q H) ∧
  (b = true → ∃ p dx u ok, x = .ref p ∧ H p = some (.ins D.Word dx (wf u)) ∧ Good u ∧ u.length ≤ 4000 ∧ InR K H y 1 12 ok ∧ (ok = false → TupQ [.str (S S_number), .str (S S_count)] Q H) ∧
    (ok = true → ∃ n : Nat, y = .int (n : Nat) ∧ n ≤ 12 ∧ (24 < u.length → TupQ [.str (S S_many), .str (S S_letters), .int 24] Q H) ∧ (u.length ≤ 24 → ∀ H', Same H H' → Q (.str (S [108, 101, 116])) H')))
abbrev clW (K : PySem.W.Frag) (D : Ad) : Clause := (Value.ref D.BadWord, some 2, fun a => tRet (tTup (tCons (tC (.str (S [119, 111, 114, 100]))) (tCons (tAttr K "at" (tVar 2)) tNil))))
abbrev clN (K : PySem.W.Frag) (D : Ad) : Clause := (Value.ref D.BadNumber, some 2, fun a => tRet (tTup (tCons (tC (.str (S S_number))) (tCons (tAttr K "part" (tVar 2)) tNil))))
abbrev clM (K : PySem.W.Frag) (D : Ad) : Clause := (Value.ref D.TooMany, some 2, fun a => tRet (tTup (tCons (tC (.str (S S_many))) (tCons (tAttr K "what" (tVar 2)) (tCons (tAttr K "most" (tVar 2)) tNil)))))
section
variable {H H' : Hp} {Q : VK} {nx bk ct : L2.St → Hp → Prop} {l : List Clause} {Wout : WX} {v0 v1 v3 : Option V}
theorem num_catch (T : Txt P w K mg base D) (hs : Same H H') (q : TupQ [.str (S S_number), .str (S S_count)] Q H) : Rse (WE (wTry K Wout (Ends.mk nx Q bk ct) (clW K D :: clN K D :: l)) [v0, v1, none, v3]) H' D.BadNumber [("part", .str (S S_count))] := by
  intro d hd
  refine ⟨false, T.ex_BadNumber_BadWord, (fun z => nomatch z), fun _ => ⟨true, T.ex_BadNumber_BadNumber, fun _ a ha => ?_, fun z => nomatch z⟩⟩
  have nda : d ≠ a := fun z => by rw [z, upd_same] at ha; cases ha
  have s1 : Same H' (upd H' d (.xd [("part", .str (S S_count))])) := same_upd hd
  walk_at "go"
  refine .inr ⟨a, D.BadNumber, d, _, _, rfl, T.xf_BadNumber_part, upd_same, by rw [upd_ne nda]; exact upd_same, lk0, ?_⟩
  walk_at "go"
  refine r_sz (by show 2 ≤ 1000000; decide) fun p hp => ?_
  walk_at "go"
  have s2 := hs.trans (s1.trans (same_upd (o := EXV (.ref D.BadNumber) (some d) a) ha))
  exact q p _ (s2.trans (same_upd hp)) (s2.free hp) upd_same
theorem many_catch (T : Txt P w K mg base D) (hs : Same H H') (q : TupQ [.str (S S_many), .str (S S_letters), .int 24] Q H) : Rse (WE (wTry K Wout (Ends.mk nx Q bk ct) (clW K D :: clN K D :: clM K D :: l)) [v0, v1, none, v3]) H' D.TooMany [("what", .str (S S_letters)), ("most", .int 24)] := by
  intro d hd
  refine ⟨false, T.ex_TooMany_BadWord, (fun z => nomatch z), fun _ => ⟨false, T.ex_TooMany_BadNumber, (fun z => nomatch z), fun _ => ⟨true, T.ex_TooMany_TooMany, fun _ a ha => ?_, fun z => nomatch z⟩⟩⟩
  have nda : d ≠ a := fun z => by rw [z, upd_same] at ha; cases ha
  have s1 : Same H' (upd H' d (.xd [("what", .str (S S_letters)), ("most", .int 24)])) := same_upd hd
  walk_at "go"
  refine .inr ⟨a, D.TooMany, d, _, _, rfl, T.xf_TooMany_what, upd_same, by rw [upd_ne nda]; exact upd_same, lk0, ?_⟩
  walk_at "go"
  refine .inr ⟨a, D.TooMany, d, _, _, rfl, T.xf_TooMany_most, upd_same, by rw [upd_ne nda]; exact upd_same, lk1 (by decide +kernel) lk0, ?_⟩
  walk_at "go"
  refine r_sz (by show 3 ≤ 1000000; decide) fun p hp => ?_
  walk_at "go"
  have s2 := hs.trans (s1.trans (same_upd (o := EXV (.ref D.TooMany) (some d) a) ha))
  exact q p _ (s2.trans (same_upd hp)) (s2.free hp) upd_same
end
theorem ok_law_other_told {f : Addr} {fd : FuncData} (F : Fun K "_law_other_told" "_law_other_told" st_law_other_told f fd) (T : Txt P w K mg base D) (d_tops_of : CalX P w K mg base 4 "tops_of" (sp_tops_of K D)) : FnOk P w K mg base CX0 5 f fd ["stem", "times"] (sp_law_other_told K D) := by
  refine F.ok sc_law_other_told (fun vs H Q E h => ?_) (fun cdv A outer s H vs Q E hr h => ?_)
  · obtain ⟨x, y, b, rfl, _⟩ := h
    rfl
  · obtain ⟨x, y, b, rfl, h1, h2, h3⟩ := h
    have hu := hr.units
    refine ⟨_, (pss_cons (ps_tryE rfl rfl sc_law_other_told.nd rfl takes0 (fun W pn xe tk po =>
      (pss_one (ps_asg (pe_cS d_tops_of hr (by decide) tk (pa_cons (pv 0) (pa_cons (pv 1) pa_nil))) (pg_name (i := 3) sc_law_other_told.nd rfl (Or.inl rfl)))))
      (.as (i := 2) ⟨rfl, by decide, .inl T.c_BadWord⟩ rfl rfl (fun a pn => (pss_one (ps_ret (pe_tup (pa_cons (pe_S (w := [119, 111, 114, 100]) (by decide +kernel)) (pa_cons (pe_attrK (K := K) (pv 2)) pa_nil)))))) (.as (i := 2) ⟨rfl, by decide, .inl T.c_BadNumber⟩ rfl rfl (fun a pn => (pss_one (ps_ret (pe_tup (pa_cons (pe_S (w := [110, 117, 109, 98, 101, 114]) (by decide +kernel)) (pa_cons (pe_attrK (K := K) (pv 2)) pa_nil)))))) (.as (i := 2) ⟨rfl, by decide, .inl T.c_TooMany⟩ rfl rfl (fun a pn => (pss_one (ps_ret (pe_tup (pa_cons (pe_S (w := [109, 97, 110, 121]) (by decide +kernel)) (pa_cons (pe_attrK (K := K) (pv 2)) (pa_cons (pe_attrK (K := K) (pv 2)) pa_nil))))))) (.cons ⟨rfl, by decide, .inl T.c_BallError⟩ (fun a pn => (pss_one (ps_ret (pe_S (w := [97, 110, 111, 116, 104, 101, 114, 32, 101, 114, 114, 111, 114]) (by decide +kernel))))) .nil)))))
      (pss_one (ps_ret (pe_ifExp (pt_val (pe_callB (id := "isinstance") (call_isiEK (K := K)) (by rfl) T.b_isinstance (by decide +kernel) (pa_cons (pv 3) (pa_cons (pe_bltn (v := .ty "tuple") rfl T.b_tuple (by decide +kernel) rfl) pa_nil)))) (pe_S (w := [108, 101, 116]) (by decide +kernel)) (pe_S (w := [111, 116, 104, 101, 114]) (by decide +kernel)))))), ?_⟩
    walk_at "go"
    refine ⟨x, y, b, rfl, h1, fun e => tw_catch T (Same.refl _) (h2 e), fun e => ?_⟩
    obtain ⟨p, dx, u, ok, rfl, hp, hg, hl, hi, h4, h5⟩ := h3 e
    refine ⟨p, dx, u, ok, rfl, hp, hg, hl, hi, fun e => num_catch T (Same.refl _) (h4 e), fun e => ?_⟩
    obtain ⟨n, rfl, hn, h6, h7⟩ := h5 e
    refine ⟨n, rfl, hn, fun e => many_catch T (Same.refl _) (h6 e), fun e q xs a b r H1 s1 hq hq1 hf hw => ?_⟩
    walk_at "go"
    refine r_isK (.ty "tuple") (isK (b := true) (ty_tup hq1) (kit_ty (by decide +kernel))) ?_
    walk_at "go"
    exact h7 e H1 s1
end
end Cs


set_option Elab.async false
set_option linter.all false
set_option maxRecDepth 100000
set_option maxHeartbeats 4000000
namespace Cs
open PySem PySem.Spec PyProof.Rows L2
local macro_rules | `(tactic| walk_at "two") => `(tactic| with_reducible (first
  | refine r_seq ?_ | refine r_nx ?_ | refine r_rt ?_ | refine r_ct ?_ | refine r_bk ?_ | refine r_asg ?_ | refine r_gname ?_ | refine r_ret ?_ | refine r_drop ?_ | refine r_next ?_ | refine r_retN ?_ | refine r_fld ?_ | refine r_gsub ?_ | refine r_brk ?_ | refine r_cont ?_
  | refine r_var rfl ?_ | refine r_c ?_ | refine r_op ?_ | refine r_un ?_ | refine r_test ?_ | refine r_tB ?_ | refine r_bl ?_ | refine r_blv ?_
  | refine r_cons ?_ | refine r_nil ?_ | refine r_lc ?_ | refine r_yes ?_ | refine r_iLT0 ?_ | refine r_iEnumS ?_ | refine r_iEnum ?_ | refine r_iStr ?_ | refine r_iList ?_ | refine r_iRng ?_ | refine r_iStrS ?_ | refine r_iStrE ?_ | refine r_cb ?_ | refine r_call0 ?_ | refine r_callS ?_ | refine r_callK ?_ | refine r_tup ?_ | refine r_lst ?_ | refine r_make0 ?_ | refine r_attr ?_
  | refine r_sl ?_ | refine r_nopart ?_ | refine r_part ?_ | refine r_parti ?_ | refine r_tyS ?_ | refine r_bm0 ?_ | refine r_bm ?_ | refine r_dnew ?_
  | refine r_and ?_ | refine r_or ?_ | refine r_not ?_ | refine r_andV ?_ | refine r_orV ?_ | refine r_notV ?_ | refine r_if ?_ | refine r_ift ?_ | refine r_iff ?_ | refine r_revL ?_ | refine r_ntt ?_ | refine r_nff ?_ | refine r_itup ?_ | refine r_chain ?_
  | refine r_I0 ?_ | refine r_U ?_ | refine r_addI ?_ | refine r_eqI ?_ | refine r_neI ?_ | refine r_eqS ?_ | refine r_neS ?_ | refine r_eqB ?_ | refine r_neB ?_ | refine r_inS ?_ | refine r_niS ?_ | refine r_int1 ?_ | refine r_abs ?_ | refine r_isN ?_ | refine r_notN ?_))
local macro_rules | `(tactic| walk_at "one") => `(tactic| first | walk_at "two" | with_reducible (first | refine r_ifs ?_ | refine r_forE ?_))
local macro_rules | `(tactic| walk_at "go") => `(tactic| repeat walk_at "one")
local macro_rules | `(tactic| walk_at "gp") => `(tactic| repeat walk_at "two")

section
variable {P : Program} {w : World} {K : PySem.W.Frag} {mg : Str → Option Value} {base : Heap} {D : Ad}

abbrev st_law_right : Stmt := top 50
theorem sc_law_right : FnScope ["stem", "times", "found", "rows", "one", "row"] ["stem", "times"] (defScope st_law_right) := ⟨rfl, rfl, rfl, by decide +kernel, rfl, by decide +kernel, by decide +kernel⟩
def sp_law_right (K : PySem.W.Frag) (D : Ad) : Sp := fun vs H Q _ => ∃ (u : List Nat) (n : Nat), vs = [.str (S u), .int (n : Nat)] ∧ Good u ∧ u.length ≤ 24 ∧ 1 ≤ n ∧ n ≤ 12 ∧ ∀ H', Same H H' → Q (.bl true) H'
theorem inR_int {H : Hp} {n : Nat} (h1 : 1 ≤ n) (h2 : n ≤ 12) : InR K H (.int (n : Nat)) 1 12 true :=
  ⟨true, false, isK ty_int (kit_ty (by decide +kernel)), isK ty_int (kit_ty (by decide +kernel)), fun _ => ⟨n, rfl, by rw [decide_eq_true (by omega), decide_eq_true (by omega)]; rfl⟩, fun z => nomatch z⟩
theorem ws_at {H : Hp} {xs : List V} {rows : List (List Nat)} (h : Ws D H xs rows) {j : Nat} {x : V} (hx : xs[j]? = some x) : ∃ p dx u, x = .ref p ∧ H p = some (.ins D.Word dx (wf u)) ∧ rows[j]? = some u := by
  have hl : j < rows.length := by rw [← paired_len h]; exact (List.getElem?_eq_some_iff.mp hx).1
  have e : rows[j]? = some rows[j] := by simp [hl]
  obtain ⟨p, dx, h1, h2⟩ := paired_at h hx e
  exact ⟨p, dx, _, h1, h2, e⟩
theorem top_bd {u : List Nat} {a b n : Nat} {v : List Nat} (h : v ∈ (List.range n).map (topW u a b)) : v.length ≤ u.length + n := by
  obtain ⟨m, hm, rfl⟩ := List.mem_map.mp h
  have := List.mem_range.mp hm
  unfold topW
  simp
  omega
theorem ok_law_right {f : Addr} {fd : FuncData} (F : Fun K "_law_right" "_law_right" st_law_right f fd) (T : Txt P w K mg base D) (d_law_are_tops : CalN P w K mg base 3 "_law_are_tops" (sp_law_are_tops K D)) (d_tops_of : CalX P w K mg base 4 "tops_of" (sp_tops_of K D)) (dk_tops_of_count_word : CalK P w K mg base (L2.CX P w) 4 "tops_of" ["count", "word"] (gPm (α := V) .non 0 2 [1, 0]) (sp_tops_of K D)) (m_Word : MakX P w K mg base 2 "Word" D.Word (sp_Word_init K D)) : FnOk P w K mg base CX0 5 f fd ["stem", "times"] (sp_law_right K D) := by
  refine F.ok sc_law_right (fun vs H Q E h => ?_) (fun cdv A outer s H vs Q E hr h => ?_)
  · obtain ⟨u, n, rfl, _⟩ := h
    rfl
  · obtain ⟨u, n, rfl, hg, hu24, hn1, hn, q⟩ := h
    have hu := hr.units
    refine ⟨_, (pss_cons (ps_asg (pe_cX d_tops_of hr (by decide) passL (pa_cons (pe_mX m_Word hr (by decide) passL (pa_cons (pv 0) pa_nil)) (pa_cons (pv 1) pa_nil))) (pg_name (i := 2) sc_law_right.nd rfl (Or.inl rfl)))
      (pss_cons (ps_if (PW.pt (pw_or (pt_not (pt_val (pe_callB (id := "isinstance") (call_isiEK (K := K)) (by rfl) T.b_isinstance (by decide +kernel) (pa_cons (pv 2) (pa_cons (pe_bltn (v := .ty "tuple") rfl T.b_tuple (by decide +kernel) rfl) pa_nil))))) (pw_or (pt_cmpR (op_neK (K := K) hu) (pe_callB (id := "len") (call_lenB (K := K)) (by rfl) T.b_len PySem.boot_len (pa_cons (pv 2) pa_nil)) (pv 1) (nomark _)) (pw_or1 (pt_cmpR (op_neK (K := K) hu) (pe_lc (own := [("one", 4)]) (g := gName 4) rfl sc_law_right.nd (pi_tup (pv 2)) (blkOk_by (N := ["stem", "times", "found", "rows", "one", "row"]) (sc := defScope st_law_right) (by decide +kernel)) (fun _ _ _ _ _ => (pg_name (i := 4) sc_law_right.nd rfl (Or.inl rfl))) (fun _ _ _ _ _ => (pts_one (pt_not (pt_val (pe_callB (id := "isinstance") (call_isiEK (K := K)) (by rfl) T.b_isinstance (by decide +kernel) (pa_cons (pv 4) (pa_cons (pe_glob (v := .ref D.Word) rfl T.c_Word rfl) pa_nil))))))) (fun _ _ _ _ _ => (pv 4))) (pe_lst pa_nil) (nomark _))))))
      (pss_one (ps_ret pe_bl))
      pss_nil)
      (pss_cons (ps_setLc (i := 3) (own := [("one", 4)]) (g := gName 4) (tt := tYes) (by rfl) sc_law_right.nd rfl rfl (sw_true rfl rfl rfl (by decide +kernel)) (pi_tup (pv 2)) (blkOk_by (N := ["stem", "times", "found", "rows", "one", "row"]) (sc := defScope st_law_right) (by decide +kernel)) (fun _ _ _ _ _ => (pg_name (i := 4) sc_law_right.nd rfl (Or.inl rfl))) (fun _ _ _ _ _ => pts_nil) (fun _ _ _ _ _ => (pe_attrK (K := K) (pv 4))))
      (pss_cons (ps_if (PW.pt (pw_or (pt_not (pt_val (pe_c0 d_law_are_tops hr (by decide) (pa_cons (pv 0) (pa_cons (pv 3) pa_nil))))) (pw_or1 (pt_cmpR (op_neK (K := K) hu) (pe_lc (own := [("row", 5)]) (g := gName 5) rfl sc_law_right.nd (pi_list (pv 3)) (blkOk_by (N := ["stem", "times", "found", "rows", "one", "row"]) (sc := defScope st_law_right) (by decide +kernel)) (fun _ _ _ _ _ => (pg_name (i := 5) sc_law_right.nd rfl (Or.inl rfl))) (fun _ _ _ _ _ => (pts_one (pt_cmpR op_gt (pe_callB (id := "len") (call_lenB (K := K)) (by rfl) T.b_len PySem.boot_len (pa_cons (pv 5) pa_nil)) (pe_op op_addA (pe_callB (id := "len") (call_lenB (K := K)) (by rfl) T.b_len PySem.boot_len (pa_cons (pv 0) pa_nil)) pe_int) (nomark _)))) (fun _ _ _ _ _ => (pv 5))) (pe_lst pa_nil) (nomark _)))))
      (pss_one (ps_ret pe_bl))
      pss_nil)
      (pss_one (ps_ret (pe_cmpR (op_eqK (K := K) hu) (pe_lc (own := [("one", 4)]) (g := gName 4) (tt := tYes) rfl sc_law_right.nd (pi_tup (pe_cK0 dk_tops_of_count_word hr (by decide) passL (pk_cons (pv 1) (pk_cons (pe_mX m_Word hr (by decide) passL (pa_cons (pv 0) pa_nil)) pk_nil)))) (blkOk_by (N := ["stem", "times", "found", "rows", "one", "row"]) (sc := defScope st_law_right) (by decide +kernel)) (fun _ _ _ _ _ => (pg_name (i := 4) sc_law_right.nd rfl (Or.inl rfl))) (fun _ _ _ _ _ => pts_nil) (fun _ _ _ _ _ => (pe_attrK (K := K) (pv 4)))) (pv 3) (nomark _)))))))), ?_⟩
    walk_at "go"
    refine q_Word hg (by omega) fun p dx H1 s1 hp hp1 => ?_
    walk_at "go"
    refine ⟨.ref p, .int (n : Nat), true, rfl, isW T hp1, fun z => (nomatch z), fun _ => ⟨p, dx, u, true, rfl, hp1, hg, by omega, inR_int hn1 hn, fun z => (nomatch z), fun _ => ⟨n, rfl, hn, fun z => by omega, fun _ t xs a b r H2 s2 ht ht2 hf hw => ?_⟩⟩⟩
    walk_at "go"
    refine r_isK (.ty "tuple") (isK (b := true) (ty_tup ht2) (kit_ty (by decide +kernel))) ?_
    walk_at "go"
    refine q_lenT (SqT.of ht2) ?_
    walk_at "go"
    have hlen : xs.length = n := by rw [paired_len hw]; simp
    rw [hlen, decide_eq_true rfl]
    walk_at "go"
    refine ⟨t, rfl, ⟨_, SqT.of ht2⟩, fun Dl hDl => ?_⟩
    have hw2 : ∀ {H' : Hp}, Same H2 H' → Ws D H' xs ((List.range n).map (topW u a b)) := fun s => ws_same s hw
    have ht3 : ∀ {H' : Hp}, Same H2 H' → SqT K H' t xs := fun s => sqT_same s (SqT.of ht2)
    refine lcG (its := xs) walk_tup (fun j acc H' => Same H2 H' ∧ acc = []) ⟨same_upd hDl, rfl⟩ (fun j acc H' _ h _ => ht3 h.1) ?_ ?_
    · rintro j x acc H3 hx ⟨s3, rfl⟩ e3
      obtain ⟨p', dx', v, rfl, hp', _⟩ := ws_at (hw2 s3) hx
      walk_at "go"
      refine r_isK (.own D.Word) (isW T hp') ?_
      walk_at "go"
      exact ⟨_, ⟨s3, rfl⟩, e3⟩
    · rintro acc H3 ⟨s3, rfl⟩ e3
      walk_at "go"
      refine r_sz (by decide) fun e0 he0 => ?_
      have s4 := same_upd (o := .lst []) he0
      refine r_neNil (SqL.of (s4 _ _ e3)) .nil lay_nil (SqL.of upd_same) ?_
      refine ⟨_, rfl, ?_⟩
      refine r_ie (by simp) ?_
      have s24 : Same H2 (upd H3 e0 (.lst [])) := s3.trans s4
      generalize hH4 : upd H3 e0 (.lst []) = H4 at s24 ⊢
      walk_at "go"
      refine ⟨t, rfl, ⟨_, ht3 s24⟩, fun D2 hD2 => ?_⟩
      refine lcG (its := xs) walk_tup (fun j acc H' => Same H4 H' ∧ acc = ((((List.range n).map (topW u a b))).take j).map fun u => V.str (S u)) ⟨same_upd hD2, by simp⟩ (fun j acc H' _ h _ => ht3 (s24.trans h.1)) ?_ ?_
      · rintro j x acc H5 hx ⟨s5, rfl⟩ e5
        obtain ⟨p', dx', v, rfl, hp', hv⟩ := ws_at (hw2 (s24.trans s5)) hx
        walk_at "go"
        refine q_letters T hp' ?_
        have hj : j < n := by simpa using (List.getElem?_eq_some_iff.mp hv).1
        exact lcFin (Pv := fun acc H' => Same H4 H' ∧ acc = ((((List.range n).map (topW u a b))).take (j + 1)).map fun u => V.str (S u)) e5 (by simp; omega) ⟨same_mut s5 hD2, by rw [take_snoc hv, List.map_append]; rfl⟩
      · rintro acc H5 ⟨s5, rfl⟩ e5
        have ee : (((List.range n).map (topW u a b)).take xs.length).map (fun u => V.str (S u)) = ((List.range n).map (topW u a b)).map fun u => V.str (S u) := by
          rw [List.take_of_length_le (by simp; omega)]
        rw [ee] at e5
        walk_at "go"
        refine ⟨D2, u, a, b, n, r, rfl, hg, hu24, hn, hf, SqL.of e5, fun H6 s6 => ?_⟩
        walk_at "go"
        have hl6 : SqL K H6 D2 (((List.range n).map (topW u a b)).map fun u => V.str (S u)) := SqL.of (s6 _ _ e5)
        refine ⟨D2, rfl, ⟨_, hl6⟩, fun D3 hD3 => ?_⟩
        refine lcG (its := ((List.range n).map (topW u a b)).map fun u => V.str (S u)) walk_list (fun j acc H' => Same H6 H' ∧ acc = []) ⟨same_upd hD3, rfl⟩ (fun j acc H' _ h _ => sqL_same h.1 hl6) ?_ ?_
        · rintro j x acc H7 hx ⟨s7, rfl⟩ e7
          obtain ⟨v, hv, rfl⟩ : ∃ v, ((List.range n).map (topW u a b))[j]? = some v ∧ x = .str (S v) := by
            rw [List.getElem?_map] at hx
            cases e : ((List.range n).map (topW u a b))[j]? with
            | none => rw [e] at hx; cases hx
            | some v => rw [e] at hx; exact ⟨v, rfl, (Option.some.inj hx).symm⟩
          have hbd := top_bd (List.mem_of_getElem? hv)
          walk_at "go"
          refine q_lenS (by omega) ?_
          walk_at "go"
          refine q_lenS (by omega) ?_
          walk_at "go"
          refine r_ie (decide_eq_false (by omega)) ?_
          exact ⟨_, ⟨s7, rfl⟩, e7⟩
        · rintro acc H7 ⟨s7, rfl⟩ e7
          walk_at "go"
          refine r_sz (by decide) fun e8 he8 => ?_
          have s8 := same_upd (o := .lst []) he8
          refine r_neNil (SqL.of (s8 _ _ e7)) .nil lay_nil (SqL.of upd_same) ?_
          refine ⟨_, rfl, ?_⟩
          refine r_ie (by simp) ?_
          have s68 : Same H6 (upd H7 e8 (.lst [])) := s7.trans s8
          generalize hH8 : upd H7 e8 (.lst []) = H8 at s68 ⊢
          walk_at "go"
          refine q_Word hg (by omega) fun p9 dx9 H9 s9 hp9 hp91 => ?_
          walk_at "go"
          show sp_tops_of K D [.ref p9, .int (n : Nat)] H9 _ _
          refine ⟨.ref p9, .int (n : Nat), true, rfl, isW T hp91, fun z => (nomatch z), fun _ => ⟨p9, dx9, u, true, rfl, hp91, hg, by omega, inR_int hn1 hn, fun z => (nomatch z), fun _ => ⟨n, rfl, hn, fun z => by omega, fun _ t2 xs2 a2 b2 r2 H10 s10 ht10 ht102 hf2 hw10 => ?_⟩⟩⟩
          obtain ⟨rfl, rfl⟩ := pairU (hf.symm.trans hf2)
          refine ⟨t2, rfl, ⟨_, SqT.of ht102⟩, fun D11 hD11 => ?_⟩
          have hlen2 : xs2.length = n := by rw [paired_len hw10]; simp
          refine lcG (its := xs2) walk_tup (fun j acc H' => Same H10 H' ∧ acc = ((((List.range n).map (topW u a b))).take j).map fun u => V.str (S u)) ⟨same_upd hD11, by simp⟩ (fun j acc H' _ h _ => sqT_same h.1 (SqT.of ht102)) ?_ ?_
          · rintro j x acc H12 hx ⟨s12, rfl⟩ e12
            obtain ⟨p', dx', v, rfl, hp', hv⟩ := ws_at (ws_same s12 hw10) hx
            walk_at "go"
            refine q_letters T hp' ?_
            have hj : j < n := by simpa using (List.getElem?_eq_some_iff.mp hv).1
            exact lcFin (Pv := fun acc H' => Same H10 H' ∧ acc = ((((List.range n).map (topW u a b))).take (j + 1)).map fun u => V.str (S u)) e12 (by simp; omega) ⟨same_mut s12 hD11, by rw [take_snoc hv, List.map_append]; rfl⟩
          · rintro acc H12 ⟨s12, rfl⟩ e12
            have ee2 : (((List.range n).map (topW u a b)).take xs2.length).map (fun u => V.str (S u)) = ((List.range n).map (topW u a b)).map fun u => V.str (S u) := by
              rw [List.take_of_length_le (by simp; omega)]
            rw [ee2] at e12
            walk_at "go"
            have s512 := s6.trans (s68.trans (s9.trans (s10.trans s12)))
            have hl12 := SqL.of (K := K) (s512 _ _ e5)
            have okA : ∀ v ∈ (List.range n).map (topW u a b), okS v = true := fun v hv => by
              obtain ⟨m, hm, rfl⟩ := List.mem_map.mp hv
              obtain ⟨ha, hb, hab, hna, hnb⟩ := free2_eq hf
              exact okS_L (good_L (good_top hg ha hb hab hna hnb m).1)
            refine r_eqD (.lst (SqL.of e12) (dpS _)) (.lst hl12 (dpS _)) (shaped_of (lay_strs okA)) (shaped_of (lay_strs okA)) ?_
            have ez : PyData.eqv (.list (((List.range n).map (topW u a b)).map fun w => PyData.str (S w))) (.list (((List.range n).map (topW u a b)).map fun w => PyData.str (S w))) = true := by
              rw [PyData.eqv, eqv_strs, decide_eq_true rfl]
            rw [ez]
            exact q H12 (s1.trans (s2.trans (s24.trans (s5.trans s512))))
end
end Cs


set_option Elab.async false
set_option linter.all false
set_option maxRecDepth 100000
set_option maxHeartbeats 4000000
namespace Cs
open PySem PySem.Spec PyProof.Rows L2
local macro_rules | `(tactic| walk_at "two") => `(tactic| with_reducible (first
  | refine r_seq ?_ | refine r_nx ?_ | refine r_rt ?_ | refine r_ct ?_ | refine r_bk ?_ | refine r_asg ?_ | refine r_gname ?_ | refine r_ret ?_ | refine r_drop ?_ | refine r_next ?_ | refine r_retN ?_ | refine r_fld ?_ | refine r_gsub ?_ | refine r_brk ?_ | refine r_cont ?_
  | refine r_var rfl ?_ | refine r_c ?_ | refine r_op ?_ | refine r_un ?_ | refine r_test ?_ | refine r_tB ?_ | refine r_bl ?_ | refine r_blv ?_
  | refine r_cons ?_ | refine r_nil ?_ | refine r_lc ?_ | refine r_yes ?_ | refine r_iLT0 ?_ | refine r_iEnumS ?_ | refine r_iEnum ?_ | refine r_iStr ?_ | refine r_iList ?_ | refine r_iRng ?_ | refine r_iStrS ?_ | refine r_iStrE ?_ | refine r_cb ?_ | refine r_call0 ?_ | refine r_callS ?_ | refine r_callK ?_ | refine r_tup ?_ | refine r_lst ?_ | refine r_make0 ?_ | refine r_attr ?_
  | refine r_sl ?_ | refine r_nopart ?_ | refine r_part ?_ | refine r_parti ?_ | refine r_tyS ?_ | refine r_bm0 ?_ | refine r_bm ?_ | refine r_dnew ?_
  | refine r_and ?_ | refine r_or ?_ | refine r_not ?_ | refine r_andV ?_ | refine r_orV ?_ | refine r_notV ?_ | refine r_if ?_ | refine r_ift ?_ | refine r_iff ?_ | refine r_revL ?_ | refine r_ntt ?_ | refine r_nff ?_ | refine r_itup ?_ | refine r_chain ?_
  | refine r_I0 ?_ | refine r_U ?_ | refine r_addI ?_ | refine r_eqI ?_ | refine r_neI ?_ | refine r_eqS ?_ | refine r_neS ?_ | refine r_eqB ?_ | refine r_neB ?_ | refine r_inS ?_ | refine r_niS ?_ | refine r_int1 ?_ | refine r_abs ?_ | refine r_isN ?_ | refine r_notN ?_))
local macro_rules | `(tactic| walk_at "one") => `(tactic| first | walk_at "two" | with_reducible (first | refine r_ifs ?_ | refine r_forE ?_))
local macro_rules | `(tactic| walk_at "go") => `(tactic| repeat walk_at "one")
local macro_rules | `(tactic| walk_at "gp") => `(tactic| repeat walk_at "two")

section
variable {P : Program} {w : World} {K : PySem.W.Frag} {mg : Str → Option Value} {base : Heap} {D : Ad}

/-! helpers for the law's parts -/
abbrev wW : List Nat := [119, 111, 114, 100]
def dW : PyData := .tuple [.str (S wW), .int 0]
theorem lay_W {n : Nat} : Lay (n + 1) dW := lay_tuple fun d hd => by
  rcases List.mem_cons.mp hd with rfl | hd
  · exact lay_S (by decide)
  · rw [List.mem_singleton.mp hd]; exact lay_int
theorem eqv_W : PyData.eqv dW dW = true := SeqAt.eqv_refl dW (lay_W (n := 0)).1
theorem dp_W {H : Hp} {p : Addr} (h : H p = some (.tup [.str (S wW), .int 0])) : Dp K H (.ref p) dW := .tup (SqT.of h) (.cons (.str _) (.cons (.int 0) .nil))
theorem r_neW {H : Hp} {Q : VK} {p q : Addr} (h1 : H p = some (.tup [.str (S wW), .int 0])) (h2 : H q = some (.tup [.str (S wW), .int 0])) (k : Q (.bl false) H) : rNeA K (.ref p) (.ref q) H Q := by
  refine r_neD (dp_W h1) (dp_W h2) (shaped_of (lay_W (n := 0))) (shaped_of (lay_W (n := 0))) ?_
  rw [eqv_W]
  exact k
theorem isT_of {H : Hp} {x : V} {t : Value} {b1 b2 : Bool} (h : TyX K H x t) (k1 : PySem.W.kitOne K t (.type "list") = some b1) (k2 : PySem.W.kitOne K t (.type "tuple") = some b2) : IsT K H x [.type "list", .type "tuple"] (b1 || b2) := by
  refine ⟨t, h, ?_⟩
  cases b1 with
  | true => exact kitAny_cons k1 (fun z => nomatch z) fun _ => rfl
  | false =>
    refine kitAny_cons k1 (fun _ => ?_) (fun z => nomatch z)
    cases b2 with
    | true => exact kitAny_cons k2 (fun z => nomatch z) fun _ => rfl
    | false => exact kitAny_cons k2 (fun _ => rfl) (fun z => nomatch z)
/-- a list or a tuple that is tracked -/
def LoT (H : Hp) (a : Addr) (xs : List V) : Prop := H a = some (.lst xs) ∨ H a = some (.tup xs)
theorem lot_A {H : Hp} {a : Addr} {xs : List V} (h : LoT H a xs) : SqA K H a xs := h.elim (fun h => .inl (SqL.of h)) fun h => .inr (SqT.of h)
theorem lot_T {H : Hp} {a : Addr} {xs : List V} (h : LoT H a xs) : IsT K H (.ref a) [.type "list", .type "tuple"] true := by
  rcases h with h | h
  · exact isT_of (b1 := true) (b2 := false) (ty_lst h) (kit_ty (by decide +kernel)) (kit_ty (by decide +kernel))
  · exact isT_of (b1 := false) (b2 := true) (ty_tup h) (kit_ty (by decide +kernel)) (kit_ty (by decide +kernel))
theorem ws_B (T : Txt P w K mg base D) {H : Hp} : ∀ {xs : List V} {rows : List (List Nat)}, Ws D H xs rows → WsB K D H xs (List.replicate xs.length true)
  | _, _, .nil => .nil
  | _, _, .cons ⟨p, dx, e1, e2⟩ t => .cons (by rw [e1]; exact isW T e2) (ws_B T t)
theorem all_true (n : Nat) : (List.replicate n true).all id = true := by
  induction n with
  | zero => rfl
  | succ n ih => rw [List.replicate_succ, List.all_cons, ih]; rfl
theorem q_apart {E : XK} (T : Txt P w K mg base D) {H : Hp} {Q : VK} {a : Addr} {xs : List V} {rows : List (List Nat)} (h : LoT H a xs) (hw : Ws D H xs rows) (hl : xs.length ≤ 30) (q : ∀ v H', Same H H' → (v = true ↔ Apart rows) → Q (.bl v) H') : sp_are_apart K D [.ref a] H Q E :=
  ⟨_, true, rfl, lot_T h, fun z => (nomatch z), fun _ => ⟨a, xs, _, rfl, lot_A h, by omega, ws_B T hw, (fun z => by rw [all_true, decide_eq_true hl] at z; cases z), fun _ => ⟨rows, hw, q⟩⟩⟩
theorem q_told1 (T : Txt P w K mg base D) {H : Hp} {Q : VK} {a : Addr} {xs : List V} {rows : List (List Nat)} (h : LoT H a xs) (hw : Ws D H xs rows) (hl : xs.length ≤ 30) (q : ∀ v H', Same H H' → (v = true ↔ Apart rows) → Q (.bl v) H') : sp_law_told K D [.int 1, .ref a] H Q E0 :=
  ⟨1, _, true, rfl, .inr ⟨rfl, lot_T h, fun z => (nomatch z), fun _ => ⟨a, xs, _, rfl, lot_A h, by omega, ws_B T hw, (fun z => by rw [all_true, decide_eq_true hl] at z; cases z), fun _ => ⟨rows, hw, q⟩⟩⟩⟩
theorem q_told1B {H : Hp} {Q : VK} {a : Addr} {xs : List V} {bs : List Bool} (h : LoT H a xs) (hw : WsB K D H xs bs) (hl : xs.length ≤ 1000000) (hb : (decide (xs.length ≤ 30) && bs.all id) = false) (q : TwQ Q H) : sp_law_told K D [.int 1, .ref a] H Q E0 :=
  ⟨1, _, true, rfl, .inr ⟨rfl, lot_T h, fun z => (nomatch z), fun _ => ⟨a, xs, _, rfl, lot_A h, hl, hw, fun _ => q, (fun z => by rw [hb] at z; cases z)⟩⟩⟩
theorem q_told1N {H : Hp} {Q : VK} {x : V} (h : IsT K H x [.type "list", .type "tuple"] false) (q : TwQ Q H) : sp_law_told K D [.int 1, x] H Q E0 :=
  ⟨1, _, false, rfl, .inr ⟨rfl, h, fun _ => q, fun z => (nomatch z)⟩⟩
theorem q_told0N {H : Hp} {Q : VK} {x : V} (h : IsK K H x (.ref D.Word) false) (q : TwQ Q H) : sp_law_told K D [.int 0, x] H Q E0 :=
  ⟨0, _, false, rfl, .inl ⟨rfl, h, fun _ => q, fun z => (nomatch z)⟩⟩
theorem q_told0 (T : Txt P w K mg base D) {H : Hp} {Q : VK} {p dx : Addr} {u : List Nat} (h : H p = some (.ins D.Word dx (wf u))) (hg : Good u) (hl : u.length ≤ 4000) (q1 : hasTw u = false → TwQ Q H) (q2 : hasTw u = true → ∀ H', Same H H' → Q (.str (S (twOf u))) H') : sp_law_told K D [.int 0, .ref p] H Q E0 :=
  ⟨0, _, true, rfl, .inl ⟨rfl, isW T h, fun z => (nomatch z), fun _ => ⟨p, dx, u, rfl, h, hg, hl, q1, q2⟩⟩⟩
theorem q_twin {E : XK} (T : Txt P w K mg base D) {H : Hp} {Q : VK} {p dx : Addr} {u : List Nat} (h : H p = some (.ins D.Word dx (wf u))) (hg : Good u) (hl : u.length ≤ 4000) (ht : hasTw u = true) (q : ∀ q dx H', Same H H' → H q = none → H' q = some (.ins D.Word dx (wf (twOf u))) → Q (.ref q) H') : sp_twin K D [.ref p] H Q E :=
  ⟨_, true, rfl, isW T h, fun z => (nomatch z), fun _ => ⟨p, dx, u, rfl, h, hg, hl, (fun z => by rw [ht] at z; cases z), fun _ => q⟩⟩
/-- [Word(one) for one in rows] -/
theorem lc_words (T : Txt P w K mg base D) {σ : L2.St} {i : Nat} {H1 : Hp} {Dl a : Addr} {Qd : Hp → Prop} {rows : List (List Nat)} (hi : i < σ.length) (hD : H1 Dl = none) (ha : SqL K H1 a (rows.map fun u => V.str (S u))) (hl : rows.length ≤ 1000) (hg : ∀ u ∈ rows, Good u ∧ u.length ≤ 4000)
    (hd : ∀ xs H', Same H1 H' → H' Dl = some (.lst xs) → Ws D H' xs rows → Qd H') : LcW (Itl K a) (gName i) tYes (tMake D.Word (sp_Word_init K D) [] E0 (tCons (tVar i) tNil)) [i] σ H1 Dl Qd := by
  refine lcG (its := rows.map fun u => V.str (S u)) walk_list (fun j acc H' => Same H1 H' ∧ Ws D H' acc (rows.take j)) ⟨same_upd hD, .nil⟩ (fun j acc H' _ h _ => sqL_same h.1 ha) ?_ ?_
  · rintro j x acc H2 hx ⟨s2, hw⟩ e2
    obtain ⟨v, hv, rfl⟩ : ∃ v, rows[j]? = some v ∧ x = .str (S v) := by
      rw [List.getElem?_map] at hx
      cases e : rows[j]? with
      | none => rw [e] at hx; cases hx
      | some v => rw [e] at hx; exact ⟨v, rfl, (Option.some.inj hx).symm⟩
    obtain ⟨hgv, hlv⟩ := hg v (List.mem_of_getElem? hv)
    have hj := (List.getElem?_eq_some_iff.mp hv).1
    refine r_yes ?_
    refine r_ift ?_
    refine r_make0 (r_cons (r_var (v := .str (S v)) (by simp [hi]) (r_nil ?_)))
    refine q_Word hgv hlv fun p dx H3 s3 hp hp3 => ?_
    have hla := paired_len hw
    rw [List.length_take] at hla
    refine lcFin (Pv := fun acc H' => Same H1 H' ∧ Ws D H' acc (rows.take (j + 1))) (s3 _ _ e2) (by omega) ⟨same_mut (s2.trans s3) hD, ?_⟩
    rw [take_snoc hv]
    have npD : p ≠ Dl := fun z => by rw [z, e2] at hp; cases hp
    refine paired_snoc (paired_mono (fun x u ⟨q, dx', e1, e3⟩ => ⟨q, dx', e1, ?_⟩) hw) ⟨p, dx, rfl, by rw [upd_ne npD]; exact hp3⟩
    have nqD : q ≠ Dl := fun z => by rw [z, e2] at e3; cases e3
    rw [upd_ne nqD]
    exact s3 _ _ e3
  · rintro acc H2 ⟨s2, hw⟩ e2
    rw [List.take_of_length_le (by simp)] at hw
    exact hd acc H2 s2 e2 hw
/-- [one.letters for one in words] -/
theorem lc_lets (T : Txt P w K mg base D) {J : It} {G : Hp → Prop} {σ : L2.St} {i : Nat} {H1 : Hp} {Dl : Addr} {Qd : Hp → Prop} {xs : List V} {rows : List (List Nat)} (hJ : L2.Walk J xs.length G (YAt xs)) (hG : ∀ H', Same H1 H' → G H') (hi : i < σ.length) (hD : H1 Dl = none) (hw : Ws D H1 xs rows) (hl : rows.length ≤ 1000)
    (hd : ∀ H', Same H1 H' → H' Dl = some (.lst (rows.map fun u => V.str (S u))) → Qd H') : LcW J (gName i) tYes (tAttr K "letters" (tVar i)) [i] σ H1 Dl Qd := by
  refine lcG (its := xs) hJ (fun j acc H' => Same H1 H' ∧ acc = (rows.take j).map fun u => V.str (S u)) ⟨same_upd hD, by simp⟩ (fun j acc H' _ h _ => hG H' h.1) ?_ ?_
  · rintro j x acc H2 hx ⟨s2, rfl⟩ e2
    obtain ⟨p, dx, v, rfl, hp, hv⟩ := ws_at (ws_same s2 hw) hx
    have hj := (List.getElem?_eq_some_iff.mp hv).1
    refine r_yes ?_
    refine r_ift ?_
    refine r_attr (r_var (v := .ref p) (by simp [hi]) ?_)
    refine q_letters T hp ?_
    exact lcFin (Pv := fun acc H' => Same H1 H' ∧ acc = (rows.take (j + 1)).map fun u => V.str (S u)) e2 (by simp; omega) ⟨same_mut s2 hD, by rw [take_snoc hv, List.map_append]; rfl⟩
  · rintro acc H2 ⟨s2, rfl⟩ e2
    rw [List.take_of_length_le (by rw [paired_len hw]; exact Nat.le_refl _)] at e2
    exact hd H2 s2 e2
theorem apart_rev {rows : List (List Nat)} : Apart rows.reverse ↔ Apart rows := by
  have go : ∀ {rows : List (List Nat)}, Apart rows → Apart rows.reverse := fun {rows} h i j x y hx hy hne => by
    have hi := (List.getElem?_eq_some_iff.mp hx).1
    have hj := (List.getElem?_eq_some_iff.mp hy).1
    rw [List.length_reverse] at hi hj
    rw [List.getElem?_reverse hi] at hx
    rw [List.getElem?_reverse hj] at hy
    exact h _ _ x y hx hy (by omega)
  exact ⟨fun h => by have := go h; rwa [List.reverse_reverse] at this, go⟩
theorem bool_iff {a b : Bool} {A : Prop} (h1 : a = true ↔ A) (h2 : b = true ↔ A) : a = b := by
  rw [Bool.eq_iff_iff]
  exact h1.trans h2.symm
/-- A .. A B -/
def manyRows (n : Nat) : List (List Nat) := (List.range n).map fun m => List.replicate m 65 ++ [66]
theorem good_many (m : Nat) : Good (List.replicate m 65 ++ [66]) := by
  have h := (good_top (u := []) (a := 65) (b := 66) good_nil (.inl rfl) (.inr (.inl rfl)) (by decide) (by simp [lastL]) (by simp [lastL]) m).1
  unfold topW at h
  simpa using h
theorem many_at {n i : Nat} {x : List Nat} (h : (manyRows n)[i]? = some x) : i < n ∧ x = List.replicate i 65 ++ [66] := by
  unfold manyRows at h
  rw [List.getElem?_map] at h
  by_cases hi : i < n
  · rw [List.getElem?_range hi] at h
    exact ⟨hi, (Option.some.inj h).symm⟩
  · rw [List.getElem?_eq_none (by simpa using hi)] at h
    cases h
theorem many_apart (n : Nat) : Apart (manyRows n) := by
  intro i j x y hx hy hne
  obtain ⟨_, rfl⟩ := many_at hx
  obtain ⟨_, rfl⟩ := many_at hy
  rw [Bool.eq_false_iff]
  intro h
  have h := List.isPrefixOf_iff_prefix.mp h
  have := rep_pre (u := []) (a := 65) (c := 66) (d := 66) (m := j) (k := i) (by decide) (by decide) (by simpa using h)
  omega
theorem many_not : ¬ Apart ((manyRows 30).drop 1 ++ [[65, 65, 65, 65, 66]]) := by
  intro h
  have := h 3 29 [65, 65, 65, 65, 66] [65, 65, 65, 65, 66] (by decide +kernel) (by decide +kernel) (by decide)
  revert this
  decide
theorem apart_nil : Apart [] := fun i j x y h => by simp at h
def dT1 : PyData := .list [.bool true, dW, .bool false]
def dT2 : PyData := .list [dW, dW, dW, dW, .bool true]
theorem lay_T1 : Lay 2 dT1 := lay_list fun d hd => by
  rcases List.mem_cons.mp hd with rfl | hd
  · exact lay_bl
  rcases List.mem_cons.mp hd with rfl | hd
  · exact lay_W
  rw [List.mem_singleton.mp hd]; exact lay_bl
theorem lay_T2 : Lay 2 dT2 := lay_list fun d hd => by
  rcases List.mem_cons.mp hd with rfl | hd
  · exact lay_W
  rcases List.mem_cons.mp hd with rfl | hd
  · exact lay_W
  rcases List.mem_cons.mp hd with rfl | hd
  · exact lay_W
  rcases List.mem_cons.mp hd with rfl | hd
  · exact lay_W
  rw [List.mem_singleton.mp hd]; exact lay_bl
abbrev tW : HO := .tup [.str (S wW), .int 0]
theorem r_eqT1 {H : Hp} {Q : VK} {a b p q : Addr} (ha : H a = some (.lst [.bl true, .ref p, .bl false])) (hb : H b = some (.lst [.bl true, .ref q, .bl false])) (hp : H p = some tW) (hq : H q = some tW) (k : Q (.bl true) H) : rEqA K (.ref a) (.ref b) H Q := by
  refine r_eqD (d := dT1) (e := dT1) (.lst (SqL.of ha) (.cons (.bl _) (.cons (dp_W hp) (.cons (.bl _) .nil)))) (.lst (SqL.of hb) (.cons (.bl _) (.cons (dp_W hq) (.cons (.bl _) .nil)))) (shaped_of lay_T1) (shaped_of lay_T1) ?_
  rw [SeqAt.eqv_refl dT1 lay_T1.1]
  exact k
theorem r_eqT2 {H : Hp} {Q : VK} {a b p1 p2 p3 p4 q1 q2 q3 q4 : Addr} (ha : H a = some (.lst [.ref p1, .ref p2, .ref p3, .ref p4, .bl true])) (hb : H b = some (.lst [.ref q1, .ref q2, .ref q3, .ref q4, .bl true])) (h1 : H p1 = some tW) (h2 : H p2 = some tW) (h3 : H p3 = some tW) (h4 : H p4 = some tW)
    (g1 : H q1 = some tW) (g2 : H q2 = some tW) (g3 : H q3 = some tW) (g4 : H q4 = some tW) (k : Q (.bl true) H) : rEqA K (.ref a) (.ref b) H Q := by
  refine r_eqD (d := dT2) (e := dT2) (.lst (SqL.of ha) (.cons (dp_W h1) (.cons (dp_W h2) (.cons (dp_W h3) (.cons (dp_W h4) (.cons (.bl _) .nil)))))) (.lst (SqL.of hb) (.cons (dp_W g1) (.cons (dp_W g2) (.cons (dp_W g3) (.cons (dp_W g4) (.cons (.bl _) .nil)))))) (shaped_of lay_T2) (shaped_of lay_T2) ?_
  rw [SeqAt.eqv_refl dT2 lay_T2.1]
  exact k
end
end Cs


set_option Elab.async false
set_option linter.all false
set_option maxRecDepth 100000
set_option maxHeartbeats 4000000
namespace Cs
open PySem PySem.Spec PyProof.Rows L2
local macro_rules | `(tactic| walk_at "two") => `(tactic| with_reducible (first
  | refine r_seq ?_ | refine r_nx ?_ | refine r_rt ?_ | refine r_ct ?_ | refine r_bk ?_ | refine r_asg ?_ | refine r_gname ?_ | refine r_ret ?_ | refine r_drop ?_ | refine r_next ?_ | refine r_retN ?_ | refine r_fld ?_ | refine r_gsub ?_ | refine r_brk ?_ | refine r_cont ?_
  | refine r_var rfl ?_ | refine r_c ?_ | refine r_op ?_ | refine r_un ?_ | refine r_test ?_ | refine r_tB ?_ | refine r_bl ?_ | refine r_blv ?_
  | refine r_cons ?_ | refine r_nil ?_ | refine r_lc ?_ | refine r_yes ?_ | refine r_iLT0 ?_ | refine r_iEnumS ?_ | refine r_iEnum ?_ | refine r_iStr ?_ | refine r_iList ?_ | refine r_iRng ?_ | refine r_iStrS ?_ | refine r_iStrE ?_ | refine r_cb ?_ | refine r_call0 ?_ | refine r_callS ?_ | refine r_callK ?_ | refine r_tup ?_ | refine r_lst ?_ | refine r_make0 ?_ | refine r_attr ?_
  | refine r_sl ?_ | refine r_nopart ?_ | refine r_part ?_ | refine r_parti ?_ | refine r_tyS ?_ | refine r_bm0 ?_ | refine r_bm ?_ | refine r_dnew ?_
  | refine r_and ?_ | refine r_or ?_ | refine r_not ?_ | refine r_andV ?_ | refine r_orV ?_ | refine r_notV ?_ | refine r_if ?_ | refine r_ift ?_ | refine r_iff ?_ | refine r_revL ?_ | refine r_ntt ?_ | refine r_nff ?_ | refine r_itup ?_ | refine r_chain ?_
  | refine r_I0 ?_ | refine r_U ?_ | refine r_addI ?_ | refine r_eqI ?_ | refine r_neI ?_ | refine r_eqS ?_ | refine r_neS ?_ | refine r_eqB ?_ | refine r_neB ?_ | refine r_inS ?_ | refine r_niS ?_ | refine r_int1 ?_ | refine r_abs ?_ | refine r_isN ?_ | refine r_notN ?_))
local macro_rules | `(tactic| walk_at "one") => `(tactic| first | walk_at "two" | with_reducible (first | refine r_ifs ?_ | refine r_forE ?_))
local macro_rules | `(tactic| walk_at "go") => `(tactic| repeat walk_at "one")
local macro_rules | `(tactic| walk_at "gp") => `(tactic| repeat walk_at "two")

section
variable {P : Program} {w : World} {K : PySem.W.Frag} {mg : Str → Option Value} {base : Heap} {D : Ad}

structure PK (P : Pen) (H1 : Hp) (n : Nat) (H' : Hp) : Prop where
  k : KeepB P H1 H'
  p : PenAt P n H'
section
variable {P : Pen} {H1 H2 H3 : Hp} {n m : Nat}
theorem PK.same (h : PK P H1 n H2) (e : Same H2 H3) : PK P H1 n H3 := ⟨h.k.trans (.of_same e), h.p.same e⟩
theorem PK.step (h : PK P H1 n H2) (k : KeepB P H2 H3) (p : PenAt P m H3) : PK P H1 m H3 := ⟨h.k.trans k, p⟩
theorem PK.mono (h : PK P H1 n H2) (hm : n ≤ m) : PK P H1 m H2 := ⟨h.k, h.p.mono hm⟩
theorem PK.ne (h : PK P H1 n H2) {a : Addr} (ha : H2 a = none) : a ≠ P.p := (h.p.ne_new ha).1.symm
end
theorem ws_keep {P : Pen} {H H' : Hp} {xs : List V} {rows : List (List Nat)} (k : KeepB P H H') (hp : PenAt P n H) (h : Ws D H xs rows) : Ws D H' xs rows :=
  paired_mono (fun _ _ ⟨p, dx, e1, e2⟩ => ⟨p, dx, e1, k p _ (fun z => by
    obtain ⟨_, _, _, _, _, e⟩ := hp.ex
    rw [z, e] at e2
    cases e2) e2⟩) h
/-- the law's first part: a lap's beginning -/
abbrev st_law_first_part : Stmt := top 47
theorem sc_law_first_part : FnScope ["script", "pen", "lap", "many", "told", "odd", "row", "due", "rows", "found", "bent", "turn", "one"] ["script"] (defScope st_law_first_part) := ⟨rfl, rfl, rfl, by decide +kernel, rfl, by decide +kernel, by decide +kernel⟩
def sp_law_first_part (K : PySem.W.Frag) (D : Ad) : Sp := fun vs H Q _ => ∃ (a : Addr) (ns : List Int), vs = [.ref a] ∧ SqL K H a (ns.map V.int) ∧ ns.length ≤ 63 ∧ ∀ H', Same H H' → Q (.bl true) H'
theorem dbl_good {w : List Nat} {c : Nat} (hg : Good w) (h : lastL w = [c]) : Good (w ++ [c]) := by
  have hc : isL c = true := allL_last (good_L hg) c (by rw [h]; exact List.mem_cons_self)
  refine good_snoc.mpr ⟨hg, hc, ?_⟩
  rw [h]
  intro z
  exact und_ne hc (by simpa using z.symm)
theorem ok_law_first_part {f : Addr} {fd : FuncData} (F : Fun K "_law_first_part" "_law_first_part" st_law_first_part f fd) (T : Txt P w K mg base D) (d_are_apart : CalX P w K mg base 2 "are_apart" (sp_are_apart K D)) (d_law_are_apart : CalN P w K mg base 1 "_law_are_apart" (sp_law_are_apart K D)) (d_law_draw : CalN P w K mg base 1 "_law_draw" (sp_law_draw K D)) (d_law_pen : CalN P w K mg base 1 "_law_pen" (sp_law_pen K D)) (d_law_pick : CalN P w K mg base 2 "_law_pick" (sp_law_pick K D)) (d_law_rows : CalN P w K mg base 4 "_law_rows" (sp_law_rows K D)) (d_law_told : CalN P w K mg base 5 "_law_told" (sp_law_told K D)) (d_law_twin : CalN P w K mg base 2 "_law_twin" (sp_law_twin K D)) (d_law_word : CalN P w K mg base 3 "_law_word" (sp_law_word K D)) (d_twin : CalX P w K mg base 4 "twin" (sp_twin K D)) (dk_are_apart_words : CalK P w K mg base (L2.CX P w) 2 "are_apart" ["words"] (gPm (α := V) .non 0 1 [0]) (sp_are_apart K D)) (dk_twin_word : CalK P w K mg base (L2.CX P w) 4 "twin" ["word"] (gPm (α := V) .non 0 1 [0]) (sp_twin K D)) (m_Word : MakX P w K mg base 2 "Word" D.Word (sp_Word_init K D)) : FnOk P w K mg base CX0 6 f fd ["script"] (sp_law_first_part K D) := by
  refine F.ok sc_law_first_part (fun vs H Q E h => ?_) (fun cdv A outer s H vs Q E hr h => ?_)
  · obtain ⟨a, ns, rfl, _⟩ := h
    rfl
  · obtain ⟨a, ns, rfl, ha, hl, q⟩ := h
    have hu := hr.units
    refine ⟨_, (pss_cons (ps_asg (pe_c0 d_law_pen hr (by decide) (pa_cons (pv 0) pa_nil)) (pg_name (i := 1) sc_law_first_part.nd rfl (Or.inl rfl)))
      (pss_cons (ps_for PassesOwn.never rfl (pi_range1 rfl T.b_range (pa_cons pe_int pa_nil)) (pg_name (i := 2) sc_law_first_part.nd rfl (Or.inl rfl))
      (pss_cons (ps_asg (pe_c0 d_law_word hr (by decide) (pa_cons (pv 1) (pa_cons (pe_c0 d_law_draw hr (by decide) (pa_cons (pv 1) (pa_cons (pe_c0 d_law_pick hr (by decide) (pa_cons (pv 1) (pa_cons (pe_lst (pa_cons pe_int (pa_cons pe_int (pa_cons pe_int (pa_cons pe_int pa_nil))))) pa_nil))) pa_nil))) pa_nil))) (pg_name (i := 6) sc_law_first_part.nd rfl (Or.inl rfl)))
      (pss_cons (ps_if (PW.pt (pw_and (pt_cmpR (op_eqK (K := K) hu) (pe_c0 d_law_draw hr (by decide) (pa_cons (pv 1) (pa_cons pe_int pa_nil))) pe_int (nomark _)) (pw_and1 (pt_cmpR (op_neK (K := K) hu) (pv 6) (pe_S (w := []) (by decide +kernel)) (nomark _)))))
      (pss_one (ps_asg (pe_op op_addA (pv 6) (pe_ix (ix_seqK (K := K)) (pv 6) (pe_un un_neg pe_int) (fun _ _ => rfl))) (pg_name (i := 6) sc_law_first_part.nd rfl (Or.inl rfl))))
      pss_nil)
      (pss_cons (ps_asg (pe_c0 d_law_twin hr (by decide) (pa_cons (pv 6) pa_nil)) (pg_name (i := 7) sc_law_first_part.nd rfl (Or.inl rfl)))
      (pss_cons (ps_if (pt_cmpR (op_neK (K := K) hu) (pe_c0 d_law_told hr (by decide) (pa_cons pe_int (pa_cons (pe_mX m_Word hr (by decide) passL (pa_cons (pv 6) pa_nil)) pa_nil))) (pe_ifExp (pt_cmpR op_isNo (pv 7) pe_non (nomark _)) (pe_tup (pa_cons (pe_S (w := [119, 111, 114, 100]) (by decide +kernel)) (pa_cons pe_int pa_nil))) (pv 7)) (nomark _))
      (pss_one (ps_ret pe_bl))
      pss_nil)
      (pss_cons (ps_if (PW.pt (pw_and (pt_cmpR op_notNo (pv 7) pe_non (nomark _)) (pw_and1 (PW.pt (pw_or (pt_not (pt_val (pe_callB (id := "isinstance") (call_isiEK (K := K)) (by rfl) T.b_isinstance (by decide +kernel) (pa_cons (pe_cX d_twin hr (by decide) passL (pa_cons (pe_mX m_Word hr (by decide) passL (pa_cons (pv 6) pa_nil)) pa_nil)) (pa_cons (pe_glob (v := .ref D.Word) rfl T.c_Word rfl) pa_nil))))) (pw_or1 (pt_cmpR (op_neK (K := K) hu) (pe_attrK (K := K) (pe_cK0 dk_twin_word hr (by decide) passL (pk_cons (pe_cX d_twin hr (by decide) passL (pa_cons (pe_mX m_Word hr (by decide) passL (pa_cons (pv 6) pa_nil)) pa_nil)) pk_nil))) (pv 6) (nomark _))))))))
      (pss_one (ps_ret pe_bl))
      pss_nil)
      (pss_cons (ps_asg (pe_c0 d_law_rows hr (by decide) (pa_cons (pv 1) pa_nil)) (pg_name (i := 8) sc_law_first_part.nd rfl (Or.inl rfl)))
      (pss_cons (ps_setLc (i := 4) (own := [("one", 12)]) (g := gName 12) (tt := tYes) (by rfl) sc_law_first_part.nd rfl rfl (sw_true rfl rfl rfl (by decide +kernel)) (pi_list (pv 8)) (blkOk_by (N := ["script", "pen", "lap", "many", "told", "odd", "row", "due", "rows", "found", "bent", "turn", "one"]) (sc := defScope st_law_first_part) (by decide +kernel)) (fun _ _ _ _ _ => (pg_name (i := 12) sc_law_first_part.nd rfl (Or.inl rfl))) (fun _ _ _ _ _ => pts_nil) (fun _ _ _ _ _ => (pe_mX m_Word hr (by decide) passL (pa_cons (pv 12) pa_nil))))
      (pss_cons (ps_asg (pe_cX d_are_apart hr (by decide) passL (pa_cons (pv 4) pa_nil)) (pg_name (i := 9) sc_law_first_part.nd rfl (Or.inl rfl)))
      (pss_cons (ps_if (PW.pt (pw_or (pt_not (pt_val (pe_callB (id := "isinstance") (call_isiEK (K := K)) (by rfl) T.b_isinstance (by decide +kernel) (pa_cons (pv 9) (pa_cons (pe_bltn (v := .ty "bool") rfl T.b_bool (by decide +kernel) rfl) pa_nil))))) (pw_or (pt_cmpR (op_neK (K := K) hu) (pv 9) (pe_c0 d_law_are_apart hr (by decide) (pa_cons (pv 8) pa_nil)) (nomark _)) (pw_or1 (pt_cmpR (op_neK (K := K) hu) (pe_cK0 dk_are_apart_words hr (by decide) passL (pk_cons (pe_callTy (T := "tuple") (call_tupleB (K := K)) (by rfl) T.b_tuple (by decide +kernel) (pa_cons (pv 4) pa_nil)) pk_nil)) (pv 9) (nomark _))))))
      (pss_one (ps_ret pe_bl))
      pss_nil)
      (pss_cons (ps_if (PW.pt (pw_or (pt_cmpR (op_neK (K := K) hu) (pe_lc (own := [("one", 12)]) (g := gName 12) (tt := tYes) rfl sc_law_first_part.nd (pi_list (pv 4)) (blkOk_by (N := ["script", "pen", "lap", "many", "told", "odd", "row", "due", "rows", "found", "bent", "turn", "one"]) (sc := defScope st_law_first_part) (by decide +kernel)) (fun _ _ _ _ _ => (pg_name (i := 12) sc_law_first_part.nd rfl (Or.inl rfl))) (fun _ _ _ _ _ => pts_nil) (fun _ _ _ _ _ => (pe_attrK (K := K) (pv 12)))) (pv 8) (nomark _)) (pw_or1 (pt_cmpR (op_neK (K := K) hu) (pe_cX d_are_apart hr (by decide) passL (pa_cons (pe_revL (pv 4)) pa_nil)) (pv 9) (nomark _)))))
      (pss_one (ps_ret pe_bl))
      pss_nil)
      (pss_cons (ps_asg (pe_c0 d_law_pick hr (by decide) (pa_cons (pv 1) (pa_cons (pe_lst (pa_cons pe_non (pa_cons pe_int (pa_cons pe_bl (pa_cons (pe_S (w := []) (by decide +kernel)) (pa_cons (pe_S (w := [65]) (by decide +kernel)) (pa_cons (pe_S (w := [65, 66]) (by decide +kernel)) (pa_cons (pe_lst pa_nil) (pa_cons pe_dnewK (pa_cons (pe_tup (pa_cons (pe_S (w := [65]) (by decide +kernel)) pa_nil)) pa_nil)))))))))) pa_nil))) (pg_name (i := 5) sc_law_first_part.nd rfl (Or.inl rfl)))
      (pss_cons (ps_asg (pe_callTy (T := "list") (call_listB (K := K)) (by rfl) T.b_list (by decide +kernel) (pa_cons (pv 4) pa_nil)) (pg_name (i := 10) sc_law_first_part.nd rfl (Or.inl rfl)))
      (pss_cons (ps_expr (pe_bmK (K := K) PySem.F.plainAttrs_list PySem.F.slot_list_insert PySem.F.type_list_insert mb_insert (pv 10) (pa_cons (pe_c0 d_law_draw hr (by decide) (pa_cons (pv 1) (pa_cons (pe_op op_addA (pe_callB (id := "len") (call_lenB (K := K)) (by rfl) T.b_len PySem.boot_len (pa_cons (pv 4) pa_nil)) pe_int) pa_nil))) (pa_cons (pv 5) pa_nil))))
      (pss_one (ps_if (PW.pt (pw_or (pt_cmpR (op_neK (K := K) hu) (pe_c0 d_law_told hr (by decide) (pa_cons pe_int (pa_cons (pv 5) pa_nil))) (pe_tup (pa_cons (pe_S (w := [119, 111, 114, 100]) (by decide +kernel)) (pa_cons pe_int pa_nil))) (nomark _)) (pw_or1 (pt_cmpR (op_neK (K := K) hu) (pe_c0 d_law_told hr (by decide) (pa_cons pe_int (pa_cons (pv 10) pa_nil))) (pe_tup (pa_cons (pe_S (w := [119, 111, 114, 100]) (by decide +kernel)) (pa_cons pe_int pa_nil))) (nomark _)))))
      (pss_one (ps_ret pe_bl))
      pss_nil))))))))))))))))
      (pss_cons (ps_setLc (i := 3) (own := [("turn", 11)]) (g := gName 11) (tt := tYes) (by rfl) sc_law_first_part.nd rfl rfl (sw_true rfl rfl rfl (by decide +kernel)) (pi_range1 rfl T.b_range (pa_cons pe_int pa_nil)) (blkOk_by (N := ["script", "pen", "lap", "many", "told", "odd", "row", "due", "rows", "found", "bent", "turn", "one"]) (sc := defScope st_law_first_part) (by decide +kernel)) (fun _ _ _ _ _ => (pg_name (i := 11) sc_law_first_part.nd rfl (Or.inl rfl))) (fun _ _ _ _ _ => pts_nil) (fun _ _ _ _ _ => (pe_mX m_Word hr (by decide) passL (pa_cons (pe_op op_addA (pe_op op_mulA (pe_S (w := [65]) (by decide +kernel)) (pv 11)) (pe_S (w := [66]) (by decide +kernel))) pa_nil))))
      (pss_cons (ps_asg (pe_lst (pa_cons (pe_c0 d_law_told hr (by decide) (pa_cons pe_int (pa_cons (pv 3) pa_nil))) (pa_cons (pe_c0 d_law_told hr (by decide) (pa_cons pe_int (pa_cons (pe_op op_addA (pv 3) (pe_lst (pa_cons (pe_mX m_Word hr (by decide) passL (pa_cons (pe_S (w := [97]) (by decide +kernel)) pa_nil)) pa_nil))) pa_nil))) (pa_cons (pe_c0 d_law_told hr (by decide) (pa_cons pe_int (pa_cons (pe_op op_addA (pe_slice (sl_anyK (K := K)) (pv 3) (po_some pe_int) po_none) (pe_lst (pa_cons (pe_mX m_Word hr (by decide) passL (pa_cons (pe_S (w := [65, 65, 65, 65, 66]) (by decide +kernel)) pa_nil)) pa_nil))) pa_nil))) pa_nil)))) (pg_name (i := 4) sc_law_first_part.nd rfl (Or.inl rfl)))
      (pss_cons (ps_asg (pe_lst (pa_cons (pe_c0 d_law_told hr (by decide) (pa_cons pe_int (pa_cons pe_non pa_nil))) (pa_cons (pe_c0 d_law_told hr (by decide) (pa_cons pe_int (pa_cons (pe_S (w := [65, 66]) (by decide +kernel)) pa_nil))) (pa_cons (pe_c0 d_law_told hr (by decide) (pa_cons pe_int (pa_cons pe_dnewK pa_nil))) (pa_cons (pe_c0 d_law_told hr (by decide) (pa_cons pe_int (pa_cons (pe_mX m_Word hr (by decide) passL (pa_cons (pe_S (w := [65, 66]) (by decide +kernel)) pa_nil)) pa_nil))) (pa_cons (pe_c0 d_law_told hr (by decide) (pa_cons pe_int (pa_cons (pe_tup pa_nil) pa_nil))) pa_nil)))))) (pg_name (i := 5) sc_law_first_part.nd rfl (Or.inl rfl)))
      (pss_one (ps_ret (pe_and (pe_cmpR (op_eqK (K := K) hu) (pv 4) (pe_lst (pa_cons pe_bl (pa_cons (pe_tup (pa_cons (pe_S (w := [119, 111, 114, 100]) (by decide +kernel)) (pa_cons pe_int pa_nil))) (pa_cons pe_bl pa_nil)))) (nomark _)) (pe_one (pe_cmpR (op_eqK (K := K) hu) (pv 5) (pe_lst (pa_cons (pe_tup (pa_cons (pe_S (w := [119, 111, 114, 100]) (by decide +kernel)) (pa_cons pe_int pa_nil))) (pa_cons (pe_tup (pa_cons (pe_S (w := [119, 111, 114, 100]) (by decide +kernel)) (pa_cons pe_int pa_nil))) (pa_cons (pe_tup (pa_cons (pe_S (w := [119, 111, 114, 100]) (by decide +kernel)) (pa_cons pe_int pa_nil))) (pa_cons (pe_tup (pa_cons (pe_S (w := [119, 111, 114, 100]) (by decide +kernel)) (pa_cons pe_int pa_nil))) (pa_cons pe_bl pa_nil)))))) (nomark _))))))))))), ?_⟩
    walk_at "go"
    refine ⟨a, ns, rfl, ha, hl, fun P H1 s1 hP hp hc => ?_⟩
    have sk : ∀ {H'}, KeepB P H1 H' → Same H H' := fun k b o e => k b o (fun z => by rw [z, hp] at e; cases e) (s1 b o e)
    walk_at "go"
    refine ⟨8, rfl, by decide, by decide, ?_⟩
    refine for_it (walk_range0 (n := 8)) (fun i σ H' => PK P H1 (500 * i) H' ∧ ∃ (v2 v3 v4 v5 v6 v7 v8 v9 v10 v11 v12 : Option V), σ = [some (.ref a), some (.ref P.p), v2, v3, v4, v5, v6, v7, v8, v9, v10, v11, v12])
      ⟨⟨KeepB.refl, hP⟩, none, none, none, none, none, none, none, none, none, none, none, rfl⟩ (fun _ _ _ _ _ => trivial) ?_ ?_
    · rintro i x σ H2 H2' hi ⟨pk, v2, v3, v4, v5, v6, v7, v8, v9, v10, v11, v12, rfl⟩ ⟨rfl, hx⟩
      have hi8 : i < 8 := by simpa using hi
      walk_at "gp"
      refine r_sz (by decide) fun e1 he1 => ?_
      walk_at "gp"
      have pk1 := pk.same (same_upd (o := .lst [V.int 2, V.int 4, V.int 10, V.int 61]) he1)
      refine ⟨P, _, e1, _, rfl, pk1.p, by omega, upd_same, pk.ne he1, by decide, by decide, fun j y H3 hy k3 hP3 => ?_⟩
      obtain ⟨l, rfl, hl1, hl2⟩ : ∃ l : Int, y = .int l ∧ 1 ≤ l ∧ l ≤ 61 := by
        match j, hy with
        | 0, hx => cases hx; exact ⟨2, rfl, by decide, by decide⟩
        | 1, hx => cases hx; exact ⟨4, rfl, by decide, by decide⟩
        | 2, hx => cases hx; exact ⟨10, rfl, by decide, by decide⟩
        | 3, hx => cases hx; exact ⟨61, rfl, by decide, by decide⟩
        | j + 4, hx => cases hx
      have pk3 := pk1.step k3 hP3
      walk_at "gp"
      refine ⟨P, _, l, rfl, pk3.p, by omega, by omega, by omega, fun d H4 h41 h42 k4 hP4 => ?_⟩
      obtain ⟨d', rfl⟩ := Int.eq_ofNat_of_zero_le h41
      have pk4 := pk3.step k4 hP4
      walk_at "gp"
      refine ⟨P, _, d', rfl, pk4.p, by omega, by omega, fun w H5 hg hlw k5 hP5 => ?_⟩
      have pk5 := (pk4.step k5 hP5).mono (m := 500 * i + 70) (by omega)
      walk_at "gp"
      refine r_cut (fun σ' H' => ∃ w, Good w ∧ w.length ≤ 61 ∧ PK P H1 (500 * i + 71) H' ∧ σ' = [some (.ref a), some (.ref P.p), some x, v3, v4, v5, some (.str (S w)), v7, v8, v9, v10, v11, v12]) (fun nx hnx => ?_) ?_
      · walk_at "go"
        refine ⟨P, _, 3, rfl, pk5.p, by omega, by decide, by decide, fun d H6 h61 h62 k6 hP6 => ?_⟩
        have pk6 := pk5.step k6 hP6
        walk_at "go"
        refine r_ib (fun e => ?_) (fun e => ?_)
        · walk_at "go"
          refine r_ib (fun e => ?_) (fun e => ?_)
          · have hne : w ≠ [] := by simpa using e
            obtain ⟨c, h1, h2⟩ := lastL_one hne
            walk_at "go"
            refine r_ixS (by omega) h2 ?_
            refine r_addS (by simp; omega) ?_
            walk_at "go"
            exact hnx _ _ ⟨w ++ [c], dbl_good hg h1, by simp; omega, pk6, rfl⟩
          · walk_at "go"
            exact hnx _ _ ⟨w, hg, by omega, pk6, rfl⟩
        · walk_at "go"
          exact hnx _ _ ⟨w, hg, by omega, pk6, rfl⟩
      · clear pk5 pk4 pk3 pk1 hg hlw
        rintro σ' H6 ⟨w, hg, hlw, pk6, rfl⟩
        walk_at "gp"
        refine ⟨w, rfl, good_L hg, by omega, ?_⟩
        generalize hdv : (if hasTw w = true then V.str (S (twOf w)) else V.non) = dv
        walk_at "gp"
        refine r_cut (fun σ' H' => PK P H1 (500 * i + 71) H' ∧ σ' = [some (.ref a), some (.ref P.p), some x, v3, v4, v5, some (.str (S w)), some dv, v8, v9, v10, v11, v12]) (fun nx hnx => ?_) ?_
        · walk_at "go"
          refine q_Word hg (by omega) fun p dx H7 s7 hp7 hp71 => ?_
          walk_at "go"
          refine q_told0 T hp71 hg (by omega) (fun ht => ?_) (fun ht H8 s8 => ?_)
          · intro t8 H8 s8 ht8n ht8
            have : dv = .non := by rw [← hdv, ht]; rfl
            subst this
            walk_at "go"
            refine r_it (decide_eq_true rfl) ?_
            walk_at "go"
            refine r_sz (by decide) fun q9 hq9 => ?_
            have s9 := same_upd (o := .tup [V.str (S wW), V.int 0]) hq9
            refine r_neW (s9 _ _ ht8) upd_same ?_
            walk_at "go"
            exact hnx _ _ ⟨((pk6.same s7).same s8).same s9, rfl⟩
          · have : dv = .str (S (twOf w)) := by rw [← hdv, ht]; rfl
            subst this
            walk_at "go"
            refine r_ie (decide_eq_false (by intro z; cases z)) ?_
            walk_at "go"
            refine r_ie (by simp) ?_
            walk_at "go"
            exact hnx _ _ ⟨(pk6.same s7).same s8, rfl⟩
        · clear pk6
          rintro σ' H7 ⟨pk7, rfl⟩
          walk_at "gp"
          refine r_cut (fun σ' H' => PK P H1 (500 * i + 71) H' ∧ σ' = [some (.ref a), some (.ref P.p), some x, v3, v4, v5, some (.str (S w)), some dv, v8, v9, v10, v11, v12]) (fun nx hnx => ?_) ?_
          · cases ht : hasTw w with
            | false =>
              have : dv = .non := by rw [← hdv, ht]; rfl
              subst this
              walk_at "go"
              refine r_ie (by simp) ?_
              walk_at "go"
              exact hnx _ _ ⟨pk7, rfl⟩
            | true =>
              have : dv = .str (S (twOf w)) := by rw [← hdv, ht]; rfl
              subst this
              have hne := hasTw_ne ht
              walk_at "go"
              refine r_it (by simp) ?_
              walk_at "go"
              refine q_Word hg (by omega) fun p dx H8 s8 hp8 hp81 => ?_
              walk_at "go"
              refine q_twin T hp81 hg (by omega) ht fun q dx2 H9 s9 hq9 hq91 => ?_
              walk_at "go"
              refine r_isK (.own D.Word) (isW T hq91) ?_
              walk_at "go"
              refine q_Word hg (by omega) fun p dx H10 s10 hp10 hp101 => ?_
              walk_at "go"
              refine q_twin T hp101 hg (by omega) ht fun q2 dx3 H11 s11 hq11 hq111 => ?_
              walk_at "go"
              show sp_twin K D [.ref q2] H11 _ _
              refine q_twin T hq111 (good_tw hg ht) (by rw [tw_len hne]; omega) (hasTw_tw hg ht) fun q3 dx4 H12 s12 hq12 hq121 => ?_
              refine q_letters T hq121 ?_
              walk_at "go"
              refine r_ie (by rw [tw_tw (good_L hg) hne]; simp) ?_
              walk_at "go"
              exact hnx _ _ ⟨((((pk7.same s8).same s9).same s10).same s11).same s12, rfl⟩
          · clear pk7
            rintro σ' H8 ⟨pk8, rfl⟩
            walk_at "gp"
            refine ⟨P, _, rfl, pk8.p, by omega, fun aR rows H9 k9 hP9 haRn haRp haRc haR hlR hrR => ?_⟩
            have pk9 := pk8.step k9 hP9
            walk_at "gp"
            refine ⟨aR, rfl, ⟨_, SqL.of haR⟩, fun Dl hDl => ?_⟩
            refine lc_words T (by simp) hDl (SqL.of haR) (by omega) (fun u hu => ⟨(hrR u hu).1, by have := (hrR u hu).2; omega⟩) fun xs H10 s10 hD10 hw10 => ?_
            have pk10 := pk9.same s10
            have hxl : xs.length = rows.length := paired_len hw10
            walk_at "gp"
            refine q_apart T (.inl hD10) hw10 (by omega) fun v H11 s11 hv => ?_
            have pk11 := pk10.same s11
            have n11 : ∀ {H'}, Same H11 H' → H' Dl = some (.lst xs) := fun s => s _ _ (s11 _ _ hD10)
            have w11 : ∀ {H'}, Same H11 H' → Ws D H' xs rows := fun s => ws_same (s11.trans s) hw10
            have r11 : ∀ {H'}, Same H11 H' → H' aR = some (.lst (rows.map fun u => V.str (S u))) := fun s => s _ _ (s11 _ _ (s10 _ _ haR))
            walk_at "go"
            refine r_isK (.ty "bool") (isK (b := true) ty_bl (kit_ty (by decide +kernel))) ?_
            walk_at "go"
            refine ⟨aR, rows, rfl, SqL.of (r11 (Same.refl _)), fun u hu => by have := (hrR u hu).2; omega, fun b H12 s12 hb => ?_⟩
            walk_at "go"
            refine r_ie (by rw [bool_iff hv hb]; simp) ?_
            walk_at "go"
            refine q_tupL (SqL.of (n11 s12)) fun t ht => ?_
            have s13 := s12.trans (same_upd (o := .tup xs) ht)
            walk_at "go"
            show sp_are_apart K D [.ref t] _ _ _
            refine q_apart T (.inr upd_same) (w11 s13) (by omega) fun v2 H14 s14 hv2 => ?_
            have s14 := s13.trans s14
            walk_at "go"
            refine r_ie (by rw [bool_iff hv hv2]; simp) ?_
            walk_at "go"
            refine ⟨Dl, rfl, ⟨_, SqL.of (n11 s14)⟩, fun D2 hD2 => ?_⟩
            refine lc_lets T (walk_list (xs := xs)) (fun H' s => sqL_same s (SqL.of (n11 s14))) (by simp) hD2 (w11 s14) (by omega) fun H15 s15 hD15 => ?_
            have s15 := s14.trans s15
            walk_at "go"
            have okR : ∀ v ∈ rows, okS v = true := fun v hv => okS_L (good_L (hrR v hv).1)
            refine r_neD (.lst (SqL.of hD15) (dpS _)) (.lst (SqL.of (r11 s15)) (dpS _)) (shaped_of (lay_strs okR)) (shaped_of (lay_strs okR)) ?_
            have ez : PyData.eqv (.list (rows.map fun w => PyData.str (S w))) (.list (rows.map fun w => PyData.str (S w))) = true := by
              rw [PyData.eqv, eqv_strs, decide_eq_true rfl]
            rw [ez]
            walk_at "go"
            refine ⟨Dl, xs, rfl, SqL.of (n11 s15), fun t2 ht2 => ?_⟩
            have s16 := s15.trans (same_upd (o := .lst xs.reverse) ht2)
            walk_at "go"
            refine q_apart T (.inl upd_same) (paired_rev (w11 s16)) (by simp; omega) fun vb3 H17 s17 hvb3 => ?_
            have s17 := s16.trans s17
            walk_at "go"
            refine r_ie (by rw [bool_iff hv (hvb3.trans apart_rev)]; simp) ?_
            have pk17 := pk11.same s17
            have hD17 := n11 s17
            have hw17 := w11 s17
            clear n11 w11 r11
            walk_at "go"
            refine r_sz (by decide) fun o1 ho1 => ?_
            walk_at "go"
            intro o2 ho2
            walk_at "go"
            refine r_sz (by decide) fun o3 ho3 => ?_
            walk_at "go"
            refine r_sz (by simp) fun o4 ho4 => ?_
            walk_at "go"
            have t1 := same_upd (o := .lst []) ho1
            have t2 := same_upd (o := .dK []) ho2
            have t3 := same_upd (o := .tup [V.str (S [65])]) ho3
            have t4 := same_upd (o := .lst [V.non, V.int 0, V.bl true, V.str (S []), V.str (S [65]), V.str (S [65, 66]), V.ref o1, V.ref o2, V.ref o3]) ho4
            have t14 := t1.trans (t2.trans (t3.trans t4))
            have pk18 := pk17.same t14
            have no1 : o1 ≠ P.p := pk17.ne ho1
            have no2 : o2 ≠ P.p := (pk17.same t1).ne ho2
            have no3 : o3 ≠ P.p := ((pk17.same t1).same t2).ne ho3
            have no4 : o4 ≠ P.p := (((pk17.same t1).same t2).same t3).ne ho4
            have nDl : Dl ≠ P.p := pk9.ne hDl
            refine ⟨P, _, o4, _, rfl, pk18.p, by omega, upd_same, no4, by simp, by simp, fun j od H19 hod k19 hP19 => ?_⟩
            have pk19 := pk18.step k19 hP19
            have hodd : ∀ {H'}, KeepB P H19 H' → IsK K H' od (.ref D.Word) false := by
              intro H' kk
              have kk := k19.trans kk
              match j, hod with
              | 0, h => cases h; exact isK ty_non T.k_NoneType_Word
              | 1, h => cases h; exact isK ty_int T.k_int_Word
              | 2, h => cases h; exact isK ty_bl T.k_bool_Word
              | 3, h => cases h; exact isK ty_str T.k_str_Word
              | 4, h => cases h; exact isK ty_str T.k_str_Word
              | 5, h => cases h; exact isK ty_str T.k_str_Word
              | 6, h => cases h; exact isK (ty_lst (kk _ _ no1 ((t2.trans (t3.trans t4)) _ _ upd_same))) T.k_list_Word
              | 7, h => cases h; exact isK (ty_dK (kk _ _ no2 ((t3.trans t4) _ _ upd_same))) T.k_dict_Word
              | 8, h => cases h; exact isK (ty_tup (kk _ _ no3 (t4 _ _ upd_same))) T.k_tuple_Word
              | j + 9, h => cases h
            have hD19 := k19 _ _ nDl (t14 _ _ hD17)
            have hw19 := ws_keep k19 pk18.p (ws_same t14 hw17)
            walk_at "go"
            refine q_listL (SqL.of hD19) fun bt hbt => ?_
            have s20 := same_upd (o := .lst xs) hbt
            have pk20 := pk19.same s20
            have nbt : bt ≠ P.p := pk19.ne hbt
            walk_at "go"
            refine r_tyL (SqL.of upd_same) ?_
            walk_at "go"
            refine q_lenL (SqL.of (s20 _ _ hD19)) ?_
            walk_at "go"
            refine ⟨P, _, _, rfl, pk20.p, by omega, by omega, by omega, fun d H21 h211 h212 k21 hP21 => ?_⟩
            obtain ⟨d', rfl⟩ := Int.eq_ofNat_of_zero_le h211
            have pk21 := pk20.step k21 hP21
            walk_at "go"
            refine q_insert (k21 _ _ nbt upd_same) (by omega) (by omega) ?_
            have k22 : KeepB P H19 (upd H21 bt (.lst (xs.take d' ++ [od] ++ xs.drop d'))) := ((KeepB.of_same s20).trans k21).mut hbt
            have pk22 : PK P H1 (500 * i + 71 + 100 + 1 + 1) (upd H21 bt (.lst (xs.take d' ++ [od] ++ xs.drop d'))) := by
              refine ⟨pk19.k.trans k22, ?_⟩
              obtain ⟨n1, n2⟩ := pk19.p.ne_new hbt
              obtain ⟨s', r', h1, h2, h3, h4⟩ := pk21.p.ex
              exact ⟨⟨s', r', h1, h2, h3, by rw [upd_ne n1]; exact h4⟩, by rw [upd_ne n2]; exact pk21.p.cells, pk21.p.len, pk21.p.ne⟩
            have hw22 := ws_keep k22 pk19.p hw19
            have hb22 : (upd H21 bt (.lst (xs.take d' ++ [od] ++ xs.drop d'))) bt = some (.lst (xs.take d' ++ [od] ++ xs.drop d')) := upd_same
            have ho22 := hodd k22
            generalize upd H21 bt (.lst (xs.take d' ++ [od] ++ xs.drop d')) = H22 at k22 pk22 hw22 hb22 ho22 ⊢
            walk_at "go"
            refine q_told0N ho22 fun t8 H23 s23 _ ht8 => ?_
            walk_at "go"
            refine r_sz (by decide) fun q9 hq9 => ?_
            have s24 := same_upd (o := .tup [V.str (S wW), V.int 0]) hq9
            refine r_neW (s24 _ _ ht8) upd_same ?_
            walk_at "go"
            have s25 := s23.trans s24
            have hB := ws_B T (ws_same s25 hw22)
            have hB2 : WsB K D _ (xs.take d' ++ [od] ++ xs.drop d') ((List.replicate xs.length true).take d' ++ [false] ++ (List.replicate xs.length true).drop d') := paired_app (paired_app (paired_take d' hB) (.cons (isK_same s25 ho22) .nil)) (paired_drop d' hB)
            refine q_told1B (.inl (s25 _ _ hb22)) hB2 (by simp; omega) (by simp) fun t9 H26 s26 _ ht9 => ?_
            walk_at "go"
            refine r_sz (by decide) fun q10 hq10 => ?_
            have s27 := same_upd (o := .tup [V.str (S wW), V.int 0]) hq10
            refine r_neW (s27 _ _ ht9) upd_same ?_
            walk_at "go"
            exact ⟨(((pk22.same s25).same s26).same s27).mono (by omega), some x, v3, some (.ref Dl), some od, some (.str (S w)), some dv, some (.ref aR), some (.bl v), some (.ref bt), v11, v12, rfl⟩
    · rintro σ H2 ⟨pk, v2, v3, v4, v5, v6, v7, v8, v9, v10, v11, v12, rfl⟩
      have s2 := sk pk.k
      clear pk
      walk_at "go"
      refine ⟨30, rfl, by decide, by decide, fun Dl hDl => ?_⟩
      refine lcG (its := (List.range 30).map fun i => V.int (i : Nat)) (walk_range0 (n := 30)) (fun j acc H' => Same H2 H' ∧ Ws D H' acc (manyRows j)) ⟨same_upd hDl, .nil⟩ (fun _ _ _ _ _ _ => trivial) ?_ ?_
      · rintro j x acc H3 hx ⟨s3, hw⟩ e3
        obtain ⟨hj, rfl⟩ : j < 30 ∧ x = .int (j : Nat) := by
          rw [List.getElem?_map] at hx
          by_cases hj : j < 30
          · rw [List.getElem?_range hj] at hx
            exact ⟨hj, (Option.some.inj hx).symm⟩
          · rw [List.getElem?_eq_none (by simpa using hj)] at hx
            cases hx
        walk_at "go"
        refine r_mulS (by decide) (by omega) ?_
        rw [rep1]
        walk_at "go"
        refine r_addS (by simp; omega) ?_
        walk_at "go"
        refine q_Word (good_many j) (by simp; omega) fun p dx H4 s4 hp4 hp41 => ?_
        have hla := paired_len hw
        have hlm : ∀ n, (manyRows n).length = n := fun n => by simp [manyRows]
        rw [hlm] at hla
        refine lcFin (Pv := fun acc H' => Same H2 H' ∧ Ws D H' acc (manyRows (j + 1))) (s4 _ _ e3) (by omega) ⟨same_mut (s3.trans s4) hDl, ?_⟩
        have npD : p ≠ Dl := fun z => by rw [z, e3] at hp4; cases hp4
        have em : manyRows (j + 1) = manyRows j ++ [List.replicate j 65 ++ [66]] := by
          unfold manyRows
          rw [List.range_succ, List.map_append]
          rfl
        rw [em]
        refine paired_snoc (paired_mono (fun x u ⟨q, dx', e1, e2⟩ => ⟨q, dx', e1, ?_⟩) hw) ⟨p, dx, rfl, by rw [upd_ne npD]; exact hp41⟩
        have nqD : q ≠ Dl := fun z => by rw [z, e3] at e2; cases e2
        rw [upd_ne nqD]
        exact s4 _ _ e2
      · rintro xs H3 ⟨s3, hw⟩ e3
        have hw : Ws D H3 xs (manyRows 30) := hw
        have hxl : xs.length = 30 := by rw [paired_len hw]; simp [manyRows]
        walk_at "go"
        refine q_told1 T (.inl e3) hw (by omega) fun v1 H4 s4 hv1 => ?_
        have hv1 : v1 = true := hv1.mpr (many_apart 30)
        subst hv1
        walk_at "go"
        refine q_Word (w := [97]) (by unfold Good; decide) (by decide) fun p5 dx5 H5 s5 hp5 hp51 => ?_
        walk_at "go"
        refine r_sz (by simp) fun l6 hl6 => ?_
        have s6 := same_upd (o := .lst [V.ref p5]) hl6
        have s46 := s4.trans (s5.trans s6)
        refine r_addL (s46 _ _ e3) upd_same (by simp; omega) fun l7 hl7 => ?_
        have s7 := same_upd (o := .lst (xs ++ [V.ref p5])) hl7
        walk_at "go"
        have w7 : Ws D _ (xs ++ [V.ref p5]) (manyRows 30 ++ [[97]]) := paired_snoc (ws_same (s46.trans s7) hw) ⟨p5, dx5, rfl, (s6.trans s7) _ _ hp51⟩
        refine q_told1B (.inl upd_same) (ws_B T w7) (by simp; omega) (by rw [decide_eq_false (by simp; omega)]; rfl) fun t8 H8 s8 _ ht8 => ?_
        have s48 := (s46.trans s7).trans s8
        walk_at "go"
        refine r_slL (xs' := xs.drop 1) (SqL.of (s48 _ _ e3)) (cutV_from xs 1) fun l9 hl9 => ?_
        have s9 := same_upd (o := .lst (xs.drop 1)) hl9
        walk_at "go"
        refine q_Word (w := [65, 65, 65, 65, 66]) (by unfold Good; decide) (by decide) fun p10 dx10 H10 s10 hp10 hp101 => ?_
        walk_at "go"
        refine r_sz (by simp) fun l11 hl11 => ?_
        have s11 := same_upd (o := .lst [V.ref p10]) hl11
        refine r_addL (s11 _ _ (s10 _ _ upd_same)) upd_same (by simp; omega) fun l12 hl12 => ?_
        have s12 := same_upd (o := .lst (xs.drop 1 ++ [V.ref p10])) hl12
        have s412 := s48.trans (s9.trans (s10.trans (s11.trans s12)))
        walk_at "go"
        have w12 : Ws D _ (xs.drop 1 ++ [V.ref p10]) ((manyRows 30).drop 1 ++ [[65, 65, 65, 65, 66]]) := paired_snoc (paired_drop 1 (ws_same s412 hw)) ⟨p10, dx10, rfl, (s11.trans s12) _ _ hp101⟩
        refine q_told1 T (.inl upd_same) w12 (by simp; omega) fun v2 H13 s13 hv2 => ?_
        have hv2 : v2 = false := by
          cases v2 with
          | false => rfl
          | true => exact absurd (hv2.mp rfl) many_not
        subst hv2
        have ht13 := (s9.trans (s10.trans (s11.trans (s12.trans s13)))) _ _ ht8
        have s413 := s412.trans s13
        clear w7 w12
        walk_at "go"
        refine r_sz (by simp) fun l14 hl14 => ?_
        have s14 := same_upd (o := .lst [V.bl true, V.ref t8, V.bl false]) hl14
        have ht14 := s14 _ _ ht13
        have hl14' : (upd H13 l14 (.lst [V.bl true, V.ref t8, V.bl false])) l14 = some (.lst [V.bl true, V.ref t8, V.bl false]) := upd_same
        have s414 := s413.trans s14
        generalize upd H13 l14 (.lst [V.bl true, V.ref t8, V.bl false]) = H14 at s14 ht14 hl14' s414 ⊢
        walk_at "go"
        have nol : ∀ {H : Hp} {x : V} {t : Value}, TyX K H x t → PySem.W.kitOne K t (.type "list") = some false → PySem.W.kitOne K t (.type "tuple") = some false → IsT K H x [.type "list", .type "tuple"] false := fun h k1 k2 => isT_of (b1 := false) (b2 := false) h k1 k2
        refine q_told1N (nol ty_non (kit_ty (by decide +kernel)) (kit_ty (by decide +kernel))) fun t15 H15 s15 _ ht15 => ?_
        walk_at "go"
        refine q_told1N (nol ty_str (kit_ty (by decide +kernel)) (kit_ty (by decide +kernel))) fun t16 H16 s16 _ ht16 => ?_
        walk_at "go"
        intro d17 hd17
        have s17 := same_upd (o := .dK []) hd17
        walk_at "go"
        refine q_told1N (nol (ty_dK upd_same) (kit_ty (by decide +kernel)) (kit_ty (by decide +kernel))) fun t18 H18 s18 _ ht18 => ?_
        walk_at "go"
        refine q_Word (w := [65, 66]) (by unfold Good; decide) (by decide) fun p19 dx19 H19 s19 hp19 hp191 => ?_
        walk_at "go"
        refine q_told1N (nol (ty_ins hp191 T.cl_Word T.ti_Word) T.k_Word_list T.k_Word_tuple) fun t20 H20 s20 _ ht20 => ?_
        walk_at "go"
        refine r_sz (by decide) fun e21 he21 => ?_
        have s21 := same_upd (o := .tup []) he21
        walk_at "go"
        refine q_told1 T (rows := []) (.inr upd_same) .nil (by decide) fun v3 H22 s22 hv3 => ?_
        have hv3 : v3 = true := hv3.mpr apart_nil
        subst hv3
        have s1822 := s19.trans (s20.trans (s21.trans s22))
        have g15 : H22 t15 = some tW := (s16.trans (s17.trans (s18.trans s1822))) _ _ ht15
        have g16 : H22 t16 = some tW := (s17.trans (s18.trans s1822)) _ _ ht16
        have g18 : H22 t18 = some tW := s1822 _ _ ht18
        have g20 : H22 t20 = some tW := (s21.trans s22) _ _ ht20
        have s1422 := s15.trans (s16.trans (s17.trans (s18.trans s1822)))
        walk_at "go"
        refine r_sz (by simp) fun l23 hl23 => ?_
        have s23 := same_upd (o := .lst [V.ref t15, V.ref t16, V.ref t18, V.ref t20, V.bl true]) hl23
        have hl23' : (upd H22 l23 (.lst [V.ref t15, V.ref t16, V.ref t18, V.ref t20, V.bl true])) l23 = some (.lst [V.ref t15, V.ref t16, V.ref t18, V.ref t20, V.bl true]) := upd_same
        generalize upd H22 l23 (.lst [V.ref t15, V.ref t16, V.ref t18, V.ref t20, V.bl true]) = H23 at s23 hl23' ⊢
        walk_at "go"
        refine r_sz (by decide) fun p24 hp24 => ?_
        have s24 := same_upd (o := tW) hp24
        walk_at "go"
        refine r_sz (by simp) fun l25 hl25 => ?_
        have s25 := same_upd (o := .lst [V.bl true, V.ref p24, V.bl false]) hl25
        have s1425 := s1422.trans (s23.trans (s24.trans s25))
        refine r_eqT1 (s1425 _ _ hl14') upd_same (s1425 _ _ ht14) (s25 _ _ upd_same) ?_
        walk_at "go"
        refine r_sz (by decide) fun q1 hq1 => ?_
        have u1 := same_upd (o := tW) hq1
        walk_at "go"
        refine r_sz (by decide) fun q2 hq2 => ?_
        have u2 := same_upd (o := tW) hq2
        walk_at "go"
        refine r_sz (by decide) fun q3 hq3 => ?_
        have u3 := same_upd (o := tW) hq3
        walk_at "go"
        refine r_sz (by decide) fun q4 hq4 => ?_
        have u4 := same_upd (o := tW) hq4
        walk_at "go"
        refine r_sz (by simp) fun l26 hl26 => ?_
        have u5 := same_upd (o := .lst [V.ref q1, V.ref q2, V.ref q3, V.ref q4, V.bl true]) hl26
        have u15 := (s24.trans s25).trans (u1.trans (u2.trans (u3.trans (u4.trans u5))))
        refine r_eqT2 (u15 _ _ hl23') upd_same (u15 _ _ (s23 _ _ g15)) (u15 _ _ (s23 _ _ g16)) (u15 _ _ (s23 _ _ g18)) (u15 _ _ (s23 _ _ g20))
          ((u2.trans (u3.trans (u4.trans u5))) _ _ upd_same) ((u3.trans (u4.trans u5)) _ _ upd_same) ((u4.trans u5) _ _ upd_same) (u5 _ _ upd_same) ?_
        exact q _ (s2.trans (s3.trans (s414.trans (s1422.trans (s23.trans u15)))))
end
end Cs


set_option Elab.async false
set_option linter.all false
set_option maxRecDepth 100000
set_option maxHeartbeats 4000000
namespace Cs
open PySem PySem.Spec PyProof.Rows L2
local macro_rules | `(tactic| walk_at "two") => `(tactic| with_reducible (first
  | refine r_seq ?_ | refine r_nx ?_ | refine r_rt ?_ | refine r_ct ?_ | refine r_bk ?_ | refine r_asg ?_ | refine r_gname ?_ | refine r_ret ?_ | refine r_drop ?_ | refine r_next ?_ | refine r_retN ?_ | refine r_fld ?_ | refine r_gsub ?_ | refine r_brk ?_ | refine r_cont ?_
  | refine r_var rfl ?_ | refine r_c ?_ | refine r_op ?_ | refine r_un ?_ | refine r_test ?_ | refine r_tB ?_ | refine r_bl ?_ | refine r_blv ?_
  | refine r_cons ?_ | refine r_nil ?_ | refine r_lc ?_ | refine r_yes ?_ | refine r_iLT0 ?_ | refine r_iEnumS ?_ | refine r_iEnum ?_ | refine r_iStr ?_ | refine r_iList ?_ | refine r_iRng ?_ | refine r_iStrS ?_ | refine r_iStrE ?_ | refine r_cb ?_ | refine r_call0 ?_ | refine r_callS ?_ | refine r_callK ?_ | refine r_tup ?_ | refine r_lst ?_ | refine r_make0 ?_ | refine r_attr ?_
  | refine r_sl ?_ | refine r_nopart ?_ | refine r_part ?_ | refine r_parti ?_ | refine r_tyS ?_ | refine r_bm0 ?_ | refine r_bm ?_ | refine r_dnew ?_
  | refine r_and ?_ | refine r_or ?_ | refine r_not ?_ | refine r_andV ?_ | refine r_orV ?_ | refine r_notV ?_ | refine r_if ?_ | refine r_ift ?_ | refine r_iff ?_ | refine r_revL ?_ | refine r_ntt ?_ | refine r_nff ?_ | refine r_itup ?_ | refine r_chain ?_
  | refine r_I0 ?_ | refine r_U ?_ | refine r_addI ?_ | refine r_eqI ?_ | refine r_neI ?_ | refine r_eqS ?_ | refine r_neS ?_ | refine r_eqB ?_ | refine r_neB ?_ | refine r_inS ?_ | refine r_niS ?_ | refine r_int1 ?_ | refine r_abs ?_ | refine r_isN ?_ | refine r_notN ?_))
local macro_rules | `(tactic| walk_at "one") => `(tactic| first | walk_at "two" | with_reducible (first | refine r_ifs ?_ | refine r_forE ?_))
local macro_rules | `(tactic| walk_at "go") => `(tactic| repeat walk_at "one")
local macro_rules | `(tactic| walk_at "gp") => `(tactic| repeat walk_at "two")

section
variable {P : Program} {w : World} {K : PySem.W.Frag} {mg : Str → Option Value} {base : Heap} {D : Ad}

abbrev tN : HO := .tup [.str (S S_number), .str (S S_count)]
abbrev tM : HO := .tup [.str (S S_many), .str (S S_letters), .int 24]
def dN : PyData := .tuple [.str (S S_number), .str (S S_count)]
def dM : PyData := .tuple [.str (S S_many), .str (S S_letters), .int 24]
theorem lay_N {n : Nat} : Lay (n + 1) dN := lay_tuple fun d hd => by
  rcases List.mem_cons.mp hd with rfl | hd
  · exact lay_S (by decide)
  · rw [List.mem_singleton.mp hd]; exact lay_S (by decide)
theorem lay_M {n : Nat} : Lay (n + 1) dM := lay_tuple fun d hd => by
  rcases List.mem_cons.mp hd with rfl | hd
  · exact lay_S (by decide)
  rcases List.mem_cons.mp hd with rfl | hd
  · exact lay_S (by decide)
  rw [List.mem_singleton.mp hd]; exact lay_int
theorem dp_N {H : Hp} {p : Addr} (h : H p = some tN) : Dp K H (.ref p) dN := .tup (SqT.of h) (.cons (.str _) (.cons (.str _) .nil))
theorem dp_M {H : Hp} {p : Addr} (h : H p = some tM) : Dp K H (.ref p) dM := .tup (SqT.of h) (.cons (.str _) (.cons (.str _) (.cons (.int 24) .nil)))
theorem r_neN {H : Hp} {Q : VK} {p q : Addr} (h1 : H p = some tN) (h2 : H q = some tN) (k : Q (.bl false) H) : rNeA K (.ref p) (.ref q) H Q := by
  refine r_neD (dp_N h1) (dp_N h2) (shaped_of (lay_N (n := 0))) (shaped_of (lay_N (n := 0))) ?_
  rw [SeqAt.eqv_refl dN (lay_N (n := 0)).1]
  exact k
def dNM : PyData := .list [dN, dM]
theorem lay_NM : Lay 2 dNM := lay_list fun d hd => by
  rcases List.mem_cons.mp hd with rfl | hd
  · exact lay_N
  rw [List.mem_singleton.mp hd]; exact lay_M
theorem r_neNM {H : Hp} {Q : VK} {a b p q p' q' : Addr} (ha : H a = some (.lst [.ref p, .ref q])) (hb : H b = some (.lst [.ref p', .ref q'])) (h1 : H p = some tN) (h2 : H q = some tM) (h3 : H p' = some tN) (h4 : H q' = some tM) (k : Q (.bl false) H) : rNeA K (.ref a) (.ref b) H Q := by
  refine r_neD (d := dNM) (e := dNM) (.lst (SqL.of ha) (.cons (dp_N h1) (.cons (dp_M h2) .nil))) (.lst (SqL.of hb) (.cons (dp_N h3) (.cons (dp_M h4) .nil))) (shaped_of lay_NM) (shaped_of lay_NM) ?_
  rw [SeqAt.eqv_refl dNM lay_NM.1]
  exact k
abbrev wLet : List Nat := [108, 101, 116]
def dLLM : PyData := .list [.str (S wLet), .str (S wLet), dM]
theorem lay_LLM : Lay 2 dLLM := lay_list fun d hd => by
  rcases List.mem_cons.mp hd with rfl | hd
  · exact lay_S (by decide)
  rcases List.mem_cons.mp hd with rfl | hd
  · exact lay_S (by decide)
  rw [List.mem_singleton.mp hd]; exact lay_M
theorem r_eqLLM {H : Hp} {Q : VK} {a b p q : Addr} (ha : H a = some (.lst [.str (S wLet), .str (S wLet), .ref p])) (hb : H b = some (.lst [.str (S wLet), .str (S wLet), .ref q])) (h1 : H p = some tM) (h2 : H q = some tM) (k : Q (.bl true) H) : rEqA K (.ref a) (.ref b) H Q := by
  refine r_eqD (d := dLLM) (e := dLLM) (.lst (SqL.of ha) (.cons (.str _) (.cons (.str _) (.cons (dp_M h1) .nil)))) (.lst (SqL.of hb) (.cons (.str _) (.cons (.str _) (.cons (dp_M h2) .nil)))) (shaped_of lay_LLM) (shaped_of lay_LLM) ?_
  rw [SeqAt.eqv_refl dLLM lay_LLM.1]
  exact k
theorem inR_no {H : Hp} {x : V} {t : Value} (h : TyX K H x t) (k : PySem.W.kitOne K t (.type "int") = some false) {b : Bool} (k2 : PySem.W.kitOne K t (.type "bool") = some b) : InR K H x 1 12 false :=
  ⟨false, b, isK h k, isK h k2, (fun z => nomatch z), fun _ => rfl⟩
theorem inR_out {H : Hp} {n : Int} (h : n < 1 ∨ 12 < n) : InR K H (.int n) 1 12 false :=
  ⟨true, false, isK ty_int (kit_ty (by decide +kernel)), isK ty_int (kit_ty (by decide +kernel)), fun _ => ⟨n, rfl, by
    rcases h with h | h
    · rw [decide_eq_false (by omega)]; rfl
    · rw [decide_eq_false (p := n ≤ 12) (by omega), Bool.and_false]⟩, fun z => nomatch z⟩
theorem inR_bool {H : Hp} {c : Bool} : InR K H (.bl c) 1 12 false :=
  ⟨true, true, isK ty_bl (kit_ty (by decide +kernel)), isK ty_bl (kit_ty (by decide +kernel)), (fun z => nomatch z), fun _ => rfl⟩
theorem q_ot0 {H : Hp} {Q : VK} {x y : V} (h : IsK K H x (.ref D.Word) false) (q : TupQ [.str (S wW), .int 0] Q H) : sp_law_other_told K D [x, y] H Q E0 := ⟨x, y, false, rfl, h, fun _ => q, fun z => nomatch z⟩
theorem q_otN (T : Txt P w K mg base D) {H : Hp} {Q : VK} {p dx : Addr} {u : List Nat} {y : V} (h : H p = some (.ins D.Word dx (wf u))) (hg : Good u) (hl : u.length ≤ 4000) (hy : InR K H y 1 12 false) (q : TupQ [.str (S S_number), .str (S S_count)] Q H) : sp_law_other_told K D [.ref p, y] H Q E0 :=
  ⟨_, y, true, rfl, isW T h, (fun z => nomatch z), fun _ => ⟨p, dx, u, false, rfl, h, hg, hl, hy, fun _ => q, fun z => nomatch z⟩⟩
theorem q_otM (T : Txt P w K mg base D) {H : Hp} {Q : VK} {p dx : Addr} {u : List Nat} {n : Nat} (h : H p = some (.ins D.Word dx (wf u))) (hg : Good u) (hl : u.length ≤ 4000) (h1 : 1 ≤ n) (h2 : n ≤ 12) (q1 : 24 < u.length → TupQ [.str (S S_many), .str (S S_letters), .int 24] Q H) (q2 : u.length ≤ 24 → ∀ H', Same H H' → Q (.str (S wLet)) H') : sp_law_other_told K D [.ref p, .int (n : Nat)] H Q E0 :=
  ⟨_, _, true, rfl, isW T h, (fun z => nomatch z), fun _ => ⟨p, dx, u, true, rfl, h, hg, hl, inR_int h1 h2, (fun z => nomatch z), fun _ => ⟨n, rfl, h2, q1, q2⟩⟩⟩
theorem good_As (m : Nat) : Good (List.replicate m 65) := by
  have h := good_rep (u := []) (a := 65) good_nil (.inl rfl) (by simp [lastL]) m
  simpa using h
abbrev st_law_second_part : Stmt := top 51
theorem sc_law_second_part : FnScope ["script", "pen", "lap", "stem", "odd", "great", "many"] ["script"] (defScope st_law_second_part) := ⟨rfl, rfl, rfl, by decide +kernel, rfl, by decide +kernel, by decide +kernel⟩
def sp_law_second_part (K : PySem.W.Frag) (D : Ad) : Sp := fun vs H Q _ => ∃ (a : Addr) (ns : List Int), vs = [.ref a] ∧ SqL K H a (ns.map V.int) ∧ ns.length ≤ 63 ∧ ∀ H', Same H H' → Q (.bl true) H'
theorem ok_law_second_part {f : Addr} {fd : FuncData} (F : Fun K "_law_second_part" "_law_second_part" st_law_second_part f fd) (T : Txt P w K mg base D) (d_law_draw : CalN P w K mg base 1 "_law_draw" (sp_law_draw K D)) (d_law_other_told : CalN P w K mg base 5 "_law_other_told" (sp_law_other_told K D)) (d_law_pen : CalN P w K mg base 1 "_law_pen" (sp_law_pen K D)) (d_law_pick : CalN P w K mg base 2 "_law_pick" (sp_law_pick K D)) (d_law_right : CalN P w K mg base 5 "_law_right" (sp_law_right K D)) (d_law_word : CalN P w K mg base 3 "_law_word" (sp_law_word K D)) (m_Word : MakX P w K mg base 2 "Word" D.Word (sp_Word_init K D)) : FnOk P w K mg base CX0 6 f fd ["script"] (sp_law_second_part K D) := by
  refine F.ok sc_law_second_part (fun vs H Q E h => ?_) (fun cdv A outer s H vs Q E hr h => ?_)
  · obtain ⟨a, ns, rfl, _⟩ := h
    rfl
  · obtain ⟨a, ns, rfl, ha, hl, q⟩ := h
    have hu := hr.units
    refine ⟨_, (pss_cons (ps_asg (pe_c0 d_law_pen hr (by decide) (pa_cons (pv 0) pa_nil)) (pg_name (i := 1) sc_law_second_part.nd rfl (Or.inl rfl)))
      (pss_cons (ps_for PassesOwn.never rfl (pi_range1 rfl T.b_range (pa_cons pe_int pa_nil)) (pg_name (i := 2) sc_law_second_part.nd rfl (Or.inl rfl))
      (pss_cons (ps_asg (pe_c0 d_law_word hr (by decide) (pa_cons (pv 1) (pa_cons (pe_c0 d_law_draw hr (by decide) (pa_cons (pv 1) (pa_cons (pe_c0 d_law_pick hr (by decide) (pa_cons (pv 1) (pa_cons (pe_lst (pa_cons pe_int (pa_cons pe_int (pa_cons pe_int (pa_cons pe_int (pa_cons pe_int pa_nil)))))) pa_nil))) pa_nil))) pa_nil))) (pg_name (i := 3) sc_law_second_part.nd rfl (Or.inl rfl)))
      (pss_cons (ps_if (pt_not (pt_val (pe_c0 d_law_right hr (by decide) (pa_cons (pv 3) (pa_cons (pe_op op_addA pe_int (pe_c0 d_law_draw hr (by decide) (pa_cons (pv 1) (pa_cons pe_int pa_nil)))) pa_nil)))))
      (pss_one (ps_ret pe_bl))
      pss_nil)
      (pss_cons (ps_asg (pe_c0 d_law_pick hr (by decide) (pa_cons (pv 1) (pa_cons (pe_lst (pa_cons pe_non (pa_cons pe_int (pa_cons pe_bl (pa_cons (pe_S (w := [65]) (by decide +kernel)) (pa_cons (pe_S (w := []) (by decide +kernel)) (pa_cons pe_int (pa_cons (pe_un un_neg pe_int) (pa_cons (pe_lst (pa_cons (pe_mX m_Word hr (by decide) passL (pa_cons (pe_S (w := [65]) (by decide +kernel)) pa_nil)) pa_nil)) (pa_cons (pe_tup pa_nil) pa_nil)))))))))) pa_nil))) (pg_name (i := 4) sc_law_second_part.nd rfl (Or.inl rfl)))
      (pss_cons (ps_asg (pe_mX m_Word hr (by decide) passL (pa_cons (pe_c0 d_law_word hr (by decide) (pa_cons (pv 1) (pa_cons (pe_op op_addA pe_int (pe_c0 d_law_draw hr (by decide) (pa_cons (pv 1) (pa_cons pe_int pa_nil)))) pa_nil))) pa_nil)) (pg_name (i := 5) sc_law_second_part.nd rfl (Or.inl rfl)))
      (pss_cons (ps_if (PW.pt (pw_or (pt_cmpR (op_neK (K := K) hu) (pe_c0 d_law_other_told hr (by decide) (pa_cons (pv 4) (pa_cons (pv 4) pa_nil))) (pe_tup (pa_cons (pe_S (w := [119, 111, 114, 100]) (by decide +kernel)) (pa_cons pe_int pa_nil))) (nomark _)) (pw_or1 (pt_cmpR (op_neK (K := K) hu) (pe_c0 d_law_other_told hr (by decide) (pa_cons (pv 5) (pa_cons (pv 4) pa_nil))) (pe_tup (pa_cons (pe_S (w := [110, 117, 109, 98, 101, 114]) (by decide +kernel)) (pa_cons (pe_S (w := [99, 111, 117, 110, 116]) (by decide +kernel)) pa_nil))) (nomark _)))))
      (pss_one (ps_ret pe_bl))
      pss_nil)
      (pss_one (ps_if (pt_cmpR (op_neK (K := K) hu) (pe_lst (pa_cons (pe_c0 d_law_other_told hr (by decide) (pa_cons (pe_mX m_Word hr (by decide) passL (pa_cons (pv 3) pa_nil)) (pa_cons (pv 4) pa_nil))) (pa_cons (pe_c0 d_law_other_told hr (by decide) (pa_cons (pv 5) (pa_cons (pe_op op_addA pe_int (pe_c0 d_law_draw hr (by decide) (pa_cons (pv 1) (pa_cons pe_int pa_nil)))) pa_nil))) pa_nil))) (pe_lst (pa_cons (pe_tup (pa_cons (pe_S (w := [110, 117, 109, 98, 101, 114]) (by decide +kernel)) (pa_cons (pe_S (w := [99, 111, 117, 110, 116]) (by decide +kernel)) pa_nil))) (pa_cons (pe_tup (pa_cons (pe_S (w := [109, 97, 110, 121]) (by decide +kernel)) (pa_cons (pe_S (w := [108, 101, 116, 116, 101, 114, 115]) (by decide +kernel)) (pa_cons pe_int pa_nil)))) pa_nil))) (nomark _))
      (pss_one (ps_ret pe_bl))
      pss_nil))))))))
      (pss_one (ps_ret (pe_cmpR (op_eqK (K := K) hu) (pe_lc (own := [("many", 6)]) (g := gName 6) (tt := tYes) rfl sc_law_second_part.nd (pi_tup (pe_tup (pa_cons pe_int (pa_cons pe_int (pa_cons pe_int pa_nil))))) (blkOk_by (N := ["script", "pen", "lap", "stem", "odd", "great", "many"]) (sc := defScope st_law_second_part) (by decide +kernel)) (fun _ _ _ _ _ => (pg_name (i := 6) sc_law_second_part.nd rfl (Or.inl rfl))) (fun _ _ _ _ _ => pts_nil) (fun _ _ _ _ _ => (pe_c0 d_law_other_told hr (by decide) (pa_cons (pe_mX m_Word hr (by decide) passL (pa_cons (pe_op op_mulA (pe_S (w := [65]) (by decide +kernel)) (pv 6)) pa_nil)) (pa_cons pe_int pa_nil))))) (pe_lst (pa_cons (pe_S (w := [108, 101, 116]) (by decide +kernel)) (pa_cons (pe_S (w := [108, 101, 116]) (by decide +kernel)) (pa_cons (pe_tup (pa_cons (pe_S (w := [109, 97, 110, 121]) (by decide +kernel)) (pa_cons (pe_S (w := [108, 101, 116, 116, 101, 114, 115]) (by decide +kernel)) (pa_cons pe_int pa_nil)))) pa_nil)))) (nomark _)))))), ?_⟩
    walk_at "go"
    refine ⟨a, ns, rfl, ha, hl, fun P H1 s1 hP hp hc => ?_⟩
    have sk : ∀ {H'}, KeepB P H1 H' → Same H H' := fun k b o e => k b o (fun z => by rw [z, hp] at e; cases e) (s1 b o e)
    walk_at "go"
    refine ⟨8, rfl, by decide, by decide, ?_⟩
    refine for_it (walk_range0 (n := 8)) (fun i σ H' => PK P H1 (500 * i) H' ∧ ∃ (v2 v3 v4 v5 v6 : Option V), σ = [some (.ref a), some (.ref P.p), v2, v3, v4, v5, v6])
      ⟨⟨KeepB.refl, hP⟩, none, none, none, none, none, rfl⟩ (fun _ _ _ _ _ => trivial) ?_ ?_
    · rintro i x σ H2 H2' hi ⟨pk, v2, v3, v4, v5, v6, rfl⟩ ⟨rfl, hx⟩
      have hi8 : i < 8 := by simpa using hi
      walk_at "gp"
      refine r_sz (by decide) fun e1 he1 => ?_
      walk_at "gp"
      have pk1 := pk.same (same_upd (o := .lst [V.int 1, V.int 2, V.int 3, V.int 6, V.int 25]) he1)
      refine ⟨P, _, e1, _, rfl, pk1.p, by omega, upd_same, pk.ne he1, by decide, by decide, fun j y H3 hy k3 hP3 => ?_⟩
      obtain ⟨l, rfl, hl1, hl2⟩ : ∃ l : Int, y = .int l ∧ 1 ≤ l ∧ l ≤ 25 := by
        match j, hy with
        | 0, hx => cases hx; exact ⟨1, rfl, by decide, by decide⟩
        | 1, hx => cases hx; exact ⟨2, rfl, by decide, by decide⟩
        | 2, hx => cases hx; exact ⟨3, rfl, by decide, by decide⟩
        | 3, hx => cases hx; exact ⟨6, rfl, by decide, by decide⟩
        | 4, hx => cases hx; exact ⟨25, rfl, by decide, by decide⟩
        | j + 5, hx => cases hx
      have pk3 := pk1.step k3 hP3
      walk_at "gp"
      refine ⟨P, _, l, rfl, pk3.p, by omega, by omega, by omega, fun d H4 h41 h42 k4 hP4 => ?_⟩
      obtain ⟨d', rfl⟩ := Int.eq_ofNat_of_zero_le h41
      have pk4 := pk3.step k4 hP4
      walk_at "gp"
      refine ⟨P, _, d', rfl, pk4.p, by omega, by omega, fun w H5 hg hlw k5 hP5 => ?_⟩
      have pk5 := (pk4.step k5 hP5).mono (m := 500 * i + 70) (by omega)
      have hw24 : w.length ≤ 24 := by omega
      clear pk4 pk3 pk1
      walk_at "go"
      refine ⟨P, _, 12, rfl, pk5.p, by omega, by decide, by decide, fun d H6 h61 h62 k6 hP6 => ?_⟩
      obtain ⟨d6, rfl⟩ := Int.eq_ofNat_of_zero_le h61
      have pk6 := pk5.step k6 hP6
      walk_at "go"
      refine ⟨w, 1 + d6, by rw [Int.natCast_add]; rfl, hg, hw24, by omega, by omega, fun H7 s7 => ?_⟩
      have pk7 := pk6.same s7
      walk_at "go"
      refine q_Word (w := [65]) (by unfold Good; decide) (by decide) fun p8 dx8 H8 s8 hp8 hp81 => ?_
      have pk8 := pk7.same s8
      walk_at "go"
      refine r_sz (by simp) fun o1 ho1 => ?_
      walk_at "go"
      refine r_sz (by decide) fun o2 ho2 => ?_
      walk_at "go"
      refine r_sz (by simp) fun o3 ho3 => ?_
      have t1 := same_upd (o := .lst [V.ref p8]) ho1
      have t2 := same_upd (o := .tup []) ho2
      have t3 := same_upd (o := .lst [V.non, V.int 0, V.bl true, V.str (S [65]), V.str (S []), V.int 13, V.int (-1), V.ref o1, V.ref o2]) ho3
      have pk9 := pk8.same (t1.trans (t2.trans t3))
      have no1 : o1 ≠ P.p := pk8.ne ho1
      have no2 : o2 ≠ P.p := (pk8.same t1).ne ho2
      have no3 : o3 ≠ P.p := ((pk8.same t1).same t2).ne ho3
      walk_at "go"
      refine ⟨P, _, o3, _, rfl, pk9.p, by omega, upd_same, no3, by simp, by simp, fun j od H10 hod k10 hP10 => ?_⟩
      have pk10 := pk9.step k10 hP10
      have hodd : ∀ {H'}, KeepB P H10 H' → IsK K H' od (.ref D.Word) false ∧ InR K H' od 1 12 false := by
        intro H' kk
        have kk := k10.trans kk
        match j, hod with
        | 0, h => cases h; exact ⟨isK ty_non T.k_NoneType_Word, inR_no (b := false) ty_non (kit_ty (by decide +kernel)) (kit_ty (by decide +kernel))⟩
        | 1, h => cases h; exact ⟨isK ty_int T.k_int_Word, inR_out (by omega)⟩
        | 2, h => cases h; exact ⟨isK ty_bl T.k_bool_Word, inR_bool⟩
        | 3, h => cases h; exact ⟨isK ty_str T.k_str_Word, inR_no (b := false) ty_str (kit_ty (by decide +kernel)) (kit_ty (by decide +kernel))⟩
        | 4, h => cases h; exact ⟨isK ty_str T.k_str_Word, inR_no (b := false) ty_str (kit_ty (by decide +kernel)) (kit_ty (by decide +kernel))⟩
        | 5, h => cases h; exact ⟨isK ty_int T.k_int_Word, inR_out (by omega)⟩
        | 6, h => cases h; exact ⟨isK ty_int T.k_int_Word, inR_out (by omega)⟩
        | 7, h =>
          cases h
          have z := kk _ _ no1 ((t2.trans t3) _ _ upd_same)
          exact ⟨isK (ty_lst z) T.k_list_Word, inR_no (b := false) (ty_lst z) (kit_ty (by decide +kernel)) (kit_ty (by decide +kernel))⟩
        | 8, h =>
          cases h
          have z := kk _ _ no2 (t3 _ _ upd_same)
          exact ⟨isK (ty_tup z) T.k_tuple_Word, inR_no (b := false) (ty_tup z) (kit_ty (by decide +kernel)) (kit_ty (by decide +kernel))⟩
        | j + 9, h => cases h
      walk_at "go"
      refine ⟨P, _, 30, rfl, pk10.p, by omega, by decide, by decide, fun d H11 h111 h112 k11 hP11 => ?_⟩
      obtain ⟨d11, rfl⟩ := Int.eq_ofNat_of_zero_le h111
      have pk11 := pk10.step k11 hP11
      walk_at "go"
      refine ⟨P, _, 25 + d11, by rw [Int.natCast_add]; rfl, pk11.p, by omega, by omega, fun g H12 hgg hlg k12 hP12 => ?_⟩
      have pk12 := (pk11.step k12 hP12).mono (m := 500 * i + 150) (by omega)
      walk_at "go"
      refine q_Word hgg (by omega) fun pg dxg H13 s13 hpg hpg1 => ?_
      have pk13 := pk12.same s13
      have npg : pg ≠ P.p := pk12.ne hpg
      have k13 : KeepB P H10 H13 := (k11.trans k12).trans (.of_same s13)
      walk_at "go"
      refine q_ot0 (hodd k13).1 fun t14 H14 s14 _ ht14 => ?_
      walk_at "go"
      refine r_sz (by decide) fun q15 hq15 => ?_
      have s15 := same_upd (o := .tup [V.str (S wW), V.int 0]) hq15
      refine r_neW (s15 _ _ ht14) upd_same ?_
      have s1315 := s14.trans s15
      walk_at "go"
      refine q_otN T (s1315 _ _ hpg1) hgg (by omega) (hodd (k13.trans (.of_same s1315))).2 fun t16 H16 s16 _ ht16 => ?_
      walk_at "go"
      refine r_sz (by decide) fun q17 hq17 => ?_
      have s17 := same_upd (o := tN) hq17
      refine r_neN (s17 _ _ ht16) upd_same ?_
      have s1317 := s1315.trans (s16.trans s17)
      have pk17 := pk13.same s1317
      walk_at "go"
      refine q_Word hg (by omega) fun p18 dx18 H18 s18 hp18 hp181 => ?_
      have s1318 := s1317.trans s18
      walk_at "go"
      refine q_otN T hp181 hg (by omega) (hodd (k13.trans (.of_same s1318))).2 fun t19 H19 s19 ht19n ht19 => ?_
      have s1319 := s1318.trans s19
      have pk19 := pk13.same s1319
      have nt19 : t19 ≠ P.p := (pk13.same s1318).ne ht19n
      walk_at "go"
      refine ⟨P, _, 12, rfl, pk19.p, by omega, by decide, by decide, fun d H20 h201 h202 k20 hP20 => ?_⟩
      obtain ⟨d20, rfl⟩ := Int.eq_ofNat_of_zero_le h201
      have pk20 := pk19.step k20 hP20
      have hpg20 := k20 _ _ npg (s1319 _ _ hpg1)
      have ht20 := k20 _ _ nt19 ht19
      walk_at "go"
      show sp_law_other_told K D [.ref pg, .int ((1 : Int) + (d20 : Nat))] H20 _ _
      have e20 : ((1 : Int) + (d20 : Nat)) = ((1 + d20 : Nat) : Int) := by rw [Int.natCast_add]; rfl
      rw [e20]
      refine q_otM T hpg20 hgg (by omega) (by omega) (by omega) (fun _ t21 H21 s21 _ ht21 => ?_) (fun z => by omega)
      walk_at "go"
      refine r_sz (by simp) fun l22 hl22 => ?_
      have s22 := same_upd (o := .lst [V.ref t19, V.ref t21]) hl22
      walk_at "go"
      refine r_sz (by decide) fun q23 hq23 => ?_
      have s23 := same_upd (o := tN) hq23
      walk_at "go"
      refine r_sz (by decide) fun q24 hq24 => ?_
      have s24 := same_upd (o := tM) hq24
      walk_at "go"
      refine r_sz (by simp) fun l25 hl25 => ?_
      have s25 := same_upd (o := .lst [V.ref q23, V.ref q24]) hl25
      have s2225 := s22.trans (s23.trans (s24.trans s25))
      refine r_neNM ((s23.trans (s24.trans s25)) _ _ upd_same) upd_same (s2225 _ _ (s21 _ _ ht20)) (s2225 _ _ ht21) ((s24.trans s25) _ _ upd_same) (s25 _ _ upd_same) ?_
      walk_at "go"
      exact ⟨((pk20.same s21).same s2225).mono (by omega), some x, some (.str (S w)), some od, some (.ref pg), v6, rfl⟩
    · rintro σ H2 ⟨pk, v2, v3, v4, v5, v6, rfl⟩
      have s2 := sk pk.k
      clear pk
      walk_at "go"
      refine r_sz (by decide) fun t0 ht0 => ?_
      have s3 := same_upd (o := .tup [V.int 0, V.int 24, V.int 25]) ht0
      walk_at "go"
      refine ⟨t0, rfl, ⟨_, SqT.of upd_same⟩, fun Dl hDl => ?_⟩
      refine lcG (its := [V.int 0, V.int 24, V.int 25]) walk_tup (fun j acc H' => Same (upd H2 t0 (.tup [V.int 0, V.int 24, V.int 25])) H' ∧ (j ≤ 2 → acc = List.replicate j (V.str (S wLet))) ∧ (j = 3 → ∃ t, acc = [V.str (S wLet), V.str (S wLet), .ref t] ∧ H' t = some tM)) ⟨same_upd hDl, fun _ => rfl, fun z => by cases z⟩ (fun j acc H' _ h _ => sqT_same h.1 (SqT.of upd_same)) ?_ ?_
      · rintro j x acc H3 hx ⟨s4, ha2, ha3⟩ e3
        obtain ⟨m, rfl, hj3, hm⟩ : ∃ m : Nat, x = .int (m : Nat) ∧ j < 3 ∧ ((j < 2 ∧ m ≤ 24) ∨ (j = 2 ∧ m = 25)) := by
          match j, hx with
          | 0, h => cases h; exact ⟨0, rfl, by decide, .inl ⟨by decide, by decide⟩⟩
          | 1, h => cases h; exact ⟨24, rfl, by decide, .inl ⟨by decide, by decide⟩⟩
          | 2, h => cases h; exact ⟨25, rfl, by decide, .inr ⟨by decide, by decide⟩⟩
          | j + 3, h => cases h
        have eacc := ha2 (by omega)
        subst eacc
        walk_at "go"
        refine r_mulS (by decide) (by omega) ?_
        rw [rep1]
        walk_at "go"
        refine q_Word (good_As m) (by simp; omega) fun p4 dx4 H4 s5 hp4 hp41 => ?_
        walk_at "go"
        show sp_law_other_told K D [.ref p4, .int ((12 : Nat) : Int)] H4 _ _
        refine q_otM T hp41 (good_As m) (by simp; omega) (by decide) (by decide) (fun hz t5 H5 s6 ht5n ht5 => ?_) (fun hz H5 s6 => ?_)
        · have hj : j = 2 := by
            rw [List.length_replicate] at hz
            omega
          subst hj
          have e5 := (s5.trans s6) _ _ e3
          have nt : t5 ≠ Dl := fun z => by rw [z, (s5 _ _ e3)] at ht5n; cases ht5n
          exact lcFin (Pv := fun acc H' => Same (upd H2 t0 (.tup [V.int 0, V.int 24, V.int 25])) H' ∧ (3 ≤ 2 → acc = List.replicate 3 (V.str (S wLet))) ∧ (3 = 3 → ∃ t, acc = [V.str (S wLet), V.str (S wLet), .ref t] ∧ H' t = some tM)) e5 (by simp) ⟨same_mut (s4.trans (s5.trans s6)) hDl, fun z => by omega, fun _ => ⟨t5, rfl, by rw [upd_ne nt]; exact ht5⟩⟩
        · have hj : j < 2 := by
            rw [List.length_replicate] at hz
            omega
          exact lcFin (Pv := fun acc H' => Same (upd H2 t0 (.tup [V.int 0, V.int 24, V.int 25])) H' ∧ (j + 1 ≤ 2 → acc = List.replicate (j + 1) (V.str (S wLet))) ∧ (j + 1 = 3 → ∃ t, acc = [V.str (S wLet), V.str (S wLet), .ref t] ∧ H' t = some tM)) ((s5.trans s6) _ _ e3) (by simp; omega) ⟨same_mut (s4.trans (s5.trans s6)) hDl, fun _ => by rw [List.replicate_succ'], fun z => by omega⟩
      · rintro acc H3 ⟨s4, _, ha3⟩ e3
        obtain ⟨t, rfl, ht⟩ := ha3 rfl
        walk_at "go"
        refine r_sz (by decide) fun q5 hq5 => ?_
        have s5 := same_upd (o := tM) hq5
        walk_at "go"
        refine r_sz (by simp) fun l6 hl6 => ?_
        have s6 := same_upd (o := .lst [V.str (S wLet), V.str (S wLet), V.ref q5]) hl6
        have s56 := s5.trans s6
        refine r_eqLLM (s56 _ _ e3) upd_same (s56 _ _ ht) (s6 _ _ upd_same) ?_
        exact q _ (s2.trans (s3.trans (s4.trans s56)))
abbrev st_law : Stmt := top 52
theorem sc_law : FnScope ["script"] ["script"] (defScope st_law) := ⟨rfl, rfl, rfl, by decide +kernel, rfl, by decide +kernel, by decide +kernel⟩
def sp_law (K : PySem.W.Frag) (D : Ad) : Sp := fun vs H Q _ => ∃ (a : Addr) (ns : List Int), vs = [.ref a] ∧ SqL K H a (ns.map V.int) ∧ ns.length ≤ 63 ∧ ∀ H', Q (.bl true) H'
theorem ok_law {f : Addr} {fd : FuncData} (F : Fun K "law" "law" st_law f fd) (T : Txt P w K mg base D) (d_law_first_part : CalN P w K mg base 6 "_law_first_part" (sp_law_first_part K D)) (d_law_second_part : CalN P w K mg base 6 "_law_second_part" (sp_law_second_part K D)) : FnOk P w K mg base CX0 7 f fd ["script"] (sp_law K D) := by
  refine F.ok sc_law (fun vs H Q E h => ?_) (fun cdv A outer s H vs Q E hr h => ?_)
  · obtain ⟨a, ns, rfl, _⟩ := h
    rfl
  · obtain ⟨a, ns, rfl, ha, hl, q⟩ := h
    have hu := hr.units
    refine ⟨_, (pss_one (ps_ret (pe_and (pe_c0 d_law_first_part hr (by decide) (pa_cons (pv 0) pa_nil)) (pe_one (pe_c0 d_law_second_part hr (by decide) (pa_cons (pv 0) pa_nil)))))), ?_⟩
    walk_at "go"
    refine ⟨a, ns, rfl, ha, hl, fun H1 s1 => ?_⟩
    walk_at "go"
    refine ⟨a, ns, rfl, sqL_same s1 ha, hl, fun H2 s2 => ?_⟩
    exact q H2
end
end Cs

set_option Elab.async false
set_option linter.all false
set_option maxRecDepth 100000
set_option maxHeartbeats 4000000
namespace Cs
open PySem PySem.Spec PyProof.Rows L2
abbrev ei_BadNumber : Stmt := inClass (top 3) 0
theorem mk_BadNumber {P : Program} {w : World} {K : PySem.W.Frag} {mg : Str → Option Value} {base : Heap} {C fI : Addr} (T : PySem.ErrX.ECls P K C fI) (F : PySem.ErrX.EFun P K C fI (defArgs ei_BadNumber) (defBody ei_BadNumber) (defScope ei_BadNumber)) (no0 : PySem.W.findIn K (.ref C) "part" = some none) : EMk P w K mg base C fI ["part"] :=
  emk1 T ⟨rfl, by decide +kernel, rfl, rfl, rfl, rfl, rfl, by decide +kernel, ⟨_, _, rfl⟩, by decide +kernel⟩ F no0 (fun _ _ _ _ _ _ _ _ _ _ _ => .of_eq rfl) fun L cda cc qual => ⟨rfl, ⟨_, rfl⟩, rfl⟩
abbrev ei_BadWord : Stmt := inClass (top 4) 0
theorem mk_BadWord {P : Program} {w : World} {K : PySem.W.Frag} {mg : Str → Option Value} {base : Heap} {C fI : Addr} (T : PySem.ErrX.ECls P K C fI) (F : PySem.ErrX.EFun P K C fI (defArgs ei_BadWord) (defBody ei_BadWord) (defScope ei_BadWord)) (no0 : PySem.W.findIn K (.ref C) "at" = some none) : EMk P w K mg base C fI ["at"] :=
  emk1 T ⟨rfl, by decide +kernel, rfl, rfl, rfl, rfl, rfl, by decide +kernel, ⟨_, _, rfl⟩, by decide +kernel⟩ F no0 (fun _ _ _ _ _ _ _ _ _ _ _ => .of_eq rfl) fun L cda cc qual => ⟨rfl, ⟨_, rfl⟩, rfl⟩
abbrev ei_TooMany : Stmt := inClass (top 5) 0
theorem mk_TooMany {P : Program} {w : World} {K : PySem.W.Frag} {mg : Str → Option Value} {base : Heap} {C fI : Addr} (T : PySem.ErrX.ECls P K C fI) (F : PySem.ErrX.EFun P K C fI (defArgs ei_TooMany) (defBody ei_TooMany) (defScope ei_TooMany)) (no0 : PySem.W.findIn K (.ref C) "what" = some none) (no1 : PySem.W.findIn K (.ref C) "most" = some none) : EMk P w K mg base C fI ["what", "most"] :=
  emk2 T ⟨rfl, by decide +kernel, rfl, rfl, rfl, rfl, rfl, by decide +kernel, ⟨_, _, rfl⟩, by decide +kernel⟩ F no0 no1 (fun _ _ _ _ _ _ _ _ _ _ _ _ => .of_eq rfl) fun L cda cc qual => ⟨rfl, ⟨_, rfl⟩, rfl, rfl⟩
def sp_top (K : PySem.W.Frag) : Sp := fun vs H Q _ => ∃ (a : Addr) (ns : List Int), vs = [.ref a] ∧ SqL K H a (ns.map V.int) ∧ ns.length ≤ 63 ∧ ∀ H', Q (.bl true) H'
theorem all_mk {l : PySem.W.OpenLaw} {w : World} {K : PySem.W.Frag} {h : Heap} {mg : Str → Option Value} {fa : Addr} (X : K.In h) (G : h.Ns mainGlobals mg) (hfa : mg "law" = some (.ref fa))
    {f_is_integer f_is_within f_need_within f_need_row f_need_word f_Word_init f_has_twin f_twin_of f_twin f_are_rows_apart f_are_words f_are_apart f_tops_of f_law_pen f_law_draw f_law_pick f_law_other f_law_word f_law_struck f_law_twin f_law_are_apart f_law_told f_law_rows f_law_are_tops f_law_other_told f_law_right f_law_first_part f_law_second_part f_law : Addr}
    {C_BadNumber C_BadWord C_BallError C_TooMany C_Word : Addr}
    {i_BadNumber i_BadWord i_TooMany : Addr}
    {od_is_integer an_is_integer : Option Addr} {sl_is_integer : Array (Option Value)} {oc_is_integer kV_is_integer dc_is_integer pm_is_integer cd_is_integer ct_is_integer : Value}
    {od_is_within an_is_within : Option Addr} {sl_is_within : Array (Option Value)} {oc_is_within kV_is_within dc_is_within pm_is_within cd_is_within ct_is_within : Value}
    {od_need_within an_need_within : Option Addr} {sl_need_within : Array (Option Value)} {oc_need_within kV_need_within dc_need_within pm_need_within cd_need_within ct_need_within : Value}
    {od_need_row an_need_row : Option Addr} {sl_need_row : Array (Option Value)} {oc_need_row kV_need_row dc_need_row pm_need_row cd_need_row ct_need_row : Value}
    {od_need_word an_need_word : Option Addr} {sl_need_word : Array (Option Value)} {oc_need_word kV_need_word dc_need_word pm_need_word cd_need_word ct_need_word : Value}
    {od_Word_init an_Word_init : Option Addr} {sl_Word_init : Array (Option Value)} {oc_Word_init kV_Word_init dc_Word_init pm_Word_init cd_Word_init ct_Word_init : Value}
    {dT_Word_init : Addr} {tc_Word_init : Value} {td_Word_init : Option Addr} {tn_Word_init : Nat} {tsl_Word_init : Array (Option Value)} {tt_Word_init : Tok}
    {od_has_twin an_has_twin : Option Addr} {sl_has_twin : Array (Option Value)} {oc_has_twin kV_has_twin dc_has_twin pm_has_twin cd_has_twin ct_has_twin : Value}
    {od_twin_of an_twin_of : Option Addr} {sl_twin_of : Array (Option Value)} {oc_twin_of kV_twin_of dc_twin_of pm_twin_of cd_twin_of ct_twin_of : Value}
    {od_twin an_twin : Option Addr} {sl_twin : Array (Option Value)} {oc_twin kV_twin dc_twin pm_twin cd_twin ct_twin : Value}
    {od_are_rows_apart an_are_rows_apart : Option Addr} {sl_are_rows_apart : Array (Option Value)} {oc_are_rows_apart kV_are_rows_apart dc_are_rows_apart pm_are_rows_apart cd_are_rows_apart ct_are_rows_apart : Value}
    {od_are_words an_are_words : Option Addr} {sl_are_words : Array (Option Value)} {oc_are_words kV_are_words dc_are_words pm_are_words cd_are_words ct_are_words : Value}
    {od_are_apart an_are_apart : Option Addr} {sl_are_apart : Array (Option Value)} {oc_are_apart kV_are_apart dc_are_apart pm_are_apart cd_are_apart ct_are_apart : Value}
    {od_tops_of an_tops_of : Option Addr} {sl_tops_of : Array (Option Value)} {oc_tops_of kV_tops_of dc_tops_of pm_tops_of cd_tops_of ct_tops_of : Value}
    {od_law_pen an_law_pen : Option Addr} {sl_law_pen : Array (Option Value)} {oc_law_pen kV_law_pen dc_law_pen pm_law_pen cd_law_pen ct_law_pen : Value}
    {od_law_draw an_law_draw : Option Addr} {sl_law_draw : Array (Option Value)} {oc_law_draw kV_law_draw dc_law_draw pm_law_draw cd_law_draw ct_law_draw : Value}
    {od_law_pick an_law_pick : Option Addr} {sl_law_pick : Array (Option Value)} {oc_law_pick kV_law_pick dc_law_pick pm_law_pick cd_law_pick ct_law_pick : Value}
    {od_law_other an_law_other : Option Addr} {sl_law_other : Array (Option Value)} {oc_law_other kV_law_other dc_law_other pm_law_other cd_law_other ct_law_other : Value}
    {od_law_word an_law_word : Option Addr} {sl_law_word : Array (Option Value)} {oc_law_word kV_law_word dc_law_word pm_law_word cd_law_word ct_law_word : Value}
    {od_law_struck an_law_struck : Option Addr} {sl_law_struck : Array (Option Value)} {oc_law_struck kV_law_struck dc_law_struck pm_law_struck cd_law_struck ct_law_struck : Value}
    {od_law_twin an_law_twin : Option Addr} {sl_law_twin : Array (Option Value)} {oc_law_twin kV_law_twin dc_law_twin pm_law_twin cd_law_twin ct_law_twin : Value}
    {od_law_are_apart an_law_are_apart : Option Addr} {sl_law_are_apart : Array (Option Value)} {oc_law_are_apart kV_law_are_apart dc_law_are_apart pm_law_are_apart cd_law_are_apart ct_law_are_apart : Value}
    {od_law_told an_law_told : Option Addr} {sl_law_told : Array (Option Value)} {oc_law_told kV_law_told dc_law_told pm_law_told cd_law_told ct_law_told : Value}
    {od_law_rows an_law_rows : Option Addr} {sl_law_rows : Array (Option Value)} {oc_law_rows kV_law_rows dc_law_rows pm_law_rows cd_law_rows ct_law_rows : Value}
    {od_law_are_tops an_law_are_tops : Option Addr} {sl_law_are_tops : Array (Option Value)} {oc_law_are_tops kV_law_are_tops dc_law_are_tops pm_law_are_tops cd_law_are_tops ct_law_are_tops : Value}
    {od_law_other_told an_law_other_told : Option Addr} {sl_law_other_told : Array (Option Value)} {oc_law_other_told kV_law_other_told dc_law_other_told pm_law_other_told cd_law_other_told ct_law_other_told : Value}
    {od_law_right an_law_right : Option Addr} {sl_law_right : Array (Option Value)} {oc_law_right kV_law_right dc_law_right pm_law_right cd_law_right ct_law_right : Value}
    {od_law_first_part an_law_first_part : Option Addr} {sl_law_first_part : Array (Option Value)} {oc_law_first_part kV_law_first_part dc_law_first_part pm_law_first_part cd_law_first_part ct_law_first_part : Value}
    {od_law_second_part an_law_second_part : Option Addr} {sl_law_second_part : Array (Option Value)} {oc_law_second_part kV_law_second_part dc_law_second_part pm_law_second_part cd_law_second_part ct_law_second_part : Value}
    {od_law an_law : Option Addr} {sl_law : Array (Option Value)} {oc_law kV_law dc_law pm_law cd_law ct_law : Value}
    {nm_BadNumber q_BadNumber : Str} {N_BadNumber cda_BadNumber cc_BadNumber : Addr} {bs_BadNumber sub_BadNumber : List Value} {sn_BadNumber : List Str} {ab_BadNumber : Bool} {col_BadNumber : Option Bool} {dd_BadNumber od_BadNumber an_BadNumber cdd_BadNumber cld_BadNumber : Option Addr} {m0_BadNumber m1_BadNumber m2_BadNumber m3_BadNumber m5_BadNumber : Option Value} {oc_BadNumber kV_BadNumber doc_BadNumber pm_BadNumber ct_BadNumber ccl_BadNumber cl_BadNumber : Value} {osl_BadNumber ccs_BadNumber csl_BadNumber : Array (Option Value)} {vs_BadNumber : Array Value} {file_BadNumber : Str} {tf_BadNumber : Tok}
    {nm_BadWord q_BadWord : Str} {N_BadWord cda_BadWord cc_BadWord : Addr} {bs_BadWord sub_BadWord : List Value} {sn_BadWord : List Str} {ab_BadWord : Bool} {col_BadWord : Option Bool} {dd_BadWord od_BadWord an_BadWord cdd_BadWord cld_BadWord : Option Addr} {m0_BadWord m1_BadWord m2_BadWord m3_BadWord m5_BadWord : Option Value} {oc_BadWord kV_BadWord doc_BadWord pm_BadWord ct_BadWord ccl_BadWord cl_BadWord : Value} {osl_BadWord ccs_BadWord csl_BadWord : Array (Option Value)} {vs_BadWord : Array Value} {file_BadWord : Str} {tf_BadWord : Tok}
    {nm_TooMany q_TooMany : Str} {N_TooMany cda_TooMany cc_TooMany : Addr} {bs_TooMany sub_TooMany : List Value} {sn_TooMany : List Str} {ab_TooMany : Bool} {col_TooMany : Option Bool} {dd_TooMany od_TooMany an_TooMany cdd_TooMany cld_TooMany : Option Addr} {m0_TooMany m1_TooMany m2_TooMany m3_TooMany m5_TooMany : Option Value} {oc_TooMany kV_TooMany doc_TooMany pm_TooMany ct_TooMany ccl_TooMany cl_TooMany : Value} {osl_TooMany ccs_TooMany csl_TooMany : Array (Option Value)} {vs_TooMany : Array Value} {file_TooMany : Str} {tf_TooMany : Tok}
    {tg_LETTERS : Tok}
    {tg_MOST_APART : Tok}
    {tg_MOST_BEGUN : Tok}
    {tg_MOST_LETTERS : Tok}
    {tg_MOST_TOPS : Tok}
    (a_BadNumber : PySem.W.nsIn K mainGlobals "BadNumber" = some (some (.ref C_BadNumber)))
    (a_BadWord : PySem.W.nsIn K mainGlobals "BadWord" = some (some (.ref C_BadWord)))
    (a_BallError : PySem.W.nsIn K mainGlobals "BallError" = some (some (.ref C_BallError)))
    (a_TooMany : PySem.W.nsIn K mainGlobals "TooMany" = some (some (.ref C_TooMany)))
    (a_Word : PySem.W.nsIn K mainGlobals "Word" = some (some (.ref C_Word)))
    (a_is_integer : PySem.W.nsIn K mainGlobals "is_integer" = some (some (.ref f_is_integer)))
    (l_is_integer : K.lookup f_is_integer = some ⟨oc_is_integer, od_is_integer, .func (PySem.W.fnOf "is_integer" "is_integer" (defArgs st_is_integer) (defBody st_is_integer) (defScope st_is_integer) .none kV_is_integer dc_is_integer pm_is_integer an_is_integer cd_is_integer ct_is_integer), sl_is_integer⟩)
    (c_is_integer : PySem.W.codeIn K cd_is_integer "is_integer" = true)
    (k_is_integer : PySem.W.keepIn K (.ref f_is_integer) = true)
    (a_is_within : PySem.W.nsIn K mainGlobals "is_within" = some (some (.ref f_is_within)))
    (l_is_within : K.lookup f_is_within = some ⟨oc_is_within, od_is_within, .func (PySem.W.fnOf "is_within" "is_within" (defArgs st_is_within) (defBody st_is_within) (defScope st_is_within) .none kV_is_within dc_is_within pm_is_within an_is_within cd_is_within ct_is_within), sl_is_within⟩)
    (c_is_within : PySem.W.codeIn K cd_is_within "is_within" = true)
    (k_is_within : PySem.W.keepIn K (.ref f_is_within) = true)
    (a_need_within : PySem.W.nsIn K mainGlobals "need_within" = some (some (.ref f_need_within)))
    (l_need_within : K.lookup f_need_within = some ⟨oc_need_within, od_need_within, .func (PySem.W.fnOf "need_within" "need_within" (defArgs st_need_within) (defBody st_need_within) (defScope st_need_within) .none kV_need_within dc_need_within pm_need_within an_need_within cd_need_within ct_need_within), sl_need_within⟩)
    (c_need_within : PySem.W.codeIn K cd_need_within "need_within" = true)
    (k_need_within : PySem.W.keepIn K (.ref f_need_within) = true)
    (a_need_row : PySem.W.nsIn K mainGlobals "need_row" = some (some (.ref f_need_row)))
    (l_need_row : K.lookup f_need_row = some ⟨oc_need_row, od_need_row, .func (PySem.W.fnOf "need_row" "need_row" (defArgs st_need_row) (defBody st_need_row) (defScope st_need_row) .none kV_need_row dc_need_row pm_need_row an_need_row cd_need_row ct_need_row), sl_need_row⟩)
    (c_need_row : PySem.W.codeIn K cd_need_row "need_row" = true)
    (k_need_row : PySem.W.keepIn K (.ref f_need_row) = true)
    (a_need_word : PySem.W.nsIn K mainGlobals "need_word" = some (some (.ref f_need_word)))
    (l_need_word : K.lookup f_need_word = some ⟨oc_need_word, od_need_word, .func (PySem.W.fnOf "need_word" "need_word" (defArgs st_need_word) (defBody st_need_word) (defScope st_need_word) .none kV_need_word dc_need_word pm_need_word an_need_word cd_need_word ct_need_word), sl_need_word⟩)
    (c_need_word : PySem.W.codeIn K cd_need_word "need_word" = true)
    (k_need_word : PySem.W.keepIn K (.ref f_need_word) = true)
    (a_Word_init : PySem.W.findIn K (.ref C_Word) "__init__" = some (some (.ref f_Word_init)))
    (l_Word_init : K.lookup f_Word_init = some ⟨oc_Word_init, od_Word_init, .func (PySem.W.fnOf "__init__" "Word.__init__" (defArgs st_Word_init) (defBody st_Word_init) (defScope st_Word_init) (.ref dT_Word_init) kV_Word_init dc_Word_init pm_Word_init an_Word_init cd_Word_init ct_Word_init), sl_Word_init⟩)
    (c_Word_init : PySem.W.codeIn K cd_Word_init "Word.__init__" = true)
    (k_Word_init : PySem.W.keepIn K (.ref f_Word_init) = true)
    (t_Word_init : K.lookup dT_Word_init = some ⟨tc_Word_init, td_Word_init, .seq #[.str (S []) tt_Word_init] tn_Word_init, tsl_Word_init⟩)
    (i_Word_init : PySem.W.isFn K (.ref f_Word_init) = true)
    (a_has_twin : PySem.W.nsIn K mainGlobals "has_twin" = some (some (.ref f_has_twin)))
    (l_has_twin : K.lookup f_has_twin = some ⟨oc_has_twin, od_has_twin, .func (PySem.W.fnOf "has_twin" "has_twin" (defArgs st_has_twin) (defBody st_has_twin) (defScope st_has_twin) .none kV_has_twin dc_has_twin pm_has_twin an_has_twin cd_has_twin ct_has_twin), sl_has_twin⟩)
    (c_has_twin : PySem.W.codeIn K cd_has_twin "has_twin" = true)
    (k_has_twin : PySem.W.keepIn K (.ref f_has_twin) = true)
    (a_twin_of : PySem.W.nsIn K mainGlobals "twin_of" = some (some (.ref f_twin_of)))
    (l_twin_of : K.lookup f_twin_of = some ⟨oc_twin_of, od_twin_of, .func (PySem.W.fnOf "twin_of" "twin_of" (defArgs st_twin_of) (defBody st_twin_of) (defScope st_twin_of) .none kV_twin_of dc_twin_of pm_twin_of an_twin_of cd_twin_of ct_twin_of), sl_twin_of⟩)
    (c_twin_of : PySem.W.codeIn K cd_twin_of "twin_of" = true)
    (k_twin_of : PySem.W.keepIn K (.ref f_twin_of) = true)
    (a_twin : PySem.W.nsIn K mainGlobals "twin" = some (some (.ref f_twin)))
    (l_twin : K.lookup f_twin = some ⟨oc_twin, od_twin, .func (PySem.W.fnOf "twin" "twin" (defArgs st_twin) (defBody st_twin) (defScope st_twin) .none kV_twin dc_twin pm_twin an_twin cd_twin ct_twin), sl_twin⟩)
    (c_twin : PySem.W.codeIn K cd_twin "twin" = true)
    (k_twin : PySem.W.keepIn K (.ref f_twin) = true)
    (a_are_rows_apart : PySem.W.nsIn K mainGlobals "are_rows_apart" = some (some (.ref f_are_rows_apart)))
    (l_are_rows_apart : K.lookup f_are_rows_apart = some ⟨oc_are_rows_apart, od_are_rows_apart, .func (PySem.W.fnOf "are_rows_apart" "are_rows_apart" (defArgs st_are_rows_apart) (defBody st_are_rows_apart) (defScope st_are_rows_apart) .none kV_are_rows_apart dc_are_rows_apart pm_are_rows_apart an_are_rows_apart cd_are_rows_apart ct_are_rows_apart), sl_are_rows_apart⟩)
    (c_are_rows_apart : PySem.W.codeIn K cd_are_rows_apart "are_rows_apart" = true)
    (k_are_rows_apart : PySem.W.keepIn K (.ref f_are_rows_apart) = true)
    (a_are_words : PySem.W.nsIn K mainGlobals "are_words" = some (some (.ref f_are_words)))
    (l_are_words : K.lookup f_are_words = some ⟨oc_are_words, od_are_words, .func (PySem.W.fnOf "are_words" "are_words" (defArgs st_are_words) (defBody st_are_words) (defScope st_are_words) .none kV_are_words dc_are_words pm_are_words an_are_words cd_are_words ct_are_words), sl_are_words⟩)
    (c_are_words : PySem.W.codeIn K cd_are_words "are_words" = true)
    (k_are_words : PySem.W.keepIn K (.ref f_are_words) = true)
    (a_are_apart : PySem.W.nsIn K mainGlobals "are_apart" = some (some (.ref f_are_apart)))
    (l_are_apart : K.lookup f_are_apart = some ⟨oc_are_apart, od_are_apart, .func (PySem.W.fnOf "are_apart" "are_apart" (defArgs st_are_apart) (defBody st_are_apart) (defScope st_are_apart) .none kV_are_apart dc_are_apart pm_are_apart an_are_apart cd_are_apart ct_are_apart), sl_are_apart⟩)
    (c_are_apart : PySem.W.codeIn K cd_are_apart "are_apart" = true)
    (k_are_apart : PySem.W.keepIn K (.ref f_are_apart) = true)
    (a_tops_of : PySem.W.nsIn K mainGlobals "tops_of" = some (some (.ref f_tops_of)))
    (l_tops_of : K.lookup f_tops_of = some ⟨oc_tops_of, od_tops_of, .func (PySem.W.fnOf "tops_of" "tops_of" (defArgs st_tops_of) (defBody st_tops_of) (defScope st_tops_of) .none kV_tops_of dc_tops_of pm_tops_of an_tops_of cd_tops_of ct_tops_of), sl_tops_of⟩)
    (c_tops_of : PySem.W.codeIn K cd_tops_of "tops_of" = true)
    (k_tops_of : PySem.W.keepIn K (.ref f_tops_of) = true)
    (a_law_pen : PySem.W.nsIn K mainGlobals "_law_pen" = some (some (.ref f_law_pen)))
    (l_law_pen : K.lookup f_law_pen = some ⟨oc_law_pen, od_law_pen, .func (PySem.W.fnOf "_law_pen" "_law_pen" (defArgs st_law_pen) (defBody st_law_pen) (defScope st_law_pen) .none kV_law_pen dc_law_pen pm_law_pen an_law_pen cd_law_pen ct_law_pen), sl_law_pen⟩)
    (c_law_pen : PySem.W.codeIn K cd_law_pen "_law_pen" = true)
    (k_law_pen : PySem.W.keepIn K (.ref f_law_pen) = true)
    (a_law_draw : PySem.W.nsIn K mainGlobals "_law_draw" = some (some (.ref f_law_draw)))
    (l_law_draw : K.lookup f_law_draw = some ⟨oc_law_draw, od_law_draw, .func (PySem.W.fnOf "_law_draw" "_law_draw" (defArgs st_law_draw) (defBody st_law_draw) (defScope st_law_draw) .none kV_law_draw dc_law_draw pm_law_draw an_law_draw cd_law_draw ct_law_draw), sl_law_draw⟩)
    (c_law_draw : PySem.W.codeIn K cd_law_draw "_law_draw" = true)
    (k_law_draw : PySem.W.keepIn K (.ref f_law_draw) = true)
    (a_law_pick : PySem.W.nsIn K mainGlobals "_law_pick" = some (some (.ref f_law_pick)))
    (l_law_pick : K.lookup f_law_pick = some ⟨oc_law_pick, od_law_pick, .func (PySem.W.fnOf "_law_pick" "_law_pick" (defArgs st_law_pick) (defBody st_law_pick) (defScope st_law_pick) .none kV_law_pick dc_law_pick pm_law_pick an_law_pick cd_law_pick ct_law_pick), sl_law_pick⟩)
    (c_law_pick : PySem.W.codeIn K cd_law_pick "_law_pick" = true)
    (k_law_pick : PySem.W.keepIn K (.ref f_law_pick) = true)
    (a_law_other : PySem.W.nsIn K mainGlobals "_law_other" = some (some (.ref f_law_other)))
    (l_law_other : K.lookup f_law_other = some ⟨oc_law_other, od_law_other, .func (PySem.W.fnOf "_law_other" "_law_other" (defArgs st_law_other) (defBody st_law_other) (defScope st_law_other) .none kV_law_other dc_law_other pm_law_other an_law_other cd_law_other ct_law_other), sl_law_other⟩)
    (c_law_other : PySem.W.codeIn K cd_law_other "_law_other" = true)
    (k_law_other : PySem.W.keepIn K (.ref f_law_other) = true)
    (a_law_word : PySem.W.nsIn K mainGlobals "_law_word" = some (some (.ref f_law_word)))
    (l_law_word : K.lookup f_law_word = some ⟨oc_law_word, od_law_word, .func (PySem.W.fnOf "_law_word" "_law_word" (defArgs st_law_word) (defBody st_law_word) (defScope st_law_word) .none kV_law_word dc_law_word pm_law_word an_law_word cd_law_word ct_law_word), sl_law_word⟩)
    (c_law_word : PySem.W.codeIn K cd_law_word "_law_word" = true)
    (k_law_word : PySem.W.keepIn K (.ref f_law_word) = true)
    (a_law_struck : PySem.W.nsIn K mainGlobals "_law_struck" = some (some (.ref f_law_struck)))
    (l_law_struck : K.lookup f_law_struck = some ⟨oc_law_struck, od_law_struck, .func (PySem.W.fnOf "_law_struck" "_law_struck" (defArgs st_law_struck) (defBody st_law_struck) (defScope st_law_struck) .none kV_law_struck dc_law_struck pm_law_struck an_law_struck cd_law_struck ct_law_struck), sl_law_struck⟩)
    (c_law_struck : PySem.W.codeIn K cd_law_struck "_law_struck" = true)
    (k_law_struck : PySem.W.keepIn K (.ref f_law_struck) = true)
    (a_law_twin : PySem.W.nsIn K mainGlobals "_law_twin" = some (some (.ref f_law_twin)))
    (l_law_twin : K.lookup f_law_twin = some ⟨oc_law_twin, od_law_twin, .func (PySem.W.fnOf "_law_twin" "_law_twin" (defArgs st_law_twin) (defBody st_law_twin) (defScope st_law_twin) .none kV_law_twin dc_law_twin pm_law_twin an_law_twin cd_law_twin ct_law_twin), sl_law_twin⟩)
    (c_law_twin : PySem.W.codeIn K cd_law_twin "_law_twin" = true)
    (k_law_twin : PySem.W.keepIn K (.ref f_law_twin) = true)
    (a_law_are_apart : PySem.W.nsIn K mainGlobals "_law_are_apart" = some (some (.ref f_law_are_apart)))
    (l_law_are_apart : K.lookup f_law_are_apart = some ⟨oc_law_are_apart, od_law_are_apart, .func (PySem.W.fnOf "_law_are_apart" "_law_are_apart" (defArgs st_law_are_apart) (defBody st_law_are_apart) (defScope st_law_are_apart) .none kV_law_are_apart dc_law_are_apart pm_law_are_apart an_law_are_apart cd_law_are_apart ct_law_are_apart), sl_law_are_apart⟩)
    (c_law_are_apart : PySem.W.codeIn K cd_law_are_apart "_law_are_apart" = true)
    (k_law_are_apart : PySem.W.keepIn K (.ref f_law_are_apart) = true)
    (a_law_told : PySem.W.nsIn K mainGlobals "_law_told" = some (some (.ref f_law_told)))
    (l_law_told : K.lookup f_law_told = some ⟨oc_law_told, od_law_told, .func (PySem.W.fnOf "_law_told" "_law_told" (defArgs st_law_told) (defBody st_law_told) (defScope st_law_told) .none kV_law_told dc_law_told pm_law_told an_law_told cd_law_told ct_law_told), sl_law_told⟩)
    (c_law_told : PySem.W.codeIn K cd_law_told "_law_told" = true)
    (k_law_told : PySem.W.keepIn K (.ref f_law_told) = true)
    (a_law_rows : PySem.W.nsIn K mainGlobals "_law_rows" = some (some (.ref f_law_rows)))
    (l_law_rows : K.lookup f_law_rows = some ⟨oc_law_rows, od_law_rows, .func (PySem.W.fnOf "_law_rows" "_law_rows" (defArgs st_law_rows) (defBody st_law_rows) (defScope st_law_rows) .none kV_law_rows dc_law_rows pm_law_rows an_law_rows cd_law_rows ct_law_rows), sl_law_rows⟩)
    (c_law_rows : PySem.W.codeIn K cd_law_rows "_law_rows" = true)
    (k_law_rows : PySem.W.keepIn K (.ref f_law_rows) = true)
    (a_law_are_tops : PySem.W.nsIn K mainGlobals "_law_are_tops" = some (some (.ref f_law_are_tops)))
    (l_law_are_tops : K.lookup f_law_are_tops = some ⟨oc_law_are_tops, od_law_are_tops, .func (PySem.W.fnOf "_law_are_tops" "_law_are_tops" (defArgs st_law_are_tops) (defBody st_law_are_tops) (defScope st_law_are_tops) .none kV_law_are_tops dc_law_are_tops pm_law_are_tops an_law_are_tops cd_law_are_tops ct_law_are_tops), sl_law_are_tops⟩)
    (c_law_are_tops : PySem.W.codeIn K cd_law_are_tops "_law_are_tops" = true)
    (k_law_are_tops : PySem.W.keepIn K (.ref f_law_are_tops) = true)
    (a_law_other_told : PySem.W.nsIn K mainGlobals "_law_other_told" = some (some (.ref f_law_other_told)))
    (l_law_other_told : K.lookup f_law_other_told = some ⟨oc_law_other_told, od_law_other_told, .func (PySem.W.fnOf "_law_other_told" "_law_other_told" (defArgs st_law_other_told) (defBody st_law_other_told) (defScope st_law_other_told) .none kV_law_other_told dc_law_other_told pm_law_other_told an_law_other_told cd_law_other_told ct_law_other_told), sl_law_other_told⟩)
    (c_law_other_told : PySem.W.codeIn K cd_law_other_told "_law_other_told" = true)
    (k_law_other_told : PySem.W.keepIn K (.ref f_law_other_told) = true)
    (a_law_right : PySem.W.nsIn K mainGlobals "_law_right" = some (some (.ref f_law_right)))
    (l_law_right : K.lookup f_law_right = some ⟨oc_law_right, od_law_right, .func (PySem.W.fnOf "_law_right" "_law_right" (defArgs st_law_right) (defBody st_law_right) (defScope st_law_right) .none kV_law_right dc_law_right pm_law_right an_law_right cd_law_right ct_law_right), sl_law_right⟩)
    (c_law_right : PySem.W.codeIn K cd_law_right "_law_right" = true)
    (k_law_right : PySem.W.keepIn K (.ref f_law_right) = true)
    (a_law_first_part : PySem.W.nsIn K mainGlobals "_law_first_part" = some (some (.ref f_law_first_part)))
    (l_law_first_part : K.lookup f_law_first_part = some ⟨oc_law_first_part, od_law_first_part, .func (PySem.W.fnOf "_law_first_part" "_law_first_part" (defArgs st_law_first_part) (defBody st_law_first_part) (defScope st_law_first_part) .none kV_law_first_part dc_law_first_part pm_law_first_part an_law_first_part cd_law_first_part ct_law_first_part), sl_law_first_part⟩)
    (c_law_first_part : PySem.W.codeIn K cd_law_first_part "_law_first_part" = true)
    (k_law_first_part : PySem.W.keepIn K (.ref f_law_first_part) = true)
    (a_law_second_part : PySem.W.nsIn K mainGlobals "_law_second_part" = some (some (.ref f_law_second_part)))
    (l_law_second_part : K.lookup f_law_second_part = some ⟨oc_law_second_part, od_law_second_part, .func (PySem.W.fnOf "_law_second_part" "_law_second_part" (defArgs st_law_second_part) (defBody st_law_second_part) (defScope st_law_second_part) .none kV_law_second_part dc_law_second_part pm_law_second_part an_law_second_part cd_law_second_part ct_law_second_part), sl_law_second_part⟩)
    (c_law_second_part : PySem.W.codeIn K cd_law_second_part "_law_second_part" = true)
    (k_law_second_part : PySem.W.keepIn K (.ref f_law_second_part) = true)
    (a_law : PySem.W.nsIn K mainGlobals "law" = some (some (.ref f_law)))
    (l_law : K.lookup f_law = some ⟨oc_law, od_law, .func (PySem.W.fnOf "law" "law" (defArgs st_law) (defBody st_law) (defScope st_law) .none kV_law dc_law pm_law an_law cd_law ct_law), sl_law⟩)
    (c_law : PySem.W.codeIn K cd_law "law" = true)
    (k_law : PySem.W.keepIn K (.ref f_law) = true)
    (noSup : PySem.W.nsIn K mainGlobals "super" = some none)
    (noAny : PySem.W.nsIn K cStatics "thirdparty.any" = some none)
    (top : (l.prog.main.scope.names.lookup ("super" : Str)).isSome = false)
    (mk_Word : PySem.W.makesIn K C_Word = true)
    (kC_Word : PySem.W.keepIn K (.ref C_Word) = true)
    (b_abs : PySem.W.nsIn K mainGlobals "abs" = some none)
    (b_all : PySem.W.nsIn K mainGlobals "all" = some none)
    (b_bool : PySem.W.nsIn K mainGlobals "bool" = some none)
    (b_enumerate : PySem.W.nsIn K mainGlobals "enumerate" = some none)
    (b_int : PySem.W.nsIn K mainGlobals "int" = some none)
    (b_isinstance : PySem.W.nsIn K mainGlobals "isinstance" = some none)
    (b_len : PySem.W.nsIn K mainGlobals "len" = some none)
    (b_list : PySem.W.nsIn K mainGlobals "list" = some none)
    (b_range : PySem.W.nsIn K mainGlobals "range" = some none)
    (b_str : PySem.W.nsIn K mainGlobals "str" = some none)
    (b_tuple : PySem.W.nsIn K mainGlobals "tuple" = some none)
    (pg_Word : PySem.W.plainGet K C_Word Str.empty = true)
    (hd_Word : PySem.W.hasDictIn K C_Word = true)
    (po_Word : PySem.W.plainOver K C_Word = true)
    (sa_Word : PySem.W.findIn K (.ref C_Word) "__setattr__" = some (some (.builtin "object.__setattr__")))
    (xL_BadNumber : K.lookup C_BadNumber = some (PySem.excClassObj nm_BadNumber q_BadNumber C_BadNumber N_BadNumber bs_BadNumber [.ref C_BallError, .type "ValueError", .type "Exception", .type "BaseException", .type "object"] true sn_BadNumber sub_BadNumber ab_BadNumber col_BadNumber dd_BadNumber m0_BadNumber m1_BadNumber m2_BadNumber m3_BadNumber m5_BadNumber "ValueError.__new__"))
    (al_BadNumber : PySem.W.alongIn K "__init__" [.ref C_BallError, .type "ValueError", .type "Exception", .type "BaseException", .type "object"] = some (some (.builtin "ValueError.__init__")))
    (sa_BadNumber : PySem.W.findIn K (.ref C_BadNumber) "__setattr__" = some (some (.builtin "object.__setattr__")))
    (iC_BadNumber : PySem.W.findIn K (.ref C_BadNumber) "__init__" = some (some (.ref i_BadNumber)))
    (tI_BadNumber : PySem.W.typeIn K (.ref i_BadNumber) = some (.type "function"))
    (exC_BadNumber : PySem.W.subIn K (.ref C_BadNumber) (.type "BaseException") = some true)
    (veC_BadNumber : PySem.W.subIn K (.ref C_BadNumber) (.type "ValueError") = some true)
    (tyC_BadNumber : PySem.W.typeIn K (.ref C_BadNumber) = some (.type "type"))
    (kC_BadNumber : PySem.W.keepIn K (.ref C_BadNumber) = true)
    (own_BadNumber : PySem.W.mroIn K C_BadNumber (.ref C_BadNumber) = some true)
    (lf_BadNumber : K.lookup i_BadNumber = some ⟨oc_BadNumber, od_BadNumber, .func (PySem.W.ksFn "__init__" "BadNumber.__init__" (defArgs ei_BadNumber) (defBody ei_BadNumber) (defScope ei_BadNumber) .none kV_BadNumber doc_BadNumber pm_BadNumber an_BadNumber (.ref cda_BadNumber) ct_BadNumber cc_BadNumber), osl_BadNumber⟩)
    (hcd_BadNumber : PySem.W.codeIn K (.ref cda_BadNumber) "BadNumber.__init__" = true)
    (lc_BadNumber : K.lookup cda_BadNumber = some ⟨ccl_BadNumber, cdd_BadNumber, .fields vs_BadNumber, ccs_BadNumber⟩)
    (hvs_BadNumber : vs_BadNumber[2]? = some (.str file_BadNumber tf_BadNumber))
    (hfile_BadNumber : ((l.prog.main.file : Str) == file_BadNumber) = true)
    (lcc_BadNumber : K.lookup cc_BadNumber = some ⟨cl_BadNumber, cld_BadNumber, .cell (some (.ref C_BadNumber)), csl_BadNumber⟩)
    (no_BadNumber_part : PySem.W.findIn K (.ref C_BadNumber) "part" = some none)
    (xL_BadWord : K.lookup C_BadWord = some (PySem.excClassObj nm_BadWord q_BadWord C_BadWord N_BadWord bs_BadWord [.ref C_BallError, .type "ValueError", .type "Exception", .type "BaseException", .type "object"] true sn_BadWord sub_BadWord ab_BadWord col_BadWord dd_BadWord m0_BadWord m1_BadWord m2_BadWord m3_BadWord m5_BadWord "ValueError.__new__"))
    (al_BadWord : PySem.W.alongIn K "__init__" [.ref C_BallError, .type "ValueError", .type "Exception", .type "BaseException", .type "object"] = some (some (.builtin "ValueError.__init__")))
    (sa_BadWord : PySem.W.findIn K (.ref C_BadWord) "__setattr__" = some (some (.builtin "object.__setattr__")))
    (iC_BadWord : PySem.W.findIn K (.ref C_BadWord) "__init__" = some (some (.ref i_BadWord)))
    (tI_BadWord : PySem.W.typeIn K (.ref i_BadWord) = some (.type "function"))
    (exC_BadWord : PySem.W.subIn K (.ref C_BadWord) (.type "BaseException") = some true)
    (veC_BadWord : PySem.W.subIn K (.ref C_BadWord) (.type "ValueError") = some true)
    (tyC_BadWord : PySem.W.typeIn K (.ref C_BadWord) = some (.type "type"))
    (kC_BadWord : PySem.W.keepIn K (.ref C_BadWord) = true)
    (own_BadWord : PySem.W.mroIn K C_BadWord (.ref C_BadWord) = some true)
    (lf_BadWord : K.lookup i_BadWord = some ⟨oc_BadWord, od_BadWord, .func (PySem.W.ksFn "__init__" "BadWord.__init__" (defArgs ei_BadWord) (defBody ei_BadWord) (defScope ei_BadWord) .none kV_BadWord doc_BadWord pm_BadWord an_BadWord (.ref cda_BadWord) ct_BadWord cc_BadWord), osl_BadWord⟩)
    (hcd_BadWord : PySem.W.codeIn K (.ref cda_BadWord) "BadWord.__init__" = true)
    (lc_BadWord : K.lookup cda_BadWord = some ⟨ccl_BadWord, cdd_BadWord, .fields vs_BadWord, ccs_BadWord⟩)
    (hvs_BadWord : vs_BadWord[2]? = some (.str file_BadWord tf_BadWord))
    (hfile_BadWord : ((l.prog.main.file : Str) == file_BadWord) = true)
    (lcc_BadWord : K.lookup cc_BadWord = some ⟨cl_BadWord, cld_BadWord, .cell (some (.ref C_BadWord)), csl_BadWord⟩)
    (no_BadWord_at : PySem.W.findIn K (.ref C_BadWord) "at" = some none)
    (xL_TooMany : K.lookup C_TooMany = some (PySem.excClassObj nm_TooMany q_TooMany C_TooMany N_TooMany bs_TooMany [.ref C_BallError, .type "ValueError", .type "Exception", .type "BaseException", .type "object"] true sn_TooMany sub_TooMany ab_TooMany col_TooMany dd_TooMany m0_TooMany m1_TooMany m2_TooMany m3_TooMany m5_TooMany "ValueError.__new__"))
    (al_TooMany : PySem.W.alongIn K "__init__" [.ref C_BallError, .type "ValueError", .type "Exception", .type "BaseException", .type "object"] = some (some (.builtin "ValueError.__init__")))
    (sa_TooMany : PySem.W.findIn K (.ref C_TooMany) "__setattr__" = some (some (.builtin "object.__setattr__")))
    (iC_TooMany : PySem.W.findIn K (.ref C_TooMany) "__init__" = some (some (.ref i_TooMany)))
    (tI_TooMany : PySem.W.typeIn K (.ref i_TooMany) = some (.type "function"))
    (exC_TooMany : PySem.W.subIn K (.ref C_TooMany) (.type "BaseException") = some true)
    (veC_TooMany : PySem.W.subIn K (.ref C_TooMany) (.type "ValueError") = some true)
    (tyC_TooMany : PySem.W.typeIn K (.ref C_TooMany) = some (.type "type"))
    (kC_TooMany : PySem.W.keepIn K (.ref C_TooMany) = true)
    (own_TooMany : PySem.W.mroIn K C_TooMany (.ref C_TooMany) = some true)
    (lf_TooMany : K.lookup i_TooMany = some ⟨oc_TooMany, od_TooMany, .func (PySem.W.ksFn "__init__" "TooMany.__init__" (defArgs ei_TooMany) (defBody ei_TooMany) (defScope ei_TooMany) .none kV_TooMany doc_TooMany pm_TooMany an_TooMany (.ref cda_TooMany) ct_TooMany cc_TooMany), osl_TooMany⟩)
    (hcd_TooMany : PySem.W.codeIn K (.ref cda_TooMany) "TooMany.__init__" = true)
    (lc_TooMany : K.lookup cda_TooMany = some ⟨ccl_TooMany, cdd_TooMany, .fields vs_TooMany, ccs_TooMany⟩)
    (hvs_TooMany : vs_TooMany[2]? = some (.str file_TooMany tf_TooMany))
    (hfile_TooMany : ((l.prog.main.file : Str) == file_TooMany) = true)
    (lcc_TooMany : K.lookup cc_TooMany = some ⟨cl_TooMany, cld_TooMany, .cell (some (.ref C_TooMany)), csl_TooMany⟩)
    (no_TooMany_what : PySem.W.findIn K (.ref C_TooMany) "what" = some none)
    (no_TooMany_most : PySem.W.findIn K (.ref C_TooMany) "most" = some none)
    (su_BadNumber_BadNumber : PySem.W.subIn K (.ref C_BadNumber) (.ref C_BadNumber) = some true)
    (icl_BadNumber : PySem.W.isClsIn K C_BadNumber = true)
    (su_BadNumber_BadWord : PySem.W.subIn K (.ref C_BadNumber) (.ref C_BadWord) = some false)
    (icl_BadWord : PySem.W.isClsIn K C_BadWord = true)
    (su_BadWord_BadWord : PySem.W.subIn K (.ref C_BadWord) (.ref C_BadWord) = some true)
    (su_BadWord_BallError : PySem.W.subIn K (.ref C_BadWord) (.ref C_BallError) = some true)
    (icl_BallError : PySem.W.isClsIn K C_BallError = true)
    (tyC_BallError : PySem.W.typeIn K (.ref C_BallError) = some (.type "type"))
    (exC_BallError : PySem.W.subIn K (.ref C_BallError) (.type "BaseException") = some true)
    (su_TooMany_BadNumber : PySem.W.subIn K (.ref C_TooMany) (.ref C_BadNumber) = some false)
    (su_TooMany_BadWord : PySem.W.subIn K (.ref C_TooMany) (.ref C_BadWord) = some false)
    (su_TooMany_TooMany : PySem.W.subIn K (.ref C_TooMany) (.ref C_TooMany) = some true)
    (icl_TooMany : PySem.W.isClsIn K C_TooMany = true)
    (g_LETTERS : PySem.W.nsIn K mainGlobals "LETTERS" = some (some (.str (S [65, 66, 67, 68, 97, 98, 99, 100]) tg_LETTERS)))
    (g_MOST_APART : PySem.W.nsIn K mainGlobals "MOST_APART" = some (some (.int 30 tg_MOST_APART)))
    (g_MOST_BEGUN : PySem.W.nsIn K mainGlobals "MOST_BEGUN" = some (some (.int 24 tg_MOST_BEGUN)))
    (g_MOST_LETTERS : PySem.W.nsIn K mainGlobals "MOST_LETTERS" = some (some (.int 4000 tg_MOST_LETTERS)))
    (g_MOST_TOPS : PySem.W.nsIn K mainGlobals "MOST_TOPS" = some (some (.int 12 tg_MOST_TOPS)))
    (su_NoneType_Word : PySem.W.subIn K (.type "NoneType") (.ref C_Word) = some false)
    (icl_Word : PySem.W.isClsIn K C_Word = true)
    (tyC_Word : PySem.W.typeIn K (.ref C_Word) = some (.type "type"))
    (su_Word_bool : PySem.W.subIn K (.ref C_Word) (.type "bool") = some false)
    (su_Word_int : PySem.W.subIn K (.ref C_Word) (.type "int") = some false)
    (su_Word_list : PySem.W.subIn K (.ref C_Word) (.type "list") = some false)
    (su_Word_str : PySem.W.subIn K (.ref C_Word) (.type "str") = some false)
    (su_Word_tuple : PySem.W.subIn K (.ref C_Word) (.type "tuple") = some false)
    (su_bool_Word : PySem.W.subIn K (.type "bool") (.ref C_Word) = some false)
    (su_dict_Word : PySem.W.subIn K (.type "dict") (.ref C_Word) = some false)
    (su_int_Word : PySem.W.subIn K (.type "int") (.ref C_Word) = some false)
    (su_list_Word : PySem.W.subIn K (.type "list") (.ref C_Word) = some false)
    (su_str_Word : PySem.W.subIn K (.type "str") (.ref C_Word) = some false)
    (su_tuple_Word : PySem.W.subIn K (.type "tuple") (.ref C_Word) = some false)
    (no_Word_letters : PySem.W.findIn K (.ref C_Word) "letters" = some none)
    (no_Word_size : PySem.W.findIn K (.ref C_Word) "size" = some none)
    (ha_Word : PySem.W.findIn K (.ref C_Word) "__class__" = some (some (.builtin "object.__class__")))
    (hn : PySem.W.specialIn K (.builtin "object.__class__") "__get__" = some (some (.builtin "getset_descriptor.__get__")))
    (htk : PySem.W.takesIn K (.builtin "object.__class__") = some true)
    (hm_Word : PySem.W.mroIn K C_Word (.type "object") = some true)
    (ga_BadNumber : PySem.W.findIn K (.ref C_BadNumber) "__getattribute__" = some (some (.builtin "BaseException.__getattribute__")))
    (gg_BadNumber : PySem.W.findIn K (.ref C_BadNumber) "__getattr__" = some none)
    (hd_BadNumber : PySem.W.hasDictIn K C_BadNumber = true)
    (ga_BadWord : PySem.W.findIn K (.ref C_BadWord) "__getattribute__" = some (some (.builtin "BaseException.__getattribute__")))
    (gg_BadWord : PySem.W.findIn K (.ref C_BadWord) "__getattr__" = some none)
    (hd_BadWord : PySem.W.hasDictIn K C_BadWord = true)
    (ga_TooMany : PySem.W.findIn K (.ref C_TooMany) "__getattribute__" = some (some (.builtin "BaseException.__getattribute__")))
    (gg_TooMany : PySem.W.findIn K (.ref C_TooMany) "__getattr__" = some none)
    (hd_TooMany : PySem.W.hasDictIn K C_TooMany = true)
    : ∃ fd : FuncData, (∀ (s : Shared) (v : Value), BindsTo s fd ⟨[v], []⟩ [("script", v)]) ∧ ∀ base : Heap, K.In base → base.Ns mainGlobals mg → FnOk l.prog w K mg base CX0 7 fa fd ["script"] (sp_top K) := by
  have e := hfa.symm.trans (PySem.W.mg_of X G a_law)
  cases e
  have F_is_integer := fun_mk (st := st_is_integer) l_is_integer c_is_integer k_is_integer
  have b_is_integer := F_is_integer.binds (ps := ["value"]) fun _ _ _ _ _ _ us hl => match us, hl with | [_], _ => rfl
  have F_is_within := fun_mk (st := st_is_within) l_is_within c_is_within k_is_within
  have b_is_within := F_is_within.binds (ps := ["value", "least", "most"]) fun _ _ _ _ _ _ us hl => match us, hl with | [_, _, _], _ => rfl
  have F_need_within := fun_mk (st := st_need_within) l_need_within c_need_within k_need_within
  have b_need_within := F_need_within.binds (ps := ["value", "least", "most", "part"]) fun _ _ _ _ _ _ us hl => match us, hl with | [_, _, _, _], _ => rfl
  have F_need_row := fun_mk (st := st_need_row) l_need_row c_need_row k_need_row
  have b_need_row := F_need_row.binds (ps := ["value"]) fun _ _ _ _ _ _ us hl => match us, hl with | [_], _ => rfl
  have F_need_word := fun_mk (st := st_need_word) l_need_word c_need_word k_need_word
  have b_need_word := F_need_word.binds (ps := ["value"]) fun _ _ _ _ _ _ us hl => match us, hl with | [_], _ => rfl
  have F_Word_init : FunD K "__init__" "Word.__init__" (defArgs st_Word_init) (defBody st_Word_init) (defScope st_Word_init) [.str (S [])] [] f_Word_init _ := ⟨⟨oc_Word_init, od_Word_init, _, kV_Word_init, dc_Word_init, pm_Word_init, an_Word_init, cd_Word_init, ct_Word_init, sl_Word_init, rfl, l_Word_init, c_Word_init, .inr ⟨by simp, _, _, [_], _, rfl, t_Word_init, rfl, .cons ⟨_, rfl⟩ .nil⟩, .inl rfl⟩, k_Word_init⟩
  obtain ⟨ds_Word_init, rds_Word_init, bb_Word_init⟩ := F_Word_init.binds1 (ps := ["self", "letters"]) 2 1 (by simp) rfl fun T kV doc pm an cdv ct us its h1 h2 => match us, its, h1, h2 with | [_, _], [_], _, _ => ⟨_, rfl, rfl⟩
  obtain rfl : ds_Word_init = [] := by cases (show Vals [] ds_Word_init from rds_Word_init); rfl
  have b_Word_init := bb_Word_init
  have F_has_twin := fun_mk (st := st_has_twin) l_has_twin c_has_twin k_has_twin
  have b_has_twin := F_has_twin.binds (ps := ["letters"]) fun _ _ _ _ _ _ us hl => match us, hl with | [_], _ => rfl
  have F_twin_of := fun_mk (st := st_twin_of) l_twin_of c_twin_of k_twin_of
  have b_twin_of := F_twin_of.binds (ps := ["letters"]) fun _ _ _ _ _ _ us hl => match us, hl with | [_], _ => rfl
  have F_twin := fun_mk (st := st_twin) l_twin c_twin k_twin
  have b_twin := F_twin.binds (ps := ["word"]) fun _ _ _ _ _ _ us hl => match us, hl with | [_], _ => rfl
  have F_are_rows_apart := fun_mk (st := st_are_rows_apart) l_are_rows_apart c_are_rows_apart k_are_rows_apart
  have b_are_rows_apart := F_are_rows_apart.binds (ps := ["rows"]) fun _ _ _ _ _ _ us hl => match us, hl with | [_], _ => rfl
  have F_are_words := fun_mk (st := st_are_words) l_are_words c_are_words k_are_words
  have b_are_words := F_are_words.binds (ps := ["value", "least", "most"]) fun _ _ _ _ _ _ us hl => match us, hl with | [_, _, _], _ => rfl
  have F_are_apart := fun_mk (st := st_are_apart) l_are_apart c_are_apart k_are_apart
  have b_are_apart := F_are_apart.binds (ps := ["words"]) fun _ _ _ _ _ _ us hl => match us, hl with | [_], _ => rfl
  have F_tops_of := fun_mk (st := st_tops_of) l_tops_of c_tops_of k_tops_of
  have b_tops_of := F_tops_of.binds (ps := ["word", "count"]) fun _ _ _ _ _ _ us hl => match us, hl with | [_, _], _ => rfl
  have F_law_pen := fun_mk (st := st_law_pen) l_law_pen c_law_pen k_law_pen
  have b_law_pen := F_law_pen.binds (ps := ["script"]) fun _ _ _ _ _ _ us hl => match us, hl with | [_], _ => rfl
  have F_law_draw := fun_mk (st := st_law_draw) l_law_draw c_law_draw k_law_draw
  have b_law_draw := F_law_draw.binds (ps := ["pen", "limit"]) fun _ _ _ _ _ _ us hl => match us, hl with | [_, _], _ => rfl
  have F_law_pick := fun_mk (st := st_law_pick) l_law_pick c_law_pick k_law_pick
  have b_law_pick := F_law_pick.binds (ps := ["pen", "some"]) fun _ _ _ _ _ _ us hl => match us, hl with | [_, _], _ => rfl
  have F_law_other := fun_mk (st := st_law_other) l_law_other c_law_other k_law_other
  have b_law_other := F_law_other.binds (ps := ["letter"]) fun _ _ _ _ _ _ us hl => match us, hl with | [_], _ => rfl
  have F_law_word := fun_mk (st := st_law_word) l_law_word c_law_word k_law_word
  have b_law_word := F_law_word.binds (ps := ["pen", "many"]) fun _ _ _ _ _ _ us hl => match us, hl with | [_, _], _ => rfl
  have F_law_struck := fun_mk (st := st_law_struck) l_law_struck c_law_struck k_law_struck
  have b_law_struck := F_law_struck.binds (ps := ["letters"]) fun _ _ _ _ _ _ us hl => match us, hl with | [_], _ => rfl
  have F_law_twin := fun_mk (st := st_law_twin) l_law_twin c_law_twin k_law_twin
  have b_law_twin := F_law_twin.binds (ps := ["letters"]) fun _ _ _ _ _ _ us hl => match us, hl with | [_], _ => rfl
  have F_law_are_apart := fun_mk (st := st_law_are_apart) l_law_are_apart c_law_are_apart k_law_are_apart
  have b_law_are_apart := F_law_are_apart.binds (ps := ["rows"]) fun _ _ _ _ _ _ us hl => match us, hl with | [_], _ => rfl
  have F_law_told := fun_mk (st := st_law_told) l_law_told c_law_told k_law_told
  have b_law_told := F_law_told.binds (ps := ["which", "value"]) fun _ _ _ _ _ _ us hl => match us, hl with | [_, _], _ => rfl
  have F_law_rows := fun_mk (st := st_law_rows) l_law_rows c_law_rows k_law_rows
  have b_law_rows := F_law_rows.binds (ps := ["pen"]) fun _ _ _ _ _ _ us hl => match us, hl with | [_], _ => rfl
  have F_law_are_tops := fun_mk (st := st_law_are_tops) l_law_are_tops c_law_are_tops k_law_are_tops
  have b_law_are_tops := F_law_are_tops.binds (ps := ["stem", "heads"]) fun _ _ _ _ _ _ us hl => match us, hl with | [_, _], _ => rfl
  have F_law_other_told := fun_mk (st := st_law_other_told) l_law_other_told c_law_other_told k_law_other_told
  have b_law_other_told := F_law_other_told.binds (ps := ["stem", "times"]) fun _ _ _ _ _ _ us hl => match us, hl with | [_, _], _ => rfl
  have F_law_right := fun_mk (st := st_law_right) l_law_right c_law_right k_law_right
  have b_law_right := F_law_right.binds (ps := ["stem", "times"]) fun _ _ _ _ _ _ us hl => match us, hl with | [_, _], _ => rfl
  have F_law_first_part := fun_mk (st := st_law_first_part) l_law_first_part c_law_first_part k_law_first_part
  have b_law_first_part := F_law_first_part.binds (ps := ["script"]) fun _ _ _ _ _ _ us hl => match us, hl with | [_], _ => rfl
  have F_law_second_part := fun_mk (st := st_law_second_part) l_law_second_part c_law_second_part k_law_second_part
  have b_law_second_part := F_law_second_part.binds (ps := ["script"]) fun _ _ _ _ _ _ us hl => match us, hl with | [_], _ => rfl
  have F_law := fun_mk (st := st_law) l_law c_law k_law
  have b_law := F_law.binds (ps := ["script"]) fun _ _ _ _ _ _ us hl => match us, hl with | [_], _ => rfl
  refine ⟨PySem.W.fnOf "law" "law" (defArgs st_law) (defBody st_law) (defScope st_law) .none kV_law dc_law pm_law an_law cd_law ct_law, fun s v => .of_eq rfl, fun base Xb Gb => ?_⟩
  have T : Txt l.prog w K mg base ({ BadNumber := C_BadNumber, BadWord := C_BadWord, BallError := C_BallError, TooMany := C_TooMany, Word := C_Word, i_BadNumber := i_BadNumber, i_BadWord := i_BadWord, i_TooMany := i_TooMany } : Ad) := {
    b_abs := PySem.W.mg_none_of X G b_abs
    b_all := PySem.W.mg_none_of X G b_all
    b_bool := PySem.W.mg_none_of X G b_bool
    b_enumerate := PySem.W.mg_none_of X G b_enumerate
    b_int := PySem.W.mg_none_of X G b_int
    b_isinstance := PySem.W.mg_none_of X G b_isinstance
    b_len := PySem.W.mg_none_of X G b_len
    b_list := PySem.W.mg_none_of X G b_list
    b_range := PySem.W.mg_none_of X G b_range
    b_str := PySem.W.mg_none_of X G b_str
    b_tuple := PySem.W.mg_none_of X G b_tuple
    c_BadNumber := PySem.W.mg_of X G a_BadNumber
    c_BadWord := PySem.W.mg_of X G a_BadWord
    c_BallError := PySem.W.mg_of X G a_BallError
    c_TooMany := PySem.W.mg_of X G a_TooMany
    c_Word := PySem.W.mg_of X G a_Word
    cl_Word := ⟨pg_Word, hd_Word, po_Word, sa_Word⟩
    e_BadNumber := mk_BadNumber ⟨⟨_, _, _, _, _, _, _, _, _, _, _, _, _, _, _,  xL_BadNumber, rfl, al_BadNumber⟩, sa_BadNumber, iC_BadNumber, tI_BadNumber, exC_BadNumber, veC_BadNumber, tyC_BadNumber, kC_BadNumber, own_BadNumber, noSup, noAny, top⟩ ⟨⟨_, _, _, _, _, _, _, _, _, _, _, _, _, _, _, _, _, _, _, _,  lf_BadNumber, hcd_BadNumber, lc_BadNumber, hvs_BadNumber, hfile_BadNumber, lcc_BadNumber⟩⟩ no_BadNumber_part
    e_BadWord := mk_BadWord ⟨⟨_, _, _, _, _, _, _, _, _, _, _, _, _, _, _,  xL_BadWord, rfl, al_BadWord⟩, sa_BadWord, iC_BadWord, tI_BadWord, exC_BadWord, veC_BadWord, tyC_BadWord, kC_BadWord, own_BadWord, noSup, noAny, top⟩ ⟨⟨_, _, _, _, _, _, _, _, _, _, _, _, _, _, _, _, _, _, _, _,  lf_BadWord, hcd_BadWord, lc_BadWord, hvs_BadWord, hfile_BadWord, lcc_BadWord⟩⟩ no_BadWord_at
    e_TooMany := mk_TooMany ⟨⟨_, _, _, _, _, _, _, _, _, _, _, _, _, _, _,  xL_TooMany, rfl, al_TooMany⟩, sa_TooMany, iC_TooMany, tI_TooMany, exC_TooMany, veC_TooMany, tyC_TooMany, kC_TooMany, own_TooMany, noSup, noAny, top⟩ ⟨⟨_, _, _, _, _, _, _, _, _, _, _, _, _, _, _, _, _, _, _, _,  lf_TooMany, hcd_TooMany, lc_TooMany, hvs_TooMany, hfile_TooMany, lcc_TooMany⟩⟩ no_TooMany_what no_TooMany_most
    ex_BadNumber_BadNumber := exm_own exC_BadNumber icl_BadNumber tyC_BadNumber su_BadNumber_BadNumber
    ex_BadNumber_BadWord := exm_own exC_BadWord icl_BadWord tyC_BadWord su_BadNumber_BadWord
    ex_BadWord_BadWord := exm_own exC_BadWord icl_BadWord tyC_BadWord su_BadWord_BadWord
    ex_BadWord_BallError := exm_own exC_BallError icl_BallError tyC_BallError su_BadWord_BallError
    ex_TooMany_BadNumber := exm_own exC_BadNumber icl_BadNumber tyC_BadNumber su_TooMany_BadNumber
    ex_TooMany_BadWord := exm_own exC_BadWord icl_BadWord tyC_BadWord su_TooMany_BadWord
    ex_TooMany_TooMany := exm_own exC_TooMany icl_TooMany tyC_TooMany su_TooMany_TooMany
    g_LETTERS := ⟨_, PySem.W.mg_of X G g_LETTERS⟩
    g_MOST_APART := ⟨_, PySem.W.mg_of X G g_MOST_APART⟩
    g_MOST_BEGUN := ⟨_, PySem.W.mg_of X G g_MOST_BEGUN⟩
    g_MOST_LETTERS := ⟨_, PySem.W.mg_of X G g_MOST_LETTERS⟩
    g_MOST_TOPS := ⟨_, PySem.W.mg_of X G g_MOST_TOPS⟩
    k_NoneType_Word := kit_own icl_Word tyC_Word su_NoneType_Word
    k_Word_Word := kit_self
    k_Word_bool := kit_bt su_Word_bool
    k_Word_int := kit_bt su_Word_int
    k_Word_list := kit_bt su_Word_list
    k_Word_str := kit_bt su_Word_str
    k_Word_tuple := kit_bt su_Word_tuple
    k_bool_Word := kit_own icl_Word tyC_Word su_bool_Word
    k_dict_Word := kit_own icl_Word tyC_Word su_dict_Word
    k_int_Word := kit_own icl_Word tyC_Word su_int_Word
    k_list_Word := kit_own icl_Word tyC_Word su_list_Word
    k_str_Word := kit_own icl_Word tyC_Word su_str_Word
    k_tuple_Word := kit_own icl_Word tyC_Word su_tuple_Word
    na_Word_letters := no_Word_letters
    na_Word_size := no_Word_size
    ti_Word := ⟨ha_Word, hn, htk, hm_Word⟩
    xf_BadNumber_part := ⟨⟨ga_BadNumber, gg_BadNumber, exC_BadNumber, hd_BadNumber⟩, no_BadNumber_part⟩
    xf_BadWord_at := ⟨⟨ga_BadWord, gg_BadWord, exC_BadWord, hd_BadWord⟩, no_BadWord_at⟩
    xf_TooMany_most := ⟨⟨ga_TooMany, gg_TooMany, exC_TooMany, hd_TooMany⟩, no_TooMany_most⟩
    xf_TooMany_what := ⟨⟨ga_TooMany, gg_TooMany, exC_TooMany, hd_TooMany⟩, no_TooMany_what⟩
  }
  have d_is_integer : CalN l.prog w K mg base 1 "is_integer" (sp_is_integer K ({ BadNumber := C_BadNumber, BadWord := C_BadWord, BallError := C_BallError, TooMany := C_TooMany, Word := C_Word, i_BadNumber := i_BadNumber, i_BadWord := i_BadWord, i_TooMany := i_TooMany } : Ad)) := ⟨_, _, _, (ok_is_integer F_is_integer T), PySem.W.mg_of X G a_is_integer, F_is_integer.kp, b_is_integer⟩
  have d_is_within : CalN l.prog w K mg base 2 "is_within" (sp_is_within K ({ BadNumber := C_BadNumber, BadWord := C_BadWord, BallError := C_BallError, TooMany := C_TooMany, Word := C_Word, i_BadNumber := i_BadNumber, i_BadWord := i_BadWord, i_TooMany := i_TooMany } : Ad)) := ⟨_, _, _, (ok_is_within F_is_within T d_is_integer), PySem.W.mg_of X G a_is_within, F_is_within.kp, b_is_within⟩
  have d_need_row : CalX l.prog w K mg base 1 "need_row" (sp_need_row K ({ BadNumber := C_BadNumber, BadWord := C_BadWord, BallError := C_BallError, TooMany := C_TooMany, Word := C_Word, i_BadNumber := i_BadNumber, i_BadWord := i_BadWord, i_TooMany := i_TooMany } : Ad)) := ⟨_, _, _, (ok_need_row F_need_row T), PySem.W.mg_of X G a_need_row, F_need_row.kp, b_need_row⟩
  have d_has_twin : CalN l.prog w K mg base 1 "has_twin" (sp_has_twin K ({ BadNumber := C_BadNumber, BadWord := C_BadWord, BallError := C_BallError, TooMany := C_TooMany, Word := C_Word, i_BadNumber := i_BadNumber, i_BadWord := i_BadWord, i_TooMany := i_TooMany } : Ad)) := ⟨_, _, _, (ok_has_twin F_has_twin T), PySem.W.mg_of X G a_has_twin, F_has_twin.kp, b_has_twin⟩
  have d_need_word : CalX l.prog w K mg base 1 "need_word" (sp_need_word K ({ BadNumber := C_BadNumber, BadWord := C_BadWord, BallError := C_BallError, TooMany := C_TooMany, Word := C_Word, i_BadNumber := i_BadNumber, i_BadWord := i_BadWord, i_TooMany := i_TooMany } : Ad)) := ⟨_, _, _, (ok_need_word F_need_word T), PySem.W.mg_of X G a_need_word, F_need_word.kp, b_need_word⟩
  have d_twin_of : CalN l.prog w K mg base 1 "twin_of" (sp_twin_of K ({ BadNumber := C_BadNumber, BadWord := C_BadWord, BallError := C_BallError, TooMany := C_TooMany, Word := C_Word, i_BadNumber := i_BadNumber, i_BadWord := i_BadWord, i_TooMany := i_TooMany } : Ad)) := ⟨_, _, _, (ok_twin_of F_twin_of T), PySem.W.mg_of X G a_twin_of, F_twin_of.kp, b_twin_of⟩
  have m_Word : MakX l.prog w K mg base 2 "Word" C_Word (sp_Word_init K ({ BadNumber := C_BadNumber, BadWord := C_BadWord, BallError := C_BallError, TooMany := C_TooMany, Word := C_Word, i_BadNumber := i_BadNumber, i_BadWord := i_BadWord, i_TooMany := i_TooMany } : Ad)) := ⟨_, _, _, ⟨mk_Word, a_Word_init, i_Word_init, kC_Word⟩, (ok_Word_init F_Word_init T d_need_row), PySem.W.mg_of X G a_Word, b_Word_init⟩
  have d_are_rows_apart : CalN l.prog w K mg base 1 "are_rows_apart" (sp_are_rows_apart K ({ BadNumber := C_BadNumber, BadWord := C_BadWord, BallError := C_BallError, TooMany := C_TooMany, Word := C_Word, i_BadNumber := i_BadNumber, i_BadWord := i_BadWord, i_TooMany := i_TooMany } : Ad)) := ⟨_, _, _, (ok_are_rows_apart F_are_rows_apart T), PySem.W.mg_of X G a_are_rows_apart, F_are_rows_apart.kp, b_are_rows_apart⟩
  have d_are_words : CalN l.prog w K mg base 1 "are_words" (sp_are_words K ({ BadNumber := C_BadNumber, BadWord := C_BadWord, BallError := C_BallError, TooMany := C_TooMany, Word := C_Word, i_BadNumber := i_BadNumber, i_BadWord := i_BadWord, i_TooMany := i_TooMany } : Ad)) := ⟨_, _, _, (ok_are_words F_are_words T), PySem.W.mg_of X G a_are_words, F_are_words.kp, b_are_words⟩
  have d_need_within : CalX l.prog w K mg base 3 "need_within" (sp_need_within K ({ BadNumber := C_BadNumber, BadWord := C_BadWord, BallError := C_BallError, TooMany := C_TooMany, Word := C_Word, i_BadNumber := i_BadNumber, i_BadWord := i_BadWord, i_TooMany := i_TooMany } : Ad)) := ⟨_, _, _, (ok_need_within F_need_within T d_is_within), PySem.W.mg_of X G a_need_within, F_need_within.kp, b_need_within⟩
  have d_law_draw : CalN l.prog w K mg base 1 "_law_draw" (sp_law_draw K ({ BadNumber := C_BadNumber, BadWord := C_BadWord, BallError := C_BallError, TooMany := C_TooMany, Word := C_Word, i_BadNumber := i_BadNumber, i_BadWord := i_BadWord, i_TooMany := i_TooMany } : Ad)) := ⟨_, _, _, (ok_law_draw F_law_draw T), PySem.W.mg_of X G a_law_draw, F_law_draw.kp, b_law_draw⟩
  have d_law_other : CalN l.prog w K mg base 1 "_law_other" (sp_law_other K ({ BadNumber := C_BadNumber, BadWord := C_BadWord, BallError := C_BallError, TooMany := C_TooMany, Word := C_Word, i_BadNumber := i_BadNumber, i_BadWord := i_BadWord, i_TooMany := i_TooMany } : Ad)) := ⟨_, _, _, (ok_law_other F_law_other T), PySem.W.mg_of X G a_law_other, F_law_other.kp, b_law_other⟩
  have d_law_pick : CalN l.prog w K mg base 2 "_law_pick" (sp_law_pick K ({ BadNumber := C_BadNumber, BadWord := C_BadWord, BallError := C_BallError, TooMany := C_TooMany, Word := C_Word, i_BadNumber := i_BadNumber, i_BadWord := i_BadWord, i_TooMany := i_TooMany } : Ad)) := ⟨_, _, _, (ok_law_pick F_law_pick T d_law_draw), PySem.W.mg_of X G a_law_pick, F_law_pick.kp, b_law_pick⟩
  have d_are_apart : CalX l.prog w K mg base 2 "are_apart" (sp_are_apart K ({ BadNumber := C_BadNumber, BadWord := C_BadWord, BallError := C_BallError, TooMany := C_TooMany, Word := C_Word, i_BadNumber := i_BadNumber, i_BadWord := i_BadWord, i_TooMany := i_TooMany } : Ad)) := ⟨_, _, _, (ok_are_apart F_are_apart T d_are_rows_apart d_are_words), PySem.W.mg_of X G a_are_apart, F_are_apart.kp, b_are_apart⟩
  have d_twin : CalX l.prog w K mg base 4 "twin" (sp_twin K ({ BadNumber := C_BadNumber, BadWord := C_BadWord, BallError := C_BallError, TooMany := C_TooMany, Word := C_Word, i_BadNumber := i_BadNumber, i_BadWord := i_BadWord, i_TooMany := i_TooMany } : Ad)) := ⟨_, _, _, (ok_twin F_twin T d_has_twin d_need_word d_twin_of m_Word), PySem.W.mg_of X G a_twin, F_twin.kp, b_twin⟩
  have d_law_struck : CalN l.prog w K mg base 2 "_law_struck" (sp_law_struck K ({ BadNumber := C_BadNumber, BadWord := C_BadWord, BallError := C_BallError, TooMany := C_TooMany, Word := C_Word, i_BadNumber := i_BadNumber, i_BadWord := i_BadWord, i_TooMany := i_TooMany } : Ad)) := ⟨_, _, _, (ok_law_struck F_law_struck T d_law_other), PySem.W.mg_of X G a_law_struck, F_law_struck.kp, b_law_struck⟩
  have d_law_word : CalN l.prog w K mg base 3 "_law_word" (sp_law_word K ({ BadNumber := C_BadNumber, BadWord := C_BadWord, BallError := C_BallError, TooMany := C_TooMany, Word := C_Word, i_BadNumber := i_BadNumber, i_BadWord := i_BadWord, i_TooMany := i_TooMany } : Ad)) := ⟨_, _, _, (ok_law_word F_law_word T d_law_other d_law_pick), PySem.W.mg_of X G a_law_word, F_law_word.kp, b_law_word⟩
  have d_law_are_apart : CalN l.prog w K mg base 1 "_law_are_apart" (sp_law_are_apart K ({ BadNumber := C_BadNumber, BadWord := C_BadWord, BallError := C_BallError, TooMany := C_TooMany, Word := C_Word, i_BadNumber := i_BadNumber, i_BadWord := i_BadWord, i_TooMany := i_TooMany } : Ad)) := ⟨_, _, _, (ok_law_are_apart F_law_are_apart T), PySem.W.mg_of X G a_law_are_apart, F_law_are_apart.kp, b_law_are_apart⟩
  have d_law_twin : CalN l.prog w K mg base 2 "_law_twin" (sp_law_twin K ({ BadNumber := C_BadNumber, BadWord := C_BadWord, BallError := C_BallError, TooMany := C_TooMany, Word := C_Word, i_BadNumber := i_BadNumber, i_BadWord := i_BadWord, i_TooMany := i_TooMany } : Ad)) := ⟨_, _, _, (ok_law_twin F_law_twin T d_law_other), PySem.W.mg_of X G a_law_twin, F_law_twin.kp, b_law_twin⟩
  have d_tops_of : CalX l.prog w K mg base 4 "tops_of" (sp_tops_of K ({ BadNumber := C_BadNumber, BadWord := C_BadWord, BallError := C_BallError, TooMany := C_TooMany, Word := C_Word, i_BadNumber := i_BadNumber, i_BadWord := i_BadWord, i_TooMany := i_TooMany } : Ad)) := ⟨_, _, _, (ok_tops_of F_tops_of T d_need_within d_need_word m_Word), PySem.W.mg_of X G a_tops_of, F_tops_of.kp, b_tops_of⟩
  have d_law_are_tops : CalN l.prog w K mg base 3 "_law_are_tops" (sp_law_are_tops K ({ BadNumber := C_BadNumber, BadWord := C_BadWord, BallError := C_BallError, TooMany := C_TooMany, Word := C_Word, i_BadNumber := i_BadNumber, i_BadWord := i_BadWord, i_TooMany := i_TooMany } : Ad)) := ⟨_, _, _, (ok_law_are_tops F_law_are_tops T d_law_are_apart d_law_twin), PySem.W.mg_of X G a_law_are_tops, F_law_are_tops.kp, b_law_are_tops⟩
  have dk_tops_of_count_word : CalK l.prog w K mg base (L2.CX l.prog w) 4 "tops_of" ["count", "word"] (gPm (α := V) .non 0 2 [1, 0]) (sp_tops_of K ({ BadNumber := C_BadNumber, BadWord := C_BadWord, BallError := C_BallError, TooMany := C_TooMany, Word := C_Word, i_BadNumber := i_BadNumber, i_BadWord := i_BadWord, i_TooMany := i_TooMany } : Ad)) := ⟨_, _, _, gPm .none 0 2 [1, 0], (ok_tops_of F_tops_of T d_need_within d_need_word m_Word), PySem.W.mg_of X G a_tops_of, F_tops_of.kp, ⟨(fun s us ws _ hl => by
      unfold gPm at hl ⊢
      by_cases h : us.length = 0 ∧ ws.length = 2
      · rw [if_pos h]
        match us, ws, h with
        | [], [_, _], _ => exact .of_eq rfl
      · rw [if_neg h] at hl; cases hl), gPm_rel⟩⟩
  have d_law_pen : CalN l.prog w K mg base 1 "_law_pen" (sp_law_pen K ({ BadNumber := C_BadNumber, BadWord := C_BadWord, BallError := C_BallError, TooMany := C_TooMany, Word := C_Word, i_BadNumber := i_BadNumber, i_BadWord := i_BadWord, i_TooMany := i_TooMany } : Ad)) := ⟨_, _, _, (ok_law_pen F_law_pen T), PySem.W.mg_of X G a_law_pen, F_law_pen.kp, b_law_pen⟩
  have d_law_rows : CalN l.prog w K mg base 4 "_law_rows" (sp_law_rows K ({ BadNumber := C_BadNumber, BadWord := C_BadWord, BallError := C_BallError, TooMany := C_TooMany, Word := C_Word, i_BadNumber := i_BadNumber, i_BadWord := i_BadWord, i_TooMany := i_TooMany } : Ad)) := ⟨_, _, _, (ok_law_rows F_law_rows T d_law_draw d_law_pick d_law_struck d_law_word), PySem.W.mg_of X G a_law_rows, F_law_rows.kp, b_law_rows⟩
  have d_law_told : CalN l.prog w K mg base 5 "_law_told" (sp_law_told K ({ BadNumber := C_BadNumber, BadWord := C_BadWord, BallError := C_BallError, TooMany := C_TooMany, Word := C_Word, i_BadNumber := i_BadNumber, i_BadWord := i_BadWord, i_TooMany := i_TooMany } : Ad)) := ⟨_, _, _, (ok_law_told F_law_told T d_are_apart d_twin), PySem.W.mg_of X G a_law_told, F_law_told.kp, b_law_told⟩
  have dk_are_apart_words : CalK l.prog w K mg base (L2.CX l.prog w) 2 "are_apart" ["words"] (gPm (α := V) .non 0 1 [0]) (sp_are_apart K ({ BadNumber := C_BadNumber, BadWord := C_BadWord, BallError := C_BallError, TooMany := C_TooMany, Word := C_Word, i_BadNumber := i_BadNumber, i_BadWord := i_BadWord, i_TooMany := i_TooMany } : Ad)) := ⟨_, _, _, gPm .none 0 1 [0], (ok_are_apart F_are_apart T d_are_rows_apart d_are_words), PySem.W.mg_of X G a_are_apart, F_are_apart.kp, ⟨(fun s us ws _ hl => by
      unfold gPm at hl ⊢
      by_cases h : us.length = 0 ∧ ws.length = 1
      · rw [if_pos h]
        match us, ws, h with
        | [], [_], _ => exact .of_eq rfl
      · rw [if_neg h] at hl; cases hl), gPm_rel⟩⟩
  have dk_twin_word : CalK l.prog w K mg base (L2.CX l.prog w) 4 "twin" ["word"] (gPm (α := V) .non 0 1 [0]) (sp_twin K ({ BadNumber := C_BadNumber, BadWord := C_BadWord, BallError := C_BallError, TooMany := C_TooMany, Word := C_Word, i_BadNumber := i_BadNumber, i_BadWord := i_BadWord, i_TooMany := i_TooMany } : Ad)) := ⟨_, _, _, gPm .none 0 1 [0], (ok_twin F_twin T d_has_twin d_need_word d_twin_of m_Word), PySem.W.mg_of X G a_twin, F_twin.kp, ⟨(fun s us ws _ hl => by
      unfold gPm at hl ⊢
      by_cases h : us.length = 0 ∧ ws.length = 1
      · rw [if_pos h]
        match us, ws, h with
        | [], [_], _ => exact .of_eq rfl
      · rw [if_neg h] at hl; cases hl), gPm_rel⟩⟩
  have d_law_other_told : CalN l.prog w K mg base 5 "_law_other_told" (sp_law_other_told K ({ BadNumber := C_BadNumber, BadWord := C_BadWord, BallError := C_BallError, TooMany := C_TooMany, Word := C_Word, i_BadNumber := i_BadNumber, i_BadWord := i_BadWord, i_TooMany := i_TooMany } : Ad)) := ⟨_, _, _, (ok_law_other_told F_law_other_told T d_tops_of), PySem.W.mg_of X G a_law_other_told, F_law_other_told.kp, b_law_other_told⟩
  have d_law_right : CalN l.prog w K mg base 5 "_law_right" (sp_law_right K ({ BadNumber := C_BadNumber, BadWord := C_BadWord, BallError := C_BallError, TooMany := C_TooMany, Word := C_Word, i_BadNumber := i_BadNumber, i_BadWord := i_BadWord, i_TooMany := i_TooMany } : Ad)) := ⟨_, _, _, (ok_law_right F_law_right T d_law_are_tops d_tops_of dk_tops_of_count_word m_Word), PySem.W.mg_of X G a_law_right, F_law_right.kp, b_law_right⟩
  have d_law_first_part : CalN l.prog w K mg base 6 "_law_first_part" (sp_law_first_part K ({ BadNumber := C_BadNumber, BadWord := C_BadWord, BallError := C_BallError, TooMany := C_TooMany, Word := C_Word, i_BadNumber := i_BadNumber, i_BadWord := i_BadWord, i_TooMany := i_TooMany } : Ad)) := ⟨_, _, _, (ok_law_first_part F_law_first_part T d_are_apart d_law_are_apart d_law_draw d_law_pen d_law_pick d_law_rows d_law_told d_law_twin d_law_word d_twin dk_are_apart_words dk_twin_word m_Word), PySem.W.mg_of X G a_law_first_part, F_law_first_part.kp, b_law_first_part⟩
  have d_law_second_part : CalN l.prog w K mg base 6 "_law_second_part" (sp_law_second_part K ({ BadNumber := C_BadNumber, BadWord := C_BadWord, BallError := C_BallError, TooMany := C_TooMany, Word := C_Word, i_BadNumber := i_BadNumber, i_BadWord := i_BadWord, i_TooMany := i_TooMany } : Ad)) := ⟨_, _, _, (ok_law_second_part F_law_second_part T d_law_draw d_law_other_told d_law_pen d_law_pick d_law_right d_law_word m_Word), PySem.W.mg_of X G a_law_second_part, F_law_second_part.kp, b_law_second_part⟩
  exact ok_law F_law T d_law_first_part d_law_second_part
theorem walk {l : PySem.W.OpenLaw} {q : Program} {loose : List Str} {XP : (Str → Option Value) → Heap → Prop} {YP : World → Heap → Prop} {d : DefRec} {K : Params → PySem.W.Frag} (hn : l.most = some 63) (hdf : d.params.defaults = [])
    (hY : ∀ (w : World) (h : Heap), YP w h → (K w.params).In h)
    (F : ∀ (w : World) (mg : Str → Option Value) (fa : Addr) (h : Heap), (K w.params).In h → h.Ns mainGlobals mg → mg d.name = some (.ref fa) →
      ∃ fd : FuncData, (∀ (s : Shared) (u : Value), BindsTo s fd ⟨[u], []⟩ [("script", u)]) ∧ ∀ base : Heap, (K w.params).In base → base.Ns mainGlobals mg → FnOk l.prog w (K w.params) mg base CX0 7 fa fd ["script"] (sp_top (K w.params))) :
    PySem.W.WalkO q loose XP YP l.row.toRowW d [] (fun f vs => PySem.call f vs) :=
  L2.walk_of (n := 63) (k := 7) (x := "script") (CX := fun _ => CX0) (sp := fun w => sp_top (K w.params)) hn (by decide) hdf ⟨rfl, by decide, by decide⟩ hY F (fun _ _ a ns hl _ hS => ⟨a, ns, rfl, hS, hl, fun _ => rfl⟩) fun _ _ _ _ _ z => z

end Cs

open PySem PySem.W PyProof.Rows in
set_option maxRecDepth 100000 in
set_option maxHeartbeats 0 in
theorem PySem.Challenge.cw_copyshare_k30_twins_words_apart_and_tops_holds : PySem.Challenge.rw_copyshare_k30_twins_words_apart_and_tops.Holds := by
  w_on; o_law; k_head; (case hw => w_witness2)
  k_fill
  refine Cs.walk (l := PySem.Challenge.rw_copyshare_k30_twins_words_apart_and_tops) rfl rfl (fun w h Y => PySem.W.kIn_of Y) ?F
  case F =>
    intro w mg fa h KX G hmg
    refine' Cs.all_mk KX G hmg ?a_BadNumber ?a_BadWord ?a_BallError ?a_TooMany ?a_Word ?a_is_integer ?l_is_integer ?c_is_integer ?k_is_integer ?a_is_within ?l_is_within ?c_is_within ?k_is_within ?a_need_within ?l_need_within ?c_need_within ?k_need_within ?a_need_row ?l_need_row ?c_need_row ?k_need_row ?a_need_word ?l_need_word ?c_need_word ?k_need_word ?a_Word_init ?l_Word_init ?c_Word_init ?k_Word_init ?t_Word_init ?i_Word_init ?a_has_twin ?l_has_twin ?c_has_twin ?k_has_twin ?a_twin_of ?l_twin_of ?c_twin_of ?k_twin_of ?a_twin ?l_twin ?c_twin ?k_twin ?a_are_rows_apart ?l_are_rows_apart ?c_are_rows_apart ?k_are_rows_apart ?a_are_words ?l_are_words ?c_are_words ?k_are_words ?a_are_apart ?l_are_apart ?c_are_apart ?k_are_apart ?a_tops_of ?l_tops_of ?c_tops_of ?k_tops_of ?a_law_pen ?l_law_pen ?c_law_pen ?k_law_pen ?a_law_draw ?l_law_draw ?c_law_draw ?k_law_draw ?a_law_pick ?l_law_pick ?c_law_pick ?k_law_pick ?a_law_other ?l_law_other ?c_law_other ?k_law_other ?a_law_word ?l_law_word ?c_law_word ?k_law_word ?a_law_struck ?l_law_struck ?c_law_struck ?k_law_struck ?a_law_twin ?l_law_twin ?c_law_twin ?k_law_twin ?a_law_are_apart ?l_law_are_apart ?c_law_are_apart ?k_law_are_apart ?a_law_told ?l_law_told ?c_law_told ?k_law_told ?a_law_rows ?l_law_rows ?c_law_rows ?k_law_rows ?a_law_are_tops ?l_law_are_tops ?c_law_are_tops ?k_law_are_tops ?a_law_other_told ?l_law_other_told ?c_law_other_told ?k_law_other_told ?a_law_right ?l_law_right ?c_law_right ?k_law_right ?a_law_first_part ?l_law_first_part ?c_law_first_part ?k_law_first_part ?a_law_second_part ?l_law_second_part ?c_law_second_part ?k_law_second_part ?a_law ?l_law ?c_law ?k_law ?noSup ?noAny ?top ?mk_Word ?kC_Word ?b_abs ?b_all ?b_bool ?b_enumerate ?b_int ?b_isinstance ?b_len ?b_list ?b_range ?b_str ?b_tuple ?pg_Word ?hd_Word ?po_Word ?sa_Word ?xL_BadNumber ?al_BadNumber ?sa_BadNumber ?iC_BadNumber ?tI_BadNumber ?exC_BadNumber ?veC_BadNumber ?tyC_BadNumber ?kC_BadNumber ?own_BadNumber ?lf_BadNumber ?hcd_BadNumber ?lc_BadNumber ?hvs_BadNumber ?hfile_BadNumber ?lcc_BadNumber ?no_BadNumber_part ?xL_BadWord ?al_BadWord ?sa_BadWord ?iC_BadWord ?tI_BadWord ?exC_BadWord ?veC_BadWord ?tyC_BadWord ?kC_BadWord ?own_BadWord ?lf_BadWord ?hcd_BadWord ?lc_BadWord ?hvs_BadWord ?hfile_BadWord ?lcc_BadWord ?no_BadWord_at ?xL_TooMany ?al_TooMany ?sa_TooMany ?iC_TooMany ?tI_TooMany ?exC_TooMany ?veC_TooMany ?tyC_TooMany ?kC_TooMany ?own_TooMany ?lf_TooMany ?hcd_TooMany ?lc_TooMany ?hvs_TooMany ?hfile_TooMany ?lcc_TooMany ?no_TooMany_what ?no_TooMany_most ?su_BadNumber_BadNumber ?icl_BadNumber ?su_BadNumber_BadWord ?icl_BadWord ?su_BadWord_BadWord ?su_BadWord_BallError ?icl_BallError ?tyC_BallError ?exC_BallError ?su_TooMany_BadNumber ?su_TooMany_BadWord ?su_TooMany_TooMany ?icl_TooMany ?g_LETTERS ?g_MOST_APART ?g_MOST_BEGUN ?g_MOST_LETTERS ?g_MOST_TOPS ?su_NoneType_Word ?icl_Word ?tyC_Word ?su_Word_bool ?su_Word_int ?su_Word_list ?su_Word_str ?su_Word_tuple ?su_bool_Word ?su_dict_Word ?su_int_Word ?su_list_Word ?su_str_Word ?su_tuple_Word ?no_Word_letters ?no_Word_size ?ha_Word ?hn ?htk ?hm_Word ?ga_BadNumber ?gg_BadNumber ?hd_BadNumber ?ga_BadWord ?gg_BadWord ?hd_BadWord ?ga_TooMany ?gg_TooMany ?hd_TooMany
    (case a_BadNumber => k_is)
    (case a_BadWord => k_is)
    (case a_BallError => k_is)
    (case a_TooMany => k_is)
    (case a_Word => k_is)
    (case a_is_integer => k_is)
    (case l_is_integer => k_is)
    (case c_is_integer => k_is)
    (case k_is_integer => k_is)
    (case a_is_within => k_is)
    (case l_is_within => k_is)
    (case c_is_within => k_is)
    (case k_is_within => k_is)
    (case a_need_within => k_is)
    (case l_need_within => k_is)
    (case c_need_within => k_is)
    (case k_need_within => k_is)
    (case a_need_row => k_is)
    (case l_need_row => k_is)
    (case c_need_row => k_is)
    (case k_need_row => k_is)
    (case a_need_word => k_is)
    (case l_need_word => k_is)
    (case c_need_word => k_is)
    (case k_need_word => k_is)
    (case a_Word_init => k_is)
    (case l_Word_init => k_is)
    (case c_Word_init => k_is)
    (case k_Word_init => k_is)
    (case t_Word_init => k_is)
    (case i_Word_init => k_is)
    (case a_has_twin => k_is)
    (case l_has_twin => k_is)
    (case c_has_twin => k_is)
    (case k_has_twin => k_is)
    (case a_twin_of => k_is)
    (case l_twin_of => k_is)
    (case c_twin_of => k_is)
    (case k_twin_of => k_is)
    (case a_twin => k_is)
    (case l_twin => k_is)
    (case c_twin => k_is)
    (case k_twin => k_is)
    (case a_are_rows_apart => k_is)
    (case l_are_rows_apart => k_is)
    (case c_are_rows_apart => k_is)
    (case k_are_rows_apart => k_is)
    (case a_are_words => k_is)
    (case l_are_words => k_is)
    (case c_are_words => k_is)
    (case k_are_words => k_is)
    (case a_are_apart => k_is)
    (case l_are_apart => k_is)
    (case c_are_apart => k_is)
    (case k_are_apart => k_is)
    (case a_tops_of => k_is)
    (case l_tops_of => k_is)
    (case c_tops_of => k_is)
    (case k_tops_of => k_is)
    (case a_law_pen => k_is)
    (case l_law_pen => k_is)
    (case c_law_pen => k_is)
    (case k_law_pen => k_is)
    (case a_law_draw => k_is)
    (case l_law_draw => k_is)
    (case c_law_draw => k_is)
    (case k_law_draw => k_is)
    (case a_law_pick => k_is)
    (case l_law_pick => k_is)
    (case c_law_pick => k_is)
    (case k_law_pick => k_is)
    (case a_law_other => k_is)
    (case l_law_other => k_is)
    (case c_law_other => k_is)
    (case k_law_other => k_is)
    (case a_law_word => k_is)
    (case l_law_word => k_is)
    (case c_law_word => k_is)
    (case k_law_word => k_is)
    (case a_law_struck => k_is)
    (case l_law_struck => k_is)
    (case c_law_struck => k_is)
    (case k_law_struck => k_is)
    (case a_law_twin => k_is)
    (case l_law_twin => k_is)
    (case c_law_twin => k_is)
    (case k_law_twin => k_is)
    (case a_law_are_apart => k_is)
    (case l_law_are_apart => k_is)
    (case c_law_are_apart => k_is)
    (case k_law_are_apart => k_is)
    (case a_law_told => k_is)
    (case l_law_told => k_is)
    (case c_law_told => k_is)
    (case k_law_told => k_is)
    (case a_law_rows => k_is)
    (case l_law_rows => k_is)
    (case c_law_rows => k_is)
    (case k_law_rows => k_is)
    (case a_law_are_tops => k_is)
    (case l_law_are_tops => k_is)
    (case c_law_are_tops => k_is)
    (case k_law_are_tops => k_is)
    (case a_law_other_told => k_is)
    (case l_law_other_told => k_is)
    (case c_law_other_told => k_is)
    (case k_law_other_told => k_is)
    (case a_law_right => k_is)
    (case l_law_right => k_is)
    (case c_law_right => k_is)
    (case k_law_right => k_is)
    (case a_law_first_part => k_is)
    (case l_law_first_part => k_is)
    (case c_law_first_part => k_is)
    (case k_law_first_part => k_is)
    (case a_law_second_part => k_is)
    (case l_law_second_part => k_is)
    (case c_law_second_part => k_is)
    (case k_law_second_part => k_is)
    (case a_law => k_is)
    (case l_law => k_is)
    (case c_law => k_is)
    (case k_law => k_is)
    (case noSup => k_is)
    (case noAny => k_is)
    (case top => first | rfl | decide +kernel | k_is)
    (case mk_Word => k_is)
    (case kC_Word => k_is)
    (case b_abs => k_is)
    (case b_all => k_is)
    (case b_bool => k_is)
    (case b_enumerate => k_is)
    (case b_int => k_is)
    (case b_isinstance => k_is)
    (case b_len => k_is)
    (case b_list => k_is)
    (case b_range => k_is)
    (case b_str => k_is)
    (case b_tuple => k_is)
    (case pg_Word => k_is)
    (case hd_Word => k_is)
    (case po_Word => k_is)
    (case sa_Word => k_is)
    (case xL_BadNumber => k_is)
    (case al_BadNumber => first | k_is | rfl | decide +kernel)
    (case sa_BadNumber => k_is)
    (case iC_BadNumber => k_is)
    (case tI_BadNumber => k_is)
    (case exC_BadNumber => k_is)
    (case veC_BadNumber => k_is)
    (case tyC_BadNumber => k_is)
    (case kC_BadNumber => k_is)
    (case own_BadNumber => k_is)
    (case lf_BadNumber => k_is)
    (case hcd_BadNumber => k_is)
    (case lc_BadNumber => k_is)
    (case hvs_BadNumber => first | rfl | k_is)
    (case hfile_BadNumber => first | rfl | decide +kernel | k_is)
    (case lcc_BadNumber => k_is)
    (case no_BadNumber_part => k_is)
    (case xL_BadWord => k_is)
    (case al_BadWord => first | k_is | rfl | decide +kernel)
    (case sa_BadWord => k_is)
    (case iC_BadWord => k_is)
    (case tI_BadWord => k_is)
    (case exC_BadWord => k_is)
    (case veC_BadWord => k_is)
    (case tyC_BadWord => k_is)
    (case kC_BadWord => k_is)
    (case own_BadWord => k_is)
    (case lf_BadWord => k_is)
    (case hcd_BadWord => k_is)
    (case lc_BadWord => k_is)
    (case hvs_BadWord => first | rfl | k_is)
    (case hfile_BadWord => first | rfl | decide +kernel | k_is)
    (case lcc_BadWord => k_is)
    (case no_BadWord_at => k_is)
    (case xL_TooMany => k_is)
    (case al_TooMany => first | k_is | rfl | decide +kernel)
    (case sa_TooMany => k_is)
    (case iC_TooMany => k_is)
    (case tI_TooMany => k_is)
    (case exC_TooMany => k_is)
    (case veC_TooMany => k_is)
    (case tyC_TooMany => k_is)
    (case kC_TooMany => k_is)
    (case own_TooMany => k_is)
    (case lf_TooMany => k_is)
    (case hcd_TooMany => k_is)
    (case lc_TooMany => k_is)
    (case hvs_TooMany => first | rfl | k_is)
    (case hfile_TooMany => first | rfl | decide +kernel | k_is)
    (case lcc_TooMany => k_is)
    (case no_TooMany_what => k_is)
    (case no_TooMany_most => k_is)
    (case su_BadNumber_BadNumber => first | k_is | rfl)
    (case icl_BadNumber => k_is)
    (case su_BadNumber_BadWord => first | k_is | rfl)
    (case icl_BadWord => k_is)
    (case su_BadWord_BadWord => first | k_is | rfl)
    (case su_BadWord_BallError => first | k_is | rfl)
    (case icl_BallError => k_is)
    (case tyC_BallError => k_is)
    (case exC_BallError => k_is)
    (case su_TooMany_BadNumber => first | k_is | rfl)
    (case su_TooMany_BadWord => first | k_is | rfl)
    (case su_TooMany_TooMany => first | k_is | rfl)
    (case icl_TooMany => k_is)
    (case g_LETTERS => k_is)
    (case g_MOST_APART => k_is)
    (case g_MOST_BEGUN => k_is)
    (case g_MOST_LETTERS => k_is)
    (case g_MOST_TOPS => k_is)
    (case su_NoneType_Word => first | k_is | rfl)
    (case icl_Word => k_is)
    (case tyC_Word => k_is)
    (case su_Word_bool => first | k_is | rfl)
    (case su_Word_int => first | k_is | rfl)
    (case su_Word_list => first | k_is | rfl)
    (case su_Word_str => first | k_is | rfl)
    (case su_Word_tuple => first | k_is | rfl)
    (case su_bool_Word => first | k_is | rfl)
    (case su_dict_Word => first | k_is | rfl)
    (case su_int_Word => first | k_is | rfl)
    (case su_list_Word => first | k_is | rfl)
    (case su_str_Word => first | k_is | rfl)
    (case su_tuple_Word => first | k_is | rfl)
    (case no_Word_letters => k_is)
    (case no_Word_size => k_is)
    (case ha_Word => k_is)
    (case hn => k_is)
    (case htk => k_is)
    (case hm_Word => k_is)
    (case ga_BadNumber => k_is)
    (case gg_BadNumber => k_is)
    (case hd_BadNumber => k_is)
    (case ga_BadWord => k_is)
    (case gg_BadWord => k_is)
    (case hd_BadWord => k_is)
    (case ga_TooMany => k_is)
    (case gg_TooMany => k_is)
    (case hd_TooMany => k_is)
