import PyProof.Rows.All
import Wide.All
import OpenK.AllK
import Wide.FinOn
import PyProof.EqAt
import PyProof.EqKinds
import PyProof.TupleCall
import KE.KExcSuper
import HandS.ForExc
import HandS.ExcInit
import HandS.ExcSuper
import HandS.ExcField
import HandS.IsInst
import HandS.ExcValue
import HandS.ExcIs
import PyProof.ReprRoads
import KE.KStateDown
import HandS.Defaults
import HandS.More
import HandS.Head0
import HandS.Head1
import HandS.Head2
import HandS.HeadEnd
import HandS.HeadHook1
import HandS.HeadHook2
import HandS.ForMost
import HandS.Walk
import HandS.RaiseMore
import HandS.StrMore
import HandS.Conv
import HandS.DictComp
import HandS.Style
import HandS.Steps
import PySem.Challenge.RW_keptbindings_k14_layouts_compared
set_option Elab.async false
set_option linter.all false
set_option maxRecDepth 100000
set_option maxHeartbeats 4000000
/-! Own errors of the package: class X(KeptError) with __init__(self, f, ..): super().__init__(f, ..); self.f = f; .. -/
namespace PySem
namespace KX
open PySem.W PySem.Calls PyProof.Rows PySem.HandSPX
open L2 (defArgs defBody defScope)

/-- the module's names as super() needs them -/
structure Glb (mg : Str → Option Value) (h : Heap) : Prop where
  g : h.Ns mainGlobals mg
  b : ∃ mb, h.Ns builtinsNs mb ∧ mb "super" = some (.type "super")
  s : mg "super" = none
theorem Glb.keeps {mg : Str → Option Value} {h h' : Heap} (G : Glb mg h) (k : ∀ b o, h.get? b = some o → h'.get? b = some o) : Glb mg h' :=
  ⟨G.g.keeps k, let ⟨mb, a, c⟩ := G.b; ⟨mb, a.keeps k, c⟩, G.s⟩
theorem Glb.but {mg : Str → Option Value} {h h' : Heap} {x : Addr} (G : Glb mg h) (k : ∀ b o, b ≠ x → h.get? b = some o → h'.get? b = some o) (h1 : mainGlobals ≠ x) (h2 : builtinsNs ≠ x) : Glb mg h' := by
  obtain ⟨⟨o, es, ep, ho, r⟩, ⟨mb, ⟨o', es', ep', ho', r'⟩, c⟩, s⟩ := G
  exact ⟨⟨o, es, ep, k _ _ h1 ho, r⟩, ⟨mb, ⟨o', es', ep', k _ _ h2 ho', r'⟩, c⟩, s⟩

/-- what the written part says of an error's class at C, its __init__ (the def st) at fI -/
structure ExTxt (P : Program) (K : Frag) (C fI : Addr) (st : Stmt) (fs : List Str) : Prop where
  cls : ∃ nm q N bs bm sn sub ab col dd k0 k1 k2 k3 k5, K.lookup C = some (excClassObj nm q C N bs bm true sn sub ab col dd k0 k1 k2 k3 k5 "ValueError.__new__") ∧ refsVE bm = true
  sa : findIn K (.ref C) "__setattr__" = some (some (.builtin "object.__setattr__"))
  ga : findIn K (.ref C) "__getattribute__" = some (some (.builtin "BaseException.__getattribute__"))
  gg : findIn K (.ref C) "__getattr__" = some none
  no : ∀ f ∈ fs, findIn K (.ref C) f = some none
  iC : findIn K (.ref C) "__init__" = some (some (.ref fI))
  tC : typeIn K (.ref fI) = some (.type "function")
  kC : keepIn K (.ref C) = true
  exC : subIn K (.ref C) (.type "BaseException") = some true
  tyC : typeIn K (.ref C) = some (.type "type")
  hdC : hasDictIn K C = true
  te : exmOne K (.ref C) (.ref C) = some true
  su : ks_superIn K C C "__init__" = some (some (.builtin "ValueError.__init__"))
  sV : subIn K (.ref C) (.type "ValueError") = some true
  sC : mroIn K C (.ref C) = some true
  op : nsIn K cStatics "thirdparty.any" = some none
  fn : ∃ (qual : Str) (oc : Value) (od : Option Addr) (doc pm : Value) (an : Option Addr) (cda cc : Addr) (ct : Value) (osl : Array (Option Value)) (ccl : Value) (cdd : Option Addr) (vs : Array Value) (ccs : Array (Option Value)) (file : Str) (tf : Tok) (cl : Value) (cld : Option Addr) (csl : Array (Option Value)),
    K.lookup fI = some ⟨oc, od, .func (ksFn "__init__" qual (defArgs st) (defBody st) (defScope st) .none .none doc pm an (.ref cda) ct cc), osl⟩ ∧ codeIn K (.ref cda) qual = true ∧
    K.lookup cda = some ⟨ccl, cdd, .fields vs, ccs⟩ ∧ vs[2]? = some (.str file tf) ∧ ((P.main.file : Str) == file) = true ∧ K.lookup cc = some ⟨cl, cld, .cell (some (.ref C)), csl⟩
  tp : (P.main.scope.names.lookup ("super" : Str)).isSome = false

section
variable {prog : Program} {w : World} {A : Around} {E : Value → Shared → Prop} {R : Result → Shared → Prop} {s : Shared} {K : Frag} {mg : Str → Option Value} {C fI x t0 : Addr} {st : Stmt} {fs : List Str}
theorem clsOf (T : ExTxt prog K C fI st fs) : ∃ cd : ClassData, clsIn K C = some cd ∧ refsVE cd.mro = true ∧ cd.hasDict = true := by
  obtain ⟨nm, q, N, bs, bm, sn, sub, ab, col, dd, k0, k1, k2, k3, k5, hC, hbm⟩ := T.cls
  refine ⟨_, (by unfold clsIn; rw [hC]), ?_, rfl⟩
  exact (show refsVE (.ref C :: bm) = true from hbm)
theorem ldE {M : Model} {env : Env} {m : Str → Option Value} {y : Str} {pos : Pos} {v : Value} {Q : Value → Shared → Prop} (hn : s.heap.Ns env.locals m) (hv : m y = some v) (hl : env.kindOf y = some .local) (h : Q v s)
    (hk : env.scope.kind = .function) (hd : (y == ("__debug__" : Str)) = false) : wpAny M A (eval (.Name y pos) env) Q E s := wpAny_Name (wpAny_loadName_local hk hl hn hv h) hd
/-- the bound ValueError.__init__ called -/
theorem call_mw {u : Addr} {rest : List Value} {Q : Value → Shared → Prop} (T : ExTxt prog K C fI st fs) (X : K.In s.heap) (he : s.heap.get? x = some (excO C t0)) (hu : s.heap.get? u = some (kxs_mw "ValueError.__init__" x)) (hrest : rest.length ≤ sizeLine)
    (hq : ∀ h' t1, (∀ b o, b ≠ x → s.heap.get? b = some o → h'.get? b = some o) → h'.get? x = some (excO C t1) → Q .none { s with heap := h' }) :
    wpAny (model prog w) A (call (.ref u) rest) Q E s := by
  obtain ⟨nm, q, N, bs, bm, sn, sub, ab, col, dd, k0, k1, k2, k3, k5, hC, hbm⟩ := T.cls
  obtain ⟨h, g, d, t, os⟩ := s
  refine wpAny_call (codeAny_of_tree ?_)
  show wpAny _ A.in1 (callAny (.ref u) ⟨rest, []⟩) _ _ _
  simp only [callAny]
  refine wpAny_bind (wpAny_load hu ?_)
  simp only [kxs_mw, show (Value.type "method-wrapper" == Value.type "method" || Value.type "method-wrapper" == Value.type "builtin_function_or_method" || Value.type "method-wrapper" == Value.type "method-wrapper") = true by decide, if_true]
  refine W.KFB.if_so (by decide) ?_
  refine wpAny_bind (ESX.check_bound F.excBase_ValueError (X _ _ hC) he rfl ?_)
  refine wpAny_bind (wpAny_pure (wpAny_pure ?_))
  refine ⟨Code.quiet_builtin _ (by decide +kernel), codeAny_builtin F.excBase_ValueError.initEntry ?_⟩
  rw [Around.under_plainId F.excBase_ValueError.init.plain _]
  wp_walk
  refine hq _ h.objs.size (fun b o hb ho => ?_) ?_
  · rw [Heap.get?_update_other _ _ (Ne.symm hb)]
    exact Heap.get?_push_of_some _ ho
  · rw [Heap.get?_update_self _ (Heap.get?_push_of_some _ he) rfl]
    rfl

/-- super().__init__(..) as the first statement of __init__ -/
theorem super_stmt {body : List Stmt} {qual : Str} {oc : Value} {od : Option Addr} {doc pm : Value} {an : Option Addr} {cda cc L : Addr} {ct : Value} {osl : Array (Option Value)} {ccl : Value} {cdd : Option Addr} {vs : Array Value} {ccs : Array (Option Value)} {file : Str} {tf : Tok} {cl : Value} {cld : Option Addr} {csl : Array (Option Value)}
    {m : Str → Option Value} {ar : Arg} {e : Expr} {es : List Expr} {us : List Value} {p0 p1 p2 p3 p4 : Pos} {pl : Sem Bool} {Q : Flow → Shared → Prop}
    (T : ExTxt prog K C fI st fs) (X : K.In s.heap) (G : Glb mg s.heap)
    (hfI : K.lookup fI = some ⟨oc, od, .func (ksFn "__init__" qual (defArgs st) (defBody st) (defScope st) .none .none doc pm an (.ref cda) ct cc), osl⟩)
    (hcda : K.lookup cda = some ⟨ccl, cdd, .fields vs, ccs⟩) (hvs : vs[2]? = some (.str file tf)) (hfile : ((prog.main.file : Str) == file) = true) (hcc : K.lookup cc = some ⟨cl, cld, .cell (some (.ref C)), csl⟩)
    (hpar : ((defArgs st).posonlyargs ++ (defArgs st).args).head? = some ar) (hn : s.heap.Ns L m) (hself : m ar.arg = some (.ref x)) (hx : s.heap.get? x = some (excO C t0)) (hLx : L ≠ x)
    (hks : (defScope st).names.lookup ("super" : Str) = some .globalImplicit) (hkc : (defScope st).names.lookup ("__class__" : Str) = some .free) (hka : (defScope st).names.lookup ar.arg = some .local) (hk : (defScope st).kind = .function)
    (hi : interactive (ksEnv qual (defScope st) L fI (.ref cda) cc) = false)
    (hsw : swapsWith (.Call (.Attribute (.Call (.Name "super" p0) [] [] p1) "__init__" p2) (e :: es) [] p3) none p4.line (ksEnv qual (defScope st) L fI (.ref cda) cc) = pure false)
    (hev : eval (.Call (.Attribute (.Call (.Name "super" p0) [] [] p1) "__init__" p2) (e :: es) [] p3) (ksEnv qual (defScope st) L fI (.ref cda) cc) = (do
      let ov ← attributeBase (.Call (.Name "super" p0) [] [] p1) "__init__" (ksEnv qual (defScope st) L fI (.ref cda) cc) (eval (.Call (.Name "super" p0) [] [] p1) (ksEnv qual (defScope st) L fI (.ref cda) cc))
      standAt p2.atName
      let (f, first) ← holding [ov] (getMethod ov "__init__" pl)
      callWith p3 f first (backTo p3 (starEach (e :: es) (ksEnv qual (defScope st) L fI (.ref cda) cc))) []))
    (he : starEach (e :: es) (ksEnv qual (defScope st) L fI (.ref cda) cc) = (false, eval e (ksEnv qual (defScope st) L fI (.ref cda) cc)) :: starEach es (ksEnv qual (defScope st) L fI (.ref cda) cc)) (hplain : (backTo p3 (starEach es (ksEnv qual (defScope st) L fI (.ref cda) cc))).any (·.1) = false) (hus : us.length ≤ sizeLine)
    (hargs : ∀ (s₁ : Shared) (Q' : List Value → Shared → Prop), s₁.heap.Ns L m → Q' us s₁ → wpAny (model prog w) A (spliced (backTo p3 (starEach (e :: es) (ksEnv qual (defScope st) L fI (.ref cda) cc)))) Q' E s₁)
    (hq : ∀ h' t1 tk, (∀ b o, b ≠ x → s.heap.get? b = some o → h'.get? b = some o) → h'.get? x = some (excO C t1) → Q .next { s with heap := h', toks := tk }) :
    _root_.PySem.wpAt (model prog w) A (.func body (ksEnv qual (defScope st) L fI (.ref cda) cc)) (exec (.Expr (.Call (.Attribute (.Call (.Name "super" p0) [] [] p1) "__init__" p2) (e :: es) [] p3) p4) (ksEnv qual (defScope st) L fI (.ref cda) cc)) Q E s := by
  obtain ⟨cd, hcd, hmro, hhd⟩ := clsOf T
  have I0 : InstAt s.heap x (excO C t0) C none := ⟨hx, rfl, rfl, trivial⟩
  obtain ⟨hh, g, d, t, os⟩ := s
  obtain ⟨oD, hD1, hD2⟩ : ∃ oD, hh.get? C = some oD ∧ oD.data = .cls cd := by
    unfold clsIn at hcd
    split at hcd
    · rename_i c d cd' sl ho
      cases hcd
      exact ⟨_, X _ _ ho, rfl⟩
    · cases hcd
  obtain ⟨mb, hb1, hb2⟩ := G.b
  refine ks_wpAt_Expr_any ?_ hi hsw
  refine ks_wpAt_MethodCall (pl := pl) ?_ hev
  refine ks_wpAt_super_base (env := ksEnv qual (defScope st) L fI (.ref cda) cc) hks hkc (by decide) rfl (X _ _ hfI) rfl hpar rfl (X _ _ hcda) rfl hvs hfile T.tp ?_
  refine ks_loadName_global hk hks (loadGlobal_builtin (env := ksEnv qual (defScope st) L fI (.ref cda) cc) G.g G.s hb1 hb2 ⟨rfl, ?_⟩)
  refine wpAny_loadName_free hk hkc rfl ⟨_, X _ _ hcc, rfl⟩ ?_
  refine wpAny_loadName_local hk hka hn hself ?_
  refine ks_wpAny_isType_cls hD1 hD2 ⟨rfl, ?_⟩
  refine ks_wpAny_call_super hD1 hD2 hx rfl (fun c e => ?_) (looks_mroIn X T.sC) (fun h' e0 k => ?_)
  · cases e
  · have X' : K.In h' := X.keeps k
    have I' : InstAt h' x (excO C t0) C none := ⟨k _ _ hx, rfl, rfl, trivial⟩
    have hm := T.su
    unfold ks_superIn at hm
    rw [hcd] at hm
    have hI : Looks (model prog w) h' (isInstance (.ref x) (.type "ValueError")) true := I'.type.andThen (looks_subIn X' T.sV)
    refine kxs_getMethod kxs_ValueError e0 (looks_opaque X' T.op) (l₀ := cd.mro) ?_ rfl X' hm hI (ks_ne X' I' hcd) (by decide) ?_
    · exact fun A Q E s k q => wpAny_bind ((looks_clsIn X' hcd) A _ E s k (wpAny_pure q))
    · have k2 : ∀ b o, hh.get? b = some o → (h'.push (kxs_mw "ValueError.__init__" x)).get? b = some o := fun b o z => Heap.get?_push_of_some _ (k b o z)
      have hu : (h'.push (kxs_mw "ValueError.__init__" x)).get? h'.objs.size = some (kxs_mw "ValueError.__init__" x) := Heap.get?_push_at rfl rfl
      show wpAny _ _ (callWith p3 (.ref h'.objs.size) [] (backTo p3 (starEach (e :: es) _)) []) _ _ _
      rw [he]
      refine kxs_callWith (i := "ValueError.__init__") (x := x) (by show (false || (backTo p3 (starEach es _)).any (·.1)) = false; rw [hplain]; rfl) ?_
      have hn' : (h'.push (kxs_mw "ValueError.__init__" x)).Ns L m := hn.keeps k2
      refine evalArgs_plain ?_
      have z := hargs ⟨h'.push (kxs_mw "ValueError.__init__" x), g, d, t + 1, os⟩ (fun vs s₁ => KxsAt "ValueError.__init__" h'.objs.size x s₁.heap ∧ wpAny (model prog w) A (call (.ref h'.objs.size) ([] ++ vs)) (fun _ => Q .next) E s₁) hn' ⟨hu, ?_⟩
      · rw [he] at z
        exact z
      · refine call_mw T (X.keeps k2) (k2 _ _ hx) hu hus (fun h3 t1 k3 hx3 => ?_)
        exact hq h3 t1 _ (fun b o hb z => k3 b o hb (k2 b o z)) hx3

/-! ### __init__(self, f): super().__init__(f); self.f = f -/
def iA1 (f : Str) (p1 p2 : Pos) : Arguments := { posonlyargs := [], args := [{ arg := "self", annotation := none, pos := p1 }, { arg := f, annotation := none, pos := p2 }], vararg := none, kwonlyargs := [], kw_defaults := [], kwarg := none, defaults := [] }
def superE (es : List Expr) (p0 p1 p2 p3 p4 : Pos) : Stmt := .Expr (.Call (.Attribute (.Call (.Name "super" p0) [] [] p1) "__init__" p2) es [] p3) p4
def setE (f : Str) (p0 p1 p2 p3 : Pos) : Stmt := .Assign [.Attribute (.Name "self" p0) f p1] (.Name f p2) p3
def iS1 (f : Str) : Scope := { kind := .function, names := [(PySem.Str.ofString "self", .local), (f, .local), (PySem.Str.ofString "__class__", .free), (PySem.Str.ofString "super", .globalImplicit)], isGenerator := false, isCoroutine := false, more := [] }
def EvSuper (es : List Expr) (q0 q1 q2 q3 : Pos) (sc : Scope) : Prop := ∀ (qual : Str) (L a : Addr) (cd : Value) (cc : Addr), ∃ pl : Sem Bool, eval (.Call (.Attribute (.Call (.Name "super" q0) [] [] q1) "__init__" q2) es [] q3) (ksEnv qual sc L a cd cc) = (do
      let ov ← attributeBase (.Call (.Name "super" q0) [] [] q1) "__init__" (ksEnv qual sc L a cd cc) (eval (.Call (.Name "super" q0) [] [] q1) (ksEnv qual sc L a cd cc))
      standAt q2.atName
      let (f, first) ← holding [ov] (getMethod ov "__init__" pl)
      callWith q3 f first (backTo q3 (starEach es (ksEnv qual sc L a cd cc))) [])
def Init1 (st : Stmt) (f : Str) : Prop := ∃ (p1 p2 q q0 q1 q2 q3 q4 r0 r1 r2 r3 : Pos), defArgs st = iA1 f p1 p2 ∧ defBody st = [superE [.Name f q] q0 q1 q2 q3 q4, setE f r0 r1 r2 r3] ∧ defScope st = iS1 f ∧ EvSuper [.Name f q] q0 q1 q2 q3 (defScope st) ∧
  ∀ (qual : Str) (doc pm : Value) (an : Option Addr) (cd ct : Value) (cc : Addr) (a v : Value), bindArgs (ksFn "__init__" qual (defArgs st) (defBody st) (defScope st) .none .none doc pm an cd ct cc) ⟨[a, v], []⟩ = pure [(("self" : Str), a), (f, v)]
/-- a good field's name -/
structure Fld (f : Str) : Prop where
  self : (f == ("self" : Str)) = false
  cl : (f == ("__class__" : Str)) = false
  su : (f == ("super" : Str)) = false
  db : (f == ("__debug__" : Str)) = false
theorem Fld.ne {f : Str} (F : Fld f) : ("self" : Str) ≠ f := fun e => by
  have := F.self
  rw [← e] at this
  simp at this
theorem ex_init1 {f : Str} {v : Value} (T : ExTxt prog K C fI st fs) (hf : f ∈ fs) (Sh : Init1 st f) (Ff : Fld f) (X : K.In s.heap) (G : Glb mg s.heap) (hlim : s.heap.NoLimit) (hx : s.heap.get? x = some (excO C t0)) (hnx : K.lookup x = none) (hroom : A.depth < recursionLimit)
    (hq : ∀ h' tk dx t1, (∀ b o, b ≠ x → s.heap.get? b = some o → h'.get? b = some o) → h'.get? x = some { cls := .ref C, dict := some dx, data := .fields #[.ref t1, .none, .none, .none, .bool false, .none] } → s.heap.objs.size ≤ dx → dx ≠ x →
      h'.Ns1 dx (fun y => if y = f then some v else none) → R (.ok (.ret .none)) { s with heap := h', toks := tk }) :
    codeAny (model prog w) A (.call (.ref fI) ⟨[.ref x, v], []⟩) R s := by
  obtain ⟨qual, oc, od, doc, pm, an, cda, cc, ct, osl, ccl, cdd, vs, ccs, file, tf, cl, cld, csl, hfI, hcode, hcda, hvs, hfile, hcc⟩ := T.fn
  obtain ⟨p1, p2, q, q0, q1, q2, q3, q4, r0, r1, r2, r3, eA, eB, eS, ev, eb⟩ := Sh
  obtain ⟨cd, hcd, hmro, hhd⟩ := clsOf T
  have l1 : (iS1 f).names.lookup f = some .local := by
    show List.lookup f [(PySem.Str.ofString "self", NameKind.local), (f, .local), (PySem.Str.ofString "__class__", .free), (PySem.Str.ofString "super", .globalImplicit)] = _
    simp [List.lookup]
    split <;> rfl
  have l2 : (iS1 f).names.lookup ("super" : Str) = some .globalImplicit := by
    have a : ((PySem.Str.ofString "super") == f) = false := by rw [BEq.comm]; exact Ff.su
    show List.lookup (PySem.Str.ofString "super") [(PySem.Str.ofString "self", NameKind.local), (f, .local), (PySem.Str.ofString "__class__", .free), (PySem.Str.ofString "super", .globalImplicit)] = _
    rw [List.lookup, show ((PySem.Str.ofString "super") == (PySem.Str.ofString "self")) = false by decide]
    simp only
    rw [List.lookup, a]
    rfl
  have l3 : (iS1 f).names.lookup ("__class__" : Str) = some .free := by
    have a : ((PySem.Str.ofString "__class__") == f) = false := by rw [BEq.comm]; exact Ff.cl
    show List.lookup (PySem.Str.ofString "__class__") [(PySem.Str.ofString "self", NameKind.local), (f, .local), (PySem.Str.ofString "__class__", .free), (PySem.Str.ofString "super", .globalImplicit)] = _
    rw [List.lookup, show ((PySem.Str.ofString "__class__") == (PySem.Str.ofString "self")) = false by decide]
    simp only
    rw [List.lookup, a]
    rfl
  have l4 : (iS1 f).names.lookup ("self" : Str) = some .local := rfl
  refine ks_codeAny_call_defAt (fd := ksFn "__init__" qual (defArgs st) (defBody st) (defScope st) .none .none doc pm an (.ref cda) ct cc) (body := defBody st) (binds := [("self", .ref x), (f, v)]) hroom (X _ _ hfI) rfl hlim (codeRec_of X hcode) rfl ?bd ?cl ?lc (fun h₁ hns hk₁ => ?_) ?c1 ?c2 ?c3
  case bd => exact BindsTo.of_eq (eb _ _ _ _ _ _ _ _ _)
  case cl => show ∀ x ∈ (defScope st).names, x.2 ≠ .cell; rw [eS]; simp [iS1]
  case lc =>
    show ∀ y ∈ [(("self" : Str), Value.ref x), (f, v)], (defScope st).names.lookup y.1 = some .local
    rw [eS]
    intro y hy
    rcases List.mem_cons.mp hy with rfl | hy
    · exact l4
    · rcases List.mem_cons.mp hy with rfl | hy
      · exact l1
      · cases hy
  case c1 => show (defScope st).isCoroutine = false; rw [eS]; rfl
  case c2 => show (defScope st).isGenerator = false; rw [eS]; rfl
  case c3 => show (defScope st).kind = .function; rw [eS]; rfl
  have X₁ : K.In h₁ := X.keeps hk₁
  have G₁ : Glb mg h₁ := G.keeps hk₁
  have hx₁ := hk₁ _ _ hx
  have hLx : s.heap.objs.size ≠ x := Nat.ne_of_gt (Heap.lt_size hx)
  have m1 : (fun y => [(("self" : Str), Value.ref x), (f, v)].reverse.lookup y) "self" = some (.ref x) := by
    have a : (("self" : Str) == f) = false := by rw [BEq.comm]; exact Ff.self
    show List.lookup ("self" : Str) [(f, v), (("self" : Str), Value.ref x)] = _
    rw [List.lookup, a]
    rfl
  have m2 : (fun y => [(("self" : Str), Value.ref x), (f, v)].reverse.lookup y) f = some v := by
    show List.lookup f [(f, v), (("self" : Str), Value.ref x)] = _
    simp [List.lookup]
  rw [eB]
  refine ks_wpAt_execs_cons ?_
  obtain ⟨pl, hev⟩ := ev qual s.heap.objs.size fI (.ref cda) cc
  refine super_stmt (us := [v]) (ar := { arg := "self", annotation := none, pos := p1 }) (pl := pl) T X₁ G₁ hfI hcda hvs hfile hcc (by rw [eA]; rfl) hns m1 hx₁ hLx (by rw [eS]; exact l2) (by rw [eS]; exact l3) (by rw [eS]; exact l4) (by rw [eS]; rfl) (by rw [eS]; rfl) (by rw [eS]; rfl) hev rfl rfl (by rw [sizeLine_eq]; exact (by decide : 1 ≤ 16777216)) ?ar (fun h₂ t1 tk k₂ hx₂ => ?_)
  case ar =>
    intro s₁ Q' hn' hQ
    refine spliced_more (ldE (y := f) (v := v) hn' m2 (by rw [eS]; exact l1) ?_ (by rw [eS]; rfl) Ff.db)
    exact spliced_none hQ
  have hL₁ : h₁.objs.size > s.heap.objs.size := hns.lt
  show _root_.PySem.wpAt _ _ _ (execs [setE f r0 r1 r2 r3] _) _ _ _
  have hns₂ : h₂.Ns s.heap.objs.size (fun y => [(("self" : Str), Value.ref x), (f, v)].reverse.lookup y) := by
    obtain ⟨oL, es, ep, ho, r⟩ := hns
    exact ⟨oL, es, ep, k₂ _ _ hLx ho, r⟩
  have X₂ : K.In h₂ := fun a o e => k₂ a o (fun z => by rw [z, hnx] at e; cases e) (X₁ a o e)
  refine ks_wpAt_execs_cons (ks_wpAt_Assign_Attr ?_ ?_)
  · refine wpAt_of_wpAny (ldE (y := f) (v := v) hns₂ m2 (by rw [eS]; exact l1) ?_ (by rw [eS]; rfl) Ff.db)
    refine ldE (y := "self") (v := .ref x) hns₂ m1 (by rw [eS]; exact l4) ?_ (by rw [eS]; rfl) (by decide)
    refine set_plain X₂ (ox := excO C t1) (od := none) ⟨hx₂, rfl, rfl, trivial⟩ T.sa ?_
    refine exc_osa X₂ hx₂ hcd hmro hhd (T.no f hf) (fun h₃ tk₃ dx k₃ dn dne hx₃ hn₃ => ?_)
    show _root_.PySem.wpAt _ _ _ (execs [] _) _ _ _
    have sz : s.heap.objs.size ≤ h₂.objs.size := Nat.le_of_lt hns₂.lt
    refine wpAt_of_wpAny (wpAny_execs_nil (hq h₃ tk₃ dx t1 (fun b o hb e => k₃ b o hb (k₂ b o hb (hk₁ b o e))) hx₃ (Nat.le_trans sz dn) dne hn₃))
  · rw [eS]
    rfl

/-! ### Refused: __init__(self, reason, one, other) -/
def iA3 (p0 p1 p2 p3 : Pos) : Arguments := { posonlyargs := [], args := [{ arg := "self", annotation := none, pos := p0 }, { arg := "reason", annotation := none, pos := p1 }, { arg := "one", annotation := none, pos := p2 }, { arg := "other", annotation := none, pos := p3 }], vararg := none, kwonlyargs := [], kw_defaults := [], kwarg := none, defaults := [] }
def iS3 : Scope := { kind := .function, names := [(PySem.Str.ofString "self", .local), (PySem.Str.ofString "reason", .local), (PySem.Str.ofString "one", .local), (PySem.Str.ofString "other", .local), (PySem.Str.ofString "__class__", .free), (PySem.Str.ofString "super", .globalImplicit)], isGenerator := false, isCoroutine := false, more := [] }
def Init3 (st : Stmt) : Prop := ∃ (p0 p1 p2 p3 qa qb qc q0 q1 q2 q3 q4 a0 a1 a2 a3 b0 b1 b2 b3 c0 c1 c2 c3 : Pos), defArgs st = iA3 p0 p1 p2 p3 ∧ defBody st = [superE [.Name "reason" qa, .Name "one" qb, .Name "other" qc] q0 q1 q2 q3 q4, setE "reason" a0 a1 a2 a3, setE "one" b0 b1 b2 b3, setE "other" c0 c1 c2 c3] ∧ defScope st = iS3 ∧ EvSuper [.Name "reason" qa, .Name "one" qb, .Name "other" qc] q0 q1 q2 q3 (defScope st)
def m3 (v1 v2 v3 : Value) : Str → Option Value := fun y => if y = "other" then some v3 else if y = "one" then some v2 else if y = "reason" then some v1 else none
theorem m3_w (v1 v2 v3 : Value) : Within (m3 v1 v2 v3) ["reason", "one", "other"] := fun y hy => by
  unfold m3 at hy
  by_cases h1 : y = "other"
  · simp [h1]
  · by_cases h2 : y = "one"
    · simp [h2]
    · by_cases h3 : y = "reason"
      · simp [h3]
      · simp [h1, h2, h3] at hy
theorem ex_init3 {v1 v2 v3 : Value} (T : ExTxt prog K C fI st ["reason", "one", "other"]) (Sh : Init3 st) (X : K.In s.heap) (G : Glb mg s.heap) (hlim : s.heap.NoLimit) (hx : s.heap.get? x = some (excO C t0)) (hnx : K.lookup x = none) (hroom : A.depth < recursionLimit)
    (hq : ∀ h' tk dx t1, (∀ b o, b ≠ x → s.heap.get? b = some o → h'.get? b = some o) → h'.get? x = some { cls := .ref C, dict := some dx, data := .fields #[.ref t1, .none, .none, .none, .bool false, .none] } → s.heap.objs.size ≤ dx → dx ≠ x →
      h'.Ns1 dx (m3 v1 v2 v3) → R (.ok (.ret .none)) { s with heap := h', toks := tk }) :
    codeAny (model prog w) A (.call (.ref fI) ⟨[.ref x, v1, v2, v3], []⟩) R s := by
  obtain ⟨qual, oc, od, doc, pm, an, cda, cc, ct, osl, ccl, cdd, vs, ccs, file, tf, cl, cld, csl, hfI, hcode, hcda, hvs, hfile, hcc⟩ := T.fn
  obtain ⟨p0, p1, p2, p3, qa, qb, qc, q0, q1, q2, q3, q4, a0, a1, a2, a3, b0, b1, b2, b3, c0, c1, c2, c3, eA, eB, eS, ev⟩ := Sh
  obtain ⟨cd, hcd, hmro, hhd⟩ := clsOf T
  let bn : List (Str × Value) := [("self", .ref x), ("reason", v1), ("one", v2), ("other", v3)]
  refine ks_codeAny_call_defAt (fd := ksFn "__init__" qual (defArgs st) (defBody st) (defScope st) .none .none doc pm an (.ref cda) ct cc) (body := defBody st) (binds := bn) hroom (X _ _ hfI) rfl hlim (codeRec_of X hcode) rfl ?bd ?cl ?lc (fun h₁ hns hk₁ => ?_) ?c1 ?c2 ?c3
  case bd => rw [eA, eB, eS]; exact BindsTo.of_eq rfl
  case cl => show ∀ x ∈ (defScope st).names, x.2 ≠ .cell; rw [eS]; simp [iS3]
  case lc =>
    show ∀ y ∈ bn, (defScope st).names.lookup y.1 = some .local
    rw [eS]
    intro y hy
    simp only [bn, List.mem_cons, List.not_mem_nil, or_false] at hy
    rcases hy with rfl | rfl | rfl | rfl <;> rfl
  case c1 => show (defScope st).isCoroutine = false; rw [eS]; rfl
  case c2 => show (defScope st).isGenerator = false; rw [eS]; rfl
  case c3 => show (defScope st).kind = .function; rw [eS]; rfl
  have X₁ : K.In h₁ := X.keeps hk₁
  have G₁ : Glb mg h₁ := G.keeps hk₁
  have hx₁ := hk₁ _ _ hx
  have hLx : s.heap.objs.size ≠ x := Nat.ne_of_gt (Heap.lt_size hx)
  rw [eB]
  refine ks_wpAt_execs_cons ?_
  obtain ⟨pl, hev⟩ := ev qual s.heap.objs.size fI (.ref cda) cc
  refine super_stmt (us := [v1, v2, v3]) (ar := { arg := "self", annotation := none, pos := p0 }) (pl := pl) T X₁ G₁ hfI hcda hvs hfile hcc (by rw [eA]; rfl) hns rfl hx₁ hLx (by rw [eS]; rfl) (by rw [eS]; rfl) (by rw [eS]; rfl) (by rw [eS]; rfl) (by rw [eS]; rfl) (by rw [eS]; rfl) hev rfl rfl (by rw [sizeLine_eq]; exact (by decide : 3 ≤ 16777216)) ?ar (fun h₂ t1 tk k₂ hx₂ => ?_)
  case ar =>
    intro s₁ Q' hn' hQ
    refine spliced_more (ldE (y := "reason") (v := v1) hn' rfl (by rw [eS]; rfl) ?_ (by rw [eS]; rfl) (by decide))
    refine spliced_more (ldE (y := "one") (v := v2) hn' rfl (by rw [eS]; rfl) ?_ (by rw [eS]; rfl) (by decide))
    refine spliced_more (ldE (y := "other") (v := v3) hn' rfl (by rw [eS]; rfl) ?_ (by rw [eS]; rfl) (by decide))
    exact spliced_none hQ
  show _root_.PySem.wpAt _ _ _ (execs [setE "reason" a0 a1 a2 a3, setE "one" b0 b1 b2 b3, setE "other" c0 c1 c2 c3] _) _ _ _
  have hns₂ : h₂.Ns s.heap.objs.size (fun y => bn.reverse.lookup y) := by
    obtain ⟨oL, es, ep, ho, r⟩ := hns
    exact ⟨oL, es, ep, k₂ _ _ hLx ho, r⟩
  have X₂ : K.In h₂ := fun a o e => k₂ a o (fun z => by rw [z, hnx] at e; cases e) (X₁ a o e)
  have sz : s.heap.objs.size ≤ h₂.objs.size := Nat.le_of_lt hns₂.lt
  refine ks_wpAt_execs_cons (ks_wpAt_Assign_Attr ?_ (by rw [eS]; rfl))
  refine wpAt_of_wpAny (ldE (y := "reason") (v := v1) hns₂ rfl (by rw [eS]; rfl) ?_ (by rw [eS]; rfl) (by decide))
  refine ldE (y := "self") (v := .ref x) hns₂ rfl (by rw [eS]; rfl) ?_ (by rw [eS]; rfl) (by decide)
  refine set_plain X₂ (ox := excO C t1) (od := none) ⟨hx₂, rfl, rfl, trivial⟩ T.sa ?_
  refine exc_osa X₂ hx₂ hcd hmro hhd (T.no _ (by simp)) (fun h₃ tk₃ dx k₃ dn dne hx₃ hn₃ => ?_)
  have k2' : ∀ b o, h₂.get? b = some o → ∃ o', h₃.get? b = some o' := fun b o e => by
    by_cases hb : b = x
    · exact ⟨_, by rw [hb]; exact hx₃⟩
    · exact ⟨o, k₃ b o hb e⟩
  have hns₃ : h₃.Ns s.heap.objs.size (fun y => bn.reverse.lookup y) := by
    obtain ⟨oL, es, ep, ho, r⟩ := hns₂
    exact ⟨oL, es, ep, k₃ _ _ hLx ho, r⟩
  have X₃ : K.In h₃ := fun a o e => k₃ a o (fun z => by rw [z, hnx] at e; cases e) (X₂ a o e)
  have hdn : K.lookup dx = none := by
    cases e : K.lookup dx with
    | none => rfl
    | some o => exact absurd (Nat.lt_of_lt_of_le (Heap.lt_size (X₂ _ _ e)) dn) (Nat.lt_irrefl _)
  have hLd : s.heap.objs.size ≠ dx := Nat.ne_of_lt (Nat.lt_of_lt_of_le hns₂.lt dn)
  have w1 : Within (fun y => if y = "reason" then some v1 else none : Str → Option Value) ["reason"] := fun y hy => by
    by_cases e : y = "reason"
    · simp [e]
    · simp [e] at hy
  obtain ⟨oD, _, _, hoD, _, _⟩ := hn₃.count w1
  show _root_.PySem.wpAt _ _ _ (execs [setE "one" b0 b1 b2 b3, setE "other" c0 c1 c2 c3] _) _ _ _
  refine ks_wpAt_execs_cons (ks_wpAt_Assign_Attr ?_ (by rw [eS]; rfl))
  refine wpAt_of_wpAny (ldE (y := "one") (v := v2) hns₃ rfl (by rw [eS]; rfl) ?_ (by rw [eS]; rfl) (by decide))
  refine ldE (y := "self") (v := .ref x) hns₃ rfl (by rw [eS]; rfl) ?_ (by rw [eS]; rfl) (by decide)
  refine set_plain X₃ (ox := { cls := .ref C, dict := some dx, data := .fields #[.ref t1, .none, .none, .none, .bool false, .none] }) (od := some oD) ⟨hx₃, rfl, rfl, hoD⟩ T.sa ?_
  refine OEX.osa_old X₃ hx₃ hn₃ w1 (by decide) hcd hmro hhd (T.no _ (by simp)) (fun h₄ tk₄ k₄ hn₄ => ?_)
  have hns₄ : h₄.Ns s.heap.objs.size (fun y => bn.reverse.lookup y) := by
    obtain ⟨oL, es, ep, ho, r⟩ := hns₃
    exact ⟨oL, es, ep, k₄ _ _ hLd ho, r⟩
  have X₄ : K.In h₄ := fun a o e => k₄ a o (fun z => by rw [z, hdn] at e; cases e) (X₃ a o e)
  have hx₄ := k₄ _ _ (Ne.symm dne) hx₃
  have w2 : Within (fun y => if y = "one" then some v2 else if y = "reason" then some v1 else none : Str → Option Value) ["one", "reason"] := fun y hy => by
    by_cases e : y = "one"
    · simp [e]
    · by_cases e' : y = "reason"
      · simp [e']
      · simp [e, e'] at hy
  obtain ⟨oD', _, _, hoD', _, _⟩ := hn₄.count w2
  show _root_.PySem.wpAt _ _ _ (execs [setE "other" c0 c1 c2 c3] _) _ _ _
  refine ks_wpAt_execs_cons (ks_wpAt_Assign_Attr ?_ (by rw [eS]; rfl))
  refine wpAt_of_wpAny (ldE (y := "other") (v := v3) hns₄ rfl (by rw [eS]; rfl) ?_ (by rw [eS]; rfl) (by decide))
  refine ldE (y := "self") (v := .ref x) hns₄ rfl (by rw [eS]; rfl) ?_ (by rw [eS]; rfl) (by decide)
  refine set_plain X₄ (ox := { cls := .ref C, dict := some dx, data := .fields #[.ref t1, .none, .none, .none, .bool false, .none] }) (od := some oD') ⟨hx₄, rfl, rfl, hoD'⟩ T.sa ?_
  refine OEX.osa_old X₄ hx₄ hn₄ w2 (by decide) hcd hmro hhd (T.no _ (by simp)) (fun h₅ tk₅ k₅ hn₅ => ?_)
  show _root_.PySem.wpAt _ _ _ (execs [] _) _ _ _
  have old : ∀ b o, h₂.get? b = some o → b ≠ dx := fun b o e => Nat.ne_of_lt (Nat.lt_of_lt_of_le (Heap.lt_size e) dn)
  refine wpAt_of_wpAny (wpAny_execs_nil (hq h₅ tk₅ dx t1 (fun b o hb e => ?_) (k₅ _ _ (Ne.symm dne) hx₄) (Nat.le_trans sz dn) dne hn₅))
  have e2 := k₂ b o hb (hk₁ b o e)
  exact k₅ b o (old b o e2) (k₄ b o (old b o e2) (k₃ b o hb e2))
end
end KX
end PySem

set_option Elab.async false
set_option linter.all false
set_option maxRecDepth 100000
set_option maxHeartbeats 4000000
namespace PySem
namespace KX
open PySem.W PySem.Calls PyProof.Rows PySem.HandSPX
open L2 (defArgs defBody defScope)
def InitOk (prog : Program) (w : World) (K : Frag) (mg : Str → Option Value) (C fI : Addr) (us : List Value) (mA : Str → Option Value) : Prop :=
  ∀ (A : Around) (s : Shared) (x t0 : Addr) (R : Result → Shared → Prop), K.In s.heap → Glb mg s.heap → s.heap.NoLimit → s.heap.get? x = some (excO C t0) → K.lookup x = none → A.depth < recursionLimit →
    (∀ h' tk dx t1, (∀ b o, b ≠ x → s.heap.get? b = some o → h'.get? b = some o) → h'.get? x = some { cls := .ref C, dict := some dx, data := .fields #[.ref t1, .none, .none, .none, .bool false, .none] } → s.heap.objs.size ≤ dx → dx ≠ x →
      h'.Ns1 dx mA → R (.ok (.ret .none)) { s with heap := h', toks := tk }) →
    codeAny (model prog w) A (.call (.ref fI) ⟨.ref x :: us, []⟩) R s
theorem initOk1 {prog : Program} {w : World} {K : Frag} {mg : Str → Option Value} {C fI : Addr} {st : Stmt} {fs : List Str} {f : Str} {v : Value} (T : ExTxt prog K C fI st fs) (hf : f ∈ fs) (Sh : Init1 st f) (Ff : Fld f) : InitOk prog w K mg C fI [v] (fun y => if y = f then some v else none) :=
  fun _ _ _ _ _ X G hl hx hn hr hq => ex_init1 T hf Sh Ff X G hl hx hn hr hq
theorem initOk3 {prog : Program} {w : World} {K : Frag} {mg : Str → Option Value} {C fI : Addr} {st : Stmt} {v1 v2 v3 : Value} (T : ExTxt prog K C fI st ["reason", "one", "other"]) (Sh : Init3 st) : InitOk prog w K mg C fI [v1, v2, v3] (m3 v1 v2 v3) :=
  fun _ _ _ _ _ X G hl hx hn hr hq => ex_init3 T Sh X G hl hx hn hr hq
/-- a made error -/
structure Made (h h' : Heap) (e C d : Addr) (mA : Str → Option Value) : Prop where
  keep : ∀ b o, h.get? b = some o → h'.get? b = some o
  new : h.objs.size ≤ e
  obj : ∃ t1 : Addr, h'.get? e = some { cls := .ref C, dict := some d, data := .fields #[.ref t1, .none, .none, .none, .bool false, .none] }
  dbig : h.objs.size ≤ d
  dne : d ≠ e
  ns : h'.Ns1 d mA
section
variable {prog : Program} {w : World} {A : Around} {E : Value → Shared → Prop} {R : Result → Shared → Prop} {s : Shared} {K : Frag} {mg : Str → Option Value} {C fI : Addr} {st : Stmt} {fs : List Str}
theorem ex_made {us : List Value} {mA : Str → Option Value} (T : ExTxt prog K C fI st fs) (J : InitOk prog w K mg C fI us mA) (X : K.In s.heap) (G : Glb mg s.heap) (hlim : s.heap.NoLimit) (hroom : A.depth + 1 < recursionLimit) (hus : us.length ≤ sizeLine)
    (hq : ∀ h' tk e d, Made s.heap h' e C d mA → R (.ok (.ret (.ref e))) { s with heap := h', toks := tk }) :
    codeAny (model prog w) A (.call (.ref C) ⟨us, []⟩) R s := by
  obtain ⟨nm, q, N, bs, bm, sn, sub, ab, col, dd, k0, k1, k2, k3, k5, hC, hbm⟩ := T.cls
  obtain ⟨hp, g, dr, tk, os⟩ := s
  have k : ∀ b o, hp.get? b = some o → ((hp.push (kdv_tup us)).push (excO C hp.objs.size)).get? b = some o := fun b o e => Heap.get?_push_of_some _ (Heap.get?_push_of_some _ e)
  have hget : ((hp.push (kdv_tup us)).push (excO C hp.objs.size)).get? (hp.objs.size + 1) = some (excO C hp.objs.size) := by heap_get
  have hnx : K.lookup (hp.objs.size + 1) = none := by
    cases e : K.lookup (hp.objs.size + 1) with
    | none => rfl
    | some o =>
      have z : hp.get? (hp.objs.size + 1) = some o := X _ _ e
      exact absurd (Nat.lt_of_succ_lt (Heap.lt_size z)) (Nat.lt_irrefl _)
  refine call_own F.excBase_ValueError (fun X => refsVE_contains X bm hbm) (X _ _ hC) (looks_findIn X T.iC) (fun self => bind_fn X self T.tC) hus ?_
  refine J _ ⟨(hp.push (kdv_tup us)).push (excO C hp.objs.size), g, dr, tk, os⟩ _ _ _ (X.keeps k) (G.keeps k) (hlim.keeps k) hget hnx ?_ fun h' tk' dx t1 k' hx dn dne hns => ?_
  · show A.depth + 1 < recursionLimit
    exact hroom
  · have old : ∀ b o, hp.get? b = some o → h'.get? b = some o := fun b o e => k' b o (Nat.ne_of_lt (Nat.lt_succ_of_lt (Heap.lt_size e))) (k b o e)
    have z : hp.objs.size + 1 + 1 ≤ dx := by
      first
        | (simpa only [Heap.size_push] using dn)
        | exact dn
        | (have q := dn; rw [Heap.size_push, Heap.size_push] at q; exact q)
    exact ⟨rfl, hq h' tk' (hp.objs.size + 1) dx ⟨old, Nat.le_succ _, ⟨_, hx⟩, Nat.le_trans (Nat.le_trans (Nat.le_succ _) (Nat.le_succ _)) z, dne, hns⟩⟩
end
end KX
end PySem
namespace L2
open PySem PySem.Spec PyProof.Rows PySem.KX
/-- the abstract fields and the map of an error's dict -/
structure FlsOk (vs : List V) (us : List Value) (fl : List (Str × V)) (mA : Str → Option Value) : Prop where
  rel : ∀ f, RelO (fl.lookup f) (mA f)
theorem glb_of {X : Cx} {pins : List (Addr × Obj)} {σ : St} {H : Hp} {s : Shared} (I : Inv X pins σ H s) (hs : X.mg "super" = none) : Glb X.mg s.heap := by
  obtain ⟨mb, h1, h2⟩ := I.mod.blt
  exact ⟨I.mod.glob.keeps I.bk, ⟨mb, h1.keeps I.bk, (h2 "super" (by decide)).trans (by decide +kernel)⟩, hs⟩
/-- what a class of errors makes of its arguments: fields -/
def ExMk (P : Program) (w : World) (K : PySem.W.Frag) (mg : Str → Option Value) (C fI : Addr) (mk : List V → Option (List (Str × V))) : Prop :=
  ∀ (vs : List V) (us : List Value) (fl : List (Str × V)), mk vs = some fl → Vals vs us → ∃ mA, InitOk P w K mg C fI us mA ∧ ∀ f, RelO (fl.lookup f) (mA f)
def mk1 (f : Str) : List V → Option (List (Str × V))
  | [v] => some [(f, v)]
  | _ => none
def mk3 : List V → Option (List (Str × V))
  | [a, b, c] => some [("reason", a), ("one", b), ("other", c)]
  | _ => none
theorem exMk1 {P : Program} {w : World} {K : PySem.W.Frag} {mg : Str → Option Value} {C fI : Addr} {st : Stmt} {fs : List Str} {f : Str} (T : ExTxt P K C fI st fs) (hf : f ∈ fs) (Sh : Init1 st f) (Ff : Fld f) : ExMk P w K mg C fI (mk1 f) := by
  intro vs us fl e r
  cases r with
  | nil => cases e
  | cons rv rn =>
    cases rn with
    | cons _ _ => cases e
    | nil =>
      rename_i v u
      cases e
      refine ⟨_, initOk1 (v := u) T hf Sh Ff, fun g => ?_⟩
      rw [lookup_put]
      by_cases hg : g = f
      · rw [if_pos hg, if_pos hg]; exact rv
      · rw [if_neg hg, if_neg hg]; trivial
theorem exMk3 {P : Program} {w : World} {K : PySem.W.Frag} {mg : Str → Option Value} {C fI : Addr} {st : Stmt} (T : ExTxt P K C fI st ["reason", "one", "other"]) (Sh : Init3 st) : ExMk P w K mg C fI mk3 := by
  intro vs us fl e r
  rcases r with _ | ⟨r1, _ | ⟨r2, _ | ⟨r3, _ | ⟨_, _⟩⟩⟩⟩ <;> first | (cases e; done) | skip
  cases e
  refine ⟨_, initOk3 T Sh, fun g => ?_⟩
  have n1 : ("reason" : Str) ≠ "one" := by decide +kernel
  have n2 : ("reason" : Str) ≠ "other" := by decide +kernel
  have n3 : ("one" : Str) ≠ "other" := by decide +kernel
  rw [lookup_put, lookup_put, lookup_put]
  unfold m3
  by_cases h1 : g = "reason"
  · subst h1
    rw [if_pos rfl, if_neg n2, if_neg n1, if_pos rfl]; exact r1
  · rw [if_neg h1]
    by_cases h2 : g = "one"
    · subst h2
      rw [if_pos rfl, if_neg n3, if_pos rfl]; exact r2
    · rw [if_neg h2]
      by_cases h3 : g = "other"
      · rw [if_pos h3, if_pos h3]; exact r3
      · rw [if_neg h3, if_neg h3, if_neg h2, if_neg h1]; trivial
end L2

set_option Elab.async false
set_option linter.all false
set_option maxRecDepth 100000
set_option maxHeartbeats 4000000
namespace L2
open PySem PySem.Spec PyProof.Rows PySem.KX
section
variable {X : Cx} {C fI : Addr} {st : Stmt} {fs : List Str} {mk : List V → Option (List (Str × V))}
/-- X(e, ..), an own error, as a value -/
def tExV (C : Addr) (mk : List V → Option (List (Str × V))) (ta : TA) : TE := fun σ H Q => ta σ H fun vs H1 => ∃ fl, mk vs = some fl ∧ vs.length ≤ 1000 ∧ ∀ a d, H1 a = none → H1 d = none → a ≠ d → Q (.ref a) (upd (upd H1 d (exd d fl)) a (exo a C (some d)))
theorem size1000 {n : Nat} (h : n ≤ 1000) : n ≤ sizeLine := by rw [sizeLine_eq]; omega
theorem pe_exv {x : Str} {a : Expr} {es : List Expr} {ta : TA} {p pos : Pos} {k : Nat} (T : ExTxt X.prog X.K C fI st fs) (M : ExMk X.prog X.w X.K X.mg C fI mk) (gC : X.mg x = some (.ref C)) (hs : X.mg "super" = none) (hr : Room k X.A) (ha : PA X (a :: es) ta) (hg : Gl X x)
    (he : starEach (a :: es) X.env = (false, eval a X.env) :: starEach es X.env := by rfl) (hpl : (backTo pos (starEach es X.env)).any (·.1) = false := by rfl) (hdb : (x == ("__debug__" : Str)) = false := by decide) :
    PE X (.Call (.Name x p) (a :: es) [] pos) (tExV C mk ta) := by
  refine ⟨fun pins s σ H Q I h => ?_⟩
  refine wpAny_Call_Name_kw (ld_glob I hg gC ?_ hdb)
  refine PySem.W.callWith_K (h₀ := X.base) I.ok.mod.kin T.kC (thn (ha.run pos pins s σ H _ I h) fun us s1 hh => ?_) he hpl
  obtain ⟨vs, H1, I1, r1, fl, hmk, hlen, q1⟩ := hh
  refine ⟨I1.kIn, ?_⟩
  obtain ⟨mA, J, rel⟩ := M vs us fl hmk r1
  have hlim := I1.nolimit
  have hG := glb_of I1 hs
  have hus : us.length ≤ sizeLine := size1000 (by rw [← r1.length]; exact hlen)
  obtain ⟨hp, g, dr, tk, os⟩ := s1
  show wpAny _ _ (call (.ref C) ([] ++ us)) _ _ _
  refine wpAny_call (ex_made T J I1.kIn hG hlim (by have := hr.dp; omega) hus fun h' tk' e d Md => ?_)
  obtain ⟨t1, hoe⟩ := Md.obj
  obtain ⟨G', g1, g2⟩ := restrict h' fun b => decide (b ≠ e)
  have gk : ∀ b, b ≠ e → G'.get? b = h'.get? b := fun b hb => g1 b (decide_eq_true hb)
  have ge : G'.get? e = none := g2 e (by simp)
  have old : ∀ b o, hp.get? b = some o → G'.get? b = some o := fun b o q => (gk b (Nat.ne_of_lt (Nat.lt_of_lt_of_le (Heap.lt_size q) Md.new))).trans (Md.keep b o q)
  have nd : H1 d = none := I1.hok.fresh Md.dbig
  have ne : H1 e = none := I1.hok.fresh Md.new
  have J1 : Inv X pins σ (upd H1 d (exd d fl)) ⟨G', g, dr, tk', os⟩ := I1.laid (t' := tk') old Md.dbig (exd_ok (Md.ns.at (fun o q => (gk d Md.dne).trans q)) rel)
  have J2 : Inv X pins σ (upd (upd H1 d (exd d fl)) e (exo e C (some d))) ⟨h', g, dr, tk', os⟩ := J1.laidN (t' := tk') (h' := h') (fun b u q => by
      by_cases hb : b = e
      · have q' : G'.get? b = some u := q
        rw [hb, ge] at q'; cases q'
      · exact (gk b hb).symm.trans q) ge (by rw [upd_ne (Ne.symm Md.dne)]; exact ne) (exo_ok hoe)
  exact ⟨.ref e, _, J2, rfl, q1 e d ne nd (Ne.symm Md.dne)⟩
/-- X(e, ..) to be raised -/
def tExM (C : Addr) (mk : List V → Option (List (Str × V))) (ta : TA) : St → Hp → XK → Prop := fun σ H Q => ta σ H fun vs H1 => ∃ fl, mk vs = some fl ∧ vs.length ≤ 1000 ∧ ∀ d, H1 d = none → Q (.ref C) (some d) (upd H1 d (.xd fl))
theorem pmk_ex {x : Str} {a : Expr} {es : List Expr} {ta : TA} {p pos : Pos} {k : Nat} (T : ExTxt X.prog X.K C fI st fs) (M : ExMk X.prog X.w X.K X.mg C fI mk) (gC : X.mg x = some (.ref C)) (hs : X.mg "super" = none) (hr : Room k X.A) (ha : PA X (a :: es) ta) (hg : Gl X x)
    (he : starEach (a :: es) X.env = (false, eval a X.env) :: starEach es X.env := by rfl) (hpl : (backTo pos (starEach es X.env)).any (·.1) = false := by rfl) (hdb : (x == ("__debug__" : Str)) = false := by decide) :
    PMk X (.Call (.Name x p) (a :: es) [] pos) (tExM C mk ta) := by
  intro pins s σ H Q I h
  refine wpAny_Call_Name_kw (ld_glob I hg gC ?_ hdb)
  refine PySem.W.callWith_K (h₀ := X.base) I.ok.mod.kin T.kC (thn (ha.run pos pins s σ H _ I h) fun us s1 hh => ?_) he hpl
  obtain ⟨vs, H1, I1, r1, fl, hmk, hlen, q1⟩ := hh
  refine ⟨I1.kIn, ?_⟩
  obtain ⟨mA, J, rel⟩ := M vs us fl hmk r1
  have hlim := I1.nolimit
  have hG := glb_of I1 hs
  have hus : us.length ≤ sizeLine := size1000 (by rw [← r1.length]; exact hlen)
  obtain ⟨hp, g, dr, tk, os⟩ := s1
  show wpAny _ _ (call (.ref C) ([] ++ us)) _ _ _
  refine wpAny_call (ex_made T J I1.kIn hG hlim (by have := hr.dp; omega) hus fun h' tk' e d Md => ?_)
  show MkP X pins σ Q (.ref e) ⟨h', g, dr, tk', os⟩
  obtain ⟨t1, hoe⟩ := Md.obj
  obtain ⟨G', g1, g2⟩ := restrict h' fun b => decide (b ≠ e)
  have gk : ∀ b, b ≠ e → G'.get? b = h'.get? b := fun b hb => g1 b (decide_eq_true hb)
  have ge : G'.get? e = none := g2 e (by simp)
  have old : ∀ b o, hp.get? b = some o → G'.get? b = some o := fun b o q => (gk b (Nat.ne_of_lt (Nat.lt_of_lt_of_le (Heap.lt_size q) Md.new))).trans (Md.keep b o q)
  have ob : ObjOk X.prog X.w (upd H1 d (.xd fl)) G' d (.xd fl) := ⟨_, Md.ns.at (fun o q => (gk d Md.dne).trans q), rel⟩
  have J : Inv X pins σ (upd H1 d (.xd fl)) ⟨G', g, dr, tk', os⟩ := I1.laid (t' := tk') old Md.dbig ob
  refine ⟨e, _, _, ⟨G', g, dr, tk', os⟩, _, .ref C, some d, rfl, J, fun b o q => ?_, ge, hoe, ⟨rfl, rfl⟩, rfl, rfl, ?_, rfl, I1.bare, raises_own T.exC T.tyC, q1 d (I1.hok.fresh Md.dbig)⟩
  · by_cases hb : b = e
    · have q' : G'.get? b = some o := q
      rw [hb, ge] at q'; cases q'
    · exact (gk b hb).symm.trans q
  · rw [upd_ne (Ne.symm Md.dne)]
    exact I1.hok.fresh Md.new
/-- raise X(e, ..) -/
def tRaiseX (C : Addr) (mk : List V → Option (List (Str × V))) (W : WX) (ta : TA) : TS := fun _ σ H => tExM C mk ta σ H fun cls d H' => W cls d σ H'
theorem ps_raiseX {x : Str} {a : Expr} {es : List Expr} {ta : TA} {W : WX} {p pos pos2 : Pos} {k : Nat} (hc : X.calm = true) (T : ExTxt X.prog X.K C fI st fs) (M : ExMk X.prog X.w X.K X.mg C fI mk) (gC : X.mg x = some (.ref C)) (hs : X.mg "super" = none) (hr : Room k X.A) (tk : Takes X W) (ha : PA X (a :: es) ta) (hg : Gl X x)
    (he : starEach (a :: es) X.env = (false, eval a X.env) :: starEach es X.env := by rfl) (hpl : (backTo pos (starEach es X.env)).any (·.1) = false := by rfl) (hdb : (x == ("__debug__" : Str)) = false := by decide) :
    PS X (.Raise (some (.Call (.Name x p) (a :: es) [] pos)) none pos2) (tRaiseX C mk W ta) := ps_raise hc tk (pmk_ex T M gC hs hr ha hg he hpl hdb)
/-- e.f, e an own error held as a value -/
def tExF (K : PySem.W.Frag) (f : Str) (te : TE) : TE := fun σ H Q => te σ H fun x H1 => ∃ (a C d : Addr) (fl : List (Str × V)) (v : V), x = .ref a ∧ H1 a = some (exo a C (some d)) ∧ H1 d = some (exd d fl) ∧ XfC K C ∧ PySem.W.findIn K (.ref C) f = some none ∧ fl.lookup f = some v ∧ Q v H1
theorem pe_exf {e : Expr} {te : TE} {pos : Pos} {f : Str} (he : PE X e te) (hb : attributeBase e f X.env (eval e X.env) = eval e X.env := by rfl) : PE X (.Attribute e f pos) (tExF X.K f te) := by
  refine ⟨fun pins s σ H Q I h => ?_⟩
  refine attr_of hb (thn (he.run pins s σ H _ I h) fun u s1 hh => ?_)
  obtain ⟨x, H1, I1, rx, a, C, d, fl, v, ex, ea, ed, T, hno, hl, q⟩ := hh
  subst ex
  obtain rfl : u = Value.ref a := rx
  obtain ⟨t1, ho⟩ := exo_at I1.hok ea
  obtain ⟨mA, hns, rel⟩ := exd_at I1.hok ed
  obtain ⟨od, ho2, hl2⟩ := lookIn_ns hns
  obtain ⟨u, hu, ru⟩ := RelO.some_of (v := v) (o := mA f) (by rw [← hl]; exact rel f)
  have J : PySem.W.InstAt s1.heap a { cls := .ref C, dict := some d, data := .fields #[.ref t1, .none, .none, .none, .bool false, .none] } C (some od) := ⟨ho, rfl, rfl, ho2⟩
  exact HandSPX.exc_get I1.kIn J T.ga T.gg T.exC (PySem.W.findObj_own T.hdC hno rfl (by rw [hl2, hu])) (handed_of ru) ⟨v, H1, I1.tok _, ru, q⟩
end
end L2

set_option Elab.async false
set_option linter.all false
set_option maxRecDepth 100000
set_option maxHeartbeats 4000000
namespace PySem.W
open PySem PySem.Spec PySem.Calls PyProof.Rows
section
variable {prog : Program} {w : World} {A : Around} {E : Value → Shared → Prop} {s : Shared} {K : Frag} {x D : Addr} {ox : Obj} {od : Option Obj}
theorem exv_find {C : Addr} {name : Str} {a g : Value} (hc : (clsIn K C).isSome = true) (ha : findIn K (.ref C) name = some (some a)) (hg : specialIn K a "__get__" = some (some g)) (ht : takesIn K a = some true) : findObj K C od name = some (.bind g a) := by
  obtain ⟨cd, hc⟩ := Option.isSome_iff_exists.mp hc
  unfold findObj
  rw [hc, Option.bind_some, ha, Option.bind_some]
  simp [hg, ht]
theorem exv_class {Q : Option Value → Shared → Prop} (hga : findIn K (.ref D) "__getattribute__" = some (some (.builtin "BaseException.__getattribute__"))) (hgt : findIn K (.ref D) "__getattr__" = some none) (hsub : subIn K (.ref D) (.type "BaseException") = some true)
    (hdct : hasDictIn K D = true) (ha : findIn K (.ref D) "__class__" = some (some (.builtin "object.__class__")))
    (hn : specialIn K (.builtin "object.__class__") "__get__" = some (some (.builtin "getset_descriptor.__get__"))) (htk : takesIn K (.builtin "object.__class__") = some true) (hm : mroIn K D (.type "object") = some true)
    (X : K.In s.heap) (I : InstAt s.heap x ox D od) (h : Q (some (.ref D)) { s with toks := s.toks + 1 }) : wpAny (model prog w) A (getAttr? (.ref x) "__class__") Q E s := by
  have hf : findObj K D od "__class__" = some (.bind (.builtin "getset_descriptor.__get__") (.builtin "object.__class__")) := exv_find (by obtain ⟨cd, hc, _⟩ := any_some hdct; rw [hc]; rfl) ha hn htk
  obtain ⟨hp, g, d, t, os⟩ := s
  have L0 := I.type (M := model prog w)
  have L1 := looks_findIn (M := model prog w) X hga
  have L2 := looks_findIn (M := model prog w) X hgt
  have L3 := looks_find (M := model prog w) X I hf
  have sub : Looks (model prog w) hp (isInstance (.ref x) (.type "BaseException")) true := L0.andThen (looks_subIn X hsub)
  have hx0 : (false && onTheHeap (Value.builtin "BaseException.__getattribute__")) = false := rfl
  have hx2 : (Value.builtin "BaseException.__getattribute__" == Value.builtin "object.__getattribute__") = false := by decide +kernel
  have hx1 : (onTheHeap (Value.ref D) && Value.builtin "BaseException.__getattribute__" == Value.builtin "object.__getattribute__") = false := by rw [hx2]; rfl
  unfold getAttr? getAttrBy? getAttrBy
  refine wpAny_bind (wpAny_mkText (wpAny_bind (wpAny_attempt (wpAny_holding (wpAny_bind (L0.at (wpAny_bind (L1.at ?_))))))))
  show wpAny _ _ (if (onTheHeap (Value.ref D) && Value.builtin "BaseException.__getattribute__" == Value.builtin "object.__getattribute__") = true then _ else _) _ _ _
  rw [hx1, if_neg Bool.false_ne_true]
  unfold getAttrByItsOwn hookBefore
  refine wpAny_bind ?_
  rw [if_pos (show onTheHeap (Value.ref D) = true from rfl)]
  refine L2.at ?_
  refine wpAny_bind (wpAny_attempt (wpAny_holding ?_))
  unfold callGetattribute
  rw [hx0, if_neg Bool.false_ne_true]
  unfold boundAndCalled
  rw [PySem.F.excAttr_ValueError.ga.bind (.ref x)]
  refine wpAny_bind (wpAny_pure ?_)
  show wpAny _ _ (call (.builtin "BaseException.__getattribute__") [.ref x, .str "__class__" t]) _ _ _
  refine wpAny_call (codeAny_call_builtin PySem.F.excAttr_ValueError.ga.plain PySem.F.entry_bexc_ga ?_)
  refine @check_slot (model prog w) _ _ ⟨hp, g, d, t + 1, os⟩ "BaseException.__getattribute__" "BaseException" "__getattribute__" (.ref x) [.str "__class__" t] [] _ (by decide +kernel) (by decide +kernel) sub (PySem.F.args_bexc_ga (.ref x) (.str "__class__" t)) ?_
  unfold Builtin.«object.__getattribute__»
  refine wpAny_bind (wpAny_of_eq (a := ((Value.ref x : Value), [Value.str "__class__" t])) (by first | rfl | (simp only [slotArgs]; rfl)) ?_)
  refine wpAny_bind (wpAny_pure (wpAny_bind (L0.at (wpAny_bind (L3.at ?_)))))
  show wpAny _ _ (holding [Value.builtin "object.__class__"] (call (.builtin "getset_descriptor.__get__") [.builtin "object.__class__", .ref x, .ref D]) >>= ret) _ _ _
  refine wpAny_bind (wpAny_holding (wpAny_call (class_get (s := ⟨hp, g, d, t + 1, os⟩) (ox := ox) (od := od) X I hm ?_)))
  refine wpAny_pure ?_
  show wpAny _ _ (handedOut (.ref D)) _ _ _
  rw [handedOut_of (v := .ref D) rfl]
  first
    | exact wpAny_pure (wpAny_pure h)
    | exact wpAny_pure h
    | exact wpAny_pure (wpAny_bind (wpAny_pure (wpAny_pure h)))
theorem exv_kit (hga : findIn K (.ref D) "__getattribute__" = some (some (.builtin "BaseException.__getattribute__"))) (hgt : findIn K (.ref D) "__getattr__" = some none) (hsub : subIn K (.ref D) (.type "BaseException") = some true) (hdct : hasDictIn K D = true) (ha : findIn K (.ref D) "__class__" = some (some (.builtin "object.__class__")))
    (hn : specialIn K (.builtin "object.__class__") "__get__" = some (some (.builtin "getset_descriptor.__get__"))) (htk : takesIn K (.builtin "object.__class__") = some true) (hm : mroIn K D (.type "object") = some true) :
    KitX K (.ref x) (.ref D) (fun h => ∃ od, InstAt h x ox D od) where
  ty := fun _ _ _ ⟨_, I⟩ => I.type
  it := fun _ _ X _ => by
    obtain ⟨cdD, hcD, _⟩ := any_some hdct
    unfold clsIn at hcD
    split at hcD
    · rename_i c' d' cd' sl' ho
      intro A' Q' E' s' k q
      unfold isType loadHead
      exact wpAny_bind (wpAny_loadPart (k _ _ (X _ _ ho)) (wpAny_pure q))
    · cases hcD
  ne := fun h tp dd its n sl X htp => by
    obtain ⟨cdD, hcD, _⟩ := any_some hdct
    refine Bool.eq_false_iff.mpr fun q => ?_
    have e : D = tp := Value.ref.inj (beq_iff_eq.mp q)
    subst e
    unfold clsIn at hcD
    split at hcD
    · rename_i c' d' cd' sl' ho
      have z := (X _ _ ho).symm.trans htp
      cases z
    · cases hcD
  ca := fun X ⟨_, I⟩ k => exv_class hga hgt hsub hdct ha hn htk hm X I k
end
end PySem.W
namespace L2
open PySem PySem.Spec PyProof.Rows PySem.KX
/-- isinstance(e, c), e an own error held as a value, c a class -/
def rIsV (K : PySem.W.Frag) : List V → Hp → VK → Prop := fun xs H Q => ∃ (a D : Addr) (d : Option Addr) (c : V) (cv : Value) (b : Bool), xs = [.ref a, c] ∧ H a = some (exo a D d) ∧ (∀ e, d = some e → ∃ fl, H e = some (exd e fl)) ∧ ExcC K D ∧ (∀ u, RelV c u → u = cv) ∧ PySem.W.kitOne K (.ref D) cv = some b ∧ Q (.bl b) H
theorem call_isV {X : Cx} : CallR X (.builtin "isinstance") (rIsV X.K) := by
  intro pins s σ H xs us Q I r h
  obtain ⟨a, D, d, c, cv, b, rfl, ha, hd, C, hcv, e, q⟩ := h
  cases r with
  | cons rx rr =>
    cases rr with
    | cons rt rr =>
      cases rr
      cases rx
      have ec := hcv _ rt
      subst ec
      obtain ⟨t1, hget⟩ := exo_at I.hok ha
      have J : ∃ od, PySem.W.InstAt s.heap a { cls := .ref D, dict := d, data := .fields #[.ref t1, .none, .none, .none, .bool false, .none] } D od := by
        cases d with
        | none => exact ⟨none, hget, rfl, rfl, trivial⟩
        | some dd =>
          obtain ⟨fl, hfl⟩ := hd dd rfl
          obtain ⟨mA, hns, _⟩ := exd_at I.hok hfl
          obtain ⟨od, ho, _⟩ := lookIn_ns hns
          exact ⟨some od, hget, rfl, rfl, ho⟩
      exact PySem.W.kia_one (PySem.W.exv_kit C.hg C.hk C.hs C.hd C.ha C.hn C.ht C.hm) I.kIn J e (fun z => nomatch z) fun tk => ⟨.bl b, H, I.kept (t' := tk) fun _ _ z => z, rfl, q⟩
end L2

set_option Elab.async false
set_option linter.all false
set_option maxRecDepth 100000
set_option maxHeartbeats 4000000
/-! The law's own call, made where no repr runs: what the law's def does may be shown for the caller's surroundings alone (so repr of lists has its answer). -/
namespace L2
open PySem PySem.Spec PyProof.Rows
/-- the def at f keeps sp when it is called by the claim's caller -/
structure FnAt (P : Program) (w : World) (K : PySem.W.Frag) (mg : Str → Option Value) (base : Heap) (f : Addr) (fd : FuncData) (ps : List Str) (sp : Sp) : Prop where
  run : ∀ (s : Shared) (H : Hp) (args : Args) (us : List Value) (vs : List V) (Q : VK) (E : XK), Env0 P w K mg base callerA [] s H → BindsTo s fd args (ps.zip us) → Vals vs us → sp vs H Q E →
    codeAny (model P w) callerA (.call (.ref f) args) (CR CX0 [] P w H s Q E) s
theorem Fun.okAt {P : Program} {w : World} {K : PySem.W.Frag} {mg : Str → Option Value} {base : Heap} {x qual : Str} {st : Stmt} {f : Addr} {fd : FuncData} {N ps : List Str} {k : Nat} {sp : Sp} (F : Fun K x qual st f fd) (S : FnScope N ps (defScope st)) (hr : Room (k + 1) callerA) (len : ∀ vs H Q E, sp vs H Q E → vs.length = ps.length)
    (hbody : ∀ (cdv : Value) (A : Around) (outer : List Env) (s : Shared) (H : Hp) (vs : List V) (Q : VK) (E : XK), A.guards = some [] → Room k (A.deeper (envOfC qual (defScope st) s.heap.objs.size f cdv)) → sp vs H Q E →
      ∃ t, PSs (cxOf CX0 P w K mg base N qual (defScope st) f cdv A outer s H E).nox (defBody st) t ∧ t { nx := fun _ H' => Q .non H', rt := Q } (start N vs) H) : FnAt P w K mg base f fd ps sp := by
  obtain ⟨oc, od, kV, doc, pm, an, cdv, ct, osl, rfl, lk, hcd⟩ := F.ex
  refine ⟨fun s H args us vs Q E e0 hb r hsp => ?_⟩
  have hl := len _ _ _ _ hsp
  have old : ∀ b o, base.get? b = some o → s.heap.get? b = some o := fun b o e => (e0.bs b o e).1
  have KX : K.In s.heap := e0.mod.kin.keeps old
  have hkind : ∀ y ∈ ps.zip us, (defScope st).names.lookup y.1 = some .local ∨ ((defScope st).names.lookup y.1 = some .cell ∧ ((cellsFrom (s.heap.objs.size + 1) (defScope st).names []).lookup y.1).isSome = true) := fun ⟨n, v⟩ hy => by
    rcases S.par n (List.of_mem_zip hy).1 with q | q
    · exact .inl q
    · exact .inr ⟨q, PySem.W.cellsFrom_some _ _ _ (.inl q)⟩
  refine codeAny_call_function hr.depth (KX _ _ lk) rfl S.co S.gen rfl (PySem.W.codeRec_of KX hcd) (hb _ _ _ _ (wpAny_newFunctionEnv_cells S.kind hkind fun env he s1 z => ?_))
  subst he
  refine ⟨(e0.mod.nolimit.keeps old).keeps z.toInCall.keep, codeAny_func ?_⟩
  obtain ⟨t, ht, hq⟩ := hbody cdv callerA [] s H vs Q E rfl (hr.deeper _) hsp
  have I : Inv (cxOf CX0 P w K mg base N qual (defScope st) f cdv callerA [] s H E) [] (start N vs) H s1 := inv_start S hr.hd e0 hl r z
  refine wpAny_mono (ht.nox.run [] s1 (start N vs) H _ I hq) (fun fl s' hs => ?_) fun e s' hs => hs
  cases fl with
  | ret u =>
    obtain ⟨v, σ', H', J, rv, q⟩ := hs
    exact ⟨v, H', J.os, J.bare, J.base, J.hok, rv, q⟩
  | next =>
    obtain ⟨σ', H', J, q⟩ := hs
    exact ⟨V.non, H', J.os, J.bare, J.base, J.hok, rfl, q⟩
  | brk => exact hs.elim fun _ h => h.elim fun _ h => False.elim h.2
  | cont => exact hs.elim fun _ h => h.elim fun _ h => False.elim h.2
section
variable {P : Program} {w : World} {K : PySem.W.Frag} {mg mb : Str → Option Value} {fa a : Addr} {fd : FuncData} {x : Str} {sp : Sp} {s₁ : Shared} {vs : List Value} {ns : List Int}
/-- what is wanted of the law's run -/
abbrev LawEnd (s₁ : Shared) (r : Result) (s' : Shared) : Prop := r = .ok (.ret (.bool true)) ∧ OldK s₁.heap s'.heap ∧ s'.os = s₁.os ∧ AllBare s'.gens
/-- from an abstract heap H that tracks the script at most -/
theorem law_at0 {H : Hp} (KX : K.In s₁.heap) (hns : s₁.heap.Ns mainGlobals mg) (hb : s₁.heap.Ns builtinsNs mb) (hbb : ∀ x : Str, x ≠ "__name__" → mb x = bootBuiltins x) (hlim : s₁.heap.NoLimit) (hg : s₁.gens = #[])
    (F : ∀ base : Heap, K.In base → base.Ns mainGlobals mg → FnAt P w K mg base fa fd [x] sp) (hbind : ∀ (s : Shared) (u : Value), BindsTo s fd ⟨[u], []⟩ [(x, u)])
    (hO : Only H) (hsp : sp [.ref a] H (fun v _ => v = .bl true) fun _ _ _ => False) (hok : HOk P w H s₁.heap) (hA : ∀ b o, s₁.heap.get? b = some o → (∃ es ep, o.data = .dict es ep) ∨ (K.lookup b).isSome = true → H b = none) :
    codeAny (model P w) callerA (.call (.ref fa) ⟨[.ref a], []⟩) (LawEnd s₁) s₁ := by
  have nsK : ∀ {b : Addr} {m : Str → Option Value}, s₁.heap.Ns b m → (hidT s₁.heap H).Ns b m := fun {b m} ⟨o, es, ep, e, d, r⟩ => ⟨o, es, ep, hidT_get e (hA b o e (.inl ⟨es, ep, d⟩)), d, r⟩
  have hKb : K.In (hidT s₁.heap H) := fun b o e => hidT_get (KX b o e) (hA b o (KX b o e) (.inr (by rw [e]; rfl)))
  have e0 : Env0 P w K mg (hidT s₁.heap H) callerA [] s₁ H := ⟨rfl, ⟨hKb, nsK hns, ⟨mb, nsK hb, hbb⟩, let ⟨mc, h1, h2⟩ := hlim; ⟨mc, nsK h1, h2⟩⟩, fun b o e => of_hidT e, Nat.le_of_eq (hidT_size _ _), trivial, fun b hb => absurd (show b ∈ ([] : List Addr) from hb) (by simp), hok, .of_eq hg⟩
  refine codeAny_mono ((F _ hKb (nsK hns)).run s₁ H ⟨[.ref a], []⟩ [.ref a] [.ref a] _ _ e0 (hbind s₁ (.ref a)) (.cons rfl .nil) hsp) fun r s' h => ?_
  match r, h with
  | .error e, h => exact False.elim h
  | .ok .next, h => exact False.elim h
  | .ok .brk, h => exact False.elim h
  | .ok .cont, h => exact False.elim h
  | .ok (.ret u), ⟨v, H', os, bare, un, hok', r', q⟩ =>
    obtain rfl : v = .bl true := q
    obtain rfl : u = Value.bool true := r'
    refine ⟨rfl, OldK.of_keep fun b o e => ?_, os, bare⟩
    rcases hO b with z | ⟨ob, xs, z⟩
    · exact un.keep b o e z (by intro z; exact absurd (show b ∈ ([] : List Addr) from z) (by simp)) (by simp)
    · obtain ⟨e1, _⟩ := hok b _ z
      obtain ⟨e2, _⟩ := hok' b _ (un.frzs b ob _ z)
      rw [e] at e1; cases e1
      exact e2
theorem law_at (KX : K.In s₁.heap) (hns : s₁.heap.Ns mainGlobals mg) (hb : s₁.heap.Ns builtinsNs mb) (hbb : ∀ x : Str, x ≠ "__name__" → mb x = bootBuiltins x) (hlim : s₁.heap.NoLimit) (hg : s₁.gens = #[])
    (ha : s₁.heap.get? a = some { cls := .type "list", data := .seq vs.toArray }) (hi : IntsAre vs ns) (hl : ns.length ≤ sizeLine)
    (F : ∀ base : Heap, K.In base → base.Ns mainGlobals mg → FnAt P w K mg base fa fd [x] sp) (hbind : ∀ (s : Shared) (u : Value), BindsTo s fd ⟨[u], []⟩ [(x, u)])
    (hsp : ∀ H : Hp, Only H → SqL K H a (ns.map V.int) → sp [.ref a] H (fun v _ => v = .bl true) fun _ _ _ => False) :
    codeAny (model P w) callerA (.call (.ref fa) ⟨[.ref a], []⟩) (LawEnd s₁) s₁ := by
  have rv := vals_ints hi
  cases hk : K.lookup a with
  | some o =>
    have e := KX a o hk
    rw [ha] at e
    cases e
    have hO : Only (fun _ => none) := fun _ => .inl rfl
    refine law_at0 KX hns hb hbb hlim hg F hbind hO (hsp _ hO (.inr ⟨_, vs.toArray, _, hk, rfl, rfl, rfl, by rw [List.size_toArray, hi.length]; exact hl, by simpa using rv⟩)) (fun b u z => ?_) fun _ _ _ _ => rfl
    have z' : (none : Option HO) = some u := z
    cases z'
  | none =>
    have hO : Only (fun b => if b = a then some (.frz { cls := .type "list", data := .seq vs.toArray } (.lst (ns.map V.int))) else none) := fun b => by
      by_cases hb : b = a
      · exact .inr ⟨_, _, if_pos hb⟩
      · exact .inl (if_neg hb)
    refine law_at0 KX hns hb hbb hlim hg F hbind hO (hsp _ hO (.inl (.inr ⟨_, if_pos rfl⟩))) (fun b u z => ?_) (fun b o e h => ?_)
    · by_cases hb : b = a
      · have z' := (if_pos hb).symm.trans z
        cases z'
        subst hb
        exact ⟨ha, by rw [List.length_map]; exact hl, vs, _, rv, ha⟩
      · have z' := (if_neg hb).symm.trans z
        cases z'
    · refine if_neg fun hb => ?_
      subst hb
      rcases h with ⟨es, ep, h⟩ | h
      · rw [ha] at e; cases e
        have d' : Data.seq vs.toArray _ = Data.dict es ep := h
        cases d'
      · rw [hk] at h; cases h
end
/-- the end of a law row, over FnAt -/
theorem walk_at {l : PySem.W.OpenLaw} {n : Nat} {q : Program} {loose : List Str} {XP : (Str → Option Value) → Heap → Prop} {YP : World → Heap → Prop} {d : DefRec} {K : Params → PySem.W.Frag} {sp : World → Sp} {x : Str}
    (hn : l.most = some n) (hn2 : n ≤ sizeLine) (hdf : d.params.defaults = []) (hY : ∀ (w : World) (h : Heap), YP w h → (K w.params).In h)
    (F : ∀ (w : World) (mg : Str → Option Value) (fa : Addr) (h : Heap), (K w.params).In h → h.Ns mainGlobals mg → mg d.name = some (.ref fa) →
      ∃ fd : FuncData, (∀ (s : Shared) (u : Value), BindsTo s fd ⟨[u], []⟩ [(x, u)]) ∧ ∀ base : Heap, (K w.params).In base → base.Ns mainGlobals mg → FnAt l.prog w (K w.params) mg base fa fd [x] (sp w))
    (hsp : ∀ (w : World) (H : Hp) (a : Addr) (ns : List Int), ns.length ≤ n → Only H → SqL (K w.params) H a (ns.map V.int) → sp w [.ref a] H (fun v _ => v = .bl true) fun _ _ _ => False) :
    PySem.W.WalkO q loose XP YP l.row.toRowW d [] (fun f vs => PySem.call f vs) := by
  refine Att.attach_call hn hdf fun w s₀ s₁ mg mb fa o pm cd doc a vs ns G Y ho hd hcd hmg hobj hints hlen hg => ?_
  obtain ⟨fd, hb, hF⟩ := F w mg fa _ (hY w _ Y) G.T.g hmg
  exact law_at (hY w _ Y) G.T.g G.T.b G.T.builtins G.T.nolimit hg hobj hints (Nat.le_trans hlen hn2) hF hb fun H hO hS => hsp w H a ns hlen hO hS
/-- .. with the written part by a Hook -/
theorem walk_atE {l : PySem.W.OpenLaw} {n : Nat} {q : Program} {loose : List Str} {XP : (Str → Option Value) → Heap → Prop} {YP : World → Heap → Prop} {d : DefRec} {x : Str}
    (hn : l.most = some n) (hn2 : n ≤ sizeLine) (hdf : d.params.defaults = [])
    (F : ∀ (w : World) (mg : Str → Option Value) (fa : Addr) (h : Heap), YP w h → h.Ns mainGlobals mg → mg d.name = some (.ref fa) →
      ∃ (K : PySem.W.Frag) (fd : FuncData) (sp : Sp), K.In h ∧ (∀ (s : Shared) (u : Value), BindsTo s fd ⟨[u], []⟩ [(x, u)]) ∧
        (∀ (H : Hp) (a : Addr) (ns : List Int), ns.length ≤ n → Only H → SqL K H a (ns.map V.int) → sp [.ref a] H (fun v _ => v = .bl true) fun _ _ _ => False) ∧
        ∀ base : Heap, K.In base → base.Ns mainGlobals mg → FnAt l.prog w K mg base fa fd [x] sp) :
    PySem.W.WalkO q loose XP YP l.row.toRowW d [] (fun f vs => PySem.call f vs) := by
  refine Att.attach_call hn hdf fun w s₀ s₁ mg mb fa o pm cd doc a vs ns G Y ho hd hcd hmg hobj hints hlen hg => ?_
  obtain ⟨K, fd, sp, KX, hb, hsp, hF⟩ := F w mg fa _ Y G.T.g hmg
  exact law_at KX G.T.g G.T.b G.T.builtins G.T.nolimit hg hobj hints (Nat.le_trans hlen hn2) hF hb fun H hO hS => hsp H a ns hlen hO hS
end L2

set_option Elab.async false
set_option linter.all false
set_option maxRecDepth 100000
set_option maxHeartbeats 4000000
/-! What a law needs of the program's top, read by one Hook: yes-or-no facts over the written part, defs, and the __init__ of the own errors. -/
namespace L2
open PySem PySem.Spec PyProof.Rows
theorem FunD.fn {K : PySem.W.Frag} {x qual : Str} {st : Stmt} {f : Addr} {fd : FuncData} (F : FunD K x qual (defArgs st) (defBody st) (defScope st) [] [] f fd) : Fun K x qual st f fd := by
  obtain ⟨⟨oc, od, dV, kV, doc, pm, an, cdv, ct, osl, rfl, lk, hcd, hD, hK⟩, kp⟩ := F
  rcases hD with ⟨_, rfl⟩ | ⟨e, _⟩
  · exact ⟨⟨oc, od, kV, doc, pm, an, cdv, ct, osl, rfl, lk, hcd⟩, kp⟩
  · exact absurd rfl e
end L2
namespace KH
open PySem PySem.Spec PyProof.Rows L2 He PySem.KX
open PySem.W (Frag)
def exClsB (K : Frag) (C : Addr) : Bool := match K.lookup C with
  | some ⟨.type "type", _, .cls cd, sl⟩ => (match cd.mro, sl.toList with
    | .ref C' :: bm, [_, _, _, _, some (.builtin n), _] => C' == C && (n == "ValueError.__new__" && (!cd.hasDel && (cd.hasDict && PySem.HandSPX.refsVE bm)))
    | _, _ => false)
  | _ => false
theorem exClsB_ok {K : Frag} {C : Addr} (q : exClsB K C = true) : ∃ nm qn N bs bm sn sub ab col dd k0 k1 k2 k3 k5, K.lookup C = some (excClassObj nm qn C N bs bm true sn sub ab col dd k0 k1 k2 k3 k5 "ValueError.__new__") ∧ PySem.HandSPX.refsVE bm = true := by
  unfold exClsB at q
  split at q
  · rename_i dd cd sl ho
    split at q
    · rename_i C' bm k0 k1 k2 k3 n k5 hm hs
      simp only [Bool.and_eq_true, beq_iff_eq, Bool.not_eq_true'] at q
      obtain ⟨rfl, rfl, hdel, hdi, hr⟩ := q
      obtain ⟨nm, bs, mro, ns, qn, hd, sn, sub, ab, col, del⟩ := cd
      dsimp only at hm hdel hdi
      subst hm hdel hdi
      obtain ⟨l⟩ := sl
      simp only at hs
      subst hs
      exact ⟨nm, qn, ns, bs, bm, sn, sub, ab, col, dd, k0, k1, k2, k3, k5, ho, hr⟩
    · cases q
  · cases q
/-- where the __init__ of the error x stands -/
def iAd (K : Frag) (x : Str) : Addr := ma K (ga K x) "__init__"
def codeB (P : Program) (K : Frag) (C : Addr) (fd : FuncData) : Bool := match fd.closure, fd.code, fd.defaults, fd.kwdefaults with
  | [(n, cc)], .ref cda, .none, .none => decide (n = "__class__") && (PySem.W.codeIn K (.ref cda) fd.qualname && ((match K.lookup cda with
    | some ⟨_, _, .fields vs, _⟩ => (match (vs[2]? : Option Value) with
      | some (Value.str file _) => (P.main.file : Str) == file
      | _ => false)
    | _ => false) && (match K.lookup cc with
    | some ⟨_, _, .cell (some (.ref D)), _⟩ => D == C
    | _ => false)))
  | _, _, _, _ => false
def exB (P : Program) (x : Str) (fs : List Str) (K : Frag) : Bool :=
  let C := ga K x
  let fI := iAd K x
  exClsB K C && (eqO (PySem.W.findIn K (.ref C) "__setattr__") (some (some (.builtin "object.__setattr__"))) && (eqO (PySem.W.findIn K (.ref C) "__getattribute__") (some (some (.builtin "BaseException.__getattribute__"))) && (eqO (PySem.W.findIn K (.ref C) "__getattr__") (some none) &&
  ((fs.all fun f => eqO (PySem.W.findIn K (.ref C) f) (some none)) && (eqO (PySem.W.findIn K (.ref C) "__init__") (some (some (.ref fI))) && (decide (PySem.W.typeIn K (.ref fI) = some (.type "function")) && (PySem.W.keepIn K (.ref C) &&
  (decide (PySem.W.subIn K (.ref C) (.type "BaseException") = some true) && (decide (PySem.W.typeIn K (.ref C) = some (.type "type")) && (PySem.W.hasDictIn K C && (decide (PySem.W.exmOne K (.ref C) (.ref C) = some true) &&
  (eqO (PySem.W.ks_superIn K C C "__init__") (some (some (.builtin "ValueError.__init__"))) && (decide (PySem.W.subIn K (.ref C) (.type "ValueError") = some true) && (decide (PySem.W.mroIn K C (.ref C) = some true) && (eqO (PySem.W.nsIn K cStatics "thirdparty.any") (some none) &&
  (match K.lookup fI with
    | some ⟨_, _, .func fd, _⟩ => codeB P K C fd
    | _ => false))))))))))))))))
abbrev FnI : Type := Option (Str × Arguments × FuncBody × Scope × Addr × Addr)
def fnI (K : Frag) (x : Str) : FnI := match K.lookup (iAd K x) with
  | some ⟨_, _, .func fd, _⟩ => some (fd.name, fd.params, fd.body, fd.scope, fd.globals, fd.builtins)
  | _ => none
def valI (st : Stmt) : FnI := some ("__init__", defArgs st, .stmts (defBody st), defScope st, mainGlobals, builtinsNs)
theorem ex_of {P : Program} {K : Frag} {x : Str} {fs : List Str} {st : Stmt} (c : exB P x fs K = true) (e : fnI K x = valI st) (tp : (P.main.scope.names.lookup ("super" : Str)).isSome = false) : ExTxt P K (ga K x) (iAd K x) st fs := by
  unfold exB at c
  simp only [Bool.and_eq_true] at c
  obtain ⟨c1, c2, c3, c4, c5, c6, c7, c8, c9, c10, c11, c12, c13, c14, c15, c16, c17⟩ := c
  refine ⟨exClsB_ok c1, eqO_ok c2, eqO_ok c3, eqO_ok c4, fun f hf => eqO_ok (List.all_eq_true.mp c5 f hf), eqO_ok c6, of_decide_eq_true c7, c8, of_decide_eq_true c9, of_decide_eq_true c10, c11, of_decide_eq_true c12, eqO_ok c13, of_decide_eq_true c14, of_decide_eq_true c15, eqO_ok c16, ?_, tp⟩
  unfold fnI at e
  cases q : K.lookup (iAd K x) with
  | none => rw [q] at c17; cases c17
  | some o =>
    obtain ⟨oc, od, dt, osl⟩ := o
    rw [q] at c17 e
    cases dt with
    | func fd =>
      obtain ⟨n1, n2, n3, n4, n5, n6, n7, n8, n9, n10, n11, n12, n13, n14, n15⟩ := fd
      have e2 : (some (n1, n3, n4, n5, n6, n15) : FnI) = some (("__init__" : Str), defArgs st, FuncBody.stmts (defBody st), defScope st, mainGlobals, builtinsNs) := e
      simp only [Option.some.injEq, Prod.mk.injEq] at e2
      obtain ⟨h1, h2, h3, h4, h5, h6⟩ := e2
      subst h1 h2 h3 h4 h5 h6
      have c18 : codeB P K (ga K x) ⟨_, n2, _, _, _, _, n7, n8, n9, n10, n11, n12, n13, n14, _⟩ = true := c17
      unfold codeB at c18
      split at c18
      · rename_i n cc cda hcl hco hde hkw
        dsimp only at hcl hco hde hkw
        subst hcl hco hde hkw
        simp only [Bool.and_eq_true] at c18
        obtain ⟨d1, d2, d3, d4⟩ := c18
        have d1' : n = "__class__" := of_decide_eq_true d1
        subst d1'
        split at d3
        · rename_i ccl cdd vs ccs hcda
          split at d3
          · rename_i file tf hvs
            split at d4
            · rename_i cl cld D csl hcc
              have : D = ga K x := by simpa using d4
              subst this
              exact ⟨n2, oc, od, n10, n11, n12, cda, cc, n14, osl, ccl, cdd, vs, ccs, file, tf, cl, cld, csl, rfl, d2, hcda, hvs, d3, hcc⟩
            · cases d4
          · cases d3
        · cases d3
      · cases c18
    | _ => cases c17
/-! ### the Hook -/
def asX (g : Addr → Option Obj) : Nat → List Addr
  | 0 => [mainGlobals, sysModules, cStatics]
  | n + 1 => growD g (asX g n)
structure Need where
  facts : List (Frag → Bool)
  defs : List DefD
  inits : List (Str × Stmt)
abbrev AlX : Type := Bool × List FnW × List FnI
def obsX (d : Need) (K : Frag) : AlX := ((d.facts.all fun f => f K) && d.defs.all fun e => e.ok K, d.defs.map fun e => fnW K e.at_, d.inits.map fun e => fnI K e.1)
def valX (d : Need) : AlX := (true, d.defs.map DefD.val, d.inits.map fun e => valI e.2)
def Says (d : Need) (K : Frag) : Prop := obsX d K = valX d
def obsXG (n : Nat) (d : Need) (g : Addr → Option Obj) : AlX := obsX d (frG g (asX g n))
def hookX (n : Nat) (d : Need) : PySem.W.Hook where
  α := AlX
  obs := fun s => obsXG n d s.heap.get?
  val := fun _ => valX d
  says := fun _ h => ∃ K : Frag, K.In h ∧ Says d K
  of := fun _ _ e => ⟨_, frG_in, e⟩
  keeps := fun _ _ _ ⟨K, hK, c⟩ k => ⟨K, PySem.W.Frag.In.keeps hK k, c⟩
theorem obsXG_eq {n : Nat} {d : Need} {g : Addr → Option Obj} {s : Shared} (h : ∀ a, g a = s.heap.get? a) : obsXG n d g = (hookX n d).obs s := by
  have e : g = s.heap.get? := funext h
  rw [e] <;> rfl
section
variable {d : Need} {K : Frag}
theorem Says.fact (c : Says d K) (i : Nat) {f : Frag → Bool} (h : d.facts[i]? = some f := by rfl) : f K = true := by
  have c1 := (ba (show ((d.facts.all fun f => f K) && d.defs.all fun e => e.ok K) = true from congrArg (fun z : AlX => z.1) c)).1
  exact List.all_eq_true.mp c1 f (List.mem_of_getElem? h)
theorem Says.def_ (c : Says d K) (i : Nat) {e : DefD} (h : d.defs[i]? = some e := by rfl) : ∃ fd, FunD K e.name e.qual e.params e.body e.scope (e.dvs K) (e.kws K) (fAd K e.at_) fd := by
  have c2 := (ba (show ((d.facts.all fun f => f K) && d.defs.all fun e => e.ok K) = true from congrArg (fun z : AlX => z.1) c)).2
  have e1 : d.defs.map (fun e => fnW K e.at_) = d.defs.map DefD.val := congrArg (fun z : AlX => z.2.1) c
  have e2 : (d.defs.map fun e => fnW K e.at_)[i]? = (d.defs.map DefD.val)[i]? := by rw [e1]
  rw [List.getElem?_map, List.getElem?_map, h] at e2
  exact DefD.funD (Option.some.inj e2) (List.all_eq_true.mp c2 e (List.mem_of_getElem? h))
theorem Says.init (c : Says d K) (i : Nat) {x : Str} {st : Stmt} (h : d.inits[i]? = some (x, st) := by rfl) : fnI K x = valI st := by
  have e1 : d.inits.map (fun e => fnI K e.1) = d.inits.map (fun e => valI e.2) := congrArg (fun z : AlX => z.2.2) c
  have e2 : (d.inits.map fun e => fnI K e.1)[i]? = (d.inits.map fun e => valI e.2)[i]? := by rw [e1]
  rw [List.getElem?_map, List.getElem?_map, h] at e2
  exact Option.some.inj e2
end
end KH

set_option Elab.async false
set_option linter.all false
set_option maxRecDepth 100000
set_option maxHeartbeats 4000000
/-! The Hook of KH over fewer objects: what the module's names reach, front by front, the module's own dict not entered again. -/
namespace KH
open PySem PySem.Spec PyProof.Rows L2 He PySem.KX
open PySem.W (Frag)
def frontY (g : Addr → Option Obj) : Nat → List Addr → List Addr
  | 0, as => as
  | n + 1, as => as ++ frontY g n (as.flatMap fun a => match g a with
    | some o => (refsD o).filter fun b => !(b == mainGlobals)
    | none => [])
def asY (g : Addr → Option Obj) (n : Nat) : List Addr := sysModules :: cStatics :: frontY g n [mainGlobals]
def obsYG (n : Nat) (d : Need) (g : Addr → Option Obj) : AlX := obsX d (frG g (asY g n))
def hookY (n : Nat) (d : Need) : PySem.W.Hook where
  α := AlX
  obs := fun s => obsYG n d s.heap.get?
  val := fun _ => valX d
  says := fun _ h => ∃ K : Frag, K.In h ∧ Says d K
  of := fun _ _ e => ⟨_, frG_in, e⟩
  keeps := fun _ _ _ ⟨K, hK, c⟩ k => ⟨K, PySem.W.Frag.In.keeps hK k, c⟩
theorem obsYG_eq {n : Nat} {d : Need} {g : Addr → Option Obj} {s : Shared} (h : ∀ a, g a = s.heap.get? a) : obsYG n d g = (hookY n d).obs s := by
  have e : g = s.heap.get? := funext h
  rw [e] <;> rfl
end KH

set_option Elab.async false
set_option linter.all false
set_option maxRecDepth 100000
set_option maxHeartbeats 4000000
/-! repr of data: None, bools, ints, texts, lists, tuples of such, and the empty dict. -/
namespace L2
open PySem PySem.Spec PyProof.Rows
mutual
/-- v is the data d -/
inductive Dq (K : PySem.W.Frag) (H : Hp) : V → PyData → Prop
  | non : Dq K H .non .none
  | bl (b : Bool) : Dq K H (.bl b) (.bool b)
  | int (i : Int) : Dq K H (.int i) (.int i)
  | str (x : Str) : Dq K H (.str x) (.str x)
  | lst {a : Addr} {xs : List V} {ds : List PyData} : SqL K H a xs → DqAll K H xs ds → Dq K H (.ref a) (.list ds)
  | tup {a : Addr} {xs : List V} {ds : List PyData} : SqT K H a xs → DqAll K H xs ds → Dq K H (.ref a) (.tuple ds)
  | dic {a : Addr} : H a = some (.dK []) → Dq K H (.ref a) (.dict [])
inductive DqAll (K : PySem.W.Frag) (H : Hp) : List V → List PyData → Prop
  | nil : DqAll K H [] []
  | cons {v : V} {vs : List V} {d : PyData} {ds : List PyData} : Dq K H v d → DqAll K H vs ds → DqAll K H (v :: vs) (d :: ds)
end
section
variable {X : Cx} {pins : List (Addr × Obj)} {σ : St} {H : Hp} {s : Shared}
mutual
theorem Dq.reads (I : Inv X pins σ H s) (hy : PySem.W.typeIn X.K (.ref sysModules) = some (.type "dict")) : ∀ (d : PyData) (v : V) (u : Value), Dq X.K H v d → RelV v u → ∃ as, Reads s.heap u d as ∧ sysModules ∉ as
  | .none, _, _, h, r => by
    cases h; cases r
    exact ⟨_, Reads.none, by simp⟩
  | .bool b, _, _, h, r => by
    cases h; cases r
    exact ⟨_, Reads.bool b, by simp⟩
  | .int i, _, _, h, r => by
    cases h
    obtain ⟨t, rfl⟩ := r
    exact ⟨_, Reads.int i t, by simp⟩
  | .str x, _, _, h, r => by
    cases h
    obtain ⟨t, rfl⟩ := r
    exact ⟨_, Reads.str x t, by simp⟩
  | .list ds, _, _, h, r => by
    cases h with
    | lst hs ha =>
      cases r
      rename_i a xs
      obtain ⟨its, rv, ⟨o, n, ho, hc, _, hd⟩, _⟩ := I.list hs
      obtain ⟨as, hr, hn⟩ := DqAll.reads I hy ds _ its ha rv
      refine ⟨_, Reads.list ho hc hd hr, fun z => ?_⟩
      rcases List.mem_cons.mp z with z | z
      · have hy' : (X.K.lookup sysModules).map (·.cls) = some (.type "dict") := hy
        cases q : X.K.lookup sysModules with
        | none => rw [q] at hy'; cases hy'
        | some oy =>
          have e := I.kIn _ _ q
          rw [q] at hy'
          rw [z, ho] at e
          cases e
          have e2 : o.cls = Value.type "dict" := Option.some.inj hy'
          rw [hc] at e2
          exact absurd e2 (by decide)
      · exact hn z
  | .tuple ds, _, _, h, r => by
    cases h with
    | tup hs ha =>
      cases r
      obtain ⟨its, rv, ⟨o, ho, hc, n, hd⟩, _⟩ := I.tuple hs
      obtain ⟨as, hr, hn⟩ := DqAll.reads I hy ds _ its ha rv
      exact ⟨_, Reads.tuple ho hc hd hr, hn⟩
  | .dict _, _, _, h, r => by
    cases h with
    | dic hd =>
      cases r
      rename_i a
      obtain ⟨_, ns, vs, kv, o, es, ep, ho, ⟨hc, hdd⟩, hdat, hes⟩ := I.hok a _ hd
      cases kv
      obtain ⟨_, hp, _⟩ := hes
      have el : es.toList = [] := by
        cases q : es.toList with
        | nil => rfl
        | cons e r => rw [q] at hp; cases hp
      refine ⟨[a] ++ [] ++ [], Reads.dict (kvs := []) ho hc hdat (by rw [el]; exact ReadsAll.nil) (by rw [el]; exact ReadsAll.nil), fun z => ?_⟩
      have z' : sysModules = a := by simpa using z
      rw [z'] at ns
      simp at ns
theorem DqAll.reads (I : Inv X pins σ H s) (hy : PySem.W.typeIn X.K (.ref sysModules) = some (.type "dict")) : ∀ (ds : List PyData) (vs : List V) (us : List Value), DqAll X.K H vs ds → Vals vs us → ∃ as, ReadsAll s.heap us ds as ∧ sysModules ∉ as
  | [], _, _, h, r => by
    cases h; cases r
    exact ⟨_, ReadsAll.nil, by simp⟩
  | d :: ds, _, _, h, r => by
    cases h with
    | cons h1 h2 =>
      cases r with
      | cons r1 r2 =>
        obtain ⟨as, q1, n1⟩ := Dq.reads I hy d _ _ h1 r1
        obtain ⟨bs, q2, n2⟩ := DqAll.reads I hy ds _ _ h2 r2
        exact ⟨_, ReadsAll.cons q1 q2, fun z => (List.mem_append.mp z).elim n1 n2⟩
end
end
/-- repr of a list or a tuple, a dict -/
def rRepr (K : PySem.W.Frag) : List V → Hp → VK → Prop := fun xs H Q => ∃ (a : Addr) (d : PyData), xs = [.ref a] ∧ Dq K H (.ref a) d ∧ d.showable = true ∧ d.depth ≤ 20 ∧ d.shown.length ≤ sizeLine ∧ Q (.str d.shown) H
theorem call_reprD {X : Cx} {k : Nat} (hg : X.A.guards = some []) (hr : Room k X.A) (hy : PySem.W.typeIn X.K (.ref sysModules) = some (.type "dict")) : CallR X (.builtin "repr") (rRepr X.K) := by
  intro pins s σ H xs us Q I r h
  obtain ⟨a, d, rfl, hd, hs, hde, hz, q⟩ := h
  cases r with
  | cons rx rr =>
    cases rr
    cases rx
    obtain ⟨as, hrd, hn⟩ := Dq.reads I hy d _ _ hd rfl
    exact repr_of_reads' hrd hs (fun _ => hn) hg (by have := hr.un; omega) (fun _ _ e => e) (fun h' u tk k => ⟨.str _, H, I.kept k, ⟨_, rfl⟩, q⟩) hz
end L2

/-! The plain law of the tokens: texts are lists of code points. No program in sight. -/
set_option linter.all false
set_option maxRecDepth 100000
namespace Lex
inductive Kd where
  | name | word | number | text | sign
  deriving DecidableEq
def letters : List Nat := [97, 98, 99, 100, 101, 102, 103, 104, 105, 106, 107, 108, 109, 110, 111, 112, 113, 114, 115, 116, 117, 118, 119, 120, 121, 122]
def digits : List Nat := [48, 49, 50, 51, 52, 53, 54, 55, 56, 57]
def signs : List Nat := [40, 41, 91, 93, 123, 125, 44, 59, 58, 46, 61, 60, 43, 45, 42]
def cp (s : String) : List Nat := s.toList.map Char.toNat
def words : List (List Nat) := [105, 109, 112, 111, 114, 116] :: ["from", "as", "def", "class", "global", "nonlocal", "if", "else", "while", "for", "in", "return", "break", "continue", "pass", "and", "or", "not", "fn", "none", "true", "false"].map cp
def inRun (c : Nat) : Bool := decide (c ∈ letters) || (decide (c ∈ digits) || decide (c = 95))
def runLen (l : List Nat) : Nat := (l.takeWhile inRun).length
def bl : Bool → List Nat → Nat
  | _, [] => 0
  | true, c :: r => if c = 10 then 1 + bl false r else 1 + bl true r
  | false, c :: r => if c = 32 ∨ c = 10 then 1 + bl false r else if c = 35 then 1 + bl true r else 0
def isName (l : List Nat) : Bool := (decide (1 ≤ l.length) && decide (l.length ≤ 20)) && (!decide (l ∈ words) && ((match l with | c :: _ => decide (c ∈ letters) | [] => false) && l.all inRun))
def isNumber (l : List Nat) : Bool := decide (l.length ≤ 18) && (l.all (fun c => decide (c ∈ digits)) && (!decide (l.head? = some 48) || decide (l = [48])))
def runKind (l : List Nat) : Option Kd := if l ∈ words then some .word else if isName l then some .name else if isNumber l then some .number else none
def txtLen (r : List Nat) : Nat := (r.takeWhile fun d => !(decide (d = 39) || decide (d = 10))).length
def tokenAt : List Nat → Option Kd × Nat
  | [] => (none, 0)
  | c :: r => if inRun c then (runKind ((c :: r).take (runLen (c :: r))), runLen (c :: r))
    else if c = 39 then (if r[txtLen r]? = some 39 ∧ txtLen r ≤ 40 then some .text else none, txtLen r + 2)
    else if (c :: r).take 2 = [61, 61] ∨ (c :: r).take 2 = [60, 61] then (some .sign, 2)
    else (if c ∈ signs then some .sign else none, 1)
abbrev Tok := Kd × List Nat × Nat
def lexF : Nat → Nat → List Nat → Except Nat (List Tok)
  | 0, _, _ => .ok []
  | n + 1, off, l => match l.drop (bl false l) with
    | [] => .ok []
    | c :: r => match tokenAt (c :: r) with
      | (none, _) => .error (off + bl false l)
      | (some k, m) => (lexF n (off + bl false l + m) ((c :: r).drop m)).map fun ts => (k, (c :: r).take m, off + bl false l) :: ts
theorem bl_le : ∀ (b : Bool) (l : List Nat), bl b l ≤ l.length
  | _, [] => by cases ‹Bool› <;> exact Nat.le_refl 0
  | true, c :: r => by
    show (if c = 10 then 1 + bl false r else 1 + bl true r) ≤ r.length + 1
    have h1 := bl_le false r
    have h2 := bl_le true r
    split <;> omega
  | false, c :: r => by
    show (if c = 32 ∨ c = 10 then 1 + bl false r else if c = 35 then 1 + bl true r else 0) ≤ r.length + 1
    have h1 := bl_le false r
    have h2 := bl_le true r
    split
    · omega
    · split <;> omega
theorem runLen_pos {c : Nat} {r : List Nat} (h : inRun c = true) : runLen (c :: r) = runLen r + 1 := by
  unfold runLen
  rw [List.takeWhile_cons, if_pos h, List.length_cons]
theorem tokenAt_pos (c : Nat) (r : List Nat) : 1 ≤ (tokenAt (c :: r)).2 := by
  show 1 ≤ (if inRun c then (runKind ((c :: r).take (runLen (c :: r))), runLen (c :: r))
    else if c = 39 then (if r[txtLen r]? = some 39 ∧ txtLen r ≤ 40 then some Kd.text else none, txtLen r + 2)
    else if (c :: r).take 2 = [61, 61] ∨ (c :: r).take 2 = [60, 61] then (some Kd.sign, 2)
    else (if c ∈ signs then some Kd.sign else none, 1)).2
  by_cases h : inRun c = true
  · rw [if_pos h]
    show 1 ≤ runLen (c :: r)
    rw [runLen_pos h]; omega
  · rw [if_neg h]
    by_cases h1 : c = 39
    · rw [if_pos h1]
      show 1 ≤ txtLen r + 2
      omega
    · rw [if_neg h1]
      by_cases h2 : (c :: r).take 2 = [61, 61] ∨ (c :: r).take 2 = [60, 61]
      · rw [if_pos h2]; exact Nat.le_succ 1
      · rw [if_neg h2]; exact Nat.le_refl 1
/-- fuel does not matter -/
theorem lexF_fuel : ∀ (n m off : Nat) (l : List Nat), l.length < n → l.length < m → lexF n off l = lexF m off l
  | 0, _, _, l, h, _ => absurd h (Nat.not_lt_zero _)
  | _ + 1, 0, _, l, _, h => absurd h (Nat.not_lt_zero _)
  | n + 1, m + 1, off, l, h1, h2 => by
    unfold lexF
    have hd : (l.drop (bl false l)).length ≤ l.length := by rw [List.length_drop]; omega
    split
    · rfl
    · rename_i c r e
      rw [e] at hd
      split
      · rename_i e2
        rfl
      · rename_i k q e2
        have hp := tokenAt_pos c r
        rw [e2] at hp
        have hq : 1 ≤ q := hp
        have hl : ((c :: r).drop q).length < (c :: r).length := by rw [List.length_drop, List.length_cons]; omega
        rw [lexF_fuel n m (off + bl false l + q) ((c :: r).drop q) (by omega) (by omega)]
/-- a blank -/
def Blank (b : List Nat) : Prop := ∀ r, bl false (b ++ r) = b.length + bl false r
theorem lexF_blank {b : List Nat} (h : Blank b) (n off : Nat) (r : List Nat) : lexF n off (b ++ r) = lexF n (off + b.length) r := by
  cases n with
  | zero => rfl
  | succ n =>
    unfold lexF
    have e : (b ++ r).drop (bl false (b ++ r)) = r.drop (bl false r) := by rw [h r, List.drop_append, List.drop_eq_nil_of_le (by omega), Nat.add_sub_cancel_left]; rfl
    rw [e, h r, Nat.add_assoc]
/-- what must hold between a token and what follows -/
def Bd (tx r : List Nat) : Prop := (∀ c d, tx.getLast? = some c → r.head? = some d → inRun c = true → inRun d = true → False) ∧ ((tx = [61] ∨ tx = [60]) → r.head? ≠ some 61)
structure Good (k : Kd) (tx : List Nat) : Prop where
  sm : ∀ c ∈ tx, c < 1114112
  ne : tx ≠ []
  nb : ∀ r, bl false (tx ++ r) = 0
  at_ : ∀ r, Bd tx r → tokenAt (tx ++ r) = (some k, tx.length)
theorem lexF_good {k : Kd} {tx : List Nat} (g : Good k tx) (n off : Nat) (r : List Nat) (hb : Bd tx r) : lexF (n + 1) off (tx ++ r) = (lexF n (off + tx.length) r).map fun ts => (k, tx, off) :: ts := by
  conv => lhs; unfold lexF
  have e0 := g.nb r
  rw [e0, List.drop_zero]
  obtain ⟨c, t, rfl⟩ : ∃ c t, tx = c :: t := by
    cases tx with
    | nil => exact absurd rfl g.ne
    | cons c t => exact ⟨c, t, rfl⟩
  have e1 := g.at_ r hb
  have e2 : ((c :: t) ++ r) = c :: (t ++ r) := rfl
  rw [e2] at e1 ⊢
  simp only [e1]
  have e3 : (c :: (t ++ r)).drop (c :: t).length = r := by rw [← e2, List.drop_append, Nat.sub_self, List.drop_length]; rfl
  have e4 : (c :: (t ++ r)).take (c :: t).length = c :: t := by rw [← e2, List.take_append, Nat.sub_self, List.take_length]; simp
  rw [e3, e4, Nat.add_zero]
end Lex

set_option linter.all false
set_option maxRecDepth 100000
namespace Lex
theorem map_id' {x : Except Nat (List Tok)} : (x.map fun ts => [] ++ ts) = x := by cases x <;> rfl
theorem map_map' {x : Except Nat (List Tok)} {a : List Tok} {k : Tok} : ((x.map fun ts => k :: ts).map fun ts => a ++ ts) = x.map fun ts => (a ++ [k]) ++ ts := by
  cases x with
  | error e => rfl
  | ok ts => show Except.ok (a ++ (k :: ts)) = Except.ok ((a ++ [k]) ++ ts); simp
/-- T was written, with told in it, last at its end -/
structure Wr (T : List Nat) (told : List Tok) (last : List Nat) : Prop where
  sm : ∀ t ∈ told, ∀ c ∈ t.2.1, c < 1114112
  lex : ∀ (r : List Nat) (n : Nat), (T ++ r).length < n → Bd last r → lexF n 0 (T ++ r) = (lexF n T.length r).map fun ts => told ++ ts
theorem Wr.nil : Wr [] [] [] := .mk (fun _ h => by cases h) fun r n _ _ => by
  show lexF n 0 r = (lexF n 0 r).map fun ts => [] ++ ts
  rw [map_id']
/-- a blank that keeps tokens apart, or none where none is needed -/
theorem Wr.step {T : List Nat} {told : List Tok} {last b tx : List Nat} {k : Kd} (w : Wr T told last) (g : Good k tx) (hb : Blank b) (hq : ∀ r, Bd last (b ++ (tx ++ r))) :
    Wr (T ++ b ++ tx) (told ++ [(k, tx, (T ++ b).length)]) tx := .mk (fun t ht => (List.mem_append.mp ht).elim (w.sm t) fun q => by rw [List.mem_singleton.mp q]; exact g.sm) fun r n hn hbd => by
  have e1 := w.lex (b ++ (tx ++ r)) n (by simpa [List.append_assoc] using hn) (hq r)
  have e2 : T ++ b ++ tx ++ r = T ++ (b ++ (tx ++ r)) := by simp [List.append_assoc]
  rw [e2, e1, lexF_blank hb]
  obtain ⟨m, rfl⟩ : ∃ m, n = m + 1 := ⟨n - 1, by omega⟩
  rw [lexF_good g m (T.length + b.length) r hbd, map_map']
  have hp : 0 < tx.length := by
    cases tx with
    | nil => exact absurd rfl g.ne
    | cons c t => exact Nat.succ_pos _
  simp only [List.length_append] at hn ⊢
  rw [lexF_fuel m (m + 1) _ r (by omega) (by omega)]
/-! ### boundaries -/
theorem bd_nil (r : List Nat) : Bd [] r := ⟨fun c d h => (by cases h), fun h => (by rcases h with h | h <;> cases h)⟩
theorem bd_head {tx r : List Nat} {d : Nat} (h : r.head? = some d) (h1 : inRun d = false) (h2 : d ≠ 61) : Bd tx r :=
  ⟨fun c e _ he _ hd => (by rw [h] at he; cases he; rw [h1] at hd; cases hd), fun _ e => (by rw [h] at e; cases e; exact h2 rfl)⟩
theorem bd_end (tx : List Nat) : Bd tx [] := ⟨fun c d _ h => (by cases h), fun _ h => (by cases h)⟩
theorem bd_app {tx t r : List Nat} (ht : t ≠ []) (h : Bd tx t) : Bd tx (t ++ r) := by
  cases t with
  | nil => exact absurd rfl ht
  | cons c t => exact h
/-! ### good tokens -/
theorem inRun_nb {c : Nat} (h : inRun c = true) : ¬ (c = 32 ∨ c = 10) ∧ c ≠ 35 ∧ c ≠ 39 := by
  refine ⟨fun e => ?_, fun e => ?_, fun e => ?_⟩
  · rcases e with e | e <;> subst e <;> revert h <;> decide
  · subst e; revert h; decide
  · subst e; revert h; decide
theorem bl_zero {c : Nat} {r : List Nat} (h1 : ¬ (c = 32 ∨ c = 10)) (h2 : c ≠ 35) : bl false (c :: r) = 0 := by
  show (if c = 32 ∨ c = 10 then 1 + bl false r else if c = 35 then 1 + bl true r else 0) = 0
  rw [if_neg h1, if_neg h2]
theorem takeWhile_app {p : Nat → Bool} : ∀ {l r : List Nat}, (∀ c ∈ l, p c = true) → (∀ d, r.head? = some d → p d = false) → (l ++ r).takeWhile p = l
  | [], r, _, h => by
    cases r with
    | nil => rfl
    | cons d r => show (d :: r).takeWhile p = []; rw [List.takeWhile_cons, h d rfl]; rfl
  | c :: l, r, hl, h => by
    show (c :: (l ++ r)).takeWhile p = c :: l
    rw [List.takeWhile_cons, if_pos (hl c (by simp)), takeWhile_app (fun d hd => hl d (by simp [hd])) h]
theorem tokenAt_cons (c : Nat) (r : List Nat) : tokenAt (c :: r) = if inRun c then (runKind ((c :: r).take (runLen (c :: r))), runLen (c :: r))
    else if c = 39 then (if r[txtLen r]? = some 39 ∧ txtLen r ≤ 40 then some .text else none, txtLen r + 2)
    else if (c :: r).take 2 = [61, 61] ∨ (c :: r).take 2 = [60, 61] then (some .sign, 2)
    else (if c ∈ signs then some .sign else none, 1) := rfl
theorem inRun_lt {c : Nat} (h : inRun c = true) : c < 1114112 := by
  have h1 : ∀ d ∈ letters, d < 1114112 := by decide
  have h2 : ∀ d ∈ digits, d < 1114112 := by decide
  unfold inRun at h
  rcases Bool.or_eq_true_iff.mp h with h | h
  · exact h1 c (of_decide_eq_true h)
  · rcases Bool.or_eq_true_iff.mp h with h | h
    · exact h2 c (of_decide_eq_true h)
    · rw [of_decide_eq_true h]; decide
theorem good_run {k : Kd} {tx : List Nat} (ne : tx ≠ []) (hr : ∀ c ∈ tx, inRun c = true) (hk : runKind tx = some k) : Good k tx := by
  obtain ⟨c, t, rfl⟩ : ∃ c t, tx = c :: t := by
    cases tx with
    | nil => exact absurd rfl ne
    | cons c t => exact ⟨c, t, rfl⟩
  have hc := hr c (by simp)
  have hn := inRun_nb hc
  refine ⟨fun c hc => inRun_lt (hr c hc), ne, fun r => bl_zero hn.1 hn.2.1, fun r hb => ?_⟩
  have hl : runLen ((c :: t) ++ r) = (c :: t).length := by
    unfold runLen
    rw [takeWhile_app hr fun d hd => ?_]
    have hlast : ∃ z, (c :: t).getLast? = some z := ⟨(c :: t).getLast (by simp), List.getLast?_eq_getLast (by simp)⟩
    obtain ⟨z, hz⟩ := hlast
    cases q : inRun d with
    | false => rfl
    | true => exact absurd (hb.1 z d hz hd (hr z (List.mem_of_getLast? hz)) q) id
  show tokenAt (c :: (t ++ r)) = _
  rw [tokenAt_cons, if_pos hc]
  show (runKind (((c :: t) ++ r).take (runLen ((c :: t) ++ r))), runLen ((c :: t) ++ r)) = _
  rw [hl, List.take_append, Nat.sub_self, List.take_length]
  simp [hk]
theorem good_text {w : List Nat} (h : ∀ c ∈ w, c ≠ 39 ∧ c ≠ 10 ∧ c < 1114112) (hl : w.length ≤ 40) : Good .text (39 :: (w ++ [39])) := by
  refine ⟨fun c hc => ?_, by simp, fun r => bl_zero (by decide) (by decide), fun r _ => ?_⟩
  · rcases List.mem_cons.mp hc with rfl | hc
    · decide
    · rcases List.mem_append.mp hc with hc | hc
      · exact (h c hc).2.2
      · rw [List.mem_singleton.mp hc]; decide
  have ht : txtLen (w ++ [39] ++ r) = w.length := by
    unfold txtLen
    rw [List.append_assoc, takeWhile_app (fun c hc => ?_) fun d hd => ?_]
    · have := h c hc
      simp [this.1, this.2.1]
    · cases hd
      decide
  have hg : (w ++ [39] ++ r)[w.length]? = some 39 := by rw [List.append_assoc, List.getElem?_append_right (Nat.le_refl _), Nat.sub_self]; rfl
  show tokenAt (39 :: (w ++ [39] ++ r)) = _
  rw [tokenAt_cons, if_neg (by decide), if_pos rfl, ht, if_pos ⟨hg, hl⟩]
  simp
def signTexts : List (List Nat) := [[40], [41], [91], [93], [123], [125], [44], [59], [58], [46], [61], [61, 61], [60], [60, 61], [43], [45], [42]]
theorem tokenAt_sign1 {c : Nat} {r : List Nat} (h1 : inRun c = false) (h2 : c ≠ 39) (h3 : c ∈ signs) (h4 : (c = 61 ∨ c = 60) → r.head? ≠ some 61) : tokenAt (c :: r) = (some .sign, 1) := by
  rw [tokenAt_cons, h1, if_neg Bool.false_ne_true, if_neg h2, if_neg, if_pos h3]
  intro q
  have hh : (c = 61 ∨ c = 60) ∧ r.head? = some 61 := by
    cases r with
    | nil => rcases q with q | q <;> simp at q
    | cons d r =>
      rcases q with q | q
      · have q' : [c, d] = [61, 61] := by simpa using q
        simp at q'
        exact ⟨.inl q'.1, by rw [q'.2]; rfl⟩
      · have q' : [c, d] = [60, 61] := by simpa using q
        simp at q'
        exact ⟨.inr q'.1, by rw [q'.2]; rfl⟩
  exact h4 hh.1 hh.2
theorem good_sign {tx : List Nat} (h : tx ∈ signTexts) : Good .sign tx := by
  have one : ∀ c : Nat, inRun c = false → c ≠ 39 → c ∈ signs → ¬ (c = 32 ∨ c = 10) → c ≠ 35 → Good .sign [c] := fun c h1 h2 h3 h4 h5 =>
    ⟨fun d hd => by rw [List.mem_singleton.mp hd]; exact (by decide : ∀ e ∈ signs, e < 1114112) c h3, by simp, fun r => bl_zero h4 h5, fun r hb => tokenAt_sign1 h1 h2 h3 fun q => hb.2 (by rcases q with q | q <;> simp [q])⟩
  simp only [signTexts, List.mem_cons, List.not_mem_nil, or_false] at h
  rcases h with rfl | rfl | rfl | rfl | rfl | rfl | rfl | rfl | rfl | rfl | rfl | rfl | rfl | rfl | rfl | rfl | rfl
  · exact one _ (by decide) (by decide) (by decide) (by decide) (by decide)
  · exact one _ (by decide) (by decide) (by decide) (by decide) (by decide)
  · exact one _ (by decide) (by decide) (by decide) (by decide) (by decide)
  · exact one _ (by decide) (by decide) (by decide) (by decide) (by decide)
  · exact one _ (by decide) (by decide) (by decide) (by decide) (by decide)
  · exact one _ (by decide) (by decide) (by decide) (by decide) (by decide)
  · exact one _ (by decide) (by decide) (by decide) (by decide) (by decide)
  · exact one _ (by decide) (by decide) (by decide) (by decide) (by decide)
  · exact one _ (by decide) (by decide) (by decide) (by decide) (by decide)
  · exact one _ (by decide) (by decide) (by decide) (by decide) (by decide)
  · exact one _ (by decide) (by decide) (by decide) (by decide) (by decide)
  · exact ⟨by decide, by simp, fun r => bl_zero (by decide) (by decide), fun r _ => rfl⟩
  · exact one _ (by decide) (by decide) (by decide) (by decide) (by decide)
  · exact ⟨by decide, by simp, fun r => bl_zero (by decide) (by decide), fun r _ => rfl⟩
  · exact one _ (by decide) (by decide) (by decide) (by decide) (by decide)
  · exact one _ (by decide) (by decide) (by decide) (by decide) (by decide)
  · exact one _ (by decide) (by decide) (by decide) (by decide) (by decide)
/-- the law's names: x or q, then at most 18 of abz9_ -/
theorem good_name {c : Nat} {t : List Nat} (hc : c = 120 ∨ c = 113) (ht : ∀ d ∈ t, d ∈ [97, 98, 122, 57, 95]) (hl : t.length ≤ 18) : Good .name (c :: t) := by
  have hr : ∀ d ∈ c :: t, inRun d = true := fun d hd => by
    rcases List.mem_cons.mp hd with rfl | hd
    · rcases hc with rfl | rfl <;> decide
    · have h := ht d hd
      simp only [List.mem_cons, List.not_mem_nil, or_false] at h
      rcases h with rfl | rfl | rfl | rfl | rfl <;> decide
  have hw : ¬ (c :: t) ∈ words := fun h => by
    have key : ∀ w ∈ words, w.head? ≠ some 120 ∧ w.head? ≠ some 113 := by decide
    have k := key _ h
    rcases hc with rfl | rfl
    · exact k.1 rfl
    · exact k.2 rfl
  have hcl : c ∈ letters := by rcases hc with rfl | rfl <;> decide
  refine good_run (by simp) hr ?_
  unfold runKind
  have hn : isName (c :: t) = true := by
    unfold isName
    have ha : (c :: t).all inRun = true := List.all_eq_true.mpr hr
    rw [ha, decide_eq_false hw]
    simp [hcl]
    omega
  rw [if_neg hw, if_pos hn]
/-! ### refused pieces -/
theorem lexF_wrong {n off : Nat} {l : List Nat} {c : Nat} {r : List Nat} (h : l.drop (bl false l) = c :: r) (hk : (tokenAt (c :: r)).1 = none) : lexF (n + 1) off l = .error (off + bl false l) := by
  unfold lexF
  rw [h]
  cases e : tokenAt (c :: r) with
  | mk a b => rw [e] at hk; simp only at hk; subst hk; simp only [e]
theorem lexF_end {n off : Nat} {l : List Nat} (h : l.drop (bl false l) = []) : lexF n off l = .ok [] := by
  cases n with
  | zero => rfl
  | succ n => unfold lexF; rw [h]
end Lex

set_option linter.all false
set_option maxRecDepth 100000
namespace Lex
def blanks : List (List Nat) := [[], [32], [10], [32, 32, 32], [35, 32, 97, 32, 39, 98, 10], [32, 35, 32, 105, 102, 32, 120, 10, 32, 32], [35, 10, 10]]
theorem bl_f1 {c : Nat} {r : List Nat} (h : c = 32 ∨ c = 10) : bl false (c :: r) = 1 + bl false r := by
  show (if c = 32 ∨ c = 10 then 1 + bl false r else if c = 35 then 1 + bl true r else 0) = _
  rw [if_pos h]
theorem bl_f2 {r : List Nat} : bl false (35 :: r) = 1 + bl true r := rfl
theorem bl_t1 {c : Nat} {r : List Nat} (h : c ≠ 10) : bl true (c :: r) = 1 + bl true r := by
  show (if c = 10 then 1 + bl false r else 1 + bl true r) = _
  rw [if_neg h]
theorem bl_t2 {r : List Nat} : bl true (10 :: r) = 1 + bl false r := rfl
theorem blank_of {b : List Nat} (h : b ∈ blanks) : Blank b := by
  simp only [blanks, List.mem_cons, List.not_mem_nil, or_false] at h
  intro r
  rcases h with rfl | rfl | rfl | rfl | rfl | rfl | rfl <;> simp [bl, List.cons_append, List.nil_append] <;> omega
theorem blank_head {b : List Nat} (h : b ∈ blanks) (hn : b ≠ []) : ∃ d, b.head? = some d ∧ inRun d = false ∧ d ≠ 61 := by
  simp only [blanks, List.mem_cons, List.not_mem_nil, or_false] at h
  rcases h with rfl | rfl | rfl | rfl | rfl | rfl | rfl
  · exact absurd rfl hn
  all_goals exact ⟨_, rfl, by decide, by decide⟩
theorem blank_len {b : List Nat} (h : b ∈ blanks) : b.length ≤ 10 := by
  simp only [blanks, List.mem_cons, List.not_mem_nil, or_false] at h
  rcases h with rfl | rfl | rfl | rfl | rfl | rfl | rfl <;> decide
theorem bd_blank {b tx r : List Nat} (h : b ∈ blanks) (hn : b ≠ []) : Bd tx (b ++ r) := by
  obtain ⟨d, h1, h2, h3⟩ := blank_head h hn
  refine bd_head (d := d) ?_ h2 h3
  cases b with
  | nil => exact absurd rfl hn
  | cons c b => exact h1
def wordMenu : List (List Nat) := [105, 109, 112, 111, 114, 116] :: ["as", "nonlocal", "fn", "none", "or", "continue", "def"].map cp
theorem good_word {tx : List Nat} (h : tx ∈ wordMenu) : Good .word tx ∧ tx.length ≤ 42 := by
  have hk : ∀ t ∈ wordMenu, runKind t = some .word ∧ t ≠ [] ∧ t.length ≤ 42 ∧ t.all inRun = true := by decide
  obtain ⟨h1, h2, h3, h4⟩ := hk tx h
  exact ⟨good_run h2 (List.all_eq_true.mp h4) h1, h3⟩
def numberMenu : List (List Nat) := [[48], [55], [49, 48], List.replicate 18 57, 49 :: List.replicate 17 48]
theorem good_number {tx : List Nat} (h : tx ∈ numberMenu) : Good .number tx ∧ tx.length ≤ 42 := by
  have hk : ∀ t ∈ numberMenu, runKind t = some .number ∧ t ≠ [] ∧ t.length ≤ 42 ∧ t.all inRun = true := by decide
  obtain ⟨h1, h2, h3, h4⟩ := hk tx h
  exact ⟨good_run h2 (List.all_eq_true.mp h4) h1, h3⟩
theorem sign_len {tx : List Nat} (h : tx ∈ signTexts) : tx.length ≤ 42 := by
  have hk : ∀ t ∈ signTexts, t.length ≤ 42 := by decide
  exact hk tx h
/-! ### pieces that are refused -/
def wrongs : List (List Nat) := [[65], [36], [39, 97], 39 :: (List.replicate 41 97 ++ [39]), List.replicate 19 57, [48, 49], [49, 97], [95, 97], List.replicate 21 97, [33], [9], [39, 97, 10, 39], [34]]
def drops : List Nat → List Nat := fun l => l.drop (bl false l)
theorem wrong_at {wr t : List Nat} (h : wr ∈ wrongs) (ht : t = [] ∨ t = [32]) (n off : Nat) : lexF (n + 1) off (10 :: (wr ++ t)) = .error (off + 1) := by
  have hk : ∀ x ∈ wrongs, ∀ t ∈ [[], [32]], bl false (10 :: (x ++ t)) = 1 ∧ (x ++ t) ≠ [] ∧ (tokenAt (x ++ t)).1 = none := by decide
  obtain ⟨h1, h2, h3⟩ := hk wr h t (by rcases ht with rfl | rfl <;> simp)
  obtain ⟨c, r, e⟩ : ∃ c r, wr ++ t = c :: r := by
    cases q : wr ++ t with
    | nil => exact absurd q h2
    | cons c r => exact ⟨c, r, rfl⟩
  have := lexF_wrong (n := n) (off := off) (l := 10 :: (wr ++ t)) (c := c) (r := r) (by rw [h1, e]; rfl) (by rw [← e]; exact h3)
  rw [this, h1]
theorem Wr.told {T : List Nat} {told : List Tok} {last : List Nat} (w : Wr T told last) : lexF (T.length + 1) 0 T = .ok told := by
  have h := w.lex [] (T.length + 1) (by simp) (bd_end _)
  rw [List.append_nil, lexF_end (l := []) rfl] at h
  rw [h]
  show Except.ok (told ++ []) = _
  rw [List.append_nil]
def endMark : List Nat := [10, 35, 32, 101, 110, 100]
theorem Wr.ended {T : List Nat} {told : List Tok} {last : List Nat} (w : Wr T told last) : lexF ((T ++ endMark).length + 1) 0 (T ++ endMark) = .ok told := by
  have h := w.lex endMark ((T ++ endMark).length + 1) (by simp) (bd_head (d := 10) rfl (by decide) (by decide))
  rw [lexF_end (l := endMark) (by decide)] at h
  rw [h]
  show Except.ok (told ++ []) = _
  rw [List.append_nil]
theorem Wr.wrong {T : List Nat} {told : List Tok} {last wr t : List Nat} (w : Wr T told last) (h : wr ∈ wrongs) (ht : t = [] ∨ t = [32]) : lexF ((T ++ 10 :: (wr ++ t)).length + 1) 0 (T ++ 10 :: (wr ++ t)) = .error (T.length + 1) := by
  have h1 := w.lex (10 :: (wr ++ t)) ((T ++ 10 :: (wr ++ t)).length + 1) (Nat.lt_succ_self _) (bd_head (d := 10) rfl (by decide) (by decide))
  rw [h1, wrong_at h ht]
  rfl
/-! ### last texts -/
theorem bl_spaces : ∀ n : Nat, bl false (List.replicate n 32) = n
  | 0 => rfl
  | n + 1 => by
    rw [List.replicate_succ, bl_f1 (.inl rfl), bl_spaces n]
    omega
theorem lex_a_blanks (n m : Nat) : lexF (n + 1) 0 (97 :: List.replicate m 32) = .ok [(.name, [97], 0)] := by
  have g : Good .name [97] := good_run (by simp) (by decide) (by decide)
  have h := lexF_good g n 0 (List.replicate m 32) (by
    cases m with
    | zero => exact bd_end _
    | succ m => exact bd_head (d := 32) rfl (by decide) (by decide))
  have e : [97] ++ List.replicate m 32 = 97 :: List.replicate m 32 := rfl
  rw [e, lexF_end (l := List.replicate m 32) (by rw [bl_spaces]; simp)] at h
  rw [h]
  rfl
theorem lex_four : lexF 6 0 (cp "a<==b") = .ok [(.name, [97], 0), (.sign, [60, 61], 1), (.sign, [61], 3), (.name, [98], 4)] := by rfl
theorem flat1 (n c : Nat) : (List.replicate n [c]).flatten = List.replicate n c := by
  induction n with
  | zero => rfl
  | succ n ih => rw [List.replicate_succ, List.flatten_cons, ih, List.replicate_succ]; rfl
end Lex

set_option Elab.async false
set_option linter.all false
set_option maxRecDepth 100000
set_option maxHeartbeats 4000000
/-! What the laws share: draws, heaps that only grow. -/
namespace L2
open PySem PySem.Spec PyProof.Rows
/-- the pool of draws at p: two numbers -/
def PoolAt (H : Hp) (p : Addr) : Prop := ∃ a b : Int, H p = some (.lst [.int a, .int b]) ∧ 0 ≤ a ∧ 0 ≤ b ∧ b < 2147483647
/-- a draw: any number below n -/
def spTake : Sp := fun vs H Q _ => ∃ (p : Addr) (n : Int), vs = [.ref p, .int n] ∧ PoolAt H p ∧ 0 < n ∧ n < 1000000 ∧
  ∀ (r : Int) (o : HO), 0 ≤ r → r < n → PoolAt (upd H p o) p → (∃ a b, o = .lst [.int a, .int b]) → Q (.int r) (upd H p o)
/-- a new pool -/
def spPool (K : PySem.W.Frag) : Sp := fun vs H Q _ => ∃ (a : Addr) (k : Int) (ns : List Int), vs = [.ref a, .int k] ∧ SqL K H a (ns.map V.int) ∧ 0 ≤ k ∧ k < 100 ∧
  ∀ (p : Addr) (x y : Int), H p = none → PoolAt (upd H p (.lst [.int x, .int y])) p → Q (.ref p) (upd H p (.lst [.int x, .int y]))
theorem b01 (b : Bool) : -(2 ^ 64) < (if b = true then (1 : Int) else 0) ∧ (if b = true then (1 : Int) else 0) < 2 ^ 64 := by cases b <;> decide
theorem b0 (b : Bool) : 0 ≤ (if b = true then (1 : Int) else 0) := by cases b <;> decide
theorem ints_at {ns : List Int} {k : Int} (h0 : 0 ≤ k) (h : k < (ns.length : Int)) : ∃ c : Int, atI (ns.map V.int) k = some (.int c) := by
  obtain ⟨n, rfl⟩ := Int.eq_ofNat_of_zero_le h0
  have hn : n < ns.length := by omega
  refine ⟨ns[n], ?_⟩
  refine atI_nat ?_
  rw [List.getElem?_map, List.getElem?_eq_getElem hn]
  rfl
theorem yes_if {σ : St} {H : Hp} {A B : Hp → Prop} (h : A H) : tYes σ H fun b H3 => if b = true then A H3 else B H3 := by
  show (if true = true then A H else B H)
  exact iteT h
theorem same_new {H : Hp} {p : Addr} {o : HO} (h : H p = none) : Same H (upd H p o) := fun b u e => by rw [upd_ne (ne_of_none e h)]; exact e
theorem same_exv {H : Hp} {a d C : Addr} {fl : List (Str × V)} (ha : H a = none) (hd : H d = none) : Same H (upd (upd H d (exd d fl)) a (exo a C (some d))) := fun b u e => by
  rw [upd_ne (ne_of_none e ha), upd_ne (ne_of_none e hd)]; exact e
/-- an own error at a, its dict at d -/
def Er (H : Hp) (a d C : Addr) (fl : List (Str × V)) : Prop := H a = some (exo a C (some d)) ∧ H d = some (exd d fl)
theorem Er.mono {H H' : Hp} {a d C : Addr} {fl : List (Str × V)} (h : Er H a d C fl) (S : Same H H') : Er H' a d C fl := ⟨S _ _ h.1, S _ _ h.2⟩
theorem er_new {H : Hp} {a d C : Addr} {fl : List (Str × V)} (hn : a ≠ d) : Er (upd (upd H d (exd d fl)) a (exo a C (some d))) a d C fl := ⟨upd_same, by rw [upd_ne (Ne.symm hn), upd_same]⟩
/-- all but the object at p stands -/
def Keep (p : Addr) (H H' : Hp) : Prop := ∀ b o, b ≠ p → H b = some o → H' b = some o
theorem Keep.of {p : Addr} {H H' : Hp} (S : Same H H') : Keep p H H' := fun b o _ e => S b o e
theorem Keep.trans {p : Addr} {H H1 H2 : Hp} (a : Keep p H H1) (b : Keep p H1 H2) : Keep p H H2 := fun c o n e => b c o n (a c o n e)
theorem keep_upd {p : Addr} {H : Hp} {o : HO} : Keep p H (upd H p o) := fun b u n e => by rw [upd_ne n]; exact e
theorem Keep.new {p : Addr} {H0 H H' : Hp} (k : Keep p H H') (h0 : H0 p = none) (S : Same H0 H) : Same H0 H' := fun b o e => k b o (ne_of_none e h0) (S b o e)
end L2

set_option Elab.async false
set_option linter.all false
set_option maxRecDepth 100000
set_option maxHeartbeats 4000000
/-! Texts as lists of code points; a few rules more. -/
namespace L2
open PySem PySem.Spec PyProof.Rows
/-- the text of these code points -/
def S (l : List Nat) : Str := ⟨l.toArray⟩
theorem S_list (l : List Nat) : (S l).cps.toList = l := by simp [S]
theorem S_len (l : List Nat) : (S l).length = l.length := by simp [S, Str.length]
theorem S_of (x : Str) : S x.cps.toList = x := by simp [S]
theorem S_inj {a b : List Nat} (h : S a = S b) : a = b := by rw [← S_list a, h, S_list]
theorem S_append (a b : List Nat) : S a ++ S b = S (a ++ b) := by
  show Str.mk (_ ++ _) = S (a ++ b)
  simp [S]
section
variable {X : Cx}
theorem pe_gi {x : Str} {i : Int} {pos : Pos} (hg : Gl X x) (hm : ∃ t, X.mg x = some (.int i t)) (hd : (x == ("__debug__" : Str)) = false := by decide) : PE X (.Name x pos) (tC (.int i)) := by
  obtain ⟨t, hm⟩ := hm
  exact pe_glob hg hm ⟨_, rfl⟩ hd
theorem pe_gs {x z : Str} {pos : Pos} (hg : Gl X x) (hm : ∃ t, X.mg x = some (.str z t)) (hd : (x == ("__debug__" : Str)) = false := by decide) : PE X (.Name x pos) (tC (.str z)) := by
  obtain ⟨t, hm⟩ := hm
  exact pe_glob hg hm ⟨_, rfl⟩ hd
/-- a text times a number -/
def rRepS : R2 := fun x y H Q => ∃ (z : Str) (n : Int), x = .str z ∧ y = .int n ∧ 1 ≤ n ∧ n ≤ 100000 ∧ z.length ≤ 100 ∧ Q (.str (S (List.replicate n.toNat z.cps.toList).flatten)) H
theorem foldl_app : ∀ (l : List (Array Nat)) (acc : Array Nat), (l.foldl (· ++ ·) acc).toList = acc.toList ++ (l.map (·.toList)).flatten
  | [], acc => by simp
  | a :: l, acc => by
    rw [List.foldl_cons, foldl_app l (acc ++ a)]
    simp
theorem str_ext {a b : Str} (h : a.cps.toList = b.cps.toList) : a = b := by rw [← S_of a, ← S_of b, h]
theorem mul_eq {z : Str} {n : Int} (h1 : 1 ≤ n) : Txt.mul z n = S (List.replicate n.toNat z.cps.toList).flatten := by
  unfold Txt.mul
  rw [if_neg (by omega)]
  by_cases h2 : (n == 1 || z.length == 0) = true
  · rw [if_pos h2]
    apply str_ext
    rw [S_list]
    rcases Bool.or_eq_true_iff.mp h2 with h | h
    · have : n = 1 := by simpa using h
      subst this
      simp
    · have hz : z.cps.toList = [] := by
        have : z.cps.size = 0 := by simpa [Str.length] using h
        apply List.eq_nil_of_length_eq_zero
        rw [Array.length_toList]; exact this
      rw [hz]
      simp
  · rw [if_neg h2]
    apply str_ext
    rw [S_list]
    show ((List.replicate n.toNat z.cps).foldl (· ++ ·) #[]).toList = _
    rw [foldl_app]
    simp
theorem op_rep_str : OpR X (binaryOp .Mult) rRepS := by
  intro pins s σ H x y v u Q I rx ry h
  obtain ⟨z, n, rfl, rfl, h1, h2, h3, q⟩ := h
  obtain ⟨t, rfl⟩ := rx
  obtain ⟨t', rfl⟩ := ry
  refine PySem.SB.mul ⟨?_, fun _ _ => ?_, fun _ _ => ?_⟩ fun tk k => ⟨.str _, H, I.tok _, ⟨_, by rw [mul_eq h1]⟩, q⟩
  · have a : ¬ n < -(2 ^ 63) := by omega
    have b : ¬ n ≥ 2 ^ 63 := by omega
    rw [decide_eq_false a, decide_eq_false b]; rfl
  · have : (100 : Int) ≤ (2 ^ 63 - 1) / n := by
      refine (Int.le_ediv_iff_mul_le (by omega)).mpr ?_
      omega
    omega
  · have : z.length * n.toNat ≤ 100 * 100000 := Nat.mul_le_mul h3 (by omega)
    show decide (_ > sizeLine) = false
    rw [sizeLine_eq]
    exact decide_eq_false (by omega)
/-- repr of a number, of None -/
def rReprF : List V → Hp → VK → Prop := fun xs H Q => (∃ i : Int, xs = [.int i] ∧ i.natAbs.log2 < 1920 ∧ Q (.str (toString i)) H) ∨ (xs = [.non] ∧ Q (.str "None") H)
theorem call_reprF : CallR X (.builtin "repr") rReprF := by
  intro pins s σ H xs us Q I r h
  rcases h with ⟨i, rfl, hz, q⟩ | ⟨rfl, q⟩
  · obtain ⟨u, rfl, t, rfl⟩ := vals1 r
    exact PySem.P.repr_of_int hz ⟨.str _, H, I.tok _, ⟨_, rfl⟩, q⟩
  · obtain ⟨u, rfl, rfl⟩ := vals1 r
    exact PySem.P.repr_of_none ⟨.str _, H, I.tok _, ⟨_, rfl⟩, q⟩
end
end L2

set_option Elab.async false
set_option linter.all false
set_option maxRecDepth 100000
set_option maxHeartbeats 0
namespace K14
open PySem PySem.Spec PyProof.Rows L2 He KH PySem.KX
open PySem.W (Frag)
abbrev P : Program := PySem.Challenge.pw_keptbindings_k14_layouts_compared
def top (i : Nat) : Stmt := P.main.body.getD i (.Pass ⟨0, 0, 0, 0⟩)
abbrev s__wall : Stmt := top 0
abbrev s_is_place : Stmt := top 2
abbrev s_is_piece : Stmt := top 4
abbrev s_same_layout : Stmt := top 5
abbrev s_is_in_run : Stmt := top 26
abbrev s_is_name : Stmt := top 27
abbrev s_run_end : Stmt := top 28
abbrev s_blank_end : Stmt := top 29
abbrev s_run_kind : Stmt := top 30
abbrev s_token_at : Stmt := top 31
abbrev s_tokens : Stmt := top 32
abbrev s_parse : Stmt := top 39
abbrev s_parts_of : Stmt := top 43
abbrev s__law_pool : Stmt := top 47
abbrev s__law_take : Stmt := top 48
abbrev s__law_pieces : Stmt := top 49
abbrev s__law_put : Stmt := top 50
abbrev s_law : Stmt := top 51
abbrev i_BadText : Stmt := inClass (top 8) 0
abbrev i_BadSyntax : Stmt := inClass (top 9) 0
abbrev i_BadName : Stmt := inClass (top 10) 0
abbrev i_BadProject : Stmt := inClass (top 11) 0
abbrev i_BadPlace : Stmt := inClass (top 12) 0
abbrev m_Links___init__ : Stmt := inClass (top 16) 0
abbrev m_Links_gather : Stmt := inClass (top 16) 6
abbrev m_Links_look_at_shares : Stmt := inClass (top 16) 15
abbrev m_Links_look_at_imports : Stmt := inClass (top 16) 16
abbrev m_Links_look_at_asked : Stmt := inClass (top 16) 19
abbrev m_Links_look_at_classes : Stmt := inClass (top 16) 20
abbrev m_Links_look_at_points : Stmt := inClass (top 16) 23
abbrev m_Links_look_at_keywords : Stmt := inClass (top 16) 26
abbrev m_Reader___init__ : Stmt := inClass (top 36) 0
abbrev m_Reader_read_module : Stmt := inClass (top 38) 0
abbrev m_Reader_next_shown : Stmt := inClass (top 36) 1
abbrev m_Scope___init__ : Stmt := inClass (top 41) 0
abbrev m_Facts___init__ : Stmt := inClass (top 42) 0
abbrev m_Project___init__ : Stmt := inClass (top 45) 0
abbrev m_Project_modules : Stmt := inClass (top 45) 1
abbrev m_Project_text_of : Stmt := inClass (top 45) 2
def d__wall : DefD := ⟨("_wall", none), "_wall", "_wall", defArgs s__wall, defBody s__wall, defScope s__wall, [], []⟩
def d_is_place : DefD := ⟨("is_place", none), "is_place", "is_place", defArgs s_is_place, defBody s_is_place, defScope s_is_place, [], []⟩
def d_is_piece : DefD := ⟨("is_piece", none), "is_piece", "is_piece", defArgs s_is_piece, defBody s_is_piece, defScope s_is_piece, [], []⟩
def d_same_layout : DefD := ⟨("same_layout", none), "same_layout", "same_layout", defArgs s_same_layout, defBody s_same_layout, defScope s_same_layout, [], []⟩
def d_is_in_run : DefD := ⟨("is_in_run", none), "is_in_run", "is_in_run", defArgs s_is_in_run, defBody s_is_in_run, defScope s_is_in_run, [], []⟩
def d_is_name : DefD := ⟨("is_name", none), "is_name", "is_name", defArgs s_is_name, defBody s_is_name, defScope s_is_name, [], []⟩
def d_run_end : DefD := ⟨("run_end", none), "run_end", "run_end", defArgs s_run_end, defBody s_run_end, defScope s_run_end, [], []⟩
def d_blank_end : DefD := ⟨("blank_end", none), "blank_end", "blank_end", defArgs s_blank_end, defBody s_blank_end, defScope s_blank_end, [], []⟩
def d_run_kind : DefD := ⟨("run_kind", none), "run_kind", "run_kind", defArgs s_run_kind, defBody s_run_kind, defScope s_run_kind, [], []⟩
def d_token_at : DefD := ⟨("token_at", none), "token_at", "token_at", defArgs s_token_at, defBody s_token_at, defScope s_token_at, [], []⟩
def d_tokens : DefD := ⟨("tokens", none), "tokens", "tokens", defArgs s_tokens, defBody s_tokens, defScope s_tokens, [], []⟩
def d_parse : DefD := ⟨("parse", none), "parse", "parse", defArgs s_parse, defBody s_parse, defScope s_parse, [], []⟩
def d_parts_of : DefD := ⟨("parts_of", none), "parts_of", "parts_of", defArgs s_parts_of, defBody s_parts_of, defScope s_parts_of, [], []⟩
def d__law_pool : DefD := ⟨("_law_pool", none), "_law_pool", "_law_pool", defArgs s__law_pool, defBody s__law_pool, defScope s__law_pool, [], []⟩
def d__law_take : DefD := ⟨("_law_take", none), "_law_take", "_law_take", defArgs s__law_take, defBody s__law_take, defScope s__law_take, [], []⟩
def d__law_pieces : DefD := ⟨("_law_pieces", none), "_law_pieces", "_law_pieces", defArgs s__law_pieces, defBody s__law_pieces, defScope s__law_pieces, [], []⟩
def d__law_put : DefD := ⟨("_law_put", none), "_law_put", "_law_put", defArgs s__law_put, defBody s__law_put, defScope s__law_put, [], []⟩
def d_law : DefD := ⟨("law", none), "law", "law", defArgs s_law, defBody s_law, defScope s_law, [], []⟩
def d_Links___init__ : DefD := ⟨("Links", some "__init__"), "__init__", "Links.__init__", defArgs m_Links___init__, defBody m_Links___init__, defScope m_Links___init__, [], []⟩
def d_Links_gather : DefD := ⟨("Links", some "gather"), "gather", "Links.gather", defArgs m_Links_gather, defBody m_Links_gather, defScope m_Links_gather, [], []⟩
def d_Links_look_at_shares : DefD := ⟨("Links", some "look_at_shares"), "look_at_shares", "Links.look_at_shares", defArgs m_Links_look_at_shares, defBody m_Links_look_at_shares, defScope m_Links_look_at_shares, [], []⟩
def d_Links_look_at_imports : DefD := ⟨("Links", some "look_at_imports"), "look_at_imports", "Links.look_at_imports", defArgs m_Links_look_at_imports, defBody m_Links_look_at_imports, defScope m_Links_look_at_imports, [], []⟩
def d_Links_look_at_asked : DefD := ⟨("Links", some "look_at_asked"), "look_at_asked", "Links.look_at_asked", defArgs m_Links_look_at_asked, defBody m_Links_look_at_asked, defScope m_Links_look_at_asked, [], []⟩
def d_Links_look_at_classes : DefD := ⟨("Links", some "look_at_classes"), "look_at_classes", "Links.look_at_classes", defArgs m_Links_look_at_classes, defBody m_Links_look_at_classes, defScope m_Links_look_at_classes, [], []⟩
def d_Links_look_at_points : DefD := ⟨("Links", some "look_at_points"), "look_at_points", "Links.look_at_points", defArgs m_Links_look_at_points, defBody m_Links_look_at_points, defScope m_Links_look_at_points, [], []⟩
def d_Links_look_at_keywords : DefD := ⟨("Links", some "look_at_keywords"), "look_at_keywords", "Links.look_at_keywords", defArgs m_Links_look_at_keywords, defBody m_Links_look_at_keywords, defScope m_Links_look_at_keywords, [], []⟩
def d_Reader___init__ : DefD := ⟨("Reader", some "__init__"), "__init__", "Expressions.__init__", defArgs m_Reader___init__, defBody m_Reader___init__, defScope m_Reader___init__, [], []⟩
def d_Reader_read_module : DefD := ⟨("Reader", some "read_module"), "read_module", "Reader.read_module", defArgs m_Reader_read_module, defBody m_Reader_read_module, defScope m_Reader_read_module, [], []⟩
def d_Reader_next_shown : DefD := ⟨("Reader", some "next_shown"), "next_shown", "Expressions.next_shown", defArgs m_Reader_next_shown, defBody m_Reader_next_shown, defScope m_Reader_next_shown, [], []⟩
def d_Scope___init__ : DefD := ⟨("Scope", some "__init__"), "__init__", "Scope.__init__", defArgs m_Scope___init__, defBody m_Scope___init__, defScope m_Scope___init__, [], []⟩
def d_Facts___init__ : DefD := ⟨("Facts", some "__init__"), "__init__", "Facts.__init__", defArgs m_Facts___init__, defBody m_Facts___init__, defScope m_Facts___init__, [], []⟩
def d_Project___init__ : DefD := ⟨("Project", some "__init__"), "__init__", "Project.__init__", defArgs m_Project___init__, defBody m_Project___init__, defScope m_Project___init__, [], []⟩
def d_Project_modules : DefD := ⟨("Project", some "modules"), "modules", "Project.modules", defArgs m_Project_modules, defBody m_Project_modules, defScope m_Project_modules, [], []⟩
def d_Project_text_of : DefD := ⟨("Project", some "text_of"), "text_of", "Project.text_of", defArgs m_Project_text_of, defBody m_Project_text_of, defScope m_Project_text_of, [], []⟩
def fl_Links : List Str := ["bases", "broken", "brought", "facts", "members", "opened", "parents", "places", "uses"]
def ms_Links : List Str := ["__init__", "gather", "look_at_shares", "look_at_imports", "look_at_asked", "look_at_classes", "look_at_points", "look_at_keywords"]
def fl_Reader : List Str := ["own_at", "own_calls", "own_first", "own_functions", "own_last", "own_length", "own_opened", "own_tokens"]
def ms_Reader : List Str := ["__init__", "read_module", "next_shown"]
def fl_Scope : List Str := ["kind", "module", "outer", "own_table", "shared", "start"]
def ms_Scope : List Str := ["__init__"]
def fl_Facts : List Str := ["asked", "classes", "defs", "imports", "keywords", "module", "points", "scopes", "selves", "shares", "stars", "targets", "top", "trees"]
def ms_Facts : List Str := ["__init__"]
def fl_Project : List Str := ["own_facts", "own_links", "own_texts"]
def ms_Project : List Str := ["__init__", "modules", "text_of"]
def frees : List Str := ["ValueError", "abs", "range", "isinstance", "int", "list", "all", "len", "dict", "NotImplemented", "max", "tuple", "str", "bool", "sorted", "min", "super"]
def globs : List Str := ["_wall", "is_place", "is_piece", "same_layout", "is_in_run", "is_name", "run_end", "blank_end", "run_kind", "token_at", "tokens", "parse", "parts_of", "_law_pool", "_law_take", "_law_pieces", "_law_put", "law", "BadText", "BadSyntax", "BadName", "BadProject", "BadPlace", "BUILTINS", "STANDING", "WORDS", "Links", "Reader", "Scope", "Facts", "Project"]
def need : Need where
  facts := [fun K => frees.all fun x => (Fa.free x).ok K,
    fun K => globs.all fun x => (Fa.glo x).ok K,
    fun K => (Fa.str "LETTERS" "abcdefghijklmnopqrstuvwxyz").ok K,
    fun K => (Fa.str "DIGITS" "0123456789").ok K,
    fun K => (Fa.str "SIGNS" "()[]{},;:.=<+-*").ok K,
    fun K => (Fa.int "MOST_SIGNS" (5000)).ok K,
    fun K => (Fa.int "MOST_IN_NAME" (20)).ok K,
    fun K => (Fa.int "MOST_DIGITS" (18)).ok K,
    fun K => (Fa.int "MOST_IN_TEXT" (40)).ok K,
    fun K => (Fa.int "MOST_OPEN" (30)).ok K,
    fun K => (Fa.int "MOST_IN_TREE" (100)).ok K,
    fun K => lstB K "BUILTINS" [.str "len", .str "range", .str "show"],
    fun K => tupB K "STANDING" [.str "module", .str "aliased", .str "linked", .str "renamed"],
    fun K => lstB K "WORDS" [.str ⟨#[105, 109, 112, 111, 114, 116]⟩, .str "from", .str "as", .str "def", .str "class", .str "global", .str "nonlocal", .str "if", .str "else", .str "while", .str "for", .str "in", .str "return", .str "break", .str "continue", .str "pass", .str "and", .str "or", .str "not", .str "fn", .str "none", .str "true", .str "false"],
    exB P "BadText" ["at"],
    exB P "BadSyntax" ["at"],
    exB P "BadName" ["value"],
    exB P "BadProject" ["place"],
    exB P "BadPlace" ["value"],
    fun K => decide (PySem.W.typeIn K (.ref sysModules) = some (.type "dict")),
    fun K => (Fa.cls "Links").ok K,
    fun K => fl_Links.all fun f => (Fa.noat "Links" f).ok K,
    fun K => ms_Links.all fun f => (Fa.meth "Links" f).ok K,
    fun K => (Fa.mkr "Links").ok K,
    fun K => (Fa.cls "Reader").ok K,
    fun K => fl_Reader.all fun f => (Fa.noat "Reader" f).ok K,
    fun K => ms_Reader.all fun f => (Fa.meth "Reader" f).ok K,
    fun K => (Fa.mkr "Reader").ok K,
    fun K => (Fa.cls "Scope").ok K,
    fun K => fl_Scope.all fun f => (Fa.noat "Scope" f).ok K,
    fun K => ms_Scope.all fun f => (Fa.meth "Scope" f).ok K,
    fun K => (Fa.mkr "Scope").ok K,
    fun K => (Fa.cls "Facts").ok K,
    fun K => fl_Facts.all fun f => (Fa.noat "Facts" f).ok K,
    fun K => ms_Facts.all fun f => (Fa.meth "Facts" f).ok K,
    fun K => (Fa.mkr "Facts").ok K,
    fun K => (Fa.cls "Project").ok K,
    fun K => fl_Project.all fun f => (Fa.noat "Project" f).ok K,
    fun K => ms_Project.all fun f => (Fa.meth "Project" f).ok K,
    fun K => (Fa.mkr "Project").ok K]
  defs := [d__wall, d_is_place, d_is_piece, d_same_layout, d_is_in_run, d_is_name, d_run_end, d_blank_end, d_run_kind, d_token_at, d_tokens, d_parse, d_parts_of, d__law_pool, d__law_take, d__law_pieces, d__law_put, d_law, d_Links___init__, d_Links_gather, d_Links_look_at_shares, d_Links_look_at_imports, d_Links_look_at_asked, d_Links_look_at_classes, d_Links_look_at_points, d_Links_look_at_keywords, d_Reader___init__, d_Reader_read_module, d_Reader_next_shown, d_Scope___init__, d_Facts___init__, d_Project___init__, d_Project_modules, d_Project_text_of]
  inits := [("BadText", i_BadText), ("BadSyntax", i_BadSyntax), ("BadName", i_BadName), ("BadProject", i_BadProject), ("BadPlace", i_BadPlace)]
abbrev R : PySem.W.OpenRow := PySem.W.OpenLaw.row PySem.Challenge.rw_keptbindings_k14_layouts_compared
abbrev hk : PySem.W.Hook := hookY 5 need
def ob (s : PySem.W.SharedT) : AlX := obsYG 5 need (HandSHeadRun.getT s)
theorem ob_eq (s : PySem.W.SharedT) : ob s = hk.obs s.abs := obsYG_eq (HandSHeadRun.getT_eq s)
abbrev loose : List Str := (["_wall", "__name__", "is_place", "is_piece", "same_layout", "KeptError", "BadText", "BadSyntax", "BadName", "BadProject", "BadPlace", "BUILTINS", "STANDING", "Links", "LETTERS", "DIGITS", "WORDS", "SIGNS", "MOST_SIGNS", "MOST_IN_NAME", "MOST_DIGITS", "MOST_IN_TEXT", "is_in_run", "is_name", "run_end", "blank_end", "run_kind", "token_at", "tokens", "MOST_OPEN"] : List Str) ++ (["MOST_IN_TREE", "Expressions", "Reader", "parse", "Scope", "Facts", "parts_of", "Project", "_law_pool", "_law_take", "_law_pieces", "_law_put"] : List Str)
theorem map3 {A0 A B C : Type} {o : Option A0} {f : A0 → A} {g : A0 → B} {h : A0 → C} {a : A} {b : B} {c : C} (h1 : o.map f = some a) (h2 : o.map g = some b) (h3 : o.map h = some c) : o.map (fun s => (f s, g s, h s)) = some (a, b, c) := by
  cases o with
  | none => cases h1
  | some s =>
    have e1 : f s = a := Option.some.inj h1
    have e2 : g s = b := Option.some.inj h2
    have e3 : h s = c := Option.some.inj h3
    show some (f s, g s, h s) = some (a, b, c)
    rw [e1, e2, e3]
abbrev vw : Program := PySem.W.view R.prog [51]
open PySem.W PySem.Calls in
theorem run1 (w : World) (os : OsState) : (HandSHeadRun.endF (HandSHeadRun.stepQ (HandSHeadRun.denQ HandSHeadRun.tabQ) R.prog w) 12000 R.prog w os).map (fun s => HandSHeadRun.looksF R.prog (boot_heap w.params) s.abs) = some true := by
  kernel_rfl
open PySem.W PySem.Calls in
theorem run2 (w : World) (os : OsState) : (HandSHeadRun.endF (HandSHeadRun.stepQ (HandSHeadRun.denQ HandSHeadRun.tabQ) R.prog w) 12000 R.prog w os).map (fun s => HandSHeadRun.seenQ vw loose (importedModules R.prog.main.body) (fun s => xlAt vw [] s && recOk R.toRowW.records s) s.abs) = some (openGood vw loose) := by
  kernel_rfl
open PySem.W PySem.Calls in
theorem run3 (w : World) (os : OsState) : (HandSHeadRun.endF (HandSHeadRun.stepQ (HandSHeadRun.denQ HandSHeadRun.tabQ) R.prog w) 12000 R.prog w os).map ob = some (valX need) := by
  kernel_rfl
theorem run (w : World) : HandSHeadRun.RunEq R vw hk ob 12000 loose w := fun os => map3 (run1 w os) (run2 w os) (run3 w os)
/-- what the top has, by names -/
structure Txt (K : Frag) (mg : Str → Option Value) : Prop where
  n_ValueError : mg "ValueError" = none
  n_abs : mg "abs" = none
  n_range : mg "range" = none
  n_isinstance : mg "isinstance" = none
  n_int : mg "int" = none
  n_list : mg "list" = none
  n_all : mg "all" = none
  n_len : mg "len" = none
  n_dict : mg "dict" = none
  n_NotImplemented : mg "NotImplemented" = none
  n_max : mg "max" = none
  n_tuple : mg "tuple" = none
  n_str : mg "str" = none
  n_bool : mg "bool" = none
  n_sorted : mg "sorted" = none
  n_min : mg "min" = none
  n_super : mg "super" = none
  g__wall : mg "_wall" = some (.ref (ga K "_wall"))
  g_is_place : mg "is_place" = some (.ref (ga K "is_place"))
  g_is_piece : mg "is_piece" = some (.ref (ga K "is_piece"))
  g_same_layout : mg "same_layout" = some (.ref (ga K "same_layout"))
  g_is_in_run : mg "is_in_run" = some (.ref (ga K "is_in_run"))
  g_is_name : mg "is_name" = some (.ref (ga K "is_name"))
  g_run_end : mg "run_end" = some (.ref (ga K "run_end"))
  g_blank_end : mg "blank_end" = some (.ref (ga K "blank_end"))
  g_run_kind : mg "run_kind" = some (.ref (ga K "run_kind"))
  g_token_at : mg "token_at" = some (.ref (ga K "token_at"))
  g_tokens : mg "tokens" = some (.ref (ga K "tokens"))
  g_parse : mg "parse" = some (.ref (ga K "parse"))
  g_parts_of : mg "parts_of" = some (.ref (ga K "parts_of"))
  g__law_pool : mg "_law_pool" = some (.ref (ga K "_law_pool"))
  g__law_take : mg "_law_take" = some (.ref (ga K "_law_take"))
  g__law_pieces : mg "_law_pieces" = some (.ref (ga K "_law_pieces"))
  g__law_put : mg "_law_put" = some (.ref (ga K "_law_put"))
  g_law : mg "law" = some (.ref (ga K "law"))
  g_BadText : mg "BadText" = some (.ref (ga K "BadText"))
  g_BadSyntax : mg "BadSyntax" = some (.ref (ga K "BadSyntax"))
  g_BadName : mg "BadName" = some (.ref (ga K "BadName"))
  g_BadProject : mg "BadProject" = some (.ref (ga K "BadProject"))
  g_BadPlace : mg "BadPlace" = some (.ref (ga K "BadPlace"))
  g_BUILTINS : mg "BUILTINS" = some (.ref (ga K "BUILTINS"))
  g_STANDING : mg "STANDING" = some (.ref (ga K "STANDING"))
  g_WORDS : mg "WORDS" = some (.ref (ga K "WORDS"))
  g_Links : mg "Links" = some (.ref (ga K "Links"))
  g_Reader : mg "Reader" = some (.ref (ga K "Reader"))
  g_Scope : mg "Scope" = some (.ref (ga K "Scope"))
  g_Facts : mg "Facts" = some (.ref (ga K "Facts"))
  g_Project : mg "Project" = some (.ref (ga K "Project"))
  c_LETTERS : ∃ t, mg "LETTERS" = some (.str "abcdefghijklmnopqrstuvwxyz" t)
  c_DIGITS : ∃ t, mg "DIGITS" = some (.str "0123456789" t)
  c_SIGNS : ∃ t, mg "SIGNS" = some (.str "()[]{},;:.=<+-*" t)
  c_MOST_SIGNS : ∃ t, mg "MOST_SIGNS" = some (.int (5000) t)
  c_MOST_IN_NAME : ∃ t, mg "MOST_IN_NAME" = some (.int (20) t)
  c_MOST_DIGITS : ∃ t, mg "MOST_DIGITS" = some (.int (18) t)
  c_MOST_IN_TEXT : ∃ t, mg "MOST_IN_TEXT" = some (.int (40) t)
  c_MOST_OPEN : ∃ t, mg "MOST_OPEN" = some (.int (30) t)
  c_MOST_IN_TREE : ∃ t, mg "MOST_IN_TREE" = some (.int (100) t)
  l_BUILTINS : ∀ H : Hp, SqL K H (ga K "BUILTINS") [V.str "len", V.str "range", V.str "show"]
  l_STANDING : ∀ H : Hp, SqT K H (ga K "STANDING") [V.str "module", V.str "aliased", V.str "linked", V.str "renamed"]
  l_WORDS : ∀ H : Hp, SqL K H (ga K "WORDS") [V.str ⟨#[105, 109, 112, 111, 114, 116]⟩, V.str "from", V.str "as", V.str "def", V.str "class", V.str "global", V.str "nonlocal", V.str "if", V.str "else", V.str "while", V.str "for", V.str "in", V.str "return", V.str "break", V.str "continue", V.str "pass", V.str "and", V.str "or", V.str "not", V.str "fn", V.str "none", V.str "true", V.str "false"]
  x_BadText : ExTxt P K (ga K "BadText") (iAd K "BadText") i_BadText ["at"]
  x_BadSyntax : ExTxt P K (ga K "BadSyntax") (iAd K "BadSyntax") i_BadSyntax ["at"]
  x_BadName : ExTxt P K (ga K "BadName") (iAd K "BadName") i_BadName ["value"]
  x_BadProject : ExTxt P K (ga K "BadProject") (iAd K "BadProject") i_BadProject ["place"]
  x_BadPlace : ExTxt P K (ga K "BadPlace") (iAd K "BadPlace") i_BadPlace ["value"]
  f__wall : ∃ fd, Fun K "_wall" "_wall" s__wall (ga K "_wall") fd
  f_is_place : ∃ fd, Fun K "is_place" "is_place" s_is_place (ga K "is_place") fd
  f_is_piece : ∃ fd, Fun K "is_piece" "is_piece" s_is_piece (ga K "is_piece") fd
  f_same_layout : ∃ fd, Fun K "same_layout" "same_layout" s_same_layout (ga K "same_layout") fd
  f_is_in_run : ∃ fd, Fun K "is_in_run" "is_in_run" s_is_in_run (ga K "is_in_run") fd
  f_is_name : ∃ fd, Fun K "is_name" "is_name" s_is_name (ga K "is_name") fd
  f_run_end : ∃ fd, Fun K "run_end" "run_end" s_run_end (ga K "run_end") fd
  f_blank_end : ∃ fd, Fun K "blank_end" "blank_end" s_blank_end (ga K "blank_end") fd
  f_run_kind : ∃ fd, Fun K "run_kind" "run_kind" s_run_kind (ga K "run_kind") fd
  f_token_at : ∃ fd, Fun K "token_at" "token_at" s_token_at (ga K "token_at") fd
  f_tokens : ∃ fd, Fun K "tokens" "tokens" s_tokens (ga K "tokens") fd
  f_parse : ∃ fd, Fun K "parse" "parse" s_parse (ga K "parse") fd
  f_parts_of : ∃ fd, Fun K "parts_of" "parts_of" s_parts_of (ga K "parts_of") fd
  f__law_pool : ∃ fd, Fun K "_law_pool" "_law_pool" s__law_pool (ga K "_law_pool") fd
  f__law_take : ∃ fd, Fun K "_law_take" "_law_take" s__law_take (ga K "_law_take") fd
  f__law_pieces : ∃ fd, Fun K "_law_pieces" "_law_pieces" s__law_pieces (ga K "_law_pieces") fd
  f__law_put : ∃ fd, Fun K "_law_put" "_law_put" s__law_put (ga K "_law_put") fd
  f_law : ∃ fd, Fun K "law" "law" s_law (ga K "law") fd
  k_Links : Cls K (ga K "Links")
  na_Links : ∀ f ∈ fl_Links, NoAttr K (ga K "Links") f
  me_Links : ∀ m ∈ ms_Links, Meth K (ga K "Links") m (ma K (ga K "Links") m)
  mk_Links : Mk K (ga K "Links") (ma K (ga K "Links") "__init__")
  k_Reader : Cls K (ga K "Reader")
  na_Reader : ∀ f ∈ fl_Reader, NoAttr K (ga K "Reader") f
  me_Reader : ∀ m ∈ ms_Reader, Meth K (ga K "Reader") m (ma K (ga K "Reader") m)
  mk_Reader : Mk K (ga K "Reader") (ma K (ga K "Reader") "__init__")
  k_Scope : Cls K (ga K "Scope")
  na_Scope : ∀ f ∈ fl_Scope, NoAttr K (ga K "Scope") f
  me_Scope : ∀ m ∈ ms_Scope, Meth K (ga K "Scope") m (ma K (ga K "Scope") m)
  mk_Scope : Mk K (ga K "Scope") (ma K (ga K "Scope") "__init__")
  k_Facts : Cls K (ga K "Facts")
  na_Facts : ∀ f ∈ fl_Facts, NoAttr K (ga K "Facts") f
  me_Facts : ∀ m ∈ ms_Facts, Meth K (ga K "Facts") m (ma K (ga K "Facts") m)
  mk_Facts : Mk K (ga K "Facts") (ma K (ga K "Facts") "__init__")
  k_Project : Cls K (ga K "Project")
  na_Project : ∀ f ∈ fl_Project, NoAttr K (ga K "Project") f
  me_Project : ∀ m ∈ ms_Project, Meth K (ga K "Project") m (ma K (ga K "Project") m)
  mk_Project : Mk K (ga K "Project") (ma K (ga K "Project") "__init__")
  f_Links___init__ : ∃ fd, Fun K "__init__" "Links.__init__" m_Links___init__ (ma K (ga K "Links") "__init__") fd
  f_Links_gather : ∃ fd, Fun K "gather" "Links.gather" m_Links_gather (ma K (ga K "Links") "gather") fd
  f_Links_look_at_shares : ∃ fd, Fun K "look_at_shares" "Links.look_at_shares" m_Links_look_at_shares (ma K (ga K "Links") "look_at_shares") fd
  f_Links_look_at_imports : ∃ fd, Fun K "look_at_imports" "Links.look_at_imports" m_Links_look_at_imports (ma K (ga K "Links") "look_at_imports") fd
  f_Links_look_at_asked : ∃ fd, Fun K "look_at_asked" "Links.look_at_asked" m_Links_look_at_asked (ma K (ga K "Links") "look_at_asked") fd
  f_Links_look_at_classes : ∃ fd, Fun K "look_at_classes" "Links.look_at_classes" m_Links_look_at_classes (ma K (ga K "Links") "look_at_classes") fd
  f_Links_look_at_points : ∃ fd, Fun K "look_at_points" "Links.look_at_points" m_Links_look_at_points (ma K (ga K "Links") "look_at_points") fd
  f_Links_look_at_keywords : ∃ fd, Fun K "look_at_keywords" "Links.look_at_keywords" m_Links_look_at_keywords (ma K (ga K "Links") "look_at_keywords") fd
  f_Reader___init__ : ∃ fd, Fun K "__init__" "Expressions.__init__" m_Reader___init__ (ma K (ga K "Reader") "__init__") fd
  f_Reader_read_module : ∃ fd, Fun K "read_module" "Reader.read_module" m_Reader_read_module (ma K (ga K "Reader") "read_module") fd
  f_Reader_next_shown : ∃ fd, Fun K "next_shown" "Expressions.next_shown" m_Reader_next_shown (ma K (ga K "Reader") "next_shown") fd
  f_Scope___init__ : ∃ fd, Fun K "__init__" "Scope.__init__" m_Scope___init__ (ma K (ga K "Scope") "__init__") fd
  f_Facts___init__ : ∃ fd, Fun K "__init__" "Facts.__init__" m_Facts___init__ (ma K (ga K "Facts") "__init__") fd
  f_Project___init__ : ∃ fd, Fun K "__init__" "Project.__init__" m_Project___init__ (ma K (ga K "Project") "__init__") fd
  f_Project_modules : ∃ fd, Fun K "modules" "Project.modules" m_Project_modules (ma K (ga K "Project") "modules") fd
  f_Project_text_of : ∃ fd, Fun K "text_of" "Project.text_of" m_Project_text_of (ma K (ga K "Project") "text_of") fd
  sm : PySem.W.typeIn K (.ref sysModules) = some (.type "dict")
theorem txt {K : Frag} {h : Heap} {mg : Str → Option Value} (X : K.In h) (G : h.Ns mainGlobals mg) (c : Says need K) : Txt K mg := by
  have hf : ∀ x ∈ frees, mg x = none := fun x hx => free_ok X G (List.all_eq_true.mp (c.fact 0 (f := fun K => frees.all fun x => (Fa.free x).ok K) rfl) x hx)
  have hg : ∀ x ∈ globs, mg x = some (.ref (ga K x)) := fun x hx => glo_ok X G (List.all_eq_true.mp (c.fact 1 (f := fun K => globs.all fun x => (Fa.glo x).ok K) rfl) x hx)
  exact {
    n_ValueError := hf _ (by simp [frees])
    n_abs := hf _ (by simp [frees])
    n_range := hf _ (by simp [frees])
    n_isinstance := hf _ (by simp [frees])
    n_int := hf _ (by simp [frees])
    n_list := hf _ (by simp [frees])
    n_all := hf _ (by simp [frees])
    n_len := hf _ (by simp [frees])
    n_dict := hf _ (by simp [frees])
    n_NotImplemented := hf _ (by simp [frees])
    n_max := hf _ (by simp [frees])
    n_tuple := hf _ (by simp [frees])
    n_str := hf _ (by simp [frees])
    n_bool := hf _ (by simp [frees])
    n_sorted := hf _ (by simp [frees])
    n_min := hf _ (by simp [frees])
    n_super := hf _ (by simp [frees])
    g__wall := hg "_wall" (by simp [globs])
    g_is_place := hg "is_place" (by simp [globs])
    g_is_piece := hg "is_piece" (by simp [globs])
    g_same_layout := hg "same_layout" (by simp [globs])
    g_is_in_run := hg "is_in_run" (by simp [globs])
    g_is_name := hg "is_name" (by simp [globs])
    g_run_end := hg "run_end" (by simp [globs])
    g_blank_end := hg "blank_end" (by simp [globs])
    g_run_kind := hg "run_kind" (by simp [globs])
    g_token_at := hg "token_at" (by simp [globs])
    g_tokens := hg "tokens" (by simp [globs])
    g_parse := hg "parse" (by simp [globs])
    g_parts_of := hg "parts_of" (by simp [globs])
    g__law_pool := hg "_law_pool" (by simp [globs])
    g__law_take := hg "_law_take" (by simp [globs])
    g__law_pieces := hg "_law_pieces" (by simp [globs])
    g__law_put := hg "_law_put" (by simp [globs])
    g_law := hg "law" (by simp [globs])
    g_BadText := hg "BadText" (by simp [globs])
    g_BadSyntax := hg "BadSyntax" (by simp [globs])
    g_BadName := hg "BadName" (by simp [globs])
    g_BadProject := hg "BadProject" (by simp [globs])
    g_BadPlace := hg "BadPlace" (by simp [globs])
    g_BUILTINS := hg "BUILTINS" (by simp [globs])
    g_STANDING := hg "STANDING" (by simp [globs])
    g_WORDS := hg "WORDS" (by simp [globs])
    g_Links := hg "Links" (by simp [globs])
    g_Reader := hg "Reader" (by simp [globs])
    g_Scope := hg "Scope" (by simp [globs])
    g_Facts := hg "Facts" (by simp [globs])
    g_Project := hg "Project" (by simp [globs])
    c_LETTERS := str_ok X G (c.fact 2 (f := fun K => (Fa.str "LETTERS" "abcdefghijklmnopqrstuvwxyz").ok K) rfl)
    c_DIGITS := str_ok X G (c.fact 3 (f := fun K => (Fa.str "DIGITS" "0123456789").ok K) rfl)
    c_SIGNS := str_ok X G (c.fact 4 (f := fun K => (Fa.str "SIGNS" "()[]{},;:.=<+-*").ok K) rfl)
    c_MOST_SIGNS := int_ok X G (c.fact 5 (f := fun K => (Fa.int "MOST_SIGNS" (5000)).ok K) rfl)
    c_MOST_IN_NAME := int_ok X G (c.fact 6 (f := fun K => (Fa.int "MOST_IN_NAME" (20)).ok K) rfl)
    c_MOST_DIGITS := int_ok X G (c.fact 7 (f := fun K => (Fa.int "MOST_DIGITS" (18)).ok K) rfl)
    c_MOST_IN_TEXT := int_ok X G (c.fact 8 (f := fun K => (Fa.int "MOST_IN_TEXT" (40)).ok K) rfl)
    c_MOST_OPEN := int_ok X G (c.fact 9 (f := fun K => (Fa.int "MOST_OPEN" (30)).ok K) rfl)
    c_MOST_IN_TREE := int_ok X G (c.fact 10 (f := fun K => (Fa.int "MOST_IN_TREE" (100)).ok K) rfl)
    l_BUILTINS := fun H => lstB_ok (c.fact 11 (f := fun K => lstB K "BUILTINS" [.str "len", .str "range", .str "show"]) rfl) H
    l_STANDING := fun H => tupB_ok (c.fact 12 (f := fun K => tupB K "STANDING" [.str "module", .str "aliased", .str "linked", .str "renamed"]) rfl) H
    l_WORDS := fun H => lstB_ok (c.fact 13 (f := fun K => lstB K "WORDS" [.str ⟨#[105, 109, 112, 111, 114, 116]⟩, .str "from", .str "as", .str "def", .str "class", .str "global", .str "nonlocal", .str "if", .str "else", .str "while", .str "for", .str "in", .str "return", .str "break", .str "continue", .str "pass", .str "and", .str "or", .str "not", .str "fn", .str "none", .str "true", .str "false"]) rfl) H
    x_BadText := ex_of (c.fact 14 (f := exB P "BadText" ["at"]) rfl) (c.init 0 rfl) rfl
    x_BadSyntax := ex_of (c.fact 15 (f := exB P "BadSyntax" ["at"]) rfl) (c.init 1 rfl) rfl
    x_BadName := ex_of (c.fact 16 (f := exB P "BadName" ["value"]) rfl) (c.init 2 rfl) rfl
    x_BadProject := ex_of (c.fact 17 (f := exB P "BadProject" ["place"]) rfl) (c.init 3 rfl) rfl
    x_BadPlace := ex_of (c.fact 18 (f := exB P "BadPlace" ["value"]) rfl) (c.init 4 rfl) rfl
    f__wall := (c.def_ 0 (e := d__wall) rfl).elim fun fd F => ⟨fd, FunD.fn F⟩
    f_is_place := (c.def_ 1 (e := d_is_place) rfl).elim fun fd F => ⟨fd, FunD.fn F⟩
    f_is_piece := (c.def_ 2 (e := d_is_piece) rfl).elim fun fd F => ⟨fd, FunD.fn F⟩
    f_same_layout := (c.def_ 3 (e := d_same_layout) rfl).elim fun fd F => ⟨fd, FunD.fn F⟩
    f_is_in_run := (c.def_ 4 (e := d_is_in_run) rfl).elim fun fd F => ⟨fd, FunD.fn F⟩
    f_is_name := (c.def_ 5 (e := d_is_name) rfl).elim fun fd F => ⟨fd, FunD.fn F⟩
    f_run_end := (c.def_ 6 (e := d_run_end) rfl).elim fun fd F => ⟨fd, FunD.fn F⟩
    f_blank_end := (c.def_ 7 (e := d_blank_end) rfl).elim fun fd F => ⟨fd, FunD.fn F⟩
    f_run_kind := (c.def_ 8 (e := d_run_kind) rfl).elim fun fd F => ⟨fd, FunD.fn F⟩
    f_token_at := (c.def_ 9 (e := d_token_at) rfl).elim fun fd F => ⟨fd, FunD.fn F⟩
    f_tokens := (c.def_ 10 (e := d_tokens) rfl).elim fun fd F => ⟨fd, FunD.fn F⟩
    f_parse := (c.def_ 11 (e := d_parse) rfl).elim fun fd F => ⟨fd, FunD.fn F⟩
    f_parts_of := (c.def_ 12 (e := d_parts_of) rfl).elim fun fd F => ⟨fd, FunD.fn F⟩
    f__law_pool := (c.def_ 13 (e := d__law_pool) rfl).elim fun fd F => ⟨fd, FunD.fn F⟩
    f__law_take := (c.def_ 14 (e := d__law_take) rfl).elim fun fd F => ⟨fd, FunD.fn F⟩
    f__law_pieces := (c.def_ 15 (e := d__law_pieces) rfl).elim fun fd F => ⟨fd, FunD.fn F⟩
    f__law_put := (c.def_ 16 (e := d__law_put) rfl).elim fun fd F => ⟨fd, FunD.fn F⟩
    f_law := (c.def_ 17 (e := d_law) rfl).elim fun fd F => ⟨fd, FunD.fn F⟩
    f_Links___init__ := (c.def_ 18 (e := d_Links___init__) rfl).elim fun fd F => ⟨fd, FunD.fn F⟩
    f_Links_gather := (c.def_ 19 (e := d_Links_gather) rfl).elim fun fd F => ⟨fd, FunD.fn F⟩
    f_Links_look_at_shares := (c.def_ 20 (e := d_Links_look_at_shares) rfl).elim fun fd F => ⟨fd, FunD.fn F⟩
    f_Links_look_at_imports := (c.def_ 21 (e := d_Links_look_at_imports) rfl).elim fun fd F => ⟨fd, FunD.fn F⟩
    f_Links_look_at_asked := (c.def_ 22 (e := d_Links_look_at_asked) rfl).elim fun fd F => ⟨fd, FunD.fn F⟩
    f_Links_look_at_classes := (c.def_ 23 (e := d_Links_look_at_classes) rfl).elim fun fd F => ⟨fd, FunD.fn F⟩
    f_Links_look_at_points := (c.def_ 24 (e := d_Links_look_at_points) rfl).elim fun fd F => ⟨fd, FunD.fn F⟩
    f_Links_look_at_keywords := (c.def_ 25 (e := d_Links_look_at_keywords) rfl).elim fun fd F => ⟨fd, FunD.fn F⟩
    f_Reader___init__ := (c.def_ 26 (e := d_Reader___init__) rfl).elim fun fd F => ⟨fd, FunD.fn F⟩
    f_Reader_read_module := (c.def_ 27 (e := d_Reader_read_module) rfl).elim fun fd F => ⟨fd, FunD.fn F⟩
    f_Reader_next_shown := (c.def_ 28 (e := d_Reader_next_shown) rfl).elim fun fd F => ⟨fd, FunD.fn F⟩
    f_Scope___init__ := (c.def_ 29 (e := d_Scope___init__) rfl).elim fun fd F => ⟨fd, FunD.fn F⟩
    f_Facts___init__ := (c.def_ 30 (e := d_Facts___init__) rfl).elim fun fd F => ⟨fd, FunD.fn F⟩
    f_Project___init__ := (c.def_ 31 (e := d_Project___init__) rfl).elim fun fd F => ⟨fd, FunD.fn F⟩
    f_Project_modules := (c.def_ 32 (e := d_Project_modules) rfl).elim fun fd F => ⟨fd, FunD.fn F⟩
    f_Project_text_of := (c.def_ 33 (e := d_Project_text_of) rfl).elim fun fd F => ⟨fd, FunD.fn F⟩
    k_Links := cls_ok (c.fact 20 (f := fun K => (Fa.cls "Links").ok K) rfl)
    na_Links := fun f hf => noat_ok (List.all_eq_true.mp (c.fact 21 (f := fun K => fl_Links.all fun f => (Fa.noat "Links" f).ok K) rfl) f hf)
    me_Links := fun m hm => meth_ok (List.all_eq_true.mp (c.fact 22 (f := fun K => ms_Links.all fun f => (Fa.meth "Links" f).ok K) rfl) m hm)
    mk_Links := mkr_ok (c.fact 23 (f := fun K => (Fa.mkr "Links").ok K) rfl)
    k_Reader := cls_ok (c.fact 24 (f := fun K => (Fa.cls "Reader").ok K) rfl)
    na_Reader := fun f hf => noat_ok (List.all_eq_true.mp (c.fact 25 (f := fun K => fl_Reader.all fun f => (Fa.noat "Reader" f).ok K) rfl) f hf)
    me_Reader := fun m hm => meth_ok (List.all_eq_true.mp (c.fact 26 (f := fun K => ms_Reader.all fun f => (Fa.meth "Reader" f).ok K) rfl) m hm)
    mk_Reader := mkr_ok (c.fact 27 (f := fun K => (Fa.mkr "Reader").ok K) rfl)
    k_Scope := cls_ok (c.fact 28 (f := fun K => (Fa.cls "Scope").ok K) rfl)
    na_Scope := fun f hf => noat_ok (List.all_eq_true.mp (c.fact 29 (f := fun K => fl_Scope.all fun f => (Fa.noat "Scope" f).ok K) rfl) f hf)
    me_Scope := fun m hm => meth_ok (List.all_eq_true.mp (c.fact 30 (f := fun K => ms_Scope.all fun f => (Fa.meth "Scope" f).ok K) rfl) m hm)
    mk_Scope := mkr_ok (c.fact 31 (f := fun K => (Fa.mkr "Scope").ok K) rfl)
    k_Facts := cls_ok (c.fact 32 (f := fun K => (Fa.cls "Facts").ok K) rfl)
    na_Facts := fun f hf => noat_ok (List.all_eq_true.mp (c.fact 33 (f := fun K => fl_Facts.all fun f => (Fa.noat "Facts" f).ok K) rfl) f hf)
    me_Facts := fun m hm => meth_ok (List.all_eq_true.mp (c.fact 34 (f := fun K => ms_Facts.all fun f => (Fa.meth "Facts" f).ok K) rfl) m hm)
    mk_Facts := mkr_ok (c.fact 35 (f := fun K => (Fa.mkr "Facts").ok K) rfl)
    k_Project := cls_ok (c.fact 36 (f := fun K => (Fa.cls "Project").ok K) rfl)
    na_Project := fun f hf => noat_ok (List.all_eq_true.mp (c.fact 37 (f := fun K => fl_Project.all fun f => (Fa.noat "Project" f).ok K) rfl) f hf)
    me_Project := fun m hm => meth_ok (List.all_eq_true.mp (c.fact 38 (f := fun K => ms_Project.all fun f => (Fa.meth "Project" f).ok K) rfl) m hm)
    mk_Project := mkr_ok (c.fact 39 (f := fun K => (Fa.mkr "Project").ok K) rfl)
    sm := of_decide_eq_true (c.fact 19 (f := fun K => decide (PySem.W.typeIn K (.ref sysModules) = some (.type "dict"))) rfl) }
theorem fld_at : Fld "at" := ⟨by decide +kernel, by decide +kernel, by decide +kernel, by decide +kernel⟩
theorem fld_place : Fld "place" := ⟨by decide +kernel, by decide +kernel, by decide +kernel, by decide +kernel⟩
theorem fld_value : Fld "value" := ⟨by decide +kernel, by decide +kernel, by decide +kernel, by decide +kernel⟩
theorem sh_BadText : Init1 i_BadText "at" := ⟨_, _, _, _, _, _, _, _, _, _, _, _, rfl, rfl, rfl, fun _ _ _ _ _ => ⟨_, rfl⟩, fun _ _ _ _ _ _ _ _ _ => rfl⟩
theorem sh_BadSyntax : Init1 i_BadSyntax "at" := ⟨_, _, _, _, _, _, _, _, _, _, _, _, rfl, rfl, rfl, fun _ _ _ _ _ => ⟨_, rfl⟩, fun _ _ _ _ _ _ _ _ _ => rfl⟩
theorem sh_BadName : Init1 i_BadName "value" := ⟨_, _, _, _, _, _, _, _, _, _, _, _, rfl, rfl, rfl, fun _ _ _ _ _ => ⟨_, rfl⟩, fun _ _ _ _ _ _ _ _ _ => rfl⟩
theorem sh_BadProject : Init1 i_BadProject "place" := ⟨_, _, _, _, _, _, _, _, _, _, _, _, rfl, rfl, rfl, fun _ _ _ _ _ => ⟨_, rfl⟩, fun _ _ _ _ _ _ _ _ _ => rfl⟩
theorem sh_BadPlace : Init1 i_BadPlace "value" := ⟨_, _, _, _, _, _, _, _, _, _, _, _, rfl, rfl, rfl, fun _ _ _ _ _ => ⟨_, rfl⟩, fun _ _ _ _ _ _ _ _ _ => rfl⟩
end K14

set_option Elab.async false
set_option linter.all false
set_option maxRecDepth 100000
set_option maxHeartbeats 4000000
namespace K14
open PySem PySem.Spec PyProof.Rows L2 He KH PySem.KX
open PySem.W (Frag)
section
variable {w : World} {K : PySem.W.Frag} {mg : Str → Option Value} {base : Heap}
theorem scT : FnScope ["_law_pool_here", "_law_many", "_law_found"] ["_law_pool_here", "_law_many"] (defScope s__law_take) := ⟨rfl, rfl, rfl, by decide +kernel, rfl, by decide +kernel, by decide +kernel⟩
theorem ok_take {f : Addr} {fd : FuncData} (F : Fun K "_law_take" "_law_take" s__law_take f fd) : FnOk P w K mg base CX0 1 f fd ["_law_pool_here", "_law_many"] spTake := by
  refine F.ok scT (fun vs H Q E h => ?_) (fun cdv A outer s H vs Q E hr h => ?_)
  · obtain ⟨p, n, rfl, _⟩ := h
    rfl
  · obtain ⟨p, n, rfl, ⟨a, b, hp, ha, hb, hb2⟩, hn, hn2, k⟩ := h
    have sc := scT
    refine ⟨_, (pss_cons (ps_if (pt_cmpR op_gt (pe_ix ix_list (pv 0) pe_int (fun _ _ => rfl)) pe_int (nomark _))
        (pss_cons (ps_set (i := 2) sc.nd rfl (Or.inl rfl) (pe_op op_mod (pe_ix ix_list (pv 0) pe_int (fun _ _ => rfl)) (pv 1)))
        (pss_cons (ps_asg (pe_op op_fdiv (pe_ix ix_list (pv 0) pe_int (fun _ _ => rfl)) (pv 1)) (pg_sub (pv 0) pe_int set_list))
        (pss_one (ps_ret (pv 2)))))
        pss_nil)
      (pss_cons (ps_asg (pe_op op_mod (pe_op op_add (pe_op op_mul (pe_ix ix_list (pv 0) pe_int (fun _ _ => rfl)) pe_int) pe_int) pe_int) (pg_sub (pv 0) pe_int set_list))
      (pss_one (ps_ret (pe_op op_mod (pe_op op_fdiv (pe_op op_mod (pe_op op_mul (pe_ix ix_list (pv 0) pe_int (fun _ _ => rfl)) (pe_ix ix_list (pv 0) pe_int (fun _ _ => rfl))) pe_int) pe_int) (pv 1)))))), ?_⟩
    have hS := SqL.of (K := K) hp
    refine ⟨_, rfl, p, _, _, _, rfl, rfl, hS, rfl, _, _, rfl, rfl, _, rfl, ?_⟩
    refine ite2 (fun c => ?_) (fun c => ?_)
    · refine ⟨_, rfl, p, _, _, _, rfl, rfl, hS, rfl, _, rfl, _, _, rfl, rfl, hn, ?_⟩
      refine ⟨_, rfl, p, _, _, _, rfl, rfl, hS, rfl, _, rfl, _, _, rfl, rfl, ⟨hn, by omega⟩, ?_⟩
      refine ⟨_, rfl, p, _, _, 0, rfl, rfl, hp, rfl, ?_⟩
      refine ⟨_, rfl, ?_⟩
      exact k _ _ (Int.emod_nonneg _ (by omega)) (Int.emod_lt_of_pos _ hn) ⟨a / n, b, upd_same, Int.ediv_nonneg ha (by omega), hb, hb2⟩ ⟨_, _, rfl⟩
    · refine ⟨_, rfl, p, _, _, _, rfl, rfl, hS, rfl, _, _, rfl, rfl, .inl ⟨by omega, by omega⟩, _, _, rfl, rfl, _, _, rfl, rfl, (by show (0 : Int) < 2147483647; decide), ?_⟩
      refine ⟨_, rfl, p, _, _, 1, rfl, rfl, hp, rfl, ?_⟩
      have hb' : 0 ≤ (b * 48271 + 11) % 2147483647 ∧ (b * 48271 + 11) % 2147483647 < 2147483647 := ⟨Int.emod_nonneg _ (by decide), Int.emod_lt_of_pos _ (by decide)⟩
      have hS' := SqL.of (K := K) (H := upd H p (.lst [.int a, .int ((b * 48271 + 11) % 2147483647)])) upd_same
      refine ⟨_, rfl, p, _, _, _, rfl, rfl, hS', rfl, _, rfl, p, _, _, _, rfl, rfl, hS', rfl, _, _, rfl, rfl, .inl ⟨by omega, by omega⟩, _, _, rfl, rfl, (by show (0 : Int) < 2147483629; decide), _, _, rfl, rfl, ⟨by decide, by decide⟩, _, rfl, _, _, rfl, rfl, hn, ?_⟩
      exact k _ _ (Int.emod_nonneg _ (by omega)) (Int.emod_lt_of_pos _ hn) ⟨a, _, upd_same, ha, hb'.1, hb'.2⟩ ⟨_, _, rfl⟩
theorem scP : FnScope ["_law_script", "_law_k", "_law_cell", "_law_size", "_law_seed"] ["_law_script", "_law_k"] (defScope s__law_pool) := ⟨rfl, rfl, rfl, by decide +kernel, rfl, by decide +kernel, by decide +kernel⟩
theorem ok_pool {f : Addr} {fd : FuncData} (F : Fun K "_law_pool" "_law_pool" s__law_pool f fd) (T : Txt K mg) : FnOk P w K mg base CX0 1 f fd ["_law_script", "_law_k"] (spPool K) := by
  refine F.ok scP (fun vs H Q E h => ?_) (fun cdv A outer s H vs Q E hr h => ?_)
  · obtain ⟨a, k, ns, rfl, _⟩ := h
    rfl
  · obtain ⟨a, k, ns, rfl, hS, hk, hk2, kq⟩ := h
    have sc := scP
    refine ⟨_, (pss_cons (ps_set (i := 2) sc.nd rfl (Or.inl rfl) pe_int)
      (pss_cons (ps_if (pt_cmpR op_lt (pv 1) (pe_callB call_len rfl T.n_len (by decide +kernel) (pa_cons (pv 0) pa_nil)) (nomark _))
        (pss_one (ps_set (i := 2) sc.nd rfl (Or.inl rfl) (pe_ix ix_list (pv 0) (pv 1) (fun _ _ => rfl))))
        pss_nil)
      (pss_cons (ps_set (i := 3) sc.nd rfl (Or.inl rfl) (pe_callB call_abs rfl T.n_abs (by decide +kernel) (pa_cons (pv 2) pa_nil)))
      (pss_cons (ps_set (i := 4) sc.nd rfl (Or.inl rfl) (pe_op op_mod (pe_op op_pow (pe_op op_add (pe_op op_add (pe_op op_add (pe_op op_mod (pv 2) pe_int) (pe_op op_mul (pe_op op_mul pe_int (pv 1)) (pv 1))) (pe_op op_mul pe_int (pv 1))) pe_int) pe_int) pe_int))
      (pss_one (ps_ret (pe_lst (pa_cons (pe_op op_mul (pv 3) (pe_callTy call_int1 rfl T.n_int (by decide +kernel) (pa_cons (pe_cmpR op_ge (pv 3) (pe_op op_pow pe_int pe_int) (nomark _)) pa_nil))) (pa_cons (pv 4) pa_nil))))))))), ?_⟩
    have key : ∀ c : Int, 0 ≤ c % 2147483629 + 104729 * k * k + 7919 * k + 11 ∧ c % 2147483629 + 104729 * k * k + 7919 * k + 11 < 18446744073709551616 := fun c => by
      have h1 : 0 ≤ c % 2147483629 := Int.emod_nonneg _ (by decide)
      have h2 : c % 2147483629 < 2147483629 := Int.emod_lt_of_pos _ (by decide)
      have h3 : 0 ≤ k * k := Int.mul_nonneg hk hk
      have h4 : k * k ≤ 100 * 100 := Int.mul_le_mul (by omega) (by omega) hk (by decide)
      have h5 : 104729 * k * k = 104729 * (k * k) := by rw [Int.mul_assoc]
      omega
    refine ⟨_, rfl, _, rfl, _, ns.length, rfl, .inl ⟨_, hS, by simp⟩, _, _, rfl, rfl, _, rfl, ?_⟩
    refine ite2 (fun cc => ?_) (fun cc => ?_)
    · obtain ⟨c, hc⟩ := ints_at hk (by simpa using cc)
      refine ⟨_, rfl, _, rfl, a, _, _, _, rfl, rfl, hS, hc, ?_⟩
      refine ⟨_, rfl, _, rfl, ?_⟩
      refine ⟨_, rfl, _, _, rfl, rfl, (by show (0 : Int) < 2147483629; decide), _, rfl, _, _, rfl, rfl, .inl ⟨by decide, by decide⟩, _, rfl, _, _, rfl, rfl, .inr ⟨by omega, by omega⟩, _, _, rfl, rfl, _, rfl, _, _, rfl, rfl, .inl ⟨by decide, by decide⟩, _, _, rfl, rfl, _, _, rfl, rfl, _, _, rfl, rfl, ⟨by decide, by decide, by have := key c; omega⟩, _, _, rfl, rfl, (by show (0 : Int) < 2147483647; decide), ?_⟩
      refine ⟨_, rfl, _, rfl, _, _, rfl, rfl, ⟨by decide, by decide, by decide⟩, _, _, rfl, rfl, .inr ⟨_, rfl, ?_⟩⟩
      refine ⟨_, _, rfl, rfl, .inr (b01 _), _, rfl, (by show 2 ≤ sizeLine; decide), fun p hp => ?_⟩
      refine kq p _ _ hp ⟨_, _, upd_same, ?_, Int.emod_nonneg _ (by decide), Int.emod_lt_of_pos _ (by decide)⟩
      refine Int.mul_nonneg (by split <;> omega) (b0 _)
    · refine ⟨_, rfl, _, rfl, ?_⟩
      refine ⟨_, rfl, _, _, rfl, rfl, (by show (0 : Int) < 2147483629; decide), _, rfl, _, _, rfl, rfl, .inl ⟨by decide, by decide⟩, _, rfl, _, _, rfl, rfl, .inr ⟨by omega, by omega⟩, _, _, rfl, rfl, _, rfl, _, _, rfl, rfl, .inl ⟨by decide, by decide⟩, _, _, rfl, rfl, _, _, rfl, rfl, _, _, rfl, rfl, ⟨by decide, by decide, by have := key 0; omega⟩, _, _, rfl, rfl, (by show (0 : Int) < 2147483647; decide), ?_⟩
      refine ⟨_, rfl, _, rfl, _, _, rfl, rfl, ⟨by decide, by decide, by decide⟩, _, _, rfl, rfl, .inr ⟨_, rfl, ?_⟩⟩
      refine ⟨_, _, rfl, rfl, .inr (b01 _), _, rfl, (by show 2 ≤ sizeLine; decide), fun p hp => ?_⟩
      refine kq p _ _ hp ⟨_, _, upd_same, ?_, Int.emod_nonneg _ (by decide), Int.emod_lt_of_pos _ (by decide)⟩
      refine Int.mul_nonneg (by split <;> omega) (b0 _)
end
end K14

set_option Elab.async false
set_option linter.all false
set_option maxRecDepth 100000
set_option maxHeartbeats 4000000
set_option pp.maxSteps 1500
set_option pp.deepTerms false
namespace K14
open PySem PySem.Spec PyProof.Rows L2 He KH PySem.KX Lex
open PySem.W (Frag)
theorem letters_eq : (Str.ofString "abcdefghijklmnopqrstuvwxyz").cps.toList = letters := by decide +kernel
theorem digits_eq : (Str.ofString "0123456789").cps.toList = digits := by decide +kernel
theorem signs_eq : (Str.ofString "()[]{},;:.=<+-*").cps.toList = Lex.signs := by decide +kernel
theorem us_eq : Str.ofString "_" = S [95] := by decide +kernel
theorem blank_eq : (Str.ofString " \n#").cps.toList = [32, 10, 35] := by decide +kernel
theorem hash_eq : Str.ofString "#" = S [35] := by decide +kernel
theorem nl_eq : Str.ofString "\n" = S [10] := by decide +kernel
theorem dec_s1 (c d : Nat) : decide (V.str (S [c]) = V.str (S [d])) = decide (c = d) := by
  by_cases h : c = d
  · subst h; simp
  · rw [decide_eq_false h, decide_eq_false]
    intro z
    injection z with z
    exact h (by have := S_inj z; simpa using this)
section
variable {w : World} {K : Frag} {mg : Str → Option Value} {base : Heap}
/-! ### is_in_run -/
def spInRun : Sp := fun vs H Q _ => ∃ c : Nat, vs = [.str (S [c])] ∧ Q (.bl (inRun c)) H
theorem sc_in_run : FnScope ["sign"] ["sign"] (defScope s_is_in_run) := ⟨rfl, rfl, rfl, by decide +kernel, rfl, by decide +kernel, by decide +kernel⟩
theorem ok_is_in_run {f : Addr} {fd : FuncData} (F : Fun K "is_in_run" "is_in_run" s_is_in_run f fd) (T : Txt K mg) : FnOk P w K mg base CX0 1 f fd ["sign"] spInRun := by
  refine F.ok sc_in_run (fun vs H Q E h => ?_) (fun cdv A outer s H vs Q E hr h => ?_)
  · obtain ⟨c, rfl, _⟩ := h
    rfl
  · obtain ⟨c, rfl, q⟩ := h
    refine ⟨_, (pss_one (ps_ret (pe_or (pe_cmpR op_in_sign (pv 0) (pe_gs rfl T.c_LETTERS) rfl) (pe_or (pe_cmpR op_in_sign (pv 0) (pe_gs rfl T.c_DIGITS) rfl) (pe_one (pe_cmpR op_eq (pv 0) pe_str (nomark _))))))), ?_⟩
    refine ⟨_, rfl, c, _, rfl, rfl, _, rfl, ?_⟩
    rw [letters_eq]
    unfold inRun at q
    by_cases h1 : c ∈ letters
    · rw [decide_eq_true h1]
      rw [decide_eq_true h1] at q
      exact iteT q
    · rw [decide_eq_false h1]
      rw [decide_eq_false h1] at q
      refine iteF ?_
      refine ⟨_, rfl, c, _, rfl, rfl, _, rfl, ?_⟩
      rw [digits_eq]
      by_cases h2 : c ∈ digits
      · rw [decide_eq_true h2]
        rw [decide_eq_true h2] at q
        exact iteT q
      · rw [decide_eq_false h2]
        rw [decide_eq_false h2] at q
        refine iteF ?_
        refine ⟨_, rfl, rfl, ?_⟩
        show Q (.bl (decide (V.str (S [c]) = V.str (Str.ofString "_")))) H
        rw [us_eq, dec_s1]
        exact q
/-! ### run_end -/
def spRunEnd : Sp := fun vs H Q _ => ∃ (l : List Nat) (at_ : Nat), vs = [.str (S l), .int at_] ∧ l.length ≤ 10000 ∧ at_ ≤ l.length ∧ Q (.int ((at_ + runLen (l.drop at_) : Nat) : Int)) H
theorem sc_run_end : FnScope ["text", "at"] ["text", "at"] (defScope s_run_end) := ⟨rfl, rfl, rfl, by decide +kernel, rfl, by decide +kernel, by decide +kernel⟩
theorem size10k {n : Nat} (h : n ≤ 10000) : n ≤ sizeLine := by rw [sizeLine_eq]; omega
theorem drop_at {l : List Nat} {i : Nat} (h : i < l.length) : ∃ c, l[i]? = some c ∧ l.drop i = c :: l.drop (i + 1) := ⟨l[i], List.getElem?_eq_getElem h, List.drop_eq_getElem_cons h⟩
theorem ok_run_end {f fR : Addr} {fd fdR : FuncData} (F : Fun K "run_end" "run_end" s_run_end f fd) (F_is_in_run : Fun K "is_in_run" "is_in_run" s_is_in_run fR fdR) (e : fR = ga K "is_in_run") (T : Txt K mg) : FnOk P w K mg base CX0 2 f fd ["text", "at"] spRunEnd := by
  subst e
  have G_is_in_run : FnOk P w K mg base CX0 1 _ fdR ["sign"] spInRun := ok_is_in_run F_is_in_run T
  have b_is_in_run : Binds K fdR ["sign"] [] := F_is_in_run.binds fun _ _ _ _ _ _ us hl => match us, hl with | [_], _ => rfl
  refine F.ok sc_run_end (fun vs H Q E h => ?_) (fun cdv A outer s H vs Q E hr h => ?_)
  · obtain ⟨l, at_, rfl, _⟩ := h
    rfl
  · obtain ⟨l, at_, rfl, hl, ha, q⟩ := h
    have sc := sc_run_end
    have hr_is_in_run := hr
    refine ⟨_, (pss_cons (ps_while PassesOwn.never (PW.pt (pw_and (pt_cmpR op_lt (pv 1) (pe_callB call_len_str rfl T.n_len (by decide +kernel) (pa_cons (pv 0) pa_nil)) (nomark _)) (pw_and1 (pt_val (pe_call G_is_in_run hr_is_in_run rfl T.g_is_in_run F_is_in_run.kp b_is_in_run .nil pass0 (pa_cons (pe_ix (r := rIxS) ix_str (pv 0) (pv 1) (fun _ _ => rfl)) pa_nil))))))
        (pss_one (ps_aug (i := 1) sc.nd rfl (Or.inl rfl) pe_int ip_add)))
      (pss_one (ps_ret (pv 1)))), ?_⟩
    refine ⟨fun m σ H1 => ∃ i : Nat, σ = [some (.str (S l)), some (.int i)] ∧ H1 = H ∧ i ≤ l.length ∧ m = l.length - i ∧ at_ + runLen (l.drop at_) = i + runLen (l.drop i), ⟨_, at_, rfl, rfl, ha, rfl, rfl⟩, ?_⟩
    rintro m σ H1 ⟨i, rfl, rfl, hi, rfl, e⟩
    refine ⟨_, rfl, _, rfl, _, rfl, (by rw [S_len]; exact size10k hl), _, _, rfl, rfl, _, rfl, ?_⟩
    rw [S_len]
    refine ite2 (fun c => ?_) (fun c => ?_)
    · have hil : i < l.length := by simpa using c
      obtain ⟨d, hd, hdr⟩ := drop_at hil
      refine ⟨_, rfl, _, rfl, _, _, d, rfl, rfl, (by rw [S_len]; exact size10k hl), (by rw [S_list]; exact atI_nat hd), d, rfl, _, rfl, ?_⟩
      refine ite2 (fun c2 => ?_) (fun c2 => ?_)
      · refine ⟨_, fun _ _ h => h, ?_⟩
        refine ⟨_, rfl, _, _, rfl, rfl, ?_⟩
        refine ⟨l.length - (i + 1), by omega, i + 1, rfl, rfl, by omega, rfl, ?_⟩
        rw [e, hdr, runLen_pos c2]
        omega
      · refine ⟨_, rfl, ?_⟩
        have e2 : runLen (l.drop i) = 0 := by
          rw [hdr]
          unfold runLen
          rw [List.takeWhile_cons, if_neg c2]
          rfl
        rw [e, e2, Nat.add_zero] at q
        exact q
    · refine ⟨_, rfl, ?_⟩
      have hil : i = l.length := by
        have : ¬ i < l.length := by simpa using c
        omega
      have e2 : runLen (l.drop i) = 0 := by rw [hil, List.drop_length]; rfl
      rw [e, e2, Nat.add_zero] at q
      exact q
/-! ### blank_end -/
def spBlankEnd : Sp := fun vs H Q _ => ∃ (l : List Nat) (at_ : Nat), vs = [.str (S l), .int at_] ∧ l.length ≤ 10000 ∧ at_ ≤ l.length ∧ Q (.int ((at_ + bl false (l.drop at_) : Nat) : Int)) H
theorem sc_blank_end : FnScope ["text", "at"] ["text", "at"] (defScope s_blank_end) := ⟨rfl, rfl, rfl, by decide +kernel, rfl, by decide +kernel, by decide +kernel⟩
theorem mem_blank (c : Nat) : c ∈ [32, 10, 35] ↔ (c = 32 ∨ c = 10) ∨ c = 35 := by simp [or_assoc]
theorem bl_f (c : Nat) (r : List Nat) : bl false (c :: r) = if c = 32 ∨ c = 10 then 1 + bl false r else if c = 35 then 1 + bl true r else 0 := rfl
theorem bl_t (c : Nat) (r : List Nat) : bl true (c :: r) = if c = 10 then 1 + bl false r else 1 + bl true r := rfl
theorem ok_blank_end {f : Addr} {fd : FuncData} (F : Fun K "blank_end" "blank_end" s_blank_end f fd) (T : Txt K mg) : FnOk P w K mg base CX0 1 f fd ["text", "at"] spBlankEnd := by
  refine F.ok sc_blank_end (fun vs H Q E h => ?_) (fun cdv A outer s H vs Q E hr h => ?_)
  · obtain ⟨l, at_, rfl, _⟩ := h
    rfl
  · obtain ⟨l, at_, rfl, hl, ha, q⟩ := h
    have sc := sc_blank_end
    have hsz : (S l).length ≤ sizeLine := by rw [S_len]; exact size10k hl
    refine ⟨_, (pss_cons (ps_while PassesOwn.never (PW.pt (pw_and (pt_cmpR op_lt (pv 1) (pe_callB call_len_str rfl T.n_len (by decide +kernel) (pa_cons (pv 0) pa_nil)) (nomark _)) (pw_and1 (pt_cmpR op_in_sign (pe_ix (r := rIxS) ix_str (pv 0) (pv 1) (fun _ _ => rfl)) pe_str rfl))))
        (pss_one (ps_if (pt_cmpR op_eq (pe_ix (r := rIxS) ix_str (pv 0) (pv 1) (fun _ _ => rfl)) pe_str (nomark _))
          (pss_one (ps_while PassesOwn.never (PW.pt (pw_and (pt_cmpR op_lt (pv 1) (pe_callB call_len_str rfl T.n_len (by decide +kernel) (pa_cons (pv 0) pa_nil)) (nomark _)) (pw_and1 (pt_cmpR op_ne (pe_ix (r := rIxS) ix_str (pv 0) (pv 1) (fun _ _ => rfl)) pe_str (nomark _)))))
            (pss_one (ps_aug (i := 1) sc.nd rfl (Or.inl rfl) pe_int ip_add))))
          (pss_one (ps_aug (i := 1) sc.nd rfl (Or.inl rfl) pe_int ip_add)))))
      (pss_one (ps_ret (pv 1)))), ?_⟩
    refine ⟨fun m σ H1 => ∃ i : Nat, σ = [some (.str (S l)), some (.int i)] ∧ H1 = H ∧ i ≤ l.length ∧ m = l.length - i ∧ at_ + bl false (l.drop at_) = i + bl false (l.drop i), ⟨_, at_, rfl, rfl, ha, rfl, rfl⟩, ?_⟩
    rintro m σ H1 ⟨i, rfl, rfl, hi, rfl, e⟩
    refine ⟨_, rfl, _, rfl, _, rfl, hsz, _, _, rfl, rfl, _, rfl, ?_⟩
    rw [S_len]
    refine ite2 (fun c => ?_) (fun c => ?_)
    · have hil : i < l.length := by simpa using c
      obtain ⟨d, hd, hdr⟩ := drop_at hil
      have hat : atI (S l).cps.toList (i : Int) = some d := by rw [S_list]; exact atI_nat hd
      refine ⟨_, rfl, _, rfl, _, _, d, rfl, rfl, hsz, hat, d, _, rfl, rfl, _, rfl, ?_⟩
      rw [blank_eq]
      refine ite2 (fun c2 => ?_) (fun c2 => ?_)
      · have c2' := (mem_blank d).mp (of_decide_eq_true c2)
        refine ⟨_, fun _ _ h => h, ?_⟩
        refine ⟨_, rfl, _, rfl, _, _, d, rfl, rfl, hsz, hat, rfl, _, rfl, ?_⟩
        have e35 : decide (V.str ⟨#[d]⟩ = V.str (Str.ofString "#")) = decide (d = 35) := by rw [hash_eq]; exact dec_s1 d 35
        rw [e35]
        refine ite2 (fun c3 => ?_) (fun c3 => ?_)
        · have h35 : d = 35 := of_decide_eq_true c3
          subst h35
          refine ⟨fun m2 σ2 H2 => ∃ j : Nat, σ2 = [some (.str (S l)), some (.int j)] ∧ H2 = H1 ∧ i ≤ j ∧ j ≤ l.length ∧ m2 = l.length - j ∧ at_ + bl false (l.drop at_) = j + bl true (l.drop j), ⟨_, i, rfl, rfl, Nat.le_refl _, hi, rfl, by rw [e, hdr]; rfl⟩, ?_⟩
          rintro m2 σ2 H2 ⟨j, rfl, rfl, hij, hj, rfl, e2⟩
          refine ⟨_, rfl, _, rfl, _, rfl, hsz, _, _, rfl, rfl, _, rfl, ?_⟩
          rw [S_len]
          refine ite2 (fun c4 => ?_) (fun c4 => ?_)
          · have hjl : j < l.length := by simpa using c4
            obtain ⟨d2, hd2, hdr2⟩ := drop_at hjl
            refine ⟨_, rfl, _, rfl, _, _, d2, rfl, rfl, hsz, (by rw [S_list]; exact atI_nat hd2), rfl, _, rfl, ?_⟩
            have e10 : decide (V.str ⟨#[d2]⟩ = V.str (Str.ofString "\n")) = decide (d2 = 10) := by rw [nl_eq]; exact dec_s1 d2 10
            rw [e10]
            refine ite2 (fun c5 => ?_) (fun c5 => ?_)
            · have h10 : ¬ d2 = 10 := by simpa using c5
              refine ⟨_, fun _ _ h => h, ?_⟩
              refine ⟨_, rfl, _, _, rfl, rfl, ?_⟩
              refine ⟨l.length - (j + 1), by omega, j + 1, rfl, rfl, by omega, by omega, rfl, ?_⟩
              rw [e2, hdr2, bl_t, if_neg h10]
              omega
            · have h10 : d2 = 10 := by simpa using c5
              subst h10
              have hne : i < j := by
                rcases Nat.lt_or_ge i j with h | h
                · exact h
                · have : i = j := by omega
                  subst this
                  rw [hd] at hd2
                  cases hd2
              refine ⟨l.length - j, by omega, j, rfl, rfl, hj, rfl, ?_⟩
              rw [e2, hdr2]
              rfl
          · have hjl : j = l.length := by
              have : ¬ j < l.length := by simpa using c4
              omega
            refine ⟨l.length - j, by omega, j, rfl, rfl, hj, rfl, ?_⟩
            rw [e2, hjl, List.drop_length]
            rfl
        · have h35 : ¬ d = 35 := by simpa using c3
          refine ⟨_, rfl, _, _, rfl, rfl, ?_⟩
          refine ⟨l.length - (i + 1), by omega, i + 1, rfl, rfl, by omega, rfl, ?_⟩
          have hb : d = 32 ∨ d = 10 := c2'.resolve_right h35
          rw [e, hdr, bl_f, if_pos hb]
          omega
      · refine ⟨_, rfl, ?_⟩
        have c2' : ¬ ((d = 32 ∨ d = 10) ∨ d = 35) := fun h => by
          have := (mem_blank d).mpr h
          exact c2 (decide_eq_true this)
        have e2 : bl false (l.drop i) = 0 := by rw [hdr]; exact bl_zero (fun h => c2' (.inl h)) (fun h => c2' (.inr h))
        rw [e, e2, Nat.add_zero] at q
        exact q
    · refine ⟨_, rfl, ?_⟩
      have hil : i = l.length := by
        have : ¬ i < l.length := by simpa using c
        omega
      have e2 : bl false (l.drop i) = 0 := by rw [hil, List.drop_length]; rfl
      rw [e, e2, Nat.add_zero] at q
      exact q
end
end K14

set_option Elab.async false
set_option linter.all false
set_option maxRecDepth 100000
set_option maxHeartbeats 4000000
set_option pp.maxSteps 1500
set_option pp.deepTerms false
namespace L2
open PySem PySem.Spec PyProof.Rows
theorem cutS_S {l : List Nat} {a b : Nat} (ha : a ≤ l.length) (hab : a ≤ b) : cutS (S l) (some (a : Int)) (some (b : Int)) = S ((l.drop a).take (b - a)) := by
  unfold cutS
  rw [HT.sIx_nat, HT.sIx_nat, S_list, S_len, Nat.min_eq_left ha]
  show S _ = S _
  congr 1
  rcases Nat.le_total b l.length with h | h
  · rw [Nat.min_eq_left h]
  · rw [Nat.min_eq_right h, List.take_of_length_le (by rw [List.length_drop]; omega), List.take_of_length_le (by rw [List.length_drop]; omega)]
theorem inV_strs (l : List Nat) : ∀ ws : List (List Nat), inV (.str (S l)) (ws.map fun w => V.str (S w)) = decide (l ∈ ws)
  | [] => by simp [inV]
  | a :: ws => by
    have ih := inV_strs l ws
    unfold inV at ih ⊢
    rw [List.map_cons, List.any_cons, ih]
    by_cases h : a = l
    · subst h
      simp [eqV]
    · have h1 : (S a == S l) = false := by
        rw [beq_eq_false_iff_ne]
        exact fun q => h (S_inj q)
      show ((S a == S l) || decide (l ∈ ws)) = _
      rw [h1, Bool.false_or]
      by_cases h2 : l ∈ ws
      · rw [decide_eq_true h2, decide_eq_true (List.mem_cons_of_mem _ h2)]
      · rw [decide_eq_false h2, decide_eq_false]
        intro q
        rcases List.mem_cons.mp q with q | q
        · exact h q.symm
        · exact h2 q
theorem all_map {α : Type} (f : α → Bool) : ∀ l : List α, (l.map f).all id = l.all f
  | [] => rfl
  | a :: l => by simp
end L2
namespace K14
open PySem PySem.Spec PyProof.Rows L2 He KH PySem.KX Lex
open PySem.W (Frag)
def kdS : Kd → Str
  | .name => "name"
  | .word => "word"
  | .number => "number"
  | .text => "text"
  | .sign => "sign"
def kdV : Option Kd → V
  | none => .non
  | some k => .str (kdS k)
def wordsV : List V := words.map fun w => V.str (S w)
theorem words_eq : ([V.str ⟨#[105, 109, 112, 111, 114, 116]⟩, V.str "from", V.str "as", V.str "def", V.str "class", V.str "global", V.str "nonlocal", V.str "if", V.str "else", V.str "while", V.str "for", V.str "in", V.str "return", V.str "break", V.str "continue", V.str "pass", V.str "and", V.str "or", V.str "not", V.str "fn", V.str "none", V.str "true", V.str "false"] : List V) = wordsV := by decide +kernel
theorem zero_eq : Str.ofString "0" = S [48] := by decide +kernel
theorem dec_s (a b : List Nat) : decide (V.str (S a) = V.str (S b)) = decide (a = b) := by
  by_cases h : a = b
  · subst h; simp
  · rw [decide_eq_false h, decide_eq_false]
    intro z
    injection z with z
    exact h (S_inj z)
section
variable {w : World} {K : Frag} {mg : Str → Option Value} {base : Heap}
theorem lw {T : Txt K mg} (H : Hp) : SqL K H (ga K "WORDS") wordsV := by rw [← words_eq]; exact T.l_WORDS H
/-! ### is_name -/
def spIsName : Sp := fun vs H Q _ => ∃ l : List Nat, vs = [.str (S l)] ∧ l.length ≤ 10000 ∧ ∀ H', Same H H' → Q (.bl (isName l)) H'
theorem sc_is_name : FnScope ["value", "sign"] ["value"] (defScope s_is_name) := ⟨rfl, rfl, rfl, by decide +kernel, rfl, by decide +kernel, by decide +kernel⟩
theorem ok_is_name {f : Addr} {fd : FuncData} (F : Fun K "is_name" "is_name" s_is_name f fd) (T : Txt K mg) : FnOk P w K mg base CX0 2 f fd ["value"] spIsName := by
  obtain ⟨fdR, F_is_in_run⟩ := T.f_is_in_run
  have G_is_in_run : FnOk P w K mg base CX0 1 _ fdR ["sign"] spInRun := ok_is_in_run F_is_in_run T
  have b_is_in_run : Binds K fdR ["sign"] [] := F_is_in_run.binds fun _ _ _ _ _ _ us hl => match us, hl with | [_], _ => rfl
  refine F.ok sc_is_name (fun vs H Q E h => ?_) (fun cdv A outer s H vs Q E hr h => ?_)
  · obtain ⟨l, rfl, _⟩ := h
    rfl
  · obtain ⟨l, rfl, hl, q⟩ := h
    have sc := sc_is_name
    have hr_is_in_run := hr
    have hsz : (S l).length ≤ sizeLine := by rw [S_len]; exact size10k hl
    refine ⟨_, (pss_cons (ps_if (PW.pt (pw_or (pt_not (pt_val (pe_callB call_isi rfl T.n_isinstance (by decide +kernel) (pa_cons (pv 0) (pa_cons (pe_bltn (v := .ty "str") (u := .type "str") rfl T.n_str (by decide +kernel) rfl) pa_nil))))) (pw_or (pt_not (pt_chain op_le op_le pe_int (pe_callB call_len_str rfl T.n_len (by decide +kernel) (pa_cons (pv 0) pa_nil)) (pe_gi rfl T.c_MOST_IN_NAME))) (pw_or1 (pt_cmpR op_in_seq (pv 0) (pe_glob (v := .ref _) rfl T.g_WORDS rfl) rfl)))))
        (pss_one (ps_ret pe_bl))
        pss_nil)
      (pss_one (ps_ret (pe_and (pe_cmpR op_in_sign (pe_ix (r := rIxS) ix_str (pv 0) pe_int (fun _ _ => rfl)) (pe_gs rfl T.c_LETTERS) rfl) (pe_one (pe_callB (cr_all rfl) rfl T.n_all (by decide +kernel) (pa_cons (pe_lc (own := [("sign", 1)]) (g := gName 1) (tt := tYes) rfl sc.nd (pi_str (pv 0)) (blkOk_by (N := ["value", "sign"]) (sc := defScope s_is_name) (by decide +kernel)) (fun _ _ _ _ _ => pg_name (i := 1) sc.nd rfl (Or.inl rfl)) (fun _ _ _ _ _ => pts_nil) (fun _ _ _ _ _ => pe_call G_is_in_run hr_is_in_run rfl T.g_is_in_run F_is_in_run.kp b_is_in_run .nil pass0 (pa_cons (pv 1) pa_nil))) pa_nil))))))), ?_⟩
    refine ⟨_, rfl, _, _, .type "str", .type "str", true, rfl, .ty "str", .base (.str _), kit_ty (by decide +kernel), _, rfl, ?_⟩
    refine iteF ?_
    refine ⟨_, rfl, _, rfl, hsz, _, _, rfl, rfl, _, rfl, ?_⟩
    rw [S_len]
    have fin : ∀ b : Bool, b = isName l → ∀ H', Same H H' → Q (.bl b) H' := fun b e => by rw [e]; exact q
    refine ite2 (fun c1 => ?_) (fun c1 => ?_)
    · have h1 : (1 : Int) ≤ l.length := of_decide_eq_true c1
      refine ⟨_, _, rfl, rfl, _, rfl, ?_⟩
      refine ite2 (fun c2 => ?_) (fun c2 => ?_)
      · have h2 : ¬ ((l.length : Int) ≤ 20) := by simpa using c2
        refine fin false ?_ _ (Same.refl _)
        unfold isName
        rw [decide_eq_false (show ¬ l.length ≤ 20 by omega)]
        simp
      · have h2 : (l.length : Int) ≤ 20 := by simpa using c2
        refine ⟨_, rfl, _, wordsV, rfl, .inl (lw (T := T) H), rfl, (by decide +kernel), _, rfl, ?_⟩
        show if inV (V.str (S l)) wordsV = true then _ else _
        have ei : inV (V.str (S l)) wordsV = decide (l ∈ words) := inV_strs l words
        rw [ei]
        refine ite2 (fun c3 => ?_) (fun c3 => ?_)
        · have h3 : l ∈ words := of_decide_eq_true c3
          refine fin false ?_ _ (Same.refl _)
          unfold isName
          rw [decide_eq_true h3]
          simp
        · have h3 : ¬ l ∈ words := by simpa using c3
          obtain ⟨d, r, rfl⟩ : ∃ d r, l = d :: r := by
            cases l with
            | nil => simp at h1
            | cons d r => exact ⟨d, r, rfl⟩
          refine ⟨_, rfl, _, _, d, rfl, rfl, hsz, (by rw [S_list]; exact atI_nat (j := 0) rfl), d, _, rfl, rfl, _, rfl, ?_⟩
          rw [letters_eq]
          refine ite2 (fun c4 => ?_) (fun c4 => ?_)
          · have h4 : d ∈ letters := of_decide_eq_true c4
            refine ⟨_, rfl, _, rfl, fun D hD => lc_it walk_str (fun i H1 => H1 D = some (.lst (((d :: r).take i).map fun c => V.bl (inRun c))) ∧ Same H H1) ?_ ?_ ?_ ?_⟩
            · exact ⟨upd_same, same_new hD⟩
            · exact fun _ _ _ _ => trivial
            · rintro i x H1 H2 hi ⟨e1, S1⟩ ⟨rfl, c, hc, rfl⟩
              have hc' : (d :: r)[i]? = some c := by
                have e2 : (S (d :: r)).cps = (d :: r).toArray := rfl
                rw [e2] at hc
                simpa using hc
              refine ⟨rfl, yes_if ?_⟩
              refine ⟨_, rfl, c, rfl, _, e1, ?_, ?_, ?_⟩
              · rw [List.length_map, List.length_take]
                refine Nat.lt_of_le_of_lt (Nat.min_le_right _ _) ?_
                exact Nat.lt_of_le_of_lt hl (by rw [sizeLine_eq]; decide)
              · rw [upd_same, List.take_succ, hc', List.map_append]
                rfl
              · intro b o e
                rw [upd_ne (ne_of_none e hD)]
                exact S1 b o e
            · rintro H1 ⟨e1, S1⟩
              have e2 : (S (d :: r)).cps.size = (d :: r).length := by
                show (d :: r).toArray.size = _
                simp
              rw [e2, List.take_length] at e1
              refine ⟨D, (d :: r).map inRun, rfl, ?_, ?_⟩
              · rw [List.map_map]
                exact SqL.of e1
              · refine fin _ ?_ _ S1
                rw [all_map]
                unfold isName
                rw [decide_eq_false h3, decide_eq_true (show 1 ≤ (d :: r).length by simp), decide_eq_true (show (d :: r).length ≤ 20 by omega)]
                simp [h4]
          · have h4 : ¬ d ∈ letters := by simpa using c4
            refine fin false ?_ _ (Same.refl _)
            unfold isName
            simp [h4]
    · have h1 : ¬ (1 : Int) ≤ l.length := by simpa using c1
      refine ⟨_, rfl, ?_⟩
      refine iteT ?_
      refine fin false ?_ _ (Same.refl _)
      unfold isName
      rw [decide_eq_false (show ¬ 1 ≤ l.length by omega)]
      simp
end
end K14

set_option Elab.async false
set_option linter.all false
set_option maxRecDepth 100000
set_option maxHeartbeats 4000000
set_option pp.maxSteps 1500
set_option pp.deepTerms false
namespace K14
open PySem PySem.Spec PyProof.Rows L2 He KH PySem.KX Lex
open PySem.W (Frag)
section
variable {w : World} {K : Frag} {mg : Str → Option Value} {base : Heap}
/-! ### run_kind -/
def spRunKind : Sp := fun vs H Q _ => ∃ l : List Nat, vs = [.str (S l)] ∧ l ≠ [] ∧ l.length ≤ 10000 ∧ ∀ H', Same H H' → Q (kdV (runKind l)) H'
theorem sc_run_kind : FnScope ["run", "sign"] ["run"] (defScope s_run_kind) := ⟨rfl, rfl, rfl, by decide +kernel, rfl, by decide +kernel, by decide +kernel⟩
theorem ok_run_kind {f : Addr} {fd : FuncData} (F : Fun K "run_kind" "run_kind" s_run_kind f fd) (T : Txt K mg) : FnOk P w K mg base CX0 3 f fd ["run"] spRunKind := by
  obtain ⟨fdR, F_is_name⟩ := T.f_is_name
  have G_is_name : FnOk P w K mg base CX0 2 _ fdR ["value"] spIsName := ok_is_name F_is_name T
  have b_is_name : Binds K fdR ["value"] [] := F_is_name.binds fun _ _ _ _ _ _ us hl => match us, hl with | [_], _ => rfl
  refine F.ok sc_run_kind (fun vs H Q E h => ?_) (fun cdv A outer s H vs Q E hr h => ?_)
  · obtain ⟨l, rfl, _⟩ := h
    rfl
  · obtain ⟨l, rfl, hne, hl, q⟩ := h
    have sc := sc_run_kind
    have hr_is_name := hr
    have hsz : (S l).length ≤ sizeLine := by rw [S_len]; exact size10k hl
    have fin : ∀ k : Option Kd, k = runKind l → ∀ H', Same H H' → Q (kdV k) H' := fun b e => by rw [e]; exact q
    refine ⟨_, (pss_cons (ps_if (pt_cmpR op_in_seq (pv 0) (pe_glob (v := .ref _) rfl T.g_WORDS rfl) rfl)
        (pss_one (ps_ret pe_str))
        pss_nil)
      (pss_cons (ps_if (pt_val (pe_call G_is_name hr_is_name rfl T.g_is_name F_is_name.kp b_is_name .nil pass0 (pa_cons (pv 0) pa_nil)))
        (pss_one (ps_ret pe_str))
        pss_nil)
      (pss_cons (ps_if (PW.pt (pw_and (pt_cmpR op_le (pe_callB call_len_str rfl T.n_len (by decide +kernel) (pa_cons (pv 0) pa_nil)) (pe_gi rfl T.c_MOST_DIGITS) (nomark _)) (pw_and (pt_val (pe_callB (cr_all rfl) rfl T.n_all (by decide +kernel) (pa_cons (pe_lc (own := [("sign", 1)]) (g := gName 1) (tt := tYes) rfl sc.nd (pi_str (pv 0)) (blkOk_by (N := ["run", "sign"]) (sc := defScope s_run_kind) (by decide +kernel)) (fun _ _ _ _ _ => pg_name (i := 1) sc.nd rfl (Or.inl rfl)) (fun _ _ _ _ _ => pts_nil) (fun _ _ _ _ _ => pe_cmpR op_in_sign (pv 1) (pe_gs rfl T.c_DIGITS) rfl)) pa_nil))) (pw_and1 (PW.pt (pw_or (pt_cmpR op_ne (pe_ix (r := rIxS) ix_str (pv 0) pe_int (fun _ _ => rfl)) pe_str (nomark _)) (pw_or1 (pt_cmpR op_eq (pv 0) pe_str (nomark _)))))))))
        (pss_one (ps_ret pe_str))
        pss_nil)
      (pss_one (ps_ret pe_non))))), ?_⟩
    refine ⟨_, rfl, _, wordsV, rfl, .inl (lw (T := T) H), rfl, (by decide +kernel), _, rfl, ?_⟩
    show if inV (V.str (S l)) wordsV = true then _ else _
    have ei : inV (V.str (S l)) wordsV = decide (l ∈ words) := inV_strs l words
    rw [ei]
    refine ite2 (fun c1 => ?_) (fun c1 => ?_)
    · have h1 : l ∈ words := of_decide_eq_true c1
      refine fin (some .word) ?_ _ (Same.refl _)
      unfold runKind
      rw [if_pos h1]
    · have h1 : ¬ l ∈ words := by simpa using c1
      refine ⟨_, rfl, l, rfl, hl, fun H1 S1 => ⟨_, rfl, ?_⟩⟩
      refine ite2 (fun c2 => ?_) (fun c2 => ?_)
      · refine fin (some .name) ?_ _ S1
        unfold runKind
        rw [if_neg h1, if_pos c2]
      · have no : ∀ H', Same H H' → isNumber l = false → Q .non H' := fun H' S' e => by
          refine fin none ?_ _ S'
          unfold runKind
          rw [if_neg h1, if_neg c2, e]
          rfl
        have yes : ∀ H', Same H H' → isNumber l = true → Q (.str "number") H' := fun H' S' e => by
          refine fin (some .number) ?_ _ S'
          unfold runKind
          rw [if_neg h1, if_neg c2, if_pos e]
        refine ⟨_, rfl, _, rfl, hsz, _, _, rfl, rfl, _, rfl, ?_⟩
        rw [S_len]
        refine ite2 (fun c3 => ?_) (fun c3 => ?_)
        · have h3 : (l.length : Int) ≤ 18 := of_decide_eq_true c3
          obtain ⟨d, r, rfl⟩ : ∃ d r, l = d :: r := by
            cases l with
            | nil => exact absurd rfl hne
            | cons d r => exact ⟨d, r, rfl⟩
          refine ⟨_, rfl, _, rfl, fun D hD => lc_it walk_str (fun i H2 => H2 D = some (.lst (((d :: r).take i).map fun c => V.bl (decide (c ∈ digits)))) ∧ Same H1 H2) ?_ ?_ ?_ ?_⟩
          · exact ⟨upd_same, same_new hD⟩
          · exact fun _ _ _ _ => trivial
          · rintro i x H2 H3 hi ⟨e1, S2⟩ ⟨rfl, c, hc, rfl⟩
            have hc' : (d :: r)[i]? = some c := by
              have e2 : (S (d :: r)).cps = (d :: r).toArray := rfl
              rw [e2] at hc
              simpa using hc
            refine ⟨rfl, yes_if ?_⟩
            refine ⟨_, rfl, c, _, rfl, rfl, _, e1, ?_, ?_, ?_⟩
            · rw [List.length_map, List.length_take]
              refine Nat.lt_of_le_of_lt (Nat.min_le_right _ _) ?_
              exact Nat.lt_of_le_of_lt hl (by rw [sizeLine_eq]; decide)
            · rw [upd_same, List.take_succ, hc', List.map_append, digits_eq]
              rfl
            · intro b o e
              rw [upd_ne (ne_of_none e hD)]
              exact S2 b o e
          · rintro H2 ⟨e1, S2⟩
            have e2 : (S (d :: r)).cps.size = (d :: r).length := by
              show (d :: r).toArray.size = _
              simp
            rw [e2, List.take_length] at e1
            have S12 := S1.trans S2
            refine ⟨D, (d :: r).map fun c => decide (c ∈ digits), rfl, ?_, _, rfl, ?_⟩
            · rw [List.map_map]
              exact SqL.of e1
            · rw [all_map]
              refine ite2 (fun c4 => ?_) (fun c4 => ?_)
              · refine ⟨_, rfl, _, _, d, rfl, rfl, hsz, (by rw [S_list]; exact atI_nat (j := 0) rfl), rfl, _, rfl, ?_⟩
                have e0 : decide (V.str ⟨#[d]⟩ = V.str (Str.ofString "0")) = decide (d = 48) := by rw [zero_eq]; exact dec_s1 d 48
                rw [e0]
                refine ite2 (fun c5 => ?_) (fun c5 => ?_)
                · refine yes _ S12 ?_
                  have h5 : ¬ d = 48 := by simpa using c5
                  unfold isNumber
                  rw [c4, decide_eq_true (show (d :: r).length ≤ 18 by omega)]
                  simp [h5]
                · have h5 : d = 48 := by simpa using c5
                  subst h5
                  refine ⟨_, rfl, rfl, _, rfl, ?_⟩
                  have e0' : decide (V.str (S (48 :: r)) = V.str (Str.ofString "0")) = decide (48 :: r = [48]) := by rw [zero_eq]; exact dec_s _ _
                  rw [e0']
                  refine ite2 (fun c6 => ?_) (fun c6 => ?_)
                  · refine yes _ S12 ?_
                    have h6 : 48 :: r = [48] := of_decide_eq_true c6
                    unfold isNumber
                    rw [c4, decide_eq_true (show (48 :: r).length ≤ 18 by omega), decide_eq_true h6]
                    simp
                  · refine no _ S12 ?_
                    have h6 : ¬ 48 :: r = [48] := fun e => c6 (decide_eq_true e)
                    unfold isNumber
                    rw [decide_eq_false h6]
                    simp
              · refine no _ S12 ?_
                unfold isNumber
                rw [show (d :: r).all (fun c => decide (c ∈ digits)) = false by simpa using c4]
                simp
        · refine no _ S1 ?_
          have h3 : ¬ (l.length : Int) ≤ 18 := by simpa using c3
          unfold isNumber
          rw [decide_eq_false (show ¬ l.length ≤ 18 by omega)]
          simp
end
end K14

set_option Elab.async false
set_option linter.all false
set_option maxRecDepth 100000
set_option maxHeartbeats 4000000
set_option pp.maxSteps 1500
set_option pp.deepTerms false
namespace Lex
theorem tokenAt_le {c : Nat} {r : List Nat} {k : Kd} {m : Nat} (h : tokenAt (c :: r) = (some k, m)) : m ≤ (c :: r).length := by
  rw [tokenAt_cons] at h
  by_cases h1 : inRun c = true
  · rw [if_pos h1] at h
    have e : runLen (c :: r) = m := congrArg Prod.snd h
    rw [← e]
    unfold runLen
    exact (List.takeWhile_prefix _).length_le
  · rw [if_neg h1] at h
    by_cases h2 : c = 39
    · rw [if_pos h2] at h
      by_cases h3 : r[txtLen r]? = some 39 ∧ txtLen r ≤ 40
      · have e : txtLen r + 2 = m := congrArg Prod.snd h
        have := (List.getElem?_eq_some_iff.mp h3.1).1
        rw [List.length_cons]
        omega
      · rw [if_neg h3] at h
        have e : (none : Option Kd) = some k := congrArg Prod.fst h
        cases e
    · rw [if_neg h2] at h
      by_cases h3 : (c :: r).take 2 = [61, 61] ∨ (c :: r).take 2 = [60, 61]
      · rw [if_pos h3] at h
        have e : 2 = m := congrArg Prod.snd h
        have hl : ((c :: r).take 2).length = 2 := by rcases h3 with h3 | h3 <;> rw [h3] <;> rfl
        rw [List.length_take] at hl
        omega
      · rw [if_neg h3] at h
        have e : 1 = m := congrArg Prod.snd h
        rw [List.length_cons]
        omega
theorem txtLen_cons (d : Nat) (r : List Nat) : txtLen (d :: r) = if d = 39 ∨ d = 10 then 0 else txtLen r + 1 := by
  unfold txtLen
  rw [List.takeWhile_cons]
  by_cases h : d = 39 ∨ d = 10
  · have : (!(decide (d = 39) || decide (d = 10))) = false := by rcases h with h | h <;> simp [h]
    rw [this, if_pos h]
    rfl
  · have : (!(decide (d = 39) || decide (d = 10))) = true := by simpa using h
    rw [this, if_neg h]
    rfl
end Lex
namespace K14
open PySem PySem.Spec PyProof.Rows L2 He KH PySem.KX Lex
open PySem.W (Frag)
theorem quote_eq : Str.ofString "'" = S [39] := by decide +kernel
theorem qn_eq : (Str.ofString "'\n").cps.toList = [39, 10] := by decide +kernel
theorem two_eq : ([V.str "==", V.str "<="] : List V) = ([[61, 61], [60, 61]] : List (List Nat)).map fun w => V.str (S w) := by decide +kernel
section
variable {w : World} {K : Frag} {mg : Str → Option Value} {base : Heap}
/-! ### token_at -/
def spTokenAt : Sp := fun vs H Q _ => ∃ (l : List Nat) (at_ : Nat), vs = [.str (S l), .int at_] ∧ l.length ≤ 10000 ∧ at_ < l.length ∧
  ∀ p H', Same H H' → H' p = some (.tup [kdV (tokenAt (l.drop at_)).1, .int ((at_ + (tokenAt (l.drop at_)).2 : Nat) : Int)]) → Q (.ref p) H'
theorem sc_token_at : FnScope ["text", "at", "sign", "end", "is_whole"] ["text", "at"] (defScope s_token_at) := ⟨rfl, rfl, rfl, by decide +kernel, rfl, by decide +kernel, by decide +kernel⟩
theorem ok_token_at {f : Addr} {fd : FuncData} (F : Fun K "token_at" "token_at" s_token_at f fd) (T : Txt K mg) : FnOk P w K mg base CX0 4 f fd ["text", "at"] spTokenAt := by
  obtain ⟨fdR, F_is_in_run⟩ := T.f_is_in_run
  obtain ⟨fdE, F_run_end⟩ := T.f_run_end
  obtain ⟨fdK, F_run_kind⟩ := T.f_run_kind
  have G_is_in_run : FnOk P w K mg base CX0 1 _ fdR ["sign"] spInRun := ok_is_in_run F_is_in_run T
  have b_is_in_run : Binds K fdR ["sign"] [] := F_is_in_run.binds fun _ _ _ _ _ _ us hl => match us, hl with | [_], _ => rfl
  have G_run_end : FnOk P w K mg base CX0 2 _ fdE ["text", "at"] spRunEnd := ok_run_end F_run_end F_is_in_run rfl T
  have b_run_end : Binds K fdE ["text", "at"] [] := F_run_end.binds fun _ _ _ _ _ _ us hl => match us, hl with | [_, _], _ => rfl
  have G_run_kind : FnOk P w K mg base CX0 3 _ fdK ["run"] spRunKind := ok_run_kind F_run_kind T
  have b_run_kind : Binds K fdK ["run"] [] := F_run_kind.binds fun _ _ _ _ _ _ us hl => match us, hl with | [_], _ => rfl
  refine F.ok sc_token_at (fun vs H Q E h => ?_) (fun cdv A outer s H vs Q E hr h => ?_)
  · obtain ⟨l, at_, rfl, _⟩ := h
    rfl
  · obtain ⟨l, at_, rfl, hl, ha, q⟩ := h
    have sc := sc_token_at
    have hr_is_in_run : Room 1 _ := hr.mono (by decide)
    have hr_run_end : Room 2 _ := hr.mono (by decide)
    have hr_run_kind := hr
    have hsz : (S l).length ≤ sizeLine := by rw [S_len]; exact size10k hl
    refine ⟨_, (pss_cons (ps_set (i := 2) sc.nd rfl (Or.inl rfl) (pe_ix (r := rIxS) ix_str (pv 0) (pv 1) (fun _ _ => rfl)))
      (pss_cons (ps_if (pt_val (pe_call G_is_in_run hr_is_in_run rfl T.g_is_in_run F_is_in_run.kp b_is_in_run .nil pass0 (pa_cons (pv 2) pa_nil)))
        (pss_cons (ps_set (i := 3) sc.nd rfl (Or.inl rfl) (pe_call G_run_end hr_run_end rfl T.g_run_end F_run_end.kp b_run_end .nil pass0 (pa_cons (pv 0) (pa_cons (pv 1) pa_nil))))
        (pss_one (ps_ret (pe_tup (pa_cons (pe_call G_run_kind hr_run_kind rfl T.g_run_kind F_run_kind.kp b_run_kind .nil pass0 (pa_cons (pe_slice sl_str (pv 0) (po_some (pv 1)) (po_some (pv 3))) pa_nil)) (pa_cons (pv 3) pa_nil))))))
        pss_nil)
      (pss_cons (ps_if (pt_cmpR op_eq (pv 2) pe_str (nomark _))
        (pss_cons (ps_set (i := 3) sc.nd rfl (Or.inl rfl) (pe_op op_add (pv 1) pe_int))
        (pss_cons (ps_while PassesOwn.never (PW.pt (pw_and (pt_cmpR op_lt (pv 3) (pe_callB call_len_str rfl T.n_len (by decide +kernel) (pa_cons (pv 0) pa_nil)) (nomark _)) (pw_and1 (pt_cmpR op_notIn_sign (pe_ix (r := rIxS) ix_str (pv 0) (pv 3) (fun _ _ => rfl)) pe_str rfl))))
          (pss_one (ps_aug (i := 3) sc.nd rfl (Or.inl rfl) pe_int ip_add)))
        (pss_cons (ps_set (i := 4) sc.nd rfl (Or.inl rfl) (pe_and (pe_cmpR op_lt (pv 3) (pe_callB call_len_str rfl T.n_len (by decide +kernel) (pa_cons (pv 0) pa_nil)) (nomark _)) (pe_and (pe_cmpR op_eq (pe_ix (r := rIxS) ix_str (pv 0) (pv 3) (fun _ _ => rfl)) pe_str (nomark _)) (pe_one (pe_cmpR op_le (pe_op op_sub (pe_op op_sub (pv 3) (pv 1)) pe_int) (pe_gi rfl T.c_MOST_IN_TEXT) (nomark _))))))
        (pss_one (ps_ret (pe_tup (pa_cons (pe_ifExp (pt_val (pv 4)) pe_str pe_non) (pa_cons (pe_op op_add (pv 3) pe_int) pa_nil))))))))
        pss_nil)
      (pss_cons (ps_if (pt_cmpR op_in_seq (pe_slice sl_str (pv 0) (po_some (pv 1)) (po_some (pe_op op_add (pv 1) pe_int))) (pe_tup (pa_cons pe_str (pa_cons pe_str pa_nil))) rfl)
        (pss_one (ps_ret (pe_tup (pa_cons pe_str (pa_cons (pe_op op_add (pv 1) pe_int) pa_nil)))))
        pss_nil)
      (pss_one (ps_ret (pe_tup (pa_cons (pe_ifExp (pt_cmpR op_in_sign (pv 2) (pe_gs rfl T.c_SIGNS) rfl) pe_str pe_non) (pa_cons (pe_op op_add (pv 1) pe_int) pa_nil))))))))), ?_⟩
    obtain ⟨c, hc, hdr⟩ := drop_at ha
    have hat : atI (S l).cps.toList (at_ : Int) = some c := by rw [S_list]; exact atI_nat hc
    generalize hr' : l.drop (at_ + 1) = r at hdr
    have tk := tokenAt_cons c r
    rw [hdr] at q
    refine ⟨_, rfl, _, rfl, _, _, c, rfl, rfl, hsz, hat, ?_⟩
    refine ⟨_, rfl, c, rfl, _, rfl, ?_⟩
    refine ite2 (fun c1 => ?_) (fun c1 => ?_)
    · rw [if_pos c1] at tk
      rw [tk] at q
      refine ⟨_, rfl, _, rfl, l, at_, rfl, hl, Nat.le_of_lt ha, ?_⟩
      refine ⟨_, rfl, _, rfl, _, rfl, _, rfl, _, rfl, _, rfl, hsz, (l.drop at_).take (runLen (l.drop at_)), ?_, ?_, ?_, fun H1 S1 => ?_⟩
      · rw [cutS_S (Nat.le_of_lt ha) (Nat.le_add_right _ _), Nat.add_sub_cancel_left]
        rfl
      · rw [hdr, runLen_pos c1]
        simp
      · rw [List.length_take, List.length_drop]
        omega
      · refine ⟨_, rfl, (by show 2 ≤ sizeLine; decide), fun p hp => ?_⟩
        refine q p _ (S1.trans (same_new hp)) ?_
        rw [upd_same, hdr]
    · rw [if_neg c1] at tk
      refine ⟨_, rfl, rfl, _, rfl, ?_⟩
      have e39 : decide (V.str ⟨#[c]⟩ = V.str (Str.ofString "'")) = decide (c = 39) := by rw [quote_eq]; exact dec_s1 c 39
      rw [e39]
      refine ite2 (fun c2 => ?_) (fun c2 => ?_)
      · have h39 : c = 39 := of_decide_eq_true c2
        rw [if_pos h39] at tk
        rw [tk] at q
        refine ⟨_, rfl, _, _, rfl, rfl, ?_⟩
        refine ⟨fun m σ H1 => ∃ j : Nat, σ = [some (.str (S l)), some (.int at_), some (.str (S [c])), some (.int j), none] ∧ H1 = H ∧ at_ + 1 ≤ j ∧ j ≤ l.length ∧ m = l.length - j ∧ at_ + 1 + txtLen r = j + txtLen (l.drop j), ⟨_, at_ + 1, rfl, rfl, Nat.le_refl _, ha, rfl, by rw [hr']⟩, ?_⟩
        rintro m σ H1 ⟨j, rfl, rfl, hj1, hj, rfl, e⟩
        refine ⟨_, rfl, _, rfl, _, rfl, hsz, _, _, rfl, rfl, _, rfl, ?_⟩
        rw [S_len]
        -- behind the loop
        have fin : txtLen (l.drop j) = 0 → ∀ whole : Bool, whole = decide (r[txtLen r]? = some 39 ∧ txtLen r ≤ 40) → ∀ (p : Addr), H1 p = none →
            Q (.ref p) (upd H1 p (.tup [if whole = true then V.str "text" else .non, .int ((j : Int) + 1)])) := fun ez whole ew p hp => by
          refine q p _ (same_new hp) ?_
          rw [upd_same, ew]
          have e3 : (j : Int) + 1 = ((at_ + (txtLen r + 2) : Nat) : Int) := by omega
          rw [e3]
          by_cases hw : r[txtLen r]? = some 39 ∧ txtLen r ≤ 40
          · rw [decide_eq_true hw, if_pos rfl, if_pos hw]
            rfl
          · rw [decide_eq_false hw, if_neg Bool.false_ne_true, if_neg hw]
            rfl
        have hget : txtLen (l.drop j) = 0 → r[txtLen r]? = l[j]? := fun ez => by
          rw [← hr', List.getElem?_drop]
          congr 1
          rw [hr']
          omega
        refine ite2 (fun c3 => ?_) (fun c3 => ?_)
        · have hjl : j < l.length := by simpa using c3
          obtain ⟨d2, hd2, hdr2⟩ := drop_at hjl
          have hat2 : atI (S l).cps.toList (j : Int) = some d2 := by rw [S_list]; exact atI_nat hd2
          refine ⟨_, rfl, _, rfl, _, _, d2, rfl, rfl, hsz, hat2, d2, _, rfl, rfl, _, rfl, ?_⟩
          rw [qn_eq]
          refine ite2 (fun c4 => ?_) (fun c4 => ?_)
          · have h4 : ¬ (d2 = 39 ∨ d2 = 10) := by simpa using c4
            refine ⟨_, fun _ _ h => h, ?_⟩
            refine ⟨_, rfl, _, _, rfl, rfl, ?_⟩
            refine ⟨l.length - (j + 1), by omega, j + 1, rfl, rfl, by omega, by omega, rfl, ?_⟩
            rw [e, hdr2, txtLen_cons, if_neg h4]
            omega
          · have h4 : d2 = 39 ∨ d2 = 10 := by
              have z : ¬ d2 = 39 → d2 = 10 := by simpa using c4
              by_cases hq : d2 = 39
              · exact .inl hq
              · exact .inr (z hq)
            have ez : txtLen (l.drop j) = 0 := by rw [hdr2, txtLen_cons, if_pos h4]
            have hg := hget ez
            refine ⟨_, rfl, _, rfl, _, rfl, hsz, _, _, rfl, rfl, _, rfl, ?_⟩
            rw [S_len, decide_eq_true (show (j : Int) < (l.length : Int) by omega)]
            refine iteT ?_
            refine ⟨_, rfl, _, rfl, _, _, d2, rfl, rfl, hsz, hat2, rfl, _, rfl, ?_⟩
            have e39' : decide (V.str ⟨#[d2]⟩ = V.str (Str.ofString "'")) = decide (d2 = 39) := by rw [quote_eq]; exact dec_s1 d2 39
            rw [e39']
            refine ite2 (fun c5 => ?_) (fun c5 => ?_)
            · have h5 : d2 = 39 := of_decide_eq_true c5
              refine ⟨_, rfl, _, rfl, _, _, rfl, rfl, _, _, rfl, rfl, _, _, rfl, rfl, ?_⟩
              refine ⟨_, rfl, _, rfl, ?_⟩
              have ew : decide ((j : Int) - (at_ : Int) - 1 ≤ 40) = decide (r[txtLen r]? = some 39 ∧ txtLen r ≤ 40) := by
                by_cases hw : (j : Int) - (at_ : Int) - 1 ≤ 40
                · rw [decide_eq_true hw, decide_eq_true ⟨by rw [hg, hd2, h5], by omega⟩]
                · rw [decide_eq_false hw, decide_eq_false fun z => hw (by omega)]
              refine ite2 (fun c6 => ?_) (fun c6 => ?_)
              · refine ⟨_, rfl, _, _, rfl, rfl, (by show 2 ≤ sizeLine; decide), fun p hp => ?_⟩
                exact fin ez true (by rw [← ew]; exact c6.symm) p hp
              · refine ⟨_, rfl, _, _, rfl, rfl, (by show 2 ≤ sizeLine; decide), fun p hp => ?_⟩
                exact fin ez false (by rw [← ew]; exact (by simpa using c6 : decide ((j : Int) - (at_ : Int) - 1 ≤ 40) = false).symm) p hp
            · have h5 : ¬ d2 = 39 := by simpa using c5
              refine ⟨_, rfl, _, rfl, ?_⟩
              refine iteF ?_
              refine ⟨_, rfl, _, _, rfl, rfl, (by show 2 ≤ sizeLine; decide), fun p hp => ?_⟩
              exact fin ez false (by rw [hg, hd2]; simp [h5]) p hp
        · have hjl : j = l.length := by
            have : ¬ j < l.length := by simpa using c3
            omega
          have ez : txtLen (l.drop j) = 0 := by rw [hjl, List.drop_length]; rfl
          have hg := hget ez
          refine ⟨_, rfl, _, rfl, _, rfl, hsz, _, _, rfl, rfl, _, rfl, ?_⟩
          rw [S_len, decide_eq_false (show ¬ (j : Int) < (l.length : Int) by omega)]
          refine iteF ?_
          refine ⟨_, rfl, _, rfl, ?_⟩
          refine iteF ?_
          refine ⟨_, rfl, _, _, rfl, rfl, (by show 2 ≤ sizeLine; decide), fun p hp => ?_⟩
          exact fin ez false (by rw [hg, hjl]; simp) p hp
      · have h39 : ¬ c = 39 := by simpa using c2
        rw [if_neg h39] at tk
        refine ⟨_, rfl, _, rfl, _, rfl, _, rfl, _, _, rfl, rfl, _, rfl, _, rfl, hsz, (by show 2 ≤ sizeLine; decide), fun p0 hp0 => ?_⟩
        refine ⟨p0, [V.str "==", V.str "<="], rfl, .inr (SqT.of upd_same), rfl, rfl, _, rfl, ?_⟩
        have ecut : cutS (S l) (some (at_ : Int)) (some ((at_ : Int) + 2)) = S ((c :: r).take 2) := by
          have := cutS_S (l := l) (a := at_) (b := at_ + 2) (Nat.le_of_lt ha) (Nat.le_add_right _ _)
          rw [Nat.add_sub_cancel_left, hdr] at this
          exact this
        show if inV (V.str (cutS (S l) (some (at_ : Int)) (some ((at_ : Int) + 2)))) [V.str "==", V.str "<="] = true then _ else _
        rw [ecut, two_eq, inV_strs]
        have em : ((c :: r).take 2 ∈ ([[61, 61], [60, 61]] : List (List Nat))) ↔ ((c :: r).take 2 = [61, 61] ∨ (c :: r).take 2 = [60, 61]) := by simp only [List.mem_cons, List.not_mem_nil, or_false]
        have S0 : Same H (upd H p0 (.tup [V.str "==", V.str "<="])) := same_new hp0
        refine ite2 (fun c3 => ?_) (fun c3 => ?_)
        · have h3 := em.mp (of_decide_eq_true c3)
          rw [if_pos h3] at tk
          rw [tk] at q
          refine ⟨_, rfl, _, _, rfl, rfl, (by show 2 ≤ sizeLine; decide), fun p hp => ?_⟩
          exact q p _ (S0.trans (same_new hp)) upd_same
        · have h3 : ¬ ((c :: r).take 2 = [61, 61] ∨ (c :: r).take 2 = [60, 61]) := fun z => c3 (decide_eq_true (em.mpr z))
          rw [if_neg h3] at tk
          rw [tk] at q
          refine ⟨_, rfl, c, _, rfl, rfl, _, rfl, ?_⟩
          rw [signs_eq]
          refine ite2 (fun c4 => ?_) (fun c4 => ?_)
          · refine ⟨_, rfl, _, _, rfl, rfl, (by show 2 ≤ sizeLine; decide), fun p hp => ?_⟩
            refine q p _ (S0.trans (same_new hp)) ?_
            rw [upd_same, if_pos (of_decide_eq_true c4)]
            rfl
          · refine ⟨_, rfl, _, _, rfl, rfl, (by show 2 ≤ sizeLine; decide), fun p hp => ?_⟩
            refine q p _ (S0.trans (same_new hp)) ?_
            rw [upd_same, if_neg fun z => c4 (decide_eq_true z)]
            rfl
end
end K14

set_option Elab.async false
set_option linter.all false
set_option maxRecDepth 100000
set_option maxHeartbeats 4000000
set_option pp.maxSteps 1500
set_option pp.deepTerms false
namespace K14
open PySem PySem.Spec PyProof.Rows L2 He KH PySem.KX Lex
open PySem.W (Frag)
/-- the tuples of the tokens ts, at these places -/
def Toks (H : Hp) : List Addr → List Lex.Tok → Prop
  | [], [] => True
  | a :: as, t :: ts => H a = some (.tup [.str (kdS t.1), .str (S t.2.1), .int (t.2.2 : Int)]) ∧ Toks H as ts
  | _, _ => False
theorem Toks.same {H H' : Hp} (e : Same H H') : ∀ {as : List Addr} {ts : List Lex.Tok}, Toks H as ts → Toks H' as ts
  | [], [], _ => trivial
  | a :: as, t :: ts, h => ⟨e _ _ h.1, Toks.same e h.2⟩
  | [], _ :: _, h => h.elim
  | _ :: _, [], h => h.elim
theorem Toks.snoc {H : Hp} {a : Addr} {t : Lex.Tok} (ha : H a = some (.tup [.str (kdS t.1), .str (S t.2.1), .int (t.2.2 : Int)])) : ∀ {as : List Addr} {ts : List Lex.Tok}, Toks H as ts → Toks H (as ++ [a]) (ts ++ [t])
  | [], [], _ => ⟨ha, trivial⟩
  | b :: as, u :: ts, h => ⟨h.1, Toks.snoc ha h.2⟩
  | [], _ :: _, h => h.elim
  | _ :: _, [], h => h.elim
theorem Toks.len {H : Hp} : ∀ {as : List Addr} {ts : List Lex.Tok}, Toks H as ts → as.length = ts.length
  | [], [], _ => rfl
  | _ :: _, _ :: _, h => by rw [List.length_cons, List.length_cons, Toks.len h.2]
  | [], _ :: _, h => h.elim
  | _ :: _, [], h => h.elim
theorem toks_keep {H H' : Hp} (hk : ∀ b xs, H b = some (.tup xs) → H' b = some (.tup xs)) : ∀ {as : List Addr} {ts : List Lex.Tok}, Toks H as ts → Toks H' as ts
  | [], [], _ => trivial
  | a :: as, t :: ts, h => ⟨hk _ _ h.1, toks_keep hk h.2⟩
  | [], _ :: _, h => h.elim
  | _ :: _, [], h => h.elim
/-- a value that is no text -/
def NoText (K : Frag) (H : Hp) (v : V) : Prop := ∃ t, TyX K H v t ∧ PySem.W.kitOne K t (.type "str") = some false
section
variable {w : World} {K : Frag} {mg : Str → Option Value} {base : Heap}
def spTokens (K : Frag) : Sp := fun vs H Q E => ∃ v : V, vs = [v] ∧
  ((∃ l : List Nat, v = .str (S l) ∧ l.length ≤ 5000 ∧ (∀ ts, lexF (l.length + 1) 0 l = .ok ts → ∀ p as H', Same H H' → H' p = some (.lst (as.map V.ref)) → Toks H' as ts → Q (.ref p) H') ∧
      (∀ e, lexF (l.length + 1) 0 l = .error e → ∀ d H', Same H H' → H' d = some (.xd [("at", .int (e : Int))]) → E (.ref (ga K "BadText")) (some d) H')) ∨
    (((∃ l : List Nat, v = .str (S l) ∧ 5000 < l.length ∧ l.length ≤ 10000) ∨ NoText K H v) ∧ ∀ d H', Same H H' → H' d = some (.xd [("at", .non)]) → E (.ref (ga K "BadText")) (some d) H'))
theorem sc_tokens : FnScope ["text", "found", "at", "kind", "end"] ["text"] (defScope s_tokens) := ⟨rfl, rfl, rfl, by decide +kernel, rfl, by decide +kernel, by decide +kernel⟩
theorem ok_tokens {f : Addr} {fd : FuncData} (F : Fun K "tokens" "tokens" s_tokens f fd) (T : Txt K mg) : FnOk P w K mg base (L2.CX P w) 5 f fd ["text"] (spTokens K) := by
  obtain ⟨fdB, F_blank_end⟩ := T.f_blank_end
  obtain ⟨fdT, F_token_at⟩ := T.f_token_at
  have G_blank_end : FnOk P w K mg base CX0 1 _ fdB ["text", "at"] spBlankEnd := ok_blank_end F_blank_end T
  have b_blank_end : Binds K fdB ["text", "at"] [] := F_blank_end.binds fun _ _ _ _ _ _ us hl => match us, hl with | [_, _], _ => rfl
  have G_token_at : FnOk P w K mg base CX0 4 _ fdT ["text", "at"] spTokenAt := ok_token_at F_token_at T
  have b_token_at : Binds K fdT ["text", "at"] [] := F_token_at.binds fun _ _ _ _ _ _ us hl => match us, hl with | [_, _], _ => rfl
  have M_BadText : ExMk P w K mg (ga K "BadText") (iAd K "BadText") (mk1 "at") := exMk1 T.x_BadText (by simp) sh_BadText fld_at
  refine F.okX sc_tokens (fun vs H Q E h => ?_) (fun cdv A outer s H vs Q E hr h => ?_)
  · obtain ⟨v, rfl, _⟩ := h
    rfl
  · have sc := sc_tokens
    have hr_blank_end : Room 1 _ := hr.mono (by decide)
    have hr_token_at := hr
    obtain ⟨v, rfl, h⟩ := h
    refine ⟨_, (pss_cons (ps_if (PW.pt (pw_or (pt_not (pt_val (pe_callB call_isi rfl T.n_isinstance (by decide +kernel) (pa_cons (pv 0) (pa_cons (pe_bltn (v := .ty "str") (u := .type "str") rfl T.n_str (by decide +kernel) rfl) pa_nil))))) (pw_or1 (pt_cmpR op_gt (pe_callB call_len_str rfl T.n_len (by decide +kernel) (pa_cons (pv 0) pa_nil)) (pe_gi rfl T.c_MOST_SIGNS) (nomark _)))))
        (pss_one (ps_raiseX rfl T.x_BadText M_BadText T.g_BadText T.n_super hr (takes_of rfl rfl rfl rfl) (pa_cons pe_non pa_nil) rfl))
        pss_nil)
      (pss_cons (ps_par (i := 1) (j := 2) rfl sc.nd rfl rfl (by decide) rfl rfl (pa_cons (pe_lst pa_nil) (pa_cons (pe_call G_blank_end hr_blank_end rfl T.g_blank_end F_blank_end.kp b_blank_end .nil pass0 (pa_cons (pv 0) (pa_cons pe_int pa_nil))) pa_nil)) rfl)
      (pss_cons (ps_while (passes_of rfl) (pt_cmpR op_lt (pv 2) (pe_callB call_len_str rfl T.n_len (by decide +kernel) (pa_cons (pv 0) pa_nil)) (nomark _))
        (pss_cons (ps_asg (pe_call G_token_at hr_token_at rfl T.g_token_at F_token_at.kp b_token_at .nil pass0 (pa_cons (pv 0) (pa_cons (pv 2) pa_nil))) (pg_tup rfl (pgs_cons (pg_name (i := 3) sc.nd rfl (Or.inl rfl)) (pgs_cons (pg_name (i := 4) sc.nd rfl (Or.inl rfl)) pgs_nil))))
        (pss_cons (ps_if (pt_cmpR op_isN (pv 3) pe_non (nomark _))
          (pss_one (ps_raiseX rfl T.x_BadText M_BadText T.g_BadText T.n_super hr (takes_of rfl rfl rfl rfl) (pa_cons (pv 2) pa_nil) rfl))
          pss_nil)
        (pss_cons (ps_expr (pe_bm PySem.F.plainAttrs_list PySem.F.slot_list_append PySem.F.type_list_append mt_append (pv 1) (pa_cons (pe_tup (pa_cons (pv 3) (pa_cons (pe_slice sl_str (pv 0) (po_some (pv 2)) (po_some (pv 4))) (pa_cons (pv 2) pa_nil)))) pa_nil)))
        (pss_one (ps_set (i := 2) sc.nd rfl (Or.inl rfl) (pe_call G_blank_end hr_blank_end rfl T.g_blank_end F_blank_end.kp b_blank_end .nil pass0 (pa_cons (pv 0) (pa_cons (pv 4) pa_nil)))))))))
      (pss_one (ps_ret (pv 1)))))), ?_⟩
    rcases h with ⟨l, rfl, hl, hok, herr⟩ | ⟨hv, herr⟩
    · have hsz : (S l).length ≤ sizeLine := by rw [S_len]; exact size10k (by omega)
      refine ⟨_, rfl, _, _, .type "str", .type "str", true, rfl, .ty "str", .base (.str _), kit_ty (by decide +kernel), _, rfl, ?_⟩
      refine iteF ?_
      refine ⟨_, rfl, _, rfl, hsz, _, _, rfl, rfl, _, rfl, ?_⟩
      rw [S_len, decide_eq_false (show ¬ (5000 : Int) < (l.length : Int) by omega)]
      refine iteF ?_
      refine ⟨(by show 0 ≤ sizeLine; decide), fun p hp => ?_⟩
      refine ⟨_, rfl, l, 0, rfl, by omega, Nat.zero_le _, _, _, rfl, ?_⟩
      have hdd : ∀ a b : Nat, (l.drop a).drop b = l.drop (a + b) := fun a b => by rw [List.drop_drop]
      refine ⟨fun m σ H1 => ∃ (e n : Nat) (pre : List Lex.Tok) (as : List Addr) (v3 v4 : Option V), σ = [some (.str (S l)), some (.ref p), some (.int ((e + bl false (l.drop e) : Nat) : Int)), v3, v4] ∧ Same H H1 ∧ H1 p = some (.lst (as.map V.ref)) ∧ Toks H1 as pre ∧ e ≤ l.length ∧ pre.length ≤ e ∧
          m = l.length - (e + bl false (l.drop e)) ∧ (l.drop e).length < n ∧ lexF (l.length + 1) 0 l = (lexF n e (l.drop e)).map fun ts => pre ++ ts,
        ⟨_, 0, l.length + 1, [], [], _, _, rfl, same_new hp, upd_same, trivial, Nat.zero_le _, Nat.le_refl _, rfl, (by rw [List.drop_zero]; exact Nat.lt_succ_self _), by rw [map_id', List.drop_zero]⟩, ?_⟩
      rintro m σ H1 ⟨e, n, pre, as, v3, v4, rfl, S1, hp1, tk1, he, hpl, rfl, hn, elex⟩
      have hble := bl_le false (l.drop e)
      rw [List.length_drop] at hble
      refine ⟨_, rfl, _, rfl, _, rfl, hsz, _, _, rfl, rfl, _, rfl, ?_⟩
      rw [S_len]
      obtain ⟨n', rfl⟩ : ∃ n', n = n' + 1 := ⟨n - 1, by omega⟩
      refine ite2 (fun c1 => ?_) (fun c1 => ?_)
      · have hat : e + bl false (l.drop e) < l.length := by
          have := of_decide_eq_true c1
          omega
        refine ⟨_, fun _ _ h => h, ?_⟩
        refine ⟨_, rfl, _, rfl, l, e + bl false (l.drop e), rfl, by omega, hat, fun t1 H2 S2 ht1 => ?_⟩
        refine ⟨t1, _, rfl, SqT.of ht1, rfl, _, _, rfl, _, _, rfl, rfl, ?_⟩
        obtain ⟨c, hc, hdr⟩ := drop_at hat
        have elex2 : lexF (n' + 1) e (l.drop e) = match tokenAt (c :: l.drop (e + bl false (l.drop e) + 1)) with
            | (none, _) => .error (e + bl false (l.drop e))
            | (some k, m) => (lexF n' (e + bl false (l.drop e) + m) ((c :: l.drop (e + bl false (l.drop e) + 1)).drop m)).map fun ts => (k, (c :: l.drop (e + bl false (l.drop e) + 1)).take m, e + bl false (l.drop e)) :: ts := by
          conv => lhs; unfold lexF
          rw [hdd, hdr]
          first | done | rfl
        rw [← hdr] at elex2
        generalize hA : e + bl false (l.drop e) = at_ at *
        refine ⟨_, rfl, rfl, _, rfl, ?_⟩
        cases etk : tokenAt (l.drop at_) with
        | mk k m =>
          rw [etk] at elex2
          cases k with
          | none =>
            rw [elex2] at elex
            refine iteT ?_
            refine ⟨_, rfl, _, rfl, (by show 1 ≤ 1000; decide), fun d hd => ?_⟩
            exact herr at_ elex d _ ((S1.trans S2).trans (same_new hd)) upd_same
          | some k =>
            refine iteF ?_
            have hm : m ≤ (l.drop at_).length := by
              rw [hdr] at etk ⊢
              exact tokenAt_le etk
            have hm1 : 1 ≤ m := by
              have := tokenAt_pos c (l.drop (at_ + 1))
              rw [← hdr, etk] at this
              exact this
            rw [List.length_drop] at hm
            have hp2 := S2 _ _ hp1
            refine ⟨_, rfl, .inl ⟨rfl, _, SqL.of hp2⟩, _, rfl, _, rfl, _, rfl, _, rfl, _, rfl, _, rfl, _, rfl, hsz, _, rfl, (by show 3 ≤ sizeLine; decide), fun t2 ht2 => ?_⟩
            have S3 : Same H2 (upd H2 t2 (.tup [V.str (kdS k), V.str (cutS (S l) (some (at_ : Int)) (some ((at_ + m : Nat) : Int))), V.int (at_ : Int)])) := same_new ht2
            have hl5 : as.length < sizeLine := by
              rw [tk1.len]
              have : pre.length ≤ 5000 := by omega
              rw [sizeLine_eq]; omega
            refine ⟨p, _, _, rfl, rfl, S3 _ _ hp2, (by rw [List.length_map]; exact hl5), ?_⟩
            refine ⟨_, rfl, _, rfl, l, at_ + m, rfl, by omega, by omega, ?_⟩
            have np2 : ∀ {b : Addr} {o : HO}, H b = some o → b ≠ p := fun e => ne_of_none e hp
            have ntp : t2 ≠ p := fun z => by rw [z, hp2] at ht2; cases ht2
            have tkk : ∀ {H' : Hp} {as : List Addr} {ts : List Lex.Tok}, (∀ b xs, (upd H2 t2 (.tup [V.str (kdS k), V.str (cutS (S l) (some (at_ : Int)) (some ((at_ + m : Nat) : Int))), V.int (at_ : Int)])) b = some (.tup xs) → H' b = some (.tup xs)) → Toks (upd H2 t2 (.tup [V.str (kdS k), V.str (cutS (S l) (some (at_ : Int)) (some ((at_ + m : Nat) : Int))), V.int (at_ : Int)])) as ts → Toks H' as ts := fun {H' as ts} hk h => toks_keep hk h
            refine ⟨l.length - (at_ + m + bl false (l.drop (at_ + m))), by omega, at_ + m, n', pre ++ [(k, (l.drop at_).take m, at_)], as ++ [t2], _, _, rfl, fun b o e' => ?_, ?_, ?_, by omega, ?_, rfl, ?_, ?_⟩
            · rw [upd_ne (np2 e')]
              exact S3 _ _ (S2 _ _ (S1 _ _ e'))
            · rw [upd_same, List.map_append]
              rfl
            · refine Toks.snoc ?_ (tkk (fun b xs e' => ?_) ((tk1.same S2).same S3))
              · rw [upd_ne ntp, upd_same, cutS_S (Nat.le_of_lt hat) (Nat.le_add_right _ _), Nat.add_sub_cancel_left]
                rfl
              · rw [upd_ne]
                · exact e'
                · intro z
                  rw [z, S3 _ _ hp2] at e'
                  cases e'
            · rw [List.length_append]
              show pre.length + 1 ≤ _
              omega
            · rw [List.length_drop] at hn ⊢
              omega
            · rw [elex, elex2]
              show Except.map (fun ts => pre ++ ts) (Except.map (fun ts => (k, (l.drop at_).take m, at_) :: ts) (lexF n' (at_ + m) ((l.drop at_).drop m))) = _
              rw [hdd]
              exact map_map'
      · have hat : l.length ≤ e + bl false (l.drop e) := by
          have : ¬ ((e + bl false (l.drop e) : Nat) : Int) < (l.length : Int) := by simpa using c1
          omega
        refine ⟨_, rfl, ?_⟩
        have e1 : lexF (n' + 1) e (l.drop e) = .ok [] := lexF_end (by rw [hdd, List.drop_eq_nil_of_le hat])
        rw [e1] at elex
        refine hok pre ?_ p as H1 S1 hp1 tk1
        rw [elex]
        show Except.ok (pre ++ []) = Except.ok pre
        rw [List.append_nil]
    · rcases hv with ⟨l, rfl, hl, hl2⟩ | ⟨t, ht, hk⟩
      · have hsz : (S l).length ≤ sizeLine := by rw [S_len]; exact size10k hl2
        refine ⟨_, rfl, _, _, .type "str", .type "str", true, rfl, .ty "str", .base (.str _), kit_ty (by decide +kernel), _, rfl, ?_⟩
        refine iteF ?_
        refine ⟨_, rfl, _, rfl, hsz, _, _, rfl, rfl, _, rfl, ?_⟩
        rw [S_len, decide_eq_true (show (5000 : Int) < (l.length : Int) by omega)]
        refine iteT ?_
        exact ⟨_, rfl, (by show 1 ≤ 1000; decide), fun d hd => herr d _ (same_new hd) upd_same⟩
      · refine ⟨_, rfl, _, _, t, .type "str", false, rfl, .ty "str", ht, hk, _, rfl, ?_⟩
        refine iteT ?_
        exact ⟨_, rfl, (by show 1 ≤ 1000; decide), fun d hd => herr d _ (same_new hd) upd_same⟩
end
end K14

set_option Elab.async false
set_option linter.all false
set_option maxRecDepth 100000
set_option maxHeartbeats 4000000
set_option pp.maxSteps 1500
set_option pp.deepTerms false
namespace K14
open PySem PySem.Spec PyProof.Rows L2 He KH PySem.KX Lex
open PySem.W (Frag)
/-- a number or a truth -/
inductive IB : V → Bool → Prop
  | int (i : Int) : IB (.int i) true
  | bl (b : Bool) : IB (.bl b) false
section
variable {w : World} {K : Frag} {mg : Str → Option Value} {base : Heap}
/-! ### is_place -/
def spPlace : Sp := fun vs H Q _ => ∃ (t : Addr) (v : V) (b : Bool), vs = [.ref t] ∧ H t = some (.tup [.str "", v]) ∧ IB v b ∧ Q (.bl b) H
theorem sc_place : FnScope ["value"] ["value"] (defScope s_is_place) := ⟨rfl, rfl, rfl, by decide +kernel, rfl, by decide +kernel, by decide +kernel⟩
theorem ok_place {f : Addr} {fd : FuncData} (F : Fun K "is_place" "is_place" s_is_place f fd) (T : Txt K mg) : FnOk P w K mg base CX0 1 f fd ["value"] spPlace := by
  refine F.ok sc_place (fun vs H Q E h => ?_) (fun cdv A outer s H vs Q E hr h => ?_)
  · obtain ⟨t, v, b, rfl, _⟩ := h
    rfl
  · obtain ⟨t, v, b, rfl, ht, ib, q⟩ := h
    have sc := sc_place
    refine ⟨_, (pss_cons (ps_if (PW.pt (pw_or (pt_not (pt_val (pe_callB call_isi rfl T.n_isinstance (by decide +kernel) (pa_cons (pv 0) (pa_cons (pe_bltn (v := .ty "tuple") (u := .type "tuple") rfl T.n_tuple (by decide +kernel) rfl) pa_nil))))) (pw_or (pt_cmpR op_ne (pe_callB call_len rfl T.n_len (by decide +kernel) (pa_cons (pv 0) pa_nil)) pe_int (nomark _)) (pw_or1 (pt_not (pt_val (pe_callB call_isi rfl T.n_isinstance (by decide +kernel) (pa_cons (pe_ix (r := rIxT K) ix_tup (pv 0) pe_int (fun _ _ => rfl)) (pa_cons (pe_bltn (v := .ty "str") (u := .type "str") rfl T.n_str (by decide +kernel) rfl) pa_nil)))))))))
        (pss_one (ps_ret pe_bl))
        pss_nil)
      (pss_one (ps_ret (pe_and (pe_callB call_isi rfl T.n_isinstance (by decide +kernel) (pa_cons (pe_ix (r := rIxT K) ix_tup (pv 0) pe_int (fun _ _ => rfl)) (pa_cons (pe_bltn (v := .ty "int") (u := .type "int") rfl T.n_int (by decide +kernel) rfl) pa_nil))) (pe_one (pe_not (pe_callB call_isi rfl T.n_isinstance (by decide +kernel) (pa_cons (pe_ix (r := rIxT K) ix_tup (pv 0) pe_int (fun _ _ => rfl)) (pa_cons (pe_bltn (v := .ty "bool") (u := .type "bool") rfl T.n_bool (by decide +kernel) rfl) pa_nil))))))))), ?_⟩
    refine ⟨_, rfl, _, _, .type "tuple", .type "tuple", true, rfl, .ty "tuple", .base (.tup ht), kit_ty (by decide +kernel), _, rfl, ?_⟩
    refine iteF ?_
    refine ⟨_, rfl, _, 2, rfl, .inr ⟨_, SqT.of ht, rfl⟩, rfl, _, rfl, ?_⟩
    refine iteF ?_
    refine ⟨_, rfl, t, _, _, _, rfl, rfl, SqT.of ht, rfl, ?_⟩
    refine ⟨_, _, .type "str", .type "str", true, rfl, .ty "str", .base (.str _), kit_ty (by decide +kernel), _, rfl, ?_⟩
    refine iteF ?_
    refine ⟨_, rfl, t, _, _, _, rfl, rfl, SqT.of ht, rfl, ?_⟩
    cases ib with
    | int i =>
      refine ⟨_, _, .type "int", .type "int", true, rfl, .ty "int", .base (.int _), kit_ty (by decide +kernel), _, rfl, ?_⟩
      refine iteT ?_
      refine ⟨_, rfl, t, _, _, _, rfl, rfl, SqT.of ht, rfl, ?_⟩
      exact ⟨_, _, .type "int", .type "bool", false, rfl, .ty "bool", .base (.int _), kit_ty (by decide +kernel), _, rfl, q⟩
    | bl b =>
      refine ⟨_, _, .type "bool", .type "int", true, rfl, .ty "int", .base (.bl _), kit_ty (by decide +kernel), _, rfl, ?_⟩
      refine iteT ?_
      refine ⟨_, rfl, t, _, _, _, rfl, rfl, SqT.of ht, rfl, ?_⟩
      exact ⟨_, _, .type "bool", .type "bool", true, rfl, .ty "bool", .base (.bl _), kit_ty (by decide +kernel), _, rfl, q⟩
/-! ### is_piece -/
/-- what a piece is, or what of it is wrong -/
inductive Pce (K : Frag) (H : Hp) : V → Bool → Prop
  | no {v : V} {t : Value} (h : TyX K H v t) (k : PySem.W.kitOne K t (.type "tuple") = some false) : Pce K H v false
  | len {t : Addr} {xs : List V} (h : H t = some (.tup xs)) (l : xs.length ≠ 3) (l2 : xs.length ≤ 10) : Pce K H (.ref t) false
  | str {t : Addr} {a b c : V} {y : Value} (h : H t = some (.tup [a, b, c])) (hy : TyX K H c y) (k : PySem.W.kitOne K y (.type "str") = some false) : Pce K H (.ref t) false
  | ok {t : Addr} {a b : V} {z : Str} {i j : Bool} (h : H t = some (.tup [a, b, .str z])) (ha : IB a i) (hb : IB b j) : Pce K H (.ref t) (i && j)
def spPiece (K : Frag) : Sp := fun vs H Q _ => ∃ (v : V) (b : Bool), vs = [v] ∧ Pce K H v b ∧ ∀ H', Same H H' → Q (.bl b) H'
theorem sc_piece : FnScope ["value"] ["value"] (defScope s_is_piece) := ⟨rfl, rfl, rfl, by decide +kernel, rfl, by decide +kernel, by decide +kernel⟩
theorem ok_piece {f : Addr} {fd : FuncData} (F : Fun K "is_piece" "is_piece" s_is_piece f fd) (T : Txt K mg) : FnOk P w K mg base CX0 2 f fd ["value"] (spPiece K) := by
  obtain ⟨fdP, F_is_place⟩ := T.f_is_place
  have G_is_place : FnOk P w K mg base CX0 1 _ fdP ["value"] spPlace := ok_place F_is_place T
  have b_is_place : Binds K fdP ["value"] [] := F_is_place.binds fun _ _ _ _ _ _ us hl => match us, hl with | [_], _ => rfl
  refine F.ok sc_piece (fun vs H Q E h => ?_) (fun cdv A outer s H vs Q E hr h => ?_)
  · obtain ⟨v, b, rfl, _⟩ := h
    rfl
  · obtain ⟨v, b, rfl, hp, q⟩ := h
    have sc := sc_piece
    have hr_is_place := hr
    refine ⟨_, (pss_cons (ps_if (PW.pt (pw_or (pt_not (pt_val (pe_callB call_isi rfl T.n_isinstance (by decide +kernel) (pa_cons (pv 0) (pa_cons (pe_bltn (v := .ty "tuple") (u := .type "tuple") rfl T.n_tuple (by decide +kernel) rfl) pa_nil))))) (pw_or (pt_cmpR op_ne (pe_callB call_len rfl T.n_len (by decide +kernel) (pa_cons (pv 0) pa_nil)) pe_int (nomark _)) (pw_or1 (pt_not (pt_val (pe_callB call_isi rfl T.n_isinstance (by decide +kernel) (pa_cons (pe_ix (r := rIxT K) ix_tup (pv 0) pe_int (fun _ _ => rfl)) (pa_cons (pe_bltn (v := .ty "str") (u := .type "str") rfl T.n_str (by decide +kernel) rfl) pa_nil)))))))))
        (pss_one (ps_ret pe_bl))
        pss_nil)
      (pss_one (ps_ret (pe_and (pe_call G_is_place hr_is_place rfl T.g_is_place F_is_place.kp b_is_place .nil pass0 (pa_cons (pe_tup (pa_cons pe_str (pa_cons (pe_ix (r := rIxT K) ix_tup (pv 0) pe_int (fun _ _ => rfl)) pa_nil))) pa_nil)) (pe_one (pe_call G_is_place hr_is_place rfl T.g_is_place F_is_place.kp b_is_place .nil pass0 (pa_cons (pe_tup (pa_cons pe_str (pa_cons (pe_ix (r := rIxT K) ix_tup (pv 0) pe_int (fun _ _ => rfl)) pa_nil))) pa_nil))))))), ?_⟩
    cases hp with
    | no h k =>
      refine ⟨_, rfl, _, _, _, .type "tuple", false, rfl, .ty "tuple", h, k, _, rfl, ?_⟩
      exact iteT (q _ (Same.refl _))
    | @len t xs h l l2 =>
      refine ⟨_, rfl, _, _, .type "tuple", .type "tuple", true, rfl, .ty "tuple", .base (.tup h), kit_ty (by decide +kernel), _, rfl, ?_⟩
      refine iteF ?_
      refine ⟨_, rfl, _, xs.length, rfl, .inr ⟨_, SqT.of h, rfl⟩, rfl, _, rfl, ?_⟩
      have e : (!decide (V.int (xs.length : Int) = V.int 3)) = true := by
        rw [decide_eq_false]
        · rfl
        · intro z
          injection z with z
          omega
      rw [e]
      exact iteT (q _ (Same.refl _))
    | @str t a b c y h hy k =>
      refine ⟨_, rfl, _, _, .type "tuple", .type "tuple", true, rfl, .ty "tuple", .base (.tup h), kit_ty (by decide +kernel), _, rfl, ?_⟩
      refine iteF ?_
      refine ⟨_, rfl, _, 3, rfl, .inr ⟨_, SqT.of h, rfl⟩, rfl, _, rfl, ?_⟩
      refine iteF ?_
      refine ⟨_, rfl, t, _, _, _, rfl, rfl, SqT.of h, rfl, ?_⟩
      refine ⟨_, _, _, .type "str", false, rfl, .ty "str", hy, k, _, rfl, ?_⟩
      exact iteT (q _ (Same.refl _))
    | @ok t a b z i j h ha hb =>
      refine ⟨_, rfl, _, _, .type "tuple", .type "tuple", true, rfl, .ty "tuple", .base (.tup h), kit_ty (by decide +kernel), _, rfl, ?_⟩
      refine iteF ?_
      refine ⟨_, rfl, _, 3, rfl, .inr ⟨_, SqT.of h, rfl⟩, rfl, _, rfl, ?_⟩
      refine iteF ?_
      refine ⟨_, rfl, t, _, _, _, rfl, rfl, SqT.of h, rfl, ?_⟩
      refine ⟨_, _, .type "str", .type "str", true, rfl, .ty "str", .base (.str _), kit_ty (by decide +kernel), _, rfl, ?_⟩
      refine iteF ?_
      refine ⟨_, rfl, t, _, _, _, rfl, rfl, SqT.of h, rfl, (by show 2 ≤ sizeLine; decide), fun t1 ht1 => ?_⟩
      have S1 := same_new (o := .tup [V.str (Str.ofString ""), a]) ht1
      refine ⟨t1, a, i, rfl, upd_same, ha, _, rfl, ?_⟩
      cases i with
      | false => exact iteF (q _ S1)
      | true =>
        refine iteT ?_
        refine ⟨_, rfl, t, _, _, _, rfl, rfl, SqT.of (S1 _ _ h), rfl, (by show 2 ≤ sizeLine; decide), fun t2 ht2 => ?_⟩
        have S2 := same_new (o := .tup [V.str (Str.ofString ""), b]) ht2
        exact ⟨t2, b, j, rfl, upd_same, hb, q _ (S1.trans S2)⟩
end
end K14

set_option Elab.async false
set_option linter.all false
set_option maxRecDepth 100000
set_option maxHeartbeats 4000000
set_option pp.maxSteps 1500
set_option pp.deepTerms false
namespace L2
open PySem PySem.Spec PyProof.Rows
/-- what is never reached -/
def tDead : TS := fun _ _ _ => False
theorem ps_dead {X : Cx} {st : Stmt} : PS X st tDead := ⟨fun _ _ _ _ _ _ h => h.elim⟩
theorem pss_dead {X : Cx} {ss : List Stmt} : PSs X ss tDead := ⟨fun _ _ _ _ _ _ h => h.elim⟩
def eDead : TE := fun _ _ _ => False
theorem pe_dead {X : Cx} {e : Expr} : PE X e eDead := ⟨fun _ _ _ _ _ _ h => h.elim⟩
end L2
namespace K14
open PySem PySem.Spec PyProof.Rows L2 He KH PySem.KX Lex
open PySem.W (Frag)
/-- a text of blanks and comments -/
def AllBl (l : List Nat) : Prop := bl false l = l.length
theorem lex_allBl {l : List Nat} (h : AllBl l) (n off : Nat) : lexF (n + 1) off l = .ok [] := lexF_end (by rw [h, List.drop_length])
/-- the fields of a reader of an empty text -/
def rdF (p : Addr) (n : Nat) : List (Str × V) := [("own_tokens", .ref p), ("own_length", .int (n : Int)), ("own_at", .int 0), ("own_opened", .int 0), ("own_first", .non), ("own_calls", .bl true), ("own_functions", .bl true), ("own_last", .int 0)]
section
variable {w : World} {K : Frag} {mg : Str → Option Value} {base : Heap}
def spRInit (K : Frag) : Sp := fun vs H Q _ => ∃ (a dx : Addr) (l : List Nat), vs = [.ref a, .str (S l)] ∧ H a = some (.ins (ga K "Reader") dx []) ∧ l.length ≤ 5000 ∧ AllBl l ∧
  ∀ p H', Keep a H H' → H' p = some (.lst []) → H' a = some (.ins (ga K "Reader") dx (rdF p l.length)) → Q .non H'
theorem sc_rinit : FnScope ["self", "text"] ["self", "text"] (defScope m_Reader___init__) := ⟨rfl, rfl, rfl, by decide +kernel, rfl, by decide +kernel, by decide +kernel⟩
theorem ok_rinit {f : Addr} {fd : FuncData} (F : Fun K "__init__" "Expressions.__init__" m_Reader___init__ f fd) (T : Txt K mg) : FnOk P w K mg base CX0 6 f fd ["self", "text"] (spRInit K) := by
  obtain ⟨fdT, F_tokens⟩ := T.f_tokens
  have G_tokens : FnOk P w K mg base (L2.CX P w) 5 _ fdT ["text"] (spTokens K) := ok_tokens F_tokens T
  have b_tokens : Binds K fdT ["text"] [] := F_tokens.binds fun _ _ _ _ _ _ us hl => match us, hl with | [_], _ => rfl
  refine F.ok sc_rinit (fun vs H Q E h => ?_) (fun cdv A outer s H vs Q E hr h => ?_)
  · obtain ⟨a, dx, l, rfl, _⟩ := h
    rfl
  · obtain ⟨a, dx, l, rfl, ha, hl, hb, q⟩ := h
    have sc := sc_rinit
    have hr_tokens := hr
    have c := T.k_Reader
    have na := T.na_Reader
    refine ⟨_, (pss_cons (ps_fld (pv 0) (pe_call G_tokens hr_tokens rfl T.g_tokens F_tokens.kp b_tokens .nil passL (pa_cons (pv 1) pa_nil)) rfl)
      (pss_cons (ps_fld (pv 0) (pe_callB call_len_str rfl T.n_len (by decide +kernel) (pa_cons (pv 1) pa_nil)) rfl)
      (pss_cons (ps_fld (pv 0) pe_int rfl)
      (pss_cons (ps_fld (pv 0) pe_int rfl)
      (pss_cons (ps_fld (pv 0) pe_non rfl)
      (pss_cons (ps_fld (pv 0) pe_bl rfl)
      (pss_cons (ps_fld (pv 0) pe_bl rfl)
      (pss_one (ps_fld (pv 0) pe_int rfl))))))))), ?_⟩
    have lx := lex_allBl hb l.length 0
    refine ⟨_, rfl, _, rfl, .inl ⟨l, rfl, hl, fun ts ets p as H1 S1 hp tk => ?_, fun e ee => by rw [lx] at ee; cases ee⟩⟩
    have : [] = ts := by rw [lx] at ets; cases ets; rfl
    subst this
    have has : as = [] := by
      cases as with
      | nil => rfl
      | cons x y => exact tk.elim
    subst has
    have np : a ≠ p := fun z => by
      have := S1 _ _ ha
      rw [z, hp] at this
      cases this
    refine ⟨_, rfl, a, _, dx, [], rfl, S1 _ _ ha, c, na _ (by simp [fl_Reader]), (by show 0 < 1000; decide), ?_⟩
    refine ⟨_, rfl, _, rfl, (by rw [S_len, sizeLine_eq]; omega), _, rfl, a, _, dx, _, rfl, upd_same, c, na _ (by simp [fl_Reader]), (by show 1 < 1000; decide), ?_⟩
    refine ⟨_, rfl, a, _, dx, _, rfl, upd_same, c, na _ (by simp [fl_Reader]), (by show 2 < 1000; decide), ?_⟩
    refine ⟨_, rfl, a, _, dx, _, rfl, upd_same, c, na _ (by simp [fl_Reader]), (by show 3 < 1000; decide), ?_⟩
    refine ⟨_, rfl, a, _, dx, _, rfl, upd_same, c, na _ (by simp [fl_Reader]), (by show 4 < 1000; decide), ?_⟩
    refine ⟨_, rfl, a, _, dx, _, rfl, upd_same, c, na _ (by simp [fl_Reader]), (by show 5 < 1000; decide), ?_⟩
    refine ⟨_, rfl, a, _, dx, _, rfl, upd_same, c, na _ (by simp [fl_Reader]), (by show 6 < 1000; decide), ?_⟩
    refine ⟨_, rfl, a, _, dx, _, rfl, upd_same, c, na _ (by simp [fl_Reader]), (by show 7 < 1000; decide), ?_⟩
    refine q p _ (fun b o nb e => ?_) ?_ ?_
    · simp only [upd_ne nb]
      exact S1 _ _ e
    · simp only [upd_ne (Ne.symm np)]
      exact hp
    · rw [upd_same, S_len]
      first | rfl | kernel_rfl
end
end K14

set_option Elab.async false
set_option linter.all false
set_option maxRecDepth 100000
set_option maxHeartbeats 4000000
set_option pp.maxSteps 1500
set_option pp.deepTerms false
namespace K14
open PySem PySem.Spec PyProof.Rows L2 He KH PySem.KX Lex
open PySem.W (Frag)
section
variable {w : World} {K : Frag} {mg : Str → Option Value} {base : Heap}
def Rdr (K : Frag) (H : Hp) (a : Addr) : Prop := ∃ (dx p : Addr) (n : Nat), H a = some (.ins (ga K "Reader") dx (rdF p n)) ∧ H p = some (.lst [])
theorem Rdr.same {H H' : Hp} {a : Addr} (h : Rdr K H a) (S1 : Same H H') : Rdr K H' a := let ⟨dx, p, n, e, e2⟩ := h; ⟨dx, p, n, S1 _ _ e, S1 _ _ e2⟩
def spShown (K : Frag) : Sp := fun vs H Q _ => ∃ a, vs = [.ref a] ∧ Rdr K H a ∧ Q (.str "end") H
theorem sc_shown : FnScope ["self", "kind", "text", "start"] ["self"] (defScope m_Reader_next_shown) := ⟨rfl, rfl, rfl, by decide +kernel, rfl, by decide +kernel, by decide +kernel⟩
theorem ok_shown {f : Addr} {fd : FuncData} (F : Fun K "next_shown" "Expressions.next_shown" m_Reader_next_shown f fd) (T : Txt K mg) : FnOk P w K mg base CX0 1 f fd ["self"] (spShown K) := by
  refine F.ok sc_shown (fun vs H Q E h => ?_) (fun cdv A outer s H vs Q E hr h => ?_)
  · obtain ⟨a, rfl, _⟩ := h
    rfl
  · obtain ⟨a, rfl, ⟨dx, p, n, ha, hp⟩, q⟩ := h
    have sc := sc_shown
    have c := T.k_Reader
    have na := T.na_Reader
    refine ⟨_, (pss_cons (ps_if (pt_cmpR op_eq (pe_fld (pv 0) rfl) (pe_callB call_len rfl T.n_len (by decide +kernel) (pa_cons (pe_fld (pv 0) rfl) pa_nil)) (nomark _))
        (pss_one (ps_ret pe_str))
        pss_nil)
      pss_dead), ?_⟩
    refine ⟨_, rfl, a, _, dx, _, .int 0, rfl, ha, c, na _ (by simp [fl_Reader]), (by first | rfl | kernel_rfl), ?_⟩
    refine ⟨_, rfl, a, _, dx, _, .ref p, rfl, ha, c, na _ (by simp [fl_Reader]), (by first | rfl | kernel_rfl), ?_⟩
    refine ⟨_, 0, rfl, .inl ⟨_, SqL.of hp, rfl⟩, rfl, _, rfl, ?_⟩
    exact iteT q
def spModule (K : Frag) : Sp := fun vs H Q _ => ∃ a, vs = [.ref a] ∧ Rdr K H a ∧ ∀ q H', Same H H' → H' q = some (.lst []) → Q (.ref q) H'
theorem sc_module : FnScope ["self", "found"] ["self"] (defScope m_Reader_read_module) := ⟨rfl, rfl, rfl, by decide +kernel, rfl, by decide +kernel, by decide +kernel⟩
theorem ok_module {f : Addr} {fd : FuncData} (F : Fun K "read_module" "Reader.read_module" m_Reader_read_module f fd) (T : Txt K mg) : FnOk P w K mg base CX0 2 f fd ["self"] (spModule K) := by
  obtain ⟨fdN, F_shown⟩ := T.f_Reader_next_shown
  have G_shown : FnOk P w K mg base CX0 1 _ fdN ["self"] (spShown K) := ok_shown F_shown T
  have b_shown : Binds K fdN ["self"] [] := F_shown.binds fun _ _ _ _ _ _ us hl => match us, hl with | [_], _ => rfl
  refine F.ok sc_module (fun vs H Q E h => ?_) (fun cdv A outer s H vs Q E hr h => ?_)
  · obtain ⟨a, rfl, _⟩ := h
    rfl
  · obtain ⟨a, rfl, ha, q⟩ := h
    have sc := sc_module
    refine ⟨_, (pss_cons (ps_set (i := 1) sc.nd rfl (Or.inl rfl) (pe_lst pa_nil))
      (pss_cons (ps_while PassesOwn.never (pt_cmpR op_ne (pe_meth0 (pv 0) T.k_Reader (T.me_Reader "next_shown" (by simp [ms_Reader])) G_shown hr b_shown .nil pass0) pe_str (nomark _))
        pss_dead)
      (pss_one (ps_ret (pv 1))))), ?_⟩
    refine ⟨(by show 0 ≤ sizeLine; decide), fun p hp => ?_⟩
    have S1 := same_new (o := .lst []) hp
    obtain ⟨dx, tk, n, ea, et⟩ := ha.same S1
    refine ⟨fun m σ H1 => m = 0 ∧ H1 = upd H p (.lst []) ∧ σ = [some (.ref a), some (.ref p)], ⟨0, rfl, rfl, rfl⟩, ?_⟩
    rintro m σ H1 ⟨rfl, rfl, rfl⟩
    refine ⟨_, rfl, a, dx, _, rfl, ea, (by first | rfl | kernel_rfl), a, rfl, ⟨dx, tk, n, ea, et⟩, rfl, _, rfl, ?_⟩
    rw [decide_eq_true (show V.str (Str.ofString "end") = V.str (Str.ofString "end") from rfl)]
    refine iteF ?_
    exact ⟨_, rfl, q p _ S1 upd_same⟩
def spParse : Sp := fun vs H Q _ => ∃ l : List Nat, vs = [.str (S l)] ∧ l.length ≤ 5000 ∧ AllBl l ∧ ∀ q H', Same H H' → H' q = some (.lst []) → Q (.ref q) H'
theorem sc_parse : FnScope ["text"] ["text"] (defScope s_parse) := ⟨rfl, rfl, rfl, by decide +kernel, rfl, by decide +kernel, by decide +kernel⟩
theorem ok_parse {f : Addr} {fd : FuncData} (F : Fun K "parse" "parse" s_parse f fd) (T : Txt K mg) : FnOk P w K mg base CX0 8 f fd ["text"] spParse := by
  obtain ⟨fdM, F_module⟩ := T.f_Reader_read_module
  obtain ⟨fdI, F_init⟩ := T.f_Reader___init__
  have G_module : FnOk P w K mg base CX0 2 _ fdM ["self"] (spModule K) := ok_module F_module T
  have G_init : FnOk P w K mg base CX0 6 _ fdI ["self", "text"] (spRInit K) := ok_rinit F_init T
  have b_module : Binds K fdM ["self"] [] := F_module.binds fun _ _ _ _ _ _ us hl => match us, hl with | [_], _ => rfl
  have b_init : Binds K fdI ["self", "text"] [] := F_init.binds fun _ _ _ _ _ _ us hl => match us, hl with | [_, _], _ => rfl
  refine F.ok sc_parse (fun vs H Q E h => ?_) (fun cdv A outer s H vs Q E hr h => ?_)
  · obtain ⟨l, rfl, _⟩ := h
    rfl
  · obtain ⟨l, rfl, hl, hb, q⟩ := h
    have sc := sc_parse
    have hr_module : Room 2 _ := hr.mono (by decide)
    refine ⟨_, (pss_one (ps_ret (pe_meth0 (pe_make T.mk_Reader G_init hr rfl T.g_Reader b_init .nil pass0 (pa_cons (pv 0) pa_nil)) T.k_Reader (T.me_Reader "read_module" (by simp [ms_Reader])) G_module hr_module b_module .nil pass0))), ?_⟩
    refine ⟨_, rfl, fun x dx hx hdx hne => ?_⟩
    refine ⟨x, dx, l, rfl, upd_same, hl, hb, fun p H' k hp ha => ⟨rfl, ?_⟩⟩
    have S1 : Same H H' := fun b o e => k b o (ne_of_none e hx) (by rw [upd_ne (ne_of_none e hx), upd_ne (ne_of_none e hdx)]; exact e)
    refine ⟨x, dx, _, rfl, ha, (by first | rfl | kernel_rfl), x, rfl, ⟨dx, p, _, ha, hp⟩, fun r H2 S2 hr2 => q r H2 (S1.trans S2) hr2⟩
end
end K14

set_option Elab.async false
set_option linter.all false
set_option maxRecDepth 100000
set_option maxHeartbeats 4000000
set_option pp.maxSteps 1500
set_option pp.deepTerms false
namespace K14
open PySem PySem.Spec PyProof.Rows L2 He KH PySem.KX Lex
open PySem.W (Frag)
def scF (m st k o : V) (d1 d2 : Addr) : List (Str × V) := [("module", m), ("start", st), ("kind", k), ("outer", o), ("own_table", .ref d1), ("shared", .ref d2)]
section
variable {w : World} {K : Frag} {mg : Str → Option Value} {base : Heap}
def spScope (K : Frag) : Sp := fun vs H Q _ => ∃ (a dx : Addr) (m st k o : V), vs = [.ref a, m, st, k, o] ∧ H a = some (.ins (ga K "Scope") dx []) ∧
  ∀ d1 d2 H', H d1 = none → Keep a H H' → H' d1 = some (.dK []) → H' d2 = some (.dK []) → H' a = some (.ins (ga K "Scope") dx (scF m st k o d1 d2)) → Q .non H'
theorem sc_scope : FnScope ["self", "module", "start", "kind", "outer"] ["self", "module", "start", "kind", "outer"] (defScope m_Scope___init__) := ⟨rfl, rfl, rfl, by decide +kernel, rfl, by decide +kernel, by decide +kernel⟩
theorem ok_scope {f : Addr} {fd : FuncData} (F : Fun K "__init__" "Scope.__init__" m_Scope___init__ f fd) (T : Txt K mg) : FnOk P w K mg base CX0 1 f fd ["self", "module", "start", "kind", "outer"] (spScope K) := by
  refine F.ok sc_scope (fun vs H Q E h => ?_) (fun cdv A outer s H vs Q E hr h => ?_)
  · obtain ⟨a, dx, m, st, k, o, rfl, _⟩ := h
    rfl
  · obtain ⟨a, dx, m, st, k, o, rfl, ha, q⟩ := h
    have sc := sc_scope
    have c := T.k_Scope
    have na := T.na_Scope
    refine ⟨_, (pss_cons (ps_fld (pv 0) (pv 1) rfl)
      (pss_cons (ps_fld (pv 0) (pv 2) rfl)
      (pss_cons (ps_fld (pv 0) (pv 3) rfl)
      (pss_cons (ps_fld (pv 0) (pv 4) rfl)
      (pss_cons (ps_fld (pv 0) pe_dnewK rfl)
      (pss_one (ps_fld (pv 0) pe_dnewK rfl))))))), ?_⟩
    refine ⟨_, rfl, _, rfl, a, _, dx, [], rfl, ha, c, na _ (by simp [fl_Scope]), (by show 0 < 1000; decide), ?_⟩
    refine ⟨_, rfl, _, rfl, a, _, dx, _, rfl, upd_same, c, na _ (by simp [fl_Scope]), (by show 1 < 1000; decide), ?_⟩
    refine ⟨_, rfl, _, rfl, a, _, dx, _, rfl, upd_same, c, na _ (by simp [fl_Scope]), (by show 2 < 1000; decide), ?_⟩
    refine ⟨_, rfl, _, rfl, a, _, dx, _, rfl, upd_same, c, na _ (by simp [fl_Scope]), (by show 3 < 1000; decide), ?_⟩
    intro d1 hd1
    have n1 : a ≠ d1 := fun z => by rw [← z, upd_same] at hd1; cases hd1
    refine ⟨_, rfl, a, _, dx, _, rfl, (by rw [upd_ne n1, upd_same]), c, na _ (by simp [fl_Scope]), (by show 4 < 1000; decide), ?_⟩
    intro d2 hd2
    have n2 : a ≠ d2 := fun z => by rw [← z, upd_same] at hd2; cases hd2
    have n12 : d1 ≠ d2 := fun z => by rw [← z, upd_ne (Ne.symm n1), upd_same] at hd2; cases hd2
    refine ⟨_, rfl, a, _, dx, _, rfl, (by rw [upd_ne n2, upd_same]), c, na _ (by simp [fl_Scope]), (by show 5 < 1000; decide), ?_⟩
    have f1 : ∀ b o, b ≠ a → H b = some o → b ≠ d1 := fun b o nb e z => by
      simp only [← z, upd_ne nb] at hd1
      rw [e] at hd1; cases hd1
    have f2 : ∀ b o, b ≠ a → H b = some o → b ≠ d2 := fun b o nb e z => by
      have nd1 := f1 b o nb e
      simp only [← z, upd_ne nb, upd_ne nd1] at hd2
      rw [e] at hd2; cases hd2
    refine q d1 d2 _ (match hz : H d1 with | none => rfl | some o => (f1 d1 o (Ne.symm n1) hz rfl).elim) (fun b o nb e => ?_) ?_ ?_ ?_
    · simp only [upd_ne nb, upd_ne (f1 b o nb e), upd_ne (f2 b o nb e)]
      exact e
    · rw [upd_ne (Ne.symm n1), upd_ne n12, upd_ne (Ne.symm n1), upd_same]
    · rw [upd_ne (Ne.symm n2), upd_same]
    · rw [upd_same]
      first | rfl | kernel_rfl
end
end K14

set_option Elab.async false
set_option linter.all false
set_option maxRecDepth 100000
set_option maxHeartbeats 4000000
/-! Readings that name the heap behind by what stands in it. -/
namespace L2
open PySem PySem.Spec PyProof.Rows
section
variable {X : Cx} {e o value : Expr} {f : Str} {pos pos' : Pos} {ta tv t t' : TE}
theorem pe_mono (h : PE X e t) (m : ∀ σ H Q, t' σ H Q → t σ H Q) : PE X e t' := ⟨fun pins s σ H Q I q => h.run pins s σ H Q I (m σ H Q q)⟩
theorem ps_mono {st : Stmt} {u u' : TS} (h : PS X st u) (m : ∀ D σ H, u' D σ H → u D σ H) : PS X st u' := ⟨fun pins s σ H D I q => h.run pins s σ H D I (m D σ H q)⟩
/-- e.f = value: all but the object stands -/
def sFldK (K : PySem.W.Frag) (ta tv : TE) (f : Str) : TS := fun D σ H => tv σ H fun y H1 => ta σ H1 fun x H2 => ∃ a C dx fs, x = .ref a ∧ H2 a = some (.ins C dx fs) ∧ Cls K C ∧ NoAttr K C f ∧ fs.length < 1000 ∧
  ∀ H3, Keep a H2 H3 → H3 a = some (.ins C dx (putF f y fs)) → D.nx σ H3
theorem ps_fldK (ha : PE X o ta) (hv : PE X value tv) (hs : swapsWith value (some (.Attribute o f pos')) pos.line X.env = pure false) : PS X (.Assign [.Attribute o f pos'] value pos) (sFldK X.K ta tv f) := by
  refine ⟨fun pins s σ H D I h => ?_⟩
  refine plainObj_wpAny_Assign_Attribute (thn (hv.run pins s σ H _ I h) fun u s1 ⟨y, H1, I1, ry, q⟩ => thn (ha.run pins s1 σ H1 _ I1 q) fun ov s2 ⟨x, H2, I2, rx, a, C, dx, fs, ex, ea, c, n, l, q2⟩ => ?_) hs
  subst ex
  obtain rfl : ov = Value.ref a := rx
  exact setattr_ok I2 ea c n l ry fun s3 I3 => ⟨σ, _, I3, q2 _ keep_upd upd_same⟩
/-- a new empty list, a new empty dict -/
def tNewL : TE := fun _ H Q => ∀ p H', H p = none → Same H H' → H' p = some (.lst []) → Q (.ref p) H'
def tNewD : TE := fun _ H Q => ∀ p H', H p = none → Same H H' → H' p = some (.dK []) → Q (.ref p) H'
theorem pe_newL : PE X (.List [] pos) tNewL := pe_mono (pe_lst pa_nil) fun σ H Q h => ⟨(by show 0 ≤ sizeLine; decide), fun p hp => h p _ hp (same_new hp) upd_same⟩
theorem pe_newD : PE X (.Dict [] [] pos) tNewD := pe_mono pe_dnewK fun σ H Q h p hp => h p _ hp (same_new hp) upd_same
end
end L2

set_option Elab.async false
set_option linter.all false
set_option maxRecDepth 100000
set_option maxHeartbeats 4000000
set_option pp.maxSteps 1500
set_option pp.deepTerms false
namespace K14
open PySem PySem.Spec PyProof.Rows L2 He KH PySem.KX Lex
open PySem.W (Frag)
def fcF (m : V) (tr top sc qasked qpoints qkeywords qshares qimports qstars qclasses qselves qdefs qtargets : Addr) : List (Str × V) := [("module", m), ("trees", .ref tr), ("top", .ref top), ("scopes", .ref sc), ("asked", .ref qasked), ("points", .ref qpoints), ("keywords", .ref qkeywords), ("shares", .ref qshares), ("imports", .ref qimports), ("stars", .ref qstars), ("classes", .ref qclasses), ("selves", .ref qselves), ("defs", .ref qdefs), ("targets", .ref qtargets)]
/-- the facts of a blank text -/
def Fct (K : Frag) (H : Hp) (a : Addr) : Prop := ∃ (m : V) (dx tr top sc qasked qpoints qkeywords qshares qimports qstars qclasses qselves qdefs qtargets sx d1 d2 : Addr) (s1 s2 s3 s4 : V), H a = some (.ins (ga K "Facts") dx (fcF m tr top sc qasked qpoints qkeywords qshares qimports qstars qclasses qselves qdefs qtargets)) ∧ H sc = some (.lst [.ref top]) ∧ H qasked = some (.lst []) ∧ H qpoints = some (.lst []) ∧ H qkeywords = some (.lst []) ∧ H qshares = some (.lst []) ∧ H qimports = some (.lst []) ∧ H qstars = some (.lst []) ∧ H qclasses = some (.lst []) ∧ H top = some (.ins (ga K "Scope") sx (scF s1 s2 s3 s4 d1 d2)) ∧ H d1 = some (.dK [])
section
variable {w : World} {K : Frag} {mg : Str → Option Value} {base : Heap}
theorem upd_dk {G : Hp} {D b : Addr} {u : List (Key × V)} {o x : HO} (hD : G D = some (.dK u)) (hn : o ≠ .dK u) (e : G b = some o) : upd G D x b = some o := by rw [upd_ne (fun z => hn (by rw [z, hD] at e; exact (Option.some.inj e).symm))]; exact e
def spFacts (K : Frag) : Sp := fun vs H Q _ => ∃ (a dx : Addr) (m : V) (l : List Nat), vs = [.ref a, m, .str (S l)] ∧ H a = some (.ins (ga K "Facts") dx []) ∧ l.length ≤ 5000 ∧ AllBl l ∧
  ∀ H', Keep a H H' → Fct K H' a → (∀ D u kvs, H D = some (.dK u) → Fct K (upd H' D (.dK kvs)) a) → Q .non H'
theorem sc_facts : FnScope ["self", "module", "text", "tree"] ["self", "module", "text"] (defScope m_Facts___init__) := ⟨rfl, rfl, rfl, by decide +kernel, rfl, by decide +kernel, by decide +kernel⟩
theorem ok_facts {f : Addr} {fd : FuncData} (F : Fun K "__init__" "Facts.__init__" m_Facts___init__ f fd) (T : Txt K mg) : FnOk P w K mg base CX0 9 f fd ["self", "module", "text"] (spFacts K) := by
  obtain ⟨fdP, F_parse⟩ := T.f_parse
  obtain ⟨fdS, F_scope⟩ := T.f_Scope___init__
  have G_parse : FnOk P w K mg base CX0 8 _ fdP ["text"] spParse := ok_parse F_parse T
  have G_scope : FnOk P w K mg base CX0 1 _ fdS ["self", "module", "start", "kind", "outer"] (spScope K) := ok_scope F_scope T
  have b_parse : Binds K fdP ["text"] [] := F_parse.binds fun _ _ _ _ _ _ us hl => match us, hl with | [_], _ => rfl
  have b_scope : Binds K fdS ["self", "module", "start", "kind", "outer"] [] := F_scope.binds fun _ _ _ _ _ _ us hl => match us, hl with | [_, _, _, _, _], _ => rfl
  refine F.ok sc_facts (fun vs H Q E h => ?_) (fun cdv A outer s H vs Q E hr h => ?_)
  · obtain ⟨a, dx, m, l, rfl, _⟩ := h
    rfl
  · obtain ⟨a, dx, m, l, rfl, ha, hl, hb, q⟩ := h
    have sc := sc_facts
    have c := T.k_Facts
    have na := T.na_Facts
    have hr_scope : Room 2 _ := hr.mono (by decide)
    refine ⟨_, (pss_cons (ps_fldK (pv 0) (pv 1) rfl)
      (pss_cons (ps_fldK (pv 0) (pe_call G_parse hr rfl T.g_parse F_parse.kp b_parse .nil pass0 (pa_cons (pv 2) pa_nil)) rfl)
      (pss_cons (ps_fldK (pv 0) (pe_make T.mk_Scope G_scope hr_scope rfl T.g_Scope b_scope .nil pass0 (pa_cons (pv 1) (pa_cons (pe_un un_neg pe_int) (pa_cons pe_str (pa_cons pe_non pa_nil))))) rfl)
      (pss_cons (ps_fldK (pv 0) (pe_lst (pa_cons (pe_fld (pv 0) rfl) pa_nil)) rfl)
      (pss_cons (ps_fldK (pv 0) pe_newL rfl)
      (pss_cons (ps_fldK (pv 0) pe_newL rfl)
      (pss_cons (ps_fldK (pv 0) pe_newL rfl)
      (pss_cons (ps_fldK (pv 0) pe_newL rfl)
      (pss_cons (ps_fldK (pv 0) pe_newL rfl)
      (pss_cons (ps_fldK (pv 0) pe_newL rfl)
      (pss_cons (ps_fldK (pv 0) pe_newL rfl)
      (pss_cons (ps_fldK (pv 0) pe_newD rfl)
      (pss_cons (ps_fldK (pv 0) pe_newD rfl)
      (pss_cons (ps_fldK (pv 0) pe_newD rfl)
      (pss_one (ps_for PassesOwn.never rfl (pi_list (pe_fld (pv 0) rfl)) (pg_name (i := 3) sc.nd rfl (Or.inl rfl)) pss_dead)))))))))))))))), ?_⟩
    refine ⟨_, rfl, _, rfl, a, _, dx, [], rfl, ha, c, na _ (by simp [fl_Facts]), (by show 0 < 1000; decide), fun G0 k0 e0 => ?_⟩
    refine ⟨_, rfl, l, rfl, hl, hb, fun tr Ht St etr => ?_⟩
    have ntr : tr ≠ a := fun z => by have := St _ _ e0; rw [z, this] at etr; cases etr
    refine ⟨_, rfl, a, _, dx, _, rfl, (St _ _ e0), c, na _ (by simp [fl_Facts]), (by show 1 < 1000; decide), fun G1 k1 e1 => ?_⟩
    refine ⟨_, rfl, _, rfl, fun top sx htop hsx hne => ⟨top, sx, _, _, _, _, rfl, upd_same, fun d1 d2 Hs fr ks ed1 ed2 etop => ⟨rfl, ?_⟩⟩⟩
    have ntop : top ≠ a := fun z => by rw [z, e1] at htop; cases htop
    have nsx : a ≠ sx := fun z => by rw [← z, e1] at hsx; cases hsx
    have es : Hs a = some _ := ks _ _ (Ne.symm ntop) (by rw [upd_ne (Ne.symm ntop), upd_ne nsx]; exact e1)
    have kk : Keep a G1 Hs := fun b o nb e => ks _ _ (ne_of_none e htop) (by rw [upd_ne (ne_of_none e htop), upd_ne (ne_of_none e hsx)]; exact e)
    have nd1 : d1 ≠ a := fun z => by rw [z, es] at ed1; cases ed1
    refine ⟨_, rfl, a, _, dx, _, rfl, es, c, na _ (by simp [fl_Facts]), (by show 2 < 1000; decide), fun G2 k2 e2 => ?_⟩
    refine ⟨_, rfl, a, _, dx, _, .ref top, rfl, e2, c, na _ (by simp [fl_Facts]), (by first | rfl | kernel_rfl), (by show 1 ≤ sizeLine; decide), fun sc hsc => ?_⟩
    have Ssc := same_new (o := .lst [V.ref top]) hsc
    have esc : upd G2 sc (.lst [V.ref top]) sc = some (.lst [V.ref top]) := upd_same
    have nsc : sc ≠ a := fun z => by rw [z, e2] at hsc; cases hsc
    refine ⟨_, rfl, a, _, dx, _, rfl, (Ssc _ _ e2), c, na _ (by simp [fl_Facts]), (by show 3 < 1000; decide), fun G3 k3 e3 => ?_⟩
    intro qasked Hasked hasked Sasked easked
    have nasked : qasked ≠ a := fun z => by rw [z, e3] at hasked; cases hasked
    refine ⟨_, rfl, a, _, dx, _, rfl, (Sasked _ _ e3), c, na _ (by simp [fl_Facts]), (by show 4 < 1000; decide), fun G4 k4 e4 => ?_⟩
    intro qpoints Hpoints hpoints Spoints epoints
    have npoints : qpoints ≠ a := fun z => by rw [z, e4] at hpoints; cases hpoints
    refine ⟨_, rfl, a, _, dx, _, rfl, (Spoints _ _ e4), c, na _ (by simp [fl_Facts]), (by show 5 < 1000; decide), fun G5 k5 e5 => ?_⟩
    intro qkeywords Hkeywords hkeywords Skeywords ekeywords
    have nkeywords : qkeywords ≠ a := fun z => by rw [z, e5] at hkeywords; cases hkeywords
    refine ⟨_, rfl, a, _, dx, _, rfl, (Skeywords _ _ e5), c, na _ (by simp [fl_Facts]), (by show 6 < 1000; decide), fun G6 k6 e6 => ?_⟩
    intro qshares Hshares hshares Sshares eshares
    have nshares : qshares ≠ a := fun z => by rw [z, e6] at hshares; cases hshares
    refine ⟨_, rfl, a, _, dx, _, rfl, (Sshares _ _ e6), c, na _ (by simp [fl_Facts]), (by show 7 < 1000; decide), fun G7 k7 e7 => ?_⟩
    intro qimports Himports himports Simports eimports
    have nimports : qimports ≠ a := fun z => by rw [z, e7] at himports; cases himports
    refine ⟨_, rfl, a, _, dx, _, rfl, (Simports _ _ e7), c, na _ (by simp [fl_Facts]), (by show 8 < 1000; decide), fun G8 k8 e8 => ?_⟩
    intro qstars Hstars hstars Sstars estars
    have nstars : qstars ≠ a := fun z => by rw [z, e8] at hstars; cases hstars
    refine ⟨_, rfl, a, _, dx, _, rfl, (Sstars _ _ e8), c, na _ (by simp [fl_Facts]), (by show 9 < 1000; decide), fun G9 k9 e9 => ?_⟩
    intro qclasses Hclasses hclasses Sclasses eclasses
    have nclasses : qclasses ≠ a := fun z => by rw [z, e9] at hclasses; cases hclasses
    refine ⟨_, rfl, a, _, dx, _, rfl, (Sclasses _ _ e9), c, na _ (by simp [fl_Facts]), (by show 10 < 1000; decide), fun G10 k10 e10 => ?_⟩
    intro qselves Hselves hselves Sselves eselves
    have nselves : qselves ≠ a := fun z => by rw [z, e10] at hselves; cases hselves
    refine ⟨_, rfl, a, _, dx, _, rfl, (Sselves _ _ e10), c, na _ (by simp [fl_Facts]), (by show 11 < 1000; decide), fun G11 k11 e11 => ?_⟩
    intro qdefs Hdefs hdefs Sdefs edefs
    have ndefs : qdefs ≠ a := fun z => by rw [z, e11] at hdefs; cases hdefs
    refine ⟨_, rfl, a, _, dx, _, rfl, (Sdefs _ _ e11), c, na _ (by simp [fl_Facts]), (by show 12 < 1000; decide), fun G12 k12 e12 => ?_⟩
    intro qtargets Htargets htargets Stargets etargets
    have ntargets : qtargets ≠ a := fun z => by rw [z, e12] at htargets; cases htargets
    refine ⟨_, rfl, a, _, dx, _, rfl, (Stargets _ _ e12), c, na _ (by simp [fl_Facts]), (by show 13 < 1000; decide), fun G13 k13 e13 => ?_⟩
    have K27 : Keep a G13 G13 := fun _ _ _ e => e
    have K26 := k13.trans K27
    have K25 := (Keep.of Stargets).trans K26
    have K24 := k12.trans K25
    have K23 := (Keep.of Sdefs).trans K24
    have K22 := k11.trans K23
    have K21 := (Keep.of Sselves).trans K22
    have K20 := k10.trans K21
    have K19 := (Keep.of Sclasses).trans K20
    have K18 := k9.trans K19
    have K17 := (Keep.of Sstars).trans K18
    have K16 := k8.trans K17
    have K15 := (Keep.of Simports).trans K16
    have K14 := k7.trans K15
    have K13 := (Keep.of Sshares).trans K14
    have K12 := k6.trans K13
    have K11 := (Keep.of Skeywords).trans K12
    have K10 := k5.trans K11
    have K9 := (Keep.of Spoints).trans K10
    have K8 := k4.trans K9
    have K7 := (Keep.of Sasked).trans K8
    have K6 := k3.trans K7
    have K5 := (Keep.of Ssc).trans K6
    have K4 := k2.trans K5
    have K3 := kk.trans K4
    have K2 := k1.trans K3
    have K1 := (Keep.of St).trans K2
    have K0 := k0.trans K1
    have q0 : G13 a = some (.ins (ga K "Facts") dx (fcF m tr top sc qasked qpoints qkeywords qshares qimports qstars qclasses qselves qdefs qtargets)) := by rw [e13]; first | rfl | kernel_rfl
    have fin : Fct K G13 a := ⟨m, dx, tr, top, sc, qasked, qpoints, qkeywords, qshares, qimports, qstars, qclasses, qselves, qdefs, qtargets, sx, d1, d2, _, _, _, _, q0, (K6 _ _ nsc esc), (K8 _ _ nasked easked), (K10 _ _ npoints epoints), (K12 _ _ nkeywords ekeywords), (K14 _ _ nshares eshares), (K16 _ _ nimports eimports), (K18 _ _ nstars estars), (K20 _ _ nclasses eclasses), (K4 _ _ ntop etop), (K4 _ _ nd1 ed1)⟩
    have fr2 : H d1 = none := by
      match hz : H d1 with
      | none => rfl
      | some o =>
        exfalso
        have e1' := ((k0.trans (Keep.of St)).trans k1) _ _ nd1 hz
        rw [upd_ne (ne_of_none e1' htop), upd_ne (ne_of_none e1' hsx), e1'] at fr
        cases fr
    have fin2 : ∀ D u kvs, H D = some (.dK u) → Fct K (upd G13 D (.dK kvs)) a := fun D u kvs hD => by
      have gD := K0 _ _ (fun z => by rw [z, ha] at hD; cases hD) hD
      exact ⟨m, dx, tr, top, sc, qasked, qpoints, qkeywords, qshares, qimports, qstars, qclasses, qselves, qdefs, qtargets, sx, d1, d2, _, _, _, _, (upd_dk gD (fun z => by cases z) q0), (upd_dk gD (fun z => by cases z) (K6 _ _ nsc esc)), (upd_dk gD (fun z => by cases z) (K8 _ _ nasked easked)), (upd_dk gD (fun z => by cases z) (K10 _ _ npoints epoints)), (upd_dk gD (fun z => by cases z) (K12 _ _ nkeywords ekeywords)), (upd_dk gD (fun z => by cases z) (K14 _ _ nshares eshares)), (upd_dk gD (fun z => by cases z) (K16 _ _ nimports eimports)), (upd_dk gD (fun z => by cases z) (K18 _ _ nstars estars)), (upd_dk gD (fun z => by cases z) (K20 _ _ nclasses eclasses)), (upd_dk gD (fun z => by cases z) (K4 _ _ ntop etop)), (by rw [upd_ne (ne_of_none hD fr2).symm]; exact (K4 _ _ nd1 ed1))⟩
    refine ⟨_, rfl, a, _, dx, _, .ref tr, rfl, e13, c, na _ (by simp [fl_Facts]), (by first | rfl | kernel_rfl), tr, rfl, ⟨_, SqL.of (K2 _ _ ntr etr)⟩, for_list (K := K) (a := tr) (xs := []) (fun _ _ H2 => H2 = G13) rfl (fun _ _ _ _ h => by rw [h]; exact SqL.of (K2 _ _ ntr etr)) (fun i x σ H2 hi _ => by cases hi) (fun σ H2 h => by subst h; exact q _ K0 fin fin2)⟩
end
end K14

set_option Elab.async false
set_option linter.all false
set_option maxRecDepth 100000
set_option maxHeartbeats 4000000
/-! Loops whose bodies only make new objects: over a dict's values and items (locked), over a list. -/
namespace L2
open PySem PySem.Spec PyProof.Rows
theorem unlock_same {H H' : Hp} {d : Addr} {u : HO} (k : Keep d H H') (hd : H d = some u) : Same H (upd H' d u) := fun b o e => by
  by_cases hb : b = d
  · subst hb
    rw [upd_same, ← hd, e]
  · rw [upd_ne hb]; exact k b o hb e
section
variable {K : PySem.W.Frag} {d : Addr} {kvs : List (Key × V)} {td : TE} {g : TG} {tb : TS} {D : Ends} {σ : St} {H : Hp}
theorem lock_vals (hd : H d = some (.dK kvs)) (htd : ∀ Hl Q, Keep d H Hl → Q (.ref d) Hl → td σ Hl Q) (St1 : St → Prop) (h0 : St1 σ)
    (hs : ∀ (i : Nat) (k : Key) (x : V) (σ : St) (Hl : Hp) (N : Ends), kvs[i]? = some (k, x) → St1 σ → Keep d H Hl → (∃ od, Hl d = some (.frz od (.dK kvs))) → (∀ σ3 H3, St1 σ3 → Same Hl H3 → N.nx σ3 H3) → g x σ Hl fun σ2 H2 => tb N σ2 H2)
    (hf : ∀ σ' H', St1 σ' → Same H H' → D.nx σ' H') : tLock (tFor (iVals td) g tb) D σ H := by
  refine ⟨d, .dK kvs, hd, trivial, fun od => ?_⟩
  refine htd _ _ keep_upd ⟨d, od, kvs, rfl, upd_same, for_it walk_values (fun i σ' H' => St1 σ' ∧ Keep d H H' ∧ H' d = some (.frz od (.dK kvs))) ⟨h0, keep_upd, upd_same⟩ (fun i σ' H' _ p => p.2.2) (fun i x σ' Hl Hl' hi p y => ?_) (fun σ' H' p => ⟨p.2.2, hf _ _ p.1 (unlock_same p.2.1 hd)⟩)⟩
  obtain ⟨rfl, k, hk⟩ := y
  exact hs i k x σ' Hl' _ hk p.1 p.2.1 ⟨od, p.2.2⟩ fun σ3 H3 s3 S3 => ⟨s3, p.2.1.trans (Keep.of S3), S3 _ _ p.2.2⟩
theorem lock_items (hd : H d = some (.dK kvs)) (htd : ∀ Hl Q, Keep d H Hl → Q (.ref d) Hl → td σ Hl Q) (St1 : St → Prop) (h0 : St1 σ)
    (hs : ∀ (i : Nat) (k : Key) (x : V) (t : Addr) (σ : St) (Hl : Hp) (N : Ends), kvs[i]? = some (k, x) → St1 σ → Keep d H Hl → (∃ od, Hl d = some (.frz od (.dK kvs))) → Hl t = some (.tup [kV k, x]) → (∀ σ3 H3, St1 σ3 → Same Hl H3 → N.nx σ3 H3) → g (.ref t) σ Hl fun σ2 H2 => tb N σ2 H2)
    (hf : ∀ σ' H', St1 σ' → Same H H' → D.nx σ' H') : tLock (tFor (iItems td) g tb) D σ H := by
  refine ⟨d, .dK kvs, hd, trivial, fun od => ?_⟩
  refine htd _ _ keep_upd ⟨d, od, kvs, rfl, upd_same, for_it walk_items (fun i σ' H' => St1 σ' ∧ Keep d H H' ∧ H' d = some (.frz od (.dK kvs))) ⟨h0, keep_upd, upd_same⟩ (fun i σ' H' _ p => p.2.2) (fun i x σ' Hl Hl' hi p y => ?_) (fun σ' H' p => ⟨p.2.2, hf _ _ p.1 (unlock_same p.2.1 hd)⟩)⟩
  obtain ⟨t, a, b, rfl, ht, rfl, ha, hb⟩ := y
  obtain ⟨⟨k, v⟩, hkv⟩ : ∃ p, kvs[i]? = some p := ⟨kvs[i], List.getElem?_eq_getElem hi⟩
  replace ha : (kvs[i]?.map fun kv => kV kv.1) = some a := ha
  replace hb : kvs[i]?.map Prod.snd = some b := hb
  rw [hkv] at ha hb
  obtain rfl : kV k = a := Option.some.inj ha
  obtain rfl : v = b := Option.some.inj hb
  have S1 := same_new (o := .tup [kV k, v]) ht
  exact hs i k v t σ' _ _ hkv p.1 (p.2.1.trans (Keep.of S1)) ⟨od, S1 _ _ p.2.2⟩ upd_same fun σ3 H3 s3 S3 => ⟨s3, (p.2.1.trans (Keep.of S1)).trans (Keep.of S3), S3 _ _ (S1 _ _ p.2.2)⟩
theorem grow_list {a : Addr} {xs : List V} (ha : H a = some (.lst xs)) (htd : ∀ Q, Q (.ref a) H → td σ H Q) (St1 : St → Prop) (h0 : St1 σ)
    (hs : ∀ (i : Nat) (x : V) (σ : St) (Hl : Hp) (N : Ends), xs[i]? = some x → St1 σ → Same H Hl → (∀ σ3 H3, St1 σ3 → Same Hl H3 → N.nx σ3 H3) → g x σ Hl fun σ2 H2 => tb N σ2 H2)
    (hf : ∀ σ' H', St1 σ' → Same H H' → D.nx σ' H') : tFor (iList K td) g tb D σ H := by
  refine htd _ ⟨a, rfl, ⟨_, SqL.of ha⟩, for_list (K := K) (a := a) (xs := xs) (fun i σ' H' => St1 σ' ∧ Same H H') ⟨h0, Same.refl H⟩ (fun i σ' H' _ p => SqL.of (p.2 _ _ ha)) (fun i x σ' Hl hi p => ?_) (fun σ' H' p => hf _ _ p.1 p.2)⟩
  exact hs i x σ' Hl _ hi p.1 p.2 fun σ3 H3 s3 S3 => ⟨s3, p.2.trans S3⟩
end
end L2

set_option Elab.async false
set_option linter.all false
set_option maxRecDepth 100000
set_option maxHeartbeats 4000000
set_option pp.maxSteps 1500
set_option pp.deepTerms false
namespace K14
open PySem PySem.Spec PyProof.Rows L2 He KH PySem.KX Lex
open PySem.W (Frag)
theorem keep_of_ne {d b : Addr} {H H' : Hp} {o u : HO} (k : Keep d H H') (hd : H d = some u) (hn : o ≠ u) (e : H b = some o) : H' b = some o := k b o (fun z => hn (by rw [z, hd] at e; exact (Option.some.inj e).symm)) e
section
variable {w : World} {K : Frag} {mg : Str → Option Value} {base : Heap}
theorem Fct.keep {H H' : Hp} {d a : Addr} {kvs : List (Key × V)} (h : Fct K H a) (k : Keep d H H') (hd : H d = some (.dK kvs)) (hn : kvs ≠ []) : Fct K H' a := by
  have nl : ∀ {xs : List V}, (HO.lst xs) ≠ .dK kvs := fun z => by cases z
  have ni : ∀ {C dx : Addr} {fs : List (Str × V)}, (HO.ins C dx fs) ≠ .dK kvs := fun z => by cases z
  have nd : (HO.dK []) ≠ .dK kvs := fun z => by cases z; exact hn rfl
  obtain ⟨m, dx, tr, top, sc, q1, q2, q3, q4, q5, q6, q7, q8, q9, q10, sx, d1, d2, s1, s2, s3, s4, h1, h2, h3, h4, h5, h6, h7, h8, h9, h10, h11⟩ := h
  exact ⟨m, dx, tr, top, sc, q1, q2, q3, q4, q5, q6, q7, q8, q9, q10, sx, d1, d2, s1, s2, s3, s4, keep_of_ne k hd ni h1, keep_of_ne k hd nl h2, keep_of_ne k hd nl h3, keep_of_ne k hd nl h4, keep_of_ne k hd nl h5, keep_of_ne k hd nl h6, keep_of_ne k hd nl h7, keep_of_ne k hd nl h8, keep_of_ne k hd nl h9, keep_of_ne k hd ni h10, keep_of_ne k hd nd h11⟩
theorem Fct.same {H H' : Hp} {a : Addr} (h : Fct K H a) (k : Same H H') : Fct K H' a := by
  obtain ⟨m, dx, tr, top, sc, q1, q2, q3, q4, q5, q6, q7, q8, q9, q10, sx, d1, d2, s1, s2, s3, s4, h1, h2, h3, h4, h5, h6, h7, h8, h9, h10, h11⟩ := h
  exact ⟨m, dx, tr, top, sc, q1, q2, q3, q4, q5, q6, q7, q8, q9, q10, sx, d1, d2, s1, s2, s3, s4, k _ _ h1, k _ _ h2, k _ _ h3, k _ _ h4, k _ _ h5, k _ _ h6, k _ _ h7, k _ _ h8, k _ _ h9, k _ _ h10, k _ _ h11⟩
def lkF (fc br pa pl us op bg me ba : Addr) : List (Str × V) := [("facts", .ref fc), ("broken", .ref br), ("parents", .ref pa), ("places", .ref pl), ("uses", .ref us), ("opened", .ref op), ("brought", .ref bg), ("members", .ref me), ("bases", .ref ba)]
def Lnk (K : Frag) (H : Hp) (a : Addr) : Prop := ∃ (dx fc br pa pl us op bg me ba : Addr) (kvs : List (Key × V)), H a = some (.ins (ga K "Links") dx (lkF fc br pa pl us op bg me ba)) ∧ H fc = some (.dK kvs) ∧ (∀ (i : Nat) (k : Key) (x : V), kvs[i]? = some (k, x) → ∃ f, x = .ref f ∧ Fct K H f) ∧ H br = some (.lst []) ∧ H bg = some (.dK []) ∧ H me = some (.dK []) ∧ H ba = some (.dK [])
def spLk (K : Frag) : Sp := fun vs H Q _ => ∃ a, vs = [.ref a] ∧ Lnk K H a ∧ ∀ H', Same H H' → Q .non H'
abbrev Ngat : List Str := ["self", "facts", "scope", "name", "bringings", "home", "start", "way", "key"]
theorem sc_gather : FnScope Ngat ["self"] (defScope m_Links_gather) := ⟨rfl, rfl, rfl, by decide +kernel, rfl, by decide +kernel, by decide +kernel⟩
theorem ok_gather {f : Addr} {fd : FuncData} (F : Fun K "gather" "Links.gather" m_Links_gather f fd) (T : Txt K mg) : FnOk P w K mg base CX0 1 f fd ["self"] (spLk K) := by
  refine F.ok sc_gather (fun vs H Q E h => ?_) (fun cdv A outer s H vs Q E hr h => ?_)
  · obtain ⟨a, rfl, _⟩ := h
    rfl
  · obtain ⟨a, rfl, ⟨dx, fc, br, pa, pl, us, op, bg, me, ba, kvs, ha, hfc, hk, hbr, hbg, hme, hba⟩, q⟩ := h
    have sc := sc_gather
    have c := T.k_Links
    have na := T.na_Links
    have cF := T.k_Facts
    have naF := T.na_Facts
    have cS := T.k_Scope
    have naS := T.na_Scope
    refine ⟨_, (pss_cons (ps_lock (ps_for PassesOwn.never rfl (pi_values (pe_fld (pv 0) rfl)) (pg_name (i := 1) sc.nd rfl (Or.inl rfl))
        (pss_cons (ps_for PassesOwn.never rfl (pi_list (pe_fld (pv 1) rfl)) (pg_name (i := 2) sc.nd rfl (Or.inl rfl))
          (pss_one (ps_lock (ps_for PassesOwn.never rfl (pi_items (pe_fld (pv 2) rfl)) (pg_tup rfl (pgs_cons (pg_name (i := 3) sc.nd rfl (Or.inl rfl)) (pgs_cons (pg_name (i := 4) sc.nd rfl (Or.inl rfl)) pgs_nil))) pss_dead))))
        (pss_one (ps_for PassesOwn.never rfl (pi_list (pe_fld (pv 1) rfl)) (pg_tup rfl (pgs_cons (pg_name (i := 2) sc.nd rfl (Or.inl rfl)) (pgs_cons (pg_name (i := 3) sc.nd rfl (Or.inl rfl)) (pgs_cons (pg_name (i := 6) sc.nd rfl (Or.inl rfl)) (pgs_cons (pg_name (i := 7) sc.nd rfl (Or.inl rfl)) pgs_nil))))) pss_dead)))))
      (pss_one (ps_for PassesOwn.never rfl (pi_list (pe_callTy (call_list_dK rfl) rfl T.n_list (by decide +kernel) (pa_cons (pe_fld (pv 0) rfl) pa_nil))) (pg_name (i := 8) sc.nd rfl (Or.inl rfl)) pss_dead))), ?_⟩
    have nac : a ≠ fc := fun z => by rw [z, hfc] at ha; cases ha
    refine lock_vals hfc (fun Hl Q k q => ⟨_, rfl, a, _, dx, _, .ref fc, rfl, k _ _ nac ha, c, na _ (by simp [fl_Links]), (by first | rfl | kernel_rfl), q⟩) (fun σ => ∃ v1 v2 v3 v4 v5 v6 v7 v8 : Option V, σ = [some (.ref a), v1, v2, v3, v4, v5, v6, v7, v8]) ⟨_, _, _, _, _, _, _, _, rfl⟩ ?_ ?_
    · rintro i k x σ Hl N hi ⟨v1, v2, v3, v4, v5, v6, v7, v8, rfl⟩ kl _ hN
      obtain ⟨fa, rfl, hf⟩ := hk i k x hi
      have hne : kvs ≠ [] := fun z => by rw [z] at hi; cases hi
      obtain ⟨m, fx, tr, top, scs, q1, q2, q3, q4, q5, q6, q7, q8, q9, q10, sx, d1, d2, s1, s2, s3, s4, h1, h2, h3, h4, h5, h6, h7, h8, h9, h10, h11⟩ := hf.keep kl hfc hne
      refine grow_list (K := K) h2 (fun Q q => ⟨_, rfl, fa, _, fx, _, .ref scs, rfl, h1, cF, naF _ (by simp [fl_Facts]), (by first | rfl | kernel_rfl), q⟩) (fun σ => ∃ v2 v3 v4 v5 v6 v7 v8 : Option V, σ = [some (.ref a), some (.ref fa), v2, v3, v4, v5, v6, v7, v8]) ⟨_, _, _, _, _, _, _, rfl⟩ ?_ ?_
      · rintro i2 x2 σ2 H2 N2 hi2 ⟨v2, v3, v4, v5, v6, v7, v8, rfl⟩ S2 hN2
        have hx2 : x2 = .ref top := by
          have := List.mem_of_getElem? hi2
          simpa using this
        subst hx2
        have ntd : top ≠ d1 := fun z => by rw [z, h11] at h10; cases h10
        refine lock_items (S2 _ _ h11) (fun Hm Q k q => ⟨_, rfl, top, _, sx, _, .ref d1, rfl, k _ _ ntd (S2 _ _ h10), cS, naS _ (by simp [fl_Scope]), (by first | rfl | kernel_rfl), q⟩) (fun σ => σ = [some (.ref a), some (.ref fa), some (.ref top), v3, v4, v5, v6, v7, v8]) rfl (fun i3 k3 x3 t3 σ3 H3 N3 hi3 => by cases hi3) (fun σ' H' e S' => ?_)
        subst e
        exact hN2 _ _ ⟨_, _, _, _, _, _, _, rfl⟩ S'
      · rintro σ2 H2 ⟨v2, v3, v4, v5, v6, v7, v8, rfl⟩ S2
        dsimp only
        refine grow_list (K := K) (S2 _ _ h6) (fun Q q => ⟨_, rfl, fa, _, fx, _, .ref q4, rfl, S2 _ _ h1, cF, naF _ (by simp [fl_Facts]), (by first | rfl | kernel_rfl), q⟩) (fun σ => σ = [some (.ref a), some (.ref fa), v2, v3, v4, v5, v6, v7, v8]) rfl (fun i3 x3 σ3 H3 N3 hi3 => by cases hi3) (fun σ' H' e S' => ?_)
        subst e
        exact hN _ _ ⟨_, _, _, _, _, _, _, _, rfl⟩ (S2.trans S')
    · rintro σ H1 ⟨v1, v2, v3, v4, v5, v6, v7, v8, rfl⟩ S1
      refine ⟨_, rfl, a, _, dx, _, .ref bg, rfl, S1 _ _ ha, c, na _ (by simp [fl_Links]), (by first | rfl | kernel_rfl), ?_⟩
      refine ⟨bg, [], rfl, S1 _ _ hbg, fun l hl => ?_⟩
      have S2 := same_new (o := .lst []) hl
      refine ⟨l, rfl, ⟨_, SqL.of upd_same⟩, for_list (K := K) (a := l) (xs := []) (fun _ _ H2 => H2 = upd H1 l (.lst [])) rfl (fun _ _ _ _ h => by rw [h]; exact SqL.of upd_same) (fun i x σ H2 hi _ => by cases hi) (fun σ H2 h => by subst h; exact q _ (S1.trans S2))⟩
end
end K14

set_option Elab.async false
set_option linter.all false
set_option maxRecDepth 100000
set_option maxHeartbeats 4000000
set_option pp.maxSteps 1500
set_option pp.deepTerms false
namespace K14
open PySem PySem.Spec PyProof.Rows L2 He KH PySem.KX Lex
open PySem.W (Frag)
section
variable {w : World} {K : Frag} {mg : Str → Option Value} {base : Heap}
abbrev N_look_at_shares : List Str := ["self", "module", "facts", "scope", "name", "start", "way", "passed", "home", "ways", "place", "one", "parameters", "key", "is_lost"]
theorem sc_look_at_shares : FnScope N_look_at_shares ["self"] (defScope m_Links_look_at_shares) := ⟨rfl, rfl, rfl, by decide +kernel, rfl, by decide +kernel, by decide +kernel⟩
theorem ok_look_at_shares {f : Addr} {fd : FuncData} (F : Fun K "look_at_shares" "Links.look_at_shares" m_Links_look_at_shares f fd) (T : Txt K mg) : FnOk P w K mg base CX0 1 f fd ["self"] (spLk K) := by
  refine F.ok sc_look_at_shares (fun vs H Q E h => ?_) (fun cdv A outer s H vs Q E hr h => ?_)
  · obtain ⟨a, rfl, _⟩ := h
    rfl
  · obtain ⟨a, rfl, ⟨dx, fc, br, pa, pl, us, op, bg, me, ba, kvs, ha, hfc, hk, hbr, hbg, hme, hba⟩, q⟩ := h
    have sc := sc_look_at_shares
    have c := T.k_Links
    have na := T.na_Links
    have cF := T.k_Facts
    have naF := T.na_Facts
    refine ⟨_, (pss_one (ps_lock (ps_for PassesOwn.never rfl (pi_items (pe_fld (pv 0) rfl)) (pg_tup rfl (pgs_cons (pg_name (i := 1) sc.nd rfl (Or.inl rfl)) (pgs_cons (pg_name (i := 2) sc.nd rfl (Or.inl rfl)) pgs_nil)))
        (pss_one (ps_for PassesOwn.never rfl (pi_list (pe_fld (pv 2) rfl)) (pg_tup rfl (pgs_cons (pg_name (i := 3) sc.nd rfl (Or.inl rfl)) (pgs_cons (pg_name (i := 4) sc.nd rfl (Or.inl rfl)) (pgs_cons (pg_name (i := 5) sc.nd rfl (Or.inl rfl)) (pgs_cons (pg_name (i := 6) sc.nd rfl (Or.inl rfl)) pgs_nil))))) pss_dead))))), ?_⟩
    have nac : a ≠ fc := fun z => by rw [z, hfc] at ha; cases ha
    refine lock_items hfc (fun Hl Q k q => ⟨_, rfl, a, _, dx, _, .ref fc, rfl, k _ _ nac ha, c, na _ (by simp [fl_Links]), (by first | rfl | kernel_rfl), q⟩) (fun σ => ∃ v1 v2 v3 v4 v5 v6 v7 v8 v9 v10 v11 v12 v13 v14 : Option V, σ = [some (.ref a), v1, v2, v3, v4, v5, v6, v7, v8, v9, v10, v11, v12, v13, v14]) ⟨_, _, _, _, _, _, _, _, _, _, _, _, _, _, rfl⟩ ?_ (fun σ' H' _ S' => q _ S')
    rintro i k x t σ Hl N hi ⟨v1, v2, v3, v4, v5, v6, v7, v8, v9, v10, v11, v12, v13, v14, rfl⟩ kl _ ht hN
    obtain ⟨fa, rfl, hf⟩ := hk i k x hi
    have hne : kvs ≠ [] := fun z => by rw [z] at hi; cases hi
    obtain ⟨m, fx, tr, top, scs, q1, q2, q3, q4, q5, q6, q7, q8, q9, q10, sx, d1, d2, s1, s2, s3, s4, h1, h2, h3, h4, h5, h6, h7, h8, h9, h10, h11⟩ := hf.keep kl hfc hne
    refine ⟨t, _, rfl, SqT.of ht, rfl, _, _, rfl, _, _, rfl, rfl, ?_⟩
    refine grow_list (K := K) h6 (fun Q q => ⟨_, rfl, fa, _, fx, _, .ref q4, rfl, h1, cF, naF _ (by simp [fl_Facts]), (by first | rfl | kernel_rfl), q⟩) (fun σ => σ = [some (.ref a), some (kV k), some (.ref fa), v3, v4, v5, v6, v7, v8, v9, v10, v11, v12, v13, v14]) rfl (fun i3 x3 σ3 H3 N3 hi3 => by cases hi3) (fun σ' H' e S' => ?_)
    subst e
    exact hN _ _ ⟨_, _, _, _, _, _, _, _, _, _, _, _, _, _, rfl⟩ S'
abbrev N_look_at_asked : List Str := ["self", "module", "facts", "scope", "name", "start", "way", "key", "passed"]
theorem sc_look_at_asked : FnScope N_look_at_asked ["self"] (defScope m_Links_look_at_asked) := ⟨rfl, rfl, rfl, by decide +kernel, rfl, by decide +kernel, by decide +kernel⟩
theorem ok_look_at_asked {f : Addr} {fd : FuncData} (F : Fun K "look_at_asked" "Links.look_at_asked" m_Links_look_at_asked f fd) (T : Txt K mg) : FnOk P w K mg base CX0 1 f fd ["self"] (spLk K) := by
  refine F.ok sc_look_at_asked (fun vs H Q E h => ?_) (fun cdv A outer s H vs Q E hr h => ?_)
  · obtain ⟨a, rfl, _⟩ := h
    rfl
  · obtain ⟨a, rfl, ⟨dx, fc, br, pa, pl, us, op, bg, me, ba, kvs, ha, hfc, hk, hbr, hbg, hme, hba⟩, q⟩ := h
    have sc := sc_look_at_asked
    have c := T.k_Links
    have na := T.na_Links
    have cF := T.k_Facts
    have naF := T.na_Facts
    refine ⟨_, (pss_one (ps_lock (ps_for PassesOwn.never rfl (pi_items (pe_fld (pv 0) rfl)) (pg_tup rfl (pgs_cons (pg_name (i := 1) sc.nd rfl (Or.inl rfl)) (pgs_cons (pg_name (i := 2) sc.nd rfl (Or.inl rfl)) pgs_nil)))
        (pss_one (ps_for PassesOwn.never rfl (pi_list (pe_fld (pv 2) rfl)) (pg_tup rfl (pgs_cons (pg_name (i := 3) sc.nd rfl (Or.inl rfl)) (pgs_cons (pg_name (i := 4) sc.nd rfl (Or.inl rfl)) (pgs_cons (pg_name (i := 5) sc.nd rfl (Or.inl rfl)) (pgs_cons (pg_name (i := 6) sc.nd rfl (Or.inl rfl)) pgs_nil))))) pss_dead))))), ?_⟩
    have nac : a ≠ fc := fun z => by rw [z, hfc] at ha; cases ha
    refine lock_items hfc (fun Hl Q k q => ⟨_, rfl, a, _, dx, _, .ref fc, rfl, k _ _ nac ha, c, na _ (by simp [fl_Links]), (by first | rfl | kernel_rfl), q⟩) (fun σ => ∃ v1 v2 v3 v4 v5 v6 v7 v8 : Option V, σ = [some (.ref a), v1, v2, v3, v4, v5, v6, v7, v8]) ⟨_, _, _, _, _, _, _, _, rfl⟩ ?_ (fun σ' H' _ S' => q _ S')
    rintro i k x t σ Hl N hi ⟨v1, v2, v3, v4, v5, v6, v7, v8, rfl⟩ kl _ ht hN
    obtain ⟨fa, rfl, hf⟩ := hk i k x hi
    have hne : kvs ≠ [] := fun z => by rw [z] at hi; cases hi
    obtain ⟨m, fx, tr, top, scs, q1, q2, q3, q4, q5, q6, q7, q8, q9, q10, sx, d1, d2, s1, s2, s3, s4, h1, h2, h3, h4, h5, h6, h7, h8, h9, h10, h11⟩ := hf.keep kl hfc hne
    refine ⟨t, _, rfl, SqT.of ht, rfl, _, _, rfl, _, _, rfl, rfl, ?_⟩
    refine grow_list (K := K) h3 (fun Q q => ⟨_, rfl, fa, _, fx, _, .ref q1, rfl, h1, cF, naF _ (by simp [fl_Facts]), (by first | rfl | kernel_rfl), q⟩) (fun σ => σ = [some (.ref a), some (kV k), some (.ref fa), v3, v4, v5, v6, v7, v8]) rfl (fun i3 x3 σ3 H3 N3 hi3 => by cases hi3) (fun σ' H' e S' => ?_)
    subst e
    exact hN _ _ ⟨_, _, _, _, _, _, _, _, rfl⟩ S'
abbrev N_look_at_keywords : List Str := ["self", "module", "facts", "scope", "callee", "name", "found", "first", "ways", "start", "way"]
theorem sc_look_at_keywords : FnScope N_look_at_keywords ["self"] (defScope m_Links_look_at_keywords) := ⟨rfl, rfl, rfl, by decide +kernel, rfl, by decide +kernel, by decide +kernel⟩
theorem ok_look_at_keywords {f : Addr} {fd : FuncData} (F : Fun K "look_at_keywords" "Links.look_at_keywords" m_Links_look_at_keywords f fd) (T : Txt K mg) : FnOk P w K mg base CX0 1 f fd ["self"] (spLk K) := by
  refine F.ok sc_look_at_keywords (fun vs H Q E h => ?_) (fun cdv A outer s H vs Q E hr h => ?_)
  · obtain ⟨a, rfl, _⟩ := h
    rfl
  · obtain ⟨a, rfl, ⟨dx, fc, br, pa, pl, us, op, bg, me, ba, kvs, ha, hfc, hk, hbr, hbg, hme, hba⟩, q⟩ := h
    have sc := sc_look_at_keywords
    have c := T.k_Links
    have na := T.na_Links
    have cF := T.k_Facts
    have naF := T.na_Facts
    refine ⟨_, (pss_one (ps_lock (ps_for PassesOwn.never rfl (pi_items (pe_fld (pv 0) rfl)) (pg_tup rfl (pgs_cons (pg_name (i := 1) sc.nd rfl (Or.inl rfl)) (pgs_cons (pg_name (i := 2) sc.nd rfl (Or.inl rfl)) pgs_nil)))
        (pss_one (ps_for PassesOwn.never rfl (pi_list (pe_fld (pv 2) rfl)) (pg_tup rfl (pgs_cons (pg_name (i := 3) sc.nd rfl (Or.inl rfl)) (pgs_cons (pg_name (i := 4) sc.nd rfl (Or.inl rfl)) (pgs_cons (pg_name (i := 5) sc.nd rfl (Or.inl rfl)) pgs_nil)))) pss_dead))))), ?_⟩
    have nac : a ≠ fc := fun z => by rw [z, hfc] at ha; cases ha
    refine lock_items hfc (fun Hl Q k q => ⟨_, rfl, a, _, dx, _, .ref fc, rfl, k _ _ nac ha, c, na _ (by simp [fl_Links]), (by first | rfl | kernel_rfl), q⟩) (fun σ => ∃ v1 v2 v3 v4 v5 v6 v7 v8 v9 v10 : Option V, σ = [some (.ref a), v1, v2, v3, v4, v5, v6, v7, v8, v9, v10]) ⟨_, _, _, _, _, _, _, _, _, _, rfl⟩ ?_ (fun σ' H' _ S' => q _ S')
    rintro i k x t σ Hl N hi ⟨v1, v2, v3, v4, v5, v6, v7, v8, v9, v10, rfl⟩ kl _ ht hN
    obtain ⟨fa, rfl, hf⟩ := hk i k x hi
    have hne : kvs ≠ [] := fun z => by rw [z] at hi; cases hi
    obtain ⟨m, fx, tr, top, scs, q1, q2, q3, q4, q5, q6, q7, q8, q9, q10, sx, d1, d2, s1, s2, s3, s4, h1, h2, h3, h4, h5, h6, h7, h8, h9, h10, h11⟩ := hf.keep kl hfc hne
    refine ⟨t, _, rfl, SqT.of ht, rfl, _, _, rfl, _, _, rfl, rfl, ?_⟩
    refine grow_list (K := K) h5 (fun Q q => ⟨_, rfl, fa, _, fx, _, .ref q3, rfl, h1, cF, naF _ (by simp [fl_Facts]), (by first | rfl | kernel_rfl), q⟩) (fun σ => σ = [some (.ref a), some (kV k), some (.ref fa), v3, v4, v5, v6, v7, v8, v9, v10]) rfl (fun i3 x3 σ3 H3 N3 hi3 => by cases hi3) (fun σ' H' e S' => ?_)
    subst e
    exact hN _ _ ⟨_, _, _, _, _, _, _, _, _, _, rfl⟩ S'
end
end K14

set_option Elab.async false
set_option linter.all false
set_option maxRecDepth 100000
set_option maxHeartbeats 4000000
set_option pp.maxSteps 1500
set_option pp.deepTerms false
namespace K14
open PySem PySem.Spec PyProof.Rows L2 He KH PySem.KX Lex
open PySem.W (Frag)
section
variable {w : World} {K : Frag} {mg : Str → Option Value} {base : Heap}
abbrev N_look_at_imports : List Str := ["self", "module", "facts", "tree", "name", "other", "scope", "bringings", "key", "start", "way", "home"]
theorem sc_look_at_imports : FnScope N_look_at_imports ["self"] (defScope m_Links_look_at_imports) := ⟨rfl, rfl, rfl, by decide +kernel, rfl, by decide +kernel, by decide +kernel⟩
theorem ok_look_at_imports {f : Addr} {fd : FuncData} (F : Fun K "look_at_imports" "Links.look_at_imports" m_Links_look_at_imports f fd) (T : Txt K mg) : FnOk P w K mg base CX0 1 f fd ["self"] (spLk K) := by
  refine F.ok sc_look_at_imports (fun vs H Q E h => ?_) (fun cdv A outer s H vs Q E hr h => ?_)
  · obtain ⟨a, rfl, _⟩ := h
    rfl
  · obtain ⟨a, rfl, ⟨dx, fc, br, pa, pl, us, op, bg, me, ba, kvs, ha, hfc, hk, hbr, hbg, hme, hba⟩, q⟩ := h
    have sc := sc_look_at_imports
    have c := T.k_Links
    have na := T.na_Links
    have cF := T.k_Facts
    have naF := T.na_Facts
    have cS := T.k_Scope
    have naS := T.na_Scope
    refine ⟨_, (pss_cons (ps_lock (ps_for PassesOwn.never rfl (pi_items (pe_fld (pv 0) rfl)) (pg_tup rfl (pgs_cons (pg_name (i := 1) sc.nd rfl (Or.inl rfl)) (pgs_cons (pg_name (i := 2) sc.nd rfl (Or.inl rfl)) pgs_nil)))
        (pss_cons (ps_for PassesOwn.never rfl (pi_list (pe_fld (pv 2) rfl)) (pg_name (i := 3) sc.nd rfl (Or.inl rfl)) pss_dead)
        (pss_one (ps_for PassesOwn.never rfl (pi_list (pe_fld (pv 2) rfl)) (pg_name (i := 6) sc.nd rfl (Or.inl rfl))
          (pss_one (ps_lock (ps_for PassesOwn.never rfl (pi_items (pe_fld (pv 6) rfl)) (pg_tup rfl (pgs_cons (pg_name (i := 4) sc.nd rfl (Or.inl rfl)) (pgs_cons (pg_name (i := 7) sc.nd rfl (Or.inl rfl)) pgs_nil))) pss_dead))))))))
      (pss_one (ps_lock (ps_for PassesOwn.never rfl (pi_items (pe_fld (pv 0) rfl)) (pg_tup rfl (pgs_cons (pg_name (i := 11) sc.nd rfl (Or.inr rfl)) (pgs_cons (pg_name (i := 7) sc.nd rfl (Or.inl rfl)) pgs_nil))) pss_dead)))), ?_⟩
    have nac : a ≠ fc := fun z => by rw [z, hfc] at ha; cases ha
    have nbg : a ≠ bg := fun z => by rw [z, hbg] at ha; cases ha
    have nme : a ≠ me := fun z => by rw [z, hme] at ha; cases ha
    refine lock_items hfc (fun Hl Q k q => ⟨_, rfl, a, _, dx, _, .ref fc, rfl, k _ _ nac ha, c, na _ (by simp [fl_Links]), (by first | rfl | kernel_rfl), q⟩) (fun σ => ∃ v1 v2 v3 v4 v5 v6 v7 v8 v9 v10 v11 : Option V, σ = [some (.ref a), v1, v2, v3, v4, v5, v6, v7, v8, v9, v10, v11]) ⟨_, _, _, _, _, _, _, _, _, _, _, rfl⟩ ?_ ?_
    · rintro i k x t σ Hl N hi ⟨v1, v2, v3, v4, v5, v6, v7, v8, v9, v10, v11, rfl⟩ kl _ ht hN
      obtain ⟨fa, rfl, hf⟩ := hk i k x hi
      have hne : kvs ≠ [] := fun z => by rw [z] at hi; cases hi
      obtain ⟨m, fx, tr, top, scs, q1, q2, q3, q4, q5, q6, q7, q8, q9, q10, sx, d1, d2, s1, s2, s3, s4, h1, h2, h3, h4, h5, h6, h7, h8, h9, h10, h11⟩ := hf.keep kl hfc hne
      refine ⟨t, _, rfl, SqT.of ht, rfl, _, _, rfl, _, _, rfl, rfl, ?_⟩
      refine grow_list (K := K) h7 (fun Q q => ⟨_, rfl, fa, _, fx, _, .ref q5, rfl, h1, cF, naF _ (by simp [fl_Facts]), (by first | rfl | kernel_rfl), q⟩) (fun σ => σ = [some (.ref a), some (kV k), some (.ref fa), v3, v4, v5, v6, v7, v8, v9, v10, v11]) rfl (fun i3 x3 σ3 H3 N3 hi3 => by cases hi3) (fun σ' H' e S' => ?_)
      subst e
      dsimp only
      refine grow_list (K := K) (S' _ _ h2) (fun Q q => ⟨_, rfl, fa, _, fx, _, .ref scs, rfl, S' _ _ h1, cF, naF _ (by simp [fl_Facts]), (by first | rfl | kernel_rfl), q⟩) (fun σ => ∃ v3 v4 v5 v6 v7 v8 v9 v10 v11 : Option V, σ = [some (.ref a), some (kV k), some (.ref fa), v3, v4, v5, v6, v7, v8, v9, v10, v11]) ⟨_, _, _, _, _, _, _, _, _, rfl⟩ ?_ ?_
      · rintro i2 x2 σ2 H2 N2 hi2 ⟨v3, v4, v5, v6, v7, v8, v9, v10, v11, rfl⟩ S2 hN2
        have hx2 : x2 = .ref top := by
          have := List.mem_of_getElem? hi2
          simpa using this
        subst hx2
        have ntd : top ≠ d1 := fun z => by rw [z, h11] at h10; cases h10
        refine lock_items (S2 _ _ (S' _ _ h11)) (fun Hm Q k q => ⟨_, rfl, top, _, sx, _, .ref d1, rfl, k _ _ ntd (S2 _ _ (S' _ _ h10)), cS, naS _ (by simp [fl_Scope]), (by first | rfl | kernel_rfl), q⟩) (fun σ => σ = [some (.ref a), some (kV k), some (.ref fa), v3, v4, v5, some (.ref top), v7, v8, v9, v10, v11]) rfl (fun i3 k3 x3 t3 σ3 H3 N3 hi3 => by cases hi3) (fun σ' H' e S3 => ?_)
        subst e
        exact hN2 _ _ ⟨_, _, _, _, _, _, _, _, _, rfl⟩ S3
      · rintro σ2 H2 ⟨v3, v4, v5, v6, v7, v8, v9, v10, v11, rfl⟩ S2
        exact hN _ _ ⟨_, _, _, _, _, _, _, _, _, _, _, rfl⟩ (S'.trans S2)
    · rintro σ H1 ⟨v1, v2, v3, v4, v5, v6, v7, v8, v9, v10, v11, rfl⟩ S1
      dsimp only
      refine lock_items (S1 _ _ hbg) (fun Hl Q k q => ⟨_, rfl, a, _, dx, _, .ref bg, rfl, k _ _ nbg (S1 _ _ ha), c, na _ (by simp [fl_Links]), (by first | rfl | kernel_rfl), q⟩) (fun σ => True) trivial (fun i3 k3 x3 t3 σ3 H3 N3 hi3 => by cases hi3) (fun σ' H' _ S2 => q _ (S1.trans S2))
abbrev N_look_at_classes : List Str := ["self", "module", "facts", "scope", "tree", "own", "name", "base", "seen", "here"]
theorem sc_look_at_classes : FnScope N_look_at_classes ["self"] (defScope m_Links_look_at_classes) := ⟨rfl, rfl, rfl, by decide +kernel, rfl, by decide +kernel, by decide +kernel⟩
theorem ok_look_at_classes {f : Addr} {fd : FuncData} (F : Fun K "look_at_classes" "Links.look_at_classes" m_Links_look_at_classes f fd) (T : Txt K mg) : FnOk P w K mg base CX0 1 f fd ["self"] (spLk K) := by
  refine F.ok sc_look_at_classes (fun vs H Q E h => ?_) (fun cdv A outer s H vs Q E hr h => ?_)
  · obtain ⟨a, rfl, _⟩ := h
    rfl
  · obtain ⟨a, rfl, ⟨dx, fc, br, pa, pl, us, op, bg, me, ba, kvs, ha, hfc, hk, hbr, hbg, hme, hba⟩, q⟩ := h
    have sc := sc_look_at_classes
    have c := T.k_Links
    have na := T.na_Links
    have cF := T.k_Facts
    have naF := T.na_Facts
    have cS := T.k_Scope
    have naS := T.na_Scope
    refine ⟨_, (pss_cons (ps_lock (ps_for PassesOwn.never rfl (pi_items (pe_fld (pv 0) rfl)) (pg_tup rfl (pgs_cons (pg_name (i := 1) sc.nd rfl (Or.inl rfl)) (pgs_cons (pg_name (i := 2) sc.nd rfl (Or.inl rfl)) pgs_nil)))
        (pss_one (ps_for PassesOwn.never rfl (pi_list (pe_fld (pv 2) rfl)) (pg_tup rfl (pgs_cons (pg_name (i := 3) sc.nd rfl (Or.inl rfl)) (pgs_cons (pg_name (i := 4) sc.nd rfl (Or.inl rfl)) pgs_nil))) pss_dead))))
      (pss_one (ps_for PassesOwn.never rfl (pi_list (pe_callTy (call_list_dK rfl) rfl T.n_list (by decide +kernel) (pa_cons (pe_fld (pv 0) rfl) pa_nil))) (pg_name (i := 5) sc.nd rfl (Or.inr rfl)) pss_dead))), ?_⟩
    have nac : a ≠ fc := fun z => by rw [z, hfc] at ha; cases ha
    have nbg : a ≠ bg := fun z => by rw [z, hbg] at ha; cases ha
    have nme : a ≠ me := fun z => by rw [z, hme] at ha; cases ha
    refine lock_items hfc (fun Hl Q k q => ⟨_, rfl, a, _, dx, _, .ref fc, rfl, k _ _ nac ha, c, na _ (by simp [fl_Links]), (by first | rfl | kernel_rfl), q⟩) (fun σ => ∃ v1 v2 v3 v4 v5 v6 v7 v8 v9 : Option V, σ = [some (.ref a), v1, v2, v3, v4, v5, v6, v7, v8, v9]) ⟨_, _, _, _, _, _, _, _, _, rfl⟩ ?_ ?_
    · rintro i k x t σ Hl N hi ⟨v1, v2, v3, v4, v5, v6, v7, v8, v9, rfl⟩ kl _ ht hN
      obtain ⟨fa, rfl, hf⟩ := hk i k x hi
      have hne : kvs ≠ [] := fun z => by rw [z] at hi; cases hi
      obtain ⟨m, fx, tr, top, scs, q1, q2, q3, q4, q5, q6, q7, q8, q9, q10, sx, d1, d2, s1, s2, s3, s4, h1, h2, h3, h4, h5, h6, h7, h8, h9, h10, h11⟩ := hf.keep kl hfc hne
      refine ⟨t, _, rfl, SqT.of ht, rfl, _, _, rfl, _, _, rfl, rfl, ?_⟩
      refine grow_list (K := K) h9 (fun Q q => ⟨_, rfl, fa, _, fx, _, .ref q7, rfl, h1, cF, naF _ (by simp [fl_Facts]), (by first | rfl | kernel_rfl), q⟩) (fun σ => σ = [some (.ref a), some (kV k), some (.ref fa), v3, v4, v5, v6, v7, v8, v9]) rfl (fun i3 x3 σ3 H3 N3 hi3 => by cases hi3) (fun σ' H' e S' => ?_)
      subst e
      exact hN _ _ ⟨_, _, _, _, _, _, _, _, _, rfl⟩ S'
    · rintro σ H1 ⟨v1, v2, v3, v4, v5, v6, v7, v8, v9, rfl⟩ S1
      refine ⟨_, rfl, a, _, dx, _, .ref ba, rfl, S1 _ _ ha, c, na _ (by simp [fl_Links]), (by first | rfl | kernel_rfl), ?_⟩
      refine ⟨ba, [], rfl, S1 _ _ hba, fun l hl => ?_⟩
      have S2 := same_new (o := .lst []) hl
      refine ⟨l, rfl, ⟨_, SqL.of upd_same⟩, for_list (K := K) (a := l) (xs := []) (fun _ _ H2 => H2 = upd H1 l (.lst [])) rfl (fun _ _ _ _ h => by rw [h]; exact SqL.of upd_same) (fun i x σ H2 hi _ => by cases hi) (fun σ H2 h => by subst h; exact q _ (S1.trans S2))⟩
abbrev N_look_at_points : List Str := ["self", "module", "facts", "scope", "tree", "name", "is_target", "own", "names", "other", "names_there", "is_related", "key"]
theorem sc_look_at_points : FnScope N_look_at_points ["self"] (defScope m_Links_look_at_points) := ⟨rfl, rfl, rfl, by decide +kernel, rfl, by decide +kernel, by decide +kernel⟩
theorem ok_look_at_points {f : Addr} {fd : FuncData} (F : Fun K "look_at_points" "Links.look_at_points" m_Links_look_at_points f fd) (T : Txt K mg) : FnOk P w K mg base CX0 1 f fd ["self"] (spLk K) := by
  refine F.ok sc_look_at_points (fun vs H Q E h => ?_) (fun cdv A outer s H vs Q E hr h => ?_)
  · obtain ⟨a, rfl, _⟩ := h
    rfl
  · obtain ⟨a, rfl, ⟨dx, fc, br, pa, pl, us, op, bg, me, ba, kvs, ha, hfc, hk, hbr, hbg, hme, hba⟩, q⟩ := h
    have sc := sc_look_at_points
    have c := T.k_Links
    have na := T.na_Links
    have cF := T.k_Facts
    have naF := T.na_Facts
    have cS := T.k_Scope
    have naS := T.na_Scope
    refine ⟨_, (pss_cons (ps_lock (ps_for PassesOwn.never rfl (pi_items (pe_fld (pv 0) rfl)) (pg_tup rfl (pgs_cons (pg_name (i := 1) sc.nd rfl (Or.inl rfl)) (pgs_cons (pg_name (i := 2) sc.nd rfl (Or.inl rfl)) pgs_nil)))
        (pss_one (ps_for PassesOwn.never rfl (pi_list (pe_fld (pv 2) rfl)) (pg_tup rfl (pgs_cons (pg_name (i := 3) sc.nd rfl (Or.inl rfl)) (pgs_cons (pg_name (i := 4) sc.nd rfl (Or.inl rfl)) (pgs_cons (pg_name (i := 5) sc.nd rfl (Or.inl rfl)) (pgs_cons (pg_name (i := 6) sc.nd rfl (Or.inl rfl)) pgs_nil))))) pss_dead))))
      (pss_cons (ps_lock (ps_for PassesOwn.never rfl (pi_items (pe_fld (pv 0) rfl)) (pg_tup rfl (pgs_cons (pg_name (i := 7) sc.nd rfl (Or.inl rfl)) (pgs_cons (pg_name (i := 8) sc.nd rfl (Or.inl rfl)) pgs_nil))) pss_dead))
      (pss_one (ps_lock (ps_for PassesOwn.never rfl (pi_items (pe_fld (pv 0) rfl)) (pg_tup rfl (pgs_cons (pg_name (i := 1) sc.nd rfl (Or.inl rfl)) (pgs_cons (pg_name (i := 2) sc.nd rfl (Or.inl rfl)) pgs_nil)))
        (pss_one (ps_for PassesOwn.never rfl (pi_list (pe_fld (pv 2) rfl)) (pg_tup rfl (pgs_cons (pg_name (i := 3) sc.nd rfl (Or.inl rfl)) (pgs_cons (pg_name (i := 4) sc.nd rfl (Or.inl rfl)) (pgs_cons (pg_name (i := 5) sc.nd rfl (Or.inl rfl)) (pgs_cons (pg_name (i := 6) sc.nd rfl (Or.inl rfl)) pgs_nil))))) pss_dead))))))), ?_⟩
    have nac : a ≠ fc := fun z => by rw [z, hfc] at ha; cases ha
    have nbg : a ≠ bg := fun z => by rw [z, hbg] at ha; cases ha
    have nme : a ≠ me := fun z => by rw [z, hme] at ha; cases ha
    refine lock_items hfc (fun Hl Q k q => ⟨_, rfl, a, _, dx, _, .ref fc, rfl, k _ _ nac ha, c, na _ (by simp [fl_Links]), (by first | rfl | kernel_rfl), q⟩) (fun σ => ∃ v1 v2 v3 v4 v5 v6 v7 v8 v9 v10 v11 v12 : Option V, σ = [some (.ref a), v1, v2, v3, v4, v5, v6, v7, v8, v9, v10, v11, v12]) ⟨_, _, _, _, _, _, _, _, _, _, _, _, rfl⟩ ?_ ?_
    · rintro i k x t σ Hl N hi ⟨v1, v2, v3, v4, v5, v6, v7, v8, v9, v10, v11, v12, rfl⟩ kl _ ht hN
      obtain ⟨fa, rfl, hf⟩ := hk i k x hi
      have hne : kvs ≠ [] := fun z => by rw [z] at hi; cases hi
      obtain ⟨m, fx, tr, top, scs, q1, q2, q3, q4, q5, q6, q7, q8, q9, q10, sx, d1, d2, s1, s2, s3, s4, h1, h2, h3, h4, h5, h6, h7, h8, h9, h10, h11⟩ := hf.keep kl hfc hne
      refine ⟨t, _, rfl, SqT.of ht, rfl, _, _, rfl, _, _, rfl, rfl, ?_⟩
      refine grow_list (K := K) h4 (fun Q q => ⟨_, rfl, fa, _, fx, _, .ref q2, rfl, h1, cF, naF _ (by simp [fl_Facts]), (by first | rfl | kernel_rfl), q⟩) (fun σ => σ = [some (.ref a), some (kV k), some (.ref fa), v3, v4, v5, v6, v7, v8, v9, v10, v11, v12]) rfl (fun i3 x3 σ3 H3 N3 hi3 => by cases hi3) (fun σ' H' e S' => ?_)
      subst e
      exact hN _ _ ⟨_, _, _, _, _, _, _, _, _, _, _, _, rfl⟩ S'
    · rintro σ H1 ⟨v1, v2, v3, v4, v5, v6, v7, v8, v9, v10, v11, v12, rfl⟩ S1
      dsimp only
      refine lock_items (S1 _ _ hme) (fun Hl Q k q => ⟨_, rfl, a, _, dx, _, .ref me, rfl, k _ _ nme (S1 _ _ ha), c, na _ (by simp [fl_Links]), (by first | rfl | kernel_rfl), q⟩) (fun σ => ∃ v1 v2 v3 v4 v5 v6 v7 v8 v9 v10 v11 v12 : Option V, σ = [some (.ref a), v1, v2, v3, v4, v5, v6, v7, v8, v9, v10, v11, v12]) ⟨_, _, _, _, _, _, _, _, _, _, _, _, rfl⟩ (fun i3 k3 x3 t3 σ3 H3 N3 hi3 => by cases hi3) ?_
      rintro σ H2 ⟨v1, v2, v3, v4, v5, v6, v7, v8, v9, v10, v11, v12, rfl⟩ S2
      dsimp only
      have S12 := S1.trans S2
      refine lock_items (S12 _ _ hfc) (fun Hl Q k q => ⟨_, rfl, a, _, dx, _, .ref fc, rfl, k _ _ nac (S12 _ _ ha), c, na _ (by simp [fl_Links]), (by first | rfl | kernel_rfl), q⟩) (fun σ => ∃ v1 v2 v3 v4 v5 v6 v7 v8 v9 v10 v11 v12 : Option V, σ = [some (.ref a), v1, v2, v3, v4, v5, v6, v7, v8, v9, v10, v11, v12]) ⟨_, _, _, _, _, _, _, _, _, _, _, _, rfl⟩ ?_ (fun σ' H' _ S3 => q _ (S12.trans S3))
      rintro i k x t σ Hl N hi ⟨v1, v2, v3, v4, v5, v6, v7, v8, v9, v10, v11, v12, rfl⟩ kl _ ht hN
      obtain ⟨fa, rfl, hf⟩ := hk i k x hi
      have hne : kvs ≠ [] := fun z => by rw [z] at hi; cases hi
      obtain ⟨m, fx, tr, top, scs, q1, q2, q3, q4, q5, q6, q7, q8, q9, q10, sx, d1, d2, s1, s2, s3, s4, h1, h2, h3, h4, h5, h6, h7, h8, h9, h10, h11⟩ := (hf.same S12).keep kl (S12 _ _ hfc) hne
      refine ⟨t, _, rfl, SqT.of ht, rfl, _, _, rfl, _, _, rfl, rfl, ?_⟩
      refine grow_list (K := K) h4 (fun Q q => ⟨_, rfl, fa, _, fx, _, .ref q2, rfl, h1, cF, naF _ (by simp [fl_Facts]), (by first | rfl | kernel_rfl), q⟩) (fun σ => σ = [some (.ref a), some (kV k), some (.ref fa), v3, v4, v5, v6, v7, v8, v9, v10, v11, v12]) rfl (fun i3 x3 σ3 H3 N3 hi3 => by cases hi3) (fun σ' H' e S' => ?_)
      subst e
      exact hN _ _ ⟨_, _, _, _, _, _, _, _, _, _, _, _, rfl⟩ S'
end
end K14

set_option Elab.async false
set_option linter.all false
set_option maxRecDepth 100000
set_option maxHeartbeats 4000000
set_option pp.maxSteps 1500
set_option pp.deepTerms false
namespace K14
open PySem PySem.Spec PyProof.Rows L2 He KH PySem.KX Lex
open PySem.W (Frag)
section
variable {w : World} {K : Frag} {mg : Str → Option Value} {base : Heap}
theorem Fct.keepI {H H' : Hp} {d a C dx' : Addr} (h : Fct K H a) (k : Keep d H H') (hd : H d = some (.ins C dx' [])) : Fct K H' a := by
  have nl : ∀ {xs : List V}, (HO.lst xs) ≠ .ins C dx' [] := fun z => by cases z
  have nd : (HO.dK []) ≠ .ins C dx' [] := fun z => by cases z
  obtain ⟨m, dx, tr, top, sc, q1, q2, q3, q4, q5, q6, q7, q8, q9, q10, sx, d1, d2, s1, s2, s3, s4, h1, h2, h3, h4, h5, h6, h7, h8, h9, h10, h11⟩ := h
  exact ⟨m, dx, tr, top, sc, q1, q2, q3, q4, q5, q6, q7, q8, q9, q10, sx, d1, d2, s1, s2, s3, s4, keep_of_ne k hd (fun z => by cases z) h1, keep_of_ne k hd nl h2, keep_of_ne k hd nl h3, keep_of_ne k hd nl h4, keep_of_ne k hd nl h5, keep_of_ne k hd nl h6, keep_of_ne k hd nl h7, keep_of_ne k hd nl h8, keep_of_ne k hd nl h9, keep_of_ne k hd (fun z => by cases z) h10, keep_of_ne k hd nd h11⟩
def spLinks (K : Frag) : Sp := fun vs H Q _ => ∃ (a dx fc : Addr) (kvs : List (Key × V)), vs = [.ref a, .ref fc] ∧ H a = some (.ins (ga K "Links") dx []) ∧ H fc = some (.dK kvs) ∧ (∀ (i : Nat) (k : Key) (x : V), kvs[i]? = some (k, x) → ∃ f, x = .ref f ∧ Fct K H f) ∧
  ∀ H', Keep a H H' → Lnk K H' a → Q .non H'
theorem Lnk.same {H H' : Hp} {a : Addr} (h : Lnk K H a) (S1 : Same H H') : Lnk K H' a := by
  obtain ⟨dx, fc, br, pa, pl, us, op, bg, me, ba, kvs, ha, hfc, hk, hbr, hbg, hme, hba⟩ := h
  exact ⟨dx, fc, br, pa, pl, us, op, bg, me, ba, kvs, S1 _ _ ha, S1 _ _ hfc, fun i k x e => let ⟨f, e1, e2⟩ := hk i k x e; ⟨f, e1, e2.same S1⟩, S1 _ _ hbr, S1 _ _ hbg, S1 _ _ hme, S1 _ _ hba⟩
theorem sc_linksI : FnScope ["self", "facts"] ["self", "facts"] (defScope m_Links___init__) := ⟨rfl, rfl, rfl, by decide +kernel, rfl, by decide +kernel, by decide +kernel⟩
theorem ok_links {f : Addr} {fd : FuncData} (F : Fun K "__init__" "Links.__init__" m_Links___init__ f fd) (T : Txt K mg) : FnOk P w K mg base CX0 2 f fd ["self", "facts"] (spLinks K) := by
  obtain ⟨fd_gather, F_gather⟩ := T.f_Links_gather
  have G_gather : FnOk P w K mg base CX0 1 _ fd_gather ["self"] (spLk K) := ok_gather F_gather T
  have b_gather : Binds K fd_gather ["self"] [] := F_gather.binds fun _ _ _ _ _ _ us hl => match us, hl with | [_], _ => rfl
  obtain ⟨fd_look_at_shares, F_look_at_shares⟩ := T.f_Links_look_at_shares
  have G_look_at_shares : FnOk P w K mg base CX0 1 _ fd_look_at_shares ["self"] (spLk K) := ok_look_at_shares F_look_at_shares T
  have b_look_at_shares : Binds K fd_look_at_shares ["self"] [] := F_look_at_shares.binds fun _ _ _ _ _ _ us hl => match us, hl with | [_], _ => rfl
  obtain ⟨fd_look_at_imports, F_look_at_imports⟩ := T.f_Links_look_at_imports
  have G_look_at_imports : FnOk P w K mg base CX0 1 _ fd_look_at_imports ["self"] (spLk K) := ok_look_at_imports F_look_at_imports T
  have b_look_at_imports : Binds K fd_look_at_imports ["self"] [] := F_look_at_imports.binds fun _ _ _ _ _ _ us hl => match us, hl with | [_], _ => rfl
  obtain ⟨fd_look_at_asked, F_look_at_asked⟩ := T.f_Links_look_at_asked
  have G_look_at_asked : FnOk P w K mg base CX0 1 _ fd_look_at_asked ["self"] (spLk K) := ok_look_at_asked F_look_at_asked T
  have b_look_at_asked : Binds K fd_look_at_asked ["self"] [] := F_look_at_asked.binds fun _ _ _ _ _ _ us hl => match us, hl with | [_], _ => rfl
  obtain ⟨fd_look_at_classes, F_look_at_classes⟩ := T.f_Links_look_at_classes
  have G_look_at_classes : FnOk P w K mg base CX0 1 _ fd_look_at_classes ["self"] (spLk K) := ok_look_at_classes F_look_at_classes T
  have b_look_at_classes : Binds K fd_look_at_classes ["self"] [] := F_look_at_classes.binds fun _ _ _ _ _ _ us hl => match us, hl with | [_], _ => rfl
  obtain ⟨fd_look_at_points, F_look_at_points⟩ := T.f_Links_look_at_points
  have G_look_at_points : FnOk P w K mg base CX0 1 _ fd_look_at_points ["self"] (spLk K) := ok_look_at_points F_look_at_points T
  have b_look_at_points : Binds K fd_look_at_points ["self"] [] := F_look_at_points.binds fun _ _ _ _ _ _ us hl => match us, hl with | [_], _ => rfl
  obtain ⟨fd_look_at_keywords, F_look_at_keywords⟩ := T.f_Links_look_at_keywords
  have G_look_at_keywords : FnOk P w K mg base CX0 1 _ fd_look_at_keywords ["self"] (spLk K) := ok_look_at_keywords F_look_at_keywords T
  have b_look_at_keywords : Binds K fd_look_at_keywords ["self"] [] := F_look_at_keywords.binds fun _ _ _ _ _ _ us hl => match us, hl with | [_], _ => rfl
  refine F.ok sc_linksI (fun vs H Q E h => ?_) (fun cdv A outer s H vs Q E hr h => ?_)
  · obtain ⟨a, dx, fc, kvs, rfl, _⟩ := h
    rfl
  · obtain ⟨a, dx, fc, kvs, rfl, ha, hfc, hk, q⟩ := h
    have sc := sc_linksI
    have c := T.k_Links
    have na := T.na_Links
    refine ⟨_, (pss_cons (ps_fldK (pv 0) (pv 1) rfl)
      (pss_cons (ps_fldK (pv 0) pe_newL rfl)
      (pss_cons (ps_fldK (pv 0) pe_newD rfl)
      (pss_cons (ps_fldK (pv 0) pe_newD rfl)
      (pss_cons (ps_fldK (pv 0) pe_newL rfl)
      (pss_cons (ps_fldK (pv 0) pe_newL rfl)
      (pss_cons (ps_fldK (pv 0) pe_newD rfl)
      (pss_cons (ps_fldK (pv 0) pe_newD rfl)
      (pss_cons (ps_fldK (pv 0) pe_newD rfl)
      (pss_cons (ps_expr (pe_meth0 (pv 0) T.k_Links (T.me_Links "gather" (by simp [ms_Links])) G_gather hr b_gather .nil pass0))
      (pss_cons (ps_expr (pe_meth0 (pv 0) T.k_Links (T.me_Links "look_at_shares" (by simp [ms_Links])) G_look_at_shares hr b_look_at_shares .nil pass0))
      (pss_cons (ps_expr (pe_meth0 (pv 0) T.k_Links (T.me_Links "look_at_imports" (by simp [ms_Links])) G_look_at_imports hr b_look_at_imports .nil pass0))
      (pss_cons (ps_expr (pe_meth0 (pv 0) T.k_Links (T.me_Links "look_at_asked" (by simp [ms_Links])) G_look_at_asked hr b_look_at_asked .nil pass0))
      (pss_cons (ps_expr (pe_meth0 (pv 0) T.k_Links (T.me_Links "look_at_classes" (by simp [ms_Links])) G_look_at_classes hr b_look_at_classes .nil pass0))
      (pss_cons (ps_expr (pe_meth0 (pv 0) T.k_Links (T.me_Links "look_at_points" (by simp [ms_Links])) G_look_at_points hr b_look_at_points .nil pass0))
      (pss_one (ps_expr (pe_meth0 (pv 0) T.k_Links (T.me_Links "look_at_keywords" (by simp [ms_Links])) G_look_at_keywords hr b_look_at_keywords .nil pass0)))))))))))))))))), ?_⟩
    have nfc : fc ≠ a := fun z => by rw [z, ha] at hfc; cases hfc
    refine ⟨_, rfl, _, rfl, a, _, dx, [], rfl, ha, c, na _ (by simp [fl_Links]), (by show 0 < 1000; decide), fun G0 k0 e0 => ?_⟩
    intro br Hbr hbr Sbr ebr
    have nbr : br ≠ a := fun z => by rw [z, e0] at hbr; cases hbr
    refine ⟨_, rfl, a, _, dx, _, rfl, (Sbr _ _ e0), c, na _ (by simp [fl_Links]), (by show 1 < 1000; decide), fun G1 k1 e1 => ?_⟩
    intro pa Hpa hpa Spa epa
    have npa : pa ≠ a := fun z => by rw [z, e1] at hpa; cases hpa
    refine ⟨_, rfl, a, _, dx, _, rfl, (Spa _ _ e1), c, na _ (by simp [fl_Links]), (by show 2 < 1000; decide), fun G2 k2 e2 => ?_⟩
    intro pl Hpl hpl Spl epl
    have npl : pl ≠ a := fun z => by rw [z, e2] at hpl; cases hpl
    refine ⟨_, rfl, a, _, dx, _, rfl, (Spl _ _ e2), c, na _ (by simp [fl_Links]), (by show 3 < 1000; decide), fun G3 k3 e3 => ?_⟩
    intro us Hus hus Sus eus
    have nus : us ≠ a := fun z => by rw [z, e3] at hus; cases hus
    refine ⟨_, rfl, a, _, dx, _, rfl, (Sus _ _ e3), c, na _ (by simp [fl_Links]), (by show 4 < 1000; decide), fun G4 k4 e4 => ?_⟩
    intro op Hop hop Sop eop
    have nop : op ≠ a := fun z => by rw [z, e4] at hop; cases hop
    refine ⟨_, rfl, a, _, dx, _, rfl, (Sop _ _ e4), c, na _ (by simp [fl_Links]), (by show 5 < 1000; decide), fun G5 k5 e5 => ?_⟩
    intro bg Hbg hbg Sbg ebg
    have nbg : bg ≠ a := fun z => by rw [z, e5] at hbg; cases hbg
    refine ⟨_, rfl, a, _, dx, _, rfl, (Sbg _ _ e5), c, na _ (by simp [fl_Links]), (by show 6 < 1000; decide), fun G6 k6 e6 => ?_⟩
    intro me Hme hme Sme eme
    have nme : me ≠ a := fun z => by rw [z, e6] at hme; cases hme
    refine ⟨_, rfl, a, _, dx, _, rfl, (Sme _ _ e6), c, na _ (by simp [fl_Links]), (by show 7 < 1000; decide), fun G7 k7 e7 => ?_⟩
    intro ba Hba hba Sba eba
    have nba : ba ≠ a := fun z => by rw [z, e7] at hba; cases hba
    refine ⟨_, rfl, a, _, dx, _, rfl, (Sba _ _ e7), c, na _ (by simp [fl_Links]), (by show 8 < 1000; decide), fun G8 k8 e8 => ?_⟩
    have K17 : Keep a G8 G8 := fun _ _ _ e => e
    have K16 := k8.trans K17
    have K15 := (Keep.of Sba).trans K16
    have K14 := k7.trans K15
    have K13 := (Keep.of Sme).trans K14
    have K12 := k6.trans K13
    have K11 := (Keep.of Sbg).trans K12
    have K10 := k5.trans K11
    have K9 := (Keep.of Sop).trans K10
    have K8 := k4.trans K9
    have K7 := (Keep.of Sus).trans K8
    have K6 := k3.trans K7
    have K5 := (Keep.of Spl).trans K6
    have K4 := k2.trans K5
    have K3 := (Keep.of Spa).trans K4
    have K2 := k1.trans K3
    have K1 := (Keep.of Sbr).trans K2
    have K0 := k0.trans K1
    have fin : Lnk K G8 a := ⟨dx, fc, br, pa, pl, us, op, bg, me, ba, kvs, (by rw [e8]; first | rfl | kernel_rfl), K0 _ _ nfc hfc, fun i k x e => let ⟨f, e1, e2⟩ := hk i k x e; ⟨f, e1, e2.keepI K0 ha⟩, (K2 _ _ nbr ebr), (K12 _ _ nbg ebg), (K14 _ _ nme eme), (K16 _ _ nba eba)⟩
    have T0 := Same.refl G8
    have ga0 := fin
    obtain ⟨dxx, fcx, brx, pax, plx, usx, opx, bgx, mex, bax, kvsx, hax, _⟩ := ga0
    refine ⟨_, rfl, a, dxx, _, rfl, (T0 _ _ hax), (by first | rfl | kernel_rfl), a, rfl, fin.same T0, fun J1 R1 => ?_⟩
    have T1 := T0.trans R1
    refine ⟨_, rfl, a, dxx, _, rfl, (T1 _ _ hax), (by first | rfl | kernel_rfl), a, rfl, fin.same T1, fun J2 R2 => ?_⟩
    have T2 := T1.trans R2
    refine ⟨_, rfl, a, dxx, _, rfl, (T2 _ _ hax), (by first | rfl | kernel_rfl), a, rfl, fin.same T2, fun J3 R3 => ?_⟩
    have T3 := T2.trans R3
    refine ⟨_, rfl, a, dxx, _, rfl, (T3 _ _ hax), (by first | rfl | kernel_rfl), a, rfl, fin.same T3, fun J4 R4 => ?_⟩
    have T4 := T3.trans R4
    refine ⟨_, rfl, a, dxx, _, rfl, (T4 _ _ hax), (by first | rfl | kernel_rfl), a, rfl, fin.same T4, fun J5 R5 => ?_⟩
    have T5 := T4.trans R5
    refine ⟨_, rfl, a, dxx, _, rfl, (T5 _ _ hax), (by first | rfl | kernel_rfl), a, rfl, fin.same T5, fun J6 R6 => ?_⟩
    have T6 := T5.trans R6
    refine ⟨_, rfl, a, dxx, _, rfl, (T6 _ _ hax), (by first | rfl | kernel_rfl), a, rfl, fin.same T6, fun J7 R7 => ?_⟩
    have T7 := T6.trans R7
    exact q _ (K0.trans (Keep.of T7)) (fin.same T7)
end
end K14

set_option Elab.async false
set_option linter.all false
set_option maxRecDepth 100000
set_option maxHeartbeats 4000000
/-! A dict comprehension over a walk. -/
namespace L2
open PySem PySem.Spec PyProof.Rows
theorem dc_it {J : It} {n : Nat} {G : Hp → Prop} {Y : Nat → Hp → V → Hp → Prop} (w : Walk J n G Y) {g : TG} {tt : TT} {tk tv : TE} {vs : List Nat} {σ : St} {H1 : Hp} {D : Addr} {Qd : Hp → Prop} (Pv : Nat → Hp → Prop) (h0 : Pv 0 (upd H1 D (.dK []))) (hG : ∀ i H, i ≤ n → Pv i H → G H)
    (hs : ∀ i x H H', i < n → Pv i H → Y i H x H' → g x (wipe σ vs) H' fun σ2 H2 => wipe σ2 vs = wipe σ vs ∧ tt σ2 H2 fun b H3 =>
      if b = true then tk σ2 H3 fun y H4 => tv σ2 H4 fun z H5 => ∃ kvs k, y = kV k ∧ H5 D = some (.dK kvs) ∧ kvs.length < sizeLine ∧ Pv (i + 1) (upd H5 D (.dK (putK kvs k z))) else Pv (i + 1) H3) (hd : ∀ H, Pv n H → Qd H) :
    ∃ W : Nat → Nat → Hp → Prop, (∃ m, W 0 m (upd H1 D (.dK []))) ∧ ∀ i m H, W i m H →
      (J.stop i H ∧ Qd H) ∨ (J.go i H ∧ ∃ Nx : Hp → Prop, (∀ H', Nx H' → ∃ m', m' < m ∧ W (i + 1) m' H') ∧ ∀ x H', J.yld i H x H' → g x (wipe σ vs) H' fun σ2 H2 => wipe σ2 vs = wipe σ vs ∧ tt σ2 H2 fun b H3 =>
        if b = true then tk σ2 H3 fun y H4 => tv σ2 H4 fun z H5 => ∃ kvs k, y = kV k ∧ H5 D = some (.dK kvs) ∧ kvs.length < sizeLine ∧ Nx (upd H5 D (.dK (putK kvs k z))) else Nx H3) := by
  refine ⟨fun i m H => m = n - i ∧ i ≤ n ∧ Pv i H, ⟨n, by simp, Nat.zero_le _, h0⟩, ?_⟩
  rintro i m H ⟨rfl, hi, p⟩
  have q := hG i H hi p
  by_cases hlt : i < n
  · refine .inr ⟨w.goes i H hlt q, Pv (i + 1), fun H' p' => ⟨n - (i + 1), by omega, rfl, hlt, p'⟩, fun x H' y => hs i x H H' hlt p (w.yields i H x H' hlt q y)⟩
  · have e : i = n := by omega
    subst e
    exact .inl ⟨w.stops H q, hd H p⟩
end L2

set_option Elab.async false
set_option linter.all false
set_option maxRecDepth 100000
set_option maxHeartbeats 4000000
set_option pp.maxSteps 1500
set_option pp.deepTerms false
namespace K14
open PySem PySem.Spec PyProof.Rows L2 He KH PySem.KX Lex
open PySem.W (Frag)
abbrev km : Key := .inr "m"
abbrev kn : Key := .inr "n"
def mnD (l : List Nat) : List (Key × V) := [(km, .str (S l)), (kn, .str (S []))]
def prF (ot f o : Addr) : List (Str × V) := [("own_texts", .ref ot), ("own_facts", .ref f), ("own_links", .ref o)]
section
variable {w : World} {K : Frag} {mg : Str → Option Value} {base : Heap}
theorem perm_two {α : Type} {a b : α} {ys : List α} (h : ys.Perm [a, b]) : ys = [a, b] ∨ ys = [b, a] := by
  match ys, h.length_eq with
  | [x, y], _ =>
    have hx : x ∈ [a, b] := h.subset (by simp)
    simp only [List.mem_cons, List.not_mem_nil, or_false] at hx
    rcases hx with rfl | rfl
    · have := List.perm_singleton.mp (h.cons_inv)
      simp only [List.cons.injEq, and_true] at this
      exact .inl (by rw [this])
    · have := List.perm_singleton.mp ((h.trans (List.Perm.swap _ _ _)).cons_inv)
      simp only [List.cons.injEq, and_true] at this
      exact .inr (by rw [this])
theorem Fct.keepO {H H' : Hp} {d a : Addr} {u : HO} (h : Fct K H a) (k : Keep d H H') (hd : H d = some u) (nl : ∀ xs : List V, HO.lst xs ≠ u) (ni : ∀ (C dx : Addr) (fs : List (Str × V)), 4 ≤ fs.length → HO.ins C dx fs ≠ u) (nd : HO.dK [] ≠ u) : Fct K H' a := by
  obtain ⟨m, dx, tr, top, sc, q1, q2, q3, q4, q5, q6, q7, q8, q9, q10, sx, d1, d2, s1, s2, s3, s4, h1, h2, h3, h4, h5, h6, h7, h8, h9, h10, h11⟩ := h
  exact ⟨m, dx, tr, top, sc, q1, q2, q3, q4, q5, q6, q7, q8, q9, q10, sx, d1, d2, s1, s2, s3, s4, keep_of_ne k hd (ni _ _ _ (by show 4 ≤ 14; decide)) h1, keep_of_ne k hd (nl _) h2, keep_of_ne k hd (nl _) h3, keep_of_ne k hd (nl _) h4, keep_of_ne k hd (nl _) h5, keep_of_ne k hd (nl _) h6, keep_of_ne k hd (nl _) h7, keep_of_ne k hd (nl _) h8, keep_of_ne k hd (nl _) h9, keep_of_ne k hd (ni _ _ _ (by show 4 ≤ 6; decide)) h10, keep_of_ne k hd nd h11⟩
def Prj (K : Frag) (H : Hp) (a : Addr) (l : List Nat) : Prop := ∃ dx ot f o : Addr, H a = some (.ins (ga K "Project") dx (prF ot f o)) ∧ H ot = some (.dK (mnD l))
def spProject (K : Frag) : Sp := fun vs H Q _ => ∃ (a dx d : Addr) (l : List Nat), vs = [.ref a, .ref d] ∧ H a = some (.ins (ga K "Project") dx []) ∧ H d = some (.dK (mnD l)) ∧ l.length ≤ 5000 ∧ AllBl l ∧
  ∀ H', Keep a H H' → Prj K H' a l → Q .non H'
abbrev Nprj : List Str := ["self", "modules", "key", "text"]
theorem sc_project : FnScope Nprj ["self", "modules"] (defScope m_Project___init__) := ⟨rfl, rfl, rfl, by decide +kernel, rfl, by decide +kernel, by decide +kernel⟩
theorem ok_project {f : Addr} {fd : FuncData} (F : Fun K "__init__" "Project.__init__" m_Project___init__ f fd) (T : Txt K mg) : FnOk P w K mg base CX0 11 f fd ["self", "modules"] (spProject K) := by
  obtain ⟨fdN, F_name⟩ := T.f_is_name
  obtain ⟨fdF, F_facts⟩ := T.f_Facts___init__
  obtain ⟨fdL, F_links⟩ := T.f_Links___init__
  have G_name := ok_is_name (w := w) (base := base) F_name T
  have G_facts : FnOk P w K mg base CX0 9 _ fdF ["self", "module", "text"] (spFacts K) := ok_facts F_facts T
  have G_links : FnOk P w K mg base CX0 2 _ fdL ["self", "facts"] (spLinks K) := ok_links F_links T
  have b_name : Binds K fdN ["value"] [] := F_name.binds fun _ _ _ _ _ _ us hl => match us, hl with | [_], _ => rfl
  have b_facts : Binds K fdF ["self", "module", "text"] [] := F_facts.binds fun _ _ _ _ _ _ us hl => match us, hl with | [_, _, _], _ => rfl
  have b_links : Binds K fdL ["self", "facts"] [] := F_links.binds fun _ _ _ _ _ _ us hl => match us, hl with | [_, _], _ => rfl
  refine F.ok sc_project (fun vs H Q E h => ?_) (fun cdv A outer s H vs Q E hr h => ?_)
  · obtain ⟨a, dx, d, l, rfl, _⟩ := h
    rfl
  · obtain ⟨a, dx, d, l, rfl, ha, hd, hl, hb, q⟩ := h
    have sc := sc_project
    have c := T.k_Project
    have na := T.na_Project
    have hu64 := hr.units
    have hr_name : Room 2 _ := hr.mono (by decide)
    have hr_links : Room 3 _ := hr.mono (by decide)
    refine ⟨_, (pss_cons (ps_lock (ps_for PassesOwn.never rfl (pi_keys (pv 1)) (pg_name (i := 2) sc.nd rfl (Or.inl rfl))
        (pss_one (ps_if (pt_not (pt_val (pe_call G_name hr_name rfl T.g_is_name F_name.kp b_name .nil pass0 (pa_cons (pv 2) pa_nil)))) pss_dead pss_nil))))
      (pss_cons (ps_fldK (pv 0) (pe_dc (own := [("key", 2)]) (g := gName 2) (tt := tYes) rfl sc.nd (pi_list (pe_callB cr_sortedS rfl T.n_sorted (by decide +kernel) (pa_cons (pe_callTy (call_list_dK rfl) rfl T.n_list (by decide +kernel) (pa_cons (pv 1) pa_nil)) pa_nil)))
          (blkOk_by (N := Nprj) (sc := defScope m_Project___init__) (by decide +kernel)) (fun _ _ _ _ _ => pg_name (i := 2) sc.nd rfl (Or.inl rfl)) (fun _ _ _ _ _ => pts_nil) (fun _ _ _ _ _ => pv 2) (fun _ _ _ _ _ => pe_dget (Nat.lt_of_le_of_lt (Nat.add_le_add_left (by decide) _) hu64) (pv 1) (pv 2) (fun _ _ => rfl))) rfl)
      (pss_cons (ps_fldK (pv 0) (pe_lock (pe_dc (own := [("key", 2), ("text", 3)]) (g := gTup K 2 (gCons (gName 2) (gCons (gName 3) gNil))) (tt := tYes) rfl sc.nd (pi_items (pe_fld (pv 0) rfl))
          (blkOk_by (N := Nprj) (sc := defScope m_Project___init__) (by decide +kernel)) (fun _ _ _ _ _ => pg_tup rfl (pgs_cons (pg_name (i := 2) sc.nd rfl (Or.inl rfl)) (pgs_cons (pg_name (i := 3) sc.nd rfl (Or.inl rfl)) pgs_nil))) (fun _ _ _ _ _ => pts_nil) (fun _ _ _ _ _ => pv 2)
          (fun _ _ _ _ _ => pe_make T.mk_Facts G_facts hr rfl T.g_Facts b_facts .nil pass0 (pa_cons (pv 2) (pa_cons (pv 3) pa_nil))))) rfl)
      (pss_cons (ps_fldK (pv 0) (pe_make T.mk_Links G_links hr_links rfl T.g_Links b_links .nil pass0 (pa_cons (pe_fld (pv 0) rfl) pa_nil)) rfl)
      (pss_one (ps_if (pt_cmpR (op_neD hu64) (pe_fld (pe_fld (pv 0) rfl) rfl) (pe_lst pa_nil) (nomark _)) pss_dead pss_nil)))))), ?_⟩
    have nd : d ≠ a := fun z => by rw [z, ha] at hd; cases hd
    refine ⟨d, .dK (mnD l), hd, trivial, fun od => ?_⟩
    refine ⟨_, rfl, d, od, rfl, .inl ⟨mnD l, upd_same, for_it walk_keys (fun i σ' H' => (∃ v2 : Option V, σ' = [some (.ref a), some (.ref d), v2, none]) ∧ Keep d H H' ∧ H' d = some (.frz od (.dK (mnD l)))) ⟨⟨_, rfl⟩, keep_upd, upd_same⟩ (fun i σ' H' _ p => p.2.2) ?_ ?_⟩⟩
    · rintro i x σ1 H1 H1' hi ⟨⟨v2, rfl⟩, k1, e1⟩ ⟨rfl, k, v, hk, rfl⟩
      have hk2 : ∃ z : List Nat, kV k = .str (S z) ∧ isName z = true ∧ z.length ≤ 10000 := by
        have := List.mem_of_getElem? hk
        simp only [mnD, List.mem_cons, List.not_mem_nil, or_false, Prod.mk.injEq] at this
        rcases this with ⟨rfl, _⟩ | ⟨rfl, _⟩
        · exact ⟨[109], rfl, by decide +kernel, by decide⟩
        · exact ⟨[110], rfl, by decide +kernel, by decide⟩
      obtain ⟨z, ez, nz, lz⟩ := hk2
      rw [ez]
      refine ⟨_, rfl, z, rfl, lz, fun H2 S2 => ?_⟩
      rw [nz]
      refine ⟨_, rfl, ?_⟩
      exact iteF ⟨⟨_, rfl⟩, k1.trans (Keep.of S2), S2 _ _ e1⟩
    · rintro σ1 H1 ⟨⟨v2, rfl⟩, k1, e1⟩
      refine ⟨e1, ?_⟩
      have S1 : Same H (upd H1 d (.dK (mnD l))) := unlock_same k1 hd
      generalize upd H1 d (.dK (mnD l)) = H2 at S1 ⊢
      dsimp only
      refine ⟨_, rfl, d, mnD l, rfl, S1 _ _ hd, fun p hp => ?_⟩
      refine ⟨p, ([("m" : Str), ("n" : Str)] : List Str), rfl, SqL.of upd_same, (by decide), fun ys p2 pm so hp2 => ?_⟩
      have eys : ys = ([("m" : Str), ("n" : Str)] : List Str) := by
        rcases perm_two pm with e | e
        · exact e
        · rw [e] at so; exact absurd so (by decide +kernel)
      subst eys
      have S2 := same_new (o := .lst ((mnD l).map fun kv => kV kv.1)) hp
      have S3 := S2.trans (same_new (o := .lst (List.map V.str ([("m" : Str), ("n" : Str)] : List Str))) hp2)
      have ep2 : upd (upd H2 p (.lst ((mnD l).map fun kv => kV kv.1))) p2 (.lst (List.map V.str ([("m" : Str), ("n" : Str)] : List Str))) p2 = some (.lst [.str "m", .str "n"]) := upd_same
      clear hp2 so pm
      generalize upd (upd H2 p (.lst ((mnD l).map fun kv => kV kv.1))) p2 (.lst (List.map V.str ([("m" : Str), ("n" : Str)] : List Str))) = H3 at S3 ep2 ⊢
      refine ⟨p2, rfl, ⟨_, SqL.of ep2⟩, fun D hD => dc_it (walk_list (K := K) (a := p2) (xs := [.str "m", .str "n"])) (fun i H' => H' D = some (.dK ((mnD l).take i)) ∧ Same H3 H') ⟨upd_same, same_new hD⟩ (fun i H' _ p => SqL.of (p.2 _ _ ep2)) ?_ ?_⟩
      · rintro i x Ha Hb hi ⟨e, Sa⟩ ⟨rfl, hx⟩
        have hdb := Sa _ _ (S3 _ _ (S1 _ _ hd))
        have step : ∀ y z, y = km ∧ z = .str (S l) ∧ i = 0 ∨ y = kn ∧ z = .str (S []) ∧ i = 1 → valV (mnD l) y = some z ∧ putK ((mnD l).take i) y z = (mnD l).take (i + 1) := by
          rintro y z (⟨rfl, rfl, rfl⟩ | ⟨rfl, rfl, rfl⟩)
          · exact ⟨rfl, rfl⟩
          · exact ⟨rfl, rfl⟩
        have hy : ∃ y z, x = kV y ∧ (y = km ∧ z = V.str (S l) ∧ i = 0 ∨ y = kn ∧ z = V.str (S []) ∧ i = 1) := by
          match i, hi, hx with
          | 0, _, hx => cases hx; exact ⟨km, _, rfl, .inl ⟨rfl, rfl, rfl⟩⟩
          | 1, _, hx => cases hx; exact ⟨kn, _, rfl, .inr ⟨rfl, rfl, rfl⟩⟩
          | n + 2, hi, _ => exact absurd hi (by simp)
        obtain ⟨y, z, rfl, hyz⟩ := hy
        obtain ⟨s1, s2⟩ := step y z hyz
        refine ⟨rfl, yes_if ⟨_, rfl, _, rfl, _, rfl, d, z, rfl, .inl ⟨_, y, Rd.of hdb, rfl, s1.symm⟩, _, y, rfl, e, ?_, ?_⟩⟩
        · have : ((mnD l).take i).length ≤ 2 := by rw [List.length_take]; exact Nat.min_le_right _ _
          rw [sizeLine_eq]; omega
        · rw [s2]
          exact ⟨upd_same, fun b o eb => by rw [upd_ne (fun zb => by rw [zb, hD] at eb; cases eb)]; exact Sa _ _ eb⟩
      · rintro H4 ⟨e4, S4⟩
        replace e4 : H4 D = some (.dK (mnD l)) := e4
        have S14 := (S1.trans S3).trans S4
        have nD : D ≠ a := fun z => by rw [z, (S1.trans S3) _ _ ha] at hD; cases hD
        refine ⟨_, rfl, a, _, dx, [], rfl, S14 _ _ ha, c, na _ (by simp [fl_Project]), (by show 0 < 1000; decide), fun G0 k0 e0 => ?_⟩
        have gD := k0 _ _ nD e4
        have K0 : Keep a H G0 := (Keep.of S14).trans k0
        refine ⟨D, .dK (mnD l), gD, trivial, fun od2 => ?_⟩
        refine ⟨_, rfl, a, _, dx, _, .ref D, rfl, (by rw [upd_ne (Ne.symm nD)]; exact e0), c, na _ (by simp [fl_Project]), (by first | rfl | kernel_rfl), D, od2, mnD l, rfl, upd_same, fun D2 hD2 => ?_⟩
        have nDD : D2 ≠ D := fun z => by rw [z, upd_same] at hD2; cases hD2
        have gD2 : G0 D2 = none := by rw [upd_ne nDD] at hD2; exact hD2
        refine dc_it walk_items (fun i H' => ∃ fs : List Addr, fs.length = i ∧ H' D2 = some (.dK ([km, kn].zip (fs.map V.ref))) ∧ (∀ f ∈ fs, Fct K H' f) ∧ Keep D G0 H' ∧ H' D = some (.frz od2 (.dK (mnD l)))) ⟨[], rfl, upd_same, (fun f hf => by cases hf), ?_, ?_⟩ (fun i H' _ p => let ⟨_, _, _, _, _, e⟩ := p; e) ?_ ?_
        · exact fun b o nb e => by rw [upd_ne (ne_of_none e gD2), upd_ne nb]; exact e
        · rw [upd_ne (Ne.symm nDD), upd_same]
        · rintro i x Ha Hb hi ⟨fs, hf, eD2, hF, kk, eD⟩ ⟨t, x1, y1, rfl, ht, rfl, h1, h2⟩
          have hy : ∃ (y : Key) (zl : List Nat), x1 = kV y ∧ y1 = .str (S zl) ∧ zl.length ≤ 5000 ∧ AllBl zl ∧ ∀ p : Addr, putK ([km, kn].zip (fs.map V.ref)) y (.ref p) = [km, kn].zip ((fs ++ [p]).map V.ref) := by
            match i, hi, h1, h2, fs, hf with
            | 0, _, h1, h2, [], _ => cases h1; cases h2; exact ⟨km, l, rfl, rfl, hl, hb, fun _ => rfl⟩
            | 1, _, h1, h2, [f1], _ => cases h1; cases h2; exact ⟨kn, [], rfl, rfl, (by decide), rfl, fun _ => rfl⟩
            | n + 2, hi, _, _, _, _ => exact absurd hi (by simp [mnD])
          obtain ⟨y, zl, rfl, rfl, hzl, hzb, hput⟩ := hy
          have Sn := same_new (o := .tup [kV y, .str (S zl)]) ht
          refine ⟨t, _, rfl, SqT.of upd_same, rfl, _, _, rfl, _, _, rfl, rfl, rfl, yes_if ⟨_, rfl, _, rfl, _, rfl, fun p px hp hpx hne => ⟨p, px, _, zl, rfl, upd_same, hzl, hzb, fun H5 k5 F5 F5' => ⟨rfl, ?_⟩⟩⟩⟩
          have SH5 : Same Ha H5 := fun b o e => k5 b o (ne_of_none (Sn _ _ e) hp) (by rw [upd_ne (ne_of_none (Sn _ _ e) hp), upd_ne (ne_of_none (Sn _ _ e) hpx)]; exact Sn _ _ e)
          refine ⟨_, y, rfl, SH5 _ _ eD2, ?_, fs ++ [p], ?_, ?_, ?_, ?_, ?_⟩
          · rw [sizeLine_eq, List.length_zip]; have := Nat.min_le_left [km, kn].length (fs.map V.ref).length; simp only [List.length_cons, List.length_nil] at this ⊢; omega
          · rw [List.length_append, hf]; rfl
          · rw [upd_same, hput]
          · intro f hf2
            rw [List.mem_append, List.mem_singleton] at hf2
            rcases hf2 with hf2 | rfl
            · refine ((hF f hf2).same SH5).keep keep_upd (SH5 _ _ eD2) ?_
              match fs, hf2 with
              | f1 :: fs, _ => exact fun z => by cases z
            · exact F5' D2 _ _ (by rw [upd_ne (ne_of_none (Sn _ _ eD2) hp), upd_ne (ne_of_none (Sn _ _ eD2) hpx)]; exact Sn _ _ eD2)
          · exact fun b o nb e => by rw [upd_ne (ne_of_none e gD2)]; exact SH5 _ _ (kk b o nb e)
          · rw [upd_ne (Ne.symm nDD)]; exact SH5 _ _ eD
        · rintro H5 ⟨fs, hf, eD2, hF, kk, eD⟩
          refine ⟨eD, ?_⟩
          have S6 : Same G0 (upd H5 D (.dK (mnD l))) := unlock_same kk gD
          have e6D : upd H5 D (.dK (mnD l)) D = some (.dK (mnD l)) := upd_same
          have e6D2 : upd H5 D (.dK (mnD l)) D2 = some _ := (upd_ne nDD).trans eD2
          have hF6 : ∀ f ∈ fs, Fct K (upd H5 D (.dK (mnD l))) f := fun f hf => (hF f hf).keepO keep_upd eD (fun _ z => by cases z) (fun _ _ _ _ z => by cases z) (fun z => by cases z)
          generalize upd H5 D (.dK (mnD l)) = H6 at S6 e6D e6D2 hF6 ⊢
          have nD2 : D2 ≠ a := fun z => by rw [z, e0] at gD2; cases gD2
          refine ⟨_, rfl, a, _, dx, _, rfl, S6 _ _ e0, c, na _ (by simp [fl_Project]), (by show 1 < 1000; decide), fun G1 k1' e1' => ?_⟩
          have hF1 : ∀ f ∈ fs, Fct K G1 f := fun f hf => (hF6 f hf).keepO k1' (S6 _ _ e0) (fun _ z => by cases z) (fun _ _ fs' hfs' z => by cases z; exact absurd (show 4 ≤ 1 from hfs') (by decide)) (fun z => by cases z)
          have g1D2 := k1' _ _ nD2 e6D2
          have g1D := k1' _ _ nD e6D
          refine ⟨_, rfl, a, _, dx, _, .ref D2, rfl, e1', c, na _ (by simp [fl_Project]), (by first | rfl | kernel_rfl), fun lk lx hlk hlx hne => ⟨lk, lx, D2, _, rfl, upd_same, (by rw [upd_ne (ne_of_none g1D2 hlk), upd_ne (ne_of_none g1D2 hlx)]; exact g1D2), ?_, fun H7 k7 L7 => ⟨rfl, ?_⟩⟩⟩
          · intro i k x hix
            have hx := List.mem_of_getElem? hix
            obtain ⟨f, hf1, rfl⟩ := List.mem_map.mp (List.of_mem_zip hx).2
            exact ⟨f, rfl, (hF1 f hf1).same fun b o e => by rw [upd_ne (ne_of_none e hlk), upd_ne (ne_of_none e hlx)]; exact e⟩
          · have S7 : Same G1 H7 := fun b o e => k7 b o (ne_of_none e hlk) (by rw [upd_ne (ne_of_none e hlk), upd_ne (ne_of_none e hlx)]; exact e)
            have nlk : lk ≠ a := fun z => by rw [z, e1'] at hlk; cases hlk
            obtain ⟨ldx, fc, br, pa, pl, us, op, bg, me, ba, kvs, hla, hlf, _, hbr, _⟩ := L7
            have e7 := S7 _ _ e1'
            have nbr : br ≠ a := fun z => by rw [z, e7] at hbr; cases hbr
            refine ⟨_, rfl, a, _, dx, _, rfl, e7, c, na _ (by simp [fl_Project]), (by show 2 < 1000; decide), fun G2 k2 e2 => ?_⟩
            refine ⟨_, rfl, a, _, dx, _, .ref lk, rfl, e2, c, na _ (by simp [fl_Project]), (by first | rfl | kernel_rfl), lk, _, ldx, _, .ref br, rfl, k2 _ _ nlk hla, T.k_Links, T.na_Links _ (by simp [fl_Links]), (by first | rfl | kernel_rfl), (by show 0 ≤ sizeLine; decide), fun b hb' => ?_⟩
            have S8 := same_new (o := .lst []) hb'
            refine ⟨.list [], .list [], Dp.lst (SqL.of (S8 _ _ (k2 _ _ nbr hbr))) DpAll.nil, Dp.lst (SqL.of upd_same) DpAll.nil, rfl, rfl, _, rfl, ?_⟩
            refine iteF ?_
            refine q _ ?_ ⟨dx, D, D2, lk, ?_, ?_⟩
            · exact (K0.trans ((Keep.of S6).trans (k1'.trans ((Keep.of S7).trans (k2.trans (Keep.of S8))))))
            · rw [S8 _ _ e2]; first | rfl | kernel_rfl
            · exact S8 _ _ (k2 _ _ nD (S7 _ _ g1D))
end
end K14

set_option Elab.async false
set_option linter.all false
set_option maxRecDepth 100000
set_option maxHeartbeats 4000000
set_option pp.maxSteps 1500
set_option pp.deepTerms false
namespace K14
open PySem PySem.Spec PyProof.Rows L2 He KH PySem.KX Lex
open PySem.W (Frag)
section
variable {w : World} {K : Frag} {mg : Str → Option Value} {base : Heap}
theorem Prj.same {H H' : Hp} {a : Addr} {l : List Nat} (h : Prj K H a l) (S1 : Same H H') : Prj K H' a l := let ⟨dx, ot, f, o, e1, e2⟩ := h; ⟨dx, ot, f, o, S1 _ _ e1, S1 _ _ e2⟩
def spMods (K : Frag) : Sp := fun vs H Q _ => ∃ (a : Addr) (l : List Nat), vs = [.ref a] ∧ Prj K H a l ∧ ∀ p H', Same H H' → H' p = some (.dK (mnD l)) → Q (.ref p) H'
theorem sc_mods : FnScope ["self"] ["self"] (defScope m_Project_modules) := ⟨rfl, rfl, rfl, by decide +kernel, rfl, by decide +kernel, by decide +kernel⟩
theorem ok_mods {f : Addr} {fd : FuncData} (F : Fun K "modules" "Project.modules" m_Project_modules f fd) (T : Txt K mg) : FnOk P w K mg base CX0 1 f fd ["self"] (spMods K) := by
  refine F.ok sc_mods (fun vs H Q E h => ?_) (fun cdv A outer s H vs Q E hr h => ?_)
  · obtain ⟨a, l, rfl, _⟩ := h
    rfl
  · obtain ⟨a, l, rfl, ⟨dx, ot, f, o, e1, e2⟩, q⟩ := h
    refine ⟨_, (pss_one (ps_ret (pe_callTy call_dictD rfl T.n_dict (by decide +kernel) (pa_cons (pe_fld (pv 0) rfl) pa_nil)))), ?_⟩
    refine ⟨_, rfl, a, _, dx, _, .ref ot, rfl, e1, T.k_Project, T.na_Project _ (by simp [fl_Project]), (by first | rfl | kernel_rfl), ?_⟩
    exact ⟨ot, _, rfl, Rd.of e2, fun p hp => q p _ (same_new hp) upd_same⟩
def spText (K : Frag) : Sp := fun vs H Q _ => ∃ (a : Addr) (l : List Nat) (z : Str) (v : V), vs = [.ref a, .str z] ∧ Prj K H a l ∧ valV (mnD l) (.inr z) = some v ∧ Q v H
theorem sc_text : FnScope ["self", "module"] ["self", "module"] (defScope m_Project_text_of) := ⟨rfl, rfl, rfl, by decide +kernel, rfl, by decide +kernel, by decide +kernel⟩
theorem ok_text {f : Addr} {fd : FuncData} (F : Fun K "text_of" "Project.text_of" m_Project_text_of f fd) (T : Txt K mg) : FnOk P w K mg base CX0 1 f fd ["self", "module"] (spText K) := by
  refine F.ok sc_text (fun vs H Q E h => ?_) (fun cdv A outer s H vs Q E hr h => ?_)
  · obtain ⟨a, l, z, v, rfl, _⟩ := h
    rfl
  · obtain ⟨a, l, z, v, rfl, ⟨dx, ot, f, o, e1, e2⟩, hv, q⟩ := h
    have hu64 := hr.units
    refine ⟨_, (pss_cons (ps_if (PW.pt (pw_or (pt_not (pt_val (pe_callB call_isi rfl T.n_isinstance (by decide +kernel) (pa_cons (pv 1) (pa_cons (pe_bltn (v := .ty "str") (u := .type "str") rfl T.n_str (by decide +kernel) rfl) pa_nil))))) (pw_or1 (pt_cmp (pc_dnotin (Nat.lt_of_le_of_lt (Nat.add_le_add_left (by decide) _) hu64) (pv 1) (pe_fld (pv 0) rfl)))))) pss_dead pss_nil)
      (pss_one (ps_ret (pe_dget (Nat.lt_of_le_of_lt (Nat.add_le_add_left (by decide) _) hu64) (pe_fld (pv 0) rfl) (pv 1) (fun _ _ => rfl))))), ?_⟩
    refine ⟨_, rfl, _, _, .type "str", .type "str", true, rfl, .ty "str", .base (.str _), kit_ty (by decide +kernel), _, rfl, ?_⟩
    refine iteF ?_
    refine ⟨_, rfl, _, rfl, a, _, dx, _, .ref ot, rfl, e1, T.k_Project, T.na_Project _ (by simp [fl_Project]), (by first | rfl | kernel_rfl), ot, some v, rfl, .inl ⟨_, .inr z, Rd.of e2, rfl, hv.symm⟩, _, rfl, ?_⟩
    refine iteF ?_
    exact ⟨_, rfl, a, _, dx, _, .ref ot, rfl, e1, T.k_Project, T.na_Project _ (by simp [fl_Project]), (by first | rfl | kernel_rfl), _, rfl, ot, v, rfl, .inl ⟨_, .inr z, Rd.of e2, rfl, hv.symm⟩, q⟩
end
end K14

set_option Elab.async false
set_option linter.all false
set_option maxRecDepth 100000
set_option maxHeartbeats 4000000
/-! A chain of three comparisons as a test. -/
namespace L2
open PySem PySem.Spec PyProof.Rows
section
variable {X : Cx} {a b c d : Expr} {ta tb tc td : TE} {pos : Pos}
def tChain3 (r r' r2 : R2) (ta tb tc td : TE) : TE := fun σ H Q => ta σ H fun x H1 => tb σ H1 fun y H2 => r x y H2 fun z H3 => ∃ k, z = .bl k ∧
  (if k = true then tc σ H3 fun w' H4 => r' y w' H4 fun z2 H5 => ∃ k2, z2 = .bl k2 ∧ (if k2 = true then td σ H5 fun w2 H6 => r2 w' w2 H6 Q else Q (.bl false) H5) else Q (.bl false) H3)
theorem pt_chain3 {op op' op2 : CmpOp} {r r' r2 : R2} (ho : OpR X (compareOp op) r) (ho' : OpR X (compareOp op') r') (ho2 : OpR X (compareOp op2) r2) (ha : PE X a ta) (hb : PE X b tb) (hc : PE X c tc) (hd : PE X d td)
    (hm : lastMarks [op, op', op2] [b, c, d] = false := by with_unfolding_all rfl) : PT X (.Compare a [op, op', op2] [b, c, d] pos) (tTest (tChain3 r r' r2 ta tb tc td)) := by
  refine ⟨fun pins s σ H Q I h => ?_⟩
  refine isTrue_chain (thn (ha.run pins s σ H _ I h) fun v s1 ⟨x, H1, I1, r1, q1⟩ => test_link (thn (hb.run pins s1 σ H1 _ I1 q1) fun u s2 ⟨y, H2, I2, r2, q2⟩ =>
    thn (ho pins s2 σ H2 x y v u _ I2 r1 r2 q2) fun d s3 ⟨z, H3, I3, r3, k, e, q3⟩ => ?_)) hm
  subst e
  cases r3
  refine wpAny_truthy_bool ?_
  cases k with
  | false =>
    obtain ⟨k', e', q'⟩ := q3
    cases e'
    exact ite_ff ⟨H3, I3, q'⟩
  | true =>
    refine ite_tt (test_link (thn (hc.run pins s3 σ H3 _ I3 q3) fun w' s4 ⟨z', H4, I4, r4, q4⟩ => thn (ho' pins s4 σ H4 y z' u w' _ I4 r2 r4 q4) fun d' s5 ⟨z2, H5, I5, r5, k2, e2, q5⟩ => ?_))
    subst e2
    cases r5
    refine wpAny_truthy_bool ?_
    cases k2 with
    | false =>
      obtain ⟨k', e', q'⟩ := q5
      cases e'
      exact ite_ff ⟨H5, I5, q'⟩
    | true =>
      refine ite_tt (test_last (thn (hd.run pins s5 σ H5 _ I5 q5) fun w2 s6 ⟨z6, H6, I6, r6, q6⟩ => thn (ho2 pins s6 σ H6 z' z6 w' w2 _ I6 r4 r6 q6) fun d6 s7 ⟨z7, H7, I7, r7, k7, e7, q7⟩ => ?_))
      subst e7
      cases r7
      exact wpAny_truthy_bool ⟨H7, I7, q7⟩
end
end L2

set_option Elab.async false
set_option linter.all false
set_option maxRecDepth 100000
set_option maxHeartbeats 4000000
set_option pp.maxSteps 1500
set_option pp.deepTerms false
namespace K14
open PySem PySem.Spec PyProof.Rows L2 He KH PySem.KX Lex
open PySem.W (Frag)
abbrev Pc := Int × Int × List Nat
/-- the text with the pieces in it, from at on; none: they do not fit -/
def fits (t : List Nat) : Nat → List Nat → List Pc → Option (List Nat)
  | at_, f, [] => some (f ++ t.drop at_)
  | at_, f, (a, b, p) :: r => if (at_ : Int) ≤ a ∧ a ≤ b ∧ b ≤ t.length then fits t b.toNat (f ++ (t.drop at_).take (a.toNat - at_) ++ p) r else none
def resB (t t2 : List Nat) (ps : List Pc) : Bool := decide (fits t 0 [] ps = some t2)
theorem cutS_end {l : List Nat} {a : Nat} (ha : a ≤ l.length) : cutS (S l) (some (a : Int)) none = S (l.drop a) := by
  unfold cutS
  rw [HT.sIx_nat, S_list, S_len, Nat.min_eq_left ha]
  show S _ = S _
  congr 1
  exact List.take_of_length_le (by rw [List.length_drop]; exact Nat.le_refl _)
theorem ip_addS {X : Cx} : PIp X .Add (fun x y H Q => ∃ i j, x = .str i ∧ y = .str j ∧ i.length + j.length ≤ sizeLine ∧ Q (.str (i ++ j)) H) := fun pins s σ H x y v u Q I r1 r2 h => iop_add_str pins s σ H x y v u Q I r1 r2 h
section
variable {w : World} {K : Frag} {mg : Str → Option Value} {base : Heap}
def PcAt (H : Hp) (q : Addr × Pc) : Prop := H q.1 = some (.tup [.int q.2.1, .int q.2.2.1, .str (S q.2.2.2)])
theorem valV_mn (l : List Nat) (z : Str) : valV (mnD l) (.inr z) = if (("m" : Str) = z) then some (.str (S l)) else if (("n" : Str) = z) then some (.str (S [])) else none := by
  unfold valV mnD km kn
  by_cases h1 : (("m" : Str) = z)
  · rw [if_pos h1, List.find?_cons_of_pos (by simpa using h1)]; rfl
  · rw [if_neg h1, List.find?_cons_of_neg (by simpa using h1)]
    by_cases h2 : (("n" : Str) = z)
    · rw [if_pos h2, List.find?_cons_of_pos (by simpa using h2)]; rfl
    · rw [if_neg h2, List.find?_cons_of_neg (by simpa using h2)]; rfl
theorem valV_some {l : List Nat} {z : Str} {v : V} (h : valV (mnD l) (.inr z) = some v) (l' : List Nat) : (valV (mnD l') (.inr z)).isSome = true := by
  rw [valV_mn] at h ⊢
  by_cases h1 : (("m" : Str) = z)
  · rw [if_pos h1]; rfl
  · rw [if_neg h1] at h ⊢
    by_cases h2 : (("n" : Str) = z)
    · rw [if_pos h2]; rfl
    · rw [if_neg h2] at h; cases h
theorem kitAny_list : PySem.W.kitAny K (.type "list") [.type "list", .type "tuple"] = some true := by
  unfold PySem.W.kitAny
  rw [kit_ty (r := true) (by decide +kernel)]
inductive SL (K : Frag) (H : Hp) (l1 l2 : List Nat) : V → V → Bool → Prop
  | mod {mv pv : V} {t : Value} (h : TyX K H mv t) (k : PySem.W.kitOne K t (.type "str") = some false) : SL K H l1 l2 mv pv false
  | zz {z : Str} {pv : V} (h : ∀ l, valV (mnD l) (.inr z) = none) : SL K H l1 l2 (.str z) pv false
  | pno {z : Str} {pv : V} {t : Value} (hz : ∀ l, (valV (mnD l) (.inr z)).isSome = true) (h : ∀ H', Same H H' → TyX K H' pv t) (k : PySem.W.kitAny K t [.type "list", .type "tuple"] = some false) : SL K H l1 l2 (.str z) pv false
  | bad {z : Str} {p : Addr} {v : V} (hz : ∀ l, (valV (mnD l) (.inr z)).isSome = true) (hp : H p = some (.lst [v])) (h : ∀ H', Same H H' → Pce K H' v false) : SL K H l1 l2 (.str z) (.ref p) false
  | run {z : Str} {p : Addr} {t1 t2 : List Nat} {ps : List (Addr × Pc)} (h1 : valV (mnD l1) (.inr z) = some (.str (S t1))) (h2 : valV (mnD l2) (.inr z) = some (.str (S t2))) (hp : H p = some (.lst (ps.map fun q => .ref q.1))) (h : ∀ q ∈ ps, PcAt H q)
      (b1 : t1.length ≤ 5000) (b2 : ps.length ≤ 100) (b3 : ∀ q ∈ ps, q.2.2.2.length ≤ 100) : SL K H l1 l2 (.str z) (.ref p) (resB t1 t2 (ps.map (·.2)))
def spSame (K : Frag) : Sp := fun vs H Q _ => ∃ (o n : Addr) (l1 l2 : List Nat) (mv pv : V) (b : Bool), vs = [.ref o, .ref n, mv, pv] ∧ Prj K H o l1 ∧ Prj K H n l2 ∧ SL K H l1 l2 mv pv b ∧ ∀ H', Same H H' → Q (.bl b) H'
abbrev Nsm : List Str := ["old", "new", "module", "pieces", "text", "found", "at", "start", "end", "piece"]
theorem sc_same : FnScope Nsm ["old", "new", "module", "pieces"] (defScope s_same_layout) := ⟨rfl, rfl, rfl, by decide +kernel, rfl, by decide +kernel, by decide +kernel⟩
theorem ok_same {f : Addr} {fd : FuncData} (F : Fun K "same_layout" "same_layout" s_same_layout f fd) (T : Txt K mg) : FnOk P w K mg base CX0 4 f fd ["old", "new", "module", "pieces"] (spSame K) := by
  obtain ⟨fdM, F_mods⟩ := T.f_Project_modules
  obtain ⟨fdT, F_text⟩ := T.f_Project_text_of
  obtain ⟨fdP, F_piece⟩ := T.f_is_piece
  have G_mods : FnOk P w K mg base CX0 1 _ fdM ["self"] (spMods K) := ok_mods F_mods T
  have G_text : FnOk P w K mg base CX0 1 _ fdT ["self", "module"] (spText K) := ok_text F_text T
  have G_piece : FnOk P w K mg base CX0 2 _ fdP ["value"] (spPiece K) := ok_piece F_piece T
  have b_mods : Binds K fdM ["self"] [] := F_mods.binds fun _ _ _ _ _ _ us hl => match us, hl with | [_], _ => rfl
  have b_text : Binds K fdT ["self", "module"] [] := F_text.binds fun _ _ _ _ _ _ us hl => match us, hl with | [_, _], _ => rfl
  have b_piece : Binds K fdP ["value"] [] := F_piece.binds fun _ _ _ _ _ _ us hl => match us, hl with | [_], _ => rfl
  refine F.ok sc_same (fun vs H Q E h => ?_) (fun cdv A outer s H vs Q E hr h => ?_)
  · obtain ⟨o, n, l1, l2, mv, pv, b, rfl, _⟩ := h
    rfl
  · obtain ⟨o, n, l1, l2, mv, pv_, b, rfl, po, pn, sl, q⟩ := h
    have sc := sc_same
    have hu64 := hr.units
    have hr1 : Room 1 _ := hr.mono (by decide)
    have hr2 : Room 2 _ := hr.mono (by decide)
    have hu1 := Nat.lt_of_le_of_lt (Nat.add_le_add_left (show 1 ≤ 64 by decide) _) hu64
    refine ⟨_, (pss_cons (ps_if (PW.pt (pw_or (pt_not (pt_val (pe_callB call_isi rfl T.n_isinstance (by decide +kernel) (pa_cons (pv 2) (pa_cons (pe_bltn (v := .ty "str") (u := .type "str") rfl T.n_str (by decide +kernel) rfl) pa_nil)))))
          (pw_or (pt_cmp (pc_dnotin hu1 (pv 2) (pe_meth0 (pv 0) T.k_Project (T.me_Project "modules" (by simp [ms_Project])) G_mods hr1 b_mods .nil pass0)))
          (pw_or1 (pt_cmp (pc_dnotin hu1 (pv 2) (pe_meth0 (pv 1) T.k_Project (T.me_Project "modules" (by simp [ms_Project])) G_mods hr1 b_mods .nil pass0)))))))
        (pss_one (ps_ret pe_bl)) pss_nil)
      (pss_cons (ps_if (PW.pt (pw_or (pt_not (pt_val (pe_callB call_isiT rfl T.n_isinstance (by decide +kernel) (pa_cons (pv 3) (pa_cons (pe_tup (pa_cons (pe_bltn (v := .ty "list") (u := .type "list") rfl T.n_list (by decide +kernel) rfl) (pa_cons (pe_bltn (v := .ty "tuple") (u := .type "tuple") rfl T.n_tuple (by decide +kernel) rfl) pa_nil))) pa_nil)))))
          (pw_or1 (pt_not (pt_val (pe_callB (cr_all rfl) rfl T.n_all (by decide +kernel) (pa_cons (pe_lc (own := [("piece", 9)]) (g := gName 9) (tt := tYes) rfl sc.nd (pi_list (pv 3)) (blkOk_by (N := Nsm) (sc := defScope s_same_layout) (by decide +kernel)) (fun _ _ _ _ _ => pg_name (i := 9) sc.nd rfl (Or.inl rfl)) (fun _ _ _ _ _ => pts_nil)
            (fun _ _ _ _ _ => pe_call G_piece hr2 rfl T.g_is_piece F_piece.kp b_piece .nil pass0 (pa_cons (pv 9) pa_nil))) pa_nil)))))))
        (pss_one (ps_ret pe_bl)) pss_nil)
      (pss_cons (ps_par3 (i := 4) (j := 5) (l := 6) rfl sc.nd rfl rfl rfl (by decide) (by decide) (by decide) rfl rfl rfl (pa_cons (pe_meth (pv 0) T.k_Project (T.me_Project "text_of" (by simp [ms_Project])) G_text hr1 b_text .nil pass0 (pa_cons (pv 2) pa_nil)) (pa_cons pe_str (pa_cons pe_int pa_nil))) rfl)
      (pss_cons (ps_for PassesOwn.never rfl (pi_list (pv 3)) (pg_tup rfl (pgs_cons (pg_name (i := 7) sc.nd rfl (Or.inl rfl)) (pgs_cons (pg_name (i := 8) sc.nd rfl (Or.inl rfl)) (pgs_cons (pg_name (i := 9) sc.nd rfl (Or.inl rfl)) pgs_nil))))
        (pss_cons (ps_if (pt_not (pt_chain3 op_le op_le op_le (pv 6) (pv 7) (pv 8) (pe_callB call_len_str rfl T.n_len (by decide +kernel) (pa_cons (pv 4) pa_nil)))) (pss_one (ps_ret pe_bl)) pss_nil)
        (pss_cons (ps_aug (i := 5) sc.nd rfl (Or.inl rfl) (pe_op op_add_str (pe_slice sl_str (pv 4) (po_some (pv 6)) (po_some (pv 7))) (pv 9)) ip_addS)
        (pss_one (ps_set (i := 6) sc.nd rfl (Or.inl rfl) (pv 8))))))
      (pss_one (ps_ret (pe_cmpR op_eq (pe_op op_add_str (pv 5) (pe_slice sl_str (pv 4) (po_some (pv 6)) po_none)) (pe_meth (pv 1) T.k_Project (T.me_Project "text_of" (by simp [ms_Project])) G_text hr1 b_text .nil pass0 (pa_cons (pv 2) pa_nil)) (nomark _)))))))), ?_⟩
    have key : (∃ t, TyX K H mv t ∧ PySem.W.kitOne K t (.type "str") = some false ∧ b = false) ∨ (∃ z : Str, mv = .str z ∧ (∀ l, valV (mnD l) (.inr z) = none) ∧ b = false) ∨
        (∃ z : Str, mv = .str z ∧ (∀ l, (valV (mnD l) (.inr z)).isSome = true) ∧ ((∃ t, (∀ H', Same H H' → TyX K H' pv_ t) ∧ PySem.W.kitAny K t [.type "list", .type "tuple"] = some false ∧ b = false) ∨ (∃ p v, pv_ = .ref p ∧ H p = some (.lst [v]) ∧ (∀ H', Same H H' → Pce K H' v false) ∧ b = false) ∨
          (∃ (p : Addr) (t1 t2 : List Nat) (ps : List (Addr × Pc)), pv_ = .ref p ∧ valV (mnD l1) (.inr z) = some (.str (S t1)) ∧ valV (mnD l2) (.inr z) = some (.str (S t2)) ∧ H p = some (.lst (ps.map fun q => .ref q.1)) ∧ (∀ q ∈ ps, PcAt H q) ∧ t1.length ≤ 5000 ∧ ps.length ≤ 100 ∧ (∀ q ∈ ps, q.2.2.2.length ≤ 100) ∧ b = resB t1 t2 (ps.map (·.2))))) := by
      cases sl with
      | mod h k => exact .inl ⟨_, h, k, rfl⟩
      | zz h => exact .inr (.inl ⟨_, rfl, h, rfl⟩)
      | pno hz h k => exact .inr (.inr ⟨_, rfl, hz, .inl ⟨_, h, k, rfl⟩⟩)
      | bad hz hp h => exact .inr (.inr ⟨_, rfl, hz, .inr (.inl ⟨_, _, rfl, hp, h, rfl⟩)⟩)
      | run h1 h2 hp h b1 b2 b3 =>
        refine .inr (.inr ⟨_, rfl, fun l => ?_, .inr (.inr ⟨_, _, _, _, rfl, h1, h2, hp, h, b1, b2, b3, rfl⟩)⟩)
        exact valV_some h1 l
    clear sl
    rcases key with ⟨t, h, k, rfl⟩ | ⟨z, rfl, h, rfl⟩ | ⟨z, rfl, hz, rest⟩
    · refine ⟨_, rfl, _, _, t, .type "str", false, rfl, .ty "str", h, k, _, rfl, ?_⟩
      exact iteT (q _ (Same.refl H))
    · refine ⟨_, rfl, _, _, .type "str", .type "str", true, rfl, .ty "str", .base (.str _), kit_ty (by decide +kernel), _, rfl, ?_⟩
      refine iteF ?_
      obtain ⟨dx, ot, f, o', e1, e2⟩ := po
      refine ⟨_, rfl, _, rfl, o, dx, _, rfl, e1, (by first | rfl | kernel_rfl), o, l1, rfl, ⟨dx, ot, f, o', e1, e2⟩, fun p H1 S1 ep => ?_⟩
      refine ⟨p, none, rfl, .inl ⟨_, .inr z, Rd.of ep, rfl, (h l1).symm⟩, _, rfl, ?_⟩
      exact iteT (q _ S1)
    · refine ⟨_, rfl, _, _, .type "str", .type "str", true, rfl, .ty "str", .base (.str _), kit_ty (by decide +kernel), _, rfl, ?_⟩
      refine iteF ?_
      obtain ⟨dx, ot, f, o', e1, e2⟩ := po
      obtain ⟨dx2, ot2, f2, o2, e3, g4⟩ := pn
      obtain ⟨v1, hv1⟩ := Option.isSome_iff_exists.mp (hz l1)
      obtain ⟨v2, hv2⟩ := Option.isSome_iff_exists.mp (hz l2)
      refine ⟨_, rfl, _, rfl, o, dx, _, rfl, e1, (by first | rfl | kernel_rfl), o, l1, rfl, ⟨dx, ot, f, o', e1, e2⟩, fun p1 H1 S1 ep => ?_⟩
      refine ⟨p1, some v1, rfl, .inl ⟨_, .inr z, Rd.of ep, rfl, hv1.symm⟩, _, rfl, ?_⟩
      refine iteF ?_
      refine ⟨_, rfl, _, rfl, n, dx2, _, rfl, S1 _ _ e3, (by first | rfl | kernel_rfl), n, l2, rfl, ⟨dx2, ot2, f2, o2, S1 _ _ e3, S1 _ _ g4⟩, fun p2 H2 S2 ep2 => ?_⟩
      refine ⟨p2, some v2, rfl, .inl ⟨_, .inr z, Rd.of ep2, rfl, hv2.symm⟩, _, rfl, ?_⟩
      refine iteF ?_
      have S12 := S1.trans S2
      refine ⟨_, rfl, (by show 2 ≤ sizeLine; decide), fun tp htp => ?_⟩
      have S3 := S12.trans (same_new (o := .tup [.ty "list", .ty "tuple"]) htp)
      have etp : upd H2 tp (.tup [.ty "list", .ty "tuple"]) tp = some (.tup [.ty "list", .ty "tuple"]) := upd_same
      generalize upd H2 tp (.tup [.ty "list", .ty "tuple"]) = H3 at S3 etp ⊢
      have hcs : Paired ClsV [.ty "list", .ty "tuple"] [.type "list", .type "tuple"] := .cons (.ty _) (.cons (.ty _) .nil)
      rcases rest with ⟨t, h, k, rfl⟩ | rest
      · refine ⟨_, tp, _, t, _, false, rfl, etp, hcs, h _ S3, k, _, rfl, ?_⟩
        exact iteT (q _ S3)
      · have hlst : ∃ p xs, pv_ = .ref p ∧ H p = some (.lst xs) := by
          rcases rest with ⟨p, v, rfl, hp, _⟩ | ⟨p, t1, t2, ps, rfl, _, _, hp, _⟩
          · exact ⟨p, _, rfl, hp⟩
          · exact ⟨p, _, rfl, hp⟩
        obtain ⟨p, xs, rfl, hp⟩ := hlst
        have hp3 := S3 _ _ hp
        refine ⟨_, tp, _, .type "list", _, true, rfl, etp, hcs, .base (.lst hp3), kitAny_list, _, rfl, ?_⟩
        refine iteF ?_
        have hbs : ∃ bs : List Bool, bs.length = xs.length ∧ xs.length ≤ 100 ∧ (∀ (i : Nat) (v : V), xs[i]? = some v → ∃ b, bs[i]? = some b ∧ ∀ H', Same H H' → Pce K H' v b) ∧ ((bs.all id = false ∧ b = false) ∨ (bs.all id = true ∧
            ∃ (t1 t2 : List Nat) (ps : List (Addr × Pc)), valV (mnD l1) (.inr z) = some (.str (S t1)) ∧ valV (mnD l2) (.inr z) = some (.str (S t2)) ∧ xs = ps.map (fun q => .ref q.1) ∧ (∀ q ∈ ps, PcAt H q) ∧ t1.length ≤ 5000 ∧ ps.length ≤ 100 ∧ (∀ q ∈ ps, q.2.2.2.length ≤ 100) ∧ b = resB t1 t2 (ps.map (·.2)))) := by
          rcases rest with ⟨p', v, e, hp', h, hb⟩ | ⟨p', t1, t2, ps, e, a1, a2, hp', h, a3, a4, a5, a6⟩
          · cases e; rw [hp] at hp'; cases hp'
            refine ⟨[false], rfl, (by show 1 ≤ 100; decide), fun i v' hi => ?_, .inl ⟨rfl, hb⟩⟩
            match i, hi with
            | 0, hi => cases hi; exact ⟨false, rfl, h⟩
          · cases e; rw [hp] at hp'; cases hp'
            refine ⟨ps.map fun _ => true, by simp, (by rw [List.length_map]; exact a4), fun i v hi => ?_, .inr ⟨by simp, t1, t2, ps, a1, a2, rfl, h, a3, a4, a5, a6⟩⟩
            rw [List.getElem?_map, Option.map_eq_some_iff] at hi
            obtain ⟨q', hq', rfl⟩ := hi
            refine ⟨true, by rw [List.getElem?_map, hq']; rfl, fun H' S' => ?_⟩
            exact Pce.ok (i := true) (j := true) (S' _ _ (h q' (List.mem_of_getElem? hq'))) (.int _) (.int _)
        clear rest
        obtain ⟨bs, hbl, hxl, hbs, rest⟩ := hbs
        refine ⟨_, rfl, p, rfl, ⟨_, SqL.of hp3⟩, fun D hD => lc_it (walk_list (K := K) (a := p) (xs := xs)) (fun i H' => H' D = some (.lst ((bs.take i).map V.bl)) ∧ Same H3 H') ⟨upd_same, same_new hD⟩ (fun i H' _ h => SqL.of (h.2 _ _ hp3)) ?_ ?_⟩
        · rintro i x Ha Hb hi ⟨ea, Sa⟩ ⟨rfl, hx⟩
          obtain ⟨b1, hb1, hb2⟩ := hbs i x hx
          refine ⟨rfl, yes_if ⟨_, rfl, x, b1, rfl, hb2 _ (S3.trans Sa), fun Hc Sc => ⟨_, Sc _ _ ea, ?_, ?_, ?_⟩⟩⟩
          · rw [List.length_map, List.length_take, sizeLine_eq]; omega
          · rw [upd_same, List.take_add_one, hb1, List.map_append]; rfl
          · exact fun b o eb => by rw [upd_ne (fun zb => by rw [zb, hD] at eb; cases eb)]; exact Sc _ _ (Sa _ _ eb)
        · rintro H4 ⟨e4, S4⟩
          rw [← hbl, List.take_length] at e4
          have S5 := S3.trans S4
          refine ⟨D, bs, rfl, SqL.of e4, _, rfl, ?_⟩
          rcases rest with ⟨hall, rfl⟩ | ⟨hall, t1, t2, ps, a1, a2, rfl, hps, a3, a4, a5, rfl⟩
          · rw [hall]
            exact iteT (q _ S5)
          · rw [hall]
            refine iteF ?_
            refine ⟨_, rfl, o, dx, _, rfl, S5 _ _ e1, (by first | rfl | kernel_rfl), _, rfl, o, l1, z, _, rfl, ⟨dx, ot, f, o', S5 _ _ e1, S5 _ _ e2⟩, a1, _, _, _, rfl, ?_⟩
            refine ⟨_, rfl, p, rfl, ⟨_, SqL.of (S5 _ _ hp)⟩, for_list (K := K) (a := p) (xs := ps.map fun q => .ref q.1) (fun i σ' H' => ∃ (at_ : Nat) (fd : List Nat) (v7 v8 v9 : Option V), σ' = [some (.ref o), some (.ref n), some (.str z), some (.ref p), some (.str (S t1)), some (.str (S fd)), some (.int (at_ : Int)), v7, v8, v9] ∧ at_ ≤ t1.length ∧ fd.length ≤ at_ + 100 * i ∧ fits t1 0 [] (ps.map (·.2)) = fits t1 at_ fd ((ps.drop i).map (·.2)) ∧ Same H4 H') ⟨0, [], _, _, _, rfl, Nat.zero_le _, Nat.zero_le _, rfl, Same.refl _⟩ (fun i σ' H' _ h => let ⟨_, _, _, _, _, _, _, _, _, S6⟩ := h; SqL.of (S6 _ _ (S5 _ _ hp))) ?_ ?_⟩
            · rintro i x σ' H6 hi ⟨at_, fd, v7, v8, v9, rfl, c1, c2, c3, S6⟩
              rw [List.getElem?_map, Option.map_eq_some_iff] at hi
              obtain ⟨⟨t, a, b, pp⟩, hq', rfl⟩ := hi
              have hm := List.mem_of_getElem? hq'
              have il : i < ps.length := by
                rcases Nat.lt_or_ge i ps.length with h | h
                · exact h
                · rw [List.getElem?_eq_none h] at hq'; cases hq'
              have ht : H6 t = some _ := S6 _ _ (S5 _ _ (hps _ hm))
              have lp := a5 _ hm
              have hdrop : ps.drop i = (t, a, b, pp) :: ps.drop (i + 1) := by
                rw [List.drop_eq_getElem_cons il]
                congr 1
                rw [List.getElem?_eq_getElem il] at hq'
                exact Option.some.inj hq'
              refine ⟨t, _, rfl, SqT.of ht, rfl, _, _, rfl, _, _, rfl, _, _, rfl, rfl, ?_⟩
              have rno : ¬((at_ : Int) ≤ a ∧ a ≤ b ∧ b ≤ (t1.length : Int)) → Q (.bl false) H6 := fun hn => by
                have e : resB t1 t2 (ps.map (·.2)) = false := by
                  unfold resB
                  rw [c3, hdrop, List.map_cons]
                  show decide (fits t1 at_ fd ((a, b, pp) :: _) = some t2) = false
                  unfold fits
                  rw [if_neg hn]
                  exact decide_eq_false (fun z => by cases z)
                have h := q H6 (S5.trans S6)
                rw [e] at h
                exact h
              refine ⟨_, rfl, _, rfl, _, _, rfl, rfl, _, rfl, ?_⟩
              refine ite2 (fun d1 => ?_) (fun d1 => ?_)
              · refine ⟨_, rfl, _, _, rfl, rfl, _, rfl, ?_⟩
                refine ite2 (fun d2 => ?_) (fun d2 => ?_)
                · refine ⟨_, rfl, _, rfl, (by rw [S_len, sizeLine_eq]; omega), _, _, rfl, rfl, _, rfl, ?_⟩
                  rw [S_len]
                  refine ite2 (fun d3 => ?_) (fun d3 => ?_)
                  · refine rno fun z => ?_
                    have d3 : ¬ b ≤ (t1.length : Int) := by simpa using d3
                    exact d3 z.2.2
                  · have d1' : (at_ : Int) ≤ a := of_decide_eq_true d1
                    have d2' : a ≤ b := of_decide_eq_true d2
                    have d3' : b ≤ (t1.length : Int) := by simpa using d3
                    obtain ⟨a', rfl⟩ := Int.eq_ofNat_of_zero_le (show 0 ≤ a by omega)
                    obtain ⟨b', rfl⟩ := Int.eq_ofNat_of_zero_le (show 0 ≤ b by omega)
                    refine ⟨_, rfl, _, rfl, _, rfl, _, rfl, _, rfl, _, rfl, _, rfl, (by rw [S_len, sizeLine_eq]; omega), ?_⟩
                    rw [cutS_S c1 (by omega)]
                    refine ⟨_, rfl, _, _, rfl, rfl, ?_, _, _, rfl, rfl, ?_, ?_⟩
                    · have lp : pp.length ≤ 100 := lp
                      show (S _).length + (S pp).length ≤ sizeLine
                      rw [S_len, S_len, sizeLine_eq, List.length_take, List.length_drop]; omega
                    · have lp : pp.length ≤ 100 := lp
                      show (S fd).length + (S _ ++ S pp).length ≤ sizeLine
                      rw [S_append, S_len, S_len, sizeLine_eq, List.length_append, List.length_take, List.length_drop]; omega
                    · refine ⟨_, rfl, b', fd ++ (t1.drop at_).take (a' - at_) ++ pp, some (.int (a' : Int)), some (.int (b' : Int)), some (.str (S pp)), ?_, by omega, ?_, ?_, S6⟩
                      · rw [List.append_assoc, ← S_append, ← S_append]; rfl
                      · have lp : pp.length ≤ 100 := lp
                        rw [List.length_append, List.length_append, List.length_take, List.length_drop]; omega
                      · rw [c3, hdrop, List.map_cons]
                        show fits t1 at_ fd (((a' : Int), (b' : Int), pp) :: _) = _
                        conv => lhs; unfold fits
                        rw [if_pos ⟨d1', d2', d3'⟩]
                        rfl
                · exact ⟨_, rfl, iteT (rno fun z => (show ¬ a ≤ b by simpa using d2) z.2.1)⟩
              · exact ⟨_, rfl, iteT (rno fun z => (show ¬ (at_ : Int) ≤ a by simpa using d1) z.1)⟩
            · rintro σ' H6 ⟨at_, fd, v7, v8, v9, rfl, c1, c2, c3, S6⟩
              rw [List.length_map] at c2 c3
              rw [List.drop_length] at c3
              refine ⟨_, rfl, _, rfl, _, rfl, _, rfl, _, rfl, (by rw [S_len, sizeLine_eq]; omega), ?_⟩
              rw [cutS_end c1]
              refine ⟨_, _, rfl, rfl, ?_, ?_⟩
              · rw [S_len, S_len, sizeLine_eq, List.length_drop]; omega
              · refine ⟨_, rfl, n, dx2, _, rfl, S6 _ _ (S5 _ _ e3), (by first | rfl | kernel_rfl), _, rfl, n, l2, z, _, rfl, ⟨dx2, ot2, f2, o2, S6 _ _ (S5 _ _ e3), S6 _ _ (S5 _ _ g4)⟩, a2, rfl, ?_⟩
                have e : resB t1 t2 (ps.map (·.2)) = decide (V.str (S fd ++ S (t1.drop at_)) = V.str (S t2)) := by
                  unfold resB
                  rw [c3, S_append]
                  show decide (some (fd ++ t1.drop at_) = some t2) = _
                  by_cases h : fd ++ t1.drop at_ = t2
                  · rw [h]; simp
                  · rw [decide_eq_false (fun z => h (Option.some.inj z)), decide_eq_false (fun z => h (S_inj (V.str.inj z)))]
                have h := q H6 (S5.trans S6)
                rw [e] at h
                exact h
end
end K14

set_option Elab.async false
set_option linter.all false
set_option maxRecDepth 100000
set_option maxHeartbeats 4000000
/-! The plain law of k14: pieces in order, put from the last on, give what fits gives. -/
namespace K14
open Lex
abbrev Pn := Nat × Nat × List Nat
def toPc (q : Pn) : Pc := ((q.1 : Int), (q.2.1 : Int), q.2.2)
def menu : List (List Nat) := [[], [35, 120], [121, 121, 32], [35, 32, 10, 35]]
/-- in order from at on, up to m -/
def ordE (m : Nat) : Nat → List Pn → Option Nat
  | at_, [] => some at_
  | at_, (a, b, p) :: r => if at_ ≤ a ∧ a ≤ b ∧ b ≤ m ∧ p ∈ menu then ordE m b r else none
theorem ordE_snoc (m : Nat) : ∀ (at_ : Nat) (ps : List Pn) (e : Nat) (a b : Nat) (p : List Nat), ordE m at_ ps = some e → e ≤ a → a ≤ b → b ≤ m → p ∈ menu → ordE m at_ (ps ++ [(a, b, p)]) = some b
  | at_, [], e, a, b, p, h, h1, h2, h3, h4 => by
    cases h
    show (if _ then _ else _) = _
    rw [if_pos ⟨h1, h2, h3, h4⟩]; rfl
  | at_, (x, y, z) :: r, e, a, b, p, h, h1, h2, h3, h4 => by
    unfold ordE at h
    show (if _ then _ else _) = _
    by_cases c : at_ ≤ x ∧ x ≤ y ∧ y ≤ m ∧ z ∈ menu
    · rw [if_pos c] at h ⊢
      exact ordE_snoc m y r e a b p h h1 h2 h3 h4
    · rw [if_neg c] at h; cases h
def InO (m at_ : Nat) (ps : List Pn) : Prop := ∃ e, ordE m at_ ps = some e
theorem InO.cons {m at_ a b : Nat} {p : List Nat} {r : List Pn} (h : InO m at_ ((a, b, p) :: r)) : at_ ≤ a ∧ a ≤ b ∧ b ≤ m ∧ p ∈ menu ∧ InO m b r := by
  obtain ⟨e, h⟩ := h
  unfold ordE at h
  by_cases c : at_ ≤ a ∧ a ≤ b ∧ b ≤ m ∧ p ∈ menu
  · rw [if_pos c] at h
    exact ⟨c.1, c.2.1, c.2.2.1, c.2.2.2, e, h⟩
  · rw [if_neg c] at h; cases h
theorem InO.low {m at_ at' : Nat} (hl : at' ≤ at_) : ∀ {ps : List Pn}, InO m at_ ps → InO m at' ps
  | [], _ => ⟨at', rfl⟩
  | (a, b, p) :: r, h => by
    obtain ⟨h1, h2, h3, h4, e, h5⟩ := h.cons
    refine ⟨e, ?_⟩
    unfold ordE
    rw [if_pos ⟨Nat.le_trans hl h1, h2, h3, h4⟩]
    exact h5
theorem InO.tail {m : Nat} {ps : List Pn} (h : InO m 0 ps) : InO m 0 (ps.drop 1) := by
  match ps, h with
  | [], h => exact h
  | (a, b, p) :: r, h => exact (h.cons.2.2.2.2).low (Nat.zero_le _)
def put1 (q : Pn) (t : List Nat) : List Nat := t.take q.1 ++ q.2.2 ++ t.drop q.2.1
def putF (t : List Nat) (ps : List Pn) : List Nat := ps.foldr put1 t
theorem put_take (t : List Nat) : ∀ (ps : List Pn) (at_ : Nat), InO t.length at_ ps → (putF t ps).take at_ = t.take at_ ∧ at_ ≤ (putF t ps).length ∨ t.length < at_
  | [], at_, _ => by
    rcases Nat.lt_or_ge t.length at_ with h | h
    · exact .inr h
    · exact .inl ⟨rfl, h⟩
  | (a, b, p) :: r, at_, h => by
    obtain ⟨h1, h2, h3, h4, h5⟩ := h.cons
    rcases put_take t r b h5 with ⟨i1, i2⟩ | i
    · refine .inl ⟨?_, ?_⟩
      · show ((putF t r).take a ++ p ++ (putF t r).drop b).take at_ = _
        rw [List.append_assoc, List.take_append_of_le_length (by rw [List.length_take]; omega), List.take_take, Nat.min_eq_left h1]
        have : (putF t r).take at_ = ((putF t r).take b).take at_ := by rw [List.take_take, Nat.min_eq_left (by omega)]
        rw [this, i1, List.take_take, Nat.min_eq_left (by omega)]
      · show at_ ≤ ((putF t r).take a ++ p ++ (putF t r).drop b).length
        rw [List.length_append, List.length_append, List.length_take]
        omega
    · omega
theorem fits_put (t : List Nat) : ∀ (ps : List Pn) (at_ : Nat) (f : List Nat), InO t.length at_ ps → at_ ≤ t.length → fits t at_ f (ps.map toPc) = some (f ++ (putF t ps).drop at_)
  | [], at_, f, _, _ => rfl
  | (a, b, p) :: r, at_, f, h, hl => by
    obtain ⟨h1, h2, h3, h4, h5⟩ := h.cons
    show (if (at_ : Int) ≤ (a : Int) ∧ (a : Int) ≤ (b : Int) ∧ (b : Int) ≤ (t.length : Int) then fits t (b : Int).toNat (f ++ (t.drop at_).take ((a : Int).toNat - at_) ++ p) (r.map toPc) else none) = _
    rw [if_pos ⟨by omega, by omega, by omega⟩]
    show fits t b (f ++ (t.drop at_).take (a - at_) ++ p) (r.map toPc) = _
    rw [fits_put t r b _ h5 h3]
    congr 1
    rcases put_take t r b h5 with ⟨i1, i2⟩ | i
    · show _ = f ++ ((putF t r).take a ++ p ++ (putF t r).drop b).drop at_
      rw [List.append_assoc ((putF t r).take a), List.drop_append_of_le_length (by rw [List.length_take]; omega), List.append_assoc, List.append_assoc]
      congr 2
      have : (putF t r).take a = t.take a := by
        have : (putF t r).take a = ((putF t r).take b).take a := by rw [List.take_take, Nat.min_eq_left h2]
        rw [this, i1, List.take_take, Nat.min_eq_left h2]
      rw [this, List.drop_take]
    · omega
theorem res_put {t : List Nat} {ps : List Pn} (made : List Nat) (h : InO t.length 0 ps) : resB t made (ps.map toPc) = decide (putF t ps = made) := by
  unfold resB
  rw [fits_put t ps 0 [] h (Nat.zero_le _)]
  by_cases c : putF t ps = made
  · rw [c]; simp
  · rw [decide_eq_false c, decide_eq_false (fun z => c (by simpa using z))]
theorem fits_bad (t : List Nat) (x : Pc) (hx : ¬ x.2.1 ≤ (t.length : Int)) : ∀ (ps : List Pc) (at_ : Nat) (f : List Nat), fits t at_ f (ps ++ [x]) = none
  | [], at_, f => by
    obtain ⟨a, b, p⟩ := x
    show (if _ then _ else _) = _
    rw [if_neg (fun z => hx z.2.2)]
  | (a, b, p) :: r, at_, f => by
    show (if _ then _ else _) = _
    by_cases c : (at_ : Int) ≤ a ∧ a ≤ b ∧ b ≤ (t.length : Int)
    · rw [if_pos c]; exact fits_bad t x hx r _ _
    · rw [if_neg c]
theorem fits_all (t : List Nat) : ∀ (ps : List Pc) (at_ : Nat) (f : List Nat), (fits t at_ f ps).isSome = true → ∀ x ∈ ps, (at_ : Int) ≤ x.1
  | [], _, _, _, x, hx => by cases hx
  | (a, b, p) :: r, at_, f, h, x, hx => by
    unfold fits at h
    by_cases c : (at_ : Int) ≤ a ∧ a ≤ b ∧ b ≤ (t.length : Int)
    · rw [if_pos c] at h
      rcases List.mem_cons.mp hx with rfl | hx
      · exact c.1
      · have := fits_all t r _ _ h x hx
        omega
    · rw [if_neg c] at h; cases h
theorem res_rev {t made : List Nat} {x y : Pc} {ps : List Pc} (h : ¬ y.2.1 ≤ x.1) : resB t made ((x :: ps ++ [y]).reverse) = false := by
  unfold resB
  refine decide_eq_false fun z => ?_
  rw [List.reverse_append, List.reverse_singleton, List.singleton_append] at z
  obtain ⟨a, b, p⟩ := y
  unfold fits at z
  by_cases c : ((0 : Nat) : Int) ≤ a ∧ a ≤ b ∧ b ≤ (t.length : Int)
  · rw [if_pos c] at z
    have := fits_all t _ _ _ (by rw [z]; rfl) x (List.mem_reverse.mpr List.mem_cons_self)
    have h : ¬ b ≤ x.1 := h
    omega
  · rw [if_neg c] at z; cases z
/-! blanks -/
/-- each line feed is followed by a # -/
def nlok : List Nat → Bool
  | [] => true
  | [c] => decide (c ≠ 10)
  | c :: d :: r => (decide (c ≠ 10) || decide (d = 35)) && nlok (d :: r)
theorem nlok_app : ∀ {a b : List Nat}, nlok a = true → nlok b = true → nlok (a ++ b) = true
  | [], b, _, h => h
  | [c], [], h, _ => h
  | [c], d :: b, h, hb => by
    show ((decide (c ≠ 10) || decide (d = 35)) && nlok (d :: b)) = true
    have h : decide (c ≠ 10) = true := h
    rw [h, hb]; rfl
  | c :: d :: r, b, h, hb => by
    have h : ((decide (c ≠ 10) || decide (d = 35)) && nlok (d :: r)) = true := h
    rw [Bool.and_eq_true] at h
    show ((decide (c ≠ 10) || decide (d = 35)) && nlok (d :: r ++ b)) = true
    rw [h.1, nlok_app h.2 hb]; rfl
theorem nlok_no : ∀ {a : List Nat}, (∀ c ∈ a, c ≠ 10) → nlok a = true
  | [], _ => rfl
  | [c], h => decide_eq_true (h c List.mem_cons_self)
  | c :: d :: r, h => by
    show ((decide (c ≠ 10) || decide (d = 35)) && nlok (d :: r)) = true
    rw [decide_eq_true (h c List.mem_cons_self), nlok_no (fun x hx => h x (List.mem_cons_of_mem _ hx))]; rfl
theorem nlok_menu : ∀ p ∈ menu, nlok p = true := by decide
theorem nlok_fits {t : List Nat} (ht : ∀ c ∈ t, c ≠ 10) : ∀ (ps : List Pn) (at_ : Nat) (f x : List Nat), InO t.length at_ ps → nlok f = true → fits t at_ f (ps.map toPc) = some x → nlok x = true
  | [], at_, f, x, _, hf, e => by
    cases e
    exact nlok_app hf (nlok_no fun c hc => ht c (List.mem_of_mem_drop hc))
  | (a, b, p) :: r, at_, f, x, h, hf, e => by
    obtain ⟨h1, h2, h3, h4, h5⟩ := h.cons
    have e : (if (at_ : Int) ≤ (a : Int) ∧ (a : Int) ≤ (b : Int) ∧ (b : Int) ≤ (t.length : Int) then fits t (b : Int).toNat (f ++ (t.drop at_).take ((a : Int).toNat - at_) ++ p) (r.map toPc) else none) = some x := e
    rw [if_pos ⟨by omega, by omega, by omega⟩] at e
    exact nlok_fits ht r _ _ x h5 (nlok_app (nlok_app hf (nlok_no fun c hc => ht c (List.mem_of_mem_drop (List.mem_of_mem_take hc)))) (nlok_menu p h4)) e
theorem bl_true : ∀ {l : List Nat}, nlok l = true → bl true l = l.length
  | [], _ => rfl
  | [c], h => by
    have h : c ≠ 10 := of_decide_eq_true h
    show (if c = 10 then _ else _) = _
    rw [if_neg h]; rfl
  | c :: d :: r, h => by
    have h : ((decide (c ≠ 10) || decide (d = 35)) && nlok (d :: r)) = true := h
    rw [Bool.and_eq_true] at h
    have ih := bl_true h.2
    show (if c = 10 then 1 + bl false (d :: r) else 1 + bl true (d :: r)) = r.length + 1 + 1
    by_cases hc : c = 10
    · rw [if_pos hc]
      have hd : d = 35 := by
        have := h.1
        rw [hc] at this
        simpa using this
      subst hd
      have e1 : bl true (35 :: r) = 1 + bl true r := rfl
      have e2 : bl false (35 :: r) = 1 + bl true r := rfl
      rw [e2, ← e1, ih]
      show 1 + (r.length + 1) = _
      omega
    · rw [if_neg hc, ih]
      show 1 + (r.length + 1) = _
      omega
theorem allBl_of {l : List Nat} (h : nlok (35 :: l) = true) : AllBl (35 :: l) := by
  have e := bl_true h
  exact e
theorem menu_len : ∀ p ∈ menu, p.length ≤ 4 := by decide
theorem put_len (t : List Nat) : ∀ (ps : List Pn), InO t.length 0 ps → (putF t ps).length ≤ t.length + 4 * ps.length
  | [], _ => Nat.le_refl _
  | (a, b, p) :: r, h => by
    obtain ⟨h1, h2, h3, h4, h5⟩ := h.cons
    have ih := put_len t r (h5.low (Nat.zero_le _))
    have hp : p.length ≤ 4 := menu_len p h4
    show ((putF t r).take a ++ p ++ (putF t r).drop b).length ≤ t.length + 4 * (r.length + 1)
    rw [List.length_append, List.length_append, List.length_take, List.length_drop]
    omega
end K14

set_option Elab.async false
set_option linter.all false
set_option maxRecDepth 100000
set_option maxHeartbeats 4000000
/-! Joins of signs, menus, the pool (as in T10g). -/
namespace L2
open PySem PySem.Spec PyProof.Rows
theorem join_chars0 : ∀ cs : List Nat, Str.join (S []) (cs.map fun c => S [c]) = S cs
  | [] => rfl
  | [c] => rfl
  | c :: d :: cs => by
    have ih := join_chars0 (d :: cs)
    show S [c] ++ S [] ++ Str.join (S []) ((d :: cs).map fun c => S [c]) = _
    rw [ih, S_append, S_append]
    rfl
theorem join_chars (cs : List Nat) : Txt.join (Str.ofString "") (cs.map fun c => S [c]) = S cs := by
  have e : Str.ofString "" = S [] := by decide +kernel
  rw [TL.join_eq, e]
  exact join_chars0 cs
theorem sum_chars : ∀ cs : List Nat, ((cs.map fun c => S [c]).map (·.length)).sum = cs.length
  | [] => rfl
  | c :: cs => by
    rw [List.map_cons, List.map_cons, List.sum_cons, sum_chars cs, S_len, List.length_cons]
    simp
    omega
theorem pool_same {H H' : Hp} {p : Addr} (h : PoolAt H p) (S : Same H H') : PoolAt H' p := let ⟨a, b, e, r⟩ := h; ⟨a, b, S _ _ e, r⟩
theorem pool_ne {H : Hp} {pl p : Addr} (h : PoolAt H pl) (hp : H p = none) : p ≠ pl := by
  obtain ⟨a, b, e, _⟩ := h
  exact Ne.symm (ne_of_none e hp)
theorem nat_menu {cs : List Nat} {r : Int} (h0 : 0 ≤ r) (h : r < (cs.length : Int)) : ∃ c ∈ cs, atI cs r = some c := by
  obtain ⟨n, rfl⟩ := Int.eq_ofNat_of_zero_le h0
  have hn : n < cs.length := by omega
  exact ⟨cs[n], List.getElem_mem hn, atI_nat (List.getElem?_eq_getElem hn)⟩
theorem chr_menu {cs : List Nat} {r : Int} (h0 : 0 ≤ r) (h : r < (cs.length : Int)) : ∃ c ∈ cs, atI (cs.map fun c => V.str (S [c])) r = some (.str (S [c])) := by
  obtain ⟨n, rfl⟩ := Int.eq_ofNat_of_zero_le h0
  have hn : n < cs.length := by omega
  refine ⟨cs[n], List.getElem_mem hn, atI_nat ?_⟩
  rw [List.getElem?_map, List.getElem?_eq_getElem hn]
  rfl
theorem str_menu {cs : List (List Nat)} {r : Int} (h0 : 0 ≤ r) (h : r < (cs.length : Int)) : ∃ c ∈ cs, atI (cs.map fun c => V.str (S c)) r = some (.str (S c)) := by
  obtain ⟨n, rfl⟩ := Int.eq_ofNat_of_zero_le h0
  have hn : n < cs.length := by omega
  refine ⟨cs[n], List.getElem_mem hn, atI_nat ?_⟩
  rw [List.getElem?_map, List.getElem?_eq_getElem hn]
  rfl
end L2

set_option Elab.async false
set_option linter.all false
set_option maxRecDepth 100000
set_option maxHeartbeats 4000000
set_option pp.maxSteps 1500
set_option pp.deepTerms false
namespace K14
open PySem PySem.Spec PyProof.Rows L2 He KH PySem.KX Lex
open PySem.W (Frag)
section
variable {w : World} {K : Frag} {mg : Str → Option Value} {base : Heap}
/-- a list of pieces at p -/
def PnAt (H : Hp) (q : Addr × Pn) : Prop := H q.1 = some (.tup [.int (q.2.1 : Int), .int (q.2.2.1 : Int), .str (S q.2.2.2)])
def PcsAt (H : Hp) (p : Addr) (ps : List (Addr × Pn)) : Prop := H p = some (.lst (ps.map fun q => .ref q.1)) ∧ ∀ q ∈ ps, PnAt H q
theorem PcsAt.same {H H' : Hp} {p : Addr} {ps : List (Addr × Pn)} (h : PcsAt H p ps) (S1 : Same H H') : PcsAt H' p ps := ⟨S1 _ _ h.1, fun q hq => S1 _ _ (h.2 q hq)⟩
theorem PcsAt.keep {H H' : Hp} {p pl : Addr} {ps : List (Addr × Pn)} (h : PcsAt H p ps) (k : Keep pl H H') (po : PoolAt H pl) (np : p ≠ pl) : PcsAt H' p ps := by
  obtain ⟨a, b, e, _⟩ := po
  exact ⟨k _ _ np h.1, fun q hq => k _ _ (fun z => by have := h.2 q hq; unfold PnAt at this; rw [z, e] at this; cases this) (h.2 q hq)⟩
theorem menu_eq : ([V.str "", V.str "#x", V.str "yy ", V.str "# \n#"] : List V) = menu.map fun w => V.str (S w) := by decide +kernel
/-! ### _law_pieces -/
def spPieces (K : Frag) : Sp := fun vs H Q _ => ∃ (pl : Addr), vs = [.ref pl, .int 13] ∧ PoolAt H pl ∧
  ∀ (p : Addr) (ps : List (Addr × Pn)) (H' : Hp), Keep pl H H' → PoolAt H' pl → PcsAt H' p ps → ps.length ≤ 3 → InO 13 0 (ps.map (·.2)) → Q (.ref p) H'
abbrev Npcs : List Str := ["_law_pool_here", "_law_length", "_law_found", "_law_at", "_law_turn", "_law_start", "_law_end"]
theorem sc_pieces : FnScope Npcs ["_law_pool_here", "_law_length"] (defScope s__law_pieces) := ⟨rfl, rfl, rfl, by decide +kernel, rfl, by decide +kernel, by decide +kernel⟩
theorem ok_pieces {f : Addr} {fd : FuncData} (F : Fun K "_law_pieces" "_law_pieces" s__law_pieces f fd) (T : Txt K mg) : FnOk P w K mg base CX0 2 f fd ["_law_pool_here", "_law_length"] (spPieces K) := by
  obtain ⟨fdT, F__law_take⟩ := T.f__law_take
  have G__law_take : FnOk P w K mg base CX0 1 _ fdT ["_law_pool_here", "_law_many"] spTake := ok_take F__law_take
  have b__law_take : Binds K fdT ["_law_pool_here", "_law_many"] [] := F__law_take.binds fun _ _ _ _ _ _ us hl => match us, hl with | [_, _], _ => rfl
  refine F.ok sc_pieces (fun vs H Q E h => ?_) (fun cdv A outer s H vs Q E hr h => ?_)
  · obtain ⟨pl, rfl, _⟩ := h
    rfl
  · obtain ⟨pl, rfl, hpl, q⟩ := h
    have sc := sc_pieces
    have hr__law_take := hr
    refine ⟨_, (pss_cons (ps_par (i := 2) (j := 3) rfl sc.nd rfl rfl (by decide) rfl rfl (pa_cons (pe_lst pa_nil) (pa_cons pe_int pa_nil)) rfl)
      (pss_cons (ps_for PassesOwn.never rfl (pi_range1 rfl T.n_range (pa_cons (pe_call G__law_take hr__law_take rfl T.g__law_take F__law_take.kp b__law_take .nil pass0 (pa_cons (pv 0) (pa_cons pe_int pa_nil))) pa_nil)) (pg_name (i := 4) sc.nd rfl (Or.inl rfl))
        (pss_cons (ps_set (i := 5) sc.nd rfl (Or.inl rfl) (pe_op op_add (pv 3) (pe_call G__law_take hr__law_take rfl T.g__law_take F__law_take.kp b__law_take .nil pass0 (pa_cons (pv 0) (pa_cons pe_int pa_nil)))))
        (pss_cons (ps_set (i := 6) sc.nd rfl (Or.inl rfl) (pe_op op_add (pv 5) (pe_call G__law_take hr__law_take rfl T.g__law_take F__law_take.kp b__law_take .nil pass0 (pa_cons (pv 0) (pa_cons pe_int pa_nil)))))
        (pss_one (ps_if (pt_cmpR op_le (pv 6) (pv 1) (nomark _))
          (pss_cons (ps_expr (pe_bm PySem.F.plainAttrs_list PySem.F.slot_list_append PySem.F.type_list_append mt_append (pv 2) (pa_cons (pe_tup (pa_cons (pv 5) (pa_cons (pv 6) (pa_cons (pe_ix (r := rIxL K) ix_list (pe_lst (pa_cons pe_str (pa_cons pe_str (pa_cons pe_str (pa_cons pe_str pa_nil))))) (pe_call G__law_take hr__law_take rfl T.g__law_take F__law_take.kp b__law_take .nil pass0 (pa_cons (pv 0) (pa_cons pe_int pa_nil))) (fun _ _ => rfl)) pa_nil)))) pa_nil)))
          (pss_one (ps_set (i := 3) sc.nd rfl (Or.inl rfl) (pv 6))))
          pss_nil)))))
      (pss_one (ps_ret (pv 2))))), ?_⟩
    refine ⟨(by show 0 ≤ sizeLine; decide), fun p hp => ⟨_, _, rfl, ?_⟩⟩
    have S1 := same_new (o := .lst []) hp
    have hpl1 : PoolAt (upd H p (.lst [])) pl := let ⟨a, b, e, r⟩ := hpl; ⟨a, b, S1 _ _ e, r⟩
    have npl : p ≠ pl := fun z => by obtain ⟨a, b, e, _⟩ := hpl; rw [z, e] at hp; cases hp
    refine ⟨_, rfl, pl, 4, rfl, hpl1, by decide, by decide, fun r o r0 r1 po ho => ?_⟩
    refine ⟨r, rfl, by omega, by omega, for_range (lo := 0) (n := r.toNat) (fun i σ' H' => ∃ (ps : List (Addr × Pn)) (e : Nat) (v4 v5 v6 : Option V), σ' = [some (.ref pl), some (.int 13), some (.ref p), some (.int (e : Int)), v4, v5, v6] ∧ Keep pl H H' ∧ PoolAt H' pl ∧ PcsAt H' p ps ∧ ps.length ≤ i ∧ e ≤ 13 ∧ ordE 13 0 (ps.map (·.2)) = some e) ?_ ?_ ?_⟩
    · exact ⟨[], 0, _, _, _, rfl, (Keep.of S1).trans keep_upd, po, ⟨by rw [upd_ne npl, upd_same]; rfl, fun _ hq => by cases hq⟩, Nat.zero_le _, by decide, rfl⟩
    · rintro i σ' Hi hi ⟨ps, e, v4, v5, v6, rfl, kk, hpo, hps, hl, he, hord⟩
      refine ⟨_, rfl, _, rfl, pl, 4, rfl, hpo, by decide, by decide, fun s1 o1 s10 s11 po1 ho1 => ⟨_, _, rfl, rfl, ?_⟩⟩
      have hps1 : PcsAt (upd Hi pl o1) p ps := hps.keep keep_upd hpo npl
      have kk1 : Keep pl H (upd Hi pl o1) := kk.trans keep_upd
      generalize upd Hi pl o1 = H1 at po1 hps1 kk1 ⊢
      refine ⟨_, rfl, _, rfl, pl, 3, rfl, po1, by decide, by decide, fun s2 o2 s20 s21 po2 ho2 => ⟨_, _, rfl, rfl, ?_⟩⟩
      have hps2 : PcsAt (upd H1 pl o2) p ps := hps1.keep keep_upd po1 npl
      have kk2 : Keep pl H (upd H1 pl o2) := kk1.trans keep_upd
      generalize upd H1 pl o2 = H2 at po2 hps2 kk2 ⊢
      refine ⟨_, rfl, _, rfl, _, _, rfl, rfl, _, rfl, ?_⟩
      refine ite2 (fun c => ?_) (fun c => ?_)
      · have c : (e : Int) + s1 + s2 ≤ 13 := of_decide_eq_true c
        refine ⟨_, rfl, .inl ⟨rfl, _, SqL.of hps2.1⟩, _, rfl, _, rfl, (by show 4 ≤ sizeLine; decide), fun L hL => ?_⟩
        have S3 := same_new (o := .lst [V.str "", V.str "#x", V.str "yy ", V.str "# \n#"]) hL
        have nL := pool_ne po2 hL
        have eL : upd H2 L (.lst [V.str "", V.str "#x", V.str "yy ", V.str "# \n#"]) L = some (.lst [V.str "", V.str "#x", V.str "yy ", V.str "# \n#"]) := upd_same
        have po3 := pool_same po2 S3
        have hps3 := hps2.same S3
        have kk3 := kk2.trans (Keep.of S3)
        have kL : Keep pl H2 (upd H2 L (.lst [V.str "", V.str "#x", V.str "yy ", V.str "# \n#"])) := Keep.of S3
        generalize upd H2 L (.lst [V.str "", V.str "#x", V.str "yy ", V.str "# \n#"]) = H3 at po3 hps3 kk3 eL kL ⊢
        refine ⟨_, rfl, pl, 4, rfl, po3, by decide, by decide, fun s4 o4 s40 s41 po4 ho4 => ?_⟩
        obtain ⟨pc, hpc, hat⟩ := str_menu (cs := menu) s40 (by exact s41)
        have hps4 : PcsAt (upd H3 pl o4) p ps := hps3.keep keep_upd po3 npl
        have kk4 : Keep pl H (upd H3 pl o4) := kk3.trans keep_upd
        refine ⟨L, _, _, _, rfl, rfl, SqL.of (by rw [upd_ne nL]; exact eL), (by rw [menu_eq]; exact hat), ?_⟩
        generalize upd H3 pl o4 = H4 at po4 hps4 kk4 ⊢
        refine ⟨(by show 3 ≤ sizeLine; decide), fun t ht => ?_⟩
        obtain ⟨a1, ha1⟩ := Int.eq_ofNat_of_zero_le (show 0 ≤ (e : Int) + s1 by omega)
        obtain ⟨b1, hb1⟩ := Int.eq_ofNat_of_zero_le (show 0 ≤ (e : Int) + s1 + s2 by omega)
        have S5 := same_new (o := .tup [V.int ((e : Int) + s1), V.int ((e : Int) + s1 + s2), V.str (S pc)]) ht
        have hps5 := hps4.same S5
        have po5 := pool_same po4 S5
        have kk5 := kk4.trans (Keep.of S5)
        have et : upd H4 t (.tup [V.int ((e : Int) + s1), V.int ((e : Int) + s1 + s2), V.str (S pc)]) t = some (.tup [V.int ((e : Int) + s1), V.int ((e : Int) + s1 + s2), V.str (S pc)]) := upd_same
        generalize upd H4 t (.tup [V.int ((e : Int) + s1), V.int ((e : Int) + s1 + s2), V.str (S pc)]) = H5 at hps5 po5 kk5 et ⊢
        refine ⟨p, _, _, rfl, rfl, hps5.1, (by rw [List.length_map, sizeLine_eq]; omega), ?_⟩
        refine ⟨_, rfl, ps ++ [(t, a1, b1, pc)], b1, some (.int ((0 : Int) + (i : Int))), some (.int ((e : Int) + s1)), some (.int ((e : Int) + s1 + s2)), ?_, ?_, ?_, ⟨?_, ?_⟩, ?_, ?_, ?_⟩
        · show _ = [some (V.ref pl), some (V.int 13), some (V.ref p), some (V.int (b1 : Int)), some (.int ((0 : Int) + (i : Int))), some (.int ((e : Int) + s1)), some (.int ((e : Int) + s1 + s2))]
          rw [← hb1]; rfl
        · exact fun b o nb eb => by rw [upd_ne (fun z => by rw [z, hp] at eb; cases eb)]; exact kk5 b o nb eb
        · obtain ⟨qa, qb, qe, qr⟩ := po5
          exact ⟨qa, qb, by rw [upd_ne (Ne.symm npl)]; exact qe, qr⟩
        · rw [upd_same, List.map_append]; rfl
        · intro q hq
          have nt : ∀ b xs, H5 b = some (.tup xs) → upd H5 p (.lst (ps.map (fun q => V.ref q.1) ++ [V.ref t])) b = some (.tup xs) := fun b xs eb => by
            rw [upd_ne (fun z => by rw [z, hps5.1] at eb; cases eb)]; exact eb
          rcases List.mem_append.mp hq with hq | hq
          · exact nt _ _ (hps5.2 q hq)
          · rw [List.mem_singleton.mp hq]
            refine nt _ _ ?_
            rw [et, hb1, ha1]
        · rw [List.length_append]; exact Nat.succ_le_succ hl
        · omega
        · rw [List.map_append]
          exact ordE_snoc 13 0 _ e a1 b1 pc hord (by omega) (by omega) (by omega) hpc
      · exact ⟨ps, e, _, _, _, rfl, kk2, po2, hps2, Nat.le_succ_of_le hl, he, hord⟩
    · rintro σ' Hi ⟨ps, e, v4, v5, v6, rfl, kk, hpo, hps, hl, he, hord⟩
      exact ⟨_, rfl, q p ps Hi kk hpo hps (by omega) ⟨e, hord⟩⟩
/-! ### _law_put -/
def spPut (K : Frag) : Sp := fun vs H Q _ => ∃ (p : Addr) (t : List Nat) (ps : List (Addr × Pn)), vs = [.str (S t), .ref p] ∧ PcsAt H p ps ∧ t.length ≤ 100 ∧ ps.length ≤ 10 ∧ (∀ q ∈ ps, q.2.2.2.length ≤ 10) ∧
  ∀ H', Same H H' → Q (.str (S (putF t (ps.map (·.2))))) H'
abbrev Nput : List Str := ["_law_text", "_law_pieces_here", "_law_start", "_law_end", "_law_piece"]
theorem sc_put : FnScope Nput ["_law_text", "_law_pieces_here"] (defScope s__law_put) := ⟨rfl, rfl, rfl, by decide +kernel, rfl, by decide +kernel, by decide +kernel⟩
theorem cutS_start {l : List Nat} {a : Nat} : cutS (S l) none (some (a : Int)) = S (l.take a) := by
  unfold cutS
  rw [HT.sIx_nat, S_list, S_len]
  show S _ = S _
  congr 1
  show (l.drop 0).take (min a l.length - 0) = _
  rw [List.drop_zero, Nat.sub_zero]
  rcases Nat.le_total a l.length with h | h
  · rw [Nat.min_eq_left h]
  · rw [Nat.min_eq_right h, List.take_of_length_le (Nat.le_refl _), List.take_of_length_le h]
theorem cutS_endA {l : List Nat} {a : Nat} : cutS (S l) (some (a : Int)) none = S (l.drop a) := by
  rcases Nat.le_total a l.length with h | h
  · exact cutS_end h
  · unfold cutS
    rw [HT.sIx_nat, S_list, S_len, Nat.min_eq_right h]
    show S _ = S _
    congr 1
    show (l.drop l.length).take (l.length - l.length) = _
    rw [List.drop_length, List.drop_of_length_le h, List.take_nil]
theorem ok_put {f : Addr} {fd : FuncData} (F : Fun K "_law_put" "_law_put" s__law_put f fd) (T : Txt K mg) : FnOk P w K mg base CX0 1 f fd ["_law_text", "_law_pieces_here"] (spPut K) := by
  refine F.ok sc_put (fun vs H Q E h => ?_) (fun cdv A outer s H vs Q E hr h => ?_)
  · obtain ⟨p, t, ps, rfl, _⟩ := h
    rfl
  · obtain ⟨p, t, ps, rfl, hps, h1, h2, h3, q⟩ := h
    have sc := sc_put
    refine ⟨_, (pss_cons (ps_for PassesOwn.never rfl (pi_list (pe_revL (pv 1))) (pg_tup rfl (pgs_cons (pg_name (i := 2) sc.nd rfl (Or.inl rfl)) (pgs_cons (pg_name (i := 3) sc.nd rfl (Or.inl rfl)) (pgs_cons (pg_name (i := 4) sc.nd rfl (Or.inl rfl)) pgs_nil))))
        (pss_one (ps_set (i := 0) sc.nd rfl (Or.inl rfl) (pe_op op_add_str (pe_op op_add_str (pe_slice sl_str (pv 0) po_none (po_some (pv 2))) (pv 4)) (pe_slice sl_str (pv 0) (po_some (pv 3)) po_none)))))
      (pss_one (ps_ret (pv 0)))), ?_⟩
    refine ⟨_, rfl, p, _, rfl, SqL.of hps.1, fun r hr2 => ?_⟩
    have S1 := same_new (o := .lst (ps.map fun q => V.ref q.1).reverse) hr2
    have er : upd H r (.lst (ps.map fun q => V.ref q.1).reverse) r = some (.lst (ps.map fun q => V.ref q.1).reverse) := upd_same
    generalize upd H r (.lst (ps.map fun q => V.ref q.1).reverse) = H1 at S1 er ⊢
    refine ⟨r, rfl, ⟨_, SqL.of er⟩, for_list (K := K) (a := r) (xs := (ps.map fun q => V.ref q.1).reverse) (fun i σ' H' => ∃ (u : List Nat) (v2 v3 v4 : Option V), σ' = [some (.str (S u)), some (.ref p), v2, v3, v4] ∧ u = putF t ((ps.drop (ps.length - i)).map (·.2)) ∧ u.length + 10 ≤ 200 * 2 ^ i ∧ Same H1 H') ?_ ?_ ?_ ?_⟩
    · refine ⟨t, _, _, _, rfl, ?_, by omega, Same.refl _⟩
      rw [Nat.sub_zero, List.drop_length]; rfl
    · exact fun i σ' H' _ h => let ⟨_, _, _, _, _, _, _, S6⟩ := h; SqL.of (S6 _ _ er)
    · rintro i x σ' H6 hi ⟨u, v2, v3, v4, rfl, hu, hb, S6⟩
      have il : i < ps.length := by
        rcases Nat.lt_or_ge i ps.length with h | h
        · exact h
        · rw [List.getElem?_eq_none (by rw [List.length_reverse, List.length_map]; exact h)] at hi; cases hi
      rw [List.getElem?_reverse (by rw [List.length_map]; exact il), List.length_map, List.getElem?_map, Option.map_eq_some_iff] at hi
      obtain ⟨⟨ad, a, b, pp⟩, hq, rfl⟩ := hi
      have hm := List.mem_of_getElem? hq
      have ht : H6 ad = some (.tup [.int (a : Int), .int (b : Int), .str (S pp)]) := S6 _ _ (S1 _ _ (hps.2 _ hm))
      have lp : pp.length ≤ 10 := h3 _ hm
      have p2 : 2 ^ i ≤ 2 ^ 10 := Nat.pow_le_pow_right (by decide) (by omega)
      have hn : ps.length - 1 - i < ps.length := by omega
      have hdrop : ps.drop (ps.length - (i + 1)) = (ad, a, b, pp) :: ps.drop (ps.length - i) := by
        have e1 : ps.length - (i + 1) = ps.length - 1 - i := by omega
        rw [e1, List.drop_eq_getElem_cons hn]
        congr 1
        · rw [List.getElem?_eq_getElem hn] at hq
          exact Option.some.inj hq
        · congr 1; omega
      have hsz : (S u).length ≤ sizeLine := by rw [S_len, sizeLine_eq]; omega
      refine ⟨ad, _, rfl, SqT.of ht, rfl, _, _, rfl, _, _, rfl, _, _, rfl, rfl, ?_⟩
      refine ⟨_, rfl, _, rfl, _, rfl, _, rfl, hsz, ?_⟩
      rw [cutS_start]
      refine ⟨_, rfl, _, _, rfl, rfl, ?_, _, rfl, _, rfl, _, rfl, _, rfl, hsz, ?_⟩
      · rw [S_len, S_len, sizeLine_eq, List.length_take]; omega
      · rw [cutS_endA, S_append]
        refine ⟨_, _, rfl, rfl, ?_, ?_⟩
        · rw [S_len, S_len, sizeLine_eq, List.length_append, List.length_take, List.length_drop]; omega
        · rw [S_append]
          refine ⟨u.take a ++ pp ++ u.drop b, _, _, _, rfl, ?_, ?_, S6⟩
          · rw [hdrop, List.map_cons, hu]; rfl
          · rw [List.length_append, List.length_append, List.length_take, List.length_drop, Nat.pow_succ]; omega
    · rintro σ' H6 ⟨u, v2, v3, v4, rfl, hu, hb, S6⟩
      rw [List.length_reverse, List.length_map, Nat.sub_self, List.drop_zero] at hu
      subst hu
      exact ⟨_, rfl, q _ (S1.trans S6)⟩
end
end K14

set_option Elab.async false
set_option linter.all false
set_option maxRecDepth 100000
set_option maxHeartbeats 4000000
set_option pp.maxSteps 1500
set_option pp.deepTerms false
namespace K14
open PySem PySem.Spec PyProof.Rows L2 He KH PySem.KX Lex
open PySem.W (Frag)
/-! ### pieces as data -/
def pnD (q : Pn) : PyData := .tuple [.int (q.1 : Int), .int (q.2.1 : Int), .str (S q.2.2)]
theorem dp_pcs {K : Frag} {H : Hp} : ∀ {ps : List (Addr × Pn)}, (∀ q ∈ ps, PnAt H q) → DpAll K H (ps.map fun q => V.ref q.1) (ps.map fun q => pnD q.2)
  | [], _ => .nil
  | q :: ps, h => .cons (.tup (SqT.of (h q (by simp))) (.cons (.int _) (.cons (.int _) (.cons (.str _) .nil)))) (dp_pcs fun u hu => h u (by simp [hu]))
theorem strOk_S {l : List Nat} (h : ∀ c ∈ l, c < 1114112) : PyData.strOk (S l) = true := by
  show (l.toArray).all (fun c => decide (c < 1114112)) = true
  rw [List.all_toArray, List.all_eq_true]
  exact fun c hc => decide_eq_true (h c hc)
theorem menu_cp : ∀ p ∈ menu, ∀ c ∈ p, c < 1114112 := by decide
theorem InO.mem {m : Nat} : ∀ {ps : List Pn} {at_ : Nat}, InO m at_ ps → ∀ q ∈ ps, q.2.2 ∈ menu ∧ q.2.1 ≤ m
  | [], _, _, q, hq => by cases hq
  | (a, b, p) :: r, at_, h, q, hq => by
    obtain ⟨h1, h2, h3, h4, h5⟩ := h.cons
    rcases List.mem_cons.mp hq with rfl | hq
    · exact ⟨h4, h3⟩
    · exact h5.mem q hq
theorem lay_pcs : ∀ {ps : List (Addr × Pn)}, (∀ q ∈ ps, q.2.2.2 ∈ menu) → PyData.canLayAll0 (ps.map fun q => pnD q.2) = true
  | [], _ => rfl
  | q :: ps, h => by
    show ((true && (true && (PyData.strOk (S q.2.2.2) && true))) && PyData.canLayAll0 (ps.map fun q => pnD q.2)) = true
    rw [strOk_S (menu_cp _ (h q (by simp))), lay_pcs fun u hu => h u (by simp [hu])]
    rfl
theorem depth_pcs : ∀ {ps : List (Addr × Pn)}, PyData.depthAll (ps.map fun q => pnD q.2) ≤ 1
  | [] => Nat.zero_le _
  | q :: ps => by
    show max (PyData.depth (pnD q.2)) (PyData.depthAll (ps.map fun q => pnD q.2)) ≤ 1
    have h : PyData.depth (pnD q.2) = 1 := rfl
    rw [h]
    exact Nat.max_le.mpr ⟨Nat.le_refl _, depth_pcs⟩
theorem shape_pcs {ps : List (Addr × Pn)} (h : ∀ q ∈ ps, q.2.2.2 ∈ menu) : SeqAt.shaped (.list (ps.map fun q => pnD q.2)) = true := by
  show (PyData.canLayAll0 (ps.map fun q => pnD q.2) && decide (PyData.depthAll (ps.map fun q => pnD q.2) + 1 ≤ 64)) = true
  rw [lay_pcs h, Bool.true_and]
  refine decide_eq_true ?_
  have := depth_pcs (ps := ps)
  omega
theorem cutV_1 (xs : List V) : cutV xs (some 1) none = xs.drop 1 := by
  unfold cutV
  rw [show (some (1 : Int)) = some ((1 : Nat) : Int) from rfl, HT.sIx_nat]
  show (xs.drop (min 1 xs.length)).take (xs.length - min 1 xs.length) = _
  rw [List.take_of_length_le (by rw [List.length_drop]; exact Nat.le_refl _)]
  cases xs with
  | nil => rfl
  | cons a r => congr 1
theorem emp_eq : Str.ofString "" = S [] := by decide +kernel
theorem atI_last (xs : List V) (y : V) : atI (xs ++ [y]) (-1) = some y := by
  unfold atI ixN
  rw [if_neg (by decide), if_pos (by rw [List.length_append]; show -(((xs.length + 1 : Nat) : Int)) ≤ -1; omega)]
  have e : (-1 + (((xs ++ [y]).length : Nat) : Int)).toNat = xs.length := by rw [List.length_append]; show (-1 + ((xs.length + 1 : Nat) : Int)).toNat = _; omega
  show (xs ++ [y])[_]? = some y
  rw [e]
  simp
theorem res_none {t t2 : List Nat} {ps : List Pc} (h : fits t 0 [] ps = none) : resB t t2 ps = false := decide_eq_false (fun z => by rw [h] at z; cases z)
theorem abc_eq : (Str.ofString "abc #").cps.toList = [97, 98, 99, 32, 35] := by decide +kernel
theorem hash_eq2 : Str.ofString "#" = S [35] := by decide +kernel
theorem seq_by {a b : TS} {D : Ends} {σ : L2.St} {H : Hp} (Post : L2.St → Hp → Prop) (h1 : ∀ N : L2.St → Hp → Prop, (∀ σ' H', Post σ' H' → N σ' H') → a { D with nx := N } σ H) (h2 : ∀ σ' H', Post σ' H' → b D σ' H') : tSeq a b D σ H := h1 _ h2
section
variable {w : World} {K : Frag} {mg : Str → Option Value} {base : Heap}
theorem kitAny_no {n : String} (h1 : kitB n "list" = some false) (h2 : kitB n "tuple" = some false) : PySem.W.kitAny K (.type n) [.type "list", .type "tuple"] = some false := by
  unfold PySem.W.kitAny
  rw [kit_ty h1]
  show PySem.W.kitAny K (.type n) [.type "tuple"] = _
  unfold PySem.W.kitAny
  rw [kit_ty h2]
  rfl
theorem sl_run {H : Hp} {l1 l2 t1 t2 : List Nat} {z : Str} {p : Addr} {ps : List (Addr × Pn)} (h1 : valV (mnD l1) (.inr z) = some (.str (S t1))) (h2 : valV (mnD l2) (.inr z) = some (.str (S t2))) (hp : PcsAt H p ps) (b1 : t1.length ≤ 5000) (b2 : ps.length ≤ 100) (b3 : ∀ q ∈ ps, q.2.2.2.length ≤ 100) :
    SL K H l1 l2 (.str z) (.ref p) (resB t1 t2 ((ps.map (·.2)).map toPc)) := by
  have := SL.run (K := K) (H := H) (l1 := l1) (l2 := l2) (ps := ps.map fun q => (q.1, toPc q.2)) (p := p) h1 h2 (by rw [hp.1, List.map_map]; rfl) (fun q hq => by
    obtain ⟨q', hq', rfl⟩ := List.mem_map.mp hq
    exact hp.2 q' hq') b1 (by rw [List.length_map]; exact b2) (fun q hq => by
    obtain ⟨q', hq', rfl⟩ := List.mem_map.mp hq
    exact b3 q' hq')
  rw [List.map_map] at this ⊢
  exact this
abbrev Nlaw : List Str := ["_law_script", "_law_k", "_law_pool_here", "_law_turn", "_law_text", "_law_each", "_law_pieces_here", "_law_made", "_law_old", "_law_new", "_law_odd"]
theorem sc_law : FnScope Nlaw ["_law_script"] (defScope s_law) := ⟨rfl, rfl, rfl, by decide +kernel, rfl, by decide +kernel, by decide +kernel⟩
def spLaw (K : Frag) : Sp := fun vs H Q _ => ∃ (a : Addr) (ns : List Int), vs = [.ref a] ∧ SqL K H a (ns.map V.int) ∧ ns.length ≤ 63 ∧ ∀ H', Q (.bl true) H'
theorem ok_law {f : Addr} {fd : FuncData} (F : Fun K "law" "law" s_law f fd) (T : Txt K mg) : FnOk P w K mg base CX0 13 f fd ["_law_script"] (spLaw K) := by
  obtain ⟨fd__law_pool, F__law_pool⟩ := T.f__law_pool
  have G__law_pool : FnOk P w K mg base CX0 1 _ fd__law_pool ["_law_script", "_law_k"] (spPool K) := ok_pool F__law_pool T
  have b__law_pool : Binds K fd__law_pool ["_law_script", "_law_k"] [] := F__law_pool.binds fun _ _ _ _ _ _ us hl => match us, hl with | [_, _], _ => rfl
  obtain ⟨fd__law_take, F__law_take⟩ := T.f__law_take
  have G__law_take : FnOk P w K mg base CX0 1 _ fd__law_take ["_law_pool_here", "_law_many"] spTake := ok_take F__law_take
  have b__law_take : Binds K fd__law_take ["_law_pool_here", "_law_many"] [] := F__law_take.binds fun _ _ _ _ _ _ us hl => match us, hl with | [_, _], _ => rfl
  obtain ⟨fd__law_pieces, F__law_pieces⟩ := T.f__law_pieces
  have G__law_pieces : FnOk P w K mg base CX0 2 _ fd__law_pieces ["_law_pool_here", "_law_length"] (spPieces K) := ok_pieces F__law_pieces T
  have b__law_pieces : Binds K fd__law_pieces ["_law_pool_here", "_law_length"] [] := F__law_pieces.binds fun _ _ _ _ _ _ us hl => match us, hl with | [_, _], _ => rfl
  obtain ⟨fd__law_put, F__law_put⟩ := T.f__law_put
  have G__law_put : FnOk P w K mg base CX0 1 _ fd__law_put ["_law_text", "_law_pieces_here"] (spPut K) := ok_put F__law_put T
  have b__law_put : Binds K fd__law_put ["_law_text", "_law_pieces_here"] [] := F__law_put.binds fun _ _ _ _ _ _ us hl => match us, hl with | [_, _], _ => rfl
  obtain ⟨fd_same_layout, F_same_layout⟩ := T.f_same_layout
  have G_same_layout : FnOk P w K mg base CX0 4 _ fd_same_layout ["old", "new", "module", "pieces"] (spSame K) := ok_same F_same_layout T
  have b_same_layout : Binds K fd_same_layout ["old", "new", "module", "pieces"] [] := F_same_layout.binds fun _ _ _ _ _ _ us hl => match us, hl with | [_, _, _, _], _ => rfl
  obtain ⟨fd_Project, F_Project⟩ := T.f_Project___init__
  have G_Project : FnOk P w K mg base CX0 11 _ fd_Project ["self", "modules"] (spProject K) := ok_project F_Project T
  have b_Project : Binds K fd_Project ["self", "modules"] [] := F_Project.binds fun _ _ _ _ _ _ us hl => match us, hl with | [_, _], _ => rfl
  refine F.ok sc_law (fun vs H Q E h => ?_) (fun cdv A outer s H vs Q E hr h => ?_)
  · obtain ⟨a, ns, rfl, _⟩ := h
    rfl
  · obtain ⟨a, ns, rfl, hS, hlen, kq⟩ := h
    have sc := sc_law
    have hu64 := hr.units
    have hr__law_pool : Room 1 _ := hr.mono (by decide)
    have hr__law_take : Room 1 _ := hr.mono (by decide)
    have hr__law_pieces : Room 2 _ := hr.mono (by decide)
    have hr__law_put : Room 1 _ := hr.mono (by decide)
    have hr_same_layout : Room 4 _ := hr.mono (by decide)
    refine ⟨_, (pss_cons (ps_for PassesOwn.never rfl (pi_range1 rfl T.n_range (pa_cons (pe_callB (call_max2 rfl) rfl T.n_max (by decide +kernel) (pa_cons pe_int (pa_cons (pe_callB (call_min2 rfl) rfl T.n_min (by decide +kernel) (pa_cons (pe_callB call_len rfl T.n_len (by decide +kernel) (pa_cons (pv 0) pa_nil)) (pa_cons pe_int pa_nil))) pa_nil))) pa_nil)) (pg_name (i := 1) sc.nd rfl (Or.inl rfl))
        (pss_cons (ps_set (i := 2) sc.nd rfl (Or.inr rfl) (pe_call G__law_pool hr__law_pool rfl T.g__law_pool F__law_pool.kp b__law_pool .nil pass0 (pa_cons (pv 0) (pa_cons (pv 1) pa_nil))))
        (pss_one (ps_for PassesOwn.never rfl (pi_range1 rfl T.n_range (pa_cons pe_int pa_nil)) (pg_name (i := 3) sc.nd rfl (Or.inl rfl))
          (pss_cons (ps_set (i := 4) sc.nd rfl (Or.inl rfl) (pe_op op_add_str pe_str (pe_join pe_str (pe_lc (own := [("_law_each", 5)]) (g := gName 5) (tt := tYes) rfl sc.nd (pi_range1 rfl T.n_range (pa_cons pe_int pa_nil)) (blkOk_by (N := Nlaw) (sc := defScope s_law) (by decide +kernel)) (fun _ _ _ _ _ => pg_name (i := 5) sc.nd rfl (Or.inl rfl)) (fun _ _ _ _ _ => pts_nil) (fun _ _ _ _ _ => (pe_ix (r := rIxS) ix_str pe_str (pe_call G__law_take hr__law_take rfl T.g__law_take F__law_take.kp b__law_take .nil pass0 (pa_cons (pv 2) (pa_cons pe_int pa_nil))) (fun _ _ => rfl)))))))
          (pss_cons (ps_set (i := 6) sc.nd rfl (Or.inl rfl) (pe_call G__law_pieces hr__law_pieces rfl T.g__law_pieces F__law_pieces.kp b__law_pieces .nil pass0 (pa_cons (pv 2) (pa_cons pe_int pa_nil))))
          (pss_cons (ps_if (PW.pt (pw_and (pt_cmpR (op_neD hu64) (pv 6) (pe_lst pa_nil) (nomark _)) (pw_and1 (pt_cmpR (op_eqD hu64) (pe_slice sl_tup (pe_ix (r := rIxL K) ix_list (pv 6) pe_int (fun _ _ => rfl)) po_none (po_some pe_int)) (pe_tup (pa_cons pe_int (pa_cons pe_int pa_nil))) (nomark _)))))
            (pss_one (ps_set (i := 6) sc.nd rfl (Or.inl rfl) (pe_slice sl_list (pv 6) (po_some pe_int) po_none)))
            pss_nil)
          (pss_cons (ps_set (i := 7) sc.nd rfl (Or.inl rfl) (pe_call G__law_put hr__law_put rfl T.g__law_put F__law_put.kp b__law_put .nil pass0 (pa_cons (pv 4) (pa_cons (pv 6) pa_nil))))
          (pss_one (ps_if (PW.pt (pw_and (pt_cmpR op_eq (pe_slice sl_str (pv 7) po_none (po_some pe_int)) pe_str (nomark _)) (pw_and1 (pt_cmpR op_eq (pe_bm PySem.F.plainAttrs_str PySem.F.slot_str_count PySem.F.type_str_count mt_count (pv 7) (pa_cons pe_str pa_nil)) (pe_bm PySem.F.plainAttrs_str PySem.F.slot_str_count PySem.F.type_str_count mt_count (pv 7) (pa_cons pe_str pa_nil)) (nomark _)))))
            (pss_cons (ps_par (i := 8) (j := 9) rfl sc.nd rfl rfl (by decide) rfl rfl (pa_cons (pe_make T.mk_Project G_Project hr rfl T.g_Project b_Project .nil pass0 (pa_cons (pe_disp (pps_cons pe_str (pv 4) (pps_cons pe_str pe_str pps_nil)) rfl rfl (by decide) (by decide)) pa_nil)) (pa_cons (pe_make T.mk_Project G_Project hr rfl T.g_Project b_Project .nil pass0 (pa_cons (pe_disp (pps_cons pe_str (pv 7) (pps_cons pe_str pe_str pps_nil)) rfl rfl (by decide) (by decide)) pa_nil)) pa_nil)) rfl)
            (pss_cons (ps_if (PW.pt (pw_or (pt_cmpR op_notBl (pe_call G_same_layout hr_same_layout rfl T.g_same_layout F_same_layout.kp b_same_layout .nil pass0 (pa_cons (pv 8) (pa_cons (pv 9) (pa_cons pe_str (pa_cons (pv 6) pa_nil))))) pe_bl (nomark _)) (pw_or1 (pt_cmpR op_notBl (pe_call G_same_layout hr_same_layout rfl T.g_same_layout F_same_layout.kp b_same_layout .nil pass0 (pa_cons (pv 8) (pa_cons (pv 9) (pa_cons pe_str (pa_cons (pe_lst pa_nil) pa_nil))))) pe_bl (nomark _)))))
              (pss_one (ps_ret pe_bl))
              pss_nil)
            (pss_cons (ps_if (pt_cmpR op_ne (pe_call G_same_layout hr_same_layout rfl T.g_same_layout F_same_layout.kp b_same_layout .nil pass0 (pa_cons (pv 8) (pa_cons (pv 9) (pa_cons pe_str (pa_cons (pe_slice sl_list (pv 6) (po_some pe_int) po_none) pa_nil))))) (pe_cmpR op_eq (pe_call G__law_put hr__law_put rfl T.g__law_put F__law_put.kp b__law_put .nil pass0 (pa_cons (pv 4) (pa_cons (pe_slice sl_list (pv 6) (po_some pe_int) po_none) pa_nil))) (pv 7) (nomark _)) (nomark _))
              (pss_one (ps_ret pe_bl))
              pss_nil)
            (pss_cons (ps_if (pt_cmpR op_notBl (pe_call G_same_layout hr_same_layout rfl T.g_same_layout F_same_layout.kp b_same_layout .nil pass0 (pa_cons (pv 8) (pa_cons (pv 9) (pa_cons pe_str (pa_cons (pe_op op_cat (pv 6) (pe_lst (pa_cons (pe_tup (pa_cons pe_int (pa_cons pe_int (pa_cons pe_str pa_nil)))) pa_nil))) pa_nil))))) pe_bl (nomark _))
              (pss_one (ps_ret pe_bl))
              pss_nil)
            (pss_cons (ps_if (PW.pt (pw_and (pt_cmpR op_gt (pe_callB call_len rfl T.n_len (by decide +kernel) (pa_cons (pv 6) pa_nil)) pe_int (nomark _)) (pw_and1 (pt_cmpR op_gt (pe_ix (r := rIxT K) ix_tup (pe_ix (r := rIxL K) ix_list (pv 6) (pe_un un_neg pe_int) (fun _ _ => rfl)) pe_int (fun _ _ => rfl)) (pe_ix (r := rIxT K) ix_tup (pe_ix (r := rIxL K) ix_list (pv 6) pe_int (fun _ _ => rfl)) pe_int (fun _ _ => rfl)) (nomark _)))))
              (pss_one (ps_if (pt_cmpR op_notBl (pe_call G_same_layout hr_same_layout rfl T.g_same_layout F_same_layout.kp b_same_layout .nil pass0 (pa_cons (pv 8) (pa_cons (pv 9) (pa_cons pe_str (pa_cons (pe_revL (pv 6)) pa_nil))))) pe_bl (nomark _))
                (pss_one (ps_ret pe_bl))
                pss_nil))
              pss_nil)
            (pss_cons (ps_for PassesOwn.never rfl (pi_list (pe_lst (pa_cons pe_non (pa_cons pe_int (pa_cons pe_str (pa_cons (pe_lst (pa_cons pe_non pa_nil)) (pa_cons (pe_lst (pa_cons (pe_tup (pa_cons pe_int (pa_cons pe_int pa_nil))) pa_nil)) (pa_cons (pe_lst (pa_cons (pe_tup (pa_cons pe_int (pa_cons pe_int (pa_cons pe_int pa_nil)))) pa_nil)) (pa_cons (pe_lst (pa_cons (pe_tup (pa_cons pe_bl (pa_cons pe_int (pa_cons pe_str pa_nil)))) pa_nil)) (pa_cons (pe_lst (pa_cons (pe_tup (pa_cons pe_int (pa_cons pe_int (pa_cons pe_str pa_nil)))) pa_nil)) (pa_cons (pe_lst (pa_cons (pe_tup (pa_cons (pe_un un_neg pe_int) (pa_cons pe_int (pa_cons pe_str pa_nil)))) pa_nil)) (pa_cons pe_dnewK pa_nil)))))))))))) (pg_name (i := 10) sc.nd rfl (Or.inl rfl))
              (pss_one (ps_if (pt_cmpR op_notBl (pe_call G_same_layout hr_same_layout rfl T.g_same_layout F_same_layout.kp b_same_layout .nil pass0 (pa_cons (pv 8) (pa_cons (pv 8) (pa_cons pe_str (pa_cons (pv 10) pa_nil))))) pe_bl (nomark _))
                (pss_one (ps_ret pe_bl))
                pss_nil)))
            (pss_one (ps_for PassesOwn.never rfl (pi_list (pe_lst (pa_cons pe_non (pa_cons pe_str (pa_cons pe_int (pa_cons (pe_lst (pa_cons pe_str pa_nil)) (pa_cons (pe_tup (pa_cons pe_str pa_nil)) pa_nil))))))) (pg_name (i := 10) sc.nd rfl (Or.inl rfl))
              (pss_one (ps_if (pt_cmpR op_notBl (pe_call G_same_layout hr_same_layout rfl T.g_same_layout F_same_layout.kp b_same_layout .nil pass0 (pa_cons (pv 8) (pa_cons (pv 8) (pa_cons (pv 10) (pa_cons (pe_lst pa_nil) pa_nil))))) pe_bl (nomark _))
                (pss_one (ps_ret pe_bl))
                pss_nil))))))))))
            pss_nil))))))))))
      (pss_one (ps_ret pe_bl))), ?_⟩
    refine ⟨_, rfl, _, ns.length, rfl, .inl ⟨_, hS, by simp⟩, _, _, rfl, _, _, rfl, _, rfl, ?_, ?_, for_range (lo := 0) (fun i σ H1 => ∃ v1 v2 v3 v4 v5 v6 v7 v8 v9 v10 : Option V, σ = [some (.ref a), v1, v2, v3, v4, v5, v6, v7, v8, v9, v10] ∧ Same H H1) ?_ ?_ ?_⟩
    · split <;> split <;> omega
    · split <;> split <;> omega
    · exact ⟨_, _, _, _, _, _, _, _, _, _, rfl, Same.refl H⟩
    rotate_left
    · rintro σ H2 ⟨v1, v2, v3, v4, v5, v6, v7, v8, v9, v10, rfl, S2⟩
      exact kq _
    · rintro i σ H1 hi ⟨v1, v2, v3, v4, v5, v6, v7, v8, v9, v10, rfl, S1⟩
      have hi3 : i < 6 := by
        revert hi
        split <;> split <;> omega
      refine ⟨_, rfl, _, rfl, a, _, ns, rfl, S1.seq hS, by omega, by omega, fun pl x y npl hpl => ?_⟩
      refine ⟨6, rfl, by decide, by decide, for_range (lo := 0) (fun j σ H2 => ∃ v1 v3 v4 v5 v6 v7 v8 v9 v10 : Option V, σ = [some (.ref a), v1, some (.ref pl), v3, v4, v5, v6, v7, v8, v9, v10] ∧ Keep pl (upd H1 pl (.lst [.int x, .int y])) H2 ∧ PoolAt H2 pl) ?_ ?_ ?_⟩
      · exact ⟨_, _, _, _, _, _, _, _, _, rfl, fun _ _ _ e => e, hpl⟩
      rotate_left
      · rintro σ H2 ⟨u1, u3, u4, u5, u6, u7, u8, u9, u10, rfl, k2, p2⟩
        exact ⟨_, _, _, _, _, _, _, _, _, _, rfl, fun b o e => k2 b o (ne_of_none (S1 _ _ e) npl) (by rw [upd_ne (ne_of_none (S1 _ _ e) npl)]; exact S1 _ _ e)⟩
      · generalize upd H1 pl (.lst [.int x, .int y]) = H0 at hpl ⊢
        rintro j σ H2 hj ⟨u1, u3, u4, u5, u6, u7, u8, u9, u10, rfl, k2, p2⟩
        refine ⟨⟨_, rfl⟩, 12, rfl, by decide, by decide, fun D hD => lc_range (lo := 0) (n := 12) (fun j H3 => ∃ cs : List Nat, cs.length = j ∧ (∀ c ∈ cs, c ∈ [97, 98, 99, 32, 35]) ∧ H3 D = some (.lst (cs.map fun c => V.str (S [c]))) ∧ Keep pl H2 H3 ∧ PoolAt H3 pl) ?_ ?_ ?_⟩
        · have SD := same_new (o := .lst []) hD
          exact ⟨[], rfl, by simp, upd_same, Keep.of SD, pool_same p2 SD⟩
        · rintro m H3 hm ⟨cs, hl3, hm3, hD3, k3, p3⟩
          have nD := pool_ne p2 hD
          refine ⟨rfl, yes_if ?_⟩
          refine ⟨_, rfl, pl, 5, rfl, p3, by decide, by decide, fun r o3 e0 e1 hp' _ => ?_⟩
          obtain ⟨c, hc, hat⟩ := nat_menu (cs := [97, 98, 99, 32, 35]) e0 (by exact e1)
          refine ⟨_, _, c, rfl, rfl, (by show 5 ≤ sizeLine; decide), (by rw [abc_eq]; exact hat), _, by rw [upd_ne nD]; exact hD3, (by rw [List.length_map, hl3, sizeLine_eq]; omega), cs ++ [c], by rw [List.length_append, hl3]; rfl, fun z hz => (List.mem_append.mp hz).elim (hm3 z) (fun q => by rw [List.mem_singleton.mp q]; exact hc), ?_, ?_, ?_⟩
          · rw [upd_same, List.map_append]; rfl
          · intro b o' nb e
            by_cases hb : b = D
            · subst hb
              rw [hD] at e; cases e
            · rw [upd_ne hb, upd_ne nb]; exact k3 b o' nb e
          · obtain ⟨qa, qb, qe, qr⟩ := hp'
            exact ⟨qa, qb, by rw [upd_ne (Ne.symm nD)]; exact qe, qr⟩
        · rintro H3 ⟨cs, hl3, hm3, hD3, k3, p3⟩
          refine ⟨_, D, cs.map fun c => S [c], rfl, rfl, .inl (SqL.of (by rw [List.map_map]; exact hD3)), ?_, ?_⟩
          · rw [sum_chars]
            have : (Str.ofString "").length = 0 := by decide +kernel
            rw [this, Nat.mul_zero]
            omega
          rw [join_chars, hash_eq2]
          refine ⟨_, _, rfl, rfl, (by rw [S_len, S_len, sizeLine_eq, hl3]; decide), ?_⟩
          rw [S_append]
          have htl : ([35] ++ cs).length = 13 := by rw [List.length_append, hl3]; rfl
          have htn : ∀ c ∈ [35] ++ cs, c ≠ 10 := by
            intro c hc
            rcases List.mem_append.mp hc with hc | hc
            · rw [List.mem_singleton.mp hc]; decide
            · intro z; subst z; exact absurd (hm3 _ hc) (by decide)
          have ht35 : ∃ t', [35] ++ cs = 35 :: t' := ⟨cs, rfl⟩
          clear hD3
          generalize [35] ++ cs = t at htl htn ht35 ⊢
          refine ⟨_, rfl, pl, rfl, p3, fun p ps H4 k4 p4 hps hl hin => ?_⟩
          have kk4 := k3.trans k4
          clear k3 k4 p3
          dsimp only [gName]
          refine seq_by (fun σ' H' => ∃ (p' : Addr) (ps' : List (Addr × Pn)) (w1 w3 w5 w7 w8 w9 w10 : Option V), σ' = [some (.ref a), w1, some (.ref pl), w3, some (.str (S t)), w5, some (.ref p'), w7, w8, w9, w10] ∧ Same H4 H' ∧ PcsAt H' p' ps' ∧ ps'.length ≤ 3 ∧ InO 13 0 (ps'.map (·.2))) ?_ ?_
          · intro N hN
            refine ⟨_, rfl, (by show 0 ≤ sizeLine; decide), fun b hb => ?_⟩
            have Sb := same_new (o := .lst []) hb
            have eb : upd H4 b (.lst []) b = some (.lst []) := upd_same
            generalize upd H4 b (.lst []) = H5 at Sb eb ⊢
            have hps5 := hps.same Sb
            refine ⟨.list (ps.map fun q => pnD q.2), .list [], .lst (SqL.of hps5.1) (dp_pcs hps5.2), .lst (SqL.of eb) .nil, shape_pcs (fun q hq => (hin.mem q.2 (List.mem_map.mpr ⟨q, hq, rfl⟩)).1), rfl, _, rfl, ?_⟩
            match ps, hps5, hl, hin with
            | [], hps5, hl, hin =>
              refine iteF ?_
              exact hN _ _ ⟨p, [], _, _, _, _, _, _, _, rfl, Sb, hps5, hl, hin⟩
            | (ad, a1, b1, pc) :: ps, hps5, hl, hin =>
              refine iteT ?_
              have ht := hps5.2 _ List.mem_cons_self
              refine ⟨_, rfl, p, _, _, _, rfl, rfl, SqL.of hps5.1, atI_nat (j := 0) rfl, _, rfl, ad, _, rfl, SqT.of ht, (fun z => absurd z.2 (show ¬ HT.sIx 3 3 (some 2) = 3 by decide +kernel)), fun c hc => ?_⟩
              have Sc := same_new (o := .tup (cutV [V.int (a1 : Int), V.int (b1 : Int), V.str (S pc)] none (some 2))) hc
              have ec : upd H5 c (.tup (cutV [V.int (a1 : Int), V.int (b1 : Int), V.str (S pc)] none (some 2))) c = some (.tup [V.int (a1 : Int), V.int (b1 : Int)]) := upd_same
              refine ⟨(by show 2 ≤ sizeLine; decide), fun d hd => ?_⟩
              have Sd := same_new (o := .tup [V.int 0, V.int 1]) hd
              refine ⟨.tuple [.int (a1 : Int), .int (b1 : Int)], .tuple [.int 0, .int 1], .tup (SqT.of (Sd _ _ ec)) (.cons (.int _) (.cons (.int _) .nil)), .tup (SqT.of upd_same) (.cons (.int _) (.cons (.int _) .nil)), rfl, rfl, _, rfl, ?_⟩
              have S6 := (Sb.trans Sc).trans Sd
              have hps6 := (hps5.same Sc).same Sd
              refine ite2 (fun _ => ?_) (fun _ => ?_)
              · refine ⟨_, rfl, _, rfl, p, _, rfl, SqL.of hps6.1, fun r hr => ?_⟩
                have Sr := same_new (o := .lst (cutV (((ad, a1, b1, pc) :: ps).map fun q => V.ref q.1) (some 1) none)) hr
                refine hN _ _ ⟨r, ps, _, _, _, _, _, _, _, rfl, S6.trans Sr, ⟨?_, fun q hq => Sr _ _ (hps6.2 q (List.mem_cons_of_mem _ hq))⟩, Nat.le_of_succ_le hl, (hin.cons.2.2.2.2).low (Nat.zero_le _)⟩
                rw [upd_same, cutV_1]; rfl
              · exact hN _ _ ⟨p, (ad, a1, b1, pc) :: ps, _, _, _, _, _, _, _, rfl, S6, hps6, hl, hin⟩
          · clear hps hl hin
            rintro σ' H5 ⟨p', ps', w1, w3, w5, w7, w8, w9, w10, rfl, S5, hps, hl, hin⟩
            have hin13 : InO t.length 0 (ps'.map (·.2)) := by rw [htl]; exact hin
            have hm4 : ∀ q ∈ ps', q.2.2.2.length ≤ 4 := fun q hq => menu_len _ (hin.mem q.2 (List.mem_map.mpr ⟨q, hq, rfl⟩)).1
            refine ⟨_, rfl, _, rfl, p', t, ps', rfl, hps, (by omega), (by omega), (fun q hq => Nat.le_trans (hm4 q hq) (by decide)), fun H6 S6 => ?_⟩
            dsimp only [gName]
            have hnl : nlok (putF t (ps'.map (·.2))) = true := nlok_fits htn (ps'.map (·.2)) 0 [] _ hin13 rfl (fits_put t _ 0 [] hin13 (Nat.zero_le _))
            have hml : (putF t (ps'.map (·.2))).length ≤ 5000 := by
              have := put_len t _ hin13
              rw [List.length_map] at this
              omega
            generalize hmd : putF t (ps'.map (·.2)) = made at hnl hml ⊢
            have hps6 := hps.same S6
            have S46 := S5.trans S6
            have fin : ∀ (σ' : L2.St) (H' : Hp), (∃ w1 w3 w4 w5 w6 w7 w8 w9 w10 : Option V, σ' = [some (.ref a), w1, some (.ref pl), w3, w4, w5, w6, w7, w8, w9, w10] ∧ Same H4 H') → (∃ v1 v3 v4 v5 v6 v7 v8 v9 v10 : Option V, σ' = [some (.ref a), v1, some (.ref pl), v3, v4, v5, v6, v7, v8, v9, v10] ∧ Keep pl H0 H' ∧ PoolAt H' pl) := by
              rintro σ' H' ⟨w1, w3, w4, w5, w6, w7, w8, w9, w10, rfl, S'⟩
              exact ⟨_, _, _, _, _, _, _, _, _, rfl, (k2.trans kk4).trans (Keep.of S'), pool_same p4 S'⟩
            refine ⟨_, rfl, _, rfl, _, rfl, (by rw [S_len, sizeLine_eq]; omega), rfl, _, rfl, ?_⟩
            refine ite2 (fun c1 => ?_) (fun _ => fin _ _ ⟨_, _, _, _, _, _, _, _, _, rfl, S46⟩)
            have c1 : cutS (S made) none (some ((1 : Nat) : Int)) = S [35] := V.str.inj (of_decide_eq_true c1)
            rw [cutS_start] at c1
            have c1 := S_inj c1
            obtain ⟨m', rfl⟩ : ∃ m', made = 35 :: m' := by
              match made, c1 with
              | [], c1 => cases c1
              | x :: m', c1 =>
                have : x = 35 := by simpa using c1
                exact ⟨m', by rw [this]⟩
            have hbm := allBl_of hnl
            obtain ⟨t', rfl⟩ := ht35
            have hbt : AllBl (35 :: t') := allBl_of (nlok_no htn)
            refine ⟨_, rfl, rfl, _, _, rfl, rfl, _, rfl, rfl, _, _, rfl, rfl, rfl, _, rfl, ?_⟩
            refine ite2 (fun _ => ?_) (fun _ => fin _ _ ⟨_, _, _, _, _, _, _, _, _, rfl, S46⟩)
            refine seq_by (fun σ' H' => ∃ (o n : Addr) (w1 w3 w5 w10 : Option V), σ' = [some (.ref a), w1, some (.ref pl), w3, some (.str (S (35 :: t'))), w5, some (.ref p'), some (.str (S (35 :: m'))), some (.ref o), some (.ref n), w10] ∧ Same H6 H' ∧ Prj K H' o (35 :: t') ∧ Prj K H' n (35 :: m')) ?_ ?_
            · intro N hN
              refine fun d hd => ⟨_, rfl, upd_same, mnD (35 :: t'), (by rw [emp_eq]; rfl), by show 2 ≤ 15; decide, ?_⟩
              have ed : upd (upd H6 d (.dK [])) d (.dK (mergeK [] (mnD (35 :: t')))) d = some (.dK (mnD (35 :: t'))) := upd_same
              have Sd : Same H6 (upd (upd H6 d (.dK [])) d (.dK (mergeK [] (mnD (35 :: t'))))) := fun b o e => by rw [upd_ne (ne_of_none e hd), upd_ne (ne_of_none e hd)]; exact e
              generalize upd (upd H6 d (.dK [])) d (.dK (mergeK [] (mnD (35 :: t')))) = H7 at ed Sd ⊢
              refine fun o odx ho hodx hne => ⟨o, odx, d, 35 :: t', rfl, upd_same, (by rw [upd_ne (ne_of_none ed ho), upd_ne (ne_of_none ed hodx)]; exact ed), (by rw [htl]; decide), hbt, fun H8 k8 P8 => ⟨rfl, ?_⟩⟩
              have S8 : Same H7 H8 := fun b u e => k8 b u (ne_of_none e ho) (by rw [upd_ne (ne_of_none e ho), upd_ne (ne_of_none e hodx)]; exact e)
              refine fun d2 hd2 => ⟨_, rfl, upd_same, mnD (35 :: m'), (by rw [emp_eq]; rfl), by show 2 ≤ 15; decide, ?_⟩
              have ed2 : upd (upd H8 d2 (.dK [])) d2 (.dK (mergeK [] (mnD (35 :: m')))) d2 = some (.dK (mnD (35 :: m'))) := upd_same
              have Sd2 : Same H8 (upd (upd H8 d2 (.dK [])) d2 (.dK (mergeK [] (mnD (35 :: m'))))) := fun b o e => by rw [upd_ne (ne_of_none e hd2), upd_ne (ne_of_none e hd2)]; exact e
              generalize upd (upd H8 d2 (.dK [])) d2 (.dK (mergeK [] (mnD (35 :: m')))) = H9 at ed2 Sd2 ⊢
              refine fun n ndx hn hndx hnne => ⟨n, ndx, d2, 35 :: m', rfl, upd_same, (by rw [upd_ne (ne_of_none ed2 hn), upd_ne (ne_of_none ed2 hndx)]; exact ed2), hml, hbm, fun H10 k10 P10 => ⟨rfl, ?_⟩⟩
              have S10 : Same H9 H10 := fun b u e => k10 b u (ne_of_none e hn) (by rw [upd_ne (ne_of_none e hn), upd_ne (ne_of_none e hndx)]; exact e)
              exact ⟨_, _, rfl, hN _ _ ⟨o, n, _, _, _, _, rfl, ((Sd.trans S8).trans Sd2).trans S10, P8.same (Sd2.trans S10), P10⟩⟩
            · rintro σ' H8 ⟨o, n, w1, w3, w5, w10, rfl, S8, P1, P2⟩
              have hps8 := hps6.same S8
              have S48 := S46.trans S8
              have vm : ∀ l, valV (mnD l) (.inr ("m" : Str)) = some (.str (S l)) := fun l => by rw [valV_mn, if_pos rfl]
              have vn : ∀ l, valV (mnD l) (.inr ("n" : Str)) = some (.str (S [])) := fun l => by rw [valV_mn, if_neg (by decide +kernel), if_pos rfl]
              have ltl : (35 :: t').length ≤ 5000 := by rw [htl]; decide
              clear S8 S46 hps6 hps S5 S6
              refine seq_by (fun σ' H' => ∃ (w1 w3 w5 w10 : Option V), σ' = [some (.ref a), w1, some (.ref pl), w3, some (.str (S (35 :: t'))), w5, some (.ref p'), some (.str (S (35 :: m'))), some (.ref o), some (.ref n), w10] ∧ Same H8 H') ?_ ?_
              · intro N hN
                have r1 : resB (35 :: t') (35 :: m') ((ps'.map (·.2)).map toPc) = true := by rw [res_put _ hin13, hmd]; exact decide_eq_true rfl
                have s1 : SL K H8 (35 :: t') (35 :: m') (.str "m") (.ref p') true := by
                  have := sl_run (K := K) (vm (35 :: t')) (vm (35 :: m')) hps8 ltl (by omega) (fun q hq => Nat.le_trans (hm4 q hq) (by decide))
                  rw [r1] at this
                  exact this
                refine ⟨_, rfl, _, rfl, _, rfl, o, n, _, _, _, _, _, rfl, P1, P2, s1, fun H9 S9 => ⟨_, _, rfl, rfl, _, rfl, ?_⟩⟩
                refine iteF ?_
                refine ⟨_, rfl, _, rfl, (by show 0 ≤ sizeLine; decide), fun e he => ?_⟩
                have Se := same_new (o := .lst []) he
                have s2 : SL K (upd H9 e (.lst [])) (35 :: t') (35 :: m') (.str "n") (.ref e) true := sl_run (K := K) (ps := []) (t1 := []) (t2 := []) (vn _) (vn _) ⟨upd_same, fun _ h => by cases h⟩ (by decide) (by decide) (fun _ h => by cases h)
                refine ⟨o, n, _, _, _, _, _, rfl, (P1.same S9).same Se, (P2.same S9).same Se, s2, fun H10 S10 => ⟨_, _, rfl, rfl, _, rfl, ?_⟩⟩
                refine iteF ?_
                exact hN _ _ ⟨_, _, _, _, rfl, (S9.trans Se).trans S10⟩
              · rintro σ' H9 ⟨w1, w3, w5, w10, rfl, S9⟩
                refine seq_by (fun σ' H' => ∃ (w1 w3 w5 w10 : Option V), σ' = [some (.ref a), w1, some (.ref pl), w3, some (.str (S (35 :: t'))), w5, some (.ref p'), some (.str (S (35 :: m'))), some (.ref o), some (.ref n), w10] ∧ Same H8 H') ?_ ?_
                · intro N hN
                  have hps9 := hps8.same S9
                  refine ⟨_, rfl, _, rfl, _, rfl, _, rfl, p', _, rfl, SqL.of hps9.1, fun r hr => ?_⟩
                  have er : upd H9 r (.lst (cutV (ps'.map fun q => V.ref q.1) (some 1) none)) r = some (.lst ((ps'.drop 1).map fun q => V.ref q.1)) := by rw [upd_same, cutV_1, List.map_drop]
                  have Sr := same_new (o := .lst (cutV (ps'.map fun q => V.ref q.1) (some 1) none)) hr
                  generalize upd H9 r (.lst (cutV (ps'.map fun q => V.ref q.1) (some 1) none)) = Hr at er Sr ⊢
                  have hpr : PcsAt Hr r (ps'.drop 1) := ⟨er, fun q hq => Sr _ _ (hps9.2 q (List.mem_of_mem_drop hq))⟩
                  have hind : InO (35 :: t').length 0 ((ps'.drop 1).map (·.2)) := by rw [List.map_drop]; exact hin13.tail
                  have s1 := sl_run (K := K) (vm (35 :: t')) (vm (35 :: m')) hpr ltl (by rw [List.length_drop]; omega) (fun q hq => Nat.le_trans (hm4 q (List.mem_of_mem_drop hq)) (by decide))
                  rw [res_put _ hind] at s1
                  refine ⟨o, n, _, _, _, _, _, rfl, (P1.same S9).same Sr, (P2.same S9).same Sr, s1, fun H10 S10 => ?_⟩
                  have hps10 := (hps9.same Sr).same S10
                  refine ⟨_, rfl, _, rfl, _, rfl, p', _, rfl, SqL.of hps10.1, fun r2 hr2 => ?_⟩
                  have er2 : upd H10 r2 (.lst (cutV (ps'.map fun q => V.ref q.1) (some 1) none)) r2 = some (.lst ((ps'.drop 1).map fun q => V.ref q.1)) := by rw [upd_same, cutV_1, List.map_drop]
                  have Sr2 := same_new (o := .lst (cutV (ps'.map fun q => V.ref q.1) (some 1) none)) hr2
                  generalize upd H10 r2 (.lst (cutV (ps'.map fun q => V.ref q.1) (some 1) none)) = Hr2 at er2 Sr2 ⊢
                  refine ⟨r2, 35 :: t', ps'.drop 1, rfl, ⟨er2, fun q hq => Sr2 _ _ (hps10.2 q (List.mem_of_mem_drop hq))⟩, (by rw [htl]; decide), (by rw [List.length_drop]; omega), (fun q hq => Nat.le_trans (hm4 q (List.mem_of_mem_drop hq)) (by decide)), fun H11 S11 => ?_⟩
                  refine ⟨_, rfl, rfl, rfl, _, rfl, ?_⟩
                  have e : decide (putF (35 :: t') ((ps'.drop 1).map (·.2)) = 35 :: m') = decide (V.str (S (putF (35 :: t') ((ps'.drop 1).map (·.2)))) = V.str (S (35 :: m'))) := by
                    by_cases h : putF (35 :: t') ((ps'.drop 1).map (·.2)) = 35 :: m'
                    · rw [h, decide_eq_true rfl, decide_eq_true rfl]
                    · rw [decide_eq_false h, decide_eq_false (fun z => h (S_inj (V.str.inj z)))]
                  rw [e]
                  refine iteNS rfl ?_
                  exact hN _ _ ⟨_, _, _, _, rfl, S9.trans (((Sr.trans S10).trans Sr2).trans S11)⟩
                · clear S9
                  rintro σ' H9 ⟨w1, w3, w5, w10, rfl, S9⟩
                  refine seq_by (fun σ' H' => ∃ (w1 w3 w5 w10 : Option V), σ' = [some (.ref a), w1, some (.ref pl), w3, some (.str (S (35 :: t'))), w5, some (.ref p'), some (.str (S (35 :: m'))), some (.ref o), some (.ref n), w10] ∧ Same H8 H') ?_ ?_
                  · intro N hN
                    have hps9 := hps8.same S9
                    refine ⟨_, rfl, _, rfl, _, rfl, (by show 3 ≤ sizeLine; decide), fun tt htt => ⟨(by show 1 ≤ sizeLine; decide), fun ll hll => ?_⟩⟩
                    have St := same_new (o := .tup [.int 14, .int 14, .str (Str.ofString "")]) htt
                    have et : upd H9 tt (.tup [.int 14, .int 14, .str (Str.ofString "")]) tt = some (.tup [.int 14, .int 14, .str (S [])]) := by rw [upd_same, emp_eq]
                    generalize upd H9 tt (.tup [.int 14, .int 14, .str (Str.ofString "")]) = Ht at St et hll ⊢
                    have Sl := same_new (o := .lst [.ref tt]) hll
                    have el : upd Ht ll (.lst [.ref tt]) ll = some (.lst [.ref tt]) := upd_same
                    generalize upd Ht ll (.lst [.ref tt]) = Hl at Sl el ⊢
                    have hpsl := (hps9.same St).same Sl
                    refine ⟨p', ll, _, _, rfl, rfl, hpsl.1, el, (by rw [List.length_map, sizeLine_eq]; show _ + 1 ≤ _; omega), fun r hr => ?_⟩
                    have Sr := same_new (o := .lst ((ps'.map fun q => V.ref q.1) ++ [.ref tt])) hr
                    have er : upd Hl r (.lst ((ps'.map fun q => V.ref q.1) ++ [.ref tt])) r = some (.lst ((ps' ++ [((tt, 14, 14, []) : Addr × Pn)]).map fun q => V.ref q.1)) := by rw [upd_same, List.map_append]; rfl
                    generalize upd Hl r (.lst ((ps'.map fun q => V.ref q.1) ++ [.ref tt])) = Hr at Sr er ⊢
                    have hpr : PcsAt Hr r (ps' ++ [((tt, 14, 14, []) : Addr × Pn)]) := ⟨er, fun q hq => by
                      rcases List.mem_append.mp hq with hq | hq
                      · exact Sr _ _ (hpsl.2 q hq)
                      · rw [List.mem_singleton.mp hq]; exact Sr _ _ (Sl _ _ et)⟩
                    have r1 : resB (35 :: t') (35 :: m') (((ps' ++ [((tt, 14, 14, []) : Addr × Pn)]).map (·.2)).map toPc) = false := by
                      refine res_none ?_
                      rw [List.map_append, List.map_append]
                      exact fits_bad _ ((14 : Int), (14 : Int), ([] : List Nat)) (by rw [htl]; decide) _ _ _
                    have s1 := sl_run (K := K) (vm (35 :: t')) (vm (35 :: m')) hpr ltl (by rw [List.length_append]; show _ + 1 ≤ _; omega) (fun q hq => by
                      rcases List.mem_append.mp hq with hq | hq
                      · exact Nat.le_trans (hm4 q hq) (by decide)
                      · rw [List.mem_singleton.mp hq]; show 0 ≤ 100; decide)
                    rw [r1] at s1
                    have SS := (St.trans Sl).trans Sr
                    refine ⟨o, n, _, _, _, _, _, rfl, (P1.same S9).same SS, (P2.same S9).same SS, s1, fun H10 S10 => ⟨_, _, rfl, rfl, _, rfl, ?_⟩⟩
                    refine iteF ?_
                    exact hN _ _ ⟨_, _, _, _, rfl, (S9.trans SS).trans S10⟩
                  · clear S9
                    rintro σ' H9 ⟨w1, w3, w5, w10, rfl, S9⟩
                    refine seq_by (fun σ' H' => ∃ (w1 w3 w5 w10 : Option V), σ' = [some (.ref a), w1, some (.ref pl), w3, some (.str (S (35 :: t'))), w5, some (.ref p'), some (.str (S (35 :: m'))), some (.ref o), some (.ref n), w10] ∧ Same H8 H') ?_ ?_
                    · intro N hN
                      have hps9 := hps8.same S9
                      refine ⟨_, rfl, _, _, rfl, .inl ⟨_, SqL.of hps9.1, rfl⟩, _, _, rfl, rfl, _, rfl, ?_⟩
                      refine ite2 (fun c2 => ?_) (fun _ => hN _ _ ⟨_, _, _, _, rfl, S9⟩)
                      have c2 : (1 : Int) < (((ps'.map fun q => V.ref q.1).length : Nat) : Int) := of_decide_eq_true c2
                      rw [List.length_map] at c2
                      obtain ⟨x1, mid, y1, hxy⟩ : ∃ x1 mid y1, ps' = x1 :: mid ++ [y1] := by
                        match ps', c2 with
                        | x1 :: r, c2 =>
                          have hr : r ≠ [] := fun z => by subst z; exact absurd c2 (show ¬ (1 : Int) < ((1 : Nat) : Int) by decide)
                          exact ⟨x1, r.dropLast, r.getLast hr, by rw [List.cons_append, List.dropLast_concat_getLast hr]⟩
                      have hx1 := hps9.2 x1 (by rw [hxy]; simp)
                      have hy1 := hps9.2 y1 (by rw [hxy]; simp)
                      have lx : (ps'.map fun q => V.ref q.1).length = ps'.length := List.length_map _
                      have ln : ps'.length = mid.length + 2 := by rw [hxy, List.length_append]; simp
                      have atl : atI (ps'.map fun q => V.ref q.1) (-1) = some (.ref y1.1) := by
                        rw [hxy, List.map_append]
                        exact atI_last _ _
                      have atf : atI (ps'.map fun q => V.ref q.1) 0 = some (.ref x1.1) := by
                        rw [hxy]
                        exact atI_nat (j := 0) rfl
                      refine ⟨_, rfl, _, rfl, p', _, _, _, rfl, rfl, SqL.of hps9.1, atl, y1.1, _, _, _, rfl, rfl, SqT.of hy1, atI_nat (j := 1) rfl, _, rfl, p', _, _, _, rfl, rfl, SqL.of hps9.1, atf, x1.1, _, _, _, rfl, rfl, SqT.of hx1, atI_nat (j := 0) rfl, _, _, rfl, rfl, _, rfl, ?_⟩
                      refine ite2 (fun c3 => ?_) (fun _ => hN _ _ ⟨_, _, _, _, rfl, S9⟩)
                      have c3 : (x1.2.1 : Int) < (y1.2.2.1 : Int) := of_decide_eq_true c3
                      refine ⟨_, rfl, _, rfl, _, rfl, p', _, rfl, SqL.of hps9.1, fun r hr => ?_⟩
                      have Sr := same_new (o := .lst (ps'.map fun q => V.ref q.1).reverse) hr
                      have er : upd H9 r (.lst (ps'.map fun q => V.ref q.1).reverse) r = some (.lst (ps'.reverse.map fun q => V.ref q.1)) := by rw [upd_same, List.map_reverse]
                      generalize upd H9 r (.lst (ps'.map fun q => V.ref q.1).reverse) = Hr at Sr er ⊢
                      have hpr : PcsAt Hr r ps'.reverse := ⟨er, fun q hq => Sr _ _ (hps9.2 q (List.mem_reverse.mp hq))⟩
                      have r1 : resB (35 :: t') (35 :: m') ((ps'.reverse.map (·.2)).map toPc) = false := by
                        rw [List.map_reverse, List.map_reverse, hxy, List.map_append, List.map_append]
                        exact res_rev (x := toPc x1.2) (y := toPc y1.2) (by show ¬ (y1.2.2.1 : Int) ≤ (x1.2.1 : Int); omega)
                      have s1 := sl_run (K := K) (vm (35 :: t')) (vm (35 :: m')) hpr ltl (by rw [List.length_reverse]; omega) (fun q hq => Nat.le_trans (hm4 q (List.mem_reverse.mp hq)) (by decide))
                      rw [r1] at s1
                      refine ⟨o, n, _, _, _, _, _, rfl, (P1.same S9).same Sr, (P2.same S9).same Sr, s1, fun H10 S10 => ⟨_, _, rfl, rfl, _, rfl, ?_⟩⟩
                      refine iteF ?_
                      exact hN _ _ ⟨_, _, _, _, rfl, (S9.trans Sr).trans S10⟩
                    · clear S9
                      rintro σ' H9 ⟨w1, w3, w5, w10, rfl, S9⟩
                      refine seq_by (fun σ' H' => ∃ (w1 w3 w5 w10 : Option V), σ' = [some (.ref a), w1, some (.ref pl), w3, some (.str (S (35 :: t'))), w5, some (.ref p'), some (.str (S (35 :: m'))), some (.ref o), some (.ref n), w10] ∧ Same H8 H') ?_ ?_
                      · intro N hN
                        refine ⟨(by show 1 ≤ sizeLine; decide), fun q3 hq3 => ?_⟩
                        have Sq3 := same_new (o := .lst [.non]) hq3
                        have eq3 : upd H9 q3 (.lst [.non]) q3 = some (.lst [.non]) := upd_same
                        generalize upd H9 q3 (.lst [.non]) = Aq3 at Sq3 eq3 ⊢
                        refine ⟨(by show 2 ≤ sizeLine; decide), fun t4 ht4 => ?_⟩
                        have St4 := same_new (o := .tup [.int 0, .int 0]) ht4
                        have et4 : upd Aq3 t4 (.tup [.int 0, .int 0]) t4 = some (.tup [.int 0, .int 0]) := upd_same
                        generalize upd Aq3 t4 (.tup [.int 0, .int 0]) = At4 at St4 et4 ⊢
                        replace eq3 := St4 _ _ eq3
                        refine ⟨(by show 1 ≤ sizeLine; decide), fun q4 hq4 => ?_⟩
                        have Sq4 := same_new (o := .lst [.ref t4]) hq4
                        have eq4 : upd At4 q4 (.lst [.ref t4]) q4 = some (.lst [.ref t4]) := upd_same
                        generalize upd At4 q4 (.lst [.ref t4]) = Aq4 at Sq4 eq4 ⊢
                        replace eq3 := Sq4 _ _ eq3
                        replace et4 := Sq4 _ _ et4
                        refine ⟨(by show 3 ≤ sizeLine; decide), fun t5 ht5 => ?_⟩
                        have St5 := same_new (o := .tup [.int 0, .int 0, .int 1]) ht5
                        have et5 : upd Aq4 t5 (.tup [.int 0, .int 0, .int 1]) t5 = some (.tup [.int 0, .int 0, .int 1]) := upd_same
                        generalize upd Aq4 t5 (.tup [.int 0, .int 0, .int 1]) = At5 at St5 et5 ⊢
                        replace eq3 := St5 _ _ eq3
                        replace et4 := St5 _ _ et4
                        replace eq4 := St5 _ _ eq4
                        refine ⟨(by show 1 ≤ sizeLine; decide), fun q5 hq5 => ?_⟩
                        have Sq5 := same_new (o := .lst [.ref t5]) hq5
                        have eq5 : upd At5 q5 (.lst [.ref t5]) q5 = some (.lst [.ref t5]) := upd_same
                        generalize upd At5 q5 (.lst [.ref t5]) = Aq5 at Sq5 eq5 ⊢
                        replace eq3 := Sq5 _ _ eq3
                        replace et4 := Sq5 _ _ et4
                        replace eq4 := Sq5 _ _ eq4
                        replace et5 := Sq5 _ _ et5
                        refine ⟨(by show 3 ≤ sizeLine; decide), fun t6 ht6 => ?_⟩
                        have St6 := same_new (o := .tup [.bl true, .int 1, .str (Str.ofString "")]) ht6
                        have et6 : upd Aq5 t6 (.tup [.bl true, .int 1, .str (Str.ofString "")]) t6 = some (.tup [.bl true, .int 1, .str (Str.ofString "")]) := upd_same
                        generalize upd Aq5 t6 (.tup [.bl true, .int 1, .str (Str.ofString "")]) = At6 at St6 et6 ⊢
                        replace eq3 := St6 _ _ eq3
                        replace et4 := St6 _ _ et4
                        replace eq4 := St6 _ _ eq4
                        replace et5 := St6 _ _ et5
                        replace eq5 := St6 _ _ eq5
                        refine ⟨(by show 1 ≤ sizeLine; decide), fun q6 hq6 => ?_⟩
                        have Sq6 := same_new (o := .lst [.ref t6]) hq6
                        have eq6 : upd At6 q6 (.lst [.ref t6]) q6 = some (.lst [.ref t6]) := upd_same
                        generalize upd At6 q6 (.lst [.ref t6]) = Aq6 at Sq6 eq6 ⊢
                        replace eq3 := Sq6 _ _ eq3
                        replace et4 := Sq6 _ _ et4
                        replace eq4 := Sq6 _ _ eq4
                        replace et5 := Sq6 _ _ et5
                        replace eq5 := Sq6 _ _ eq5
                        replace et6 := Sq6 _ _ et6
                        refine ⟨(by show 3 ≤ sizeLine; decide), fun t7 ht7 => ?_⟩
                        have St7 := same_new (o := .tup [.int 2, .int 1, .str (Str.ofString "")]) ht7
                        have et7 : upd Aq6 t7 (.tup [.int 2, .int 1, .str (Str.ofString "")]) t7 = some (.tup [.int 2, .int 1, .str (Str.ofString "")]) := upd_same
                        generalize upd Aq6 t7 (.tup [.int 2, .int 1, .str (Str.ofString "")]) = At7 at St7 et7 ⊢
                        replace eq3 := St7 _ _ eq3
                        replace et4 := St7 _ _ et4
                        replace eq4 := St7 _ _ eq4
                        replace et5 := St7 _ _ et5
                        replace eq5 := St7 _ _ eq5
                        replace et6 := St7 _ _ et6
                        replace eq6 := St7 _ _ eq6
                        refine ⟨(by show 1 ≤ sizeLine; decide), fun q7 hq7 => ?_⟩
                        have Sq7 := same_new (o := .lst [.ref t7]) hq7
                        have eq7 : upd At7 q7 (.lst [.ref t7]) q7 = some (.lst [.ref t7]) := upd_same
                        generalize upd At7 q7 (.lst [.ref t7]) = Aq7 at Sq7 eq7 ⊢
                        replace eq3 := Sq7 _ _ eq3
                        replace et4 := Sq7 _ _ et4
                        replace eq4 := Sq7 _ _ eq4
                        replace et5 := Sq7 _ _ et5
                        replace eq5 := Sq7 _ _ eq5
                        replace et6 := Sq7 _ _ et6
                        replace eq6 := Sq7 _ _ eq6
                        replace et7 := Sq7 _ _ et7
                        refine ⟨_, rfl, ?_⟩
                        refine ⟨(by show 3 ≤ sizeLine; decide), fun t8 ht8 => ?_⟩
                        have St8 := same_new (o := .tup [.int (-1), .int 0, .str (Str.ofString "")]) ht8
                        have et8 : upd Aq7 t8 (.tup [.int (-1), .int 0, .str (Str.ofString "")]) t8 = some (.tup [.int (-1), .int 0, .str (Str.ofString "")]) := upd_same
                        generalize upd Aq7 t8 (.tup [.int (-1), .int 0, .str (Str.ofString "")]) = At8 at St8 et8 ⊢
                        replace eq3 := St8 _ _ eq3
                        replace et4 := St8 _ _ et4
                        replace eq4 := St8 _ _ eq4
                        replace et5 := St8 _ _ et5
                        replace eq5 := St8 _ _ eq5
                        replace et6 := St8 _ _ et6
                        replace eq6 := St8 _ _ eq6
                        replace et7 := St8 _ _ et7
                        replace eq7 := St8 _ _ eq7
                        refine ⟨(by show 1 ≤ sizeLine; decide), fun q8 hq8 => ?_⟩
                        have Sq8 := same_new (o := .lst [.ref t8]) hq8
                        have eq8 : upd At8 q8 (.lst [.ref t8]) q8 = some (.lst [.ref t8]) := upd_same
                        generalize upd At8 q8 (.lst [.ref t8]) = Aq8 at Sq8 eq8 ⊢
                        replace eq3 := Sq8 _ _ eq3
                        replace et4 := Sq8 _ _ et4
                        replace eq4 := Sq8 _ _ eq4
                        replace et5 := Sq8 _ _ et5
                        replace eq5 := Sq8 _ _ eq5
                        replace et6 := Sq8 _ _ et6
                        replace eq6 := Sq8 _ _ eq6
                        replace et7 := Sq8 _ _ et7
                        replace eq7 := Sq8 _ _ eq7
                        replace et8 := Sq8 _ _ et8
                        refine fun q9 hq9 => ?_
                        have Sq9 := same_new (o := .dK []) hq9
                        have eq9 : upd Aq8 q9 (.dK []) q9 = some (.dK []) := upd_same
                        generalize upd Aq8 q9 (.dK []) = Aq9 at Sq9 eq9 ⊢
                        replace eq3 := Sq9 _ _ eq3
                        replace et4 := Sq9 _ _ et4
                        replace eq4 := Sq9 _ _ eq4
                        replace et5 := Sq9 _ _ et5
                        replace eq5 := Sq9 _ _ eq5
                        replace et6 := Sq9 _ _ et6
                        replace eq6 := Sq9 _ _ eq6
                        replace et7 := Sq9 _ _ et7
                        replace eq7 := Sq9 _ _ eq7
                        replace et8 := Sq9 _ _ et8
                        replace eq8 := Sq9 _ _ eq8
                        refine ⟨(by show 10 ≤ sizeLine; decide), fun zL hzL => ?_⟩
                        have SzL := same_new (o := .lst [.non, .int 5, .str (Str.ofString "x"), .ref q3, .ref q4, .ref q5, .ref q6, .ref q7, .ref q8, .ref q9]) hzL
                        have ezL : upd Aq9 zL (.lst [.non, .int 5, .str (Str.ofString "x"), .ref q3, .ref q4, .ref q5, .ref q6, .ref q7, .ref q8, .ref q9]) zL = some (.lst [.non, .int 5, .str (Str.ofString "x"), .ref q3, .ref q4, .ref q5, .ref q6, .ref q7, .ref q8, .ref q9]) := upd_same
                        generalize upd Aq9 zL (.lst [.non, .int 5, .str (Str.ofString "x"), .ref q3, .ref q4, .ref q5, .ref q6, .ref q7, .ref q8, .ref q9]) = AzL at SzL ezL ⊢
                        replace eq3 := SzL _ _ eq3
                        replace et4 := SzL _ _ et4
                        replace eq4 := SzL _ _ eq4
                        replace et5 := SzL _ _ et5
                        replace eq5 := SzL _ _ eq5
                        replace et6 := SzL _ _ et6
                        replace eq6 := SzL _ _ eq6
                        replace et7 := SzL _ _ et7
                        replace eq7 := SzL _ _ eq7
                        replace et8 := SzL _ _ et8
                        replace eq8 := SzL _ _ eq8
                        replace eq9 := SzL _ _ eq9
                        have SA := S9.trans (((((((((((((Sq3).trans St4).trans Sq4).trans St5).trans Sq5).trans St6).trans Sq6).trans St7).trans Sq7).trans St8).trans Sq8).trans Sq9).trans SzL)
                        rw [emp_eq] at et6 et7 et8
                        have hz : ∀ l, (valV (mnD l) (.inr ("m" : Str))).isSome = true := fun l => by rw [vm]; rfl
                        have hSL : ∀ x ∈ ([.non, .int 5, .str (Str.ofString "x"), .ref q3, .ref q4, .ref q5, .ref q6, .ref q7, .ref q8, .ref q9] : List V), ∀ H', Same AzL H' → SL K H' (35 :: t') (35 :: t') (.str "m") x false := by
                          intro x hx H' S'
                          simp only [List.mem_cons, List.not_mem_nil, or_false] at hx
                          rcases hx with rfl | rfl | rfl | rfl | rfl | rfl | rfl | rfl | rfl | rfl
                          · exact .pno hz (fun _ _ => .base .non) (kitAny_no (by decide +kernel) (by decide +kernel))
                          · exact .pno hz (fun _ _ => .base (.int _)) (kitAny_no (by decide +kernel) (by decide +kernel))
                          · exact .pno hz (fun _ _ => .base (.str _)) (kitAny_no (by decide +kernel) (by decide +kernel))
                          · exact .bad hz (S' _ _ eq3) (fun _ _ => .no (.base .non) (kit_ty (by decide +kernel)))
                          · exact .bad hz (S' _ _ eq4) (fun _ S2 => .len (S2 _ _ (S' _ _ et4)) (by decide) (by decide))
                          · exact .bad hz (S' _ _ eq5) (fun _ S2 => .str (S2 _ _ (S' _ _ et5)) (.base (.int _)) (kit_ty (by decide +kernel)))
                          · exact .bad hz (S' _ _ eq6) (fun _ S2 => Pce.ok (i := false) (j := true) (S2 _ _ (S' _ _ et6)) (.bl _) (.int _))
                          · have := SL.run (K := K) (H := H') (l1 := 35 :: t') (l2 := 35 :: t') (ps := [(t7, ((2 : Int), (1 : Int), ([] : List Nat)))]) (p := q7) (vm (35 :: t')) (vm (35 :: t')) (S' _ _ eq7) (fun q hq => by rw [List.mem_singleton.mp hq]; exact S' _ _ et7) ltl (by show 1 ≤ 100; decide) (fun q hq => by rw [List.mem_singleton.mp hq]; show 0 ≤ 100; decide)
                            have r1 : resB (35 :: t') (35 :: t') ([(t7, ((2 : Int), (1 : Int), ([] : List Nat)))].map (·.2)) = false := by
                              refine res_none ?_
                              show (if ((0 : Nat) : Int) ≤ 2 ∧ (2 : Int) ≤ 1 ∧ (1 : Int) ≤ _ then _ else none) = none
                              exact if_neg (fun z => absurd z.2.1 (by decide))
                            rw [r1] at this
                            exact this
                          · have := SL.run (K := K) (H := H') (l1 := 35 :: t') (l2 := 35 :: t') (ps := [(t8, (((-1) : Int), (0 : Int), ([] : List Nat)))]) (p := q8) (vm (35 :: t')) (vm (35 :: t')) (S' _ _ eq8) (fun q hq => by rw [List.mem_singleton.mp hq]; exact S' _ _ et8) ltl (by show 1 ≤ 100; decide) (fun q hq => by rw [List.mem_singleton.mp hq]; show 0 ≤ 100; decide)
                            have r1 : resB (35 :: t') (35 :: t') ([(t8, (((-1) : Int), (0 : Int), ([] : List Nat)))].map (·.2)) = false := by
                              refine res_none ?_
                              show (if ((0 : Nat) : Int) ≤ (-1) ∧ ((-1) : Int) ≤ 0 ∧ (0 : Int) ≤ _ then _ else none) = none
                              exact if_neg (fun z => absurd z.1 (by decide))
                            rw [r1] at this
                            exact this
                          · exact .pno hz (fun _ S2 => .base (.dK (S2 _ _ (S' _ _ eq9)))) (kitAny_no (by decide +kernel) (by decide +kernel))
                        refine ⟨zL, rfl, ⟨_, SqL.of ezL⟩, for_list (K := K) (a := zL) (xs := [.non, .int 5, .str (Str.ofString "x"), .ref q3, .ref q4, .ref q5, .ref q6, .ref q7, .ref q8, .ref q9]) (fun i σ' H' => (∃ (w1 w3 w5 w10 : Option V), σ' = [some (.ref a), w1, some (.ref pl), w3, some (.str (S (35 :: t'))), w5, some (.ref p'), some (.str (S (35 :: m'))), some (.ref o), some (.ref n), w10]) ∧ Same AzL H') ⟨⟨_, _, _, _, rfl⟩, Same.refl _⟩ (fun i σ' H' _ h => SqL.of (h.2 _ _ ezL)) ?_ ?_⟩
                        · rintro i x σ' Hx hi ⟨⟨w1, w3, w5, w10, rfl⟩, Sx⟩
                          have s1 := hSL x (List.mem_of_getElem? hi) Hx Sx
                          refine ⟨_, rfl, _, rfl, _, rfl, o, o, _, _, _, _, _, rfl, (P1.same SA).same Sx, (P1.same SA).same Sx, s1, fun H10 S10 => ⟨_, _, rfl, rfl, _, rfl, ?_⟩⟩
                          refine iteF ?_
                          exact ⟨⟨_, _, _, _, rfl⟩, Sx.trans S10⟩
                        · rintro σ' Hx ⟨⟨w1, w3, w5, w10, rfl⟩, Sx⟩
                          exact hN _ _ ⟨_, _, _, _, rfl, SA.trans Sx⟩
                      · clear S9
                        rintro σ' H9 ⟨w1, w3, w5, w10, rfl, S9⟩
                        refine ⟨(by show 1 ≤ sizeLine; decide), fun q3 hq3 => ?_⟩
                        have Sq3 := same_new (o := .lst [.str (Str.ofString "m")]) hq3
                        have eq3 : upd H9 q3 (.lst [.str (Str.ofString "m")]) q3 = some (.lst [.str (Str.ofString "m")]) := upd_same
                        generalize upd H9 q3 (.lst [.str (Str.ofString "m")]) = Aq3 at Sq3 eq3 ⊢
                        refine ⟨(by show 1 ≤ sizeLine; decide), fun q4 hq4 => ?_⟩
                        have Sq4 := same_new (o := .tup [.str (Str.ofString "m")]) hq4
                        have eq4 : upd Aq3 q4 (.tup [.str (Str.ofString "m")]) q4 = some (.tup [.str (Str.ofString "m")]) := upd_same
                        generalize upd Aq3 q4 (.tup [.str (Str.ofString "m")]) = Aq4 at Sq4 eq4 ⊢
                        replace eq3 := Sq4 _ _ eq3
                        refine ⟨(by show 5 ≤ sizeLine; decide), fun zL hzL => ?_⟩
                        have SzL := same_new (o := .lst [.non, .str (Str.ofString "zz"), .int 5, .ref q3, .ref q4]) hzL
                        have ezL : upd Aq4 zL (.lst [.non, .str (Str.ofString "zz"), .int 5, .ref q3, .ref q4]) zL = some (.lst [.non, .str (Str.ofString "zz"), .int 5, .ref q3, .ref q4]) := upd_same
                        generalize upd Aq4 zL (.lst [.non, .str (Str.ofString "zz"), .int 5, .ref q3, .ref q4]) = AzL at SzL ezL ⊢
                        replace eq3 := SzL _ _ eq3
                        replace eq4 := SzL _ _ eq4
                        have SA := S9.trans ((Sq3.trans Sq4).trans SzL)
                        have hSL : ∀ x ∈ ([.non, .str (Str.ofString "zz"), .int 5, .ref q3, .ref q4] : List V), ∀ (pv_ : V) (H' : Hp), Same AzL H' → SL K H' (35 :: t') (35 :: t') x pv_ false := by
                          intro x hx pv_ H' S'
                          simp only [List.mem_cons, List.not_mem_nil, or_false] at hx
                          rcases hx with rfl | rfl | rfl | rfl | rfl
                          · exact .mod (.base .non) (kit_ty (by decide +kernel))
                          · exact .zz fun l => by rw [valV_mn, if_neg (by decide +kernel), if_neg (by decide +kernel)]
                          · exact .mod (.base (.int _)) (kit_ty (by decide +kernel))
                          · exact .mod (.base (.lst (S' _ _ eq3))) (kit_ty (by decide +kernel))
                          · exact .mod (.base (.tup (S' _ _ eq4))) (kit_ty (by decide +kernel))
                        refine ⟨zL, rfl, ⟨_, SqL.of ezL⟩, for_list (K := K) (a := zL) (xs := [.non, .str (Str.ofString "zz"), .int 5, .ref q3, .ref q4]) (fun i σ' H' => (∃ (w1 w3 w5 w10 : Option V), σ' = [some (.ref a), w1, some (.ref pl), w3, some (.str (S (35 :: t'))), w5, some (.ref p'), some (.str (S (35 :: m'))), some (.ref o), some (.ref n), w10]) ∧ Same AzL H') ⟨⟨_, _, _, _, rfl⟩, Same.refl _⟩ (fun i σ' H' _ h => SqL.of (h.2 _ _ ezL)) ?_ ?_⟩
                        · rintro i x σ' Hx hi ⟨⟨w1, w3, w5, w10, rfl⟩, Sx⟩
                          refine ⟨_, rfl, _, rfl, _, rfl, (by show 0 ≤ sizeLine; decide), fun e he => ?_⟩
                          have Se := same_new (o := .lst []) he
                          have s1 := hSL x (List.mem_of_getElem? hi) (.ref e) _ (Sx.trans Se)
                          refine ⟨o, o, _, _, _, _, _, rfl, ((P1.same SA).same Sx).same Se, ((P1.same SA).same Sx).same Se, s1, fun H10 S10 => ⟨_, _, rfl, rfl, _, rfl, ?_⟩⟩
                          refine iteF ?_
                          exact ⟨⟨_, _, _, _, rfl⟩, (Sx.trans Se).trans S10⟩
                        · rintro σ' Hx ⟨⟨w1, w3, w5, w10, rfl⟩, Sx⟩
                          exact fin _ _ ⟨_, _, _, _, _, _, _, _, _, rfl, S48.trans (SA.trans Sx)⟩
end
end K14

set_option Elab.async false
set_option linter.all false
set_option maxRecDepth 100000
set_option maxHeartbeats 0
namespace K14
open PySem PySem.Spec PyProof.Rows L2 He KH PySem.KX
open PySem.W (Frag)
theorem facts {w : World} {K : Frag} {h : Heap} {mg : Str → Option Value} {f : Addr} (X : K.In h) (G : h.Ns mainGlobals mg) (hfa : mg ("law" : Str) = some (.ref f)) (c : Says need K) :
    ∃ fd : FuncData, (∀ (s : Shared) (v : Value), BindsTo s fd ⟨[v], []⟩ [("_law_script", v)]) ∧ ∀ base : Heap, K.In base → base.Ns mainGlobals mg → FnOk P w K mg base CX0 13 f fd ["_law_script"] (spLaw K) := by
  obtain ⟨fd, F⟩ := c.def_ 17 (e := d_law) rfl
  have T := txt X G c
  have e := hfa.symm.trans T.g_law
  cases e
  have b := FunD.bindsA (ps := ["_law_script"]) F fun _ _ _ _ _ _ us hl => match us, hl with | [_], _ => rfl
  exact ⟨fd, fun s v => b s [v] rfl, fun base _ _ => ok_law F.fn T⟩
end K14
open PySem PySem.W PySem.Calls PyProof.Rows
theorem PySem.Challenge.cw_keptbindings_k14_layouts_compared_holds : PySem.Challenge.rw_keptbindings_k14_layouts_compared.Holds := by
  w_on; o_law
  refine HandSHeadRun.head_any (r := OpenLaw.row PySem.Challenge.rw_keptbindings_k14_layouts_compared) (q := view (OpenLaw.row PySem.Challenge.rw_keptbindings_k14_layouts_compared).prog [51]) (H := K14.hk) (ob := K14.ob) (M := 12000) (loose := K14.loose) (d := HandSHeadRun.topDef (OpenLaw.row PySem.Challenge.rw_keptbindings_k14_layouts_compared).prog 51) (kwd := []) K14.ob_eq
    (by kernel_rfl) (fun s => by kernel_rfl) K14.run (by kernel_rfl) (by kernel_rfl) (by kernel_rfl) (by rfl) (by first | assumption | decide +kernel) (by decide +kernel) ⟨rfl, rfl, rfl, rfl, rfl, by decide +kernel⟩ ?hw ?hc
  case hw => w_witness2
  case hc =>
    refine L2.walk_ofE (l := PySem.Challenge.rw_keptbindings_k14_layouts_compared) (n := 63) (x := "_law_script") (k := 13) rfl (by decide) (by kernel_rfl) ⟨rfl, by decide, by decide⟩ ?F (CX := L2.CX0) (fun _ _ _ _ h => h)
    intro w mg fa h Y G hmg0
    obtain ⟨K, KX, c⟩ := Y
    have hmg : mg ("law" : PySem.Str) = some (.ref fa) := by
      have e : (HandSHeadRun.topDef (OpenLaw.row PySem.Challenge.rw_keptbindings_k14_layouts_compared).prog 51).name = ("law" : PySem.Str) := by kernel_rfl
      rw [← e]
      exact hmg0
    obtain ⟨fd, hb, hF⟩ := K14.facts (w := w) KX G hmg c
    exact ⟨K, fd, K14.spLaw K, KX, hb, fun H a ns hl _ hS => ⟨a, ns, rfl, hS, hl, fun _ => rfl⟩, hF⟩
