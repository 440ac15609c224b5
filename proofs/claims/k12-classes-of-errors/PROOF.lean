import PyProof.Rows.All
import Wide.All
import OpenK.AllK
import Wide.FinOn
import PyProof.EqAt
import PyProof.EqKinds
import PyProof.TupleCall
import KE.KExcSuper
import HandS.ForExc
import HandS.ExcInit
import HandS.ExcSuper
import HandS.ExcField
import HandS.IsInst
import HandS.ExcValue
import HandS.ExcIs
import PyProof.ReprRoads
import KE.KStateDown
import HandS.Defaults
import HandS.More
import HandS.Head0
import HandS.Head1
import HandS.Head2
import HandS.HeadEnd
import HandS.HeadHook1
import HandS.HeadHook2
import HandS.ForMost
import HandS.Walk
import PySem.Challenge.RW_keptbindings_k12_classes_of_errors
set_option Elab.async false
set_option linter.all false
set_option maxRecDepth 100000
set_option maxHeartbeats 4000000
/-! Own errors of the package: class X(KeptError) with __init__(self, f, ..): super().__init__(f, ..); self.f = f; .. -/
namespace PySem
namespace KX
open PySem.W PySem.Calls PyProof.Rows PySem.HandSPX
open L2 (defArgs defBody defScope)

/-- the module's names as super() needs them -/
structure Glb (mg : Str → Option Value) (h : Heap) : Prop where
  g : h.Ns mainGlobals mg
  b : ∃ mb, h.Ns builtinsNs mb ∧ mb "super" = some (.type "super")
  s : mg "super" = none
theorem Glb.keeps {mg : Str → Option Value} {h h' : Heap} (G : Glb mg h) (k : ∀ b o, h.get? b = some o → h'.get? b = some o) : Glb mg h' :=
  ⟨G.g.keeps k, let ⟨mb, a, c⟩ := G.b; ⟨mb, a.keeps k, c⟩, G.s⟩
theorem Glb.but {mg : Str → Option Value} {h h' : Heap} {x : Addr} (G : Glb mg h) (k : ∀ b o, b ≠ x → h.get? b = some o → h'.get? b = some o) (h1 : mainGlobals ≠ x) (h2 : builtinsNs ≠ x) : Glb mg h' := by
  obtain ⟨⟨o, es, ep, ho, r⟩, ⟨mb, ⟨o', es', ep', ho', r'⟩, c⟩, s⟩ := G
  exact ⟨⟨o, es, ep, k _ _ h1 ho, r⟩, ⟨mb, ⟨o', es', ep', k _ _ h2 ho', r'⟩, c⟩, s⟩

/-- what the written part says of an error's class at C, its __init__ (the def st) at fI -/
structure ExTxt (P : Program) (K : Frag) (C fI : Addr) (st : Stmt) (fs : List Str) : Prop where
  cls : ∃ nm q N bs bm sn sub ab col dd k0 k1 k2 k3 k5, K.lookup C = some (excClassObj nm q C N bs bm true sn sub ab col dd k0 k1 k2 k3 k5 "ValueError.__new__") ∧ refsVE bm = true
  sa : findIn K (.ref C) "__setattr__" = some (some (.builtin "object.__setattr__"))
  ga : findIn K (.ref C) "__getattribute__" = some (some (.builtin "BaseException.__getattribute__"))
  gg : findIn K (.ref C) "__getattr__" = some none
  no : ∀ f ∈ fs, findIn K (.ref C) f = some none
  iC : findIn K (.ref C) "__init__" = some (some (.ref fI))
  tC : typeIn K (.ref fI) = some (.type "function")
  kC : keepIn K (.ref C) = true
  exC : subIn K (.ref C) (.type "BaseException") = some true
  tyC : typeIn K (.ref C) = some (.type "type")
  hdC : hasDictIn K C = true
  te : exmOne K (.ref C) (.ref C) = some true
  su : ks_superIn K C C "__init__" = some (some (.builtin "ValueError.__init__"))
  sV : subIn K (.ref C) (.type "ValueError") = some true
  sC : mroIn K C (.ref C) = some true
  op : nsIn K cStatics "thirdparty.any" = some none
  fn : ∃ (qual : Str) (oc : Value) (od : Option Addr) (doc pm : Value) (an : Option Addr) (cda cc : Addr) (ct : Value) (osl : Array (Option Value)) (ccl : Value) (cdd : Option Addr) (vs : Array Value) (ccs : Array (Option Value)) (file : Str) (tf : Tok) (cl : Value) (cld : Option Addr) (csl : Array (Option Value)),
    K.lookup fI = some ⟨oc, od, .func (ksFn "__init__" qual (defArgs st) (defBody st) (defScope st) .none .none doc pm an (.ref cda) ct cc), osl⟩ ∧ codeIn K (.ref cda) qual = true ∧
    K.lookup cda = some ⟨ccl, cdd, .fields vs, ccs⟩ ∧ vs[2]? = some (.str file tf) ∧ ((P.main.file : Str) == file) = true ∧ K.lookup cc = some ⟨cl, cld, .cell (some (.ref C)), csl⟩
  tp : (P.main.scope.names.lookup ("super" : Str)).isSome = false

section
variable {prog : Program} {w : World} {A : Around} {E : Value → Shared → Prop} {R : Result → Shared → Prop} {s : Shared} {K : Frag} {mg : Str → Option Value} {C fI x t0 : Addr} {st : Stmt} {fs : List Str}
theorem clsOf (T : ExTxt prog K C fI st fs) : ∃ cd : ClassData, clsIn K C = some cd ∧ refsVE cd.mro = true ∧ cd.hasDict = true := by
  obtain ⟨nm, q, N, bs, bm, sn, sub, ab, col, dd, k0, k1, k2, k3, k5, hC, hbm⟩ := T.cls
  refine ⟨_, (by unfold clsIn; rw [hC]), ?_, rfl⟩
  exact (show refsVE (.ref C :: bm) = true from hbm)
theorem ldE {M : Model} {env : Env} {m : Str → Option Value} {y : Str} {pos : Pos} {v : Value} {Q : Value → Shared → Prop} (hn : s.heap.Ns env.locals m) (hv : m y = some v) (hl : env.kindOf y = some .local) (h : Q v s)
    (hk : env.scope.kind = .function) (hd : (y == ("__debug__" : Str)) = false) : wpAny M A (eval (.Name y pos) env) Q E s := wpAny_Name (wpAny_loadName_local hk hl hn hv h) hd
/-- the bound ValueError.__init__ called -/
theorem call_mw {u : Addr} {rest : List Value} {Q : Value → Shared → Prop} (T : ExTxt prog K C fI st fs) (X : K.In s.heap) (he : s.heap.get? x = some (excO C t0)) (hu : s.heap.get? u = some (kxs_mw "ValueError.__init__" x)) (hrest : rest.length ≤ sizeLine)
    (hq : ∀ h' t1, (∀ b o, b ≠ x → s.heap.get? b = some o → h'.get? b = some o) → h'.get? x = some (excO C t1) → Q .none { s with heap := h' }) :
    wpAny (model prog w) A (call (.ref u) rest) Q E s := by
  obtain ⟨nm, q, N, bs, bm, sn, sub, ab, col, dd, k0, k1, k2, k3, k5, hC, hbm⟩ := T.cls
  obtain ⟨h, g, d, t, os⟩ := s
  refine wpAny_call (codeAny_of_tree ?_)
  show wpAny _ A.in1 (callAny (.ref u) ⟨rest, []⟩) _ _ _
  simp only [callAny]
  refine wpAny_bind (wpAny_load hu ?_)
  simp only [kxs_mw, show (Value.type "method-wrapper" == Value.type "method" || Value.type "method-wrapper" == Value.type "builtin_function_or_method" || Value.type "method-wrapper" == Value.type "method-wrapper") = true by decide, if_true]
  refine W.KFB.if_so (by decide) ?_
  refine wpAny_bind (ESX.check_bound F.excBase_ValueError (X _ _ hC) he rfl ?_)
  refine wpAny_bind (wpAny_pure (wpAny_pure ?_))
  refine ⟨Code.quiet_builtin _ (by decide +kernel), codeAny_builtin F.excBase_ValueError.initEntry ?_⟩
  rw [Around.under_plainId F.excBase_ValueError.init.plain _]
  wp_walk
  refine hq _ h.objs.size (fun b o hb ho => ?_) ?_
  · rw [Heap.get?_update_other _ _ (Ne.symm hb)]
    exact Heap.get?_push_of_some _ ho
  · rw [Heap.get?_update_self _ (Heap.get?_push_of_some _ he) rfl]
    rfl

/-- super().__init__(..) as the first statement of __init__ -/
theorem super_stmt {body : List Stmt} {qual : Str} {oc : Value} {od : Option Addr} {doc pm : Value} {an : Option Addr} {cda cc L : Addr} {ct : Value} {osl : Array (Option Value)} {ccl : Value} {cdd : Option Addr} {vs : Array Value} {ccs : Array (Option Value)} {file : Str} {tf : Tok} {cl : Value} {cld : Option Addr} {csl : Array (Option Value)}
    {m : Str → Option Value} {ar : Arg} {e : Expr} {es : List Expr} {us : List Value} {p0 p1 p2 p3 p4 : Pos} {pl : Sem Bool} {Q : Flow → Shared → Prop}
    (T : ExTxt prog K C fI st fs) (X : K.In s.heap) (G : Glb mg s.heap)
    (hfI : K.lookup fI = some ⟨oc, od, .func (ksFn "__init__" qual (defArgs st) (defBody st) (defScope st) .none .none doc pm an (.ref cda) ct cc), osl⟩)
    (hcda : K.lookup cda = some ⟨ccl, cdd, .fields vs, ccs⟩) (hvs : vs[2]? = some (.str file tf)) (hfile : ((prog.main.file : Str) == file) = true) (hcc : K.lookup cc = some ⟨cl, cld, .cell (some (.ref C)), csl⟩)
    (hpar : ((defArgs st).posonlyargs ++ (defArgs st).args).head? = some ar) (hn : s.heap.Ns L m) (hself : m ar.arg = some (.ref x)) (hx : s.heap.get? x = some (excO C t0)) (hLx : L ≠ x)
    (hks : (defScope st).names.lookup ("super" : Str) = some .globalImplicit) (hkc : (defScope st).names.lookup ("__class__" : Str) = some .free) (hka : (defScope st).names.lookup ar.arg = some .local) (hk : (defScope st).kind = .function)
    (hi : interactive (ksEnv qual (defScope st) L fI (.ref cda) cc) = false)
    (hsw : swapsWith (.Call (.Attribute (.Call (.Name "super" p0) [] [] p1) "__init__" p2) (e :: es) [] p3) none p4.line (ksEnv qual (defScope st) L fI (.ref cda) cc) = pure false)
    (hev : eval (.Call (.Attribute (.Call (.Name "super" p0) [] [] p1) "__init__" p2) (e :: es) [] p3) (ksEnv qual (defScope st) L fI (.ref cda) cc) = (do
      let ov ← attributeBase (.Call (.Name "super" p0) [] [] p1) "__init__" (ksEnv qual (defScope st) L fI (.ref cda) cc) (eval (.Call (.Name "super" p0) [] [] p1) (ksEnv qual (defScope st) L fI (.ref cda) cc))
      standAt p2.atName
      let (f, first) ← holding [ov] (getMethod ov "__init__" pl)
      callWith p3 f first (backTo p3 (starEach (e :: es) (ksEnv qual (defScope st) L fI (.ref cda) cc))) []))
    (he : starEach (e :: es) (ksEnv qual (defScope st) L fI (.ref cda) cc) = (false, eval e (ksEnv qual (defScope st) L fI (.ref cda) cc)) :: starEach es (ksEnv qual (defScope st) L fI (.ref cda) cc)) (hplain : (backTo p3 (starEach es (ksEnv qual (defScope st) L fI (.ref cda) cc))).any (·.1) = false) (hus : us.length ≤ sizeLine)
    (hargs : ∀ (s₁ : Shared) (Q' : List Value → Shared → Prop), s₁.heap.Ns L m → Q' us s₁ → wpAny (model prog w) A (spliced (backTo p3 (starEach (e :: es) (ksEnv qual (defScope st) L fI (.ref cda) cc)))) Q' E s₁)
    (hq : ∀ h' t1 tk, (∀ b o, b ≠ x → s.heap.get? b = some o → h'.get? b = some o) → h'.get? x = some (excO C t1) → Q .next { s with heap := h', toks := tk }) :
    _root_.PySem.wpAt (model prog w) A (.func body (ksEnv qual (defScope st) L fI (.ref cda) cc)) (exec (.Expr (.Call (.Attribute (.Call (.Name "super" p0) [] [] p1) "__init__" p2) (e :: es) [] p3) p4) (ksEnv qual (defScope st) L fI (.ref cda) cc)) Q E s := by
  obtain ⟨cd, hcd, hmro, hhd⟩ := clsOf T
  have I0 : InstAt s.heap x (excO C t0) C none := ⟨hx, rfl, rfl, trivial⟩
  obtain ⟨hh, g, d, t, os⟩ := s
  obtain ⟨oD, hD1, hD2⟩ : ∃ oD, hh.get? C = some oD ∧ oD.data = .cls cd := by
    unfold clsIn at hcd
    split at hcd
    · rename_i c d cd' sl ho
      cases hcd
      exact ⟨_, X _ _ ho, rfl⟩
    · cases hcd
  obtain ⟨mb, hb1, hb2⟩ := G.b
  refine ks_wpAt_Expr_any ?_ hi hsw
  refine ks_wpAt_MethodCall (pl := pl) ?_ hev
  refine ks_wpAt_super_base (env := ksEnv qual (defScope st) L fI (.ref cda) cc) hks hkc (by decide) rfl (X _ _ hfI) rfl hpar rfl (X _ _ hcda) rfl hvs hfile T.tp ?_
  refine ks_loadName_global hk hks (loadGlobal_builtin (env := ksEnv qual (defScope st) L fI (.ref cda) cc) G.g G.s hb1 hb2 ⟨rfl, ?_⟩)
  refine wpAny_loadName_free hk hkc rfl ⟨_, X _ _ hcc, rfl⟩ ?_
  refine wpAny_loadName_local hk hka hn hself ?_
  refine ks_wpAny_isType_cls hD1 hD2 ⟨rfl, ?_⟩
  refine ks_wpAny_call_super hD1 hD2 hx rfl (fun c e => ?_) (looks_mroIn X T.sC) (fun h' e0 k => ?_)
  · cases e
  · have X' : K.In h' := X.keeps k
    have I' : InstAt h' x (excO C t0) C none := ⟨k _ _ hx, rfl, rfl, trivial⟩
    have hm := T.su
    unfold ks_superIn at hm
    rw [hcd] at hm
    have hI : Looks (model prog w) h' (isInstance (.ref x) (.type "ValueError")) true := I'.type.andThen (looks_subIn X' T.sV)
    refine kxs_getMethod kxs_ValueError e0 (looks_opaque X' T.op) (l₀ := cd.mro) ?_ rfl X' hm hI (ks_ne X' I' hcd) (by decide) ?_
    · exact fun A Q E s k q => wpAny_bind ((looks_clsIn X' hcd) A _ E s k (wpAny_pure q))
    · have k2 : ∀ b o, hh.get? b = some o → (h'.push (kxs_mw "ValueError.__init__" x)).get? b = some o := fun b o z => Heap.get?_push_of_some _ (k b o z)
      have hu : (h'.push (kxs_mw "ValueError.__init__" x)).get? h'.objs.size = some (kxs_mw "ValueError.__init__" x) := Heap.get?_push_at rfl rfl
      show wpAny _ _ (callWith p3 (.ref h'.objs.size) [] (backTo p3 (starEach (e :: es) _)) []) _ _ _
      rw [he]
      refine kxs_callWith (i := "ValueError.__init__") (x := x) (by show (false || (backTo p3 (starEach es _)).any (·.1)) = false; rw [hplain]; rfl) ?_
      have hn' : (h'.push (kxs_mw "ValueError.__init__" x)).Ns L m := hn.keeps k2
      refine evalArgs_plain ?_
      have z := hargs ⟨h'.push (kxs_mw "ValueError.__init__" x), g, d, t + 1, os⟩ (fun vs s₁ => KxsAt "ValueError.__init__" h'.objs.size x s₁.heap ∧ wpAny (model prog w) A (call (.ref h'.objs.size) ([] ++ vs)) (fun _ => Q .next) E s₁) hn' ⟨hu, ?_⟩
      · rw [he] at z
        exact z
      · refine call_mw T (X.keeps k2) (k2 _ _ hx) hu hus (fun h3 t1 k3 hx3 => ?_)
        exact hq h3 t1 _ (fun b o hb z => k3 b o hb (k2 b o z)) hx3

/-! ### __init__(self, f): super().__init__(f); self.f = f -/
def iA1 (f : Str) (p1 p2 : Pos) : Arguments := { posonlyargs := [], args := [{ arg := "self", annotation := none, pos := p1 }, { arg := f, annotation := none, pos := p2 }], vararg := none, kwonlyargs := [], kw_defaults := [], kwarg := none, defaults := [] }
def superE (es : List Expr) (p0 p1 p2 p3 p4 : Pos) : Stmt := .Expr (.Call (.Attribute (.Call (.Name "super" p0) [] [] p1) "__init__" p2) es [] p3) p4
def setE (f : Str) (p0 p1 p2 p3 : Pos) : Stmt := .Assign [.Attribute (.Name "self" p0) f p1] (.Name f p2) p3
def iS1 (f : Str) : Scope := { kind := .function, names := [(PySem.Str.ofString "self", .local), (f, .local), (PySem.Str.ofString "__class__", .free), (PySem.Str.ofString "super", .globalImplicit)], isGenerator := false, isCoroutine := false, more := [] }
def EvSuper (es : List Expr) (q0 q1 q2 q3 : Pos) (sc : Scope) : Prop := ∀ (qual : Str) (L a : Addr) (cd : Value) (cc : Addr), ∃ pl : Sem Bool, eval (.Call (.Attribute (.Call (.Name "super" q0) [] [] q1) "__init__" q2) es [] q3) (ksEnv qual sc L a cd cc) = (do
      let ov ← attributeBase (.Call (.Name "super" q0) [] [] q1) "__init__" (ksEnv qual sc L a cd cc) (eval (.Call (.Name "super" q0) [] [] q1) (ksEnv qual sc L a cd cc))
      standAt q2.atName
      let (f, first) ← holding [ov] (getMethod ov "__init__" pl)
      callWith q3 f first (backTo q3 (starEach es (ksEnv qual sc L a cd cc))) [])
def Init1 (st : Stmt) (f : Str) : Prop := ∃ (p1 p2 q q0 q1 q2 q3 q4 r0 r1 r2 r3 : Pos), defArgs st = iA1 f p1 p2 ∧ defBody st = [superE [.Name f q] q0 q1 q2 q3 q4, setE f r0 r1 r2 r3] ∧ defScope st = iS1 f ∧ EvSuper [.Name f q] q0 q1 q2 q3 (defScope st) ∧
  ∀ (qual : Str) (doc pm : Value) (an : Option Addr) (cd ct : Value) (cc : Addr) (a v : Value), bindArgs (ksFn "__init__" qual (defArgs st) (defBody st) (defScope st) .none .none doc pm an cd ct cc) ⟨[a, v], []⟩ = pure [(("self" : Str), a), (f, v)]
/-- a good field's name -/
structure Fld (f : Str) : Prop where
  self : (f == ("self" : Str)) = false
  cl : (f == ("__class__" : Str)) = false
  su : (f == ("super" : Str)) = false
  db : (f == ("__debug__" : Str)) = false
theorem Fld.ne {f : Str} (F : Fld f) : ("self" : Str) ≠ f := fun e => by
  have := F.self
  rw [← e] at this
  simp at this
theorem ex_init1 {f : Str} {v : Value} (T : ExTxt prog K C fI st fs) (hf : f ∈ fs) (Sh : Init1 st f) (Ff : Fld f) (X : K.In s.heap) (G : Glb mg s.heap) (hlim : s.heap.NoLimit) (hx : s.heap.get? x = some (excO C t0)) (hnx : K.lookup x = none) (hroom : A.depth < recursionLimit)
    (hq : ∀ h' tk dx t1, (∀ b o, b ≠ x → s.heap.get? b = some o → h'.get? b = some o) → h'.get? x = some { cls := .ref C, dict := some dx, data := .fields #[.ref t1, .none, .none, .none, .bool false, .none] } → s.heap.objs.size ≤ dx → dx ≠ x →
      h'.Ns1 dx (fun y => if y = f then some v else none) → R (.ok (.ret .none)) { s with heap := h', toks := tk }) :
    codeAny (model prog w) A (.call (.ref fI) ⟨[.ref x, v], []⟩) R s := by
  obtain ⟨qual, oc, od, doc, pm, an, cda, cc, ct, osl, ccl, cdd, vs, ccs, file, tf, cl, cld, csl, hfI, hcode, hcda, hvs, hfile, hcc⟩ := T.fn
  obtain ⟨p1, p2, q, q0, q1, q2, q3, q4, r0, r1, r2, r3, eA, eB, eS, ev, eb⟩ := Sh
  obtain ⟨cd, hcd, hmro, hhd⟩ := clsOf T
  have l1 : (iS1 f).names.lookup f = some .local := by
    show List.lookup f [(PySem.Str.ofString "self", NameKind.local), (f, .local), (PySem.Str.ofString "__class__", .free), (PySem.Str.ofString "super", .globalImplicit)] = _
    simp [List.lookup]
    split <;> rfl
  have l2 : (iS1 f).names.lookup ("super" : Str) = some .globalImplicit := by
    have a : ((PySem.Str.ofString "super") == f) = false := by rw [BEq.comm]; exact Ff.su
    show List.lookup (PySem.Str.ofString "super") [(PySem.Str.ofString "self", NameKind.local), (f, .local), (PySem.Str.ofString "__class__", .free), (PySem.Str.ofString "super", .globalImplicit)] = _
    rw [List.lookup, show ((PySem.Str.ofString "super") == (PySem.Str.ofString "self")) = false by decide]
    simp only
    rw [List.lookup, a]
    rfl
  have l3 : (iS1 f).names.lookup ("__class__" : Str) = some .free := by
    have a : ((PySem.Str.ofString "__class__") == f) = false := by rw [BEq.comm]; exact Ff.cl
    show List.lookup (PySem.Str.ofString "__class__") [(PySem.Str.ofString "self", NameKind.local), (f, .local), (PySem.Str.ofString "__class__", .free), (PySem.Str.ofString "super", .globalImplicit)] = _
    rw [List.lookup, show ((PySem.Str.ofString "__class__") == (PySem.Str.ofString "self")) = false by decide]
    simp only
    rw [List.lookup, a]
    rfl
  have l4 : (iS1 f).names.lookup ("self" : Str) = some .local := rfl
  refine ks_codeAny_call_defAt (fd := ksFn "__init__" qual (defArgs st) (defBody st) (defScope st) .none .none doc pm an (.ref cda) ct cc) (body := defBody st) (binds := [("self", .ref x), (f, v)]) hroom (X _ _ hfI) rfl hlim (codeRec_of X hcode) rfl ?bd ?cl ?lc (fun h₁ hns hk₁ => ?_) ?c1 ?c2 ?c3
  case bd => exact BindsTo.of_eq (eb _ _ _ _ _ _ _ _ _)
  case cl => show ∀ x ∈ (defScope st).names, x.2 ≠ .cell; rw [eS]; simp [iS1]
  case lc =>
    show ∀ y ∈ [(("self" : Str), Value.ref x), (f, v)], (defScope st).names.lookup y.1 = some .local
    rw [eS]
    intro y hy
    rcases List.mem_cons.mp hy with rfl | hy
    · exact l4
    · rcases List.mem_cons.mp hy with rfl | hy
      · exact l1
      · cases hy
  case c1 => show (defScope st).isCoroutine = false; rw [eS]; rfl
  case c2 => show (defScope st).isGenerator = false; rw [eS]; rfl
  case c3 => show (defScope st).kind = .function; rw [eS]; rfl
  have X₁ : K.In h₁ := X.keeps hk₁
  have G₁ : Glb mg h₁ := G.keeps hk₁
  have hx₁ := hk₁ _ _ hx
  have hLx : s.heap.objs.size ≠ x := Nat.ne_of_gt (Heap.lt_size hx)
  have m1 : (fun y => [(("self" : Str), Value.ref x), (f, v)].reverse.lookup y) "self" = some (.ref x) := by
    have a : (("self" : Str) == f) = false := by rw [BEq.comm]; exact Ff.self
    show List.lookup ("self" : Str) [(f, v), (("self" : Str), Value.ref x)] = _
    rw [List.lookup, a]
    rfl
  have m2 : (fun y => [(("self" : Str), Value.ref x), (f, v)].reverse.lookup y) f = some v := by
    show List.lookup f [(f, v), (("self" : Str), Value.ref x)] = _
    simp [List.lookup]
  rw [eB]
  refine ks_wpAt_execs_cons ?_
  obtain ⟨pl, hev⟩ := ev qual s.heap.objs.size fI (.ref cda) cc
  refine super_stmt (us := [v]) (ar := { arg := "self", annotation := none, pos := p1 }) (pl := pl) T X₁ G₁ hfI hcda hvs hfile hcc (by rw [eA]; rfl) hns m1 hx₁ hLx (by rw [eS]; exact l2) (by rw [eS]; exact l3) (by rw [eS]; exact l4) (by rw [eS]; rfl) (by rw [eS]; rfl) (by rw [eS]; rfl) hev rfl rfl (by rw [sizeLine_eq]; exact (by decide : 1 ≤ 16777216)) ?ar (fun h₂ t1 tk k₂ hx₂ => ?_)
  case ar =>
    intro s₁ Q' hn' hQ
    refine spliced_more (ldE (y := f) (v := v) hn' m2 (by rw [eS]; exact l1) ?_ (by rw [eS]; rfl) Ff.db)
    exact spliced_none hQ
  have hL₁ : h₁.objs.size > s.heap.objs.size := hns.lt
  show _root_.PySem.wpAt _ _ _ (execs [setE f r0 r1 r2 r3] _) _ _ _
  have hns₂ : h₂.Ns s.heap.objs.size (fun y => [(("self" : Str), Value.ref x), (f, v)].reverse.lookup y) := by
    obtain ⟨oL, es, ep, ho, r⟩ := hns
    exact ⟨oL, es, ep, k₂ _ _ hLx ho, r⟩
  have X₂ : K.In h₂ := fun a o e => k₂ a o (fun z => by rw [z, hnx] at e; cases e) (X₁ a o e)
  refine ks_wpAt_execs_cons (ks_wpAt_Assign_Attr ?_ ?_)
  · refine wpAt_of_wpAny (ldE (y := f) (v := v) hns₂ m2 (by rw [eS]; exact l1) ?_ (by rw [eS]; rfl) Ff.db)
    refine ldE (y := "self") (v := .ref x) hns₂ m1 (by rw [eS]; exact l4) ?_ (by rw [eS]; rfl) (by decide)
    refine set_plain X₂ (ox := excO C t1) (od := none) ⟨hx₂, rfl, rfl, trivial⟩ T.sa ?_
    refine exc_osa X₂ hx₂ hcd hmro hhd (T.no f hf) (fun h₃ tk₃ dx k₃ dn dne hx₃ hn₃ => ?_)
    show _root_.PySem.wpAt _ _ _ (execs [] _) _ _ _
    have sz : s.heap.objs.size ≤ h₂.objs.size := Nat.le_of_lt hns₂.lt
    refine wpAt_of_wpAny (wpAny_execs_nil (hq h₃ tk₃ dx t1 (fun b o hb e => k₃ b o hb (k₂ b o hb (hk₁ b o e))) hx₃ (Nat.le_trans sz dn) dne hn₃))
  · rw [eS]
    rfl

/-! ### Refused: __init__(self, reason, one, other) -/
def iA3 (p0 p1 p2 p3 : Pos) : Arguments := { posonlyargs := [], args := [{ arg := "self", annotation := none, pos := p0 }, { arg := "reason", annotation := none, pos := p1 }, { arg := "one", annotation := none, pos := p2 }, { arg := "other", annotation := none, pos := p3 }], vararg := none, kwonlyargs := [], kw_defaults := [], kwarg := none, defaults := [] }
def iS3 : Scope := { kind := .function, names := [(PySem.Str.ofString "self", .local), (PySem.Str.ofString "reason", .local), (PySem.Str.ofString "one", .local), (PySem.Str.ofString "other", .local), (PySem.Str.ofString "__class__", .free), (PySem.Str.ofString "super", .globalImplicit)], isGenerator := false, isCoroutine := false, more := [] }
def Init3 (st : Stmt) : Prop := ∃ (p0 p1 p2 p3 qa qb qc q0 q1 q2 q3 q4 a0 a1 a2 a3 b0 b1 b2 b3 c0 c1 c2 c3 : Pos), defArgs st = iA3 p0 p1 p2 p3 ∧ defBody st = [superE [.Name "reason" qa, .Name "one" qb, .Name "other" qc] q0 q1 q2 q3 q4, setE "reason" a0 a1 a2 a3, setE "one" b0 b1 b2 b3, setE "other" c0 c1 c2 c3] ∧ defScope st = iS3 ∧ EvSuper [.Name "reason" qa, .Name "one" qb, .Name "other" qc] q0 q1 q2 q3 (defScope st)
def m3 (v1 v2 v3 : Value) : Str → Option Value := fun y => if y = "other" then some v3 else if y = "one" then some v2 else if y = "reason" then some v1 else none
theorem m3_w (v1 v2 v3 : Value) : Within (m3 v1 v2 v3) ["reason", "one", "other"] := fun y hy => by
  unfold m3 at hy
  by_cases h1 : y = "other"
  · simp [h1]
  · by_cases h2 : y = "one"
    · simp [h2]
    · by_cases h3 : y = "reason"
      · simp [h3]
      · simp [h1, h2, h3] at hy
theorem ex_init3 {v1 v2 v3 : Value} (T : ExTxt prog K C fI st ["reason", "one", "other"]) (Sh : Init3 st) (X : K.In s.heap) (G : Glb mg s.heap) (hlim : s.heap.NoLimit) (hx : s.heap.get? x = some (excO C t0)) (hnx : K.lookup x = none) (hroom : A.depth < recursionLimit)
    (hq : ∀ h' tk dx t1, (∀ b o, b ≠ x → s.heap.get? b = some o → h'.get? b = some o) → h'.get? x = some { cls := .ref C, dict := some dx, data := .fields #[.ref t1, .none, .none, .none, .bool false, .none] } → s.heap.objs.size ≤ dx → dx ≠ x →
      h'.Ns1 dx (m3 v1 v2 v3) → R (.ok (.ret .none)) { s with heap := h', toks := tk }) :
    codeAny (model prog w) A (.call (.ref fI) ⟨[.ref x, v1, v2, v3], []⟩) R s := by
  obtain ⟨qual, oc, od, doc, pm, an, cda, cc, ct, osl, ccl, cdd, vs, ccs, file, tf, cl, cld, csl, hfI, hcode, hcda, hvs, hfile, hcc⟩ := T.fn
  obtain ⟨p0, p1, p2, p3, qa, qb, qc, q0, q1, q2, q3, q4, a0, a1, a2, a3, b0, b1, b2, b3, c0, c1, c2, c3, eA, eB, eS, ev⟩ := Sh
  obtain ⟨cd, hcd, hmro, hhd⟩ := clsOf T
  let bn : List (Str × Value) := [("self", .ref x), ("reason", v1), ("one", v2), ("other", v3)]
  refine ks_codeAny_call_defAt (fd := ksFn "__init__" qual (defArgs st) (defBody st) (defScope st) .none .none doc pm an (.ref cda) ct cc) (body := defBody st) (binds := bn) hroom (X _ _ hfI) rfl hlim (codeRec_of X hcode) rfl ?bd ?cl ?lc (fun h₁ hns hk₁ => ?_) ?c1 ?c2 ?c3
  case bd => rw [eA, eB, eS]; exact BindsTo.of_eq rfl
  case cl => show ∀ x ∈ (defScope st).names, x.2 ≠ .cell; rw [eS]; simp [iS3]
  case lc =>
    show ∀ y ∈ bn, (defScope st).names.lookup y.1 = some .local
    rw [eS]
    intro y hy
    simp only [bn, List.mem_cons, List.not_mem_nil, or_false] at hy
    rcases hy with rfl | rfl | rfl | rfl <;> rfl
  case c1 => show (defScope st).isCoroutine = false; rw [eS]; rfl
  case c2 => show (defScope st).isGenerator = false; rw [eS]; rfl
  case c3 => show (defScope st).kind = .function; rw [eS]; rfl
  have X₁ : K.In h₁ := X.keeps hk₁
  have G₁ : Glb mg h₁ := G.keeps hk₁
  have hx₁ := hk₁ _ _ hx
  have hLx : s.heap.objs.size ≠ x := Nat.ne_of_gt (Heap.lt_size hx)
  rw [eB]
  refine ks_wpAt_execs_cons ?_
  obtain ⟨pl, hev⟩ := ev qual s.heap.objs.size fI (.ref cda) cc
  refine super_stmt (us := [v1, v2, v3]) (ar := { arg := "self", annotation := none, pos := p0 }) (pl := pl) T X₁ G₁ hfI hcda hvs hfile hcc (by rw [eA]; rfl) hns rfl hx₁ hLx (by rw [eS]; rfl) (by rw [eS]; rfl) (by rw [eS]; rfl) (by rw [eS]; rfl) (by rw [eS]; rfl) (by rw [eS]; rfl) hev rfl rfl (by rw [sizeLine_eq]; exact (by decide : 3 ≤ 16777216)) ?ar (fun h₂ t1 tk k₂ hx₂ => ?_)
  case ar =>
    intro s₁ Q' hn' hQ
    refine spliced_more (ldE (y := "reason") (v := v1) hn' rfl (by rw [eS]; rfl) ?_ (by rw [eS]; rfl) (by decide))
    refine spliced_more (ldE (y := "one") (v := v2) hn' rfl (by rw [eS]; rfl) ?_ (by rw [eS]; rfl) (by decide))
    refine spliced_more (ldE (y := "other") (v := v3) hn' rfl (by rw [eS]; rfl) ?_ (by rw [eS]; rfl) (by decide))
    exact spliced_none hQ
  show _root_.PySem.wpAt _ _ _ (execs [setE "reason" a0 a1 a2 a3, setE "one" b0 b1 b2 b3, setE "other" c0 c1 c2 c3] _) _ _ _
  have hns₂ : h₂.Ns s.heap.objs.size (fun y => bn.reverse.lookup y) := by
    obtain ⟨oL, es, ep, ho, r⟩ := hns
    exact ⟨oL, es, ep, k₂ _ _ hLx ho, r⟩
  have X₂ : K.In h₂ := fun a o e => k₂ a o (fun z => by rw [z, hnx] at e; cases e) (X₁ a o e)
  have sz : s.heap.objs.size ≤ h₂.objs.size := Nat.le_of_lt hns₂.lt
  refine ks_wpAt_execs_cons (ks_wpAt_Assign_Attr ?_ (by rw [eS]; rfl))
  refine wpAt_of_wpAny (ldE (y := "reason") (v := v1) hns₂ rfl (by rw [eS]; rfl) ?_ (by rw [eS]; rfl) (by decide))
  refine ldE (y := "self") (v := .ref x) hns₂ rfl (by rw [eS]; rfl) ?_ (by rw [eS]; rfl) (by decide)
  refine set_plain X₂ (ox := excO C t1) (od := none) ⟨hx₂, rfl, rfl, trivial⟩ T.sa ?_
  refine exc_osa X₂ hx₂ hcd hmro hhd (T.no _ (by simp)) (fun h₃ tk₃ dx k₃ dn dne hx₃ hn₃ => ?_)
  have k2' : ∀ b o, h₂.get? b = some o → ∃ o', h₃.get? b = some o' := fun b o e => by
    by_cases hb : b = x
    · exact ⟨_, by rw [hb]; exact hx₃⟩
    · exact ⟨o, k₃ b o hb e⟩
  have hns₃ : h₃.Ns s.heap.objs.size (fun y => bn.reverse.lookup y) := by
    obtain ⟨oL, es, ep, ho, r⟩ := hns₂
    exact ⟨oL, es, ep, k₃ _ _ hLx ho, r⟩
  have X₃ : K.In h₃ := fun a o e => k₃ a o (fun z => by rw [z, hnx] at e; cases e) (X₂ a o e)
  have hdn : K.lookup dx = none := by
    cases e : K.lookup dx with
    | none => rfl
    | some o => exact absurd (Nat.lt_of_lt_of_le (Heap.lt_size (X₂ _ _ e)) dn) (Nat.lt_irrefl _)
  have hLd : s.heap.objs.size ≠ dx := Nat.ne_of_lt (Nat.lt_of_lt_of_le hns₂.lt dn)
  have w1 : Within (fun y => if y = "reason" then some v1 else none : Str → Option Value) ["reason"] := fun y hy => by
    by_cases e : y = "reason"
    · simp [e]
    · simp [e] at hy
  obtain ⟨oD, _, _, hoD, _, _⟩ := hn₃.count w1
  show _root_.PySem.wpAt _ _ _ (execs [setE "one" b0 b1 b2 b3, setE "other" c0 c1 c2 c3] _) _ _ _
  refine ks_wpAt_execs_cons (ks_wpAt_Assign_Attr ?_ (by rw [eS]; rfl))
  refine wpAt_of_wpAny (ldE (y := "one") (v := v2) hns₃ rfl (by rw [eS]; rfl) ?_ (by rw [eS]; rfl) (by decide))
  refine ldE (y := "self") (v := .ref x) hns₃ rfl (by rw [eS]; rfl) ?_ (by rw [eS]; rfl) (by decide)
  refine set_plain X₃ (ox := { cls := .ref C, dict := some dx, data := .fields #[.ref t1, .none, .none, .none, .bool false, .none] }) (od := some oD) ⟨hx₃, rfl, rfl, hoD⟩ T.sa ?_
  refine OEX.osa_old X₃ hx₃ hn₃ w1 (by decide) hcd hmro hhd (T.no _ (by simp)) (fun h₄ tk₄ k₄ hn₄ => ?_)
  have hns₄ : h₄.Ns s.heap.objs.size (fun y => bn.reverse.lookup y) := by
    obtain ⟨oL, es, ep, ho, r⟩ := hns₃
    exact ⟨oL, es, ep, k₄ _ _ hLd ho, r⟩
  have X₄ : K.In h₄ := fun a o e => k₄ a o (fun z => by rw [z, hdn] at e; cases e) (X₃ a o e)
  have hx₄ := k₄ _ _ (Ne.symm dne) hx₃
  have w2 : Within (fun y => if y = "one" then some v2 else if y = "reason" then some v1 else none : Str → Option Value) ["one", "reason"] := fun y hy => by
    by_cases e : y = "one"
    · simp [e]
    · by_cases e' : y = "reason"
      · simp [e']
      · simp [e, e'] at hy
  obtain ⟨oD', _, _, hoD', _, _⟩ := hn₄.count w2
  show _root_.PySem.wpAt _ _ _ (execs [setE "other" c0 c1 c2 c3] _) _ _ _
  refine ks_wpAt_execs_cons (ks_wpAt_Assign_Attr ?_ (by rw [eS]; rfl))
  refine wpAt_of_wpAny (ldE (y := "other") (v := v3) hns₄ rfl (by rw [eS]; rfl) ?_ (by rw [eS]; rfl) (by decide))
  refine ldE (y := "self") (v := .ref x) hns₄ rfl (by rw [eS]; rfl) ?_ (by rw [eS]; rfl) (by decide)
  refine set_plain X₄ (ox := { cls := .ref C, dict := some dx, data := .fields #[.ref t1, .none, .none, .none, .bool false, .none] }) (od := some oD') ⟨hx₄, rfl, rfl, hoD'⟩ T.sa ?_
  refine OEX.osa_old X₄ hx₄ hn₄ w2 (by decide) hcd hmro hhd (T.no _ (by simp)) (fun h₅ tk₅ k₅ hn₅ => ?_)
  show _root_.PySem.wpAt _ _ _ (execs [] _) _ _ _
  have old : ∀ b o, h₂.get? b = some o → b ≠ dx := fun b o e => Nat.ne_of_lt (Nat.lt_of_lt_of_le (Heap.lt_size e) dn)
  refine wpAt_of_wpAny (wpAny_execs_nil (hq h₅ tk₅ dx t1 (fun b o hb e => ?_) (k₅ _ _ (Ne.symm dne) hx₄) (Nat.le_trans sz dn) dne hn₅))
  have e2 := k₂ b o hb (hk₁ b o e)
  exact k₅ b o (old b o e2) (k₄ b o (old b o e2) (k₃ b o hb e2))
end
end KX
end PySem

set_option Elab.async false
set_option linter.all false
set_option maxRecDepth 100000
set_option maxHeartbeats 4000000
namespace PySem
namespace KX
open PySem.W PySem.Calls PyProof.Rows PySem.HandSPX
open L2 (defArgs defBody defScope)
def InitOk (prog : Program) (w : World) (K : Frag) (mg : Str → Option Value) (C fI : Addr) (us : List Value) (mA : Str → Option Value) : Prop :=
  ∀ (A : Around) (s : Shared) (x t0 : Addr) (R : Result → Shared → Prop), K.In s.heap → Glb mg s.heap → s.heap.NoLimit → s.heap.get? x = some (excO C t0) → K.lookup x = none → A.depth < recursionLimit →
    (∀ h' tk dx t1, (∀ b o, b ≠ x → s.heap.get? b = some o → h'.get? b = some o) → h'.get? x = some { cls := .ref C, dict := some dx, data := .fields #[.ref t1, .none, .none, .none, .bool false, .none] } → s.heap.objs.size ≤ dx → dx ≠ x →
      h'.Ns1 dx mA → R (.ok (.ret .none)) { s with heap := h', toks := tk }) →
    codeAny (model prog w) A (.call (.ref fI) ⟨.ref x :: us, []⟩) R s
theorem initOk1 {prog : Program} {w : World} {K : Frag} {mg : Str → Option Value} {C fI : Addr} {st : Stmt} {fs : List Str} {f : Str} {v : Value} (T : ExTxt prog K C fI st fs) (hf : f ∈ fs) (Sh : Init1 st f) (Ff : Fld f) : InitOk prog w K mg C fI [v] (fun y => if y = f then some v else none) :=
  fun _ _ _ _ _ X G hl hx hn hr hq => ex_init1 T hf Sh Ff X G hl hx hn hr hq
theorem initOk3 {prog : Program} {w : World} {K : Frag} {mg : Str → Option Value} {C fI : Addr} {st : Stmt} {v1 v2 v3 : Value} (T : ExTxt prog K C fI st ["reason", "one", "other"]) (Sh : Init3 st) : InitOk prog w K mg C fI [v1, v2, v3] (m3 v1 v2 v3) :=
  fun _ _ _ _ _ X G hl hx hn hr hq => ex_init3 T Sh X G hl hx hn hr hq
/-- a made error -/
structure Made (h h' : Heap) (e C d : Addr) (mA : Str → Option Value) : Prop where
  keep : ∀ b o, h.get? b = some o → h'.get? b = some o
  new : h.objs.size ≤ e
  obj : ∃ t1 : Addr, h'.get? e = some { cls := .ref C, dict := some d, data := .fields #[.ref t1, .none, .none, .none, .bool false, .none] }
  dbig : h.objs.size ≤ d
  dne : d ≠ e
  ns : h'.Ns1 d mA
section
variable {prog : Program} {w : World} {A : Around} {E : Value → Shared → Prop} {R : Result → Shared → Prop} {s : Shared} {K : Frag} {mg : Str → Option Value} {C fI : Addr} {st : Stmt} {fs : List Str}
theorem ex_made {us : List Value} {mA : Str → Option Value} (T : ExTxt prog K C fI st fs) (J : InitOk prog w K mg C fI us mA) (X : K.In s.heap) (G : Glb mg s.heap) (hlim : s.heap.NoLimit) (hroom : A.depth + 1 < recursionLimit) (hus : us.length ≤ sizeLine)
    (hq : ∀ h' tk e d, Made s.heap h' e C d mA → R (.ok (.ret (.ref e))) { s with heap := h', toks := tk }) :
    codeAny (model prog w) A (.call (.ref C) ⟨us, []⟩) R s := by
  obtain ⟨nm, q, N, bs, bm, sn, sub, ab, col, dd, k0, k1, k2, k3, k5, hC, hbm⟩ := T.cls
  obtain ⟨hp, g, dr, tk, os⟩ := s
  have k : ∀ b o, hp.get? b = some o → ((hp.push (kdv_tup us)).push (excO C hp.objs.size)).get? b = some o := fun b o e => Heap.get?_push_of_some _ (Heap.get?_push_of_some _ e)
  have hget : ((hp.push (kdv_tup us)).push (excO C hp.objs.size)).get? (hp.objs.size + 1) = some (excO C hp.objs.size) := by heap_get
  have hnx : K.lookup (hp.objs.size + 1) = none := by
    cases e : K.lookup (hp.objs.size + 1) with
    | none => rfl
    | some o =>
      have z : hp.get? (hp.objs.size + 1) = some o := X _ _ e
      exact absurd (Nat.lt_of_succ_lt (Heap.lt_size z)) (Nat.lt_irrefl _)
  refine call_own F.excBase_ValueError (fun X => refsVE_contains X bm hbm) (X _ _ hC) (looks_findIn X T.iC) (fun self => bind_fn X self T.tC) hus ?_
  refine J _ ⟨(hp.push (kdv_tup us)).push (excO C hp.objs.size), g, dr, tk, os⟩ _ _ _ (X.keeps k) (G.keeps k) (hlim.keeps k) hget hnx ?_ fun h' tk' dx t1 k' hx dn dne hns => ?_
  · show A.depth + 1 < recursionLimit
    exact hroom
  · have old : ∀ b o, hp.get? b = some o → h'.get? b = some o := fun b o e => k' b o (Nat.ne_of_lt (Nat.lt_succ_of_lt (Heap.lt_size e))) (k b o e)
    have z : hp.objs.size + 1 + 1 ≤ dx := by
      first
        | (simpa only [Heap.size_push] using dn)
        | exact dn
        | (have q := dn; rw [Heap.size_push, Heap.size_push] at q; exact q)
    exact ⟨rfl, hq h' tk' (hp.objs.size + 1) dx ⟨old, Nat.le_succ _, ⟨_, hx⟩, Nat.le_trans (Nat.le_trans (Nat.le_succ _) (Nat.le_succ _)) z, dne, hns⟩⟩
end
end KX
end PySem
namespace L2
open PySem PySem.Spec PyProof.Rows PySem.KX
/-- the abstract fields and the map of an error's dict -/
structure FlsOk (vs : List V) (us : List Value) (fl : List (Str × V)) (mA : Str → Option Value) : Prop where
  rel : ∀ f, RelO (fl.lookup f) (mA f)
theorem glb_of {X : Cx} {pins : List (Addr × Obj)} {σ : St} {H : Hp} {s : Shared} (I : Inv X pins σ H s) (hs : X.mg "super" = none) : Glb X.mg s.heap := by
  obtain ⟨mb, h1, h2⟩ := I.mod.blt
  exact ⟨I.mod.glob.keeps I.bk, ⟨mb, h1.keeps I.bk, (h2 "super" (by decide)).trans (by decide +kernel)⟩, hs⟩
/-- what a class of errors makes of its arguments: fields -/
def ExMk (P : Program) (w : World) (K : PySem.W.Frag) (mg : Str → Option Value) (C fI : Addr) (mk : List V → Option (List (Str × V))) : Prop :=
  ∀ (vs : List V) (us : List Value) (fl : List (Str × V)), mk vs = some fl → Vals vs us → ∃ mA, InitOk P w K mg C fI us mA ∧ ∀ f, RelO (fl.lookup f) (mA f)
def mk1 (f : Str) : List V → Option (List (Str × V))
  | [v] => some [(f, v)]
  | _ => none
def mk3 : List V → Option (List (Str × V))
  | [a, b, c] => some [("reason", a), ("one", b), ("other", c)]
  | _ => none
theorem exMk1 {P : Program} {w : World} {K : PySem.W.Frag} {mg : Str → Option Value} {C fI : Addr} {st : Stmt} {fs : List Str} {f : Str} (T : ExTxt P K C fI st fs) (hf : f ∈ fs) (Sh : Init1 st f) (Ff : Fld f) : ExMk P w K mg C fI (mk1 f) := by
  intro vs us fl e r
  cases r with
  | nil => cases e
  | cons rv rn =>
    cases rn with
    | cons _ _ => cases e
    | nil =>
      rename_i v u
      cases e
      refine ⟨_, initOk1 (v := u) T hf Sh Ff, fun g => ?_⟩
      rw [lookup_put]
      by_cases hg : g = f
      · rw [if_pos hg, if_pos hg]; exact rv
      · rw [if_neg hg, if_neg hg]; trivial
theorem exMk3 {P : Program} {w : World} {K : PySem.W.Frag} {mg : Str → Option Value} {C fI : Addr} {st : Stmt} (T : ExTxt P K C fI st ["reason", "one", "other"]) (Sh : Init3 st) : ExMk P w K mg C fI mk3 := by
  intro vs us fl e r
  rcases r with _ | ⟨r1, _ | ⟨r2, _ | ⟨r3, _ | ⟨_, _⟩⟩⟩⟩ <;> first | (cases e; done) | skip
  cases e
  refine ⟨_, initOk3 T Sh, fun g => ?_⟩
  have n1 : ("reason" : Str) ≠ "one" := by decide +kernel
  have n2 : ("reason" : Str) ≠ "other" := by decide +kernel
  have n3 : ("one" : Str) ≠ "other" := by decide +kernel
  rw [lookup_put, lookup_put, lookup_put]
  unfold m3
  by_cases h1 : g = "reason"
  · subst h1
    rw [if_pos rfl, if_neg n2, if_neg n1, if_pos rfl]; exact r1
  · rw [if_neg h1]
    by_cases h2 : g = "one"
    · subst h2
      rw [if_pos rfl, if_neg n3, if_pos rfl]; exact r2
    · rw [if_neg h2]
      by_cases h3 : g = "other"
      · rw [if_pos h3, if_pos h3]; exact r3
      · rw [if_neg h3, if_neg h3, if_neg h2, if_neg h1]; trivial
end L2

set_option Elab.async false
set_option linter.all false
set_option maxRecDepth 100000
set_option maxHeartbeats 4000000
namespace L2
open PySem PySem.Spec PyProof.Rows PySem.KX
section
variable {X : Cx} {C fI : Addr} {st : Stmt} {fs : List Str} {mk : List V → Option (List (Str × V))}
/-- X(e, ..), an own error, as a value -/
def tExV (C : Addr) (mk : List V → Option (List (Str × V))) (ta : TA) : TE := fun σ H Q => ta σ H fun vs H1 => ∃ fl, mk vs = some fl ∧ vs.length ≤ 1000 ∧ ∀ a d, H1 a = none → H1 d = none → a ≠ d → Q (.ref a) (upd (upd H1 d (exd d fl)) a (exo a C (some d)))
theorem size1000 {n : Nat} (h : n ≤ 1000) : n ≤ sizeLine := by rw [sizeLine_eq]; omega
theorem pe_exv {x : Str} {a : Expr} {es : List Expr} {ta : TA} {p pos : Pos} {k : Nat} (T : ExTxt X.prog X.K C fI st fs) (M : ExMk X.prog X.w X.K X.mg C fI mk) (gC : X.mg x = some (.ref C)) (hs : X.mg "super" = none) (hr : Room k X.A) (ha : PA X (a :: es) ta) (hg : Gl X x)
    (he : starEach (a :: es) X.env = (false, eval a X.env) :: starEach es X.env := by rfl) (hpl : (backTo pos (starEach es X.env)).any (·.1) = false := by rfl) (hdb : (x == ("__debug__" : Str)) = false := by decide) :
    PE X (.Call (.Name x p) (a :: es) [] pos) (tExV C mk ta) := by
  refine ⟨fun pins s σ H Q I h => ?_⟩
  refine wpAny_Call_Name_kw (ld_glob I hg gC ?_ hdb)
  refine PySem.W.callWith_K (h₀ := X.base) I.ok.mod.kin T.kC (thn (ha.run pos pins s σ H _ I h) fun us s1 hh => ?_) he hpl
  obtain ⟨vs, H1, I1, r1, fl, hmk, hlen, q1⟩ := hh
  refine ⟨I1.kIn, ?_⟩
  obtain ⟨mA, J, rel⟩ := M vs us fl hmk r1
  have hlim := I1.nolimit
  have hG := glb_of I1 hs
  have hus : us.length ≤ sizeLine := size1000 (by rw [← r1.length]; exact hlen)
  obtain ⟨hp, g, dr, tk, os⟩ := s1
  show wpAny _ _ (call (.ref C) ([] ++ us)) _ _ _
  refine wpAny_call (ex_made T J I1.kIn hG hlim (by have := hr.dp; omega) hus fun h' tk' e d Md => ?_)
  obtain ⟨t1, hoe⟩ := Md.obj
  obtain ⟨G', g1, g2⟩ := restrict h' fun b => decide (b ≠ e)
  have gk : ∀ b, b ≠ e → G'.get? b = h'.get? b := fun b hb => g1 b (decide_eq_true hb)
  have ge : G'.get? e = none := g2 e (by simp)
  have old : ∀ b o, hp.get? b = some o → G'.get? b = some o := fun b o q => (gk b (Nat.ne_of_lt (Nat.lt_of_lt_of_le (Heap.lt_size q) Md.new))).trans (Md.keep b o q)
  have nd : H1 d = none := I1.hok.fresh Md.dbig
  have ne : H1 e = none := I1.hok.fresh Md.new
  have J1 : Inv X pins σ (upd H1 d (exd d fl)) ⟨G', g, dr, tk', os⟩ := I1.laid (t' := tk') old Md.dbig (exd_ok (Md.ns.at (fun o q => (gk d Md.dne).trans q)) rel)
  have J2 : Inv X pins σ (upd (upd H1 d (exd d fl)) e (exo e C (some d))) ⟨h', g, dr, tk', os⟩ := J1.laidN (t' := tk') (h' := h') (fun b u q => by
      by_cases hb : b = e
      · have q' : G'.get? b = some u := q
        rw [hb, ge] at q'; cases q'
      · exact (gk b hb).symm.trans q) ge (by rw [upd_ne (Ne.symm Md.dne)]; exact ne) (exo_ok hoe)
  exact ⟨.ref e, _, J2, rfl, q1 e d ne nd (Ne.symm Md.dne)⟩
/-- X(e, ..) to be raised -/
def tExM (C : Addr) (mk : List V → Option (List (Str × V))) (ta : TA) : St → Hp → XK → Prop := fun σ H Q => ta σ H fun vs H1 => ∃ fl, mk vs = some fl ∧ vs.length ≤ 1000 ∧ ∀ d, H1 d = none → Q (.ref C) (some d) (upd H1 d (.xd fl))
theorem pmk_ex {x : Str} {a : Expr} {es : List Expr} {ta : TA} {p pos : Pos} {k : Nat} (T : ExTxt X.prog X.K C fI st fs) (M : ExMk X.prog X.w X.K X.mg C fI mk) (gC : X.mg x = some (.ref C)) (hs : X.mg "super" = none) (hr : Room k X.A) (ha : PA X (a :: es) ta) (hg : Gl X x)
    (he : starEach (a :: es) X.env = (false, eval a X.env) :: starEach es X.env := by rfl) (hpl : (backTo pos (starEach es X.env)).any (·.1) = false := by rfl) (hdb : (x == ("__debug__" : Str)) = false := by decide) :
    PMk X (.Call (.Name x p) (a :: es) [] pos) (tExM C mk ta) := by
  intro pins s σ H Q I h
  refine wpAny_Call_Name_kw (ld_glob I hg gC ?_ hdb)
  refine PySem.W.callWith_K (h₀ := X.base) I.ok.mod.kin T.kC (thn (ha.run pos pins s σ H _ I h) fun us s1 hh => ?_) he hpl
  obtain ⟨vs, H1, I1, r1, fl, hmk, hlen, q1⟩ := hh
  refine ⟨I1.kIn, ?_⟩
  obtain ⟨mA, J, rel⟩ := M vs us fl hmk r1
  have hlim := I1.nolimit
  have hG := glb_of I1 hs
  have hus : us.length ≤ sizeLine := size1000 (by rw [← r1.length]; exact hlen)
  obtain ⟨hp, g, dr, tk, os⟩ := s1
  show wpAny _ _ (call (.ref C) ([] ++ us)) _ _ _
  refine wpAny_call (ex_made T J I1.kIn hG hlim (by have := hr.dp; omega) hus fun h' tk' e d Md => ?_)
  show MkP X pins σ Q (.ref e) ⟨h', g, dr, tk', os⟩
  obtain ⟨t1, hoe⟩ := Md.obj
  obtain ⟨G', g1, g2⟩ := restrict h' fun b => decide (b ≠ e)
  have gk : ∀ b, b ≠ e → G'.get? b = h'.get? b := fun b hb => g1 b (decide_eq_true hb)
  have ge : G'.get? e = none := g2 e (by simp)
  have old : ∀ b o, hp.get? b = some o → G'.get? b = some o := fun b o q => (gk b (Nat.ne_of_lt (Nat.lt_of_lt_of_le (Heap.lt_size q) Md.new))).trans (Md.keep b o q)
  have ob : ObjOk X.prog X.w (upd H1 d (.xd fl)) G' d (.xd fl) := ⟨_, Md.ns.at (fun o q => (gk d Md.dne).trans q), rel⟩
  have J : Inv X pins σ (upd H1 d (.xd fl)) ⟨G', g, dr, tk', os⟩ := I1.laid (t' := tk') old Md.dbig ob
  refine ⟨e, _, _, ⟨G', g, dr, tk', os⟩, _, .ref C, some d, rfl, J, fun b o q => ?_, ge, hoe, ⟨rfl, rfl⟩, rfl, rfl, ?_, rfl, I1.bare, raises_own T.exC T.tyC, q1 d (I1.hok.fresh Md.dbig)⟩
  · by_cases hb : b = e
    · have q' : G'.get? b = some o := q
      rw [hb, ge] at q'; cases q'
    · exact (gk b hb).symm.trans q
  · rw [upd_ne (Ne.symm Md.dne)]
    exact I1.hok.fresh Md.new
/-- raise X(e, ..) -/
def tRaiseX (C : Addr) (mk : List V → Option (List (Str × V))) (W : WX) (ta : TA) : TS := fun _ σ H => tExM C mk ta σ H fun cls d H' => W cls d σ H'
theorem ps_raiseX {x : Str} {a : Expr} {es : List Expr} {ta : TA} {W : WX} {p pos pos2 : Pos} {k : Nat} (hc : X.calm = true) (T : ExTxt X.prog X.K C fI st fs) (M : ExMk X.prog X.w X.K X.mg C fI mk) (gC : X.mg x = some (.ref C)) (hs : X.mg "super" = none) (hr : Room k X.A) (tk : Takes X W) (ha : PA X (a :: es) ta) (hg : Gl X x)
    (he : starEach (a :: es) X.env = (false, eval a X.env) :: starEach es X.env := by rfl) (hpl : (backTo pos (starEach es X.env)).any (·.1) = false := by rfl) (hdb : (x == ("__debug__" : Str)) = false := by decide) :
    PS X (.Raise (some (.Call (.Name x p) (a :: es) [] pos)) none pos2) (tRaiseX C mk W ta) := ps_raise hc tk (pmk_ex T M gC hs hr ha hg he hpl hdb)
/-- e.f, e an own error held as a value -/
def tExF (K : PySem.W.Frag) (f : Str) (te : TE) : TE := fun σ H Q => te σ H fun x H1 => ∃ (a C d : Addr) (fl : List (Str × V)) (v : V), x = .ref a ∧ H1 a = some (exo a C (some d)) ∧ H1 d = some (exd d fl) ∧ XfC K C ∧ PySem.W.findIn K (.ref C) f = some none ∧ fl.lookup f = some v ∧ Q v H1
theorem pe_exf {e : Expr} {te : TE} {pos : Pos} {f : Str} (he : PE X e te) (hb : attributeBase e f X.env (eval e X.env) = eval e X.env := by rfl) : PE X (.Attribute e f pos) (tExF X.K f te) := by
  refine ⟨fun pins s σ H Q I h => ?_⟩
  refine attr_of hb (thn (he.run pins s σ H _ I h) fun u s1 hh => ?_)
  obtain ⟨x, H1, I1, rx, a, C, d, fl, v, ex, ea, ed, T, hno, hl, q⟩ := hh
  subst ex
  obtain rfl : u = Value.ref a := rx
  obtain ⟨t1, ho⟩ := exo_at I1.hok ea
  obtain ⟨mA, hns, rel⟩ := exd_at I1.hok ed
  obtain ⟨od, ho2, hl2⟩ := lookIn_ns hns
  obtain ⟨u, hu, ru⟩ := RelO.some_of (v := v) (o := mA f) (by rw [← hl]; exact rel f)
  have J : PySem.W.InstAt s1.heap a { cls := .ref C, dict := some d, data := .fields #[.ref t1, .none, .none, .none, .bool false, .none] } C (some od) := ⟨ho, rfl, rfl, ho2⟩
  exact HandSPX.exc_get I1.kIn J T.ga T.gg T.exC (PySem.W.findObj_own T.hdC hno rfl (by rw [hl2, hu])) (handed_of ru) ⟨v, H1, I1.tok _, ru, q⟩
end
end L2

set_option Elab.async false
set_option linter.all false
set_option maxRecDepth 100000
set_option maxHeartbeats 4000000
namespace PySem.W
open PySem PySem.Spec PySem.Calls PyProof.Rows
section
variable {prog : Program} {w : World} {A : Around} {E : Value → Shared → Prop} {s : Shared} {K : Frag} {x D : Addr} {ox : Obj} {od : Option Obj}
theorem exv_find {C : Addr} {name : Str} {a g : Value} (hc : (clsIn K C).isSome = true) (ha : findIn K (.ref C) name = some (some a)) (hg : specialIn K a "__get__" = some (some g)) (ht : takesIn K a = some true) : findObj K C od name = some (.bind g a) := by
  obtain ⟨cd, hc⟩ := Option.isSome_iff_exists.mp hc
  unfold findObj
  rw [hc, Option.bind_some, ha, Option.bind_some]
  simp [hg, ht]
theorem exv_class {Q : Option Value → Shared → Prop} (hga : findIn K (.ref D) "__getattribute__" = some (some (.builtin "BaseException.__getattribute__"))) (hgt : findIn K (.ref D) "__getattr__" = some none) (hsub : subIn K (.ref D) (.type "BaseException") = some true)
    (hdct : hasDictIn K D = true) (ha : findIn K (.ref D) "__class__" = some (some (.builtin "object.__class__")))
    (hn : specialIn K (.builtin "object.__class__") "__get__" = some (some (.builtin "getset_descriptor.__get__"))) (htk : takesIn K (.builtin "object.__class__") = some true) (hm : mroIn K D (.type "object") = some true)
    (X : K.In s.heap) (I : InstAt s.heap x ox D od) (h : Q (some (.ref D)) { s with toks := s.toks + 1 }) : wpAny (model prog w) A (getAttr? (.ref x) "__class__") Q E s := by
  have hf : findObj K D od "__class__" = some (.bind (.builtin "getset_descriptor.__get__") (.builtin "object.__class__")) := exv_find (by obtain ⟨cd, hc, _⟩ := any_some hdct; rw [hc]; rfl) ha hn htk
  obtain ⟨hp, g, d, t, os⟩ := s
  have L0 := I.type (M := model prog w)
  have L1 := looks_findIn (M := model prog w) X hga
  have L2 := looks_findIn (M := model prog w) X hgt
  have L3 := looks_find (M := model prog w) X I hf
  have sub : Looks (model prog w) hp (isInstance (.ref x) (.type "BaseException")) true := L0.andThen (looks_subIn X hsub)
  have hx0 : (false && onTheHeap (Value.builtin "BaseException.__getattribute__")) = false := rfl
  have hx2 : (Value.builtin "BaseException.__getattribute__" == Value.builtin "object.__getattribute__") = false := by decide +kernel
  have hx1 : (onTheHeap (Value.ref D) && Value.builtin "BaseException.__getattribute__" == Value.builtin "object.__getattribute__") = false := by rw [hx2]; rfl
  unfold getAttr? getAttrBy? getAttrBy
  refine wpAny_bind (wpAny_mkText (wpAny_bind (wpAny_attempt (wpAny_holding (wpAny_bind (L0.at (wpAny_bind (L1.at ?_))))))))
  show wpAny _ _ (if (onTheHeap (Value.ref D) && Value.builtin "BaseException.__getattribute__" == Value.builtin "object.__getattribute__") = true then _ else _) _ _ _
  rw [hx1, if_neg Bool.false_ne_true]
  unfold getAttrByItsOwn hookBefore
  refine wpAny_bind ?_
  rw [if_pos (show onTheHeap (Value.ref D) = true from rfl)]
  refine L2.at ?_
  refine wpAny_bind (wpAny_attempt (wpAny_holding ?_))
  unfold callGetattribute
  rw [hx0, if_neg Bool.false_ne_true]
  unfold boundAndCalled
  rw [PySem.F.excAttr_ValueError.ga.bind (.ref x)]
  refine wpAny_bind (wpAny_pure ?_)
  show wpAny _ _ (call (.builtin "BaseException.__getattribute__") [.ref x, .str "__class__" t]) _ _ _
  refine wpAny_call (codeAny_call_builtin PySem.F.excAttr_ValueError.ga.plain PySem.F.entry_bexc_ga ?_)
  refine @check_slot (model prog w) _ _ ⟨hp, g, d, t + 1, os⟩ "BaseException.__getattribute__" "BaseException" "__getattribute__" (.ref x) [.str "__class__" t] [] _ (by decide +kernel) (by decide +kernel) sub (PySem.F.args_bexc_ga (.ref x) (.str "__class__" t)) ?_
  unfold Builtin.«object.__getattribute__»
  refine wpAny_bind (wpAny_of_eq (a := ((Value.ref x : Value), [Value.str "__class__" t])) (by first | rfl | (simp only [slotArgs]; rfl)) ?_)
  refine wpAny_bind (wpAny_pure (wpAny_bind (L0.at (wpAny_bind (L3.at ?_)))))
  show wpAny _ _ (holding [Value.builtin "object.__class__"] (call (.builtin "getset_descriptor.__get__") [.builtin "object.__class__", .ref x, .ref D]) >>= ret) _ _ _
  refine wpAny_bind (wpAny_holding (wpAny_call (class_get (s := ⟨hp, g, d, t + 1, os⟩) (ox := ox) (od := od) X I hm ?_)))
  refine wpAny_pure ?_
  show wpAny _ _ (handedOut (.ref D)) _ _ _
  rw [handedOut_of (v := .ref D) rfl]
  first
    | exact wpAny_pure (wpAny_pure h)
    | exact wpAny_pure h
    | exact wpAny_pure (wpAny_bind (wpAny_pure (wpAny_pure h)))
theorem exv_kit (hga : findIn K (.ref D) "__getattribute__" = some (some (.builtin "BaseException.__getattribute__"))) (hgt : findIn K (.ref D) "__getattr__" = some none) (hsub : subIn K (.ref D) (.type "BaseException") = some true) (hdct : hasDictIn K D = true) (ha : findIn K (.ref D) "__class__" = some (some (.builtin "object.__class__")))
    (hn : specialIn K (.builtin "object.__class__") "__get__" = some (some (.builtin "getset_descriptor.__get__"))) (htk : takesIn K (.builtin "object.__class__") = some true) (hm : mroIn K D (.type "object") = some true) :
    KitX K (.ref x) (.ref D) (fun h => ∃ od, InstAt h x ox D od) where
  ty := fun _ _ _ ⟨_, I⟩ => I.type
  it := fun _ _ X _ => by
    obtain ⟨cdD, hcD, _⟩ := any_some hdct
    unfold clsIn at hcD
    split at hcD
    · rename_i c' d' cd' sl' ho
      intro A' Q' E' s' k q
      unfold isType loadHead
      exact wpAny_bind (wpAny_loadPart (k _ _ (X _ _ ho)) (wpAny_pure q))
    · cases hcD
  ne := fun h tp dd its n sl X htp => by
    obtain ⟨cdD, hcD, _⟩ := any_some hdct
    refine Bool.eq_false_iff.mpr fun q => ?_
    have e : D = tp := Value.ref.inj (beq_iff_eq.mp q)
    subst e
    unfold clsIn at hcD
    split at hcD
    · rename_i c' d' cd' sl' ho
      have z := (X _ _ ho).symm.trans htp
      cases z
    · cases hcD
  ca := fun X ⟨_, I⟩ k => exv_class hga hgt hsub hdct ha hn htk hm X I k
end
end PySem.W
namespace L2
open PySem PySem.Spec PyProof.Rows PySem.KX
/-- isinstance(e, c), e an own error held as a value, c a class -/
def rIsV (K : PySem.W.Frag) : List V → Hp → VK → Prop := fun xs H Q => ∃ (a D : Addr) (d : Option Addr) (c : V) (cv : Value) (b : Bool), xs = [.ref a, c] ∧ H a = some (exo a D d) ∧ (∀ e, d = some e → ∃ fl, H e = some (exd e fl)) ∧ ExcC K D ∧ (∀ u, RelV c u → u = cv) ∧ PySem.W.kitOne K (.ref D) cv = some b ∧ Q (.bl b) H
theorem call_isV {X : Cx} : CallR X (.builtin "isinstance") (rIsV X.K) := by
  intro pins s σ H xs us Q I r h
  obtain ⟨a, D, d, c, cv, b, rfl, ha, hd, C, hcv, e, q⟩ := h
  cases r with
  | cons rx rr =>
    cases rr with
    | cons rt rr =>
      cases rr
      cases rx
      have ec := hcv _ rt
      subst ec
      obtain ⟨t1, hget⟩ := exo_at I.hok ha
      have J : ∃ od, PySem.W.InstAt s.heap a { cls := .ref D, dict := d, data := .fields #[.ref t1, .none, .none, .none, .bool false, .none] } D od := by
        cases d with
        | none => exact ⟨none, hget, rfl, rfl, trivial⟩
        | some dd =>
          obtain ⟨fl, hfl⟩ := hd dd rfl
          obtain ⟨mA, hns, _⟩ := exd_at I.hok hfl
          obtain ⟨od, ho, _⟩ := lookIn_ns hns
          exact ⟨some od, hget, rfl, rfl, ho⟩
      exact PySem.W.kia_one (PySem.W.exv_kit C.hg C.hk C.hs C.hd C.ha C.hn C.ht C.hm) I.kIn J e (fun z => nomatch z) fun tk => ⟨.bl b, H, I.kept (t' := tk) fun _ _ z => z, rfl, q⟩
end L2

set_option Elab.async false
set_option linter.all false
set_option maxRecDepth 100000
set_option maxHeartbeats 4000000
/-! The law's own call, made where no repr runs: what the law's def does may be shown for the caller's surroundings alone (so repr of lists has its answer). -/
namespace L2
open PySem PySem.Spec PyProof.Rows
/-- the def at f keeps sp when it is called by the claim's caller -/
structure FnAt (P : Program) (w : World) (K : PySem.W.Frag) (mg : Str → Option Value) (base : Heap) (f : Addr) (fd : FuncData) (ps : List Str) (sp : Sp) : Prop where
  run : ∀ (s : Shared) (H : Hp) (args : Args) (us : List Value) (vs : List V) (Q : VK) (E : XK), Env0 P w K mg base callerA [] s H → BindsTo s fd args (ps.zip us) → Vals vs us → sp vs H Q E →
    codeAny (model P w) callerA (.call (.ref f) args) (CR CX0 [] P w H s Q E) s
theorem Fun.okAt {P : Program} {w : World} {K : PySem.W.Frag} {mg : Str → Option Value} {base : Heap} {x qual : Str} {st : Stmt} {f : Addr} {fd : FuncData} {N ps : List Str} {k : Nat} {sp : Sp} (F : Fun K x qual st f fd) (S : FnScope N ps (defScope st)) (hr : Room (k + 1) callerA) (len : ∀ vs H Q E, sp vs H Q E → vs.length = ps.length)
    (hbody : ∀ (cdv : Value) (A : Around) (outer : List Env) (s : Shared) (H : Hp) (vs : List V) (Q : VK) (E : XK), A.guards = some [] → Room k (A.deeper (envOfC qual (defScope st) s.heap.objs.size f cdv)) → sp vs H Q E →
      ∃ t, PSs (cxOf CX0 P w K mg base N qual (defScope st) f cdv A outer s H E).nox (defBody st) t ∧ t { nx := fun _ H' => Q .non H', rt := Q } (start N vs) H) : FnAt P w K mg base f fd ps sp := by
  obtain ⟨oc, od, kV, doc, pm, an, cdv, ct, osl, rfl, lk, hcd⟩ := F.ex
  refine ⟨fun s H args us vs Q E e0 hb r hsp => ?_⟩
  have hl := len _ _ _ _ hsp
  have old : ∀ b o, base.get? b = some o → s.heap.get? b = some o := fun b o e => (e0.bs b o e).1
  have KX : K.In s.heap := e0.mod.kin.keeps old
  have hkind : ∀ y ∈ ps.zip us, (defScope st).names.lookup y.1 = some .local ∨ ((defScope st).names.lookup y.1 = some .cell ∧ ((cellsFrom (s.heap.objs.size + 1) (defScope st).names []).lookup y.1).isSome = true) := fun ⟨n, v⟩ hy => by
    rcases S.par n (List.of_mem_zip hy).1 with q | q
    · exact .inl q
    · exact .inr ⟨q, PySem.W.cellsFrom_some _ _ _ (.inl q)⟩
  refine codeAny_call_function hr.depth (KX _ _ lk) rfl S.co S.gen rfl (PySem.W.codeRec_of KX hcd) (hb _ _ _ _ (wpAny_newFunctionEnv_cells S.kind hkind fun env he s1 z => ?_))
  subst he
  refine ⟨(e0.mod.nolimit.keeps old).keeps z.toInCall.keep, codeAny_func ?_⟩
  obtain ⟨t, ht, hq⟩ := hbody cdv callerA [] s H vs Q E rfl (hr.deeper _) hsp
  have I : Inv (cxOf CX0 P w K mg base N qual (defScope st) f cdv callerA [] s H E) [] (start N vs) H s1 := inv_start S hr.hd e0 hl r z
  refine wpAny_mono (ht.nox.run [] s1 (start N vs) H _ I hq) (fun fl s' hs => ?_) fun e s' hs => hs
  cases fl with
  | ret u =>
    obtain ⟨v, σ', H', J, rv, q⟩ := hs
    exact ⟨v, H', J.os, J.bare, J.base, J.hok, rv, q⟩
  | next =>
    obtain ⟨σ', H', J, q⟩ := hs
    exact ⟨V.non, H', J.os, J.bare, J.base, J.hok, rfl, q⟩
  | brk => exact hs.elim fun _ h => h.elim fun _ h => False.elim h.2
  | cont => exact hs.elim fun _ h => h.elim fun _ h => False.elim h.2
section
variable {P : Program} {w : World} {K : PySem.W.Frag} {mg mb : Str → Option Value} {fa a : Addr} {fd : FuncData} {x : Str} {sp : Sp} {s₁ : Shared} {vs : List Value} {ns : List Int}
/-- what is wanted of the law's run -/
abbrev LawEnd (s₁ : Shared) (r : Result) (s' : Shared) : Prop := r = .ok (.ret (.bool true)) ∧ OldK s₁.heap s'.heap ∧ s'.os = s₁.os ∧ AllBare s'.gens
/-- from an abstract heap H that tracks the script at most -/
theorem law_at0 {H : Hp} (KX : K.In s₁.heap) (hns : s₁.heap.Ns mainGlobals mg) (hb : s₁.heap.Ns builtinsNs mb) (hbb : ∀ x : Str, x ≠ "__name__" → mb x = bootBuiltins x) (hlim : s₁.heap.NoLimit) (hg : s₁.gens = #[])
    (F : ∀ base : Heap, K.In base → base.Ns mainGlobals mg → FnAt P w K mg base fa fd [x] sp) (hbind : ∀ (s : Shared) (u : Value), BindsTo s fd ⟨[u], []⟩ [(x, u)])
    (hO : Only H) (hsp : sp [.ref a] H (fun v _ => v = .bl true) fun _ _ _ => False) (hok : HOk P w H s₁.heap) (hA : ∀ b o, s₁.heap.get? b = some o → (∃ es ep, o.data = .dict es ep) ∨ (K.lookup b).isSome = true → H b = none) :
    codeAny (model P w) callerA (.call (.ref fa) ⟨[.ref a], []⟩) (LawEnd s₁) s₁ := by
  have nsK : ∀ {b : Addr} {m : Str → Option Value}, s₁.heap.Ns b m → (hidT s₁.heap H).Ns b m := fun {b m} ⟨o, es, ep, e, d, r⟩ => ⟨o, es, ep, hidT_get e (hA b o e (.inl ⟨es, ep, d⟩)), d, r⟩
  have hKb : K.In (hidT s₁.heap H) := fun b o e => hidT_get (KX b o e) (hA b o (KX b o e) (.inr (by rw [e]; rfl)))
  have e0 : Env0 P w K mg (hidT s₁.heap H) callerA [] s₁ H := ⟨rfl, ⟨hKb, nsK hns, ⟨mb, nsK hb, hbb⟩, let ⟨mc, h1, h2⟩ := hlim; ⟨mc, nsK h1, h2⟩⟩, fun b o e => of_hidT e, Nat.le_of_eq (hidT_size _ _), trivial, fun b hb => absurd (show b ∈ ([] : List Addr) from hb) (by simp), hok, .of_eq hg⟩
  refine codeAny_mono ((F _ hKb (nsK hns)).run s₁ H ⟨[.ref a], []⟩ [.ref a] [.ref a] _ _ e0 (hbind s₁ (.ref a)) (.cons rfl .nil) hsp) fun r s' h => ?_
  match r, h with
  | .error e, h => exact False.elim h
  | .ok .next, h => exact False.elim h
  | .ok .brk, h => exact False.elim h
  | .ok .cont, h => exact False.elim h
  | .ok (.ret u), ⟨v, H', os, bare, un, hok', r', q⟩ =>
    obtain rfl : v = .bl true := q
    obtain rfl : u = Value.bool true := r'
    refine ⟨rfl, OldK.of_keep fun b o e => ?_, os, bare⟩
    rcases hO b with z | ⟨ob, xs, z⟩
    · exact un.keep b o e z (by intro z; exact absurd (show b ∈ ([] : List Addr) from z) (by simp)) (by simp)
    · obtain ⟨e1, _⟩ := hok b _ z
      obtain ⟨e2, _⟩ := hok' b _ (un.frzs b ob _ z)
      rw [e] at e1; cases e1
      exact e2
theorem law_at (KX : K.In s₁.heap) (hns : s₁.heap.Ns mainGlobals mg) (hb : s₁.heap.Ns builtinsNs mb) (hbb : ∀ x : Str, x ≠ "__name__" → mb x = bootBuiltins x) (hlim : s₁.heap.NoLimit) (hg : s₁.gens = #[])
    (ha : s₁.heap.get? a = some { cls := .type "list", data := .seq vs.toArray }) (hi : IntsAre vs ns) (hl : ns.length ≤ sizeLine)
    (F : ∀ base : Heap, K.In base → base.Ns mainGlobals mg → FnAt P w K mg base fa fd [x] sp) (hbind : ∀ (s : Shared) (u : Value), BindsTo s fd ⟨[u], []⟩ [(x, u)])
    (hsp : ∀ H : Hp, Only H → SqL K H a (ns.map V.int) → sp [.ref a] H (fun v _ => v = .bl true) fun _ _ _ => False) :
    codeAny (model P w) callerA (.call (.ref fa) ⟨[.ref a], []⟩) (LawEnd s₁) s₁ := by
  have rv := vals_ints hi
  cases hk : K.lookup a with
  | some o =>
    have e := KX a o hk
    rw [ha] at e
    cases e
    have hO : Only (fun _ => none) := fun _ => .inl rfl
    refine law_at0 KX hns hb hbb hlim hg F hbind hO (hsp _ hO (.inr ⟨_, vs.toArray, _, hk, rfl, rfl, rfl, by rw [List.size_toArray, hi.length]; exact hl, by simpa using rv⟩)) (fun b u z => ?_) fun _ _ _ _ => rfl
    have z' : (none : Option HO) = some u := z
    cases z'
  | none =>
    have hO : Only (fun b => if b = a then some (.frz { cls := .type "list", data := .seq vs.toArray } (.lst (ns.map V.int))) else none) := fun b => by
      by_cases hb : b = a
      · exact .inr ⟨_, _, if_pos hb⟩
      · exact .inl (if_neg hb)
    refine law_at0 KX hns hb hbb hlim hg F hbind hO (hsp _ hO (.inl (.inr ⟨_, if_pos rfl⟩))) (fun b u z => ?_) (fun b o e h => ?_)
    · by_cases hb : b = a
      · have z' := (if_pos hb).symm.trans z
        cases z'
        subst hb
        exact ⟨ha, by rw [List.length_map]; exact hl, vs, _, rv, ha⟩
      · have z' := (if_neg hb).symm.trans z
        cases z'
    · refine if_neg fun hb => ?_
      subst hb
      rcases h with ⟨es, ep, h⟩ | h
      · rw [ha] at e; cases e
        have d' : Data.seq vs.toArray _ = Data.dict es ep := h
        cases d'
      · rw [hk] at h; cases h
end
/-- the end of a law row, over FnAt -/
theorem walk_at {l : PySem.W.OpenLaw} {n : Nat} {q : Program} {loose : List Str} {XP : (Str → Option Value) → Heap → Prop} {YP : World → Heap → Prop} {d : DefRec} {K : Params → PySem.W.Frag} {sp : World → Sp} {x : Str}
    (hn : l.most = some n) (hn2 : n ≤ sizeLine) (hdf : d.params.defaults = []) (hY : ∀ (w : World) (h : Heap), YP w h → (K w.params).In h)
    (F : ∀ (w : World) (mg : Str → Option Value) (fa : Addr) (h : Heap), (K w.params).In h → h.Ns mainGlobals mg → mg d.name = some (.ref fa) →
      ∃ fd : FuncData, (∀ (s : Shared) (u : Value), BindsTo s fd ⟨[u], []⟩ [(x, u)]) ∧ ∀ base : Heap, (K w.params).In base → base.Ns mainGlobals mg → FnAt l.prog w (K w.params) mg base fa fd [x] (sp w))
    (hsp : ∀ (w : World) (H : Hp) (a : Addr) (ns : List Int), ns.length ≤ n → Only H → SqL (K w.params) H a (ns.map V.int) → sp w [.ref a] H (fun v _ => v = .bl true) fun _ _ _ => False) :
    PySem.W.WalkO q loose XP YP l.row.toRowW d [] (fun f vs => PySem.call f vs) := by
  refine Att.attach_call hn hdf fun w s₀ s₁ mg mb fa o pm cd doc a vs ns G Y ho hd hcd hmg hobj hints hlen hg => ?_
  obtain ⟨fd, hb, hF⟩ := F w mg fa _ (hY w _ Y) G.T.g hmg
  exact law_at (hY w _ Y) G.T.g G.T.b G.T.builtins G.T.nolimit hg hobj hints (Nat.le_trans hlen hn2) hF hb fun H hO hS => hsp w H a ns hlen hO hS
/-- .. with the written part by a Hook -/
theorem walk_atE {l : PySem.W.OpenLaw} {n : Nat} {q : Program} {loose : List Str} {XP : (Str → Option Value) → Heap → Prop} {YP : World → Heap → Prop} {d : DefRec} {x : Str}
    (hn : l.most = some n) (hn2 : n ≤ sizeLine) (hdf : d.params.defaults = [])
    (F : ∀ (w : World) (mg : Str → Option Value) (fa : Addr) (h : Heap), YP w h → h.Ns mainGlobals mg → mg d.name = some (.ref fa) →
      ∃ (K : PySem.W.Frag) (fd : FuncData) (sp : Sp), K.In h ∧ (∀ (s : Shared) (u : Value), BindsTo s fd ⟨[u], []⟩ [(x, u)]) ∧
        (∀ (H : Hp) (a : Addr) (ns : List Int), ns.length ≤ n → Only H → SqL K H a (ns.map V.int) → sp [.ref a] H (fun v _ => v = .bl true) fun _ _ _ => False) ∧
        ∀ base : Heap, K.In base → base.Ns mainGlobals mg → FnAt l.prog w K mg base fa fd [x] sp) :
    PySem.W.WalkO q loose XP YP l.row.toRowW d [] (fun f vs => PySem.call f vs) := by
  refine Att.attach_call hn hdf fun w s₀ s₁ mg mb fa o pm cd doc a vs ns G Y ho hd hcd hmg hobj hints hlen hg => ?_
  obtain ⟨K, fd, sp, KX, hb, hsp, hF⟩ := F w mg fa _ Y G.T.g hmg
  exact law_at KX G.T.g G.T.b G.T.builtins G.T.nolimit hg hobj hints (Nat.le_trans hlen hn2) hF hb fun H hO hS => hsp H a ns hlen hO hS
end L2

set_option Elab.async false
set_option linter.all false
set_option maxRecDepth 100000
set_option maxHeartbeats 4000000
/-! What a law needs of the program's top, read by one Hook: yes-or-no facts over the written part, defs, and the __init__ of the own errors. -/
namespace KH
open PySem PySem.Spec PyProof.Rows L2 He PySem.KX
open PySem.W (Frag)
def exClsB (K : Frag) (C : Addr) : Bool := match K.lookup C with
  | some ⟨.type "type", _, .cls cd, sl⟩ => (match cd.mro, sl.toList with
    | .ref C' :: bm, [_, _, _, _, some (.builtin n), _] => C' == C && (n == "ValueError.__new__" && (!cd.hasDel && (cd.hasDict && PySem.HandSPX.refsVE bm)))
    | _, _ => false)
  | _ => false
theorem exClsB_ok {K : Frag} {C : Addr} (q : exClsB K C = true) : ∃ nm qn N bs bm sn sub ab col dd k0 k1 k2 k3 k5, K.lookup C = some (excClassObj nm qn C N bs bm true sn sub ab col dd k0 k1 k2 k3 k5 "ValueError.__new__") ∧ PySem.HandSPX.refsVE bm = true := by
  unfold exClsB at q
  split at q
  · rename_i dd cd sl ho
    split at q
    · rename_i C' bm k0 k1 k2 k3 n k5 hm hs
      simp only [Bool.and_eq_true, beq_iff_eq, Bool.not_eq_true'] at q
      obtain ⟨rfl, rfl, hdel, hdi, hr⟩ := q
      obtain ⟨nm, bs, mro, ns, qn, hd, sn, sub, ab, col, del⟩ := cd
      dsimp only at hm hdel hdi
      subst hm hdel hdi
      obtain ⟨l⟩ := sl
      simp only at hs
      subst hs
      exact ⟨nm, qn, ns, bs, bm, sn, sub, ab, col, dd, k0, k1, k2, k3, k5, ho, hr⟩
    · cases q
  · cases q
/-- where the __init__ of the error x stands -/
def iAd (K : Frag) (x : Str) : Addr := ma K (ga K x) "__init__"
def codeB (P : Program) (K : Frag) (C : Addr) (fd : FuncData) : Bool := match fd.closure, fd.code, fd.defaults, fd.kwdefaults with
  | [(n, cc)], .ref cda, .none, .none => decide (n = "__class__") && (PySem.W.codeIn K (.ref cda) fd.qualname && ((match K.lookup cda with
    | some ⟨_, _, .fields vs, _⟩ => (match (vs[2]? : Option Value) with
      | some (Value.str file _) => (P.main.file : Str) == file
      | _ => false)
    | _ => false) && (match K.lookup cc with
    | some ⟨_, _, .cell (some (.ref D)), _⟩ => D == C
    | _ => false)))
  | _, _, _, _ => false
def exB (P : Program) (x : Str) (fs : List Str) (K : Frag) : Bool :=
  let C := ga K x
  let fI := iAd K x
  exClsB K C && (eqO (PySem.W.findIn K (.ref C) "__setattr__") (some (some (.builtin "object.__setattr__"))) && (eqO (PySem.W.findIn K (.ref C) "__getattribute__") (some (some (.builtin "BaseException.__getattribute__"))) && (eqO (PySem.W.findIn K (.ref C) "__getattr__") (some none) &&
  ((fs.all fun f => eqO (PySem.W.findIn K (.ref C) f) (some none)) && (eqO (PySem.W.findIn K (.ref C) "__init__") (some (some (.ref fI))) && (decide (PySem.W.typeIn K (.ref fI) = some (.type "function")) && (PySem.W.keepIn K (.ref C) &&
  (decide (PySem.W.subIn K (.ref C) (.type "BaseException") = some true) && (decide (PySem.W.typeIn K (.ref C) = some (.type "type")) && (PySem.W.hasDictIn K C && (decide (PySem.W.exmOne K (.ref C) (.ref C) = some true) &&
  (eqO (PySem.W.ks_superIn K C C "__init__") (some (some (.builtin "ValueError.__init__"))) && (decide (PySem.W.subIn K (.ref C) (.type "ValueError") = some true) && (decide (PySem.W.mroIn K C (.ref C) = some true) && (eqO (PySem.W.nsIn K cStatics "thirdparty.any") (some none) &&
  (match K.lookup fI with
    | some ⟨_, _, .func fd, _⟩ => codeB P K C fd
    | _ => false))))))))))))))))
abbrev FnI : Type := Option (Str × Arguments × FuncBody × Scope × Addr × Addr)
def fnI (K : Frag) (x : Str) : FnI := match K.lookup (iAd K x) with
  | some ⟨_, _, .func fd, _⟩ => some (fd.name, fd.params, fd.body, fd.scope, fd.globals, fd.builtins)
  | _ => none
def valI (st : Stmt) : FnI := some ("__init__", defArgs st, .stmts (defBody st), defScope st, mainGlobals, builtinsNs)
theorem ex_of {P : Program} {K : Frag} {x : Str} {fs : List Str} {st : Stmt} (c : exB P x fs K = true) (e : fnI K x = valI st) (tp : (P.main.scope.names.lookup ("super" : Str)).isSome = false) : ExTxt P K (ga K x) (iAd K x) st fs := by
  unfold exB at c
  simp only [Bool.and_eq_true] at c
  obtain ⟨c1, c2, c3, c4, c5, c6, c7, c8, c9, c10, c11, c12, c13, c14, c15, c16, c17⟩ := c
  refine ⟨exClsB_ok c1, eqO_ok c2, eqO_ok c3, eqO_ok c4, fun f hf => eqO_ok (List.all_eq_true.mp c5 f hf), eqO_ok c6, of_decide_eq_true c7, c8, of_decide_eq_true c9, of_decide_eq_true c10, c11, of_decide_eq_true c12, eqO_ok c13, of_decide_eq_true c14, of_decide_eq_true c15, eqO_ok c16, ?_, tp⟩
  unfold fnI at e
  cases q : K.lookup (iAd K x) with
  | none => rw [q] at c17; cases c17
  | some o =>
    obtain ⟨oc, od, dt, osl⟩ := o
    rw [q] at c17 e
    cases dt with
    | func fd =>
      obtain ⟨n1, n2, n3, n4, n5, n6, n7, n8, n9, n10, n11, n12, n13, n14, n15⟩ := fd
      have e2 : (some (n1, n3, n4, n5, n6, n15) : FnI) = some (("__init__" : Str), defArgs st, FuncBody.stmts (defBody st), defScope st, mainGlobals, builtinsNs) := e
      simp only [Option.some.injEq, Prod.mk.injEq] at e2
      obtain ⟨h1, h2, h3, h4, h5, h6⟩ := e2
      subst h1 h2 h3 h4 h5 h6
      have c18 : codeB P K (ga K x) ⟨_, n2, _, _, _, _, n7, n8, n9, n10, n11, n12, n13, n14, _⟩ = true := c17
      unfold codeB at c18
      split at c18
      · rename_i n cc cda hcl hco hde hkw
        dsimp only at hcl hco hde hkw
        subst hcl hco hde hkw
        simp only [Bool.and_eq_true] at c18
        obtain ⟨d1, d2, d3, d4⟩ := c18
        have d1' : n = "__class__" := of_decide_eq_true d1
        subst d1'
        split at d3
        · rename_i ccl cdd vs ccs hcda
          split at d3
          · rename_i file tf hvs
            split at d4
            · rename_i cl cld D csl hcc
              have : D = ga K x := by simpa using d4
              subst this
              exact ⟨n2, oc, od, n10, n11, n12, cda, cc, n14, osl, ccl, cdd, vs, ccs, file, tf, cl, cld, csl, rfl, d2, hcda, hvs, d3, hcc⟩
            · cases d4
          · cases d3
        · cases d3
      · cases c18
    | _ => cases c17
/-! ### the Hook -/
def asX (g : Addr → Option Obj) : Nat → List Addr
  | 0 => [mainGlobals, sysModules, cStatics]
  | n + 1 => growD g (asX g n)
structure Need where
  facts : List (Frag → Bool)
  defs : List DefD
  inits : List (Str × Stmt)
abbrev AlX : Type := Bool × List FnW × List FnI
def obsX (d : Need) (K : Frag) : AlX := ((d.facts.all fun f => f K) && d.defs.all fun e => e.ok K, d.defs.map fun e => fnW K e.at_, d.inits.map fun e => fnI K e.1)
def valX (d : Need) : AlX := (true, d.defs.map DefD.val, d.inits.map fun e => valI e.2)
def Says (d : Need) (K : Frag) : Prop := obsX d K = valX d
def obsXG (n : Nat) (d : Need) (g : Addr → Option Obj) : AlX := obsX d (frG g (asX g n))
def hookX (n : Nat) (d : Need) : PySem.W.Hook where
  α := AlX
  obs := fun s => obsXG n d s.heap.get?
  val := fun _ => valX d
  says := fun _ h => ∃ K : Frag, K.In h ∧ Says d K
  of := fun _ _ e => ⟨_, frG_in, e⟩
  keeps := fun _ _ _ ⟨K, hK, c⟩ k => ⟨K, PySem.W.Frag.In.keeps hK k, c⟩
theorem obsXG_eq {n : Nat} {d : Need} {g : Addr → Option Obj} {s : Shared} (h : ∀ a, g a = s.heap.get? a) : obsXG n d g = (hookX n d).obs s := by
  have e : g = s.heap.get? := funext h
  rw [e] <;> rfl
section
variable {d : Need} {K : Frag}
theorem Says.fact (c : Says d K) (i : Nat) {f : Frag → Bool} (h : d.facts[i]? = some f := by rfl) : f K = true := by
  have c1 := (ba (show ((d.facts.all fun f => f K) && d.defs.all fun e => e.ok K) = true from congrArg (fun z : AlX => z.1) c)).1
  exact List.all_eq_true.mp c1 f (List.mem_of_getElem? h)
theorem Says.def_ (c : Says d K) (i : Nat) {e : DefD} (h : d.defs[i]? = some e := by rfl) : ∃ fd, FunD K e.name e.qual e.params e.body e.scope (e.dvs K) (e.kws K) (fAd K e.at_) fd := by
  have c2 := (ba (show ((d.facts.all fun f => f K) && d.defs.all fun e => e.ok K) = true from congrArg (fun z : AlX => z.1) c)).2
  have e1 : d.defs.map (fun e => fnW K e.at_) = d.defs.map DefD.val := congrArg (fun z : AlX => z.2.1) c
  have e2 : (d.defs.map fun e => fnW K e.at_)[i]? = (d.defs.map DefD.val)[i]? := by rw [e1]
  rw [List.getElem?_map, List.getElem?_map, h] at e2
  exact DefD.funD (Option.some.inj e2) (List.all_eq_true.mp c2 e (List.mem_of_getElem? h))
theorem Says.init (c : Says d K) (i : Nat) {x : Str} {st : Stmt} (h : d.inits[i]? = some (x, st) := by rfl) : fnI K x = valI st := by
  have e1 : d.inits.map (fun e => fnI K e.1) = d.inits.map (fun e => valI e.2) := congrArg (fun z : AlX => z.2.2) c
  have e2 : (d.inits.map fun e => fnI K e.1)[i]? = (d.inits.map fun e => valI e.2)[i]? := by rw [e1]
  rw [List.getElem?_map, List.getElem?_map, h] at e2
  exact Option.some.inj e2
end
end KH

set_option Elab.async false
set_option linter.all false
set_option maxRecDepth 100000
set_option maxHeartbeats 4000000
/-! repr of data: None, bools, ints, texts, lists, tuples of such, and the empty dict. -/
namespace L2
open PySem PySem.Spec PyProof.Rows
mutual
/-- v is the data d -/
inductive Dq (K : PySem.W.Frag) (H : Hp) : V → PyData → Prop
  | non : Dq K H .non .none
  | bl (b : Bool) : Dq K H (.bl b) (.bool b)
  | int (i : Int) : Dq K H (.int i) (.int i)
  | str (x : Str) : Dq K H (.str x) (.str x)
  | lst {a : Addr} {xs : List V} {ds : List PyData} : SqL K H a xs → DqAll K H xs ds → Dq K H (.ref a) (.list ds)
  | tup {a : Addr} {xs : List V} {ds : List PyData} : SqT K H a xs → DqAll K H xs ds → Dq K H (.ref a) (.tuple ds)
  | dic {a : Addr} : H a = some (.dK []) → Dq K H (.ref a) (.dict [])
inductive DqAll (K : PySem.W.Frag) (H : Hp) : List V → List PyData → Prop
  | nil : DqAll K H [] []
  | cons {v : V} {vs : List V} {d : PyData} {ds : List PyData} : Dq K H v d → DqAll K H vs ds → DqAll K H (v :: vs) (d :: ds)
end
section
variable {X : Cx} {pins : List (Addr × Obj)} {σ : St} {H : Hp} {s : Shared}
mutual
theorem Dq.reads (I : Inv X pins σ H s) (hy : PySem.W.typeIn X.K (.ref sysModules) = some (.type "dict")) : ∀ (d : PyData) (v : V) (u : Value), Dq X.K H v d → RelV v u → ∃ as, Reads s.heap u d as ∧ sysModules ∉ as
  | .none, _, _, h, r => by
    cases h; cases r
    exact ⟨_, Reads.none, by simp⟩
  | .bool b, _, _, h, r => by
    cases h; cases r
    exact ⟨_, Reads.bool b, by simp⟩
  | .int i, _, _, h, r => by
    cases h
    obtain ⟨t, rfl⟩ := r
    exact ⟨_, Reads.int i t, by simp⟩
  | .str x, _, _, h, r => by
    cases h
    obtain ⟨t, rfl⟩ := r
    exact ⟨_, Reads.str x t, by simp⟩
  | .list ds, _, _, h, r => by
    cases h with
    | lst hs ha =>
      cases r
      rename_i a xs
      obtain ⟨its, rv, ⟨o, n, ho, hc, _, hd⟩, _⟩ := I.list hs
      obtain ⟨as, hr, hn⟩ := DqAll.reads I hy ds _ its ha rv
      refine ⟨_, Reads.list ho hc hd hr, fun z => ?_⟩
      rcases List.mem_cons.mp z with z | z
      · have hy' : (X.K.lookup sysModules).map (·.cls) = some (.type "dict") := hy
        cases q : X.K.lookup sysModules with
        | none => rw [q] at hy'; cases hy'
        | some oy =>
          have e := I.kIn _ _ q
          rw [q] at hy'
          rw [z, ho] at e
          cases e
          have e2 : o.cls = Value.type "dict" := Option.some.inj hy'
          rw [hc] at e2
          exact absurd e2 (by decide)
      · exact hn z
  | .tuple ds, _, _, h, r => by
    cases h with
    | tup hs ha =>
      cases r
      obtain ⟨its, rv, ⟨o, ho, hc, n, hd⟩, _⟩ := I.tuple hs
      obtain ⟨as, hr, hn⟩ := DqAll.reads I hy ds _ its ha rv
      exact ⟨_, Reads.tuple ho hc hd hr, hn⟩
  | .dict _, _, _, h, r => by
    cases h with
    | dic hd =>
      cases r
      rename_i a
      obtain ⟨_, ns, vs, kv, o, es, ep, ho, ⟨hc, hdd⟩, hdat, hes⟩ := I.hok a _ hd
      cases kv
      obtain ⟨_, hp, _⟩ := hes
      have el : es.toList = [] := by
        cases q : es.toList with
        | nil => rfl
        | cons e r => rw [q] at hp; cases hp
      refine ⟨[a] ++ [] ++ [], Reads.dict (kvs := []) ho hc hdat (by rw [el]; exact ReadsAll.nil) (by rw [el]; exact ReadsAll.nil), fun z => ?_⟩
      have z' : sysModules = a := by simpa using z
      rw [z'] at ns
      simp at ns
theorem DqAll.reads (I : Inv X pins σ H s) (hy : PySem.W.typeIn X.K (.ref sysModules) = some (.type "dict")) : ∀ (ds : List PyData) (vs : List V) (us : List Value), DqAll X.K H vs ds → Vals vs us → ∃ as, ReadsAll s.heap us ds as ∧ sysModules ∉ as
  | [], _, _, h, r => by
    cases h; cases r
    exact ⟨_, ReadsAll.nil, by simp⟩
  | d :: ds, _, _, h, r => by
    cases h with
    | cons h1 h2 =>
      cases r with
      | cons r1 r2 =>
        obtain ⟨as, q1, n1⟩ := Dq.reads I hy d _ _ h1 r1
        obtain ⟨bs, q2, n2⟩ := DqAll.reads I hy ds _ _ h2 r2
        exact ⟨_, ReadsAll.cons q1 q2, fun z => (List.mem_append.mp z).elim n1 n2⟩
end
end
/-- repr of a list or a tuple, a dict -/
def rRepr (K : PySem.W.Frag) : List V → Hp → VK → Prop := fun xs H Q => ∃ (a : Addr) (d : PyData), xs = [.ref a] ∧ Dq K H (.ref a) d ∧ d.showable = true ∧ d.depth ≤ 20 ∧ d.shown.length ≤ sizeLine ∧ Q (.str d.shown) H
theorem call_reprD {X : Cx} {k : Nat} (hg : X.A.guards = some []) (hr : Room k X.A) (hy : PySem.W.typeIn X.K (.ref sysModules) = some (.type "dict")) : CallR X (.builtin "repr") (rRepr X.K) := by
  intro pins s σ H xs us Q I r h
  obtain ⟨a, d, rfl, hd, hs, hde, hz, q⟩ := h
  cases r with
  | cons rx rr =>
    cases rr
    cases rx
    obtain ⟨as, hrd, hn⟩ := Dq.reads I hy d _ _ hd rfl
    exact repr_of_reads' hrd hs (fun _ => hn) hg (by have := hr.un; omega) (fun _ _ e => e) (fun h' u tk k => ⟨.str _, H, I.kept k, ⟨_, rfl⟩, q⟩) hz
end L2

set_option Elab.async false
set_option linter.all false
set_option maxRecDepth 100000
set_option maxHeartbeats 0
namespace K12
open PySem PySem.Spec PyProof.Rows L2 He KH
open PySem.W (Frag)
abbrev P : Program := PySem.Challenge.pw_keptbindings_k12_classes_of_errors
def top (i : Nat) : Stmt := P.main.body.getD i (.Pass ⟨0, 0, 0, 0⟩)
abbrev sPool : Stmt := top 11
abbrev sTake : Stmt := top 12
abbrev sLaw : Stmt := top 13
abbrev iText : Stmt := inClass (top 2) 0
abbrev iSyntax : Stmt := inClass (top 3) 0
abbrev iName : Stmt := inClass (top 4) 0
abbrev iProject : Stmt := inClass (top 5) 0
abbrev iPlace : Stmt := inClass (top 6) 0
abbrev iEdit : Stmt := inClass (top 7) 0
abbrev iRefused : Stmt := inClass (top 8) 0
abbrev iValue : Stmt := inClass (top 9) 0
def dPool : DefD := ⟨("_law_pool", none), "_law_pool", "_law_pool", defArgs sPool, defBody sPool, defScope sPool, [], []⟩
def dTake : DefD := ⟨("_law_take", none), "_law_take", "_law_take", defArgs sTake, defBody sTake, defScope sTake, [], []⟩
def dLaw : DefD := ⟨("law", none), "law", "law", defArgs sLaw, defBody sLaw, defScope sLaw, [], []⟩
def nm8 : List Str := ["BadText", "BadSyntax", "BadName", "BadProject", "BadPlace", "BadEdit", "BadValue", "Refused"]
def cl (K : Frag) (i : Nat) : Addr := ga K (nm8.getD i "")
def kit8 (K : Frag) : Bool := (List.range 8).all fun i => (List.range 8).all fun j => decide (PySem.W.kitOne K (.ref (cl K i)) (.ref (cl K j)) = some (decide (j = i)))
def kitK (K : Frag) : Bool := (List.range 8).all fun i => decide (PySem.W.kitOne K (.ref (cl K i)) (.ref (ga K "KeptError")) = some true) && decide (PySem.W.kitOne K (.ref (cl K i)) (.type "ValueError") = some true)
def excCB (K : Frag) (D : Addr) : Bool := eqO (PySem.W.findIn K (.ref D) "__getattribute__") (some (some (.builtin "BaseException.__getattribute__"))) && (eqO (PySem.W.findIn K (.ref D) "__getattr__") (some none) && (decide (PySem.W.subIn K (.ref D) (.type "BaseException") = some true) && (PySem.W.hasDictIn K D &&
  (eqO (PySem.W.findIn K (.ref D) "__class__") (some (some (.builtin "object.__class__"))) && (eqO (PySem.W.specialIn K (.builtin "object.__class__") "__get__") (some (some (.builtin "getset_descriptor.__get__"))) && (decide (PySem.W.takesIn K (.builtin "object.__class__") = some true) && decide (PySem.W.mroIn K D (.type "object") = some true)))))))
theorem excCB_ok {K : Frag} {D : Addr} (h : excCB K D = true) : ExcC K D := by
  unfold excCB at h
  simp only [Bool.and_eq_true] at h
  obtain ⟨h1, h2, h3, h4, h5, h6, h7, h8⟩ := h
  exact ⟨eqO_ok h1, eqO_ok h2, of_decide_eq_true h3, h4, eqO_ok h5, eqO_ok h6, of_decide_eq_true h7, of_decide_eq_true h8⟩
def exc8 (K : Frag) : Bool := (List.range 8).all fun i => excCB K (cl K i)
def frees : List Str := ["len", "super", "abs", "int", "max", "min", "range", "enumerate", "isinstance", "repr", "ValueError", "LookupError"]
def need : Need where
  facts := [fun K => (Fa.glo "_law_pool").ok K, fun K => (Fa.glo "_law_take").ok K, fun K => (Fa.glo "law").ok K, fun K => frees.all fun x => (Fa.free x).ok K, fun K => nm8.all fun x => (Fa.glo x).ok K,
    exB P "BadText" ["at"], exB P "BadSyntax" ["at"], exB P "BadName" ["value"], exB P "BadProject" ["place"], exB P "BadPlace" ["value"], exB P "BadEdit" ["edit"], exB P "BadValue" ["value"], exB P "Refused" ["reason", "one", "other"],
    fun K => decide (PySem.W.typeIn K (.ref sysModules) = some (.type "dict")), kit8, kitK, exc8, fun K => decide (PySem.W.kitOne K (.ref (cl K 0)) (.type "LookupError") = some false), fun K => (Fa.glo "KeptError").ok K]
  defs := [dPool, dTake, dLaw]
  inits := [("BadText", iText), ("BadSyntax", iSyntax), ("BadName", iName), ("BadProject", iProject), ("BadPlace", iPlace), ("BadEdit", iEdit), ("BadValue", iValue), ("Refused", iRefused)]
abbrev R : PySem.W.OpenRow := PySem.W.OpenLaw.row PySem.Challenge.rw_keptbindings_k12_classes_of_errors
abbrev hk : PySem.W.Hook := hookX 5 need
def ob (s : PySem.W.SharedT) : AlX := obsXG 5 need (HandSHeadRun.getT s)
theorem ob_eq (s : PySem.W.SharedT) : ob s = hk.obs s.abs := obsXG_eq (HandSHeadRun.getT_eq s)
theorem run (w : World) : HandSHeadRun.RunEq R (PySem.W.view R.prog [13]) hk ob 3000 ["__name__", "KeptError", "BadText", "BadSyntax", "BadName", "BadProject", "BadPlace", "BadEdit", "Refused", "BadValue", "_law_pool", "_law_take"] w := by
  intro os
  kernel_rfl
end K12

set_option Elab.async false
set_option linter.all false
set_option maxRecDepth 100000
set_option maxHeartbeats 4000000
namespace L2
open PySem PySem.Spec PyProof.Rows
theorem FunD.fn {K : PySem.W.Frag} {x qual : Str} {st : Stmt} {f : Addr} {fd : FuncData} (F : FunD K x qual (defArgs st) (defBody st) (defScope st) [] [] f fd) : Fun K x qual st f fd := by
  obtain ⟨⟨oc, od, dV, kV, doc, pm, an, cdv, ct, osl, rfl, lk, hcd, hD, hK⟩, kp⟩ := F
  rcases hD with ⟨_, rfl⟩ | ⟨e, _⟩
  · exact ⟨⟨oc, od, kV, doc, pm, an, cdv, ct, osl, rfl, lk, hcd⟩, kp⟩
  · exact absurd rfl e
/-- the pool of draws at p: two numbers -/
def PoolAt (H : Hp) (p : Addr) : Prop := ∃ a b : Int, H p = some (.lst [.int a, .int b]) ∧ 0 ≤ a ∧ 0 ≤ b ∧ b < 2147483647
/-- a draw: any number below n -/
def spTake : Sp := fun vs H Q _ => ∃ (p : Addr) (n : Int), vs = [.ref p, .int n] ∧ PoolAt H p ∧ 0 < n ∧ n < 1000000 ∧
  ∀ (r : Int) (o : HO), 0 ≤ r → r < n → PoolAt (upd H p o) p → (∃ a b, o = .lst [.int a, .int b]) → Q (.int r) (upd H p o)
/-- a new pool -/
def spPool (K : PySem.W.Frag) : Sp := fun vs H Q _ => ∃ (a : Addr) (k : Int) (ns : List Int), vs = [.ref a, .int k] ∧ SqL K H a (ns.map V.int) ∧ 0 ≤ k ∧ k < 100 ∧
  ∀ (p : Addr) (x y : Int), H p = none → PoolAt (upd H p (.lst [.int x, .int y])) p → Q (.ref p) (upd H p (.lst [.int x, .int y]))
theorem b01 (b : Bool) : -(2 ^ 64) < (if b = true then (1 : Int) else 0) ∧ (if b = true then (1 : Int) else 0) < 2 ^ 64 := by cases b <;> decide
theorem b0 (b : Bool) : 0 ≤ (if b = true then (1 : Int) else 0) := by cases b <;> decide
theorem ints_at {ns : List Int} {k : Int} (h0 : 0 ≤ k) (h : k < (ns.length : Int)) : ∃ c : Int, atI (ns.map V.int) k = some (.int c) := by
  obtain ⟨n, rfl⟩ := Int.eq_ofNat_of_zero_le h0
  have hn : n < ns.length := by omega
  refine ⟨ns[n], ?_⟩
  refine atI_nat ?_
  rw [List.getElem?_map, List.getElem?_eq_getElem hn]
  rfl
end L2
namespace K12
open PySem PySem.Spec PyProof.Rows L2 He KH
section
variable {w : World} {K : PySem.W.Frag} {mg : Str → Option Value} {base : Heap}
theorem scT : FnScope ["_law_pool_here", "_law_many", "_law_found"] ["_law_pool_here", "_law_many"] (defScope sTake) := ⟨rfl, rfl, rfl, by decide +kernel, rfl, by decide +kernel, by decide +kernel⟩
theorem ok_take {f : Addr} {fd : FuncData} (F : Fun K "_law_take" "_law_take" sTake f fd) : FnOk P w K mg base CX0 1 f fd ["_law_pool_here", "_law_many"] spTake := by
  refine F.ok scT (fun vs H Q E h => ?_) (fun cdv A outer s H vs Q E hr h => ?_)
  · obtain ⟨p, n, rfl, _⟩ := h
    rfl
  · obtain ⟨p, n, rfl, ⟨a, b, hp, ha, hb, hb2⟩, hn, hn2, k⟩ := h
    have sc := scT
    refine ⟨_, (pss_cons (ps_if (pt_cmpR op_gt (pe_ix ix_list (pv 0) pe_int (fun _ _ => rfl)) pe_int (nomark _))
        (pss_cons (ps_set (i := 2) sc.nd rfl (Or.inl rfl) (pe_op op_mod (pe_ix ix_list (pv 0) pe_int (fun _ _ => rfl)) (pv 1)))
        (pss_cons (ps_asg (pe_op op_fdiv (pe_ix ix_list (pv 0) pe_int (fun _ _ => rfl)) (pv 1)) (pg_sub (pv 0) pe_int set_list))
        (pss_one (ps_ret (pv 2)))))
        pss_nil)
      (pss_cons (ps_asg (pe_op op_mod (pe_op op_add (pe_op op_mul (pe_ix ix_list (pv 0) pe_int (fun _ _ => rfl)) pe_int) pe_int) pe_int) (pg_sub (pv 0) pe_int set_list))
      (pss_one (ps_ret (pe_op op_mod (pe_op op_fdiv (pe_op op_mod (pe_op op_mul (pe_ix ix_list (pv 0) pe_int (fun _ _ => rfl)) (pe_ix ix_list (pv 0) pe_int (fun _ _ => rfl))) pe_int) pe_int) (pv 1)))))), ?_⟩
    have hS := SqL.of (K := K) hp
    refine ⟨_, rfl, p, _, _, _, rfl, rfl, hS, rfl, _, _, rfl, rfl, _, rfl, ?_⟩
    refine ite2 (fun c => ?_) (fun c => ?_)
    · refine ⟨_, rfl, p, _, _, _, rfl, rfl, hS, rfl, _, rfl, _, _, rfl, rfl, hn, ?_⟩
      refine ⟨_, rfl, p, _, _, _, rfl, rfl, hS, rfl, _, rfl, _, _, rfl, rfl, ⟨hn, by omega⟩, ?_⟩
      refine ⟨_, rfl, p, _, _, 0, rfl, rfl, hp, rfl, ?_⟩
      refine ⟨_, rfl, ?_⟩
      exact k _ _ (Int.emod_nonneg _ (by omega)) (Int.emod_lt_of_pos _ hn) ⟨a / n, b, upd_same, Int.ediv_nonneg ha (by omega), hb, hb2⟩ ⟨_, _, rfl⟩
    · refine ⟨_, rfl, p, _, _, _, rfl, rfl, hS, rfl, _, _, rfl, rfl, .inl ⟨by omega, by omega⟩, _, _, rfl, rfl, _, _, rfl, rfl, (by show (0 : Int) < 2147483647; decide), ?_⟩
      refine ⟨_, rfl, p, _, _, 1, rfl, rfl, hp, rfl, ?_⟩
      have hb' : 0 ≤ (b * 48271 + 11) % 2147483647 ∧ (b * 48271 + 11) % 2147483647 < 2147483647 := ⟨Int.emod_nonneg _ (by decide), Int.emod_lt_of_pos _ (by decide)⟩
      have hS' := SqL.of (K := K) (H := upd H p (.lst [.int a, .int ((b * 48271 + 11) % 2147483647)])) upd_same
      refine ⟨_, rfl, p, _, _, _, rfl, rfl, hS', rfl, _, rfl, p, _, _, _, rfl, rfl, hS', rfl, _, _, rfl, rfl, .inl ⟨by omega, by omega⟩, _, _, rfl, rfl, (by show (0 : Int) < 2147483629; decide), _, _, rfl, rfl, ⟨by decide, by decide⟩, _, rfl, _, _, rfl, rfl, hn, ?_⟩
      exact k _ _ (Int.emod_nonneg _ (by omega)) (Int.emod_lt_of_pos _ hn) ⟨a, _, upd_same, ha, hb'.1, hb'.2⟩ ⟨_, _, rfl⟩
/-- what the top must have, for _law_pool -/
structure TxtP (mg : Str → Option Value) : Prop where
  n_len : mg "len" = none
  n_abs : mg "abs" = none
  n_int : mg "int" = none
theorem scP : FnScope ["_law_script", "_law_k", "_law_cell", "_law_size", "_law_seed"] ["_law_script", "_law_k"] (defScope sPool) := ⟨rfl, rfl, rfl, by decide +kernel, rfl, by decide +kernel, by decide +kernel⟩
theorem ok_pool {f : Addr} {fd : FuncData} (F : Fun K "_law_pool" "_law_pool" sPool f fd) (T : TxtP mg) : FnOk P w K mg base CX0 1 f fd ["_law_script", "_law_k"] (spPool K) := by
  refine F.ok scP (fun vs H Q E h => ?_) (fun cdv A outer s H vs Q E hr h => ?_)
  · obtain ⟨a, k, ns, rfl, _⟩ := h
    rfl
  · obtain ⟨a, k, ns, rfl, hS, hk, hk2, kq⟩ := h
    have sc := scP
    refine ⟨_, (pss_cons (ps_set (i := 2) sc.nd rfl (Or.inl rfl) pe_int)
      (pss_cons (ps_if (pt_cmpR op_lt (pv 1) (pe_callB call_len rfl T.n_len (by decide +kernel) (pa_cons (pv 0) pa_nil)) (nomark _))
        (pss_one (ps_set (i := 2) sc.nd rfl (Or.inl rfl) (pe_ix ix_list (pv 0) (pv 1) (fun _ _ => rfl))))
        pss_nil)
      (pss_cons (ps_set (i := 3) sc.nd rfl (Or.inl rfl) (pe_callB call_abs rfl T.n_abs (by decide +kernel) (pa_cons (pv 2) pa_nil)))
      (pss_cons (ps_set (i := 4) sc.nd rfl (Or.inl rfl) (pe_op op_mod (pe_op op_pow (pe_op op_add (pe_op op_add (pe_op op_add (pe_op op_mod (pv 2) pe_int) (pe_op op_mul (pe_op op_mul pe_int (pv 1)) (pv 1))) (pe_op op_mul pe_int (pv 1))) pe_int) pe_int) pe_int))
      (pss_one (ps_ret (pe_lst (pa_cons (pe_op op_mul (pv 3) (pe_callTy call_int1 rfl T.n_int (by decide +kernel) (pa_cons (pe_cmpR op_ge (pv 3) (pe_op op_pow pe_int pe_int) (nomark _)) pa_nil))) (pa_cons (pv 4) pa_nil))))))))), ?_⟩
    have key : ∀ c : Int, 0 ≤ c % 2147483629 + 104729 * k * k + 7919 * k + 11 ∧ c % 2147483629 + 104729 * k * k + 7919 * k + 11 < 18446744073709551616 := fun c => by
      have h1 : 0 ≤ c % 2147483629 := Int.emod_nonneg _ (by decide)
      have h2 : c % 2147483629 < 2147483629 := Int.emod_lt_of_pos _ (by decide)
      have h3 : 0 ≤ k * k := Int.mul_nonneg hk hk
      have h4 : k * k ≤ 100 * 100 := Int.mul_le_mul (by omega) (by omega) hk (by decide)
      have h5 : 104729 * k * k = 104729 * (k * k) := by rw [Int.mul_assoc]
      omega
    refine ⟨_, rfl, _, rfl, _, ns.length, rfl, .inl ⟨_, hS, by simp⟩, _, _, rfl, rfl, _, rfl, ?_⟩
    refine ite2 (fun cc => ?_) (fun cc => ?_)
    · obtain ⟨c, hc⟩ := ints_at hk (by simpa using cc)
      refine ⟨_, rfl, _, rfl, a, _, _, _, rfl, rfl, hS, hc, ?_⟩
      refine ⟨_, rfl, _, rfl, ?_⟩
      refine ⟨_, rfl, _, _, rfl, rfl, (by show (0 : Int) < 2147483629; decide), _, rfl, _, _, rfl, rfl, .inl ⟨by decide, by decide⟩, _, rfl, _, _, rfl, rfl, .inr ⟨by omega, by omega⟩, _, _, rfl, rfl, _, rfl, _, _, rfl, rfl, .inl ⟨by decide, by decide⟩, _, _, rfl, rfl, _, _, rfl, rfl, _, _, rfl, rfl, ⟨by decide, by decide, by have := key c; omega⟩, _, _, rfl, rfl, (by show (0 : Int) < 2147483647; decide), ?_⟩
      refine ⟨_, rfl, _, rfl, _, _, rfl, rfl, ⟨by decide, by decide, by decide⟩, _, _, rfl, rfl, .inr ⟨_, rfl, ?_⟩⟩
      refine ⟨_, _, rfl, rfl, .inr (b01 _), _, rfl, (by show 2 ≤ sizeLine; decide), fun p hp => ?_⟩
      refine kq p _ _ hp ⟨_, _, upd_same, ?_, Int.emod_nonneg _ (by decide), Int.emod_lt_of_pos _ (by decide)⟩
      refine Int.mul_nonneg (by split <;> omega) (b0 _)
    · refine ⟨_, rfl, _, rfl, ?_⟩
      refine ⟨_, rfl, _, _, rfl, rfl, (by show (0 : Int) < 2147483629; decide), _, rfl, _, _, rfl, rfl, .inl ⟨by decide, by decide⟩, _, rfl, _, _, rfl, rfl, .inr ⟨by omega, by omega⟩, _, _, rfl, rfl, _, rfl, _, _, rfl, rfl, .inl ⟨by decide, by decide⟩, _, _, rfl, rfl, _, _, rfl, rfl, _, _, rfl, rfl, ⟨by decide, by decide, by have := key 0; omega⟩, _, _, rfl, rfl, (by show (0 : Int) < 2147483647; decide), ?_⟩
      refine ⟨_, rfl, _, rfl, _, _, rfl, rfl, ⟨by decide, by decide, by decide⟩, _, _, rfl, rfl, .inr ⟨_, rfl, ?_⟩⟩
      refine ⟨_, _, rfl, rfl, .inr (b01 _), _, rfl, (by show 2 ≤ sizeLine; decide), fun p hp => ?_⟩
      refine kq p _ _ hp ⟨_, _, upd_same, ?_, Int.emod_nonneg _ (by decide), Int.emod_lt_of_pos _ (by decide)⟩
      refine Int.mul_nonneg (by split <;> omega) (b0 _)
end
end K12

set_option Elab.async false
set_option linter.all false
set_option maxRecDepth 100000
set_option maxHeartbeats 4000000
namespace L2
open PySem PySem.Spec PyProof.Rows
theorem yes_if {σ : St} {H : Hp} {A B : Hp → Prop} (h : A H) : tYes σ H fun b H3 => if b = true then A H3 else B H3 := by
  show (if true = true then A H else B H)
  exact iteT h
theorem same_new {H : Hp} {p : Addr} {o : HO} (h : H p = none) : Same H (upd H p o) := fun b u e => by rw [upd_ne (ne_of_none e h)]; exact e
theorem same_exv {H : Hp} {a d C : Addr} {fl : List (Str × V)} (ha : H a = none) (hd : H d = none) : Same H (upd (upd H d (exd d fl)) a (exo a C (some d))) := fun b u e => by
  rw [upd_ne (ne_of_none e ha), upd_ne (ne_of_none e hd)]; exact e
/-- an own error at a, its dict at d -/
def Er (H : Hp) (a d C : Addr) (fl : List (Str × V)) : Prop := H a = some (exo a C (some d)) ∧ H d = some (exd d fl)
theorem Er.mono {H H' : Hp} {a d C : Addr} {fl : List (Str × V)} (h : Er H a d C fl) (S : Same H H') : Er H' a d C fl := ⟨S _ _ h.1, S _ _ h.2⟩
theorem er_new {H : Hp} {a d C : Addr} {fl : List (Str × V)} (hn : a ≠ d) : Er (upd (upd H d (exd d fl)) a (exo a C (some d))) a d C fl := ⟨upd_same, by rw [upd_ne (Ne.symm hn), upd_same]⟩
/-- all but the object at p stands -/
def Keep (p : Addr) (H H' : Hp) : Prop := ∀ b o, b ≠ p → H b = some o → H' b = some o
theorem Keep.of {p : Addr} {H H' : Hp} (S : Same H H') : Keep p H H' := fun b o _ e => S b o e
theorem Keep.trans {p : Addr} {H H1 H2 : Hp} (a : Keep p H H1) (b : Keep p H1 H2) : Keep p H H2 := fun c o n e => b c o n (a c o n e)
theorem keep_upd {p : Addr} {H : Hp} {o : HO} : Keep p H (upd H p o) := fun b u n e => by rw [upd_ne n]; exact e
theorem Keep.new {p : Addr} {H0 H H' : Hp} (k : Keep p H H') (h0 : H0 p = none) (S : Same H0 H) : Same H0 H' := fun b o e => k b o (ne_of_none e h0) (S b o e)
end L2
namespace L2
open PySem PySem.Spec PyProof.Rows
theorem Same.sqT {K : PySem.W.Frag} {H H' : Hp} {a : Addr} {xs : List V} (S : Same H H') (h : SqT K H a xs) : SqT K H' a xs := by
  rcases h with (h | ⟨o, h⟩) | h
  · exact .inl (.inl (S _ _ h))
  · exact .inl (.inr ⟨o, S _ _ h⟩)
  · exact .inr h
mutual
theorem Dq.mono {K : PySem.W.Frag} {H H' : Hp} (S : Same H H') : ∀ {v : V} {d : PyData}, Dq K H v d → Dq K H' v d
  | _, _, .non => .non
  | _, _, .bl b => .bl b
  | _, _, .int i => .int i
  | _, _, .str x => .str x
  | _, _, .lst h r => .lst (S.seq h) (DqAll.mono S r)
  | _, _, .tup h r => .tup (S.sqT h) (DqAll.mono S r)
  | _, _, .dic h => .dic (S _ _ h)
theorem DqAll.mono {K : PySem.W.Frag} {H H' : Hp} (S : Same H H') : ∀ {vs : List V} {ds : List PyData}, DqAll K H vs ds → DqAll K H' vs ds
  | _, _, .nil => .nil
  | _, _, .cons h r => .cons (h.mono S) (DqAll.mono S r)
end
theorem showableAll_of : ∀ ds : List PyData, (∀ d ∈ ds, d.showable = true) → PyData.showableAll ds = true
  | [], _ => rfl
  | d :: ds, h => by
    show (d.showable && PyData.showableAll ds) = true
    rw [h d (by simp), showableAll_of ds fun e he => h e (by simp [he])]; rfl
theorem depthAll_of {n : Nat} : ∀ ds : List PyData, (∀ d ∈ ds, d.depth ≤ n) → PyData.depthAll ds ≤ n
  | [], _ => Nat.zero_le _
  | d :: ds, h => by
    show max d.depth (PyData.depthAll ds) ≤ n
    exact Nat.max_le.mpr ⟨h d (by simp), depthAll_of ds fun e he => h e (by simp [he])⟩
theorem piledAll_of : ∀ ds : List PyData, (∀ d ∈ ds, d.shown.length ≤ 40) → piled (PyData.shownAll ds) ≤ 42 * ds.length
  | [], _ => by show piled [] ≤ _; rw [piled_nil]; omega
  | d :: ds, h => by
    show piled (d.shown :: PyData.shownAll ds) ≤ _
    have h1 := h d (by simp)
    have h2 := piledAll_of ds fun e he => h e (by simp [he])
    rw [piled_cons, List.length_cons]; omega
theorem listText_le : ∀ ts : List Str, (listText ts).length ≤ piled ts + 4
  | [] => by rw [piled_nil]; decide +kernel
  | t :: r => by
    have h := textFrom_length_pos r 1 (("[" : Str) ++ ("" : Str) ++ t) (Nat.succ_pos 0)
    have e : (("[" : Str) ++ ("" : Str) ++ t).length = 1 + t.length := by rw [Str.length_append, Str.length_append]; rfl
    have hX : (listText (t :: r)).length = (textFrom 1 (("[" : Str) ++ ("" : Str) ++ t) r).length + 1 := by
      show (textFrom 1 (("[" : Str) ++ ("" : Str) ++ t) r ++ "]").length = _
      rw [Str.length_append]; rfl
    rw [hX, h, e, piled_cons]; omega
theorem listData {ds : List PyData} (h : ∀ d ∈ ds, d.showable = true ∧ d.depth ≤ 3 ∧ d.shown.length ≤ 40) (hl : ds.length ≤ 10) : (PyData.list ds).showable = true ∧ (PyData.list ds).depth ≤ 20 ∧ (PyData.list ds).shown.length ≤ sizeLine := by
  refine ⟨showableAll_of ds fun d hd => (h d hd).1, ?_, ?_⟩
  · have := depthAll_of ds fun d hd => (h d hd).2.1
    show PyData.depthAll ds + 1 ≤ 20
    omega
  · have h1 := piledAll_of ds fun d hd => (h d hd).2.2
    have h2 := listText_le (PyData.shownAll ds)
    show (listText (PyData.shownAll ds)).length ≤ sizeLine
    rw [sizeLine_eq]; omega
theorem dpBools {K : PySem.W.Frag} {H : Hp} (f : Nat → Bool) : ∀ l : List Nat, DpAll K H (l.map fun q => V.bl (f q)) (l.map fun q => PyData.bool (f q))
  | [] => .nil
  | q :: r => .cons (.bl _) (dpBools f r)
theorem shBools (f : Nat → Bool) : SeqAt.shaped (.list ((List.range 8).map fun q => PyData.bool (f q))) = true := rfl
end L2
namespace K12
open PySem PySem.Spec PyProof.Rows L2 He KH PySem.KX
open PySem.W (Frag)
def valsL (t l d u : Addr) : List V := [.non, .int (-5), .str "a", .ref t, .ref l, .ref d, .bl true, .int (10 ^ 30), .int 0, .str "", .ref u]
structure Menu (H : Hp) (pl t l d u vl : Addr) : Prop where
  pool : PoolAt H pl
  ht : H t = some (.tup [.str "m", .int 1])
  hl : H l = some (.lst [.int 1])
  hd : H d = some (.dK [])
  hu : H u = some (.tup [])
  hv : H vl = some (.lst (valsL t l d u))
  ne : pl ≠ t ∧ pl ≠ l ∧ pl ≠ d ∧ pl ≠ u ∧ pl ≠ vl
theorem Menu.keep {H H' : Hp} {pl t l d u vl : Addr} (M : Menu H pl t l d u vl) (k : Keep pl H H') (p : PoolAt H' pl) : Menu H' pl t l d u vl :=
  ⟨p, k _ _ (Ne.symm M.ne.1) M.ht, k _ _ (Ne.symm M.ne.2.1) M.hl, k _ _ (Ne.symm M.ne.2.2.1) M.hd, k _ _ (Ne.symm M.ne.2.2.2.1) M.hu, k _ _ (Ne.symm M.ne.2.2.2.2) M.hv, M.ne⟩
theorem pool_same {H H' : Hp} {p : Addr} (h : PoolAt H p) (S : Same H H') : PoolAt H' p := let ⟨a, b, e, r⟩ := h; ⟨a, b, S _ _ e, r⟩
theorem Menu.same {H H' : Hp} {pl t l d u vl : Addr} (M : Menu H pl t l d u vl) (S : Same H H') : Menu H' pl t l d u vl := M.keep (Keep.of S) (pool_same M.pool S)
theorem menu_mk {H : Hp} {pl t l d u vl : Addr} (hp : PoolAt H pl) (ht : H t = none) (hl : upd H t (.tup [.str "m", .int 1]) l = none) (hd : upd (upd H t (.tup [.str "m", .int 1])) l (.lst [.int 1]) d = none) (hu : upd (upd (upd H t (.tup [.str "m", .int 1])) l (.lst [.int 1])) d (.dK []) u = none)
    (hv : upd (upd (upd (upd H t (.tup [.str "m", .int 1])) l (.lst [.int 1])) d (.dK [])) u (.tup []) vl = none) :
    Menu (upd (upd (upd (upd (upd H t (.tup [.str "m", .int 1])) l (.lst [.int 1])) d (.dK [])) u (.tup [])) vl (.lst (valsL t l d u))) pl t l d u vl ∧ Same H (upd (upd (upd (upd (upd H t (.tup [.str "m", .int 1])) l (.lst [.int 1])) d (.dK [])) u (.tup [])) vl (.lst (valsL t l d u))) := by
  have S1 := same_new (o := .tup [.str "m", .int 1]) ht
  have S2 := same_new (o := .lst [.int 1]) hl
  have S3 := same_new (o := .dK []) hd
  have S4 := same_new (o := .tup []) hu
  have S5 := same_new (o := .lst (valsL t l d u)) hv
  obtain ⟨a, b, e, r⟩ := id hp
  refine ⟨⟨pool_same hp (((S1.trans S2).trans S3).trans S4 |>.trans S5), S5 _ _ (S4 _ _ (S3 _ _ (S2 _ _ upd_same))), S5 _ _ (S4 _ _ (S3 _ _ upd_same)), S5 _ _ (S4 _ _ upd_same), S5 _ _ upd_same, upd_same, ?_⟩, (((S1.trans S2).trans S3).trans S4).trans S5⟩
  exact ⟨ne_of_none e ht, ne_of_none (S1 _ _ e) hl, ne_of_none (S2 _ _ (S1 _ _ e)) hd, ne_of_none (S3 _ _ (S2 _ _ (S1 _ _ e))) hu, ne_of_none (S4 _ _ (S3 _ _ (S2 _ _ (S1 _ _ e)))) hv⟩
/-- a value of the menu, as data -/
def MenuV (K : Frag) (H : Hp) (v : V) : Prop := ∃ dt : PyData, Dq K H v dt ∧ dt.showable = true ∧ dt.depth ≤ 3 ∧ dt.shown.length ≤ 40
theorem menuV {K : Frag} {H : Hp} {pl t l d u vl : Addr} (M : Menu H pl t l d u vl) {v : V} (h : v ∈ valsL t l d u) : MenuV K H v := by
  have h1 : Dq K H (.int 1) (.int 1) := .int 1
  simp only [valsL, List.mem_cons, List.not_mem_nil, or_false] at h
  rcases h with rfl | rfl | rfl | rfl | rfl | rfl | rfl | rfl | rfl | rfl | rfl
  · exact ⟨_, .non, by decide +kernel, by decide +kernel, by decide +kernel⟩
  · exact ⟨_, .int _, by decide +kernel, by decide +kernel, by decide +kernel⟩
  · exact ⟨_, .str _, by decide +kernel, by decide +kernel, by decide +kernel⟩
  · exact ⟨_, .tup (SqT.of M.ht) (.cons (.str _) (.cons h1 .nil)), by decide +kernel, by decide +kernel, by decide +kernel⟩
  · exact ⟨_, .lst (SqL.of M.hl) (.cons h1 .nil), by decide +kernel, by decide +kernel, by decide +kernel⟩
  · exact ⟨_, .dic M.hd, by decide +kernel, by decide +kernel, by decide +kernel⟩
  · exact ⟨_, .bl _, by decide +kernel, by decide +kernel, by decide +kernel⟩
  · exact ⟨_, .int _, by decide +kernel, by decide +kernel, by decide +kernel⟩
  · exact ⟨_, .int _, by decide +kernel, by decide +kernel, by decide +kernel⟩
  · exact ⟨_, .str _, by decide +kernel, by decide +kernel, by decide +kernel⟩
  · exact ⟨_, .tup (SqT.of M.hu) .nil, by decide +kernel, by decide +kernel, by decide +kernel⟩
theorem vals_at {t l d u : Addr} {r : Int} (h0 : 0 ≤ r) (h : r < 11) : ∃ v, atI (valsL t l d u) r = some v ∧ v ∈ valsL t l d u := by
  obtain ⟨n, rfl⟩ := Int.eq_ofNat_of_zero_le h0
  have hn : n < (valsL t l d u).length := by show n < 11; omega
  exact ⟨(valsL t l d u)[n], atI_nat (List.getElem?_eq_getElem hn), List.getElem_mem hn⟩
end K12

set_option Elab.async false
set_option linter.all false
set_option maxRecDepth 100000
set_option maxHeartbeats 4000000
set_option pp.maxSteps 1500
set_option pp.deepTerms false
namespace K12
open PySem PySem.Spec PyProof.Rows L2 He KH PySem.KX
open PySem.W (Frag)
abbrev N : List Str := ["_law_script", "_law_k", "_law_pool_here", "_law_values", "_law_value", "_law_other", "_law_more", "_law_turn", "_law_made", "_law_at", "_law_one", "_law_kinds", "_law_place", "_law_told"]
structure Txt (K : Frag) (mg : Str → Option Value) (fP fT : Addr) : Prop where
  n_len : mg "len" = none
  n_super : mg "super" = none
  n_abs : mg "abs" = none
  n_int : mg "int" = none
  n_max : mg "max" = none
  n_min : mg "min" = none
  n_range : mg "range" = none
  n_enumerate : mg "enumerate" = none
  n_isinstance : mg "isinstance" = none
  n_repr : mg "repr" = none
  n_ValueError : mg "ValueError" = none
  n_LookupError : mg "LookupError" = none
  g__law_pool : mg "_law_pool" = some (.ref fP)
  g__law_take : mg "_law_take" = some (.ref fT)
  g_KeptError : mg "KeptError" = some (.ref (ga K "KeptError"))
  g_BadText : mg "BadText" = some (.ref (cl K 0))
  g_BadSyntax : mg "BadSyntax" = some (.ref (cl K 1))
  g_BadName : mg "BadName" = some (.ref (cl K 2))
  g_BadProject : mg "BadProject" = some (.ref (cl K 3))
  g_BadPlace : mg "BadPlace" = some (.ref (cl K 4))
  g_BadEdit : mg "BadEdit" = some (.ref (cl K 5))
  g_BadValue : mg "BadValue" = some (.ref (cl K 6))
  g_Refused : mg "Refused" = some (.ref (cl K 7))
  x_BadText : ExTxt P K (cl K 0) (iAd K "BadText") iText ["at"]
  x_BadSyntax : ExTxt P K (cl K 1) (iAd K "BadSyntax") iSyntax ["at"]
  x_BadName : ExTxt P K (cl K 2) (iAd K "BadName") iName ["value"]
  x_BadProject : ExTxt P K (cl K 3) (iAd K "BadProject") iProject ["place"]
  x_BadPlace : ExTxt P K (cl K 4) (iAd K "BadPlace") iPlace ["value"]
  x_BadEdit : ExTxt P K (cl K 5) (iAd K "BadEdit") iEdit ["edit"]
  x_BadValue : ExTxt P K (cl K 6) (iAd K "BadValue") iValue ["value"]
  x_Refused : ExTxt P K (cl K 7) (iAd K "Refused") iRefused ["reason", "one", "other"]
  sm : PySem.W.typeIn K (.ref sysModules) = some (.type "dict")
  kit : ∀ i < 8, ∀ j < 8, PySem.W.kitOne K (.ref (cl K i)) (.ref (cl K j)) = some (decide (j = i))
  kitK : ∀ i < 8, PySem.W.kitOne K (.ref (cl K i)) (.ref (ga K "KeptError")) = some true
  kitV : ∀ i < 8, PySem.W.kitOne K (.ref (cl K i)) (.type "ValueError") = some true
  kitL : PySem.W.kitOne K (.ref (cl K 0)) (.type "LookupError") = some false
  exc : ∀ i < 8, ExcC K (cl K i)
theorem fld_at : Fld "at" := ⟨by decide +kernel, by decide +kernel, by decide +kernel, by decide +kernel⟩
theorem fld_value : Fld "value" := ⟨by decide +kernel, by decide +kernel, by decide +kernel, by decide +kernel⟩
theorem fld_place : Fld "place" := ⟨by decide +kernel, by decide +kernel, by decide +kernel, by decide +kernel⟩
theorem fld_edit : Fld "edit" := ⟨by decide +kernel, by decide +kernel, by decide +kernel, by decide +kernel⟩
theorem sh_BadText : Init1 iText "at" := ⟨_, _, _, _, _, _, _, _, _, _, _, _, rfl, rfl, rfl, fun _ _ _ _ _ => ⟨_, rfl⟩, fun _ _ _ _ _ _ _ _ _ => rfl⟩
theorem sh_BadSyntax : Init1 iSyntax "at" := ⟨_, _, _, _, _, _, _, _, _, _, _, _, rfl, rfl, rfl, fun _ _ _ _ _ => ⟨_, rfl⟩, fun _ _ _ _ _ _ _ _ _ => rfl⟩
theorem sh_BadName : Init1 iName "value" := ⟨_, _, _, _, _, _, _, _, _, _, _, _, rfl, rfl, rfl, fun _ _ _ _ _ => ⟨_, rfl⟩, fun _ _ _ _ _ _ _ _ _ => rfl⟩
theorem sh_BadProject : Init1 iProject "place" := ⟨_, _, _, _, _, _, _, _, _, _, _, _, rfl, rfl, rfl, fun _ _ _ _ _ => ⟨_, rfl⟩, fun _ _ _ _ _ _ _ _ _ => rfl⟩
theorem sh_BadPlace : Init1 iPlace "value" := ⟨_, _, _, _, _, _, _, _, _, _, _, _, rfl, rfl, rfl, fun _ _ _ _ _ => ⟨_, rfl⟩, fun _ _ _ _ _ _ _ _ _ => rfl⟩
theorem sh_BadEdit : Init1 iEdit "edit" := ⟨_, _, _, _, _, _, _, _, _, _, _, _, rfl, rfl, rfl, fun _ _ _ _ _ => ⟨_, rfl⟩, fun _ _ _ _ _ _ _ _ _ => rfl⟩
theorem sh_BadValue : Init1 iValue "value" := ⟨_, _, _, _, _, _, _, _, _, _, _, _, rfl, rfl, rfl, fun _ _ _ _ _ => ⟨_, rfl⟩, fun _ _ _ _ _ _ _ _ _ => rfl⟩
theorem sh_Refused : Init3 iRefused := ⟨_, _, _, _, _, _, _, _, _, _, _, _, _, _, _, _, _, _, _, _, _, _, _, _, rfl, rfl, rfl, fun _ _ _ _ _ => ⟨_, rfl⟩⟩
section
variable {w : World} {K : Frag} {mg : Str → Option Value} {base : Heap}
theorem lk1 : (Str.ofString "one" == Str.ofString "reason") = false := by decide +kernel
theorem lk2 : (Str.ofString "other" == Str.ofString "reason") = false := by decide +kernel
theorem lk3 : (Str.ofString "other" == Str.ofString "one") = false := by decide +kernel
theorem scL : FnScope N ["_law_script"] (defScope sLaw) := ⟨rfl, rfl, rfl, by decide +kernel, rfl, by decide +kernel, by decide +kernel⟩
def spLaw (K : Frag) : Sp := fun vs H Q _ => ∃ (a : Addr) (ns : List Int), vs = [.ref a] ∧ SqL K H a (ns.map V.int) ∧ ns.length ≤ 63 ∧ ∀ H', Q (.bl true) H'
theorem ok_law {f fP fT : Addr} {fd fdP fdT : FuncData} (F : Fun K "law" "law" sLaw f fd) (F__law_pool : Fun K "_law_pool" "_law_pool" sPool fP fdP) (F__law_take : Fun K "_law_take" "_law_take" sTake fT fdT) (T : Txt K mg fP fT) : FnAt P w K mg base f fd ["_law_script"] (spLaw K) := by
  have G__law_pool : FnOk P w K mg base CX0 1 fP fdP ["_law_script", "_law_k"] (spPool K) := ok_pool F__law_pool ⟨T.n_len, T.n_abs, T.n_int⟩
  have G__law_take : FnOk P w K mg base CX0 1 fT fdT ["_law_pool_here", "_law_many"] spTake := ok_take F__law_take
  have b__law_pool : Binds K fdP ["_law_script", "_law_k"] [] := F__law_pool.binds fun _ _ _ _ _ _ us hl => match us, hl with | [_, _], _ => rfl
  have b__law_take : Binds K fdT ["_law_pool_here", "_law_many"] [] := F__law_take.binds fun _ _ _ _ _ _ us hl => match us, hl with | [_, _], _ => rfl
  have M_BadText : ExMk P w K mg (cl K 0) (iAd K "BadText") (mk1 "at") := exMk1 T.x_BadText (by simp) sh_BadText fld_at
  have M_BadSyntax : ExMk P w K mg (cl K 1) (iAd K "BadSyntax") (mk1 "at") := exMk1 T.x_BadSyntax (by simp) sh_BadSyntax fld_at
  have M_BadName : ExMk P w K mg (cl K 2) (iAd K "BadName") (mk1 "value") := exMk1 T.x_BadName (by simp) sh_BadName fld_value
  have M_BadProject : ExMk P w K mg (cl K 3) (iAd K "BadProject") (mk1 "place") := exMk1 T.x_BadProject (by simp) sh_BadProject fld_place
  have M_BadPlace : ExMk P w K mg (cl K 4) (iAd K "BadPlace") (mk1 "value") := exMk1 T.x_BadPlace (by simp) sh_BadPlace fld_value
  have M_BadEdit : ExMk P w K mg (cl K 5) (iAd K "BadEdit") (mk1 "edit") := exMk1 T.x_BadEdit (by simp) sh_BadEdit fld_edit
  have M_BadValue : ExMk P w K mg (cl K 6) (iAd K "BadValue") (mk1 "value") := exMk1 T.x_BadValue (by simp) sh_BadValue fld_value
  have M_Refused : ExMk P w K mg (cl K 7) (iAd K "Refused") mk3 := exMk3 T.x_Refused sh_Refused
  refine F.okAt (k := 3) scL ⟨rfl, by decide, by decide⟩ (fun vs H Q E h => ?_) (fun cdv A outer s H vs Q E hgA hr h => ?_)
  · obtain ⟨a, ns, rfl, _⟩ := h
    rfl
  · obtain ⟨a, ns, rfl, hS, hlen, kq⟩ := h
    have sc := scL
    have hg : (A.deeper (envOfC "law" (defScope sLaw) s.heap.objs.size f cdv)).guards = some [] := by
      exact hgA
    have hr__law_pool : Room 1 _ := hr.mono (by decide)
    have hr__law_take : Room 1 _ := hr.mono (by decide)
    have hu64 := hr.units
    refine ⟨_, (pss_cons (ps_for PassesOwn.never rfl (pi_range1 rfl T.n_range (pa_cons (pe_callB (call_max2 rfl) rfl T.n_max (by decide +kernel) (pa_cons pe_int (pa_cons (pe_callB (call_min2 rfl) rfl T.n_min (by decide +kernel) (pa_cons (pe_callB call_len rfl T.n_len (by decide +kernel) (pa_cons (pv 0) pa_nil)) (pa_cons pe_int pa_nil))) pa_nil))) pa_nil)) (pg_name (i := 1) sc.nd rfl (Or.inl rfl))
        (pss_cons (ps_set (i := 2) sc.nd rfl (Or.inr rfl) (pe_call G__law_pool hr__law_pool rfl T.g__law_pool F__law_pool.kp b__law_pool .nil pass0 (pa_cons (pv 0) (pa_cons (pv 1) pa_nil))))
        (pss_cons (ps_set (i := 3) sc.nd rfl (Or.inr rfl) (pe_lst (pa_cons pe_non (pa_cons (pe_un un_neg pe_int) (pa_cons pe_str (pa_cons (pe_tup (pa_cons pe_str (pa_cons pe_int pa_nil))) (pa_cons (pe_lst (pa_cons pe_int pa_nil)) (pa_cons pe_dnewK (pa_cons pe_bl (pa_cons (pe_op op_pow pe_int pe_int) (pa_cons pe_int (pa_cons pe_str (pa_cons (pe_tup pa_nil) pa_nil)))))))))))))
        (pss_cons (ps_asg (pe_lc (own := [("_law_turn", 7)]) (g := gName 7) (tt := tYes) rfl sc.nd (pi_range1 rfl T.n_range (pa_cons pe_int pa_nil)) (blkOk_by (N := N) (sc := defScope sLaw) (by decide +kernel)) (fun _ _ _ _ _ => pg_name (i := 7) sc.nd rfl (Or.inl rfl)) (fun _ _ _ _ _ => pts_nil) (fun _ _ _ _ _ => (pe_ix (r := rIxL K) ix_list (pv 3) (pe_call G__law_take hr__law_take rfl T.g__law_take F__law_take.kp b__law_take .nil pass0 (pa_cons (pv 2) (pa_cons pe_int pa_nil))) (fun _ _ => rfl)))) (pg_lst rfl (pgs_cons (pg_name (i := 4) sc.nd rfl (Or.inl rfl)) (pgs_cons (pg_name (i := 5) sc.nd rfl (Or.inl rfl)) (pgs_cons (pg_name (i := 6) sc.nd rfl (Or.inl rfl)) pgs_nil)))))
        (pss_cons (ps_set (i := 8) sc.nd rfl (Or.inl rfl) (pe_lst (pa_cons (pe_exv T.x_BadText M_BadText T.g_BadText T.n_super hr (pa_cons (pv 4) pa_nil) rfl) (pa_cons (pe_exv T.x_BadSyntax M_BadSyntax T.g_BadSyntax T.n_super hr (pa_cons (pv 4) pa_nil) rfl) (pa_cons (pe_exv T.x_BadName M_BadName T.g_BadName T.n_super hr (pa_cons (pv 4) pa_nil) rfl) (pa_cons (pe_exv T.x_BadProject M_BadProject T.g_BadProject T.n_super hr (pa_cons (pv 4) pa_nil) rfl) (pa_cons (pe_exv T.x_BadPlace M_BadPlace T.g_BadPlace T.n_super hr (pa_cons (pv 4) pa_nil) rfl) (pa_cons (pe_exv T.x_BadEdit M_BadEdit T.g_BadEdit T.n_super hr (pa_cons (pv 4) pa_nil) rfl) pa_nil))))))))
        (pss_cons (ps_set (i := 8) sc.nd rfl (Or.inl rfl) (pe_op op_cat (pv 8) (pe_lst (pa_cons (pe_exv T.x_BadValue M_BadValue T.g_BadValue T.n_super hr (pa_cons (pv 4) pa_nil) rfl) (pa_cons (pe_exv T.x_Refused M_Refused T.g_Refused T.n_super hr (pa_cons (pv 4) (pa_cons (pv 5) (pa_cons (pv 6) pa_nil))) rfl) pa_nil)))))
        (pss_cons (ps_for PassesOwn.never rfl (pi_enum rfl T.n_enumerate (pa_cons (pv 8) pa_nil)) (pg_tup rfl (pgs_cons (pg_name (i := 9) sc.nd rfl (Or.inr rfl)) (pgs_cons (pg_name (i := 10) sc.nd rfl (Or.inl rfl)) pgs_nil)))
          (pss_cons (ps_set (i := 11) sc.nd rfl (Or.inl rfl) (pe_lst (pa_cons (pe_callB call_isV rfl T.n_isinstance (by decide +kernel) (pa_cons (pv 10) (pa_cons (pe_glob (v := .ref _) rfl T.g_BadText rfl) pa_nil))) (pa_cons (pe_callB call_isV rfl T.n_isinstance (by decide +kernel) (pa_cons (pv 10) (pa_cons (pe_glob (v := .ref _) rfl T.g_BadSyntax rfl) pa_nil))) (pa_cons (pe_callB call_isV rfl T.n_isinstance (by decide +kernel) (pa_cons (pv 10) (pa_cons (pe_glob (v := .ref _) rfl T.g_BadName rfl) pa_nil))) pa_nil)))))
          (pss_cons (ps_set (i := 11) sc.nd rfl (Or.inl rfl) (pe_op op_cat (pv 11) (pe_lst (pa_cons (pe_callB call_isV rfl T.n_isinstance (by decide +kernel) (pa_cons (pv 10) (pa_cons (pe_glob (v := .ref _) rfl T.g_BadProject rfl) pa_nil))) (pa_cons (pe_callB call_isV rfl T.n_isinstance (by decide +kernel) (pa_cons (pv 10) (pa_cons (pe_glob (v := .ref _) rfl T.g_BadPlace rfl) pa_nil))) (pa_cons (pe_callB call_isV rfl T.n_isinstance (by decide +kernel) (pa_cons (pv 10) (pa_cons (pe_glob (v := .ref _) rfl T.g_BadEdit rfl) pa_nil))) pa_nil))))))
          (pss_cons (ps_set (i := 11) sc.nd rfl (Or.inl rfl) (pe_op op_cat (pv 11) (pe_lst (pa_cons (pe_callB call_isV rfl T.n_isinstance (by decide +kernel) (pa_cons (pv 10) (pa_cons (pe_glob (v := .ref _) rfl T.g_BadValue rfl) pa_nil))) (pa_cons (pe_callB call_isV rfl T.n_isinstance (by decide +kernel) (pa_cons (pv 10) (pa_cons (pe_glob (v := .ref _) rfl T.g_Refused rfl) pa_nil))) pa_nil)))))
          (pss_cons (ps_if (pt_cmpR (op_neD hu64) (pv 11) (pe_lc (own := [("_law_place", 12)]) (g := gName 12) (tt := tYes) rfl sc.nd (pi_range1 rfl T.n_range (pa_cons pe_int pa_nil)) (blkOk_by (N := N) (sc := defScope sLaw) (by decide +kernel)) (fun _ _ _ _ _ => pg_name (i := 12) sc.nd rfl (Or.inl rfl)) (fun _ _ _ _ _ => pts_nil) (fun _ _ _ _ _ => (pe_cmpR op_eq (pv 12) (pv 9) (nomark _)))) (nomark _))
            (pss_one (ps_ret pe_bl))
            pss_nil)
          (pss_one (ps_if (PW.pt (pw_or (pt_not (pt_val (pe_callB call_isV rfl T.n_isinstance (by decide +kernel) (pa_cons (pv 10) (pa_cons (pe_glob (v := .ref _) rfl T.g_KeptError rfl) pa_nil))))) (pw_or1 (pt_not (pt_val (pe_callB call_isV rfl T.n_isinstance (by decide +kernel) (pa_cons (pv 10) (pa_cons (pe_bltn (v := .ty "ValueError") (u := .type "ValueError") rfl T.n_ValueError (by decide +kernel) rfl) pa_nil))))))))
            (pss_one (ps_ret pe_bl))
            pss_nil)))))))
        (pss_cons (ps_set (i := 13) sc.nd rfl (Or.inl rfl) (pe_lst (pa_cons (pe_exf (pe_ix (r := rIxL K) ix_list (pv 8) pe_int (fun _ _ => rfl))) (pa_cons (pe_exf (pe_ix (r := rIxL K) ix_list (pv 8) pe_int (fun _ _ => rfl))) (pa_cons (pe_exf (pe_ix (r := rIxL K) ix_list (pv 8) pe_int (fun _ _ => rfl))) (pa_cons (pe_exf (pe_ix (r := rIxL K) ix_list (pv 8) pe_int (fun _ _ => rfl))) (pa_cons (pe_exf (pe_ix (r := rIxL K) ix_list (pv 8) pe_int (fun _ _ => rfl))) (pa_cons (pe_exf (pe_ix (r := rIxL K) ix_list (pv 8) pe_int (fun _ _ => rfl))) (pa_cons (pe_exf (pe_ix (r := rIxL K) ix_list (pv 8) pe_int (fun _ _ => rfl))) pa_nil)))))))))
        (pss_cons (ps_if (PW.pt (pw_or (pt_cmpR op_ne (pe_callB (call_reprD hg hr T.sm) rfl T.n_repr (by decide +kernel) (pa_cons (pv 13) pa_nil)) (pe_callB (call_reprD hg hr T.sm) rfl T.n_repr (by decide +kernel) (pa_cons (pe_op op_rep (pe_lst (pa_cons (pv 4) pa_nil)) pe_int) pa_nil)) (nomark _)) (pw_or1 (pt_cmpR op_ne (pe_callB (call_reprD hg hr T.sm) rfl T.n_repr (by decide +kernel) (pa_cons (pe_lst (pa_cons (pe_exf (pe_ix (r := rIxL K) ix_list (pv 8) pe_int (fun _ _ => rfl))) (pa_cons (pe_exf (pe_ix (r := rIxL K) ix_list (pv 8) pe_int (fun _ _ => rfl))) (pa_cons (pe_exf (pe_ix (r := rIxL K) ix_list (pv 8) pe_int (fun _ _ => rfl))) pa_nil)))) pa_nil)) (pe_callB (call_reprD hg hr T.sm) rfl T.n_repr (by decide +kernel) (pa_cons (pe_lst (pa_cons (pv 4) (pa_cons (pv 5) (pa_cons (pv 6) pa_nil)))) pa_nil)) (nomark _)))))
          (pss_one (ps_ret pe_bl))
          pss_nil)
        (pss_one (ps_if (pt_val (pe_callB call_isV rfl T.n_isinstance (by decide +kernel) (pa_cons (pe_ix (r := rIxL K) ix_list (pv 8) pe_int (fun _ _ => rfl)) (pa_cons (pe_bltn (v := .ty "LookupError") (u := .type "LookupError") rfl T.n_LookupError (by decide +kernel) rfl) pa_nil))))
          (pss_one (ps_ret pe_bl))
          pss_nil)))))))))))
      (pss_one (ps_ret pe_bl)))
, ?_⟩
    refine ⟨_, rfl, _, ns.length, rfl, .inl ⟨_, hS, by simp⟩, _, _, rfl, _, _, rfl, _, rfl, ?_, ?_, for_range (lo := 0) (fun i σ H1 => ∃ v1 v2 v3 v4 v5 v6 v7 v8 v9 v10 v11 v12 v13 : Option V, σ = [some (.ref a), v1, v2, v3, v4, v5, v6, v7, v8, v9, v10, v11, v12, v13] ∧ Same H H1) ?_ ?_ ?_⟩
    · split <;> split <;> omega
    · split <;> split <;> omega
    · exact ⟨_, _, _, _, _, _, _, _, _, _, _, _, _, rfl, Same.refl H⟩
    · rintro i σ H1 hi ⟨v1, v2, v3, v4, v5, v6, v7, v8, v9, v10, v11, v12, v13, rfl, S1⟩
      have hi3 : i < 3 := by
        revert hi
        split <;> split <;> omega
      -- the pool
      refine ⟨_, rfl, _, rfl, a, _, ns, rfl, S1.seq hS, by omega, by omega, fun pl x y npl hpl => ?_⟩
      -- the values
      refine ⟨_, rfl, (by show 2 ≤ sizeLine; decide), fun t ht => ⟨(by show 1 ≤ sizeLine; decide), fun l hl => fun d hd => ⟨_, _, rfl, rfl, ⟨by decide, by decide, by decide⟩, (by show 0 ≤ sizeLine; decide), fun u hu => ⟨(by show 11 ≤ sizeLine; decide), fun vl hvl => ?_⟩⟩⟩⟩
      obtain ⟨M2, S2⟩ := menu_mk hpl ht hl hd hu hvl
      generalize hH2 : upd (upd (upd (upd (upd (upd H1 pl (HO.lst [V.int x, V.int y])) t (.tup [.str "m", .int 1])) l (.lst [.int 1])) d (.dK [])) u (.tup [])) vl (.lst (valsL t l d u)) = H2 at M2 S2
      have S12 : Same H1 H2 := (same_new npl).trans S2
      have e2 : upd (upd (upd (upd (upd (upd H1 pl (HO.lst [V.int x, V.int y])) t (.tup [.str "m", .int 1])) l (.lst [.int 1])) d (.dK [])) u (.tup [])) vl (HO.lst [V.non, (fun i : Int => V.int (-i)) 5, V.str "a", V.ref t, V.ref l, V.ref d, V.bl true, (fun (i j : Int) => V.int (i ^ j.toNat)) 10 30, V.int 0, V.str "", V.ref u]) = H2 := hH2
      rw [e2]
      clear e2 hH2 ht hl hd hu hvl hpl S2
      -- three draws
      refine ⟨3, rfl, by decide, by decide, fun D hD => lc_range (lo := 0) (n := 3) (fun j H3 => ∃ acc : List V, acc.length = j ∧ (∀ z ∈ acc, z ∈ valsL t l d u) ∧ H3 D = some (.lst acc) ∧ Keep pl H2 H3 ∧ PoolAt H3 pl) ?_ ?_ ?_⟩
      · have SD := same_new (o := .lst []) hD
        exact ⟨[], rfl, by simp, upd_same, Keep.of SD, pool_same M2.pool SD⟩
      · rintro j H3 hj ⟨acc, hl3, hm3, hD3, k3, p3⟩
        refine ⟨rfl, yes_if ?_⟩
        have nD : D ≠ pl := by
          obtain ⟨pa, pb, pe, _⟩ := M2.pool
          exact Ne.symm (ne_of_none pe hD)
        refine ⟨_, rfl, _, rfl, pl, 11, rfl, p3, by decide, by decide, fun r o h0 h1 hp' _ => ?_⟩
        obtain ⟨v, hv, hvm⟩ := vals_at (t := t) (l := l) (d := d) (u := u) h0 h1
        have M4 := M2.keep (k3.trans keep_upd) hp'
        refine ⟨vl, _, _, v, rfl, rfl, SqL.of M4.hv, hv, acc, by rw [upd_ne nD]; exact hD3, (by rw [hl3]; exact Nat.lt_of_lt_of_le hj (by decide)), ?_⟩
        refine ⟨acc ++ [v], by rw [List.length_append, hl3]; rfl, fun z hz => (List.mem_append.mp hz).elim (hm3 z) (fun q => by rw [List.mem_singleton.mp q]; exact hvm), upd_same, fun b o' n e => ?_, ?_⟩
        · rw [upd_ne (ne_of_none e hD), upd_ne n]; exact k3 b o' n e
        · obtain ⟨qa, qb, qe, qr⟩ := hp'
          exact ⟨qa, qb, by rw [upd_ne (Ne.symm nD)]; exact qe, qr⟩
      · rintro H3 ⟨acc, hl3, hm3, hD3, k3, p3⟩
        have M3 := M2.keep k3 p3
        have S3 : Same H H3 := k3.new (S1.free npl) (S1.trans S12)
        obtain ⟨va, vo, vm, rfl⟩ : ∃ va vo vm, acc = [va, vo, vm] := match acc, hl3 with | [va, vo, vm], _ => ⟨va, vo, vm, rfl⟩
        refine ⟨D, _, rfl, SqL.of hD3, rfl, ?_⟩
        have mA := hm3 va (by simp)
        have mO := hm3 vo (by simp)
        have mM := hm3 vm (by simp)
        clear hD3 k3 hm3 hl3
        -- the errors
        refine ⟨_, _, rfl, _, _, rfl, _, _, rfl, rfl, ?_⟩
        refine ⟨_, rfl, _, rfl, (by show 1 ≤ 1000; decide), fun a0 d0 h0 h0' n0 => ?_⟩
        have Z0 := same_exv (C := cl K 0) (fl := [("at", va)]) h0 h0'
        have R0 := er_new (H := H3) (C := cl K 0) (fl := [("at", va)]) n0
        generalize hq0 : upd (upd H3 d0 (exd d0 [("at", va)])) a0 (exo a0 (cl K 0) (some d0)) = G0 at Z0 R0
        have q0 : upd (upd H3 d0 (exd d0 _)) a0 (exo a0 (cl K 0) (some d0)) = G0 := hq0
        clear hq0 q0
        refine ⟨_, rfl, _, rfl, (by show 1 ≤ 1000; decide), fun a1 d1 h1 h1' n1 => ?_⟩
        have Z1 := same_exv (C := cl K 1) (fl := [("at", va)]) h1 h1'
        have R1 := er_new (H := G0) (C := cl K 1) (fl := [("at", va)]) n1
        generalize hq1 : upd (upd G0 d1 (exd d1 [("at", va)])) a1 (exo a1 (cl K 1) (some d1)) = G1 at Z1 R1
        have q1 : upd (upd G0 d1 (exd d1 _)) a1 (exo a1 (cl K 1) (some d1)) = G1 := hq1
        clear hq1 q1
        refine ⟨_, rfl, _, rfl, (by show 1 ≤ 1000; decide), fun a2 d2 h2 h2' n2 => ?_⟩
        have Z2 := same_exv (C := cl K 2) (fl := [("value", va)]) h2 h2'
        have R2 := er_new (H := G1) (C := cl K 2) (fl := [("value", va)]) n2
        generalize hq2 : upd (upd G1 d2 (exd d2 [("value", va)])) a2 (exo a2 (cl K 2) (some d2)) = G2 at Z2 R2
        have q2 : upd (upd G1 d2 (exd d2 _)) a2 (exo a2 (cl K 2) (some d2)) = G2 := hq2
        clear hq2 q2
        refine ⟨_, rfl, _, rfl, (by show 1 ≤ 1000; decide), fun a3 d3 h3 h3' n3 => ?_⟩
        have Z3 := same_exv (C := cl K 3) (fl := [("place", va)]) h3 h3'
        have R3 := er_new (H := G2) (C := cl K 3) (fl := [("place", va)]) n3
        generalize hq3 : upd (upd G2 d3 (exd d3 [("place", va)])) a3 (exo a3 (cl K 3) (some d3)) = G3 at Z3 R3
        have q3 : upd (upd G2 d3 (exd d3 _)) a3 (exo a3 (cl K 3) (some d3)) = G3 := hq3
        clear hq3 q3
        refine ⟨_, rfl, _, rfl, (by show 1 ≤ 1000; decide), fun a4 d4 h4 h4' n4 => ?_⟩
        have Z4 := same_exv (C := cl K 4) (fl := [("value", va)]) h4 h4'
        have R4 := er_new (H := G3) (C := cl K 4) (fl := [("value", va)]) n4
        generalize hq4 : upd (upd G3 d4 (exd d4 [("value", va)])) a4 (exo a4 (cl K 4) (some d4)) = G4 at Z4 R4
        have q4 : upd (upd G3 d4 (exd d4 _)) a4 (exo a4 (cl K 4) (some d4)) = G4 := hq4
        clear hq4 q4
        refine ⟨_, rfl, _, rfl, (by show 1 ≤ 1000; decide), fun a5 d5 h5 h5' n5 => ?_⟩
        have Z5 := same_exv (C := cl K 5) (fl := [("edit", va)]) h5 h5'
        have R5 := er_new (H := G4) (C := cl K 5) (fl := [("edit", va)]) n5
        generalize hq5 : upd (upd G4 d5 (exd d5 [("edit", va)])) a5 (exo a5 (cl K 5) (some d5)) = G5 at Z5 R5
        have q5 : upd (upd G4 d5 (exd d5 _)) a5 (exo a5 (cl K 5) (some d5)) = G5 := hq5
        clear hq5 q5
        refine ⟨(by show 6 ≤ sizeLine; decide), fun L1 hL1 => ?_⟩
        have ZL1 := same_new (o := .lst [.ref a0, .ref a1, .ref a2, .ref a3, .ref a4, .ref a5]) hL1
        have eL1 : (upd G5 L1 (.lst [.ref a0, .ref a1, .ref a2, .ref a3, .ref a4, .ref a5])) L1 = _ := upd_same
        generalize hqL : upd G5 L1 (.lst [.ref a0, .ref a1, .ref a2, .ref a3, .ref a4, .ref a5]) = GL at ZL1 eL1
        clear hqL
        refine ⟨_, rfl, _, rfl, _, rfl, (by show 1 ≤ 1000; decide), fun a6 d6 h6 h6' n6 => ?_⟩
        have Z6 := same_exv (C := cl K 6) (fl := [("value", va)]) h6 h6'
        have R6 := er_new (H := GL) (C := cl K 6) (fl := [("value", va)]) n6
        generalize hq6 : upd (upd GL d6 (exd d6 [("value", va)])) a6 (exo a6 (cl K 6) (some d6)) = G6 at Z6 R6
        have q6 : upd (upd GL d6 (exd d6 _)) a6 (exo a6 (cl K 6) (some d6)) = G6 := hq6
        clear hq6 q6
        refine ⟨_, rfl, _, rfl, _, rfl, _, rfl, (by show 3 ≤ 1000; decide), fun a7 d7 h7 h7' n7 => ?_⟩
        have Z7 := same_exv (C := cl K 7) (fl := [("reason", va), ("one", vo), ("other", vm)]) h7 h7'
        have R7 := er_new (H := G6) (C := cl K 7) (fl := [("reason", va), ("one", vo), ("other", vm)]) n7
        generalize hq7 : upd (upd G6 d7 (exd d7 [("reason", va), ("one", vo), ("other", vm)])) a7 (exo a7 (cl K 7) (some d7)) = G7 at Z7 R7
        have q7 : upd (upd G6 d7 (exd d7 _)) a7 (exo a7 (cl K 7) (some d7)) = G7 := hq7
        clear hq7 q7
        refine ⟨(by show 2 ≤ sizeLine; decide), fun L2 hL2 => ⟨L1, L2, _, _, rfl, rfl, same_new hL2 _ _ (Z7 _ _ (Z6 _ _ eL1)), upd_same, (by show 8 ≤ sizeLine; decide), fun L3 hL3 => ?_⟩⟩
        have ZL2 := (same_new (o := .lst [.ref a6, .ref a7]) hL2).trans (same_new (o := .lst [.ref a0, .ref a1, .ref a2, .ref a3, .ref a4, .ref a5, .ref a6, .ref a7]) hL3)
        have eL3 : (upd (upd G7 L2 (.lst [.ref a6, .ref a7])) L3 (.lst [.ref a0, .ref a1, .ref a2, .ref a3, .ref a4, .ref a5, .ref a6, .ref a7])) L3 = _ := upd_same
        generalize hqM : upd (upd G7 L2 (.lst [.ref a6, .ref a7])) L3 (.lst [.ref a0, .ref a1, .ref a2, .ref a3, .ref a4, .ref a5, .ref a6, .ref a7]) = G at ZL2 eL3
        have qM : upd (upd G7 L2 (.lst [.ref a6, .ref a7])) L3 (.lst ([.ref a0, .ref a1, .ref a2, .ref a3, .ref a4, .ref a5] ++ [.ref a6, .ref a7])) = G := hqM
        rw [qM]
        clear hqM qM
        have Q0 := R0.mono ((((((((Z1.trans Z2).trans Z3).trans Z4).trans Z5).trans ZL1).trans Z6).trans Z7).trans ZL2)
        have Q1 := R1.mono (((((((Z2.trans Z3).trans Z4).trans Z5).trans ZL1).trans Z6).trans Z7).trans ZL2)
        have Q2 := R2.mono ((((((Z3.trans Z4).trans Z5).trans ZL1).trans Z6).trans Z7).trans ZL2)
        have Q3 := R3.mono (((((Z4.trans Z5).trans ZL1).trans Z6).trans Z7).trans ZL2)
        have Q4 := R4.mono ((((Z5.trans ZL1).trans Z6).trans Z7).trans ZL2)
        have Q5 := R5.mono (((ZL1.trans Z6).trans Z7).trans ZL2)
        have Q6 := R6.mono (Z7.trans ZL2)
        have Q7 := R7.mono ZL2
        have SG : Same H3 G := (((((((((Z0.trans Z1).trans Z2).trans Z3).trans Z4).trans Z5).trans ZL1).trans Z6).trans Z7).trans ZL2)
        have er : ∀ j < 8, ∃ aj dj fl, ([.ref a0, .ref a1, .ref a2, .ref a3, .ref a4, .ref a5, .ref a6, .ref a7] : List V)[j]? = some (.ref aj) ∧ Er G aj dj (cl K j) fl := fun j hj => match j, hj with
          | 0, _ => ⟨a0, d0, _, rfl, Q0⟩
          | 1, _ => ⟨a1, d1, _, rfl, Q1⟩
          | 2, _ => ⟨a2, d2, _, rfl, Q2⟩
          | 3, _ => ⟨a3, d3, _, rfl, Q3⟩
          | 4, _ => ⟨a4, d4, _, rfl, Q4⟩
          | 5, _ => ⟨a5, d5, _, rfl, Q5⟩
          | 6, _ => ⟨a6, d6, _, rfl, Q6⟩
          | 7, _ => ⟨a7, d7, _, rfl, Q7⟩
        have M5 := M3.same SG
        have S5 := S3.trans SG
        clear Z0 Z1 Z2 Z3 Z4 Z5 Z6 Z7 ZL1 ZL2 R0 R1 R2 R3 R4 R5 R6 R7 hL1 hL2 hL3 eL1 h0 h0' h1 h1' h2 h2' h3 h3' h4 h4' h5 h5' h6 h6' h7 h7'
        refine ⟨_, rfl, L3, _, rfl, SqL.of eL3, for_it (walk_enum (K := K) (a := L3) (xs := [.ref a0, .ref a1, .ref a2, .ref a3, .ref a4, .ref a5, .ref a6, .ref a7])) (fun j σ H4 => ∃ w9 w10 w11 w12 w13 : Option V, σ = [some (.ref a), some (.int (0 + (i : Int))), some (.ref pl), some (.ref vl), some va, some vo, some vm, v7, some (.ref L3), w9, w10, w11, w12, w13] ∧ Same G H4) ?_ ?_ ?_ ?_⟩
        · exact ⟨_, _, _, _, _, rfl, Same.refl G⟩
        · rintro j σ H4 _ ⟨w9, w10, w11, w12, w13, rfl, S6⟩
          exact SqL.of (S6 _ _ eL3)
        · rintro j x σ H4 H5 hj ⟨w9, w10, w11, w12, w13, rfl, S6⟩ ⟨T0, px, py, rfl, hT0, rfl, hpx, hpy⟩
          obtain ⟨aj, dj, flj, haj, hej⟩ := er j hj
          obtain rfl := Option.some.inj hpx
          obtain rfl := Option.some.inj (haj.symm.trans hpy)
          have S7 := S6.trans (same_new (o := .tup [.int (j : Nat), .ref aj]) hT0)
          refine ⟨T0, _, rfl, SqT.of upd_same, rfl, _, _, rfl, _, _, rfl, rfl, ?_⟩
          generalize upd H4 T0 (.tup [.int (j : Nat), .ref aj]) = H6 at S7
          have hej' := hej.mono S7
          have hdj : ∀ {H7 : Hp}, Same H6 H7 → ∀ e, some dj = some e → ∃ fl, H7 e = some (exd e fl) := fun S e he => ⟨flj, by cases he; exact (hej'.mono S).2⟩
          have sr := Same.refl H6
          refine ⟨_, rfl, aj, cl K j, some dj, _, .ref (cl K 0), _, rfl, (hej'.mono sr).1, hdj sr, T.exc j hj, fun u h => h, T.kit j hj 0 (by decide), ?_⟩
          refine ⟨_, rfl, aj, cl K j, some dj, _, .ref (cl K 1), _, rfl, (hej'.mono sr).1, hdj sr, T.exc j hj, fun u h => h, T.kit j hj 1 (by decide), ?_⟩
          refine ⟨_, rfl, aj, cl K j, some dj, _, .ref (cl K 2), _, rfl, (hej'.mono sr).1, hdj sr, T.exc j hj, fun u h => h, T.kit j hj 2 (by decide), ?_⟩
          refine ⟨(by show 3 ≤ sizeLine; decide), fun k1 hk1 => ?_⟩
          have s1 := same_new (o := .lst [.bl (decide (0 = j)), .bl (decide (1 = j)), .bl (decide (2 = j))]) hk1
          refine ⟨_, rfl, _, rfl, aj, cl K j, some dj, _, .ref (cl K 3), _, rfl, (hej'.mono s1).1, hdj s1, T.exc j hj, fun u h => h, T.kit j hj 3 (by decide), ?_⟩
          refine ⟨_, rfl, aj, cl K j, some dj, _, .ref (cl K 4), _, rfl, (hej'.mono s1).1, hdj s1, T.exc j hj, fun u h => h, T.kit j hj 4 (by decide), ?_⟩
          refine ⟨_, rfl, aj, cl K j, some dj, _, .ref (cl K 5), _, rfl, (hej'.mono s1).1, hdj s1, T.exc j hj, fun u h => h, T.kit j hj 5 (by decide), ?_⟩
          refine ⟨(by show 3 ≤ sizeLine; decide), fun k2 hk2 => ?_⟩
          have s2 := same_new (o := .lst [.bl (decide (3 = j)), .bl (decide (4 = j)), .bl (decide (5 = j))]) hk2
          refine ⟨k1, k2, _, _, rfl, rfl, s2 _ _ upd_same, upd_same, (by show 6 ≤ sizeLine; decide), fun k3 hk3 => ?_⟩
          have s3 := same_new (o := .lst [.bl (decide (0 = j)), .bl (decide (1 = j)), .bl (decide (2 = j)), .bl (decide (3 = j)), .bl (decide (4 = j)), .bl (decide (5 = j))]) hk3
          have s123 := (s1.trans s2).trans s3
          refine ⟨_, rfl, _, rfl, aj, cl K j, some dj, _, .ref (cl K 6), _, rfl, (hej'.mono s123).1, hdj s123, T.exc j hj, fun u h => h, T.kit j hj 6 (by decide), ?_⟩
          refine ⟨_, rfl, aj, cl K j, some dj, _, .ref (cl K 7), _, rfl, (hej'.mono s123).1, hdj s123, T.exc j hj, fun u h => h, T.kit j hj 7 (by decide), ?_⟩
          refine ⟨(by show 2 ≤ sizeLine; decide), fun k4 hk4 => ?_⟩
          have s4 := same_new (o := .lst [.bl (decide (6 = j)), .bl (decide (7 = j))]) hk4
          refine ⟨k3, k4, _, _, rfl, rfl, s4 _ _ upd_same, upd_same, (by show 8 ≤ sizeLine; decide), fun k5 hk5 => ?_⟩
          have s5 := (s123.trans s4).trans (same_new (o := .lst [.bl (decide (0 = j)), .bl (decide (1 = j)), .bl (decide (2 = j)), .bl (decide (3 = j)), .bl (decide (4 = j)), .bl (decide (5 = j)), .bl (decide (6 = j)), .bl (decide (7 = j))]) hk5)
          have e5 : (upd (upd (upd (upd (upd H6 k1 (.lst [.bl (decide (0 = j)), .bl (decide (1 = j)), .bl (decide (2 = j))])) k2 (.lst [.bl (decide (3 = j)), .bl (decide (4 = j)), .bl (decide (5 = j))])) k3 (.lst [.bl (decide (0 = j)), .bl (decide (1 = j)), .bl (decide (2 = j)), .bl (decide (3 = j)), .bl (decide (4 = j)), .bl (decide (5 = j))])) k4 (.lst [.bl (decide (6 = j)), .bl (decide (7 = j))])) k5 (.lst [.bl (decide (0 = j)), .bl (decide (1 = j)), .bl (decide (2 = j)), .bl (decide (3 = j)), .bl (decide (4 = j)), .bl (decide (5 = j)), .bl (decide (6 = j)), .bl (decide (7 = j))])) k5 = some (.lst ((List.range 8).map fun q => V.bl (decide (q = j)))) := upd_same
          refine ⟨_, rfl, 8, rfl, by decide, by decide, fun D2 hD2 => lc_range (lo := 0) (n := 8) (fun m H9 => H9 D2 = some (.lst ((List.range m).map fun q => V.bl (decide (q = j)))) ∧ Same (upd (upd (upd (upd (upd H6 k1 (.lst [.bl (decide (0 = j)), .bl (decide (1 = j)), .bl (decide (2 = j))])) k2 (.lst [.bl (decide (3 = j)), .bl (decide (4 = j)), .bl (decide (5 = j))])) k3 (.lst [.bl (decide (0 = j)), .bl (decide (1 = j)), .bl (decide (2 = j)), .bl (decide (3 = j)), .bl (decide (4 = j)), .bl (decide (5 = j))])) k4 (.lst [.bl (decide (6 = j)), .bl (decide (7 = j))])) k5 (.lst [.bl (decide (0 = j)), .bl (decide (1 = j)), .bl (decide (2 = j)), .bl (decide (3 = j)), .bl (decide (4 = j)), .bl (decide (5 = j)), .bl (decide (6 = j)), .bl (decide (7 = j))])) H9) ?_ ?_ ?_⟩
          · exact ⟨upd_same, same_new hD2⟩
          · rintro m H9 hm ⟨e9, S9⟩
            refine ⟨rfl, yes_if ?_⟩
            refine ⟨_, rfl, _, rfl, rfl, _, e9, (by rw [List.length_map, List.length_range]; exact Nat.lt_of_lt_of_le hm (by decide)), ?_, ?_⟩
            · rw [upd_same, List.range_succ, List.map_append]
              have : decide (V.int (0 + (m : Int)) = V.int (j : Int)) = decide (m = j) := by
                by_cases q : m = j
                · subst q; simp
                · rw [decide_eq_false q, decide_eq_false]
                  intro z
                  injection z with z
                  omega
              rw [this]
              rfl
            · intro b o e
              rw [upd_ne (ne_of_none e hD2)]
              exact S9 b o e
          · rintro H9 ⟨e9, S9⟩
            refine ⟨_, _, .lst (SqL.of (S9 _ _ e5)) (dpBools _ _), .lst (SqL.of e9) (dpBools _ _), shBools _, shBools _, _, rfl, ?_⟩
            rw [SeqAt.eqv_refl _ rfl]
            refine iteF ?_
            have s9 := s5.trans S9
            refine ⟨_, rfl, aj, cl K j, some dj, _, .ref (ga K "KeptError"), _, rfl, (hej'.mono s9).1, hdj s9, T.exc j hj, fun u h => h, T.kitK j hj, _, rfl, ?_⟩
            refine iteF ?_
            refine ⟨_, rfl, aj, cl K j, some dj, _, .type "ValueError", _, rfl, (hej'.mono s9).1, hdj s9, T.exc j hj, fun u h => h, T.kitV j hj, _, rfl, ?_⟩
            refine iteF ?_
            exact ⟨_, _, _, _, _, rfl, S7.trans s9⟩
        · rintro σ H4 ⟨w9, w10, w11, w12, w13, rfl, S6⟩
          obtain ⟨dA, qA, cA⟩ := menuV (K := K) M5 mA
          obtain ⟨dO, qO, cO⟩ := menuV (K := K) M5 mO
          obtain ⟨dM, qM, cM⟩ := menuV (K := K) M5 mM
          have eL := SqL.of (K := K) (S6 _ _ eL3)
          refine ⟨_, rfl, L3, _, _, _, rfl, rfl, eL, rfl, a0, cl K 0, d0, _, va, rfl, (Q0.mono S6).1, (Q0.mono S6).2, ⟨T.x_BadText.ga, T.x_BadText.gg, T.x_BadText.exC, T.x_BadText.hdC⟩, T.x_BadText.no _ (by simp), (by simp [List.lookup]), ?_⟩
          refine ⟨_, rfl, L3, _, _, _, rfl, rfl, eL, rfl, a1, cl K 1, d1, _, va, rfl, (Q1.mono S6).1, (Q1.mono S6).2, ⟨T.x_BadSyntax.ga, T.x_BadSyntax.gg, T.x_BadSyntax.exC, T.x_BadSyntax.hdC⟩, T.x_BadSyntax.no _ (by simp), (by simp [List.lookup]), ?_⟩
          refine ⟨_, rfl, L3, _, _, _, rfl, rfl, eL, rfl, a2, cl K 2, d2, _, va, rfl, (Q2.mono S6).1, (Q2.mono S6).2, ⟨T.x_BadName.ga, T.x_BadName.gg, T.x_BadName.exC, T.x_BadName.hdC⟩, T.x_BadName.no _ (by simp), (by simp [List.lookup]), ?_⟩
          refine ⟨_, rfl, L3, _, _, _, rfl, rfl, eL, rfl, a3, cl K 3, d3, _, va, rfl, (Q3.mono S6).1, (Q3.mono S6).2, ⟨T.x_BadProject.ga, T.x_BadProject.gg, T.x_BadProject.exC, T.x_BadProject.hdC⟩, T.x_BadProject.no _ (by simp), (by simp [List.lookup]), ?_⟩
          refine ⟨_, rfl, L3, _, _, _, rfl, rfl, eL, rfl, a4, cl K 4, d4, _, va, rfl, (Q4.mono S6).1, (Q4.mono S6).2, ⟨T.x_BadPlace.ga, T.x_BadPlace.gg, T.x_BadPlace.exC, T.x_BadPlace.hdC⟩, T.x_BadPlace.no _ (by simp), (by simp [List.lookup]), ?_⟩
          refine ⟨_, rfl, L3, _, _, _, rfl, rfl, eL, rfl, a5, cl K 5, d5, _, va, rfl, (Q5.mono S6).1, (Q5.mono S6).2, ⟨T.x_BadEdit.ga, T.x_BadEdit.gg, T.x_BadEdit.exC, T.x_BadEdit.hdC⟩, T.x_BadEdit.no _ (by simp), (by simp [List.lookup]), ?_⟩
          refine ⟨_, rfl, L3, _, _, _, rfl, rfl, eL, rfl, a6, cl K 6, d6, _, va, rfl, (Q6.mono S6).1, (Q6.mono S6).2, ⟨T.x_BadValue.ga, T.x_BadValue.gg, T.x_BadValue.exC, T.x_BadValue.hdC⟩, T.x_BadValue.no _ (by simp), (by simp [List.lookup]), ?_⟩
          refine ⟨(by show 7 ≤ sizeLine; decide), fun t7 ht7 => ?_⟩
          have s1 := S6.trans (same_new (o := .lst [va, va, va, va, va, va, va]) ht7)
          have dd7 := listData (ds := [dA, dA, dA, dA, dA, dA, dA]) (by simp [cA]) (by show 7 ≤ 10; decide)
          have dd3 := listData (ds := [dA, dO, dM]) (by simp [cA, cO, cM]) (by show 3 ≤ 10; decide)
          have all7 : ∀ {H7 : Hp}, Same G H7 → DqAll K H7 [va, va, va, va, va, va, va] [dA, dA, dA, dA, dA, dA, dA] := fun S => have q := qA.mono S; .cons q (.cons q (.cons q (.cons q (.cons q (.cons q (.cons q .nil))))))
          have all3 : ∀ {H7 : Hp}, Same G H7 → DqAll K H7 [va, vo, vm] [dA, dO, dM] := fun S => .cons (qA.mono S) (.cons (qO.mono S) (.cons (qM.mono S) .nil))
          refine ⟨_, rfl, t7, _, rfl, .lst (SqL.of upd_same) (all7 s1), dd7.1, dd7.2.1, dd7.2.2, ?_⟩
          refine ⟨_, rfl, (by show 1 ≤ sizeLine; decide), fun r1 hr1 => ⟨r1, 7, _, rfl, rfl, upd_same, by decide, by decide, (by show 7 ≤ sizeLine; decide), fun r2 hr2 => ?_⟩⟩
          have s2 := s1.trans ((same_new (o := .lst [va]) hr1).trans (same_new (o := .lst [va, va, va, va, va, va, va]) hr2))
          refine ⟨r2, _, rfl, .lst (SqL.of (xs := [va, va, va, va, va, va, va]) upd_same) (all7 s2), dd7.1, dd7.2.1, dd7.2.2, rfl, _, rfl, ?_⟩
          refine iteNS rfl ?_
          have eL' := SqL.of (K := K) (s2 _ _ eL3)
          refine ⟨_, rfl, L3, _, _, _, rfl, rfl, eL', rfl, a7, cl K 7, d7, _, va, rfl, (Q7.mono s2).1, (Q7.mono s2).2, ⟨T.x_Refused.ga, T.x_Refused.gg, T.x_Refused.exC, T.x_Refused.hdC⟩, T.x_Refused.no _ (by simp), (by simp [List.lookup, lk1, lk2, lk3]), ?_⟩
          refine ⟨_, rfl, L3, _, _, _, rfl, rfl, eL', rfl, a7, cl K 7, d7, _, vo, rfl, (Q7.mono s2).1, (Q7.mono s2).2, ⟨T.x_Refused.ga, T.x_Refused.gg, T.x_Refused.exC, T.x_Refused.hdC⟩, T.x_Refused.no _ (by simp), (by simp [List.lookup, lk1, lk2, lk3]), ?_⟩
          refine ⟨_, rfl, L3, _, _, _, rfl, rfl, eL', rfl, a7, cl K 7, d7, _, vm, rfl, (Q7.mono s2).1, (Q7.mono s2).2, ⟨T.x_Refused.ga, T.x_Refused.gg, T.x_Refused.exC, T.x_Refused.hdC⟩, T.x_Refused.no _ (by simp), (by simp [List.lookup, lk1, lk2, lk3]), ?_⟩
          refine ⟨(by show 3 ≤ sizeLine; decide), fun u1 hu1 => ?_⟩
          have s3 := s2.trans (same_new (o := .lst [va, vo, vm]) hu1)
          refine ⟨u1, _, rfl, .lst (SqL.of upd_same) (all3 s3), dd3.1, dd3.2.1, dd3.2.2, ?_⟩
          refine ⟨_, rfl, _, rfl, _, rfl, (by show 3 ≤ sizeLine; decide), fun u2 hu2 => ?_⟩
          have s4 := s3.trans (same_new (o := .lst [va, vo, vm]) hu2)
          refine ⟨u2, _, rfl, .lst (SqL.of upd_same) (all3 s4), dd3.1, dd3.2.1, dd3.2.2, rfl, _, rfl, ?_⟩
          refine iteNS rfl ?_
          refine ⟨_, rfl, L3, _, _, _, rfl, rfl, SqL.of (K := K) (s4 _ _ eL3), rfl, a0, cl K 0, some d0, _, .type "LookupError", _, rfl, (Q0.mono s4).1, (fun e he => ⟨_, by cases he; exact (Q0.mono s4).2⟩), T.exc 0 (by decide), fun u h => h, T.kitL, _, rfl, ?_⟩
          refine iteF ?_
          exact ⟨_, _, _, _, _, _, _, _, _, _, _, _, _, rfl, S5.trans s4⟩
    · rintro σ H1 ⟨v1, v2, v3, v4, v5, v6, v7, v8, v9, v10, v11, v12, v13, rfl, S1⟩
      exact kq H1
end
end K12

set_option Elab.async false
set_option linter.all false
set_option maxRecDepth 100000
set_option maxHeartbeats 0
namespace K12
open PySem PySem.Spec PyProof.Rows L2 He KH PySem.KX
open PySem.W (Frag)
theorem all_le {n : Nat} {p : Nat → Bool} (h : (List.range n).all p = true) : ∀ i < n, p i = true := fun i hi => List.all_eq_true.mp h i (List.mem_range.mpr hi)
theorem txt {K : Frag} {h : Heap} {mg : Str → Option Value} (X : K.In h) (G : h.Ns mainGlobals mg) (c : Says need K) : Txt K mg (ga K "_law_pool") (ga K "_law_take") := by
  have hf : ∀ x ∈ frees, mg x = none := fun x hx => free_ok X G (List.all_eq_true.mp (c.fact 3 (f := fun K => frees.all fun x => (Fa.free x).ok K) rfl) x hx)
  have hg : ∀ x ∈ nm8, mg x = some (.ref (ga K x)) := fun x hx => glo_ok X G (List.all_eq_true.mp (c.fact 4 (f := fun K => nm8.all fun x => (Fa.glo x).ok K) rfl) x hx)
  have k8 : kit8 K = true := c.fact 14 (f := kit8) rfl
  have kk : kitK K = true := c.fact 15 (f := kitK) rfl
  have ke : exc8 K = true := c.fact 16 (f := exc8) rfl
  exact {
    n_len := hf _ (by simp [frees]), n_super := hf _ (by simp [frees]), n_abs := hf _ (by simp [frees]), n_int := hf _ (by simp [frees]), n_max := hf _ (by simp [frees]), n_min := hf _ (by simp [frees]), n_range := hf _ (by simp [frees]), n_enumerate := hf _ (by simp [frees]), n_isinstance := hf _ (by simp [frees]), n_repr := hf _ (by simp [frees]), n_ValueError := hf _ (by simp [frees]), n_LookupError := hf _ (by simp [frees])
    g__law_pool := glo_ok X G (c.fact 0 (f := fun K => (Fa.glo "_law_pool").ok K) rfl)
    g__law_take := glo_ok X G (c.fact 1 (f := fun K => (Fa.glo "_law_take").ok K) rfl)
    g_KeptError := glo_ok X G (c.fact 18 (f := fun K => (Fa.glo "KeptError").ok K) rfl)
    g_BadText := hg "BadText" (by simp [nm8]), g_BadSyntax := hg "BadSyntax" (by simp [nm8]), g_BadName := hg "BadName" (by simp [nm8]), g_BadProject := hg "BadProject" (by simp [nm8]), g_BadPlace := hg "BadPlace" (by simp [nm8]), g_BadEdit := hg "BadEdit" (by simp [nm8]), g_BadValue := hg "BadValue" (by simp [nm8]), g_Refused := hg "Refused" (by simp [nm8])
    x_BadText := ex_of (c.fact 5 (f := exB P "BadText" ["at"]) rfl) (c.init 0 rfl) rfl
    x_BadSyntax := ex_of (c.fact 6 (f := exB P "BadSyntax" ["at"]) rfl) (c.init 1 rfl) rfl
    x_BadName := ex_of (c.fact 7 (f := exB P "BadName" ["value"]) rfl) (c.init 2 rfl) rfl
    x_BadProject := ex_of (c.fact 8 (f := exB P "BadProject" ["place"]) rfl) (c.init 3 rfl) rfl
    x_BadPlace := ex_of (c.fact 9 (f := exB P "BadPlace" ["value"]) rfl) (c.init 4 rfl) rfl
    x_BadEdit := ex_of (c.fact 10 (f := exB P "BadEdit" ["edit"]) rfl) (c.init 5 rfl) rfl
    x_BadValue := ex_of (c.fact 11 (f := exB P "BadValue" ["value"]) rfl) (c.init 6 rfl) rfl
    x_Refused := ex_of (c.fact 12 (f := exB P "Refused" ["reason", "one", "other"]) rfl) (c.init 7 rfl) rfl
    sm := of_decide_eq_true (c.fact 13 (f := fun K => decide (PySem.W.typeIn K (.ref sysModules) = some (.type "dict"))) rfl)
    kit := fun i hi j hj => of_decide_eq_true (all_le (all_le k8 i hi) j hj)
    kitK := fun i hi => of_decide_eq_true (ba (all_le kk i hi)).1
    kitV := fun i hi => of_decide_eq_true (ba (all_le kk i hi)).2
    kitL := of_decide_eq_true (c.fact 17 (f := fun K => decide (PySem.W.kitOne K (.ref (cl K 0)) (.type "LookupError") = some false)) rfl)
    exc := fun i hi => excCB_ok (all_le ke i hi) }
theorem facts {w : World} {K : Frag} {h : Heap} {mg : Str → Option Value} {f : Addr} (X : K.In h) (G : h.Ns mainGlobals mg) (hfa : mg ("law" : Str) = some (.ref f)) (c : Says need K) :
    ∃ fd : FuncData, (∀ (s : Shared) (v : Value), BindsTo s fd ⟨[v], []⟩ [("_law_script", v)]) ∧ ∀ base : Heap, K.In base → base.Ns mainGlobals mg → FnAt P w K mg base f fd ["_law_script"] (spLaw K) := by
  obtain ⟨fdP, FP⟩ := c.def_ 0 (e := dPool) rfl
  obtain ⟨fdT, FT⟩ := c.def_ 1 (e := dTake) rfl
  obtain ⟨fd, F⟩ := c.def_ 2 (e := dLaw) rfl
  have e := hfa.symm.trans (glo_ok X G (c.fact 2 (f := fun K => (Fa.glo "law").ok K) rfl))
  cases e
  have b := FunD.bindsA (ps := ["_law_script"]) F fun _ _ _ _ _ _ us hl => match us, hl with | [_], _ => rfl
  exact ⟨fd, fun s v => b s [v] rfl, fun base _ _ => ok_law F.fn FP.fn FT.fn (txt X G c)⟩
end K12
open PySem PySem.W PySem.Calls PyProof.Rows
theorem PySem.Challenge.cw_keptbindings_k12_classes_of_errors_holds : PySem.Challenge.rw_keptbindings_k12_classes_of_errors.Holds := by
  w_on; o_law
  refine HandSHeadRun.head_any (r := OpenLaw.row PySem.Challenge.rw_keptbindings_k12_classes_of_errors) (q := view (OpenLaw.row PySem.Challenge.rw_keptbindings_k12_classes_of_errors).prog [13]) (H := K12.hk) (ob := K12.ob) (M := 3000) (loose := ["__name__", "KeptError", "BadText", "BadSyntax", "BadName", "BadProject", "BadPlace", "BadEdit", "Refused", "BadValue", "_law_pool", "_law_take"]) (d := HandSHeadRun.topDef (OpenLaw.row PySem.Challenge.rw_keptbindings_k12_classes_of_errors).prog 13) (kwd := []) K12.ob_eq
    (by kernel_rfl) (fun s => by kernel_rfl) K12.run (by kernel_rfl) (by kernel_rfl) (by kernel_rfl) (by rfl) (by first | assumption | decide +kernel) (by decide +kernel) ⟨rfl, rfl, rfl, rfl, rfl, by decide +kernel⟩ ?hw ?hc
  case hw => w_witness2
  case hc =>
    refine L2.walk_atE (l := PySem.Challenge.rw_keptbindings_k12_classes_of_errors) (n := 63) (x := "_law_script") rfl (by decide) (by kernel_rfl) ?F
    intro w mg fa h Y G hmg0
    obtain ⟨K, KX, c⟩ := Y
    have hmg : mg ("law" : PySem.Str) = some (.ref fa) := by
      have e : (HandSHeadRun.topDef (OpenLaw.row PySem.Challenge.rw_keptbindings_k12_classes_of_errors).prog 13).name = ("law" : PySem.Str) := by kernel_rfl
      rw [← e]
      exact hmg0
    obtain ⟨fd, hb, hF⟩ := K12.facts (w := w) KX G hmg c
    exact ⟨K, fd, K12.spLaw K, KX, hb, fun H a ns hl _ hS => ⟨a, ns, rfl, hS, hl, fun _ => rfl⟩, hF⟩
