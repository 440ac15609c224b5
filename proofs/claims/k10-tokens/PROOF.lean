import PyProof.Rows.All
import Wide.All
import OpenK.AllK
import Wide.FinOn
import PyProof.EqAt
import PyProof.EqKinds
import PyProof.TupleCall
import KE.KExcSuper
import HandS.ForExc
import HandS.ExcInit
import HandS.ExcSuper
import HandS.ExcField
import HandS.IsInst
import HandS.ExcValue
import HandS.ExcIs
import PyProof.ReprRoads
import KE.KStateDown
import HandS.Defaults
import HandS.More
import HandS.Head0
import HandS.Head1
import HandS.Head2
import HandS.HeadEnd
import HandS.HeadHook1
import HandS.HeadHook2
import HandS.ForMost
import HandS.Walk
import HandS.RaiseMore
import HandS.StrMore
import HandS.Text
import HandS.Style
import HandS.TryOnly
import PySem.Challenge.RW_keptbindings_k10_tokens
set_option Elab.async false
set_option linter.all false
set_option maxRecDepth 100000
set_option maxHeartbeats 4000000
/-! Own errors of the package: class X(KeptError) with __init__(self, f, ..): super().__init__(f, ..); self.f = f; .. -/
namespace PySem
namespace KX
open PySem.W PySem.Calls PyProof.Rows PySem.HandSPX
open L2 (defArgs defBody defScope)

/-- the module's names as super() needs them -/
structure Glb (mg : Str → Option Value) (h : Heap) : Prop where
  g : h.Ns mainGlobals mg
  b : ∃ mb, h.Ns builtinsNs mb ∧ mb "super" = some (.type "super")
  s : mg "super" = none
theorem Glb.keeps {mg : Str → Option Value} {h h' : Heap} (G : Glb mg h) (k : ∀ b o, h.get? b = some o → h'.get? b = some o) : Glb mg h' :=
  ⟨G.g.keeps k, let ⟨mb, a, c⟩ := G.b; ⟨mb, a.keeps k, c⟩, G.s⟩
theorem Glb.but {mg : Str → Option Value} {h h' : Heap} {x : Addr} (G : Glb mg h) (k : ∀ b o, b ≠ x → h.get? b = some o → h'.get? b = some o) (h1 : mainGlobals ≠ x) (h2 : builtinsNs ≠ x) : Glb mg h' := by
  obtain ⟨⟨o, es, ep, ho, r⟩, ⟨mb, ⟨o', es', ep', ho', r'⟩, c⟩, s⟩ := G
  exact ⟨⟨o, es, ep, k _ _ h1 ho, r⟩, ⟨mb, ⟨o', es', ep', k _ _ h2 ho', r'⟩, c⟩, s⟩

/-- what the written part says of an error's class at C, its __init__ (the def st) at fI -/
structure ExTxt (P : Program) (K : Frag) (C fI : Addr) (st : Stmt) (fs : List Str) : Prop where
  cls : ∃ nm q N bs bm sn sub ab col dd k0 k1 k2 k3 k5, K.lookup C = some (excClassObj nm q C N bs bm true sn sub ab col dd k0 k1 k2 k3 k5 "ValueError.__new__") ∧ refsVE bm = true
  sa : findIn K (.ref C) "__setattr__" = some (some (.builtin "object.__setattr__"))
  ga : findIn K (.ref C) "__getattribute__" = some (some (.builtin "BaseException.__getattribute__"))
  gg : findIn K (.ref C) "__getattr__" = some none
  no : ∀ f ∈ fs, findIn K (.ref C) f = some none
  iC : findIn K (.ref C) "__init__" = some (some (.ref fI))
  tC : typeIn K (.ref fI) = some (.type "function")
  kC : keepIn K (.ref C) = true
  exC : subIn K (.ref C) (.type "BaseException") = some true
  tyC : typeIn K (.ref C) = some (.type "type")
  hdC : hasDictIn K C = true
  te : exmOne K (.ref C) (.ref C) = some true
  su : ks_superIn K C C "__init__" = some (some (.builtin "ValueError.__init__"))
  sV : subIn K (.ref C) (.type "ValueError") = some true
  sC : mroIn K C (.ref C) = some true
  op : nsIn K cStatics "thirdparty.any" = some none
  fn : ∃ (qual : Str) (oc : Value) (od : Option Addr) (doc pm : Value) (an : Option Addr) (cda cc : Addr) (ct : Value) (osl : Array (Option Value)) (ccl : Value) (cdd : Option Addr) (vs : Array Value) (ccs : Array (Option Value)) (file : Str) (tf : Tok) (cl : Value) (cld : Option Addr) (csl : Array (Option Value)),
    K.lookup fI = some ⟨oc, od, .func (ksFn "__init__" qual (defArgs st) (defBody st) (defScope st) .none .none doc pm an (.ref cda) ct cc), osl⟩ ∧ codeIn K (.ref cda) qual = true ∧
    K.lookup cda = some ⟨ccl, cdd, .fields vs, ccs⟩ ∧ vs[2]? = some (.str file tf) ∧ ((P.main.file : Str) == file) = true ∧ K.lookup cc = some ⟨cl, cld, .cell (some (.ref C)), csl⟩
  tp : (P.main.scope.names.lookup ("super" : Str)).isSome = false

section
variable {prog : Program} {w : World} {A : Around} {E : Value → Shared → Prop} {R : Result → Shared → Prop} {s : Shared} {K : Frag} {mg : Str → Option Value} {C fI x t0 : Addr} {st : Stmt} {fs : List Str}
theorem clsOf (T : ExTxt prog K C fI st fs) : ∃ cd : ClassData, clsIn K C = some cd ∧ refsVE cd.mro = true ∧ cd.hasDict = true := by
  obtain ⟨nm, q, N, bs, bm, sn, sub, ab, col, dd, k0, k1, k2, k3, k5, hC, hbm⟩ := T.cls
  refine ⟨_, (by unfold clsIn; rw [hC]), ?_, rfl⟩
  exact (show refsVE (.ref C :: bm) = true from hbm)
theorem ldE {M : Model} {env : Env} {m : Str → Option Value} {y : Str} {pos : Pos} {v : Value} {Q : Value → Shared → Prop} (hn : s.heap.Ns env.locals m) (hv : m y = some v) (hl : env.kindOf y = some .local) (h : Q v s)
    (hk : env.scope.kind = .function) (hd : (y == ("__debug__" : Str)) = false) : wpAny M A (eval (.Name y pos) env) Q E s := wpAny_Name (wpAny_loadName_local hk hl hn hv h) hd
/-- the bound ValueError.__init__ called -/
theorem call_mw {u : Addr} {rest : List Value} {Q : Value → Shared → Prop} (T : ExTxt prog K C fI st fs) (X : K.In s.heap) (he : s.heap.get? x = some (excO C t0)) (hu : s.heap.get? u = some (kxs_mw "ValueError.__init__" x)) (hrest : rest.length ≤ sizeLine)
    (hq : ∀ h' t1, (∀ b o, b ≠ x → s.heap.get? b = some o → h'.get? b = some o) → h'.get? x = some (excO C t1) → Q .none { s with heap := h' }) :
    wpAny (model prog w) A (call (.ref u) rest) Q E s := by
  obtain ⟨nm, q, N, bs, bm, sn, sub, ab, col, dd, k0, k1, k2, k3, k5, hC, hbm⟩ := T.cls
  obtain ⟨h, g, d, t, os⟩ := s
  refine wpAny_call (codeAny_of_tree ?_)
  show wpAny _ A.in1 (callAny (.ref u) ⟨rest, []⟩) _ _ _
  simp only [callAny]
  refine wpAny_bind (wpAny_load hu ?_)
  simp only [kxs_mw, show (Value.type "method-wrapper" == Value.type "method" || Value.type "method-wrapper" == Value.type "builtin_function_or_method" || Value.type "method-wrapper" == Value.type "method-wrapper") = true by decide, if_true]
  refine W.KFB.if_so (by decide) ?_
  refine wpAny_bind (ESX.check_bound F.excBase_ValueError (X _ _ hC) he rfl ?_)
  refine wpAny_bind (wpAny_pure (wpAny_pure ?_))
  refine ⟨Code.quiet_builtin _ (by decide +kernel), codeAny_builtin F.excBase_ValueError.initEntry ?_⟩
  rw [Around.under_plainId F.excBase_ValueError.init.plain _]
  wp_walk
  refine hq _ h.objs.size (fun b o hb ho => ?_) ?_
  · rw [Heap.get?_update_other _ _ (Ne.symm hb)]
    exact Heap.get?_push_of_some _ ho
  · rw [Heap.get?_update_self _ (Heap.get?_push_of_some _ he) rfl]
    rfl

/-- super().__init__(..) as the first statement of __init__ -/
theorem super_stmt {body : List Stmt} {qual : Str} {oc : Value} {od : Option Addr} {doc pm : Value} {an : Option Addr} {cda cc L : Addr} {ct : Value} {osl : Array (Option Value)} {ccl : Value} {cdd : Option Addr} {vs : Array Value} {ccs : Array (Option Value)} {file : Str} {tf : Tok} {cl : Value} {cld : Option Addr} {csl : Array (Option Value)}
    {m : Str → Option Value} {ar : Arg} {e : Expr} {es : List Expr} {us : List Value} {p0 p1 p2 p3 p4 : Pos} {pl : Sem Bool} {Q : Flow → Shared → Prop}
    (T : ExTxt prog K C fI st fs) (X : K.In s.heap) (G : Glb mg s.heap)
    (hfI : K.lookup fI = some ⟨oc, od, .func (ksFn "__init__" qual (defArgs st) (defBody st) (defScope st) .none .none doc pm an (.ref cda) ct cc), osl⟩)
    (hcda : K.lookup cda = some ⟨ccl, cdd, .fields vs, ccs⟩) (hvs : vs[2]? = some (.str file tf)) (hfile : ((prog.main.file : Str) == file) = true) (hcc : K.lookup cc = some ⟨cl, cld, .cell (some (.ref C)), csl⟩)
    (hpar : ((defArgs st).posonlyargs ++ (defArgs st).args).head? = some ar) (hn : s.heap.Ns L m) (hself : m ar.arg = some (.ref x)) (hx : s.heap.get? x = some (excO C t0)) (hLx : L ≠ x)
    (hks : (defScope st).names.lookup ("super" : Str) = some .globalImplicit) (hkc : (defScope st).names.lookup ("__class__" : Str) = some .free) (hka : (defScope st).names.lookup ar.arg = some .local) (hk : (defScope st).kind = .function)
    (hi : interactive (ksEnv qual (defScope st) L fI (.ref cda) cc) = false)
    (hsw : swapsWith (.Call (.Attribute (.Call (.Name "super" p0) [] [] p1) "__init__" p2) (e :: es) [] p3) none p4.line (ksEnv qual (defScope st) L fI (.ref cda) cc) = pure false)
    (hev : eval (.Call (.Attribute (.Call (.Name "super" p0) [] [] p1) "__init__" p2) (e :: es) [] p3) (ksEnv qual (defScope st) L fI (.ref cda) cc) = (do
      let ov ← attributeBase (.Call (.Name "super" p0) [] [] p1) "__init__" (ksEnv qual (defScope st) L fI (.ref cda) cc) (eval (.Call (.Name "super" p0) [] [] p1) (ksEnv qual (defScope st) L fI (.ref cda) cc))
      standAt p2.atName
      let (f, first) ← holding [ov] (getMethod ov "__init__" pl)
      callWith p3 f first (backTo p3 (starEach (e :: es) (ksEnv qual (defScope st) L fI (.ref cda) cc))) []))
    (he : starEach (e :: es) (ksEnv qual (defScope st) L fI (.ref cda) cc) = (false, eval e (ksEnv qual (defScope st) L fI (.ref cda) cc)) :: starEach es (ksEnv qual (defScope st) L fI (.ref cda) cc)) (hplain : (backTo p3 (starEach es (ksEnv qual (defScope st) L fI (.ref cda) cc))).any (·.1) = false) (hus : us.length ≤ sizeLine)
    (hargs : ∀ (s₁ : Shared) (Q' : List Value → Shared → Prop), s₁.heap.Ns L m → Q' us s₁ → wpAny (model prog w) A (spliced (backTo p3 (starEach (e :: es) (ksEnv qual (defScope st) L fI (.ref cda) cc)))) Q' E s₁)
    (hq : ∀ h' t1 tk, (∀ b o, b ≠ x → s.heap.get? b = some o → h'.get? b = some o) → h'.get? x = some (excO C t1) → Q .next { s with heap := h', toks := tk }) :
    _root_.PySem.wpAt (model prog w) A (.func body (ksEnv qual (defScope st) L fI (.ref cda) cc)) (exec (.Expr (.Call (.Attribute (.Call (.Name "super" p0) [] [] p1) "__init__" p2) (e :: es) [] p3) p4) (ksEnv qual (defScope st) L fI (.ref cda) cc)) Q E s := by
  obtain ⟨cd, hcd, hmro, hhd⟩ := clsOf T
  have I0 : InstAt s.heap x (excO C t0) C none := ⟨hx, rfl, rfl, trivial⟩
  obtain ⟨hh, g, d, t, os⟩ := s
  obtain ⟨oD, hD1, hD2⟩ : ∃ oD, hh.get? C = some oD ∧ oD.data = .cls cd := by
    unfold clsIn at hcd
    split at hcd
    · rename_i c d cd' sl ho
      cases hcd
      exact ⟨_, X _ _ ho, rfl⟩
    · cases hcd
  obtain ⟨mb, hb1, hb2⟩ := G.b
  refine ks_wpAt_Expr_any ?_ hi hsw
  refine ks_wpAt_MethodCall (pl := pl) ?_ hev
  refine ks_wpAt_super_base (env := ksEnv qual (defScope st) L fI (.ref cda) cc) hks hkc (by decide) rfl (X _ _ hfI) rfl hpar rfl (X _ _ hcda) rfl hvs hfile T.tp ?_
  refine ks_loadName_global hk hks (loadGlobal_builtin (env := ksEnv qual (defScope st) L fI (.ref cda) cc) G.g G.s hb1 hb2 ⟨rfl, ?_⟩)
  refine wpAny_loadName_free hk hkc rfl ⟨_, X _ _ hcc, rfl⟩ ?_
  refine wpAny_loadName_local hk hka hn hself ?_
  refine ks_wpAny_isType_cls hD1 hD2 ⟨rfl, ?_⟩
  refine ks_wpAny_call_super hD1 hD2 hx rfl (fun c e => ?_) (looks_mroIn X T.sC) (fun h' e0 k => ?_)
  · cases e
  · have X' : K.In h' := X.keeps k
    have I' : InstAt h' x (excO C t0) C none := ⟨k _ _ hx, rfl, rfl, trivial⟩
    have hm := T.su
    unfold ks_superIn at hm
    rw [hcd] at hm
    have hI : Looks (model prog w) h' (isInstance (.ref x) (.type "ValueError")) true := I'.type.andThen (looks_subIn X' T.sV)
    refine kxs_getMethod kxs_ValueError e0 (looks_opaque X' T.op) (l₀ := cd.mro) ?_ rfl X' hm hI (ks_ne X' I' hcd) (by decide) ?_
    · exact fun A Q E s k q => wpAny_bind ((looks_clsIn X' hcd) A _ E s k (wpAny_pure q))
    · have k2 : ∀ b o, hh.get? b = some o → (h'.push (kxs_mw "ValueError.__init__" x)).get? b = some o := fun b o z => Heap.get?_push_of_some _ (k b o z)
      have hu : (h'.push (kxs_mw "ValueError.__init__" x)).get? h'.objs.size = some (kxs_mw "ValueError.__init__" x) := Heap.get?_push_at rfl rfl
      show wpAny _ _ (callWith p3 (.ref h'.objs.size) [] (backTo p3 (starEach (e :: es) _)) []) _ _ _
      rw [he]
      refine kxs_callWith (i := "ValueError.__init__") (x := x) (by show (false || (backTo p3 (starEach es _)).any (·.1)) = false; rw [hplain]; rfl) ?_
      have hn' : (h'.push (kxs_mw "ValueError.__init__" x)).Ns L m := hn.keeps k2
      refine evalArgs_plain ?_
      have z := hargs ⟨h'.push (kxs_mw "ValueError.__init__" x), g, d, t + 1, os⟩ (fun vs s₁ => KxsAt "ValueError.__init__" h'.objs.size x s₁.heap ∧ wpAny (model prog w) A (call (.ref h'.objs.size) ([] ++ vs)) (fun _ => Q .next) E s₁) hn' ⟨hu, ?_⟩
      · rw [he] at z
        exact z
      · refine call_mw T (X.keeps k2) (k2 _ _ hx) hu hus (fun h3 t1 k3 hx3 => ?_)
        exact hq h3 t1 _ (fun b o hb z => k3 b o hb (k2 b o z)) hx3

/-! ### __init__(self, f): super().__init__(f); self.f = f -/
def iA1 (f : Str) (p1 p2 : Pos) : Arguments := { posonlyargs := [], args := [{ arg := "self", annotation := none, pos := p1 }, { arg := f, annotation := none, pos := p2 }], vararg := none, kwonlyargs := [], kw_defaults := [], kwarg := none, defaults := [] }
def superE (es : List Expr) (p0 p1 p2 p3 p4 : Pos) : Stmt := .Expr (.Call (.Attribute (.Call (.Name "super" p0) [] [] p1) "__init__" p2) es [] p3) p4
def setE (f : Str) (p0 p1 p2 p3 : Pos) : Stmt := .Assign [.Attribute (.Name "self" p0) f p1] (.Name f p2) p3
def iS1 (f : Str) : Scope := { kind := .function, names := [(PySem.Str.ofString "self", .local), (f, .local), (PySem.Str.ofString "__class__", .free), (PySem.Str.ofString "super", .globalImplicit)], isGenerator := false, isCoroutine := false, more := [] }
def EvSuper (es : List Expr) (q0 q1 q2 q3 : Pos) (sc : Scope) : Prop := ∀ (qual : Str) (L a : Addr) (cd : Value) (cc : Addr), ∃ pl : Sem Bool, eval (.Call (.Attribute (.Call (.Name "super" q0) [] [] q1) "__init__" q2) es [] q3) (ksEnv qual sc L a cd cc) = (do
      let ov ← attributeBase (.Call (.Name "super" q0) [] [] q1) "__init__" (ksEnv qual sc L a cd cc) (eval (.Call (.Name "super" q0) [] [] q1) (ksEnv qual sc L a cd cc))
      standAt q2.atName
      let (f, first) ← holding [ov] (getMethod ov "__init__" pl)
      callWith q3 f first (backTo q3 (starEach es (ksEnv qual sc L a cd cc))) [])
def Init1 (st : Stmt) (f : Str) : Prop := ∃ (p1 p2 q q0 q1 q2 q3 q4 r0 r1 r2 r3 : Pos), defArgs st = iA1 f p1 p2 ∧ defBody st = [superE [.Name f q] q0 q1 q2 q3 q4, setE f r0 r1 r2 r3] ∧ defScope st = iS1 f ∧ EvSuper [.Name f q] q0 q1 q2 q3 (defScope st) ∧
  ∀ (qual : Str) (doc pm : Value) (an : Option Addr) (cd ct : Value) (cc : Addr) (a v : Value), bindArgs (ksFn "__init__" qual (defArgs st) (defBody st) (defScope st) .none .none doc pm an cd ct cc) ⟨[a, v], []⟩ = pure [(("self" : Str), a), (f, v)]
/-- a good field's name -/
structure Fld (f : Str) : Prop where
  self : (f == ("self" : Str)) = false
  cl : (f == ("__class__" : Str)) = false
  su : (f == ("super" : Str)) = false
  db : (f == ("__debug__" : Str)) = false
theorem Fld.ne {f : Str} (F : Fld f) : ("self" : Str) ≠ f := fun e => by
  have := F.self
  rw [← e] at this
  simp at this
theorem ex_init1 {f : Str} {v : Value} (T : ExTxt prog K C fI st fs) (hf : f ∈ fs) (Sh : Init1 st f) (Ff : Fld f) (X : K.In s.heap) (G : Glb mg s.heap) (hlim : s.heap.NoLimit) (hx : s.heap.get? x = some (excO C t0)) (hnx : K.lookup x = none) (hroom : A.depth < recursionLimit)
    (hq : ∀ h' tk dx t1, (∀ b o, b ≠ x → s.heap.get? b = some o → h'.get? b = some o) → h'.get? x = some { cls := .ref C, dict := some dx, data := .fields #[.ref t1, .none, .none, .none, .bool false, .none] } → s.heap.objs.size ≤ dx → dx ≠ x →
      h'.Ns1 dx (fun y => if y = f then some v else none) → R (.ok (.ret .none)) { s with heap := h', toks := tk }) :
    codeAny (model prog w) A (.call (.ref fI) ⟨[.ref x, v], []⟩) R s := by
  obtain ⟨qual, oc, od, doc, pm, an, cda, cc, ct, osl, ccl, cdd, vs, ccs, file, tf, cl, cld, csl, hfI, hcode, hcda, hvs, hfile, hcc⟩ := T.fn
  obtain ⟨p1, p2, q, q0, q1, q2, q3, q4, r0, r1, r2, r3, eA, eB, eS, ev, eb⟩ := Sh
  obtain ⟨cd, hcd, hmro, hhd⟩ := clsOf T
  have l1 : (iS1 f).names.lookup f = some .local := by
    show List.lookup f [(PySem.Str.ofString "self", NameKind.local), (f, .local), (PySem.Str.ofString "__class__", .free), (PySem.Str.ofString "super", .globalImplicit)] = _
    simp [List.lookup]
    split <;> rfl
  have l2 : (iS1 f).names.lookup ("super" : Str) = some .globalImplicit := by
    have a : ((PySem.Str.ofString "super") == f) = false := by rw [BEq.comm]; exact Ff.su
    show List.lookup (PySem.Str.ofString "super") [(PySem.Str.ofString "self", NameKind.local), (f, .local), (PySem.Str.ofString "__class__", .free), (PySem.Str.ofString "super", .globalImplicit)] = _
    rw [List.lookup, show ((PySem.Str.ofString "super") == (PySem.Str.ofString "self")) = false by decide]
    simp only
    rw [List.lookup, a]
    rfl
  have l3 : (iS1 f).names.lookup ("__class__" : Str) = some .free := by
    have a : ((PySem.Str.ofString "__class__") == f) = false := by rw [BEq.comm]; exact Ff.cl
    show List.lookup (PySem.Str.ofString "__class__") [(PySem.Str.ofString "self", NameKind.local), (f, .local), (PySem.Str.ofString "__class__", .free), (PySem.Str.ofString "super", .globalImplicit)] = _
    rw [List.lookup, show ((PySem.Str.ofString "__class__") == (PySem.Str.ofString "self")) = false by decide]
    simp only
    rw [List.lookup, a]
    rfl
  have l4 : (iS1 f).names.lookup ("self" : Str) = some .local := rfl
  refine ks_codeAny_call_defAt (fd := ksFn "__init__" qual (defArgs st) (defBody st) (defScope st) .none .none doc pm an (.ref cda) ct cc) (body := defBody st) (binds := [("self", .ref x), (f, v)]) hroom (X _ _ hfI) rfl hlim (codeRec_of X hcode) rfl ?bd ?cl ?lc (fun h₁ hns hk₁ => ?_) ?c1 ?c2 ?c3
  case bd => exact BindsTo.of_eq (eb _ _ _ _ _ _ _ _ _)
  case cl => show ∀ x ∈ (defScope st).names, x.2 ≠ .cell; rw [eS]; simp [iS1]
  case lc =>
    show ∀ y ∈ [(("self" : Str), Value.ref x), (f, v)], (defScope st).names.lookup y.1 = some .local
    rw [eS]
    intro y hy
    rcases List.mem_cons.mp hy with rfl | hy
    · exact l4
    · rcases List.mem_cons.mp hy with rfl | hy
      · exact l1
      · cases hy
  case c1 => show (defScope st).isCoroutine = false; rw [eS]; rfl
  case c2 => show (defScope st).isGenerator = false; rw [eS]; rfl
  case c3 => show (defScope st).kind = .function; rw [eS]; rfl
  have X₁ : K.In h₁ := X.keeps hk₁
  have G₁ : Glb mg h₁ := G.keeps hk₁
  have hx₁ := hk₁ _ _ hx
  have hLx : s.heap.objs.size ≠ x := Nat.ne_of_gt (Heap.lt_size hx)
  have m1 : (fun y => [(("self" : Str), Value.ref x), (f, v)].reverse.lookup y) "self" = some (.ref x) := by
    have a : (("self" : Str) == f) = false := by rw [BEq.comm]; exact Ff.self
    show List.lookup ("self" : Str) [(f, v), (("self" : Str), Value.ref x)] = _
    rw [List.lookup, a]
    rfl
  have m2 : (fun y => [(("self" : Str), Value.ref x), (f, v)].reverse.lookup y) f = some v := by
    show List.lookup f [(f, v), (("self" : Str), Value.ref x)] = _
    simp [List.lookup]
  rw [eB]
  refine ks_wpAt_execs_cons ?_
  obtain ⟨pl, hev⟩ := ev qual s.heap.objs.size fI (.ref cda) cc
  refine super_stmt (us := [v]) (ar := { arg := "self", annotation := none, pos := p1 }) (pl := pl) T X₁ G₁ hfI hcda hvs hfile hcc (by rw [eA]; rfl) hns m1 hx₁ hLx (by rw [eS]; exact l2) (by rw [eS]; exact l3) (by rw [eS]; exact l4) (by rw [eS]; rfl) (by rw [eS]; rfl) (by rw [eS]; rfl) hev rfl rfl (by rw [sizeLine_eq]; exact (by decide : 1 ≤ 16777216)) ?ar (fun h₂ t1 tk k₂ hx₂ => ?_)
  case ar =>
    intro s₁ Q' hn' hQ
    refine spliced_more (ldE (y := f) (v := v) hn' m2 (by rw [eS]; exact l1) ?_ (by rw [eS]; rfl) Ff.db)
    exact spliced_none hQ
  have hL₁ : h₁.objs.size > s.heap.objs.size := hns.lt
  show _root_.PySem.wpAt _ _ _ (execs [setE f r0 r1 r2 r3] _) _ _ _
  have hns₂ : h₂.Ns s.heap.objs.size (fun y => [(("self" : Str), Value.ref x), (f, v)].reverse.lookup y) := by
    obtain ⟨oL, es, ep, ho, r⟩ := hns
    exact ⟨oL, es, ep, k₂ _ _ hLx ho, r⟩
  have X₂ : K.In h₂ := fun a o e => k₂ a o (fun z => by rw [z, hnx] at e; cases e) (X₁ a o e)
  refine ks_wpAt_execs_cons (ks_wpAt_Assign_Attr ?_ ?_)
  · refine wpAt_of_wpAny (ldE (y := f) (v := v) hns₂ m2 (by rw [eS]; exact l1) ?_ (by rw [eS]; rfl) Ff.db)
    refine ldE (y := "self") (v := .ref x) hns₂ m1 (by rw [eS]; exact l4) ?_ (by rw [eS]; rfl) (by decide)
    refine set_plain X₂ (ox := excO C t1) (od := none) ⟨hx₂, rfl, rfl, trivial⟩ T.sa ?_
    refine exc_osa X₂ hx₂ hcd hmro hhd (T.no f hf) (fun h₃ tk₃ dx k₃ dn dne hx₃ hn₃ => ?_)
    show _root_.PySem.wpAt _ _ _ (execs [] _) _ _ _
    have sz : s.heap.objs.size ≤ h₂.objs.size := Nat.le_of_lt hns₂.lt
    refine wpAt_of_wpAny (wpAny_execs_nil (hq h₃ tk₃ dx t1 (fun b o hb e => k₃ b o hb (k₂ b o hb (hk₁ b o e))) hx₃ (Nat.le_trans sz dn) dne hn₃))
  · rw [eS]
    rfl

/-! ### Refused: __init__(self, reason, one, other) -/
def iA3 (p0 p1 p2 p3 : Pos) : Arguments := { posonlyargs := [], args := [{ arg := "self", annotation := none, pos := p0 }, { arg := "reason", annotation := none, pos := p1 }, { arg := "one", annotation := none, pos := p2 }, { arg := "other", annotation := none, pos := p3 }], vararg := none, kwonlyargs := [], kw_defaults := [], kwarg := none, defaults := [] }
def iS3 : Scope := { kind := .function, names := [(PySem.Str.ofString "self", .local), (PySem.Str.ofString "reason", .local), (PySem.Str.ofString "one", .local), (PySem.Str.ofString "other", .local), (PySem.Str.ofString "__class__", .free), (PySem.Str.ofString "super", .globalImplicit)], isGenerator := false, isCoroutine := false, more := [] }
def Init3 (st : Stmt) : Prop := ∃ (p0 p1 p2 p3 qa qb qc q0 q1 q2 q3 q4 a0 a1 a2 a3 b0 b1 b2 b3 c0 c1 c2 c3 : Pos), defArgs st = iA3 p0 p1 p2 p3 ∧ defBody st = [superE [.Name "reason" qa, .Name "one" qb, .Name "other" qc] q0 q1 q2 q3 q4, setE "reason" a0 a1 a2 a3, setE "one" b0 b1 b2 b3, setE "other" c0 c1 c2 c3] ∧ defScope st = iS3 ∧ EvSuper [.Name "reason" qa, .Name "one" qb, .Name "other" qc] q0 q1 q2 q3 (defScope st)
def m3 (v1 v2 v3 : Value) : Str → Option Value := fun y => if y = "other" then some v3 else if y = "one" then some v2 else if y = "reason" then some v1 else none
theorem m3_w (v1 v2 v3 : Value) : Within (m3 v1 v2 v3) ["reason", "one", "other"] := fun y hy => by
  unfold m3 at hy
  by_cases h1 : y = "other"
  · simp [h1]
  · by_cases h2 : y = "one"
    · simp [h2]
    · by_cases h3 : y = "reason"
      · simp [h3]
      · simp [h1, h2, h3] at hy
theorem ex_init3 {v1 v2 v3 : Value} (T : ExTxt prog K C fI st ["reason", "one", "other"]) (Sh : Init3 st) (X : K.In s.heap) (G : Glb mg s.heap) (hlim : s.heap.NoLimit) (hx : s.heap.get? x = some (excO C t0)) (hnx : K.lookup x = none) (hroom : A.depth < recursionLimit)
    (hq : ∀ h' tk dx t1, (∀ b o, b ≠ x → s.heap.get? b = some o → h'.get? b = some o) → h'.get? x = some { cls := .ref C, dict := some dx, data := .fields #[.ref t1, .none, .none, .none, .bool false, .none] } → s.heap.objs.size ≤ dx → dx ≠ x →
      h'.Ns1 dx (m3 v1 v2 v3) → R (.ok (.ret .none)) { s with heap := h', toks := tk }) :
    codeAny (model prog w) A (.call (.ref fI) ⟨[.ref x, v1, v2, v3], []⟩) R s := by
  obtain ⟨qual, oc, od, doc, pm, an, cda, cc, ct, osl, ccl, cdd, vs, ccs, file, tf, cl, cld, csl, hfI, hcode, hcda, hvs, hfile, hcc⟩ := T.fn
  obtain ⟨p0, p1, p2, p3, qa, qb, qc, q0, q1, q2, q3, q4, a0, a1, a2, a3, b0, b1, b2, b3, c0, c1, c2, c3, eA, eB, eS, ev⟩ := Sh
  obtain ⟨cd, hcd, hmro, hhd⟩ := clsOf T
  let bn : List (Str × Value) := [("self", .ref x), ("reason", v1), ("one", v2), ("other", v3)]
  refine ks_codeAny_call_defAt (fd := ksFn "__init__" qual (defArgs st) (defBody st) (defScope st) .none .none doc pm an (.ref cda) ct cc) (body := defBody st) (binds := bn) hroom (X _ _ hfI) rfl hlim (codeRec_of X hcode) rfl ?bd ?cl ?lc (fun h₁ hns hk₁ => ?_) ?c1 ?c2 ?c3
  case bd => rw [eA, eB, eS]; exact BindsTo.of_eq rfl
  case cl => show ∀ x ∈ (defScope st).names, x.2 ≠ .cell; rw [eS]; simp [iS3]
  case lc =>
    show ∀ y ∈ bn, (defScope st).names.lookup y.1 = some .local
    rw [eS]
    intro y hy
    simp only [bn, List.mem_cons, List.not_mem_nil, or_false] at hy
    rcases hy with rfl | rfl | rfl | rfl <;> rfl
  case c1 => show (defScope st).isCoroutine = false; rw [eS]; rfl
  case c2 => show (defScope st).isGenerator = false; rw [eS]; rfl
  case c3 => show (defScope st).kind = .function; rw [eS]; rfl
  have X₁ : K.In h₁ := X.keeps hk₁
  have G₁ : Glb mg h₁ := G.keeps hk₁
  have hx₁ := hk₁ _ _ hx
  have hLx : s.heap.objs.size ≠ x := Nat.ne_of_gt (Heap.lt_size hx)
  rw [eB]
  refine ks_wpAt_execs_cons ?_
  obtain ⟨pl, hev⟩ := ev qual s.heap.objs.size fI (.ref cda) cc
  refine super_stmt (us := [v1, v2, v3]) (ar := { arg := "self", annotation := none, pos := p0 }) (pl := pl) T X₁ G₁ hfI hcda hvs hfile hcc (by rw [eA]; rfl) hns rfl hx₁ hLx (by rw [eS]; rfl) (by rw [eS]; rfl) (by rw [eS]; rfl) (by rw [eS]; rfl) (by rw [eS]; rfl) (by rw [eS]; rfl) hev rfl rfl (by rw [sizeLine_eq]; exact (by decide : 3 ≤ 16777216)) ?ar (fun h₂ t1 tk k₂ hx₂ => ?_)
  case ar =>
    intro s₁ Q' hn' hQ
    refine spliced_more (ldE (y := "reason") (v := v1) hn' rfl (by rw [eS]; rfl) ?_ (by rw [eS]; rfl) (by decide))
    refine spliced_more (ldE (y := "one") (v := v2) hn' rfl (by rw [eS]; rfl) ?_ (by rw [eS]; rfl) (by decide))
    refine spliced_more (ldE (y := "other") (v := v3) hn' rfl (by rw [eS]; rfl) ?_ (by rw [eS]; rfl) (by decide))
    exact spliced_none hQ
  show _root_.PySem.wpAt _ _ _ (execs [setE "reason" a0 a1 a2 a3, setE "one" b0 b1 b2 b3, setE "other" c0 c1 c2 c3] _) _ _ _
  have hns₂ : h₂.Ns s.heap.objs.size (fun y => bn.reverse.lookup y) := by
    obtain ⟨oL, es, ep, ho, r⟩ := hns
    exact ⟨oL, es, ep, k₂ _ _ hLx ho, r⟩
  have X₂ : K.In h₂ := fun a o e => k₂ a o (fun z => by rw [z, hnx] at e; cases e) (X₁ a o e)
  have sz : s.heap.objs.size ≤ h₂.objs.size := Nat.le_of_lt hns₂.lt
  refine ks_wpAt_execs_cons (ks_wpAt_Assign_Attr ?_ (by rw [eS]; rfl))
  refine wpAt_of_wpAny (ldE (y := "reason") (v := v1) hns₂ rfl (by rw [eS]; rfl) ?_ (by rw [eS]; rfl) (by decide))
  refine ldE (y := "self") (v := .ref x) hns₂ rfl (by rw [eS]; rfl) ?_ (by rw [eS]; rfl) (by decide)
  refine set_plain X₂ (ox := excO C t1) (od := none) ⟨hx₂, rfl, rfl, trivial⟩ T.sa ?_
  refine exc_osa X₂ hx₂ hcd hmro hhd (T.no _ (by simp)) (fun h₃ tk₃ dx k₃ dn dne hx₃ hn₃ => ?_)
  have k2' : ∀ b o, h₂.get? b = some o → ∃ o', h₃.get? b = some o' := fun b o e => by
    by_cases hb : b = x
    · exact ⟨_, by rw [hb]; exact hx₃⟩
    · exact ⟨o, k₃ b o hb e⟩
  have hns₃ : h₃.Ns s.heap.objs.size (fun y => bn.reverse.lookup y) := by
    obtain ⟨oL, es, ep, ho, r⟩ := hns₂
    exact ⟨oL, es, ep, k₃ _ _ hLx ho, r⟩
  have X₃ : K.In h₃ := fun a o e => k₃ a o (fun z => by rw [z, hnx] at e; cases e) (X₂ a o e)
  have hdn : K.lookup dx = none := by
    cases e : K.lookup dx with
    | none => rfl
    | some o => exact absurd (Nat.lt_of_lt_of_le (Heap.lt_size (X₂ _ _ e)) dn) (Nat.lt_irrefl _)
  have hLd : s.heap.objs.size ≠ dx := Nat.ne_of_lt (Nat.lt_of_lt_of_le hns₂.lt dn)
  have w1 : Within (fun y => if y = "reason" then some v1 else none : Str → Option Value) ["reason"] := fun y hy => by
    by_cases e : y = "reason"
    · simp [e]
    · simp [e] at hy
  obtain ⟨oD, _, _, hoD, _, _⟩ := hn₃.count w1
  show _root_.PySem.wpAt _ _ _ (execs [setE "one" b0 b1 b2 b3, setE "other" c0 c1 c2 c3] _) _ _ _
  refine ks_wpAt_execs_cons (ks_wpAt_Assign_Attr ?_ (by rw [eS]; rfl))
  refine wpAt_of_wpAny (ldE (y := "one") (v := v2) hns₃ rfl (by rw [eS]; rfl) ?_ (by rw [eS]; rfl) (by decide))
  refine ldE (y := "self") (v := .ref x) hns₃ rfl (by rw [eS]; rfl) ?_ (by rw [eS]; rfl) (by decide)
  refine set_plain X₃ (ox := { cls := .ref C, dict := some dx, data := .fields #[.ref t1, .none, .none, .none, .bool false, .none] }) (od := some oD) ⟨hx₃, rfl, rfl, hoD⟩ T.sa ?_
  refine OEX.osa_old X₃ hx₃ hn₃ w1 (by decide) hcd hmro hhd (T.no _ (by simp)) (fun h₄ tk₄ k₄ hn₄ => ?_)
  have hns₄ : h₄.Ns s.heap.objs.size (fun y => bn.reverse.lookup y) := by
    obtain ⟨oL, es, ep, ho, r⟩ := hns₃
    exact ⟨oL, es, ep, k₄ _ _ hLd ho, r⟩
  have X₄ : K.In h₄ := fun a o e => k₄ a o (fun z => by rw [z, hdn] at e; cases e) (X₃ a o e)
  have hx₄ := k₄ _ _ (Ne.symm dne) hx₃
  have w2 : Within (fun y => if y = "one" then some v2 else if y = "reason" then some v1 else none : Str → Option Value) ["one", "reason"] := fun y hy => by
    by_cases e : y = "one"
    · simp [e]
    · by_cases e' : y = "reason"
      · simp [e']
      · simp [e, e'] at hy
  obtain ⟨oD', _, _, hoD', _, _⟩ := hn₄.count w2
  show _root_.PySem.wpAt _ _ _ (execs [setE "other" c0 c1 c2 c3] _) _ _ _
  refine ks_wpAt_execs_cons (ks_wpAt_Assign_Attr ?_ (by rw [eS]; rfl))
  refine wpAt_of_wpAny (ldE (y := "other") (v := v3) hns₄ rfl (by rw [eS]; rfl) ?_ (by rw [eS]; rfl) (by decide))
  refine ldE (y := "self") (v := .ref x) hns₄ rfl (by rw [eS]; rfl) ?_ (by rw [eS]; rfl) (by decide)
  refine set_plain X₄ (ox := { cls := .ref C, dict := some dx, data := .fields #[.ref t1, .none, .none, .none, .bool false, .none] }) (od := some oD') ⟨hx₄, rfl, rfl, hoD'⟩ T.sa ?_
  refine OEX.osa_old X₄ hx₄ hn₄ w2 (by decide) hcd hmro hhd (T.no _ (by simp)) (fun h₅ tk₅ k₅ hn₅ => ?_)
  show _root_.PySem.wpAt _ _ _ (execs [] _) _ _ _
  have old : ∀ b o, h₂.get? b = some o → b ≠ dx := fun b o e => Nat.ne_of_lt (Nat.lt_of_lt_of_le (Heap.lt_size e) dn)
  refine wpAt_of_wpAny (wpAny_execs_nil (hq h₅ tk₅ dx t1 (fun b o hb e => ?_) (k₅ _ _ (Ne.symm dne) hx₄) (Nat.le_trans sz dn) dne hn₅))
  have e2 := k₂ b o hb (hk₁ b o e)
  exact k₅ b o (old b o e2) (k₄ b o (old b o e2) (k₃ b o hb e2))
end
end KX
end PySem

set_option Elab.async false
set_option linter.all false
set_option maxRecDepth 100000
set_option maxHeartbeats 4000000
namespace PySem
namespace KX
open PySem.W PySem.Calls PyProof.Rows PySem.HandSPX
open L2 (defArgs defBody defScope)
def InitOk (prog : Program) (w : World) (K : Frag) (mg : Str → Option Value) (C fI : Addr) (us : List Value) (mA : Str → Option Value) : Prop :=
  ∀ (A : Around) (s : Shared) (x t0 : Addr) (R : Result → Shared → Prop), K.In s.heap → Glb mg s.heap → s.heap.NoLimit → s.heap.get? x = some (excO C t0) → K.lookup x = none → A.depth < recursionLimit →
    (∀ h' tk dx t1, (∀ b o, b ≠ x → s.heap.get? b = some o → h'.get? b = some o) → h'.get? x = some { cls := .ref C, dict := some dx, data := .fields #[.ref t1, .none, .none, .none, .bool false, .none] } → s.heap.objs.size ≤ dx → dx ≠ x →
      h'.Ns1 dx mA → R (.ok (.ret .none)) { s with heap := h', toks := tk }) →
    codeAny (model prog w) A (.call (.ref fI) ⟨.ref x :: us, []⟩) R s
theorem initOk1 {prog : Program} {w : World} {K : Frag} {mg : Str → Option Value} {C fI : Addr} {st : Stmt} {fs : List Str} {f : Str} {v : Value} (T : ExTxt prog K C fI st fs) (hf : f ∈ fs) (Sh : Init1 st f) (Ff : Fld f) : InitOk prog w K mg C fI [v] (fun y => if y = f then some v else none) :=
  fun _ _ _ _ _ X G hl hx hn hr hq => ex_init1 T hf Sh Ff X G hl hx hn hr hq
theorem initOk3 {prog : Program} {w : World} {K : Frag} {mg : Str → Option Value} {C fI : Addr} {st : Stmt} {v1 v2 v3 : Value} (T : ExTxt prog K C fI st ["reason", "one", "other"]) (Sh : Init3 st) : InitOk prog w K mg C fI [v1, v2, v3] (m3 v1 v2 v3) :=
  fun _ _ _ _ _ X G hl hx hn hr hq => ex_init3 T Sh X G hl hx hn hr hq
/-- a made error -/
structure Made (h h' : Heap) (e C d : Addr) (mA : Str → Option Value) : Prop where
  keep : ∀ b o, h.get? b = some o → h'.get? b = some o
  new : h.objs.size ≤ e
  obj : ∃ t1 : Addr, h'.get? e = some { cls := .ref C, dict := some d, data := .fields #[.ref t1, .none, .none, .none, .bool false, .none] }
  dbig : h.objs.size ≤ d
  dne : d ≠ e
  ns : h'.Ns1 d mA
section
variable {prog : Program} {w : World} {A : Around} {E : Value → Shared → Prop} {R : Result → Shared → Prop} {s : Shared} {K : Frag} {mg : Str → Option Value} {C fI : Addr} {st : Stmt} {fs : List Str}
theorem ex_made {us : List Value} {mA : Str → Option Value} (T : ExTxt prog K C fI st fs) (J : InitOk prog w K mg C fI us mA) (X : K.In s.heap) (G : Glb mg s.heap) (hlim : s.heap.NoLimit) (hroom : A.depth + 1 < recursionLimit) (hus : us.length ≤ sizeLine)
    (hq : ∀ h' tk e d, Made s.heap h' e C d mA → R (.ok (.ret (.ref e))) { s with heap := h', toks := tk }) :
    codeAny (model prog w) A (.call (.ref C) ⟨us, []⟩) R s := by
  obtain ⟨nm, q, N, bs, bm, sn, sub, ab, col, dd, k0, k1, k2, k3, k5, hC, hbm⟩ := T.cls
  obtain ⟨hp, g, dr, tk, os⟩ := s
  have k : ∀ b o, hp.get? b = some o → ((hp.push (kdv_tup us)).push (excO C hp.objs.size)).get? b = some o := fun b o e => Heap.get?_push_of_some _ (Heap.get?_push_of_some _ e)
  have hget : ((hp.push (kdv_tup us)).push (excO C hp.objs.size)).get? (hp.objs.size + 1) = some (excO C hp.objs.size) := by heap_get
  have hnx : K.lookup (hp.objs.size + 1) = none := by
    cases e : K.lookup (hp.objs.size + 1) with
    | none => rfl
    | some o =>
      have z : hp.get? (hp.objs.size + 1) = some o := X _ _ e
      exact absurd (Nat.lt_of_succ_lt (Heap.lt_size z)) (Nat.lt_irrefl _)
  refine call_own F.excBase_ValueError (fun X => refsVE_contains X bm hbm) (X _ _ hC) (looks_findIn X T.iC) (fun self => bind_fn X self T.tC) hus ?_
  refine J _ ⟨(hp.push (kdv_tup us)).push (excO C hp.objs.size), g, dr, tk, os⟩ _ _ _ (X.keeps k) (G.keeps k) (hlim.keeps k) hget hnx ?_ fun h' tk' dx t1 k' hx dn dne hns => ?_
  · show A.depth + 1 < recursionLimit
    exact hroom
  · have old : ∀ b o, hp.get? b = some o → h'.get? b = some o := fun b o e => k' b o (Nat.ne_of_lt (Nat.lt_succ_of_lt (Heap.lt_size e))) (k b o e)
    have z : hp.objs.size + 1 + 1 ≤ dx := by
      first
        | (simpa only [Heap.size_push] using dn)
        | exact dn
        | (have q := dn; rw [Heap.size_push, Heap.size_push] at q; exact q)
    exact ⟨rfl, hq h' tk' (hp.objs.size + 1) dx ⟨old, Nat.le_succ _, ⟨_, hx⟩, Nat.le_trans (Nat.le_trans (Nat.le_succ _) (Nat.le_succ _)) z, dne, hns⟩⟩
end
end KX
end PySem
namespace L2
open PySem PySem.Spec PyProof.Rows PySem.KX
/-- the abstract fields and the map of an error's dict -/
structure FlsOk (vs : List V) (us : List Value) (fl : List (Str × V)) (mA : Str → Option Value) : Prop where
  rel : ∀ f, RelO (fl.lookup f) (mA f)
theorem glb_of {X : Cx} {pins : List (Addr × Obj)} {σ : St} {H : Hp} {s : Shared} (I : Inv X pins σ H s) (hs : X.mg "super" = none) : Glb X.mg s.heap := by
  obtain ⟨mb, h1, h2⟩ := I.mod.blt
  exact ⟨I.mod.glob.keeps I.bk, ⟨mb, h1.keeps I.bk, (h2 "super" (by decide)).trans (by decide +kernel)⟩, hs⟩
/-- what a class of errors makes of its arguments: fields -/
def ExMk (P : Program) (w : World) (K : PySem.W.Frag) (mg : Str → Option Value) (C fI : Addr) (mk : List V → Option (List (Str × V))) : Prop :=
  ∀ (vs : List V) (us : List Value) (fl : List (Str × V)), mk vs = some fl → Vals vs us → ∃ mA, InitOk P w K mg C fI us mA ∧ ∀ f, RelO (fl.lookup f) (mA f)
def mk1 (f : Str) : List V → Option (List (Str × V))
  | [v] => some [(f, v)]
  | _ => none
def mk3 : List V → Option (List (Str × V))
  | [a, b, c] => some [("reason", a), ("one", b), ("other", c)]
  | _ => none
theorem exMk1 {P : Program} {w : World} {K : PySem.W.Frag} {mg : Str → Option Value} {C fI : Addr} {st : Stmt} {fs : List Str} {f : Str} (T : ExTxt P K C fI st fs) (hf : f ∈ fs) (Sh : Init1 st f) (Ff : Fld f) : ExMk P w K mg C fI (mk1 f) := by
  intro vs us fl e r
  cases r with
  | nil => cases e
  | cons rv rn =>
    cases rn with
    | cons _ _ => cases e
    | nil =>
      rename_i v u
      cases e
      refine ⟨_, initOk1 (v := u) T hf Sh Ff, fun g => ?_⟩
      rw [lookup_put]
      by_cases hg : g = f
      · rw [if_pos hg, if_pos hg]; exact rv
      · rw [if_neg hg, if_neg hg]; trivial
theorem exMk3 {P : Program} {w : World} {K : PySem.W.Frag} {mg : Str → Option Value} {C fI : Addr} {st : Stmt} (T : ExTxt P K C fI st ["reason", "one", "other"]) (Sh : Init3 st) : ExMk P w K mg C fI mk3 := by
  intro vs us fl e r
  rcases r with _ | ⟨r1, _ | ⟨r2, _ | ⟨r3, _ | ⟨_, _⟩⟩⟩⟩ <;> first | (cases e; done) | skip
  cases e
  refine ⟨_, initOk3 T Sh, fun g => ?_⟩
  have n1 : ("reason" : Str) ≠ "one" := by decide +kernel
  have n2 : ("reason" : Str) ≠ "other" := by decide +kernel
  have n3 : ("one" : Str) ≠ "other" := by decide +kernel
  rw [lookup_put, lookup_put, lookup_put]
  unfold m3
  by_cases h1 : g = "reason"
  · subst h1
    rw [if_pos rfl, if_neg n2, if_neg n1, if_pos rfl]; exact r1
  · rw [if_neg h1]
    by_cases h2 : g = "one"
    · subst h2
      rw [if_pos rfl, if_neg n3, if_pos rfl]; exact r2
    · rw [if_neg h2]
      by_cases h3 : g = "other"
      · rw [if_pos h3, if_pos h3]; exact r3
      · rw [if_neg h3, if_neg h3, if_neg h2, if_neg h1]; trivial
end L2

set_option Elab.async false
set_option linter.all false
set_option maxRecDepth 100000
set_option maxHeartbeats 4000000
namespace L2
open PySem PySem.Spec PyProof.Rows PySem.KX
section
variable {X : Cx} {C fI : Addr} {st : Stmt} {fs : List Str} {mk : List V → Option (List (Str × V))}
/-- X(e, ..), an own error, as a value -/
def tExV (C : Addr) (mk : List V → Option (List (Str × V))) (ta : TA) : TE := fun σ H Q => ta σ H fun vs H1 => ∃ fl, mk vs = some fl ∧ vs.length ≤ 1000 ∧ ∀ a d, H1 a = none → H1 d = none → a ≠ d → Q (.ref a) (upd (upd H1 d (exd d fl)) a (exo a C (some d)))
theorem size1000 {n : Nat} (h : n ≤ 1000) : n ≤ sizeLine := by rw [sizeLine_eq]; omega
theorem pe_exv {x : Str} {a : Expr} {es : List Expr} {ta : TA} {p pos : Pos} {k : Nat} (T : ExTxt X.prog X.K C fI st fs) (M : ExMk X.prog X.w X.K X.mg C fI mk) (gC : X.mg x = some (.ref C)) (hs : X.mg "super" = none) (hr : Room k X.A) (ha : PA X (a :: es) ta) (hg : Gl X x)
    (he : starEach (a :: es) X.env = (false, eval a X.env) :: starEach es X.env := by rfl) (hpl : (backTo pos (starEach es X.env)).any (·.1) = false := by rfl) (hdb : (x == ("__debug__" : Str)) = false := by decide) :
    PE X (.Call (.Name x p) (a :: es) [] pos) (tExV C mk ta) := by
  refine ⟨fun pins s σ H Q I h => ?_⟩
  refine wpAny_Call_Name_kw (ld_glob I hg gC ?_ hdb)
  refine PySem.W.callWith_K (h₀ := X.base) I.ok.mod.kin T.kC (thn (ha.run pos pins s σ H _ I h) fun us s1 hh => ?_) he hpl
  obtain ⟨vs, H1, I1, r1, fl, hmk, hlen, q1⟩ := hh
  refine ⟨I1.kIn, ?_⟩
  obtain ⟨mA, J, rel⟩ := M vs us fl hmk r1
  have hlim := I1.nolimit
  have hG := glb_of I1 hs
  have hus : us.length ≤ sizeLine := size1000 (by rw [← r1.length]; exact hlen)
  obtain ⟨hp, g, dr, tk, os⟩ := s1
  show wpAny _ _ (call (.ref C) ([] ++ us)) _ _ _
  refine wpAny_call (ex_made T J I1.kIn hG hlim (by have := hr.dp; omega) hus fun h' tk' e d Md => ?_)
  obtain ⟨t1, hoe⟩ := Md.obj
  obtain ⟨G', g1, g2⟩ := restrict h' fun b => decide (b ≠ e)
  have gk : ∀ b, b ≠ e → G'.get? b = h'.get? b := fun b hb => g1 b (decide_eq_true hb)
  have ge : G'.get? e = none := g2 e (by simp)
  have old : ∀ b o, hp.get? b = some o → G'.get? b = some o := fun b o q => (gk b (Nat.ne_of_lt (Nat.lt_of_lt_of_le (Heap.lt_size q) Md.new))).trans (Md.keep b o q)
  have nd : H1 d = none := I1.hok.fresh Md.dbig
  have ne : H1 e = none := I1.hok.fresh Md.new
  have J1 : Inv X pins σ (upd H1 d (exd d fl)) ⟨G', g, dr, tk', os⟩ := I1.laid (t' := tk') old Md.dbig (exd_ok (Md.ns.at (fun o q => (gk d Md.dne).trans q)) rel)
  have J2 : Inv X pins σ (upd (upd H1 d (exd d fl)) e (exo e C (some d))) ⟨h', g, dr, tk', os⟩ := J1.laidN (t' := tk') (h' := h') (fun b u q => by
      by_cases hb : b = e
      · have q' : G'.get? b = some u := q
        rw [hb, ge] at q'; cases q'
      · exact (gk b hb).symm.trans q) ge (by rw [upd_ne (Ne.symm Md.dne)]; exact ne) (exo_ok hoe)
  exact ⟨.ref e, _, J2, rfl, q1 e d ne nd (Ne.symm Md.dne)⟩
/-- X(e, ..) to be raised -/
def tExM (C : Addr) (mk : List V → Option (List (Str × V))) (ta : TA) : St → Hp → XK → Prop := fun σ H Q => ta σ H fun vs H1 => ∃ fl, mk vs = some fl ∧ vs.length ≤ 1000 ∧ ∀ d, H1 d = none → Q (.ref C) (some d) (upd H1 d (.xd fl))
theorem pmk_ex {x : Str} {a : Expr} {es : List Expr} {ta : TA} {p pos : Pos} {k : Nat} (T : ExTxt X.prog X.K C fI st fs) (M : ExMk X.prog X.w X.K X.mg C fI mk) (gC : X.mg x = some (.ref C)) (hs : X.mg "super" = none) (hr : Room k X.A) (ha : PA X (a :: es) ta) (hg : Gl X x)
    (he : starEach (a :: es) X.env = (false, eval a X.env) :: starEach es X.env := by rfl) (hpl : (backTo pos (starEach es X.env)).any (·.1) = false := by rfl) (hdb : (x == ("__debug__" : Str)) = false := by decide) :
    PMk X (.Call (.Name x p) (a :: es) [] pos) (tExM C mk ta) := by
  intro pins s σ H Q I h
  refine wpAny_Call_Name_kw (ld_glob I hg gC ?_ hdb)
  refine PySem.W.callWith_K (h₀ := X.base) I.ok.mod.kin T.kC (thn (ha.run pos pins s σ H _ I h) fun us s1 hh => ?_) he hpl
  obtain ⟨vs, H1, I1, r1, fl, hmk, hlen, q1⟩ := hh
  refine ⟨I1.kIn, ?_⟩
  obtain ⟨mA, J, rel⟩ := M vs us fl hmk r1
  have hlim := I1.nolimit
  have hG := glb_of I1 hs
  have hus : us.length ≤ sizeLine := size1000 (by rw [← r1.length]; exact hlen)
  obtain ⟨hp, g, dr, tk, os⟩ := s1
  show wpAny _ _ (call (.ref C) ([] ++ us)) _ _ _
  refine wpAny_call (ex_made T J I1.kIn hG hlim (by have := hr.dp; omega) hus fun h' tk' e d Md => ?_)
  show MkP X pins σ Q (.ref e) ⟨h', g, dr, tk', os⟩
  obtain ⟨t1, hoe⟩ := Md.obj
  obtain ⟨G', g1, g2⟩ := restrict h' fun b => decide (b ≠ e)
  have gk : ∀ b, b ≠ e → G'.get? b = h'.get? b := fun b hb => g1 b (decide_eq_true hb)
  have ge : G'.get? e = none := g2 e (by simp)
  have old : ∀ b o, hp.get? b = some o → G'.get? b = some o := fun b o q => (gk b (Nat.ne_of_lt (Nat.lt_of_lt_of_le (Heap.lt_size q) Md.new))).trans (Md.keep b o q)
  have ob : ObjOk X.prog X.w (upd H1 d (.xd fl)) G' d (.xd fl) := ⟨_, Md.ns.at (fun o q => (gk d Md.dne).trans q), rel⟩
  have J : Inv X pins σ (upd H1 d (.xd fl)) ⟨G', g, dr, tk', os⟩ := I1.laid (t' := tk') old Md.dbig ob
  refine ⟨e, _, _, ⟨G', g, dr, tk', os⟩, _, .ref C, some d, rfl, J, fun b o q => ?_, ge, hoe, ⟨rfl, rfl⟩, rfl, rfl, ?_, rfl, I1.bare, raises_own T.exC T.tyC, q1 d (I1.hok.fresh Md.dbig)⟩
  · by_cases hb : b = e
    · have q' : G'.get? b = some o := q
      rw [hb, ge] at q'; cases q'
    · exact (gk b hb).symm.trans q
  · rw [upd_ne (Ne.symm Md.dne)]
    exact I1.hok.fresh Md.new
/-- raise X(e, ..) -/
def tRaiseX (C : Addr) (mk : List V → Option (List (Str × V))) (W : WX) (ta : TA) : TS := fun _ σ H => tExM C mk ta σ H fun cls d H' => W cls d σ H'
theorem ps_raiseX {x : Str} {a : Expr} {es : List Expr} {ta : TA} {W : WX} {p pos pos2 : Pos} {k : Nat} (hc : X.calm = true) (T : ExTxt X.prog X.K C fI st fs) (M : ExMk X.prog X.w X.K X.mg C fI mk) (gC : X.mg x = some (.ref C)) (hs : X.mg "super" = none) (hr : Room k X.A) (tk : Takes X W) (ha : PA X (a :: es) ta) (hg : Gl X x)
    (he : starEach (a :: es) X.env = (false, eval a X.env) :: starEach es X.env := by rfl) (hpl : (backTo pos (starEach es X.env)).any (·.1) = false := by rfl) (hdb : (x == ("__debug__" : Str)) = false := by decide) :
    PS X (.Raise (some (.Call (.Name x p) (a :: es) [] pos)) none pos2) (tRaiseX C mk W ta) := ps_raise hc tk (pmk_ex T M gC hs hr ha hg he hpl hdb)
/-- e.f, e an own error held as a value -/
def tExF (K : PySem.W.Frag) (f : Str) (te : TE) : TE := fun σ H Q => te σ H fun x H1 => ∃ (a C d : Addr) (fl : List (Str × V)) (v : V), x = .ref a ∧ H1 a = some (exo a C (some d)) ∧ H1 d = some (exd d fl) ∧ XfC K C ∧ PySem.W.findIn K (.ref C) f = some none ∧ fl.lookup f = some v ∧ Q v H1
theorem pe_exf {e : Expr} {te : TE} {pos : Pos} {f : Str} (he : PE X e te) (hb : attributeBase e f X.env (eval e X.env) = eval e X.env := by rfl) : PE X (.Attribute e f pos) (tExF X.K f te) := by
  refine ⟨fun pins s σ H Q I h => ?_⟩
  refine attr_of hb (thn (he.run pins s σ H _ I h) fun u s1 hh => ?_)
  obtain ⟨x, H1, I1, rx, a, C, d, fl, v, ex, ea, ed, T, hno, hl, q⟩ := hh
  subst ex
  obtain rfl : u = Value.ref a := rx
  obtain ⟨t1, ho⟩ := exo_at I1.hok ea
  obtain ⟨mA, hns, rel⟩ := exd_at I1.hok ed
  obtain ⟨od, ho2, hl2⟩ := lookIn_ns hns
  obtain ⟨u, hu, ru⟩ := RelO.some_of (v := v) (o := mA f) (by rw [← hl]; exact rel f)
  have J : PySem.W.InstAt s1.heap a { cls := .ref C, dict := some d, data := .fields #[.ref t1, .none, .none, .none, .bool false, .none] } C (some od) := ⟨ho, rfl, rfl, ho2⟩
  exact HandSPX.exc_get I1.kIn J T.ga T.gg T.exC (PySem.W.findObj_own T.hdC hno rfl (by rw [hl2, hu])) (handed_of ru) ⟨v, H1, I1.tok _, ru, q⟩
end
end L2

set_option Elab.async false
set_option linter.all false
set_option maxRecDepth 100000
set_option maxHeartbeats 4000000
namespace PySem.W
open PySem PySem.Spec PySem.Calls PyProof.Rows
section
variable {prog : Program} {w : World} {A : Around} {E : Value → Shared → Prop} {s : Shared} {K : Frag} {x D : Addr} {ox : Obj} {od : Option Obj}
theorem exv_find {C : Addr} {name : Str} {a g : Value} (hc : (clsIn K C).isSome = true) (ha : findIn K (.ref C) name = some (some a)) (hg : specialIn K a "__get__" = some (some g)) (ht : takesIn K a = some true) : findObj K C od name = some (.bind g a) := by
  obtain ⟨cd, hc⟩ := Option.isSome_iff_exists.mp hc
  unfold findObj
  rw [hc, Option.bind_some, ha, Option.bind_some]
  simp [hg, ht]
theorem exv_class {Q : Option Value → Shared → Prop} (hga : findIn K (.ref D) "__getattribute__" = some (some (.builtin "BaseException.__getattribute__"))) (hgt : findIn K (.ref D) "__getattr__" = some none) (hsub : subIn K (.ref D) (.type "BaseException") = some true)
    (hdct : hasDictIn K D = true) (ha : findIn K (.ref D) "__class__" = some (some (.builtin "object.__class__")))
    (hn : specialIn K (.builtin "object.__class__") "__get__" = some (some (.builtin "getset_descriptor.__get__"))) (htk : takesIn K (.builtin "object.__class__") = some true) (hm : mroIn K D (.type "object") = some true)
    (X : K.In s.heap) (I : InstAt s.heap x ox D od) (h : Q (some (.ref D)) { s with toks := s.toks + 1 }) : wpAny (model prog w) A (getAttr? (.ref x) "__class__") Q E s := by
  have hf : findObj K D od "__class__" = some (.bind (.builtin "getset_descriptor.__get__") (.builtin "object.__class__")) := exv_find (by obtain ⟨cd, hc, _⟩ := any_some hdct; rw [hc]; rfl) ha hn htk
  obtain ⟨hp, g, d, t, os⟩ := s
  have L0 := I.type (M := model prog w)
  have L1 := looks_findIn (M := model prog w) X hga
  have L2 := looks_findIn (M := model prog w) X hgt
  have L3 := looks_find (M := model prog w) X I hf
  have sub : Looks (model prog w) hp (isInstance (.ref x) (.type "BaseException")) true := L0.andThen (looks_subIn X hsub)
  have hx0 : (false && onTheHeap (Value.builtin "BaseException.__getattribute__")) = false := rfl
  have hx2 : (Value.builtin "BaseException.__getattribute__" == Value.builtin "object.__getattribute__") = false := by decide +kernel
  have hx1 : (onTheHeap (Value.ref D) && Value.builtin "BaseException.__getattribute__" == Value.builtin "object.__getattribute__") = false := by rw [hx2]; rfl
  unfold getAttr? getAttrBy? getAttrBy
  refine wpAny_bind (wpAny_mkText (wpAny_bind (wpAny_attempt (wpAny_holding (wpAny_bind (L0.at (wpAny_bind (L1.at ?_))))))))
  show wpAny _ _ (if (onTheHeap (Value.ref D) && Value.builtin "BaseException.__getattribute__" == Value.builtin "object.__getattribute__") = true then _ else _) _ _ _
  rw [hx1, if_neg Bool.false_ne_true]
  unfold getAttrByItsOwn hookBefore
  refine wpAny_bind ?_
  rw [if_pos (show onTheHeap (Value.ref D) = true from rfl)]
  refine L2.at ?_
  refine wpAny_bind (wpAny_attempt (wpAny_holding ?_))
  unfold callGetattribute
  rw [hx0, if_neg Bool.false_ne_true]
  unfold boundAndCalled
  rw [PySem.F.excAttr_ValueError.ga.bind (.ref x)]
  refine wpAny_bind (wpAny_pure ?_)
  show wpAny _ _ (call (.builtin "BaseException.__getattribute__") [.ref x, .str "__class__" t]) _ _ _
  refine wpAny_call (codeAny_call_builtin PySem.F.excAttr_ValueError.ga.plain PySem.F.entry_bexc_ga ?_)
  refine @check_slot (model prog w) _ _ ⟨hp, g, d, t + 1, os⟩ "BaseException.__getattribute__" "BaseException" "__getattribute__" (.ref x) [.str "__class__" t] [] _ (by decide +kernel) (by decide +kernel) sub (PySem.F.args_bexc_ga (.ref x) (.str "__class__" t)) ?_
  unfold Builtin.«object.__getattribute__»
  refine wpAny_bind (wpAny_of_eq (a := ((Value.ref x : Value), [Value.str "__class__" t])) (by first | rfl | (simp only [slotArgs]; rfl)) ?_)
  refine wpAny_bind (wpAny_pure (wpAny_bind (L0.at (wpAny_bind (L3.at ?_)))))
  show wpAny _ _ (holding [Value.builtin "object.__class__"] (call (.builtin "getset_descriptor.__get__") [.builtin "object.__class__", .ref x, .ref D]) >>= ret) _ _ _
  refine wpAny_bind (wpAny_holding (wpAny_call (class_get (s := ⟨hp, g, d, t + 1, os⟩) (ox := ox) (od := od) X I hm ?_)))
  refine wpAny_pure ?_
  show wpAny _ _ (handedOut (.ref D)) _ _ _
  rw [handedOut_of (v := .ref D) rfl]
  first
    | exact wpAny_pure (wpAny_pure h)
    | exact wpAny_pure h
    | exact wpAny_pure (wpAny_bind (wpAny_pure (wpAny_pure h)))
theorem exv_kit (hga : findIn K (.ref D) "__getattribute__" = some (some (.builtin "BaseException.__getattribute__"))) (hgt : findIn K (.ref D) "__getattr__" = some none) (hsub : subIn K (.ref D) (.type "BaseException") = some true) (hdct : hasDictIn K D = true) (ha : findIn K (.ref D) "__class__" = some (some (.builtin "object.__class__")))
    (hn : specialIn K (.builtin "object.__class__") "__get__" = some (some (.builtin "getset_descriptor.__get__"))) (htk : takesIn K (.builtin "object.__class__") = some true) (hm : mroIn K D (.type "object") = some true) :
    KitX K (.ref x) (.ref D) (fun h => ∃ od, InstAt h x ox D od) where
  ty := fun _ _ _ ⟨_, I⟩ => I.type
  it := fun _ _ X _ => by
    obtain ⟨cdD, hcD, _⟩ := any_some hdct
    unfold clsIn at hcD
    split at hcD
    · rename_i c' d' cd' sl' ho
      intro A' Q' E' s' k q
      unfold isType loadHead
      exact wpAny_bind (wpAny_loadPart (k _ _ (X _ _ ho)) (wpAny_pure q))
    · cases hcD
  ne := fun h tp dd its n sl X htp => by
    obtain ⟨cdD, hcD, _⟩ := any_some hdct
    refine Bool.eq_false_iff.mpr fun q => ?_
    have e : D = tp := Value.ref.inj (beq_iff_eq.mp q)
    subst e
    unfold clsIn at hcD
    split at hcD
    · rename_i c' d' cd' sl' ho
      have z := (X _ _ ho).symm.trans htp
      cases z
    · cases hcD
  ca := fun X ⟨_, I⟩ k => exv_class hga hgt hsub hdct ha hn htk hm X I k
end
end PySem.W
namespace L2
open PySem PySem.Spec PyProof.Rows PySem.KX
/-- isinstance(e, c), e an own error held as a value, c a class -/
def rIsV (K : PySem.W.Frag) : List V → Hp → VK → Prop := fun xs H Q => ∃ (a D : Addr) (d : Option Addr) (c : V) (cv : Value) (b : Bool), xs = [.ref a, c] ∧ H a = some (exo a D d) ∧ (∀ e, d = some e → ∃ fl, H e = some (exd e fl)) ∧ ExcC K D ∧ (∀ u, RelV c u → u = cv) ∧ PySem.W.kitOne K (.ref D) cv = some b ∧ Q (.bl b) H
theorem call_isV {X : Cx} : CallR X (.builtin "isinstance") (rIsV X.K) := by
  intro pins s σ H xs us Q I r h
  obtain ⟨a, D, d, c, cv, b, rfl, ha, hd, C, hcv, e, q⟩ := h
  cases r with
  | cons rx rr =>
    cases rr with
    | cons rt rr =>
      cases rr
      cases rx
      have ec := hcv _ rt
      subst ec
      obtain ⟨t1, hget⟩ := exo_at I.hok ha
      have J : ∃ od, PySem.W.InstAt s.heap a { cls := .ref D, dict := d, data := .fields #[.ref t1, .none, .none, .none, .bool false, .none] } D od := by
        cases d with
        | none => exact ⟨none, hget, rfl, rfl, trivial⟩
        | some dd =>
          obtain ⟨fl, hfl⟩ := hd dd rfl
          obtain ⟨mA, hns, _⟩ := exd_at I.hok hfl
          obtain ⟨od, ho, _⟩ := lookIn_ns hns
          exact ⟨some od, hget, rfl, rfl, ho⟩
      exact PySem.W.kia_one (PySem.W.exv_kit C.hg C.hk C.hs C.hd C.ha C.hn C.ht C.hm) I.kIn J e (fun z => nomatch z) fun tk => ⟨.bl b, H, I.kept (t' := tk) fun _ _ z => z, rfl, q⟩
end L2

set_option Elab.async false
set_option linter.all false
set_option maxRecDepth 100000
set_option maxHeartbeats 4000000
/-! The law's own call, made where no repr runs: what the law's def does may be shown for the caller's surroundings alone (so repr of lists has its answer). -/
namespace L2
open PySem PySem.Spec PyProof.Rows
/-- the def at f keeps sp when it is called by the claim's caller -/
structure FnAt (P : Program) (w : World) (K : PySem.W.Frag) (mg : Str → Option Value) (base : Heap) (f : Addr) (fd : FuncData) (ps : List Str) (sp : Sp) : Prop where
  run : ∀ (s : Shared) (H : Hp) (args : Args) (us : List Value) (vs : List V) (Q : VK) (E : XK), Env0 P w K mg base callerA [] s H → BindsTo s fd args (ps.zip us) → Vals vs us → sp vs H Q E →
    codeAny (model P w) callerA (.call (.ref f) args) (CR CX0 [] P w H s Q E) s
theorem Fun.okAt {P : Program} {w : World} {K : PySem.W.Frag} {mg : Str → Option Value} {base : Heap} {x qual : Str} {st : Stmt} {f : Addr} {fd : FuncData} {N ps : List Str} {k : Nat} {sp : Sp} (F : Fun K x qual st f fd) (S : FnScope N ps (defScope st)) (hr : Room (k + 1) callerA) (len : ∀ vs H Q E, sp vs H Q E → vs.length = ps.length)
    (hbody : ∀ (cdv : Value) (A : Around) (outer : List Env) (s : Shared) (H : Hp) (vs : List V) (Q : VK) (E : XK), A.guards = some [] → Room k (A.deeper (envOfC qual (defScope st) s.heap.objs.size f cdv)) → sp vs H Q E →
      ∃ t, PSs (cxOf CX0 P w K mg base N qual (defScope st) f cdv A outer s H E).nox (defBody st) t ∧ t { nx := fun _ H' => Q .non H', rt := Q } (start N vs) H) : FnAt P w K mg base f fd ps sp := by
  obtain ⟨oc, od, kV, doc, pm, an, cdv, ct, osl, rfl, lk, hcd⟩ := F.ex
  refine ⟨fun s H args us vs Q E e0 hb r hsp => ?_⟩
  have hl := len _ _ _ _ hsp
  have old : ∀ b o, base.get? b = some o → s.heap.get? b = some o := fun b o e => (e0.bs b o e).1
  have KX : K.In s.heap := e0.mod.kin.keeps old
  have hkind : ∀ y ∈ ps.zip us, (defScope st).names.lookup y.1 = some .local ∨ ((defScope st).names.lookup y.1 = some .cell ∧ ((cellsFrom (s.heap.objs.size + 1) (defScope st).names []).lookup y.1).isSome = true) := fun ⟨n, v⟩ hy => by
    rcases S.par n (List.of_mem_zip hy).1 with q | q
    · exact .inl q
    · exact .inr ⟨q, PySem.W.cellsFrom_some _ _ _ (.inl q)⟩
  refine codeAny_call_function hr.depth (KX _ _ lk) rfl S.co S.gen rfl (PySem.W.codeRec_of KX hcd) (hb _ _ _ _ (wpAny_newFunctionEnv_cells S.kind hkind fun env he s1 z => ?_))
  subst he
  refine ⟨(e0.mod.nolimit.keeps old).keeps z.toInCall.keep, codeAny_func ?_⟩
  obtain ⟨t, ht, hq⟩ := hbody cdv callerA [] s H vs Q E rfl (hr.deeper _) hsp
  have I : Inv (cxOf CX0 P w K mg base N qual (defScope st) f cdv callerA [] s H E) [] (start N vs) H s1 := inv_start S hr.hd e0 hl r z
  refine wpAny_mono (ht.nox.run [] s1 (start N vs) H _ I hq) (fun fl s' hs => ?_) fun e s' hs => hs
  cases fl with
  | ret u =>
    obtain ⟨v, σ', H', J, rv, q⟩ := hs
    exact ⟨v, H', J.os, J.bare, J.base, J.hok, rv, q⟩
  | next =>
    obtain ⟨σ', H', J, q⟩ := hs
    exact ⟨V.non, H', J.os, J.bare, J.base, J.hok, rfl, q⟩
  | brk => exact hs.elim fun _ h => h.elim fun _ h => False.elim h.2
  | cont => exact hs.elim fun _ h => h.elim fun _ h => False.elim h.2
section
variable {P : Program} {w : World} {K : PySem.W.Frag} {mg mb : Str → Option Value} {fa a : Addr} {fd : FuncData} {x : Str} {sp : Sp} {s₁ : Shared} {vs : List Value} {ns : List Int}
/-- what is wanted of the law's run -/
abbrev LawEnd (s₁ : Shared) (r : Result) (s' : Shared) : Prop := r = .ok (.ret (.bool true)) ∧ OldK s₁.heap s'.heap ∧ s'.os = s₁.os ∧ AllBare s'.gens
/-- from an abstract heap H that tracks the script at most -/
theorem law_at0 {H : Hp} (KX : K.In s₁.heap) (hns : s₁.heap.Ns mainGlobals mg) (hb : s₁.heap.Ns builtinsNs mb) (hbb : ∀ x : Str, x ≠ "__name__" → mb x = bootBuiltins x) (hlim : s₁.heap.NoLimit) (hg : s₁.gens = #[])
    (F : ∀ base : Heap, K.In base → base.Ns mainGlobals mg → FnAt P w K mg base fa fd [x] sp) (hbind : ∀ (s : Shared) (u : Value), BindsTo s fd ⟨[u], []⟩ [(x, u)])
    (hO : Only H) (hsp : sp [.ref a] H (fun v _ => v = .bl true) fun _ _ _ => False) (hok : HOk P w H s₁.heap) (hA : ∀ b o, s₁.heap.get? b = some o → (∃ es ep, o.data = .dict es ep) ∨ (K.lookup b).isSome = true → H b = none) :
    codeAny (model P w) callerA (.call (.ref fa) ⟨[.ref a], []⟩) (LawEnd s₁) s₁ := by
  have nsK : ∀ {b : Addr} {m : Str → Option Value}, s₁.heap.Ns b m → (hidT s₁.heap H).Ns b m := fun {b m} ⟨o, es, ep, e, d, r⟩ => ⟨o, es, ep, hidT_get e (hA b o e (.inl ⟨es, ep, d⟩)), d, r⟩
  have hKb : K.In (hidT s₁.heap H) := fun b o e => hidT_get (KX b o e) (hA b o (KX b o e) (.inr (by rw [e]; rfl)))
  have e0 : Env0 P w K mg (hidT s₁.heap H) callerA [] s₁ H := ⟨rfl, ⟨hKb, nsK hns, ⟨mb, nsK hb, hbb⟩, let ⟨mc, h1, h2⟩ := hlim; ⟨mc, nsK h1, h2⟩⟩, fun b o e => of_hidT e, Nat.le_of_eq (hidT_size _ _), trivial, fun b hb => absurd (show b ∈ ([] : List Addr) from hb) (by simp), hok, .of_eq hg⟩
  refine codeAny_mono ((F _ hKb (nsK hns)).run s₁ H ⟨[.ref a], []⟩ [.ref a] [.ref a] _ _ e0 (hbind s₁ (.ref a)) (.cons rfl .nil) hsp) fun r s' h => ?_
  match r, h with
  | .error e, h => exact False.elim h
  | .ok .next, h => exact False.elim h
  | .ok .brk, h => exact False.elim h
  | .ok .cont, h => exact False.elim h
  | .ok (.ret u), ⟨v, H', os, bare, un, hok', r', q⟩ =>
    obtain rfl : v = .bl true := q
    obtain rfl : u = Value.bool true := r'
    refine ⟨rfl, OldK.of_keep fun b o e => ?_, os, bare⟩
    rcases hO b with z | ⟨ob, xs, z⟩
    · exact un.keep b o e z (by intro z; exact absurd (show b ∈ ([] : List Addr) from z) (by simp)) (by simp)
    · obtain ⟨e1, _⟩ := hok b _ z
      obtain ⟨e2, _⟩ := hok' b _ (un.frzs b ob _ z)
      rw [e] at e1; cases e1
      exact e2
theorem law_at (KX : K.In s₁.heap) (hns : s₁.heap.Ns mainGlobals mg) (hb : s₁.heap.Ns builtinsNs mb) (hbb : ∀ x : Str, x ≠ "__name__" → mb x = bootBuiltins x) (hlim : s₁.heap.NoLimit) (hg : s₁.gens = #[])
    (ha : s₁.heap.get? a = some { cls := .type "list", data := .seq vs.toArray }) (hi : IntsAre vs ns) (hl : ns.length ≤ sizeLine)
    (F : ∀ base : Heap, K.In base → base.Ns mainGlobals mg → FnAt P w K mg base fa fd [x] sp) (hbind : ∀ (s : Shared) (u : Value), BindsTo s fd ⟨[u], []⟩ [(x, u)])
    (hsp : ∀ H : Hp, Only H → SqL K H a (ns.map V.int) → sp [.ref a] H (fun v _ => v = .bl true) fun _ _ _ => False) :
    codeAny (model P w) callerA (.call (.ref fa) ⟨[.ref a], []⟩) (LawEnd s₁) s₁ := by
  have rv := vals_ints hi
  cases hk : K.lookup a with
  | some o =>
    have e := KX a o hk
    rw [ha] at e
    cases e
    have hO : Only (fun _ => none) := fun _ => .inl rfl
    refine law_at0 KX hns hb hbb hlim hg F hbind hO (hsp _ hO (.inr ⟨_, vs.toArray, _, hk, rfl, rfl, rfl, by rw [List.size_toArray, hi.length]; exact hl, by simpa using rv⟩)) (fun b u z => ?_) fun _ _ _ _ => rfl
    have z' : (none : Option HO) = some u := z
    cases z'
  | none =>
    have hO : Only (fun b => if b = a then some (.frz { cls := .type "list", data := .seq vs.toArray } (.lst (ns.map V.int))) else none) := fun b => by
      by_cases hb : b = a
      · exact .inr ⟨_, _, if_pos hb⟩
      · exact .inl (if_neg hb)
    refine law_at0 KX hns hb hbb hlim hg F hbind hO (hsp _ hO (.inl (.inr ⟨_, if_pos rfl⟩))) (fun b u z => ?_) (fun b o e h => ?_)
    · by_cases hb : b = a
      · have z' := (if_pos hb).symm.trans z
        cases z'
        subst hb
        exact ⟨ha, by rw [List.length_map]; exact hl, vs, _, rv, ha⟩
      · have z' := (if_neg hb).symm.trans z
        cases z'
    · refine if_neg fun hb => ?_
      subst hb
      rcases h with ⟨es, ep, h⟩ | h
      · rw [ha] at e; cases e
        have d' : Data.seq vs.toArray _ = Data.dict es ep := h
        cases d'
      · rw [hk] at h; cases h
end
/-- the end of a law row, over FnAt -/
theorem walk_at {l : PySem.W.OpenLaw} {n : Nat} {q : Program} {loose : List Str} {XP : (Str → Option Value) → Heap → Prop} {YP : World → Heap → Prop} {d : DefRec} {K : Params → PySem.W.Frag} {sp : World → Sp} {x : Str}
    (hn : l.most = some n) (hn2 : n ≤ sizeLine) (hdf : d.params.defaults = []) (hY : ∀ (w : World) (h : Heap), YP w h → (K w.params).In h)
    (F : ∀ (w : World) (mg : Str → Option Value) (fa : Addr) (h : Heap), (K w.params).In h → h.Ns mainGlobals mg → mg d.name = some (.ref fa) →
      ∃ fd : FuncData, (∀ (s : Shared) (u : Value), BindsTo s fd ⟨[u], []⟩ [(x, u)]) ∧ ∀ base : Heap, (K w.params).In base → base.Ns mainGlobals mg → FnAt l.prog w (K w.params) mg base fa fd [x] (sp w))
    (hsp : ∀ (w : World) (H : Hp) (a : Addr) (ns : List Int), ns.length ≤ n → Only H → SqL (K w.params) H a (ns.map V.int) → sp w [.ref a] H (fun v _ => v = .bl true) fun _ _ _ => False) :
    PySem.W.WalkO q loose XP YP l.row.toRowW d [] (fun f vs => PySem.call f vs) := by
  refine Att.attach_call hn hdf fun w s₀ s₁ mg mb fa o pm cd doc a vs ns G Y ho hd hcd hmg hobj hints hlen hg => ?_
  obtain ⟨fd, hb, hF⟩ := F w mg fa _ (hY w _ Y) G.T.g hmg
  exact law_at (hY w _ Y) G.T.g G.T.b G.T.builtins G.T.nolimit hg hobj hints (Nat.le_trans hlen hn2) hF hb fun H hO hS => hsp w H a ns hlen hO hS
/-- .. with the written part by a Hook -/
theorem walk_atE {l : PySem.W.OpenLaw} {n : Nat} {q : Program} {loose : List Str} {XP : (Str → Option Value) → Heap → Prop} {YP : World → Heap → Prop} {d : DefRec} {x : Str}
    (hn : l.most = some n) (hn2 : n ≤ sizeLine) (hdf : d.params.defaults = [])
    (F : ∀ (w : World) (mg : Str → Option Value) (fa : Addr) (h : Heap), YP w h → h.Ns mainGlobals mg → mg d.name = some (.ref fa) →
      ∃ (K : PySem.W.Frag) (fd : FuncData) (sp : Sp), K.In h ∧ (∀ (s : Shared) (u : Value), BindsTo s fd ⟨[u], []⟩ [(x, u)]) ∧
        (∀ (H : Hp) (a : Addr) (ns : List Int), ns.length ≤ n → Only H → SqL K H a (ns.map V.int) → sp [.ref a] H (fun v _ => v = .bl true) fun _ _ _ => False) ∧
        ∀ base : Heap, K.In base → base.Ns mainGlobals mg → FnAt l.prog w K mg base fa fd [x] sp) :
    PySem.W.WalkO q loose XP YP l.row.toRowW d [] (fun f vs => PySem.call f vs) := by
  refine Att.attach_call hn hdf fun w s₀ s₁ mg mb fa o pm cd doc a vs ns G Y ho hd hcd hmg hobj hints hlen hg => ?_
  obtain ⟨K, fd, sp, KX, hb, hsp, hF⟩ := F w mg fa _ Y G.T.g hmg
  exact law_at KX G.T.g G.T.b G.T.builtins G.T.nolimit hg hobj hints (Nat.le_trans hlen hn2) hF hb fun H hO hS => hsp H a ns hlen hO hS
end L2

set_option Elab.async false
set_option linter.all false
set_option maxRecDepth 100000
set_option maxHeartbeats 4000000
/-! What a law needs of the program's top, read by one Hook: yes-or-no facts over the written part, defs, and the __init__ of the own errors. -/
namespace L2
open PySem PySem.Spec PyProof.Rows
theorem FunD.fn {K : PySem.W.Frag} {x qual : Str} {st : Stmt} {f : Addr} {fd : FuncData} (F : FunD K x qual (defArgs st) (defBody st) (defScope st) [] [] f fd) : Fun K x qual st f fd := by
  obtain ⟨⟨oc, od, dV, kV, doc, pm, an, cdv, ct, osl, rfl, lk, hcd, hD, hK⟩, kp⟩ := F
  rcases hD with ⟨_, rfl⟩ | ⟨e, _⟩
  · exact ⟨⟨oc, od, kV, doc, pm, an, cdv, ct, osl, rfl, lk, hcd⟩, kp⟩
  · exact absurd rfl e
end L2
namespace KH
open PySem PySem.Spec PyProof.Rows L2 He PySem.KX
open PySem.W (Frag)
def exClsB (K : Frag) (C : Addr) : Bool := match K.lookup C with
  | some ⟨.type "type", _, .cls cd, sl⟩ => (match cd.mro, sl.toList with
    | .ref C' :: bm, [_, _, _, _, some (.builtin n), _] => C' == C && (n == "ValueError.__new__" && (!cd.hasDel && (cd.hasDict && PySem.HandSPX.refsVE bm)))
    | _, _ => false)
  | _ => false
theorem exClsB_ok {K : Frag} {C : Addr} (q : exClsB K C = true) : ∃ nm qn N bs bm sn sub ab col dd k0 k1 k2 k3 k5, K.lookup C = some (excClassObj nm qn C N bs bm true sn sub ab col dd k0 k1 k2 k3 k5 "ValueError.__new__") ∧ PySem.HandSPX.refsVE bm = true := by
  unfold exClsB at q
  split at q
  · rename_i dd cd sl ho
    split at q
    · rename_i C' bm k0 k1 k2 k3 n k5 hm hs
      simp only [Bool.and_eq_true, beq_iff_eq, Bool.not_eq_true'] at q
      obtain ⟨rfl, rfl, hdel, hdi, hr⟩ := q
      obtain ⟨nm, bs, mro, ns, qn, hd, sn, sub, ab, col, del⟩ := cd
      dsimp only at hm hdel hdi
      subst hm hdel hdi
      obtain ⟨l⟩ := sl
      simp only at hs
      subst hs
      exact ⟨nm, qn, ns, bs, bm, sn, sub, ab, col, dd, k0, k1, k2, k3, k5, ho, hr⟩
    · cases q
  · cases q
/-- where the __init__ of the error x stands -/
def iAd (K : Frag) (x : Str) : Addr := ma K (ga K x) "__init__"
def codeB (P : Program) (K : Frag) (C : Addr) (fd : FuncData) : Bool := match fd.closure, fd.code, fd.defaults, fd.kwdefaults with
  | [(n, cc)], .ref cda, .none, .none => decide (n = "__class__") && (PySem.W.codeIn K (.ref cda) fd.qualname && ((match K.lookup cda with
    | some ⟨_, _, .fields vs, _⟩ => (match (vs[2]? : Option Value) with
      | some (Value.str file _) => (P.main.file : Str) == file
      | _ => false)
    | _ => false) && (match K.lookup cc with
    | some ⟨_, _, .cell (some (.ref D)), _⟩ => D == C
    | _ => false)))
  | _, _, _, _ => false
def exB (P : Program) (x : Str) (fs : List Str) (K : Frag) : Bool :=
  let C := ga K x
  let fI := iAd K x
  exClsB K C && (eqO (PySem.W.findIn K (.ref C) "__setattr__") (some (some (.builtin "object.__setattr__"))) && (eqO (PySem.W.findIn K (.ref C) "__getattribute__") (some (some (.builtin "BaseException.__getattribute__"))) && (eqO (PySem.W.findIn K (.ref C) "__getattr__") (some none) &&
  ((fs.all fun f => eqO (PySem.W.findIn K (.ref C) f) (some none)) && (eqO (PySem.W.findIn K (.ref C) "__init__") (some (some (.ref fI))) && (decide (PySem.W.typeIn K (.ref fI) = some (.type "function")) && (PySem.W.keepIn K (.ref C) &&
  (decide (PySem.W.subIn K (.ref C) (.type "BaseException") = some true) && (decide (PySem.W.typeIn K (.ref C) = some (.type "type")) && (PySem.W.hasDictIn K C && (decide (PySem.W.exmOne K (.ref C) (.ref C) = some true) &&
  (eqO (PySem.W.ks_superIn K C C "__init__") (some (some (.builtin "ValueError.__init__"))) && (decide (PySem.W.subIn K (.ref C) (.type "ValueError") = some true) && (decide (PySem.W.mroIn K C (.ref C) = some true) && (eqO (PySem.W.nsIn K cStatics "thirdparty.any") (some none) &&
  (match K.lookup fI with
    | some ⟨_, _, .func fd, _⟩ => codeB P K C fd
    | _ => false))))))))))))))))
abbrev FnI : Type := Option (Str × Arguments × FuncBody × Scope × Addr × Addr)
def fnI (K : Frag) (x : Str) : FnI := match K.lookup (iAd K x) with
  | some ⟨_, _, .func fd, _⟩ => some (fd.name, fd.params, fd.body, fd.scope, fd.globals, fd.builtins)
  | _ => none
def valI (st : Stmt) : FnI := some ("__init__", defArgs st, .stmts (defBody st), defScope st, mainGlobals, builtinsNs)
theorem ex_of {P : Program} {K : Frag} {x : Str} {fs : List Str} {st : Stmt} (c : exB P x fs K = true) (e : fnI K x = valI st) (tp : (P.main.scope.names.lookup ("super" : Str)).isSome = false) : ExTxt P K (ga K x) (iAd K x) st fs := by
  unfold exB at c
  simp only [Bool.and_eq_true] at c
  obtain ⟨c1, c2, c3, c4, c5, c6, c7, c8, c9, c10, c11, c12, c13, c14, c15, c16, c17⟩ := c
  refine ⟨exClsB_ok c1, eqO_ok c2, eqO_ok c3, eqO_ok c4, fun f hf => eqO_ok (List.all_eq_true.mp c5 f hf), eqO_ok c6, of_decide_eq_true c7, c8, of_decide_eq_true c9, of_decide_eq_true c10, c11, of_decide_eq_true c12, eqO_ok c13, of_decide_eq_true c14, of_decide_eq_true c15, eqO_ok c16, ?_, tp⟩
  unfold fnI at e
  cases q : K.lookup (iAd K x) with
  | none => rw [q] at c17; cases c17
  | some o =>
    obtain ⟨oc, od, dt, osl⟩ := o
    rw [q] at c17 e
    cases dt with
    | func fd =>
      obtain ⟨n1, n2, n3, n4, n5, n6, n7, n8, n9, n10, n11, n12, n13, n14, n15⟩ := fd
      have e2 : (some (n1, n3, n4, n5, n6, n15) : FnI) = some (("__init__" : Str), defArgs st, FuncBody.stmts (defBody st), defScope st, mainGlobals, builtinsNs) := e
      simp only [Option.some.injEq, Prod.mk.injEq] at e2
      obtain ⟨h1, h2, h3, h4, h5, h6⟩ := e2
      subst h1 h2 h3 h4 h5 h6
      have c18 : codeB P K (ga K x) ⟨_, n2, _, _, _, _, n7, n8, n9, n10, n11, n12, n13, n14, _⟩ = true := c17
      unfold codeB at c18
      split at c18
      · rename_i n cc cda hcl hco hde hkw
        dsimp only at hcl hco hde hkw
        subst hcl hco hde hkw
        simp only [Bool.and_eq_true] at c18
        obtain ⟨d1, d2, d3, d4⟩ := c18
        have d1' : n = "__class__" := of_decide_eq_true d1
        subst d1'
        split at d3
        · rename_i ccl cdd vs ccs hcda
          split at d3
          · rename_i file tf hvs
            split at d4
            · rename_i cl cld D csl hcc
              have : D = ga K x := by simpa using d4
              subst this
              exact ⟨n2, oc, od, n10, n11, n12, cda, cc, n14, osl, ccl, cdd, vs, ccs, file, tf, cl, cld, csl, rfl, d2, hcda, hvs, d3, hcc⟩
            · cases d4
          · cases d3
        · cases d3
      · cases c18
    | _ => cases c17
/-! ### the Hook -/
def asX (g : Addr → Option Obj) : Nat → List Addr
  | 0 => [mainGlobals, sysModules, cStatics]
  | n + 1 => growD g (asX g n)
structure Need where
  facts : List (Frag → Bool)
  defs : List DefD
  inits : List (Str × Stmt)
abbrev AlX : Type := Bool × List FnW × List FnI
def obsX (d : Need) (K : Frag) : AlX := ((d.facts.all fun f => f K) && d.defs.all fun e => e.ok K, d.defs.map fun e => fnW K e.at_, d.inits.map fun e => fnI K e.1)
def valX (d : Need) : AlX := (true, d.defs.map DefD.val, d.inits.map fun e => valI e.2)
def Says (d : Need) (K : Frag) : Prop := obsX d K = valX d
def obsXG (n : Nat) (d : Need) (g : Addr → Option Obj) : AlX := obsX d (frG g (asX g n))
def hookX (n : Nat) (d : Need) : PySem.W.Hook where
  α := AlX
  obs := fun s => obsXG n d s.heap.get?
  val := fun _ => valX d
  says := fun _ h => ∃ K : Frag, K.In h ∧ Says d K
  of := fun _ _ e => ⟨_, frG_in, e⟩
  keeps := fun _ _ _ ⟨K, hK, c⟩ k => ⟨K, PySem.W.Frag.In.keeps hK k, c⟩
theorem obsXG_eq {n : Nat} {d : Need} {g : Addr → Option Obj} {s : Shared} (h : ∀ a, g a = s.heap.get? a) : obsXG n d g = (hookX n d).obs s := by
  have e : g = s.heap.get? := funext h
  rw [e] <;> rfl
section
variable {d : Need} {K : Frag}
theorem Says.fact (c : Says d K) (i : Nat) {f : Frag → Bool} (h : d.facts[i]? = some f := by rfl) : f K = true := by
  have c1 := (ba (show ((d.facts.all fun f => f K) && d.defs.all fun e => e.ok K) = true from congrArg (fun z : AlX => z.1) c)).1
  exact List.all_eq_true.mp c1 f (List.mem_of_getElem? h)
theorem Says.def_ (c : Says d K) (i : Nat) {e : DefD} (h : d.defs[i]? = some e := by rfl) : ∃ fd, FunD K e.name e.qual e.params e.body e.scope (e.dvs K) (e.kws K) (fAd K e.at_) fd := by
  have c2 := (ba (show ((d.facts.all fun f => f K) && d.defs.all fun e => e.ok K) = true from congrArg (fun z : AlX => z.1) c)).2
  have e1 : d.defs.map (fun e => fnW K e.at_) = d.defs.map DefD.val := congrArg (fun z : AlX => z.2.1) c
  have e2 : (d.defs.map fun e => fnW K e.at_)[i]? = (d.defs.map DefD.val)[i]? := by rw [e1]
  rw [List.getElem?_map, List.getElem?_map, h] at e2
  exact DefD.funD (Option.some.inj e2) (List.all_eq_true.mp c2 e (List.mem_of_getElem? h))
theorem Says.init (c : Says d K) (i : Nat) {x : Str} {st : Stmt} (h : d.inits[i]? = some (x, st) := by rfl) : fnI K x = valI st := by
  have e1 : d.inits.map (fun e => fnI K e.1) = d.inits.map (fun e => valI e.2) := congrArg (fun z : AlX => z.2.2) c
  have e2 : (d.inits.map fun e => fnI K e.1)[i]? = (d.inits.map fun e => valI e.2)[i]? := by rw [e1]
  rw [List.getElem?_map, List.getElem?_map, h] at e2
  exact Option.some.inj e2
end
end KH

set_option Elab.async false
set_option linter.all false
set_option maxRecDepth 100000
set_option maxHeartbeats 4000000
/-! repr of data: None, bools, ints, texts, lists, tuples of such, and the empty dict. -/
namespace L2
open PySem PySem.Spec PyProof.Rows
mutual
/-- v is the data d -/
inductive Dq (K : PySem.W.Frag) (H : Hp) : V → PyData → Prop
  | non : Dq K H .non .none
  | bl (b : Bool) : Dq K H (.bl b) (.bool b)
  | int (i : Int) : Dq K H (.int i) (.int i)
  | str (x : Str) : Dq K H (.str x) (.str x)
  | lst {a : Addr} {xs : List V} {ds : List PyData} : SqL K H a xs → DqAll K H xs ds → Dq K H (.ref a) (.list ds)
  | tup {a : Addr} {xs : List V} {ds : List PyData} : SqT K H a xs → DqAll K H xs ds → Dq K H (.ref a) (.tuple ds)
  | dic {a : Addr} : H a = some (.dK []) → Dq K H (.ref a) (.dict [])
inductive DqAll (K : PySem.W.Frag) (H : Hp) : List V → List PyData → Prop
  | nil : DqAll K H [] []
  | cons {v : V} {vs : List V} {d : PyData} {ds : List PyData} : Dq K H v d → DqAll K H vs ds → DqAll K H (v :: vs) (d :: ds)
end
section
variable {X : Cx} {pins : List (Addr × Obj)} {σ : St} {H : Hp} {s : Shared}
mutual
theorem Dq.reads (I : Inv X pins σ H s) (hy : PySem.W.typeIn X.K (.ref sysModules) = some (.type "dict")) : ∀ (d : PyData) (v : V) (u : Value), Dq X.K H v d → RelV v u → ∃ as, Reads s.heap u d as ∧ sysModules ∉ as
  | .none, _, _, h, r => by
    cases h; cases r
    exact ⟨_, Reads.none, by simp⟩
  | .bool b, _, _, h, r => by
    cases h; cases r
    exact ⟨_, Reads.bool b, by simp⟩
  | .int i, _, _, h, r => by
    cases h
    obtain ⟨t, rfl⟩ := r
    exact ⟨_, Reads.int i t, by simp⟩
  | .str x, _, _, h, r => by
    cases h
    obtain ⟨t, rfl⟩ := r
    exact ⟨_, Reads.str x t, by simp⟩
  | .list ds, _, _, h, r => by
    cases h with
    | lst hs ha =>
      cases r
      rename_i a xs
      obtain ⟨its, rv, ⟨o, n, ho, hc, _, hd⟩, _⟩ := I.list hs
      obtain ⟨as, hr, hn⟩ := DqAll.reads I hy ds _ its ha rv
      refine ⟨_, Reads.list ho hc hd hr, fun z => ?_⟩
      rcases List.mem_cons.mp z with z | z
      · have hy' : (X.K.lookup sysModules).map (·.cls) = some (.type "dict") := hy
        cases q : X.K.lookup sysModules with
        | none => rw [q] at hy'; cases hy'
        | some oy =>
          have e := I.kIn _ _ q
          rw [q] at hy'
          rw [z, ho] at e
          cases e
          have e2 : o.cls = Value.type "dict" := Option.some.inj hy'
          rw [hc] at e2
          exact absurd e2 (by decide)
      · exact hn z
  | .tuple ds, _, _, h, r => by
    cases h with
    | tup hs ha =>
      cases r
      obtain ⟨its, rv, ⟨o, ho, hc, n, hd⟩, _⟩ := I.tuple hs
      obtain ⟨as, hr, hn⟩ := DqAll.reads I hy ds _ its ha rv
      exact ⟨_, Reads.tuple ho hc hd hr, hn⟩
  | .dict _, _, _, h, r => by
    cases h with
    | dic hd =>
      cases r
      rename_i a
      obtain ⟨_, ns, vs, kv, o, es, ep, ho, ⟨hc, hdd⟩, hdat, hes⟩ := I.hok a _ hd
      cases kv
      obtain ⟨_, hp, _⟩ := hes
      have el : es.toList = [] := by
        cases q : es.toList with
        | nil => rfl
        | cons e r => rw [q] at hp; cases hp
      refine ⟨[a] ++ [] ++ [], Reads.dict (kvs := []) ho hc hdat (by rw [el]; exact ReadsAll.nil) (by rw [el]; exact ReadsAll.nil), fun z => ?_⟩
      have z' : sysModules = a := by simpa using z
      rw [z'] at ns
      simp at ns
theorem DqAll.reads (I : Inv X pins σ H s) (hy : PySem.W.typeIn X.K (.ref sysModules) = some (.type "dict")) : ∀ (ds : List PyData) (vs : List V) (us : List Value), DqAll X.K H vs ds → Vals vs us → ∃ as, ReadsAll s.heap us ds as ∧ sysModules ∉ as
  | [], _, _, h, r => by
    cases h; cases r
    exact ⟨_, ReadsAll.nil, by simp⟩
  | d :: ds, _, _, h, r => by
    cases h with
    | cons h1 h2 =>
      cases r with
      | cons r1 r2 =>
        obtain ⟨as, q1, n1⟩ := Dq.reads I hy d _ _ h1 r1
        obtain ⟨bs, q2, n2⟩ := DqAll.reads I hy ds _ _ h2 r2
        exact ⟨_, ReadsAll.cons q1 q2, fun z => (List.mem_append.mp z).elim n1 n2⟩
end
end
/-- repr of a list or a tuple, a dict -/
def rRepr (K : PySem.W.Frag) : List V → Hp → VK → Prop := fun xs H Q => ∃ (a : Addr) (d : PyData), xs = [.ref a] ∧ Dq K H (.ref a) d ∧ d.showable = true ∧ d.depth ≤ 20 ∧ d.shown.length ≤ sizeLine ∧ Q (.str d.shown) H
theorem call_reprD {X : Cx} {k : Nat} (hg : X.A.guards = some []) (hr : Room k X.A) (hy : PySem.W.typeIn X.K (.ref sysModules) = some (.type "dict")) : CallR X (.builtin "repr") (rRepr X.K) := by
  intro pins s σ H xs us Q I r h
  obtain ⟨a, d, rfl, hd, hs, hde, hz, q⟩ := h
  cases r with
  | cons rx rr =>
    cases rr
    cases rx
    obtain ⟨as, hrd, hn⟩ := Dq.reads I hy d _ _ hd rfl
    exact repr_of_reads' hrd hs (fun _ => hn) hg (by have := hr.un; omega) (fun _ _ e => e) (fun h' u tk k => ⟨.str _, H, I.kept k, ⟨_, rfl⟩, q⟩) hz
end L2

/-! The plain law of the tokens: texts are lists of code points. No program in sight. -/
set_option linter.all false
set_option maxRecDepth 100000
namespace Lex
inductive Kd where
  | name | word | number | text | sign
  deriving DecidableEq
def letters : List Nat := [97, 98, 99, 100, 101, 102, 103, 104, 105, 106, 107, 108, 109, 110, 111, 112, 113, 114, 115, 116, 117, 118, 119, 120, 121, 122]
def digits : List Nat := [48, 49, 50, 51, 52, 53, 54, 55, 56, 57]
def signs : List Nat := [40, 41, 91, 93, 123, 125, 44, 59, 58, 46, 61, 60, 43, 45, 42]
def cp (s : String) : List Nat := s.toList.map Char.toNat
def words : List (List Nat) := [105, 109, 112, 111, 114, 116] :: ["from", "as", "def", "class", "global", "nonlocal", "if", "else", "while", "for", "in", "return", "break", "continue", "pass", "and", "or", "not", "fn", "none", "true", "false"].map cp
def inRun (c : Nat) : Bool := decide (c ∈ letters) || (decide (c ∈ digits) || decide (c = 95))
def runLen (l : List Nat) : Nat := (l.takeWhile inRun).length
def bl : Bool → List Nat → Nat
  | _, [] => 0
  | true, c :: r => if c = 10 then 1 + bl false r else 1 + bl true r
  | false, c :: r => if c = 32 ∨ c = 10 then 1 + bl false r else if c = 35 then 1 + bl true r else 0
def isName (l : List Nat) : Bool := (decide (1 ≤ l.length) && decide (l.length ≤ 20)) && (!decide (l ∈ words) && ((match l with | c :: _ => decide (c ∈ letters) | [] => false) && l.all inRun))
def isNumber (l : List Nat) : Bool := decide (l.length ≤ 18) && (l.all (fun c => decide (c ∈ digits)) && (!decide (l.head? = some 48) || decide (l = [48])))
def runKind (l : List Nat) : Option Kd := if l ∈ words then some .word else if isName l then some .name else if isNumber l then some .number else none
def txtLen (r : List Nat) : Nat := (r.takeWhile fun d => !(decide (d = 39) || decide (d = 10))).length
def tokenAt : List Nat → Option Kd × Nat
  | [] => (none, 0)
  | c :: r => if inRun c then (runKind ((c :: r).take (runLen (c :: r))), runLen (c :: r))
    else if c = 39 then (if r[txtLen r]? = some 39 ∧ txtLen r ≤ 40 then some .text else none, txtLen r + 2)
    else if (c :: r).take 2 = [61, 61] ∨ (c :: r).take 2 = [60, 61] then (some .sign, 2)
    else (if c ∈ signs then some .sign else none, 1)
abbrev Tok := Kd × List Nat × Nat
def lexF : Nat → Nat → List Nat → Except Nat (List Tok)
  | 0, _, _ => .ok []
  | n + 1, off, l => match l.drop (bl false l) with
    | [] => .ok []
    | c :: r => match tokenAt (c :: r) with
      | (none, _) => .error (off + bl false l)
      | (some k, m) => (lexF n (off + bl false l + m) ((c :: r).drop m)).map fun ts => (k, (c :: r).take m, off + bl false l) :: ts
theorem bl_le : ∀ (b : Bool) (l : List Nat), bl b l ≤ l.length
  | _, [] => by cases ‹Bool› <;> exact Nat.le_refl 0
  | true, c :: r => by
    show (if c = 10 then 1 + bl false r else 1 + bl true r) ≤ r.length + 1
    have h1 := bl_le false r
    have h2 := bl_le true r
    split <;> omega
  | false, c :: r => by
    show (if c = 32 ∨ c = 10 then 1 + bl false r else if c = 35 then 1 + bl true r else 0) ≤ r.length + 1
    have h1 := bl_le false r
    have h2 := bl_le true r
    split
    · omega
    · split <;> omega
theorem runLen_pos {c : Nat} {r : List Nat} (h : inRun c = true) : runLen (c :: r) = runLen r + 1 := by
  unfold runLen
  rw [List.takeWhile_cons, if_pos h, List.length_cons]
theorem tokenAt_pos (c : Nat) (r : List Nat) : 1 ≤ (tokenAt (c :: r)).2 := by
  show 1 ≤ (if inRun c then (runKind ((c :: r).take (runLen (c :: r))), runLen (c :: r))
    else if c = 39 then (if r[txtLen r]? = some 39 ∧ txtLen r ≤ 40 then some Kd.text else none, txtLen r + 2)
    else if (c :: r).take 2 = [61, 61] ∨ (c :: r).take 2 = [60, 61] then (some Kd.sign, 2)
    else (if c ∈ signs then some Kd.sign else none, 1)).2
  by_cases h : inRun c = true
  · rw [if_pos h]
    show 1 ≤ runLen (c :: r)
    rw [runLen_pos h]; omega
  · rw [if_neg h]
    by_cases h1 : c = 39
    · rw [if_pos h1]
      show 1 ≤ txtLen r + 2
      omega
    · rw [if_neg h1]
      by_cases h2 : (c :: r).take 2 = [61, 61] ∨ (c :: r).take 2 = [60, 61]
      · rw [if_pos h2]; exact Nat.le_succ 1
      · rw [if_neg h2]; exact Nat.le_refl 1
/-- fuel does not matter -/
theorem lexF_fuel : ∀ (n m off : Nat) (l : List Nat), l.length < n → l.length < m → lexF n off l = lexF m off l
  | 0, _, _, l, h, _ => absurd h (Nat.not_lt_zero _)
  | _ + 1, 0, _, l, _, h => absurd h (Nat.not_lt_zero _)
  | n + 1, m + 1, off, l, h1, h2 => by
    unfold lexF
    have hd : (l.drop (bl false l)).length ≤ l.length := by rw [List.length_drop]; omega
    split
    · rfl
    · rename_i c r e
      rw [e] at hd
      split
      · rename_i e2
        rfl
      · rename_i k q e2
        have hp := tokenAt_pos c r
        rw [e2] at hp
        have hq : 1 ≤ q := hp
        have hl : ((c :: r).drop q).length < (c :: r).length := by rw [List.length_drop, List.length_cons]; omega
        rw [lexF_fuel n m (off + bl false l + q) ((c :: r).drop q) (by omega) (by omega)]
/-- a blank -/
def Blank (b : List Nat) : Prop := ∀ r, bl false (b ++ r) = b.length + bl false r
theorem lexF_blank {b : List Nat} (h : Blank b) (n off : Nat) (r : List Nat) : lexF n off (b ++ r) = lexF n (off + b.length) r := by
  cases n with
  | zero => rfl
  | succ n =>
    unfold lexF
    have e : (b ++ r).drop (bl false (b ++ r)) = r.drop (bl false r) := by rw [h r, List.drop_append, List.drop_eq_nil_of_le (by omega), Nat.add_sub_cancel_left]; rfl
    rw [e, h r, Nat.add_assoc]
/-- what must hold between a token and what follows -/
def Bd (tx r : List Nat) : Prop := (∀ c d, tx.getLast? = some c → r.head? = some d → inRun c = true → inRun d = true → False) ∧ ((tx = [61] ∨ tx = [60]) → r.head? ≠ some 61)
structure Good (k : Kd) (tx : List Nat) : Prop where
  sm : ∀ c ∈ tx, c < 1114112
  ne : tx ≠ []
  nb : ∀ r, bl false (tx ++ r) = 0
  at_ : ∀ r, Bd tx r → tokenAt (tx ++ r) = (some k, tx.length)
theorem lexF_good {k : Kd} {tx : List Nat} (g : Good k tx) (n off : Nat) (r : List Nat) (hb : Bd tx r) : lexF (n + 1) off (tx ++ r) = (lexF n (off + tx.length) r).map fun ts => (k, tx, off) :: ts := by
  conv => lhs; unfold lexF
  have e0 := g.nb r
  rw [e0, List.drop_zero]
  obtain ⟨c, t, rfl⟩ : ∃ c t, tx = c :: t := by
    cases tx with
    | nil => exact absurd rfl g.ne
    | cons c t => exact ⟨c, t, rfl⟩
  have e1 := g.at_ r hb
  have e2 : ((c :: t) ++ r) = c :: (t ++ r) := rfl
  rw [e2] at e1 ⊢
  simp only [e1]
  have e3 : (c :: (t ++ r)).drop (c :: t).length = r := by rw [← e2, List.drop_append, Nat.sub_self, List.drop_length]; rfl
  have e4 : (c :: (t ++ r)).take (c :: t).length = c :: t := by rw [← e2, List.take_append, Nat.sub_self, List.take_length]; simp
  rw [e3, e4, Nat.add_zero]
end Lex

set_option linter.all false
set_option maxRecDepth 100000
namespace Lex
theorem map_id' {x : Except Nat (List Tok)} : (x.map fun ts => [] ++ ts) = x := by cases x <;> rfl
theorem map_map' {x : Except Nat (List Tok)} {a : List Tok} {k : Tok} : ((x.map fun ts => k :: ts).map fun ts => a ++ ts) = x.map fun ts => (a ++ [k]) ++ ts := by
  cases x with
  | error e => rfl
  | ok ts => show Except.ok (a ++ (k :: ts)) = Except.ok ((a ++ [k]) ++ ts); simp
/-- T was written, with told in it, last at its end -/
structure Wr (T : List Nat) (told : List Tok) (last : List Nat) : Prop where
  sm : ∀ t ∈ told, ∀ c ∈ t.2.1, c < 1114112
  lex : ∀ (r : List Nat) (n : Nat), (T ++ r).length < n → Bd last r → lexF n 0 (T ++ r) = (lexF n T.length r).map fun ts => told ++ ts
theorem Wr.nil : Wr [] [] [] := .mk (fun _ h => by cases h) fun r n _ _ => by
  show lexF n 0 r = (lexF n 0 r).map fun ts => [] ++ ts
  rw [map_id']
/-- a blank that keeps tokens apart, or none where none is needed -/
theorem Wr.step {T : List Nat} {told : List Tok} {last b tx : List Nat} {k : Kd} (w : Wr T told last) (g : Good k tx) (hb : Blank b) (hq : ∀ r, Bd last (b ++ (tx ++ r))) :
    Wr (T ++ b ++ tx) (told ++ [(k, tx, (T ++ b).length)]) tx := .mk (fun t ht => (List.mem_append.mp ht).elim (w.sm t) fun q => by rw [List.mem_singleton.mp q]; exact g.sm) fun r n hn hbd => by
  have e1 := w.lex (b ++ (tx ++ r)) n (by simpa [List.append_assoc] using hn) (hq r)
  have e2 : T ++ b ++ tx ++ r = T ++ (b ++ (tx ++ r)) := by simp [List.append_assoc]
  rw [e2, e1, lexF_blank hb]
  obtain ⟨m, rfl⟩ : ∃ m, n = m + 1 := ⟨n - 1, by omega⟩
  rw [lexF_good g m (T.length + b.length) r hbd, map_map']
  have hp : 0 < tx.length := by
    cases tx with
    | nil => exact absurd rfl g.ne
    | cons c t => exact Nat.succ_pos _
  simp only [List.length_append] at hn ⊢
  rw [lexF_fuel m (m + 1) _ r (by omega) (by omega)]
/-! ### boundaries -/
theorem bd_nil (r : List Nat) : Bd [] r := ⟨fun c d h => (by cases h), fun h => (by rcases h with h | h <;> cases h)⟩
theorem bd_head {tx r : List Nat} {d : Nat} (h : r.head? = some d) (h1 : inRun d = false) (h2 : d ≠ 61) : Bd tx r :=
  ⟨fun c e _ he _ hd => (by rw [h] at he; cases he; rw [h1] at hd; cases hd), fun _ e => (by rw [h] at e; cases e; exact h2 rfl)⟩
theorem bd_end (tx : List Nat) : Bd tx [] := ⟨fun c d _ h => (by cases h), fun _ h => (by cases h)⟩
theorem bd_app {tx t r : List Nat} (ht : t ≠ []) (h : Bd tx t) : Bd tx (t ++ r) := by
  cases t with
  | nil => exact absurd rfl ht
  | cons c t => exact h
/-! ### good tokens -/
theorem inRun_nb {c : Nat} (h : inRun c = true) : ¬ (c = 32 ∨ c = 10) ∧ c ≠ 35 ∧ c ≠ 39 := by
  refine ⟨fun e => ?_, fun e => ?_, fun e => ?_⟩
  · rcases e with e | e <;> subst e <;> revert h <;> decide
  · subst e; revert h; decide
  · subst e; revert h; decide
theorem bl_zero {c : Nat} {r : List Nat} (h1 : ¬ (c = 32 ∨ c = 10)) (h2 : c ≠ 35) : bl false (c :: r) = 0 := by
  show (if c = 32 ∨ c = 10 then 1 + bl false r else if c = 35 then 1 + bl true r else 0) = 0
  rw [if_neg h1, if_neg h2]
theorem takeWhile_app {p : Nat → Bool} : ∀ {l r : List Nat}, (∀ c ∈ l, p c = true) → (∀ d, r.head? = some d → p d = false) → (l ++ r).takeWhile p = l
  | [], r, _, h => by
    cases r with
    | nil => rfl
    | cons d r => show (d :: r).takeWhile p = []; rw [List.takeWhile_cons, h d rfl]; rfl
  | c :: l, r, hl, h => by
    show (c :: (l ++ r)).takeWhile p = c :: l
    rw [List.takeWhile_cons, if_pos (hl c (by simp)), takeWhile_app (fun d hd => hl d (by simp [hd])) h]
theorem tokenAt_cons (c : Nat) (r : List Nat) : tokenAt (c :: r) = if inRun c then (runKind ((c :: r).take (runLen (c :: r))), runLen (c :: r))
    else if c = 39 then (if r[txtLen r]? = some 39 ∧ txtLen r ≤ 40 then some .text else none, txtLen r + 2)
    else if (c :: r).take 2 = [61, 61] ∨ (c :: r).take 2 = [60, 61] then (some .sign, 2)
    else (if c ∈ signs then some .sign else none, 1) := rfl
theorem inRun_lt {c : Nat} (h : inRun c = true) : c < 1114112 := by
  have h1 : ∀ d ∈ letters, d < 1114112 := by decide
  have h2 : ∀ d ∈ digits, d < 1114112 := by decide
  unfold inRun at h
  rcases Bool.or_eq_true_iff.mp h with h | h
  · exact h1 c (of_decide_eq_true h)
  · rcases Bool.or_eq_true_iff.mp h with h | h
    · exact h2 c (of_decide_eq_true h)
    · rw [of_decide_eq_true h]; decide
theorem good_run {k : Kd} {tx : List Nat} (ne : tx ≠ []) (hr : ∀ c ∈ tx, inRun c = true) (hk : runKind tx = some k) : Good k tx := by
  obtain ⟨c, t, rfl⟩ : ∃ c t, tx = c :: t := by
    cases tx with
    | nil => exact absurd rfl ne
    | cons c t => exact ⟨c, t, rfl⟩
  have hc := hr c (by simp)
  have hn := inRun_nb hc
  refine ⟨fun c hc => inRun_lt (hr c hc), ne, fun r => bl_zero hn.1 hn.2.1, fun r hb => ?_⟩
  have hl : runLen ((c :: t) ++ r) = (c :: t).length := by
    unfold runLen
    rw [takeWhile_app hr fun d hd => ?_]
    have hlast : ∃ z, (c :: t).getLast? = some z := ⟨(c :: t).getLast (by simp), List.getLast?_eq_getLast (by simp)⟩
    obtain ⟨z, hz⟩ := hlast
    cases q : inRun d with
    | false => rfl
    | true => exact absurd (hb.1 z d hz hd (hr z (List.mem_of_getLast? hz)) q) id
  show tokenAt (c :: (t ++ r)) = _
  rw [tokenAt_cons, if_pos hc]
  show (runKind (((c :: t) ++ r).take (runLen ((c :: t) ++ r))), runLen ((c :: t) ++ r)) = _
  rw [hl, List.take_append, Nat.sub_self, List.take_length]
  simp [hk]
theorem good_text {w : List Nat} (h : ∀ c ∈ w, c ≠ 39 ∧ c ≠ 10 ∧ c < 1114112) (hl : w.length ≤ 40) : Good .text (39 :: (w ++ [39])) := by
  refine ⟨fun c hc => ?_, by simp, fun r => bl_zero (by decide) (by decide), fun r _ => ?_⟩
  · rcases List.mem_cons.mp hc with rfl | hc
    · decide
    · rcases List.mem_append.mp hc with hc | hc
      · exact (h c hc).2.2
      · rw [List.mem_singleton.mp hc]; decide
  have ht : txtLen (w ++ [39] ++ r) = w.length := by
    unfold txtLen
    rw [List.append_assoc, takeWhile_app (fun c hc => ?_) fun d hd => ?_]
    · have := h c hc
      simp [this.1, this.2.1]
    · cases hd
      decide
  have hg : (w ++ [39] ++ r)[w.length]? = some 39 := by rw [List.append_assoc, List.getElem?_append_right (Nat.le_refl _), Nat.sub_self]; rfl
  show tokenAt (39 :: (w ++ [39] ++ r)) = _
  rw [tokenAt_cons, if_neg (by decide), if_pos rfl, ht, if_pos ⟨hg, hl⟩]
  simp
def signTexts : List (List Nat) := [[40], [41], [91], [93], [123], [125], [44], [59], [58], [46], [61], [61, 61], [60], [60, 61], [43], [45], [42]]
theorem tokenAt_sign1 {c : Nat} {r : List Nat} (h1 : inRun c = false) (h2 : c ≠ 39) (h3 : c ∈ signs) (h4 : (c = 61 ∨ c = 60) → r.head? ≠ some 61) : tokenAt (c :: r) = (some .sign, 1) := by
  rw [tokenAt_cons, h1, if_neg Bool.false_ne_true, if_neg h2, if_neg, if_pos h3]
  intro q
  have hh : (c = 61 ∨ c = 60) ∧ r.head? = some 61 := by
    cases r with
    | nil => rcases q with q | q <;> simp at q
    | cons d r =>
      rcases q with q | q
      · have q' : [c, d] = [61, 61] := by simpa using q
        simp at q'
        exact ⟨.inl q'.1, by rw [q'.2]; rfl⟩
      · have q' : [c, d] = [60, 61] := by simpa using q
        simp at q'
        exact ⟨.inr q'.1, by rw [q'.2]; rfl⟩
  exact h4 hh.1 hh.2
theorem good_sign {tx : List Nat} (h : tx ∈ signTexts) : Good .sign tx := by
  have one : ∀ c : Nat, inRun c = false → c ≠ 39 → c ∈ signs → ¬ (c = 32 ∨ c = 10) → c ≠ 35 → Good .sign [c] := fun c h1 h2 h3 h4 h5 =>
    ⟨fun d hd => by rw [List.mem_singleton.mp hd]; exact (by decide : ∀ e ∈ signs, e < 1114112) c h3, by simp, fun r => bl_zero h4 h5, fun r hb => tokenAt_sign1 h1 h2 h3 fun q => hb.2 (by rcases q with q | q <;> simp [q])⟩
  simp only [signTexts, List.mem_cons, List.not_mem_nil, or_false] at h
  rcases h with rfl | rfl | rfl | rfl | rfl | rfl | rfl | rfl | rfl | rfl | rfl | rfl | rfl | rfl | rfl | rfl | rfl
  · exact one _ (by decide) (by decide) (by decide) (by decide) (by decide)
  · exact one _ (by decide) (by decide) (by decide) (by decide) (by decide)
  · exact one _ (by decide) (by decide) (by decide) (by decide) (by decide)
  · exact one _ (by decide) (by decide) (by decide) (by decide) (by decide)
  · exact one _ (by decide) (by decide) (by decide) (by decide) (by decide)
  · exact one _ (by decide) (by decide) (by decide) (by decide) (by decide)
  · exact one _ (by decide) (by decide) (by decide) (by decide) (by decide)
  · exact one _ (by decide) (by decide) (by decide) (by decide) (by decide)
  · exact one _ (by decide) (by decide) (by decide) (by decide) (by decide)
  · exact one _ (by decide) (by decide) (by decide) (by decide) (by decide)
  · exact one _ (by decide) (by decide) (by decide) (by decide) (by decide)
  · exact ⟨by decide, by simp, fun r => bl_zero (by decide) (by decide), fun r _ => rfl⟩
  · exact one _ (by decide) (by decide) (by decide) (by decide) (by decide)
  · exact ⟨by decide, by simp, fun r => bl_zero (by decide) (by decide), fun r _ => rfl⟩
  · exact one _ (by decide) (by decide) (by decide) (by decide) (by decide)
  · exact one _ (by decide) (by decide) (by decide) (by decide) (by decide)
  · exact one _ (by decide) (by decide) (by decide) (by decide) (by decide)
/-- the law's names: x or q, then at most 18 of abz9_ -/
theorem good_name {c : Nat} {t : List Nat} (hc : c = 120 ∨ c = 113) (ht : ∀ d ∈ t, d ∈ [97, 98, 122, 57, 95]) (hl : t.length ≤ 18) : Good .name (c :: t) := by
  have hr : ∀ d ∈ c :: t, inRun d = true := fun d hd => by
    rcases List.mem_cons.mp hd with rfl | hd
    · rcases hc with rfl | rfl <;> decide
    · have h := ht d hd
      simp only [List.mem_cons, List.not_mem_nil, or_false] at h
      rcases h with rfl | rfl | rfl | rfl | rfl <;> decide
  have hw : ¬ (c :: t) ∈ words := fun h => by
    have key : ∀ w ∈ words, w.head? ≠ some 120 ∧ w.head? ≠ some 113 := by decide
    have k := key _ h
    rcases hc with rfl | rfl
    · exact k.1 rfl
    · exact k.2 rfl
  have hcl : c ∈ letters := by rcases hc with rfl | rfl <;> decide
  refine good_run (by simp) hr ?_
  unfold runKind
  have hn : isName (c :: t) = true := by
    unfold isName
    have ha : (c :: t).all inRun = true := List.all_eq_true.mpr hr
    rw [ha, decide_eq_false hw]
    simp [hcl]
    omega
  rw [if_neg hw, if_pos hn]
/-! ### refused pieces -/
theorem lexF_wrong {n off : Nat} {l : List Nat} {c : Nat} {r : List Nat} (h : l.drop (bl false l) = c :: r) (hk : (tokenAt (c :: r)).1 = none) : lexF (n + 1) off l = .error (off + bl false l) := by
  unfold lexF
  rw [h]
  cases e : tokenAt (c :: r) with
  | mk a b => rw [e] at hk; simp only at hk; subst hk; simp only [e]
theorem lexF_end {n off : Nat} {l : List Nat} (h : l.drop (bl false l) = []) : lexF n off l = .ok [] := by
  cases n with
  | zero => rfl
  | succ n => unfold lexF; rw [h]
end Lex

set_option linter.all false
set_option maxRecDepth 100000
namespace Lex
def blanks : List (List Nat) := [[], [32], [10], [32, 32, 32], [35, 32, 97, 32, 39, 98, 10], [32, 35, 32, 105, 102, 32, 120, 10, 32, 32], [35, 10, 10]]
theorem bl_f1 {c : Nat} {r : List Nat} (h : c = 32 ∨ c = 10) : bl false (c :: r) = 1 + bl false r := by
  show (if c = 32 ∨ c = 10 then 1 + bl false r else if c = 35 then 1 + bl true r else 0) = _
  rw [if_pos h]
theorem bl_f2 {r : List Nat} : bl false (35 :: r) = 1 + bl true r := rfl
theorem bl_t1 {c : Nat} {r : List Nat} (h : c ≠ 10) : bl true (c :: r) = 1 + bl true r := by
  show (if c = 10 then 1 + bl false r else 1 + bl true r) = _
  rw [if_neg h]
theorem bl_t2 {r : List Nat} : bl true (10 :: r) = 1 + bl false r := rfl
theorem blank_of {b : List Nat} (h : b ∈ blanks) : Blank b := by
  simp only [blanks, List.mem_cons, List.not_mem_nil, or_false] at h
  intro r
  rcases h with rfl | rfl | rfl | rfl | rfl | rfl | rfl <;> simp [bl, List.cons_append, List.nil_append] <;> omega
theorem blank_head {b : List Nat} (h : b ∈ blanks) (hn : b ≠ []) : ∃ d, b.head? = some d ∧ inRun d = false ∧ d ≠ 61 := by
  simp only [blanks, List.mem_cons, List.not_mem_nil, or_false] at h
  rcases h with rfl | rfl | rfl | rfl | rfl | rfl | rfl
  · exact absurd rfl hn
  all_goals exact ⟨_, rfl, by decide, by decide⟩
theorem blank_len {b : List Nat} (h : b ∈ blanks) : b.length ≤ 10 := by
  simp only [blanks, List.mem_cons, List.not_mem_nil, or_false] at h
  rcases h with rfl | rfl | rfl | rfl | rfl | rfl | rfl <;> decide
theorem bd_blank {b tx r : List Nat} (h : b ∈ blanks) (hn : b ≠ []) : Bd tx (b ++ r) := by
  obtain ⟨d, h1, h2, h3⟩ := blank_head h hn
  refine bd_head (d := d) ?_ h2 h3
  cases b with
  | nil => exact absurd rfl hn
  | cons c b => exact h1
def wordMenu : List (List Nat) := [105, 109, 112, 111, 114, 116] :: ["as", "nonlocal", "fn", "none", "or", "continue", "def"].map cp
theorem good_word {tx : List Nat} (h : tx ∈ wordMenu) : Good .word tx ∧ tx.length ≤ 42 := by
  have hk : ∀ t ∈ wordMenu, runKind t = some .word ∧ t ≠ [] ∧ t.length ≤ 42 ∧ t.all inRun = true := by decide
  obtain ⟨h1, h2, h3, h4⟩ := hk tx h
  exact ⟨good_run h2 (List.all_eq_true.mp h4) h1, h3⟩
def numberMenu : List (List Nat) := [[48], [55], [49, 48], List.replicate 18 57, 49 :: List.replicate 17 48]
theorem good_number {tx : List Nat} (h : tx ∈ numberMenu) : Good .number tx ∧ tx.length ≤ 42 := by
  have hk : ∀ t ∈ numberMenu, runKind t = some .number ∧ t ≠ [] ∧ t.length ≤ 42 ∧ t.all inRun = true := by decide
  obtain ⟨h1, h2, h3, h4⟩ := hk tx h
  exact ⟨good_run h2 (List.all_eq_true.mp h4) h1, h3⟩
theorem sign_len {tx : List Nat} (h : tx ∈ signTexts) : tx.length ≤ 42 := by
  have hk : ∀ t ∈ signTexts, t.length ≤ 42 := by decide
  exact hk tx h
/-! ### pieces that are refused -/
def wrongs : List (List Nat) := [[65], [36], [39, 97], 39 :: (List.replicate 41 97 ++ [39]), List.replicate 19 57, [48, 49], [49, 97], [95, 97], List.replicate 21 97, [33], [9], [39, 97, 10, 39], [34]]
def drops : List Nat → List Nat := fun l => l.drop (bl false l)
theorem wrong_at {wr t : List Nat} (h : wr ∈ wrongs) (ht : t = [] ∨ t = [32]) (n off : Nat) : lexF (n + 1) off (10 :: (wr ++ t)) = .error (off + 1) := by
  have hk : ∀ x ∈ wrongs, ∀ t ∈ [[], [32]], bl false (10 :: (x ++ t)) = 1 ∧ (x ++ t) ≠ [] ∧ (tokenAt (x ++ t)).1 = none := by decide
  obtain ⟨h1, h2, h3⟩ := hk wr h t (by rcases ht with rfl | rfl <;> simp)
  obtain ⟨c, r, e⟩ : ∃ c r, wr ++ t = c :: r := by
    cases q : wr ++ t with
    | nil => exact absurd q h2
    | cons c r => exact ⟨c, r, rfl⟩
  have := lexF_wrong (n := n) (off := off) (l := 10 :: (wr ++ t)) (c := c) (r := r) (by rw [h1, e]; rfl) (by rw [← e]; exact h3)
  rw [this, h1]
theorem Wr.told {T : List Nat} {told : List Tok} {last : List Nat} (w : Wr T told last) : lexF (T.length + 1) 0 T = .ok told := by
  have h := w.lex [] (T.length + 1) (by simp) (bd_end _)
  rw [List.append_nil, lexF_end (l := []) rfl] at h
  rw [h]
  show Except.ok (told ++ []) = _
  rw [List.append_nil]
def endMark : List Nat := [10, 35, 32, 101, 110, 100]
theorem Wr.ended {T : List Nat} {told : List Tok} {last : List Nat} (w : Wr T told last) : lexF ((T ++ endMark).length + 1) 0 (T ++ endMark) = .ok told := by
  have h := w.lex endMark ((T ++ endMark).length + 1) (by simp) (bd_head (d := 10) rfl (by decide) (by decide))
  rw [lexF_end (l := endMark) (by decide)] at h
  rw [h]
  show Except.ok (told ++ []) = _
  rw [List.append_nil]
theorem Wr.wrong {T : List Nat} {told : List Tok} {last wr t : List Nat} (w : Wr T told last) (h : wr ∈ wrongs) (ht : t = [] ∨ t = [32]) : lexF ((T ++ 10 :: (wr ++ t)).length + 1) 0 (T ++ 10 :: (wr ++ t)) = .error (T.length + 1) := by
  have h1 := w.lex (10 :: (wr ++ t)) ((T ++ 10 :: (wr ++ t)).length + 1) (Nat.lt_succ_self _) (bd_head (d := 10) rfl (by decide) (by decide))
  rw [h1, wrong_at h ht]
  rfl
/-! ### last texts -/
theorem bl_spaces : ∀ n : Nat, bl false (List.replicate n 32) = n
  | 0 => rfl
  | n + 1 => by
    rw [List.replicate_succ, bl_f1 (.inl rfl), bl_spaces n]
    omega
theorem lex_a_blanks (n m : Nat) : lexF (n + 1) 0 (97 :: List.replicate m 32) = .ok [(.name, [97], 0)] := by
  have g : Good .name [97] := good_run (by simp) (by decide) (by decide)
  have h := lexF_good g n 0 (List.replicate m 32) (by
    cases m with
    | zero => exact bd_end _
    | succ m => exact bd_head (d := 32) rfl (by decide) (by decide))
  have e : [97] ++ List.replicate m 32 = 97 :: List.replicate m 32 := rfl
  rw [e, lexF_end (l := List.replicate m 32) (by rw [bl_spaces]; simp)] at h
  rw [h]
  rfl
theorem lex_four : lexF 6 0 (cp "a<==b") = .ok [(.name, [97], 0), (.sign, [60, 61], 1), (.sign, [61], 3), (.name, [98], 4)] := by rfl
theorem flat1 (n c : Nat) : (List.replicate n [c]).flatten = List.replicate n c := by
  induction n with
  | zero => rfl
  | succ n ih => rw [List.replicate_succ, List.flatten_cons, ih, List.replicate_succ]; rfl
end Lex

set_option Elab.async false
set_option linter.all false
set_option maxRecDepth 100000
set_option maxHeartbeats 4000000
/-! What the laws share: draws, heaps that only grow. -/
namespace L2
open PySem PySem.Spec PyProof.Rows
/-- the pool of draws at p: two numbers -/
def PoolAt (H : Hp) (p : Addr) : Prop := ∃ a b : Int, H p = some (.lst [.int a, .int b]) ∧ 0 ≤ a ∧ 0 ≤ b ∧ b < 2147483647
/-- a draw: any number below n -/
def spTake : Sp := fun vs H Q _ => ∃ (p : Addr) (n : Int), vs = [.ref p, .int n] ∧ PoolAt H p ∧ 0 < n ∧ n < 1000000 ∧
  ∀ (r : Int) (o : HO), 0 ≤ r → r < n → PoolAt (upd H p o) p → (∃ a b, o = .lst [.int a, .int b]) → Q (.int r) (upd H p o)
/-- a new pool -/
def spPool (K : PySem.W.Frag) : Sp := fun vs H Q _ => ∃ (a : Addr) (k : Int) (ns : List Int), vs = [.ref a, .int k] ∧ SqL K H a (ns.map V.int) ∧ 0 ≤ k ∧ k < 100 ∧
  ∀ (p : Addr) (x y : Int), H p = none → PoolAt (upd H p (.lst [.int x, .int y])) p → Q (.ref p) (upd H p (.lst [.int x, .int y]))
theorem b01 (b : Bool) : -(2 ^ 64) < (if b = true then (1 : Int) else 0) ∧ (if b = true then (1 : Int) else 0) < 2 ^ 64 := by cases b <;> decide
theorem b0 (b : Bool) : 0 ≤ (if b = true then (1 : Int) else 0) := by cases b <;> decide
theorem ints_at {ns : List Int} {k : Int} (h0 : 0 ≤ k) (h : k < (ns.length : Int)) : ∃ c : Int, atI (ns.map V.int) k = some (.int c) := by
  obtain ⟨n, rfl⟩ := Int.eq_ofNat_of_zero_le h0
  have hn : n < ns.length := by omega
  refine ⟨ns[n], ?_⟩
  refine atI_nat ?_
  rw [List.getElem?_map, List.getElem?_eq_getElem hn]
  rfl
theorem yes_if {σ : St} {H : Hp} {A B : Hp → Prop} (h : A H) : tYes σ H fun b H3 => if b = true then A H3 else B H3 := by
  show (if true = true then A H else B H)
  exact iteT h
theorem same_new {H : Hp} {p : Addr} {o : HO} (h : H p = none) : Same H (upd H p o) := fun b u e => by rw [upd_ne (ne_of_none e h)]; exact e
theorem same_exv {H : Hp} {a d C : Addr} {fl : List (Str × V)} (ha : H a = none) (hd : H d = none) : Same H (upd (upd H d (exd d fl)) a (exo a C (some d))) := fun b u e => by
  rw [upd_ne (ne_of_none e ha), upd_ne (ne_of_none e hd)]; exact e
/-- an own error at a, its dict at d -/
def Er (H : Hp) (a d C : Addr) (fl : List (Str × V)) : Prop := H a = some (exo a C (some d)) ∧ H d = some (exd d fl)
theorem Er.mono {H H' : Hp} {a d C : Addr} {fl : List (Str × V)} (h : Er H a d C fl) (S : Same H H') : Er H' a d C fl := ⟨S _ _ h.1, S _ _ h.2⟩
theorem er_new {H : Hp} {a d C : Addr} {fl : List (Str × V)} (hn : a ≠ d) : Er (upd (upd H d (exd d fl)) a (exo a C (some d))) a d C fl := ⟨upd_same, by rw [upd_ne (Ne.symm hn), upd_same]⟩
/-- all but the object at p stands -/
def Keep (p : Addr) (H H' : Hp) : Prop := ∀ b o, b ≠ p → H b = some o → H' b = some o
theorem Keep.of {p : Addr} {H H' : Hp} (S : Same H H') : Keep p H H' := fun b o _ e => S b o e
theorem Keep.trans {p : Addr} {H H1 H2 : Hp} (a : Keep p H H1) (b : Keep p H1 H2) : Keep p H H2 := fun c o n e => b c o n (a c o n e)
theorem keep_upd {p : Addr} {H : Hp} {o : HO} : Keep p H (upd H p o) := fun b u n e => by rw [upd_ne n]; exact e
theorem Keep.new {p : Addr} {H0 H H' : Hp} (k : Keep p H H') (h0 : H0 p = none) (S : Same H0 H) : Same H0 H' := fun b o e => k b o (ne_of_none e h0) (S b o e)
end L2

set_option Elab.async false
set_option linter.all false
set_option maxRecDepth 100000
set_option maxHeartbeats 4000000
/-! Texts as lists of code points; a few rules more. -/
namespace L2
open PySem PySem.Spec PyProof.Rows
/-- the text of these code points -/
def S (l : List Nat) : Str := ⟨l.toArray⟩
theorem S_list (l : List Nat) : (S l).cps.toList = l := by simp [S]
theorem S_len (l : List Nat) : (S l).length = l.length := by simp [S, Str.length]
theorem S_of (x : Str) : S x.cps.toList = x := by simp [S]
theorem S_inj {a b : List Nat} (h : S a = S b) : a = b := by rw [← S_list a, h, S_list]
theorem S_append (a b : List Nat) : S a ++ S b = S (a ++ b) := by
  show Str.mk (_ ++ _) = S (a ++ b)
  simp [S]
section
variable {X : Cx}
theorem pe_gi {x : Str} {i : Int} {pos : Pos} (hg : Gl X x) (hm : ∃ t, X.mg x = some (.int i t)) (hd : (x == ("__debug__" : Str)) = false := by decide) : PE X (.Name x pos) (tC (.int i)) := by
  obtain ⟨t, hm⟩ := hm
  exact pe_glob hg hm ⟨_, rfl⟩ hd
theorem pe_gs {x z : Str} {pos : Pos} (hg : Gl X x) (hm : ∃ t, X.mg x = some (.str z t)) (hd : (x == ("__debug__" : Str)) = false := by decide) : PE X (.Name x pos) (tC (.str z)) := by
  obtain ⟨t, hm⟩ := hm
  exact pe_glob hg hm ⟨_, rfl⟩ hd
/-- a text times a number -/
def rRepS : R2 := fun x y H Q => ∃ (z : Str) (n : Int), x = .str z ∧ y = .int n ∧ 1 ≤ n ∧ n ≤ 100000 ∧ z.length ≤ 100 ∧ Q (.str (S (List.replicate n.toNat z.cps.toList).flatten)) H
theorem foldl_app : ∀ (l : List (Array Nat)) (acc : Array Nat), (l.foldl (· ++ ·) acc).toList = acc.toList ++ (l.map (·.toList)).flatten
  | [], acc => by simp
  | a :: l, acc => by
    rw [List.foldl_cons, foldl_app l (acc ++ a)]
    simp
theorem str_ext {a b : Str} (h : a.cps.toList = b.cps.toList) : a = b := by rw [← S_of a, ← S_of b, h]
theorem mul_eq {z : Str} {n : Int} (h1 : 1 ≤ n) : Txt.mul z n = S (List.replicate n.toNat z.cps.toList).flatten := by
  unfold Txt.mul
  rw [if_neg (by omega)]
  by_cases h2 : (n == 1 || z.length == 0) = true
  · rw [if_pos h2]
    apply str_ext
    rw [S_list]
    rcases Bool.or_eq_true_iff.mp h2 with h | h
    · have : n = 1 := by simpa using h
      subst this
      simp
    · have hz : z.cps.toList = [] := by
        have : z.cps.size = 0 := by simpa [Str.length] using h
        apply List.eq_nil_of_length_eq_zero
        rw [Array.length_toList]; exact this
      rw [hz]
      simp
  · rw [if_neg h2]
    apply str_ext
    rw [S_list]
    show ((List.replicate n.toNat z.cps).foldl (· ++ ·) #[]).toList = _
    rw [foldl_app]
    simp
theorem op_rep_str : OpR X (binaryOp .Mult) rRepS := by
  intro pins s σ H x y v u Q I rx ry h
  obtain ⟨z, n, rfl, rfl, h1, h2, h3, q⟩ := h
  obtain ⟨t, rfl⟩ := rx
  obtain ⟨t', rfl⟩ := ry
  refine PySem.SB.mul ⟨?_, fun _ _ => ?_, fun _ _ => ?_⟩ fun tk k => ⟨.str _, H, I.tok _, ⟨_, by rw [mul_eq h1]⟩, q⟩
  · have a : ¬ n < -(2 ^ 63) := by omega
    have b : ¬ n ≥ 2 ^ 63 := by omega
    rw [decide_eq_false a, decide_eq_false b]; rfl
  · have : (100 : Int) ≤ (2 ^ 63 - 1) / n := by
      refine (Int.le_ediv_iff_mul_le (by omega)).mpr ?_
      omega
    omega
  · have : z.length * n.toNat ≤ 100 * 100000 := Nat.mul_le_mul h3 (by omega)
    show decide (_ > sizeLine) = false
    rw [sizeLine_eq]
    exact decide_eq_false (by omega)
/-- repr of a number, of None -/
def rReprF : List V → Hp → VK → Prop := fun xs H Q => (∃ i : Int, xs = [.int i] ∧ i.natAbs.log2 < 1920 ∧ Q (.str (toString i)) H) ∨ (xs = [.non] ∧ Q (.str "None") H)
theorem call_reprF : CallR X (.builtin "repr") rReprF := by
  intro pins s σ H xs us Q I r h
  rcases h with ⟨i, rfl, hz, q⟩ | ⟨rfl, q⟩
  · obtain ⟨u, rfl, t, rfl⟩ := vals1 r
    exact PySem.P.repr_of_int hz ⟨.str _, H, I.tok _, ⟨_, rfl⟩, q⟩
  · obtain ⟨u, rfl, rfl⟩ := vals1 r
    exact PySem.P.repr_of_none ⟨.str _, H, I.tok _, ⟨_, rfl⟩, q⟩
end
end L2

set_option Elab.async false
set_option linter.all false
set_option maxRecDepth 100000
set_option maxHeartbeats 0
namespace K10
open PySem PySem.Spec PyProof.Rows L2 He KH PySem.KX
open PySem.W (Frag)
abbrev P : Program := PySem.Challenge.pw_keptbindings_k10_tokens
def top (i : Nat) : Stmt := P.main.body.getD i (.Pass ⟨0, 0, 0, 0⟩)
abbrev s_is_in_run : Stmt := top 12
abbrev s_is_name : Stmt := top 13
abbrev s_run_end : Stmt := top 14
abbrev s_blank_end : Stmt := top 15
abbrev s_run_kind : Stmt := top 16
abbrev s_token_at : Stmt := top 17
abbrev s_tokens : Stmt := top 18
abbrev s__law_pool : Stmt := top 20
abbrev s__law_take : Stmt := top 21
abbrev s__law_token : Stmt := top 22
abbrev s__law_blank : Stmt := top 23
abbrev s__law_must : Stmt := top 24
abbrev s__law_written : Stmt := top 25
abbrev s__law_at : Stmt := top 26
abbrev s_law : Stmt := top 27
abbrev i_BadText : Stmt := inClass (top 2) 0
def d_is_in_run : DefD := ⟨("is_in_run", none), "is_in_run", "is_in_run", defArgs s_is_in_run, defBody s_is_in_run, defScope s_is_in_run, [], []⟩
def d_is_name : DefD := ⟨("is_name", none), "is_name", "is_name", defArgs s_is_name, defBody s_is_name, defScope s_is_name, [], []⟩
def d_run_end : DefD := ⟨("run_end", none), "run_end", "run_end", defArgs s_run_end, defBody s_run_end, defScope s_run_end, [], []⟩
def d_blank_end : DefD := ⟨("blank_end", none), "blank_end", "blank_end", defArgs s_blank_end, defBody s_blank_end, defScope s_blank_end, [], []⟩
def d_run_kind : DefD := ⟨("run_kind", none), "run_kind", "run_kind", defArgs s_run_kind, defBody s_run_kind, defScope s_run_kind, [], []⟩
def d_token_at : DefD := ⟨("token_at", none), "token_at", "token_at", defArgs s_token_at, defBody s_token_at, defScope s_token_at, [], []⟩
def d_tokens : DefD := ⟨("tokens", none), "tokens", "tokens", defArgs s_tokens, defBody s_tokens, defScope s_tokens, [], []⟩
def d__law_pool : DefD := ⟨("_law_pool", none), "_law_pool", "_law_pool", defArgs s__law_pool, defBody s__law_pool, defScope s__law_pool, [], []⟩
def d__law_take : DefD := ⟨("_law_take", none), "_law_take", "_law_take", defArgs s__law_take, defBody s__law_take, defScope s__law_take, [], []⟩
def d__law_token : DefD := ⟨("_law_token", none), "_law_token", "_law_token", defArgs s__law_token, defBody s__law_token, defScope s__law_token, [], []⟩
def d__law_blank : DefD := ⟨("_law_blank", none), "_law_blank", "_law_blank", defArgs s__law_blank, defBody s__law_blank, defScope s__law_blank, [], []⟩
def d__law_must : DefD := ⟨("_law_must", none), "_law_must", "_law_must", defArgs s__law_must, defBody s__law_must, defScope s__law_must, [], []⟩
def d__law_written : DefD := ⟨("_law_written", none), "_law_written", "_law_written", defArgs s__law_written, defBody s__law_written, defScope s__law_written, [], []⟩
def d__law_at : DefD := ⟨("_law_at", none), "_law_at", "_law_at", defArgs s__law_at, defBody s__law_at, defScope s__law_at, [], []⟩
def d_law : DefD := ⟨("law", none), "law", "law", defArgs s_law, defBody s_law, defScope s_law, [], []⟩
def frees : List Str := ["ValueError", "abs", "range", "all", "len", "max", "isinstance", "str", "int", "repr", "min", "super"]
def globs : List Str := ["is_in_run", "is_name", "run_end", "blank_end", "run_kind", "token_at", "tokens", "_law_pool", "_law_take", "_law_token", "_law_blank", "_law_must", "_law_written", "_law_at", "law", "BadText", "WORDS"]
def need : Need where
  facts := [fun K => frees.all fun x => (Fa.free x).ok K,
    fun K => globs.all fun x => (Fa.glo x).ok K,
    fun K => (Fa.str "LETTERS" "abcdefghijklmnopqrstuvwxyz").ok K,
    fun K => (Fa.str "DIGITS" "0123456789").ok K,
    fun K => (Fa.str "SIGNS" "()[]{},;:.=<+-*").ok K,
    fun K => (Fa.int "MOST_SIGNS" (5000)).ok K,
    fun K => (Fa.int "MOST_IN_NAME" (20)).ok K,
    fun K => (Fa.int "MOST_DIGITS" (18)).ok K,
    fun K => (Fa.int "MOST_IN_TEXT" (40)).ok K,
    fun K => lstB K "WORDS" [.str ⟨#[105, 109, 112, 111, 114, 116]⟩, .str "from", .str "as", .str "def", .str "class", .str "global", .str "nonlocal", .str "if", .str "else", .str "while", .str "for", .str "in", .str "return", .str "break", .str "continue", .str "pass", .str "and", .str "or", .str "not", .str "fn", .str "none", .str "true", .str "false"],
    exB P "BadText" ["at"],
    fun K => decide (PySem.W.typeIn K (.ref sysModules) = some (.type "dict"))]
  defs := [d_is_in_run, d_is_name, d_run_end, d_blank_end, d_run_kind, d_token_at, d_tokens, d__law_pool, d__law_take, d__law_token, d__law_blank, d__law_must, d__law_written, d__law_at, d_law]
  inits := [("BadText", i_BadText)]
abbrev R : PySem.W.OpenRow := PySem.W.OpenLaw.row PySem.Challenge.rw_keptbindings_k10_tokens
abbrev hk : PySem.W.Hook := hookX 5 need
def ob (s : PySem.W.SharedT) : AlX := obsXG 5 need (HandSHeadRun.getT s)
theorem ob_eq (s : PySem.W.SharedT) : ob s = hk.obs s.abs := obsXG_eq (HandSHeadRun.getT_eq s)
abbrev loose : List Str := (["__name__", "KeptError", "BadText", "LETTERS", "DIGITS", "WORDS", "SIGNS", "MOST_SIGNS", "MOST_IN_NAME", "MOST_DIGITS", "MOST_IN_TEXT", "is_in_run", "is_name", "run_end", "blank_end", "run_kind", "token_at", "tokens", "_law_pool", "_law_take", "_law_token", "_law_blank", "_law_must", "_law_written", "_law_at"] : List Str)
theorem run (w : World) : HandSHeadRun.RunEq R (PySem.W.view R.prog [27]) hk ob 4000 loose w := by
  intro os
  kernel_rfl
/-- what the top has, by names -/
structure Txt (K : Frag) (mg : Str → Option Value) : Prop where
  n_ValueError : mg "ValueError" = none
  n_abs : mg "abs" = none
  n_range : mg "range" = none
  n_all : mg "all" = none
  n_len : mg "len" = none
  n_max : mg "max" = none
  n_isinstance : mg "isinstance" = none
  n_str : mg "str" = none
  n_int : mg "int" = none
  n_repr : mg "repr" = none
  n_min : mg "min" = none
  n_super : mg "super" = none
  g_is_in_run : mg "is_in_run" = some (.ref (ga K "is_in_run"))
  g_is_name : mg "is_name" = some (.ref (ga K "is_name"))
  g_run_end : mg "run_end" = some (.ref (ga K "run_end"))
  g_blank_end : mg "blank_end" = some (.ref (ga K "blank_end"))
  g_run_kind : mg "run_kind" = some (.ref (ga K "run_kind"))
  g_token_at : mg "token_at" = some (.ref (ga K "token_at"))
  g_tokens : mg "tokens" = some (.ref (ga K "tokens"))
  g__law_pool : mg "_law_pool" = some (.ref (ga K "_law_pool"))
  g__law_take : mg "_law_take" = some (.ref (ga K "_law_take"))
  g__law_token : mg "_law_token" = some (.ref (ga K "_law_token"))
  g__law_blank : mg "_law_blank" = some (.ref (ga K "_law_blank"))
  g__law_must : mg "_law_must" = some (.ref (ga K "_law_must"))
  g__law_written : mg "_law_written" = some (.ref (ga K "_law_written"))
  g__law_at : mg "_law_at" = some (.ref (ga K "_law_at"))
  g_law : mg "law" = some (.ref (ga K "law"))
  g_BadText : mg "BadText" = some (.ref (ga K "BadText"))
  g_WORDS : mg "WORDS" = some (.ref (ga K "WORDS"))
  c_LETTERS : ∃ t, mg "LETTERS" = some (.str "abcdefghijklmnopqrstuvwxyz" t)
  c_DIGITS : ∃ t, mg "DIGITS" = some (.str "0123456789" t)
  c_SIGNS : ∃ t, mg "SIGNS" = some (.str "()[]{},;:.=<+-*" t)
  c_MOST_SIGNS : ∃ t, mg "MOST_SIGNS" = some (.int (5000) t)
  c_MOST_IN_NAME : ∃ t, mg "MOST_IN_NAME" = some (.int (20) t)
  c_MOST_DIGITS : ∃ t, mg "MOST_DIGITS" = some (.int (18) t)
  c_MOST_IN_TEXT : ∃ t, mg "MOST_IN_TEXT" = some (.int (40) t)
  l_WORDS : ∀ H : Hp, SqL K H (ga K "WORDS") [V.str ⟨#[105, 109, 112, 111, 114, 116]⟩, V.str "from", V.str "as", V.str "def", V.str "class", V.str "global", V.str "nonlocal", V.str "if", V.str "else", V.str "while", V.str "for", V.str "in", V.str "return", V.str "break", V.str "continue", V.str "pass", V.str "and", V.str "or", V.str "not", V.str "fn", V.str "none", V.str "true", V.str "false"]
  x_BadText : ExTxt P K (ga K "BadText") (iAd K "BadText") i_BadText ["at"]
  f_is_in_run : ∃ fd, Fun K "is_in_run" "is_in_run" s_is_in_run (ga K "is_in_run") fd
  f_is_name : ∃ fd, Fun K "is_name" "is_name" s_is_name (ga K "is_name") fd
  f_run_end : ∃ fd, Fun K "run_end" "run_end" s_run_end (ga K "run_end") fd
  f_blank_end : ∃ fd, Fun K "blank_end" "blank_end" s_blank_end (ga K "blank_end") fd
  f_run_kind : ∃ fd, Fun K "run_kind" "run_kind" s_run_kind (ga K "run_kind") fd
  f_token_at : ∃ fd, Fun K "token_at" "token_at" s_token_at (ga K "token_at") fd
  f_tokens : ∃ fd, Fun K "tokens" "tokens" s_tokens (ga K "tokens") fd
  f__law_pool : ∃ fd, Fun K "_law_pool" "_law_pool" s__law_pool (ga K "_law_pool") fd
  f__law_take : ∃ fd, Fun K "_law_take" "_law_take" s__law_take (ga K "_law_take") fd
  f__law_token : ∃ fd, Fun K "_law_token" "_law_token" s__law_token (ga K "_law_token") fd
  f__law_blank : ∃ fd, Fun K "_law_blank" "_law_blank" s__law_blank (ga K "_law_blank") fd
  f__law_must : ∃ fd, Fun K "_law_must" "_law_must" s__law_must (ga K "_law_must") fd
  f__law_written : ∃ fd, Fun K "_law_written" "_law_written" s__law_written (ga K "_law_written") fd
  f__law_at : ∃ fd, Fun K "_law_at" "_law_at" s__law_at (ga K "_law_at") fd
  f_law : ∃ fd, Fun K "law" "law" s_law (ga K "law") fd
  sm : PySem.W.typeIn K (.ref sysModules) = some (.type "dict")
theorem txt {K : Frag} {h : Heap} {mg : Str → Option Value} (X : K.In h) (G : h.Ns mainGlobals mg) (c : Says need K) : Txt K mg := by
  have hf : ∀ x ∈ frees, mg x = none := fun x hx => free_ok X G (List.all_eq_true.mp (c.fact 0 (f := fun K => frees.all fun x => (Fa.free x).ok K) rfl) x hx)
  have hg : ∀ x ∈ globs, mg x = some (.ref (ga K x)) := fun x hx => glo_ok X G (List.all_eq_true.mp (c.fact 1 (f := fun K => globs.all fun x => (Fa.glo x).ok K) rfl) x hx)
  exact {
    n_ValueError := hf _ (by simp [frees])
    n_abs := hf _ (by simp [frees])
    n_range := hf _ (by simp [frees])
    n_all := hf _ (by simp [frees])
    n_len := hf _ (by simp [frees])
    n_max := hf _ (by simp [frees])
    n_isinstance := hf _ (by simp [frees])
    n_str := hf _ (by simp [frees])
    n_int := hf _ (by simp [frees])
    n_repr := hf _ (by simp [frees])
    n_min := hf _ (by simp [frees])
    n_super := hf _ (by simp [frees])
    g_is_in_run := hg "is_in_run" (by simp [globs])
    g_is_name := hg "is_name" (by simp [globs])
    g_run_end := hg "run_end" (by simp [globs])
    g_blank_end := hg "blank_end" (by simp [globs])
    g_run_kind := hg "run_kind" (by simp [globs])
    g_token_at := hg "token_at" (by simp [globs])
    g_tokens := hg "tokens" (by simp [globs])
    g__law_pool := hg "_law_pool" (by simp [globs])
    g__law_take := hg "_law_take" (by simp [globs])
    g__law_token := hg "_law_token" (by simp [globs])
    g__law_blank := hg "_law_blank" (by simp [globs])
    g__law_must := hg "_law_must" (by simp [globs])
    g__law_written := hg "_law_written" (by simp [globs])
    g__law_at := hg "_law_at" (by simp [globs])
    g_law := hg "law" (by simp [globs])
    g_BadText := hg "BadText" (by simp [globs])
    g_WORDS := hg "WORDS" (by simp [globs])
    c_LETTERS := str_ok X G (c.fact 2 (f := fun K => (Fa.str "LETTERS" "abcdefghijklmnopqrstuvwxyz").ok K) rfl)
    c_DIGITS := str_ok X G (c.fact 3 (f := fun K => (Fa.str "DIGITS" "0123456789").ok K) rfl)
    c_SIGNS := str_ok X G (c.fact 4 (f := fun K => (Fa.str "SIGNS" "()[]{},;:.=<+-*").ok K) rfl)
    c_MOST_SIGNS := int_ok X G (c.fact 5 (f := fun K => (Fa.int "MOST_SIGNS" (5000)).ok K) rfl)
    c_MOST_IN_NAME := int_ok X G (c.fact 6 (f := fun K => (Fa.int "MOST_IN_NAME" (20)).ok K) rfl)
    c_MOST_DIGITS := int_ok X G (c.fact 7 (f := fun K => (Fa.int "MOST_DIGITS" (18)).ok K) rfl)
    c_MOST_IN_TEXT := int_ok X G (c.fact 8 (f := fun K => (Fa.int "MOST_IN_TEXT" (40)).ok K) rfl)
    l_WORDS := fun H => lstB_ok (c.fact 9 (f := fun K => lstB K "WORDS" [.str ⟨#[105, 109, 112, 111, 114, 116]⟩, .str "from", .str "as", .str "def", .str "class", .str "global", .str "nonlocal", .str "if", .str "else", .str "while", .str "for", .str "in", .str "return", .str "break", .str "continue", .str "pass", .str "and", .str "or", .str "not", .str "fn", .str "none", .str "true", .str "false"]) rfl) H
    x_BadText := ex_of (c.fact 10 (f := exB P "BadText" ["at"]) rfl) (c.init 0 rfl) rfl
    f_is_in_run := (c.def_ 0 (e := d_is_in_run) rfl).elim fun fd F => ⟨fd, FunD.fn F⟩
    f_is_name := (c.def_ 1 (e := d_is_name) rfl).elim fun fd F => ⟨fd, FunD.fn F⟩
    f_run_end := (c.def_ 2 (e := d_run_end) rfl).elim fun fd F => ⟨fd, FunD.fn F⟩
    f_blank_end := (c.def_ 3 (e := d_blank_end) rfl).elim fun fd F => ⟨fd, FunD.fn F⟩
    f_run_kind := (c.def_ 4 (e := d_run_kind) rfl).elim fun fd F => ⟨fd, FunD.fn F⟩
    f_token_at := (c.def_ 5 (e := d_token_at) rfl).elim fun fd F => ⟨fd, FunD.fn F⟩
    f_tokens := (c.def_ 6 (e := d_tokens) rfl).elim fun fd F => ⟨fd, FunD.fn F⟩
    f__law_pool := (c.def_ 7 (e := d__law_pool) rfl).elim fun fd F => ⟨fd, FunD.fn F⟩
    f__law_take := (c.def_ 8 (e := d__law_take) rfl).elim fun fd F => ⟨fd, FunD.fn F⟩
    f__law_token := (c.def_ 9 (e := d__law_token) rfl).elim fun fd F => ⟨fd, FunD.fn F⟩
    f__law_blank := (c.def_ 10 (e := d__law_blank) rfl).elim fun fd F => ⟨fd, FunD.fn F⟩
    f__law_must := (c.def_ 11 (e := d__law_must) rfl).elim fun fd F => ⟨fd, FunD.fn F⟩
    f__law_written := (c.def_ 12 (e := d__law_written) rfl).elim fun fd F => ⟨fd, FunD.fn F⟩
    f__law_at := (c.def_ 13 (e := d__law_at) rfl).elim fun fd F => ⟨fd, FunD.fn F⟩
    f_law := (c.def_ 14 (e := d_law) rfl).elim fun fd F => ⟨fd, FunD.fn F⟩
    sm := of_decide_eq_true (c.fact 11 (f := fun K => decide (PySem.W.typeIn K (.ref sysModules) = some (.type "dict"))) rfl) }
theorem fld_at : Fld "at" := ⟨by decide +kernel, by decide +kernel, by decide +kernel, by decide +kernel⟩
theorem sh_BadText : Init1 i_BadText "at" := ⟨_, _, _, _, _, _, _, _, _, _, _, _, rfl, rfl, rfl, fun _ _ _ _ _ => ⟨_, rfl⟩, fun _ _ _ _ _ _ _ _ _ => rfl⟩
end K10

set_option Elab.async false
set_option linter.all false
set_option maxRecDepth 100000
set_option maxHeartbeats 4000000
namespace K10
open PySem PySem.Spec PyProof.Rows L2 He KH PySem.KX
open PySem.W (Frag)
section
variable {w : World} {K : PySem.W.Frag} {mg : Str → Option Value} {base : Heap}
theorem scT : FnScope ["_law_pool_here", "_law_many", "_law_found"] ["_law_pool_here", "_law_many"] (defScope s__law_take) := ⟨rfl, rfl, rfl, by decide +kernel, rfl, by decide +kernel, by decide +kernel⟩
theorem ok_take {f : Addr} {fd : FuncData} (F : Fun K "_law_take" "_law_take" s__law_take f fd) : FnOk P w K mg base CX0 1 f fd ["_law_pool_here", "_law_many"] spTake := by
  refine F.ok scT (fun vs H Q E h => ?_) (fun cdv A outer s H vs Q E hr h => ?_)
  · obtain ⟨p, n, rfl, _⟩ := h
    rfl
  · obtain ⟨p, n, rfl, ⟨a, b, hp, ha, hb, hb2⟩, hn, hn2, k⟩ := h
    have sc := scT
    refine ⟨_, (pss_cons (ps_if (pt_cmpR op_gt (pe_ix ix_list (pv 0) pe_int (fun _ _ => rfl)) pe_int (nomark _))
        (pss_cons (ps_set (i := 2) sc.nd rfl (Or.inl rfl) (pe_op op_mod (pe_ix ix_list (pv 0) pe_int (fun _ _ => rfl)) (pv 1)))
        (pss_cons (ps_asg (pe_op op_fdiv (pe_ix ix_list (pv 0) pe_int (fun _ _ => rfl)) (pv 1)) (pg_sub (pv 0) pe_int set_list))
        (pss_one (ps_ret (pv 2)))))
        pss_nil)
      (pss_cons (ps_asg (pe_op op_mod (pe_op op_add (pe_op op_mul (pe_ix ix_list (pv 0) pe_int (fun _ _ => rfl)) pe_int) pe_int) pe_int) (pg_sub (pv 0) pe_int set_list))
      (pss_one (ps_ret (pe_op op_mod (pe_op op_fdiv (pe_op op_mod (pe_op op_mul (pe_ix ix_list (pv 0) pe_int (fun _ _ => rfl)) (pe_ix ix_list (pv 0) pe_int (fun _ _ => rfl))) pe_int) pe_int) (pv 1)))))), ?_⟩
    have hS := SqL.of (K := K) hp
    refine ⟨_, rfl, p, _, _, _, rfl, rfl, hS, rfl, _, _, rfl, rfl, _, rfl, ?_⟩
    refine ite2 (fun c => ?_) (fun c => ?_)
    · refine ⟨_, rfl, p, _, _, _, rfl, rfl, hS, rfl, _, rfl, _, _, rfl, rfl, hn, ?_⟩
      refine ⟨_, rfl, p, _, _, _, rfl, rfl, hS, rfl, _, rfl, _, _, rfl, rfl, ⟨hn, by omega⟩, ?_⟩
      refine ⟨_, rfl, p, _, _, 0, rfl, rfl, hp, rfl, ?_⟩
      refine ⟨_, rfl, ?_⟩
      exact k _ _ (Int.emod_nonneg _ (by omega)) (Int.emod_lt_of_pos _ hn) ⟨a / n, b, upd_same, Int.ediv_nonneg ha (by omega), hb, hb2⟩ ⟨_, _, rfl⟩
    · refine ⟨_, rfl, p, _, _, _, rfl, rfl, hS, rfl, _, _, rfl, rfl, .inl ⟨by omega, by omega⟩, _, _, rfl, rfl, _, _, rfl, rfl, (by show (0 : Int) < 2147483647; decide), ?_⟩
      refine ⟨_, rfl, p, _, _, 1, rfl, rfl, hp, rfl, ?_⟩
      have hb' : 0 ≤ (b * 48271 + 11) % 2147483647 ∧ (b * 48271 + 11) % 2147483647 < 2147483647 := ⟨Int.emod_nonneg _ (by decide), Int.emod_lt_of_pos _ (by decide)⟩
      have hS' := SqL.of (K := K) (H := upd H p (.lst [.int a, .int ((b * 48271 + 11) % 2147483647)])) upd_same
      refine ⟨_, rfl, p, _, _, _, rfl, rfl, hS', rfl, _, rfl, p, _, _, _, rfl, rfl, hS', rfl, _, _, rfl, rfl, .inl ⟨by omega, by omega⟩, _, _, rfl, rfl, (by show (0 : Int) < 2147483629; decide), _, _, rfl, rfl, ⟨by decide, by decide⟩, _, rfl, _, _, rfl, rfl, hn, ?_⟩
      exact k _ _ (Int.emod_nonneg _ (by omega)) (Int.emod_lt_of_pos _ hn) ⟨a, _, upd_same, ha, hb'.1, hb'.2⟩ ⟨_, _, rfl⟩
theorem scP : FnScope ["_law_script", "_law_k", "_law_cell", "_law_size", "_law_seed"] ["_law_script", "_law_k"] (defScope s__law_pool) := ⟨rfl, rfl, rfl, by decide +kernel, rfl, by decide +kernel, by decide +kernel⟩
theorem ok_pool {f : Addr} {fd : FuncData} (F : Fun K "_law_pool" "_law_pool" s__law_pool f fd) (T : Txt K mg) : FnOk P w K mg base CX0 1 f fd ["_law_script", "_law_k"] (spPool K) := by
  refine F.ok scP (fun vs H Q E h => ?_) (fun cdv A outer s H vs Q E hr h => ?_)
  · obtain ⟨a, k, ns, rfl, _⟩ := h
    rfl
  · obtain ⟨a, k, ns, rfl, hS, hk, hk2, kq⟩ := h
    have sc := scP
    refine ⟨_, (pss_cons (ps_set (i := 2) sc.nd rfl (Or.inl rfl) pe_int)
      (pss_cons (ps_if (pt_cmpR op_lt (pv 1) (pe_callB call_len rfl T.n_len (by decide +kernel) (pa_cons (pv 0) pa_nil)) (nomark _))
        (pss_one (ps_set (i := 2) sc.nd rfl (Or.inl rfl) (pe_ix ix_list (pv 0) (pv 1) (fun _ _ => rfl))))
        pss_nil)
      (pss_cons (ps_set (i := 3) sc.nd rfl (Or.inl rfl) (pe_callB call_abs rfl T.n_abs (by decide +kernel) (pa_cons (pv 2) pa_nil)))
      (pss_cons (ps_set (i := 4) sc.nd rfl (Or.inl rfl) (pe_op op_mod (pe_op op_pow (pe_op op_add (pe_op op_add (pe_op op_add (pe_op op_mod (pv 2) pe_int) (pe_op op_mul (pe_op op_mul pe_int (pv 1)) (pv 1))) (pe_op op_mul pe_int (pv 1))) pe_int) pe_int) pe_int))
      (pss_one (ps_ret (pe_lst (pa_cons (pe_op op_mul (pv 3) (pe_callTy call_int1 rfl T.n_int (by decide +kernel) (pa_cons (pe_cmpR op_ge (pv 3) (pe_op op_pow pe_int pe_int) (nomark _)) pa_nil))) (pa_cons (pv 4) pa_nil))))))))), ?_⟩
    have key : ∀ c : Int, 0 ≤ c % 2147483629 + 104729 * k * k + 7919 * k + 11 ∧ c % 2147483629 + 104729 * k * k + 7919 * k + 11 < 18446744073709551616 := fun c => by
      have h1 : 0 ≤ c % 2147483629 := Int.emod_nonneg _ (by decide)
      have h2 : c % 2147483629 < 2147483629 := Int.emod_lt_of_pos _ (by decide)
      have h3 : 0 ≤ k * k := Int.mul_nonneg hk hk
      have h4 : k * k ≤ 100 * 100 := Int.mul_le_mul (by omega) (by omega) hk (by decide)
      have h5 : 104729 * k * k = 104729 * (k * k) := by rw [Int.mul_assoc]
      omega
    refine ⟨_, rfl, _, rfl, _, ns.length, rfl, .inl ⟨_, hS, by simp⟩, _, _, rfl, rfl, _, rfl, ?_⟩
    refine ite2 (fun cc => ?_) (fun cc => ?_)
    · obtain ⟨c, hc⟩ := ints_at hk (by simpa using cc)
      refine ⟨_, rfl, _, rfl, a, _, _, _, rfl, rfl, hS, hc, ?_⟩
      refine ⟨_, rfl, _, rfl, ?_⟩
      refine ⟨_, rfl, _, _, rfl, rfl, (by show (0 : Int) < 2147483629; decide), _, rfl, _, _, rfl, rfl, .inl ⟨by decide, by decide⟩, _, rfl, _, _, rfl, rfl, .inr ⟨by omega, by omega⟩, _, _, rfl, rfl, _, rfl, _, _, rfl, rfl, .inl ⟨by decide, by decide⟩, _, _, rfl, rfl, _, _, rfl, rfl, _, _, rfl, rfl, ⟨by decide, by decide, by have := key c; omega⟩, _, _, rfl, rfl, (by show (0 : Int) < 2147483647; decide), ?_⟩
      refine ⟨_, rfl, _, rfl, _, _, rfl, rfl, ⟨by decide, by decide, by decide⟩, _, _, rfl, rfl, .inr ⟨_, rfl, ?_⟩⟩
      refine ⟨_, _, rfl, rfl, .inr (b01 _), _, rfl, (by show 2 ≤ sizeLine; decide), fun p hp => ?_⟩
      refine kq p _ _ hp ⟨_, _, upd_same, ?_, Int.emod_nonneg _ (by decide), Int.emod_lt_of_pos _ (by decide)⟩
      refine Int.mul_nonneg (by split <;> omega) (b0 _)
    · refine ⟨_, rfl, _, rfl, ?_⟩
      refine ⟨_, rfl, _, _, rfl, rfl, (by show (0 : Int) < 2147483629; decide), _, rfl, _, _, rfl, rfl, .inl ⟨by decide, by decide⟩, _, rfl, _, _, rfl, rfl, .inr ⟨by omega, by omega⟩, _, _, rfl, rfl, _, rfl, _, _, rfl, rfl, .inl ⟨by decide, by decide⟩, _, _, rfl, rfl, _, _, rfl, rfl, _, _, rfl, rfl, ⟨by decide, by decide, by have := key 0; omega⟩, _, _, rfl, rfl, (by show (0 : Int) < 2147483647; decide), ?_⟩
      refine ⟨_, rfl, _, rfl, _, _, rfl, rfl, ⟨by decide, by decide, by decide⟩, _, _, rfl, rfl, .inr ⟨_, rfl, ?_⟩⟩
      refine ⟨_, _, rfl, rfl, .inr (b01 _), _, rfl, (by show 2 ≤ sizeLine; decide), fun p hp => ?_⟩
      refine kq p _ _ hp ⟨_, _, upd_same, ?_, Int.emod_nonneg _ (by decide), Int.emod_lt_of_pos _ (by decide)⟩
      refine Int.mul_nonneg (by split <;> omega) (b0 _)
end
end K10

set_option Elab.async false
set_option linter.all false
set_option maxRecDepth 100000
set_option maxHeartbeats 4000000
set_option pp.maxSteps 1500
set_option pp.deepTerms false
namespace K10
open PySem PySem.Spec PyProof.Rows L2 He KH PySem.KX Lex
open PySem.W (Frag)
theorem letters_eq : (Str.ofString "abcdefghijklmnopqrstuvwxyz").cps.toList = letters := by decide +kernel
theorem digits_eq : (Str.ofString "0123456789").cps.toList = digits := by decide +kernel
theorem signs_eq : (Str.ofString "()[]{},;:.=<+-*").cps.toList = Lex.signs := by decide +kernel
theorem us_eq : Str.ofString "_" = S [95] := by decide +kernel
theorem blank_eq : (Str.ofString " \n#").cps.toList = [32, 10, 35] := by decide +kernel
theorem hash_eq : Str.ofString "#" = S [35] := by decide +kernel
theorem nl_eq : Str.ofString "\n" = S [10] := by decide +kernel
theorem dec_s1 (c d : Nat) : decide (V.str (S [c]) = V.str (S [d])) = decide (c = d) := by
  by_cases h : c = d
  · subst h; simp
  · rw [decide_eq_false h, decide_eq_false]
    intro z
    injection z with z
    exact h (by have := S_inj z; simpa using this)
section
variable {w : World} {K : Frag} {mg : Str → Option Value} {base : Heap}
/-! ### is_in_run -/
def spInRun : Sp := fun vs H Q _ => ∃ c : Nat, vs = [.str (S [c])] ∧ Q (.bl (inRun c)) H
theorem sc_in_run : FnScope ["sign"] ["sign"] (defScope s_is_in_run) := ⟨rfl, rfl, rfl, by decide +kernel, rfl, by decide +kernel, by decide +kernel⟩
theorem ok_is_in_run {f : Addr} {fd : FuncData} (F : Fun K "is_in_run" "is_in_run" s_is_in_run f fd) (T : Txt K mg) : FnOk P w K mg base CX0 1 f fd ["sign"] spInRun := by
  refine F.ok sc_in_run (fun vs H Q E h => ?_) (fun cdv A outer s H vs Q E hr h => ?_)
  · obtain ⟨c, rfl, _⟩ := h
    rfl
  · obtain ⟨c, rfl, q⟩ := h
    refine ⟨_, (pss_one (ps_ret (pe_or (pe_cmpR op_in_sign (pv 0) (pe_gs rfl T.c_LETTERS) rfl) (pe_or (pe_cmpR op_in_sign (pv 0) (pe_gs rfl T.c_DIGITS) rfl) (pe_one (pe_cmpR op_eq (pv 0) pe_str (nomark _))))))), ?_⟩
    refine ⟨_, rfl, c, _, rfl, rfl, _, rfl, ?_⟩
    rw [letters_eq]
    unfold inRun at q
    by_cases h1 : c ∈ letters
    · rw [decide_eq_true h1]
      rw [decide_eq_true h1] at q
      exact iteT q
    · rw [decide_eq_false h1]
      rw [decide_eq_false h1] at q
      refine iteF ?_
      refine ⟨_, rfl, c, _, rfl, rfl, _, rfl, ?_⟩
      rw [digits_eq]
      by_cases h2 : c ∈ digits
      · rw [decide_eq_true h2]
        rw [decide_eq_true h2] at q
        exact iteT q
      · rw [decide_eq_false h2]
        rw [decide_eq_false h2] at q
        refine iteF ?_
        refine ⟨_, rfl, rfl, ?_⟩
        show Q (.bl (decide (V.str (S [c]) = V.str (Str.ofString "_")))) H
        rw [us_eq, dec_s1]
        exact q
/-! ### run_end -/
def spRunEnd : Sp := fun vs H Q _ => ∃ (l : List Nat) (at_ : Nat), vs = [.str (S l), .int at_] ∧ l.length ≤ 10000 ∧ at_ ≤ l.length ∧ Q (.int ((at_ + runLen (l.drop at_) : Nat) : Int)) H
theorem sc_run_end : FnScope ["text", "at"] ["text", "at"] (defScope s_run_end) := ⟨rfl, rfl, rfl, by decide +kernel, rfl, by decide +kernel, by decide +kernel⟩
theorem size10k {n : Nat} (h : n ≤ 10000) : n ≤ sizeLine := by rw [sizeLine_eq]; omega
theorem drop_at {l : List Nat} {i : Nat} (h : i < l.length) : ∃ c, l[i]? = some c ∧ l.drop i = c :: l.drop (i + 1) := ⟨l[i], List.getElem?_eq_getElem h, List.drop_eq_getElem_cons h⟩
theorem ok_run_end {f fR : Addr} {fd fdR : FuncData} (F : Fun K "run_end" "run_end" s_run_end f fd) (F_is_in_run : Fun K "is_in_run" "is_in_run" s_is_in_run fR fdR) (e : fR = ga K "is_in_run") (T : Txt K mg) : FnOk P w K mg base CX0 2 f fd ["text", "at"] spRunEnd := by
  subst e
  have G_is_in_run : FnOk P w K mg base CX0 1 _ fdR ["sign"] spInRun := ok_is_in_run F_is_in_run T
  have b_is_in_run : Binds K fdR ["sign"] [] := F_is_in_run.binds fun _ _ _ _ _ _ us hl => match us, hl with | [_], _ => rfl
  refine F.ok sc_run_end (fun vs H Q E h => ?_) (fun cdv A outer s H vs Q E hr h => ?_)
  · obtain ⟨l, at_, rfl, _⟩ := h
    rfl
  · obtain ⟨l, at_, rfl, hl, ha, q⟩ := h
    have sc := sc_run_end
    have hr_is_in_run := hr
    refine ⟨_, (pss_cons (ps_while PassesOwn.never (PW.pt (pw_and (pt_cmpR op_lt (pv 1) (pe_callB call_len_str rfl T.n_len (by decide +kernel) (pa_cons (pv 0) pa_nil)) (nomark _)) (pw_and1 (pt_val (pe_call G_is_in_run hr_is_in_run rfl T.g_is_in_run F_is_in_run.kp b_is_in_run .nil pass0 (pa_cons (pe_ix (r := rIxS) ix_str (pv 0) (pv 1) (fun _ _ => rfl)) pa_nil))))))
        (pss_one (ps_aug (i := 1) sc.nd rfl (Or.inl rfl) pe_int ip_add)))
      (pss_one (ps_ret (pv 1)))), ?_⟩
    refine ⟨fun m σ H1 => ∃ i : Nat, σ = [some (.str (S l)), some (.int i)] ∧ H1 = H ∧ i ≤ l.length ∧ m = l.length - i ∧ at_ + runLen (l.drop at_) = i + runLen (l.drop i), ⟨_, at_, rfl, rfl, ha, rfl, rfl⟩, ?_⟩
    rintro m σ H1 ⟨i, rfl, rfl, hi, rfl, e⟩
    refine ⟨_, rfl, _, rfl, _, rfl, (by rw [S_len]; exact size10k hl), _, _, rfl, rfl, _, rfl, ?_⟩
    rw [S_len]
    refine ite2 (fun c => ?_) (fun c => ?_)
    · have hil : i < l.length := by simpa using c
      obtain ⟨d, hd, hdr⟩ := drop_at hil
      refine ⟨_, rfl, _, rfl, _, _, d, rfl, rfl, (by rw [S_len]; exact size10k hl), (by rw [S_list]; exact atI_nat hd), d, rfl, _, rfl, ?_⟩
      refine ite2 (fun c2 => ?_) (fun c2 => ?_)
      · refine ⟨_, fun _ _ h => h, ?_⟩
        refine ⟨_, rfl, _, _, rfl, rfl, ?_⟩
        refine ⟨l.length - (i + 1), by omega, i + 1, rfl, rfl, by omega, rfl, ?_⟩
        rw [e, hdr, runLen_pos c2]
        omega
      · refine ⟨_, rfl, ?_⟩
        have e2 : runLen (l.drop i) = 0 := by
          rw [hdr]
          unfold runLen
          rw [List.takeWhile_cons, if_neg c2]
          rfl
        rw [e, e2, Nat.add_zero] at q
        exact q
    · refine ⟨_, rfl, ?_⟩
      have hil : i = l.length := by
        have : ¬ i < l.length := by simpa using c
        omega
      have e2 : runLen (l.drop i) = 0 := by rw [hil, List.drop_length]; rfl
      rw [e, e2, Nat.add_zero] at q
      exact q
/-! ### blank_end -/
def spBlankEnd : Sp := fun vs H Q _ => ∃ (l : List Nat) (at_ : Nat), vs = [.str (S l), .int at_] ∧ l.length ≤ 10000 ∧ at_ ≤ l.length ∧ Q (.int ((at_ + bl false (l.drop at_) : Nat) : Int)) H
theorem sc_blank_end : FnScope ["text", "at"] ["text", "at"] (defScope s_blank_end) := ⟨rfl, rfl, rfl, by decide +kernel, rfl, by decide +kernel, by decide +kernel⟩
theorem mem_blank (c : Nat) : c ∈ [32, 10, 35] ↔ (c = 32 ∨ c = 10) ∨ c = 35 := by simp [or_assoc]
theorem bl_f (c : Nat) (r : List Nat) : bl false (c :: r) = if c = 32 ∨ c = 10 then 1 + bl false r else if c = 35 then 1 + bl true r else 0 := rfl
theorem bl_t (c : Nat) (r : List Nat) : bl true (c :: r) = if c = 10 then 1 + bl false r else 1 + bl true r := rfl
theorem ok_blank_end {f : Addr} {fd : FuncData} (F : Fun K "blank_end" "blank_end" s_blank_end f fd) (T : Txt K mg) : FnOk P w K mg base CX0 1 f fd ["text", "at"] spBlankEnd := by
  refine F.ok sc_blank_end (fun vs H Q E h => ?_) (fun cdv A outer s H vs Q E hr h => ?_)
  · obtain ⟨l, at_, rfl, _⟩ := h
    rfl
  · obtain ⟨l, at_, rfl, hl, ha, q⟩ := h
    have sc := sc_blank_end
    have hsz : (S l).length ≤ sizeLine := by rw [S_len]; exact size10k hl
    refine ⟨_, (pss_cons (ps_while PassesOwn.never (PW.pt (pw_and (pt_cmpR op_lt (pv 1) (pe_callB call_len_str rfl T.n_len (by decide +kernel) (pa_cons (pv 0) pa_nil)) (nomark _)) (pw_and1 (pt_cmpR op_in_sign (pe_ix (r := rIxS) ix_str (pv 0) (pv 1) (fun _ _ => rfl)) pe_str rfl))))
        (pss_one (ps_if (pt_cmpR op_eq (pe_ix (r := rIxS) ix_str (pv 0) (pv 1) (fun _ _ => rfl)) pe_str (nomark _))
          (pss_one (ps_while PassesOwn.never (PW.pt (pw_and (pt_cmpR op_lt (pv 1) (pe_callB call_len_str rfl T.n_len (by decide +kernel) (pa_cons (pv 0) pa_nil)) (nomark _)) (pw_and1 (pt_cmpR op_ne (pe_ix (r := rIxS) ix_str (pv 0) (pv 1) (fun _ _ => rfl)) pe_str (nomark _)))))
            (pss_one (ps_aug (i := 1) sc.nd rfl (Or.inl rfl) pe_int ip_add))))
          (pss_one (ps_aug (i := 1) sc.nd rfl (Or.inl rfl) pe_int ip_add)))))
      (pss_one (ps_ret (pv 1)))), ?_⟩
    refine ⟨fun m σ H1 => ∃ i : Nat, σ = [some (.str (S l)), some (.int i)] ∧ H1 = H ∧ i ≤ l.length ∧ m = l.length - i ∧ at_ + bl false (l.drop at_) = i + bl false (l.drop i), ⟨_, at_, rfl, rfl, ha, rfl, rfl⟩, ?_⟩
    rintro m σ H1 ⟨i, rfl, rfl, hi, rfl, e⟩
    refine ⟨_, rfl, _, rfl, _, rfl, hsz, _, _, rfl, rfl, _, rfl, ?_⟩
    rw [S_len]
    refine ite2 (fun c => ?_) (fun c => ?_)
    · have hil : i < l.length := by simpa using c
      obtain ⟨d, hd, hdr⟩ := drop_at hil
      have hat : atI (S l).cps.toList (i : Int) = some d := by rw [S_list]; exact atI_nat hd
      refine ⟨_, rfl, _, rfl, _, _, d, rfl, rfl, hsz, hat, d, _, rfl, rfl, _, rfl, ?_⟩
      rw [blank_eq]
      refine ite2 (fun c2 => ?_) (fun c2 => ?_)
      · have c2' := (mem_blank d).mp (of_decide_eq_true c2)
        refine ⟨_, fun _ _ h => h, ?_⟩
        refine ⟨_, rfl, _, rfl, _, _, d, rfl, rfl, hsz, hat, rfl, _, rfl, ?_⟩
        have e35 : decide (V.str ⟨#[d]⟩ = V.str (Str.ofString "#")) = decide (d = 35) := by rw [hash_eq]; exact dec_s1 d 35
        rw [e35]
        refine ite2 (fun c3 => ?_) (fun c3 => ?_)
        · have h35 : d = 35 := of_decide_eq_true c3
          subst h35
          refine ⟨fun m2 σ2 H2 => ∃ j : Nat, σ2 = [some (.str (S l)), some (.int j)] ∧ H2 = H1 ∧ i ≤ j ∧ j ≤ l.length ∧ m2 = l.length - j ∧ at_ + bl false (l.drop at_) = j + bl true (l.drop j), ⟨_, i, rfl, rfl, Nat.le_refl _, hi, rfl, by rw [e, hdr]; rfl⟩, ?_⟩
          rintro m2 σ2 H2 ⟨j, rfl, rfl, hij, hj, rfl, e2⟩
          refine ⟨_, rfl, _, rfl, _, rfl, hsz, _, _, rfl, rfl, _, rfl, ?_⟩
          rw [S_len]
          refine ite2 (fun c4 => ?_) (fun c4 => ?_)
          · have hjl : j < l.length := by simpa using c4
            obtain ⟨d2, hd2, hdr2⟩ := drop_at hjl
            refine ⟨_, rfl, _, rfl, _, _, d2, rfl, rfl, hsz, (by rw [S_list]; exact atI_nat hd2), rfl, _, rfl, ?_⟩
            have e10 : decide (V.str ⟨#[d2]⟩ = V.str (Str.ofString "\n")) = decide (d2 = 10) := by rw [nl_eq]; exact dec_s1 d2 10
            rw [e10]
            refine ite2 (fun c5 => ?_) (fun c5 => ?_)
            · have h10 : ¬ d2 = 10 := by simpa using c5
              refine ⟨_, fun _ _ h => h, ?_⟩
              refine ⟨_, rfl, _, _, rfl, rfl, ?_⟩
              refine ⟨l.length - (j + 1), by omega, j + 1, rfl, rfl, by omega, by omega, rfl, ?_⟩
              rw [e2, hdr2, bl_t, if_neg h10]
              omega
            · have h10 : d2 = 10 := by simpa using c5
              subst h10
              have hne : i < j := by
                rcases Nat.lt_or_ge i j with h | h
                · exact h
                · have : i = j := by omega
                  subst this
                  rw [hd] at hd2
                  cases hd2
              refine ⟨l.length - j, by omega, j, rfl, rfl, hj, rfl, ?_⟩
              rw [e2, hdr2]
              rfl
          · have hjl : j = l.length := by
              have : ¬ j < l.length := by simpa using c4
              omega
            refine ⟨l.length - j, by omega, j, rfl, rfl, hj, rfl, ?_⟩
            rw [e2, hjl, List.drop_length]
            rfl
        · have h35 : ¬ d = 35 := by simpa using c3
          refine ⟨_, rfl, _, _, rfl, rfl, ?_⟩
          refine ⟨l.length - (i + 1), by omega, i + 1, rfl, rfl, by omega, rfl, ?_⟩
          have hb : d = 32 ∨ d = 10 := c2'.resolve_right h35
          rw [e, hdr, bl_f, if_pos hb]
          omega
      · refine ⟨_, rfl, ?_⟩
        have c2' : ¬ ((d = 32 ∨ d = 10) ∨ d = 35) := fun h => by
          have := (mem_blank d).mpr h
          exact c2 (decide_eq_true this)
        have e2 : bl false (l.drop i) = 0 := by rw [hdr]; exact bl_zero (fun h => c2' (.inl h)) (fun h => c2' (.inr h))
        rw [e, e2, Nat.add_zero] at q
        exact q
    · refine ⟨_, rfl, ?_⟩
      have hil : i = l.length := by
        have : ¬ i < l.length := by simpa using c
        omega
      have e2 : bl false (l.drop i) = 0 := by rw [hil, List.drop_length]; rfl
      rw [e, e2, Nat.add_zero] at q
      exact q
end
end K10

set_option Elab.async false
set_option linter.all false
set_option maxRecDepth 100000
set_option maxHeartbeats 4000000
set_option pp.maxSteps 1500
set_option pp.deepTerms false
namespace L2
open PySem PySem.Spec PyProof.Rows
theorem cutS_S {l : List Nat} {a b : Nat} (ha : a ≤ l.length) (hab : a ≤ b) : cutS (S l) (some (a : Int)) (some (b : Int)) = S ((l.drop a).take (b - a)) := by
  unfold cutS
  rw [HT.sIx_nat, HT.sIx_nat, S_list, S_len, Nat.min_eq_left ha]
  show S _ = S _
  congr 1
  rcases Nat.le_total b l.length with h | h
  · rw [Nat.min_eq_left h]
  · rw [Nat.min_eq_right h, List.take_of_length_le (by rw [List.length_drop]; omega), List.take_of_length_le (by rw [List.length_drop]; omega)]
theorem inV_strs (l : List Nat) : ∀ ws : List (List Nat), inV (.str (S l)) (ws.map fun w => V.str (S w)) = decide (l ∈ ws)
  | [] => by simp [inV]
  | a :: ws => by
    have ih := inV_strs l ws
    unfold inV at ih ⊢
    rw [List.map_cons, List.any_cons, ih]
    by_cases h : a = l
    · subst h
      simp [eqV]
    · have h1 : (S a == S l) = false := by
        rw [beq_eq_false_iff_ne]
        exact fun q => h (S_inj q)
      show ((S a == S l) || decide (l ∈ ws)) = _
      rw [h1, Bool.false_or]
      by_cases h2 : l ∈ ws
      · rw [decide_eq_true h2, decide_eq_true (List.mem_cons_of_mem _ h2)]
      · rw [decide_eq_false h2, decide_eq_false]
        intro q
        rcases List.mem_cons.mp q with q | q
        · exact h q.symm
        · exact h2 q
theorem all_map {α : Type} (f : α → Bool) : ∀ l : List α, (l.map f).all id = l.all f
  | [] => rfl
  | a :: l => by simp
end L2
namespace K10
open PySem PySem.Spec PyProof.Rows L2 He KH PySem.KX Lex
open PySem.W (Frag)
def kdS : Kd → Str
  | .name => "name"
  | .word => "word"
  | .number => "number"
  | .text => "text"
  | .sign => "sign"
def kdV : Option Kd → V
  | none => .non
  | some k => .str (kdS k)
def wordsV : List V := words.map fun w => V.str (S w)
theorem words_eq : ([V.str ⟨#[105, 109, 112, 111, 114, 116]⟩, V.str "from", V.str "as", V.str "def", V.str "class", V.str "global", V.str "nonlocal", V.str "if", V.str "else", V.str "while", V.str "for", V.str "in", V.str "return", V.str "break", V.str "continue", V.str "pass", V.str "and", V.str "or", V.str "not", V.str "fn", V.str "none", V.str "true", V.str "false"] : List V) = wordsV := by decide +kernel
theorem zero_eq : Str.ofString "0" = S [48] := by decide +kernel
theorem dec_s (a b : List Nat) : decide (V.str (S a) = V.str (S b)) = decide (a = b) := by
  by_cases h : a = b
  · subst h; simp
  · rw [decide_eq_false h, decide_eq_false]
    intro z
    injection z with z
    exact h (S_inj z)
section
variable {w : World} {K : Frag} {mg : Str → Option Value} {base : Heap}
theorem lw {T : Txt K mg} (H : Hp) : SqL K H (ga K "WORDS") wordsV := by rw [← words_eq]; exact T.l_WORDS H
/-! ### is_name -/
def spIsName : Sp := fun vs H Q _ => ∃ l : List Nat, vs = [.str (S l)] ∧ l.length ≤ 10000 ∧ ∀ H', Same H H' → Q (.bl (isName l)) H'
theorem sc_is_name : FnScope ["value", "sign"] ["value"] (defScope s_is_name) := ⟨rfl, rfl, rfl, by decide +kernel, rfl, by decide +kernel, by decide +kernel⟩
theorem ok_is_name {f : Addr} {fd : FuncData} (F : Fun K "is_name" "is_name" s_is_name f fd) (T : Txt K mg) : FnOk P w K mg base CX0 2 f fd ["value"] spIsName := by
  obtain ⟨fdR, F_is_in_run⟩ := T.f_is_in_run
  have G_is_in_run : FnOk P w K mg base CX0 1 _ fdR ["sign"] spInRun := ok_is_in_run F_is_in_run T
  have b_is_in_run : Binds K fdR ["sign"] [] := F_is_in_run.binds fun _ _ _ _ _ _ us hl => match us, hl with | [_], _ => rfl
  refine F.ok sc_is_name (fun vs H Q E h => ?_) (fun cdv A outer s H vs Q E hr h => ?_)
  · obtain ⟨l, rfl, _⟩ := h
    rfl
  · obtain ⟨l, rfl, hl, q⟩ := h
    have sc := sc_is_name
    have hr_is_in_run := hr
    have hsz : (S l).length ≤ sizeLine := by rw [S_len]; exact size10k hl
    refine ⟨_, (pss_cons (ps_if (PW.pt (pw_or (pt_not (pt_val (pe_callB call_isi rfl T.n_isinstance (by decide +kernel) (pa_cons (pv 0) (pa_cons (pe_bltn (v := .ty "str") (u := .type "str") rfl T.n_str (by decide +kernel) rfl) pa_nil))))) (pw_or (pt_not (pt_chain op_le op_le pe_int (pe_callB call_len_str rfl T.n_len (by decide +kernel) (pa_cons (pv 0) pa_nil)) (pe_gi rfl T.c_MOST_IN_NAME))) (pw_or1 (pt_cmpR op_in_seq (pv 0) (pe_glob (v := .ref _) rfl T.g_WORDS rfl) rfl)))))
        (pss_one (ps_ret pe_bl))
        pss_nil)
      (pss_one (ps_ret (pe_and (pe_cmpR op_in_sign (pe_ix (r := rIxS) ix_str (pv 0) pe_int (fun _ _ => rfl)) (pe_gs rfl T.c_LETTERS) rfl) (pe_one (pe_callB (cr_all rfl) rfl T.n_all (by decide +kernel) (pa_cons (pe_lc (own := [("sign", 1)]) (g := gName 1) (tt := tYes) rfl sc.nd (pi_str (pv 0)) (blkOk_by (N := ["value", "sign"]) (sc := defScope s_is_name) (by decide +kernel)) (fun _ _ _ _ _ => pg_name (i := 1) sc.nd rfl (Or.inl rfl)) (fun _ _ _ _ _ => pts_nil) (fun _ _ _ _ _ => pe_call G_is_in_run hr_is_in_run rfl T.g_is_in_run F_is_in_run.kp b_is_in_run .nil pass0 (pa_cons (pv 1) pa_nil))) pa_nil))))))), ?_⟩
    refine ⟨_, rfl, _, _, .type "str", .type "str", true, rfl, .ty "str", .base (.str _), kit_ty (by decide +kernel), _, rfl, ?_⟩
    refine iteF ?_
    refine ⟨_, rfl, _, rfl, hsz, _, _, rfl, rfl, _, rfl, ?_⟩
    rw [S_len]
    have fin : ∀ b : Bool, b = isName l → ∀ H', Same H H' → Q (.bl b) H' := fun b e => by rw [e]; exact q
    refine ite2 (fun c1 => ?_) (fun c1 => ?_)
    · have h1 : (1 : Int) ≤ l.length := of_decide_eq_true c1
      refine ⟨_, _, rfl, rfl, _, rfl, ?_⟩
      refine ite2 (fun c2 => ?_) (fun c2 => ?_)
      · have h2 : ¬ ((l.length : Int) ≤ 20) := by simpa using c2
        refine fin false ?_ _ (Same.refl _)
        unfold isName
        rw [decide_eq_false (show ¬ l.length ≤ 20 by omega)]
        simp
      · have h2 : (l.length : Int) ≤ 20 := by simpa using c2
        refine ⟨_, rfl, _, wordsV, rfl, .inl (lw (T := T) H), rfl, (by decide +kernel), _, rfl, ?_⟩
        show if inV (V.str (S l)) wordsV = true then _ else _
        have ei : inV (V.str (S l)) wordsV = decide (l ∈ words) := inV_strs l words
        rw [ei]
        refine ite2 (fun c3 => ?_) (fun c3 => ?_)
        · have h3 : l ∈ words := of_decide_eq_true c3
          refine fin false ?_ _ (Same.refl _)
          unfold isName
          rw [decide_eq_true h3]
          simp
        · have h3 : ¬ l ∈ words := by simpa using c3
          obtain ⟨d, r, rfl⟩ : ∃ d r, l = d :: r := by
            cases l with
            | nil => simp at h1
            | cons d r => exact ⟨d, r, rfl⟩
          refine ⟨_, rfl, _, _, d, rfl, rfl, hsz, (by rw [S_list]; exact atI_nat (j := 0) rfl), d, _, rfl, rfl, _, rfl, ?_⟩
          rw [letters_eq]
          refine ite2 (fun c4 => ?_) (fun c4 => ?_)
          · have h4 : d ∈ letters := of_decide_eq_true c4
            refine ⟨_, rfl, _, rfl, fun D hD => lc_it walk_str (fun i H1 => H1 D = some (.lst (((d :: r).take i).map fun c => V.bl (inRun c))) ∧ Same H H1) ?_ ?_ ?_ ?_⟩
            · exact ⟨upd_same, same_new hD⟩
            · exact fun _ _ _ _ => trivial
            · rintro i x H1 H2 hi ⟨e1, S1⟩ ⟨rfl, c, hc, rfl⟩
              have hc' : (d :: r)[i]? = some c := by
                have e2 : (S (d :: r)).cps = (d :: r).toArray := rfl
                rw [e2] at hc
                simpa using hc
              refine ⟨rfl, yes_if ?_⟩
              refine ⟨_, rfl, c, rfl, _, e1, ?_, ?_, ?_⟩
              · rw [List.length_map, List.length_take]
                refine Nat.lt_of_le_of_lt (Nat.min_le_right _ _) ?_
                exact Nat.lt_of_le_of_lt hl (by rw [sizeLine_eq]; decide)
              · rw [upd_same, List.take_succ, hc', List.map_append]
                rfl
              · intro b o e
                rw [upd_ne (ne_of_none e hD)]
                exact S1 b o e
            · rintro H1 ⟨e1, S1⟩
              have e2 : (S (d :: r)).cps.size = (d :: r).length := by
                show (d :: r).toArray.size = _
                simp
              rw [e2, List.take_length] at e1
              refine ⟨D, (d :: r).map inRun, rfl, ?_, ?_⟩
              · rw [List.map_map]
                exact SqL.of e1
              · refine fin _ ?_ _ S1
                rw [all_map]
                unfold isName
                rw [decide_eq_false h3, decide_eq_true (show 1 ≤ (d :: r).length by simp), decide_eq_true (show (d :: r).length ≤ 20 by omega)]
                simp [h4]
          · have h4 : ¬ d ∈ letters := by simpa using c4
            refine fin false ?_ _ (Same.refl _)
            unfold isName
            simp [h4]
    · have h1 : ¬ (1 : Int) ≤ l.length := by simpa using c1
      refine ⟨_, rfl, ?_⟩
      refine iteT ?_
      refine fin false ?_ _ (Same.refl _)
      unfold isName
      rw [decide_eq_false (show ¬ 1 ≤ l.length by omega)]
      simp
end
end K10

set_option Elab.async false
set_option linter.all false
set_option maxRecDepth 100000
set_option maxHeartbeats 4000000
set_option pp.maxSteps 1500
set_option pp.deepTerms false
namespace K10
open PySem PySem.Spec PyProof.Rows L2 He KH PySem.KX Lex
open PySem.W (Frag)
section
variable {w : World} {K : Frag} {mg : Str → Option Value} {base : Heap}
/-! ### run_kind -/
def spRunKind : Sp := fun vs H Q _ => ∃ l : List Nat, vs = [.str (S l)] ∧ l ≠ [] ∧ l.length ≤ 10000 ∧ ∀ H', Same H H' → Q (kdV (runKind l)) H'
theorem sc_run_kind : FnScope ["run", "sign"] ["run"] (defScope s_run_kind) := ⟨rfl, rfl, rfl, by decide +kernel, rfl, by decide +kernel, by decide +kernel⟩
theorem ok_run_kind {f : Addr} {fd : FuncData} (F : Fun K "run_kind" "run_kind" s_run_kind f fd) (T : Txt K mg) : FnOk P w K mg base CX0 3 f fd ["run"] spRunKind := by
  obtain ⟨fdR, F_is_name⟩ := T.f_is_name
  have G_is_name : FnOk P w K mg base CX0 2 _ fdR ["value"] spIsName := ok_is_name F_is_name T
  have b_is_name : Binds K fdR ["value"] [] := F_is_name.binds fun _ _ _ _ _ _ us hl => match us, hl with | [_], _ => rfl
  refine F.ok sc_run_kind (fun vs H Q E h => ?_) (fun cdv A outer s H vs Q E hr h => ?_)
  · obtain ⟨l, rfl, _⟩ := h
    rfl
  · obtain ⟨l, rfl, hne, hl, q⟩ := h
    have sc := sc_run_kind
    have hr_is_name := hr
    have hsz : (S l).length ≤ sizeLine := by rw [S_len]; exact size10k hl
    have fin : ∀ k : Option Kd, k = runKind l → ∀ H', Same H H' → Q (kdV k) H' := fun b e => by rw [e]; exact q
    refine ⟨_, (pss_cons (ps_if (pt_cmpR op_in_seq (pv 0) (pe_glob (v := .ref _) rfl T.g_WORDS rfl) rfl)
        (pss_one (ps_ret pe_str))
        pss_nil)
      (pss_cons (ps_if (pt_val (pe_call G_is_name hr_is_name rfl T.g_is_name F_is_name.kp b_is_name .nil pass0 (pa_cons (pv 0) pa_nil)))
        (pss_one (ps_ret pe_str))
        pss_nil)
      (pss_cons (ps_if (PW.pt (pw_and (pt_cmpR op_le (pe_callB call_len_str rfl T.n_len (by decide +kernel) (pa_cons (pv 0) pa_nil)) (pe_gi rfl T.c_MOST_DIGITS) (nomark _)) (pw_and (pt_val (pe_callB (cr_all rfl) rfl T.n_all (by decide +kernel) (pa_cons (pe_lc (own := [("sign", 1)]) (g := gName 1) (tt := tYes) rfl sc.nd (pi_str (pv 0)) (blkOk_by (N := ["run", "sign"]) (sc := defScope s_run_kind) (by decide +kernel)) (fun _ _ _ _ _ => pg_name (i := 1) sc.nd rfl (Or.inl rfl)) (fun _ _ _ _ _ => pts_nil) (fun _ _ _ _ _ => pe_cmpR op_in_sign (pv 1) (pe_gs rfl T.c_DIGITS) rfl)) pa_nil))) (pw_and1 (PW.pt (pw_or (pt_cmpR op_ne (pe_ix (r := rIxS) ix_str (pv 0) pe_int (fun _ _ => rfl)) pe_str (nomark _)) (pw_or1 (pt_cmpR op_eq (pv 0) pe_str (nomark _)))))))))
        (pss_one (ps_ret pe_str))
        pss_nil)
      (pss_one (ps_ret pe_non))))), ?_⟩
    refine ⟨_, rfl, _, wordsV, rfl, .inl (lw (T := T) H), rfl, (by decide +kernel), _, rfl, ?_⟩
    show if inV (V.str (S l)) wordsV = true then _ else _
    have ei : inV (V.str (S l)) wordsV = decide (l ∈ words) := inV_strs l words
    rw [ei]
    refine ite2 (fun c1 => ?_) (fun c1 => ?_)
    · have h1 : l ∈ words := of_decide_eq_true c1
      refine fin (some .word) ?_ _ (Same.refl _)
      unfold runKind
      rw [if_pos h1]
    · have h1 : ¬ l ∈ words := by simpa using c1
      refine ⟨_, rfl, l, rfl, hl, fun H1 S1 => ⟨_, rfl, ?_⟩⟩
      refine ite2 (fun c2 => ?_) (fun c2 => ?_)
      · refine fin (some .name) ?_ _ S1
        unfold runKind
        rw [if_neg h1, if_pos c2]
      · have no : ∀ H', Same H H' → isNumber l = false → Q .non H' := fun H' S' e => by
          refine fin none ?_ _ S'
          unfold runKind
          rw [if_neg h1, if_neg c2, e]
          rfl
        have yes : ∀ H', Same H H' → isNumber l = true → Q (.str "number") H' := fun H' S' e => by
          refine fin (some .number) ?_ _ S'
          unfold runKind
          rw [if_neg h1, if_neg c2, if_pos e]
        refine ⟨_, rfl, _, rfl, hsz, _, _, rfl, rfl, _, rfl, ?_⟩
        rw [S_len]
        refine ite2 (fun c3 => ?_) (fun c3 => ?_)
        · have h3 : (l.length : Int) ≤ 18 := of_decide_eq_true c3
          obtain ⟨d, r, rfl⟩ : ∃ d r, l = d :: r := by
            cases l with
            | nil => exact absurd rfl hne
            | cons d r => exact ⟨d, r, rfl⟩
          refine ⟨_, rfl, _, rfl, fun D hD => lc_it walk_str (fun i H2 => H2 D = some (.lst (((d :: r).take i).map fun c => V.bl (decide (c ∈ digits)))) ∧ Same H1 H2) ?_ ?_ ?_ ?_⟩
          · exact ⟨upd_same, same_new hD⟩
          · exact fun _ _ _ _ => trivial
          · rintro i x H2 H3 hi ⟨e1, S2⟩ ⟨rfl, c, hc, rfl⟩
            have hc' : (d :: r)[i]? = some c := by
              have e2 : (S (d :: r)).cps = (d :: r).toArray := rfl
              rw [e2] at hc
              simpa using hc
            refine ⟨rfl, yes_if ?_⟩
            refine ⟨_, rfl, c, _, rfl, rfl, _, e1, ?_, ?_, ?_⟩
            · rw [List.length_map, List.length_take]
              refine Nat.lt_of_le_of_lt (Nat.min_le_right _ _) ?_
              exact Nat.lt_of_le_of_lt hl (by rw [sizeLine_eq]; decide)
            · rw [upd_same, List.take_succ, hc', List.map_append, digits_eq]
              rfl
            · intro b o e
              rw [upd_ne (ne_of_none e hD)]
              exact S2 b o e
          · rintro H2 ⟨e1, S2⟩
            have e2 : (S (d :: r)).cps.size = (d :: r).length := by
              show (d :: r).toArray.size = _
              simp
            rw [e2, List.take_length] at e1
            have S12 := S1.trans S2
            refine ⟨D, (d :: r).map fun c => decide (c ∈ digits), rfl, ?_, _, rfl, ?_⟩
            · rw [List.map_map]
              exact SqL.of e1
            · rw [all_map]
              refine ite2 (fun c4 => ?_) (fun c4 => ?_)
              · refine ⟨_, rfl, _, _, d, rfl, rfl, hsz, (by rw [S_list]; exact atI_nat (j := 0) rfl), rfl, _, rfl, ?_⟩
                have e0 : decide (V.str ⟨#[d]⟩ = V.str (Str.ofString "0")) = decide (d = 48) := by rw [zero_eq]; exact dec_s1 d 48
                rw [e0]
                refine ite2 (fun c5 => ?_) (fun c5 => ?_)
                · refine yes _ S12 ?_
                  have h5 : ¬ d = 48 := by simpa using c5
                  unfold isNumber
                  rw [c4, decide_eq_true (show (d :: r).length ≤ 18 by omega)]
                  simp [h5]
                · have h5 : d = 48 := by simpa using c5
                  subst h5
                  refine ⟨_, rfl, rfl, _, rfl, ?_⟩
                  have e0' : decide (V.str (S (48 :: r)) = V.str (Str.ofString "0")) = decide (48 :: r = [48]) := by rw [zero_eq]; exact dec_s _ _
                  rw [e0']
                  refine ite2 (fun c6 => ?_) (fun c6 => ?_)
                  · refine yes _ S12 ?_
                    have h6 : 48 :: r = [48] := of_decide_eq_true c6
                    unfold isNumber
                    rw [c4, decide_eq_true (show (48 :: r).length ≤ 18 by omega), decide_eq_true h6]
                    simp
                  · refine no _ S12 ?_
                    have h6 : ¬ 48 :: r = [48] := fun e => c6 (decide_eq_true e)
                    unfold isNumber
                    rw [decide_eq_false h6]
                    simp
              · refine no _ S12 ?_
                unfold isNumber
                rw [show (d :: r).all (fun c => decide (c ∈ digits)) = false by simpa using c4]
                simp
        · refine no _ S1 ?_
          have h3 : ¬ (l.length : Int) ≤ 18 := by simpa using c3
          unfold isNumber
          rw [decide_eq_false (show ¬ l.length ≤ 18 by omega)]
          simp
end
end K10

set_option Elab.async false
set_option linter.all false
set_option maxRecDepth 100000
set_option maxHeartbeats 4000000
set_option pp.maxSteps 1500
set_option pp.deepTerms false
namespace Lex
theorem tokenAt_le {c : Nat} {r : List Nat} {k : Kd} {m : Nat} (h : tokenAt (c :: r) = (some k, m)) : m ≤ (c :: r).length := by
  rw [tokenAt_cons] at h
  by_cases h1 : inRun c = true
  · rw [if_pos h1] at h
    have e : runLen (c :: r) = m := congrArg Prod.snd h
    rw [← e]
    unfold runLen
    exact (List.takeWhile_prefix _).length_le
  · rw [if_neg h1] at h
    by_cases h2 : c = 39
    · rw [if_pos h2] at h
      by_cases h3 : r[txtLen r]? = some 39 ∧ txtLen r ≤ 40
      · have e : txtLen r + 2 = m := congrArg Prod.snd h
        have := (List.getElem?_eq_some_iff.mp h3.1).1
        rw [List.length_cons]
        omega
      · rw [if_neg h3] at h
        have e : (none : Option Kd) = some k := congrArg Prod.fst h
        cases e
    · rw [if_neg h2] at h
      by_cases h3 : (c :: r).take 2 = [61, 61] ∨ (c :: r).take 2 = [60, 61]
      · rw [if_pos h3] at h
        have e : 2 = m := congrArg Prod.snd h
        have hl : ((c :: r).take 2).length = 2 := by rcases h3 with h3 | h3 <;> rw [h3] <;> rfl
        rw [List.length_take] at hl
        omega
      · rw [if_neg h3] at h
        have e : 1 = m := congrArg Prod.snd h
        rw [List.length_cons]
        omega
theorem txtLen_cons (d : Nat) (r : List Nat) : txtLen (d :: r) = if d = 39 ∨ d = 10 then 0 else txtLen r + 1 := by
  unfold txtLen
  rw [List.takeWhile_cons]
  by_cases h : d = 39 ∨ d = 10
  · have : (!(decide (d = 39) || decide (d = 10))) = false := by rcases h with h | h <;> simp [h]
    rw [this, if_pos h]
    rfl
  · have : (!(decide (d = 39) || decide (d = 10))) = true := by simpa using h
    rw [this, if_neg h]
    rfl
end Lex
namespace K10
open PySem PySem.Spec PyProof.Rows L2 He KH PySem.KX Lex
open PySem.W (Frag)
theorem quote_eq : Str.ofString "'" = S [39] := by decide +kernel
theorem qn_eq : (Str.ofString "'\n").cps.toList = [39, 10] := by decide +kernel
theorem two_eq : ([V.str "==", V.str "<="] : List V) = ([[61, 61], [60, 61]] : List (List Nat)).map fun w => V.str (S w) := by decide +kernel
section
variable {w : World} {K : Frag} {mg : Str → Option Value} {base : Heap}
/-! ### token_at -/
def spTokenAt : Sp := fun vs H Q _ => ∃ (l : List Nat) (at_ : Nat), vs = [.str (S l), .int at_] ∧ l.length ≤ 10000 ∧ at_ < l.length ∧
  ∀ p H', Same H H' → H' p = some (.tup [kdV (tokenAt (l.drop at_)).1, .int ((at_ + (tokenAt (l.drop at_)).2 : Nat) : Int)]) → Q (.ref p) H'
theorem sc_token_at : FnScope ["text", "at", "sign", "end", "is_whole"] ["text", "at"] (defScope s_token_at) := ⟨rfl, rfl, rfl, by decide +kernel, rfl, by decide +kernel, by decide +kernel⟩
theorem ok_token_at {f : Addr} {fd : FuncData} (F : Fun K "token_at" "token_at" s_token_at f fd) (T : Txt K mg) : FnOk P w K mg base CX0 4 f fd ["text", "at"] spTokenAt := by
  obtain ⟨fdR, F_is_in_run⟩ := T.f_is_in_run
  obtain ⟨fdE, F_run_end⟩ := T.f_run_end
  obtain ⟨fdK, F_run_kind⟩ := T.f_run_kind
  have G_is_in_run : FnOk P w K mg base CX0 1 _ fdR ["sign"] spInRun := ok_is_in_run F_is_in_run T
  have b_is_in_run : Binds K fdR ["sign"] [] := F_is_in_run.binds fun _ _ _ _ _ _ us hl => match us, hl with | [_], _ => rfl
  have G_run_end : FnOk P w K mg base CX0 2 _ fdE ["text", "at"] spRunEnd := ok_run_end F_run_end F_is_in_run rfl T
  have b_run_end : Binds K fdE ["text", "at"] [] := F_run_end.binds fun _ _ _ _ _ _ us hl => match us, hl with | [_, _], _ => rfl
  have G_run_kind : FnOk P w K mg base CX0 3 _ fdK ["run"] spRunKind := ok_run_kind F_run_kind T
  have b_run_kind : Binds K fdK ["run"] [] := F_run_kind.binds fun _ _ _ _ _ _ us hl => match us, hl with | [_], _ => rfl
  refine F.ok sc_token_at (fun vs H Q E h => ?_) (fun cdv A outer s H vs Q E hr h => ?_)
  · obtain ⟨l, at_, rfl, _⟩ := h
    rfl
  · obtain ⟨l, at_, rfl, hl, ha, q⟩ := h
    have sc := sc_token_at
    have hr_is_in_run : Room 1 _ := hr.mono (by decide)
    have hr_run_end : Room 2 _ := hr.mono (by decide)
    have hr_run_kind := hr
    have hsz : (S l).length ≤ sizeLine := by rw [S_len]; exact size10k hl
    refine ⟨_, (pss_cons (ps_set (i := 2) sc.nd rfl (Or.inl rfl) (pe_ix (r := rIxS) ix_str (pv 0) (pv 1) (fun _ _ => rfl)))
      (pss_cons (ps_if (pt_val (pe_call G_is_in_run hr_is_in_run rfl T.g_is_in_run F_is_in_run.kp b_is_in_run .nil pass0 (pa_cons (pv 2) pa_nil)))
        (pss_cons (ps_set (i := 3) sc.nd rfl (Or.inl rfl) (pe_call G_run_end hr_run_end rfl T.g_run_end F_run_end.kp b_run_end .nil pass0 (pa_cons (pv 0) (pa_cons (pv 1) pa_nil))))
        (pss_one (ps_ret (pe_tup (pa_cons (pe_call G_run_kind hr_run_kind rfl T.g_run_kind F_run_kind.kp b_run_kind .nil pass0 (pa_cons (pe_slice sl_str (pv 0) (po_some (pv 1)) (po_some (pv 3))) pa_nil)) (pa_cons (pv 3) pa_nil))))))
        pss_nil)
      (pss_cons (ps_if (pt_cmpR op_eq (pv 2) pe_str (nomark _))
        (pss_cons (ps_set (i := 3) sc.nd rfl (Or.inl rfl) (pe_op op_add (pv 1) pe_int))
        (pss_cons (ps_while PassesOwn.never (PW.pt (pw_and (pt_cmpR op_lt (pv 3) (pe_callB call_len_str rfl T.n_len (by decide +kernel) (pa_cons (pv 0) pa_nil)) (nomark _)) (pw_and1 (pt_cmpR op_notIn_sign (pe_ix (r := rIxS) ix_str (pv 0) (pv 3) (fun _ _ => rfl)) pe_str rfl))))
          (pss_one (ps_aug (i := 3) sc.nd rfl (Or.inl rfl) pe_int ip_add)))
        (pss_cons (ps_set (i := 4) sc.nd rfl (Or.inl rfl) (pe_and (pe_cmpR op_lt (pv 3) (pe_callB call_len_str rfl T.n_len (by decide +kernel) (pa_cons (pv 0) pa_nil)) (nomark _)) (pe_and (pe_cmpR op_eq (pe_ix (r := rIxS) ix_str (pv 0) (pv 3) (fun _ _ => rfl)) pe_str (nomark _)) (pe_one (pe_cmpR op_le (pe_op op_sub (pe_op op_sub (pv 3) (pv 1)) pe_int) (pe_gi rfl T.c_MOST_IN_TEXT) (nomark _))))))
        (pss_one (ps_ret (pe_tup (pa_cons (pe_ifExp (pt_val (pv 4)) pe_str pe_non) (pa_cons (pe_op op_add (pv 3) pe_int) pa_nil))))))))
        pss_nil)
      (pss_cons (ps_if (pt_cmpR op_in_seq (pe_slice sl_str (pv 0) (po_some (pv 1)) (po_some (pe_op op_add (pv 1) pe_int))) (pe_tup (pa_cons pe_str (pa_cons pe_str pa_nil))) rfl)
        (pss_one (ps_ret (pe_tup (pa_cons pe_str (pa_cons (pe_op op_add (pv 1) pe_int) pa_nil)))))
        pss_nil)
      (pss_one (ps_ret (pe_tup (pa_cons (pe_ifExp (pt_cmpR op_in_sign (pv 2) (pe_gs rfl T.c_SIGNS) rfl) pe_str pe_non) (pa_cons (pe_op op_add (pv 1) pe_int) pa_nil))))))))), ?_⟩
    obtain ⟨c, hc, hdr⟩ := drop_at ha
    have hat : atI (S l).cps.toList (at_ : Int) = some c := by rw [S_list]; exact atI_nat hc
    generalize hr' : l.drop (at_ + 1) = r at hdr
    have tk := tokenAt_cons c r
    rw [hdr] at q
    refine ⟨_, rfl, _, rfl, _, _, c, rfl, rfl, hsz, hat, ?_⟩
    refine ⟨_, rfl, c, rfl, _, rfl, ?_⟩
    refine ite2 (fun c1 => ?_) (fun c1 => ?_)
    · rw [if_pos c1] at tk
      rw [tk] at q
      refine ⟨_, rfl, _, rfl, l, at_, rfl, hl, Nat.le_of_lt ha, ?_⟩
      refine ⟨_, rfl, _, rfl, _, rfl, _, rfl, _, rfl, _, rfl, hsz, (l.drop at_).take (runLen (l.drop at_)), ?_, ?_, ?_, fun H1 S1 => ?_⟩
      · rw [cutS_S (Nat.le_of_lt ha) (Nat.le_add_right _ _), Nat.add_sub_cancel_left]
        rfl
      · rw [hdr, runLen_pos c1]
        simp
      · rw [List.length_take, List.length_drop]
        omega
      · refine ⟨_, rfl, (by show 2 ≤ sizeLine; decide), fun p hp => ?_⟩
        refine q p _ (S1.trans (same_new hp)) ?_
        rw [upd_same, hdr]
    · rw [if_neg c1] at tk
      refine ⟨_, rfl, rfl, _, rfl, ?_⟩
      have e39 : decide (V.str ⟨#[c]⟩ = V.str (Str.ofString "'")) = decide (c = 39) := by rw [quote_eq]; exact dec_s1 c 39
      rw [e39]
      refine ite2 (fun c2 => ?_) (fun c2 => ?_)
      · have h39 : c = 39 := of_decide_eq_true c2
        rw [if_pos h39] at tk
        rw [tk] at q
        refine ⟨_, rfl, _, _, rfl, rfl, ?_⟩
        refine ⟨fun m σ H1 => ∃ j : Nat, σ = [some (.str (S l)), some (.int at_), some (.str (S [c])), some (.int j), none] ∧ H1 = H ∧ at_ + 1 ≤ j ∧ j ≤ l.length ∧ m = l.length - j ∧ at_ + 1 + txtLen r = j + txtLen (l.drop j), ⟨_, at_ + 1, rfl, rfl, Nat.le_refl _, ha, rfl, by rw [hr']⟩, ?_⟩
        rintro m σ H1 ⟨j, rfl, rfl, hj1, hj, rfl, e⟩
        refine ⟨_, rfl, _, rfl, _, rfl, hsz, _, _, rfl, rfl, _, rfl, ?_⟩
        rw [S_len]
        -- behind the loop
        have fin : txtLen (l.drop j) = 0 → ∀ whole : Bool, whole = decide (r[txtLen r]? = some 39 ∧ txtLen r ≤ 40) → ∀ (p : Addr), H1 p = none →
            Q (.ref p) (upd H1 p (.tup [if whole = true then V.str "text" else .non, .int ((j : Int) + 1)])) := fun ez whole ew p hp => by
          refine q p _ (same_new hp) ?_
          rw [upd_same, ew]
          have e3 : (j : Int) + 1 = ((at_ + (txtLen r + 2) : Nat) : Int) := by omega
          rw [e3]
          by_cases hw : r[txtLen r]? = some 39 ∧ txtLen r ≤ 40
          · rw [decide_eq_true hw, if_pos rfl, if_pos hw]
            rfl
          · rw [decide_eq_false hw, if_neg Bool.false_ne_true, if_neg hw]
            rfl
        have hget : txtLen (l.drop j) = 0 → r[txtLen r]? = l[j]? := fun ez => by
          rw [← hr', List.getElem?_drop]
          congr 1
          rw [hr']
          omega
        refine ite2 (fun c3 => ?_) (fun c3 => ?_)
        · have hjl : j < l.length := by simpa using c3
          obtain ⟨d2, hd2, hdr2⟩ := drop_at hjl
          have hat2 : atI (S l).cps.toList (j : Int) = some d2 := by rw [S_list]; exact atI_nat hd2
          refine ⟨_, rfl, _, rfl, _, _, d2, rfl, rfl, hsz, hat2, d2, _, rfl, rfl, _, rfl, ?_⟩
          rw [qn_eq]
          refine ite2 (fun c4 => ?_) (fun c4 => ?_)
          · have h4 : ¬ (d2 = 39 ∨ d2 = 10) := by simpa using c4
            refine ⟨_, fun _ _ h => h, ?_⟩
            refine ⟨_, rfl, _, _, rfl, rfl, ?_⟩
            refine ⟨l.length - (j + 1), by omega, j + 1, rfl, rfl, by omega, by omega, rfl, ?_⟩
            rw [e, hdr2, txtLen_cons, if_neg h4]
            omega
          · have h4 : d2 = 39 ∨ d2 = 10 := by
              have z : ¬ d2 = 39 → d2 = 10 := by simpa using c4
              by_cases hq : d2 = 39
              · exact .inl hq
              · exact .inr (z hq)
            have ez : txtLen (l.drop j) = 0 := by rw [hdr2, txtLen_cons, if_pos h4]
            have hg := hget ez
            refine ⟨_, rfl, _, rfl, _, rfl, hsz, _, _, rfl, rfl, _, rfl, ?_⟩
            rw [S_len, decide_eq_true (show (j : Int) < (l.length : Int) by omega)]
            refine iteT ?_
            refine ⟨_, rfl, _, rfl, _, _, d2, rfl, rfl, hsz, hat2, rfl, _, rfl, ?_⟩
            have e39' : decide (V.str ⟨#[d2]⟩ = V.str (Str.ofString "'")) = decide (d2 = 39) := by rw [quote_eq]; exact dec_s1 d2 39
            rw [e39']
            refine ite2 (fun c5 => ?_) (fun c5 => ?_)
            · have h5 : d2 = 39 := of_decide_eq_true c5
              refine ⟨_, rfl, _, rfl, _, _, rfl, rfl, _, _, rfl, rfl, _, _, rfl, rfl, ?_⟩
              refine ⟨_, rfl, _, rfl, ?_⟩
              have ew : decide ((j : Int) - (at_ : Int) - 1 ≤ 40) = decide (r[txtLen r]? = some 39 ∧ txtLen r ≤ 40) := by
                by_cases hw : (j : Int) - (at_ : Int) - 1 ≤ 40
                · rw [decide_eq_true hw, decide_eq_true ⟨by rw [hg, hd2, h5], by omega⟩]
                · rw [decide_eq_false hw, decide_eq_false fun z => hw (by omega)]
              refine ite2 (fun c6 => ?_) (fun c6 => ?_)
              · refine ⟨_, rfl, _, _, rfl, rfl, (by show 2 ≤ sizeLine; decide), fun p hp => ?_⟩
                exact fin ez true (by rw [← ew]; exact c6.symm) p hp
              · refine ⟨_, rfl, _, _, rfl, rfl, (by show 2 ≤ sizeLine; decide), fun p hp => ?_⟩
                exact fin ez false (by rw [← ew]; exact (by simpa using c6 : decide ((j : Int) - (at_ : Int) - 1 ≤ 40) = false).symm) p hp
            · have h5 : ¬ d2 = 39 := by simpa using c5
              refine ⟨_, rfl, _, rfl, ?_⟩
              refine iteF ?_
              refine ⟨_, rfl, _, _, rfl, rfl, (by show 2 ≤ sizeLine; decide), fun p hp => ?_⟩
              exact fin ez false (by rw [hg, hd2]; simp [h5]) p hp
        · have hjl : j = l.length := by
            have : ¬ j < l.length := by simpa using c3
            omega
          have ez : txtLen (l.drop j) = 0 := by rw [hjl, List.drop_length]; rfl
          have hg := hget ez
          refine ⟨_, rfl, _, rfl, _, rfl, hsz, _, _, rfl, rfl, _, rfl, ?_⟩
          rw [S_len, decide_eq_false (show ¬ (j : Int) < (l.length : Int) by omega)]
          refine iteF ?_
          refine ⟨_, rfl, _, rfl, ?_⟩
          refine iteF ?_
          refine ⟨_, rfl, _, _, rfl, rfl, (by show 2 ≤ sizeLine; decide), fun p hp => ?_⟩
          exact fin ez false (by rw [hg, hjl]; simp) p hp
      · have h39 : ¬ c = 39 := by simpa using c2
        rw [if_neg h39] at tk
        refine ⟨_, rfl, _, rfl, _, rfl, _, rfl, _, _, rfl, rfl, _, rfl, _, rfl, hsz, (by show 2 ≤ sizeLine; decide), fun p0 hp0 => ?_⟩
        refine ⟨p0, [V.str "==", V.str "<="], rfl, .inr (SqT.of upd_same), rfl, rfl, _, rfl, ?_⟩
        have ecut : cutS (S l) (some (at_ : Int)) (some ((at_ : Int) + 2)) = S ((c :: r).take 2) := by
          have := cutS_S (l := l) (a := at_) (b := at_ + 2) (Nat.le_of_lt ha) (Nat.le_add_right _ _)
          rw [Nat.add_sub_cancel_left, hdr] at this
          exact this
        show if inV (V.str (cutS (S l) (some (at_ : Int)) (some ((at_ : Int) + 2)))) [V.str "==", V.str "<="] = true then _ else _
        rw [ecut, two_eq, inV_strs]
        have em : ((c :: r).take 2 ∈ ([[61, 61], [60, 61]] : List (List Nat))) ↔ ((c :: r).take 2 = [61, 61] ∨ (c :: r).take 2 = [60, 61]) := by simp only [List.mem_cons, List.not_mem_nil, or_false]
        have S0 : Same H (upd H p0 (.tup [V.str "==", V.str "<="])) := same_new hp0
        refine ite2 (fun c3 => ?_) (fun c3 => ?_)
        · have h3 := em.mp (of_decide_eq_true c3)
          rw [if_pos h3] at tk
          rw [tk] at q
          refine ⟨_, rfl, _, _, rfl, rfl, (by show 2 ≤ sizeLine; decide), fun p hp => ?_⟩
          exact q p _ (S0.trans (same_new hp)) upd_same
        · have h3 : ¬ ((c :: r).take 2 = [61, 61] ∨ (c :: r).take 2 = [60, 61]) := fun z => c3 (decide_eq_true (em.mpr z))
          rw [if_neg h3] at tk
          rw [tk] at q
          refine ⟨_, rfl, c, _, rfl, rfl, _, rfl, ?_⟩
          rw [signs_eq]
          refine ite2 (fun c4 => ?_) (fun c4 => ?_)
          · refine ⟨_, rfl, _, _, rfl, rfl, (by show 2 ≤ sizeLine; decide), fun p hp => ?_⟩
            refine q p _ (S0.trans (same_new hp)) ?_
            rw [upd_same, if_pos (of_decide_eq_true c4)]
            rfl
          · refine ⟨_, rfl, _, _, rfl, rfl, (by show 2 ≤ sizeLine; decide), fun p hp => ?_⟩
            refine q p _ (S0.trans (same_new hp)) ?_
            rw [upd_same, if_neg fun z => c4 (decide_eq_true z)]
            rfl
end
end K10

set_option Elab.async false
set_option linter.all false
set_option maxRecDepth 100000
set_option maxHeartbeats 4000000
set_option pp.maxSteps 1500
set_option pp.deepTerms false
namespace K10
open PySem PySem.Spec PyProof.Rows L2 He KH PySem.KX Lex
open PySem.W (Frag)
/-- the tuples of the tokens ts, at these places -/
def Toks (H : Hp) : List Addr → List Lex.Tok → Prop
  | [], [] => True
  | a :: as, t :: ts => H a = some (.tup [.str (kdS t.1), .str (S t.2.1), .int (t.2.2 : Int)]) ∧ Toks H as ts
  | _, _ => False
theorem Toks.same {H H' : Hp} (e : Same H H') : ∀ {as : List Addr} {ts : List Lex.Tok}, Toks H as ts → Toks H' as ts
  | [], [], _ => trivial
  | a :: as, t :: ts, h => ⟨e _ _ h.1, Toks.same e h.2⟩
  | [], _ :: _, h => h.elim
  | _ :: _, [], h => h.elim
theorem Toks.snoc {H : Hp} {a : Addr} {t : Lex.Tok} (ha : H a = some (.tup [.str (kdS t.1), .str (S t.2.1), .int (t.2.2 : Int)])) : ∀ {as : List Addr} {ts : List Lex.Tok}, Toks H as ts → Toks H (as ++ [a]) (ts ++ [t])
  | [], [], _ => ⟨ha, trivial⟩
  | b :: as, u :: ts, h => ⟨h.1, Toks.snoc ha h.2⟩
  | [], _ :: _, h => h.elim
  | _ :: _, [], h => h.elim
theorem Toks.len {H : Hp} : ∀ {as : List Addr} {ts : List Lex.Tok}, Toks H as ts → as.length = ts.length
  | [], [], _ => rfl
  | _ :: _, _ :: _, h => by rw [List.length_cons, List.length_cons, Toks.len h.2]
  | [], _ :: _, h => h.elim
  | _ :: _, [], h => h.elim
theorem toks_keep {H H' : Hp} (hk : ∀ b xs, H b = some (.tup xs) → H' b = some (.tup xs)) : ∀ {as : List Addr} {ts : List Lex.Tok}, Toks H as ts → Toks H' as ts
  | [], [], _ => trivial
  | a :: as, t :: ts, h => ⟨hk _ _ h.1, toks_keep hk h.2⟩
  | [], _ :: _, h => h.elim
  | _ :: _, [], h => h.elim
/-- a value that is no text -/
def NoText (K : Frag) (H : Hp) (v : V) : Prop := ∃ t, TyX K H v t ∧ PySem.W.kitOne K t (.type "str") = some false
section
variable {w : World} {K : Frag} {mg : Str → Option Value} {base : Heap}
def spTokens (K : Frag) : Sp := fun vs H Q E => ∃ v : V, vs = [v] ∧
  ((∃ l : List Nat, v = .str (S l) ∧ l.length ≤ 5000 ∧ (∀ ts, lexF (l.length + 1) 0 l = .ok ts → ∀ p as H', Same H H' → H' p = some (.lst (as.map V.ref)) → Toks H' as ts → Q (.ref p) H') ∧
      (∀ e, lexF (l.length + 1) 0 l = .error e → ∀ d H', Same H H' → H' d = some (.xd [("at", .int (e : Int))]) → E (.ref (ga K "BadText")) (some d) H')) ∨
    (((∃ l : List Nat, v = .str (S l) ∧ 5000 < l.length ∧ l.length ≤ 10000) ∨ NoText K H v) ∧ ∀ d H', Same H H' → H' d = some (.xd [("at", .non)]) → E (.ref (ga K "BadText")) (some d) H'))
theorem sc_tokens : FnScope ["text", "found", "at", "kind", "end"] ["text"] (defScope s_tokens) := ⟨rfl, rfl, rfl, by decide +kernel, rfl, by decide +kernel, by decide +kernel⟩
theorem ok_tokens {f : Addr} {fd : FuncData} (F : Fun K "tokens" "tokens" s_tokens f fd) (T : Txt K mg) : FnOk P w K mg base (L2.CX P w) 5 f fd ["text"] (spTokens K) := by
  obtain ⟨fdB, F_blank_end⟩ := T.f_blank_end
  obtain ⟨fdT, F_token_at⟩ := T.f_token_at
  have G_blank_end : FnOk P w K mg base CX0 1 _ fdB ["text", "at"] spBlankEnd := ok_blank_end F_blank_end T
  have b_blank_end : Binds K fdB ["text", "at"] [] := F_blank_end.binds fun _ _ _ _ _ _ us hl => match us, hl with | [_, _], _ => rfl
  have G_token_at : FnOk P w K mg base CX0 4 _ fdT ["text", "at"] spTokenAt := ok_token_at F_token_at T
  have b_token_at : Binds K fdT ["text", "at"] [] := F_token_at.binds fun _ _ _ _ _ _ us hl => match us, hl with | [_, _], _ => rfl
  have M_BadText : ExMk P w K mg (ga K "BadText") (iAd K "BadText") (mk1 "at") := exMk1 T.x_BadText (by simp) sh_BadText fld_at
  refine F.okX sc_tokens (fun vs H Q E h => ?_) (fun cdv A outer s H vs Q E hr h => ?_)
  · obtain ⟨v, rfl, _⟩ := h
    rfl
  · have sc := sc_tokens
    have hr_blank_end : Room 1 _ := hr.mono (by decide)
    have hr_token_at := hr
    obtain ⟨v, rfl, h⟩ := h
    refine ⟨_, (pss_cons (ps_if (PW.pt (pw_or (pt_not (pt_val (pe_callB call_isi rfl T.n_isinstance (by decide +kernel) (pa_cons (pv 0) (pa_cons (pe_bltn (v := .ty "str") (u := .type "str") rfl T.n_str (by decide +kernel) rfl) pa_nil))))) (pw_or1 (pt_cmpR op_gt (pe_callB call_len_str rfl T.n_len (by decide +kernel) (pa_cons (pv 0) pa_nil)) (pe_gi rfl T.c_MOST_SIGNS) (nomark _)))))
        (pss_one (ps_raiseX rfl T.x_BadText M_BadText T.g_BadText T.n_super hr (takes_of rfl rfl rfl rfl) (pa_cons pe_non pa_nil) rfl))
        pss_nil)
      (pss_cons (ps_par (i := 1) (j := 2) rfl sc.nd rfl rfl (by decide) rfl rfl (pa_cons (pe_lst pa_nil) (pa_cons (pe_call G_blank_end hr_blank_end rfl T.g_blank_end F_blank_end.kp b_blank_end .nil pass0 (pa_cons (pv 0) (pa_cons pe_int pa_nil))) pa_nil)) rfl)
      (pss_cons (ps_while (passes_of rfl) (pt_cmpR op_lt (pv 2) (pe_callB call_len_str rfl T.n_len (by decide +kernel) (pa_cons (pv 0) pa_nil)) (nomark _))
        (pss_cons (ps_asg (pe_call G_token_at hr_token_at rfl T.g_token_at F_token_at.kp b_token_at .nil pass0 (pa_cons (pv 0) (pa_cons (pv 2) pa_nil))) (pg_tup rfl (pgs_cons (pg_name (i := 3) sc.nd rfl (Or.inl rfl)) (pgs_cons (pg_name (i := 4) sc.nd rfl (Or.inl rfl)) pgs_nil))))
        (pss_cons (ps_if (pt_cmpR op_isN (pv 3) pe_non (nomark _))
          (pss_one (ps_raiseX rfl T.x_BadText M_BadText T.g_BadText T.n_super hr (takes_of rfl rfl rfl rfl) (pa_cons (pv 2) pa_nil) rfl))
          pss_nil)
        (pss_cons (ps_expr (pe_bm PySem.F.plainAttrs_list PySem.F.slot_list_append PySem.F.type_list_append mt_append (pv 1) (pa_cons (pe_tup (pa_cons (pv 3) (pa_cons (pe_slice sl_str (pv 0) (po_some (pv 2)) (po_some (pv 4))) (pa_cons (pv 2) pa_nil)))) pa_nil)))
        (pss_one (ps_set (i := 2) sc.nd rfl (Or.inl rfl) (pe_call G_blank_end hr_blank_end rfl T.g_blank_end F_blank_end.kp b_blank_end .nil pass0 (pa_cons (pv 0) (pa_cons (pv 4) pa_nil)))))))))
      (pss_one (ps_ret (pv 1)))))), ?_⟩
    rcases h with ⟨l, rfl, hl, hok, herr⟩ | ⟨hv, herr⟩
    · have hsz : (S l).length ≤ sizeLine := by rw [S_len]; exact size10k (by omega)
      refine ⟨_, rfl, _, _, .type "str", .type "str", true, rfl, .ty "str", .base (.str _), kit_ty (by decide +kernel), _, rfl, ?_⟩
      refine iteF ?_
      refine ⟨_, rfl, _, rfl, hsz, _, _, rfl, rfl, _, rfl, ?_⟩
      rw [S_len, decide_eq_false (show ¬ (5000 : Int) < (l.length : Int) by omega)]
      refine iteF ?_
      refine ⟨(by show 0 ≤ sizeLine; decide), fun p hp => ?_⟩
      refine ⟨_, rfl, l, 0, rfl, by omega, Nat.zero_le _, _, _, rfl, ?_⟩
      have hdd : ∀ a b : Nat, (l.drop a).drop b = l.drop (a + b) := fun a b => by rw [List.drop_drop]
      refine ⟨fun m σ H1 => ∃ (e n : Nat) (pre : List Lex.Tok) (as : List Addr) (v3 v4 : Option V), σ = [some (.str (S l)), some (.ref p), some (.int ((e + bl false (l.drop e) : Nat) : Int)), v3, v4] ∧ Same H H1 ∧ H1 p = some (.lst (as.map V.ref)) ∧ Toks H1 as pre ∧ e ≤ l.length ∧ pre.length ≤ e ∧
          m = l.length - (e + bl false (l.drop e)) ∧ (l.drop e).length < n ∧ lexF (l.length + 1) 0 l = (lexF n e (l.drop e)).map fun ts => pre ++ ts,
        ⟨_, 0, l.length + 1, [], [], _, _, rfl, same_new hp, upd_same, trivial, Nat.zero_le _, Nat.le_refl _, rfl, (by rw [List.drop_zero]; exact Nat.lt_succ_self _), by rw [map_id', List.drop_zero]⟩, ?_⟩
      rintro m σ H1 ⟨e, n, pre, as, v3, v4, rfl, S1, hp1, tk1, he, hpl, rfl, hn, elex⟩
      have hble := bl_le false (l.drop e)
      rw [List.length_drop] at hble
      refine ⟨_, rfl, _, rfl, _, rfl, hsz, _, _, rfl, rfl, _, rfl, ?_⟩
      rw [S_len]
      obtain ⟨n', rfl⟩ : ∃ n', n = n' + 1 := ⟨n - 1, by omega⟩
      refine ite2 (fun c1 => ?_) (fun c1 => ?_)
      · have hat : e + bl false (l.drop e) < l.length := by
          have := of_decide_eq_true c1
          omega
        refine ⟨_, fun _ _ h => h, ?_⟩
        refine ⟨_, rfl, _, rfl, l, e + bl false (l.drop e), rfl, by omega, hat, fun t1 H2 S2 ht1 => ?_⟩
        refine ⟨t1, _, rfl, SqT.of ht1, rfl, _, _, rfl, _, _, rfl, rfl, ?_⟩
        obtain ⟨c, hc, hdr⟩ := drop_at hat
        have elex2 : lexF (n' + 1) e (l.drop e) = match tokenAt (c :: l.drop (e + bl false (l.drop e) + 1)) with
            | (none, _) => .error (e + bl false (l.drop e))
            | (some k, m) => (lexF n' (e + bl false (l.drop e) + m) ((c :: l.drop (e + bl false (l.drop e) + 1)).drop m)).map fun ts => (k, (c :: l.drop (e + bl false (l.drop e) + 1)).take m, e + bl false (l.drop e)) :: ts := by
          conv => lhs; unfold lexF
          rw [hdd, hdr]
          first | done | rfl
        rw [← hdr] at elex2
        generalize hA : e + bl false (l.drop e) = at_ at *
        refine ⟨_, rfl, rfl, _, rfl, ?_⟩
        cases etk : tokenAt (l.drop at_) with
        | mk k m =>
          rw [etk] at elex2
          cases k with
          | none =>
            rw [elex2] at elex
            refine iteT ?_
            refine ⟨_, rfl, _, rfl, (by show 1 ≤ 1000; decide), fun d hd => ?_⟩
            exact herr at_ elex d _ ((S1.trans S2).trans (same_new hd)) upd_same
          | some k =>
            refine iteF ?_
            have hm : m ≤ (l.drop at_).length := by
              rw [hdr] at etk ⊢
              exact tokenAt_le etk
            have hm1 : 1 ≤ m := by
              have := tokenAt_pos c (l.drop (at_ + 1))
              rw [← hdr, etk] at this
              exact this
            rw [List.length_drop] at hm
            have hp2 := S2 _ _ hp1
            refine ⟨_, rfl, .inl ⟨rfl, _, SqL.of hp2⟩, _, rfl, _, rfl, _, rfl, _, rfl, _, rfl, _, rfl, _, rfl, hsz, _, rfl, (by show 3 ≤ sizeLine; decide), fun t2 ht2 => ?_⟩
            have S3 : Same H2 (upd H2 t2 (.tup [V.str (kdS k), V.str (cutS (S l) (some (at_ : Int)) (some ((at_ + m : Nat) : Int))), V.int (at_ : Int)])) := same_new ht2
            have hl5 : as.length < sizeLine := by
              rw [tk1.len]
              have : pre.length ≤ 5000 := by omega
              rw [sizeLine_eq]; omega
            refine ⟨p, _, _, rfl, rfl, S3 _ _ hp2, (by rw [List.length_map]; exact hl5), ?_⟩
            refine ⟨_, rfl, _, rfl, l, at_ + m, rfl, by omega, by omega, ?_⟩
            have np2 : ∀ {b : Addr} {o : HO}, H b = some o → b ≠ p := fun e => ne_of_none e hp
            have ntp : t2 ≠ p := fun z => by rw [z, hp2] at ht2; cases ht2
            have tkk : ∀ {H' : Hp} {as : List Addr} {ts : List Lex.Tok}, (∀ b xs, (upd H2 t2 (.tup [V.str (kdS k), V.str (cutS (S l) (some (at_ : Int)) (some ((at_ + m : Nat) : Int))), V.int (at_ : Int)])) b = some (.tup xs) → H' b = some (.tup xs)) → Toks (upd H2 t2 (.tup [V.str (kdS k), V.str (cutS (S l) (some (at_ : Int)) (some ((at_ + m : Nat) : Int))), V.int (at_ : Int)])) as ts → Toks H' as ts := fun {H' as ts} hk h => toks_keep hk h
            refine ⟨l.length - (at_ + m + bl false (l.drop (at_ + m))), by omega, at_ + m, n', pre ++ [(k, (l.drop at_).take m, at_)], as ++ [t2], _, _, rfl, fun b o e' => ?_, ?_, ?_, by omega, ?_, rfl, ?_, ?_⟩
            · rw [upd_ne (np2 e')]
              exact S3 _ _ (S2 _ _ (S1 _ _ e'))
            · rw [upd_same, List.map_append]
              rfl
            · refine Toks.snoc ?_ (tkk (fun b xs e' => ?_) ((tk1.same S2).same S3))
              · rw [upd_ne ntp, upd_same, cutS_S (Nat.le_of_lt hat) (Nat.le_add_right _ _), Nat.add_sub_cancel_left]
                rfl
              · rw [upd_ne]
                · exact e'
                · intro z
                  rw [z, S3 _ _ hp2] at e'
                  cases e'
            · rw [List.length_append]
              show pre.length + 1 ≤ _
              omega
            · rw [List.length_drop] at hn ⊢
              omega
            · rw [elex, elex2]
              show Except.map (fun ts => pre ++ ts) (Except.map (fun ts => (k, (l.drop at_).take m, at_) :: ts) (lexF n' (at_ + m) ((l.drop at_).drop m))) = _
              rw [hdd]
              exact map_map'
      · have hat : l.length ≤ e + bl false (l.drop e) := by
          have : ¬ ((e + bl false (l.drop e) : Nat) : Int) < (l.length : Int) := by simpa using c1
          omega
        refine ⟨_, rfl, ?_⟩
        have e1 : lexF (n' + 1) e (l.drop e) = .ok [] := lexF_end (by rw [hdd, List.drop_eq_nil_of_le hat])
        rw [e1] at elex
        refine hok pre ?_ p as H1 S1 hp1 tk1
        rw [elex]
        show Except.ok (pre ++ []) = Except.ok pre
        rw [List.append_nil]
    · rcases hv with ⟨l, rfl, hl, hl2⟩ | ⟨t, ht, hk⟩
      · have hsz : (S l).length ≤ sizeLine := by rw [S_len]; exact size10k hl2
        refine ⟨_, rfl, _, _, .type "str", .type "str", true, rfl, .ty "str", .base (.str _), kit_ty (by decide +kernel), _, rfl, ?_⟩
        refine iteF ?_
        refine ⟨_, rfl, _, rfl, hsz, _, _, rfl, rfl, _, rfl, ?_⟩
        rw [S_len, decide_eq_true (show (5000 : Int) < (l.length : Int) by omega)]
        refine iteT ?_
        exact ⟨_, rfl, (by show 1 ≤ 1000; decide), fun d hd => herr d _ (same_new hd) upd_same⟩
      · refine ⟨_, rfl, _, _, t, .type "str", false, rfl, .ty "str", ht, hk, _, rfl, ?_⟩
        refine iteT ?_
        exact ⟨_, rfl, (by show 1 ≤ 1000; decide), fun d hd => herr d _ (same_new hd) upd_same⟩
end
end K10

set_option Elab.async false
set_option linter.all false
set_option maxRecDepth 100000
set_option maxHeartbeats 4000000
set_option pp.maxSteps 1500
set_option pp.deepTerms false
namespace K10
open PySem PySem.Spec PyProof.Rows L2 He KH PySem.KX Lex
open PySem.W (Frag)
theorem blanks_eq : ([V.str "", V.str " ", V.str "\n", V.str "   ", V.str "# a 'b\n", V.str " # if x\n  ", V.str "#\n\n"] : List V) = blanks.map fun w => V.str (S w) := by decide +kernel
theorem menu_at {ws : List (List Nat)} {r : Int} (h0 : 0 ≤ r) (h : r < (ws.length : Int)) : ∃ x ∈ ws, atI (ws.map fun w => V.str (S w)) r = some (.str (S x)) := by
  obtain ⟨n, rfl⟩ := Int.eq_ofNat_of_zero_le h0
  have hn : n < ws.length := by omega
  refine ⟨ws[n], List.getElem_mem hn, atI_nat ?_⟩
  rw [List.getElem?_map, List.getElem?_eq_getElem hn]
  rfl
section
variable {w : World} {K : Frag} {mg : Str → Option Value} {base : Heap}
/-! ### _law_blank -/
def spBlank : Sp := fun vs H Q _ => ∃ pl : Addr, vs = [.ref pl] ∧ PoolAt H pl ∧ ∀ b H', b ∈ blanks → Keep pl H H' → PoolAt H' pl → Q (.str (S b)) H'
theorem sc_blank : FnScope ["_law_pool_here", "_law_some"] ["_law_pool_here"] (defScope s__law_blank) := ⟨rfl, rfl, rfl, by decide +kernel, rfl, by decide +kernel, by decide +kernel⟩
theorem ok_blank {f : Addr} {fd : FuncData} (F : Fun K "_law_blank" "_law_blank" s__law_blank f fd) (T : Txt K mg) : FnOk P w K mg base CX0 2 f fd ["_law_pool_here"] spBlank := by
  obtain ⟨fdT, F__law_take⟩ := T.f__law_take
  have G__law_take : FnOk P w K mg base CX0 1 _ fdT ["_law_pool_here", "_law_many"] spTake := ok_take F__law_take
  have b__law_take : Binds K fdT ["_law_pool_here", "_law_many"] [] := F__law_take.binds fun _ _ _ _ _ _ us hl => match us, hl with | [_, _], _ => rfl
  refine F.ok sc_blank (fun vs H Q E h => ?_) (fun cdv A outer s H vs Q E hr h => ?_)
  · obtain ⟨pl, rfl, _⟩ := h
    rfl
  · obtain ⟨pl, rfl, hp, q⟩ := h
    have sc := sc_blank
    have hr__law_take := hr
    refine ⟨_, (pss_cons (ps_set (i := 1) sc.nd rfl (Or.inl rfl) (pe_lst (pa_cons pe_str (pa_cons pe_str (pa_cons pe_str (pa_cons pe_str (pa_cons pe_str (pa_cons pe_str (pa_cons pe_str pa_nil)))))))))
      (pss_one (ps_ret (pe_ix (r := rIxL K) ix_list (pv 1) (pe_call G__law_take hr__law_take rfl T.g__law_take F__law_take.kp b__law_take .nil pass0 (pa_cons (pv 0) (pa_cons pe_int pa_nil))) (fun _ _ => rfl))))), ?_⟩
    refine ⟨(by show 7 ≤ sizeLine; decide), fun p hp1 => ?_⟩
    have S1 := same_new (o := .lst [V.str "", V.str " ", V.str "\n", V.str "   ", V.str "# a 'b\n", V.str " # if x\n  ", V.str "#\n\n"]) hp1
    have hpp : PoolAt (upd H p (.lst [V.str "", V.str " ", V.str "\n", V.str "   ", V.str "# a 'b\n", V.str " # if x\n  ", V.str "#\n\n"])) pl := let ⟨a, b, e, r⟩ := hp; ⟨a, b, S1 _ _ e, r⟩
    refine ⟨_, rfl, _, rfl, pl, 7, rfl, hpp, by decide, by decide, fun r o h0 h1 hp' _ => ?_⟩
    obtain ⟨x, hx, hat⟩ := menu_at (ws := blanks) h0 (by exact h1)
    have hne : p ≠ pl := by
      obtain ⟨a, b, e, _⟩ := hp
      exact Ne.symm (ne_of_none e hp1)
    refine ⟨p, _, _, _, rfl, rfl, SqL.of (by rw [upd_ne hne, upd_same]), (by rw [blanks_eq]; exact hat), ?_⟩
    exact q x _ hx ((Keep.of S1).trans keep_upd) hp'
/-! ### _law_must -/
def spMust : Sp := fun vs H Q _ => ∃ one other : List Nat, vs = [.str (S one), .str (S other)] ∧ one.length ≤ 100 ∧ other.length ≤ 100 ∧ other ≠ [] ∧ ∀ b : Bool, (b = false → Bd one other) → Q (.bl b) H
theorem sc_must : FnScope ["_law_one", "_law_other"] ["_law_one", "_law_other"] (defScope s__law_must) := ⟨rfl, rfl, rfl, by decide +kernel, rfl, by decide +kernel, by decide +kernel⟩
theorem empty_eq : Str.ofString "" = S [] := by decide +kernel
theorem le_eq : Str.ofString "<=" = S [60, 61] := by decide +kernel
theorem eq_eq : (Str.ofString "=").cps.toList = [61] := by decide +kernel
theorem run_eq : (Str.ofString "abcdefghijklmnopqrstuvwxyz0123456789_").cps.toList = letters ++ digits ++ [95] := by decide +kernel
theorem mem_run (c : Nat) : c ∈ letters ++ digits ++ [95] ↔ inRun c = true := by
  unfold inRun
  simp [or_assoc]
theorem ok_must {f : Addr} {fd : FuncData} (F : Fun K "_law_must" "_law_must" s__law_must f fd) (T : Txt K mg) : FnOk P w K mg base CX0 1 f fd ["_law_one", "_law_other"] spMust := by
  refine F.ok sc_must (fun vs H Q E h => ?_) (fun cdv A outer s H vs Q E hr h => ?_)
  · obtain ⟨one, other, rfl, _⟩ := h
    rfl
  · obtain ⟨one, other, rfl, hl1, hl2, hne, q⟩ := h
    have sc := sc_must
    refine ⟨_, (pss_cons (ps_if (PW.pt (pw_or (pt_cmpR op_eq (pv 0) pe_str (nomark _)) (pw_or1 (pt_cmpR op_eq (pv 1) pe_str (nomark _)))))
        (pss_one (ps_ret pe_bl))
        pss_nil)
      (pss_cons (ps_if (PW.pt (pw_and (pt_cmpR op_in_str (pv 0) pe_str (by rfl)) (pw_and1 (pt_cmpR op_in_sign (pe_ix (r := rIxS) ix_str (pv 1) pe_int (fun _ _ => rfl)) pe_str rfl))))
        (pss_one (ps_ret pe_bl))
        pss_nil)
      (pss_one (ps_ret (pe_and (pe_cmpR op_in_sign (pe_ix (r := rIxS) ix_str (pv 0) (pe_un un_neg pe_int) (fun _ _ => rfl)) pe_str rfl) (pe_one (pe_cmpR op_in_sign (pe_ix (r := rIxS) ix_str (pv 1) pe_int (fun _ _ => rfl)) pe_str rfl))))))), ?_⟩
    obtain ⟨d, r, rfl⟩ : ∃ d r, other = d :: r := by
      cases other with
      | nil => exact absurd rfl hne
      | cons d r => exact ⟨d, r, rfl⟩
    have hs1 : (S one).length ≤ sizeLine := by rw [S_len]; exact size10k (by omega)
    have hs2 : (S (d :: r)).length ≤ sizeLine := by rw [S_len]; exact size10k (by omega)
    have hat : atI (S (d :: r)).cps.toList 0 = some d := by rw [S_list]; exact atI_nat (j := 0) rfl
    refine ⟨_, rfl, rfl, _, rfl, ?_⟩
    have e1 : decide (V.str (S one) = V.str (Str.ofString "")) = decide (one = []) := by rw [empty_eq]; exact dec_s _ _
    rw [e1]
    refine ite2 (fun c1 => ?_) (fun c1 => ?_)
    · have h1 : one = [] := of_decide_eq_true c1
      subst h1
      exact q false fun _ => bd_nil _
    · have h1 : ¬ one = [] := by simpa using c1
      refine ⟨_, rfl, rfl, _, rfl, ?_⟩
      have e2 : decide (V.str (S (d :: r)) = V.str (Str.ofString "")) = decide (d :: r = []) := by rw [empty_eq]; exact dec_s _ _
      rw [e2, decide_eq_false (by simp)]
      refine iteF ?_
      refine ⟨_, rfl, _, _, rfl, rfl, _, rfl, ?_⟩
      refine ite2 (fun c2 => ?_) (fun c2 => ?_)
      · refine ⟨_, rfl, _, _, d, rfl, rfl, hs2, hat, d, _, rfl, rfl, _, rfl, ?_⟩
        rw [eq_eq]
        refine ite2 (fun c3 => ?_) (fun c3 => ?_)
        · exact q true fun h => Bool.noConfusion h
        · have h3 : ¬ d = 61 := by simpa using c3
          have hx : (one = [61] ∨ one = [60]) → d ≠ 61 := fun _ => h3
          obtain ⟨ini, c, rfl⟩ : ∃ ini c, one = ini ++ [c] := ⟨one.dropLast, one.getLast h1, (List.dropLast_concat_getLast h1).symm⟩
          have hatl : atI (S (ini ++ [c])).cps.toList (-1) = some c := by rw [S_list]; exact atI_last ..
          refine ⟨_, rfl, _, rfl, _, _, c, rfl, rfl, hs1, hatl, c, _, rfl, rfl, _, rfl, ?_⟩
          rw [run_eq]
          refine ite2 (fun c4 => ?_) (fun c4 => ?_)
          · refine ⟨_, rfl, _, _, d, rfl, rfl, hs2, hat, d, _, rfl, rfl, ?_⟩
            rw [run_eq]
            refine q _ fun hb => ⟨fun a b ha hb' hra hrb => ?_, fun hz hd => ?_⟩
            · have : d = b := Option.some.inj hb'
              subst this
              have := (mem_run d).mpr hrb
              rw [decide_eq_true this] at hb
              cases hb
            · exact hx hz (Option.some.inj hd)
          · refine q false fun _ => ⟨fun a b ha hb' hra hrb => ?_, fun hz hd => hx hz (Option.some.inj hd)⟩
            rw [List.getLast?_append] at ha
            have : c = a := by simpa using ha
            subst this
            exact c4 (decide_eq_true ((mem_run c).mpr hra))
      · have hx : (one = [61] ∨ one = [60]) → d ≠ 61 := fun hz => by
          exfalso
          apply c2
          rw [le_eq]
          rcases hz with rfl | rfl <;> decide +kernel
        obtain ⟨ini, c, rfl⟩ : ∃ ini c, one = ini ++ [c] := ⟨one.dropLast, one.getLast h1, (List.dropLast_concat_getLast h1).symm⟩
        have hatl : atI (S (ini ++ [c])).cps.toList (-1) = some c := by rw [S_list]; exact atI_last ..
        refine ⟨_, rfl, _, rfl, _, _, c, rfl, rfl, hs1, hatl, c, _, rfl, rfl, _, rfl, ?_⟩
        rw [run_eq]
        refine ite2 (fun c4 => ?_) (fun c4 => ?_)
        · refine ⟨_, rfl, _, _, d, rfl, rfl, hs2, hat, d, _, rfl, rfl, ?_⟩
          rw [run_eq]
          refine q _ fun hb => ⟨fun a b ha hb' hra hrb => ?_, fun hz hd => ?_⟩
          · have : d = b := Option.some.inj hb'
            subst this
            have := (mem_run d).mpr hrb
            rw [decide_eq_true this] at hb
            cases hb
          · exact hx hz (Option.some.inj hd)
        · refine q false fun _ => ⟨fun a b ha hb' hra hrb => ?_, fun hz hd => hx hz (Option.some.inj hd)⟩
          rw [List.getLast?_append] at ha
          have : c = a := by simpa using ha
          subst this
          exact c4 (decide_eq_true ((mem_run c).mpr hra))
end
end K10

set_option Elab.async false
set_option linter.all false
set_option maxRecDepth 100000
set_option maxHeartbeats 4000000
set_option pp.maxSteps 1500
set_option pp.deepTerms false
namespace L2
open PySem PySem.Spec PyProof.Rows
theorem join_chars0 : ∀ cs : List Nat, Str.join (S []) (cs.map fun c => S [c]) = S cs
  | [] => rfl
  | [c] => rfl
  | c :: d :: cs => by
    have ih := join_chars0 (d :: cs)
    show S [c] ++ S [] ++ Str.join (S []) ((d :: cs).map fun c => S [c]) = _
    rw [ih, S_append, S_append]
    rfl
theorem join_chars (cs : List Nat) : Txt.join (Str.ofString "") (cs.map fun c => S [c]) = S cs := by
  have e : Str.ofString "" = S [] := by decide +kernel
  rw [TL.join_eq, e]
  exact join_chars0 cs
theorem sum_chars : ∀ cs : List Nat, ((cs.map fun c => S [c]).map (·.length)).sum = cs.length
  | [] => rfl
  | c :: cs => by
    rw [List.map_cons, List.map_cons, List.sum_cons, sum_chars cs, S_len, List.length_cons]
    simp
    omega
end L2
namespace K10
open PySem PySem.Spec PyProof.Rows L2 He KH PySem.KX Lex
open PySem.W (Frag)
section
variable {w : World} {K : Frag} {mg : Str → Option Value} {base : Heap}
/-! ### _law_token -/
def spToken : Sp := fun vs H Q _ => ∃ pl : Addr, vs = [.ref pl] ∧ PoolAt H pl ∧
  ∀ p k tx H', Good k tx → tx.length ≤ 42 → Keep pl H H' → PoolAt H' pl → H' p = some (.tup [.str (kdS k), .str (S tx)]) → Q (.ref p) H'
abbrev Ntok : List Str := ["_law_pool_here", "_law_way", "_law_word", "_law_turn"]
theorem sc_token : FnScope Ntok ["_law_pool_here"] (defScope s__law_token) := ⟨rfl, rfl, rfl, by decide +kernel, rfl, by decide +kernel, by decide +kernel⟩
theorem pool_same {H H' : Hp} {p : Addr} (h : PoolAt H p) (S : Same H H') : PoolAt H' p := let ⟨a, b, e, r⟩ := h; ⟨a, b, S _ _ e, r⟩
theorem pool_ne {H : Hp} {pl p : Addr} (h : PoolAt H pl) (hp : H p = none) : p ≠ pl := by
  obtain ⟨a, b, e, _⟩ := h
  exact Ne.symm (ne_of_none e hp)
theorem abz_eq : (Str.ofString "abz9_").cps.toList = [97, 98, 122, 57, 95] := by decide +kernel
theorem xq_eq : (Str.ofString "xq").cps.toList = [120, 113] := by decide +kernel
theorem nums_eq : ([V.str "0", V.str "7", V.str "10", V.str (S (List.replicate (Int.toNat 18) (Str.ofString "9").cps.toList).flatten), V.str (Str.ofString "1" ++ S (List.replicate (Int.toNat 17) (Str.ofString "0").cps.toList).flatten)] : List V) = numberMenu.map fun w => V.str (S w) := by decide +kernel
def txtMenu : List Nat := [97, 32, 35, 59, 90, 40, 92]
theorem txts_eq : ([V.str "a", V.str " ", V.str "#", V.str ";", V.str "Z", V.str "(", V.str "\\"] : List V) = txtMenu.map fun c => V.str (S [c]) := by decide +kernel
theorem signs17_eq : (Txt.split (Str.ofString "( ) [ ] { } , ; : . = == < <= + - *") (Str.ofString " ")).map V.str = signTexts.map fun w => V.str (S w) := by decide +kernel
theorem nat_menu {cs : List Nat} {r : Int} (h0 : 0 ≤ r) (h : r < (cs.length : Int)) : ∃ c ∈ cs, atI cs r = some c := by
  obtain ⟨n, rfl⟩ := Int.eq_ofNat_of_zero_le h0
  have hn : n < cs.length := by omega
  exact ⟨cs[n], List.getElem_mem hn, atI_nat (List.getElem?_eq_getElem hn)⟩
theorem chr_menu {cs : List Nat} {r : Int} (h0 : 0 ≤ r) (h : r < (cs.length : Int)) : ∃ c ∈ cs, atI (cs.map fun c => V.str (S [c])) r = some (.str (S [c])) := by
  obtain ⟨n, rfl⟩ := Int.eq_ofNat_of_zero_le h0
  have hn : n < cs.length := by omega
  refine ⟨cs[n], List.getElem_mem hn, atI_nat ?_⟩
  rw [List.getElem?_map, List.getElem?_eq_getElem hn]
  rfl
theorem ok_token {f : Addr} {fd : FuncData} (F : Fun K "_law_token" "_law_token" s__law_token f fd) (T : Txt K mg) : FnOk P w K mg base CX0 2 f fd ["_law_pool_here"] spToken := by
  obtain ⟨fdT, F__law_take⟩ := T.f__law_take
  have G__law_take : FnOk P w K mg base CX0 1 _ fdT ["_law_pool_here", "_law_many"] spTake := ok_take F__law_take
  have b__law_take : Binds K fdT ["_law_pool_here", "_law_many"] [] := F__law_take.binds fun _ _ _ _ _ _ us hl => match us, hl with | [_, _], _ => rfl
  refine F.ok sc_token (fun vs H Q E h => ?_) (fun cdv A outer s H vs Q E hr h => ?_)
  · obtain ⟨pl, rfl, _⟩ := h
    rfl
  · obtain ⟨pl, rfl, hp, q⟩ := h
    have sc := sc_token
    have hr__law_take := hr
    refine ⟨_, (pss_cons (ps_set (i := 1) sc.nd rfl (Or.inl rfl) (pe_call G__law_take hr__law_take rfl T.g__law_take F__law_take.kp b__law_take .nil pass0 (pa_cons (pv 0) (pa_cons pe_int pa_nil))))
      (pss_cons (ps_if (pt_cmpR op_lt (pv 1) pe_int (nomark _))
        (pss_cons (ps_set (i := 2) sc.nd rfl (Or.inl rfl) (pe_join pe_str (pe_lc (own := [("_law_turn", 3)]) (g := gName 3) (tt := tYes) rfl sc.nd (pi_range1 rfl T.n_range (pa_cons (pe_call G__law_take hr__law_take rfl T.g__law_take F__law_take.kp b__law_take .nil pass0 (pa_cons (pv 0) (pa_cons pe_int pa_nil))) pa_nil)) (blkOk_by (N := Ntok) (sc := defScope s__law_token) (by decide +kernel)) (fun _ _ _ _ _ => pg_name (i := 3) sc.nd rfl (Or.inl rfl)) (fun _ _ _ _ _ => pts_nil) (fun _ _ _ _ _ => (pe_ix (r := rIxS) ix_str pe_str (pe_call G__law_take hr__law_take rfl T.g__law_take F__law_take.kp b__law_take .nil pass0 (pa_cons (pv 0) (pa_cons pe_int pa_nil))) (fun _ _ => rfl))))))
        (pss_one (ps_ret (pe_tup (pa_cons pe_str (pa_cons (pe_op op_add_str (pe_ix (r := rIxS) ix_str pe_str (pe_call G__law_take hr__law_take rfl T.g__law_take F__law_take.kp b__law_take .nil pass0 (pa_cons (pv 0) (pa_cons pe_int pa_nil))) (fun _ _ => rfl)) (pv 2)) pa_nil))))))
        pss_nil)
      (pss_cons (ps_if (pt_cmpR op_eq (pv 1) pe_int (nomark _))
        (pss_one (ps_ret (pe_tup (pa_cons pe_str (pa_cons (pe_ix (r := rIxL K) ix_list (pe_lst (pa_cons pe_str (pa_cons pe_str (pa_cons pe_str (pa_cons pe_str (pa_cons pe_str (pa_cons pe_str (pa_cons pe_str (pa_cons pe_str pa_nil))))))))) (pe_call G__law_take hr__law_take rfl T.g__law_take F__law_take.kp b__law_take .nil pass0 (pa_cons (pv 0) (pa_cons pe_int pa_nil))) (fun _ _ => rfl)) pa_nil)))))
        pss_nil)
      (pss_cons (ps_if (pt_cmpR op_eq (pv 1) pe_int (nomark _))
        (pss_one (ps_ret (pe_tup (pa_cons pe_str (pa_cons (pe_ix (r := rIxL K) ix_list (pe_lst (pa_cons pe_str (pa_cons pe_str (pa_cons pe_str (pa_cons (pe_op op_rep_str pe_str pe_int) (pa_cons (pe_op op_add_str pe_str (pe_op op_rep_str pe_str pe_int)) pa_nil)))))) (pe_call G__law_take hr__law_take rfl T.g__law_take F__law_take.kp b__law_take .nil pass0 (pa_cons (pv 0) (pa_cons pe_int pa_nil))) (fun _ _ => rfl)) pa_nil)))))
        pss_nil)
      (pss_cons (ps_if (pt_cmpR op_eq (pv 1) pe_int (nomark _))
        (pss_cons (ps_set (i := 2) sc.nd rfl (Or.inl rfl) (pe_join pe_str (pe_lc (own := [("_law_turn", 3)]) (g := gName 3) (tt := tYes) rfl sc.nd (pi_range1 rfl T.n_range (pa_cons (pe_call G__law_take hr__law_take rfl T.g__law_take F__law_take.kp b__law_take .nil pass0 (pa_cons (pv 0) (pa_cons pe_int pa_nil))) pa_nil)) (blkOk_by (N := Ntok) (sc := defScope s__law_token) (by decide +kernel)) (fun _ _ _ _ _ => pg_name (i := 3) sc.nd rfl (Or.inl rfl)) (fun _ _ _ _ _ => pts_nil) (fun _ _ _ _ _ => (pe_ix (r := rIxL K) ix_list (pe_lst (pa_cons pe_str (pa_cons pe_str (pa_cons pe_str (pa_cons pe_str (pa_cons pe_str (pa_cons pe_str (pa_cons pe_str pa_nil)))))))) (pe_call G__law_take hr__law_take rfl T.g__law_take F__law_take.kp b__law_take .nil pass0 (pa_cons (pv 0) (pa_cons pe_int pa_nil))) (fun _ _ => rfl))))))
        (pss_one (ps_ret (pe_tup (pa_cons pe_str (pa_cons (pe_op op_add_str (pe_op op_add_str pe_str (pv 2)) pe_str) pa_nil))))))
        pss_nil)
      (pss_one (ps_ret (pe_tup (pa_cons pe_str (pa_cons (pe_ix (r := rIxL K) ix_list (pe_split pe_str pe_str) (pe_call G__law_take hr__law_take rfl T.g__law_take F__law_take.kp b__law_take .nil pass0 (pa_cons (pv 0) (pa_cons pe_int pa_nil))) (fun _ _ => rfl)) pa_nil)))))))))), ?_⟩
    refine ⟨_, rfl, pl, 6, rfl, hp, by decide, by decide, fun way o h0 h1 hp1 _ => ?_⟩
    have k1 : Keep pl H (upd H pl o) := keep_upd
    refine ⟨_, rfl, _, _, rfl, rfl, _, rfl, ?_⟩
    refine ite2 (fun c1 => ?_) (fun c1 => ?_)
    · -- a name
      refine ⟨⟨_, rfl⟩, _, rfl, pl, 19, rfl, hp1, by decide, by decide, fun n o2 g0 g1 hp2 _ => ?_⟩
      refine ⟨n, rfl, by omega, by omega, fun D hD => lc_range (lo := 0) (n := n.toNat) (fun j H3 => ∃ cs : List Nat, cs.length = j ∧ (∀ c ∈ cs, c ∈ [97, 98, 122, 57, 95]) ∧ H3 D = some (.lst (cs.map fun c => V.str (S [c]))) ∧ Keep pl H H3 ∧ PoolAt H3 pl) ?_ ?_ ?_⟩
      · have SD := same_new (o := .lst []) hD
        exact ⟨[], rfl, by simp, upd_same, (k1.trans keep_upd).trans (Keep.of SD), pool_same hp2 SD⟩
      · rintro j H3 hj ⟨cs, hl3, hm3, hD3, k3, p3⟩
        have nD := pool_ne hp2 hD
        refine ⟨rfl, yes_if ?_⟩
        refine ⟨_, rfl, pl, 5, rfl, p3, by decide, by decide, fun r o3 e0 e1 hp' _ => ?_⟩
        obtain ⟨c, hc, hat⟩ := nat_menu (cs := [97, 98, 122, 57, 95]) e0 (by exact e1)
        refine ⟨_, _, c, rfl, rfl, (by show 5 ≤ sizeLine; decide), (by rw [abz_eq]; exact hat), _, by rw [upd_ne nD]; exact hD3, (by rw [List.length_map, hl3, sizeLine_eq]; omega), cs ++ [c], by rw [List.length_append, hl3]; rfl, fun z hz => (List.mem_append.mp hz).elim (hm3 z) (fun q => by rw [List.mem_singleton.mp q]; exact hc), ?_, ?_, ?_⟩
        · rw [upd_same, List.map_append]; rfl
        · intro b o' nb e
          by_cases hb : b = D
          · subst hb
            have := (k1.trans (keep_upd (o := o2))) b o' nb e
            rw [hD] at this; cases this
          · rw [upd_ne hb, upd_ne nb]; exact k3 b o' nb e
        · obtain ⟨qa, qb, qe, qr⟩ := hp'
          exact ⟨qa, qb, by rw [upd_ne (Ne.symm nD)]; exact qe, qr⟩
      · rintro H3 ⟨cs, hl3, hm3, hD3, k3, p3⟩
        refine ⟨_, D, cs.map fun c => S [c], rfl, rfl, .inl (SqL.of (by rw [List.map_map]; exact hD3)), ?_, ?_⟩
        · rw [sum_chars]
          have : (Str.ofString "").length = 0 := by decide +kernel
          rw [this, Nat.mul_zero]
          omega
        · rw [join_chars]
          refine ⟨_, rfl, pl, 2, rfl, p3, by decide, by decide, fun r o3 e0 e1 hp' _ => ?_⟩
          obtain ⟨c, hc, hat⟩ := nat_menu (cs := [120, 113]) e0 (by exact e1)
          refine ⟨_, _, c, rfl, rfl, (by show 2 ≤ sizeLine; decide), (by rw [xq_eq]; exact hat), _, rfl, _, _, rfl, rfl, ?_, ?_⟩
          · show (S [c]).length + (S cs).length ≤ sizeLine
            rw [S_len, S_len, sizeLine_eq]
            show 1 + cs.length ≤ _
            omega
          · refine ⟨(by show 2 ≤ sizeLine; decide), fun p hp3 => ?_⟩
            have e2 : (⟨#[c]⟩ : Str) ++ S cs = S (c :: cs) := S_append [c] cs
            rw [e2]
            have kk := (k3.trans keep_upd).trans (Keep.of (same_new (o := .tup [V.str "name", V.str (S (c :: cs))]) hp3))
            refine q p .name (c :: cs) _ (good_name ?_ hm3 (by omega)) (by rw [List.length_cons]; omega) kk (pool_same hp' (same_new hp3)) upd_same
            simpa using hc
    · refine ⟨_, rfl, rfl, _, rfl, ?_⟩
      refine ite2 (fun c2 => ?_) (fun c2 => ?_)
      · -- a word
        refine ⟨(by show 8 ≤ sizeLine; decide), fun L hL => ?_⟩
        refine ⟨_, rfl, pl, 8, rfl, pool_same hp1 (same_new hL), by decide, by decide, fun r o2 g0 g1 hp2 _ => ?_⟩
        obtain ⟨x, hx, hat⟩ := menu_at (ws := wordMenu) g0 (by exact g1)
        refine ⟨L, _, _, _, rfl, rfl, SqL.of (by rw [upd_ne (pool_ne hp1 hL), upd_same]), (by refine Eq.trans (congrArg (fun l => atI l r) (a₂ := wordMenu.map fun w => V.str (S w)) ?_) hat; decide +kernel), (by show 2 ≤ sizeLine; decide), fun p hp3 => ?_⟩
        exact q p .word x _ (good_word hx).1 (good_word hx).2 (((k1.trans (Keep.of (same_new hL))).trans keep_upd).trans (Keep.of (same_new hp3))) (pool_same hp2 (same_new hp3)) upd_same
      · refine ⟨_, rfl, rfl, _, rfl, ?_⟩
        refine ite2 (fun c3 => ?_) (fun c3 => ?_)
        · -- a number
          refine ⟨_, _, rfl, rfl, by decide, by decide, (by decide +kernel), _, _, rfl, rfl, by decide, by decide, (by decide +kernel), _, _, rfl, rfl, (by decide +kernel), (by show 5 ≤ sizeLine; decide), fun L hL => ?_⟩
          have S1 := same_new (o := .lst [V.str "0", V.str "7", V.str "10", V.str (S (List.replicate (Int.toNat 18) (Str.ofString "9").cps.toList).flatten), V.str (Str.ofString "1" ++ S (List.replicate (Int.toNat 17) (Str.ofString "0").cps.toList).flatten)]) hL
          refine ⟨_, rfl, pl, 5, rfl, pool_same hp1 S1, by decide, by decide, fun r o2 g0 g1 hp2 _ => ?_⟩
          obtain ⟨x, hx, hat⟩ := menu_at (ws := numberMenu) g0 (by exact g1)
          refine ⟨L, _, _, _, rfl, rfl, SqL.of (by rw [upd_ne (pool_ne hp1 hL), upd_same]), (by rw [nums_eq]; exact hat), (by show 2 ≤ sizeLine; decide), fun p hp3 => ?_⟩
          have kk := ((k1.trans (Keep.of S1)).trans keep_upd).trans (Keep.of (same_new (o := .tup [V.str "number", V.str (S x)]) hp3))
          exact q p .number x _ (good_number hx).1 (good_number hx).2 kk (pool_same hp2 (same_new hp3)) upd_same
        · refine ⟨_, rfl, rfl, _, rfl, ?_⟩
          refine ite2 (fun c4 => ?_) (fun c4 => ?_)
          · -- a text
            refine ⟨⟨_, rfl⟩, _, rfl, pl, 41, rfl, hp1, by decide, by decide, fun n o2 g0 g1 hp2 _ => ?_⟩
            refine ⟨n, rfl, by omega, by omega, fun D hD => lc_range (lo := 0) (n := n.toNat) (fun j H3 => ∃ cs : List Nat, cs.length = j ∧ (∀ c ∈ cs, c ∈ txtMenu) ∧ H3 D = some (.lst (cs.map fun c => V.str (S [c]))) ∧ Keep pl H H3 ∧ PoolAt H3 pl) ?_ ?_ ?_⟩
            · have SD := same_new (o := .lst []) hD
              exact ⟨[], rfl, by simp, upd_same, (k1.trans keep_upd).trans (Keep.of SD), pool_same hp2 SD⟩
            · rintro j H3 hj ⟨cs, hl3, hm3, hD3, k3, p3⟩
              have nD := pool_ne hp2 hD
              refine ⟨rfl, yes_if ?_⟩
              refine ⟨(by show 7 ≤ sizeLine; decide), fun L hL => ?_⟩
              have S1 := same_new (o := .lst [V.str "a", V.str " ", V.str "#", V.str ";", V.str "Z", V.str "(", V.str "\\"]) hL
              have nDL : D ≠ L := ne_of_none hD3 hL
              refine ⟨_, rfl, pl, 7, rfl, pool_same p3 S1, by decide, by decide, fun r o3 e0 e1 hp' _ => ?_⟩
              obtain ⟨c, hc, hat⟩ := chr_menu (cs := txtMenu) e0 (by exact e1)
              refine ⟨L, _, _, _, rfl, rfl, SqL.of (by rw [upd_ne (pool_ne p3 hL), upd_same]), (by rw [txts_eq]; exact hat), _, by rw [upd_ne nD, upd_ne nDL]; exact hD3, (by rw [List.length_map, hl3, sizeLine_eq]; omega), cs ++ [c], by rw [List.length_append, hl3]; rfl, fun z hz => (List.mem_append.mp hz).elim (hm3 z) (fun q => by rw [List.mem_singleton.mp q]; exact hc), ?_, ?_, ?_⟩
              · rw [upd_same, List.map_append]; rfl
              · intro b o' nb e
                by_cases hb : b = D
                · subst hb
                  have := (k1.trans (keep_upd (o := o2))) b o' nb e
                  rw [hD] at this; cases this
                · rw [upd_ne hb, upd_ne nb]
                  exact S1 _ _ (k3 b o' nb e)
              · obtain ⟨qa, qb, qe, qr⟩ := hp'
                exact ⟨qa, qb, by rw [upd_ne (Ne.symm nD)]; exact qe, qr⟩
            · rintro H3 ⟨cs, hl3, hm3, hD3, k3, p3⟩
              refine ⟨_, D, cs.map fun c => S [c], rfl, rfl, .inl (SqL.of (by rw [List.map_map]; exact hD3)), ?_, ?_⟩
              · rw [sum_chars]
                have : (Str.ofString "").length = 0 := by decide +kernel
                rw [this, Nat.mul_zero]
                omega
              · rw [join_chars]
                have e1 : Str.ofString "'" ++ S cs = S (39 :: cs) := by rw [quote_eq]; exact S_append [39] cs
                have e2 : S (39 :: cs) ++ Str.ofString "'" = S (39 :: (cs ++ [39])) := by rw [quote_eq]; exact S_append (39 :: cs) [39]
                refine ⟨_, rfl, _, _, rfl, rfl, ?_, _, _, rfl, rfl, ?_, ?_⟩
                · rw [S_len, sizeLine_eq]
                  have : (Str.ofString "'").length = 1 := by decide +kernel
                  omega
                · rw [e1, S_len, sizeLine_eq]
                  have : (Str.ofString "'").length = 1 := by decide +kernel
                  rw [List.length_cons]
                  omega
                · refine ⟨(by show 2 ≤ sizeLine; decide), fun p hp3 => ?_⟩
                  rw [e1, e2]
                  have kk := k3.trans (Keep.of (same_new (o := .tup [V.str "text", V.str (S (39 :: (cs ++ [39])))]) hp3))
                  refine q p .text _ _ (good_text (fun c hc => ?_) (by omega)) (by simp; omega) kk (pool_same p3 (same_new hp3)) upd_same
                  have := hm3 c hc
                  revert this
                  unfold txtMenu
                  simp only [List.mem_cons, List.not_mem_nil, or_false]
                  rintro (rfl | rfl | rfl | rfl | rfl | rfl | rfl) <;> decide
          · -- a sign
            refine ⟨⟨_, rfl⟩, _, _, rfl, rfl, (by decide +kernel), (by decide +kernel), fun L hL => ?_⟩
            have S1 := same_new (o := .lst ((Txt.split (Str.ofString "( ) [ ] { } , ; : . = == < <= + - *") (Str.ofString " ")).map V.str)) hL
            refine ⟨_, rfl, pl, 17, rfl, pool_same hp1 S1, by decide, by decide, fun r o2 g0 g1 hp2 _ => ?_⟩
            obtain ⟨x, hx, hat⟩ := menu_at (ws := signTexts) g0 (by exact g1)
            refine ⟨L, _, _, _, rfl, rfl, SqL.of (by rw [upd_ne (pool_ne hp1 hL), upd_same]), (by rw [signs17_eq]; exact hat), (by show 2 ≤ sizeLine; decide), fun p hp3 => ?_⟩
            have kk := ((k1.trans (Keep.of S1)).trans keep_upd).trans (Keep.of (same_new (o := .tup [V.str "sign", V.str (S x)]) hp3))
            exact q p .sign x _ (good_sign hx) (sign_len hx) kk (pool_same hp2 (same_new hp3)) upd_same
end
end K10

set_option Elab.async false
set_option linter.all false
set_option maxRecDepth 100000
set_option maxHeartbeats 4000000
set_option pp.maxSteps 1500
set_option pp.deepTerms false
namespace K10
open PySem PySem.Spec PyProof.Rows L2 He KH PySem.KX Lex
open PySem.W (Frag)
/-- the law's own tokens (kind, text) at these places -/
def Items (H : Hp) : List Addr → List (Kd × List Nat) → Prop
  | [], [] => True
  | a :: as, t :: ts => H a = some (.tup [.str (kdS t.1), .str (S t.2)]) ∧ Items H as ts
  | _, _ => False
theorem Items.keep {H H' : Hp} (hk : ∀ b xs, H b = some (.tup xs) → H' b = some (.tup xs)) : ∀ {as : List Addr} {ts : List (Kd × List Nat)}, Items H as ts → Items H' as ts
  | [], [], _ => trivial
  | a :: as, t :: ts, h => ⟨hk _ _ h.1, Items.keep hk h.2⟩
  | [], _ :: _, h => h.elim
  | _ :: _, [], h => h.elim
theorem Items.snoc {H : Hp} {a : Addr} {t : Kd × List Nat} (ha : H a = some (.tup [.str (kdS t.1), .str (S t.2)])) : ∀ {as : List Addr} {ts : List (Kd × List Nat)}, Items H as ts → Items H (as ++ [a]) (ts ++ [t])
  | [], [], _ => ⟨ha, trivial⟩
  | b :: as, u :: ts, h => ⟨h.1, Items.snoc ha h.2⟩
  | [], _ :: _, h => h.elim
  | _ :: _, [], h => h.elim
theorem Items.at {H : Hp} : ∀ {as : List Addr} {ts : List (Kd × List Nat)} {i : Nat} {a : Addr}, Items H as ts → as[i]? = some a → ∃ t, ts[i]? = some t ∧ H a = some (.tup [.str (kdS t.1), .str (S t.2)])
  | [], [], _, _, _, e => by simp at e
  | b :: as, u :: ts, 0, a, h, e => ⟨u, rfl, by have : b = a := Option.some.inj e; rw [← this]; exact h.1⟩
  | b :: as, u :: ts, i + 1, a, h, e => Items.at (i := i) (a := a) h.2 (by simpa using e)
  | [], _ :: _, _, _, h, _ => h.elim
  | _ :: _, [], _, _, h, _ => h.elim
theorem Items.len {H : Hp} : ∀ {as : List Addr} {ts : List (Kd × List Nat)}, Items H as ts → as.length = ts.length
  | [], [], _ => rfl
  | _ :: _, _ :: _, h => by rw [List.length_cons, List.length_cons, Items.len h.2]
  | [], _ :: _, h => h.elim
  | _ :: _, [], h => h.elim
theorem keep_tup {pl : Addr} {H H' : Hp} (k : Keep pl H H') (hp : PoolAt H pl) : ∀ b xs, H b = some (.tup xs) → H' b = some (.tup xs) := fun b xs e => k b _ (fun z => by
  obtain ⟨x, y, e2, _⟩ := hp
  rw [z, e2] at e
  cases e) e
theorem sp_eq : Str.ofString " " = S [32] := by decide +kernel
section
variable {w : World} {K : Frag} {mg : Str → Option Value} {base : Heap}
/-! ### _law_written -/
def spWritten : Sp := fun vs H Q _ => ∃ (pl so : Addr) (as : List Addr) (its : List (Kd × List Nat)), vs = [.ref pl, .ref so] ∧ PoolAt H pl ∧ H so = some (.lst (as.map V.ref)) ∧ so ≠ pl ∧ Items H as its ∧ (∀ it ∈ its, Good it.1 it.2 ∧ it.2.length ≤ 42) ∧ its.length ≤ 30 ∧
  ∀ (p tl : Addr) (bs : List Addr) (Tx : List Nat) (told : List Lex.Tok) (last : List Nat) (H' : Hp), Wr Tx told last → Tx.length ≤ 1590 → Keep pl H H' → PoolAt H' pl → H' p = some (.lst [.str (S Tx), .ref tl]) → H' tl = some (.lst (bs.map V.ref)) → Toks H' bs told → tl ≠ pl → Q (.ref p) H'
abbrev Nwr : List Str := ["_law_pool_here", "_law_some", "_law_text", "_law_told", "_law_last", "_law_kind", "_law_token_here", "_law_blank_here"]
theorem sc_written : FnScope Nwr ["_law_pool_here", "_law_some"] (defScope s__law_written) := ⟨rfl, rfl, rfl, by decide +kernel, rfl, by decide +kernel, by decide +kernel⟩
theorem ok_written {f : Addr} {fd : FuncData} (F : Fun K "_law_written" "_law_written" s__law_written f fd) (T : Txt K mg) : FnOk P w K mg base CX0 3 f fd ["_law_pool_here", "_law_some"] spWritten := by
  obtain ⟨fdB, F__law_blank⟩ := T.f__law_blank
  obtain ⟨fdM, F__law_must⟩ := T.f__law_must
  have G__law_blank : FnOk P w K mg base CX0 2 _ fdB ["_law_pool_here"] spBlank := ok_blank F__law_blank T
  have b__law_blank : Binds K fdB ["_law_pool_here"] [] := F__law_blank.binds fun _ _ _ _ _ _ us hl => match us, hl with | [_], _ => rfl
  have G__law_must : FnOk P w K mg base CX0 1 _ fdM ["_law_one", "_law_other"] spMust := ok_must F__law_must T
  have b__law_must : Binds K fdM ["_law_one", "_law_other"] [] := F__law_must.binds fun _ _ _ _ _ _ us hl => match us, hl with | [_, _], _ => rfl
  refine F.ok sc_written (fun vs H Q E h => ?_) (fun cdv A outer s H vs Q E hr h => ?_)
  · obtain ⟨pl, so, as, its, rfl, _⟩ := h
    rfl
  · obtain ⟨pl, so, as, its, rfl, hp, hso, nso, hit, hgd, hl30, q⟩ := h
    have sc := sc_written
    have hr__law_blank := hr
    have hr__law_must : Room 1 _ := hr.mono (by decide)
    refine ⟨_, (pss_cons (ps_par3 (i := 2) (j := 3) (l := 4) rfl sc.nd rfl rfl rfl (by decide) (by decide) (by decide) rfl rfl rfl (pa_cons pe_str (pa_cons (pe_lst pa_nil) (pa_cons pe_str pa_nil))) rfl)
      (pss_cons (ps_for PassesOwn.never rfl (pi_list (pv 1)) (pg_tup rfl (pgs_cons (pg_name (i := 5) sc.nd rfl (Or.inl rfl)) (pgs_cons (pg_name (i := 6) sc.nd rfl (Or.inl rfl)) pgs_nil)))
        (pss_cons (ps_set (i := 7) sc.nd rfl (Or.inl rfl) (pe_call G__law_blank hr__law_blank rfl T.g__law_blank F__law_blank.kp b__law_blank .nil pass0 (pa_cons (pv 0) pa_nil)))
        (pss_cons (ps_if (PW.pt (pw_and (pt_cmpR op_eq (pv 7) pe_str (nomark _)) (pw_and1 (pt_val (pe_call G__law_must hr__law_must rfl T.g__law_must F__law_must.kp b__law_must .nil pass0 (pa_cons (pv 4) (pa_cons (pv 6) pa_nil)))))))
          (pss_one (ps_set (i := 7) sc.nd rfl (Or.inl rfl) pe_str))
          pss_nil)
        (pss_cons (ps_set (i := 2) sc.nd rfl (Or.inl rfl) (pe_op op_add_str (pv 2) (pv 7)))
        (pss_cons (ps_expr (pe_bm PySem.F.plainAttrs_list PySem.F.slot_list_append PySem.F.type_list_append mt_append (pv 3) (pa_cons (pe_tup (pa_cons (pv 5) (pa_cons (pv 6) (pa_cons (pe_callB call_len_str rfl T.n_len (by decide +kernel) (pa_cons (pv 2) pa_nil)) pa_nil)))) pa_nil)))
        (pss_one (ps_par (i := 2) (j := 4) rfl sc.nd rfl rfl (by decide) rfl rfl (pa_cons (pe_op op_add_str (pv 2) (pv 6)) (pa_cons (pv 6) pa_nil)) rfl)))))))
      (pss_one (ps_ret (pe_lst (pa_cons (pv 2) (pa_cons (pv 3) pa_nil))))))), ?_⟩
    refine ⟨(by show 0 ≤ sizeLine; decide), fun tl htl => ⟨_, _, _, rfl, ?_⟩⟩
    have S12 := same_new (o := .lst []) htl
    have ntl : tl ≠ pl := pool_ne hp htl
    have etl : upd H tl (HO.lst []) tl = some (.lst []) := upd_same
    generalize upd H tl (HO.lst []) = H0 at S12 etl
    refine ⟨_, rfl, so, rfl, ⟨_, SqL.of (S12 _ _ hso)⟩, for_list (K := K) (a := so) (xs := as.map V.ref) (fun i σ H1 => ∃ (Tx last : List Nat) (told : List Lex.Tok) (bs : List Addr) (v5 v6 v7 : Option V),
        σ = [some (.ref pl), some (.ref so), some (.str (S Tx)), some (.ref tl), some (.str (S last)), v5, v6, v7] ∧ Wr Tx told last ∧ told.length = i ∧ Tx.length ≤ 53 * i ∧ last.length ≤ 42 ∧ H1 tl = some (.lst (bs.map V.ref)) ∧ Toks H1 bs told ∧ Keep pl H H1 ∧ PoolAt H1 pl) ?_ ?_ ?_ ?_⟩
    · exact ⟨[], [], [], [], _, _, _, by rw [← empty_eq]; rfl, Wr.nil, rfl, Nat.zero_le _, Nat.zero_le _, etl, trivial, Keep.of S12, pool_same hp S12⟩
    · rintro i σ H1 _ ⟨Tx, last, told, bs, v5, v6, v7, rfl, hw, hti, hTl, hll, htl1, htk, k1, p1⟩
      exact SqL.of (k1 _ _ nso hso)
    · rintro i x σ H1 hi ⟨Tx, last, told, bs, v5, v6, v7, rfl, hw, hti, hTl, hll, htl1, htk, k1, p1⟩
      rw [List.getElem?_map] at hi
      obtain ⟨a, ha, rfl⟩ : ∃ a, as[i]? = some a ∧ x = .ref a := by
        cases e : as[i]? with
        | none => rw [e] at hi; cases hi
        | some a => rw [e] at hi; exact ⟨a, rfl, (Option.some.inj hi).symm⟩
      obtain ⟨⟨k, tx⟩, hti2, hta⟩ := (hit.keep (keep_tup k1 hp)).at ha
      have hg := hgd _ (List.mem_of_getElem? hti2)
      have hi30 : i < 30 := by
        have := (List.getElem?_eq_some_iff.mp hti2).1
        omega
      refine ⟨a, _, rfl, SqT.of hta, rfl, _, _, rfl, _, _, rfl, rfl, ?_⟩
      refine ⟨_, rfl, pl, rfl, p1, fun b H2 hb k2 p2 => ?_⟩
      refine ⟨_, rfl, rfl, _, rfl, ?_⟩
      have eb : decide (V.str (S b) = V.str (Str.ofString "")) = decide (b = []) := by rw [empty_eq]; exact dec_s _ _
      rw [eb]
      have htx : tx.length ≤ 42 := hg.2
      refine ite2 (fun c1 => ?_) (fun c1 => ?_)
      · have h1 : b = [] := of_decide_eq_true c1
        subst h1
        refine ⟨_, rfl, _, rfl, last, tx, rfl, by omega, by omega, hg.1.ne, fun bb hbb => ⟨_, rfl, ?_⟩⟩
        refine ite2 (fun c2 => ?_) (fun c2 => ?_)
        · have hB : [32] ∈ blanks := by decide
          have hbd : ∀ r, Bd last ([32] ++ (tx ++ r)) := fun r => bd_blank hB (by simp)
          rw [sp_eq]
          have hbl : ([32] : List Nat).length ≤ 10 := by decide
          -- text + blank
          refine ⟨_, rfl, _, rfl, _, _, rfl, rfl, (by rw [S_len, S_len, sizeLine_eq]; omega), ?_⟩
          rw [S_append]
          have hlTb : (Tx ++ [32]).length ≤ 53 * i + 10 := by rw [List.length_append]; omega
          have htl2 := k2 _ _ ntl htl1
          refine ⟨_, rfl, .inl ⟨rfl, _, SqL.of htl2⟩, _, rfl, _, rfl, _, rfl, _, rfl, (by rw [S_len, sizeLine_eq]; omega), (by show 3 ≤ sizeLine; decide), fun t2 ht2 => ?_⟩
          rw [S_len]
          have S3 := same_new (o := .tup [V.str (kdS k), V.str (S tx), V.int ((Tx ++ [32]).length : Int)]) ht2
          refine ⟨tl, _, _, rfl, rfl, S3 _ _ htl2, (by rw [List.length_map, htk.len, sizeLine_eq]; omega), ?_⟩
          refine ⟨_, rfl, _, rfl, _, _, rfl, rfl, (by rw [S_len, S_len, sizeLine_eq]; omega), _, rfl, _, _, rfl, ?_⟩
          rw [S_append]
          have n2 : t2 ≠ tl := fun z => by rw [z, htl2] at ht2; cases ht2
          refine ⟨Tx ++ [32] ++ tx, tx, told ++ [(k, tx, (Tx ++ [32]).length)], bs ++ [t2], _, _, _, rfl, hw.step hg.1 (blank_of hB) hbd, by rw [List.length_append, hti]; rfl, ?_, hg.2, ?_, ?_, ?_, ?_⟩
          · rw [List.length_append]
            have := hg.2
            simp only at this
            omega
          · rw [upd_same, List.map_append]; rfl
          · refine Toks.snoc (by rw [upd_ne n2, upd_same]) (toks_keep (fun b' xs e' => ?_) ((toks_keep (keep_tup k2 p1) htk).same S3))
            rw [upd_ne]
            · exact e'
            · intro z
              rw [z, S3 _ _ htl2] at e'
              cases e'
          · intro b' o' nb e
            by_cases hb' : b' = tl
            · subst hb'
              rw [htl] at e; cases e
            · rw [upd_ne hb']
              exact S3 _ _ (k2 _ _ nb (k1 _ _ nb e))
          · obtain ⟨qa, qb, qe, qr⟩ := pool_same p2 S3
            exact ⟨qa, qb, by rw [upd_ne (Ne.symm ntl)]; exact qe, qr⟩
        · have hB : [] ∈ blanks := by decide
          have hbd : ∀ r, Bd last ([] ++ (tx ++ r)) := fun r => bd_app (t := tx) hg.1.ne (hbb (by simpa using c2))
          have hbl : ([] : List Nat).length ≤ 10 := by decide
          -- text + blank
          refine ⟨_, rfl, _, rfl, _, _, rfl, rfl, (by rw [S_len, S_len, sizeLine_eq]; omega), ?_⟩
          rw [S_append]
          have hlTb : (Tx ++ []).length ≤ 53 * i + 10 := by rw [List.length_append]; omega
          have htl2 := k2 _ _ ntl htl1
          refine ⟨_, rfl, .inl ⟨rfl, _, SqL.of htl2⟩, _, rfl, _, rfl, _, rfl, _, rfl, (by rw [S_len, sizeLine_eq]; omega), (by show 3 ≤ sizeLine; decide), fun t2 ht2 => ?_⟩
          rw [S_len]
          have S3 := same_new (o := .tup [V.str (kdS k), V.str (S tx), V.int ((Tx ++ []).length : Int)]) ht2
          refine ⟨tl, _, _, rfl, rfl, S3 _ _ htl2, (by rw [List.length_map, htk.len, sizeLine_eq]; omega), ?_⟩
          refine ⟨_, rfl, _, rfl, _, _, rfl, rfl, (by rw [S_len, S_len, sizeLine_eq]; omega), _, rfl, _, _, rfl, ?_⟩
          rw [S_append]
          have n2 : t2 ≠ tl := fun z => by rw [z, htl2] at ht2; cases ht2
          refine ⟨Tx ++ [] ++ tx, tx, told ++ [(k, tx, (Tx ++ []).length)], bs ++ [t2], _, _, _, rfl, hw.step hg.1 (blank_of hB) hbd, by rw [List.length_append, hti]; rfl, ?_, hg.2, ?_, ?_, ?_, ?_⟩
          · rw [List.length_append]
            have := hg.2
            simp only at this
            omega
          · rw [upd_same, List.map_append]; rfl
          · refine Toks.snoc (by rw [upd_ne n2, upd_same]) (toks_keep (fun b' xs e' => ?_) ((toks_keep (keep_tup k2 p1) htk).same S3))
            rw [upd_ne]
            · exact e'
            · intro z
              rw [z, S3 _ _ htl2] at e'
              cases e'
          · intro b' o' nb e
            by_cases hb' : b' = tl
            · subst hb'
              rw [htl] at e; cases e
            · rw [upd_ne hb']
              exact S3 _ _ (k2 _ _ nb (k1 _ _ nb e))
          · obtain ⟨qa, qb, qe, qr⟩ := pool_same p2 S3
            exact ⟨qa, qb, by rw [upd_ne (Ne.symm ntl)]; exact qe, qr⟩
      · have h1 : ¬ b = [] := by simpa using c1
        have hB := hb
        have hbd : ∀ r, Bd last (b ++ (tx ++ r)) := fun r => bd_blank hB h1
        have hbl := blank_len hb
        -- text + blank
        refine ⟨_, rfl, _, rfl, _, _, rfl, rfl, (by rw [S_len, S_len, sizeLine_eq]; omega), ?_⟩
        rw [S_append]
        have hlTb : (Tx ++ b).length ≤ 53 * i + 10 := by rw [List.length_append]; omega
        have htl2 := k2 _ _ ntl htl1
        refine ⟨_, rfl, .inl ⟨rfl, _, SqL.of htl2⟩, _, rfl, _, rfl, _, rfl, _, rfl, (by rw [S_len, sizeLine_eq]; omega), (by show 3 ≤ sizeLine; decide), fun t2 ht2 => ?_⟩
        rw [S_len]
        have S3 := same_new (o := .tup [V.str (kdS k), V.str (S tx), V.int ((Tx ++ b).length : Int)]) ht2
        refine ⟨tl, _, _, rfl, rfl, S3 _ _ htl2, (by rw [List.length_map, htk.len, sizeLine_eq]; omega), ?_⟩
        refine ⟨_, rfl, _, rfl, _, _, rfl, rfl, (by rw [S_len, S_len, sizeLine_eq]; omega), _, rfl, _, _, rfl, ?_⟩
        rw [S_append]
        have n2 : t2 ≠ tl := fun z => by rw [z, htl2] at ht2; cases ht2
        refine ⟨Tx ++ b ++ tx, tx, told ++ [(k, tx, (Tx ++ b).length)], bs ++ [t2], _, _, _, rfl, hw.step hg.1 (blank_of hB) hbd, by rw [List.length_append, hti]; rfl, ?_, hg.2, ?_, ?_, ?_, ?_⟩
        · rw [List.length_append]
          have := hg.2
          simp only at this
          omega
        · rw [upd_same, List.map_append]; rfl
        · refine Toks.snoc (by rw [upd_ne n2, upd_same]) (toks_keep (fun b' xs e' => ?_) ((toks_keep (keep_tup k2 p1) htk).same S3))
          rw [upd_ne]
          · exact e'
          · intro z
            rw [z, S3 _ _ htl2] at e'
            cases e'
        · intro b' o' nb e
          by_cases hb' : b' = tl
          · subst hb'
            rw [htl] at e; cases e
          · rw [upd_ne hb']
            exact S3 _ _ (k2 _ _ nb (k1 _ _ nb e))
        · obtain ⟨qa, qb, qe, qr⟩ := pool_same p2 S3
          exact ⟨qa, qb, by rw [upd_ne (Ne.symm ntl)]; exact qe, qr⟩
    · rintro σ H1 ⟨Tx, last, told, bs, v5, v6, v7, rfl, hw, hti, hTl, hll, htl1, htk, k1, p1⟩
      rw [List.length_map, hit.len] at hTl
      refine ⟨_, rfl, _, rfl, (by show 2 ≤ sizeLine; decide), fun p hp3 => ?_⟩
      have S3 := same_new (o := .lst [V.str (S Tx), V.ref tl]) hp3
      exact q p tl bs Tx told last _ hw (by omega) (k1.trans (Keep.of S3)) (pool_same p1 S3) upd_same (S3 _ _ htl1) (htk.same S3) ntl
end
end K10

set_option Elab.async false
set_option linter.all false
set_option maxRecDepth 100000
set_option maxHeartbeats 4000000
set_option pp.maxSteps 1500
set_option pp.deepTerms false
namespace K10
open PySem PySem.Spec PyProof.Rows L2 He KH PySem.KX Lex
open PySem.W (Frag)
section
variable {w : World} {K : Frag} {mg : Str → Option Value} {base : Heap}
/-! ### _law_at -/
def spAt (K : Frag) : Sp := fun vs H Q _ => ∃ v : V, vs = [v] ∧ ((∃ (l : List Nat) (e : Nat), v = .str (S l) ∧ l.length ≤ 5000 ∧ lexF (l.length + 1) 0 l = .error e ∧ e ≤ 10000 ∧ ∀ H', Same H H' → Q (.str (toString (e : Int))) H') ∨
  (((∃ l : List Nat, v = .str (S l) ∧ 5000 < l.length ∧ l.length ≤ 10000) ∨ NoText K H v) ∧ ∀ H', Same H H' → Q (.str "None") H'))
theorem sc_at : FnScope ["_law_text", "e"] ["_law_text"] (defScope s__law_at) := ⟨rfl, rfl, rfl, by decide +kernel, rfl, by decide +kernel, by decide +kernel⟩
def t_at_suite (K : Frag) : Addr → Value → Option Addr → TS := fun a cls d => tRet (tCB rReprF (tCons (tXf a cls d (ga K "BadText") "at" (tVar 1)) tNil))
theorem ok_at {f : Addr} {fd : FuncData} (F : Fun K "_law_at" "_law_at" s__law_at f fd) (T : Txt K mg) : FnOk P w K mg base CX0 6 f fd ["_law_text"] (spAt K) := by
  obtain ⟨fdT, F_tokens⟩ := T.f_tokens
  have G_tokens : FnOk P w K mg base (L2.CX P w) 5 _ fdT ["text"] (spTokens K) := ok_tokens F_tokens T
  have b_tokens : Binds K fdT ["text"] [] := F_tokens.binds fun _ _ _ _ _ _ us hl => match us, hl with | [_], _ => rfl
  refine F.ok sc_at (fun vs H Q E h => ?_) (fun cdv A outer s H vs Q E hr h => ?_)
  · obtain ⟨v, rfl, _⟩ := h
    rfl
  · obtain ⟨v, rfl, h⟩ := h
    have sc := sc_at
    have hr_tokens := hr
    have xf : XfC K (ga K "BadText") := ⟨T.x_BadText.ga, T.x_BadText.gg, T.x_BadText.exC, T.x_BadText.hdC⟩
    refine ⟨_, (pss_cons (ps_try_as (i := 1) (tb := fun W => tDrop (tCallS (spTokens K) (WE W) (tCons (tVar 0) tNil))) (ts := t_at_suite K) (Wout := fun _ _ _ _ => False) rfl rfl sc.nd rfl rfl ⟨rfl, by decide, Or.inl T.g_BadText⟩ takes0
        (fun W pn xe tk _ => pss_one (ps_expr (by exact (pe_callS G_tokens hr_tokens rfl T.g_tokens F_tokens.kp b_tokens (fun σ => passAt tk σ) (by exact (pa_cons (pv 0) pa_nil))))))
        (fun a oe cls d pn hz hf => pss_one (ps_ret (pe_callB call_reprF rfl T.n_repr (by decide +kernel) (pa_cons (pe_xf xf (T.x_BadText.no _ (by simp)) hz hf (pv 1)) pa_nil)))))
      (pss_one (ps_ret pe_non))), ?_⟩
    have he : PySem.W.exmOne K (.ref (ga K "BadText")) (.ref (ga K "BadText")) = some true := T.x_BadText.te
    rcases h with ⟨l, e, rfl, hl, hlex, he2, q⟩ | ⟨hv, q⟩
    · refine ⟨_, rfl, _, rfl, .inl ⟨l, rfl, hl, fun ts ets => ?_, fun e' ee d H1 S1 hd => ?_⟩⟩
      · rw [hlex] at ets; cases ets
      · have : e' = e := by rw [hlex] at ee; cases ee; rfl
        subst this
        refine ⟨true, he, fun _ a ha => ?_, fun q => Bool.noConfusion q⟩
        refine ⟨_, rfl, rfl, rfl, d, _, _, rfl, hd, (by simp [List.lookup]; first | done | rfl), .inl ⟨_, rfl, ?_, ?_⟩⟩
        · show (Int.natAbs (e' : Int)).log2 < 1920
          rw [Int.natAbs_natCast]
          by_cases hz : e' = 0
          · subst hz; decide
          · exact (Nat.log2_lt hz).mpr (Nat.lt_of_le_of_lt he2 (Nat.lt_of_lt_of_le (by decide : 10000 < 2 ^ 14) (Nat.pow_le_pow_right (by decide) (by decide))))
        · exact q _ S1
    · refine ⟨_, rfl, _, rfl, .inr ⟨hv, fun d H1 S1 hd => ?_⟩⟩
      refine ⟨true, he, fun _ a ha => ?_, fun q => Bool.noConfusion q⟩
      refine ⟨_, rfl, rfl, rfl, d, _, _, rfl, hd, (by simp [List.lookup]; first | done | rfl), .inr ⟨rfl, ?_⟩⟩
      exact q _ S1
end
end K10

set_option Elab.async false
set_option linter.all false
set_option maxRecDepth 100000
set_option maxHeartbeats 4000000
set_option pp.maxSteps 1500
set_option pp.deepTerms false
namespace K10
open PySem PySem.Spec PyProof.Rows L2 He KH PySem.KX Lex
open PySem.W (Frag)
/-! ### the tokens as data -/
def tokD (t : Lex.Tok) : PyData := .tuple [.str (kdS t.1), .str (S t.2.1), .int (t.2.2 : Int)]
theorem dp_toksA {K : Frag} {H : Hp} : ∀ {as : List Addr} {ts : List Lex.Tok}, Toks H as ts → DpAll K H (as.map V.ref) (ts.map tokD)
  | [], [], _ => .nil
  | a :: as, t :: ts, h => .cons (.tup (SqT.of h.1) (.cons (.str _) (.cons (.str _) (.cons (.int _) .nil)))) (dp_toksA h.2)
  | [], _ :: _, h => h.elim
  | _ :: _, [], h => h.elim
theorem strOk_S {l : List Nat} (h : ∀ c ∈ l, c < 1114112) : PyData.strOk (S l) = true := by
  show (l.toArray).all (fun c => decide (c < 1114112)) = true
  rw [List.all_toArray, List.all_eq_true]
  exact fun c hc => decide_eq_true (h c hc)
theorem strOk_of (s : String) : PyData.strOk (Str.ofString s) = true := by
  rw [Str.ofString_eq_toList]
  refine strOk_S fun c hc => ?_
  obtain ⟨d, _, rfl⟩ := List.mem_map.mp hc
  have h := d.valid
  have : d.toNat = d.val.toNat := rfl
  rcases h with h | h
  · rw [this]; exact Nat.lt_trans h (by decide)
  · rw [this]; exact h.2
theorem strOk_kd (k : Kd) : PyData.strOk (kdS k) = true := by cases k <;> exact strOk_of _
theorem lay_toks : ∀ {ts : List Lex.Tok}, (∀ t ∈ ts, ∀ c ∈ t.2.1, c < 1114112) → PyData.canLayAll0 (ts.map tokD) = true
  | [], _ => rfl
  | t :: ts, h => by
    show ((PyData.strOk (kdS t.1) && (PyData.strOk (S t.2.1) && (true && true))) && PyData.canLayAll0 (ts.map tokD)) = true
    rw [strOk_kd, strOk_S (h t (by simp)), lay_toks fun u hu => h u (by simp [hu])]
    rfl
theorem depth_toks : ∀ {ts : List Lex.Tok}, PyData.depthAll (ts.map tokD) ≤ 1
  | [] => Nat.zero_le _
  | t :: ts => by
    show max (PyData.depth (tokD t)) (PyData.depthAll (ts.map tokD)) ≤ 1
    have h : PyData.depth (tokD t) = 1 := rfl
    rw [h]
    exact Nat.max_le.mpr ⟨Nat.le_refl _, depth_toks⟩
theorem shape_toks {ts : List Lex.Tok} (h : ∀ t ∈ ts, ∀ c ∈ t.2.1, c < 1114112) : SeqAt.shaped (.list (ts.map tokD)) = true := by
  show (PyData.canLayAll0 (ts.map tokD) && decide (PyData.depthAll (ts.map tokD) + 1 ≤ 64)) = true
  rw [lay_toks h, Bool.true_and]
  refine decide_eq_true ?_
  have := depth_toks (ts := ts)
  omega
theorem eqv_toks {ts : List Lex.Tok} (h : ∀ t ∈ ts, ∀ c ∈ t.2.1, c < 1114112) : PyData.eqv (.list (ts.map tokD)) (.list (ts.map tokD)) = true := SeqAt.eqv_refl _ (lay_toks h)
theorem shape_two (s : String) : SeqAt.shaped (.list [.str (Str.ofString s), .str (Str.ofString s)]) = true := by
  show ((PyData.strOk _ && (PyData.strOk _ && true)) && _) = true
  rw [strOk_of]
  rfl
theorem eqv_two (s : String) : PyData.eqv (.list [.str (Str.ofString s), .str (Str.ofString s)]) (.list [.str (Str.ofString s), .str (Str.ofString s)]) = true := SeqAt.eqv_refl _ (by
  show ((PyData.strOk _ && (PyData.strOk _ && true))) = true
  rw [strOk_of]
  rfl)
theorem end_eq : Str.ofString "\n# end" = S endMark := by decide +kernel
theorem a_eq : Str.ofString "a" = S [97] := by decide +kernel
theorem four_eq : Str.ofString "a<==b" = S (cp "a<==b") := by decide +kernel
theorem sp_cps : (Str.ofString " ").cps.toList = [32] := by decide +kernel
theorem spaces (n : Nat) : S (List.replicate n (Str.ofString " ").cps.toList).flatten = S (List.replicate n 32) := by rw [sp_cps, flat1]
theorem wrongs_eq : ([V.str "A", V.str "$", V.str "'a", V.str (Str.ofString "'" ++ S (List.replicate (Int.toNat 41) (Str.ofString "a").cps.toList).flatten ++ Str.ofString "'"), V.str (S (List.replicate (Int.toNat 19) (Str.ofString "9").cps.toList).flatten), V.str "01", V.str "1a", V.str "_a", V.str (S (List.replicate (Int.toNat 21) (Str.ofString "a").cps.toList).flatten), V.str "!", V.str "\t", V.str "'a\n'", V.str "\""] : List V) = wrongs.map fun w => V.str (S w) := by decide +kernel
theorem wrong_len {x : List Nat} (h : x ∈ wrongs) : x.length ≤ 50 := (by decide : ∀ w ∈ wrongs, w.length ≤ 50) x h
def told4 : List Lex.Tok := [(.name, [97], 0), (.sign, [60, 61], 1), (.sign, [61], 3), (.name, [98], 4)]
theorem tup1_eq : [V.str (Str.ofString "name"), V.str (Str.ofString "a"), V.int 0] = [V.str (kdS .name), V.str (S [97]), V.int ((0 : Nat) : Int)] := by decide +kernel
theorem tup2_eq : [V.str (Str.ofString "sign"), V.str (Str.ofString "<="), V.int 1] = [V.str (kdS .sign), V.str (S [60, 61]), V.int ((1 : Nat) : Int)] := by decide +kernel
theorem tup3_eq : [V.str (Str.ofString "sign"), V.str (Str.ofString "="), V.int 3] = [V.str (kdS .sign), V.str (S [61]), V.int ((3 : Nat) : Int)] := by decide +kernel
theorem tup4_eq : [V.str (Str.ofString "name"), V.str (Str.ofString "b"), V.int 4] = [V.str (kdS .name), V.str (S [98]), V.int ((4 : Nat) : Int)] := by decide +kernel
section
variable {w : World} {K : Frag} {mg : Str → Option Value} {base : Heap}
abbrev Nlaw : List Str := ["_law_script", "_law_k", "_law_pool_here", "_law_turn", "_law_some", "_law_each", "_law_text", "_law_told", "_law_wrong", "_law_odd"]
theorem sc_law : FnScope Nlaw ["_law_script"] (defScope s_law) := ⟨rfl, rfl, rfl, by decide +kernel, rfl, by decide +kernel, by decide +kernel⟩
def spLaw (K : Frag) : Sp := fun vs H Q _ => ∃ (a : Addr) (ns : List Int), vs = [.ref a] ∧ SqL K H a (ns.map V.int) ∧ ns.length ≤ 63 ∧ ∀ H', Q (.bl true) H'
theorem ok_law {f : Addr} {fd : FuncData} (F : Fun K "law" "law" s_law f fd) (T : Txt K mg) : FnOk P w K mg base CX0 7 f fd ["_law_script"] (spLaw K) := by
  obtain ⟨fdP, F__law_pool⟩ := T.f__law_pool
  obtain ⟨fdT, F__law_take⟩ := T.f__law_take
  obtain ⟨fdK, F__law_token⟩ := T.f__law_token
  obtain ⟨fdW, F__law_written⟩ := T.f__law_written
  obtain ⟨fdA, F__law_at⟩ := T.f__law_at
  obtain ⟨fdL, F_tokens⟩ := T.f_tokens
  have G__law_pool : FnOk P w K mg base CX0 1 _ fdP ["_law_script", "_law_k"] (spPool K) := ok_pool F__law_pool T
  have G__law_take : FnOk P w K mg base CX0 1 _ fdT ["_law_pool_here", "_law_many"] spTake := ok_take F__law_take
  have G__law_token : FnOk P w K mg base CX0 2 _ fdK ["_law_pool_here"] spToken := ok_token F__law_token T
  have G__law_written : FnOk P w K mg base CX0 3 _ fdW ["_law_pool_here", "_law_some"] spWritten := ok_written F__law_written T
  have G__law_at : FnOk P w K mg base CX0 6 _ fdA ["_law_text"] (spAt K) := ok_at F__law_at T
  have G_tokens : FnOk P w K mg base (L2.CX P w) 5 _ fdL ["text"] (spTokens K) := ok_tokens F_tokens T
  have b__law_pool : Binds K fdP ["_law_script", "_law_k"] [] := F__law_pool.binds fun _ _ _ _ _ _ us hl => match us, hl with | [_, _], _ => rfl
  have b__law_take : Binds K fdT ["_law_pool_here", "_law_many"] [] := F__law_take.binds fun _ _ _ _ _ _ us hl => match us, hl with | [_, _], _ => rfl
  have b__law_token : Binds K fdK ["_law_pool_here"] [] := F__law_token.binds fun _ _ _ _ _ _ us hl => match us, hl with | [_], _ => rfl
  have b__law_written : Binds K fdW ["_law_pool_here", "_law_some"] [] := F__law_written.binds fun _ _ _ _ _ _ us hl => match us, hl with | [_, _], _ => rfl
  have b__law_at : Binds K fdA ["_law_text"] [] := F__law_at.binds fun _ _ _ _ _ _ us hl => match us, hl with | [_], _ => rfl
  have b_tokens : Binds K fdL ["text"] [] := F_tokens.binds fun _ _ _ _ _ _ us hl => match us, hl with | [_], _ => rfl
  refine F.ok sc_law (fun vs H Q E h => ?_) (fun cdv A outer s H vs Q E hr h => ?_)
  · obtain ⟨a, ns, rfl, _⟩ := h
    rfl
  · obtain ⟨a, ns, rfl, hS, hlen, kq⟩ := h
    have sc := sc_law
    have hr__law_pool : Room 1 _ := hr.mono (by decide)
    have hr__law_take : Room 1 _ := hr.mono (by decide)
    have hr__law_token : Room 2 _ := hr.mono (by decide)
    have hr__law_written : Room 3 _ := hr.mono (by decide)
    have hr__law_at : Room 6 _ := hr
    have hr_tokens : Room 5 _ := hr.mono (by decide)
    have hu64 := hr.units
    refine ⟨_, (pss_cons (ps_for PassesOwn.never rfl (pi_range1 rfl T.n_range (pa_cons (pe_callB (call_max2 rfl) rfl T.n_max (by decide +kernel) (pa_cons pe_int (pa_cons (pe_callB (call_min2 rfl) rfl T.n_min (by decide +kernel) (pa_cons (pe_callB call_len rfl T.n_len (by decide +kernel) (pa_cons (pv 0) pa_nil)) (pa_cons pe_int pa_nil))) pa_nil))) pa_nil)) (pg_name (i := 1) sc.nd rfl (Or.inl rfl))
        (pss_cons (ps_set (i := 2) sc.nd rfl (Or.inr rfl) (pe_call G__law_pool hr__law_pool rfl T.g__law_pool F__law_pool.kp b__law_pool .nil pass0 (pa_cons (pv 0) (pa_cons (pv 1) pa_nil))))
        (pss_one (ps_for PassesOwn.never rfl (pi_range1 rfl T.n_range (pa_cons pe_int pa_nil)) (pg_name (i := 3) sc.nd rfl (Or.inl rfl))
          (pss_cons (ps_setLc (i := 4) (own := [("_law_each", 5)]) (g := gName 5) (tt := tYes) rfl sc.nd rfl rfl (sw_true rfl rfl rfl (by decide +kernel)) (pi_range1 rfl T.n_range (pa_cons (pe_call G__law_take hr__law_take rfl T.g__law_take F__law_take.kp b__law_take .nil pass0 (pa_cons (pv 2) (pa_cons pe_int pa_nil))) pa_nil)) (blkOk_by (N := Nlaw) (sc := defScope s_law) (by decide +kernel)) (fun _ _ _ _ _ => pg_name (i := 5) sc.nd rfl (Or.inl rfl)) (fun _ _ _ _ _ => pts_nil) (fun _ _ _ _ _ => (pe_call G__law_token hr__law_token rfl T.g__law_token F__law_token.kp b__law_token .nil pass0 (pa_cons (pv 2) pa_nil))))
          (pss_cons (ps_asg (pe_call G__law_written hr__law_written rfl T.g__law_written F__law_written.kp b__law_written .nil pass0 (pa_cons (pv 2) (pa_cons (pv 4) pa_nil))) (pg_lst rfl (pgs_cons (pg_name (i := 6) sc.nd rfl (Or.inl rfl)) (pgs_cons (pg_name (i := 7) sc.nd rfl (Or.inl rfl)) pgs_nil))))
          (pss_cons (ps_if (PW.pt (pw_or (pt_cmpR (op_neD hu64) (pe_call G_tokens hr_tokens rfl T.g_tokens F_tokens.kp b_tokens .nil passL (pa_cons (pv 6) pa_nil)) (pv 7) (nomark _)) (pw_or1 (pt_cmpR (op_neD hu64) (pe_call G_tokens hr_tokens rfl T.g_tokens F_tokens.kp b_tokens .nil passL (pa_cons (pe_op op_add_str (pv 6) pe_str) pa_nil)) (pv 7) (nomark _)))))
            (pss_one (ps_ret pe_bl))
            pss_nil)
          (pss_cons (ps_set (i := 4) sc.nd rfl (Or.inl rfl) (pe_lst (pa_cons pe_str (pa_cons pe_str (pa_cons pe_str (pa_cons (pe_op op_add_str (pe_op op_add_str pe_str (pe_op op_rep_str pe_str pe_int)) pe_str) (pa_cons (pe_op op_rep_str pe_str pe_int) (pa_cons pe_str (pa_cons pe_str (pa_cons pe_str (pa_cons (pe_op op_rep_str pe_str pe_int) (pa_cons pe_str (pa_cons pe_str (pa_cons pe_str (pa_cons pe_str pa_nil)))))))))))))))
          (pss_cons (ps_set (i := 8) sc.nd rfl (Or.inl rfl) (pe_ix (r := rIxL K) ix_list (pv 4) (pe_call G__law_take hr__law_take rfl T.g__law_take F__law_take.kp b__law_take .nil pass0 (pa_cons (pv 2) (pa_cons pe_int pa_nil))) (fun _ _ => rfl)))
          (pss_one (ps_if (pt_cmpR (op_neD hu64) (pe_lst (pa_cons (pe_call G__law_at hr__law_at rfl T.g__law_at F__law_at.kp b__law_at .nil pass0 (pa_cons (pe_op op_add_str (pe_op op_add_str (pv 6) pe_str) (pv 8)) pa_nil)) (pa_cons (pe_call G__law_at hr__law_at rfl T.g__law_at F__law_at.kp b__law_at .nil pass0 (pa_cons (pe_op op_add_str (pe_op op_add_str (pe_op op_add_str (pv 6) pe_str) (pv 8)) pe_str) pa_nil)) pa_nil))) (pe_op op_rep (pe_lst (pa_cons (pe_callTy call_str_int rfl T.n_str (by decide +kernel) (pa_cons (pe_op op_add (pe_callB call_len_str rfl T.n_len (by decide +kernel) (pa_cons (pv 6) pa_nil)) pe_int) pa_nil)) pa_nil)) pe_int) (nomark _))
            (pss_one (ps_ret pe_bl))
            pss_nil)))))))))))
      (pss_cons (ps_for PassesOwn.never rfl (pi_list (pe_lst (pa_cons pe_non (pa_cons pe_int (pa_cons (pe_lst (pa_cons pe_str pa_nil)) (pa_cons (pe_tup (pa_cons pe_str pa_nil)) (pa_cons pe_bl (pa_cons pe_dnewK (pa_cons (pe_op op_add_str pe_str (pe_op op_rep_str pe_str pe_int)) (pa_cons (pe_op op_rep_str pe_str pe_int) pa_nil)))))))))) (pg_name (i := 9) sc.nd rfl (Or.inl rfl))
        (pss_one (ps_if (pt_cmpR op_ne (pe_call G__law_at hr__law_at rfl T.g__law_at F__law_at.kp b__law_at .nil pass0 (pa_cons (pv 9) pa_nil)) pe_str (nomark _))
          (pss_one (ps_ret pe_bl))
          pss_nil)))
      (pss_cons (ps_set (i := 7) sc.nd rfl (Or.inl rfl) (pe_lst (pa_cons (pe_tup (pa_cons pe_str (pa_cons pe_str (pa_cons pe_int pa_nil)))) (pa_cons (pe_tup (pa_cons pe_str (pa_cons pe_str (pa_cons pe_int pa_nil)))) (pa_cons (pe_tup (pa_cons pe_str (pa_cons pe_str (pa_cons pe_int pa_nil)))) (pa_cons (pe_tup (pa_cons pe_str (pa_cons pe_str (pa_cons pe_int pa_nil)))) pa_nil))))))
      (pss_one (ps_ret (pe_and (pe_cmpR (op_eqD hu64) (pe_call G_tokens hr_tokens rfl T.g_tokens F_tokens.kp b_tokens .nil passL (pa_cons (pe_op op_add_str pe_str (pe_op op_rep_str pe_str pe_int)) pa_nil)) (pe_slice sl_list (pv 7) po_none (po_some pe_int)) (nomark _)) (pe_and (pe_cmpR (op_eqD hu64) (pe_call G_tokens hr_tokens rfl T.g_tokens F_tokens.kp b_tokens .nil passL (pa_cons pe_str pa_nil)) (pe_lst pa_nil) (nomark _)) (pe_one (pe_cmpR (op_eqD hu64) (pe_call G_tokens hr_tokens rfl T.g_tokens F_tokens.kp b_tokens .nil passL (pa_cons pe_str pa_nil)) (pv 7) (nomark _)))))))))), ?_⟩
    refine ⟨_, rfl, _, ns.length, rfl, .inl ⟨_, hS, by simp⟩, _, _, rfl, _, _, rfl, _, rfl, ?_, ?_, for_range (lo := 0) (fun i σ H1 => ∃ v1 v2 v3 v4 v5 v6 v7 v8 v9 : Option V, σ = [some (.ref a), v1, v2, v3, v4, v5, v6, v7, v8, v9] ∧ Same H H1) ?_ ?_ ?_⟩
    · split <;> split <;> omega
    · split <;> split <;> omega
    · exact ⟨_, _, _, _, _, _, _, _, _, rfl, Same.refl H⟩
    · rintro i σ H1 hi ⟨v1, v2, v3, v4, v5, v6, v7, v8, v9, rfl, S1⟩
      have hi3 : i < 4 := by
        revert hi
        split <;> split <;> omega
      refine ⟨_, rfl, _, rfl, a, _, ns, rfl, S1.seq hS, by omega, by omega, fun pl x y npl hpl => ?_⟩
      refine ⟨4, rfl, by decide, by decide, for_range (lo := 0) (fun j σ H2 => ∃ v1 v3 v4 v5 v6 v7 v8 v9 : Option V, σ = [some (.ref a), v1, some (.ref pl), v3, v4, v5, v6, v7, v8, v9] ∧ Keep pl (upd H1 pl (.lst [.int x, .int y])) H2 ∧ PoolAt H2 pl) ?_ ?_ ?_⟩
      · exact ⟨_, _, _, _, _, _, _, _, rfl, fun _ _ _ e => e, hpl⟩
      · rintro j σ H2 hj ⟨u1, u3, u4, u5, u6, u7, u8, u9, rfl, k2, p2⟩
        -- the tokens
        refine ⟨_, rfl, pl, 31, rfl, p2, by decide, by decide, fun n o g0 g1 hp2 _ => ?_⟩
        refine ⟨n, rfl, by omega, by omega, fun D hD => lc_range (lo := 0) (n := n.toNat) (fun j H3 => ∃ (as : List Addr) (its : List (Kd × List Nat)), its.length = j ∧ Items H3 as its ∧ (∀ it ∈ its, Lex.Good it.1 it.2 ∧ it.2.length ≤ 42) ∧ H3 D = some (.lst (as.map V.ref)) ∧ Keep pl H2 H3 ∧ PoolAt H3 pl) ?_ ?_ ?_⟩
        · have SD := same_new (o := .lst []) hD
          exact ⟨[], [], rfl, trivial, by simp, upd_same, keep_upd.trans (Keep.of SD), pool_same hp2 SD⟩
        · rintro m H3 hm ⟨as, its, hl3, hit, hgd, hD3, k3, p3⟩
          have nD := pool_ne hp2 hD
          refine ⟨rfl, yes_if ?_⟩
          refine ⟨_, rfl, pl, rfl, p3, fun p k tx H4 gd hl k4 p4 hp => ?_⟩
          have hD4 := k4 _ _ nD hD3
          refine ⟨_, hD4, (by rw [List.length_map, hit.len, sizeLine_eq]; omega), as ++ [p], its ++ [(k, tx)], by rw [List.length_append, hl3]; rfl, ?_, ?_, ?_, ?_, ?_⟩
          · have npD : p ≠ D := fun z => by rw [z, hD4] at hp; cases hp
            refine Items.snoc (by rw [upd_ne npD]; exact hp) ((hit.keep (keep_tup k4 p3)).keep fun b xs e => ?_)
            rw [upd_ne]
            · exact e
            · intro z
              rw [z, hD4] at e
              cases e
          · intro it h
            rcases List.mem_append.mp h with h | h
            · exact hgd it h
            · rw [List.mem_singleton.mp h]; exact ⟨gd, hl⟩
          · rw [upd_same, List.map_append]; rfl
          · intro b o' nb e
            by_cases hb : b = D
            · subst hb
              have := (keep_upd (p := pl) (o := o)) b o' nb e
              rw [hD] at this; cases this
            · rw [upd_ne hb]; exact k4 _ _ nb (k3 b o' nb e)
          · obtain ⟨qa, qb, qe, qr⟩ := p4
            exact ⟨qa, qb, by rw [upd_ne (Ne.symm nD)]; exact qe, qr⟩
        · rintro H3 ⟨as, its, hl3, hit, hgd, hD3, k3, p3⟩
          have nD := pool_ne hp2 hD
          -- the text
          refine ⟨_, rfl, _, rfl, pl, D, as, its, rfl, p3, hD3, nD, hit, hgd, by omega, fun p tl bs Tx told last H4 hw hTl k4 p4 hp htl htk ntl => ?_⟩
          refine ⟨p, _, rfl, SqL.of hp, rfl, _, _, rfl, _, _, rfl, rfl, ?_⟩
          refine ⟨_, rfl, _, rfl, .inl ⟨Tx, rfl, by omega, fun ts ets q1 bs1 H5 S5 hq1 htk1 => ?_, fun e ee => by rw [hw.told] at ee; cases ee⟩⟩
          have : told = ts := by rw [hw.told] at ets; cases ets; rfl
          subst this
          refine ⟨_, rfl, _, _, .lst (SqL.of hq1) (dp_toksA htk1), .lst (SqL.of (S5 _ _ htl)) (dp_toksA (htk.same S5)), shape_toks hw.sm, shape_toks hw.sm, _, rfl, ?_⟩
          rw [eqv_toks hw.sm]
          refine iteF ?_
          refine ⟨_, rfl, _, _, rfl, rfl, (by rw [end_eq, S_len, S_len, sizeLine_eq]; show _ + 6 ≤ _; omega), ?_⟩
          rw [end_eq, S_append]
          refine ⟨_, rfl, .inl ⟨Tx ++ endMark, rfl, (by rw [List.length_append]; show _ + 6 ≤ _; omega), fun ts ets q2 bs2 H6 S6 hq2 htk2 => ?_, fun e ee => by rw [hw.ended] at ee; cases ee⟩⟩
          have : told = ts := by rw [hw.ended] at ets; cases ets; rfl
          subst this
          refine ⟨_, rfl, _, _, .lst (SqL.of hq2) (dp_toksA htk2), .lst (SqL.of (S6 _ _ (S5 _ _ htl))) (dp_toksA ((htk.same S5).same S6)), shape_toks hw.sm, shape_toks hw.sm, _, rfl, ?_⟩
          rw [eqv_toks hw.sm]
          refine iteF ?_
          -- the wrong pieces
          refine ⟨_, _, rfl, rfl, by decide, by decide, (by decide +kernel), _, _, rfl, rfl, (by decide +kernel), _, _, rfl, rfl, (by decide +kernel), _, _, rfl, rfl, by decide, by decide, (by decide +kernel), _, _, rfl, rfl, by decide, by decide, (by decide +kernel), (by show 13 ≤ sizeLine; decide), fun L hL => ?_⟩
          rw [wrongs_eq]
          have p6 := pool_same (pool_same p4 S5) S6
          have S7 := same_new (o := .lst (wrongs.map fun w => V.str (S w))) hL
          refine ⟨_, rfl, _, rfl, pl, 13, rfl, pool_same p6 S7, by decide, by decide, fun r o2 h0 h1 hp7 _ => ?_⟩
          obtain ⟨x, hx, hat⟩ := menu_at (ws := wrongs) h0 (by exact h1)
          refine ⟨L, _, _, _, rfl, rfl, SqL.of (by rw [upd_ne (pool_ne p6 hL), upd_same]), hat, ?_⟩
          have k7 : Keep pl H4 (upd (upd H6 L (.lst (wrongs.map fun w => V.str (S w)))) pl o2) := ((Keep.of (S5.trans S6)).trans (Keep.of S7)).trans keep_upd
          generalize upd (upd H6 L (.lst (wrongs.map fun w => V.str (S w)))) pl o2 = H7 at k7 hp7
          have hxl := wrong_len hx
          have hnl : (Str.ofString "\n").length = 1 := by decide +kernel
          have hsp : (Str.ofString " ").length = 1 := by decide +kernel
          have e1 : S Tx ++ Str.ofString "\n" ++ S x = S (Tx ++ 10 :: (x ++ [])) := by rw [nl_eq, S_append, S_append]; simp
          have e2 : S Tx ++ Str.ofString "\n" ++ S x ++ Str.ofString " " = S (Tx ++ 10 :: (x ++ [32])) := by rw [e1, sp_eq, S_append]; simp
          have z0 : (S Tx ++ Str.ofString "\n").length ≤ 1591 := by rw [nl_eq, S_append, S_len, List.length_append]; show _ + 1 ≤ _; omega
          have z1 : (S Tx ++ Str.ofString "\n" ++ S x).length ≤ 1641 := by rw [e1, S_len]; simp; omega
          refine ⟨_, rfl, _, _, rfl, rfl, (by rw [S_len, hnl, sizeLine_eq]; omega), _, rfl, _, _, rfl, rfl, (by rw [S_len x, sizeLine_eq]; omega), _, rfl, .inl ⟨_, _, (by rw [e1]), (by simp; omega), hw.wrong hx (.inl rfl), (by omega), fun H8 S8 => ?_⟩⟩
          refine ⟨_, rfl, _, _, rfl, rfl, (by rw [S_len, hnl, sizeLine_eq]; omega), _, rfl, _, _, rfl, rfl, (by rw [S_len x, sizeLine_eq]; omega), _, _, rfl, rfl, (by rw [hsp, sizeLine_eq]; omega), _, rfl, .inl ⟨_, _, (by rw [e2]), (by simp; omega), hw.wrong hx (.inr rfl), (by omega), fun H9 S9 => ?_⟩⟩
          refine ⟨(by show 2 ≤ sizeLine; decide), fun L1 hL1 => ?_⟩
          refine ⟨_, rfl, _, rfl, (by rw [S_len, sizeLine_eq]; omega), _, _, rfl, rfl, _, rfl, ?_, (by show 1 ≤ sizeLine; decide), fun L2 hL2 => ?_⟩
          · rw [S_len]
            have : ((Tx.length : Int) + 1).natAbs = Tx.length + 1 := by omega
            rw [this]
            exact (Nat.log2_lt (by omega)).mpr (Nat.lt_of_le_of_lt (by omega) (Nat.lt_of_lt_of_le (by decide : 10000 < 2 ^ 14) (Nat.pow_le_pow_right (by decide) (by decide))))
          · rw [S_len]
            have ee : ((Tx.length : Int) + 1) = ((Tx.length + 1 : Nat) : Int) := rfl
            rw [ee]
            refine ⟨L2, 2, _, rfl, rfl, upd_same, by decide, by decide, (by show 1 * 2 ≤ sizeLine; decide), fun L3 hL3 => ?_⟩
            have T1 := same_new (o := .lst [V.str (Str.ofString (toString ((Tx.length + 1 : Nat) : Int))), V.str (Str.ofString (toString ((Tx.length + 1 : Nat) : Int)))]) hL1
            have T2 := same_new (o := .lst [V.str (Str.ofString (toString ((Tx.length + 1 : Nat) : Int)))]) hL2
            have T3 := same_new (o := .lst [V.str (Str.ofString (toString ((Tx.length + 1 : Nat) : Int))), V.str (Str.ofString (toString ((Tx.length + 1 : Nat) : Int)))]) hL3
            refine ⟨_, _, .lst (SqL.of (T3 _ _ (T2 _ _ upd_same))) (.cons (.str _) (.cons (.str _) .nil)), .lst (SqL.of upd_same) (.cons (.str _) (.cons (.str _) .nil)), shape_two _, shape_two _, _, rfl, ?_⟩
            rw [eqv_two]
            refine iteF ?_
            have S89 : Same H7 _ := ((S8.trans S9).trans T1).trans (T2.trans T3)
            exact ⟨_, _, _, _, _, _, _, _, rfl, (((k2.trans k3).trans k4).trans k7).trans (Keep.of S89), pool_same hp7 S89⟩
      · rintro σ H2 ⟨u1, u3, u4, u5, u6, u7, u8, u9, rfl, k2, p2⟩
        exact ⟨_, _, _, _, _, _, _, _, _, rfl, S1.trans (k2.new npl (same_new npl))⟩
    · rintro σ H1 ⟨v1, v2, v3, v4, v5, v6, v7, v8, v9, rfl, S1⟩
      -- the odd values
      have z5 : ∀ n : Nat, n ≤ 6000 → (S (List.replicate n (Str.ofString " ").cps.toList).flatten).length ≤ 6000 := fun n h => by rw [spaces, S_len, List.length_replicate]; exact h
      have za : (Str.ofString "a").length = 1 := by decide +kernel
      refine ⟨(by show 1 ≤ sizeLine; decide), fun l1 hl1 => ⟨(by show 1 ≤ sizeLine; decide), fun t1 ht1 => fun d1 hd1 => ?_⟩⟩
      refine ⟨_, _, rfl, rfl, by decide, by decide, (by decide +kernel), _, _, rfl, rfl, ?_, _, _, rfl, rfl, by decide, by decide, (by decide +kernel), (by show 8 ≤ sizeLine; decide), fun p hp => ?_⟩
      · have := z5 5000 (by decide)
        rw [za, sizeLine_eq]
        have e : Int.toNat 5000 = 5000 := rfl
        rw [e]
        omega
      · rw [spaces, spaces]
        have n1 := same_new (o := .lst [V.str (Str.ofString "a")]) hl1
        have n2 := same_new (o := .tup [V.str (Str.ofString "a")]) ht1
        have n3 := same_new (o := .dK []) hd1
        have el1 : upd (upd (upd H1 l1 (.lst [V.str (Str.ofString "a")])) t1 (.tup [V.str (Str.ofString "a")])) d1 (.dK []) l1 = some (.lst [V.str (Str.ofString "a")]) := n3 _ _ (n2 _ _ upd_same)
        have et1 : upd (upd (upd H1 l1 (.lst [V.str (Str.ofString "a")])) t1 (.tup [V.str (Str.ofString "a")])) d1 (.dK []) t1 = some (.tup [V.str (Str.ofString "a")]) := n3 _ _ upd_same
        have ed1 : upd (upd (upd H1 l1 (.lst [V.str (Str.ofString "a")])) t1 (.tup [V.str (Str.ofString "a")])) d1 (.dK []) d1 = some (.dK []) := upd_same
        generalize upd (upd (upd H1 l1 (.lst [V.str (Str.ofString "a")])) t1 (.tup [V.str (Str.ofString "a")])) d1 (.dK []) = H2 at hp el1 et1 ed1
        have n4 := same_new (o := .lst [V.non, V.int 5, V.ref l1, V.ref t1, V.bl true, V.ref d1, V.str (Str.ofString "a" ++ S (List.replicate (Int.toNat 5000) 32)), V.str (S (List.replicate (Int.toNat 5001) 32))]) hp
        have ep : upd H2 p (.lst [V.non, V.int 5, V.ref l1, V.ref t1, V.bl true, V.ref d1, V.str (Str.ofString "a" ++ S (List.replicate (Int.toNat 5000) 32)), V.str (S (List.replicate (Int.toNat 5001) 32))]) p = some (.lst [V.non, V.int 5, V.ref l1, V.ref t1, V.bl true, V.ref d1, V.str (Str.ofString "a" ++ S (List.replicate (Int.toNat 5000) 32)), V.str (S (List.replicate (Int.toNat 5001) 32))]) := upd_same
        replace el1 := n4 _ _ el1
        replace et1 := n4 _ _ et1
        replace ed1 := n4 _ _ ed1
        generalize upd H2 p (.lst [V.non, V.int 5, V.ref l1, V.ref t1, V.bl true, V.ref d1, V.str (Str.ofString "a" ++ S (List.replicate (Int.toNat 5000) 32)), V.str (S (List.replicate (Int.toNat 5001) 32))]) = H3 at el1 et1 ed1 ep
        refine ⟨p, rfl, ⟨_, SqL.of ep⟩, for_list (K := K) (a := p) (xs := [V.non, V.int 5, V.ref l1, V.ref t1, V.bl true, V.ref d1, V.str (Str.ofString "a" ++ S (List.replicate (Int.toNat 5000) 32)), V.str (S (List.replicate (Int.toNat 5001) 32))]) (fun i σ H4 => ∃ v1 v2 v3 v4 v5 v6 v7 v8 v9 : Option V, σ = [some (.ref a), v1, v2, v3, v4, v5, v6, v7, v8, v9] ∧ Same H3 H4) ?_ ?_ ?_ ?_⟩
        · exact ⟨_, _, _, _, _, _, _, _, _, rfl, Same.refl _⟩
        · rintro i σ H4 _ ⟨u1, u2, u3, u4, u5, u6, u7, u8, u9, rfl, S4⟩
          exact SqL.of (S4 _ _ ep)
        · rintro i x σ H4 hi ⟨u1, u2, u3, u4, u5, u6, u7, u8, u9, rfl, S4⟩
          have hx := List.mem_of_getElem? hi
          have hodd : (∃ l : List Nat, x = .str (S l) ∧ 5000 < l.length ∧ l.length ≤ 10000) ∨ NoText K H4 x := by
            simp only [List.mem_cons, List.not_mem_nil, or_false] at hx
            rcases hx with rfl | rfl | rfl | rfl | rfl | rfl | rfl | rfl
            · exact .inr ⟨_, .base .non, kit_ty (by decide +kernel)⟩
            · exact .inr ⟨_, .base (.int _), kit_ty (by decide +kernel)⟩
            · exact .inr ⟨_, .base (.lst (S4 _ _ el1)), kit_ty (by decide +kernel)⟩
            · exact .inr ⟨_, .base (.tup (S4 _ _ et1)), kit_ty (by decide +kernel)⟩
            · exact .inr ⟨_, .base (.bl _), kit_ty (by decide +kernel)⟩
            · exact .inr ⟨_, .base (.dK (S4 _ _ ed1)), kit_ty (by decide +kernel)⟩
            · refine .inl ⟨[97] ++ List.replicate (Int.toNat 5000) 32, by rw [a_eq, S_append], ?_, ?_⟩
              · rw [List.length_append, List.length_replicate]; show 5000 < 1 + 5000; omega
              · rw [List.length_append, List.length_replicate]; show 1 + 5000 ≤ 10000; omega
            · refine .inl ⟨List.replicate (Int.toNat 5001) 32, rfl, ?_, ?_⟩
              · rw [List.length_replicate]; show 5000 < 5001; omega
              · rw [List.length_replicate]; show 5001 ≤ 10000; omega
          refine ⟨_, rfl, _, rfl, .inr ⟨hodd, fun H5 S5 => ?_⟩⟩
          refine ⟨rfl, _, rfl, ?_⟩
          rw [decide_eq_true (show V.str (Str.ofString "None") = V.str (Str.ofString "None") from rfl)]
          refine iteF ?_
          exact ⟨_, _, _, _, _, _, _, _, _, rfl, S4.trans S5⟩
        · rintro σ H4 ⟨u1, u2, u3, u4, u5, u6, u7, u8, u9, rfl, S4⟩
          -- the last texts
          refine ⟨(by show 3 ≤ sizeLine; decide), fun q1 hq1 => ⟨(by show 3 ≤ sizeLine; decide), fun q2 hq2 => ⟨(by show 3 ≤ sizeLine; decide), fun q3 hq3 => ⟨(by show 3 ≤ sizeLine; decide), fun q4 hq4 => ⟨(by show 4 ≤ sizeLine; decide), fun tl htl => ?_⟩⟩⟩⟩⟩
          have d2 := same_new (o := .tup [V.str (Str.ofString "sign"), V.str (Str.ofString "<="), V.int 1]) hq2
          have d3 := same_new (o := .tup [V.str (Str.ofString "sign"), V.str (Str.ofString "="), V.int 3]) hq3
          have d4 := same_new (o := .tup [V.str (Str.ofString "name"), V.str (Str.ofString "b"), V.int 4]) hq4
          have d5 := same_new (o := .lst [V.ref q1, V.ref q2, V.ref q3, V.ref q4]) htl
          have etl : upd (upd (upd (upd (upd H4 q1 (.tup [V.str (Str.ofString "name"), V.str (Str.ofString "a"), V.int 0])) q2 (.tup [V.str (Str.ofString "sign"), V.str (Str.ofString "<="), V.int 1])) q3 (.tup [V.str (Str.ofString "sign"), V.str (Str.ofString "="), V.int 3])) q4 (.tup [V.str (Str.ofString "name"), V.str (Str.ofString "b"), V.int 4])) tl (.lst [V.ref q1, V.ref q2, V.ref q3, V.ref q4]) tl = some (.lst [V.ref q1, V.ref q2, V.ref q3, V.ref q4]) := upd_same
          have tk : Toks (upd (upd (upd (upd (upd H4 q1 (.tup [V.str (Str.ofString "name"), V.str (Str.ofString "a"), V.int 0])) q2 (.tup [V.str (Str.ofString "sign"), V.str (Str.ofString "<="), V.int 1])) q3 (.tup [V.str (Str.ofString "sign"), V.str (Str.ofString "="), V.int 3])) q4 (.tup [V.str (Str.ofString "name"), V.str (Str.ofString "b"), V.int 4])) tl (.lst [V.ref q1, V.ref q2, V.ref q3, V.ref q4])) [q1, q2, q3, q4] told4 := by
            refine ⟨?_, ?_, ?_, ?_, trivial⟩
            · rw [← tup1_eq]; exact d5 _ _ (d4 _ _ (d3 _ _ (d2 _ _ upd_same)))
            · rw [← tup2_eq]; exact d5 _ _ (d4 _ _ (d3 _ _ upd_same))
            · rw [← tup3_eq]; exact d5 _ _ (d4 _ _ upd_same)
            · rw [← tup4_eq]; exact d5 _ _ upd_same
          generalize upd (upd (upd (upd (upd H4 q1 (.tup [V.str (Str.ofString "name"), V.str (Str.ofString "a"), V.int 0])) q2 (.tup [V.str (Str.ofString "sign"), V.str (Str.ofString "<="), V.int 1])) q3 (.tup [V.str (Str.ofString "sign"), V.str (Str.ofString "="), V.int 3])) q4 (.tup [V.str (Str.ofString "name"), V.str (Str.ofString "b"), V.int 4])) tl (.lst [V.ref q1, V.ref q2, V.ref q3, V.ref q4]) = H5 at etl tk
          clear d2 d3 d4 d5 htl hq4 hq3 hq2 hq1
          refine ⟨_, _, rfl, rfl, by decide, by decide, (by decide +kernel), _, _, rfl, rfl, ?_, ?_⟩
          · have := z5 4999 (by decide)
            rw [za, sizeLine_eq]
            have e : Int.toNat 4999 = 4999 := rfl
            rw [e]
            omega
          rw [spaces, a_eq, S_append]
          have lx : lexF (([97] ++ List.replicate (Int.toNat 4999) 32).length + 1) 0 ([97] ++ List.replicate (Int.toNat 4999) 32) = .ok [(.name, [97], 0)] := lex_a_blanks _ _
          refine ⟨_, rfl, .inl ⟨[97] ++ List.replicate (Int.toNat 4999) 32, rfl, (by rw [List.length_append, List.length_replicate]; show 1 + 4999 ≤ 5000; omega), fun ts ets r1 bs1 H6 S6 hr1 htk1 => ?_, fun e ee => by rw [lx] at ee; cases ee⟩⟩
          have : [(Kd.name, [97], 0)] = ts := by rw [lx] at ets; cases ets; rfl
          subst this
          refine ⟨_, rfl, _, rfl, tl, _, rfl, SqL.of (S6 _ _ etl), fun r2 hr2 => ?_⟩
          have T2 := same_new (o := .lst (cutV [V.ref q1, V.ref q2, V.ref q3, V.ref q4] none (some 1))) hr2
          have tk6 := (tk.same S6).same T2
          have m1 : ∀ t ∈ [((Kd.name, [97], 0) : Lex.Tok)], ∀ c ∈ t.2.1, c < 1114112 := by decide
          have m4 : ∀ t ∈ told4, ∀ c ∈ t.2.1, c < 1114112 := by decide
          refine ⟨_, _, .lst (SqL.of (T2 _ _ hr1)) (dp_toksA (htk1.same T2)), .lst (SqL.of upd_same) (dp_toksA (as := [q1]) (ts := [(Kd.name, [97], 0)]) ⟨tk6.1, trivial⟩), shape_toks m1, shape_toks m1, _, rfl, ?_⟩
          rw [eqv_toks m1]
          refine iteT ?_
          have l0 : lexF (([] : List Nat).length + 1) 0 [] = .ok [] := rfl
          refine ⟨_, rfl, .inl ⟨[], (by rw [empty_eq]), Nat.zero_le _, fun ts ets r3 bs3 H7 S7 hr3 htk3 => ?_, fun e ee => by rw [l0] at ee; cases ee⟩⟩
          have : [] = ts := by rw [l0] at ets; cases ets; rfl
          subst this
          refine ⟨(by show 0 ≤ sizeLine; decide), fun r4 hr4 => ?_⟩
          have T4 := same_new (o := .lst []) hr4
          have m0 : ∀ t ∈ ([] : List Lex.Tok), ∀ c ∈ t.2.1, c < 1114112 := by decide
          refine ⟨_, _, .lst (SqL.of (T4 _ _ hr3)) (dp_toksA (htk3.same T4)), .lst (SqL.of upd_same) .nil, shape_toks m0, shape_toks m0, _, rfl, ?_⟩
          refine iteT ?_
          have lx4 : lexF ((cp "a<==b").length + 1) 0 (cp "a<==b") = .ok told4 := lex_four
          refine ⟨_, rfl, .inl ⟨cp "a<==b", (by rw [four_eq]), (by decide), fun ts ets r5 bs5 H8 S8 hr5 htk5 => ?_, fun e ee => by rw [lx4] at ee; cases ee⟩⟩
          have : told4 = ts := by rw [lx4] at ets; cases ets; rfl
          subst this
          refine ⟨_, rfl, _, _, .lst (SqL.of hr5) (dp_toksA htk5), .lst (SqL.of (S8 _ _ (T4 _ _ (S7 _ _ (T2 _ _ (S6 _ _ etl)))))) (dp_toksA (((tk6.same S7).same T4).same S8)), shape_toks m4, shape_toks m4, ?_⟩
          rw [eqv_toks m4]
          exact kq _
end
end K10

set_option Elab.async false
set_option linter.all false
set_option maxRecDepth 100000
set_option maxHeartbeats 0
namespace K10
open PySem PySem.Spec PyProof.Rows L2 He KH PySem.KX
open PySem.W (Frag)
theorem facts {w : World} {K : Frag} {h : Heap} {mg : Str → Option Value} {f : Addr} (X : K.In h) (G : h.Ns mainGlobals mg) (hfa : mg ("law" : Str) = some (.ref f)) (c : Says need K) :
    ∃ fd : FuncData, (∀ (s : Shared) (v : Value), BindsTo s fd ⟨[v], []⟩ [("_law_script", v)]) ∧ ∀ base : Heap, K.In base → base.Ns mainGlobals mg → FnOk P w K mg base CX0 7 f fd ["_law_script"] (spLaw K) := by
  obtain ⟨fd, F⟩ := c.def_ 14 (e := d_law) rfl
  have T := txt X G c
  have e := hfa.symm.trans T.g_law
  cases e
  have b := FunD.bindsA (ps := ["_law_script"]) F fun _ _ _ _ _ _ us hl => match us, hl with | [_], _ => rfl
  exact ⟨fd, fun s v => b s [v] rfl, fun base _ _ => ok_law F.fn T⟩
end K10
open PySem PySem.W PySem.Calls PyProof.Rows
theorem PySem.Challenge.cw_keptbindings_k10_tokens_holds : PySem.Challenge.rw_keptbindings_k10_tokens.Holds := by
  w_on; o_law
  refine HandSHeadRun.head_any (r := OpenLaw.row PySem.Challenge.rw_keptbindings_k10_tokens) (q := view (OpenLaw.row PySem.Challenge.rw_keptbindings_k10_tokens).prog [27]) (H := K10.hk) (ob := K10.ob) (M := 4000) (loose := K10.loose) (d := HandSHeadRun.topDef (OpenLaw.row PySem.Challenge.rw_keptbindings_k10_tokens).prog 27) (kwd := []) K10.ob_eq
    (by kernel_rfl) (fun s => by kernel_rfl) K10.run (by kernel_rfl) (by kernel_rfl) (by kernel_rfl) (by rfl) (by first | assumption | decide +kernel) (by decide +kernel) ⟨rfl, rfl, rfl, rfl, rfl, by decide +kernel⟩ ?hw ?hc
  case hw => w_witness2
  case hc =>
    refine L2.walk_ofE (l := PySem.Challenge.rw_keptbindings_k10_tokens) (n := 63) (x := "_law_script") (k := 7) rfl (by decide) (by kernel_rfl) ⟨rfl, by decide, by decide⟩ ?F (CX := L2.CX0) (fun _ _ _ _ h => h)
    intro w mg fa h Y G hmg0
    obtain ⟨K, KX, c⟩ := Y
    have hmg : mg ("law" : PySem.Str) = some (.ref fa) := by
      have e : (HandSHeadRun.topDef (OpenLaw.row PySem.Challenge.rw_keptbindings_k10_tokens).prog 27).name = ("law" : PySem.Str) := by kernel_rfl
      rw [← e]
      exact hmg0
    obtain ⟨fd, hb, hF⟩ := K10.facts (w := w) KX G hmg c
    exact ⟨K, fd, K10.spLaw K, KX, hb, fun H a ns hl _ hS => ⟨a, ns, rfl, hS, hl, fun _ => rfl⟩, hF⟩
