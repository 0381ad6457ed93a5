import PyProof.Rows.All
import Wide.All
import OpenK.AllK
import Wide.FinOn
import KE.KExcSuper
import KE.KExcIs
import HandS.ForMost
import HandS.ForExc
import HandS.ExcInit
import HandS.ExcField
import HandS.IsInst
import HandS.Star
import HandS.TupAny
import HandS.TupLe
import HandS.TryMany
import HandS.Codes
import HandS.ExcIs
import HandS.Walk
import HandS.Zip
import KE.KTupSum
import HandS.Defaults
import HandS.MakeKwOnly
import HandS.TupLen
import HandS.TupMul
import HandS.Style
import HandS.Deep
import KE.GoesEnum
import KE.GoesMore
import KE.KCallOwn
import KE.KOpsOwn
import PyProof.InstNe
import PyProof.InstEq
import HandS.Head0
import HandS.Head1
import HandS.Head2
import HandS.HeadEnd
import HandS.HeadHook1
import HandS.HeadHook2
import HandS.HeadWalk
import PySem.Str
import KE.KDictKeyed
import HandS.Lambda
import HandS.SortInts
import HandS.DictComp
import HandS.Finally
import HandS.Conv
import HandS.Steps
import PySem.Challenge.RW_widestparcels_k02_read_number
set_option Elab.async false
set_option linter.all false
set_option maxRecDepth 100000
set_option maxHeartbeats 4000000
/-! Errors of the program: a class over ParcelError (itself over ValueError) whose __init__ calls super().__init__(text) and then stores its arguments under their own names. -/
namespace WpE
open PySem PySem.W PySem.Calls PyProof.Rows L2

/-- what the written part says of the class at C and of its __init__ at fI -/
structure ErrC (P : Program) (K : Frag) (C fI : Addr) (qual : Str) (prm : Arguments) (body : List Stmt) (sc : Scope) : Prop where
  cls : ∃ nm q N bs bm sn sub ab col dd k0 k1 k2 k3 k5, K.lookup C = some (excClassObj nm q C N bs bm true sn sub ab col dd k0 k1 k2 k3 k5 "ValueError.__new__") ∧ PySem.HandSPX.refsVE bm = true ∧ alongIn K "__init__" bm = some (some (.builtin "ValueError.__init__"))
  sa : findIn K (.ref C) "__setattr__" = some (some (.builtin "object.__setattr__"))
  iC : findIn K (.ref C) "__init__" = some (some (.ref fI))
  tI : typeIn K (.ref fI) = some (.type "function")
  exC : subIn K (.ref C) (.type "BaseException") = some true
  exV : subIn K (.ref C) (.type "ValueError") = some true
  mroC : mroIn K C (.ref C) = some true
  tyC : typeIn K (.ref C) = some (.type "type")
  kC : keepIn K (.ref C) = true
  op : nsIn K cStatics "thirdparty.any" = some none
  su : nsIn K mainGlobals "super" = some none
  tp : (P.main.scope.names.lookup ("super" : Str)).isSome = false
  fn : ∃ (oc : Value) (od : Option Addr) (doc pm : Value) (an : Option Addr) (cda cc : Addr) (ct : Value) (osl : Array (Option Value)) (ccl : Value) (cdd : Option Addr) (vs : Array Value) (ccs : Array (Option Value)) (file : Str) (tf : Tok) (cl : Value) (cld : Option Addr) (csl : Array (Option Value)),
    K.lookup fI = some ⟨oc, od, .func (fnX "__init__" qual prm body sc [("__class__", cc)] .none .none doc pm an (.ref cda) ct), osl⟩ ∧ codeIn K (.ref cda) qual = true ∧
    K.lookup cda = some ⟨ccl, cdd, .fields vs, ccs⟩ ∧ vs[2]? = some (.str file tf) ∧ ((P.main.file : Str) == file) = true ∧
    K.lookup cc = some ⟨cl, cld, .cell (some (.ref C)), csl⟩

def aOf (f : Str) (p : Pos) : Arg := { arg := f, annotation := none, pos := p }
def prmOf (xs : List (Str × Pos)) : Arguments := { posonlyargs := [], args := xs.map fun x => aOf x.1 x.2, vararg := none, kwonlyargs := [], kw_defaults := [], kwarg := none, defaults := [] }
def supOf (m : Str) (j : Nat) (p1 p2 p3 p4 p5 p6 : Pos) : Stmt := .Expr (.Call (.Attribute (.Call (.Name "super" p1) [] [] p2) "__init__" p3) [.Constant (.str m) j p4] [] p5) p6
def stoOf (f : Str) (q1 q2 q3 q4 : Pos) : Stmt := .Assign [.Attribute (.Name "self" q1) f q2] (.Name f q3) q4
def scOf (fs : List Str) : Scope := { kind := .function, names := (("self" : Str), .local) :: (fs.map (fun f => (f, NameKind.local)) ++ [(("__class__" : Str), .free), (("super" : Str), .globalImplicit)]), isGenerator := false, isCoroutine := false, more := [] }

theorem sup_he {env : Env} {m : Str} {j : Nat} {p1 p2 p3 p4 p5 : Pos} (hp : (p3.endLine == p5.line) = true) :
    eval (.Call (.Attribute (.Call (.Name "super" p1) [] [] p2) "__init__" p3) [.Constant (.str m) j p4] [] p5) env = (do
      let ov ← attributeBase (.Call (.Name "super" p1) [] [] p2) "__init__" env (eval (.Call (.Name "super" p1) [] [] p2) env)
      standAt p3.atName
      let (f, first) ← holding [ov] (getMethod ov "__init__" (do return (← importBound (.Call (.Name "super" p1) [] [] p2) env).getD true))
      callWith p5 f first (backTo p5 (starEach [.Constant (.str m) j p4] env)) []) := by
  have h1 : methodCallPos true (.Call (.Name "super" p1) [] [] p2) env p3 p5 = pure p5 := by
    unfold methodCallPos
    rw [hp]
    rfl
  show (do
      let ov ← attributeBase (.Call (.Name "super" p1) [] [] p2) "__init__" env (eval (.Call (.Name "super" p1) [] [] p2) env)
      standAt p3.atName
      let (f, first) ← holding [ov] (getMethod ov "__init__" (do return (← importBound (.Call (.Name "super" p1) [] [] p2) env).getD true))
      let callPos ← methodCallPos true (.Call (.Name "super" p1) [] [] p2) env p3 p5
      callWith callPos f first (backTo p5 (starEach [.Constant (.str m) j p4] env)) []) = _
  rw [h1]
  rfl
/-- what the first statement, super().__init__(m), leaves of a fresh exception -/
theorem sup_step {prog : Program} {w : World} {A : Around} {E : Value → Shared → Prop} {s : Shared} {K : Frag} {mg : Str → Option Value} {base : Heap} {C fI x t0 L cda cc : Addr} {qual : Str} {prm : Arguments} {body : List Stmt} {sc : Scope} {mm : Str → Option Value}
    {Q : Value → Shared → Prop} {m : Str} {j : Nat} {p1 p2 p3 p4 p5 : Pos} {p0 : Pos} {oc : Value} {od : Option Addr} {doc pm : Value} {an : Option Addr} {ct : Value} {osl : Array (Option Value)} {ccl : Value} {cdd : Option Addr} {vs : Array Value} {ccs : Array (Option Value)} {file : Str} {tf : Tok} {cl : Value} {cld : Option Addr} {csl : Array (Option Value)} {prest : List (Str × Pos)} {pl : Sem Bool}
    (he : eval (.Call (.Attribute (.Call (.Name "super" p1) [] [] p2) "__init__" p3) [.Constant (.str m) j p4] [] p5) (envX qual sc L fI (.ref cda) [("__class__", cc)]) = (do
      let ov ← attributeBase (.Call (.Name "super" p1) [] [] p2) "__init__" (envX qual sc L fI (.ref cda) [("__class__", cc)]) (eval (.Call (.Name "super" p1) [] [] p2) (envX qual sc L fI (.ref cda) [("__class__", cc)]))
      standAt p3.atName
      let (f, first) ← holding [ov] (getMethod ov "__init__" pl)
      callWith p5 f first (backTo p5 (starEach [.Constant (.str m) j p4] (envX qual sc L fI (.ref cda) [("__class__", cc)]))) []))
    (T : ErrC prog K C fI qual prm body sc) (M : Mod K mg base) (hb : ∀ b o, base.get? b = some o → s.heap.get? b = some o)
    (hprm : prm = prmOf (("self", p0) :: prest)) (hks : sc.names.lookup ("super" : Str) = some .globalImplicit) (hkc : sc.names.lookup ("__class__" : Str) = some .free) (hka : sc.names.lookup ("self" : Str) = some .local) (hk : sc.kind = .function)
    (l1 : K.lookup fI = some ⟨oc, od, .func (fnX "__init__" qual prm body sc [("__class__", cc)] .none .none doc pm an (.ref cda) ct), osl⟩)
    (l2 : K.lookup cda = some ⟨ccl, cdd, .fields vs, ccs⟩) (l3 : vs[2]? = some (.str file tf)) (l4 : ((prog.main.file : Str) == file) = true) (l5 : K.lookup cc = some ⟨cl, cld, .cell (some (.ref C)), csl⟩)
    (hx : s.heap.get? x = some (PySem.HandSPX.excO C t0)) (hn : s.heap.Ns L mm) (hself : mm "self" = some (.ref x))
    (hq : ∀ h' t1 tk, (∀ b o, b ≠ x → s.heap.get? b = some o → h'.get? b = some o) → h'.get? x = some (PySem.HandSPX.excO C t1) → Q .none { s with heap := h', toks := tk }) :
    _root_.PySem.wpAt (model prog w) A (.func body (envX qual sc L fI (.ref cda) [("__class__", cc)])) (eval (.Call (.Attribute (.Call (.Name "super" p1) [] [] p2) "__init__" p3) [.Constant (.str m) j p4] [] p5) (envX qual sc L fI (.ref cda) [("__class__", cc)])) Q E s := by
  obtain ⟨nm, q, N, bs, bm, sn, sub, ab, col, dd, k0, k1, k2, k3, k5, hC, hbm, hal⟩ := T.cls
  have KX : K.In s.heap := M.kin.keeps hb
  have hcl : clsIn K C = some { name := nm, bases := bs, mro := .ref C :: bm, ns := N, qualname := q, hasDict := true, slotNames := sn, subclasses := sub, abstract := ab, collection := col, hasDel := false } := by unfold clsIn; rw [hC] <;> rfl
  have I : InstAt s.heap x (PySem.HandSPX.excO C t0) C none := ⟨hx, rfl, rfl, trivial⟩
  have hxC : x ≠ C := ks_ne KX I hcl
  obtain ⟨mb, hmb, hbb⟩ := M.blt
  obtain ⟨oD, hD1, hD2⟩ : ∃ oD, s.heap.get? C = some oD ∧ oD.data = .cls { name := nm, bases := bs, mro := .ref C :: bm, ns := N, qualname := q, hasDict := true, slotNames := sn, subclasses := sub, abstract := ab, collection := col, hasDel := false } := ⟨_, KX _ _ hC, rfl⟩
  subst hprm
  obtain ⟨hh, g, d, t, os⟩ := s
  refine ks_wpAt_MethodCall ?_ he
  refine ks_wpAt_super_base (env := envX qual sc L fI (.ref cda) [("__class__", cc)]) hks hkc (by decide) rfl (KX _ _ l1) rfl rfl rfl (KX _ _ l2) rfl l3 l4 T.tp ?_
  refine ks_loadName_global hk hks (loadGlobal_builtin (env := envX qual sc L fI (.ref cda) [("__class__", cc)]) (M.glob.keeps hb) (mg_none_of M.kin M.glob T.su) (hmb.keeps hb) ((hbb _ (by decide +kernel)).trans (show bootBuiltins "super" = some (.type "super") by first | boot_by_name | rfl | kernel_rfl)) ⟨rfl, ?_⟩)
  refine wpAny_loadName_free hk hkc rfl ⟨_, KX _ _ l5, rfl⟩ ?_
  refine wpAny_loadName_local hk hka hn hself ?_
  refine ks_wpAny_isType_cls hD1 hD2 ⟨rfl, ?_⟩
  refine ks_wpAny_call_super hD1 hD2 I.at_ I.cls (fun c e => ?_) (looks_mroIn KX T.mroC) (fun h' e k => ?_)
  · have := I.no
    unfold notCls at this
    rw [e] at this
    exact Bool.noConfusion this
  · have KX' : K.In h' := KX.keeps k
    have hx' := k _ _ hx
    have I' : InstAt h' x (PySem.HandSPX.excO C t0) C none := ⟨hx', rfl, rfl, trivial⟩
    have hI : Looks (model prog w) h' (isInstance (.ref x) (.type "ValueError")) true := I'.type.andThen (looks_subIn KX' T.exV)
    refine kxs_getMethod kxs_ValueError e (looks_opaque KX' T.op) (l₀ := .ref C :: bm) (fun A Q E s k q => wpAny_bind ((looks_clsIn KX' hcl) A _ E s k (wpAny_pure q))) (l := bm) (by simp [List.dropWhile_cons]) KX' hal hI hxC (by decide) ?_
    show wpAny _ _ (callWith p5 (.ref h'.objs.size) [] (backTo p5 (starEach [.Constant (.str m) j p4] (envX qual sc L fI (.ref cda) [("__class__", cc)]))) []) _ _ _
    have kk : ∀ b o, hh.get? b = some o → (h'.push (kxs_mw "ValueError.__init__" x)).get? b = some o := fun b o z => Heap.get?_push_of_some _ (k b o z)
    have hu : (h'.push (kxs_mw "ValueError.__init__" x)).get? h'.objs.size = some (kxs_mw "ValueError.__init__" x) := Heap.get?_push_at rfl rfl
    generalize (h'.push (kxs_mw "ValueError.__init__" x)) = h2 at kk hu ⊢
    generalize h'.objs.size = u at hu ⊢
    have he1 : starEach [.Constant (.str m) j p4] (envX qual sc L fI (.ref cda) [("__class__", cc)]) = (false, eval (.Constant (.str m) j p4) (envX qual sc L fI (.ref cda) [("__class__", cc)])) :: starEach [] (envX qual sc L fI (.ref cda) [("__class__", cc)]) := rfl
    rw [he1]
    refine kxs_callWith (i := "ValueError.__init__") (x := x) rfl (evalArgs_plain ?_)
    refine Calls.spliced_cons (wpAny_Constant_str (k := j) (pos := p4) (Calls.spliced_nil ⟨hu, ?_⟩))
    show wpAny _ _ (call (.ref u) [.str m (t + 1)]) _ _ _
    have hx2 := kk _ _ hx
    have hC2 := kk _ _ (KX _ _ hC)
    refine wpAny_call (codeAny_of_tree ?_)
    show wpAny _ A.in1 (callAny (.ref u) ⟨[.str m (t + 1)], []⟩) _ _ _
    simp only [callAny]
    refine wpAny_bind (wpAny_load hu ?_)
    simp only [kxs_mw, show (Value.type "method-wrapper" == Value.type "method" || Value.type "method-wrapper" == Value.type "builtin_function_or_method" || Value.type "method-wrapper" == Value.type "method-wrapper") = true by decide, if_true]
    refine KFB.if_so (by decide) ?_
    refine wpAny_bind (check_bound_init F.excBase_ValueError.toExcCallFacts hC2 hx2 rfl ?_)
    refine wpAny_bind (wpAny_pure (wpAny_pure ?_))
    refine ⟨plainId_quiet F.excBase_ValueError.init.plain _, codeAny_builtin F.excBase_ValueError.initEntry ?_⟩
    refine exc_init_tree (cls := .ref C) (t0 := t0) (dv := none) (c2 := .none) (c3 := .none) (b4 := .bool false) hx2 (by rw [sizeLine_eq]; exact (by decide : 1 ≤ 16777216)) (fun h3 k3 e3 _ => ?_)
    exact hq h3 h2.objs.size _ (fun b o hb z => k3 b o hb (kk b o z)) e3
/-- the fields of a made error, the last one first -/
def fz {α : Type} (fs : List Str) (vs : List α) : List (Str × α) := (fs.zip vs).reverse
theorem fz_lookup {fs : List Str} {vs : List V} {us : List Value} (r : Vals vs us) (f : Str) : RelO ((fz fs vs).lookup f) ((fz fs us).lookup f) := by
  unfold fz
  have key : ∀ (gs : List Str) (vs : List V) (us : List Value) (av : List (Str × V)) (au : List (Str × Value)), Vals vs us → RelO (av.lookup f) (au.lookup f) → RelO (((gs.zip vs).reverse ++ av).lookup f) (((gs.zip us).reverse ++ au).lookup f) := by
    intro gs
    induction gs with
    | nil => intro vs us av au _ h; simpa using h
    | cons g gs ih =>
      intro vs us av au r h
      cases r with
      | nil => simpa using h
      | cons rv rn =>
        rename_i v u vs' us'
        have e1 : ((g :: gs).zip (v :: vs')).reverse ++ av = (gs.zip vs').reverse ++ ((g, v) :: av) := by simp
        have e2 : ((g :: gs).zip (u :: us')).reverse ++ au = (gs.zip us').reverse ++ ((g, u) :: au) := by simp
        rw [e1, e2]
        refine ih _ _ _ _ rn ?_
        by_cases hfg : f = g
        · subst hfg
          simp only [List.lookup, beq_self_eq_true]
          exact rv
        · have hb : (f == g) = false := by simpa using hfg
          simpa [List.lookup, hb] using h
  have := key fs vs us [] [] r (by trivial)
  simpa using this
/-- an error of the class at C, made at e, its own dict at d -/
structure ErrMade (h h' : Heap) (e C d : Addr) (mA : Str → Option Value) : Prop where
  keep : ∀ b o, h.get? b = some o → h'.get? b = some o
  new : h.objs.size ≤ e
  obj : ∃ oe vs, h'.get? e = some oe ∧ oe.cls = .ref C ∧ oe.dict = some d ∧ oe.data = .fields vs ∧ vs[1]? = some .none
  dbig : h.objs.size ≤ d
  dne : d ≠ e
  ns : h'.Ns1 d mA
/-- __init__ at fI, run upon a fresh exception of the class at C, stores its arguments under the names fs -/
def ErrInit (prog : Program) (w : World) (K : Frag) (mg : Str → Option Value) (C fI : Addr) (fs : List Str) : Prop :=
  ∀ (base : Heap) (A : Around) (s : Shared) (R : Result → Shared → Prop) (x t0 : Addr) (us : List Value), Mod K mg base → (∀ b o, base.get? b = some o → s.heap.get? b = some o) → s.heap.get? x = some (PySem.HandSPX.excO C t0) → K.lookup x = none → A.depth < recursionLimit → us.length = fs.length →
    (∀ h' tk dx t1, (∀ b o, b ≠ x → s.heap.get? b = some o → h'.get? b = some o) → h'.get? x = some { cls := .ref C, dict := some dx, data := .fields #[.ref t1, .none, .none, .none, .bool false, .none] } → s.heap.objs.size ≤ dx → dx ≠ x →
      h'.Ns1 dx (fun y => (fz fs us).lookup y) → R (.ok (.ret .none)) { s with heap := h', toks := tk }) →
    codeAny (model prog w) A (.call (.ref fI) ⟨.ref x :: us, []⟩) R s
theorem err_made {prog : Program} {w : World} {K : Frag} {mg : Str → Option Value} {base : Heap} {A : Around} {s : Shared} {R : Result → Shared → Prop} {C fI : Addr} {fs : List Str} {us : List Value} {qual : Str} {prm : Arguments} {body : List Stmt} {sc : Scope}
    (T : ErrC prog K C fI qual prm body sc) (N : ErrInit prog w K mg C fI fs) (M : Mod K mg base) (hb : ∀ b o, base.get? b = some o → s.heap.get? b = some o) (hroom : A.depth + 1 < recursionLimit) (hl : us.length = fs.length) (hz : us.length ≤ 1000)
    (hq : ∀ h' tk e d, ErrMade s.heap h' e C d (fun y => (fz fs us).lookup y) → R (.ok (.ret (.ref e))) { s with heap := h', toks := tk }) : codeAny (model prog w) A (.call (.ref C) ⟨us, []⟩) R s := by
  obtain ⟨nm, q, N', bs, bm, sn, sub, ab, col, dd, k0, k1, k2, k3, k5, hC, hbm, hal⟩ := T.cls
  obtain ⟨hp, g, dr, tk, os⟩ := s
  have KX : K.In hp := M.kin.keeps hb
  have k : ∀ b o, hp.get? b = some o → ((hp.push (kdv_tup us)).push (PySem.HandSPX.excO C hp.objs.size)).get? b = some o := fun b o e => Heap.get?_push_of_some _ (Heap.get?_push_of_some _ e)
  have hget : ((hp.push (kdv_tup us)).push (PySem.HandSPX.excO C hp.objs.size)).get? (hp.objs.size + 1) = some (PySem.HandSPX.excO C hp.objs.size) := by heap_get
  have hnx : K.lookup (hp.objs.size + 1) = none := by
    cases e : K.lookup (hp.objs.size + 1) with
    | none => rfl
    | some o =>
      have z : hp.get? (hp.objs.size + 1) = some o := KX _ _ e
      exact absurd (Nat.lt_of_succ_lt (Heap.lt_size z)) (Nat.lt_irrefl _)
  refine PySem.HandSPX.call_own F.excBase_ValueError (fun X => PySem.HandSPX.refsVE_contains X bm hbm) (KX _ _ hC) (looks_findIn KX T.iC) (fun self => bind_fn KX self T.tI) (by rw [sizeLine_eq]; omega) ?_
  refine N base _ ⟨(hp.push (kdv_tup us)).push (PySem.HandSPX.excO C hp.objs.size), g, dr, tk, os⟩ _ _ _ us M (fun b o z => k b o (hb b o z)) hget hnx ?_ hl fun h' tk' dx t1 k' hx dn dne hns => ?_
  · show A.depth + 1 < recursionLimit
    exact hroom
  · have old : ∀ b o, hp.get? b = some o → h'.get? b = some o := fun b o e => k' b o (Nat.ne_of_lt (Nat.lt_succ_of_lt (Heap.lt_size e))) (k b o e)
    have z : hp.objs.size + 1 + 1 ≤ dx := by
      first
        | (simpa only [Heap.size_push] using dn)
        | exact dn
    exact ⟨rfl, hq h' tk' (hp.objs.size + 1) dx ⟨old, Nat.le_succ _, ⟨_, _, hx, rfl, rfl, rfl, rfl⟩, Nat.le_trans (Nat.le_trans (Nat.le_succ _) (Nat.le_succ _)) z, dne, hns⟩⟩
/-- C(e, ..) as what is raised -/
def tMkErr (C : Addr) (fs : List Str) (ta : TA) : L2.St → Hp → XK → Prop := fun σ H Q => ta σ H fun vs H1 => vs.length = fs.length ∧ ∀ d, H1 d = none → Q (.ref C) (some d) (upd H1 d (.xd (fz fs vs)))
theorem pmk_err {X : Cx} {C fI : Addr} {fs : List Str} {x : Str} {a : Expr} {as : List Expr} {ta : TA} {p pos : Pos} {k : Nat} {qual : Str} {prm : Arguments} {body : List Stmt} {sc : Scope}
    (T : ErrC X.prog X.K C fI qual prm body sc) (N : ErrInit X.prog X.w X.K X.mg C fI fs) (hm : X.mg x = some (.ref C)) (hr : Room k X.A) (hf : fs.length ≤ 1000) (ha : PA X (a :: as) ta) (hg : Gl X x := by rfl) (hdb : (x == ("__debug__" : Str)) = false := by decide)
    (he : starEach (a :: as) X.env = (false, eval a X.env) :: starEach as X.env := by rfl) (hpl : (backTo pos (starEach as X.env)).any (·.1) = false := by rfl) :
    PMk X (.Call (.Name x p) (a :: as) [] pos) (tMkErr C fs ta) := by
  intro pins s σ H Q I h
  refine wpAny_Call_Name_kw (ld_glob I hg hm ?_ hdb)
  refine callWith_K (h₀ := X.base) I.ok.mod.kin T.kC (thn (ha.run pos pins s σ H _ I h) fun us s1 hh => ?_) he hpl
  obtain ⟨vs, H1, I1, r1, ev, q1⟩ := hh
  refine ⟨I1.kIn, ?_⟩
  show wpAny _ _ (call (.ref C) us) _ _ _
  have hlu : us.length = fs.length := by rw [← ev]; exact (Vals.length r1).symm
  have bk := I1.bk
  obtain ⟨hp, g, dr, tk, os⟩ := s1
  refine wpAny_call (err_made T N I1.ok.mod bk (by have := hr.dp; omega) hlu (by omega) fun h' tk' e d M => ?_)
  show MkP X pins σ Q (.ref e) ⟨h', g, dr, tk', os⟩
  obtain ⟨oe, fv, hoe, hc, hd, hdat, h1⟩ := M.obj
  have hns := M.ns
  obtain ⟨G', g1, g2⟩ := restrict h' fun b => decide (b ≠ e)
  have gk : ∀ b, b ≠ e → G'.get? b = h'.get? b := fun b hb => g1 b (decide_eq_true hb)
  have ge : G'.get? e = none := g2 e (by simp)
  have old : ∀ b o, hp.get? b = some o → G'.get? b = some o := fun b o q => (gk b (Nat.ne_of_lt (Nat.lt_of_lt_of_le (Heap.lt_size q) M.new))).trans (M.keep b o q)
  have ob : ObjOk X.prog X.w (upd H1 d (.xd (fz fs vs))) G' d (.xd (fz fs vs)) :=
    ⟨_, hns.at (fun o q => (gk d M.dne).trans q), fun f => fz_lookup r1 f⟩
  have J : Inv X pins σ (upd H1 d (.xd (fz fs vs))) ⟨G', g, dr, tk', os⟩ := I1.laid (t' := tk') old M.dbig ob
  refine ⟨e, oe, fv, ⟨G', g, dr, tk', os⟩, _, .ref C, some d, rfl, J, fun b o q => ?_, ge, hoe, ⟨hc, hd⟩, hdat, h1, ?_, rfl, I1.bare, raises_own T.exC T.tyC, q1 d (I1.hok.fresh M.dbig)⟩
  · by_cases hb : b = e
    · have q' : G'.get? b = some o := q
      rw [hb, ge] at q'; cases q'
    · exact (gk b hb).symm.trans q
  · rw [upd_ne (Ne.symm M.dne)]
    exact I1.hok.fresh M.new
/-- raise C(e, ..) -/
def tRaiseErr (C : Addr) (fs : List Str) (W : WX) (ta : TA) : TS := fun _ σ H => tMkErr C fs ta σ H fun cls d H' => W cls d σ H'
theorem ps_raiseE {X : Cx} {C fI : Addr} {fs : List Str} {x : Str} {a : Expr} {as : List Expr} {ta : TA} {W : WX} {p pos pos2 : Pos} {k : Nat} {qual : Str} {prm : Arguments} {body : List Stmt} {sc : Scope} (hc : X.calm = true)
    (T : ErrC X.prog X.K C fI qual prm body sc) (N : ErrInit X.prog X.w X.K X.mg C fI fs) (hm : X.mg x = some (.ref C)) (hr : Room k X.A) (hf : fs.length ≤ 1000) (tk : Takes X W) (ha : PA X (a :: as) ta) (hg : Gl X x := by rfl) (hdb : (x == ("__debug__" : Str)) = false := by decide)
    (he : starEach (a :: as) X.env = (false, eval a X.env) :: starEach as X.env := by rfl) (hpl : (backTo pos (starEach as X.env)).any (·.1) = false := by rfl) :
    PS X (.Raise (some (.Call (.Name x p) (a :: as) [] pos)) none pos2) (tRaiseErr C fs W ta) := ps_raise hc tk (pmk_err T N hm hr hf ha hg hdb he hpl)

theorem ns_off {h h' : Heap} {L : Addr} {m : Str → Option Value} (hn : h.Ns L m) (k : ∀ o, h.get? L = some o → h'.get? L = some o) : h'.Ns L m := by
  obtain ⟨oL, es, ep, hL, r⟩ := hn
  exact ⟨oL, es, ep, k _ hL, r⟩
theorem ns_lt {h : Heap} {L : Addr} {m : Str → Option Value} (hn : h.Ns L m) : L < h.objs.size := by
  obtain ⟨oL, es, ep, hL, r⟩ := hn
  exact Heap.lt_size hL
theorem ns1_ext {h : Heap} {L : Addr} {m m' : Str → Option Value} (hn : h.Ns1 L m) (e : ∀ y, m y = m' y) : h.Ns1 L m' := (funext e : m = m') ▸ hn
theorem within1 {f : Str} {v : Value} : Within (fun y => if y = f then some v else none) [f] := fun y hy => by
  by_cases e : y = f
  · rw [e]; exact List.mem_singleton.mpr rfl
  · exact absurd (if_neg e) hy
theorem within2 {f g : Str} {v u : Value} : Within (fun y => if y = g then some u else if y = f then some v else none) [g, f] := fun y hy => by
  by_cases e : y = g
  · rw [e]; exact List.mem_cons_self ..
  · by_cases e2 : y = f
    · rw [e2]; exact List.mem_cons_of_mem _ (List.mem_singleton.mpr rfl)
    · exact absurd ((if_neg e).trans (if_neg e2)) hy
theorem lkp {α : Type} (f g : Str) (y : α) (fs : List (Str × α)) : ((f, y) :: fs).lookup g = if g = f then some y else fs.lookup g := by
  by_cases h : g = f
  · subst h
    simp [List.lookup]
  · have e : (g == f) = false := by simpa using h
    rw [if_neg h]
    simp [List.lookup, e]
theorem cls_at {K : Frag} {nm q : Str} {C N : Addr} {bs bm : List Value} {sn : List Str} {sub : List Value} {ab : Bool} {col : Option Bool} {dd : Option Addr} {k0 k1 k2 k3 k5 : Option Value} (hC : K.lookup C = some (excClassObj nm q C N bs bm true sn sub ab col dd k0 k1 k2 k3 k5 "ValueError.__new__")) :
    clsIn K C = some { name := nm, bases := bs, mro := .ref C :: bm, ns := N, qualname := q, hasDict := true, slotNames := sn, subclasses := sub, abstract := ab, collection := col, hasDel := false } := by unfold clsIn; rw [hC] <;> rfl
theorem ldX {M : Model} {s : Shared} {name : Str} {scope : Scope} {L a : Addr} {cd : Value} {cl : List (Str × Addr)} {m : Str → Option Value} {x : Str} {pos : Pos} {v : Value} {Q : Value → Shared → Prop} {A : Around} {E : Value → Shared → Prop} (hn : s.heap.Ns L m) (hv : m x = some v) (h : Q v s)
    (hk : scope.kind = .function := by rfl) (hl : (envX name scope L a cd cl).kindOf x = some .local := by rfl) (hd : (x == ("__debug__" : Str)) = false := by decide) :
    wpAny M A (eval (.Name x pos) (envX name scope L a cd cl)) Q E s := wpAny_Name (wpAny_loadName_local hk hl hn hv h) hd
theorem errC_of {P : Program} {K : Frag} {C fI : Addr} {qual : Str} {prm : Arguments} {body : List Stmt} {sc : Scope} {nm q : Str} {N : Addr} {bs bm : List Value} {sn : List Str} {sub : List Value} {ab : Bool} {col : Option Bool} {dd : Option Addr} {k0 k1 k2 k3 k5 : Option Value}
    {oc : Value} {od : Option Addr} {doc pm : Value} {an : Option Addr} {cda cc : Addr} {ct : Value} {osl : Array (Option Value)} {ccl : Value} {cdd : Option Addr} {vs : Array Value} {ccs : Array (Option Value)} {file : Str} {tf : Tok} {cl : Value} {cld : Option Addr} {csl : Array (Option Value)}
    (hC : K.lookup C = some (excClassObj nm q C N bs bm true sn sub ab col dd k0 k1 k2 k3 k5 "ValueError.__new__")) (rv : PySem.HandSPX.refsVE bm = true) (su : ks_superIn K C C "__init__" = some (some (.builtin "ValueError.__init__")))
    (sa : findIn K (.ref C) "__setattr__" = some (some (.builtin "object.__setattr__"))) (iC : findIn K (.ref C) "__init__" = some (some (.ref fI))) (tI : typeIn K (.ref fI) = some (.type "function")) (exC : subIn K (.ref C) (.type "BaseException") = some true) (exV : subIn K (.ref C) (.type "ValueError") = some true)
    (mroC : mroIn K C (.ref C) = some true) (tyC : typeIn K (.ref C) = some (.type "type")) (kC : keepIn K (.ref C) = true) (op : nsIn K cStatics "thirdparty.any" = some none) (sg : nsIn K mainGlobals "super" = some none) (tp : (P.main.scope.names.lookup ("super" : Str)).isSome = false)
    (l1 : K.lookup fI = some ⟨oc, od, .func (fnX "__init__" qual prm body sc [("__class__", cc)] .none .none doc pm an (.ref cda) ct), osl⟩) (lc : codeIn K (.ref cda) qual = true) (l2 : K.lookup cda = some ⟨ccl, cdd, .fields vs, ccs⟩) (l3 : vs[2]? = some (.str file tf)) (l4 : ((P.main.file : Str) == file) = true)
    (l5 : K.lookup cc = some ⟨cl, cld, .cell (some (.ref C)), csl⟩) : ErrC P K C fI qual prm body sc := by
  have e1 := cls_at hC
  have al : alongIn K "__init__" bm = some (some (.builtin "ValueError.__init__")) := by
    unfold ks_superIn at su
    rw [e1] at su
    simpa [List.dropWhile_cons] using su
  exact { cls := ⟨nm, q, N, bs, bm, sn, sub, ab, col, dd, k0, k1, k2, k3, k5, hC, rv, al⟩, sa := sa, iC := iC, tI := tI, exC := exC, exV := exV, mroC := mroC, tyC := tyC, kC := kC, op := op, su := sg, tp := tp, fn := ⟨_, _, _, _, _, _, _, _, _, _, _, _, _, _, _, _, _, _, l1, lc, l2, l3, l4, l5⟩ }
theorem init_BadNumber {prog : Program} {w : World} {K : Frag} {mg : Str → Option Value} {C fI : Addr} {a0 a1 a2 p1 p2 p3 p4 p5 p6 q00 q01 q02 q03 q10 q11 q12 q13 : Pos} {j : Nat} {m : Str}
    (T : ErrC prog K C fI "BadNumber.__init__" (prmOf [("self", a0), ("what", a1), ("value", a2)]) [supOf m j p1 p2 p3 p4 p5 p6, stoOf "what" q00 q01 q02 q03, stoOf "value" q10 q11 q12 q13] (scOf ["what", "value"]))
    (hp : (p3.endLine == p5.line) = true) (n0 : findIn K (.ref C) "what" = some none) (n1 : findIn K (.ref C) "value" = some none) : ErrInit prog w K mg C fI ["what", "value"] := by
  intro base A s R x t0 us M hb hx hnx hroom hl hq
  match us, hl with
  | [v1, v2], _ =>
  obtain ⟨oc, od, doc, pm, an, cda, cc, ct, osl, ccl, cdd, vs, ccs, file, tf, cl, cld, csl, l1, lc, l2, l3, l4, l5⟩ := T.fn
  obtain ⟨nm, q, N', bs, bm, sn, sub, ab, col, dd, k0, k1, k2, k3, k5, hC, hbm, hal⟩ := T.cls
  have KX : K.In s.heap := M.kin.keeps hb
  have hcl := cls_at hC
  refine ks_codeAny_call_defAt (binds := [("self", .ref x), ("what", v1), ("value", v2)]) hroom (KX _ _ l1) rfl (M.nolimit.keeps hb) (codeRec_of KX lc) rfl (BindsTo.of_eq (by first | rfl | with_unfolding_all rfl)) (by simp [scOf]) (by simp only [List.mem_cons, List.not_mem_nil, or_false]; rintro y (rfl | rfl | rfl) <;> rfl) (fun h1 hns hk1 => ?_)
  have hx1 := hk1 _ _ hx
  have xL : s.heap.objs.size ≠ x := Nat.ne_of_gt (Heap.lt_size hx)
  refine ks_wpAt_execs_cons (ks_wpAt_Expr_any (sup_step (mg := mg) (base := base) (sup_he hp) T M (fun b o z => hk1 b o (hb b o z)) rfl rfl rfl rfl rfl l1 l2 l3 l4 l5 hx1 hns rfl fun h2 t1 tk k2' hx2 => ?_))
  show _root_.PySem.wpAt _ _ _ (execs _ _) _ _ _
  refine wpAt_of_wpAny ?_
  have keep2 : ∀ b o, b ≠ x → s.heap.get? b = some o → h2.get? b = some o := fun b o hbx z => k2' b o hbx (hk1 b o z)
  have KX2 : K.In h2 := fun a o z => keep2 a o (fun e => by rw [e, hnx] at z; cases z) (KX a o z)
  have hns2 : h2.Ns s.heap.objs.size _ := ns_off hns (fun o z => k2' _ o xL z)
  refine wpAny_execs_cons (plainObj_wpAny_Assign_Attribute ?_)
  refine ldX (v := v1) hns2 rfl (ldX (v := .ref x) hns2 rfl ?_)
  refine set_plain KX2 (ox := PySem.HandSPX.excO C t1) (od := none) ⟨hx2, rfl, rfl, trivial⟩ T.sa ?_
  refine PySem.HandSPX.exc_osa KX2 hx2 hcl (show PySem.HandSPX.refsVE (.ref C :: bm) = true from hbm) rfl n0 (fun h3 tk3 dx k3 dn dne hx3 hn3 => ?_)
  have dge : s.heap.objs.size < dx := Nat.lt_of_lt_of_le (ns_lt hns2) dn
  have keep3 : ∀ b o, b ≠ x → s.heap.get? b = some o → h3.get? b = some o := fun b o hbx z => k3 b o hbx (keep2 b o hbx z)
  have KX3 : K.In h3 := fun a o z => keep3 a o (fun e => by rw [e, hnx] at z; cases z) (KX a o z)
  have hns3 : h3.Ns s.heap.objs.size _ := ns_off hns2 (fun o z => k3 _ o xL z)
  show wpAny _ _ (execs _ _) _ _ _
  refine wpAny_execs_cons (plainObj_wpAny_Assign_Attribute ?_)
  refine ldX (v := v2) hns3 rfl (ldX (v := .ref x) hns3 rfl ?_)
  obtain ⟨oD1, _, _, hoD1, _, _⟩ := hn3.count within1
  refine set_plain KX3 (ox := { cls := .ref C, dict := some dx, data := .fields #[.ref t1, .none, .none, .none, .bool false, .none] }) (od := some oD1) ⟨hx3, rfl, rfl, hoD1⟩ T.sa ?_
  refine PySem.OEX.osa_old KX3 hx3 hn3 within1 (by decide) hcl (show PySem.HandSPX.refsVE (.ref C :: bm) = true from hbm) rfl n1 (fun h4 tk4 k4 hn4 => ?_)
  have keep4 : ∀ b o, b ≠ x → s.heap.get? b = some o → h4.get? b = some o := fun b o hbx z => k4 b o (Nat.ne_of_lt (Nat.lt_trans (Heap.lt_size z) dge)) (keep3 b o hbx z)
  have KX4 : K.In h4 := fun a o z => keep4 a o (fun e => by rw [e, hnx] at z; cases z) (KX a o z)
  have hns4 : h4.Ns s.heap.objs.size _ := ns_off hns3 (fun o z => k4 _ o (Nat.ne_of_lt dge) z)
  have hx4 := k4 _ _ dne.symm hx3
  show wpAny _ _ (execs _ _) _ _ _
  refine wpAny_execs_nil (hq h4 tk4 dx t1 keep4 hx4 (Nat.le_of_lt dge) dne (ns1_ext hn4 fun y => ?_))
  show _ = List.lookup y [(("value" : Str), v2), (("what" : Str), v1)]
  rw [lkp, lkp]
  rfl
theorem init_BadPair {prog : Program} {w : World} {K : Frag} {mg : Str → Option Value} {C fI : Addr} {a0 a1 p1 p2 p3 p4 p5 p6 q00 q01 q02 q03 : Pos} {j : Nat} {m : Str}
    (T : ErrC prog K C fI "BadPair.__init__" (prmOf [("self", a0), ("place", a1)]) [supOf m j p1 p2 p3 p4 p5 p6, stoOf "place" q00 q01 q02 q03] (scOf ["place"]))
    (hp : (p3.endLine == p5.line) = true) (n0 : findIn K (.ref C) "place" = some none) : ErrInit prog w K mg C fI ["place"] := by
  intro base A s R x t0 us M hb hx hnx hroom hl hq
  match us, hl with
  | [v1], _ =>
  obtain ⟨oc, od, doc, pm, an, cda, cc, ct, osl, ccl, cdd, vs, ccs, file, tf, cl, cld, csl, l1, lc, l2, l3, l4, l5⟩ := T.fn
  obtain ⟨nm, q, N', bs, bm, sn, sub, ab, col, dd, k0, k1, k2, k3, k5, hC, hbm, hal⟩ := T.cls
  have KX : K.In s.heap := M.kin.keeps hb
  have hcl := cls_at hC
  refine ks_codeAny_call_defAt (binds := [("self", .ref x), ("place", v1)]) hroom (KX _ _ l1) rfl (M.nolimit.keeps hb) (codeRec_of KX lc) rfl (BindsTo.of_eq (by first | rfl | with_unfolding_all rfl)) (by simp [scOf]) (by simp only [List.mem_cons, List.not_mem_nil, or_false]; rintro y (rfl | rfl) <;> rfl) (fun h1 hns hk1 => ?_)
  have hx1 := hk1 _ _ hx
  have xL : s.heap.objs.size ≠ x := Nat.ne_of_gt (Heap.lt_size hx)
  refine ks_wpAt_execs_cons (ks_wpAt_Expr_any (sup_step (mg := mg) (base := base) (sup_he hp) T M (fun b o z => hk1 b o (hb b o z)) rfl rfl rfl rfl rfl l1 l2 l3 l4 l5 hx1 hns rfl fun h2 t1 tk k2' hx2 => ?_))
  show _root_.PySem.wpAt _ _ _ (execs _ _) _ _ _
  refine wpAt_of_wpAny ?_
  have keep2 : ∀ b o, b ≠ x → s.heap.get? b = some o → h2.get? b = some o := fun b o hbx z => k2' b o hbx (hk1 b o z)
  have KX2 : K.In h2 := fun a o z => keep2 a o (fun e => by rw [e, hnx] at z; cases z) (KX a o z)
  have hns2 : h2.Ns s.heap.objs.size _ := ns_off hns (fun o z => k2' _ o xL z)
  refine wpAny_execs_cons (plainObj_wpAny_Assign_Attribute ?_)
  refine ldX (v := v1) hns2 rfl (ldX (v := .ref x) hns2 rfl ?_)
  refine set_plain KX2 (ox := PySem.HandSPX.excO C t1) (od := none) ⟨hx2, rfl, rfl, trivial⟩ T.sa ?_
  refine PySem.HandSPX.exc_osa KX2 hx2 hcl (show PySem.HandSPX.refsVE (.ref C :: bm) = true from hbm) rfl n0 (fun h3 tk3 dx k3 dn dne hx3 hn3 => ?_)
  have dge : s.heap.objs.size < dx := Nat.lt_of_lt_of_le (ns_lt hns2) dn
  have keep3 : ∀ b o, b ≠ x → s.heap.get? b = some o → h3.get? b = some o := fun b o hbx z => k3 b o hbx (keep2 b o hbx z)
  have KX3 : K.In h3 := fun a o z => keep3 a o (fun e => by rw [e, hnx] at z; cases z) (KX a o z)
  have hns3 : h3.Ns s.heap.objs.size _ := ns_off hns2 (fun o z => k3 _ o xL z)
  show wpAny _ _ (execs _ _) _ _ _
  refine wpAny_execs_nil (hq h3 tk3 dx t1 keep3 hx3 (Nat.le_of_lt dge) dne (ns1_ext hn3 fun y => ?_))
  show _ = List.lookup y [(("place" : Str), v1)]
  rw [lkp]
  rfl
end WpE
/-! Small words over the hand layer: heaps that only grow, calls of the program's own defs, methods and classes. -/
namespace Wp
open PySem L2

/-! ### heaps -/
def Ext (H H' : Hp) : Prop := ∀ a o, H a = some o → H' a = some o
theorem Ext.refl (H : Hp) : Ext H H := fun _ _ h => h
theorem Ext.trans {H H1 H2 : Hp} (a : Ext H H1) (b : Ext H1 H2) : Ext H H2 := fun x o h => b x o (a x o h)
theorem Ext.new {H H1 : Hp} {p : Addr} {o : HO} (e : Ext H H1) (h : H1 p = none) : Ext H (upd H1 p o) := fun a u q => by
  have z := e a u q
  rw [upd_ne (ne_of_none z h)]
  exact z
theorem up_new {H : Hp} {a p : Addr} {o u : HO} (hp : H p = none) (h : H a = some u) : upd H p o a = some u := by
  rw [upd_ne (ne_of_none h hp)]
  exact h
theorem up_ne {H : Hp} {a p : Addr} {o u : HO} (n : a ≠ p) (h : H a = some u) : upd H p o a = some u := by
  rw [upd_ne n]
  exact h
theorem ext_get {H H' : Hp} {a : Addr} {o : HO} (e : Ext H H') (h : H a = some o) : H' a = some o := e a o h
theorem ext_none {H H' : Hp} {a : Addr} (e : Ext H H') (h : H' a = none) : H a = none := by
  cases q : H a with
  | none => rfl
  | some o => rw [e a o q] at h; cases h
/-- an object that the first heap does not know is changed -/
theorem Ext.mut {H H1 : Hp} {p : Addr} {o : HO} (e : Ext H H1) (h : H p = none) : Ext H (upd H1 p o) := fun a u q => by
  rw [upd_ne (ne_of_none q h)]
  exact e a u q
theorem ext_rd {H H' : Hp} {a : Addr} {u : HO} (e : Ext H H') (h : Rd H a u) : Rd H' a u := by
  rcases h with h | ⟨o, h⟩
  · exact Or.inl (e a _ h)
  · exact Or.inr ⟨o, e a _ h⟩
theorem ext_sl {K : PySem.W.Frag} {H H' : Hp} {a : Addr} {xs : List V} (e : Ext H H') (h : SqL K H a xs) : SqL K H' a xs := by
  rcases h with h | h
  · exact Or.inl (ext_rd e h)
  · exact Or.inr h
theorem ext_st {K : PySem.W.Frag} {H H' : Hp} {a : Addr} {xs : List V} (e : Ext H H') (h : SqT K H a xs) : SqT K H' a xs := by
  rcases h with h | h
  · exact Or.inl (ext_rd e h)
  · exact Or.inr h
mutual
theorem ext_dp {K : PySem.W.Frag} {H H' : Hp} (e : Ext H H') : ∀ {v : V} {d : PyData}, Dp K H v d → Dp K H' v d
  | _, _, .non => .non
  | _, _, .bl b => .bl b
  | _, _, .int i => .int i
  | _, _, .str x => .str x
  | _, _, .lst h a => .lst (ext_sl e h) (ext_dps e a)
  | _, _, .tup h a => .tup (ext_st e h) (ext_dps e a)
theorem ext_dps {K : PySem.W.Frag} {H H' : Hp} (e : Ext H H') : ∀ {v : List V} {d : List PyData}, DpAll K H v d → DpAll K H' v d
  | _, _, .nil => .nil
  | _, _, .cons a r => .cons (ext_dp e a) (ext_dps e r)
end
theorem sz {n : Nat} (h : n ≤ 100000) : n ≤ sizeLine := Nat.le_trans h (by decide)
theorem szl {n : Nat} (h : n < 100000) : n < sizeLine := Nat.lt_of_lt_of_le h (by decide)

/-! ### tests -/
theorem ifd {p : Prop} [Decidable p] {A B : Prop} (h1 : p → A) (h2 : ¬ p → B) : if decide p = true then A else B := by
  by_cases h : p
  · rw [if_pos (decide_eq_true h)]; exact h1 h
  · rw [if_neg (by simpa using h)]; exact h2 h
theorem ifnd {p : Prop} [Decidable p] {A B : Prop} (h1 : ¬ p → A) (h2 : p → B) : if (!decide p) = true then A else B := by
  by_cases h : p
  · rw [if_neg (by simpa using h)]; exact h2 h
  · rw [if_pos (by simpa using h)]; exact h1 h
theorem ifb {b : Bool} {A B : Prop} (h1 : b = true → A) (h2 : b = false → B) : if b = true then A else B := by
  cases b
  · exact iteF (h2 rfl)
  · exact iteT (h1 rfl)
theorem ifT {b : Bool} {A B : Prop} (e : b = true) (h : A) : if b = true then A else B := by rw [if_pos e]; exact h
theorem ifF {b : Bool} {A B : Prop} (e : b = false) (h : B) : if b = true then A else B := by rw [if_neg (by rw [e]; decide)]; exact h

/-! ### callable things of the program -/
structure Cal (P : Program) (w : World) (K : PySem.W.Frag) (mg : Str → Option Value) (base : Heap) (k : Nat) (x : Str) (f : Addr) (sp : Sp) : Prop where
  fn : FnR P w K mg base (L2.CX P w) k f sp
  kp : PySem.W.keepIn K (.ref f) = true
  gl : mg x = some (.ref f)
structure Met (P : Program) (w : World) (K : PySem.W.Frag) (mg : Str → Option Value) (base : Heap) (k : Nat) (C : Addr) (m : Str) (f : Addr) (sp : Sp) : Prop where
  fn : FnR P w K mg base (L2.CX P w) k f sp
  mt : Meth K C m f
  cl : Cls K C
structure Mak (P : Program) (w : World) (K : PySem.W.Frag) (mg : Str → Option Value) (base : Heap) (k : Nat) (x : Str) (C f : Addr) (sp : Sp) : Prop where
  fn : FnR P w K mg base (L2.CX P w) k f sp
  mak : Mk K C f
  gl : mg x = some (.ref C)
section
variable {X : Cx} {k j : Nat} {f C : Addr} {sp : Sp} {x m : Str} {p pos apos : Pos} {e o : Expr} {es : List Expr} {ta : TE} {t : TA} {W : WX}
theorem run_at {pins : List (Addr × Obj)} {σ : L2.St} {H : Hp} {s : Shared} {Q : VK} {us : List Value} {vs : List V} (F : FnR X.prog X.w X.K X.mg X.base (L2.CX X.prog X.w) k f sp) (hr : Room k X.A) (tk : Takes X W) (I : Inv X pins σ H s) (r : Vals vs us)
    (h : sp vs H Q (WE W σ)) : codeAny (model X.prog X.w) X.A (.call (.ref f) ⟨us, []⟩) (fun r s' => match r with | .ok (.ret v) => EP X pins σ Q v s' | .ok _ => False | .error e => X.xe e s') s := by
  refine codeAny_mono (F X.A X.stack s H us vs Q (WE W σ) hr I.env0 r h) fun r s' hq => ?_
  cases r with
  | error e => exact passAt tk σ pins H s e s' I hq
  | ok fl =>
    cases fl with
    | ret u => exact I.after hq
    | next => exact False.elim hq
    | brk => exact False.elim hq
    | cont => exact False.elim hq
/-- f(e, ..) -/
theorem pc_fn (c : Cal X.prog X.w X.K X.mg X.base k x f sp) (hr : Room k X.A) (tk : Takes X W) (ha : PA X (e :: es) t) (hg : Gl X x := by rfl) (hdb : (x == ("__debug__" : Str)) = false := by decide)
    (he : starEach (e :: es) X.env = (false, eval e X.env) :: starEach es X.env := by rfl) (hpl : (backTo pos (starEach es X.env)).any (·.1) = false := by rfl) : PE X (.Call (.Name x p) (e :: es) [] pos) (tCallS sp (WE W) t) := by
  refine ⟨fun pins s σ H Q I h => ?_⟩
  refine wpAny_Call_Name_kw (ld_glob I hg c.gl ?_ hdb)
  refine PySem.W.callWith_K (h₀ := X.base) I.ok.mod.kin c.kp (thn (ha.run pos pins s σ H _ I h) fun us s1 ⟨vs, H1, I1, r, q⟩ => ⟨I1.kIn, ?_⟩) he hpl
  exact wpAny_call (run_at c.fn hr tk I1 r q)
theorem Fun.okR {P : Program} {w : World} {K : PySem.W.Frag} {mg : Str → Option Value} {base : Heap} {x qual : Str} {st : Stmt} {f : Addr} {fd : FuncData} {N ps : List Str} {k : Nat} {sp : Sp} (F : Fun K x qual st f fd) (S : FnScope N ps (defScope st)) (b : Binds K fd ps [])
    (len : ∀ vs H Q E, sp vs H Q E → vs.length = ps.length)
    (hbody : ∀ (cdv : Value) (A : Around) (outer : List Env) (s : Shared) (H : Hp) (vs : List V) (Q : VK) (E : XK), Room k (A.deeper (PyProof.Rows.envOfC qual (defScope st) s.heap.objs.size f cdv)) → sp vs H Q E →
      ∃ t, PSs (cxOf (L2.CX P w) P w K mg base N qual (defScope st) f cdv A outer s H E) (defBody st) t ∧ t { nx := fun _ H' => Q .non H', rt := Q } (start N vs) H) : FnR P w K mg base (L2.CX P w) (k + 1) f sp := by
  have G := (F.okX S len hbody).raw b .nil
  exact G.imp fun vs H Q E h => by rw [List.append_nil]; exact h
/-- f() -/
theorem pc_fn0 (c : Cal X.prog X.w X.K X.mg X.base k x f sp) (hr : Room k X.A) (tk : Takes X W) (hg : Gl X x := by rfl) (hdb : (x == ("__debug__" : Str)) = false := by decide) : PE X (.Call (.Name x p) [] [] pos) (tCallS sp (WE W) tNil) := by
  refine ⟨fun pins s σ H Q I h => wpAny_Call_Name_kw (ld_glob I hg c.gl ?_ hdb)⟩
  exact PySem.W.callWith_K0 I.kIn c.kp (wpAny_call (run_at (us := []) c.fn hr tk I .nil h))
/-- f(e, .., *y) where a star stands behind the first argument -/
theorem pc_fnS (c : Cal X.prog X.w X.K X.mg X.base k x f sp) (hr : Room k X.A) (tk : Takes X W) (ha : PA X (e :: es) t) (hg : Gl X x := by rfl) (hdb : (x == ("__debug__" : Str)) = false := by decide)
    (he : starEach (e :: es) X.env = (false, eval e X.env) :: starEach es X.env := by rfl) (hst : (backTo pos (starEach es X.env)).any (·.1) = true := by rfl) : PE X (.Call (.Name x p) (e :: es) [] pos) (tCallS sp (WE W) t) := by
  refine ⟨fun pins s σ H Q I h => wpAny_Call_Name_kw (ld_glob I hg c.gl ?_ hdb)⟩
  refine PySem.W.callWith_S2 (h₀ := X.base) I.ok.mod.kin c.kp (thn (ha.run pos pins s σ H _ I h) fun us s1 ⟨vs, H1, I1, r, q⟩ => ⟨I1.kIn, ?_⟩) he hst
  exact wpAny_call (run_at c.fn hr tk I1 r q)
/-- o.m(e, ..) : what is asked -/
def tMetS (C : Addr) (m : Str) (sp : Sp) (E : L2.St → XK) (ta : TE) (t : TA) : TE := fun σ H Q => ta σ H fun x H1 => ∃ a dx fs, x = .ref a ∧ H1 a = some (.ins C dx fs) ∧ fs.lookup m = none ∧ t σ H1 fun vs H2 => sp (x :: vs) H2 Q (E σ)
theorem pc_met {pl : Sem Bool} (he : PE X o ta) (c : Met X.prog X.w X.K X.mg X.base k C m f sp) (hr : Room k X.A) (tk : Takes X W) (ha : PA X (e :: es) t)
    (hst : starEach (e :: es) X.env = (false, eval e X.env) :: starEach es X.env := by rfl) (hpl : (backTo pos (starEach es X.env)).any (·.1) = false := by rfl)
    (ht : eval (.Call (.Attribute o m apos) (e :: es) [] pos) X.env = (do
      let ov ← eval o X.env
      standAt apos.atName
      let (f, first) ← holding [ov] (getMethod ov m pl)
      callWith pos f first (backTo pos (starEach (e :: es) X.env)) (backToKw pos (keywordEach [] X.env))) := by rfl) :
    PE X (.Call (.Attribute o m apos) (e :: es) [] pos) (tMetS C m sp (WE W) ta t) := by
  refine ⟨fun pins s σ H Q I h => ?_⟩
  refine PySem.W.methodCall_KW (pl := pl) (thn (he.run pins s σ H _ I h) fun u s1 ⟨x, H1, I1, rx, a, dx, fs, ex, ea, l, q⟩ => ?_) ht
  subst ex
  obtain rfl : u = Value.ref a := rx
  refine getmeth_ok I1 ea c.cl c.mt l (PySem.W.callWith_K (first := [.ref a]) (h₀ := X.base) I.ok.mod.kin c.mt.kp (thn (ha.run pos pins s1 σ H1 _ I1 q) fun us s2 ⟨vs, H2, I2, r, q2⟩ => ⟨I2.kIn, ?_⟩) hst hpl)
  exact wpAny_call (run_at (us := .ref a :: us) (vs := .ref a :: vs) c.fn hr tk I2 (.cons rfl r) q2)
theorem pc_met0 {pl : Sem Bool} (he : PE X o ta) (c : Met X.prog X.w X.K X.mg X.base k C m f sp) (hr : Room k X.A) (tk : Takes X W)
    (ht : eval (.Call (.Attribute o m apos) [] [] pos) X.env = (do
      let ov ← eval o X.env
      standAt apos.atName
      let (f, first) ← holding [ov] (getMethod ov m pl)
      callWith pos f first (backTo pos (starEach [] X.env)) (backToKw pos (keywordEach [] X.env))) := by rfl) :
    PE X (.Call (.Attribute o m apos) [] [] pos) (tMetS C m sp (WE W) ta tNil) := by
  refine ⟨fun pins s σ H Q I h => ?_⟩
  refine PySem.W.methodCall_KW (pl := pl) (thn (he.run pins s σ H _ I h) fun u s1 ⟨x, H1, I1, rx, a, dx, fs, ex, ea, l, q⟩ => ?_) ht
  subst ex
  obtain rfl : u = Value.ref a := rx
  exact getmeth_ok I1 ea c.cl c.mt l (PySem.W.callWith_K0 (first := [.ref a]) I1.kIn c.mt.kp (wpAny_call (run_at (us := [.ref a]) (vs := [.ref a]) c.fn hr tk I1 (.cons rfl .nil) q)))
/-- C(e, ..) : what is asked -/
def tMakS (C : Addr) (sp : Sp) (E : L2.St → XK) (t : TA) : TE := fun σ H Q => t σ H fun vs H1 => ∀ x dx, H1 x = none → H1 dx = none → dx ≠ x →
  sp (V.ref x :: vs) (upd (upd H1 dx (.own x)) x (.ins C dx [])) (fun v H2 => v = .non ∧ Q (.ref x) H2) (E σ)
theorem run_mak {pins : List (Addr × Obj)} {σ : L2.St} {H : Hp} {s : Shared} {Q : VK} {us : List Value} {vs : List V} (c : Mak X.prog X.w X.K X.mg X.base k x C f sp) (hr : Room (k + 1) X.A) (tk : Takes X W) (I : Inv X pins σ H s) (r : Vals vs us)
    (h : ∀ x dx, H x = none → H dx = none → dx ≠ x → sp (V.ref x :: vs) (upd (upd H dx (.own x)) x (.ins C dx [])) (fun v H2 => v = .non ∧ Q (.ref x) H2) (WE W σ)) :
    wpAny (model X.prog X.w) X.A (call (.ref C) us) (EP X pins σ Q) X.xe s := by
  have hq := h (s.heap.objs.size + 1) s.heap.objs.size (I.hok.fresh (Nat.le_succ _)) (I.hok.fresh (Nat.le_refl _)) (Nat.ne_of_lt (Nat.lt_succ_self _))
  have J := Inv.made (C := C) I
  have r2 : Vals (V.ref (s.heap.objs.size + 1) :: vs) (Value.ref (s.heap.objs.size + 1) :: us) := .cons rfl r
  refine wpAny_call (make_map (f := f) I.kIn c.mak.makes c.mak.init (beq_iff_eq.mp c.mak.fn) (codeAny_mono (c.fn _ X.stack _ _ (Value.ref (s.heap.objs.size + 1) :: us) _ _ (WE W σ) (hr.make C us []) (J.env0.make C us []) r2 hq) fun r s' hq' => ?_))
  cases r with
  | error e => exact passAt tk σ pins _ _ e s' J hq'
  | ok fl =>
    cases fl with
    | ret u =>
      obtain ⟨v, H', I3, rv, ev, q3⟩ := J.after hq'
      subst ev
      exact ⟨rv, ⟨V.ref (s.heap.objs.size + 1), H', I3, rfl, q3⟩⟩
    | next => exact hq'.elim
    | brk => exact hq'.elim
    | cont => exact hq'.elim
theorem pc_mak (c : Mak X.prog X.w X.K X.mg X.base k x C f sp) (hr : Room (k + 1) X.A) (tk : Takes X W) (ha : PA X (e :: es) t) (hg : Gl X x := by rfl) (hdb : (x == ("__debug__" : Str)) = false := by decide)
    (he : starEach (e :: es) X.env = (false, eval e X.env) :: starEach es X.env := by rfl) (hpl : (backTo pos (starEach es X.env)).any (·.1) = false := by rfl) : PE X (.Call (.Name x p) (e :: es) [] pos) (tMakS C sp (WE W) t) := by
  refine ⟨fun pins s σ H Q I h => wpAny_Call_Name_kw (ld_glob I hg c.gl ?_ hdb)⟩
  refine PySem.W.callWith_K (h₀ := X.base) I.ok.mod.kin c.mak.kp (thn (ha.run pos pins s σ H _ I h) fun us s1 ⟨vs, H1, I1, r, q⟩ => ⟨I1.kIn, ?_⟩) he hpl
  exact run_mak c hr tk I1 r q
theorem pc_mak0 (c : Mak X.prog X.w X.K X.mg X.base k x C f sp) (hr : Room (k + 1) X.A) (tk : Takes X W) (hg : Gl X x := by rfl) (hdb : (x == ("__debug__" : Str)) = false := by decide) : PE X (.Call (.Name x p) [] [] pos) (tMakS C sp (WE W) tNil) := by
  refine ⟨fun pins s σ H Q I h => wpAny_Call_Name_kw (ld_glob I hg c.gl ?_ hdb)⟩
  exact PySem.W.callWith_K0 I.kIn c.mak.kp (run_mak (us := []) c hr tk I .nil h)
end

/-! ### isinstance of plain data -/
inductive Vk (K : PySem.W.Frag) (H : Hp) : V → String → Prop
  | non : Vk K H .non "NoneType"
  | bl (b : Bool) : Vk K H (.bl b) "bool"
  | int (i : Int) : Vk K H (.int i) "int"
  | str (x : Str) : Vk K H (.str x) "str"
  | lst {a : Addr} {xs : List V} : SqL K H a xs → Vk K H (.ref a) "list"
  | tup {a : Addr} {xs : List V} : SqT K H a xs → Vk K H (.ref a) "tuple"
theorem Vk.ty {K : PySem.W.Frag} {H : Hp} {x : V} {t : String} (h : Vk K H x t) : TyX K H x (.type t) := by
  cases h with
  | non => exact .base .non
  | bl b => exact .base (.bl b)
  | int i => exact .base (.int i)
  | str x => exact .base (.str x)
  | lst h =>
    rcases h with (h | ⟨o, h⟩) | ⟨o, its, n, h1, h2, _⟩
    · exact .base (.lst h)
    · exact .base (.frz h)
    · exact .kList h1 h2
  | tup h =>
    rcases h with (h | ⟨o, h⟩) | ⟨o, its, n, h1, h2, _⟩
    · exact .base (.tup h)
    · exact .fTuple h
    · exact .kTuple h1 h2
theorem Vk.ext {K : PySem.W.Frag} {H H' : Hp} {x : V} {t : String} (e : Ext H H') (h : Vk K H x t) : Vk K H' x t := by
  cases h with
  | non => exact .non
  | bl b => exact .bl b
  | int i => exact .int i
  | str x => exact .str x
  | lst h => exact .lst (ext_sl e h)
  | tup h => exact .tup (ext_st e h)
theorem Vk.of {K : PySem.W.Frag} {H : Hp} {x : V} {d : PyData} (h : Dp K H x d) : ∃ t, Vk K H x t := by
  cases h with
  | non => exact ⟨_, .non⟩
  | bl b => exact ⟨_, .bl b⟩
  | int i => exact ⟨_, .int i⟩
  | str x => exact ⟨_, .str x⟩
  | lst h _ => exact ⟨_, .lst h⟩
  | tup h _ => exact ⟨_, .tup h⟩
/-- isinstance(x, c), x plain data, c a built-in class -/
def rIsV (K : PySem.W.Frag) : List V → Hp → VK → Prop := fun xs H Q => ∃ (x : V) (t c : String) (b : Bool), xs = [x, .ty c] ∧ Vk K H x t ∧ kitB t c = some b ∧ Q (.bl b) H
theorem call_isV {X : Cx} : CallR X (.builtin "isinstance") (rIsV X.K) := fun pins s σ H xs us Q I r ⟨x, t, c, b, e, k, z, q⟩ => call_isi pins s σ H xs us Q I r ⟨x, .ty c, .type t, .type c, b, e, .ty c, k.ty, kit_ty z, q⟩
def isI : V → Bool
  | .int _ => true
  | _ => false
def isB : V → Bool
  | .bl _ => true
  | _ => false
theorem vk_int {K : PySem.W.Frag} {H : Hp} {x : V} {t : String} (h : Vk K H x t) : kitB t "int" = some (isI x || isB x) := by
  cases h <;> first | rfl | decide +kernel
theorem vk_bool {K : PySem.W.Frag} {H : Hp} {x : V} {t : String} (h : Vk K H x t) : kitB t "bool" = some (isB x) := by
  cases h <;> first | rfl | decide +kernel
theorem isI_int {x : V} (h : isI x = true) : ∃ i, x = .int i := by
  cases x <;> first | exact ⟨_, rfl⟩ | cases h
theorem isB_bl {x : V} (h : isB x = true) : ∃ i, x = .bl i := by
  cases x <;> first | exact ⟨_, rfl⟩ | cases h

/-! isinstance of plain values, by kind -/
section
variable {K : PySem.W.Frag} {H : Hp} {Q : VK}
theorem is_int_int {i : Int} (k : Q (.bl true) H) : rIsV K [.int i, .ty "int"] H Q := ⟨_, _, _, _, rfl, .int _, (by decide +kernel : kitB "int" "int" = some true), k⟩
theorem is_int_bool {i : Int} (k : Q (.bl false) H) : rIsV K [.int i, .ty "bool"] H Q := ⟨_, _, _, _, rfl, .int _, (by decide +kernel : kitB "int" "bool" = some false), k⟩
theorem is_int_str {i : Int} (k : Q (.bl false) H) : rIsV K [.int i, .ty "str"] H Q := ⟨_, _, _, _, rfl, .int _, (by decide +kernel : kitB "int" "str" = some false), k⟩
theorem is_int_tuple {i : Int} (k : Q (.bl false) H) : rIsV K [.int i, .ty "tuple"] H Q := ⟨_, _, _, _, rfl, .int _, (by decide +kernel : kitB "int" "tuple" = some false), k⟩
theorem is_int_list {i : Int} (k : Q (.bl false) H) : rIsV K [.int i, .ty "list"] H Q := ⟨_, _, _, _, rfl, .int _, (by decide +kernel : kitB "int" "list" = some false), k⟩
theorem is_int_dict {i : Int} (k : Q (.bl false) H) : rIsV K [.int i, .ty "dict"] H Q := ⟨_, _, _, _, rfl, .int _, (by decide +kernel : kitB "int" "dict" = some false), k⟩
theorem is_bl_int {b : Bool} (k : Q (.bl true) H) : rIsV K [.bl b, .ty "int"] H Q := ⟨_, _, _, _, rfl, .bl _, (by decide +kernel : kitB "bool" "int" = some true), k⟩
theorem is_bl_bool {b : Bool} (k : Q (.bl true) H) : rIsV K [.bl b, .ty "bool"] H Q := ⟨_, _, _, _, rfl, .bl _, (by decide +kernel : kitB "bool" "bool" = some true), k⟩
theorem is_bl_str {b : Bool} (k : Q (.bl false) H) : rIsV K [.bl b, .ty "str"] H Q := ⟨_, _, _, _, rfl, .bl _, (by decide +kernel : kitB "bool" "str" = some false), k⟩
theorem is_bl_tuple {b : Bool} (k : Q (.bl false) H) : rIsV K [.bl b, .ty "tuple"] H Q := ⟨_, _, _, _, rfl, .bl _, (by decide +kernel : kitB "bool" "tuple" = some false), k⟩
theorem is_bl_list {b : Bool} (k : Q (.bl false) H) : rIsV K [.bl b, .ty "list"] H Q := ⟨_, _, _, _, rfl, .bl _, (by decide +kernel : kitB "bool" "list" = some false), k⟩
theorem is_bl_dict {b : Bool} (k : Q (.bl false) H) : rIsV K [.bl b, .ty "dict"] H Q := ⟨_, _, _, _, rfl, .bl _, (by decide +kernel : kitB "bool" "dict" = some false), k⟩
theorem is_str_int {z : Str} (k : Q (.bl false) H) : rIsV K [.str z, .ty "int"] H Q := ⟨_, _, _, _, rfl, .str _, (by decide +kernel : kitB "str" "int" = some false), k⟩
theorem is_str_bool {z : Str} (k : Q (.bl false) H) : rIsV K [.str z, .ty "bool"] H Q := ⟨_, _, _, _, rfl, .str _, (by decide +kernel : kitB "str" "bool" = some false), k⟩
theorem is_str_str {z : Str} (k : Q (.bl true) H) : rIsV K [.str z, .ty "str"] H Q := ⟨_, _, _, _, rfl, .str _, (by decide +kernel : kitB "str" "str" = some true), k⟩
theorem is_str_tuple {z : Str} (k : Q (.bl false) H) : rIsV K [.str z, .ty "tuple"] H Q := ⟨_, _, _, _, rfl, .str _, (by decide +kernel : kitB "str" "tuple" = some false), k⟩
theorem is_str_list {z : Str} (k : Q (.bl false) H) : rIsV K [.str z, .ty "list"] H Q := ⟨_, _, _, _, rfl, .str _, (by decide +kernel : kitB "str" "list" = some false), k⟩
theorem is_str_dict {z : Str} (k : Q (.bl false) H) : rIsV K [.str z, .ty "dict"] H Q := ⟨_, _, _, _, rfl, .str _, (by decide +kernel : kitB "str" "dict" = some false), k⟩
theorem is_non_int  (k : Q (.bl false) H) : rIsV K [.non, .ty "int"] H Q := ⟨_, _, _, _, rfl, .non, (by decide +kernel : kitB "NoneType" "int" = some false), k⟩
theorem is_non_bool  (k : Q (.bl false) H) : rIsV K [.non, .ty "bool"] H Q := ⟨_, _, _, _, rfl, .non, (by decide +kernel : kitB "NoneType" "bool" = some false), k⟩
theorem is_non_str  (k : Q (.bl false) H) : rIsV K [.non, .ty "str"] H Q := ⟨_, _, _, _, rfl, .non, (by decide +kernel : kitB "NoneType" "str" = some false), k⟩
theorem is_non_tuple  (k : Q (.bl false) H) : rIsV K [.non, .ty "tuple"] H Q := ⟨_, _, _, _, rfl, .non, (by decide +kernel : kitB "NoneType" "tuple" = some false), k⟩
theorem is_non_list  (k : Q (.bl false) H) : rIsV K [.non, .ty "list"] H Q := ⟨_, _, _, _, rfl, .non, (by decide +kernel : kitB "NoneType" "list" = some false), k⟩
theorem is_non_dict  (k : Q (.bl false) H) : rIsV K [.non, .ty "dict"] H Q := ⟨_, _, _, _, rfl, .non, (by decide +kernel : kitB "NoneType" "dict" = some false), k⟩
theorem is_tup_int {a : Addr} {xs : List V} (h : SqT K H a xs) (k : Q (.bl false) H) : rIsV K [.ref a, .ty "int"] H Q := ⟨_, _, _, _, rfl, .tup h, (by decide +kernel : kitB "tuple" "int" = some false), k⟩
theorem is_tup_bool {a : Addr} {xs : List V} (h : SqT K H a xs) (k : Q (.bl false) H) : rIsV K [.ref a, .ty "bool"] H Q := ⟨_, _, _, _, rfl, .tup h, (by decide +kernel : kitB "tuple" "bool" = some false), k⟩
theorem is_tup_str {a : Addr} {xs : List V} (h : SqT K H a xs) (k : Q (.bl false) H) : rIsV K [.ref a, .ty "str"] H Q := ⟨_, _, _, _, rfl, .tup h, (by decide +kernel : kitB "tuple" "str" = some false), k⟩
theorem is_tup_tuple {a : Addr} {xs : List V} (h : SqT K H a xs) (k : Q (.bl true) H) : rIsV K [.ref a, .ty "tuple"] H Q := ⟨_, _, _, _, rfl, .tup h, (by decide +kernel : kitB "tuple" "tuple" = some true), k⟩
theorem is_tup_list {a : Addr} {xs : List V} (h : SqT K H a xs) (k : Q (.bl false) H) : rIsV K [.ref a, .ty "list"] H Q := ⟨_, _, _, _, rfl, .tup h, (by decide +kernel : kitB "tuple" "list" = some false), k⟩
theorem is_tup_dict {a : Addr} {xs : List V} (h : SqT K H a xs) (k : Q (.bl false) H) : rIsV K [.ref a, .ty "dict"] H Q := ⟨_, _, _, _, rfl, .tup h, (by decide +kernel : kitB "tuple" "dict" = some false), k⟩
theorem is_lst_int {a : Addr} {xs : List V} (h : SqL K H a xs) (k : Q (.bl false) H) : rIsV K [.ref a, .ty "int"] H Q := ⟨_, _, _, _, rfl, .lst h, (by decide +kernel : kitB "list" "int" = some false), k⟩
theorem is_lst_bool {a : Addr} {xs : List V} (h : SqL K H a xs) (k : Q (.bl false) H) : rIsV K [.ref a, .ty "bool"] H Q := ⟨_, _, _, _, rfl, .lst h, (by decide +kernel : kitB "list" "bool" = some false), k⟩
theorem is_lst_str {a : Addr} {xs : List V} (h : SqL K H a xs) (k : Q (.bl false) H) : rIsV K [.ref a, .ty "str"] H Q := ⟨_, _, _, _, rfl, .lst h, (by decide +kernel : kitB "list" "str" = some false), k⟩
theorem is_lst_tuple {a : Addr} {xs : List V} (h : SqL K H a xs) (k : Q (.bl false) H) : rIsV K [.ref a, .ty "tuple"] H Q := ⟨_, _, _, _, rfl, .lst h, (by decide +kernel : kitB "list" "tuple" = some false), k⟩
theorem is_lst_list {a : Addr} {xs : List V} (h : SqL K H a xs) (k : Q (.bl true) H) : rIsV K [.ref a, .ty "list"] H Q := ⟨_, _, _, _, rfl, .lst h, (by decide +kernel : kitB "list" "list" = some true), k⟩
theorem is_lst_dict {a : Addr} {xs : List V} (h : SqL K H a xs) (k : Q (.bl false) H) : rIsV K [.ref a, .ty "dict"] H Q := ⟨_, _, _, _, rfl, .lst h, (by decide +kernel : kitB "list" "dict" = some false), k⟩
end

/-! ### isinstance of a caught error (at a; its class cls, its own dict d) -/
def rIsX (K : PySem.W.Frag) (a : Addr) (cls : Value) (d : Option Addr) (C : Addr) : List V → Hp → VK → Prop := fun xs H Q => ∃ (c : V) (u : Value) (b : Bool), xs = [.ref a, c] ∧ ClsV c u ∧ cls = .ref C ∧ (∃ dd fs, d = some dd ∧ H dd = some (.xd fs)) ∧ PySem.W.kitOne K (.ref C) u = some b ∧ Q (.bl b) H
theorem call_isXc {X : Cx} {a C : Addr} {oe : Obj} {cls : Value} {d : Option Addr} {pn : List (Addr × Obj)} (T : ExcC X.K C) (hz : Zc cls d oe) (hf : ∃ vs, oe.data = .fields vs) : CallR (X.suite a ((a, oe) :: pn)) (.builtin "isinstance") (rIsX X.K a cls d C) := by
  intro pins s σ H xs us Q I r h
  obtain ⟨c, u, b, rfl, k, ec, ⟨dd, fs, ed, ea⟩, e, q⟩ := h
  obtain ⟨u1, u2, rfl, r1, r2⟩ := vals2 r
  have e2 := k.eq r2
  subst e2
  obtain rfl : u1 = Value.ref a := r1
  subst ec ed
  obtain ⟨ha, _⟩ := I.pin (a, oe) (List.mem_append_left _ List.mem_cons_self)
  obtain ⟨fv, hd⟩ := hf
  have hx : ObjOk X.prog X.w H s.heap dd (.xd fs) := I.hok dd _ ea
  obtain ⟨mA, hns, hr⟩ := hx
  obtain ⟨od, ho, hl⟩ := lookIn_ns hns
  have J : PySem.W.InstAt s.heap a oe C (some od) := ⟨ha, hz.1, by unfold PySem.W.notCls; rw [hd] <;> rfl, by rw [hz.2]; exact ho⟩
  have hcl : (PySem.W.clsIn X.K C).isSome = true := by
    obtain ⟨cd, hc, _⟩ := PySem.W.any_some T.hd
    rw [hc]; rfl
  exact PySem.W.kia_one (PySem.W.kitx_exc hcl T.hg T.hk T.hs T.ha T.hn T.ht T.hm) I.kIn J e (fun z => nomatch z) fun tk => ⟨.bl b, H, I.tok tk, rfl, q⟩

/-! ### built-in functions, by names -/
def rInt1 : List V → Hp → VK → Prop := fun xs H Q => (∃ i, xs = [.int i] ∧ Q (.int i) H) ∨ ∃ k, xs = [.bl k] ∧ Q (.int (if k then 1 else 0)) H
theorem w_int {X : Cx} : CallR X (.type "int") rInt1 := call_int1
def rAbs : List V → Hp → VK → Prop := fun xs H Q => ∃ i, xs = [.int i] ∧ Q (.int (if i < 0 then -i else i)) H
theorem w_abs {X : Cx} : CallR X (.builtin "abs") rAbs := call_abs
def rLenQ (K : PySem.W.Frag) : List V → Hp → VK → Prop := fun xs H Q => ∃ p ys, xs = [.ref p] ∧ (SqL K H p ys ∨ SqT K H p ys) ∧ Q (.int ys.length) H
theorem w_len {X : Cx} : CallR X (.builtin "len") (rLenQ X.K) := call_len_seq
def rLenZ : List V → Hp → VK → Prop := fun xs H Q => ∃ z, xs = [.str z] ∧ z.length ≤ sizeLine ∧ Q (.int z.length) H
theorem w_lenZ {X : Cx} : CallR X (.builtin "len") rLenZ := call_len_str
def rMin2 : List V → Hp → VK → Prop := fun xs H Q => ∃ i j, xs = [.int i, .int j] ∧ Q (.int (if j < i then j else i)) H
def rMax2 : List V → Hp → VK → Prop := fun xs H Q => ∃ i j, xs = [.int i, .int j] ∧ Q (.int (if j > i then j else i)) H
theorem w_min2 {X : Cx} (hc : X.calm = true) : CallR X (.builtin "min") rMin2 := call_min2 hc
theorem w_max2 {X : Cx} (hc : X.calm = true) : CallR X (.builtin "max") rMax2 := call_max2 hc
def rListOf (K : PySem.W.Frag) : List V → Hp → VK → Prop := fun xs H Q => ∃ p ys, xs = [.ref p] ∧ (SqL K H p ys ∨ SqT K H p ys) ∧ ∀ l, H l = none → Q (.ref l) (upd H l (.lst ys))
theorem w_list {X : Cx} : CallR X (.type "list") (rListOf X.K) := call_list_of
def rTupOf (K : PySem.W.Frag) : List V → Hp → VK → Prop := fun xs H Q => ∃ p ys, xs = [.ref p] ∧ ((SqL K H p ys ∧ ∀ l, H l = none → Q (.ref l) (upd H l (.tup ys))) ∨ (SqT K H p ys ∧ Q (.ref p) H))
theorem w_tuple {X : Cx} : CallR X (.type "tuple") (rTupOf X.K) := call_tuple_of
def rStrI : List V → Hp → VK → Prop := fun xs H Q => ∃ i, xs = [.int i] ∧ i.natAbs.log2 < 1920 ∧ Q (.str (toString i)) H
theorem w_str {X : Cx} : CallR X (.type "str") rStrI := call_str_int

/-! ### readings, from the front: what must be shown for each construct -/
def Nx (N : L2.St → Hp → Prop) (s2 : TS) (D : Ends) : Prop := ∀ σ H, s2 D σ H → N σ H
def MakR (C : Addr) (sp : Sp) (vs : List V) (H1 : Hp) (Q : VK) (E : XK) : Prop := ∀ x dx, H1 x = none → H1 dx = none → dx ≠ x → sp (V.ref x :: vs) (upd (upd H1 dx (.own x)) x (.ins C dx [])) (fun v H2 => v = .non ∧ Q (.ref x) H2) E
def FldR (K : PySem.W.Frag) (f : Str) (x : V) (H1 : Hp) (Q : VK) : Prop := ∃ a C dx fs v, x = .ref a ∧ H1 a = some (.ins C dx fs) ∧ Cls K C ∧ NoAttr K C f ∧ fs.lookup f = some v ∧ Q v H1
def NewT (xs : List V) (H : Hp) (Q : VK) : Prop := xs.length ≤ sizeLine ∧ ∀ p, H p = none → Q (.ref p) (upd H p (.tup xs))
def NewL (xs : List V) (H : Hp) (Q : VK) : Prop := xs.length ≤ sizeLine ∧ ∀ p, H p = none → Q (.ref p) (upd H p (.lst xs))
section
variable {K : PySem.W.Frag} {σ : L2.St} {H : Hp} {Q : VK} {QB : Bool → Hp → Prop} {QL : List V → Hp → Prop} {QO : Option Int → Hp → Prop} {D : Ends} {i j : Nat} {v x y : V} {ta tb te tv td : TE} {t u : TT} {tr : TA} {r : R2} {tl th : TO} {a b n m : Int} {p l : Addr} {xs ys vs : List V} {s1 s2 : TS} {g : TG} {f : Str} {C dx : Addr} {fs : List (Str × V)}
theorem i_var (h : σ[i]? = some (some v)) (k : Q v H) : tVar i σ H Q := ⟨v, h, k⟩
theorem i_c (k : Q v H) : tC v σ H Q := k
theorem i_op (k : ta σ H fun x H1 => tb σ H1 fun y H2 => r x y H2 Q) : tOp r ta tb σ H Q := k
theorem i_un {r : V → Hp → VK → Prop} (k : ta σ H fun x H1 => r x H1 Q) : tUn r ta σ H Q := k
theorem i_U {g : Int → V} (k : Q (g a) H) : rU g (.int a) H Q := ⟨a, rfl, k⟩
theorem i_I0 {g : Int → Int → V} (k : Q (g a b) H) : rI0 g (.int a) (.int b) H Q := ⟨a, b, rfl, rfl, k⟩
theorem i_I {g : Int → Int → V} {C : Int → Int → Prop} (c : C a b) (k : Q (g a b) H) : rI C g (.int a) (.int b) H Q := ⟨a, b, rfl, rfl, c, k⟩
theorem i_cmp {p : Int → Int → Bool} (k : ta σ H fun x H1 => tb σ H1 fun y H2 => ∃ i j, x = .int i ∧ y = .int j ∧ Q (.bl (p i j)) H2) : tCmp p ta tb σ H Q := k
theorem i_II {P : Int → Int → Prop} (k : P a b) : ∃ i j, V.int a = .int i ∧ V.int b = .int j ∧ P i j := ⟨a, b, rfl, rfl, k⟩
theorem i_isN (k : ta σ H fun x H1 => Q (.bl (decide (x = .non))) H1) : tIsN ta σ H Q := k
theorem i_notN (k : ta σ H fun x H1 => Q (.bl (!decide (x = .non))) H1) : tNotN ta σ H Q := k
theorem i_B (k : te σ H fun x H1 => ∃ c, x = .bl c ∧ QB c H1) : tB te σ H QB := k
theorem i_test (k : te σ H fun x H1 => ∃ c, x = .bl c ∧ QB c H1) : tTest te σ H QB := k
theorem i_bl {c : Bool} {P : Bool → Prop} (k : P c) : ∃ c', V.bl c = .bl c' ∧ P c' := ⟨c, rfl, k⟩
theorem i_and (k : t σ H fun c H1 => if c = true then u σ H1 QB else QB false H1) : tAnd t u σ H QB := k
theorem i_or (k : t σ H fun c H1 => if c = true then QB true H1 else u σ H1 QB) : tOr t u σ H QB := k
theorem i_not (k : t σ H fun c H1 => QB (!c) H1) : tNot t σ H QB := k
theorem i_andV (k : ta σ H fun x H1 => ∃ c, x = .bl c ∧ if c = true then tb σ H1 Q else Q (.bl false) H1) : tAndV ta tb σ H Q := k
theorem i_orV (k : ta σ H fun x H1 => ∃ c, x = .bl c ∧ if c = true then Q (.bl true) H1 else tb σ H1 Q) : tOrV ta tb σ H Q := k
theorem i_notV (k : ta σ H fun x H1 => ∃ c, x = .bl c ∧ Q (.bl (!c)) H1) : tNotV ta σ H Q := k
theorem i_if (k : t σ H fun c H1 => if c = true then ta σ H1 Q else tb σ H1 Q) : tIf t ta tb σ H Q := k
theorem i_chain {r' : R2} {tc : TE} (k : ta σ H fun x H1 => tb σ H1 fun y H2 => r x y H2 fun z H3 => ∃ c, z = .bl c ∧ (if c = true then tc σ H3 fun w' H4 => r' y w' H4 Q else Q (.bl false) H3)) : tChain r r' ta tb tc σ H Q := k
theorem i_nil (k : QL [] H) : tNil σ H QL := k
theorem i_cons (k : ta σ H fun x H1 => tr σ H1 fun xs H2 => QL (x :: xs) H2) : tCons ta tr σ H QL := k
theorem i_tup (k : tr σ H fun xs H1 => NewT xs H1 Q) : tTup tr σ H Q := k
theorem i_lst (k : tr σ H fun xs H1 => NewL xs H1 Q) : tLst tr σ H Q := k
theorem i_newT (h : xs.length ≤ 1000) (k : ∀ p H2, H p = none → Ext H H2 → H2 p = some (.tup xs) → Q (.ref p) H2) : NewT xs H Q := ⟨sz (Nat.le_trans h (by decide)), fun p np => k p _ np (Ext.new (Ext.refl _) np) upd_same⟩
theorem i_newL (h : xs.length ≤ 1000) (k : ∀ p H2, H p = none → Ext H H2 → H2 p = some (.lst xs) → Q (.ref p) H2) : NewL xs H Q := ⟨sz (Nat.le_trans h (by decide)), fun p np => k p _ np (Ext.new (Ext.refl _) np) upd_same⟩
theorem i_call {sp : Sp} {E : L2.St → XK} (k : tr σ H fun vs H1 => sp vs H1 Q (E σ)) : tCallS sp E tr σ H Q := k
theorem i_cb {r : List V → Hp → VK → Prop} (k : tr σ H fun vs H1 => r vs H1 Q) : tCB r tr σ H Q := k
theorem i_met {sp : Sp} {E : L2.St → XK} (k : ta σ H fun x H1 => ∃ a dx fs, x = .ref a ∧ H1 a = some (.ins C dx fs) ∧ fs.lookup f = none ∧ tr σ H1 fun vs H2 => sp (x :: vs) H2 Q (E σ)) : tMetS C f sp E ta tr σ H Q := k
theorem i_mak {sp : Sp} {E : L2.St → XK} (k : tr σ H fun vs H1 => MakR C sp vs H1 Q (E σ)) : tMakS C sp E tr σ H Q := k
theorem i_fld (k : ta σ H fun x H1 => FldR K f x H1 Q) : tFld K ta f σ H Q := k
theorem at_fld {C dx : Addr} {fs : List (Str × V)} {a : Addr} (h : H a = some (.ins C dx fs)) (c : Cls K C) (n : NoAttr K C f) (l : fs.lookup f = some v) (k : Q v H) : FldR K f (.ref a) H Q := ⟨a, C, dx, fs, v, rfl, h, c, n, l, k⟩
theorem i_sl {r : V → Option Int → Option Int → Hp → VK → Prop} (k : te σ H fun x H1 => tl σ H1 fun l H2 => th σ H2 fun u H3 => r x l u H3 Q) : tSl r te tl th σ H Q := k
theorem i_noPart (k : QO none H) : tNoPart σ H QO := k
theorem i_part (k : te σ H fun x H1 => ∃ i, x = .int i ∧ QO (some i) H1) : tPart te σ H QO := k
theorem i_1I {P : Int → Prop} (k : P a) : ∃ i, V.int a = .int i ∧ P i := ⟨a, rfl, k⟩
theorem i_bm {r : V → List V → Hp → VK → Prop} {T : String} (k : ta σ H fun x H1 => tyV K T x H1 ∧ tr σ H1 fun xs H2 => r x xs H2 Q) : tBM K T r ta tr σ H Q := k
theorem i_bm0 {r : V → List V → Hp → VK → Prop} {T : String} (k : ta σ H fun x H1 => tyV K T x H1 ∧ r x [] H1 Q) : tBM0 K T r ta σ H Q := k
theorem i_seq (k : s1 { D with nx := s2 D } σ H) : tSeq s1 s2 D σ H := k
/-- what follows is a letter -/
theorem i_seqN (k : ∀ N : L2.St → Hp → Prop, Nx N s2 D → s1 { D with nx := N } σ H) : tSeq s1 s2 D σ H := k _ (fun _ _ h => h)
theorem go_nx {N : L2.St → Hp → Prop} (h : Nx N s2 D) (k : s2 D σ H) : N σ H := h σ H k
theorem i_next (k : D.nx σ H) : tNext D σ H := k
theorem i_brk (k : D.bk σ H) : tBreak D σ H := k
theorem i_cont (k : D.ct σ H) : tCont D σ H := k
theorem i_drop (k : te σ H fun _ H1 => D.nx σ H1) : tDrop te D σ H := k
theorem i_ret (k : te σ H D.rt) : tRet te D σ H := k
theorem i_retN (k : D.rt .non H) : tRetN D σ H := k
theorem i_ifS (k : t σ H fun b H1 => if b = true then s1 D σ H1 else s2 D σ H1) : tIfS t s1 s2 D σ H := k
theorem i_asg (k : te σ H fun x H1 => g x σ H1 D.nx) : tAsg te g D σ H := k
theorem i_name {Qs : L2.St → Hp → Prop} (k : Qs (σ.set i (some v)) H) : gName i v σ H Qs := k
theorem i_gsub {Qs : L2.St → Hp → Prop} {ts : TSet} (k : ta σ H fun o H1 => tb σ H1 fun i H2 => ts o i v H2 fun H3 => Qs σ H3) : gSub ta tb ts v σ H Qs := k
theorem i_par (k : tr σ H fun vs H1 => ∃ v w, vs = [v, w] ∧ D.nx ((σ.set i (some v)).set j (some w)) H1) : tPar i j tr D σ H := k
theorem i_par2 {P : V → V → Prop} (k : P x y) : ∃ v w, [x, y] = [v, w] ∧ P v w := ⟨x, y, rfl, k⟩
theorem i_aug {ti : TIp} (h : σ[i]? = some (some x)) (k : te σ H fun y H1 => ti x y H1 fun z H2 => D.nx (σ.set i (some z)) H2) : tAug i te ti D σ H := ⟨x, h, k⟩
theorem i_ipI {f : Int → Int → Int} (k : Q (.int (f a b)) H) : ipI f (.int a) (.int b) H Q := ⟨a, b, rfl, rfl, k⟩
theorem i_sfld (k : tv σ H fun y H1 => ta σ H1 fun x H2 => ∃ a C dx fs, x = .ref a ∧ H2 a = some (.ins C dx fs) ∧ Cls K C ∧ NoAttr K C f ∧ fs.length < 1000 ∧ D.nx σ (upd H2 a (.ins C dx (putF f y fs)))) : sFld K ta tv f D σ H := k
theorem i_eqD {d e : PyData} (h1 : Dp K H x d) (h2 : Dp K H y e) (s1 : SeqAt.shaped d = true) (s2 : SeqAt.shaped e = true) (k : Q (.bl (PyData.eqv d e)) H) : rEqD K x y H Q := ⟨d, e, h1, h2, s1, s2, k⟩
theorem i_neD {d e : PyData} (h1 : Dp K H x d) (h2 : Dp K H y e) (s1 : SeqAt.shaped d = true) (s2 : SeqAt.shaped e = true) (k : Q (.bl (!PyData.eqv d e)) H) : rNeD K x y H Q := ⟨d, e, h1, h2, s1, s2, k⟩
theorem i_eq (h : scal x y = true) (k : Q (.bl (decide (x = y))) H) : rEq x y H Q := ⟨h, k⟩
theorem i_ne (h : scal x y = true) (k : Q (.bl (!decide (x = y))) H) : rNe x y H Q := ⟨h, k⟩
theorem i_ixL (h : SqL K H p xs) (e : atI xs a = some v) (k : Q v H) : rIxL K (.ref p) (.int a) H Q := ⟨p, xs, a, v, rfl, rfl, h, e, k⟩
theorem i_ixT (h : SqT K H p xs) (e : atI xs a = some v) (k : Q v H) : rIxT K (.ref p) (.int a) H Q := ⟨p, xs, a, v, rfl, rfl, h, e, k⟩
theorem i_isV {t c : String} {b : Bool} (h : Vk K H x t) (e : kitB t c = some b) (k : Q (.bl b) H) : rIsV K [x, .ty c] H Q := ⟨x, t, c, b, rfl, h, e, k⟩
theorem i_append (h : H l = some (.lst xs)) (z : xs.length < sizeLine) (k : Q .non (upd H l (.lst (xs ++ [v])))) : rAppend (.ref l) [v] H Q := ⟨l, xs, v, rfl, rfl, h, z, k⟩
theorem i_setL {Qh : Hp → Prop} (h : H p = some (.lst xs)) (e : ixN xs.length a = some j) (k : Qh (upd H p (.lst (xs.set j v)))) : rSetL (.ref p) (.int a) v H Qh := ⟨p, xs, a, j, rfl, rfl, h, e, k⟩
theorem i_int (k : Q (.int a) H) : rInt1 [.int a] H Q := .inl ⟨a, rfl, k⟩
theorem i_intB {c : Bool} (k : Q (.int (if c then 1 else 0)) H) : rInt1 [.bl c] H Q := .inr ⟨c, rfl, k⟩
theorem i_abs (k : Q (.int (if a < 0 then -a else a)) H) : rAbs [.int a] H Q := ⟨a, rfl, k⟩
theorem i_lenL (h : SqL K H p xs) (k : Q (.int xs.length) H) : rLenQ K [.ref p] H Q := ⟨p, xs, rfl, .inl h, k⟩
theorem i_lenT (h : SqT K H p xs) (k : Q (.int xs.length) H) : rLenQ K [.ref p] H Q := ⟨p, xs, rfl, .inr h, k⟩
theorem i_lenZ {z : Str} (h : z.length ≤ sizeLine) (k : Q (.int z.length) H) : rLenZ [.str z] H Q := ⟨z, rfl, h, k⟩
theorem i_min2 (k : Q (.int (if b < a then b else a)) H) : rMin2 [.int a, .int b] H Q := ⟨a, b, rfl, k⟩
theorem i_max2 (k : Q (.int (if b > a then b else a)) H) : rMax2 [.int a, .int b] H Q := ⟨a, b, rfl, k⟩
theorem i_listL (h : SqL K H p xs) (k : ∀ l H2, H l = none → Ext H H2 → H2 l = some (.lst xs) → Q (.ref l) H2) : rListOf K [.ref p] H Q := ⟨p, xs, rfl, .inl h, fun l n => k l _ n (Ext.new (Ext.refl _) n) upd_same⟩
theorem i_listT (h : SqT K H p xs) (k : ∀ l H2, H l = none → Ext H H2 → H2 l = some (.lst xs) → Q (.ref l) H2) : rListOf K [.ref p] H Q := ⟨p, xs, rfl, .inr h, fun l n => k l _ n (Ext.new (Ext.refl _) n) upd_same⟩
theorem i_tupL (h : SqL K H p xs) (k : ∀ l H2, H l = none → Ext H H2 → H2 l = some (.tup xs) → Q (.ref l) H2) : rTupOf K [.ref p] H Q := ⟨p, xs, rfl, .inl ⟨h, fun l n => k l _ n (Ext.new (Ext.refl _) n) upd_same⟩⟩
theorem i_tupT (h : SqT K H p xs) (k : Q (.ref p) H) : rTupOf K [.ref p] H Q := ⟨p, xs, rfl, .inr ⟨h, k⟩⟩
theorem i_size {P : Prop} {zs : List V} (h : zs.length ≤ 1000) (k : P) : zs.length ≤ sizeLine ∧ P := ⟨sz (Nat.le_trans h (by decide)), k⟩
theorem i_wipe {s t : L2.St} {P : Prop} (h : s = t) (k : P) : s = t ∧ P := ⟨h, k⟩
theorem i_yes (k : QB true H) : tYes σ H QB := k
theorem i_xf {a : Addr} {d : Option Addr} {cls : Value} (k : te σ H fun x H1 => x = .ref a ∧ cls = .ref C ∧ ∃ (dd : Addr) (fs : List (Str × V)) (v : V), d = some dd ∧ H1 dd = some (.xd fs) ∧ fs.lookup f = some v ∧ Q v H1) : tXf a cls d C f te σ H Q := k
theorem i_isXr {a C C2 d : Addr} {fs : List (Str × V)} {b : Bool} (h : H d = some (.xd fs)) (e : PySem.W.kitOne K (.ref C) (.ref C2) = some b) (k : Q (.bl b) H) : rIsX K a (.ref C) (some d) C [.ref a, .ref C2] H Q := ⟨.ref C2, .ref C2, b, rfl, .own C2, rfl, ⟨d, fs, rfl, h⟩, e, k⟩
theorem i_isXt {a C d : Addr} {fs : List (Str × V)} {b : Bool} {c : String} (h : H d = some (.xd fs)) (e : PySem.W.kitOne K (.ref C) (.type c) = some b) (k : Q (.bl b) H) : rIsX K a (.ref C) (some d) C [.ref a, .ty c] H Q := ⟨.ty c, .type c, b, rfl, .ty c, rfl, ⟨d, fs, rfl, h⟩, e, k⟩
theorem i_xfv {a d : Addr} {fs : List (Str × V)} {v : V} {Q : V → Prop} {C : Addr} (h : H d = some (.xd fs)) (e : fs.lookup f = some v) (k : Q v) : V.ref a = .ref a ∧ Value.ref C = .ref C ∧ ∃ (dd : Addr) (fs : List (Str × V)) (v : V), some d = some dd ∧ H dd = some (.xd fs) ∧ fs.lookup f = some v ∧ Q v := ⟨rfl, rfl, d, fs, v, rfl, h, e, k⟩
theorem tyL (h : H p = some (.lst xs)) : tyV K "list" (.ref p) H := .inl ⟨rfl, _, SqL.of h⟩
theorem i_tyL {P : Prop} (h : H p = some (.lst xs)) (k : P) : tyV K "list" (.ref p) H ∧ P := ⟨tyL h, k⟩
theorem i_raiseE {C : Addr} {fs : List Str} {W : WX} (k : tr σ H fun vs H1 => vs.length = fs.length ∧ ∀ d, H1 d = none → W (.ref C) (some d) σ (upd H1 d (.xd (WpE.fz fs vs)))) : WpE.tRaiseErr C fs W tr D σ H := k
end
theorem atI_nat {α : Type} {xs : List α} {n : Nat} {v : α} (h : xs[n]? = some v) : atI xs (n : Int) = some v := by
  have hl : n < xs.length := (List.getElem?_eq_some_iff.mp h).1
  unfold atI ixN
  rw [if_pos (by omega), if_pos (by omega)]
  simpa using h

theorem lk_hit {α : Type} {f : Str} {y : α} {fs : List (Str × α)} : ((f, y) :: fs).lookup f = some y := by simp [List.lookup]
theorem lk_miss {α : Type} {f g : Str} {y : α} {fs : List (Str × α)} {r : Option α} (h : (g == f) = false) (k : fs.lookup g = r) : ((f, y) :: fs).lookup g = r := by
  rw [List.lookup_cons, h]
  exact k
theorem lk_nil {α : Type} {g : Str} : ([] : List (Str × α)).lookup g = none := rfl
theorem at_hd {α : Type} {x : α} {xs : List α} : atI (x :: xs) 0 = some x := atI_nat (n := 0) rfl
theorem at_in {α : Type} {xs : List α} {i : Int} (h0 : 0 ≤ i) (h1 : i < xs.length) : ∃ v, atI xs i = some v ∧ xs[i.toNat]? = some v := by
  have hl : i.toNat < xs.length := by omega
  obtain ⟨v, e⟩ : ∃ v, xs[i.toNat]? = some v := ⟨_, List.getElem?_eq_getElem hl⟩
  refine ⟨v, ?_, e⟩
  have z := atI_nat e
  rwa [Int.toNat_of_nonneg h0] at z
theorem at_ints {ns : List Int} {i : Int} (h0 : 0 ≤ i) (h1 : i < ns.length) : ∃ z, atI (ns.map V.int) i = some (.int z) ∧ z ∈ ns := by
  obtain ⟨v, e, g⟩ := at_in (xs := ns.map V.int) h0 (by simpa using h1)
  rw [List.getElem?_map] at g
  cases q : ns[i.toNat]? with
  | none => rw [q] at g; cases g
  | some z =>
    rw [q] at g
    cases g
    exact ⟨z, e, List.mem_of_getElem? q⟩

/-! ### the state of a law's draws: a list of four ints, of which nothing more is said -/
def St4 (st : Addr) (h : Heap) : Prop := ∃ (a b c d : Int) (its : List Value) (n : Nat), Vals [.int a, .int b, .int c, .int d] its ∧ h.get? st = some ({ cls := .type "list", data := .seq its.toArray n } : Obj)
def StO (st : Addr) : HO := .ext (St4 st)
section
variable {P : Program} {w : World} {H : Hp} {h : Heap} {st : Addr}
theorem st_ok {a b c d : Int} (o : ObjOk P w H h st (.lst [.int a, .int b, .int c, .int d])) {H' : Hp} : ObjOk P w H' h st (StO st) := by
  obtain ⟨_, its, n, r, e⟩ := o
  exact ⟨⟨a, b, c, d, its, n, r, e⟩, ⟨_, e⟩, fun h1 h2 ⟨a, b, c, d, its, n, r, e⟩ k => ⟨a, b, c, d, its, n, r, k _ e⟩⟩
theorem st_at (hok : HOk P w H h) (e : H st = some (StO st)) : St4 st h := (hok st _ e).1
theorem upd_back {o : HO} (e : H st = some o) (u : HO) : upd (upd H st u) st o = H := by
  funext b
  by_cases hb : b = st
  · rw [hb, upd_same, e]
  · rw [upd_ne hb, upd_ne hb]
/-- one object told in another way -/
theorem hok_as {o u : HO} (hok : HOk P w H h) (e : H st = some o) (no : ∀ x, o ≠ .own x) (nt : ∀ xs, o ≠ .tup xs) (new : ObjOk P w (upd H st u) h st u) : HOk P w (upd H st u) h := fun b v q => by
  by_cases hb : b = st
  · subst hb
    rw [upd_same] at q
    cases q
    exact new
  · rw [upd_ne hb] at q
    refine (hok b v q).stay (fun _ _ _ z => z) (fun c z => ?_) (fun c xs z => ?_)
    · rw [upd_ne (ne_of z e fun y => no _ y.symm)]; exact z
    · rw [upd_ne (ne_of z e fun y => nt _ y.symm)]; exact z
theorem st_open (hok : HOk P w H h) (e : H st = some (StO st)) : ∃ a b c d, HOk P w (upd H st (.lst [.int a, .int b, .int c, .int d])) h := by
  obtain ⟨a, b, c, d, its, n, r, g⟩ := st_at hok e
  exact ⟨a, b, c, d, hok_as hok e (fun _ => nofun) (fun _ => nofun) ⟨by show 4 ≤ sizeLine; decide, its, n, r, g⟩⟩
end
/-- _law_draw upon its list of four ints -/
def spDrawL (K : PySem.W.Frag) : Sp := fun vs H Q _ => ∃ (a st : Addr) (ns : List Int) (n x0 x1 x2 x3 : Int), vs = [.ref a, .ref st, .int n] ∧ (∀ o, SqL K (upd H st o) a (ns.map V.int)) ∧ ns.length ≤ 63 ∧ H st = some (.lst [.int x0, .int x1, .int x2, .int x3]) ∧ 0 < n ∧ n < 1073741824 ∧
  ∀ r y0 y1 y2 y3 : Int, 0 ≤ r → r < n → Q (.int r) (upd H st (.lst [.int y0, .int y1, .int y2, .int y3]))
/-- _law_draw: some number from 0 to below the limit; nothing that is known changes -/
def spDraw (K : PySem.W.Frag) : Sp := fun vs H Q _ => ∃ (a st : Addr) (ns : List Int) (n : Int), vs = [.ref a, .ref st, .int n] ∧ SqL K H a (ns.map V.int) ∧ ns.length ≤ 63 ∧ H st = some (StO st) ∧ 0 < n ∧ n < 1073741824 ∧ ∀ r : Int, 0 ≤ r → r < n → Q (.int r) H
theorem i_draw {K : PySem.W.Frag} {H : Hp} {Q : VK} {E : XK} {a st : Addr} {ns : List Int} {n : Int} (hS : SqL K H a (ns.map V.int)) (hl : ns.length ≤ 63) (hst : H st = some (StO st)) (n0 : 0 < n) (n1 : n < 1073741824) (k : ∀ r : Int, 0 ≤ r → r < n → Q (.int r) H) : spDraw K [.ref a, .ref st, .int n] H Q E := ⟨a, st, ns, n, rfl, hS, hl, hst, n0, n1, k⟩
theorem cx_false {P : Program} {w : World} {outer : List Env} {H : Hp} {s : Shared} {u : Value} {s' : Shared} (h : L2.CX P w outer H s (fun _ _ _ => False) u s') : False := by
  obtain ⟨_, _, _, _, _, _, _, _, _, _, _, _, z⟩ := h
  exact z
theorem draw_abs {P : Program} {w : World} {K : PySem.W.Frag} {mg : Str → Option Value} {base : Heap} {k : Nat} {f : Addr} (F : FnR P w K mg base (L2.CX P w) k f (spDrawL K)) : FnR P w K mg base (L2.CX P w) k f (spDraw K) := by
  intro A outer s H us vs Q E hr e0 r h
  obtain ⟨a, st, ns, n, rfl, hS, hl, hst, n0, n1, hq⟩ := h
  obtain ⟨x0, x1, x2, x3, hok1⟩ := st_open e0.hok hst
  have nst : ∀ {b : Addr}, H b = none → b ≠ st := fun {b} z => (ne_of_none hst z).symm
  have up : ∀ {b : Addr} {o : HO}, H b = none → upd H st o b = none := fun {b o} z => by rw [upd_ne (nst z)]; exact z
  have e1 : Env0 P w K mg base A outer s (upd H st (.lst [.int x0, .int x1, .int x2, .int x3])) :=
    ⟨e0.frames, e0.mod, fun b o q => ⟨(e0.bs b o q).1, up (e0.bs b o q).2⟩, e0.bsz, e0.funs, fun b hb => up (e0.frf b hb), hok1, e0.bare⟩
  have hS1 : ∀ o, SqL K (upd (upd H st (.lst [.int x0, .int x1, .int x2, .int x3])) st o) a (ns.map V.int) := by
    intro o
    rw [upd_upd]
    rcases hS with (hS | ⟨o, hS⟩) | hS
    · exact .inl (.inl (up_ne (ne_of hS hst nofun) hS))
    · exact .inl (.inr ⟨o, up_ne (ne_of hS hst nofun) hS⟩)
    · exact .inr hS
  refine codeAny_mono (F A outer s _ us _ (fun v H' => ∃ r y0 y1 y2 y3 : Int, 0 ≤ r ∧ r < n ∧ v = .int r ∧ H' = upd H st (.lst [.int y0, .int y1, .int y2, .int y3])) (fun _ _ _ => False) hr e1 r
    ⟨a, st, ns, n, x0, x1, x2, x3, rfl, hS1, hl, upd_same, n0, n1, fun r y0 y1 y2 y3 h0 h1 => ⟨r, y0, y1, y2, y3, h0, h1, rfl, upd_upd⟩⟩) fun rr s' hq' => ?_
  cases rr with
  | error e => exact (cx_false hq').elim
  | ok fl =>
    cases fl with
    | ret u =>
      obtain ⟨v, H', os, bare, un, hok, rv, r, y0, y1, y2, y3, h0, h1, ev, eH⟩ := hq'
      subst ev eH
      have hok2 : HOk P w H s'.heap := by
        have z := hok_as (u := StO st) hok upd_same (fun _ => nofun) (fun _ => nofun) (st_ok (hok st _ upd_same))
        rw [upd_back hst] at z
        exact z
      refine ⟨.int r, H, os, bare, ⟨fun b o q n hb hx => un.keep b o q (up n) hb hx, fun b o q n hb hx => un.slot b o q (up n) hb hx, fun b o q n hx => n, un.there, fun _ _ z => z, fun _ _ _ z => z, fun b ps z => ⟨#[], by rw [z]; simp⟩⟩, hok2, rv, hq r h0 h1⟩
    | next => exact hq'.elim
    | brk => exact hq'.elim
    | cont => exact hq'.elim
/-- _law_start: a new list of four ints -/
def spStartL (K : PySem.W.Frag) : Sp := fun vs H Q _ => ∃ (a : Addr) (ns : List Int), vs = [.ref a] ∧ SqL K H a (ns.map V.int) ∧ ns.length ≤ 63 ∧ ∀ (st : Addr) (y0 y1 y2 y3 : Int), H st = none → Q (.ref st) (upd H st (.lst [.int y0, .int y1, .int y2, .int y3]))
def spStart (K : PySem.W.Frag) : Sp := fun vs H Q _ => ∃ (a : Addr) (ns : List Int), vs = [.ref a] ∧ SqL K H a (ns.map V.int) ∧ ns.length ≤ 63 ∧ ∀ st : Addr, H st = none → Q (.ref st) (upd H st (StO st))
theorem i_start {K : PySem.W.Frag} {H : Hp} {Q : VK} {E : XK} {a : Addr} {ns : List Int} (hS : SqL K H a (ns.map V.int)) (hl : ns.length ≤ 63) (k : ∀ (st : Addr) (H1 : Hp), H st = none → Ext H H1 → H1 st = some (StO st) → Q (.ref st) H1) : spStart K [.ref a] H Q E := ⟨a, ns, rfl, hS, hl, fun st n => k st _ n (Ext.new (Ext.refl _) n) upd_same⟩
theorem start_abs {P : Program} {w : World} {K : PySem.W.Frag} {mg : Str → Option Value} {base : Heap} {k : Nat} {f : Addr} (F : FnR P w K mg base (L2.CX P w) k f (spStartL K)) : FnR P w K mg base (L2.CX P w) k f (spStart K) := by
  intro A outer s H us vs Q E hr e0 r h
  obtain ⟨a, ns, rfl, hS, hl, hq⟩ := h
  refine codeAny_mono (F A outer s _ us _ (fun v H' => ∃ (st : Addr) (y0 y1 y2 y3 : Int), H st = none ∧ v = .ref st ∧ H' = upd H st (.lst [.int y0, .int y1, .int y2, .int y3])) (fun _ _ _ => False) hr e0 r
    ⟨a, ns, rfl, hS, hl, fun st y0 y1 y2 y3 hn => ⟨st, y0, y1, y2, y3, hn, rfl, rfl⟩⟩) fun rr s' hq' => ?_
  cases rr with
  | error e => exact (cx_false hq').elim
  | ok fl =>
    cases fl with
    | ret u =>
      obtain ⟨v, H', os, bare, un, hok, rv, st, y0, y1, y2, y3, hn, ev, eH⟩ := hq'
      subst ev eH
      have z := hok_as (u := StO st) hok upd_same (fun _ => nofun) (fun _ => nofun) (st_ok (hok st _ upd_same))
      rw [upd_upd] at z
      refine ⟨.ref st, upd H st (StO st), os, bare, ⟨un.keep, un.slot, fun b o q n hx => ?_, un.there, fun b xs q => up_new hn q, fun b o u q => up_new hn q, fun b ps q => ⟨#[], by rw [up_new hn q]; simp⟩⟩, z, rv, hq st hn⟩
      have y := un.free b o q n hx
      by_cases hb : b = st
      · rw [hb, upd_same] at y; cases y
      · rw [upd_ne hb] at y ⊢; exact y
    | next => exact hq'.elim
    | brk => exact hq'.elim
    | cont => exact hq'.elim
end Wp
/-! Loops and comprehensions over data. -/
namespace Wp
open PySem L2

/-! ### data -/
section
variable {K : PySem.W.Frag} {H H' : Hp}
theorem DpAll.len : ∀ {xs : List V} {ds : List PyData}, DpAll K H xs ds → xs.length = ds.length
  | _, _, .nil => rfl
  | _, _, .cons _ r => congrArg (· + 1) (DpAll.len r)
theorem DpAll.at : ∀ {xs : List V} {ds : List PyData} {i : Nat} {x : V}, DpAll K H xs ds → xs[i]? = some x → ∃ d, ds[i]? = some d ∧ Dp K H x d
  | _, _, _, _, .nil, h => by simp at h
  | _, _, 0, _, .cons a _, h => by
    simp at h
    subst h
    exact ⟨_, rfl, a⟩
  | _, _, i + 1, _, .cons _ r, h => by
    obtain ⟨d, e, p⟩ := DpAll.at r (i := i) (by simpa using h)
    exact ⟨d, by simpa using e, p⟩
theorem DpAll.to : ∀ {xs : List V} {ds : List PyData} {i : Nat} {d : PyData}, DpAll K H xs ds → ds[i]? = some d → ∃ x, xs[i]? = some x ∧ Dp K H x d
  | _, _, _, _, .nil, h => by simp at h
  | _, _, 0, _, .cons a _, h => by
    simp at h
    subst h
    exact ⟨_, rfl, a⟩
  | _, _, i + 1, _, .cons _ r, h => by
    obtain ⟨d, e, p⟩ := DpAll.to r (i := i) (by simpa using h)
    exact ⟨d, by simpa using e, p⟩
theorem DpAll.app : ∀ {xs : List V} {ds : List PyData} {ys : List V} {es : List PyData}, DpAll K H xs ds → DpAll K H ys es → DpAll K H (xs ++ ys) (ds ++ es)
  | _, _, _, _, .nil, h => h
  | _, _, _, _, .cons a r, h => .cons a (DpAll.app r h)
theorem DpAll.drop : ∀ {xs : List V} {ds : List PyData} (n : Nat), DpAll K H xs ds → DpAll K H (xs.drop n) (ds.drop n)
  | _, _, 0, h => h
  | _, _, _ + 1, .nil => .nil
  | _, _, n + 1, .cons _ r => DpAll.drop n r
theorem DpAll.take : ∀ {xs : List V} {ds : List PyData} (n : Nat), DpAll K H xs ds → DpAll K H (xs.take n) (ds.take n)
  | _, _, 0, _ => by simp; exact .nil
  | _, _, _ + 1, .nil => .nil
  | _, _, n + 1, .cons a r => .cons a (DpAll.take n r)
/-- ints -/
def dI (ns : List Int) : List PyData := ns.map PyData.int
theorem dp_int {v : V} {i : Int} (h : Dp K H v (.int i)) : v = .int i := by cases h; rfl
theorem dp_bl {v : V} {b : Bool} (h : Dp K H v (.bool b)) : v = .bl b := by cases h; rfl
theorem dp_str {v : V} {x : Str} (h : Dp K H v (.str x)) : v = .str x := by cases h; rfl
theorem dp_non {v : V} (h : Dp K H v .none) : v = .non := by cases h; rfl
theorem dp_tup {v : V} {ds : List PyData} (h : Dp K H v (.tuple ds)) : ∃ a xs, v = .ref a ∧ SqT K H a xs ∧ DpAll K H xs ds := by cases h with | tup a b => exact ⟨_, _, rfl, a, b⟩
theorem dp_lst {v : V} {ds : List PyData} (h : Dp K H v (.list ds)) : ∃ a xs, v = .ref a ∧ SqL K H a xs ∧ DpAll K H xs ds := by cases h with | lst a b => exact ⟨_, _, rfl, a, b⟩
theorem dpi : ∀ {xs : List V} {ns : List Int}, DpAll K H xs (dI ns) → xs = ns.map V.int
  | _, [], .nil => rfl
  | _, n :: ns, .cons a r => by rw [dp_int a, dpi r]; rfl
theorem dpi_of : ∀ {ns : List Int}, DpAll K H (ns.map V.int) (dI ns)
  | [] => .nil
  | _ :: _ => .cons (.int _) dpi_of
theorem dpT {a : Addr} {xs : List V} {ds : List PyData} (h : H a = some (.tup xs)) (k : DpAll K H xs ds) : Dp K H (.ref a) (.tuple ds) := .tup (SqT.of h) k
theorem dpL {a : Addr} {xs : List V} {ds : List PyData} (h : H a = some (.lst xs)) (k : DpAll K H xs ds) : Dp K H (.ref a) (.list ds) := .lst (SqL.of h) k
theorem ext_dpN {v : V} {d : PyData} {p : Addr} {o : HO} (h : H p = none) (k : Dp K H v d) : Dp K (upd H p o) v d := ext_dp (Ext.new (Ext.refl _) h) k
/-- a tuple of ints, a list of ints -/
def tI (ns : List Int) : PyData := .tuple (dI ns)
def lI (ns : List Int) : PyData := .list (dI ns)
theorem dp_tI {v : V} {ns : List Int} (h : Dp K H v (tI ns)) : ∃ a, v = .ref a ∧ SqT K H a (ns.map V.int) := by
  obtain ⟨a, xs, e, h1, h2⟩ := dp_tup h
  rw [dpi h2] at h1
  exact ⟨a, e, h1⟩
theorem dp_lI {v : V} {ns : List Int} (h : Dp K H v (lI ns)) : ∃ a, v = .ref a ∧ SqL K H a (ns.map V.int) := by
  obtain ⟨a, xs, e, h1, h2⟩ := dp_lst h
  rw [dpi h2] at h1
  exact ⟨a, e, h1⟩
theorem tI_of {a : Addr} {ns : List Int} (h : SqT K H a (ns.map V.int)) : Dp K H (.ref a) (tI ns) := .tup h dpi_of
theorem lI_of {a : Addr} {ns : List Int} (h : SqL K H a (ns.map V.int)) : Dp K H (.ref a) (lI ns) := .lst h dpi_of
end

/-! ### plain values -/
mutual
def noL : PyData → Bool
  | .list _ => false
  | .tuple ds => noLs ds
  | .dict _ => false
  | _ => true
def noLs : List PyData → Bool
  | [] => true
  | d :: ds => noL d && noLs ds
end

theorem ixN_of {n : Nat} {a : Int} (h0 : 0 ≤ a) (h1 : a < n) : ixN n a = some a.toNat := by
  unfold ixN
  rw [if_pos h0, if_pos h1]
theorem at_all {xs : List V} {i : Int} {P : V → Prop} (h : ∀ x ∈ xs, P x) (h0 : 0 ≤ i) (h1 : i < xs.length) : ∃ v, atI xs i = some v ∧ P v := by
  obtain ⟨v, e, g⟩ := at_in h0 h1
  exact ⟨v, e, h v (List.mem_of_getElem? g)⟩
/-- None, a truth, an int, a text: its data -/
def scD : V → PyData
  | .bl b => .bool b
  | .int i => .int i
  | .str z => .str z
  | _ => .none
def isS : V → Bool
  | .bl _ => true
  | .int _ => true
  | .str _ => true
  | .non => true
  | _ => false
theorem sc_dp {K : PySem.W.Frag} {H : Hp} {v : V} (h : isS v = true) : Dp K H v (scD v) := by
  cases v <;> first | constructor | cases h
theorem sc_dps {K : PySem.W.Frag} {H : Hp} : ∀ {vs : List V}, vs.all isS = true → DpAll K H vs (vs.map scD)
  | [], _ => .nil
  | v :: vs, h => by
    simp only [List.all_cons, Bool.and_eq_true] at h
    exact .cons (sc_dp h.1) (sc_dps h.2)
theorem sc_noL {v : V} : noL (scD v) = true := by cases v <;> simp [scD, noL]
/-! ### equality -/
def Sh (n : Nat) (d : PyData) : Prop := d.canLay0 = true ∧ d.depth ≤ n
def ShA (n : Nat) (ds : List PyData) : Prop := PyData.canLayAll0 ds = true ∧ PyData.depthAll ds ≤ n
theorem sh_int {n : Nat} {i : Int} : Sh n (.int i) := ⟨by simp [PyData.canLay0], by simp [PyData.depth]⟩
theorem sh_bl {n : Nat} {i : Bool} : Sh n (.bool i) := ⟨by simp [PyData.canLay0], by simp [PyData.depth]⟩
theorem sh_non {n : Nat} : Sh n .none := ⟨by simp [PyData.canLay0], by simp [PyData.depth]⟩
theorem sh_str {n : Nat} {x : Str} (h : PyData.strOk x = true) : Sh n (.str x) := ⟨by simp [PyData.canLay0, h], by simp [PyData.depth]⟩
theorem sh_tup {n : Nat} {ds : List PyData} (h : ShA n ds) : Sh (n + 1) (.tuple ds) := ⟨by simp [PyData.canLay0, h.1], by simp [PyData.depth, h.2]⟩
theorem sh_lst {n : Nat} {ds : List PyData} (h : ShA n ds) : Sh (n + 1) (.list ds) := ⟨by simp [PyData.canLay0, h.1], by simp [PyData.depth, h.2]⟩
theorem sha_nil {n : Nat} : ShA n [] := ⟨by simp [PyData.canLayAll0], by simp [PyData.depthAll]⟩
theorem sha_cons {n : Nat} {d : PyData} {ds : List PyData} (h : Sh n d) (k : ShA n ds) : ShA n (d :: ds) := ⟨by simp [PyData.canLayAll0, h.1, k.1], by simp only [PyData.depthAll]; exact Nat.max_le.mpr ⟨h.2, k.2⟩⟩
theorem sha_of {n : Nat} : ∀ {ds : List PyData}, (∀ d ∈ ds, Sh n d) → ShA n ds
  | [], _ => sha_nil
  | _ :: _, h => sha_cons (h _ List.mem_cons_self) (sha_of fun d z => h d (List.mem_cons_of_mem _ z))
theorem sha_dI {n : Nat} (ns : List Int) : ShA n (dI ns) := sha_of fun d z => by
  obtain ⟨i, _, rfl⟩ := List.mem_map.mp z
  exact sh_int
theorem Sh.mono {n m : Nat} {d : PyData} (h : Sh n d) (k : n ≤ m) : Sh m d := ⟨h.1, Nat.le_trans h.2 k⟩
theorem ShA.mono {n m : Nat} {d : List PyData} (h : ShA n d) (k : n ≤ m) : ShA m d := ⟨h.1, Nat.le_trans h.2 k⟩
theorem shd {d : PyData} (h : Sh 64 d) : SeqAt.shaped d = true := by unfold SeqAt.shaped; simp [h.1, h.2]
section
variable {K : PySem.W.Frag} {H : Hp} {x y : V} {d : PyData} {Q : VK}
theorem eqv_self (h : SeqAt.shaped d = true) : PyData.eqv d d = true := SeqAt.eqv_refl d (SeqAt.canLay_of_shaped h)
theorem i_eqSelf (h1 : Dp K H x d) (h2 : Dp K H y d) (h : SeqAt.shaped d = true) (k : Q (.bl true) H) : rEqD K x y H Q := ⟨d, d, h1, h2, h, h, by rw [eqv_self h]; exact k⟩
theorem i_neSelf (h1 : Dp K H x d) (h2 : Dp K H y d) (h : SeqAt.shaped d = true) (k : Q (.bl false) H) : rNeD K x y H Q := ⟨d, d, h1, h2, h, h, by rw [eqv_self h]; exact k⟩
theorem i_BB {a b : Bool} {P : Bool → Bool → Prop} (k : P a b) : ∃ x y, V.bl a = .bl x ∧ V.bl b = .bl y ∧ P x y := ⟨a, b, rfl, rfl, k⟩
theorem ints_at : ∀ {xs : List V} {i : Nat} {x : V}, xs.all isI = true → xs[i]? = some x → ∃ n, x = .int n := by
  intro xs i x h e
  exact isI_int (List.all_eq_true.mp h x (List.mem_of_getElem? e))
end

/-! ### data without lists stays where a list changes -/
section
variable {K : PySem.W.Frag} {H : Hp} {D : Addr} {ys zs : List V}
theorem off_st {a : Addr} {xs : List V} (hD : H D = some (.lst ys)) (h : SqT K H a xs) : SqT K (upd H D (.lst zs)) a xs := by
  rcases h with (h | ⟨o, h⟩) | h
  · exact .inl (.inl (up_ne (ne_of h hD nofun) h))
  · exact .inl (.inr ⟨o, up_ne (ne_of h hD nofun) h⟩)
  · exact .inr h
mutual
theorem off_dp (hD : H D = some (.lst ys)) : ∀ {v : V} {d : PyData}, noL d = true → Dp K H v d → Dp K (upd H D (.lst zs)) v d
  | _, _, _, .non => .non
  | _, _, _, .bl b => .bl b
  | _, _, _, .int i => .int i
  | _, _, _, .str x => .str x
  | _, _, n, .lst h a => by unfold noL at n; cases n
  | _, _, n, .tup h a => .tup (off_st hD h) (off_dps hD (by unfold noL at n; exact n) a)
theorem off_dps (hD : H D = some (.lst ys)) : ∀ {v : List V} {d : List PyData}, noLs d = true → DpAll K H v d → DpAll K (upd H D (.lst zs)) v d
  | _, _, _, .nil => .nil
  | _, _, n, .cons a r => .cons (off_dp hD (by unfold noLs at n; exact (Bool.and_eq_true _ _ ▸ n).1) a) (off_dps hD (by unfold noLs at n; exact (Bool.and_eq_true _ _ ▸ n).2) r)
end
end
theorem noLs_app : ∀ {ds es : List PyData}, noLs ds = true → noLs es = true → noLs (ds ++ es) = true
  | [], _, _, h => h
  | d :: ds, es, h, k => by
    simp only [noLs, List.cons_append, Bool.and_eq_true] at h ⊢
    exact ⟨h.1, noLs_app h.2 k⟩
theorem noLs_of : ∀ {ds : List PyData}, (∀ d ∈ ds, noL d = true) → noLs ds = true
  | [], _ => rfl
  | d :: ds, h => by
    simp only [noLs, Bool.and_eq_true]
    exact ⟨h d List.mem_cons_self, noLs_of fun e z => h e (List.mem_cons_of_mem _ z)⟩
theorem noLs_dI (ns : List Int) : noLs (dI ns) = true := noLs_of fun d z => by
  obtain ⟨i, _, rfl⟩ := List.mem_map.mp z
  rfl

/-! ### folds -/
theorem fold_take {α β : Type} {f : β → α → β} {s : β} {ds : List α} {i : Nat} {d : α} (h : ds[i]? = some d) : (ds.take (i + 1)).foldl f s = f ((ds.take i).foldl f s) d := by
  rw [List.take_add_one, h]
  simp
theorem fold_all {α β : Type} {f : β → α → β} {s : β} {ds : List α} {n : Nat} (h : n = ds.length) : (ds.take n).foldl f s = ds.foldl f s := by rw [h, List.take_length]

/-! ### for -/
def AtL (K : PySem.W.Frag) (x : V) (H1 : Hp) (R : It → Hp → Prop) : Prop := ∃ a, x = .ref a ∧ (∃ xs, SqL K H1 a xs) ∧ R (Itl K a) H1
def AtT (K : PySem.W.Frag) (x : V) (H1 : Hp) (R : It → Hp → Prop) : Prop := ∃ a, x = .ref a ∧ (∃ xs, SqT K H1 a xs) ∧ R (Itt K a) H1
def AtR1 (vs : List V) (H1 : Hp) (R : It → Hp → Prop) : Prop := ∃ j : Int, vs = [.int j] ∧ -(2 ^ 62) ≤ j ∧ j < 2 ^ 62 ∧ R (Itr 0 j.toNat) H1
def AtR2 (vs : List V) (H1 : Hp) (R : It → Hp → Prop) : Prop := ∃ i j : Int, vs = [.int i, .int j] ∧ (-(2 ^ 62) ≤ i ∧ i < 2 ^ 62 ∧ -(2 ^ 62) ≤ j ∧ j < 2 ^ 62) ∧ R (Itr i (j - i).toNat) H1
def AtE (K : PySem.W.Frag) (vs : List V) (H1 : Hp) (R : It → Hp → Prop) : Prop := ∃ a xs, vs = [.ref a] ∧ SqL K H1 a xs ∧ R (Ite K a) H1
def AtS (v : V) (H1 : Hp) (R : It → Hp → Prop) : Prop := ∃ x, v = .str x ∧ R (Its x) H1
/-- the turn's end is a letter of which the word is enough -/
def Np (N P : L2.St → Hp → Prop) : Prop := ∀ σ H, P σ H → N σ H
theorem go_np {N P : L2.St → Hp → Prop} {σ : L2.St} {H : Hp} (h : Np N P) (k : P σ H) : N σ H := h σ H k
def LoopR (J : It) (g : TG) (tb : TS) (D : Ends) (σ : L2.St) (H : Hp) : Prop := ∃ W : Nat → Nat → L2.St → Hp → Prop, (∃ m, W 0 m σ H) ∧ ∀ i m σ H, W i m σ H →
  (J.stop i H ∧ D.nx σ H) ∨ (J.go i H ∧ ∃ N : L2.St → Hp → Prop, (∀ σ' H', N σ' H' → ∃ m', m' < m ∧ W (i + 1) m' σ' H') ∧ ∀ x H', J.yld i H x H' → g x σ H' fun σ2 H2 => tb { D with nx := N, ct := N, bk := D.nx } σ2 H2)
section
variable {K : PySem.W.Frag} {σ : L2.St} {H : Hp} {Q : VK} {D : Ends} {g : TG} {tb : TS} {wi : TI} {tl : TE} {ta : TA} {R : It → Hp → Prop} {a b : Addr} {xs ys : List V} {n m : Int}
theorem i_for (k : wi σ H fun J H1 => LoopR J g tb D σ H1) : tFor wi g tb D σ H := k
theorem i_iList (k : tl σ H fun x H1 => AtL K x H1 R) : iList K tl σ H R := k
theorem i_iTup (k : tl σ H fun x H1 => AtT K x H1 R) : iTup K tl σ H R := k
theorem i_iRng1 (k : ta σ H fun vs H1 => AtR1 vs H1 R) : iRng1 ta σ H R := k
theorem i_iRng2 (k : ta σ H fun vs H1 => AtR2 vs H1 R) : iRng2 ta σ H R := k
theorem i_iEnum (k : ta σ H fun vs H1 => AtE K vs H1 R) : iEnum K ta σ H R := k
theorem i_iStr (k : tl σ H fun v H1 => AtS v H1 R) : iStr tl σ H R := k
theorem at_list (h : SqL K H a xs) (k : R (Itl K a) H) : AtL K (.ref a) H R := ⟨a, rfl, ⟨xs, h⟩, k⟩
theorem at_tup (h : SqT K H a xs) (k : R (Itt K a) H) : AtT K (.ref a) H R := ⟨a, rfl, ⟨xs, h⟩, k⟩
theorem at_rng1 (h1 : -(2 ^ 62) ≤ n) (h2 : n < 2 ^ 62) (k : R (Itr 0 n.toNat) H) : AtR1 [.int n] H R := ⟨n, rfl, h1, h2, k⟩
theorem at_rng2 (h : -(2 ^ 62) ≤ n ∧ n < 2 ^ 62 ∧ -(2 ^ 62) ≤ m ∧ m < 2 ^ 62) (k : R (Itr n (m - n).toNat) H) : AtR2 [.int n, .int m] H R := ⟨n, m, rfl, h, k⟩
theorem at_enum (h : SqL K H a xs) (k : R (Ite K a) H) : AtE K [.ref a] H R := ⟨a, xs, rfl, h, k⟩
theorem at_str {z : Str} (k : R (Its z) H) : AtS (.str z) H R := ⟨z, rfl, k⟩
/-- the loop by a word -/
theorem loop_it {J : It} {n : Nat} {G : Hp → Prop} {Y : Nat → Hp → V → Hp → Prop} (w : Walk J n G Y) (Pv : Nat → L2.St → Hp → Prop) (h0 : Pv 0 σ H) (hG : ∀ i σ H, i ≤ n → Pv i σ H → G H)
    (hs : ∀ i x σ H H', i < n → Pv i σ H → Y i H x H' → g x σ H' fun σ2 H2 => tb { D with nx := Pv (i + 1), ct := Pv (i + 1), bk := D.nx } σ2 H2) (hd : ∀ σ H, Pv n σ H → D.nx σ H) : LoopR J g tb D σ H := for_it w Pv h0 hG hs hd
theorem loop_L (Pv : Nat → L2.St → Hp → Prop) (h0 : Pv 0 σ H) (hG : ∀ i σ H, i ≤ xs.length → Pv i σ H → SqL K H a xs)
    (hs : ∀ i x σ H N, xs[i]? = some x → Pv i σ H → Np N (Pv (i + 1)) → g x σ H fun σ2 H2 => tb { D with nx := N, ct := N, bk := D.nx } σ2 H2) (hd : ∀ σ H, Pv xs.length σ H → D.nx σ H) : LoopR (Itl K a) g tb D σ H :=
  for_it walk_list Pv h0 hG (fun i x σ H H' _ p y => by obtain ⟨rfl, e⟩ := y; exact hs i x σ _ _ e p (fun _ _ h => h)) hd
theorem loop_T (Pv : Nat → L2.St → Hp → Prop) (h0 : Pv 0 σ H) (hG : ∀ i σ H, i ≤ xs.length → Pv i σ H → SqT K H a xs)
    (hs : ∀ i x σ H N, xs[i]? = some x → Pv i σ H → Np N (Pv (i + 1)) → g x σ H fun σ2 H2 => tb { D with nx := N, ct := N, bk := D.nx } σ2 H2) (hd : ∀ σ H, Pv xs.length σ H → D.nx σ H) : LoopR (Itt K a) g tb D σ H :=
  for_it walk_tup Pv h0 hG (fun i x σ H H' _ p y => by obtain ⟨rfl, e⟩ := y; exact hs i x σ _ _ e p (fun _ _ h => h)) hd
theorem loop_R {lo : Int} {n : Nat} (Pv : Nat → L2.St → Hp → Prop) (h0 : Pv 0 σ H)
    (hs : ∀ i σ H N, i < n → Pv i σ H → Np N (Pv (i + 1)) → g (.int (lo + i)) σ H fun σ2 H2 => tb { D with nx := N, ct := N, bk := D.nx } σ2 H2) (hd : ∀ σ H, Pv n σ H → D.nx σ H) : LoopR (Itr lo n) g tb D σ H :=
  for_it walk_range Pv h0 (fun _ _ _ _ _ => trivial) (fun i x σ H H' hi p y => by obtain ⟨rfl, rfl⟩ := y; exact hs i σ _ _ hi p (fun _ _ h => h)) hd
theorem loop_S {z : Str} (Pv : Nat → L2.St → Hp → Prop) (h0 : Pv 0 σ H)
    (hs : ∀ i c σ H N, z.cps[i]? = some c → Pv i σ H → Np N (Pv (i + 1)) → g (.str ⟨#[c]⟩) σ H fun σ2 H2 => tb { D with nx := N, ct := N, bk := D.nx } σ2 H2) (hd : ∀ σ H, Pv z.cps.size σ H → D.nx σ H) : LoopR (Its z) g tb D σ H :=
  for_it walk_str Pv h0 (fun _ _ _ _ _ => trivial) (fun i x σ H H' hi p y => by obtain ⟨rfl, c, e, rfl⟩ := y; exact hs i c σ _ _ e p (fun _ _ h => h)) hd
end

/-! ### comprehensions -/
def LcR (J : It) (g : TG) (tt : TT) (te : TE) (vs : List Nat) (σ : L2.St) (H1 : Hp) (D : Addr) (Q : VK) : Prop := ∃ W : Nat → Nat → Hp → Prop, (∃ m, W 0 m (upd H1 D (.lst []))) ∧ ∀ i m H, W i m H →
  (J.stop i H ∧ Q (.ref D) H) ∨ (J.go i H ∧ ∃ Nx : Hp → Prop, (∀ H', Nx H' → ∃ m', m' < m ∧ W (i + 1) m' H') ∧ ∀ x H', J.yld i H x H' → g x (wipe σ vs) H' fun σ2 H2 => wipe σ2 vs = wipe σ vs ∧ tt σ2 H2 fun b H3 =>
    if b = true then te σ2 H3 fun y H4 => ∃ acc, H4 D = some (.lst acc) ∧ acc.length < sizeLine ∧ Nx (upd H4 D (.lst (acc ++ [y]))) else Nx H3)
section
variable {K : PySem.W.Frag} {σ : L2.St} {H H1 : Hp} {Q : VK} {g : TG} {tt : TT} {te : TE} {wi : TI} {vs : List Nat} {a : Addr} {xs : List V} {ds : List PyData}
theorem i_lc (k : wi σ H fun J H1 => ∀ D, H1 D = none → LcR J g tt te vs σ H1 D Q) : tLc wi g tt te vs σ H Q := k
/-- a comprehension whose turns give data; Pv: what is known of the data so far -/
theorem lc_dat {J : It} {n : Nat} {G : Hp → Prop} {Y : Nat → Hp → V → Hp → Prop} (w : Walk J n G Y) (hn : n ≤ 100000) (hG : ∀ H', Ext H1 H' → G H') (Pv : Nat → List PyData → Prop) (h0 : Pv 0 [])
    (hs : ∀ i x Hc Hx ds, i < n → Ext H1 Hc → Y i Hc x Hx → Pv i ds → ∀ (Y1 : VK) (N1 : Hp → Prop), (∀ y H4 d, Pv (i + 1) (ds ++ [d]) → noL d = true → Ext Hc H4 → Dp K H4 y d → Y1 y H4) → (∀ H4, Pv (i + 1) ds → Ext Hc H4 → N1 H4) →
      g x (wipe σ vs) Hx fun σ2 H2 => wipe σ2 vs = wipe σ vs ∧ tt σ2 H2 fun b H3 => if b = true then te σ2 H3 Y1 else N1 H3)
    (hd : ∀ D Hf ys ds, H1 D = none → Ext H1 Hf → Hf D = some (.lst ys) → DpAll K Hf ys ds → Pv n ds → Q (.ref D) Hf) : ∀ D, H1 D = none → LcR J g tt te vs σ H1 D Q := by
  intro D hD
  refine lc_it w (Qd := Q (.ref D)) (fun i Hc => Ext H1 Hc ∧ ∃ ys ds, Hc D = some (.lst ys) ∧ DpAll K Hc ys ds ∧ noLs ds = true ∧ ds.length ≤ i ∧ Pv i ds) ⟨Ext.new (Ext.refl _) hD, [], [], upd_same, .nil, rfl, Nat.le_refl _, h0⟩ (fun i Hc _ h => hG Hc h.1) ?_ ?_
  · rintro i x Hc Hx hi ⟨e, ys, ds, hy, al, nl, ll, p⟩ y
    refine hs i x Hc Hx ds hi e y p _ _ (fun y H4 d pd ld e4 hd' => ?_) (fun H4 pd e4 => ?_)
    · have e5 : Ext H1 H4 := e.trans e4
      have l1 := DpAll.len al
      refine ⟨ys, e4 _ _ hy, szl (by omega), e5.mut hD, ys ++ [y], ds ++ [d], upd_same, ?_, noLs_app nl (by simp [noLs, ld]), by simp; omega, pd⟩
      exact DpAll.app (off_dps (e4 _ _ hy) nl (ext_dps e4 al)) (.cons (off_dp (e4 _ _ hy) ld hd') .nil)
    · exact ⟨e.trans e4, ys, ds, e4 _ _ hy, ext_dps e4 al, nl, by omega, pd⟩
  · rintro Hc ⟨e, ys, ds, hy, al, nl, ll, p⟩
    exact hd D Hc ys ds hD e hy al p
/-- .. each turn's data told by its number -/
theorem lc_pure {J : It} {n : Nat} {G : Hp → Prop} {Y : Nat → Hp → V → Hp → Prop} (w : Walk J n G Y) (hn : n ≤ 100000) (hG : ∀ H', Ext H1 H' → G H') (f : Nat → Option PyData) (hf : ∀ i d, i < n → f i = some d → noL d = true)
    (hs : ∀ i x Hc Hx, i < n → Ext H1 Hc → Y i Hc x Hx → ∀ (Y1 : VK) (N1 : Hp → Prop), (∀ y H4 d, f i = some d → Ext Hc H4 → Dp K H4 y d → Y1 y H4) → (∀ H4, f i = none → Ext Hc H4 → N1 H4) →
      g x (wipe σ vs) Hx fun σ2 H2 => wipe σ2 vs = wipe σ vs ∧ tt σ2 H2 fun b H3 => if b = true then te σ2 H3 Y1 else N1 H3)
    (hd : ∀ D Hf ys, H1 D = none → Ext H1 Hf → Hf D = some (.lst ys) → DpAll K Hf ys ((List.range n).filterMap f) → Q (.ref D) Hf) : ∀ D, H1 D = none → LcR J g tt te vs σ H1 D Q := by
  have step : ∀ i, (List.range (i + 1)).filterMap f = (List.range i).filterMap f ++ (match f i with | some d => [d] | none => []) := fun i => by
    rw [List.range_succ, List.filterMap_append]
    congr 1
    cases q : f i <;> simp [List.filterMap_cons, q]
  refine lc_dat w hn hG (fun i ds => ds = (List.range i).filterMap f) (by simp) (fun i x Hc Hx ds hi e y p Y1 N1 k1 k2 => ?_) (fun D Hf ys ds hD e hy al p => hd D Hf ys hD e hy (p ▸ al))
  exact hs i x Hc Hx hi e y Y1 N1 (fun y H4 d fd e4 hd' => k1 y H4 d (by rw [step, fd, p]) (hf i d hi fd) e4 hd') (fun H4 fd e4 => k2 H4 (by rw [step, fd, p]; simp) e4)
theorem range_bind {α β : Type} (f : α → Option β) : ∀ ns : List α, (List.range ns.length).filterMap (fun i => (ns[i]?).bind f) = ns.filterMap f
  | [] => rfl
  | n :: ns => by
    rw [List.length_cons, List.range_succ_eq_map, List.filterMap_cons, List.filterMap_map]
    have ih := range_bind f ns
    have e : ((fun i => ((n :: ns)[i]?).bind f) ∘ Nat.succ) = fun i => (ns[i]?).bind f := by
      funext i
      simp
    rw [e, ih, List.filterMap_cons]
    simp
/-- over a tuple of ints -/
theorem lc_intsT {ns : List Int} (hq : SqT K H1 a (ns.map V.int)) (hn : ns.length ≤ 100000) (f : Int → Option PyData) (hf : ∀ n d, n ∈ ns → f n = some d → noL d = true)
    (hs : ∀ n Hc, n ∈ ns → Ext H1 Hc → ∀ (Y1 : VK) (N1 : Hp → Prop), (∀ y H4 d, f n = some d → Ext Hc H4 → Dp K H4 y d → Y1 y H4) → (∀ H4, f n = none → Ext Hc H4 → N1 H4) →
      g (.int n) (wipe σ vs) Hc fun σ2 H2 => wipe σ2 vs = wipe σ vs ∧ tt σ2 H2 fun b H3 => if b = true then te σ2 H3 Y1 else N1 H3)
    (hd : ∀ D Hf ys, H1 D = none → Ext H1 Hf → Hf D = some (.lst ys) → DpAll K Hf ys (ns.filterMap f) → Q (.ref D) Hf) : ∀ D, H1 D = none → LcR (Itt K a) g tt te vs σ H1 D Q := by
  refine lc_pure (K := K) walk_tup (by rw [List.length_map]; exact hn) (fun H' e => ext_st e hq) (fun i => (ns[i]?).bind f) ?_ ?_ ?_
  · intro i d _ z
    cases hm : ns[i]? with
    | none => rw [hm] at z; cases z
    | some m => rw [hm] at z; exact hf m d (List.mem_of_getElem? hm) z
  · rintro i u Hc Hx _ ec ⟨rfl, hu⟩ Y1 N1 y1 n1
    rw [List.getElem?_map] at hu
    obtain ⟨m, hm, rfl⟩ := Option.map_eq_some_iff.mp hu
    rw [hm] at y1 n1
    exact hs m _ (List.mem_of_getElem? hm) ec Y1 N1 y1 n1
  · intro D Hf ys nD e hD al
    rw [List.length_map, range_bind] at al
    exact hd D Hf ys nD e hD al
/-- over a list of ints -/
theorem lc_intsL {ns : List Int} (hq : SqL K H1 a (ns.map V.int)) (hn : ns.length ≤ 100000) (f : Int → Option PyData) (hf : ∀ n d, n ∈ ns → f n = some d → noL d = true)
    (hs : ∀ n Hc, n ∈ ns → Ext H1 Hc → ∀ (Y1 : VK) (N1 : Hp → Prop), (∀ y H4 d, f n = some d → Ext Hc H4 → Dp K H4 y d → Y1 y H4) → (∀ H4, f n = none → Ext Hc H4 → N1 H4) →
      g (.int n) (wipe σ vs) Hc fun σ2 H2 => wipe σ2 vs = wipe σ vs ∧ tt σ2 H2 fun b H3 => if b = true then te σ2 H3 Y1 else N1 H3)
    (hd : ∀ D Hf ys, H1 D = none → Ext H1 Hf → Hf D = some (.lst ys) → DpAll K Hf ys (ns.filterMap f) → Q (.ref D) Hf) : ∀ D, H1 D = none → LcR (Itl K a) g tt te vs σ H1 D Q := by
  refine lc_pure (K := K) walk_list (by rw [List.length_map]; exact hn) (fun H' e => ext_sl e hq) (fun i => (ns[i]?).bind f) ?_ ?_ ?_
  · intro i d _ z
    cases hm : ns[i]? with
    | none => rw [hm] at z; cases z
    | some m => rw [hm] at z; exact hf m d (List.mem_of_getElem? hm) z
  · rintro i u Hc Hx _ ec ⟨rfl, hu⟩ Y1 N1 y1 n1
    rw [List.getElem?_map] at hu
    obtain ⟨m, hm, rfl⟩ := Option.map_eq_some_iff.mp hu
    rw [hm] at y1 n1
    exact hs m _ (List.mem_of_getElem? hm) ec Y1 N1 y1 n1
  · intro D Hf ys nD e hD al
    rw [List.length_map, range_bind] at al
    exact hd D Hf ys nD e hD al
end

/-! ### more built-in functions -/
def rSumT (K : PySem.W.Frag) : List V → Hp → VK → Prop := fun vs H Q => ∃ (a : Addr) (ns : List Int), vs = [V.ref a] ∧ SqT K H a (ns.map V.int) ∧ Q (.int ns.sum) H
open PySem.Spec PyProof.Rows PyProof.V in
theorem cr_sumT {X : Cx} (hc : X.calm = true) : CallR X (.builtin "sum") (rSumT X.K) := by
  intro pins s σ H vs us Q I r h
  obtain ⟨a, ns, rfl, hs, q⟩ := h
  obtain ⟨its, rv, hl, _⟩ := I.tuple hs
  rw [Vals.ref1 r]
  have hi := rv.ints
  obtain ⟨xs, e⟩ := hi.allInts.items
  have hn : numsOf (intItems xs).toList = ns := by rw [← e]; exact hi.numsOf
  rw [nums_intItems] at hn
  rw [e] at hl
  refine PySem.W.ktm_sumG (I.ok.hd hc) hl fun h' tk t' hk => ?_
  rw [preSum_eq, List.take_of_length_le (by simp), hn]
  exact ⟨.int _, H, I.kept hk, ⟨_, rfl⟩, q⟩
/-! ### lists and tuples made of others -/
section
variable {K : PySem.W.Frag} {H : Hp} {Q : VK} {a b l p : Addr} {xs ys : List V} {n : Int} {lo hi : Option Int}
theorem cut_all {xs : List V} (h : HT.sIx xs.length 0 lo = 0 ∧ HT.sIx xs.length xs.length hi = xs.length) : cutV xs lo hi = xs := by
  unfold cutV
  rw [h.1, h.2]
  simp
theorem i_slA (h : SqT K H a xs) (k : ∀ p H2, Ext H H2 → SqT K H2 p (cutV xs lo hi) → Q (.ref p) H2) : rSlA K (.ref a) lo hi H Q :=
  ⟨a, xs, rfl, h, fun e => k a H (Ext.refl _) (by rw [cut_all e]; exact h), fun _ p np => k p _ (Ext.new (Ext.refl _) np) (SqT.of upd_same)⟩
theorem i_slL (h : SqL K H a xs) (k : ∀ p H2, H p = none → Ext H H2 → H2 p = some (.lst (cutV xs lo hi)) → Q (.ref p) H2) : rSlL K (.ref a) lo hi H Q :=
  ⟨a, xs, rfl, h, fun p np => k p _ np (Ext.new (Ext.refl _) np) upd_same⟩
theorem i_catA (h1 : SqT K H a xs) (h2 : SqT K H b ys) (hz : xs.length + ys.length ≤ 100000) (k : ∀ p H2, Ext H H2 → SqT K H2 p (xs ++ ys) → Q (.ref p) H2) : rCatA K (.ref a) (.ref b) H Q :=
  ⟨a, b, xs, ys, rfl, rfl, h1, h2, sz hz, fun e => k b H (Ext.refl _) (by rw [e]; exact h2), fun _ e => k a H (Ext.refl _) (by rw [e, List.append_nil]; exact h1), fun _ _ p np => k p _ (Ext.new (Ext.refl _) np) (SqT.of upd_same)⟩
theorem i_cat (h1 : H a = some (.lst xs)) (h2 : H b = some (.lst ys)) (hz : xs.length + ys.length ≤ 100000) (k : ∀ p H2, H p = none → Ext H H2 → H2 p = some (.lst (xs ++ ys)) → Q (.ref p) H2) : rCat (.ref a) (.ref b) H Q :=
  ⟨a, b, xs, ys, rfl, rfl, h1, h2, sz hz, fun p np => k p _ np (Ext.new (Ext.refl _) np) upd_same⟩
theorem i_rep (h1 : H a = some (.lst xs)) (h2 : -1000 ≤ n ∧ n ≤ 1000) (h3 : xs.length ≤ 100) (k : ∀ p H2, H p = none → Ext H H2 → H2 p = some (.lst (List.replicate n.toNat xs).flatten) → Q (.ref p) H2) : rRep (.ref a) (.int n) H Q :=
  ⟨a, n, xs, rfl, rfl, h1, by omega, by omega, sz (by have : n.toNat ≤ 1000 := by omega
                                                      exact Nat.le_trans (Nat.mul_le_mul h3 this) (by decide)), fun p np => k p _ np (Ext.new (Ext.refl _) np) upd_same⟩
theorem i_sumT {ns : List Int} (h : SqT K H a (ns.map V.int)) (k : Q (.int ns.sum) H) : rSumT K [.ref a] H Q := ⟨a, ns, rfl, h, k⟩
theorem i_sum {ns : List Int} (h : SqL K H a (ns.map V.int)) (k : Q (.int ns.sum) H) : rSum K [.ref a] H Q := ⟨a, ns, rfl, h, k⟩
theorem i_all {bs : List Bool} (h : SqL K H a (bs.map V.bl)) (k : Q (.bl (bs.all id)) H) : rAll K [.ref a] H Q := ⟨a, bs, rfl, h, k⟩
theorem dpb : ∀ {xs : List V} {bs : List Bool}, DpAll K H xs (bs.map PyData.bool) → xs = bs.map V.bl
  | _, [], .nil => rfl
  | _, b :: bs, .cons a r => by rw [dp_bl a, dpb r]; rfl
end
theorem six_pos {m d : Nat} {n : Int} (h : 0 ≤ n) : HT.sIx m d (some n) = min n.toNat m := by
  show (if n < 0 then _ else _) = _
  rw [if_neg (by omega)]
theorem cut_hi {xs : List V} {n : Int} (h : 0 ≤ n) : cutV xs none (some n) = xs.take n.toNat := by
  unfold cutV
  rw [HT.sIx_none, six_pos h, List.drop_zero, Nat.sub_zero]
  by_cases z : n.toNat ≤ xs.length
  · rw [Nat.min_eq_left z]
  · rw [Nat.min_eq_right (by omega), List.take_length, List.take_of_length_le (by omega)]
theorem cut_lo {xs : List V} {n : Int} (h : 0 ≤ n) : cutV xs (some n) none = xs.drop n.toNat := by
  unfold cutV
  rw [HT.sIx_none, six_pos h]
  by_cases z : n.toNat ≤ xs.length
  · rw [Nat.min_eq_left z, List.take_of_length_le (by rw [List.length_drop]; omega)]
  · rw [Nat.min_eq_right (by omega), List.drop_length, List.drop_eq_nil_of_le (by omega)]
    simp
/-! ### rules with the written part as a letter (within a comprehension X is another one) -/
section
variable {X : Cx} {K : PySem.W.Frag}
theorem kw_len (e : X.K = K) : CallR X (.builtin "len") (rLenQ K) := by subst e; exact w_len
theorem kw_list (e : X.K = K) : CallR X (.type "list") (rListOf K) := by subst e; exact w_list
theorem kw_tuple (e : X.K = K) : CallR X (.type "tuple") (rTupOf K) := by subst e; exact w_tuple
theorem kcr_sum (e : X.K = K) (hc : X.calm = true) : CallR X (.builtin "sum") (rSum K) := by subst e; exact cr_sum hc
theorem kcr_sumT (e : X.K = K) (hc : X.calm = true) : CallR X (.builtin "sum") (rSumT K) := by subst e; exact cr_sumT hc
theorem kcr_all (e : X.K = K) (hc : X.calm = true) : CallR X (.builtin "all") (rAll K) := by subst e; exact cr_all hc
theorem kcr_any (e : X.K = K) (hc : X.calm = true) : CallR X (.builtin "any") (rAny K) := by subst e; exact cr_any hc
theorem kcr_max (e : X.K = K) (hc : X.calm = true) : CallR X (.builtin "max") (rMax K) := by subst e; exact cr_max hc
theorem kcr_min (e : X.K = K) (hc : X.calm = true) : CallR X (.builtin "min") (rMin K) := by subst e; exact cr_min hc
theorem kcr_sorted (e : X.K = K) : CallR X (.builtin "sorted") (rSorted K) := by subst e; exact cr_sorted
theorem kcall_isV (e : X.K = K) : CallR X (.builtin "isinstance") (rIsV K) := by subst e; exact call_isV
theorem ksl_list (e : X.K = K) : SlR X (rSlL K) := by subst e; exact sl_list
theorem ksl_tupA (e : X.K = K) : SlR X (rSlA K) := by subst e; exact sl_tupA
theorem kix_list (e : X.K = K) : IxR X (rIxL K) := by subst e; exact ix_list
theorem kix_tup (e : X.K = K) : IxR X (rIxT K) := by subst e; exact ix_tup
theorem kop_eqD (e : X.K = K) (hu : X.A.units + 64 < cLine) : OpR X (compareOp .Eq) (rEqD K) := by subst e; exact op_eqD hu
theorem kop_neD (e : X.K = K) (hu : X.A.units + 64 < cLine) : OpR X (compareOp .NotEq) (rNeD K) := by subst e; exact op_neD hu
theorem kop_catA (e : X.K = K) : OpR X (binaryOp .Add) (rCatA K) := by subst e; exact op_catA
theorem kop_in_seq (e : X.K = K) : OpR X (compareOp .In) (rIn K false) := by subst e; exact op_in_seq
theorem kop_notIn_seq (e : X.K = K) : OpR X (compareOp .NotIn) (rIn K true) := by subst e; exact op_notIn_seq
theorem kpe_fld (ek : X.K = K) {e : Expr} {f : Str} {pos : Pos} {ta : TE} (he : PE X e ta) (hb : attributeBase e f X.env (eval e X.env) = eval e X.env) : PE X (.Attribute e f pos) (tFld K ta f) := by subst ek; exact pe_fld he hb
theorem kpg_tup (ek : X.K = K) {es : List Expr} {k : Nat} {t : TGs} {n : Nat} {pos : Pos} (hc : X.calm = true) (h : PGs X es t) (hn : (assignEach es X.env).length = n := by rfl) (hst : (assignEach es X.env).findIdx? (·.1) = none := by rfl) : PG X (.Tuple es k pos) (gTup K n t) := by subst ek; exact pg_tup hc h hn hst
theorem kpi_list (ek : X.K = K) {tg l : Expr} {tl : TE} (hl : PE X l tl) : PI X tg l (iList K tl) := by subst ek; exact pi_list hl
theorem kpi_tup (ek : X.K = K) {tg l : Expr} {tl : TE} (hl : PE X l tl) : PI X tg l (iTup K tl) := by subst ek; exact pi_tup hl
end
theorem flat_ints (ns : List Int) : (ns.map V.int).all flatV = true := by
  rw [List.all_map]
  exact List.all_eq_true.mpr fun _ _ => rfl
theorem i_inT {K : PySem.W.Frag} {H : Hp} {Q : VK} {p : Addr} {ns : List Int} {m : Int} {neg : Bool} (h : SqT K H p (ns.map V.int)) (k : Q (.bl (if neg then !inV (.int m) (ns.map V.int) else inV (.int m) (ns.map V.int))) H) : rIn K neg (.int m) (.ref p) H Q := ⟨p, _, rfl, .inr h, rfl, flat_ints ns, k⟩
theorem i_inL {K : PySem.W.Frag} {H : Hp} {Q : VK} {p : Addr} {ns : List Int} {m : Int} {neg : Bool} (h : SqL K H p (ns.map V.int)) (k : Q (.bl (if neg then !inV (.int m) (ns.map V.int) else inV (.int m) (ns.map V.int))) H) : rIn K neg (.int m) (.ref p) H Q := ⟨p, _, rfl, .inl h, rfl, flat_ints ns, k⟩
theorem i_sorted {K : PySem.W.Frag} {H : Hp} {Q : VK} {a : Addr} {ns : List Int} (h : SqL K H a (ns.map V.int)) (hn : ns.length < 64) (k : ∀ (ks : List Int) p H2, ks.Perm ns → ks.Pairwise (· ≤ ·) → H p = none → Ext H H2 → H2 p = some (.lst (ks.map V.int)) → Q (.ref p) H2) : rSorted K [.ref a] H Q :=
  ⟨a, ns, rfl, h, hn, fun ks p h1 h2 np => k ks p _ h1 h2 np (Ext.new (Ext.refl _) np) upd_same⟩
end Wp
/-! Several except clauses, each with or without a name. -/
namespace WpT
open PySem PySem.Spec PyProof.Rows L2
/-- one clause: the class, the slot of its name (if it has one), its suite's reading -/
abbrev Cl := Value × Option Nat × (Addr → Value → Option Addr → TS)
/-- behind a suite the name is gone -/
def offD (i : Nat) (D : Ends) : Ends := { nx := fun σ' H' => D.nx (σ'.set i none) H', rt := D.rt, bk := fun σ' H' => D.bk (σ'.set i none) H', ct := fun σ' H' => D.ct (σ'.set i none) H' }
def wCl (K : PySem.W.Frag) (Wout : WX) (D : Ends) : List Cl → WX
  | [] => Wout
  | (c, none, ts) :: r => fun cls d σ H => ∃ b, PySem.W.exmOne K cls c = some b ∧ (b = true → ∀ a, H a = none → ts a cls d D σ H) ∧ (b = false → wCl K Wout D r cls d σ H)
  | (c, some i, ts) :: r => fun cls d σ H => ∃ b, PySem.W.exmOne K cls c = some b ∧ (b = true → ∀ a, H a = none → ts a cls d (offD i D) (σ.set i (some (.ref a))) H) ∧ (b = false → wCl K Wout D r cls d σ H)
inductive Cls' (X : Cx) : List ExceptHandler → List Cl → Prop
  | nil : Cls' X [] []
  | one {x : Str} {c : Value} {ts : Addr → Value → Option Addr → TS} {b0 : Stmt} {suite : List Stmt} {np pos' : Pos} {hds : List ExceptHandler} {l : List Cl} (hc : Names X x c)
      (hsu : ∀ (a : Addr) (oe : Obj) (cls : Value) (d : Option Addr) (pn : List (Addr × Obj)), Zc cls d oe → (∃ vs, oe.data = .fields vs) → PSs (X.suite a ((a, oe) :: pn)) (b0 :: suite) (ts a cls d)) (r : Cls' X hds l) :
      Cls' X (.ExceptHandler (some (.Name x np)) none (b0 :: suite) pos' :: hds) ((c, none, ts) :: l)
  | as {x n : Str} {i : Nat} {c : Value} {ts : Addr → Value → Option Addr → TS} {b0 : Stmt} {suite : List Stmt} {np pos' : Pos} {hds : List ExceptHandler} {l : List Cl} (hN : X.N.Nodup) (hi : X.N[i]? = some n) (hln : X.env.kindOf n = some .local) (hc : Names X x c)
      (hsu : ∀ (a : Addr) (oe : Obj) (cls : Value) (d : Option Addr) (pn : List (Addr × Obj)), Zc cls d oe → (∃ vs, oe.data = .fields vs) → PSs (X.suite a ((a, oe) :: pn)) (b0 :: suite) (ts a cls d)) (r : Cls' X hds l) :
      Cls' X (.ExceptHandler (some (.Name x np)) (some n) (b0 :: suite) pos' :: hds) ((c, some i, ts) :: l)
section
variable {X : Cx} {body : List Stmt} {h0 : ExceptHandler} {hds : List ExceptHandler} {l : List Cl} {pos : Pos} {tb : WX → TS} {Wout : WX}
theorem ps_try_cl (hs : X.stack = X.env :: X.outer) (hf : X.env.frame = some X.env.locals) (tk : Takes X Wout)
    (hb : ∀ (W : WX) (pn : List (Addr × Obj)) (xe : Value → Shared → Prop), Takes (X.tr pn xe) W → PassesOwn (model X.prog X.w) X.A X.env xe → PSs (X.tr pn xe) body (tb W))
    (hh : Cls' X (h0 :: hds) l) : PS X (.Try body (h0 :: hds) [] [] pos) (fun D σ H => tb (wCl X.K Wout D l) D σ H) := by
  refine ⟨fun pins s σ H D I h => ?_⟩
  have ok := I.ok
  have hfr : X.A.frames = some (X.env :: X.outer) := by rw [ok.frames, hs]
  refine wpAny_Try_except ?_
  refine wpAny_mono ((hb (wCl X.K Wout D l) (X.pn ++ pins) (fun e s1 => wpAny (model X.prog X.w) X.A (noteFrame e X.env) (fun _ s2 => wpAny (model X.prog X.w) X.A (setFlight e none) (fun _ s3 =>
    wpAny (model X.prog X.w) X.A (handleBy e X.env (h0 :: hds)) (SP X pins D) X.xe s3) X.xe s2) X.xe s1) (fun u s' xx => ?_) PassesOwn.looking).run [] s σ H D (I.toTry _) h) (fun f s1 hsp => ?_) (fun e s1 he => he)
  · obtain ⟨a, B, sI, pins', σ', H', cls, d, rfl, J', nb, up, sky, na, os, ag, w⟩ := xx
    have J : Inv X pins σ' H' sI := J'.ofTry ok
    have sky' : Sky B (X.env :: X.outer) a (Zc cls d) X.env.locals s'.heap := by rw [← hs]; exact sky
    show wpAny (model X.prog X.w) X.A (noteFrame (.ref a) X.env) _ _ _
    refine Sky.land Zc.steady hfr hf sky' fun h3 fl3 up3 => ?_
    have J3 : Inv X pins σ' H' { s' with heap := h3 } := J.landed nb fl3.1 (up.trans up3) os ag
    obtain ⟨oe3, vs3, he3, hz3, hd3⟩ := fl3.there
    have nfr : a ∉ frs (X.env :: X.outer) := fun hm => by
      obtain ⟨_, o', e', hnf⟩ := fl3.2.2.1.mem hm
      rw [he3] at e'; cases e'
      exact hnf _ hd3
    have nL : a ≠ X.env.locals := fun z => nfr (List.mem_filterMap.mpr ⟨X.env, List.mem_cons_self, by rw [hf, z]⟩)
    have nF : a ∉ X.fs := fun hm => by
      obtain ⟨e, he, q⟩ := List.mem_filterMap.mp hm
      exact nfr (List.mem_filterMap.mpr ⟨e, List.mem_cons_of_mem _ he, q⟩)
    have S3 := J3.suite he3 hd3 na nL nF
    have test : ∀ {x : Str} {c : Value} {np : Pos} {Q : Value → Shared → Prop} {E : Value → Shared → Prop}, Names X x c → Q c { s' with heap := h3 } → wpAny (model X.prog X.w) (X.A.mark (some (.ref a))) (eval (.Name x np) X.env) Q E { s' with heap := h3 } := fun {x c np Q E} hc q => by
      obtain ⟨hg, hdbg, hm | ⟨hm, hv, hnn⟩⟩ := hc
      · exact ld_glob (X := X.suite a ((a, oe3) :: (X.pn ++ pins))) S3 hg hm q hdbg
      · exact ld_blt (X := X.suite a ((a, oe3) :: (X.pn ++ pins))) S3 hg hm hv q hnn hdbg
    have LT : PySem.W.Looks (model X.prog X.w) h3 (typeOf (.ref a)) cls := fun A Q E s k q => wpAny_typeOf_ref (k _ _ he3) (by rw [hz3.1]; exact q)
    have go : ∀ {hs' : List ExceptHandler} {l' : List Cl}, Cls' X hs' l' → wCl X.K Wout D l' cls d σ' H' → wpAny (model X.prog X.w) X.A (handleBy (.ref a) X.env hs') (SP X pins D) X.xe { s' with heap := h3 } := by
      intro hs' l' hk
      induction hk with
      | nil =>
        intro w
        refine wpAny_handleBy_nil ?_
        obtain ⟨k1, k2, k3, oe, vs, T, oT, ts', he, hz, hd, h1, hr⟩ := id fl3
        unfold PySem.passOn
        refine wpAny_bind (wpAny_field he hd h1 ?_)
        rw [if_neg (show ¬ ((Value.ref T == Value.none) = true) from by simp)]
        have fin : wpAny (model X.prog X.w) X.A (setFlight (.ref a) X.env.frame) (fun _ s4 => wpAny (model X.prog X.w) X.A (throw (.ref a) : Sem Flow) (SP X pins D) X.xe s4) X.xe { s' with heap := h3 } := by
          rw [hf]
          refine HandSPX.setFlight_upZ fl3 fun h4 hh4 up4 => wpAny_throw (tk _ _ ?_)
          exact ⟨a, B, sI, pins, σ', H', cls, d, rfl, J, nb, (up.trans up3).trans up4, .inr (.inr (by rw [hs]; exact hh4)), na, os, ag, w⟩
        first
          | exact wpAny_bind (wpAny_pure (wpAny_bind fin))
          | exact wpAny_bind fin
      | one hc hsu r ih =>
        intro w
        obtain ⟨b, hb1, hyes, hno⟩ := w
        refine wpAny_handleBy_cons (codeAny_handlers_test ?_) (by intro q; cases q)
        refine test hc ((PySem.W.exm_one (M := model X.prog X.w) J3.kIn LT hb1).here ?_)
        cases b with
        | false => exact ih (hno rfl)
        | true =>
          refine codeAny_handlers_suite (HandSPX.lands_againZ fl3 fun h4 fl4 up4 => ?_)
          have J4 : Inv X pins σ' H' { s' with heap := h4 } := J.landed nb fl4.1 ((up.trans up3).trans up4) os ag
          obtain ⟨oe4, vs4, he4, hz4, hd4⟩ := fl4.there
          refine wpAny_mono ((hsu a oe4 cls d (X.pn ++ pins) hz4 ⟨_, hd4⟩).run [] _ _ H' _ (J4.suite he4 hd4 na nL nF) (hyes rfl a na)) (fun f s6 hsp => ?_) (fun _ _ z => False.elim z)
          cases f with
          | ret u => obtain ⟨v6, σ6, H6, S6, r6, q6⟩ := hsp; exact ⟨_, _, _, S6.unsuite ok, r6, q6⟩
          | next => obtain ⟨σ6, H6, S6, q6⟩ := hsp; exact ⟨_, _, S6.unsuite ok, q6⟩
          | brk => obtain ⟨σ6, H6, S6, q6⟩ := hsp; exact ⟨_, _, S6.unsuite ok, q6⟩
          | cont => obtain ⟨σ6, H6, S6, q6⟩ := hsp; exact ⟨_, _, S6.unsuite ok, q6⟩
      | @as x n i c ts b0 suite np pos' hds2 l2 hN hi hln hc hsu r ih =>
        intro w
        obtain ⟨b, hb1, hyes, hno⟩ := w
        refine wpAny_handleBy_cons (codeAny_handlers_test ?_) (by intro q; cases q)
        refine test hc ((PySem.W.exm_one (M := model X.prog X.w) J3.kIn LT hb1).here ?_)
        cases b with
        | false => exact ih (hno rfl)
        | true =>
          refine codeAny_handlers_suite_as (HandSPX.lands_againZ fl3 fun h4 fl4 up4 => ?_)
          have J4 : Inv X pins σ' H' { s' with heap := h4 } := J.landed nb fl4.1 ((up.trans up3).trans up4) os ag
          obtain ⟨oe4, vs4, he4, hz4, hd4⟩ := fl4.there
          refine store_ok (X := X.suite a ((a, oe4) :: (X.pn ++ pins))) (v := .ref a) (J4.suite he4 hd4 na nL nF) hN hi (.inl hln) rfl (fun s5 S5 => ?_) (.inr hln)
          refine wpAny_mono ((hsu a oe4 cls d (X.pn ++ pins) hz4 ⟨_, hd4⟩).run [] s5 _ H' _ S5 (hyes rfl a na)) (fun f s6 hsp => ?_) (fun _ _ z => False.elim z)
          have done' : ∀ {σ6 : L2.St} {H6 : Hp} {Q : Shared → Prop}, Inv (X.suite a ((a, oe4) :: (X.pn ++ pins))) [] σ6 H6 s6 → (∀ s7, Inv X pins (σ6.set i none) H6 s7 → Q s7) →
              wpAny (model X.prog X.w) X.A (do bindName X.env n .none; unbindBehindTheSuite X.env n pos') (fun _ s7 => Q s7) X.xe s6 := fun {σ6 H6 Q} S6 hq => gone_ok (S6.unsuite ok) hN hi hln hq
          cases f with
          | ret u => obtain ⟨v6, σ6, H6, S6, r6, q6⟩ := hsp; exact done' S6 fun s7 J7 => ⟨_, _, _, J7, r6, q6⟩
          | next => obtain ⟨σ6, H6, S6, q6⟩ := hsp; exact done' S6 fun s7 J7 => ⟨_, _, J7, q6⟩
          | brk => obtain ⟨σ6, H6, S6, q6⟩ := hsp; exact done' S6 fun s7 J7 => ⟨_, _, J7, q6⟩
          | cont => obtain ⟨σ6, H6, S6, q6⟩ := hsp; exact done' S6 fun s7 J7 => ⟨_, _, J7, q6⟩
    exact go hh w
  · cases f with
    | ret u => obtain ⟨v, σ', H', J', r, q⟩ := hsp; exact ⟨v, σ', H', J'.ofTry ok, r, q⟩
    | next => obtain ⟨σ', H', J', q⟩ := hsp; exact wpAny_execs_nil ⟨σ', H', J'.ofTry ok, q⟩
    | brk => obtain ⟨σ', H', J', q⟩ := hsp; exact ⟨σ', H', J'.ofTry ok, q⟩
    | cont => obtain ⟨σ', H', J', q⟩ := hsp; exact ⟨σ', H', J'.ofTry ok, q⟩
end
end WpT
/-! enumerate(tuple) -/
namespace PySem
open Sem (wp)
open AutoSeq1 (wpAny_loadPart')
theorem meets_enumerate_newU (l : Addr) (items : Array Value) (n : Nat) (dct : Option Addr) (sl : Array (Option Value)) :
    Meets (Builtin.«enumerate.__new__» ⟨[.type "enumerate", .ref l], []⟩) (fun _ R s => s.heap.get? l = some { cls := .type "tuple", dict := dct, data := .seq items n, slots := sl } ∧
      R (.ok (.ret (.ref (s.heap.push { cls := .type "tuple_iterator", data := .fields #[.ref l, .int 0 0] }).objs.size)))
        { s with heap := (s.heap.push { cls := .type "tuple_iterator", data := .fields #[.ref l, .int 0 0] }).push { cls := .type "enumerate", data := .fields #[.none, .bool false, .ref s.heap.objs.size, rawInt 0, .none, .none] } }) :=
  .of_wp fun prog w A R s h => by
    obtain ⟨hp, g, d, tk, os⟩ := s; obtain ⟨hl, h⟩ := h
    have hsub := sub_enumerate
    have hL : Heap.IsTuple (Shared.heap ⟨hp, g, d, tk, os⟩) l items := ⟨_, hl, rfl, n, rfl⟩
    wp_walk using wpAny_loadPart' hl
    refine wpAny_stack_any fun st => wpAny_pure ?_
    split
    · rename_i c _ _ _ _ _
      cases (c == Value.type "enumerate")
      · wp_walk using wpAny_loadPart' hl, wpAny_pyIter_tuple hL
        exact ⟨_, rfl, h⟩
      · wp_walk using wpAny_loadPart' hl, wpAny_pyIter_tuple hL
        exact ⟨_, rfl, h⟩
    · wp_walk using wpAny_loadPart' hl, wpAny_pyIter_tuple hL
      exact ⟨_, rfl, h⟩
section
variable {prog : Program} {w : World} {A : Around} {E : Value → Shared → Prop} {s : Shared}
theorem call_enumerate_tuple {l : Addr} {items : Array Value} {Q : Value → Shared → Prop} (hL : s.heap.IsTuple l items)
    (h : ∀ h', IsEnum h' (s.heap.objs.size + 1) s.heap.objs.size 0 .none → h'.IsTupleIter s.heap.objs.size l 0 → h'.objs.size = s.heap.objs.size + 2 →
      (∀ b o, s.heap.get? b = some o → h'.get? b = some o) → Q (.ref (s.heap.objs.size + 1)) { s with heap := h' }) :
    wpAny (model prog w) A (call (.type "enumerate") [.ref l]) Q E s := by
  obtain ⟨⟨c, dct, dt, sl⟩, hl, hc, n, hd⟩ := hL
  replace hc : c = .type "tuple" := hc
  replace hd : dt = .seq items n := hd
  subst hc hd
  refine callType_new F.called_enumerate (by decide) (F.typeCall_enumerate_1 _) (F.newCall_enumerate_1 _) (fun obj => F.args_object_init_2 obj _) F.entry_enumerate_new
    (meets_enumerate_newU l items n dct sl) ⟨hl, ?_⟩
  have hz : (s.heap.push { cls := .type "tuple_iterator", data := .fields #[.ref l, .int 0 0] }).objs.size = s.heap.objs.size + 1 := Heap.size_push ..
  show _ ∧ _
  rw [hz]
  have he : IsEnum ((s.heap.push { cls := .type "tuple_iterator", data := .fields #[.ref l, .int 0 0] }).push
      { cls := .type "enumerate", data := .fields #[.none, .bool false, .ref s.heap.objs.size, rawInt 0, .none, .none] }) (s.heap.objs.size + 1) s.heap.objs.size 0 .none := by
    have := Heap.get?_push_size (s.heap.push { cls := .type "tuple_iterator", data := .fields #[.ref l, .int 0 0] })
      (o := { cls := .type "enumerate", data := .fields #[.none, .bool false, .ref s.heap.objs.size, rawInt 0, .none, .none] }) rfl
    rw [hz] at this; exact this
  refine ⟨⟨_, he, rfl⟩, h _ he ⟨_, Heap.get?_push_of_some _ (Heap.get?_push_size _ rfl), rfl, rfl⟩ (by rw [Heap.size_push, hz]) fun b o x => Heap.get?_push_of_some _ (Heap.get?_push_of_some _ x)⟩
end
end PySem
namespace L2
open PySem PySem.Spec PyProof.Rows
/-- the tuple at a, each item in a new pair -/
def IteT (K : PySem.W.Frag) (a : Addr) : It :=
  ⟨fun i H => ∃ (xs : List V) (x : V), SqT K H a xs ∧ xs[i]? = some x, fun i H v H' => ∃ T x, v = .ref T ∧ H T = none ∧ H' = upd H T (.tup [.int (i : Nat), x]) ∧ ∀ xs, SqT K H a xs → xs[i]? = some x, fun i H => ∃ xs : List V, SqT K H a xs ∧ xs.length = i⟩
theorem turn_enumT {P : Program} {w : World} {K : PySem.W.Frag} {elts : List Expr} {kk : Nat} {tpos : Pos} (a e it : Addr) :
    Turn P w K (.Tuple elts kk tpos) (IteT K a) [e, it] e (fun i h => (∃ old, IsEnum h e it ((i : Nat) : Int) old) ∧ h.IsTupleIter it a i ∧ e ≠ it) where
  mem := by simp
  obj := fun i h st b hb => by
    obtain ⟨⟨old, he⟩, ⟨o, ho, hc, hd⟩, _⟩ := st
    have e' : b = e ∨ b = it := by simpa using hb
    rcases e' with z | z
    · rw [z]; exact ⟨_, he, fun v q => nomatch q⟩
    · rw [z]; exact ⟨o, ho, fun v q => by rw [hd] at q; cases q⟩
  keep := fun i h h' st k => let ⟨⟨old, he⟩, hi, hne⟩ := st; ⟨⟨old, k e (by simp) _ he⟩, hi.at fun o q => k it (by simp) o q, hne⟩
  item := by
    intro X hP hw hK hc i pins s σ H E I hf st hg
    subst hP hw hK
    obtain ⟨⟨old, he⟩, hit, hne⟩ := st
    obtain ⟨xs, x, hq, hx⟩ := hg
    obtain ⟨its, rv, p, hz⟩ := I.tuple hq
    obtain ⟨u, hu, ru⟩ := rv.get hx
    have hel : e < s.heap.objs.size := Heap.lt_size he
    have hil : it < s.heap.objs.size := by obtain ⟨_, q, _⟩ := hit; exact Heap.lt_size q
    have hta : a ≠ it := by
      obtain ⟨o, ho, hcc, _⟩ := p
      obtain ⟨o', ho', hcc', _⟩ := hit
      intro z
      rw [z, ho'] at ho
      cases ho
      rw [hcc'] at hcc
      injection hcc with hcc
      exact absurd hcc (by decide)
    have hea : e ≠ a := by
      obtain ⟨o, ho, hcc, _⟩ := p
      intro z
      rw [← z, show s.heap.get? e = _ from he] at ho
      cases ho
      injection hcc with hcc
      exact absurd hcc (by decide)
    have hi : i < its.toArray.size := by
      have z := (List.getElem?_eq_some_iff.mp hu).1
      simpa using z
    refine wpAny_pyNext_enum_itemD (Draws.tuple (prog := X.prog) (w := X.w) (A := X.A.in1) (I.ok.hd hc) it a hta its.toArray) he ⟨hit, p⟩ hi hne (by simp [hne, hea]) fun x' h' tk hP ho hst hT hsz hk => ?_
    have ex : x' = u := by
      rw [show its.toArray[i]? = its[i]? by simp, hu] at hP
      exact (Option.some.inj hP).symm
    subst ex
    refine ⟨_, rfl, wpAny_letOwnedTupleGo_enum (s := { s with heap := h', toks := tk + 1 }) ho fun h'' he' sb => ?_⟩
    have hT2 : h''.get? s.heap.objs.size = some { cls := .type "tuple", data := .seq #[.int i tk, x'] } := (sb.2 _ (Nat.ne_of_gt hel)).trans hT
    have new : ObjOk X.prog X.w (upd H s.heap.objs.size (.tup [.int (i : Nat), x])) h'' s.heap.objs.size (.tup [.int (i : Nat), x]) :=
      ⟨by show 2 ≤ sizeLine; decide, [.int i tk, x'], .cons ⟨_, rfl⟩ (.cons ru .nil), ⟨_, hT2, rfl, _, rfl⟩⟩
    have I1 : Inv X pins σ (upd H s.heap.objs.size (.tup [.int (i : Nat), x])) { s with heap := h'', toks := tk + 1 } :=
      I.turnedNew (ch := [e, it]) (fun b ob hb q => (sb.2 b (fun z => hb (by simp [z]))).trans (hk b ob (fun z => hb (by simp [z])) (fun z => hb (by simp [z])) q)) hf (Nat.le_refl _) new
    refine ⟨.ref s.heap.objs.size, _, I1, rfl, ⟨_, x, rfl, I.hok.fresh (Nat.le_refl _), rfl, fun ys hy => by rw [I.tuple_inj hy hq]; exact hx⟩, ⟨⟨x', ?_⟩, hst.1.at fun o q => (sb.2 it (Ne.symm hne)).trans q, hne⟩, fun b hb => ?_⟩
    · have e1 : ((i + 1 : Nat) : Int) = (i : Int) + 1 := by omega
      rw [e1]; exact he'
    · have hb' : b < s.heap.objs.size := by
        have e' : b = e ∨ b = it := by simpa using hb
        rcases e' with z | z
        · rw [z]; exact hel
        · rw [z]; exact hil
      rw [upd_ne (Nat.ne_of_lt hb')]
      exact (hf b hb).1
  done := by
    intro X hP hw hK hc i pins s σ H E I hf st hg
    subst hP hw hK
    obtain ⟨⟨old, he⟩, hit, hne⟩ := st
    obtain ⟨xs, hq, hx⟩ := hg
    obtain ⟨its, rv, p, hz⟩ := I.tuple hq
    obtain ⟨f0, f1, f2, f3, f4, f5⟩ := hf it (by simp)
    have hl := rv.length
    have hta : a ≠ it := by
      obtain ⟨o, ho, hcc, _⟩ := p
      obtain ⟨o', ho', hcc', _⟩ := hit
      intro z
      rw [z, ho'] at ho
      cases ho
      rw [hcc'] at hcc
      injection hcc with hcc
      exact absurd hcc (by decide)
    have hn : its.toArray.size = i := by simp; omega
    exact wpAny_pyNext_enum_endD (Draws.tuple (prog := X.prog) (w := X.w) (A := X.A.in1) (I.ok.hd hc) it a hta its.toArray) he ⟨hn ▸ hit, p⟩ fun h' eb => ⟨rfl, I.turned (t' := s.toks) (fun b o hb q => eb b o hb q) f0 f1 f3 f4 f5⟩
  self := fun A i s Q E st h => let ⟨⟨_, he⟩, _⟩ := st; wpAny_pyIter_enum he h
def iEnumT (K : PySem.W.Frag) (ta : TA) : TI := fun σ H R => ta σ H fun vs H1 => ∃ a xs, vs = [.ref a] ∧ SqT K H1 a xs ∧ R (IteT K a) H1
theorem pi_enumT {X : Cx} {e : Expr} {ta : TA} {p pos tpos : Pos} {elts : List Expr} {kk : Nat} (hg : Gl X "enumerate") (hm : X.mg "enumerate" = none) (ha : PA X [e] ta) (hs : starEach [e] X.env = [(false, eval e X.env)] := by rfl) :
    PI X (.Tuple elts kk tpos) (.Call (.Name "enumerate" p) [e] [] pos) (iEnumT X.K ta) := by
  refine ⟨fun pins s σ H R I h => ?_⟩
  refine Call_ (ld_blt I hg hm boot_enumerate (PyProof.Rows.callWith_type1 (thn (ha.run pos pins s σ H _ I h) fun us s1 ⟨vs, H1, I1, r1, q1⟩ => ?_) hs rfl))
  obtain ⟨a, xs, ex, hq, q⟩ := q1
  subst ex
  cases r1 with
  | cons r rr =>
    cases rr
    cases r
    obtain ⟨its, rv, p', hz⟩ := I1.tuple hq
    refine call_enumerate_tuple p' fun h' he hit hsz hk => wpAny_pyIter_enum he ?_
    have I2 : Inv X pins σ H1 { s1 with heap := h' } := I1.kept (t' := s1.toks) hk
    refine ⟨s1.heap.objs.size + 1, [s1.heap.objs.size + 1, s1.heap.objs.size], _, _, H1, rfl, I2, turn_enumT a (s1.heap.objs.size + 1) s1.heap.objs.size, ⟨⟨.none, he⟩, hit, Nat.succ_ne_self _⟩, fun b hb => ?_, q⟩
    have e' : b = s1.heap.objs.size + 1 ∨ b = s1.heap.objs.size := by simpa using hb
    have hle : s1.heap.objs.size ≤ b := by
      rcases e' with z | z
      · rw [z]; exact Nat.le_add_right _ _
      · rw [z]; exact Nat.le_refl _
    exact I1.fpOk hle (I1.hok.fresh hle)
theorem walk_enumT {K : PySem.W.Frag} {a : Addr} {xs : List V} : Walk (IteT K a) xs.length (fun H => SqT K H a xs) (YPair (fun i => some (.int (i : Nat))) (fun i => xs[i]?)) := by
  refine ⟨fun i _ hi q => ⟨xs, xs[i], q, by simp [hi]⟩, fun _ q => ⟨xs, q, rfl⟩, fun i H v H' _ q y => ?_⟩
  obtain ⟨T, x, h1, h2, h3, h4⟩ := y
  exact ⟨T, .int (i : Nat), x, h1, h2, h3, rfl, h4 xs q⟩
end L2
namespace Wp
open PySem L2
section
variable {K : PySem.W.Frag} {σ : L2.St} {H : Hp} {D : Ends} {g : TG} {tb : TS} {ta : TA} {R : It → Hp → Prop} {a : Addr} {xs : List V} {t : TGs} {Qs : L2.St → Hp → Prop} {u : TG} {us : TGs} {v : V} {vs : List V}
def AtET (K : PySem.W.Frag) (vs : List V) (H1 : Hp) (R : It → Hp → Prop) : Prop := ∃ a xs, vs = [.ref a] ∧ SqT K H1 a xs ∧ R (IteT K a) H1
theorem i_iEnumT (k : ta σ H fun vs H1 => AtET K vs H1 R) : iEnumT K ta σ H R := k
theorem at_enumT (h : SqT K H a xs) (k : R (IteT K a) H) : AtET K [.ref a] H R := ⟨a, xs, rfl, h, k⟩
theorem i_gtup {n : Nat} (h : SqT K H a xs) (hl : xs.length = n) (k : t xs σ H Qs) : gTup K n t (.ref a) σ H Qs := ⟨a, xs, rfl, h, hl, k⟩
theorem i_gnil (k : Qs σ H) : gNil [] σ H Qs := ⟨rfl, k⟩
theorem i_gcons (k : u v σ H fun σ' H' => us vs σ' H' Qs) : gCons u us (v :: vs) σ H Qs := ⟨v, vs, rfl, k⟩
/-- for i, x in enumerate(a tuple) -/
theorem loop_ET (Pv : Nat → L2.St → Hp → Prop) (h0 : Pv 0 σ H) (hG : ∀ i σ H, i ≤ xs.length → Pv i σ H → SqT K H a xs)
    (hs : ∀ i x σ H H' p N, xs[i]? = some x → Pv i σ H → H p = none → Ext H H' → H' p = some (.tup [.int i, x]) → (∀ b, b ≠ p → H' b = H b) → Np N (Pv (i + 1)) → g (.ref p) σ H' fun σ2 H2 => tb { D with nx := N, ct := N, bk := D.nx } σ2 H2)
    (hd : ∀ σ H, Pv xs.length σ H → D.nx σ H) : LoopR (IteT K a) g tb D σ H :=
  for_it walk_enumT Pv h0 hG (fun i x σ H H' _ p y => by
    obtain ⟨T, x1, x2, rfl, nT, rfl, e1, e2⟩ := y
    cases e1
    exact hs i x2 σ H _ T _ e2 p nT (Ext.new (Ext.refl _) nT) upd_same (fun b hb => upd_ne hb) (fun _ _ h => h)) hd
end
end Wp
/-! Operators by methods of the program's own classes. -/
namespace Wp
open PySem L2
section
variable {X : Cx} {k : Nat} {f C : Addr} {sp : Sp} {m : Str}
/-- a method called that never raises -/
theorem run_nv {pins : List (Addr × Obj)} {σ : L2.St} {H : Hp} {s : Shared} {Q : VK} {us : List Value} {vs : List V} {R : Result → Shared → Prop} (F : FnR X.prog X.w X.K X.mg X.base (L2.CX X.prog X.w) k f sp) (hr : Room k X.A) (I : Inv X pins σ H s) (r : Vals vs us)
    (h : sp vs H Q (fun _ _ _ => False)) (hq : ∀ v s', EP X pins σ Q v s' → R (.ok (.ret v)) s') : codeAny (model X.prog X.w) X.A (.call (.ref f) ⟨us, []⟩) R s := by
  refine codeAny_mono (F X.A X.stack s H us vs Q (fun _ _ _ => False) hr I.env0 r h) fun r s' z => ?_
  cases r with
  | error e => exact (cx_false z).elim
  | ok fl =>
    cases fl with
    | ret u => exact hq _ _ (I.after z)
    | next => exact False.elim z
    | brk => exact False.elim z
    | cont => exact False.elim z
theorem ref_beq_none (g : Addr) : (Value.ref g == Value.none) = false := by
  first | rfl | decide | (simp [BEq.beq])
/-- x in o, x not in o: by __contains__ of o's class, which answers a truth and raises nothing -/
def rInO (C : Addr) (sp : Sp) (neg : Bool) : R2 := fun x y H Q => ∃ o dx fs, y = .ref o ∧ H o = some (.ins C dx fs) ∧ sp [.ref o, x] H (fun v H' => ∃ b, v = .bl b ∧ Q (.bl (if neg then !b else b)) H') (fun _ _ _ => False)
theorem contains_own {pins : List (Addr × Obj)} {σ : L2.St} {H : Hp} {s : Shared} {o dx : Addr} {fs : List (Str × V)} {x : V} {v : Value} {Q : Bool → Hp → Prop} {R : Bool → Shared → Prop} {E : Value → Shared → Prop}
    (c : Met X.prog X.w X.K X.mg X.base k C "__contains__" f sp) (hr : Room k X.A) (I : Inv X pins σ H s) (rx : RelV x v) (e : H o = some (.ins C dx fs))
    (h : sp [.ref o, x] H (fun v H' => ∃ b, v = .bl b ∧ Q b H') (fun _ _ _ => False)) (hq : ∀ b H' s', Inv X pins σ H' s' → Q b H' → R b s') : wpAny (model X.prog X.w) X.A (contains (.ref o) v) R E s := by
  obtain ⟨mA, O, _, _, _, _⟩ := ins_get I.hok e
  obtain ⟨od, J, _⟩ := O.look
  have L1 : PySem.W.Looks (model X.prog X.w) s.heap (typeOf (.ref o)) (.ref C) := J.type
  have L2 : PySem.W.Looks (model X.prog X.w) s.heap (typeLookup (.ref C) "__contains__") (some (.ref f)) := PySem.W.looks_findIn I.kIn c.mt.at_
  unfold contains
  refine wpAny_holding ?_
  refine wpAny_bind (wpAny_bind (J.type.here ((PySem.W.looks_findIn I.kIn c.mt.at_).here ?_)))
  have n1 : ((some (Value.ref f) == some Value.none) : Bool) = false := by simp [ref_beq_none]
  simp only [n1, Bool.false_eq_true, if_false]
  refine wpAny_bind ?_
  unfold callSpecialUnlessNone?
  refine wpAny_bind (wpAny_bind (J.type.here ((PySem.W.looks_findIn I.kIn c.mt.at_).here (wpAny_holding (wpAny_bind ((PySem.W.bind_fn I.kIn _ (beq_iff_eq.mp c.mt.fn)).here ?_))))))
  simp only [ref_beq_none, Bool.false_eq_true, if_false]
  refine wpAny_bind (wpAny_call (run_nv (us := [.ref o, v]) (vs := [.ref o, x]) c.fn hr I (.cons rfl (.cons rx .nil)) h fun v' s' z => ?_))
  obtain ⟨u, H', I', ru, b, rfl, q⟩ := z
  obtain rfl : v' = Value.bool b := ru
  exact wpAny_pure (wpAny_pure (hq b H' s' I' q))
theorem op_in_own (c : Met X.prog X.w X.K X.mg X.base k C "__contains__" f sp) (hr : Room k X.A) : OpR X (compareOp .In) (rInO C sp false) := by
  intro pins s σ H x y v u Q I rx ry h
  obtain ⟨o, dx, fs, rfl, e, h⟩ := h
  obtain rfl : u = Value.ref o := ry
  exact wpAny_bind (contains_own (Q := fun b H' => Q (.bl b) H') c hr I rx e h fun b H' s' I' q => wpAny_pure ⟨.bl b, H', I', rfl, q⟩)
theorem op_notIn_own (c : Met X.prog X.w X.K X.mg X.base k C "__contains__" f sp) (hr : Room k X.A) : OpR X (compareOp .NotIn) (rInO C sp true) := by
  intro pins s σ H x y v u Q I rx ry h
  obtain ⟨o, dx, fs, rfl, e, h⟩ := h
  obtain rfl : u = Value.ref o := ry
  exact wpAny_bind (contains_own (Q := fun b H' => Q (.bl (!b)) H') c hr I rx e h fun b H' s' I' q => wpAny_pure ⟨.bl (!b), H', I', rfl, q⟩)
/-- what an own method hands back is no NotImplemented -/
theorem back_of {P : Value → Shared → Prop} {z : V} {v : Value} {s' : Shared} (r : RelV z v) (h : P v s') : PySem.W.CmpBack P v s' := by
  cases z with
  | non => cases r; exact h
  | bl b => cases r; exact h
  | int i => obtain ⟨t, rfl⟩ := r; exact h
  | str x => obtain ⟨t, rfl⟩ := r; exact h
  | byt b => obtain ⟨t, rfl⟩ := r; exact h
  | flt b => obtain ⟨t, rfl⟩ := r; exact h
  | ref a => cases r; exact h
  | ty n => cases r; exact h
theorem inst_at {pins : List (Addr × Obj)} {σ : L2.St} {H : Hp} {s : Shared} {a dx : Addr} {fs : List (Str × V)} (I : Inv X pins σ H s) (e : H a = some (.ins C dx fs)) : ∃ ox od, PySem.W.InstAt s.heap a ox C od ∧ ox.data = .plain := by
  obtain ⟨mA, O, _⟩ := ins_get I.hok e
  obtain ⟨od, J, _⟩ := O.look
  exact ⟨_, _, J, rfl⟩
variable {W : WX} {a b : Expr} {pos : Pos} {ta tb : TE}
/-- x op y, both instances of C, by C's own method, which may raise -/
def tBinS (C : Addr) (sp : Sp) (E : L2.St → XK) (ta tb : TE) : TE := fun σ H Q => ta σ H fun x H1 => tb σ H1 fun y H2 => ∃ p dx fs q dy gs, x = .ref p ∧ y = .ref q ∧ H2 p = some (.ins C dx fs) ∧ H2 q = some (.ins C dy gs) ∧ sp [x, y] H2 Q (E σ)
theorem pc_bin {op : Operator} (ha : PE X a ta) (hb : PE X b tb) (c : Met X.prog X.w X.K X.mg X.base k C m f sp) (hm : m = PySem.dunder op.info.2) (sf : PySem.W.selfFirst X.K C = true) (hr : Room k X.A) (tk : Takes X W) : PE X (.BinOp a op b pos) (tBinS C sp (WE W) ta tb) := by
  refine ⟨fun pins s σ H Q I h => ?_⟩
  refine wpAny_BinOp (thn (ha.run pins s σ H _ I h) fun v s1 ⟨x, H1, I1, r1, q1⟩ => thn (hb.run pins s1 σ H1 _ I1 q1) fun u s2 ⟨y, H2, I2, r2, q2⟩ => ?_)
  obtain ⟨p, dx, fs, q, dy, gs, rfl, rfl, ep, eq, hs⟩ := q2
  obtain rfl : v = Value.ref p := r1
  obtain rfl : u = Value.ref q := r2
  obtain ⟨ox, od, J, _⟩ := inst_at I2 ep
  obtain ⟨oy, od', J', _⟩ := inst_at I2 eq
  obtain ⟨m', hF⟩ := I2.fr
  subst hm
  refine PySem.W.binop_K hF I2.ok.mod.kin J J'.type sf c.mt.at_ c.mt.fn ?_
  refine wpAny_mono (wpAny_call (run_at (us := [.ref p, .ref q]) (vs := [.ref p, .ref q]) c.fn hr tk I2 (.cons rfl (.cons rfl .nil)) hs)) (fun w s' z => ?_) fun _ _ x => x
  obtain ⟨z', H', I', rz, qz⟩ := z
  exact back_of rz ⟨z', H', I', rz, qz⟩
/-- x op n, x an instance of C, n an int, by C's own method -/
def tBinI (C : Addr) (sp : Sp) (E : L2.St → XK) (ta tb : TE) : TE := fun σ H Q => ta σ H fun x H1 => tb σ H1 fun y H2 => ∃ p dx fs n, x = .ref p ∧ y = .int n ∧ H2 p = some (.ins C dx fs) ∧ sp [x, y] H2 Q (E σ)
/-- x op y by an own comparison that raises nothing -/
def rCmpO (C : Addr) (sp : Sp) : R2 := fun x y H Q => ∃ p dx fs q dy gs, x = .ref p ∧ y = .ref q ∧ H p = some (.ins C dx fs) ∧ H q = some (.ins C dy gs) ∧ sp [x, y] H Q (fun _ _ _ => False)
theorem op_cmp_own {op : CmpOp} (hop : ∀ a b, compareOp op a b = richCompare op a b) (c : Met X.prog X.w X.K X.mg X.base k C m f sp) (hm : m = (cmpInfo op).2.1) (hr : Room k X.A) : OpR X (compareOp op) (rCmpO C sp) := by
  intro pins s σ H x y v u Q I rx ry h
  obtain ⟨p, dx, fs, q, dy, gs, rfl, rfl, ep, eq, hs⟩ := h
  obtain rfl : v = Value.ref p := rx
  obtain rfl : u = Value.ref q := ry
  obtain ⟨ox, od, J, _⟩ := inst_at I ep
  obtain ⟨oy, od', J', _⟩ := inst_at I eq
  obtain ⟨m', hF⟩ := I.fr
  subst hm
  rw [hop]
  refine PySem.W.cmp_K (op := op) (tb := .ref C) hr.units0 hF I.ok.mod.kin J J'.type (by simp [PySem.W.notFirst]) c.mt.at_ c.mt.fn ?_
  refine wpAny_call (run_nv (us := [.ref p, .ref q]) (vs := [.ref p, .ref q]) c.fn hr I (.cons rfl (.cons rfl .nil)) hs fun v' s' z => ?_)
  obtain ⟨z', H', I', rz, qz⟩ := z
  exact back_of rz ⟨z', H', I', rz, qz⟩
theorem op_eq_own (c : Met X.prog X.w X.K X.mg X.base k C "__eq__" f sp) (hr : Room k X.A) : OpR X (compareOp .Eq) (rCmpO C sp) := op_cmp_own (op := .Eq) (fun _ _ => rfl) c rfl hr
theorem op_le_own (c : Met X.prog X.w X.K X.mg X.base k C "__le__" f sp) (hr : Room k X.A) : OpR X (compareOp .LtE) (rCmpO C sp) := op_cmp_own (op := .LtE) (fun _ _ => rfl) c rfl hr
/-- o(e, ..): an instance called -/
def tCalS (C : Addr) (sp : Sp) (E : L2.St → XK) (tf : TE) (t : TA) : TE := fun σ H Q => tf σ H fun y H1 => ∃ p, y = V.ref p ∧ t σ H1 fun vs H2 => ∃ dx fs, H2 p = some (.ins C dx fs) ∧ sp (V.ref p :: vs) H2 Q (E σ)
theorem pc_call {fe e : Expr} {es : List Expr} {tf : TE} {t : TA} {cpos : Pos} (hf : PE X fe tf) (c : Met X.prog X.w X.K X.mg X.base k C "__call__" f sp) (fi : PySem.W.fnIn X.K f = true) (hr : Room k X.A) (tk : Takes X W) (ha : PA X (e :: es) t)
    (ht : eval (.Call fe (e :: es) [] cpos) X.env = (do callWith cpos (← eval fe X.env) [] (backTo cpos (starEach (e :: es) X.env)) (backToKw cpos (keywordEach [] X.env))) := by rfl)
    (he : starEach (e :: es) X.env = (false, eval e X.env) :: starEach es X.env := by rfl) (hpl : (backTo cpos (starEach es X.env)).any (·.1) = false := by rfl) : PE X (.Call fe (e :: es) [] cpos) (tCalS C sp (WE W) tf t) := by
  refine ⟨fun pins s σ H Q I h => ?_⟩
  refine PyProof.Rows.Call_ (thn (hf.run pins s σ H _ I h) fun u s1 ⟨y, H1, I1, ry, p, ey, q⟩ => ?_) ht
  subst ey
  obtain rfl : u = Value.ref p := ry
  refine StX.callO_with (thn (ha.run cpos pins s1 σ H1 _ I1 q) fun us s2 ⟨vs, H2, I2, r2, dx, fs, ep, hs⟩ => ?_) he hpl
  obtain ⟨ox, od, J, hd⟩ := inst_at I2 ep
  exact ⟨⟨C, ox, od, J, hd⟩, wpAny_call (PySem.W.kco_code I2.kIn J hd c.mt.at_ c.mt.fn fi (run_at (us := .ref p :: us) (vs := .ref p :: vs) c.fn hr tk I2 (.cons rfl r2) hs))⟩
/-- a def with a star parameter behind n others: what is left over stands in a new tuple -/
def spStar (n : Nat) (sp : Sp) : Sp := fun vs H Q E => ∃ ws rest, vs = ws ++ rest ∧ ws.length = n ∧ rest.length ≤ sizeLine ∧ ∀ p, H p = none → sp (ws ++ [.ref p]) (upd H p (.tup rest)) Q E
theorem Fun.okS {P : Program} {w : World} {K : PySem.W.Frag} {mg : Str → Option Value} {base : Heap} {x qual pv : Str} {st : Stmt} {f : Addr} {fd : FuncData} {N ps : List Str} {k : Nat} {sp : Sp} (F : Fun K x qual st f fd) (S : FnScope N (ps ++ [pv]) (defScope st))
    (hb : ∀ (kV doc pm : Value) (an : Option Addr) (cdv ct : Value) (us rest : List Value), us.length = ps.length → bindArgs (PySem.W.fnOf x qual (defArgs st) (defBody st) (defScope st) .none kV doc pm an cdv ct) ⟨us ++ rest, []⟩ = (newTuple rest >>= fun t => pure (ps.zip us ++ [(pv, t)])))
    (hbody : ∀ (cdv : Value) (A : Around) (outer : List Env) (s : Shared) (H : Hp) (vs : List V) (Q : VK) (E : XK), Room k (A.deeper (PyProof.Rows.envOfC qual (defScope st) s.heap.objs.size f cdv)) → sp vs H Q E →
      ∃ t, PSs (cxOf (L2.CX P w) P w K mg base N qual (defScope st) f cdv A outer s H E) (defBody st) t ∧ t { nx := fun _ H' => Q .non H', rt := Q } (start N vs) H) : FnR P w K mg base (L2.CX P w) (k + 1) f (spStar ps.length sp) := by
  obtain ⟨oc, od, kV, doc, pm, an, cdv, ct, osl, rfl, lk, hcd⟩ := F.ex
  exact StX.fn_star lk hcd S StX.cxUp (hb kV doc pm an cdv ct) fun A outer s H vs Q E hr h => hbody cdv A outer s H vs Q E hr h
variable {x : Str} {p sp_ : Pos} {e : Expr} {es : List Expr} {t : TA} {te : TE}
/-- C(*y) -/
def tStarA (K : PySem.W.Frag) (te : TE) : TA := fun σ H Q => te σ H fun y H1 => ∃ a xs, y = V.ref a ∧ (SqT K H1 a xs ∨ SqL K H1 a xs) ∧ Q xs H1
theorem pc_makS1 (c : Mak X.prog X.w X.K X.mg X.base k x C f sp) (hr : Room (k + 1) X.A) (tk : Takes X W) (he : PE X e te) (hg : Gl X x := by rfl) (hdb : (x == ("__debug__" : Str)) = false := by decide)
    (hst : starEach [.Starred e sp_] X.env = [(true, eval e X.env)] := by rfl) : PE X (.Call (.Name x p) [.Starred e sp_] [] pos) (tMakS C sp (WE W) (tStarA X.K te)) := by
  refine ⟨fun pins s σ H Q I h => wpAny_Call_Name_kw (ld_glob I hg c.gl ?_ hdb)⟩
  refine PySem.W.callWith_S (h₀ := X.base) I.ok.mod.kin c.mak.kp (thn (he.run pins s σ H _ I h) fun v s1 ⟨y, H1, I1, ry, a, xs, ey, hxs, q⟩ => ?_) hst
  subst ey
  obtain rfl : v = Value.ref a := ry
  exact StX.star_any I1 hxs fun us s2 I2 rv => ⟨I2.kIn, run_mak c hr tk I2 rv q⟩
/-- C(e, .., *y) -/
theorem pc_makS (c : Mak X.prog X.w X.K X.mg X.base k x C f sp) (hr : Room (k + 1) X.A) (tk : Takes X W) (ha : PA X (e :: es) t) (hg : Gl X x := by rfl) (hdb : (x == ("__debug__" : Str)) = false := by decide)
    (he : starEach (e :: es) X.env = (false, eval e X.env) :: starEach es X.env := by rfl) (hst : (backTo pos (starEach es X.env)).any (·.1) = true := by rfl) : PE X (.Call (.Name x p) (e :: es) [] pos) (tMakS C sp (WE W) t) := by
  refine ⟨fun pins s σ H Q I h => wpAny_Call_Name_kw (ld_glob I hg c.gl ?_ hdb)⟩
  refine PySem.W.callWith_S2 (h₀ := X.base) I.ok.mod.kin c.mak.kp (thn (ha.run pos pins s σ H _ I h) fun us s1 ⟨vs, H1, I1, r, q⟩ => ⟨I1.kIn, ?_⟩) he hst
  exact run_mak c hr tk I1 r q
theorem kcall_isi {K : PySem.W.Frag} (e : X.K = K) : CallR X (.builtin "isinstance") (rIsi K) := by subst e; exact call_isi
/-- what a class must have that isinstance may be asked of its instances -/
structure IsO (K : PySem.W.Frag) (C : Addr) : Prop where
  cl : Cls K C
  ha : PySem.W.findIn K (.ref C) "__class__" = some (some (.builtin "object.__class__"))
  hg : PySem.W.specialIn K (.builtin "object.__class__") "__get__" = some (some (.builtin "getset_descriptor.__get__"))
  ht : PySem.W.takesIn K (.builtin "object.__class__") = some true
  hm : PySem.W.mroIn K C (.type "object") = some true
theorem i_isO {K : PySem.W.Frag} {H : Hp} {Q : VK} {x C2 dx : Addr} {fs : List (Str × V)} {b : Bool} (o : IsO K C) (h : H x = some (.ins C dx fs)) (e : PySem.W.kitOne K (.ref C) (.ref C2) = some b) (k : Q (.bl b) H) : rIsi K [.ref x, .ref C2] H Q := ⟨_, _, .ref C, .ref C2, b, rfl, .own C2, .base (.ins h o.cl o.ha o.hg o.ht o.hm), e, k⟩
theorem i_binS {σ : L2.St} {H : Hp} {Q : VK} {E : L2.St → XK} (k : ta σ H fun x H1 => tb σ H1 fun y H2 => ∃ p dx fs q dy gs, x = .ref p ∧ y = .ref q ∧ H2 p = some (.ins C dx fs) ∧ H2 q = some (.ins C dy gs) ∧ sp [x, y] H2 Q (E σ)) : tBinS C sp E ta tb σ H Q := k
theorem i_calS {σ : L2.St} {H : Hp} {Q : VK} {E : L2.St → XK} (k : ta σ H fun y H1 => ∃ p, y = V.ref p ∧ t σ H1 fun vs H2 => ∃ dx fs, H2 p = some (.ins C dx fs) ∧ sp (V.ref p :: vs) H2 Q (E σ)) : tCalS C sp E ta t σ H Q := k
end
end Wp
/-! x != y where the class has an own __eq__ and the __ne__ of object. -/
namespace Wp
open PySem L2 PySem.W
section
variable {prog : Program} {w : World} {A : Around} {E : Value → Shared → Prop} {s : Shared} {K : Frag} {x y C f : Addr} {ox : Obj} {od : Option Obj}
theorem ne_bound {Q : Option Value → Shared → Prop} (X : K.In s.heap) (I : InstAt s.heap x ox C od) (hs : findIn K (.ref C) "__ne__" = some (some (.builtin "object.__ne__")))
    (h : wpAny (model prog w) A (call (.builtin "object.__ne__") [.ref x, .ref y]) (fun v => Q (some v)) E s) : wpAny (model prog w) A (callSpecialIfBound? (.ref x) "__ne__" [.ref y]) Q E s := by
  simp only [callSpecialIfBound?, bindSpecialIfBound?]
  refine wpAny_holding (wpAny_bind (wpAny_bind (wpAny_bind (I.type.here ((looks_findIn X hs).here ?_)))))
  simp only [F.cmp_object.ne.bind]
  refine wpAny_bind (wpAny_askSetting (wpAny_ite ?_))
  have fin : wpAny (model prog w) A (call (.builtin "object.__ne__") ([.ref x] ++ [.ref y]) >>= fun v => pure (some v)) Q E s := wpAny_bind (wpAny_mono h (fun v s' h' => wpAny_pure h') fun _ _ h' => h')
  split
  · exact wpAny_bind (wpAny_pure (wpAny_pure fin))
  · exact wpAny_tryCatch (wpAny_bind (wpAny_pure (wpAny_pure fin)))
theorem ne_check {Q : Unit → Shared → Prop} (X : K.In s.heap) (I : InstAt s.heap x ox C od) (hob : subIn K (.ref C) (.type "object") = some true) (hq : Q () s) : wpAny (model prog w) A (checkBuiltinCall "object.__ne__" ⟨[.ref x, .ref y], []⟩) Q E s := by
  simp only [checkBuiltinCall, F.cmpKind_ne, F.cmpSplit_ne]
  have L1 : Looks (model prog w) s.heap (isInstance (.ref x) (.type "object")) true := I.type.andThen (looks_subIn X hob)
  refine wpAny_bind (L1.here ?_)
  rw [if_neg (by decide)]
  cases hsig : Manifest.signature? "object.__ne__" with
  | none => exact wpAny_pure hq
  | some sig =>
    have ha := F.cmpArgs_ne (.ref x) (.ref y)
    simp only [argsOk, hsig] at ha
    show wpAny _ _ (Bind.checkArgs "object.__ne__" sig ⟨.ref x :: [.ref y], []⟩) Q E _
    rw [show Bind.checkArgs "object.__ne__" sig ⟨.ref x :: [.ref y], []⟩ = pure () from ha]
    exact wpAny_pure hq
theorem ne_try {Q : Option Value → Shared → Prop} (X : K.In s.heap) (I : InstAt s.heap x ox C od) (hn : findIn K (.ref C) "__ne__" = some (some (.builtin "object.__ne__"))) (hob : subIn K (.ref C) (.type "object") = some true)
    (he : findIn K (.ref C) "__eq__" = some (some (.ref f))) (hf : isFn K (.ref f) = true) (hu : A.units + 1 < cLine)
    (h : wpAny (model prog w) A.in1 (call (.ref f) [.ref x, .ref y]) (fun v s' => ∃ b, v = .bool b ∧ Q (some (.bool (!b))) s') E s) : wpAny (model prog w) A (tryCompare (.ref x) "__ne__" (.ref y)) Q E s := by
  simp only [tryCompare]
  refine wpAny_bind (ne_bound X I hn (wpAny_call (codeAny_call_builtin F.cmp_object.ne.plain F.cmpEntry_ne (ne_check (A := A.in1) X I hob ?_))))
  unfold Builtin.«object.__ne__»
  repeat (first
    | with_reducible refine wpAny_cRoomFor hu ?_
    | (refine wpAny_bind (m := callSpecialIfBound? (.ref x) (Str.ofString "__eq__") [.ref y])
        (ifBound_K X I he hf (wpAny_mono h (fun r s' hr => by
          obtain ⟨b, rfl, hq⟩ := hr
          (repeat (first | exact hq | exact wpAny_pure hq | exact wpAny_pure (wpAny_pure hq) | (refine wpAny_bind (m := truthy (.bool _)) (wpAny_truthy_bool ?_)) | wp_step))) fun _ _ e => e)))
    | wp_step)
theorem ne_K {Q : Value → Shared → Prop} {oy : Obj} {od' : Option Obj} (X : K.In s.heap) (I : InstAt s.heap x ox C od) (I' : InstAt s.heap y oy C od') (hn : findIn K (.ref C) "__ne__" = some (some (.builtin "object.__ne__"))) (hob : subIn K (.ref C) (.type "object") = some true)
    (he : findIn K (.ref C) "__eq__" = some (some (.ref f))) (hf : isFn K (.ref f) = true) (hu : A.units + 1 < cLine)
    (h : wpAny (model prog w) A.in1 (call (.ref f) [.ref x, .ref y]) (fun v s' => ∃ b, v = .bool b ∧ Q (.bool (!b)) s') E s) : wpAny (model prog w) A (compareOp .NotEq (.ref x) (.ref y)) Q E s := by
  unfold compareOp richCompare
  simp only [oneThing_ref]
  refine wpAny_holding (wpAny_bind (wpAny_cRoomFor (Nat.lt_of_succ_lt hu) ?_))
  rw [cmpInfo_NotEq]
  dsimp only
  refine wpAny_bind (I.type.here (wpAny_bind (I'.type.here ?_)))
  rw [show (Value.ref C != Value.ref C) = false from by simp]
  simp only [Bool.false_eq_true, if_false]
  refine wpAny_bind (wpAny_pure ?_)
  simp only [Bool.false_eq_true, if_false]
  refine wpAny_bind (ne_try X I hn hob he hf hu (wpAny_mono h (fun v s' hv => ?_) fun _ _ e => e))
  obtain ⟨b, rfl, hq⟩ := hv
  first | exact ⟨b, rfl, wpAny_pure hq⟩ | exact ⟨b, rfl, wpAny_pure (wpAny_pure hq)⟩
end
section
variable {X : Cx} {k : Nat} {f C : Addr} {sp : Sp}
/-- what a class must have for != by its own __eq__ -/
structure NeO (K : Frag) (C : Addr) : Prop where
  ne : findIn K (.ref C) "__ne__" = some (some (.builtin "object.__ne__"))
  ob : subIn K (.ref C) (.type "object") = some true
def rNeO (C : Addr) (sp : Sp) : R2 := fun x y H Q => ∃ p dx fs q dy gs, x = .ref p ∧ y = .ref q ∧ H p = some (.ins C dx fs) ∧ H q = some (.ins C dy gs) ∧ sp [x, y] H (fun v H' => ∃ b, v = .bl b ∧ Q (.bl (!b)) H') (fun _ _ _ => False)
theorem op_ne_own (c : Met X.prog X.w X.K X.mg X.base k C "__eq__" f sp) (n : NeO X.K C) (hr : Room (k + 1) X.A) : OpR X (compareOp .NotEq) (rNeO C sp) := by
  intro pins s σ H x y v u Q I rx ry h
  obtain ⟨p, dx, fs, q, dy, gs, rfl, rfl, ep, eq, hs⟩ := h
  obtain rfl : v = Value.ref p := rx
  obtain rfl : u = Value.ref q := ry
  obtain ⟨ox, od, J, _⟩ := inst_at I ep
  obtain ⟨oy, od', J', _⟩ := inst_at I eq
  refine ne_K I.kIn J J' n.ne n.ob c.mt.at_ c.mt.fn (by have := hr.units; omega) ?_
  have hr1 : Room k X.A.in1 := Room.in1 hr
  refine wpAny_call (codeAny_mono (c.fn X.A.in1 X.stack s H [.ref p, .ref q] [.ref p, .ref q] (fun v H' => ∃ b, v = .bl b ∧ Q (.bl (!b)) H') (fun _ _ _ => False) hr1 I.env0.in1 (.cons rfl (.cons rfl .nil)) hs) fun r s' z => ?_)
  cases r with
  | error e => exact (cx_false z).elim
  | ok fl =>
    cases fl with
    | ret u =>
      obtain ⟨v', H', I', rv, b, rfl, q'⟩ := I.after z
      obtain rfl : u = Value.bool b := rv
      exact ⟨b, rfl, .bl (!b), H', I', rfl, q'⟩
    | next => exact False.elim z
    | brk => exact False.elim z
    | cont => exact False.elim z
end
end Wp
namespace Wp
open PySem L2 PySem.W
/-! static methods -/
structure SMet (K : PySem.W.Frag) (C : Addr) (m : Str) (f : Addr) : Prop where
  ex : ∃ p rest, PySem.W.findCls K (.ref C) (.type "type") m = some (.get (.builtin "staticmethod.__get__") (.ref p) .none (.ref C)) ∧ PySem.W.recIn K p "staticmethod" = some (.ref f :: rest)
  rd : PySem.W.readsIn K C (.type "type") = true
  ga : PySem.W.specialIn K (.ref C) "__getattribute__" = some (some (.builtin "type.__getattribute__"))
  kp : PySem.W.keepIn K (.ref f) = true
structure Stc (P : Program) (w : World) (K : PySem.W.Frag) (mg : Str → Option Value) (base : Heap) (k : Nat) (C : Addr) (m : Str) (f : Addr) (sp : Sp) : Prop where
  fn : FnR P w K mg base (L2.CX P w) k f sp
  sm : SMet K C m f
theorem pc_sm0 {X : Cx} {k : Nat} {f C : Addr} {sp : Sp} {m : Str} {pos apos : Pos} {o : Expr} {W : WX} {pl : Sem Bool} (he : PE X o (tC (.ref C))) (c : Stc X.prog X.w X.K X.mg X.base k C m f sp) (hr : Room k X.A) (tk : Takes X W)
    (ht : eval (.Call (.Attribute o m apos) [] [] pos) X.env = (do
      let ov ← eval o X.env
      standAt apos.atName
      let (f, first) ← holding [ov] (getMethod ov m pl)
      callWith pos f first (backTo pos (starEach [] X.env)) (backToKw pos (keywordEach [] X.env))) := by rfl) :
    PE X (.Call (.Attribute o m apos) [] [] pos) (tCallS sp (WE W) tNil) := by
  refine ⟨fun pins s σ H Q I h => ?_⟩
  refine PySem.W.methodCall_KW (pl := pl) (thn (he.run pins s σ H (fun x H1 => x = .ref C ∧ tCallS sp (WE W) tNil σ H1 Q) I ⟨rfl, h⟩) fun u s1 ⟨x, H1, I1, rx, ex, q⟩ => ?_) ht
  subst ex
  obtain rfl : u = Value.ref C := rx
  obtain ⟨p, rest, e1, e2⟩ := c.sm.ex
  refine PySem.W.method_cls I1.kIn c.sm.ga (PySem.W.cls_bind I1.kIn c.sm.rd e1 (wpAny_call (PySem.W.sm_get (s := { s1 with toks := s1.toks + 1 }) I1.kIn e2 (PySem.W.handed_on rfl ?_))))
  exact PySem.W.callWith_K0 (first := []) I1.kIn c.sm.kp (wpAny_call (run_at (us := []) c.fn hr tk (I1.tok _) .nil q))
end Wp
/-! The facts of a law's frame, looked at behind the top's run: all objects that the top made are the written part. -/
namespace Wh
open PySem PySem.Spec PyProof.Rows L2
abbrev Fr := PySem.W.Frag
abbrev Tst := Fr → Bool
/-! ### the written part -/
/-- all but the boot's things, two of the boot's names -/
def adrs (n : Nat) : List Addr := mainGlobals :: cStatics :: List.range' 0 n
def putF {α : Type} : List (Addr × Obj) → (Fr → α) → α
  | [], k => k []
  | (a, ⟨c, d, x, s⟩) :: r, k => HandSHeadRun.frNat a fun a => putF r fun r => k ((a, ⟨c, d, x, s⟩) :: r)
theorem putF_eq {α : Type} : ∀ (l : List (Addr × Obj)) (k : Fr → α), putF l k = k l
  | [], k => rfl
  | (a, ⟨c, d, x, s⟩) :: r, k => by
    show (HandSHeadRun.frNat a fun a => putF r fun r => k ((a, ⟨c, d, x, s⟩) :: r)) = _
    rw [HandSHeadRun.frNat_eq, putF_eq r]
/-! ### what is looked at -/
/-- a def: where it stands, its name, qualified name, parameters, body, scope -/
structure FnA where
  ad : Fr → Addr
  name : Str
  qual : Str
  params : Arguments
  body : List Stmt
  scope : Scope
abbrev FnE : Type := Option (Str × Str × Arguments × FuncBody × Scope × Addr × Addr)
def fnE (K : Fr) (a : Addr) : FnE := match K.lookup a with
  | some ⟨_, _, .func fd, _⟩ => some (fd.name, fd.qualname, fd.params, fd.body, fd.scope, fd.globals, fd.builtins)
  | _ => none
def valE (d : FnA) : FnE := some (d.name, d.qual, d.params, .stmts d.body, d.scope, mainGlobals, builtinsNs)
structure Lk where
  ts : List (List Tst)
  fs : List FnA
abbrev Al : Type := Bool × List FnE
def Lk.obs (l : Lk) (K : Fr) : Al := (l.ts.all fun t => t.all fun f => f K, l.fs.map fun d => fnE K (d.ad K))
def Lk.val (l : Lk) : Al := (true, l.fs.map valE)
def Says (l : Lk) (K : Fr) : Prop := l.obs K = l.val
def Lk.obG (l : Lk) (n : Nat) (g : Addr → Option Obj) : Al := putF (He.frG g (adrs n)) l.obs
def hook (l : Lk) : PySem.W.Hook where
  α := Al
  obs := fun s => l.obG s.heap.objs.size s.heap.get?
  val := fun _ => l.val
  says := fun _ h => ∃ K : Fr, K.In h ∧ Says l K
  of := fun _ _ e => ⟨_, He.frG_in, (putF_eq _ _).symm.trans e⟩
  keeps := fun _ _ _ ⟨K, hK, c⟩ k => ⟨K, PySem.W.Frag.In.keeps hK k, c⟩
def Lk.ob (l : Lk) (s : PySem.W.SharedT) : Al := l.obG s.n (HandSHeadRun.getT s)
theorem ob_eq (l : Lk) (s : PySem.W.SharedT) : l.ob s = (hook l).obs s.abs := by
  have e : HandSHeadRun.getT s = s.abs.heap.get? := funext (HandSHeadRun.getT_eq s)
  have e2 : s.abs.heap.objs.size = s.n := PySem.W.absHeap_size s.tree s.n s.life
  show l.obG s.n (HandSHeadRun.getT s) = l.obG s.abs.heap.objs.size s.abs.heap.get?
  rw [e, e2]
theorem map3 {S α β γ : Type} {o : Option S} {a : S → α} {b : S → β} {c : S → γ} {A : α} {B : β} {C : γ} (h1 : o.map (fun s => (a s, b s)) = some (A, B)) (h2 : o.map c = some C) : o.map (fun s => (a s, b s, c s)) = some (A, B, C) := by
  cases o with
  | none => cases h1
  | some s =>
    simp only [Option.map_some, Option.some.injEq, Prod.mk.injEq] at h1 h2 ⊢
    exact ⟨h1.1, h1.2, h2⟩
section
variable {l : Lk} {K : Fr}
theorem Says.t (c : Says l K) (i j : Nat) {f : Tst} (h : (l.ts[i]?.bind fun t => t[j]?) = some f) : f K = true := by
  have c2 : (l.ts.all fun t => t.all fun f => f K) = true := congrArg (fun z : Al => z.1) c
  obtain ⟨t, e1, e2⟩ := Option.bind_eq_some_iff.mp h
  have c3 := List.all_eq_true.mp c2 t (List.mem_of_getElem? e1)
  exact List.all_eq_true.mp c3 f (List.mem_of_getElem? e2)
theorem Says.f (c : Says l K) (i : Nat) {d : FnA} (h : l.fs[i]? = some d) : fnE K (d.ad K) = valE d := by
  have e : l.fs.map (fun d => fnE K (d.ad K)) = l.fs.map valE := congrArg (fun z : Al => z.2) c
  have e2 : (l.fs.map fun d => fnE K (d.ad K))[i]? = (l.fs.map valE)[i]? := by rw [e]
  rw [List.getElem?_map, List.getElem?_map, h] at e2
  exact Option.some.inj e2
def plB (K : Fr) (a : Addr) (qual : Str) : Bool := match K.lookup a with
  | some ⟨_, _, .func fd, _⟩ => (match fd.closure, fd.defaults with
    | [], .none => true
    | _, _ => false) && PySem.W.codeIn K fd.code qual
  | _ => false
theorem Says.d (c : Says l K) (i : Nat) {d : FnA} (h : l.fs[i]? = some d) (b : plB K (d.ad K) d.qual = true) :
    ∃ oc od osl kV doc pm an cdv ct, K.lookup (d.ad K) = some ⟨oc, od, .func (PySem.W.fnOf d.name d.qual d.params d.body d.scope .none kV doc pm an cdv ct), osl⟩ ∧ PySem.W.codeIn K cdv d.qual = true := by
  have e3 := c.f i h
  unfold plB at b
  unfold fnE at e3
  split at b
  · rename_i oc od fd osl q
    rw [q] at e3
    obtain ⟨n1, n2, n3, n4, n5, n6, n7, n8, n9, n10, n11, n12, n13, n14, n15⟩ := fd
    simp only [valE, Option.some.injEq, Prod.mk.injEq] at e3
    obtain ⟨h1, h2, h3, h4, h5, h6, h7⟩ := e3
    subst h1 h2 h3 h4 h5 h6 h7
    simp only at b
    obtain ⟨b1, b2⟩ := Bool.and_eq_true_iff.mp b
    split at b1
    · exact ⟨oc, od, osl, n9, n10, n11, n12, n13, n14, q, b2⟩
    · cases b1
  · cases b
/-! ### special facts -/
def intB (K : Fr) (x : Str) (i : Int) : Bool := match PySem.W.nsIn K mainGlobals x with
  | some (some (.int j _)) => decide (j = i)
  | _ => false
theorem intB_ok {x : Str} {i : Int} (h : intB K x i = true) : ∃ t, PySem.W.nsIn K mainGlobals x = some (some (.int i t)) := by
  unfold intB at h
  split at h
  · rename_i j t e
    rw [of_decide_eq_true h] at e
    exact ⟨t, e⟩
  · cases h
def strB (K : Fr) (x z : Str) : Bool := match PySem.W.nsIn K mainGlobals x with
  | some (some (.str y _)) => decide (y = z)
  | _ => false
theorem strB_ok {x z : Str} (h : strB K x z = true) : ∃ t, PySem.W.nsIn K mainGlobals x = some (some (.str z t)) := by
  unfold strB at h
  split at h
  · rename_i j t e
    rw [of_decide_eq_true h] at e
    exact ⟨t, e⟩
  · cases h
theorem some_ok {α : Type} {o : Option α} (h : o.isSome = true) : ∃ v, o = some v := Option.isSome_iff_exists.mp h
/-- the keyword's default -/
def kwB (K : Fr) (f : Addr) : Bool := match K.lookup f with
  | some ⟨_, _, .func fd, _⟩ => (match fd.kwdefaults with
    | .ref D => decide (PySem.W.nsIn K D "in_a_row" = some (some (.bool false)))
    | _ => false)
  | _ => false
theorem kwB_ok {f : Addr} {oc : Value} {od : Option Addr} {osl : Array (Option Value)} {fd : FuncData} (h : kwB K f = true) (e : K.lookup f = some ⟨oc, od, .func fd, osl⟩) : ∃ D, fd.kwdefaults = .ref D ∧ PySem.W.nsIn K D "in_a_row" = some (some (.bool false)) := by
  unfold kwB at h
  rw [e] at h
  simp only at h
  split at h
  · rename_i D q
    exact ⟨D, q, of_decide_eq_true h⟩
  · cases h
/-- static methods -/
def psA (K : Fr) (C : Addr) (m : Str) : Addr := match PySem.W.findCls K (.ref C) (.type "type") m with
  | some (.get _ (.ref p) _ _) => p
  | _ => 0
def sfA (K : Fr) (C : Addr) (m : Str) : Addr := match PySem.W.recIn K (psA K C m) "staticmethod" with
  | some (.ref f :: _) => f
  | _ => 0
def stB (K : Fr) (C : Addr) (m : Str) : Bool := (match PySem.W.findCls K (.ref C) (.type "type") m with
  | some (.get g (.ref p) n c) => decide (g = .builtin "staticmethod.__get__") && (decide (n = .none) && decide (c = .ref C))
  | _ => false) && (match PySem.W.recIn K (psA K C m) "staticmethod" with
  | some (.ref _ :: _) => true
  | _ => false)
theorem stB_ok {C : Addr} {m : Str} (h : stB K C m = true) : PySem.W.findCls K (.ref C) (.type "type") m = some (.get (.builtin "staticmethod.__get__") (.ref (psA K C m)) .none (.ref C)) ∧ ∃ rs, PySem.W.recIn K (psA K C m) "staticmethod" = some (.ref (sfA K C m) :: rs) := by
  obtain ⟨h1, h2⟩ := Bool.and_eq_true_iff.mp h
  constructor
  · unfold psA
    split at h1
    · rename_i g p n c e
      obtain ⟨a, b⟩ := Bool.and_eq_true_iff.mp h1
      obtain ⟨b, d⟩ := Bool.and_eq_true_iff.mp b
      rw [e, of_decide_eq_true a, of_decide_eq_true b, of_decide_eq_true d]
    · cases h1
  · unfold sfA
    split at h2
    · rename_i f rs e
      rw [e]
      exact ⟨rs, rfl⟩
    · cases h2
/-- classes of errors -/
def exB (K : Fr) (C : Addr) : Bool := match K.lookup C with
  | some ⟨c, _, .cls cd, sl⟩ => decide (c = .type "type") && (cd.hasDict && (!cd.hasDel && ((match cd.mro with
    | .ref C' :: bm => decide (C' = C) && PySem.HandSPX.refsVE bm
    | _ => false) && (match sl.toList with
    | [_, _, _, _, some v, _] => decide (v = .builtin "ValueError.__new__")
    | _ => false))))
  | _ => false
theorem exB_ok {C : Addr} (h : exB K C = true) : ∃ nm q N bs bm sn sub ab col dd k0 k1 k2 k3 k5, K.lookup C = some (excClassObj nm q C N bs bm true sn sub ab col dd k0 k1 k2 k3 k5 "ValueError.__new__") ∧ PySem.HandSPX.refsVE bm = true := by
  unfold exB at h
  split at h
  · rename_i c d cd sl e
    obtain ⟨nm, bs, mro, N, q, hdct, sn, sub, ab, col, hdel⟩ := cd
    obtain ⟨h1, h⟩ := Bool.and_eq_true_iff.mp h
    obtain ⟨h2, h⟩ := Bool.and_eq_true_iff.mp h
    obtain ⟨h3, h⟩ := Bool.and_eq_true_iff.mp h
    obtain ⟨h4, h5⟩ := Bool.and_eq_true_iff.mp h
    simp only [Bool.not_eq_true'] at h2 h3
    split at h4
    · rename_i C' bm e2
      simp only at e2
      obtain ⟨h6, h7⟩ := Bool.and_eq_true_iff.mp h4
      split at h5
      · rename_i k0 k1 k2 k3 v k5 e3
        have es : sl = #[k0, k1, k2, k3, some v, k5] := Array.toList_inj.mp e3
        rw [e, of_decide_eq_true h1, e2, of_decide_eq_true h6, es, of_decide_eq_true h5, h2, h3]
        exact ⟨nm, q, N, bs, bm, sn, sub, ab, col, d, k0, k1, k2, k3, k5, rfl, h7⟩
      · cases h5
    · cases h4
  · cases h
/-- __init__ of such a class -/
def eiB (K : Fr) (C f : Addr) (qual file : Str) : Bool := match K.lookup f with
  | some ⟨_, _, .func fd, _⟩ => (match fd.closure with
    | [(n, cc)] => decide (n = "__class__") && (match K.lookup cc with
      | some ⟨_, _, .cell (some (.ref C')), _⟩ => decide (C' = C)
      | _ => false)
    | _ => false) && ((match fd.defaults, fd.kwdefaults with
    | .none, .none => true
    | _, _ => false) && (match fd.code with
    | .ref cda => PySem.W.codeIn K (.ref cda) qual && (match K.lookup cda with
      | some ⟨_, _, .fields vs, _⟩ => (match (vs[2]? : Option Value) with
        | some (.str fl _) => (file == fl)
        | _ => false)
      | _ => false)
    | _ => false))
  | _ => false
theorem Says.e (c : Says l K) (i : Nat) {d : FnA} (h : l.fs[i]? = some d) {C : Addr} {file : Str} (b : eiB K C (d.ad K) d.qual file = true) :
    ∃ oc od osl cc doc pm an cda ct cl dd vs ss fl tf k1 k2 k3, K.lookup (d.ad K) = some ⟨oc, od, .func (PySem.W.fnX d.name d.qual d.params d.body d.scope [("__class__", cc)] .none .none doc pm an (.ref cda) ct), osl⟩ ∧ PySem.W.codeIn K (.ref cda) d.qual = true ∧
      K.lookup cda = some ⟨cl, dd, .fields vs, ss⟩ ∧ vs[2]? = some (.str fl tf) ∧ (file == fl) = true ∧ K.lookup cc = some ⟨k1, k2, .cell (some (.ref C)), k3⟩ := by
  have e3 := c.f i h
  unfold eiB at b
  unfold fnE at e3
  split at b
  · rename_i oc od fd osl q
    rw [q] at e3
    obtain ⟨n1, n2, n3, n4, n5, n6, n7, n8, n9, n10, n11, n12, n13, n14, n15⟩ := fd
    simp only [valE, Option.some.injEq, Prod.mk.injEq] at e3
    obtain ⟨h1, h2, h3, h4, h5, h6, h7⟩ := e3
    subst h1 h2 h3 h4 h5 h6 h7
    simp only at b
    obtain ⟨b1, b⟩ := Bool.and_eq_true_iff.mp b
    obtain ⟨b2, b3⟩ := Bool.and_eq_true_iff.mp b
    split at b1
    · rename_i nn cc
      obtain ⟨b4, b5⟩ := Bool.and_eq_true_iff.mp b1
      split at b2
      · split at b3
        · rename_i cda z
          obtain ⟨b6, b7⟩ := Bool.and_eq_true_iff.mp b3
          split at b7
          · rename_i cl dd vs ss q2
            split at b7
            · rename_i fl tf q3
              split at b5
              · rename_i k1 k2 C' k3 q4
                have eC : C' = C := of_decide_eq_true b5
                have en : nn = "__class__" := of_decide_eq_true b4
                subst eC en
                exact ⟨oc, od, osl, cc, n10, n11, n12, cda, n14, cl, dd, vs, ss, fl, tf, k1, k2, k3, q, b6, q2, q3, b7, q4⟩
              · cases b5
            · cases b7
          · cases b7
        · cases b3
      · cases b2
    · cases b1
  · cases b
end
end Wh
/-! One except clause with a name whose error is known behind it. -/
namespace WpK
open PySem PySem.Spec PyProof.Rows L2 WpT
/-- a caught error that is known to the heap -/
def kxO (oe : Obj) : HO := .frz oe (.ext fun _ => True)
def offK (i : Nat) (a : Addr) (oe : Obj) (D : Ends) : Ends := { nx := fun σ' H' => D.nx (σ'.set i none) (upd H' a (kxO oe)), rt := fun _ _ => False, bk := fun _ _ => False, ct := fun _ _ => False }
def wKp (K : PySem.W.Frag) (Wout : WX) (D : Ends) (c : Value) (i : Nat) (ts : Addr → Value → Option Addr → TS) : WX := fun cls d σ H => ∃ b, PySem.W.exmOne K cls c = some b ∧
  (b = true → ∀ a oe, H a = none → Zc cls d oe → (∃ vs, oe.data = .fields vs) → ts a cls d (offK i a oe D) (σ.set i (some (.ref a))) H) ∧ (b = false → Wout cls d σ H)
section
variable {X : Cx} {pins : List (Addr × Obj)} {σ : L2.St} {H : Hp} {s : Shared}
theorem kept_in {a : Addr} {oe : Obj} (J : Inv X ((a, oe) :: pins) σ H s) (hn : X.s_0.heap.get? a = none) (hp : ∀ p ∈ X.pn ++ pins, p.1 ≠ a) : Inv X pins σ (upd H a (kxO oe)) s := by
  obtain ⟨ha, na, nL, nF, nc⟩ := J.pin (a, oe) (by simp)
  have up : ∀ b o, H b = some o → upd H a (kxO oe) b = some o := fun b o e => by
    rw [upd_ne (fun z => by rw [z] at e; rw [na] at e; cases e)]; exact e
  have ne0 : ∀ b o, X.s_0.heap.get? b = some o → b ≠ a := fun b o e z => by rw [z, hn] at e; cases e
  refine ⟨J.ok, J.os, J.bare, ⟨J.base.keep, J.base.slot, fun b o e n hx => ?_, J.base.there, fun b xs e => up _ _ (J.base.tups b xs e), fun b o u e => up _ _ (J.base.frzs b o u e), fun b ps e => ?_⟩, J.loc, J.cell, ?_, fun x c e => ?_, fun p hp' => ?_, fun b o e => ?_, J.len⟩
  · rw [upd_ne (ne0 b o e)]
    exact J.base.free b o e n hx
  · obtain ⟨m, z⟩ := J.base.tbls b ps e
    exact ⟨m, up _ _ z⟩
  · rw [upd_ne (fun z => nL z.symm)]
    exact J.free
  · rw [upd_ne (fun z => ?_)]
    · exact J.freeC x c e
    · obtain ⟨v, o, g, d⟩ := J.cell x c e
      rw [z, ha] at g
      cases g
      exact nc v d
  · obtain ⟨g1, g2, g3⟩ := J.pin p (by
      rcases List.mem_append.mp hp' with h | h
      · exact List.mem_append_left _ h
      · exact List.mem_append_right _ (List.mem_cons_of_mem _ h))
    exact ⟨g1, by rw [upd_ne (hp p hp')]; exact g2, g3⟩
  · by_cases z : b = a
    · subst z
      rw [upd_same] at e
      cases e
      exact ⟨ha, True.intro, ⟨oe, ha⟩, fun _ _ _ _ => True.intro⟩
    · rw [upd_ne z] at e
      exact (J.hok b o e).stay (fun c v _ q => q) (fun c q => up _ _ q) fun c xs q => up _ _ q
end
section
variable {X : Cx} {body : List Stmt} {pos : Pos} {tb : WX → TS} {Wout : WX} {x n : Str} {i : Nat} {c : Value} {ts : Addr → Value → Option Addr → TS} {b0 : Stmt} {suite : List Stmt} {np pos' : Pos}
theorem ps_try_keep (hs : X.stack = X.env :: X.outer) (hf : X.env.frame = some X.env.locals) (tk : Takes X Wout)
    (hb : ∀ (W : WX) (pn : List (Addr × Obj)) (xe : Value → Shared → Prop), Takes (X.tr pn xe) W → PassesOwn (model X.prog X.w) X.A X.env xe → PSs (X.tr pn xe) body (tb W))
    (hN : X.N.Nodup) (hi : X.N[i]? = some n) (hln : X.env.kindOf n = some .local) (hc : Names X x c)
    (hsu : ∀ (a : Addr) (oe : Obj) (cls : Value) (d : Option Addr) (pn : List (Addr × Obj)), Zc cls d oe → (∃ vs, oe.data = .fields vs) → PSs (X.suite a ((a, oe) :: pn)) (b0 :: suite) (ts a cls d))
    (hex : X.ex = []) : PS X (.Try body [.ExceptHandler (some (.Name x np)) (some n) (b0 :: suite) pos'] [] [] pos) (fun D σ H => tb (wKp X.K Wout D c i ts) D σ H) := by
  refine ⟨fun pins s σ H D I h => ?_⟩
  have ok := I.ok
  have hfr : X.A.frames = some (X.env :: X.outer) := by rw [ok.frames, hs]
  refine wpAny_Try_except ?_
  refine wpAny_mono ((hb (wKp X.K Wout D c i ts) (X.pn ++ pins) (fun e s1 => wpAny (model X.prog X.w) X.A (noteFrame e X.env) (fun _ s2 => wpAny (model X.prog X.w) X.A (setFlight e none) (fun _ s3 =>
    wpAny (model X.prog X.w) X.A (handleBy e X.env [.ExceptHandler (some (.Name x np)) (some n) (b0 :: suite) pos']) (SP X pins D) X.xe s3) X.xe s2) X.xe s1) (fun u s' xx => ?_) PassesOwn.looking).run [] s σ H D (I.toTry _) h) (fun f s1 hsp => ?_) (fun e s1 he => he)
  · obtain ⟨a, B, sI, pins', σ', H', cls, d, rfl, J', nb, up, sky, na, os, ag, w⟩ := xx
    have J : Inv X pins σ' H' sI := J'.ofTry ok
    have sky' : Sky B (X.env :: X.outer) a (Zc cls d) X.env.locals s'.heap := by rw [← hs]; exact sky
    show wpAny (model X.prog X.w) X.A (noteFrame (.ref a) X.env) _ _ _
    refine Sky.land Zc.steady hfr hf sky' fun h3 fl3 up3 => ?_
    have J3 : Inv X pins σ' H' { s' with heap := h3 } := J.landed nb fl3.1 (up.trans up3) os ag
    obtain ⟨oe3, vs3, he3, hz3, hd3⟩ := fl3.there
    have nfr : a ∉ frs (X.env :: X.outer) := fun hm => by
      obtain ⟨_, o', e', hnf⟩ := fl3.2.2.1.mem hm
      rw [he3] at e'; cases e'
      exact hnf _ hd3
    have nL : a ≠ X.env.locals := fun z => nfr (List.mem_filterMap.mpr ⟨X.env, List.mem_cons_self, by rw [hf, z]⟩)
    have nF : a ∉ X.fs := fun hm => by
      obtain ⟨e, he, q⟩ := List.mem_filterMap.mp hm
      exact nfr (List.mem_filterMap.mpr ⟨e, List.mem_cons_of_mem _ he, q⟩)
    have hBa : B.get? a = none := fl3.2.1
    -- it is new
    have hI : sI.heap.get? a = none := by
      cases q : sI.heap.get? a with
      | none => rfl
      | some o => exact absurd (nb a o q (by rw [hs]; exact nfr)) (by rw [hBa]; exact nofun)
    have h0 : X.s_0.heap.get? a = none := by
      cases q : X.s_0.heap.get? a with
      | none => rfl
      | some o =>
        obtain ⟨o', e'⟩ := J.base.there a o q (by rw [hex]; exact nofun)
        rw [hI] at e'; cases e'
    have hp : ∀ p ∈ X.pn ++ pins, p.1 ≠ a := fun p hp z => by
      obtain ⟨g1, _⟩ := J.pin p hp
      rw [z, hI] at g1; cases g1
    have S3 := J3.suite he3 hd3 na nL nF
    have test : ∀ {x : Str} {c : Value} {np : Pos} {Q : Value → Shared → Prop} {E : Value → Shared → Prop}, Names X x c → Q c { s' with heap := h3 } → wpAny (model X.prog X.w) (X.A.mark (some (.ref a))) (eval (.Name x np) X.env) Q E { s' with heap := h3 } := fun {x c np Q E} hc q => by
      obtain ⟨hg, hdbg, hm | ⟨hm, hv, hnn⟩⟩ := hc
      · exact ld_glob (X := X.suite a ((a, oe3) :: (X.pn ++ pins))) S3 hg hm q hdbg
      · exact ld_blt (X := X.suite a ((a, oe3) :: (X.pn ++ pins))) S3 hg hm hv q hnn hdbg
    have LT : PySem.W.Looks (model X.prog X.w) h3 (typeOf (.ref a)) cls := fun A Q E s k q => wpAny_typeOf_ref (k _ _ he3) (by rw [hz3.1]; exact q)
    obtain ⟨b, hb1, hyes, hno⟩ := w
    refine wpAny_handleBy_cons (codeAny_handlers_test ?_) (by intro q; cases q)
    refine test hc ((PySem.W.exm_one (M := model X.prog X.w) J3.kIn LT hb1).here ?_)
    cases b with
    | false =>
      have w := hno rfl
      refine wpAny_handleBy_nil ?_
      obtain ⟨k1, k2, k3, oe, vs, T, oT, ts', he, hz, hd, h1, hr⟩ := id fl3
      unfold PySem.passOn
      refine wpAny_bind (wpAny_field he hd h1 ?_)
      rw [if_neg (show ¬ ((Value.ref T == Value.none) = true) from by simp)]
      have fin : wpAny (model X.prog X.w) X.A (setFlight (.ref a) X.env.frame) (fun _ s4 => wpAny (model X.prog X.w) X.A (throw (.ref a) : Sem Flow) (SP X pins D) X.xe s4) X.xe { s' with heap := h3 } := by
        rw [hf]
        refine HandSPX.setFlight_upZ fl3 fun h4 hh4 up4 => wpAny_throw (tk _ _ ?_)
        exact ⟨a, B, sI, pins, σ', H', cls, d, rfl, J, nb, (up.trans up3).trans up4, .inr (.inr (by rw [hs]; exact hh4)), na, os, ag, w⟩
      first
        | exact wpAny_bind (wpAny_pure (wpAny_bind fin))
        | exact wpAny_bind fin
    | true =>
      refine codeAny_handlers_suite_as (HandSPX.lands_againZ fl3 fun h4 fl4 up4 => ?_)
      have J4 : Inv X pins σ' H' { s' with heap := h4 } := J.landed nb fl4.1 ((up.trans up3).trans up4) os ag
      obtain ⟨oe4, vs4, he4, hz4, hd4⟩ := fl4.there
      refine store_ok (X := X.suite a ((a, oe4) :: (X.pn ++ pins))) (v := .ref a) (J4.suite he4 hd4 na nL nF) hN hi (.inl hln) rfl (fun s5 S5 => ?_) (.inr hln)
      refine wpAny_mono ((hsu a oe4 cls d (X.pn ++ pins) hz4 ⟨_, hd4⟩).run [] s5 _ H' _ S5 (hyes rfl a oe4 na hz4 ⟨_, hd4⟩)) (fun f s6 hsp => ?_) (fun _ _ z => False.elim z)
      have un : ∀ {σ6 : L2.St} {H6 : Hp}, Inv (X.suite a ((a, oe4) :: (X.pn ++ pins))) [] σ6 H6 s6 → Inv X ((a, oe4) :: pins) σ6 H6 s6 := fun {σ6 H6} S6 =>
        ⟨ok, S6.os, S6.bare, S6.base, S6.loc, S6.cell, S6.free, S6.freeC, fun p hp => S6.pin p (by
          rw [List.append_nil]
          show p ∈ (a, oe4) :: (X.pn ++ pins)
          rcases List.mem_append.mp hp with h | h
          · exact List.mem_cons_of_mem _ (List.mem_append_left _ h)
          · rcases List.mem_cons.mp h with h | h
            · rw [h]; exact List.mem_cons_self
            · exact List.mem_cons_of_mem _ (List.mem_append_right _ h)), S6.hok, S6.len⟩
      cases f with
      | ret u => obtain ⟨v6, σ6, H6, S6, r6, q6⟩ := hsp; exact q6.elim
      | next =>
        obtain ⟨σ6, H6, S6, q6⟩ := hsp
        exact gone_ok (un S6) hN hi hln fun s7 J7 => ⟨_, _, kept_in J7 h0 hp, q6⟩
      | brk => obtain ⟨σ6, H6, S6, q6⟩ := hsp; exact q6.elim
      | cont => obtain ⟨σ6, H6, S6, q6⟩ := hsp; exact q6.elim
  · cases f with
    | ret u => obtain ⟨v, σ', H', J', r, q⟩ := hsp; exact ⟨v, σ', H', J'.ofTry ok, r, q⟩
    | next => obtain ⟨σ', H', J', q⟩ := hsp; exact wpAny_execs_nil ⟨σ', H', J'.ofTry ok, q⟩
    | brk => obtain ⟨σ', H', J', q⟩ := hsp; exact ⟨σ', H', J'.ofTry ok, q⟩
    | cont => obtain ⟨σ', H', J', q⟩ := hsp; exact ⟨σ', H', J'.ofTry ok, q⟩
end
/-! what is asked of a kept error: its fields, its class -/
section
variable {X : Cx}
def tXk (C : Addr) (f : Str) (te : TE) : TE := fun σ H Q => te σ H fun x H1 => ∃ (a : Addr) (oe : Obj) (dd : Addr) (fs : List (Str × V)) (v : V), x = .ref a ∧ H1 a = some (kxO oe) ∧ oe.cls = .ref C ∧ (∃ us, oe.data = .fields us) ∧
  oe.dict = some dd ∧ H1 dd = some (.xd fs) ∧ fs.lookup f = some v ∧ Q v H1
theorem inst_of {pins : List (Addr × Obj)} {σ : L2.St} {H : Hp} {s : Shared} (I : Inv X pins σ H s) {a C dd : Addr} {oe : Obj} {fs : List (Str × V)} (ga : H a = some (kxO oe)) (gc : oe.cls = .ref C) (gf : ∃ us, oe.data = .fields us) (gd : oe.dict = some dd) (gx : H dd = some (.xd fs)) :
    ∃ od mA, s.heap.Ns1 dd mA ∧ (∀ f, RelO (fs.lookup f) (mA f)) ∧ PySem.W.InstAt s.heap a oe C (some od) ∧ s.heap.get? dd = some od := by
  obtain ⟨h1, _⟩ := (I.hok a _ ga : ObjOk X.prog X.w H s.heap a (.frz oe (.ext fun _ => True)))
  obtain ⟨mA, ns, rl⟩ := (I.hok dd _ gx : ObjOk X.prog X.w H s.heap dd (.xd fs))
  obtain ⟨od, ho, _⟩ := lookIn_ns ns
  obtain ⟨us, hu⟩ := gf
  exact ⟨od, mA, ns, rl, ⟨h1, gc, by unfold PySem.W.notCls; rw [hu] <;> rfl, by rw [gd]; exact ho⟩, ho⟩
/-- e.f, e a kept error -/
theorem pe_xk {C : Addr} {e : Expr} {te : TE} {pos : Pos} {n : Str} (T : XfC X.K C) (hno : PySem.W.findIn X.K (.ref C) n = some none) (he : PE X e te) (hb : attributeBase e n X.env (eval e X.env) = eval e X.env := by rfl) : PE X (.Attribute e n pos) (tXk C n te) := by
  refine ⟨fun pins s σ H Q I h => ?_⟩
  refine attr_of hb (thn (he.run pins s σ H _ I h) fun u s1 hh => ?_)
  obtain ⟨x, H1, I1, rx, a, oe, dd, fs, v, rfl, ga, gc, gf, gd, gx, l, q⟩ := hh
  obtain rfl : u = Value.ref a := rx
  obtain ⟨od, mA, ns, rl, J, ho⟩ := inst_of I1 ga gc gf gd gx
  obtain ⟨od2, ho2, hl⟩ := lookIn_ns ns
  rw [ho] at ho2
  cases ho2
  obtain ⟨u, hu, ru⟩ := RelO.some_of (v := v) (o := mA n) (by rw [← l]; exact rl n)
  exact HandSPX.exc_get I1.kIn J T.ga T.gg T.exC (PySem.W.findObj_own T.hdC hno rfl (by rw [hl, hu])) (handed_of ru) ⟨v, H1, I1.tok _, ru, q⟩
end
section
variable {P : Program} {w : World} {A : Around} {E : Value → Shared → Prop} {K : PySem.W.Frag} {a D : Addr} {oe : Obj} {od : Option Obj}
open PySem.W in
/-- the class of an error, with fields or without -/
theorem err_class {Q : Option Value → Shared → Prop} {s : Shared} (C : ExcC K D) (kin : K.In s.heap) (I : InstAt s.heap a oe D od) (h : Q (some (.ref D)) { s with toks := s.toks + 1 }) :
    wpAny (model P w) A (getAttr? (.ref a) "__class__") Q E s := by
  obtain ⟨hp, gn, dr, tk, os⟩ := s
  have kinD : (clsIn K D).isSome = true := by obtain ⟨_, e, _⟩ := any_some C.hd; rw [e]; rfl
  have found : findObj K D od "__class__" = some (.bind (.builtin "getset_descriptor.__get__") (.builtin "object.__class__")) := by
    obtain ⟨cd, e⟩ := Option.isSome_iff_exists.mp kinD
    simp [findObj, e, C.ha, C.hn, C.ht]
  have lt := I.type (M := model P w)
  have lg := looks_findIn (M := model P w) kin C.hg
  have lk := looks_findIn (M := model P w) kin C.hk
  have lf := looks_find (M := model P w) kin I found
  have isE : Looks (model P w) hp (isInstance (.ref a) (.type "BaseException")) true := lt.andThen (looks_subIn kin C.hs)
  have ne : (onTheHeap (Value.ref D) && Value.builtin "BaseException.__getattribute__" == Value.builtin "object.__getattribute__") = false := by
    have : (Value.builtin "BaseException.__getattribute__" == Value.builtin "object.__getattribute__") = false := by decide +kernel
    rw [this]; rfl
  unfold getAttr? getAttrBy? getAttrBy
  refine wpAny_bind (wpAny_mkText ?_)
  refine wpAny_bind (wpAny_attempt (wpAny_holding ?_))
  refine wpAny_bind (lt.at ?_)
  refine wpAny_bind (lg.at ?_)
  change wpAny _ _ (if (onTheHeap (Value.ref D) && Value.builtin "BaseException.__getattribute__" == Value.builtin "object.__getattribute__") = true then _ else _) _ _ _
  rw [if_neg (by rw [ne]; decide)]
  unfold getAttrByItsOwn hookBefore
  refine wpAny_bind ?_
  rw [if_pos (show onTheHeap (Value.ref D) = true from rfl)]
  refine lk.at ?_
  refine wpAny_bind (wpAny_attempt (wpAny_holding ?_))
  unfold callGetattribute
  rw [if_neg (show ¬ (false && onTheHeap (Value.builtin "BaseException.__getattribute__")) = true from by simp)]
  unfold boundAndCalled
  rw [PySem.F.excAttr_ValueError.ga.bind (.ref a)]
  refine wpAny_bind (wpAny_pure ?_)
  change wpAny _ _ (call (.builtin "BaseException.__getattribute__") [.ref a, .str "__class__" tk]) _ _ _
  refine wpAny_call (codeAny_call_builtin PySem.F.excAttr_ValueError.ga.plain PySem.F.entry_bexc_ga ?_)
  refine @check_slot (model P w) _ _ ⟨hp, gn, dr, tk + 1, os⟩ "BaseException.__getattribute__" "BaseException" "__getattribute__" (.ref a) [.str "__class__" tk] [] _ (by decide +kernel) (by decide +kernel) isE (PySem.F.args_bexc_ga (.ref a) (.str "__class__" tk)) ?_
  unfold Builtin.«object.__getattribute__»
  refine wpAny_bind (wpAny_of_eq (a := ((Value.ref a : Value), [Value.str "__class__" tk])) (by first | rfl | (simp only [slotArgs]; rfl)) ?_)
  refine wpAny_bind (wpAny_pure ?_)
  refine wpAny_bind (lt.at ?_)
  refine wpAny_bind (lf.at ?_)
  change wpAny _ _ (holding [Value.builtin "object.__class__"] (call (.builtin "getset_descriptor.__get__") [.builtin "object.__class__", .ref a, .ref D]) >>= ret) _ _ _
  refine wpAny_bind (wpAny_holding (wpAny_call (class_get (s := ⟨hp, gn, dr, tk + 1, os⟩) (ox := oe) (od := od) kin I C.hm ?_)))
  refine wpAny_pure ?_
  change wpAny _ _ (handedOut (.ref D)) _ _ _
  rw [handedOut_of (v := .ref D) rfl]
  exact wpAny_pure (wpAny_pure h)
end
section
variable {X : Cx}
open PySem.W in
/-- what isinstance asks of an error -/
theorem err_asks {K : PySem.W.Frag} {a D : Addr} {oe : Obj} {od : Option Obj} (C : ExcC K D) : KitX K (.ref a) (.ref D) (fun h => InstAt h a oe D od) := by
  obtain ⟨cd, hc, _⟩ := any_some C.hd
  unfold clsIn at hc
  split at hc
  · rename_i c' d' cd' sl' ho
    refine ⟨fun _ _ _ I => I.type, fun _ _ kin _ A Q E s k q => ?_, fun h tp dd its n sl kin htp => ?_, fun kin I k => err_class C kin I k⟩
    · unfold isType loadHead
      exact wpAny_bind (wpAny_loadPart (k _ _ (kin _ _ ho)) (wpAny_pure q))
    · refine Bool.eq_false_iff.mpr fun q => ?_
      obtain rfl : D = tp := Value.ref.inj (beq_iff_eq.mp q)
      have z := (kin _ _ ho).symm.trans htp
      cases z
  · cases hc
def rIsK (K : PySem.W.Frag) : List V → Hp → VK → Prop := fun xs H Q => ∃ (a : Addr) (oe : Obj) (D : Addr) (c : V) (cv : Value) (b : Bool), xs = [.ref a, c] ∧ H a = some (kxO oe) ∧ oe.cls = .ref D ∧ (∃ us, oe.data = .fields us) ∧
  (oe.dict = none ∨ ∃ dd fs, oe.dict = some dd ∧ H dd = some (.xd fs)) ∧ ExcC K D ∧ (∀ u, RelV c u → u = cv) ∧ PySem.W.kitOne K (.ref D) cv = some b ∧ Q (.bl b) H
theorem call_isK : CallR X (.builtin "isinstance") (rIsK X.K) := by
  intro pins s σ H xs us Q I r h
  obtain ⟨a, oe, D, c, cv, b, rfl, ga, gc, gf, gd, C, hcv, e, q⟩ := h
  cases r with
  | cons rx rr =>
    cases rr with
    | cons rt rr =>
      cases rr
      cases rx
      have ec := hcv _ rt
      subst ec
      rcases gd with gd | ⟨dd, fs, gd, gx⟩
      · obtain ⟨h1, _⟩ := (I.hok a _ ga : ObjOk X.prog X.w H s.heap a (.frz oe (.ext fun _ => True)))
        obtain ⟨us, hu⟩ := gf
        have J : PySem.W.InstAt s.heap a oe D none := ⟨h1, gc, by unfold PySem.W.notCls; rw [hu] <;> rfl, by rw [gd]; trivial⟩
        exact PySem.W.kia_one (err_asks C) I.kIn J e (fun z => nomatch z) fun tk => ⟨.bl b, H, I.kept (t' := tk) fun _ _ z => z, rfl, q⟩
      · obtain ⟨od, mA, ns, rl, J, ho⟩ := inst_of I ga gc gf gd gx
        exact PySem.W.kia_one (err_asks C) I.kIn J e (fun z => nomatch z) fun tk => ⟨.bl b, H, I.kept (t' := tk) fun _ _ z => z, rfl, q⟩
end
end WpK
namespace Law
open PySem L2 Wp
def top (i : Nat) : Stmt := PySem.Challenge.pw_widestparcels_k02_read_number.main.body.getD i (.Pass ⟨0, 0, 0, 0⟩)
abbrev s_BadNumber___init__ : Stmt := inClass (top 2) 0
abbrev s_BadPair___init__ : Stmt := inClass (top 3) 0
abbrev s_is_figures : Stmt := top 7
abbrev s_read_number : Stmt := top 8
abbrev s__law_start : Stmt := top 10
abbrev s__law_draw : Stmt := top 11
abbrev s__law_is_integer : Stmt := top 12
abbrev s__law_due : Stmt := top 13
abbrev s__law_holds : Stmt := top 14
abbrev s_law : Stmt := top 15
def Fd_0 : Wh.FnA := ⟨fun K => (He.ga K "is_figures"), "is_figures", "is_figures", defArgs s_is_figures, defBody s_is_figures, defScope s_is_figures⟩
def Fd_1 : Wh.FnA := ⟨fun K => (He.ga K "read_number"), "read_number", "read_number", defArgs s_read_number, defBody s_read_number, defScope s_read_number⟩
def Fd_2 : Wh.FnA := ⟨fun K => (He.ga K "_law_start"), "_law_start", "_law_start", defArgs s__law_start, defBody s__law_start, defScope s__law_start⟩
def Fd_3 : Wh.FnA := ⟨fun K => (He.ga K "_law_draw"), "_law_draw", "_law_draw", defArgs s__law_draw, defBody s__law_draw, defScope s__law_draw⟩
def Fd_4 : Wh.FnA := ⟨fun K => (He.ga K "_law_is_integer"), "_law_is_integer", "_law_is_integer", defArgs s__law_is_integer, defBody s__law_is_integer, defScope s__law_is_integer⟩
def Fd_5 : Wh.FnA := ⟨fun K => (He.ga K "_law_due"), "_law_due", "_law_due", defArgs s__law_due, defBody s__law_due, defScope s__law_due⟩
def Fd_6 : Wh.FnA := ⟨fun K => (He.ga K "_law_holds"), "_law_holds", "_law_holds", defArgs s__law_holds, defBody s__law_holds, defScope s__law_holds⟩
def Fd_7 : Wh.FnA := ⟨fun K => (He.ga K "law"), "law", "law", defArgs s_law, defBody s_law, defScope s_law⟩
def Fd_8 : Wh.FnA := ⟨fun K => (He.ma K (He.ga K "BadNumber") "__init__"), "__init__", "BadNumber.__init__", defArgs s_BadNumber___init__, defBody s_BadNumber___init__, defScope s_BadNumber___init__⟩
def Fd_9 : Wh.FnA := ⟨fun K => (He.ma K (He.ga K "BadPair") "__init__"), "__init__", "BadPair.__init__", defArgs s_BadPair___init__, defBody s_BadPair___init__, defScope s_BadPair___init__⟩
def ts_0 : List Wh.Tst := [fun K => Wh.plB K (He.ga K "is_figures") "is_figures", fun K => Wh.plB K (He.ga K "read_number") "read_number", fun K => Wh.plB K (He.ga K "_law_start") "_law_start", fun K => Wh.plB K (He.ga K "_law_draw") "_law_draw", fun K => Wh.plB K (He.ga K "_law_is_integer") "_law_is_integer", fun K => Wh.plB K (He.ga K "_law_due") "_law_due", fun K => Wh.plB K (He.ga K "_law_holds") "_law_holds", fun K => Wh.plB K (He.ga K "law") "law", fun K => Wh.exB K (He.ga K "BadNumber"), fun K => Wh.eiB K (He.ga K "BadNumber") (He.ma K (He.ga K "BadNumber") "__init__") "BadNumber.__init__" (PySem.Challenge.pw_widestparcels_k02_read_number.main.file : Str), fun K => Wh.exB K (He.ga K "BadPair"), fun K => Wh.eiB K (He.ga K "BadPair") (He.ma K (He.ga K "BadPair") "__init__") "BadPair.__init__" (PySem.Challenge.pw_widestparcels_k02_read_number.main.file : Str), fun K => Wh.strB K "DIGITS" "0123456789", fun K => Wh.intB K "MOST_DIGITS" 6, fun K => decide (PySem.W.nsIn K mainGlobals "is_figures" = some (some (.ref (He.ga K "is_figures")))), fun K => decide (PySem.W.nsIn K mainGlobals "read_number" = some (some (.ref (He.ga K "read_number"))))]
def ts_1 : List Wh.Tst := [fun K => decide (PySem.W.nsIn K mainGlobals "_law_start" = some (some (.ref (He.ga K "_law_start")))), fun K => decide (PySem.W.nsIn K mainGlobals "_law_draw" = some (some (.ref (He.ga K "_law_draw")))), fun K => decide (PySem.W.nsIn K mainGlobals "_law_is_integer" = some (some (.ref (He.ga K "_law_is_integer")))), fun K => decide (PySem.W.nsIn K mainGlobals "_law_due" = some (some (.ref (He.ga K "_law_due")))), fun K => decide (PySem.W.nsIn K mainGlobals "_law_holds" = some (some (.ref (He.ga K "_law_holds")))), fun K => decide (PySem.W.nsIn K mainGlobals "law" = some (some (.ref (He.ga K "law")))), fun K => decide (PySem.W.nsIn K mainGlobals "ParcelError" = some (some (.ref (He.ga K "ParcelError")))), fun K => decide (PySem.W.nsIn K mainGlobals "BadNumber" = some (some (.ref (He.ga K "BadNumber")))), fun K => decide (PySem.W.nsIn K mainGlobals "BadPair" = some (some (.ref (He.ga K "BadPair")))), fun K => PySem.W.keepIn K (.ref (He.ga K "is_figures")), fun K => PySem.W.keepIn K (.ref (He.ga K "read_number")), fun K => PySem.W.keepIn K (.ref (He.ga K "_law_start")), fun K => PySem.W.keepIn K (.ref (He.ga K "_law_draw")), fun K => PySem.W.keepIn K (.ref (He.ga K "_law_is_integer")), fun K => PySem.W.keepIn K (.ref (He.ga K "_law_due")), fun K => PySem.W.keepIn K (.ref (He.ga K "_law_holds"))]
def ts_2 : List Wh.Tst := [fun K => PySem.W.keepIn K (.ref (He.ga K "law")), fun K => decide (PySem.W.ks_superIn K (He.ga K "BadNumber") (He.ga K "BadNumber") "__init__" = some (some (.builtin "ValueError.__init__"))), fun K => decide (PySem.W.findIn K (.ref (He.ga K "BadNumber")) "__setattr__" = some (some (.builtin "object.__setattr__"))), fun K => decide (PySem.W.findIn K (.ref (He.ga K "BadNumber")) "__init__" = some (some (.ref (He.ma K (He.ga K "BadNumber") "__init__")))), fun K => decide (PySem.W.typeIn K (.ref (He.ma K (He.ga K "BadNumber") "__init__")) = some (.type "function")), fun K => decide (PySem.W.subIn K (.ref (He.ga K "BadNumber")) (.type "BaseException") = some true), fun K => decide (PySem.W.subIn K (.ref (He.ga K "BadNumber")) (.type "ValueError") = some true), fun K => decide (PySem.W.mroIn K (He.ga K "BadNumber") (.ref (He.ga K "BadNumber")) = some true), fun K => decide (PySem.W.typeIn K (.ref (He.ga K "BadNumber")) = some (.type "type")), fun K => PySem.W.keepIn K (.ref (He.ga K "BadNumber")), fun K => decide (PySem.W.findIn K (.ref (He.ga K "BadNumber")) "what" = some none), fun K => decide (PySem.W.findIn K (.ref (He.ga K "BadNumber")) "value" = some none), fun K => decide (PySem.W.ks_superIn K (He.ga K "BadPair") (He.ga K "BadPair") "__init__" = some (some (.builtin "ValueError.__init__"))), fun K => decide (PySem.W.findIn K (.ref (He.ga K "BadPair")) "__setattr__" = some (some (.builtin "object.__setattr__"))), fun K => decide (PySem.W.findIn K (.ref (He.ga K "BadPair")) "__init__" = some (some (.ref (He.ma K (He.ga K "BadPair") "__init__")))), fun K => decide (PySem.W.typeIn K (.ref (He.ma K (He.ga K "BadPair") "__init__")) = some (.type "function"))]
def ts_3 : List Wh.Tst := [fun K => decide (PySem.W.subIn K (.ref (He.ga K "BadPair")) (.type "BaseException") = some true), fun K => decide (PySem.W.subIn K (.ref (He.ga K "BadPair")) (.type "ValueError") = some true), fun K => decide (PySem.W.mroIn K (He.ga K "BadPair") (.ref (He.ga K "BadPair")) = some true), fun K => decide (PySem.W.typeIn K (.ref (He.ga K "BadPair")) = some (.type "type")), fun K => PySem.W.keepIn K (.ref (He.ga K "BadPair")), fun K => decide (PySem.W.findIn K (.ref (He.ga K "BadPair")) "place" = some none), fun K => decide (PySem.W.nsIn K cStatics "thirdparty.any" = some none), fun K => decide (PySem.W.nsIn K mainGlobals "super" = some none), fun K => decide (PySem.W.findIn K (.ref (He.ga K "BadNumber")) "__getattribute__" = some (some (.builtin "BaseException.__getattribute__"))), fun K => decide (PySem.W.findIn K (.ref (He.ga K "BadNumber")) "__getattr__" = some none), fun K => decide (PySem.W.subIn K (.ref (He.ga K "BadNumber")) (.type "BaseException") = some true), fun K => PySem.W.hasDictIn K (He.ga K "BadNumber"), fun K => decide (PySem.W.findIn K (.ref (He.ga K "BadNumber")) "__class__" = some (some (.builtin "object.__class__"))), fun K => decide (PySem.W.mroIn K (He.ga K "BadNumber") (.type "object") = some true), fun K => decide (PySem.W.specialIn K (.builtin "object.__class__") "__get__" = some (some (.builtin "getset_descriptor.__get__"))), fun K => decide (PySem.W.takesIn K (.builtin "object.__class__") = some true)]
def ts_4 : List Wh.Tst := [fun K => decide (PySem.W.exmOne K (.ref (He.ga K "BadNumber")) (.ref (He.ga K "BadNumber")) = some true), fun K => decide (PySem.W.kitOne K (.ref (He.ga K "BadNumber")) (.ref (He.ga K "BadPair")) = some false), fun K => decide (PySem.W.nsIn K mainGlobals "abs" = some none), fun K => decide (PySem.W.nsIn K mainGlobals "bool" = some none), fun K => decide (PySem.W.nsIn K mainGlobals "int" = some none), fun K => decide (PySem.W.nsIn K mainGlobals "isinstance" = some none), fun K => decide (PySem.W.nsIn K mainGlobals "len" = some none), fun K => decide (PySem.W.nsIn K mainGlobals "range" = some none), fun K => decide (PySem.W.nsIn K mainGlobals "str" = some none)]
def lks : List (List Wh.Tst) := [ts_0, ts_1, ts_2, ts_3, ts_4]
def lkf : List Wh.FnA := [Fd_0, Fd_1, Fd_2, Fd_3, Fd_4, Fd_5, Fd_6, Fd_7, Fd_8, Fd_9]
def lk : Wh.Lk := ⟨lks, lkf⟩
def ls_0 : List Str := ["ParcelError", "BadNumber", "BadPair", "DIGITS", "MOST_DIGITS", "is_figures", "read_number", "_law_start", "_law_draw", "_law_is_integer", "_law_due", "_law_holds"]
def lss : List Str := ls_0
abbrev Rw : PySem.W.OpenRow := PySem.W.OpenLaw.row PySem.Challenge.rw_widestparcels_k02_read_number
theorem run1 (w : World) (os : OsState) : (HandSHeadRun.endF (HandSHeadRun.stepQ (HandSHeadRun.denQ HandSHeadRun.tabQ) Rw.prog w) 60000 Rw.prog w os).map (fun s => (HandSHeadRun.looksF Rw.prog (PySem.W.boot_heap w.params) s.abs, HandSHeadRun.seenQ (PySem.W.view Rw.prog [15]) lss (importedModules Rw.prog.main.body) (fun s => PySem.W.xlAt (PySem.W.view Rw.prog [15]) [] s && PySem.W.recOk Rw.toRowW.records s) s.abs)) = some (true, PySem.W.openGood (PySem.W.view Rw.prog [15]) lss) := by kernel_rfl
theorem run2 (w : World) (os : OsState) : (HandSHeadRun.endF (HandSHeadRun.stepQ (HandSHeadRun.denQ HandSHeadRun.tabQ) Rw.prog w) 60000 Rw.prog w os).map lk.ob = some lk.val := by kernel_rfl
theorem run (w : World) : HandSHeadRun.RunEq Rw (PySem.W.view Rw.prog [15]) (Wh.hook lk) lk.ob 60000 lss w := fun os => Wh.map3 (run1 w os) (run2 w os)
end Law
set_option backward.isDefEq.respectTransparency false
/-! Data without a heap, and a small machine over it: what a def computes, told without addresses. -/
namespace Dl
open PySem (Str)

inductive D where
  | non | bl (b : Bool) | int (i : Int) | str (s : Str)
  | tup (ds : List D) | lst (ds : List D)
  | dct (q : Nat) (ks vs : List D)
  | ins (c : Nat) (ns : List Nat) (vs : List D)
  | abs (n : Nat) (ds : List D)
  | fn (n : Nat)
  | loc (n : Nat)

/-- an error: its class, its fields -/
structure Exc where
  cls : Nat
  ns : List Nat
  vs : List D
/-- what is known of a name or a passing value: nothing; data that nobody changes; a thing that is held here alone; another name for a slot; a caught error -/
inductive Sl where
  | unk | sh (d : D) | ow (d : D) | al (i : Nat) | exc (x : Exc)
structure Env where
  ts : List Sl
  sl : List Sl

/-- what comes of running a piece: a value, an error, nothing that is told, a draw below n and what follows; a thing of the store read, changed, laid -/
inductive C (ε α : Type) where
  | ret (a : α) | exc (e : ε) | bad | draw (n : Int) (f : Int → C ε α)
  | ld (n : Nat) (f : D → C ε α) | st (n : Nat) (d : D) (c : C ε α) | nw (d : D) (f : Nat → C ε α)
def bnd {ε α β : Type} (m : C ε α) (f : α → C ε β) : C ε β := match m with
  | .ret a => f a
  | .exc e => .exc e
  | .bad => .bad
  | .draw n g => .draw n fun i => bnd (g i) f
  | .ld n g => .ld n fun i => bnd (g i) f
  | .st n d c => .st n d (bnd c f)
  | .nw d g => .nw d fun i => bnd (g i) f
@[simp] theorem bnd_ret {ε α β : Type} (a : α) (f : α → C ε β) : bnd (.ret a) f = f a := (rfl)
@[simp] theorem bnd_exc {ε α β : Type} (e : ε) (f : α → C ε β) : bnd (.exc e) f = .exc e := (rfl)
@[simp] theorem bnd_bad {ε α β : Type} (f : α → C ε β) : bnd .bad f = .bad := (rfl)
@[simp] theorem bnd_draw {ε α β : Type} (n : Int) (g : Int → C ε α) (f : α → C ε β) : bnd (.draw n g) f = .draw n fun i => bnd (g i) f := (rfl)
@[simp] theorem bnd_ld {ε α β : Type} (n : Nat) (g : D → C ε α) (f : α → C ε β) : bnd (.ld n g) f = .ld n fun i => bnd (g i) f := (rfl)
@[simp] theorem bnd_st {ε α β : Type} (n : Nat) (d : D) (c : C ε α) (f : α → C ε β) : bnd (.st n d c) f = .st n d (bnd c f) := (rfl)
@[simp] theorem bnd_nw {ε α β : Type} (d : D) (g : Nat → C ε α) (f : α → C ε β) : bnd (.nw d g) f = .nw d fun i => bnd (g i) f := (rfl)
theorem bnd_congr {ε α β : Type} {m m' : C ε α} (h : m = m') (f : α → C ε β) : bnd m f = bnd m' f := h ▸ rfl
theorem bnd_bnd {ε α β γ : Type} (m : C ε α) (f : α → C ε β) (g : β → C ε γ) : bnd (bnd m f) g = bnd m fun a => bnd (f a) g := by
  induction m with
  | ret a => rfl
  | exc e => rfl
  | bad => rfl
  | draw n h ih => simp only [bnd]; exact congrArg _ (funext ih)
  | ld n h ih => simp only [bnd]; exact congrArg _ (funext ih)
  | st n d c ih => simp only [bnd, ih]
  | nw d h ih => simp only [bnd]; exact congrArg _ (funext ih)
/-- the store: its things by number -/
abbrev Sto := List D
/-- what is wanted of a piece that begins over a store -/
def wp {ε α : Type} (m : C ε α) (s : Sto) (k : α → Sto → Prop) (x : ε → Sto → Prop) : Prop := match m with
  | .ret a => k a s
  | .exc e => x e s
  | .bad => False
  | .draw n g => (0 < n ∧ n < 1073741824) ∧ ∀ i, 0 ≤ i → i < n → wp (g i) s k x
  | .ld n g => ∃ d, s[n]? = some d ∧ wp (g d) s k x
  | .st n d c => n < s.length ∧ wp c (s.set n d) k x
  | .nw d g => wp (g s.length) (s ++ [d]) k x
@[simp] theorem wp_ret {ε α : Type} (a : α) (s : Sto) (k : α → Sto → Prop) (x : ε → Sto → Prop) : wp (.ret a) s k x = k a s := (rfl)
@[simp] theorem wp_exc {ε α : Type} (e : ε) (s : Sto) (k : α → Sto → Prop) (x : ε → Sto → Prop) : wp (.exc e) s k x = x e s := (rfl)
@[simp] theorem wp_bad {ε α : Type} (s : Sto) (k : α → Sto → Prop) (x : ε → Sto → Prop) : wp .bad s k x = False := (rfl)
@[simp] theorem wp_draw {ε α : Type} (n : Int) (g : Int → C ε α) (s : Sto) (k : α → Sto → Prop) (x : ε → Sto → Prop) : wp (.draw n g) s k x = ((0 < n ∧ n < 1073741824) ∧ ∀ i, 0 ≤ i → i < n → wp (g i) s k x) := (rfl)
@[simp] theorem wp_ld {ε α : Type} (n : Nat) (g : D → C ε α) (s : Sto) (k : α → Sto → Prop) (x : ε → Sto → Prop) : wp (.ld n g) s k x = ∃ d, s[n]? = some d ∧ wp (g d) s k x := (rfl)
@[simp] theorem wp_st {ε α : Type} (n : Nat) (d : D) (c : C ε α) (s : Sto) (k : α → Sto → Prop) (x : ε → Sto → Prop) : wp (.st n d c) s k x = (n < s.length ∧ wp c (s.set n d) k x) := (rfl)
@[simp] theorem wp_nw {ε α : Type} (d : D) (g : Nat → C ε α) (s : Sto) (k : α → Sto → Prop) (x : ε → Sto → Prop) : wp (.nw d g) s k x = wp (g s.length) (s ++ [d]) k x := (rfl)
theorem wp_bnd {ε α β : Type} (m : C ε α) (f : α → C ε β) (s : Sto) (k : β → Sto → Prop) (x : ε → Sto → Prop) : wp (bnd m f) s k x = wp m s (fun a s => wp (f a) s k x) x := by
  induction m generalizing s with
  | ret a => rfl
  | exc e => rfl
  | bad => rfl
  | draw n h ih => simp only [bnd, wp, ih]
  | ld n h ih => simp only [bnd, wp, ih]
  | st n d c ih => simp only [bnd, wp, ih]
  | nw d h ih => simp only [bnd, wp, ih]
theorem wp_mono {ε α : Type} {m : C ε α} {s : Sto} {k k' : α → Sto → Prop} {x x' : ε → Sto → Prop} (h : wp m s k x) (hk : ∀ a s, k a s → k' a s) (hx : ∀ e s, x e s → x' e s) : wp m s k' x' := by
  induction m generalizing s with
  | ret a => exact hk a s h
  | exc e => exact hx e s h
  | bad => exact h
  | draw n g ih => exact ⟨h.1, fun i h0 h1 => ih i (h.2 i h0 h1)⟩
  | ld n g ih => obtain ⟨d, e, h⟩ := h; exact ⟨d, e, ih d h⟩
  | st n d c ih => exact ⟨h.1, ih h.2⟩
  | nw d g ih => exact ih _ (show wp (g s.length) (s ++ [d]) k x from h)
/-- errors told in another way -/
def reX {ε ε' α : Type} (f : ε → ε') : C ε α → C ε' α
  | .ret a => .ret a
  | .exc e => .exc (f e)
  | .bad => .bad
  | .draw n g => .draw n fun i => reX f (g i)
  | .ld n g => .ld n fun i => reX f (g i)
  | .st n d c => .st n d (reX f c)
  | .nw d g => .nw d fun i => reX f (g i)
@[simp] theorem reX_ret {ε ε' α : Type} (f : ε → ε') (a : α) : reX f (.ret a : C ε α) = .ret a := (rfl)
@[simp] theorem reX_exc {ε ε' α : Type} (f : ε → ε') (e : ε) : reX f (.exc e : C ε α) = .exc (f e) := (rfl)
@[simp] theorem reX_bad {ε ε' α : Type} (f : ε → ε') : reX f (.bad : C ε α) = .bad := (rfl)
@[simp] theorem reX_draw {ε ε' α : Type} (f : ε → ε') (n : Int) (g : Int → C ε α) : reX f (.draw n g) = .draw n fun i => reX f (g i) := (rfl)
@[simp] theorem reX_ld {ε ε' α : Type} (f : ε → ε') (n : Nat) (g : D → C ε α) : reX f (.ld n g) = .ld n fun i => reX f (g i) := (rfl)
@[simp] theorem reX_st {ε ε' α : Type} (f : ε → ε') (n : Nat) (d : D) (c : C ε α) : reX f (.st n d c) = .st n d (reX f c) := (rfl)
@[simp] theorem reX_nw {ε ε' α : Type} (f : ε → ε') (d : D) (g : Nat → C ε α) : reX f (.nw d g) = .nw d fun i => reX f (g i) := (rfl)
theorem wp_reX {ε ε' α : Type} (f : ε → ε') (m : C ε α) (s : Sto) (k : α → Sto → Prop) (x : ε' → Sto → Prop) : wp (reX f m) s k x = wp m s k (fun e s => x (f e) s) := by
  induction m generalizing s with
  | ret a => rfl
  | exc e => rfl
  | bad => rfl
  | draw n h ih => simp only [reX, wp, ih]
  | ld n h ih => simp only [reX, wp, ih]
  | st n d c ih => simp only [reX, wp, ih]
  | nw d h ih => simp only [reX, wp, ih]
/-- an error caught -/
def cat {ε ε' α : Type} (m : C ε α) (h : ε → C ε' α) : C ε' α := match m with
  | .ret a => .ret a
  | .exc e => h e
  | .bad => .bad
  | .draw n g => .draw n fun i => cat (g i) h
  | .ld n g => .ld n fun i => cat (g i) h
  | .st n d c => .st n d (cat c h)
  | .nw d g => .nw d fun i => cat (g i) h
@[simp] theorem cat_ret {ε ε' α : Type} (a : α) (h : ε → C ε' α) : cat (.ret a : C ε α) h = .ret a := (rfl)
@[simp] theorem cat_exc {ε ε' α : Type} (e : ε) (h : ε → C ε' α) : cat (.exc e : C ε α) h = h e := (rfl)
@[simp] theorem cat_bad {ε ε' α : Type} (h : ε → C ε' α) : cat (.bad : C ε α) h = .bad := (rfl)
@[simp] theorem cat_draw {ε ε' α : Type} (n : Int) (g : Int → C ε α) (h : ε → C ε' α) : cat (.draw n g) h = .draw n fun i => cat (g i) h := (rfl)
@[simp] theorem cat_ld {ε ε' α : Type} (n : Nat) (g : D → C ε α) (h : ε → C ε' α) : cat (.ld n g) h = .ld n fun i => cat (g i) h := (rfl)
@[simp] theorem cat_st {ε ε' α : Type} (n : Nat) (d : D) (c : C ε α) (h : ε → C ε' α) : cat (.st n d c) h = .st n d (cat c h) := (rfl)
@[simp] theorem cat_nw {ε ε' α : Type} (d : D) (g : Nat → C ε α) (h : ε → C ε' α) : cat (.nw d g) h = .nw d fun i => cat (g i) h := (rfl)
theorem cat_congr {ε ε' α : Type} {m m' : C ε α} (e : m = m') (h : ε → C ε' α) : cat m h = cat m' h := e ▸ rfl
theorem wp_cat {ε ε' α : Type} (m : C ε α) (h : ε → C ε' α) (s : Sto) (k : α → Sto → Prop) (x : ε' → Sto → Prop) : wp (cat m h) s k x = wp m s k (fun e s => wp (h e) s k x) := by
  induction m generalizing s with
  | ret a => rfl
  | exc e => rfl
  | bad => rfl
  | draw n g ih => simp only [cat, wp, ih]
  | ld n g ih => simp only [cat, wp, ih]
  | st n d c ih => simp only [cat, wp, ih]
  | nw d g ih => simp only [cat, wp, ih]
/-- run over a store of its own, which nobody sees -/
def run {ε α : Type} (m : C ε α) (s : Sto) : C ε α := match m with
  | .ret a => .ret a
  | .exc e => .exc e
  | .bad => .bad
  | .draw n g => .draw n fun i => run (g i) s
  | .ld n g => match s[n]? with
    | some d => run (g d) s
    | none => .bad
  | .st n d c => if n < s.length then run c (s.set n d) else .bad
  | .nw d g => run (g s.length) (s ++ [d])
def shut {ε α : Type} (m : C ε α) : C ε α := run m []
@[simp] theorem shut_ret {ε α : Type} (a : α) : shut (.ret a : C ε α) = .ret a := (rfl)
@[simp] theorem shut_exc {ε α : Type} (e : ε) : shut (.exc e : C ε α) = .exc e := (rfl)
@[simp] theorem shut_bad {ε α : Type} : shut (.bad : C ε α) = .bad := (rfl)
@[simp] theorem shut_draw {ε α : Type} (n : Int) (g : Int → C ε α) : shut (.draw n g) = .draw n fun i => shut (g i) := (rfl)
theorem wp_run {ε α : Type} (m : C ε α) (s s0 : Sto) (k : α → Sto → Prop) (x : ε → Sto → Prop) : wp (run m s) s0 k x = wp m s (fun a _ => k a s0) (fun e _ => x e s0) := by
  induction m generalizing s with
  | ret a => rfl
  | exc e => rfl
  | bad => rfl
  | draw n g ih => simp only [run, wp, ih]
  | ld n g ih =>
    simp only [run, wp]
    cases h : s[n]? with
    | none => simp [wp]
    | some d => simp [ih]
  | st n d c ih =>
    simp only [run, wp]
    by_cases h : n < s.length
    · simp [h, ih]
    · simp [h, wp]
  | nw d g ih => simp only [run, wp, ih]
theorem wp_shut {ε α : Type} (m : C ε α) (s : Sto) (k : α → Sto → Prop) (x : ε → Sto → Prop) : wp (shut m) s k x = wp m [] (fun a _ => k a s) (fun e _ => x e s) := wp_run m [] s k x

/-- the same, shut for the unifier -/
structure Wq {ε α : Type} (m : C ε α) (s : Sto) (k : α → Sto → Prop) (x : ε → Sto → Prop) : Prop where
  h : wp m s k x
theorem wq_iff {ε α : Type} (m : C ε α) (s : Sto) (k : α → Sto → Prop) (x : ε → Sto → Prop) : Wq m s k x = wp m s k x := propext ⟨fun h => h.h, fun h => ⟨h⟩⟩
@[simp] theorem wq_ret {ε α : Type} (a : α) (s : Sto) (k : α → Sto → Prop) (x : ε → Sto → Prop) : Wq (.ret a) s k x = k a s := by rw [wq_iff, wp_ret]
@[simp] theorem wq_exc {ε α : Type} (e : ε) (s : Sto) (k : α → Sto → Prop) (x : ε → Sto → Prop) : Wq (.exc e) s k x = x e s := by rw [wq_iff, wp_exc]
@[simp] theorem wq_bad {ε α : Type} (s : Sto) (k : α → Sto → Prop) (x : ε → Sto → Prop) : Wq .bad s k x = False := by rw [wq_iff, wp_bad]
@[simp] theorem wq_draw {ε α : Type} (n : Int) (g : Int → C ε α) (s : Sto) (k : α → Sto → Prop) (x : ε → Sto → Prop) : Wq (.draw n g) s k x = ((0 < n ∧ n < 1073741824) ∧ ∀ i, 0 ≤ i → i < n → Wq (g i) s k x) := by simp only [wq_iff, wp_draw]
@[simp] theorem wq_ld {ε α : Type} (n : Nat) (g : D → C ε α) (s : Sto) (k : α → Sto → Prop) (x : ε → Sto → Prop) : Wq (.ld n g) s k x = ∃ d, s[n]? = some d ∧ Wq (g d) s k x := by simp only [wq_iff, wp_ld]
@[simp] theorem wq_st {ε α : Type} (n : Nat) (d : D) (c : C ε α) (s : Sto) (k : α → Sto → Prop) (x : ε → Sto → Prop) : Wq (.st n d c) s k x = (n < s.length ∧ Wq c (s.set n d) k x) := by simp only [wq_iff, wp_st]
@[simp] theorem wq_nw {ε α : Type} (d : D) (g : Nat → C ε α) (s : Sto) (k : α → Sto → Prop) (x : ε → Sto → Prop) : Wq (.nw d g) s k x = Wq (g s.length) (s ++ [d]) k x := by simp only [wq_iff, wp_nw]
@[simp] theorem wq_bnd {ε α β : Type} (m : C ε α) (f : α → C ε β) (s : Sto) (k : β → Sto → Prop) (x : ε → Sto → Prop) : Wq (bnd m f) s k x = Wq m s (fun a s => Wq (f a) s k x) x := by simp only [wq_iff, wp_bnd]
@[simp] theorem wq_reX {ε ε' α : Type} (f : ε → ε') (m : C ε α) (s : Sto) (k : α → Sto → Prop) (x : ε' → Sto → Prop) : Wq (reX f m) s k x = Wq m s k (fun e s => x (f e) s) := by simp only [wq_iff, wp_reX]
@[simp] theorem wq_cat {ε ε' α : Type} (m : C ε α) (h : ε → C ε' α) (s : Sto) (k : α → Sto → Prop) (x : ε' → Sto → Prop) : Wq (cat m h) s k x = Wq m s k (fun e s => Wq (h e) s k x) := by simp only [wq_iff, wp_cat]
@[simp] theorem wq_shut {ε α : Type} (m : C ε α) (s : Sto) (k : α → Sto → Prop) (x : ε → Sto → Prop) : Wq (shut m) s k x = Wq m [] (fun a _ => k a s) (fun e _ => x e s) := by simp only [wq_iff, wp_shut]
theorem Wq.mono {ε α : Type} {m : C ε α} {s : Sto} {k k' : α → Sto → Prop} {x x' : ε → Sto → Prop} (h : Wq m s k x) (hk : ∀ a s, k a s → k' a s) (hx : ∀ e s, x e s → x' e s) : Wq m s k' x' := ⟨wp_mono h.h hk hx⟩

abbrev XS := Exc × List Sl
/-- an expression: it pushes its value -/
abbrev EM := Env → C XS Env
/-- a called def -/
abbrev Fn := List D → C Exc Sl
inductive Flow where
  | nx (sl : List Sl) | rt (s : Sl) (out : List Sl) | bk (sl : List Sl) | ct (sl : List Sl)
  /-- a new pair is given back; what is known of its parts -/
  | ro (s1 s2 : Sl)
abbrev SM := List Sl → C XS Flow

def sizeD : Nat := 10000000

/-! ### equality of data -/
mutual
def eqD : D → D → Bool
  | .non, .non => true
  | .bl a, .bl b => a == b
  | .bl a, .int j => (if a then 1 else 0) == j
  | .int i, .bl b => i == (if b then 1 else 0)
  | .int i, .int j => i == j
  | .str x, .str y => decide (x = y)
  | .tup xs, .tup ys => eqDs xs ys
  | .lst xs, .lst ys => eqDs xs ys
  | _, _ => false
def eqDs : List D → List D → Bool
  | [], [] => true
  | x :: xs, y :: ys => eqD x y && eqDs xs ys
  | _, _ => false
end
/-- data of none, bools, ints, texts, tuples and lists, not too deep -/
def strOk (s : Str) : Bool := s.cps.all (· < 0x110000)
mutual
def plain : Nat → D → Bool
  | _, .non => true
  | _, .bl _ => true
  | _, .int _ => true
  | _, .str s => strOk s
  | n + 1, .tup ds => plains n ds
  | n + 1, .lst ds => plains n ds
  | _, _ => false
def plains : Nat → List D → Bool
  | _, [] => true
  | n, d :: ds => plain n d && plains n ds
end
/-! no list, dict or object in it -/
mutual
def noMut : D → Bool
  | .tup ds => noMuts ds
  | .lst _ => false
  | .dct _ _ _ => false
  | .ins _ _ _ => false
  | .abs _ _ => false
  | _ => true
def noMuts : List D → Bool
  | [] => true
  | d :: ds => noMut d && noMuts ds
end

@[simp] theorem noMut_int (i : Int) : noMut (.int i) = true := by simp [noMut]
@[simp] theorem noMut_bl (i : Bool) : noMut (.bl i) = true := by simp [noMut]
@[simp] theorem noMut_non : noMut .non = true := by simp [noMut]
@[simp] theorem noMut_str (i : Str) : noMut (.str i) = true := by simp [noMut]
@[simp] theorem noMut_tup (i : List D) : noMut (.tup i) = noMuts i := by simp [noMut]
@[simp] theorem noMut_lst (i : List D) : noMut (.lst i) = false := by simp [noMut]
@[simp] theorem noMut_dct (q : Nat) (i j : List D) : noMut (.dct q i j) = false := by simp [noMut]
@[simp] theorem noMut_ins (c : Nat) (i : List Nat) (j : List D) : noMut (.ins c i j) = false := by simp [noMut]
@[simp] theorem noMut_abs (c : Nat) (j : List D) : noMut (.abs c j) = false := by simp [noMut]
@[simp] theorem noMut_loc (c : Nat) : noMut (.loc c) = true := by simp [noMut]
@[simp] theorem noMuts_nil : noMuts [] = true := by simp [noMuts]
@[simp] theorem noMuts_cons (d : D) (ds : List D) : noMuts (d :: ds) = (noMut d && noMuts ds) := by simp [noMuts]
theorem noMuts_all : ∀ ds : List D, noMuts ds = ds.all noMut
  | [] => by simp
  | d :: ds => by simp [noMuts_all ds]

/-! nothing of the store in it -/
mutual
def noLoc : D → Bool
  | .tup ds => noLocs ds
  | .lst ds => noLocs ds
  | .dct _ ks vs => noLocs ks && noLocs vs
  | .ins _ _ vs => noLocs vs
  | .abs _ ds => noLocs ds
  | .loc _ => false
  | _ => true
def noLocs : List D → Bool
  | [] => true
  | d :: ds => noLoc d && noLocs ds
end
@[simp] theorem noLoc_int (i : Int) : noLoc (.int i) = true := by simp [noLoc]
@[simp] theorem noLoc_bl (i : Bool) : noLoc (.bl i) = true := by simp [noLoc]
@[simp] theorem noLoc_non : noLoc .non = true := by simp [noLoc]
@[simp] theorem noLoc_str (i : Str) : noLoc (.str i) = true := by simp [noLoc]
@[simp] theorem noLoc_fn (i : Nat) : noLoc (.fn i) = true := by simp [noLoc]
@[simp] theorem noLoc_loc (i : Nat) : noLoc (.loc i) = false := by simp [noLoc]
@[simp] theorem noLoc_tup (i : List D) : noLoc (.tup i) = noLocs i := by simp [noLoc]
@[simp] theorem noLoc_lst (i : List D) : noLoc (.lst i) = noLocs i := by simp [noLoc]
@[simp] theorem noLoc_dct (q : Nat) (i j : List D) : noLoc (.dct q i j) = (noLocs i && noLocs j) := by simp [noLoc]
@[simp] theorem noLoc_ins (c : Nat) (i : List Nat) (j : List D) : noLoc (.ins c i j) = noLocs j := by simp [noLoc]
@[simp] theorem noLoc_abs (c : Nat) (j : List D) : noLoc (.abs c j) = noLocs j := by simp [noLoc]
@[simp] theorem noLocs_nil : noLocs [] = true := by simp [noLocs]
@[simp] theorem noLocs_cons (d : D) (ds : List D) : noLocs (d :: ds) = (noLoc d && noLocs ds) := by simp [noLocs]
theorem noLocs_all : ∀ ds : List D, noLocs ds = ds.all noLoc
  | [] => by simp
  | d :: ds => by simp [noLocs_all ds]
@[simp] theorem noLocs_app (ds es : List D) : noLocs (ds ++ es) = (noLocs ds && noLocs es) := by simp [noLocs_all]
@[simp] theorem noLocs_ints (ns : List Int) : noLocs (ns.map .int) = true := by simp [noLocs_all]
def noLocS : Sl → Bool
  | .sh d => noLoc d
  | .ow d => noLoc d
  | _ => true
@[simp] theorem noLocS_sh (d : D) : noLocS (.sh d) = noLoc d := (rfl)
@[simp] theorem noLocS_ow (d : D) : noLocS (.ow d) = noLoc d := (rfl)

/-! ### names -/
/-- the data of a slot -/
def datS : Option Sl → Option D
  | some (.sh d) => some d
  | some (.ow d) => some d
  | _ => none
@[simp] theorem datS_sh (d : D) : datS (some (.sh d)) = some d := (rfl)
@[simp] theorem datS_ow (d : D) : datS (some (.ow d)) = some d := (rfl)
/-- the data of a passing value -/
def getV (sl : List Sl) : Sl → Option D
  | .sh d => some d
  | .ow d => some d
  | .al i => datS sl[i]?
  | _ => none
@[simp] theorem getV_sh (sl : List Sl) (d : D) : getV sl (.sh d) = some d := (rfl)
@[simp] theorem getV_ow (sl : List Sl) (d : D) : getV sl (.ow d) = some d := (rfl)
@[simp] theorem getV_al (sl : List Sl) (i : Nat) : getV sl (.al i) = datS sl[i]? := (rfl)
def frzK (i : Nat) (sl : List Sl) : Option Sl → List Sl
  | some (.ow d) => sl.set i (.sh d)
  | _ => sl
@[simp] theorem frzK_ow (i : Nat) (sl : List Sl) (d : D) : frzK i sl (some (.ow d)) = sl.set i (.sh d) := (rfl)
@[simp] theorem frzK_sh (i : Nat) (sl : List Sl) (d : D) : frzK i sl (some (.sh d)) = sl := (rfl)
def frz (i : Nat) (sl : List Sl) : List Sl := frzK i sl sl[i]?

def seqE (a b : EM) : EM := fun e => bnd (a e) b
@[simp] theorem seqE_ap (a b : EM) (e : Env) : seqE a b e = bnd (a e) b := (rfl)
def cst (d : D) : EM := fun e => .ret ⟨.sh d :: e.ts, e.sl⟩
@[simp] theorem cst_ap (d : D) (ts sl : List Sl) : cst d ⟨ts, sl⟩ = .ret ⟨.sh d :: ts, sl⟩ := (rfl)
def varK (i : Nat) (ts sl : List Sl) : Option Sl → C XS Env
  | some (.sh d) => .ret ⟨.sh d :: ts, sl⟩
  | some (.ow d) => .ret ⟨.sh d :: ts, sl.set i (.sh d)⟩
  | _ => .bad
/-- a name read, for good -/
def var (i : Nat) : EM := fun e => varK i e.ts e.sl e.sl[i]?
@[simp] theorem var_ap (i : Nat) (ts sl : List Sl) : var i ⟨ts, sl⟩ = varK i ts sl sl[i]? := (rfl)
@[simp] theorem varK_sh (i : Nat) (ts sl : List Sl) (d : D) : varK i ts sl (some (.sh d)) = .ret ⟨.sh d :: ts, sl⟩ := (rfl)
@[simp] theorem varK_ow (i : Nat) (ts sl : List Sl) (d : D) : varK i ts sl (some (.ow d)) = .ret ⟨.sh d :: ts, sl.set i (.sh d)⟩ := (rfl)
def rfK (i : Nat) (ts sl : List Sl) : Option Sl → C XS Env
  | some (.sh d) => .ret ⟨.sh d :: ts, sl⟩
  | some (.ow _) => .ret ⟨.al i :: ts, sl⟩
  | _ => .bad
/-- a name looked at -/
def rf (i : Nat) : EM := fun e => rfK i e.ts e.sl e.sl[i]?
@[simp] theorem rf_ap (i : Nat) (ts sl : List Sl) : rf i ⟨ts, sl⟩ = rfK i ts sl sl[i]? := (rfl)
@[simp] theorem rfK_sh (i : Nat) (ts sl : List Sl) (d : D) : rfK i ts sl (some (.sh d)) = .ret ⟨.sh d :: ts, sl⟩ := (rfl)
@[simp] theorem rfK_ow (i : Nat) (ts sl : List Sl) (d : D) : rfK i ts sl (some (.ow d)) = .ret ⟨.al i :: ts, sl⟩ := (rfl)
def movK (i : Nat) (ts sl : List Sl) : Option Sl → C XS Env
  | some (.sh d) => .ret ⟨.sh d :: ts, sl⟩
  | some (.ow d) => .ret ⟨.ow d :: ts, sl.set i .unk⟩
  | _ => .bad
/-- a name given up -/
def mov (i : Nat) : EM := fun e => movK i e.ts e.sl e.sl[i]?
@[simp] theorem mov_ap (i : Nat) (ts sl : List Sl) : mov i ⟨ts, sl⟩ = movK i ts sl sl[i]? := (rfl)
@[simp] theorem movK_sh (i : Nat) (ts sl : List Sl) (d : D) : movK i ts sl (some (.sh d)) = .ret ⟨.sh d :: ts, sl⟩ := (rfl)
@[simp] theorem movK_ow (i : Nat) (ts sl : List Sl) (d : D) : movK i ts sl (some (.ow d)) = .ret ⟨.ow d :: ts, sl.set i .unk⟩ := (rfl)

/-! ### operations on the passing values -/
def pushO (r sl : List Sl) : Option Sl → C XS Env
  | some s => .ret ⟨s :: r, sl⟩
  | none => .bad
@[simp] theorem pushO_some (r sl : List Sl) (s : Sl) : pushO r sl (some s) = .ret ⟨s :: r, sl⟩ := (rfl)
@[simp] theorem pushO_none (r sl : List Sl) : pushO r sl none = .bad := (rfl)
def op1 (f : D → Option Sl) : EM := fun e => match e.ts with
  | x :: r => pushO r e.sl ((getV e.sl x).bind f)
  | _ => .bad
@[simp] theorem op1_ap (f : D → Option Sl) (x : Sl) (r sl : List Sl) : op1 f ⟨x :: r, sl⟩ = pushO r sl ((getV sl x).bind f) := (rfl)
def op2 (f : D → D → Option Sl) : EM := fun e => match e.ts with
  | y :: x :: r => pushO r e.sl ((getV e.sl x).bind fun c => (getV e.sl y).bind (f c))
  | _ => .bad
@[simp] theorem op2_ap (f : D → D → Option Sl) (x y : Sl) (r sl : List Sl) : op2 f ⟨y :: x :: r, sl⟩ = pushO r sl ((getV sl x).bind fun c => (getV sl y).bind (f c)) := (rfl)
def op3 (f : D → D → D → Option Sl) : EM := fun e => match e.ts with
  | z :: y :: x :: r => pushO r e.sl ((getV e.sl x).bind fun b => (getV e.sl y).bind fun c => (getV e.sl z).bind (f b c))
  | _ => .bad
@[simp] theorem op3_ap (f : D → D → D → Option Sl) (x y z : Sl) (r sl : List Sl) : op3 f ⟨z :: y :: x :: r, sl⟩ = pushO r sl ((getV sl x).bind fun b => (getV sl y).bind fun c => (getV sl z).bind (f b c)) := (rfl)
def un1 (f : D → Option Sl) (a : EM) : EM := seqE a (op1 f)
def bin (f : D → D → Option Sl) (a b : EM) : EM := seqE a (seqE b (op2 f))
def ter (f : D → D → D → Option Sl) (a b c : EM) : EM := seqE a (seqE b (seqE c (op3 f)))
@[simp] theorem un1_ap (f : D → Option Sl) (a : EM) (e : Env) : un1 f a e = bnd (a e) (op1 f) := (rfl)
@[simp] theorem bin_ap (f : D → D → Option Sl) (a b : EM) (e : Env) : bin f a b e = bnd (a e) (seqE b (op2 f)) := (rfl)
@[simp] theorem ter_ap (f : D → D → D → Option Sl) (a b c : EM) (e : Env) : ter f a b c e = bnd (a e) (seqE b (seqE c (op3 f))) := (rfl)

def okLen {α : Type} (xs : List α) : Bool := decide (xs.length ≤ sizeD)
@[simp] theorem okLen_nil {α : Type} : okLen ([] : List α) = true := (rfl)
@[simp] theorem okLen_1 {α : Type} (a : α) : okLen [a] = true := (rfl)
@[simp] theorem okLen_2 {α : Type} (a b : α) : okLen [a, b] = true := (rfl)
@[simp] theorem okLen_3 {α : Type} (a b c : α) : okLen [a, b, c] = true := (rfl)
@[simp] theorem okLen_4 {α : Type} (a b c d : α) : okLen [a, b, c, d] = true := (rfl)
@[simp] theorem okLen_5 {α : Type} (a b c d e : α) : okLen [a, b, c, d, e] = true := (rfl)
@[simp] theorem okLen_6 {α : Type} (a b c d e f : α) : okLen [a, b, c, d, e, f] = true := (rfl)
@[simp] theorem okLen_7 {α : Type} (a b c d e f g : α) : okLen [a, b, c, d, e, f, g] = true := (rfl)
def shI (i : Int) : Option Sl := some (.sh (.int i))
def shB (b : Bool) : Option Sl := some (.sh (.bl b))
@[simp] theorem shI_ap (i : Int) : shI i = some (.sh (.int i)) := (rfl)
@[simp] theorem shB_ap (b : Bool) : shB b = some (.sh (.bl b)) := (rfl)
def fAdd : D → D → Option Sl
  | .int i, .int j => shI (i + j)
  | .tup xs, .tup ys => if okLen (xs ++ ys) then some (.sh (.tup (xs ++ ys))) else none
  | .lst xs, .lst ys => if okLen (xs ++ ys) then some (.ow (.lst (xs ++ ys))) else none
  | .str x, .str y => if x.cps.size + y.cps.size ≤ sizeD then some (.sh (.str ⟨x.cps ++ y.cps⟩)) else none
  | _, _ => none
@[simp] theorem fAdd_int (i j : Int) : fAdd (.int i) (.int j) = shI (i + j) := (rfl)
@[simp] theorem fAdd_tup (xs ys : List D) : fAdd (.tup xs) (.tup ys) = if okLen (xs ++ ys) then some (.sh (.tup (xs ++ ys))) else none := (rfl)
@[simp] theorem fAdd_lst (xs ys : List D) : fAdd (.lst xs) (.lst ys) = if okLen (xs ++ ys) then some (.ow (.lst (xs ++ ys))) else none := (rfl)
def fAddI : D → D → Option Sl
  | .int i, .int j => shI (i + j)
  | _, _ => none
@[simp] theorem fAddI_int (i j : Int) : fAddI (.int i) (.int j) = shI (i + j) := (rfl)
def fSub : D → D → Option Sl
  | .int i, .int j => shI (i - j)
  | _, _ => none
@[simp] theorem fSub_int (i j : Int) : fSub (.int i) (.int j) = shI (i - j) := (rfl)
def fMul : D → D → Option Sl
  | .int i, .int j => if (-(2 ^ 64) < i ∧ i < 2 ^ 64) ∨ (-(2 ^ 64) < j ∧ j < 2 ^ 64) then shI (i * j) else none
  | .lst xs, .int j => if xs.length * j.toNat ≤ sizeD ∧ -1000000 ≤ j ∧ j ≤ 1000000 then some (.ow (.lst (List.replicate j.toNat xs).flatten)) else none
  | .tup xs, .int j => if xs.length * j.toNat ≤ sizeD ∧ -1000000 ≤ j ∧ j ≤ 1000000 then some (.sh (.tup (List.replicate j.toNat xs).flatten)) else none
  | _, _ => none
@[simp] theorem fMul_int (i j : Int) : fMul (.int i) (.int j) = if (-(2 ^ 64) < i ∧ i < 2 ^ 64) ∨ (-(2 ^ 64) < j ∧ j < 2 ^ 64) then shI (i * j) else none := (rfl)
@[simp] theorem fMul_lst (xs : List D) (j : Int) : fMul (.lst xs) (.int j) = if xs.length * j.toNat ≤ sizeD ∧ -1000000 ≤ j ∧ j ≤ 1000000 then some (.ow (.lst (List.replicate j.toNat xs).flatten)) else none := (rfl)
@[simp] theorem fMul_tup (xs : List D) (j : Int) : fMul (.tup xs) (.int j) = if xs.length * j.toNat ≤ sizeD ∧ -1000000 ≤ j ∧ j ≤ 1000000 then some (.sh (.tup (List.replicate j.toNat xs).flatten)) else none := (rfl)
/-- ints, and lists -/
def fMulL : D → D → Option Sl
  | .int i, .int j => if (-(2 ^ 64) < i ∧ i < 2 ^ 64) ∨ (-(2 ^ 64) < j ∧ j < 2 ^ 64) then shI (i * j) else none
  | .lst xs, .int j => if xs.length * j.toNat ≤ sizeD ∧ -1000000 ≤ j ∧ j ≤ 1000000 then some (.ow (.lst (List.replicate j.toNat xs).flatten)) else none
  | _, _ => none
@[simp] theorem fMulL_int (i j : Int) : fMulL (.int i) (.int j) = if (-(2 ^ 64) < i ∧ i < 2 ^ 64) ∨ (-(2 ^ 64) < j ∧ j < 2 ^ 64) then shI (i * j) else none := (rfl)
@[simp] theorem fMulL_lst (xs : List D) (j : Int) : fMulL (.lst xs) (.int j) = if xs.length * j.toNat ≤ sizeD ∧ -1000000 ≤ j ∧ j ≤ 1000000 then some (.ow (.lst (List.replicate j.toNat xs).flatten)) else none := (rfl)
def fDiv : D → D → Option Sl
  | .int i, .int j => if 0 < j ∧ j < 1073741824 then shI (i / j) else none
  | _, _ => none
@[simp] theorem fDiv_int (i j : Int) : fDiv (.int i) (.int j) = if 0 < j ∧ j < 1073741824 then shI (i / j) else none := (rfl)
def fMod : D → D → Option Sl
  | .int i, .int j => if 0 < j then shI (i % j) else none
  | _, _ => none
@[simp] theorem fMod_int (i j : Int) : fMod (.int i) (.int j) = if 0 < j then shI (i % j) else none := (rfl)
def fPow : D → D → Option Sl
  | .int i, .int j => if 0 ≤ j ∧ j ≤ 1000000 ∧ i.natAbs < 2 ^ 64 then shI (i ^ j.toNat) else none
  | _, _ => none
@[simp] theorem fPow_int (i j : Int) : fPow (.int i) (.int j) = if 0 ≤ j ∧ j ≤ 1000000 ∧ i.natAbs < 2 ^ 64 then shI (i ^ j.toNat) else none := (rfl)
def fNeg : D → Option Sl
  | .int i => shI (-i)
  | _ => none
@[simp] theorem fNeg_int (i : Int) : fNeg (.int i) = shI (-i) := (rfl)
def fNot : D → Option Sl
  | .bl b => shB (!b)
  | _ => none
@[simp] theorem fNot_bl (b : Bool) : fNot (.bl b) = shB (!b) := (rfl)
def fCmp (p : Int → Int → Bool) : D → D → Option Sl
  | .int i, .int j => shB (p i j)
  | _, _ => none
def fLt := fCmp fun i j => decide (i < j)
def fLe := fCmp fun i j => decide (i ≤ j)
def fGt := fCmp fun i j => decide (j < i)
def fGe := fCmp fun i j => decide (j ≤ i)
@[simp] theorem fLt_int (i j : Int) : fLt (.int i) (.int j) = shB (decide (i < j)) := (rfl)
@[simp] theorem fLe_int (i j : Int) : fLe (.int i) (.int j) = shB (decide (i ≤ j)) := (rfl)
@[simp] theorem fGt_int (i j : Int) : fGt (.int i) (.int j) = shB (decide (j < i)) := (rfl)
@[simp] theorem fGe_int (i j : Int) : fGe (.int i) (.int j) = shB (decide (j ≤ i)) := (rfl)
def fEq (x y : D) : Option Sl := if plain 60 x && plain 60 y then shB (eqD x y) else none
def fNe (x y : D) : Option Sl := if plain 60 x && plain 60 y then shB (!eqD x y) else none
@[simp] theorem fEq_int (i j : Int) : fEq (.int i) (.int j) = shB (decide (i = j)) := by
  show shB (i == j) = _
  by_cases h : i = j <;> simp [h]
@[simp] theorem fNe_int (i j : Int) : fNe (.int i) (.int j) = shB (!decide (i = j)) := by
  show shB (!(i == j)) = _
  by_cases h : i = j <;> simp [h]
@[simp] theorem fEq_bl (i j : Bool) : fEq (.bl i) (.bl j) = shB (decide (i = j)) := by
  show shB (i == j) = _
  by_cases h : i = j <;> simp [h]
@[simp] theorem fNe_bl (i j : Bool) : fNe (.bl i) (.bl j) = shB (!decide (i = j)) := by
  show shB (!(i == j)) = _
  by_cases h : i = j <;> simp [h]
def isNon : D → Bool
  | .non => true
  | _ => false
@[simp] theorem isNon_non : isNon .non = true := (rfl)
@[simp] theorem isNon_int (i : Int) : isNon (.int i) = false := (rfl)
@[simp] theorem isNon_bl (i : Bool) : isNon (.bl i) = false := (rfl)
@[simp] theorem isNon_str (i : Str) : isNon (.str i) = false := (rfl)
@[simp] theorem isNon_tup (i : List D) : isNon (.tup i) = false := (rfl)
@[simp] theorem isNon_lst (i : List D) : isNon (.lst i) = false := (rfl)
def fIsN (x : D) : Option Sl := shB (isNon x)
def fNotN (x : D) : Option Sl := shB (!isNon x)
@[simp] theorem fIsN_ap (x : D) : fIsN x = shB (isNon x) := (rfl)
@[simp] theorem fNotN_ap (x : D) : fNotN x = shB (!isNon x) := (rfl)
def isBl (b : Bool) : D → Bool
  | .bl c => b == c
  | _ => false
@[simp] theorem isBl_bl (b c : Bool) : isBl b (.bl c) = (b == c) := (rfl)
@[simp] theorem isBl_int (b : Bool) (i : Int) : isBl b (.int i) = false := (rfl)
@[simp] theorem isBl_non (b : Bool) : isBl b .non = false := (rfl)
@[simp] theorem isBl_str (b : Bool) (s : Str) : isBl b (.str s) = false := (rfl)
@[simp] theorem isBl_tup (b : Bool) (s : List D) : isBl b (.tup s) = false := (rfl)
@[simp] theorem isBl_lst (b : Bool) (s : List D) : isBl b (.lst s) = false := (rfl)
def fIsB (b : Bool) (x : D) : Option Sl := shB (isBl b x)
def fIsnB (b : Bool) (x : D) : Option Sl := shB (!isBl b x)
@[simp] theorem fIsB_ap (b : Bool) (x : D) : fIsB b x = shB (isBl b x) := (rfl)
@[simp] theorem fIsnB_ap (b : Bool) (x : D) : fIsnB b x = shB (!isBl b x) := (rfl)

/-- an int or a text as a key; a tuple of such -/
def keyD : D → Bool
  | .int _ => true
  | .str _ => true
  | _ => false
def keysD : List D → Bool := fun ds => ds.all keyD
def keyOk : D → Bool
  | .tup ds => keysD ds
  | d => keyD d
/-- where a key stands -/
def dFind : List D → List D → D → Option D
  | k :: ks, v :: vs, x => if eqD k x then some v else dFind ks vs x
  | _, _, _ => none
/-- the kinds of dicts: 0 keys are ints and texts, 1 keys are tuples of them -/
def sameK (q : Nat) (x : D) : Bool := match q, x with
  | 0, x => keyD x
  | 1, .tup ds => keysD ds
  | _, _ => false
@[simp] theorem sameK_int (i : Int) : sameK 0 (.int i) = true := (rfl)
@[simp] theorem sameK_str (i : Str) : sameK 0 (.str i) = true := (rfl)
@[simp] theorem sameK_tup (ds : List D) : sameK 1 (.tup ds) = keysD ds := (rfl)
def fIn : D → D → Option Sl
  | x, .lst ys => if plain 60 x && plains 60 ys then shB (ys.any fun y => eqD y x) else none
  | x, .tup ys => if plain 60 x && plains 60 ys then shB (ys.any fun y => eqD y x) else none
  | x, .dct q ks vs => if sameK q x then shB (dFind ks vs x).isSome else none
  | _, _ => none
@[simp] theorem fIn_lst (x : D) (ys : List D) : fIn x (.lst ys) = if plain 60 x && plains 60 ys then shB (ys.any fun y => eqD y x) else none := by cases x <;> rfl
@[simp] theorem fIn_tup (x : D) (ys : List D) : fIn x (.tup ys) = if plain 60 x && plains 60 ys then shB (ys.any fun y => eqD y x) else none := by cases x <;> rfl
@[simp] theorem fIn_dct (x : D) (q : Nat) (ks vs : List D) : fIn x (.dct q ks vs) = if sameK q x then shB (dFind ks vs x).isSome else none := by cases x <;> rfl
def fNotIn (x y : D) : Option Sl := match fIn x y with
  | some (.sh (.bl b)) => shB (!b)
  | _ => none
def ixD (n : Nat) (i : Int) : Option Nat := if 0 ≤ i then (if i < n then some i.toNat else none) else if -(n : Int) ≤ i then some (i + n).toNat else none
def atD {α : Type} (xs : List α) (i : Int) : Option α := (ixD xs.length i).bind fun j => xs[j]?
@[simp] theorem atD_0 {α : Type} (a : α) (xs : List α) : atD (a :: xs) 0 = some a := by simp [atD, ixD]
theorem atD_pos {α : Type} (xs : List α) {i : Int} (h : 0 ≤ i) : atD xs i = xs[i.toNat]? := by
  unfold atD ixD
  rw [if_pos h]
  by_cases c : i < xs.length
  · rw [if_pos c]; rfl
  · rw [if_neg c]
    exact (List.getElem?_eq_none (by omega)).symm
@[simp] theorem atD_1 {α : Type} (a b : α) (xs : List α) : atD (a :: b :: xs) 1 = some b := by rw [atD_pos _ (by decide)]; rfl
@[simp] theorem atD_2 {α : Type} (a b c : α) (xs : List α) : atD (a :: b :: c :: xs) 2 = some c := by rw [atD_pos _ (by decide)]; rfl
@[simp] theorem atD_3 {α : Type} (a b c d : α) (xs : List α) : atD (a :: b :: c :: d :: xs) 3 = some d := by rw [atD_pos _ (by decide)]; rfl
theorem atD_nat {α : Type} (xs : List α) (i : Nat) : atD xs (i : Int) = xs[i]? := by rw [atD_pos _ (by omega)]; simp
def fIx : D → D → Option Sl
  | .lst xs, .int i => (atD xs i).map .sh
  | .tup xs, .int i => (atD xs i).map .sh
  | .str s, .int i => if s.cps.size ≤ sizeD then (atD s.cps.toList i).map fun c => .sh (.str ⟨#[c]⟩) else none
  | .dct q ks vs, k => if sameK q k then (dFind ks vs k).map .sh else none
  | _, _ => none
@[simp] theorem fIx_lst (xs : List D) (i : Int) : fIx (.lst xs) (.int i) = (atD xs i).map .sh := (rfl)
@[simp] theorem fIx_tup (xs : List D) (i : Int) : fIx (.tup xs) (.int i) = (atD xs i).map .sh := (rfl)
@[simp] theorem fIx_dct (q : Nat) (ks vs : List D) (k : D) : fIx (.dct q ks vs) k = if sameK q k then (dFind ks vs k).map .sh else none := (rfl)
def sIxD (n d : Nat) : Option Int → Nat
  | none => d
  | some i => if i < 0 then (i + (n : Int)).toNat else min i.toNat n
def cutD {α : Type} (xs : List α) (lo hi : Option Int) : List α := (xs.drop (sIxD xs.length 0 lo)).take (sIxD xs.length xs.length hi - sIxD xs.length 0 lo)
def optI : D → Option (Option Int)
  | .non => some none
  | .int i => some (some i)
  | _ => none
def fSl : D → D → D → Option Sl
  | .lst xs, l, h => (optI l).bind fun lo => (optI h).bind fun hi => some (.ow (.lst (cutD xs lo hi)))
  | .tup xs, l, h => (optI l).bind fun lo => (optI h).bind fun hi => some (.sh (.tup (cutD xs lo hi)))
  | _, _, _ => none
@[simp] theorem optI_non : optI .non = some none := (rfl)
@[simp] theorem optI_int (i : Int) : optI (.int i) = some (some i) := (rfl)
@[simp] theorem fSl_lst (xs : List D) (l h : D) : fSl (.lst xs) l h = (optI l).bind fun lo => (optI h).bind fun hi => some (.ow (.lst (cutD xs lo hi))) := (rfl)
@[simp] theorem fSl_tup (xs : List D) (l h : D) : fSl (.tup xs) l h = (optI l).bind fun lo => (optI h).bind fun hi => some (.sh (.tup (cutD xs lo hi))) := (rfl)
@[simp] theorem cutD_lo {α : Type} (xs : List α) (n : Nat) : cutD xs (some (n : Int)) none = xs.drop n := by
  simp only [cutD, sIxD, if_neg (show ¬ (n : Int) < 0 by omega), Int.toNat_natCast]
  by_cases h : n ≤ xs.length
  · rw [Nat.min_eq_left h, List.take_of_length_le]; simp
  · rw [Nat.min_eq_right (by omega), List.drop_of_length_le (Nat.le_refl _), List.drop_of_length_le (by omega)]; simp
@[simp] theorem cutD_hi {α : Type} (xs : List α) (n : Nat) : cutD xs none (some (n : Int)) = xs.take n := by
  simp only [cutD, sIxD, if_neg (show ¬ (n : Int) < 0 by omega), Int.toNat_natCast, List.drop_zero, Nat.sub_zero]
  by_cases h : n ≤ xs.length
  · rw [Nat.min_eq_left h]
  · rw [Nat.min_eq_right (by omega), List.take_of_length_le (Nat.le_refl _), List.take_of_length_le (by omega)]
def fLen : D → Option Sl
  | .lst xs => shI xs.length
  | .tup xs => shI xs.length
  | .dct 0 ks _ => shI ks.length
  | .dct 1 ks _ => shI ks.length
  | .str s => if s.cps.size ≤ sizeD then shI s.cps.size else none
  | _ => none
@[simp] theorem fLen_lst (xs : List D) : fLen (.lst xs) = shI xs.length := (rfl)
@[simp] theorem fLen_tup (xs : List D) : fLen (.tup xs) = shI xs.length := (rfl)
@[simp] theorem fLen_d0 (ks vs : List D) : fLen (.dct 0 ks vs) = shI ks.length := (rfl)
@[simp] theorem fLen_d1 (ks vs : List D) : fLen (.dct 1 ks vs) = shI ks.length := (rfl)
def fList : D → Option Sl
  | .lst xs => some (.ow (.lst xs))
  | .tup xs => some (.ow (.lst xs))
  | _ => none
@[simp] theorem fList_lst (xs : List D) : fList (.lst xs) = some (.ow (.lst xs)) := (rfl)
@[simp] theorem fList_tup (xs : List D) : fList (.tup xs) = some (.ow (.lst xs)) := (rfl)
def fTuple : D → Option Sl
  | .lst xs => some (.sh (.tup xs))
  | .tup xs => some (.sh (.tup xs))
  | _ => none
@[simp] theorem fTuple_lst (xs : List D) : fTuple (.lst xs) = some (.sh (.tup xs)) := (rfl)
@[simp] theorem fTuple_tup (xs : List D) : fTuple (.tup xs) = some (.sh (.tup xs)) := (rfl)
def asInts : List D → Option (List Int)
  | [] => some []
  | .int i :: r => (asInts r).map (i :: ·)
  | _ => none
@[simp] theorem asInts_nil : asInts [] = some [] := (rfl)
@[simp] theorem asInts_cons (i : Int) (r : List D) : asInts (.int i :: r) = (asInts r).map (i :: ·) := (rfl)
@[simp] theorem asInts_map : ∀ ns : List Int, asInts (ns.map .int) = some ns
  | [] => rfl
  | n :: ns => by simp [asInts_map ns]
def asBools : List D → Option (List Bool)
  | [] => some []
  | .bl i :: r => (asBools r).map (i :: ·)
  | _ => none
@[simp] theorem asBools_nil : asBools [] = some [] := (rfl)
@[simp] theorem asBools_cons (i : Bool) (r : List D) : asBools (.bl i :: r) = (asBools r).map (i :: ·) := (rfl)
@[simp] theorem asBools_map : ∀ ns : List Bool, asBools (ns.map .bl) = some ns
  | [] => rfl
  | n :: ns => by simp [asBools_map ns]
def fSum : D → Option Sl
  | .lst xs => (asInts xs).bind fun ns => shI ns.sum
  | .tup xs => (asInts xs).bind fun ns => shI ns.sum
  | _ => none
@[simp] theorem fSum_lst (xs : List D) : fSum (.lst xs) = (asInts xs).bind fun ns => shI ns.sum := (rfl)
@[simp] theorem fSum_tup (xs : List D) : fSum (.tup xs) = (asInts xs).bind fun ns => shI ns.sum := (rfl)
def fAll : D → Option Sl
  | .lst xs => (asBools xs).bind fun bs => shB (bs.all id)
  | _ => none
@[simp] theorem fAll_lst (xs : List D) : fAll (.lst xs) = (asBools xs).bind fun bs => shB (bs.all id) := (rfl)
def fAny : D → Option Sl
  | .lst xs => (asBools xs).bind fun bs => shB (bs.any id)
  | _ => none
@[simp] theorem fAny_lst (xs : List D) : fAny (.lst xs) = (asBools xs).bind fun bs => shB (bs.any id) := (rfl)
def maxI : List Int → Int
  | [] => 0
  | [a] => a
  | a :: r => let m := maxI r; if m > a then m else a
def minI : List Int → Int
  | [] => 0
  | [a] => a
  | a :: r => let m := minI r; if m < a then m else a
def fMax : D → Option Sl
  | .lst xs => (asInts xs).bind fun ns => if ns = [] then none else shI (maxI ns)
  | _ => none
@[simp] theorem fMax_lst (xs : List D) : fMax (.lst xs) = (asInts xs).bind fun ns => if ns = [] then none else shI (maxI ns) := (rfl)
def fMin : D → Option Sl
  | .lst xs => (asInts xs).bind fun ns => if ns = [] then none else shI (minI ns)
  | _ => none
@[simp] theorem fMin_lst (xs : List D) : fMin (.lst xs) = (asInts xs).bind fun ns => if ns = [] then none else shI (minI ns) := (rfl)
def fMax2 : D → D → Option Sl
  | .int i, .int j => shI (if j > i then j else i)
  | _, _ => none
@[simp] theorem fMax2_int (i j : Int) : fMax2 (.int i) (.int j) = shI (if j > i then j else i) := (rfl)
def fMin2 : D → D → Option Sl
  | .int i, .int j => shI (if j < i then j else i)
  | _, _ => none
@[simp] theorem fMin2_int (i j : Int) : fMin2 (.int i) (.int j) = shI (if j < i then j else i) := (rfl)
def fAbs : D → Option Sl
  | .int i => shI (if i < 0 then -i else i)
  | _ => none
@[simp] theorem fAbs_int (i : Int) : fAbs (.int i) = shI (if i < 0 then -i else i) := (rfl)
def fInt : D → Option Sl
  | .int i => shI i
  | .bl b => shI (if b then 1 else 0)
  | _ => none
@[simp] theorem fInt_int (i : Int) : fInt (.int i) = shI i := (rfl)
@[simp] theorem fInt_bl (b : Bool) : fInt (.bl b) = shI (if b then 1 else 0) := (rfl)
def insSort : List Int → List Int
  | [] => []
  | a :: r => ins1 a (insSort r)
where ins1 (a : Int) : List Int → List Int
  | [] => [a]
  | b :: r => if a ≤ b then a :: b :: r else b :: ins1 a r
def fSorted : D → Option Sl
  | .lst xs => (asInts xs).bind fun ns => some (.ow (.lst ((insSort ns).map .int)))
  | _ => none
@[simp] theorem fSorted_lst (xs : List D) : fSorted (.lst xs) = (asInts xs).bind fun ns => some (.ow (.lst ((insSort ns).map .int))) := (rfl)
inductive Ty | int | bool | str | tuple | list | dict | own (c : Nat)
def isTy : Ty → D → Option Bool
  | .own c, .ins c' _ _ => some (c == c')
  | _, .ins _ _ _ => none
  | _, .abs _ _ => none
  | _, .fn _ => none
  | _, .dct _ _ _ => none
  | _, .loc _ => none
  | .int, .int _ => some true
  | .int, .bl _ => some true
  | .bool, .bl _ => some true
  | .str, .str _ => some true
  | .tuple, .tup _ => some true
  | .list, .lst _ => some true
  | .own _, _ => none
  | _, _ => some false
@[simp] theorem isTy_int_int (i : Int) : isTy .int (.int i) = some true := (rfl)
@[simp] theorem isTy_int_bl (i : Bool) : isTy .int (.bl i) = some true := (rfl)
@[simp] theorem isTy_int_non  : isTy .int .non = some false := (rfl)
@[simp] theorem isTy_int_str (i : Str) : isTy .int (.str i) = some false := (rfl)
@[simp] theorem isTy_int_tup (i : List D) : isTy .int (.tup i) = some false := (rfl)
@[simp] theorem isTy_int_lst (i : List D) : isTy .int (.lst i) = some false := (rfl)
@[simp] theorem isTy_bool_int (i : Int) : isTy .bool (.int i) = some false := (rfl)
@[simp] theorem isTy_bool_bl (i : Bool) : isTy .bool (.bl i) = some true := (rfl)
@[simp] theorem isTy_bool_non  : isTy .bool .non = some false := (rfl)
@[simp] theorem isTy_bool_str (i : Str) : isTy .bool (.str i) = some false := (rfl)
@[simp] theorem isTy_bool_tup (i : List D) : isTy .bool (.tup i) = some false := (rfl)
@[simp] theorem isTy_bool_lst (i : List D) : isTy .bool (.lst i) = some false := (rfl)
@[simp] theorem isTy_str_int (i : Int) : isTy .str (.int i) = some false := (rfl)
@[simp] theorem isTy_str_bl (i : Bool) : isTy .str (.bl i) = some false := (rfl)
@[simp] theorem isTy_str_non  : isTy .str .non = some false := (rfl)
@[simp] theorem isTy_str_str (i : Str) : isTy .str (.str i) = some true := (rfl)
@[simp] theorem isTy_str_tup (i : List D) : isTy .str (.tup i) = some false := (rfl)
@[simp] theorem isTy_str_lst (i : List D) : isTy .str (.lst i) = some false := (rfl)
@[simp] theorem isTy_tuple_int (i : Int) : isTy .tuple (.int i) = some false := (rfl)
@[simp] theorem isTy_tuple_bl (i : Bool) : isTy .tuple (.bl i) = some false := (rfl)
@[simp] theorem isTy_tuple_non  : isTy .tuple .non = some false := (rfl)
@[simp] theorem isTy_tuple_str (i : Str) : isTy .tuple (.str i) = some false := (rfl)
@[simp] theorem isTy_tuple_tup (i : List D) : isTy .tuple (.tup i) = some true := (rfl)
@[simp] theorem isTy_tuple_lst (i : List D) : isTy .tuple (.lst i) = some false := (rfl)
@[simp] theorem isTy_list_int (i : Int) : isTy .list (.int i) = some false := (rfl)
@[simp] theorem isTy_list_bl (i : Bool) : isTy .list (.bl i) = some false := (rfl)
@[simp] theorem isTy_list_non  : isTy .list .non = some false := (rfl)
@[simp] theorem isTy_list_str (i : Str) : isTy .list (.str i) = some false := (rfl)
@[simp] theorem isTy_list_tup (i : List D) : isTy .list (.tup i) = some false := (rfl)
@[simp] theorem isTy_list_lst (i : List D) : isTy .list (.lst i) = some true := (rfl)
@[simp] theorem isTy_own (c c' : Nat) (ns : List Nat) (vs : List D) : isTy (.own c) (.ins c' ns vs) = some (c == c') := (rfl)
def fIsi (t : Ty) (d : D) : Option Sl := (isTy t d).bind shB

@[simp] theorem fIsi_ap (t : Ty) (d : D) : fIsi t d = (isTy t d).bind shB := (rfl)
def fIsO (c : Nat) : D → Option Sl
  | .ins c' _ _ => if c = c' then shB true else none
  | _ => none
@[simp] theorem fIsO_ins (c c' : Nat) (ns : List Nat) (vs : List D) : fIsO c (.ins c' ns vs) = if c = c' then shB true else none := (rfl)
/-- a field -/
def fldD : List Nat → List D → Nat → Option D
  | n :: ns, v :: vs, x => if n = x then some v else fldD ns vs x
  | _, _, _ => none
@[simp] theorem fldD_cons (n : Nat) (ns : List Nat) (v : D) (vs : List D) (x : Nat) : fldD (n :: ns) (v :: vs) x = if n = x then some v else fldD ns vs x := (rfl)
def fFld (c f : Nat) : D → Option Sl
  | .ins c' ns vs => if c = c' then (fldD ns vs f).map .sh else none
  | _ => none
@[simp] theorem fFld_ins (c f c' : Nat) (ns : List Nat) (vs : List D) : fFld c f (.ins c' ns vs) = if c = c' then (fldD ns vs f).map .sh else none := (rfl)
def exK (f : Nat) (ts sl : List Sl) : Option Sl → C XS Env
  | some (.exc x) => pushO ts sl ((fldD x.ns x.vs f).map .sh)
  | _ => .bad
/-- a field of a caught error -/
def exF (i : Nat) (f : Nat) : EM := fun e => exK f e.ts e.sl e.sl[i]?
@[simp] theorem exF_ap (i : Nat) (f : Nat) (ts sl : List Sl) : exF i f ⟨ts, sl⟩ = exK f ts sl sl[i]? := (rfl)
@[simp] theorem exK_exc (f : Nat) (ts sl : List Sl) (x : Exc) : exK f ts sl (some (.exc x)) = pushO ts sl ((fldD x.ns x.vs f).map .sh) := (rfl)

/-- an end of a slice -/
def prtK (e : Env) : C XS Env := match e.ts with
  | .sh (.int _) :: _ => .ret e
  | _ => .bad
@[simp] theorem prtK_int (i : Int) (r sl : List Sl) : prtK ⟨.sh (.int i) :: r, sl⟩ = .ret ⟨.sh (.int i) :: r, sl⟩ := (rfl)
def prt (m : EM) : EM := fun e => bnd (m e) prtK
@[simp] theorem prt_ap (m : EM) (e : Env) : prt m e = bnd (m e) prtK := (rfl)
def slcE (a lo hi : EM) : EM := fun e => bnd (a e) (seqE lo (seqE hi (op3 fSl)))
@[simp] theorem slcE_ap (a lo hi : EM) (e : Env) : slcE a lo hi e = bnd (a e) (seqE lo (seqE hi (op3 fSl))) := (rfl)

/-! ### tests, choices -/
def iteC {ε α : Type} (b : Bool) (x y : C ε α) : C ε α := match b with
  | true => x
  | false => y
@[simp] theorem iteC_t {ε α : Type} (x y : C ε α) : iteC true x y = x := (rfl)
@[simp] theorem iteC_f {ε α : Type} (x y : C ε α) : iteC false x y = y := (rfl)
@[simp ↓] theorem iteC_pos {ε α : Type} {b : Bool} (h : b = true) (x y : C ε α) : iteC b x y = x := by rw [h]; rfl
@[simp ↓] theorem iteC_neg {ε α : Type} {b : Bool} (h : b = false) (x y : C ε α) : iteC b x y = y := by rw [h]; rfl
theorem iteC_congr {ε α : Type} {b b' : Bool} (h : b = b') (x y : C ε α) : iteC b x y = iteC b' x y := h ▸ rfl
theorem wp_iteC {ε α : Type} (b : Bool) (x y : C ε α) (s : Sto) (k : α → Sto → Prop) (z : ε → Sto → Prop) : wp (iteC b x y) s k z = if b then wp x s k z else wp y s k z := by cases b <;> rfl
@[simp] theorem wq_iteC {ε α : Type} (b : Bool) (x y : C ε α) (s : Sto) (k : α → Sto → Prop) (z : ε → Sto → Prop) : Wq (iteC b x y) s k z = if b then Wq x s k z else Wq y s k z := by cases b <;> rfl
/-- the passing truth decides -/
def tstK (r sl : List Sl) (t f : EM) : Option D → C XS Env
  | some (.bl b) => iteC b (t ⟨r, sl⟩) (f ⟨r, sl⟩)
  | _ => .bad
@[simp] theorem tstK_bl (r sl : List Sl) (t f : EM) (b : Bool) : tstK r sl t f (some (.bl b)) = iteC b (t ⟨r, sl⟩) (f ⟨r, sl⟩) := (rfl)
def tst (t f : EM) : EM := fun e => match e.ts with
  | x :: r => tstK r e.sl t f (getV e.sl x)
  | _ => .bad
@[simp] theorem tst_ap (t f : EM) (x : Sl) (r sl : List Sl) : tst t f ⟨x :: r, sl⟩ = tstK r sl t f (getV sl x) := (rfl)
def andE (a b : EM) : EM := fun e => bnd (a e) (tst b (cst (.bl false)))
def orE (a b : EM) : EM := fun e => bnd (a e) (tst (cst (.bl true)) b)
def ifE (c a b : EM) : EM := fun e => bnd (c e) (tst a b)
@[simp] theorem andE_ap (a b : EM) (e : Env) : andE a b e = bnd (a e) (tst b (cst (.bl false))) := (rfl)
@[simp] theorem orE_ap (a b : EM) (e : Env) : orE a b e = bnd (a e) (tst (cst (.bl true)) b) := (rfl)
@[simp] theorem ifE_ap (c a b : EM) (e : Env) : ifE c a b e = bnd (c e) (tst a b) := (rfl)
def chnK (g : D → D → Option Sl) (c : EM) (y : Sl) (r sl : List Sl) : Option Sl → C XS Env
  | some (.sh (.bl t)) => iteC t (bnd (c ⟨y :: r, sl⟩) (op2 g)) (.ret ⟨.sh (.bl false) :: r, sl⟩)
  | _ => .bad
@[simp] theorem chnK_bl (g : D → D → Option Sl) (c : EM) (y : Sl) (r sl : List Sl) (t : Bool) : chnK g c y r sl (some (.sh (.bl t))) = iteC t (bnd (c ⟨y :: r, sl⟩) (op2 g)) (.ret ⟨.sh (.bl false) :: r, sl⟩) := (rfl)
def chnM (f g : D → D → Option Sl) (c : EM) : EM := fun e => match e.ts with
  | y :: z :: r => chnK g c y r e.sl ((getV e.sl z).bind fun p => (getV e.sl y).bind (f p))
  | _ => .bad
@[simp] theorem chnM_ap (f g : D → D → Option Sl) (c : EM) (y z : Sl) (r sl : List Sl) : chnM f g c ⟨y :: z :: r, sl⟩ = chnK g c y r sl ((getV sl z).bind fun p => (getV sl y).bind (f p)) := (rfl)
/-- a < b < c -/
def chn (f g : D → D → Option Sl) (a b c : EM) : EM := fun e => bnd (a e) (seqE b (chnM f g c))
@[simp] theorem chn_ap (f g : D → D → Option Sl) (a b c : EM) (e : Env) : chn f g a b c e = bnd (a e) (seqE b (chnM f g c)) := (rfl)

/-! ### displays -/
def argE : List EM → EM
  | [] => fun e => .ret e
  | a :: r => seqE a (argE r)
@[simp] theorem argE_nil (e : Env) : argE [] e = .ret e := (rfl)
@[simp] theorem argE_cons (a : EM) (r : List EM) (e : Env) : argE (a :: r) e = bnd (a e) (argE r) := (rfl)
/-- n passing values, in their order -/
def takeV (sl : List Sl) : Nat → List Sl → List D → Option (List D × List Sl)
  | 0, ts, acc => some (acc, ts)
  | n + 1, x :: ts, acc => (getV sl x).bind fun d => takeV sl n ts (d :: acc)
  | _, _, _ => none
@[simp] theorem takeV_0 (sl ts : List Sl) (acc : List D) : takeV sl 0 ts acc = some (acc, ts) := by cases ts <;> rfl
@[simp] theorem takeV_s (sl ts : List Sl) (n : Nat) (x : Sl) (acc : List D) : takeV sl (n + 1) (x :: ts) acc = (getV sl x).bind fun d => takeV sl n ts (d :: acc) := (rfl)
def frzA : List Sl → List Sl → List Sl
  | [], sl => sl
  | .al i :: r, sl => frzA r (frz i sl)
  | _ :: r, sl => frzA r sl
@[simp] theorem frzA_nil (sl : List Sl) : frzA [] sl = sl := (rfl)
@[simp] theorem frzA_al (i : Nat) (r sl : List Sl) : frzA (.al i :: r) sl = frzA r (frzK i sl sl[i]?) := (rfl)
@[simp] theorem frzA_sh (d : D) (r sl : List Sl) : frzA (.sh d :: r) sl = frzA r sl := (rfl)
@[simp] theorem frzA_ow (d : D) (r sl : List Sl) : frzA (.ow d :: r) sl = frzA r sl := (rfl)
def argK (ts sl : List Sl) (n : Nat) (f : List D → List Sl → List Sl → List Sl → C XS Env) : Option (List D × List Sl) → C XS Env
  | some (ds, r) => f ds r (frzA (ts.take n) sl) sl
  | none => .bad
@[simp] theorem argK_some (ts sl : List Sl) (n : Nat) (f : List D → List Sl → List Sl → List Sl → C XS Env) (ds : List D) (r : List Sl) : argK ts sl n f (some (ds, r)) = f ds r (frzA (ts.take n) sl) sl := (rfl)
def argM (n : Nat) (f : List D → List Sl → List Sl → List Sl → C XS Env) : EM := fun e => argK e.ts e.sl n f (takeV e.sl n e.ts [])
@[simp] theorem argM_ap (n : Nat) (f : List D → List Sl → List Sl → List Sl → C XS Env) (ts sl : List Sl) : argM n f ⟨ts, sl⟩ = argK ts sl n f (takeV sl n ts []) := (rfl)
/-- the arguments: their data, what passes below them, the names with the arguments frozen, the names as they are -/
def withA (as : List EM) (f : List D → List Sl → List Sl → List Sl → C XS Env) : EM := fun e => bnd (argE as e) (argM as.length f)
@[simp] theorem withA_ap (as : List EM) (f : List D → List Sl → List Sl → List Sl → C XS Env) (e : Env) : withA as f e = bnd (argE as e) (argM as.length f) := (rfl)
def tupK (ds : List D) (r slf _sl : List Sl) : C XS Env := iteC (okLen ds) (.ret ⟨.sh (.tup ds) :: r, slf⟩) .bad
def lstK (ds : List D) (r slf _sl : List Sl) : C XS Env := iteC (okLen ds) (.ret ⟨.ow (.lst ds) :: r, slf⟩) .bad
@[simp] theorem tupK_ap (ds : List D) (r slf sl : List Sl) : tupK ds r slf sl = iteC (okLen ds) (.ret ⟨.sh (.tup ds) :: r, slf⟩) .bad := (rfl)
@[simp] theorem lstK_ap (ds : List D) (r slf sl : List Sl) : lstK ds r slf sl = iteC (okLen ds) (.ret ⟨.ow (.lst ds) :: r, slf⟩) .bad := (rfl)
def tupE (as : List EM) : EM := withA as tupK
def lstE (as : List EM) : EM := withA as lstK
@[simp] theorem tupE_ap (as : List EM) (e : Env) : tupE as e = bnd (argE as e) (argM as.length tupK) := (rfl)
@[simp] theorem lstE_ap (as : List EM) (e : Env) : lstE as e = bnd (argE as e) (argM as.length lstK) := (rfl)
def newD (q : Nat) : EM := fun e => .ret ⟨.ow (.dct q [] []) :: e.ts, e.sl⟩
@[simp] theorem newD_ap (q : Nat) (ts sl : List Sl) : newD q ⟨ts, sl⟩ = .ret ⟨.ow (.dct q [] []) :: ts, sl⟩ := (rfl)

/-! ### calls -/
def noAl : Sl → Bool
  | .sh d => noMut d
  | .ow (.lst ds) => noMuts ds
  | _ => false
@[simp] theorem noAl_sh (d : D) : noAl (.sh d) = noMut d := (rfl)
@[simp] theorem noAl_lst (ds : List D) : noAl (.ow (.lst ds)) = noMuts ds := (rfl)
@[simp] theorem noAl_ins (c : Nat) (ns : List Nat) (vs : List D) : noAl (.ow (.ins c ns vs)) = false := (rfl)
@[simp] theorem noAl_dct (q : Nat) (ks vs : List D) : noAl (.ow (.dct q ks vs)) = false := (rfl)
def callT (r slf sl : List Sl) (s : Sl) : C XS Env := .ret ⟨s :: r, if noAl s then sl else slf⟩
@[simp] theorem callT_ap (r slf sl : List Sl) (s : Sl) : callT r slf sl s = .ret ⟨s :: r, if noAl s then sl else slf⟩ := (rfl)
def callR (f : Fn) (ds : List D) (r slf sl : List Sl) : C XS Env := bnd (reX (fun z => (z, slf)) (shut (f ds))) (callT r slf sl)
@[simp] theorem callR_ap (f : Fn) (ds : List D) (r slf sl : List Sl) : callR f ds r slf sl = bnd (reX (fun z => (z, slf)) (shut (f ds))) (callT r slf sl) := (rfl)
/-- f(..) of a def of the program -/
def callE (f : Fn) (as : List EM) : EM := withA as (callR f)
@[simp] theorem callE_ap (f : Fn) (as : List EM) (e : Env) : callE f as e = bnd (argE as e) (argM as.length (callR f)) := (rfl)
/-- a value that can be kept -/
def isV : Sl → Bool
  | .sh _ => true
  | .ow _ => true
  | _ => false
@[simp] theorem isV_sh (d : D) : isV (.sh d) = true := (rfl)
@[simp] theorem isV_ow (d : D) : isV (.ow d) = true := (rfl)
/-- f(..) of a def that knows no store, where there is one -/
def callPT (r slf sl : List Sl) (s : Sl) : C XS Env := iteC (isV s) (.ret ⟨s :: r, if noAl s then sl else slf⟩) .bad
@[simp] theorem callPT_ap (r slf sl : List Sl) (s : Sl) : callPT r slf sl s = iteC (isV s) (.ret ⟨s :: r, if noAl s then sl else slf⟩) .bad := (rfl)
def callPR (f : Fn) (ds : List D) (r slf sl : List Sl) : C XS Env := iteC (noLocs ds) (bnd (reX (fun z => (z, slf)) (shut (f ds))) (callPT r slf sl)) .bad
@[simp] theorem callPR_ap (f : Fn) (ds : List D) (r slf sl : List Sl) : callPR f ds r slf sl = iteC (noLocs ds) (bnd (reX (fun z => (z, slf)) (shut (f ds))) (callPT r slf sl)) .bad := (rfl)
def callP (f : Fn) (as : List EM) : EM := withA as (callPR f)
@[simp] theorem callP_ap (f : Fn) (as : List EM) (e : Env) : callP f as e = bnd (argE as e) (argM as.length (callPR f)) := (rfl)
/-- f(..) of a def that may change the store -/
def callGT (r slf : List Sl) (s : Sl) : C XS Env := iteC (isV s) (.ret ⟨s :: r, slf⟩) .bad
@[simp] theorem callGT_ap (r slf : List Sl) (s : Sl) : callGT r slf s = iteC (isV s) (.ret ⟨s :: r, slf⟩) .bad := (rfl)
def callGR (f : Fn) (ds : List D) (r slf _sl : List Sl) : C XS Env := bnd (reX (fun z => (z, slf)) (f ds)) (callGT r slf)
@[simp] theorem callGR_ap (f : Fn) (ds : List D) (r slf sl : List Sl) : callGR f ds r slf sl = bnd (reX (fun z => (z, slf)) (f ds)) (callGT r slf) := (rfl)
def callG (f : Fn) (as : List EM) : EM := withA as (callGR f)
@[simp] theorem callG_ap (f : Fn) (as : List EM) (e : Env) : callG f as e = bnd (argE as e) (argM as.length (callGR f)) := (rfl)
def isIns (c : Nat) : List D → Bool
  | .ins c' _ _ :: _ => c == c'
  | _ => false
@[simp] theorem isIns_ins (c c' : Nat) (ns : List Nat) (vs r : List D) : isIns c (.ins c' ns vs :: r) = (c == c') := (rfl)
abbrev CR := Fn → List D → List Sl → List Sl → List Sl → C XS Env
def metRX (R : CR) (c : Nat) (f : Fn) (ds : List D) (r slf sl : List Sl) : C XS Env := iteC (isIns c ds) (R f ds r slf sl) .bad
@[simp] theorem metRX_ap (R : CR) (c : Nat) (f : Fn) (ds : List D) (r slf sl : List Sl) : metRX R c f ds r slf sl = iteC (isIns c ds) (R f ds r slf sl) .bad := (rfl)
def isIn (c : Nat) : Option D → Bool
  | some (.ins c' _ _) => c == c'
  | _ => false
@[simp] theorem isIn_ins (c c' : Nat) (ns : List Nat) (vs : List D) : isIn c (some (.ins c' ns vs)) = (c == c') := (rfl)
def insK (c : Nat) (k : EM) : EM := fun e => match e.ts with
  | s :: _ => iteC (isIn c (getV e.sl s)) (k e) .bad
  | _ => .bad
@[simp] theorem insK_ap (c : Nat) (k : EM) (s : Sl) (r sl : List Sl) : insK c k ⟨s :: r, sl⟩ = iteC (isIn c (getV sl s)) (k ⟨s :: r, sl⟩) .bad := (rfl)
/-- o.m(..) of an object of the class c -/
def metX (R : CR) (c : Nat) (f : Fn) (o : EM) (as : List EM) : EM := fun e => bnd (o e) (insK c (seqE (argE as) (argM (as.length + 1) (metRX R c f))))
@[simp] theorem metX_ap (R : CR) (c : Nat) (f : Fn) (o : EM) (as : List EM) (e : Env) : metX R c f o as e = bnd (o e) (insK c (seqE (argE as) (argM (as.length + 1) (metRX R c f)))) := (rfl)
abbrev metE := metX callR
abbrev metP := metX callPR
abbrev metG := metX callGR
/-- a + b by an own operator, both of the class c -/
def bopRX (R : CR) (c : Nat) (f : Fn) (ds : List D) (r slf sl : List Sl) : C XS Env := match ds with
  | [x, y] => iteC (isIns c [x] && isIns c [y]) (R f [x, y] r slf sl) .bad
  | _ => .bad
@[simp] theorem bopRX_ap (R : CR) (c : Nat) (f : Fn) (x y : D) (r slf sl : List Sl) : bopRX R c f [x, y] r slf sl = iteC (isIns c [x] && isIns c [y]) (R f [x, y] r slf sl) .bad := (rfl)
def bopX (R : CR) (c : Nat) (f : Fn) (a b : EM) : EM := withA [a, b] (bopRX R c f)
@[simp] theorem bopX_ap (R : CR) (c : Nat) (f : Fn) (a b : EM) (e : Env) : bopX R c f a b e = bnd (argE [a, b] e) (argM 2 (bopRX R c f)) := (rfl)
abbrev bopE := bopX callR
abbrev bopP := bopX callPR
/-- no error comes -/
def noX {ε ε' α : Type} (m : C ε α) : C ε' α := cat m fun _ => .bad
@[simp] theorem noX_ret {ε ε' α : Type} (a : α) : noX (.ret a : C ε α) = (.ret a : C ε' α) := (rfl)
theorem wp_noX {ε ε' α : Type} (m : C ε α) (s : Sto) (k : α → Sto → Prop) (x : ε' → Sto → Prop) : wp (noX m) s k x = wp m s k fun _ _ => False := by rw [noX, wp_cat]; rfl
@[simp] theorem wq_noX {ε ε' α : Type} (m : C ε α) (s : Sto) (k : α → Sto → Prop) (x : ε' → Sto → Prop) : Wq (noX m) s k x = Wq m s k fun _ _ => False := by simp only [wq_iff, wp_noX]
@[simp] theorem noX_draw {ε ε' α : Type} (n : Int) (g : Int → C ε α) : noX (.draw n g) = (.draw n fun i => noX (g i) : C ε' α) := (rfl)
/-- a truth comes -/
def blT (neg : Bool) (r sl : List Sl) : Sl → C XS Env
  | .sh (.bl t) => .ret ⟨.sh (.bl (if neg then !t else t)) :: r, sl⟩
  | _ => .bad
@[simp] theorem blT_ap (neg t : Bool) (r sl : List Sl) : blT neg r sl (.sh (.bl t)) = .ret ⟨.sh (.bl (if neg then !t else t)) :: r, sl⟩ := (rfl)
/-- a == b, a != b by an own __eq__ (chk: where there is a store) -/
def cmpRX (chk neg : Bool) (c : Nat) (f : Fn) (ds : List D) (r _slf sl : List Sl) : C XS Env := match ds with
  | [x, y] => iteC (isIns c [x] && isIns c [y] && (!chk || noLocs [x, y])) (bnd (noX (shut (f [x, y]))) (blT neg r sl)) .bad
  | _ => .bad
@[simp] theorem cmpRX_ap (chk neg : Bool) (c : Nat) (f : Fn) (x y : D) (r slf sl : List Sl) : cmpRX chk neg c f [x, y] r slf sl = iteC (isIns c [x] && isIns c [y] && (!chk || noLocs [x, y])) (bnd (noX (shut (f [x, y]))) (blT neg r sl)) .bad := (rfl)
def cmpX (chk neg : Bool) (c : Nat) (f : Fn) (a b : EM) : EM := withA [a, b] (cmpRX chk neg c f)
@[simp] theorem cmpX_ap (chk neg : Bool) (c : Nat) (f : Fn) (a b : EM) (e : Env) : cmpX chk neg c f a b e = bnd (argE [a, b] e) (argM 2 (cmpRX chk neg c f)) := (rfl)
abbrev cmpO := cmpX false
abbrev cmpP := cmpX true
/-- x in o, x not in o of an object of the class c -/
def inRX (chk neg : Bool) (c : Nat) (f : Fn) (ds : List D) (r _slf sl : List Sl) : C XS Env := match ds with
  | [x, o] => iteC (isIns c [o] && (!chk || noLocs [o, x])) (bnd (noX (shut (f [o, x]))) (blT neg r sl)) .bad
  | _ => .bad
@[simp] theorem inRX_ap (chk neg : Bool) (c : Nat) (f : Fn) (x o : D) (r slf sl : List Sl) : inRX chk neg c f [x, o] r slf sl = iteC (isIns c [o] && (!chk || noLocs [o, x])) (bnd (noX (shut (f [o, x]))) (blT neg r sl)) .bad := (rfl)
def inX (chk neg : Bool) (c : Nat) (f : Fn) (a b : EM) : EM := withA [a, b] (inRX chk neg c f)
@[simp] theorem inX_ap (chk neg : Bool) (c : Nat) (f : Fn) (a b : EM) (e : Env) : inX chk neg c f a b e = bnd (argE [a, b] e) (argM 2 (inRX chk neg c f)) := (rfl)
abbrev inO := inX false
abbrev inP := inX true

/-! ### statements -/
def thenF (f : SM) : Flow → C XS Flow
  | .nx sl => f sl
  | .rt s o => .ret (.rt s o)
  | .bk sl => .ret (.bk sl)
  | .ct sl => .ret (.ct sl)
  | .ro s1 s2 => .ret (.ro s1 s2)
@[simp] theorem thenF_ro (f : SM) (s1 s2 : Sl) : thenF f (.ro s1 s2) = .ret (.ro s1 s2) := (rfl)
@[simp] theorem thenF_nx (f : SM) (sl : List Sl) : thenF f (.nx sl) = f sl := (rfl)
@[simp] theorem thenF_rt (f : SM) (s : Sl) (o : List Sl) : thenF f (.rt s o) = .ret (.rt s o) := (rfl)
@[simp] theorem thenF_bk (f : SM) (sl : List Sl) : thenF f (.bk sl) = .ret (.bk sl) := (rfl)
@[simp] theorem thenF_ct (f : SM) (sl : List Sl) : thenF f (.ct sl) = .ret (.ct sl) := (rfl)
def seqS (a b : SM) : SM := fun sl => bnd (a sl) (thenF b)
@[simp] theorem seqS_ap (a b : SM) (sl : List Sl) : seqS a b sl = bnd (a sl) (thenF b) := (rfl)
def nop : SM := fun sl => .ret (.nx sl)
@[simp] theorem nop_ap (sl : List Sl) : nop sl = .ret (.nx sl) := (rfl)
/-- an expression of a statement: its value, the names behind it -/
def topK {α : Type} (f : Sl → List Sl → C XS α) (e : Env) : C XS α := match e.ts with
  | [s] => f s e.sl
  | _ => .bad
@[simp] theorem topK_ap {α : Type} (f : Sl → List Sl → C XS α) (s : Sl) (sl : List Sl) : topK f ⟨[s], sl⟩ = f s sl := (rfl)
def top1 {α : Type} (a : EM) (sl : List Sl) (f : Sl → List Sl → C XS α) : C XS α := bnd (a ⟨[], sl⟩) (topK f)
@[simp] theorem top1_ap {α : Type} (a : EM) (sl : List Sl) (f : Sl → List Sl → C XS α) : top1 a sl f = bnd (a ⟨[], sl⟩) (topK f) := (rfl)
def setK (i : Nat) (s : Sl) (sl : List Sl) : C XS Flow := match s with
  | .sh d => .ret (.nx (sl.set i (.sh d)))
  | .ow d => .ret (.nx (sl.set i (.ow d)))
  | _ => .bad
@[simp] theorem setK_sh (i : Nat) (d : D) (sl : List Sl) : setK i (.sh d) sl = .ret (.nx (sl.set i (.sh d))) := (rfl)
@[simp] theorem setK_ow (i : Nat) (d : D) (sl : List Sl) : setK i (.ow d) sl = .ret (.nx (sl.set i (.ow d))) := (rfl)
def setS (i : Nat) (a : EM) : SM := fun sl => top1 a sl (setK i)
@[simp] theorem setS_ap (i : Nat) (a : EM) (sl : List Sl) : setS i a sl = bnd (a ⟨[], sl⟩) (topK (setK i)) := (rfl)
/-- names of which nothing is said any more -/
def unkA : List Nat → List Sl → List Sl
  | [], sl => sl
  | i :: r, sl => unkA r (sl.set i .unk)
@[simp] theorem unkA_nil (sl : List Sl) : unkA [] sl = sl := (rfl)
@[simp] theorem unkA_cons (i : Nat) (r : List Nat) (sl : List Sl) : unkA (i :: r) sl = unkA r (sl.set i .unk) := (rfl)
def fgt (is : List Nat) : SM := fun e => .ret (.nx (unkA is e))
@[simp] theorem fgt_ap (is : List Nat) (sl : List Sl) : fgt is sl = .ret (.nx (unkA is sl)) := (rfl)
/-- a target: a name, names, nested -/
inductive Tg | name (i : Nat) | tup (ts : List Tg)
mutual
def Tg.set : Tg → D → List Sl → Option (List Sl)
  | .name i, d, sl => some (sl.set i (.sh d))
  | .tup ts, .tup ds, sl => Tg.sets ts ds sl
  | .tup _, _, _ => none
def Tg.sets : List Tg → List D → List Sl → Option (List Sl)
  | [], [], sl => some sl
  | t :: ts, d :: ds, sl => (Tg.set t d sl).bind fun sl' => Tg.sets ts ds sl'
  | _, _, _ => none
end
@[simp] theorem Tg.set_name (i : Nat) (d : D) (sl : List Sl) : (Tg.name i).set d sl = some (sl.set i (.sh d)) := by simp [Tg.set]
@[simp] theorem Tg.set_tup (ts : List Tg) (ds : List D) (sl : List Sl) : (Tg.tup ts).set (.tup ds) sl = Tg.sets ts ds sl := by simp [Tg.set]
@[simp] theorem Tg.sets_nil (sl : List Sl) : Tg.sets [] [] sl = some sl := by simp [Tg.sets]
@[simp] theorem Tg.sets_cons (t : Tg) (ts : List Tg) (d : D) (ds : List D) (sl : List Sl) : Tg.sets (t :: ts) (d :: ds) sl = (t.set d sl).bind fun sl' => Tg.sets ts ds sl' := by simp [Tg.sets]
def optF : Option (List Sl) → C XS Flow
  | some sl => .ret (.nx sl)
  | none => .bad
@[simp] theorem optF_some (sl : List Sl) : optF (some sl) = .ret (.nx sl) := (rfl)
def setTK (g : Tg) (s : Sl) (sl : List Sl) : C XS Flow := match s with
  | .sh d => optF (g.set d sl)
  | _ => .bad
@[simp] theorem setTK_sh (g : Tg) (d : D) (sl : List Sl) : setTK g (.sh d) sl = optF (g.set d sl) := (rfl)
def setT (g : Tg) (a : EM) : SM := fun sl => top1 a sl (setTK g)
@[simp] theorem setT_ap (g : Tg) (a : EM) (sl : List Sl) : setT g a sl = bnd (a ⟨[], sl⟩) (topK (setTK g)) := (rfl)
def parK (i j : Nat) (e : Env) : C XS Flow := match e.ts with
  | [.sh y, .sh x] => .ret (.nx ((e.sl.set i (.sh x)).set j (.sh y)))
  | _ => .bad
@[simp] theorem parK_sh (i j : Nat) (x y : D) (sl : List Sl) : parK i j ⟨[.sh y, .sh x], sl⟩ = .ret (.nx ((sl.set i (.sh x)).set j (.sh y))) := (rfl)
/-- x, y = a, b -/
def parS (i j : Nat) (a b : EM) : SM := fun sl => bnd (seqE a b ⟨[], sl⟩) (parK i j)
@[simp] theorem parS_ap (i j : Nat) (a b : EM) (sl : List Sl) : parS i j a b sl = bnd (seqE a b ⟨[], sl⟩) (parK i j) := (rfl)
def exprK (_ : Sl) (sl : List Sl) : C XS Flow := .ret (.nx sl)
@[simp] theorem exprK_ap (s : Sl) (sl : List Sl) : exprK s sl = .ret (.nx sl) := (rfl)
def exprS (a : EM) : SM := fun sl => top1 a sl exprK
@[simp] theorem exprS_ap (a : EM) (sl : List Sl) : exprS a sl = bnd (a ⟨[], sl⟩) (topK exprK) := (rfl)
/-- io: the slots that are handed back with the value -/
def outS (io : List Nat) (sl : List Sl) : List Sl := io.filterMap fun i => sl[i]?
def retK (io : List Nat) (s : Sl) (sl : List Sl) : C XS Flow := match s with
  | .sh d => .ret (.rt (.sh d) (outS io sl))
  | .ow d => .ret (.rt (.ow d) (outS io sl))
  | _ => .bad
@[simp] theorem outS_nil (sl : List Sl) : outS [] sl = [] := (rfl)
@[simp] theorem retK_sh (io : List Nat) (d : D) (sl : List Sl) : retK io (.sh d) sl = .ret (.rt (.sh d) (outS io sl)) := (rfl)
@[simp] theorem retK_ow (io : List Nat) (d : D) (sl : List Sl) : retK io (.ow d) sl = .ret (.rt (.ow d) (outS io sl)) := (rfl)
def retS (a : EM) : SM := fun sl => top1 a sl (retK [])
@[simp] theorem retS_ap (a : EM) (sl : List Sl) : retS a sl = bnd (a ⟨[], sl⟩) (topK (retK [])) := (rfl)
def retI (io : List Nat) (a : EM) : SM := fun sl => top1 a sl (retK io)
@[simp] theorem retI_ap (io : List Nat) (a : EM) (sl : List Sl) : retI io a sl = bnd (a ⟨[], sl⟩) (topK (retK io)) := (rfl)
def retN : SM := fun _ => .ret (.rt (.sh .non) [])
@[simp] theorem retN_ap (sl : List Sl) : retN sl = .ret (.rt (.sh .non) []) := (rfl)
def brkS : SM := fun e => .ret (.bk e)
def cntS : SM := fun e => .ret (.ct e)
@[simp] theorem brkS_ap (sl : List Sl) : brkS sl = .ret (.bk sl) := (rfl)
@[simp] theorem cntS_ap (sl : List Sl) : cntS sl = .ret (.ct sl) := (rfl)
def onTK (a b : SM) (sl : List Sl) : Option D → C XS Flow
  | some (.bl z) => iteC z (a sl) (b sl)
  | _ => .bad
@[simp] theorem onTK_bl (a b : SM) (sl : List Sl) (z : Bool) : onTK a b sl (some (.bl z)) = iteC z (a sl) (b sl) := (rfl)
def onTT (a b : SM) (s : Sl) (sl : List Sl) : C XS Flow := onTK a b sl (getV sl s)
@[simp] theorem onTT_ap (a b : SM) (s : Sl) (sl : List Sl) : onTT a b s sl = onTK a b sl (getV sl s) := (rfl)
def ifS (t : EM) (a b : SM) : SM := fun sl => top1 t sl (onTT a b)
@[simp] theorem ifS_ap (t : EM) (a b : SM) (sl : List Sl) : ifS t a b sl = bnd (t ⟨[], sl⟩) (topK (onTT a b)) := (rfl)
def raiK (c : Nat) (fs : List Nat) (ds : List D) (_r slf _sl : List Sl) : C XS Env := iteC (decide (ds.length = fs.length)) (.exc (⟨c, fs.reverse, ds.reverse⟩, slf)) .bad
@[simp] theorem raiK_ap (c : Nat) (fs : List Nat) (ds : List D) (r slf sl : List Sl) : raiK c fs ds r slf sl = iteC (decide (ds.length = fs.length)) (.exc (⟨c, fs.reverse, ds.reverse⟩, slf)) .bad := (rfl)
/-- raise C(..), a class with fields -/
def raiS (c : Nat) (fs : List Nat) (as : List EM) : SM := fun sl => bnd (withA as (raiK c fs) ⟨[], sl⟩) fun _ => .bad
@[simp] theorem raiS_ap (c : Nat) (fs : List Nat) (as : List EM) (sl : List Sl) : raiS c fs as sl = bnd (withA as (raiK c fs) ⟨[], sl⟩) fun _ => .bad := (rfl)
/-- raise C("..") of a class without fields -/
def raiB (c : Nat) : SM := fun e => .exc (⟨c, [], []⟩, e)
@[simp] theorem raiB_ap (c : Nat) (sl : List Sl) : raiB c sl = .exc (⟨c, [], []⟩, sl) := (rfl)

/-! changing a thing that is held here alone -/
def chgK (i : Nat) (f : D → Option D) (sl : List Sl) : Option Sl → C XS Flow
  | some (.ow d) => optF ((f d).map fun d' => sl.set i (.ow d'))
  | _ => .bad
@[simp] theorem chgK_ow (i : Nat) (f : D → Option D) (sl : List Sl) (d : D) : chgK i f sl (some (.ow d)) = optF ((f d).map fun d' => sl.set i (.ow d')) := (rfl)
def chg (i : Nat) (f : D → Option D) (sl : List Sl) : C XS Flow := chgK i f sl sl[i]?
@[simp] theorem chg_ap (i : Nat) (f : D → Option D) (sl : List Sl) : chg i f sl = chgK i f sl sl[i]? := (rfl)
def gApp (x : D) : D → Option D
  | .lst ds => if ds.length < sizeD then some (.lst (ds ++ [x])) else none
  | _ => none
@[simp] theorem gApp_lst (x : D) (ds : List D) : gApp x (.lst ds) = if ds.length < sizeD then some (.lst (ds ++ [x])) else none := (rfl)
def gExt (x : D) : D → Option D
  | .lst ds => match x with
    | .lst es => if ds.length + es.length ≤ sizeD then some (.lst (ds ++ es)) else none
    | _ => none
  | _ => none
@[simp] theorem gExt_lst (es ds : List D) : gExt (.lst es) (.lst ds) = if ds.length + es.length ≤ sizeD then some (.lst (ds ++ es)) else none := (rfl)
/-- a value is taken into slot i by f -/
def takeK (f : D → D → Option D) (i : Nat) (s : Sl) (sl : List Sl) : C XS Flow := match s with
  | .sh x => chg i (f x) sl
  | .ow x => chg i (f x) sl
  | _ => .bad
@[simp] theorem takeK_sh (f : D → D → Option D) (i : Nat) (x : D) (sl : List Sl) : takeK f i (.sh x) sl = chg i (f x) sl := (rfl)
@[simp] theorem takeK_ow (f : D → D → Option D) (i : Nat) (x : D) (sl : List Sl) : takeK f i (.ow x) sl = chg i (f x) sl := (rfl)
def takeS (f : D → D → Option D) (i : Nat) (a : EM) : SM := fun sl => top1 a sl (takeK f i)
@[simp] theorem takeS_ap (f : D → D → Option D) (i : Nat) (a : EM) (sl : List Sl) : takeS f i a sl = bnd (a ⟨[], sl⟩) (topK (takeK f i)) := (rfl)
def isL : Option Sl → Bool
  | some (.ow (.lst _)) => true
  | _ => false
@[simp] theorem isL_lst (ds : List D) : isL (some (.ow (.lst ds))) = true := (rfl)
def appS (i : Nat) (a : EM) : SM := fun sl => iteC (isL sl[i]?) (top1 a sl (takeK gApp i)) .bad
def extS (i : Nat) (a : EM) : SM := fun sl => iteC (isL sl[i]?) (top1 a sl (takeK gExt i)) .bad
@[simp] theorem appS_ap (i : Nat) (a : EM) (sl : List Sl) : appS i a sl = iteC (isL sl[i]?) (bnd (a ⟨[], sl⟩) (topK (takeK gApp i))) .bad := (rfl)
@[simp] theorem extS_ap (i : Nat) (a : EM) (sl : List Sl) : extS i a sl = iteC (isL sl[i]?) (bnd (a ⟨[], sl⟩) (topK (takeK gExt i))) .bad := (rfl)
def dRep : List D → List D → D → D → List D
  | k' :: ks, v :: vs, k, x => (if eqD k' k then x else v) :: dRep ks vs k x
  | _, vs, _, _ => vs
def dPut (q : Nat) (ks vs : List D) (k x : D) : D := match dFind ks vs k with
  | some _ => .dct q ks (dRep ks vs k x)
  | none => .dct q (ks ++ [k]) (vs ++ [x])
def gSet (k x : D) : D → Option D
  | .lst ds => match k with
    | .int j => (ixD ds.length j).map fun n => .lst (ds.set n x)
    | _ => none
  | .dct q ks vs => if sameK q k && decide (ks.length < sizeD) then some (dPut q ks vs k x) else none
  | _ => none
@[simp] theorem gSet_lst (j : Int) (x : D) (ds : List D) : gSet (.int j) x (.lst ds) = (ixD ds.length j).map fun n => .lst (ds.set n x) := (rfl)
@[simp] theorem gSet_dct (k x : D) (q : Nat) (ks vs : List D) : gSet k x (.dct q ks vs) = if sameK q k && decide (ks.length < sizeD) then some (dPut q ks vs k x) else none := (rfl)
def stoK (i : Nat) (e : Env) : C XS Flow := match e.ts with
  | [.sh dy, .sh dx] => chg i (gSet dy dx) e.sl
  | [.sh dy, .ow dx] => chg i (gSet dy dx) e.sl
  | _ => .bad
@[simp] theorem stoK_sh (i : Nat) (dy dx : D) (sl : List Sl) : stoK i ⟨[.sh dy, .sh dx], sl⟩ = chg i (gSet dy dx) sl := (rfl)
@[simp] theorem stoK_ow (i : Nat) (dy dx : D) (sl : List Sl) : stoK i ⟨[.sh dy, .ow dx], sl⟩ = chg i (gSet dy dx) sl := (rfl)
def isOw : Option Sl → Bool
  | some (.ow _) => true
  | _ => false
@[simp] theorem isOw_ow (d : D) : isOw (some (.ow d)) = true := (rfl)
/-- o[k] = a, o the slot i (Python: a first, then o, then k) -/
def stoS (i : Nat) (k a : EM) : SM := fun sl => iteC (isOw sl[i]?) (bnd (seqE a k ⟨[], sl⟩) (stoK i)) .bad
@[simp] theorem stoS_ap (i : Nat) (k a : EM) (sl : List Sl) : stoS i k a sl = iteC (isOw sl[i]?) (bnd (seqE a k ⟨[], sl⟩) (stoK i)) .bad := (rfl)
def putD (f : Nat) (x : D) : List Nat → List D → List Nat × List D
  | n :: ns, v :: vs => if n = f then (n :: ns, x :: vs) else let r := putD f x ns vs; (n :: r.1, v :: r.2)
  | ns, vs => (ns ++ [f], vs ++ [x])
@[simp] theorem putD_nil (f : Nat) (x : D) : putD f x [] [] = ([f], [x]) := (rfl)
@[simp] theorem putD_cons (f : Nat) (x : D) (n : Nat) (ns : List Nat) (v : D) (vs : List D) : putD f x (n :: ns) (v :: vs) = if n = f then (n :: ns, x :: vs) else (n :: (putD f x ns vs).1, v :: (putD f x ns vs).2) := (rfl)
def gFldC (c f : Nat) (x : D) : D → Option D
  | .ins c' ns vs => if c = c' ∧ ns.length < 100 then some (.ins c' (putD f x ns vs).1 (putD f x ns vs).2) else none
  | _ => none
@[simp] theorem gFldC_ins (c f : Nat) (x : D) (c' : Nat) (ns : List Nat) (vs : List D) : gFldC c f x (.ins c' ns vs) = if c = c' ∧ ns.length < 100 then some (.ins c' (putD f x ns vs).1 (putD f x ns vs).2) else none := (rfl)
/-- o.f = a, o the slot i, of the class c -/
def fldS' (c f : Nat) (i : Nat) (a : EM) : SM := takeS (gFldC c f) i a
@[simp] theorem fldS'_ap (c f : Nat) (i : Nat) (a : EM) (sl : List Sl) : fldS' c f i a sl = bnd (a ⟨[], sl⟩) (topK (takeK (gFldC c f) i)) := (rfl)
def popK (i : Nat) (ts sl : List Sl) : Option Sl → C XS Env
  | some (.ow (.lst ds)) => match ds.reverse with
    | d :: rr => .ret ⟨.sh d :: ts, sl.set i (.ow (.lst rr.reverse))⟩
    | [] => .bad
  | _ => .bad
@[simp] theorem popK_app (i : Nat) (ts sl : List Sl) (ds : List D) (d : D) : popK i ts sl (some (.ow (.lst (ds ++ [d])))) = .ret ⟨.sh d :: ts, sl.set i (.ow (.lst ds))⟩ := by simp [popK]
/-- o.pop() -/
def popE (i : Nat) : EM := fun e => popK i e.ts e.sl e.sl[i]?
@[simp] theorem popE_ap (i : Nat) (ts sl : List Sl) : popE i ⟨ts, sl⟩ = popK i ts sl sl[i]? := (rfl)
def clrK (i : Nat) (sl : List Sl) : Option Sl → C XS Flow
  | some (.ow (.lst _)) => .ret (.nx (sl.set i (.ow (.lst []))))
  | some (.ow (.dct q _ _)) => .ret (.nx (sl.set i (.ow (.dct q [] []))))
  | _ => .bad
@[simp] theorem clrK_lst (i : Nat) (sl : List Sl) (ds : List D) : clrK i sl (some (.ow (.lst ds))) = .ret (.nx (sl.set i (.ow (.lst [])))) := (rfl)
@[simp] theorem clrK_dct (i : Nat) (sl : List Sl) (q : Nat) (ks vs : List D) : clrK i sl (some (.ow (.dct q ks vs))) = .ret (.nx (sl.set i (.ow (.dct q [] [])))) := (rfl)
def clrS (i : Nat) : SM := fun sl => clrK i sl sl[i]?
@[simp] theorem clrS_ap (i : Nat) (sl : List Sl) : clrS i sl = clrK i sl sl[i]? := (rfl)

/-! ### loops -/
/-- what is walked: its items -/
abbrev IM := List Sl → C XS (List D × List Sl)
def itK (s : Sl) (sl : List Sl) : C XS (List D × List Sl) := match s with
  | .sh (.lst ds) => .ret (ds, sl)
  | .ow (.lst ds) => .ret (ds, sl)
  | .sh (.tup ds) => .ret (ds, sl)
  | _ => .bad
@[simp] theorem itK_1 (ds : List D) (sl : List Sl) : itK (.sh (.lst ds)) sl = .ret (ds, sl) := (rfl)
@[simp] theorem itK_2 (ds : List D) (sl : List Sl) : itK (.ow (.lst ds)) sl = .ret (ds, sl) := (rfl)
@[simp] theorem itK_3 (ds : List D) (sl : List Sl) : itK (.sh (.tup ds)) sl = .ret (ds, sl) := (rfl)
def itE (a : EM) : IM := fun sl => top1 a sl itK
@[simp] theorem itE_ap (a : EM) (sl : List Sl) : itE a sl = bnd (a ⟨[], sl⟩) (topK itK) := (rfl)
def enumL : Nat → List D → List D
  | _, [] => []
  | n, d :: ds => .tup [.int n, d] :: enumL (n + 1) ds
@[simp] theorem enumL_nil (n : Nat) : enumL n [] = [] := (rfl)
@[simp] theorem enumL_cons (n : Nat) (d : D) (ds : List D) : enumL n (d :: ds) = .tup [.int n, d] :: enumL (n + 1) ds := (rfl)
def enumK (r : List D × List Sl) : C XS (List D × List Sl) := .ret (enumL 0 r.1, r.2)
@[simp] theorem enumK_ap (r : List D × List Sl) : enumK r = .ret (enumL 0 r.1, r.2) := (rfl)
def itEnum (a : EM) : IM := fun sl => bnd (itE a sl) enumK
@[simp] theorem itEnum_ap (a : EM) (sl : List Sl) : itEnum a sl = bnd (itE a sl) enumK := (rfl)
def rangeL (lo : Int) : Nat → List D
  | 0 => []
  | n + 1 => .int lo :: rangeL (lo + 1) n
@[simp] theorem rangeL_0 (lo : Int) : rangeL lo 0 = [] := (rfl)
theorem rangeL_s (lo : Int) (n : Nat) : rangeL lo (n + 1) = .int lo :: rangeL (lo + 1) n := (rfl)
def inB (n : Int) : Bool := decide (-1000000000 ≤ n) && decide (n ≤ 1000000000)
theorem inB_of {n : Int} (h0 : -1000000000 ≤ n) (h1 : n ≤ 1000000000) : inB n = true := by simp [inB, h0, h1]
def rng1K (s : Sl) (sl : List Sl) : C XS (List D × List Sl) := match s with
  | .sh (.int n) => iteC (inB n) (.ret (rangeL 0 n.toNat, sl)) .bad
  | _ => .bad
@[simp] theorem rng1K_ap (n : Int) (sl : List Sl) : rng1K (.sh (.int n)) sl = iteC (inB n) (.ret (rangeL 0 n.toNat, sl)) .bad := (rfl)
def itRng1 (a : EM) : IM := fun sl => top1 a sl rng1K
@[simp] theorem itRng1_ap (a : EM) (sl : List Sl) : itRng1 a sl = bnd (a ⟨[], sl⟩) (topK rng1K) := (rfl)
def rng2K (e : Env) : C XS (List D × List Sl) := match e.ts with
  | [.sh (.int n), .sh (.int m)] => iteC (inB m && inB n) (.ret (rangeL m (n - m).toNat, e.sl)) .bad
  | _ => .bad
@[simp] theorem rng2K_ap (n m : Int) (sl : List Sl) : rng2K ⟨[.sh (.int n), .sh (.int m)], sl⟩ = iteC (inB m && inB n) (.ret (rangeL m (n - m).toNat, sl)) .bad := (rfl)
def itRng2 (a b : EM) : IM := fun sl => bnd (seqE a b ⟨[], sl⟩) rng2K
@[simp] theorem itRng2_ap (a b : EM) (sl : List Sl) : itRng2 a b sl = bnd (seqE a b ⟨[], sl⟩) rng2K := (rfl)
/-- what a loop does behind a turn -/
def nextF (f : SM) : Flow → C XS Flow
  | .nx sl => f sl
  | .ct sl => f sl
  | .bk sl => .ret (.nx sl)
  | .rt s o => .ret (.rt s o)
  | .ro s1 s2 => .ret (.ro s1 s2)
@[simp] theorem nextF_ro (f : SM) (s1 s2 : Sl) : nextF f (.ro s1 s2) = .ret (.ro s1 s2) := (rfl)
@[simp] theorem nextF_nx (f : SM) (sl : List Sl) : nextF f (.nx sl) = f sl := (rfl)
@[simp] theorem nextF_ct (f : SM) (sl : List Sl) : nextF f (.ct sl) = f sl := (rfl)
@[simp] theorem nextF_bk (f : SM) (sl : List Sl) : nextF f (.bk sl) = .ret (.nx sl) := (rfl)
@[simp] theorem nextF_rt (f : SM) (s : Sl) (o : List Sl) : nextF f (.rt s o) = .ret (.rt s o) := (rfl)
def turnK (body : SM) (f : SM) : Option (List Sl) → C XS Flow
  | some sl => bnd (body sl) (nextF f)
  | none => .bad
@[simp] theorem turnK_some (body f : SM) (sl : List Sl) : turnK body f (some sl) = bnd (body sl) (nextF f) := (rfl)
def forL (g : Tg) (body : SM) : List D → SM
  | [] => fun sl => .ret (.nx sl)
  | d :: ds => fun sl => turnK body (forL g body ds) (g.set d sl)
@[simp] theorem forL_nil (g : Tg) (body : SM) (sl : List Sl) : forL g body [] sl = .ret (.nx sl) := (rfl)
@[simp] theorem forL_cons (g : Tg) (body : SM) (d : D) (ds : List D) (sl : List Sl) : forL g body (d :: ds) sl = turnK body (forL g body ds) (g.set d sl) := (rfl)
theorem forL_congr (g : Tg) (body : SM) {ds ds' : List D} {sl sl' : List Sl} (h1 : ds = ds') (h2 : sl = sl') : forL g body ds sl = forL g body ds' sl' := by rw [h1, h2]
def forK (g : Tg) (body : SM) (r : List D × List Sl) : C XS Flow := forL g body r.1 r.2
@[simp] theorem forK_ap (g : Tg) (body : SM) (ds : List D) (sl : List Sl) : forK g body (ds, sl) = forL g body ds sl := (rfl)
def forS (it : IM) (g : Tg) (body : SM) : SM := fun sl => bnd (it sl) (forK g body)
@[simp] theorem forS_ap (it : IM) (g : Tg) (body : SM) (sl : List Sl) : forS it g body sl = bnd (it sl) (forK g body) := (rfl)
def whlB (body : SM) (f : SM) : SM := fun sl => bnd (body sl) (nextF f)
@[simp] theorem whlB_ap (body f : SM) (sl : List Sl) : whlB body f sl = bnd (body sl) (nextF f) := (rfl)
def whlN (t : EM) (body : SM) : Nat → SM
  | 0 => fun _ => .bad
  | n + 1 => ifS t (whlB body (whlN t body n)) nop
theorem whlN_s (t : EM) (body : SM) (n : Nat) (sl : List Sl) : whlN t body (n + 1) sl = bnd (t ⟨[], sl⟩) (topK (onTT (whlB body (whlN t body n)) nop)) := (rfl)
def fuel : Nat := 50 ^ 3000
theorem whlS_ex : ∃ f : EM → SM → SM, f = fun t body => whlN t body fuel := ⟨_, rfl⟩
/-- a while, shut for the kernel -/
noncomputable def whlS : EM → SM → SM := Classical.choose whlS_ex
theorem whlS_eq (t : EM) (body : SM) : whlS t body = whlN t body fuel := by rw [whlS, Classical.choose_spec whlS_ex]
/-- [elt for g in it if test]; own: the slots of the comprehension's names, empty ahead of each turn -/
abbrev LM := List D → List Sl → C XS (List D × List Sl)
def lcEl (own : List Nat) (acc : List D) (f : LM) (s : Sl) (sl : List Sl) : C XS (List D × List Sl) := iteC (decide (acc.length < sizeD)) (match s with
  | .sh v => f (acc ++ [v]) (unkA own sl)
  | .ow v => f (acc ++ [v]) (unkA own sl)
  | _ => .bad) .bad
@[simp] theorem lcEl_sh (own : List Nat) (acc : List D) (f : LM) (v : D) (sl : List Sl) : lcEl own acc f (.sh v) sl = iteC (decide (acc.length < sizeD)) (f (acc ++ [v]) (unkA own sl)) .bad := (rfl)
@[simp] theorem lcEl_ow (own : List Nat) (acc : List D) (f : LM) (v : D) (sl : List Sl) : lcEl own acc f (.ow v) sl = iteC (decide (acc.length < sizeD)) (f (acc ++ [v]) (unkA own sl)) .bad := (rfl)
def lcTk (own : List Nat) (elt : EM) (acc : List D) (f : LM) (sl : List Sl) : Option D → C XS (List D × List Sl)
  | some (.bl z) => iteC z (bnd (noX (elt ⟨[], sl⟩)) (topK (lcEl own acc f))) (f acc (unkA own sl))
  | _ => .bad
@[simp] theorem lcTk_bl (own : List Nat) (elt : EM) (acc : List D) (f : LM) (z : Bool) (sl : List Sl) : lcTk own elt acc f sl (some (.bl z)) = iteC z (bnd (noX (elt ⟨[], sl⟩)) (topK (lcEl own acc f))) (f acc (unkA own sl)) := (rfl)
def lcTs (own : List Nat) (elt : EM) (acc : List D) (f : LM) (s : Sl) (sl : List Sl) : C XS (List D × List Sl) := lcTk own elt acc f sl (getV sl s)
@[simp] theorem lcTs_ap (own : List Nat) (elt : EM) (acc : List D) (f : LM) (s : Sl) (sl : List Sl) : lcTs own elt acc f s sl = lcTk own elt acc f sl (getV sl s) := (rfl)
def lcTu (own : List Nat) (test elt : EM) (acc : List D) (f : LM) : Option (List Sl) → C XS (List D × List Sl)
  | some sl => bnd (noX (test ⟨[], sl⟩)) (topK (lcTs own elt acc f))
  | none => .bad
@[simp] theorem lcTu_some (own : List Nat) (test elt : EM) (acc : List D) (f : LM) (sl : List Sl) : lcTu own test elt acc f (some sl) = bnd (noX (test ⟨[], sl⟩)) (topK (lcTs own elt acc f)) := (rfl)
def lcL (g : Tg) (own : List Nat) (test elt : EM) : List D → LM
  | [], acc => fun sl => .ret (acc, sl)
  | d :: ds, acc => fun sl => lcTu own test elt acc (lcL g own test elt ds) (g.set d sl)
@[simp] theorem lcL_nil (g : Tg) (own : List Nat) (test elt : EM) (acc : List D) (sl : List Sl) : lcL g own test elt [] acc sl = .ret (acc, sl) := (rfl)
@[simp] theorem lcL_cons (g : Tg) (own : List Nat) (test elt : EM) (d : D) (ds acc : List D) (sl : List Sl) : lcL g own test elt (d :: ds) acc sl = lcTu own test elt acc (lcL g own test elt ds) (g.set d sl) := (rfl)
theorem lcL_congr (g : Tg) (own : List Nat) (test elt : EM) {ds ds' acc acc' : List D} {sl sl' : List Sl} (h1 : ds = ds') (h2 : acc = acc') (h3 : sl = sl') : lcL g own test elt ds acc sl = lcL g own test elt ds' acc' sl' := by rw [h1, h2, h3]
def lcZ (ts : List Sl) (z : List D × List Sl) : C XS Env := .ret ⟨.ow (.lst z.1) :: ts, z.2⟩
@[simp] theorem lcZ_ap (ts : List Sl) (ds : List D) (sl : List Sl) : lcZ ts (ds, sl) = .ret ⟨.ow (.lst ds) :: ts, sl⟩ := (rfl)
def lcK (g : Tg) (own : List Nat) (test elt : EM) (ts : List Sl) (r : List D × List Sl) : C XS Env := bnd (lcL g own test elt r.1 [] (unkA own r.2)) (lcZ ts)
@[simp] theorem lcK_ap (g : Tg) (own : List Nat) (test elt : EM) (ts : List Sl) (ds : List D) (sl : List Sl) : lcK g own test elt ts (ds, sl) = bnd (lcL g own test elt ds [] (unkA own sl)) (lcZ ts) := (rfl)
def lcE (it : IM) (g : Tg) (own : List Nat) (test elt : EM) : EM := fun e => bnd (it e.sl) (lcK g own test elt e.ts)
@[simp] theorem lcE_ap (it : IM) (g : Tg) (own : List Nat) (test elt : EM) (ts sl : List Sl) : lcE it g own test elt ⟨ts, sl⟩ = bnd (it sl) (lcK g own test elt ts) := (rfl)
def yes : EM := cst (.bl true)
@[simp] theorem yes_ap (ts sl : List Sl) : yes ⟨ts, sl⟩ = .ret ⟨.sh (.bl true) :: ts, sl⟩ := (rfl)

/-! ### tries -/
structure Hd where
  cls : List Nat
  as : Option Nat
  body : SM
def offF (i : Nat) : Flow → C XS Flow
  | .nx sl => .ret (.nx (sl.set i .unk))
  | .bk sl => .ret (.bk (sl.set i .unk))
  | .ct sl => .ret (.ct (sl.set i .unk))
  | .rt s o => .ret (.rt s o)
  | .ro s1 s2 => .ret (.ro s1 s2)
@[simp] theorem offF_ro (i : Nat) (s1 s2 : Sl) : offF i (.ro s1 s2) = .ret (.ro s1 s2) := (rfl)
@[simp] theorem offF_nx (i : Nat) (sl : List Sl) : offF i (.nx sl) = .ret (.nx (sl.set i .unk)) := (rfl)
@[simp] theorem offF_bk (i : Nat) (sl : List Sl) : offF i (.bk sl) = .ret (.bk (sl.set i .unk)) := (rfl)
@[simp] theorem offF_ct (i : Nat) (sl : List Sl) : offF i (.ct sl) = .ret (.ct (sl.set i .unk)) := (rfl)
@[simp] theorem offF_rt (i : Nat) (s : Sl) (o : List Sl) : offF i (.rt s o) = .ret (.rt s o) := (rfl)
def hdK (body : SM) (x : XS) : Option Nat → C XS Flow
  | some i => bnd (noX (body (x.2.set i (.exc x.1)))) (offF i)
  | none => noX (body x.2)
@[simp] theorem hdK_some (body : SM) (x : XS) (i : Nat) : hdK body x (some i) = bnd (noX (body (x.2.set i (.exc x.1)))) (offF i) := (rfl)
@[simp] theorem hdK_none (body : SM) (x : XS) : hdK body x none = noX (body x.2) := (rfl)
def tryH : List Hd → XS → C XS Flow
  | [], x => .exc x
  | h :: hs, x => iteC (h.cls.contains x.1.cls) (hdK h.body x h.as) (tryH hs x)
@[simp] theorem tryH_nil (x : XS) : tryH [] x = .exc x := (rfl)
@[simp] theorem tryH_cons (cls : List Nat) (as : Option Nat) (body : SM) (hs : List Hd) (x : Exc) (sl : List Sl) : tryH (⟨cls, as, body⟩ :: hs) (x, sl) = iteC (cls.contains x.cls) (hdK body (x, sl) as) (tryH hs (x, sl)) := (rfl)
/-- only errors of the classes ks come -/
def tryG (ks : List Nat) (hs : List Hd) (x : XS) : C XS Flow := iteC (ks.contains x.1.cls) (tryH hs x) .bad
@[simp] theorem tryG_ap (ks : List Nat) (hs : List Hd) (x : Exc) (sl : List Sl) : tryG ks hs (x, sl) = iteC (ks.contains x.cls) (tryH hs (x, sl)) .bad := (rfl)
def tryS (ks : List Nat) (body : SM) (hs : List Hd) : SM := fun sl => cat (body sl) (tryG ks hs)
@[simp] theorem tryS_ap (ks : List Nat) (body : SM) (hs : List Hd) (sl : List Sl) : tryS ks body hs sl = cat (body sl) (tryG ks hs) := (rfl)
/-- a statement that is never reached -/
def badS : SM := fun _ => .bad

/-! ### defs -/
def initS (n : Nat) (ds : List D) : List Sl := ds.map .sh ++ List.replicate (n - ds.length) .unk
@[simp] theorem initS_ap (n : Nat) (ds : List D) : initS n ds = ds.map .sh ++ List.replicate (n - ds.length) .unk := (rfl)
def endF : Flow → C Exc Sl
  | .nx _ => .ret (.sh .non)
  | .rt s _ => .ret s
  | _ => .bad
@[simp] theorem endF_nx (sl : List Sl) : endF (.nx sl) = .ret (.sh .non) := (rfl)
@[simp] theorem endF_rt (s : Sl) (o : List Sl) : endF (.rt s o) = .ret s := (rfl)
def mkFn (k n : Nat) (body : SM) : Fn := fun ds => iteC (decide (ds.length = k)) (bnd (reX (·.1) (body (initS n ds))) endF) .bad
@[simp] theorem mkFn_ap (k n : Nat) (body : SM) (ds : List D) : mkFn k n body ds = iteC (decide (ds.length = k)) (bnd (reX (·.1) (body (initS n ds))) endF) .bad := (rfl)
/-- a def whose store nobody sees: nothing of it goes out -/
def chkX (x : Exc) : C Exc Flow := iteC (noLocs x.vs) (.exc x) .bad
@[simp] theorem chkX_ap (x : Exc) : chkX x = iteC (noLocs x.vs) (.exc x) .bad := (rfl)
def chkV (s : Sl) : C Exc Sl := iteC (isV s && noLocS s) (.ret s) .bad
@[simp] theorem chkV_ap (s : Sl) : chkV s = iteC (isV s && noLocS s) (.ret s) .bad := (rfl)
def mkFnZ (k n : Nat) (body : SM) : Fn := fun ds => iteC (decide (ds.length = k)) (bnd (bnd (cat (reX (·.1) (body (initS n ds))) chkX) endF) chkV) .bad
@[simp] theorem mkFnZ_ap (k n : Nat) (body : SM) (ds : List D) : mkFnZ k n body ds = iteC (decide (ds.length = k)) (bnd (bnd (cat (reX (·.1) (body (initS n ds))) chkX) endF) chkV) .bad := (rfl)
def endN : Flow → C Exc Sl
  | .nx (.ow d :: _) => .ret (.ow d)
  | .nx (.sh d :: _) => .ret (.sh d)
  | _ => .bad
@[simp] theorem endN_ow (d : D) (sl : List Sl) : endN (.nx (.ow d :: sl)) = .ret (.ow d) := (rfl)
@[simp] theorem endN_sh (d : D) (sl : List Sl) : endN (.nx (.sh d :: sl)) = .ret (.sh d) := (rfl)
/-- C(..): __init__'s body over a new instance at slot 0 -/
def mkNew (c k n : Nat) (body : SM) : Fn := fun ds => iteC (decide (ds.length + 1 = k)) (bnd (reX (·.1) (body (.ow (.ins c [] []) :: initS (n - 1) ds))) endN) .bad
@[simp] theorem mkNew_ap (c k n : Nat) (body : SM) (ds : List D) : mkNew c k n body ds = iteC (decide (ds.length + 1 = k)) (bnd (reX (·.1) (body (.ow (.ins c [] []) :: initS (n - 1) ds))) endN) .bad := (rfl)
/-- a def with a star parameter behind n others -/
def pkS (n : Nat) (F : Fn) : Fn := fun ds => iteC (okLen ds && decide (n ≤ ds.length)) (F (ds.take n ++ [.tup (ds.drop n)])) .bad
@[simp] theorem pkS_ap (n : Nat) (F : Fn) (ds : List D) : pkS n F ds = iteC (okLen ds && decide (n ≤ ds.length)) (F (ds.take n ++ [.tup (ds.drop n)])) .bad := (rfl)
/-- the last argument is a list or a tuple whose items are the arguments -/
def spl : List D → Option (List D)
  | [] => none
  | [d] => match d with
    | .lst xs => some xs
    | .tup xs => some xs
    | _ => none
  | d :: e :: r => (spl (e :: r)).map (d :: ·)
@[simp] theorem spl_lst (xs : List D) : spl [.lst xs] = some xs := (rfl)
@[simp] theorem spl_tup (xs : List D) : spl [.tup xs] = some xs := (rfl)
@[simp] theorem spl_cons (d e : D) (r : List D) : spl (d :: e :: r) = (spl (e :: r)).map (d :: ·) := (rfl)
def unK (F : Fn) : Option (List D) → C Exc Sl
  | some es => F es
  | none => .bad
@[simp] theorem unK_some (F : Fn) (es : List D) : unK F (some es) = F es := (rfl)
def unS (F : Fn) : Fn := fun ds => unK F (spl ds)
@[simp] theorem unS_ap (F : Fn) (ds : List D) : unS F ds = unK F (spl ds) := (rfl)
def isSq : Option D → Bool
  | some (.lst _) => true
  | some (.tup _) => true
  | _ => false
@[simp] theorem isSq_lst (ds : List D) : isSq (some (.lst ds)) = true := (rfl)
@[simp] theorem isSq_tup (ds : List D) : isSq (some (.tup ds)) = true := (rfl)
def stK (e : Env) : C XS Env := match e.ts with
  | s :: _ => iteC (isSq (getV e.sl s)) (.ret e) .bad
  | _ => .bad
@[simp] theorem stK_ap (s : Sl) (r sl : List Sl) : stK ⟨s :: r, sl⟩ = iteC (isSq (getV sl s)) (.ret ⟨s :: r, sl⟩) .bad := (rfl)
/-- *a -/
def stE (a : EM) : EM := fun e => bnd (a e) stK
@[simp] theorem stE_ap (a : EM) (e : Env) : stE a e = bnd (a e) stK := (rfl)
/-- the last parameters have their defaults -/
def dfS (es : List D) (F : Fn) : Fn := fun ds => F (ds ++ es)
@[simp] theorem dfS_ap (es : List D) (F : Fn) (ds : List D) : dfS es F ds = F (ds ++ es) := (rfl)
/-- the law's own draws: abs 1 is the script, abs 0 the state -/
def M__law_start : Fn
  | [.abs 1 []] => .ret (.sh (.abs 0 []))
  | _ => .bad
@[simp] theorem M__law_start_ap : M__law_start [.abs 1 []] = .ret (.sh (.abs 0 [])) := (rfl)
def M__law_draw : Fn
  | [.abs 1 [], .abs 0 [], .int n] => .draw n fun i => .ret (.sh (.int i))
  | _ => .bad
@[simp] theorem M__law_draw_ap (n : Int) : M__law_draw [.abs 1 [], .abs 0 [], .int n] = .draw n fun i => .ret (.sh (.int i)) := (rfl)
end Dl

/-! The data machine is kept by the model: what stands in the heap for data, and rule by rule that a reading does what the machine does. -/
namespace Dl
open PySem L2 Wp

/-- the names of attributes and of errors' fields, by number -/
def nmL : List Str := ["what", "value", "place", "state", "reason", "number", "line", "limit", "numbers", "widths", "losses", "in_a_row", "road", "pairs", "answer", "silence", "prices", "found", "houses", "can", "left_over", "now", "depth", "search"]
def nm (i : Nat) : Str := if i < 24 then nmL.getD i "" else ⟨Array.replicate (100 + i) 0⟩
theorem nmL_size : ∀ i, i < 24 → (nmL.getD i "").cps.size < 100 := by decide +kernel
theorem nmL_inj : ∀ i, i < 24 → ∀ j, j < 24 → nmL.getD i "" = nmL.getD j "" → i = j := by decide +kernel
theorem nm_inj {i j : Nat} (h : nm i = nm j) : i = j := by
  unfold nm at h
  by_cases hi : i < 24 <;> by_cases hj : j < 24
  · rw [if_pos hi, if_pos hj] at h; exact nmL_inj i hi j hj h
  · rw [if_pos hi, if_neg hj] at h
    have := nmL_size i hi
    rw [h] at this
    simp at this; omega
  · rw [if_neg hi, if_pos hj] at h
    have := nmL_size j hj
    rw [← h] at this
    simp at this; omega
  · rw [if_neg hi, if_neg hj] at h
    have := congrArg (fun s : Str => s.cps.size) h
    simp at this; omega
structure Ctx where
  K : PySem.W.Frag
  cls : Nat → Addr
  fn : Nat → Addr
  ab : Nat → List D → Addr → HO → Prop
  kb : Nat → Addr → Prop
  /-- the tables of code objects: where they stand, the names of the code in them -/
  nt : Nat
  tb : Nat → Addr
  tq : Nat → Str
  wd : World

def kOf : D → Option Key
  | .int i => some (.inl i)
  | .str s => some (.inr s)
  | _ => none
def ksOf : D → Option (List Key)
  | .tup ds => ds.mapM kOf
  | _ => none
mutual
/-- a key with tuples in it -/
def nkOf : D → Option NestedKey
  | .int i => some (.num i)
  | .str s => some (.text s)
  | .tup ds => (nksOf ds).map .tup
  | _ => none
def nksOf : List D → Option (List NestedKey)
  | [] => some []
  | d :: ds => (nkOf d).bind fun k => (nksOf ds).map (k :: ·)
end
/-- the dict at a, its keys with where they stand and its values -/
def ndF (w : World) (a : Addr) (kvs : List (NestedKey × Addr × V)) (h : Heap) : Prop := ∃ xs : List (NestedKey × Addr × Value), Paired (fun p q => p.1 = q.1 ∧ p.2.1 = q.2.1 ∧ RelV p.2.2 q.2.2) kvs xs ∧
  ∃ o es ep, h.get? a = some o ∧ o.ExactDict ∧ o.data = .dict es ep ∧ es.toList = xs.map fun x => (⟨x.1.hash w, .ref x.2.1, x.2.2⟩ : DictEntry)
def ndO (w : World) (a : Addr) (kvs : List (NestedKey × Addr × V)) : HO := .ext (ndF w a kvs)
/-! dicts with keys of all these kinds: the keys, what they are in the program, the values -/
abbrev KX := NestedKey × Value × Value
def mxE (w : World) (x : KX) : DictEntry := ⟨x.1.hash w, x.2.1, x.2.2⟩
abbrev KM := List (NestedKey × V × V)
abbrev RM : (NestedKey × V × V) → KX → Prop := fun p q => p.1 = q.1 ∧ RelV p.2.1 q.2.1 ∧ RelV p.2.2 q.2.2
def mxF (w : World) (a : Addr) (kvs : KM) (h : Heap) : Prop := ∃ xs : List KX, Paired RM kvs xs ∧ ∃ o es ep, h.get? a = some o ∧ o.ExactDict ∧ o.data = .dict es ep ∧ es.toList = xs.map (mxE w)
def mxO (w : World) (a : Addr) (kvs : KM) : HO := .ext (mxF w a kvs)
theorem mxO_code (w : World) (a : Addr) (kvs : KM) (c : Addr) (q : Str) : mxO w a kvs ≠ LamX.CodeO c q := by
  intro e
  have e' := HO.ext.inj e
  let ob : Obj := { cls := .none, data := .fields #[.none, .str q default] }
  let h : Heap := { objs := Array.replicate (a + c + 1) ob }
  have g : ∀ b : Nat, b < a + c + 1 → h.get? b = some ob := fun b hb => by
    have z : h.objs[b]? = some ob := by
      show (Array.replicate (a + c + 1) ob)[b]? = some ob
      rw [Array.getElem?_replicate, if_pos hb]
    unfold Heap.get?
    rw [z]
  have z : mxF w a kvs h := by
    rw [e']
    exact ⟨ob, _, default, g c (Nat.lt_succ_of_le (Nat.le_add_left c a)), rfl, rfl⟩
  obtain ⟨xs, _, o, es, ep, h1, _, h3, _⟩ := z
  rw [g a (Nat.lt_succ_of_le (Nat.le_add_right a c))] at h1
  cases h1
  cases h3
/-- a dict's content: its keys, its values -/
def DctO (q : Nat) (o : HO) (ks : List D) (vs : List V) : Prop := match q with
  | 0 => ∃ qs : List Key, ks.map kOf = qs.map some ∧ qs.length = vs.length ∧ o = .dK (qs.zip vs)
  | 1 => ∃ qs : List (List Key), ks.map ksOf = qs.map some ∧ qs.length = vs.length ∧ o = .dT (qs.zip vs)
  | _ => False
/-- the same of keys with tuples in them: the keys' own values stand behind the values -/
def DctN (w : World) (a : Addr) (o : HO) (ks ws : List D) (vs : List V) : Prop := ∃ (qs : List NestedKey) (as : List Addr) (es : List D) (us : List V), ks.map nkOf = qs.map some ∧ (∀ q ∈ qs, q.depth ≤ 8) ∧ qs.Nodup ∧ (a == sysModules) = false ∧
  qs.length = as.length ∧ as.length = us.length ∧ es.length = us.length ∧ us.length ≤ sizeLine ∧ ws = es ++ ks ∧ vs = us ++ as.map V.ref ∧ o = ndO w a (qs.zip (as.zip us))
/-- the same of keys of all kinds -/
def DctX (w : World) (a : Addr) (o : HO) (ks ws : List D) (vs : List V) : Prop := ∃ (qs : List NestedKey) (as : List V) (es : List D) (us : List V), ks.map nkOf = qs.map some ∧ (∀ q ∈ qs, q.depth ≤ 8) ∧ qs.Nodup ∧ (a == sysModules) = false ∧
  qs.length = as.length ∧ as.length = us.length ∧ es.length = us.length ∧ us.length ≤ sizeLine ∧ ws = es ++ ks ∧ vs = us ++ as ∧ o = mxO w a (qs.zip (as.zip us))
def DctR (κ : Ctx) (a : Addr) (q : Nat) (o : HO) (ks ws : List D) (vs : List V) : Prop := match q with
  | 0 => DctO 0 o ks vs
  | 1 => DctO 1 o ks vs
  | 2 => DctN κ.wd a o ks ws vs
  | 3 => DctX κ.wd a o ks ws vs
  | _ => False
theorem DctR.of {κ : Ctx} {a : Addr} {q : Nat} {o : HO} {ks ws : List D} {vs : List V} (h : DctR κ a q o ks ws vs) (z : q = 0 ∨ q = 1) : DctO q o ks vs := by
  rcases z with rfl | rfl <;> exact h
theorem DctO.to {κ : Ctx} {a : Addr} {q : Nat} {o : HO} {ks ws : List D} {vs : List V} (h : DctO q o ks vs) : DctR κ a q o ks ws vs := by
  match q, h with
  | 0, h => exact h
  | 1, h => exact h
  | _ + 2, h => exact h.elim
theorem dctO_01 {q : Nat} {o : HO} {ks : List D} {vs : List V} (h : DctO q o ks vs) : q = 0 ∨ q = 1 := by
  match q, h with
  | 0, h => exact .inl rfl
  | 1, h => exact .inr rfl
  | _ + 2, h => exact h.elim
theorem ndO_code (w : World) (a : Addr) (kvs : List (NestedKey × Addr × V)) (c : Addr) (q : Str) : ndO w a kvs ≠ LamX.CodeO c q := by
  intro e
  have e' := HO.ext.inj e
  let ob : Obj := { cls := .none, data := .fields #[.none, .str q default] }
  let h : Heap := { objs := Array.replicate (a + c + 1) ob }
  have g : ∀ b : Nat, b < a + c + 1 → h.get? b = some ob := fun b hb => by
    have z : h.objs[b]? = some ob := by
      show (Array.replicate (a + c + 1) ob)[b]? = some ob
      rw [Array.getElem?_replicate, if_pos hb]
    unfold Heap.get?
    rw [z]
  have z : ndF w a kvs h := by
    rw [e']
    exact ⟨ob, _, default, g c (Nat.lt_succ_of_le (Nat.le_add_left c a)), rfl, rfl⟩
  obtain ⟨xs, _, o, es, ep, h1, _, h3, _⟩ := z
  rw [g a (Nat.lt_succ_of_le (Nat.le_add_right a c))] at h1
  cases h1
  cases h3

/-! ### heaps that grow; the tables of code objects may change -/
def TabAll (κ : Ctx) (H : Hp) : Prop := ∀ k, k < κ.nt → LamX.TabS H (κ.tb k) (κ.tq k)
def noTbl (o : HO) : Prop := ∀ ps, o ≠ .tbl ps
/-- a thing that may be held: no tuple, no table, nothing of one's own kind -/
def clO : HO → Prop
  | .lst _ => True
  | .dK _ => True
  | .dT _ => True
  | .ins _ _ _ => True
  | .frz _ _ => True
  | .ext φ => ∀ c q, HO.ext φ ≠ LamX.CodeO c q
  | _ => False
theorem clO.nt {o : HO} (h : clO o) : noTbl o := fun ps e => by subst e; exact h
theorem clO.tup {o : HO} (h : clO o) : ∀ vs, o ≠ .tup vs := fun ps e => by subst e; exact h
structure Xt (κ : Ctx) (H H' : Hp) : Prop where
  kp : ∀ a o, H a = some o → noTbl o → H' a = some o
  tb : ∀ a ps, H a = some (.tbl ps) → ∃ ps', H' a = some (.tbl ps')
  al : TabAll κ H → TabAll κ H'
theorem Xt.of {κ : Ctx} {H H' : Hp} (e : Wp.Ext H H') : Xt κ H H' := ⟨fun a o h _ => e a o h, fun a ps h => ⟨ps, e _ _ h⟩, fun h k hk => (h k hk).ext e⟩
theorem Xt.refl {κ : Ctx} (H : Hp) : Xt κ H H := Xt.of (Wp.Ext.refl H)
theorem Xt.trans {κ : Ctx} {H H1 H2 : Hp} (a : Xt κ H H1) (b : Xt κ H1 H2) : Xt κ H H2 := ⟨fun x o h n => b.kp x o (a.kp x o h n) n, fun x ps h => by
  obtain ⟨q, e⟩ := a.tb x ps h
  exact b.tb x q e, fun h => b.al (a.al h)⟩
theorem Xt.new {κ : Ctx} {H H1 : Hp} {p : Addr} {o : HO} (e : Xt κ H H1) (h : H1 p = none) : Xt κ H (upd H1 p o) := e.trans (Xt.of (Wp.Ext.new (Wp.Ext.refl _) h))
theorem xt_none {κ : Ctx} {H H' : Hp} {a : Addr} (e : Xt κ H H') (h : H' a = none) : H a = none := by
  cases q : H a with
  | none => rfl
  | some o =>
    by_cases n : noTbl o
    · rw [e.kp a o q n] at h; cases h
    · simp only [noTbl, Classical.not_forall, Classical.not_not] at n
      obtain ⟨ps, rfl⟩ := n
      obtain ⟨ps', e2⟩ := e.tb a ps q
      rw [e2] at h; cases h
theorem TabAll.write {κ : Ctx} {H : Hp} {p : Addr} {o u : HO} (h : TabAll κ H) (q : H p = some u) (c : clO u) : TabAll κ (upd H p o) := fun k hk => by
  obtain ⟨ps, h1, h2, h3⟩ := h k hk
  refine ⟨ps, ?_, h2, fun pos cv z => ?_⟩
  · rw [upd_ne (fun e => by rw [e, q] at h1; cases h1; exact c)]; exact h1
  · obtain ⟨b, e1, e2⟩ := h3 pos cv z
    refine ⟨b, e1, ?_⟩
    rw [upd_ne (fun e => by rw [e, q] at e2; cases e2; exact c _ _ rfl)]; exact e2
theorem Xt.mut {κ : Ctx} {H H1 : Hp} {p : Addr} {o u : HO} (e : Xt κ H H1) (h : H p = none) (q : H1 p = some u) (c : clO u) : Xt κ H (upd H1 p o) :=
  ⟨fun a v g n => by
    rw [upd_ne (fun z => by rw [z, h] at g; cases g)]
    exact e.kp a v g n, fun a ps g => by
    rw [upd_ne (fun z => by rw [z, h] at g; cases g)]
    exact e.tb a ps g, fun g => (e.al g).write q c⟩
/-! ### data in the heap; Y: what must not be met -/
/-- no dict, locked or not, no table -/
def ntd : HO → Prop
  | .tbl _ => False
  | .dK _ => False
  | .dT _ => False
  | .frz _ u => ntd u
  | .ext φ => ∀ w a kvs, HO.ext φ ≠ mxO w a kvs
  | _ => True
theorem ntd.nt {o : HO} (h : ntd o) : noTbl o := fun ps e => by subst e; exact h
theorem ntd.dct {q : Nat} {o : HO} {ks : List D} {vs : List V} (h : ntd o) (r : DctO q o ks vs) : False := by
  match q, r with
  | 0, r => obtain ⟨_, _, _, rfl⟩ := r; exact h
  | 1, r => obtain ⟨_, _, _, rfl⟩ := r; exact h
  | _ + 2, r => exact r.elim
/-- a caught error that is kept; the fields of the errors, by class -/
def kxO (oe : Obj) : HO := .frz oe (.ext fun _ => True)
def exN : Nat → List Nat
  | 1 => [1, 0]
  | 2 => [2]
  | 3 => [2]
  | 4 => [1]
  | 5 => [4, 3]
  | 6 => [4, 2]
  | 7 => [4, 5, 3]
  | 8 => [6]
  | 9 => [2]
  | 10 => [7]
  | _ => []
def absR (κ : Ctx) (n : Nat) (ds : List D) (a : Addr) (o : HO) : Prop := ((99 ≤ n ∧ n < 300) ∧ noTbl o) ∨ (κ.ab n ds a o ∧ ntd o)
theorem absR.nt {κ : Ctx} {n : Nat} {ds : List D} {a : Addr} {o : HO} (h : absR κ n ds a o) : noTbl o := h.elim (fun h => h.2) fun h => h.2.nt
theorem dctO_cl {q : Nat} {o : HO} {ks : List D} {vs : List V} (h : DctO q o ks vs) : clO o := by
  match q, h with
  | 0, h => obtain ⟨_, _, _, rfl⟩ := h; trivial
  | 1, h => obtain ⟨_, _, _, rfl⟩ := h; trivial
  | _ + 2, h => exact h.elim
theorem dctR_cl {κ : Ctx} {a : Addr} {q : Nat} {o : HO} {ks ws : List D} {vs : List V} (h : DctR κ a q o ks ws vs) : clO o := by
  match q, h with
  | 0, h => exact dctO_cl (q := 0) (ks := ks) (vs := vs) (h : DctO 0 o ks vs)
  | 1, h => exact dctO_cl (q := 1) (ks := ks) (vs := vs) (h : DctO 1 o ks vs)
  | 2, h =>
    obtain ⟨_, _, _, _, _, _, _, _, _, _, _, _, _, _, rfl⟩ := h
    exact fun c q => ndO_code _ _ _ c q
  | 3, h =>
    obtain ⟨_, _, _, _, _, _, _, _, _, _, _, _, _, _, rfl⟩ := h
    exact fun c q => mxO_code _ _ _ c q
  | _ + 4, h => exact h.elim
mutual
def RD (κ : Ctx) (ν : List Addr) (Y : Addr → Prop) (H : Hp) : D → V → Prop
  | .non, v => v = .non
  | .bl b, v => v = .bl b
  | .int i, v => v = .int i
  | .str s, v => v = .str s
  | .tup ds, v => ∃ a vs, v = .ref a ∧ ¬ Y a ∧ H a = some (.tup vs) ∧ RDs κ ν Y H ds vs
  | .lst ds, v => ∃ a vs, v = .ref a ∧ ¬ Y a ∧ H a = some (.lst vs) ∧ RDs κ ν Y H ds vs
  | .dct q ks ws, v => ∃ a o vs, v = .ref a ∧ ¬ Y a ∧ Rd H a o ∧ DctR κ a q o ks ws vs ∧ RDs κ ν Y H ws vs
  | .ins c ns ds, v => ∃ a dx vs, v = .ref a ∧ ¬ Y a ∧ H a = some (.ins (κ.cls c) dx ((ns.map nm).zip vs)) ∧ ns.length = vs.length ∧ RDs κ ν Y H ds vs
  | .abs n ds, v => ∃ a, v = .ref a ∧ ((∃ o, ¬ Y a ∧ H a = some o ∧ absR κ n ds a o) ∨ κ.kb n a ∨ (300 ≤ n ∧ ¬ Y a ∧ ∃ oe, H a = some (kxO oe) ∧ oe.cls = .ref (κ.cls (n - 300)) ∧ (∃ us, oe.data = .fields us) ∧
    ((oe.dict = none ∧ ds = []) ∨ ∃ dd vs, oe.dict = some dd ∧ ¬ Y dd ∧ H dd = some (.xd (((exN (n - 300)).map nm).zip vs)) ∧ (exN (n - 300)).length = vs.length ∧ RDs κ ν Y H ds vs)))
  | .fn n, v => v = .ref (κ.fn n)
  | .loc n, v => ∃ a, v = .ref a ∧ ν[n]? = some a
def RDs (κ : Ctx) (ν : List Addr) (Y : Addr → Prop) (H : Hp) : List D → List V → Prop
  | [], vs => vs = []
  | d :: ds, vs => ∃ v r, vs = v :: r ∧ RD κ ν Y H d v ∧ RDs κ ν Y H ds r
end
section
variable {κ : Ctx} {ν ν' : List Addr} {Y Y' : Addr → Prop} {H H' : Hp}
mutual
theorem RD.keep (k : ∀ a o, ¬ Y a → H a = some o → H' a = some o) : ∀ {d : D} {v : V}, RD κ ν Y H d v → RD κ ν Y H' d v
  | .non, _, h => by simpa only [RD] using h
  | .bl b, _, h => by simpa only [RD] using h
  | .int i, _, h => by simpa only [RD] using h
  | .str s, _, h => by simpa only [RD] using h
  | .tup ds, _, h => by
    simp only [RD] at h ⊢
    obtain ⟨a, vs, e, n, g, r⟩ := h
    exact ⟨a, vs, e, n, k _ _ n g, RDs.keep k r⟩
  | .lst ds, _, h => by
    simp only [RD] at h ⊢
    obtain ⟨a, vs, e, n, g, r⟩ := h
    exact ⟨a, vs, e, n, k _ _ n g, RDs.keep k r⟩
  | .dct q ks ws, _, h => by
    simp only [RD] at h ⊢
    obtain ⟨a, o, vs, e, n, g, q, r⟩ := h
    exact ⟨a, o, vs, e, n, g.imp (k _ _ n) fun ⟨ob, g⟩ => ⟨ob, k _ _ n g⟩, q, RDs.keep k r⟩
  | .ins c ns ds, _, h => by
    simp only [RD] at h ⊢
    obtain ⟨a, dx, vs, e, n, g, q, r⟩ := h
    exact ⟨a, dx, vs, e, n, k _ _ n g, q, RDs.keep k r⟩
  | .abs m ds, _, h => by
    simp only [RD] at h ⊢
    obtain ⟨a, e, ⟨o, n, g, r⟩ | r | ⟨m3, n, oe, g, c, f, t⟩⟩ := h
    · exact ⟨a, e, .inl ⟨o, n, k _ _ n g, r⟩⟩
    · exact ⟨a, e, .inr (.inl r)⟩
    · exact ⟨a, e, .inr (.inr ⟨m3, n, oe, k _ _ n g, c, f, t.imp id fun ⟨dd, vs, t1, t2, t3, t4, t5⟩ => ⟨dd, vs, t1, t2, k _ _ t2 t3, t4, RDs.keep k t5⟩⟩)⟩
  | .fn m, _, h => by simpa only [RD] using h
  | .loc m, _, h => by simpa only [RD] using h
theorem RDs.keep (k : ∀ a o, ¬ Y a → H a = some o → H' a = some o) : ∀ {ds : List D} {vs : List V}, RDs κ ν Y H ds vs → RDs κ ν Y H' ds vs
  | [], _, h => by simpa only [RDs] using h
  | d :: ds, _, h => by
    simp only [RDs] at h ⊢
    obtain ⟨v, r, e, a, b⟩ := h
    exact ⟨v, r, e, RD.keep k a, RDs.keep k b⟩
end
mutual
theorem RD.keepN (k : ∀ a o, ¬ Y a → noTbl o → H a = some o → H' a = some o) : ∀ {d : D} {v : V}, RD κ ν Y H d v → RD κ ν Y H' d v
  | .non, _, h => by simpa only [RD] using h
  | .bl b, _, h => by simpa only [RD] using h
  | .int i, _, h => by simpa only [RD] using h
  | .str s, _, h => by simpa only [RD] using h
  | .tup ds, _, h => by
    simp only [RD] at h ⊢
    obtain ⟨a, vs, z, n, g, r⟩ := h
    exact ⟨a, vs, z, n, k _ _ n (fun _ => nofun) g, RDs.keepN k r⟩
  | .lst ds, _, h => by
    simp only [RD] at h ⊢
    obtain ⟨a, vs, z, n, g, r⟩ := h
    exact ⟨a, vs, z, n, k _ _ n (fun _ => nofun) g, RDs.keepN k r⟩
  | .dct q ks ws, _, h => by
    simp only [RD] at h ⊢
    obtain ⟨a, o, vs, z, n, g, q, r⟩ := h
    exact ⟨a, o, vs, z, n, g.imp (fun g => k _ _ n (dctR_cl q).nt g) fun ⟨ob, g⟩ => ⟨ob, k _ _ n (fun _ => nofun) g⟩, q, RDs.keepN k r⟩
  | .ins c ns ds, _, h => by
    simp only [RD] at h ⊢
    obtain ⟨a, dx, vs, z, n, g, q, r⟩ := h
    exact ⟨a, dx, vs, z, n, k _ _ n (fun _ => nofun) g, q, RDs.keepN k r⟩
  | .abs m ds, _, h => by
    simp only [RD] at h ⊢
    obtain ⟨a, z, ⟨o, n, g, r⟩ | r | ⟨m3, n, oe, g, c, f, t⟩⟩ := h
    · exact ⟨a, z, .inl ⟨o, n, k _ _ n r.nt g, r⟩⟩
    · exact ⟨a, z, .inr (.inl r)⟩
    · exact ⟨a, z, .inr (.inr ⟨m3, n, oe, k _ _ n (fun _ => nofun) g, c, f, t.imp id fun ⟨dd, vs, t1, t2, t3, t4, t5⟩ => ⟨dd, vs, t1, t2, k _ _ t2 (fun _ => nofun) t3, t4, RDs.keepN k t5⟩⟩)⟩
  | .fn m, _, h => by simpa only [RD] using h
  | .loc m, _, h => by simpa only [RD] using h
theorem RDs.keepN (k : ∀ a o, ¬ Y a → noTbl o → H a = some o → H' a = some o) : ∀ {ds : List D} {vs : List V}, RDs κ ν Y H ds vs → RDs κ ν Y H' ds vs
  | [], _, h => by simpa only [RDs] using h
  | d :: ds, _, h => by
    simp only [RDs] at h ⊢
    obtain ⟨v, r, z, a, b⟩ := h
    exact ⟨v, r, z, RD.keepN k a, RDs.keepN k b⟩
end
theorem RD.ext (e : Xt κ H H') {d : D} {v : V} (h : RD κ ν Y H d v) : RD κ ν Y H' d v := RD.keepN (fun a o _ n q => e.kp a o q n) h
theorem RDs.ext (e : Xt κ H H') {d : List D} {v : List V} (h : RDs κ ν Y H d v) : RDs κ ν Y H' d v := RDs.keepN (fun a o _ n q => e.kp a o q n) h
/-! what must not be met may grow by things that the heap does not know, or shrink -/
mutual
theorem RD.mono (k : ∀ a o, H a = some o → Y' a → Y a) : ∀ {d : D} {v : V}, RD κ ν Y H d v → RD κ ν Y' H d v
  | .non, _, h => by simpa only [RD] using h
  | .bl b, _, h => by simpa only [RD] using h
  | .int i, _, h => by simpa only [RD] using h
  | .str s, _, h => by simpa only [RD] using h
  | .tup ds, _, h => by
    simp only [RD] at h ⊢
    obtain ⟨a, vs, e, n, g, r⟩ := h
    exact ⟨a, vs, e, fun z => n (k _ _ g z), g, RDs.mono k r⟩
  | .lst ds, _, h => by
    simp only [RD] at h ⊢
    obtain ⟨a, vs, e, n, g, r⟩ := h
    exact ⟨a, vs, e, fun z => n (k _ _ g z), g, RDs.mono k r⟩
  | .dct q ks ws, _, h => by
    simp only [RD] at h ⊢
    obtain ⟨a, o, vs, e, n, g, q, r⟩ := h
    exact ⟨a, o, vs, e, fun z => n (g.elim (fun g => k _ _ g z) fun ⟨ob, g⟩ => k _ _ g z), g, q, RDs.mono k r⟩
  | .ins c ns ds, _, h => by
    simp only [RD] at h ⊢
    obtain ⟨a, dx, vs, e, n, g, q, r⟩ := h
    exact ⟨a, dx, vs, e, fun z => n (k _ _ g z), g, q, RDs.mono k r⟩
  | .abs m ds, _, h => by
    simp only [RD] at h ⊢
    obtain ⟨a, e, ⟨o, n, g, r⟩ | r | ⟨m3, n, oe, g, c, f, t⟩⟩ := h
    · exact ⟨a, e, .inl ⟨o, fun z => n (k _ _ g z), g, r⟩⟩
    · exact ⟨a, e, .inr (.inl r)⟩
    · exact ⟨a, e, .inr (.inr ⟨m3, fun z => n (k _ _ g z), oe, g, c, f, t.imp id fun ⟨dd, vs, t1, t2, t3, t4, t5⟩ => ⟨dd, vs, t1, fun z => t2 (k _ _ t3 z), t3, t4, RDs.mono k t5⟩⟩)⟩
  | .fn m, _, h => by simpa only [RD] using h
  | .loc m, _, h => by simpa only [RD] using h
theorem RDs.mono (k : ∀ a o, H a = some o → Y' a → Y a) : ∀ {ds : List D} {vs : List V}, RDs κ ν Y H ds vs → RDs κ ν Y' H ds vs
  | [], _, h => by simpa only [RDs] using h
  | d :: ds, _, h => by
    simp only [RDs] at h ⊢
    obtain ⟨v, r, e, a, b⟩ := h
    exact ⟨v, r, e, RD.mono k a, RDs.mono k b⟩
end
/-! data without lists, dicts, objects stands in tuples alone -/
mutual
theorem RD.flat (k : ∀ a vs, H a = some (.tup vs) → ¬ Y' a) : ∀ {d : D} {v : V}, noMut d = true → RD κ ν Y H d v → RD κ ν Y' H d v
  | .non, _, _, h => by simpa only [RD] using h
  | .bl b, _, _, h => by simpa only [RD] using h
  | .int i, _, _, h => by simpa only [RD] using h
  | .str s, _, _, h => by simpa only [RD] using h
  | .tup ds, _, m, h => by
    simp only [RD] at h ⊢
    simp only [noMut_tup] at m
    obtain ⟨a, vs, e, n, g, r⟩ := h
    exact ⟨a, vs, e, k _ _ g, g, RDs.flat k m r⟩
  | .lst ds, _, m, h => by simp at m
  | .dct q ks ws, _, m, h => by simp at m
  | .ins c ns ds, _, m, h => by simp at m
  | .abs n ds, _, m, h => by simp at m
  | .fn m, _, _, h => by simpa only [RD] using h
  | .loc m, _, _, h => by simpa only [RD] using h
theorem RDs.flat (k : ∀ a vs, H a = some (.tup vs) → ¬ Y' a) : ∀ {ds : List D} {vs : List V}, noMuts ds = true → RDs κ ν Y H ds vs → RDs κ ν Y' H ds vs
  | [], _, _, h => by simpa only [RDs] using h
  | d :: ds, _, m, h => by
    simp only [RDs] at h ⊢
    simp only [noMuts_cons, Bool.and_eq_true] at m
    obtain ⟨v, r, e, a, b⟩ := h
    exact ⟨v, r, e, RD.flat k m.1 a, RDs.flat k m.2 b⟩
end
/-! more things in the store; none of them is told of -/
mutual
theorem RD.nu (k : ∀ (n : Nat) (a : Addr), ν[n]? = some a → ν'[n]? = some a) : ∀ {d : D} {v : V}, RD κ ν Y H d v → RD κ ν' Y H d v
  | .non, _, h => by simpa only [RD] using h
  | .bl b, _, h => by simpa only [RD] using h
  | .int i, _, h => by simpa only [RD] using h
  | .str s, _, h => by simpa only [RD] using h
  | .tup ds, _, h => by
    simp only [RD] at h ⊢
    obtain ⟨a, vs, e, n, g, r⟩ := h
    exact ⟨a, vs, e, n, g, RDs.nu k r⟩
  | .lst ds, _, h => by
    simp only [RD] at h ⊢
    obtain ⟨a, vs, e, n, g, r⟩ := h
    exact ⟨a, vs, e, n, g, RDs.nu k r⟩
  | .dct q ks ws, _, h => by
    simp only [RD] at h ⊢
    obtain ⟨a, o, vs, e, n, g, q, r⟩ := h
    exact ⟨a, o, vs, e, n, g, q, RDs.nu k r⟩
  | .ins c ns ds, _, h => by
    simp only [RD] at h ⊢
    obtain ⟨a, dx, vs, e, n, g, q, r⟩ := h
    exact ⟨a, dx, vs, e, n, g, q, RDs.nu k r⟩
  | .abs m ds, _, h => by
    simp only [RD] at h ⊢
    obtain ⟨a, e, r | r | ⟨m3, n, oe, g, c, f, t⟩⟩ := h
    · exact ⟨a, e, .inl r⟩
    · exact ⟨a, e, .inr (.inl r)⟩
    · exact ⟨a, e, .inr (.inr ⟨m3, n, oe, g, c, f, t.imp id fun ⟨dd, vs, t1, t2, t3, t4, t5⟩ => ⟨dd, vs, t1, t2, t3, t4, RDs.nu k t5⟩⟩)⟩
  | .fn m, _, h => by simpa only [RD] using h
  | .loc m, _, h => by
    simp only [RD] at h ⊢
    obtain ⟨a, e, g⟩ := h
    exact ⟨a, e, k _ _ g⟩
theorem RDs.nu (k : ∀ (n : Nat) (a : Addr), ν[n]? = some a → ν'[n]? = some a) : ∀ {ds : List D} {vs : List V}, RDs κ ν Y H ds vs → RDs κ ν' Y H ds vs
  | [], _, h => by simpa only [RDs] using h
  | d :: ds, _, h => by
    simp only [RDs] at h ⊢
    obtain ⟨v, r, e, a, b⟩ := h
    exact ⟨v, r, e, RD.nu k a, RDs.nu k b⟩
end
mutual
theorem RD.noL : ∀ {d : D} {v : V}, noLoc d = true → RD κ ν Y H d v → RD κ ν' Y H d v
  | .non, _, _, h => by simpa only [RD] using h
  | .bl b, _, _, h => by simpa only [RD] using h
  | .int i, _, _, h => by simpa only [RD] using h
  | .str s, _, _, h => by simpa only [RD] using h
  | .tup ds, _, m, h => by
    simp only [RD] at h ⊢
    obtain ⟨a, vs, e, n, g, r⟩ := h
    exact ⟨a, vs, e, n, g, RDs.noL (by simpa using m) r⟩
  | .lst ds, _, m, h => by
    simp only [RD] at h ⊢
    obtain ⟨a, vs, e, n, g, r⟩ := h
    exact ⟨a, vs, e, n, g, RDs.noL (by simpa using m) r⟩
  | .dct q ks ws, _, m, h => by
    simp only [RD] at h ⊢
    simp only [noLoc_dct, Bool.and_eq_true] at m
    obtain ⟨a, o, vs, e, n, g, q, r⟩ := h
    exact ⟨a, o, vs, e, n, g, q, RDs.noL m.2 r⟩
  | .ins c ns ds, _, m, h => by
    simp only [RD] at h ⊢
    obtain ⟨a, dx, vs, e, n, g, q, r⟩ := h
    exact ⟨a, dx, vs, e, n, g, q, RDs.noL (by simpa using m) r⟩
  | .abs m ds, _, w, h => by
    simp only [RD] at h ⊢
    obtain ⟨a, e, r | r | ⟨m3, n, oe, g, c, f, t⟩⟩ := h
    · exact ⟨a, e, .inl r⟩
    · exact ⟨a, e, .inr (.inl r)⟩
    · exact ⟨a, e, .inr (.inr ⟨m3, n, oe, g, c, f, t.imp id fun ⟨dd, vs, t1, t2, t3, t4, t5⟩ => ⟨dd, vs, t1, t2, t3, t4, RDs.noL (by simpa using w) t5⟩⟩)⟩
  | .fn m, _, _, h => by simpa only [RD] using h
  | .loc m, _, z, h => by simp at z
theorem RDs.noL : ∀ {ds : List D} {vs : List V}, noLocs ds = true → RDs κ ν Y H ds vs → RDs κ ν' Y H ds vs
  | [], _, _, h => by simpa only [RDs] using h
  | d :: ds, _, m, h => by
    simp only [RDs] at h ⊢
    simp only [noLocs_cons, Bool.and_eq_true] at m
    obtain ⟨v, r, e, a, b⟩ := h
    exact ⟨v, r, e, RD.noL m.1 a, RDs.noL m.2 b⟩
end
theorem RDs.len : ∀ {ds : List D} {vs : List V}, RDs κ ν Y H ds vs → ds.length = vs.length
  | [], _, h => by simp only [RDs] at h; simp [h]
  | d :: ds, _, h => by
    simp only [RDs] at h
    obtain ⟨v, r, rfl, _, b⟩ := h
    simp [RDs.len b]
theorem RDs.at : ∀ {ds : List D} {vs : List V} {i : Nat} {d : D}, RDs κ ν Y H ds vs → ds[i]? = some d → ∃ v, vs[i]? = some v ∧ RD κ ν Y H d v
  | [], _, _, _, _, e => by simp at e
  | d :: ds, _, 0, _, h, e => by
    simp only [RDs] at h
    obtain ⟨v, r, rfl, a, b⟩ := h
    simp at e
    subst e
    exact ⟨v, rfl, a⟩
  | d :: ds, _, i + 1, _, h, e => by
    simp only [RDs] at h
    obtain ⟨v, r, rfl, a, b⟩ := h
    simpa using RDs.at (i := i) b (by simpa using e)
theorem RDs.app : ∀ {ds : List D} {vs : List V} {es : List D} {ws : List V}, RDs κ ν Y H ds vs → RDs κ ν Y H es ws → RDs κ ν Y H (ds ++ es) (vs ++ ws)
  | [], _, _, _, h, g => by simp only [RDs] at h; subst h; simpa using g
  | d :: ds, _, _, _, h, g => by
    simp only [RDs] at h
    obtain ⟨v, r, rfl, a, b⟩ := h
    simp only [List.cons_append, RDs]
    exact ⟨v, _, rfl, a, RDs.app b g⟩
theorem RDs.one {d : D} {v : V} (h : RD κ ν Y H d v) : RDs κ ν Y H [d] [v] := by simp only [RDs]; exact ⟨v, [], rfl, h, rfl⟩
theorem RDs.take : ∀ (n : Nat) {ds : List D} {vs : List V}, RDs κ ν Y H ds vs → RDs κ ν Y H (ds.take n) (vs.take n)
  | 0, _, _, _ => by simp [RDs]
  | n + 1, [], _, h => by simp only [RDs] at h; subst h; simp [RDs]
  | n + 1, d :: ds, _, h => by
    simp only [RDs] at h
    obtain ⟨v, r, rfl, a, b⟩ := h
    simp only [List.take_succ_cons, RDs]
    exact ⟨v, _, rfl, a, RDs.take n b⟩
theorem RDs.drop : ∀ (n : Nat) {ds : List D} {vs : List V}, RDs κ ν Y H ds vs → RDs κ ν Y H (ds.drop n) (vs.drop n)
  | 0, _, _, h => h
  | n + 1, [], _, h => by simp only [RDs] at h; subst h; simp [RDs]
  | n + 1, d :: ds, _, h => by
    simp only [RDs] at h
    obtain ⟨v, r, rfl, a, b⟩ := h
    simpa using RDs.drop n b
theorem RDs.set : ∀ (n : Nat) {ds : List D} {vs : List V} {x : D} {w : V}, RDs κ ν Y H ds vs → RD κ ν Y H x w → RDs κ ν Y H (ds.set n x) (vs.set n w)
  | _, [], _, _, _, h, _ => by simp only [RDs] at h; subst h; simp [RDs]
  | 0, d :: ds, _, _, _, h, g => by
    simp only [RDs] at h
    obtain ⟨v, r, rfl, a, b⟩ := h
    simp only [List.set_cons_zero, RDs]
    exact ⟨_, _, rfl, g, b⟩
  | n + 1, d :: ds, _, _, _, h, g => by
    simp only [RDs] at h
    obtain ⟨v, r, rfl, a, b⟩ := h
    simp only [List.set_cons_succ, RDs]
    exact ⟨_, _, rfl, a, RDs.set n b g⟩
theorem RDs.rev {ds : List D} {vs : List V} (h : RDs κ ν Y H ds vs) : RDs κ ν Y H ds.reverse vs.reverse := by
  induction ds generalizing vs with
  | nil => simp only [RDs] at h; subst h; simp [RDs]
  | cons d ds ih =>
    simp only [RDs] at h
    obtain ⟨v, r, rfl, a, b⟩ := h
    simp only [List.reverse_cons]
    exact RDs.app (ih b) (RDs.one a)
theorem RDs.ints : ∀ {ns : List Int} {vs : List V}, RDs κ ν Y H (ns.map .int) vs → vs = ns.map V.int
  | [], _, h => by simpa [RDs] using h
  | n :: ns, _, h => by
    simp only [List.map_cons, RDs, RD] at h
    obtain ⟨v, r, rfl, rfl, b⟩ := h
    rw [RDs.ints b]; rfl
theorem RDs.bools : ∀ {ns : List Bool} {vs : List V}, RDs κ ν Y H (ns.map .bl) vs → vs = ns.map V.bl
  | [], _, h => by simpa [RDs] using h
  | n :: ns, _, h => by
    simp only [List.map_cons, RDs, RD] at h
    obtain ⟨v, r, rfl, rfl, b⟩ := h
    rw [RDs.bools b]; rfl
theorem RDs.of_ints : ∀ ns : List Int, RDs κ ν Y H (ns.map .int) (ns.map V.int)
  | [] => by simp [RDs]
  | n :: ns => by simp only [List.map_cons, RDs, RD]; exact ⟨_, _, rfl, rfl, RDs.of_ints ns⟩
theorem asInts_of : ∀ {ds : List D} {ns : List Int}, asInts ds = some ns → ds = ns.map .int
  | [], ns, h => by simp at h; subst h; rfl
  | d :: ds, ns, h => by
    cases d with
    | int i =>
      simp only [asInts_cons, Option.map_eq_some_iff] at h
      obtain ⟨ms, e, rfl⟩ := h
      rw [asInts_of e]; rfl
    | _ => simp [asInts] at h
theorem asBools_of : ∀ {ds : List D} {ns : List Bool}, asBools ds = some ns → ds = ns.map .bl
  | [], ns, h => by simp at h; subst h; rfl
  | d :: ds, ns, h => by
    cases d with
    | bl i =>
      simp only [asBools_cons, Option.map_eq_some_iff] at h
      obtain ⟨ms, e, rfl⟩ := h
      rw [asBools_of e]; rfl
    | _ => simp [asBools] at h

/-- a thing that is held here alone stands at a -/
def Cell (κ : Ctx) (ν : List Addr) (Y : Addr → Prop) (H : Hp) (a : Addr) : D → Prop
  | .lst ds => ∃ vs, H a = some (.lst vs) ∧ RDs κ ν Y H ds vs
  | .dct q ks ws => ∃ o vs, H a = some o ∧ DctR κ a q o ks ws vs ∧ RDs κ ν Y H ws vs
  | .ins c ns ds => ∃ dx vs, H a = some (.ins (κ.cls c) dx ((ns.map nm).zip vs)) ∧ ns.length = vs.length ∧ RDs κ ν Y H ds vs
  | .abs n _ => n = 99 ∧ ∃ o, H a = some o ∧ clO o
  | _ => False
theorem Cell.keep {a : Addr} {d : D} (h : Cell κ ν Y H a d) (k : ∀ b o, ¬ Y b → H b = some o → H' b = some o) (ka : H' a = H a) : Cell κ ν Y H' a d := by
  cases d with
  | lst ds => obtain ⟨vs, e, r⟩ := h; exact ⟨vs, ka.trans e, r.keep k⟩
  | dct q ks ws => obtain ⟨o, vs, e, q, r⟩ := h; exact ⟨o, vs, ka.trans e, q, r.keep k⟩
  | ins c ns ds => obtain ⟨dx, vs, e, q, r⟩ := h; exact ⟨dx, vs, ka.trans e, q, r.keep k⟩
  | abs n ds =>
    obtain ⟨e, o, g, n⟩ := h
    exact ⟨e, o, ka.trans g, n⟩
  | _ => exact h.elim
theorem Cell.ext {a : Addr} {d : D} (h : Cell κ ν Y H a d) (x : Xt κ H H') : Cell κ ν Y H' a d := by
  cases d with
  | lst ds => obtain ⟨vs, e, r⟩ := h; exact ⟨vs, x.kp _ _ e fun _ => nofun, r.ext x⟩
  | dct q ks ws => obtain ⟨o, vs, e, q, r⟩ := h; exact ⟨o, vs, x.kp _ _ e (dctR_cl q).nt, q, r.ext x⟩
  | ins c ns ds => obtain ⟨dx, vs, e, q, r⟩ := h; exact ⟨dx, vs, x.kp _ _ e fun _ => nofun, q, r.ext x⟩
  | abs n ds =>
    obtain ⟨e, o, g, n⟩ := h
    exact ⟨e, o, x.kp _ _ g n.nt, n⟩
  | _ => exact h.elim
theorem Cell.mono {a : Addr} {d : D} (h : Cell κ ν Y H a d) (k : ∀ b o, H b = some o → Y' b → Y b) : Cell κ ν Y' H a d := by
  cases d with
  | lst ds => obtain ⟨vs, e, r⟩ := h; exact ⟨vs, e, r.mono k⟩
  | dct q ks ws => obtain ⟨o, vs, e, q, r⟩ := h; exact ⟨o, vs, e, q, r.mono k⟩
  | ins c ns ds => obtain ⟨dx, vs, e, q, r⟩ := h; exact ⟨dx, vs, e, q, r.mono k⟩
  | abs n ds => exact h
  | _ => exact h.elim
theorem Cell.cl {a : Addr} {d : D} (h : Cell κ ν Y H a d) : ∃ o, H a = Option.some o ∧ clO o := by
  cases d with
  | lst ds => obtain ⟨vs, e, r⟩ := h; exact ⟨_, e, trivial⟩
  | dct q ks ws => obtain ⟨o, vs, e, q', r⟩ := h; exact ⟨o, e, dctR_cl q'⟩
  | ins c ns ds => obtain ⟨dx, vs, e, q, r⟩ := h; exact ⟨_, e, trivial⟩
  | abs n ds => exact h.2
  | _ => exact h.elim
theorem Cell.some {a : Addr} {d : D} (h : Cell κ ν Y H a d) : ∃ o, H a = Option.some o ∧ ∀ vs, o ≠ .tup vs := by
  obtain ⟨o, e, c⟩ := h.cl
  exact ⟨o, e, c.tup⟩
theorem Cell.rd {a : Addr} {d : D} (h : Cell κ ν Y H a d) (n : ¬ Y a) : RD κ ν Y H d (.ref a) := by
  cases d with
  | lst ds => obtain ⟨vs, e, r⟩ := h; simp only [RD]; exact ⟨a, vs, rfl, n, e, r⟩
  | dct q ks ws => obtain ⟨o, vs, e, q, r⟩ := h; simp only [RD]; exact ⟨a, o, vs, rfl, n, .inl e, q, r⟩
  | ins c ns ds => obtain ⟨dx, vs, e, q, r⟩ := h; simp only [RD]; exact ⟨a, dx, vs, rfl, n, e, q, r⟩
  | abs m ds =>
    simp only [RD]
    obtain ⟨e, o, g, c⟩ := h
    exact ⟨a, rfl, .inl ⟨o, n, g, .inl ⟨⟨by omega, by omega⟩, c.nt⟩⟩⟩
  | _ => exact h.elim
theorem Cell.nu {a : Addr} {d : D} (h : Cell κ ν Y H a d) (k : ∀ (n : Nat) (a : Addr), ν[n]? = Option.some a → ν'[n]? = Option.some a) : Cell κ ν' Y H a d := by
  cases d with
  | lst ds => obtain ⟨vs, e, r⟩ := h; exact ⟨vs, e, r.nu k⟩
  | dct q ks ws => obtain ⟨o, vs, e, q, r⟩ := h; exact ⟨o, vs, e, q, r.nu k⟩
  | ins c ns ds => obtain ⟨dx, vs, e, q, r⟩ := h; exact ⟨dx, vs, e, q, r.nu k⟩
  | abs n ds => exact h
  | _ => exact h.elim
theorem Cell.noL {a : Addr} {d : D} (h : Cell κ ν Y H a d) (m : noLoc d = true) : Cell κ ν' Y H a d := by
  cases d with
  | lst ds => obtain ⟨vs, e, r⟩ := h; exact ⟨vs, e, r.noL (by simpa using m)⟩
  | dct q ks ws => obtain ⟨o, vs, e, q, r⟩ := h; simp only [noLoc_dct, Bool.and_eq_true] at m; exact ⟨o, vs, e, q, r.noL m.2⟩
  | ins c ns ds => obtain ⟨dx, vs, e, q, r⟩ := h; exact ⟨dx, vs, e, q, r.noL (by simpa using m)⟩
  | abs n ds => exact h
  | _ => exact h.elim
/-- data to be read, held or not -/
def LD (κ : Ctx) (ν : List Addr) (Y : Addr → Prop) (H : Hp) (d : D) (v : V) : Prop := RD κ ν Y H d v ∨ ∃ a, v = .ref a ∧ Cell κ ν Y H a d
theorem LD.int {i : Int} {v : V} (h : LD κ ν Y H (.int i) v) : v = .int i := by
  rcases h with h | ⟨a, _, h⟩
  · simpa only [RD] using h
  · exact h.elim
theorem LD.bl {i : Bool} {v : V} (h : LD κ ν Y H (.bl i) v) : v = .bl i := by
  rcases h with h | ⟨a, _, h⟩
  · simpa only [RD] using h
  · exact h.elim
theorem LD.str {i : Str} {v : V} (h : LD κ ν Y H (.str i) v) : v = .str i := by
  rcases h with h | ⟨a, _, h⟩
  · simpa only [RD] using h
  · exact h.elim
theorem LD.non {v : V} (h : LD κ ν Y H .non v) : v = .non := by
  rcases h with h | ⟨a, _, h⟩
  · simpa only [RD] using h
  · exact h.elim
theorem LD.tup {ds : List D} {v : V} (h : LD κ ν Y H (.tup ds) v) : ∃ a vs, v = .ref a ∧ H a = some (.tup vs) ∧ RDs κ ν Y H ds vs ∧ ¬ Y a := by
  rcases h with h | ⟨a, _, h⟩
  · simp only [RD] at h
    obtain ⟨a, vs, e, n, g, r⟩ := h
    exact ⟨a, vs, e, g, r, n⟩
  · exact h.elim
theorem LD.lst {ds : List D} {v : V} (h : LD κ ν Y H (.lst ds) v) : ∃ a vs, v = .ref a ∧ H a = some (.lst vs) ∧ RDs κ ν Y H ds vs := by
  rcases h with h | ⟨a, e, h⟩
  · simp only [RD] at h
    obtain ⟨a, vs, e, n, g, r⟩ := h
    exact ⟨a, vs, e, g, r⟩
  · obtain ⟨vs, g, r⟩ := h
    exact ⟨a, vs, e, g, r⟩
theorem LD.dct {q : Nat} {ks ws : List D} {v : V} (h : LD κ ν Y H (.dct q ks ws) v) : ∃ a o vs, v = .ref a ∧ Rd H a o ∧ DctR κ a q o ks ws vs ∧ RDs κ ν Y H ws vs := by
  rcases h with h | ⟨a, e, h⟩
  · simp only [RD] at h
    obtain ⟨a, o, vs, e, n, g, q, r⟩ := h
    exact ⟨a, o, vs, e, g, q, r⟩
  · obtain ⟨o, vs, g, q, r⟩ := h
    exact ⟨a, o, vs, e, .inl g, q, r⟩
theorem LD.ins {c : Nat} {ns : List Nat} {ws : List D} {v : V} (h : LD κ ν Y H (.ins c ns ws) v) : ∃ a dx vs, v = .ref a ∧ H a = some (.ins (κ.cls c) dx ((ns.map nm).zip vs)) ∧ ns.length = vs.length ∧ RDs κ ν Y H ws vs := by
  rcases h with h | ⟨a, e, h⟩
  · simp only [RD] at h
    obtain ⟨a, o, vs, e, n, g, q, r⟩ := h
    exact ⟨a, o, vs, e, g, q, r⟩
  · obtain ⟨o, vs, g, q, r⟩ := h
    exact ⟨a, o, vs, e, g, q, r⟩
end
end Dl

namespace Dl
open PySem L2 Wp

/-! ### values with what is known of them -/
abbrev VS := Option V × Sl
def OA (Z : List VS) (a : Addr) : Prop := ∃ d, (some (V.ref a), Sl.ow d) ∈ Z
def ExR (κ : Ctx) (ν : List Addr) (Y : Addr → Prop) (H : Hp) (x : Exc) (c : Value) (d : Option Addr) : Prop :=
  c = .ref (κ.cls x.cls) ∧ ((x.ns = [] ∧ d = none) ∨ ∃ dd vs, d = some dd ∧ ¬ Y dd ∧ H dd = some (.xd ((x.ns.map nm).zip vs)) ∧ x.ns.length = vs.length ∧ RDs κ ν Y H x.vs vs)
def SlOk (κ : Ctx) (ν : List Addr) (Y : Addr → Prop) (H : Hp) (v : Option V) : Sl → Prop
  | .unk => True
  | .al _ => True
  | .sh d => ∃ w, v = some w ∧ RD κ ν Y H d w
  | .ow d => ∃ a, v = some (.ref a) ∧ Cell κ ν Y H a d
  | .exc _ => True
def NoC (p q : VS) : Prop := ∀ a d e, p = (some (.ref a), .ow d) → q ≠ (some (.ref a), .ow e)
structure ER (κ : Ctx) (ν : List Addr) (H : Hp) (Z : List VS) : Prop where
  ok : ∀ p ∈ Z, SlOk κ ν (OA Z) H p.1 p.2
  dj : Z.Pairwise NoC
  tab : TabAll κ H
section
variable {κ : Ctx} {ν ν' : List Addr} {H H' : Hp} {Z Z' : List VS} {Y Y' : Addr → Prop}
theorem NoC.symm {p q : VS} (h : NoC p q) : NoC q p := fun a d e hq hp => h a e d hp hq
theorem ExR.keep {x : Exc} {c : Value} {d : Option Addr} (h : ExR κ ν Y H x c d) (k : ∀ a o, ¬ Y a → H a = some o → H' a = some o) : ExR κ ν Y H' x c d := by
  obtain ⟨e, h⟩ := h
  refine ⟨e, ?_⟩
  rcases h with h | ⟨dd, vs, e1, n, g, l, r⟩
  · exact .inl h
  · exact .inr ⟨dd, vs, e1, n, k _ _ n g, l, r.keep k⟩
theorem ExR.ext {x : Exc} {c : Value} {d : Option Addr} (h : ExR κ ν Y H x c d) (z : Xt κ H H') : ExR κ ν Y H' x c d := by
  obtain ⟨e, h⟩ := h
  refine ⟨e, ?_⟩
  rcases h with h | ⟨dd, vs, e1, n, g, l, r⟩
  · exact .inl h
  · exact .inr ⟨dd, vs, e1, n, z.kp _ _ g fun _ => nofun, l, r.ext z⟩
theorem ExR.mono {x : Exc} {c : Value} {d : Option Addr} (h : ExR κ ν Y H x c d) (k : ∀ a o, H a = some o → Y' a → Y a) : ExR κ ν Y' H x c d := by
  obtain ⟨e, h⟩ := h
  refine ⟨e, ?_⟩
  rcases h with h | ⟨dd, vs, e1, n, g, l, r⟩
  · exact .inl h
  · exact .inr ⟨dd, vs, e1, fun z => n (k _ _ g z), g, l, r.mono k⟩
theorem SlOk.mono {v : Option V} {s : Sl} (h : SlOk κ ν Y H v s) (k : ∀ a o, H a = some o → Y' a → Y a) : SlOk κ ν Y' H v s := by
  cases s with
  | unk => trivial
  | al i => trivial
  | sh d => obtain ⟨w, e, r⟩ := h; exact ⟨w, e, r.mono k⟩
  | ow d => obtain ⟨a, e, r⟩ := h; exact ⟨a, e, r.mono k⟩
  | exc x => trivial
theorem OA.perm (p : Z.Perm Z') {a : Addr} : OA Z a ↔ OA Z' a := by
  unfold OA
  constructor
  · rintro ⟨d, h⟩; exact ⟨d, p.mem_iff.mp h⟩
  · rintro ⟨d, h⟩; exact ⟨d, p.mem_iff.mpr h⟩
theorem ER.perm (h : ER κ ν H Z) (p : Z.Perm Z') : ER κ ν H Z' :=
  ⟨fun q hq => (h.ok q (p.mem_iff.mpr hq)).mono fun a o _ z => (OA.perm p).mpr z, h.dj.perm p fun z => z.symm, h.tab⟩
theorem ER.tail {p : VS} (h : ER κ ν H (p :: Z)) : ER κ ν H Z :=
  ⟨fun q hq => (h.ok q (List.mem_cons_of_mem _ hq)).mono fun a o _ ⟨d, z⟩ => ⟨d, List.mem_cons_of_mem _ z⟩, (List.pairwise_cons.mp h.dj).2, h.tab⟩
theorem ER.sub (h : ER κ ν H (Z' ++ Z)) : ER κ ν H Z := by
  induction Z' with
  | nil => exact h
  | cons p r ih => exact ih h.tail
theorem oa_cons {p : VS} {a : Addr} (n : ∀ d, p ≠ (some (V.ref a), .ow d)) : OA (p :: Z) a → OA Z a := by
  rintro ⟨d, h⟩
  rcases List.mem_cons.mp h with e | h
  · exact absurd e.symm (n d)
  · exact ⟨d, h⟩
theorem oa_mem {p : VS} {a : Addr} : OA Z a → OA (p :: Z) a := fun ⟨d, h⟩ => ⟨d, List.mem_cons_of_mem _ h⟩
theorem OA.some (h : ER κ ν H Z) {a : Addr} (o : OA Z a) : ∃ u, H a = Option.some u ∧ ∀ vs, u ≠ .tup vs := by
  obtain ⟨d, m⟩ := o
  obtain ⟨b, e, c⟩ := h.ok _ m
  cases e
  exact c.some
theorem OA.cl (h : ER κ ν H Z) {a : Addr} (o : OA Z a) : ∃ u, H a = Option.some u ∧ clO u := by
  obtain ⟨d, m⟩ := o
  obtain ⟨b, e, c⟩ := h.ok _ m
  cases e
  exact c.cl
/-- a value of which something weaker is known -/
theorem ER.weak {v : Option V} {s t : Sl} (h : ER κ ν H ((v, s) :: Z)) (w : Option V) (k : ∀ Y, SlOk κ ν Y H v s → SlOk κ ν Y H w t) (n : ∀ d, t ≠ .ow d) : ER κ ν H ((w, t) :: Z) := by
  have hn : ∀ a, OA ((w, t) :: Z) a → OA Z a := fun a => oa_cons fun d e => n d (congrArg Prod.snd e)
  have o : SlOk κ ν (OA ((v, s) :: Z)) H v s := h.ok (v, s) List.mem_cons_self
  refine ⟨fun q hq => ?_, List.pairwise_cons.mpr ⟨fun q hq a d e z => absurd (congrArg Prod.snd z) (n d), (List.pairwise_cons.mp h.dj).2⟩, h.tab⟩
  rcases List.mem_cons.mp hq with rfl | hq
  · exact k _ (o.mono fun a _ _ z => oa_mem (hn a z))
  · exact (h.ok q (List.mem_cons_of_mem _ hq)).mono fun a _ _ z => oa_mem (hn a z)
/-- one more value that is data -/
theorem ER.push {d : D} {v : V} (h : ER κ ν H Z) (r : RD κ ν (OA Z) H d v) : ER κ ν H ((some v, .sh d) :: Z) := by
  have hn : ∀ a, OA ((some v, Sl.sh d) :: Z) a → OA Z a := fun a => oa_cons fun d e => by cases e
  refine ⟨fun q hq => ?_, List.pairwise_cons.mpr ⟨fun q hq a d' e z => by simp at z, h.dj⟩, h.tab⟩
  rcases List.mem_cons.mp hq with rfl | hq
  · exact ⟨v, rfl, r.mono fun a _ _ z => hn a z⟩
  · exact (h.ok q hq).mono fun a _ _ z => hn a z
theorem ER.pushU (h : ER κ ν H Z) (v : Option V) {s : Sl} (hs : s = .unk ∨ ∃ i, s = .al i) : ER κ ν H ((v, s) :: Z) := by
  have n : ∀ d, s ≠ .ow d := fun d e => by rcases hs with rfl | ⟨i, rfl⟩ <;> cases e
  have hn : ∀ a, OA ((v, s) :: Z) a → OA Z a := fun a => oa_cons fun d e => n d (congrArg Prod.snd e)
  refine ⟨fun q hq => ?_, List.pairwise_cons.mpr ⟨fun q hq a d e z => absurd (congrArg Prod.snd z) (n d), h.dj⟩, h.tab⟩
  rcases List.mem_cons.mp hq with rfl | hq
  · rcases hs with rfl | ⟨i, rfl⟩ <;> trivial
  · exact (h.ok q hq).mono fun a _ _ z => hn a z
/-- the heap grows -/
theorem ER.ext (h : ER κ ν H Z) (e : Xt κ H H') : ER κ ν H' Z := ⟨fun p hp => by
  have z := h.ok p hp
  obtain ⟨v, s⟩ := p
  cases s with
  | unk => trivial
  | al i => trivial
  | sh d => obtain ⟨w, e1, r⟩ := z; exact ⟨w, e1, r.ext e⟩
  | ow d =>
    obtain ⟨a, e1, r⟩ := z
    exact ⟨a, e1, r.ext e⟩
  | exc x => trivial, h.dj, e.al h.tab⟩
/-- a new thing, held here alone: the first heap does not know it -/
theorem ER.adopt {p : Addr} {d : D} (h : ER κ ν H Z) (hx : Xt κ H H') (hp : H p = none) (c : Cell κ ν (fun b => OA Z b ∨ b = p) H' p d) : ER κ ν H' ((some (.ref p), .ow d) :: Z) := by
  have hn : ∀ a, OA ((some (V.ref p), Sl.ow d) :: Z) a → OA Z a ∨ a = p := fun a ⟨e, m⟩ => by
    rcases List.mem_cons.mp m with q | m
    · cases q; exact .inr rfl
    · exact .inl ⟨e, m⟩
  have np : ∀ e, (some (V.ref p), Sl.ow e) ∉ Z := fun e m => by
    obtain ⟨b, q, cc⟩ := h.ok _ m
    cases q
    obtain ⟨u, hu, _⟩ := cc.some
    rw [hp] at hu; cases hu
  refine ⟨fun q hq => ?_, List.pairwise_cons.mpr ⟨fun q hq a d' e z => ?_, h.dj⟩, hx.al h.tab⟩
  · rcases List.mem_cons.mp hq with rfl | hq
    · exact ⟨p, rfl, c.mono fun b _ _ z => hn b z⟩
    · have old := h.ok q hq
      have : SlOk κ ν (OA ((some (V.ref p), Sl.ow d) :: Z)) H q.1 q.2 := old.mono fun b u hb z => by
        rcases hn b z with z | rfl
        · exact z
        · rw [hp] at hb; cases hb
      obtain ⟨v, s⟩ := q
      cases s with
      | unk => trivial
      | al i => trivial
      | sh d => obtain ⟨w, e1, r⟩ := this; exact ⟨w, e1, r.ext hx⟩
      | ow d =>
        obtain ⟨a, e1, r⟩ := this
        exact ⟨a, e1, r.ext hx⟩
      | exc x => trivial
  · cases z
    intro y
    subst y
    exact np _ hq
theorem ER.fresh {p : Addr} {o : HO} {d : D} (h : ER κ ν H Z) (hp : H p = none) (c : Cell κ ν (fun b => OA Z b ∨ b = p) (upd H p o) p d) : ER κ ν (upd H p o) ((some (.ref p), .ow d) :: Z) := h.adopt (Xt.new (Xt.refl _) hp) hp c
/-- a held thing is changed -/
theorem ER.write {a : Addr} {o : HO} {d d' : D} (h : ER κ ν H ((some (.ref a), .ow d) :: Z)) (c : Cell κ ν (OA ((some (.ref a), .ow d) :: Z)) (upd H a o) a d') : ER κ ν (upd H a o) ((some (.ref a), .ow d') :: Z) := by
  have hn : ∀ b, OA ((some (V.ref a), Sl.ow d') :: Z) b ↔ OA ((some (V.ref a), Sl.ow d) :: Z) b := fun b => by
    constructor
    · rintro ⟨e, m⟩
      rcases List.mem_cons.mp m with q | m
      · cases q; exact ⟨d, List.mem_cons_self⟩
      · exact ⟨e, List.mem_cons_of_mem _ m⟩
    · rintro ⟨e, m⟩
      rcases List.mem_cons.mp m with q | m
      · cases q; exact ⟨d', List.mem_cons_self⟩
      · exact ⟨e, List.mem_cons_of_mem _ m⟩
  have ka : ∀ b u, ¬ OA ((some (V.ref a), Sl.ow d') :: Z) b → H b = some u → upd H a o b = some u := fun b u nb q => by
    rw [upd_ne (fun e => nb ⟨d', by rw [e]; exact List.mem_cons_self⟩)]
    exact q
  have dj := List.pairwise_cons.mp h.dj
  obtain ⟨w0, hw0, cw0⟩ := OA.cl h ⟨d, List.mem_cons_self⟩
  refine ⟨fun q hq => ?_, List.pairwise_cons.mpr ⟨fun q hq b e f z y => ?_, dj.2⟩, h.tab.write hw0 cw0⟩
  · rcases List.mem_cons.mp hq with rfl | hq2
    · exact ⟨a, rfl, c.mono fun b _ _ z => (hn b).mp z⟩
    · have := (h.ok q (List.mem_cons_of_mem _ hq2)).mono (Y' := OA ((some (V.ref a), Sl.ow d') :: Z)) fun b _ _ z => (hn b).mp z
      obtain ⟨v, s⟩ := q
      cases s with
      | unk => trivial
      | al i => trivial
      | sh d => obtain ⟨w, e1, r⟩ := this; exact ⟨w, e1, r.keep ka⟩
      | ow e =>
        obtain ⟨b, e1, r⟩ := this
        refine ⟨b, e1, r.keep ka ?_⟩
        refine upd_ne fun z => ?_
        subst z
        simp only at e1
        subst e1
        exact dj.1 _ hq2 b d e rfl rfl
      | exc x => trivial
  · cases z
    exact dj.1 _ hq a d f rfl y
/-- a held thing is held no more -/
theorem ER.freeze {v : Option V} {d : D} (h : ER κ ν H ((v, .ow d) :: Z)) : ER κ ν H ((v, .sh d) :: Z) := by
  have o : SlOk κ ν (OA ((v, .ow d) :: Z)) H v (.ow d) := h.ok (v, .ow d) List.mem_cons_self
  obtain ⟨a, rfl, c⟩ := o
  have dj := List.pairwise_cons.mp h.dj
  have na : ¬ OA Z a := fun ⟨e, m⟩ => dj.1 _ m a d e rfl rfl
  exact ER.push h.tail ((c.mono fun b _ _ z => oa_mem z).rd na)
/-- more things in the store -/
theorem ExR.nu {x : Exc} {c : Value} {d : Option Addr} (h : ExR κ ν Y H x c d) (k : ∀ (n : Nat) (a : Addr), ν[n]? = some a → ν'[n]? = some a) : ExR κ ν' Y H x c d := by
  obtain ⟨e, h⟩ := h
  refine ⟨e, ?_⟩
  rcases h with h | ⟨dd, vs, e1, n, g, l, r⟩
  · exact .inl h
  · exact .inr ⟨dd, vs, e1, n, g, l, r.nu k⟩
theorem SlOk.nu {v : Option V} {s : Sl} (h : SlOk κ ν Y H v s) (k : ∀ (n : Nat) (a : Addr), ν[n]? = some a → ν'[n]? = some a) : SlOk κ ν' Y H v s := by
  cases s with
  | unk => trivial
  | al i => trivial
  | sh d => obtain ⟨w, e, r⟩ := h; exact ⟨w, e, r.nu k⟩
  | ow d => obtain ⟨a, e, r⟩ := h; exact ⟨a, e, r.nu k⟩
  | exc x => trivial
theorem SlOk.noL {v : Option V} {s : Sl} (h : SlOk κ ν Y H v s) (m : noLocS s = true) : SlOk κ ν' Y H v s := by
  cases s with
  | unk => trivial
  | al i => trivial
  | sh d => obtain ⟨w, e, r⟩ := h; exact ⟨w, e, r.noL (by simpa using m)⟩
  | ow d => obtain ⟨a, e, r⟩ := h; exact ⟨a, e, r.noL (by simpa using m)⟩
  | exc x => trivial
theorem ER.nu (h : ER κ ν H Z) (k : ∀ (n : Nat) (a : Addr), ν[n]? = some a → ν'[n]? = some a) : ER κ ν' H Z := ⟨fun p hp => (h.ok p hp).nu k, h.dj, h.tab⟩
theorem pre_nu (p : ν <+: ν') : ∀ (n : Nat) (a : Addr), ν[n]? = some a → ν'[n]? = some a := by
  obtain ⟨r, rfl⟩ := p
  intro n a h
  rw [List.getElem?_append_left (List.getElem?_eq_some_iff.mp h).1]; exact h
/-- the store's things among what is held -/
def zS (ν : List Addr) (s : Sto) : List VS := (ν.map fun a => some (V.ref a)).zip (s.map Sl.ow)
/-- what is held, and no more is told of it -/
def hidS : VS → VS
  | (v, .ow _) => (v, .ow (.abs 99 []))
  | (v, _) => (v, .unk)
theorem hid_oa {a : Addr} : OA (Z.map hidS) a ↔ OA Z a := by
  constructor
  · rintro ⟨d, m⟩
    obtain ⟨⟨v, s⟩, mp, e⟩ := List.mem_map.mp m
    cases s with
    | ow d' => simp only [hidS, Prod.mk.injEq] at e; exact ⟨d', by rw [← e.1]; exact mp⟩
    | _ => simp [hidS] at e
  · rintro ⟨d, m⟩
    exact ⟨_, List.mem_map.mpr ⟨_, m, rfl⟩⟩
theorem NoC.hid {p q : VS} (h : NoC p q) : NoC p (hidS q) := fun a d e hp hq => by
  obtain ⟨v, s⟩ := q
  cases s with
  | ow d' => simp only [hidS, Prod.mk.injEq] at hq; exact h a d d' hp (by rw [hq.1])
  | _ => simp [hidS] at hq
theorem ER.hid {Z0 : List VS} (h : ER κ ν H (Z0 ++ Z)) (k : ∀ p ∈ Z0, SlOk κ ν (OA (Z0 ++ Z)) H p.1 p.2 → SlOk κ ν' (OA (Z0 ++ Z)) H p.1 p.2) : ER κ ν' H (Z0 ++ Z.map hidS) := by
  have oa : ∀ a, OA (Z0 ++ Z.map hidS) a → OA (Z0 ++ Z) a := by
    rintro a ⟨d, m⟩
    rcases List.mem_append.mp m with m | m
    · exact ⟨d, List.mem_append_left _ m⟩
    · obtain ⟨e, z⟩ := hid_oa.mp ⟨d, m⟩
      exact ⟨e, List.mem_append_right _ z⟩
  refine ⟨fun p hp => ?_, ?_, h.tab⟩
  · rcases List.mem_append.mp hp with hp | hp
    · exact (k p hp (h.ok p (List.mem_append_left _ hp))).mono fun a _ _ z => oa a z
    · obtain ⟨⟨v, s⟩, mp, rfl⟩ := List.mem_map.mp hp
      have o := h.ok _ (List.mem_append_right _ mp)
      cases s with
      | ow d => obtain ⟨a, e, c⟩ := o; exact ⟨a, e, rfl, c.cl⟩
      | _ => trivial
  · have dj := List.pairwise_append.mp h.dj
    refine List.pairwise_append.mpr ⟨dj.1, List.Pairwise.map hidS (fun p q z => z.hid.symm.hid.symm) dj.2.1, fun p hp q hq => ?_⟩
    obtain ⟨q', mq, rfl⟩ := List.mem_map.mp hq
    exact (dj.2.2 p hp q' mq).hid
end
end Dl

namespace Dl
open PySem L2 Wp

/-! ### a value that an operation brings -/
def NewV (κ : Ctx) (ν : List Addr) (Y : Addr → Prop) (H : Hp) (s : Sl) (v : V) (H' : Hp) : Prop := match s with
  | .sh d => (H' = H ∧ RD κ ν Y H d v) ∨ ∃ p vs ds, d = .tup ds ∧ v = .ref p ∧ H p = none ∧ H' = upd H p (.tup vs) ∧ RDs κ ν Y H ds vs
  | .ow (.lst ds) => ∃ p vs, v = .ref p ∧ H p = none ∧ H' = upd H p (.lst vs) ∧ RDs κ ν Y H ds vs
  | .ow (.dct q ks ws) => ∃ p o vs, v = .ref p ∧ H p = none ∧ H' = upd H p o ∧ DctR κ p q o ks ws vs ∧ RDs κ ν Y H ws vs
  | _ => False
section
variable {κ : Ctx} {ν ν' : List Addr} {Y : Addr → Prop} {H : Hp} {Q : VK} {v : V}
def Res (κ : Ctx) (ν : List Addr) (Y : Addr → Prop) (H : Hp) (s : Sl) (Q : VK) : Prop := ∀ v H', NewV κ ν Y H s v H' → Q v H'
theorem Res.old {d : D} (h : Res κ ν Y H (.sh d) Q) (r : RD κ ν Y H d v) : Q v H := h v H (.inl ⟨rfl, r⟩)
theorem Res.int {i : Int} (h : Res κ ν Y H (.sh (.int i)) Q) : Q (.int i) H := h.old (by simp only [RD])
theorem Res.bl {i : Bool} (h : Res κ ν Y H (.sh (.bl i)) Q) : Q (.bl i) H := h.old (by simp only [RD])
theorem Res.str {i : Str} (h : Res κ ν Y H (.sh (.str i)) Q) : Q (.str i) H := h.old (by simp only [RD])
theorem Res.tup {ds : List D} {vs : List V} {p : Addr} (h : Res κ ν Y H (.sh (.tup ds)) Q) (r : RDs κ ν Y H ds vs) (hp : H p = none) : Q (.ref p) (upd H p (.tup vs)) := h _ _ (.inr ⟨p, vs, ds, rfl, rfl, hp, rfl, r⟩)
theorem Res.lst {ds : List D} {vs : List V} {p : Addr} (h : Res κ ν Y H (.ow (.lst ds)) Q) (r : RDs κ ν Y H ds vs) (hp : H p = none) : Q (.ref p) (upd H p (.lst vs)) := h _ _ ⟨p, vs, rfl, hp, rfl, r⟩
end
def Op2 (κ : Ctx) (r : R2) (f : D → D → Option Sl) : Prop := ∀ {ν : List Addr} {Y : Addr → Prop} {H : Hp} {x y : V} {c d : D} {s : Sl} {Q : VK}, LD κ ν Y H c x → LD κ ν Y H d y → f c d = some s → Res κ ν Y H s Q → r x y H Q
def Op1 (κ : Ctx) (r : V → Hp → VK → Prop) (f : D → Option Sl) : Prop := ∀ {ν : List Addr} {Y : Addr → Prop} {H : Hp} {x : V} {c : D} {s : Sl} {Q : VK}, LD κ ν Y H c x → f c = some s → Res κ ν Y H s Q → r x H Q
/-- a built-in called with one value, with two -/
def OpC1 (κ : Ctx) (r : List V → Hp → VK → Prop) (f : D → Option Sl) : Prop := ∀ {ν : List Addr} {Y : Addr → Prop} {H : Hp} {x : V} {c : D} {s : Sl} {Q : VK}, LD κ ν Y H c x → f c = some s → Res κ ν Y H s Q → r [x] H Q
def OpC2 (κ : Ctx) (r : List V → Hp → VK → Prop) (f : D → D → Option Sl) : Prop := ∀ {ν : List Addr} {Y : Addr → Prop} {H : Hp} {x y : V} {c d : D} {s : Sl} {Q : VK}, LD κ ν Y H c x → LD κ ν Y H d y → f c d = some s → Res κ ν Y H s Q → r [x, y] H Q
def OpS (κ : Ctx) (r : V → Option Int → Option Int → Hp → VK → Prop) (f : D → Option Int → Option Int → Option Sl) : Prop := ∀ {ν : List Addr} {Y : Addr → Prop} {H : Hp} {x : V} {c : D} {lo hi : Option Int} {s : Sl} {Q : VK}, LD κ ν Y H c x → f c lo hi = some s → Res κ ν Y H s Q → r x lo hi H Q

theorem szD {n : Nat} (h : n ≤ sizeD) : n ≤ sizeLine := Nat.le_trans h (by decide)
theorem szDl {n : Nat} (h : n < sizeD) : n < sizeLine := Nat.lt_of_lt_of_le h (by decide)

section
variable {κ : Ctx} {ν ν' : List Addr}
/-! ints -/
theorem o_int {g : Int → Int → V} {f : D → D → Option Sl} (h : ∀ c d s, f c d = some s → ∃ i j r, c = .int i ∧ d = .int j ∧ s = .sh r ∧ ((∃ k, r = .int k ∧ g i j = .int k) ∨ ∃ k, r = .bl k ∧ g i j = .bl k)) : Op2 κ (rI0 g) f := by
  intro ν Y H x y c d s Q hc hd hf hq
  obtain ⟨i, j, r, rfl, rfl, rfl, z⟩ := h c d s hf
  refine ⟨i, j, hc.int, hd.int, ?_⟩
  rcases z with ⟨k, rfl, e⟩ | ⟨k, rfl, e⟩
  · rw [e]; exact hq.int
  · rw [e]; exact hq.bl
theorem fCmp_some {p : Int → Int → Bool} {c d : D} {s : Sl} (h : fCmp p c d = some s) : ∃ i j, c = .int i ∧ d = .int j ∧ s = .sh (.bl (p i j)) := by
  cases c <;> cases d <;> simp [fCmp] at h
  exact ⟨_, _, rfl, rfl, h.symm⟩
theorem o_lt : Op2 κ (rI0 fun i j => .bl (decide (i < j))) fLt := o_int fun c d s h => by
  obtain ⟨i, j, rfl, rfl, rfl⟩ := fCmp_some h
  exact ⟨i, j, _, rfl, rfl, rfl, .inr ⟨_, rfl, rfl⟩⟩
theorem o_le : Op2 κ (rI0 fun i j => .bl (decide (i ≤ j))) fLe := o_int fun c d s h => by
  obtain ⟨i, j, rfl, rfl, rfl⟩ := fCmp_some h
  exact ⟨i, j, _, rfl, rfl, rfl, .inr ⟨_, rfl, rfl⟩⟩
theorem o_gt : Op2 κ (rI0 fun i j => .bl (decide (j < i))) fGt := o_int fun c d s h => by
  obtain ⟨i, j, rfl, rfl, rfl⟩ := fCmp_some h
  exact ⟨i, j, _, rfl, rfl, rfl, .inr ⟨_, rfl, rfl⟩⟩
theorem o_ge : Op2 κ (rI0 fun i j => .bl (decide (j ≤ i))) fGe := o_int fun c d s h => by
  obtain ⟨i, j, rfl, rfl, rfl⟩ := fCmp_some h
  exact ⟨i, j, _, rfl, rfl, rfl, .inr ⟨_, rfl, rfl⟩⟩
theorem o_sub : Op2 κ (rI0 fun i j => .int (i - j)) fSub := o_int fun c d s h => by
  cases c <;> cases d <;> simp [fSub] at h
  exact ⟨_, _, _, rfl, rfl, h.symm, .inl ⟨_, rfl, rfl⟩⟩
theorem o_intC {C : Int → Int → Prop} {g : Int → Int → Int} {f : D → D → Option Sl} (h : ∀ c d s, f c d = some s → ∃ i j, c = .int i ∧ d = .int j ∧ C i j ∧ s = .sh (.int (g i j))) : Op2 κ (rI C fun i j => .int (g i j)) f := by
  intro ν Y H x y c d s Q hc hd hf hq
  obtain ⟨i, j, rfl, rfl, hC, rfl⟩ := h c d s hf
  exact ⟨i, j, hc.int, hd.int, hC, hq.int⟩
theorem o_div : Op2 κ (rI CDiv fun i j => .int (i / j)) fDiv := o_intC fun c d s h => by
  cases c <;> cases d <;> simp [fDiv] at h
  exact ⟨_, _, rfl, rfl, h.1, h.2.symm⟩
theorem o_mod : Op2 κ (rI (fun _ j => 0 < j) fun i j => .int (i % j)) fMod := o_intC fun c d s h => by
  cases c <;> cases d <;> simp [fMod] at h
  exact ⟨_, _, rfl, rfl, h.1, h.2.symm⟩
theorem o_pow : Op2 κ (rI CPow fun i j => .int (i ^ j.toNat)) fPow := o_intC fun c d s h => by
  cases c <;> cases d <;> simp only [fPow, reduceCtorEq] at h
  split at h
  · rename_i z; cases h; exact ⟨_, _, rfl, rfl, z, rfl⟩
  · cases h
theorem o_neg : Op1 κ (rU fun i => .int (-i)) fNeg := by
  intro ν Y H x c s Q hc hf hq
  cases c <;> simp [fNeg] at hf
  subst hf
  exact ⟨_, hc.int, hq.int⟩
/-! + and * -/
def rAddU (K : PySem.W.Frag) : R2 := fun x y H Q => rI0 (fun i j => .int (i + j)) x y H Q ∨ rCatA K x y H Q ∨ rCat x y H Q ∨ (∃ i j, x = .str i ∧ y = .str j ∧ i.length + j.length ≤ sizeLine ∧ Q (.str (i ++ j)) H)
theorem op_addU {X : Cx} {K : PySem.W.Frag} (e : X.K = K) : OpR X (binaryOp .Add) (rAddU K) := by subst e; exact op_add.or (op_catA.or (op_cat.or op_add_str))
theorem o_add : Op2 κ (rAddU κ.K) fAdd := by
  intro ν Y H x y c d s Q hc hd hf hq
  cases c <;> cases d <;> simp only [fAdd, reduceCtorEq] at hf
  case int.int i j => cases hf; exact .inl ⟨i, j, hc.int, hd.int, hq.int⟩
  case tup.tup cs ds =>
    split at hf
    · rename_i z
      cases hf
      obtain ⟨a, xs, rfl, ha, ra, na⟩ := hc.tup
      obtain ⟨b, ys, rfl, hb, rb, nb⟩ := hd.tup
      have l1 := ra.len
      have l2 := rb.len
      simp only [okLen, List.length_append, decide_eq_true_eq] at z
      refine .inr (.inl ⟨a, b, xs, ys, rfl, rfl, SqT.of ha, SqT.of hb, szD (by omega), fun e => ?_, fun e1 e2 => ?_, fun e1 e2 p hp => hq.tup (ra.app rb) hp⟩)
      · subst e
        have : cs = [] := List.length_eq_zero_iff.mp l1
        subst this
        refine hq.old ?_
        simp only [List.nil_append, RD]
        exact ⟨b, ys, rfl, nb, hb, rb⟩
      · subst e2
        have : ds = [] := List.length_eq_zero_iff.mp l2
        subst this
        refine hq.old ?_
        simp only [List.append_nil, RD]
        exact ⟨a, xs, rfl, na, ha, ra⟩
    · cases hf
  case lst.lst cs ds =>
    split at hf
    · rename_i z
      cases hf
      obtain ⟨a, xs, rfl, ha, ra⟩ := hc.lst
      obtain ⟨b, ys, rfl, hb, rb⟩ := hd.lst
      have l1 := ra.len
      have l2 := rb.len
      simp only [okLen, List.length_append, decide_eq_true_eq] at z
      exact .inr (.inr (.inl ⟨a, b, xs, ys, rfl, rfl, ha, hb, szD (by omega), fun p hp => hq.lst (ra.app rb) hp⟩))
    · cases hf
  case str.str i j =>
    split at hf
    · rename_i z
      cases hf
      exact .inr (.inr (.inr ⟨i, j, hc.str, hd.str, szD z, hq.str⟩))
    · cases hf
/-! data that can be compared -/
mutual
def toP : D → PyData
  | .non => .none
  | .bl b => .bool b
  | .int i => .int i
  | .str s => .str s
  | .tup ds => .tuple (toPs ds)
  | .lst ds => .list (toPs ds)
  | _ => .none
def toPs : List D → List PyData
  | [] => []
  | d :: ds => toP d :: toPs ds
end
mutual
theorem dp_of {Y : Addr → Prop} {H : Hp} : ∀ {n : Nat} {d : D} {v : V}, plain n d = true → RD κ ν Y H d v → Dp κ.K H v (toP d)
  | _, .non, _, _, h => by simp only [RD] at h; subst h; simp only [toP]; exact .non
  | _, .bl b, _, _, h => by simp only [RD] at h; subst h; simp only [toP]; exact .bl b
  | _, .int i, _, _, h => by simp only [RD] at h; subst h; simp only [toP]; exact .int i
  | _, .str s, _, _, h => by simp only [RD] at h; subst h; simp only [toP]; exact .str s
  | 0, .tup ds, _, p, _ => by simp [plain] at p
  | 0, .lst ds, _, p, _ => by simp [plain] at p
  | n + 1, .tup ds, _, p, h => by
    simp only [RD] at h
    obtain ⟨a, vs, rfl, _, g, r⟩ := h
    simp only [toP]
    exact .tup (SqT.of g) (dps_of (n := n) (by simpa [plain] using p) r)
  | n + 1, .lst ds, _, p, h => by
    simp only [RD] at h
    obtain ⟨a, vs, rfl, _, g, r⟩ := h
    simp only [toP]
    exact .lst (SqL.of g) (dps_of (n := n) (by simpa [plain] using p) r)
  | _, .dct q ks ws, _, p, _ => by simp [plain] at p
  | _, .ins c ns ws, _, p, _ => by simp [plain] at p
  | _, .abs m ds, _, p, _ => by simp [plain] at p
  | _, .fn m, _, p, _ => by simp [plain] at p
  | _, .loc m, _, p, _ => by simp [plain] at p
theorem dps_of {Y : Addr → Prop} {H : Hp} : ∀ {n : Nat} {ds : List D} {vs : List V}, plains n ds = true → RDs κ ν Y H ds vs → DpAll κ.K H vs (toPs ds)
  | _, [], _, _, h => by simp only [RDs] at h; subst h; simp only [toPs]; exact .nil
  | n, d :: ds, _, p, h => by
    simp only [RDs] at h
    obtain ⟨v, r, rfl, a, b⟩ := h
    simp only [plains, Bool.and_eq_true] at p
    simp only [toPs]
    exact .cons (dp_of p.1 a) (dps_of p.2 b)
end
mutual
theorem shp_of : ∀ {n : Nat} {d : D}, plain n d = true → (toP d).canLay0 = true ∧ (toP d).depth ≤ n
  | _, .non, _ => by simp [toP, PyData.canLay0, PyData.depth]
  | _, .bl b, _ => by simp [toP, PyData.canLay0, PyData.depth]
  | _, .int i, _ => by simp [toP, PyData.canLay0, PyData.depth]
  | _, .str s, p => by
    simp only [plain] at p
    simp only [toP, PyData.canLay0, PyData.depth]
    exact ⟨p, Nat.zero_le _⟩
  | 0, .tup ds, p => by simp [plain] at p
  | 0, .lst ds, p => by simp [plain] at p
  | n + 1, .tup ds, p => by
    have := shps_of (n := n) (ds := ds) (by simpa [plain] using p)
    simp only [toP, PyData.canLay0, PyData.depth]
    exact ⟨this.1, Nat.succ_le_succ this.2⟩
  | n + 1, .lst ds, p => by
    have := shps_of (n := n) (ds := ds) (by simpa [plain] using p)
    simp only [toP, PyData.canLay0, PyData.depth]
    exact ⟨this.1, Nat.succ_le_succ this.2⟩
  | _, .dct q ks ws, p => by simp [plain] at p
  | _, .ins c ns ws, p => by simp [plain] at p
  | _, .abs m ds, p => by simp [plain] at p
  | _, .fn m, p => by simp [plain] at p
  | _, .loc m, p => by simp [plain] at p
theorem shps_of : ∀ {n : Nat} {ds : List D}, plains n ds = true → PyData.canLayAll0 (toPs ds) = true ∧ PyData.depthAll (toPs ds) ≤ n
  | _, [], _ => by simp [toPs, PyData.canLayAll0, PyData.depthAll]
  | n, d :: ds, p => by
    simp only [plains, Bool.and_eq_true] at p
    have h1 := shp_of p.1
    have h2 := shps_of p.2
    simp only [toPs, PyData.canLayAll0, PyData.depthAll, Bool.and_eq_true]
    exact ⟨⟨h1.1, h2.1⟩, Nat.max_le.mpr ⟨h1.2, h2.2⟩⟩
end
theorem shaped_of {n : Nat} {d : D} (p : plain n d = true) (h : n ≤ 64) : SeqAt.shaped (toP d) = true := by
  have := shp_of p
  simp only [SeqAt.shaped, Bool.and_eq_true, decide_eq_true_eq]
  exact ⟨this.1, by omega⟩
theorem str_beq (x y : Str) : (x == y) = decide (x = y) := by
  by_cases h : x = y
  · subst h; simp
  · rw [decide_eq_false h]; exact beq_eq_false_iff_ne.mpr h
mutual
theorem eqv_of : ∀ {n m : Nat} (c d : D), plain n c = true → plain m d = true → PyData.eqv (toP c) (toP d) = eqD c d
  | n, m, c, d, p, q => by
    cases c with
    | tup cs =>
      cases d with
      | tup ds =>
        obtain ⟨n, rfl⟩ : ∃ k, n = k + 1 := by cases n with | zero => simp [plain] at p | succ n => exact ⟨n, rfl⟩
        obtain ⟨m, rfl⟩ : ∃ k, m = k + 1 := by cases m with | zero => simp [plain] at q | succ m => exact ⟨m, rfl⟩
        simp only [toP, PyData.eqv, eqD]
        exact eqvs_of (n := n) (m := m) cs ds (by simpa [plain] using p) (by simpa [plain] using q)
      | dct _ _ _ => simp [plain] at q
      | ins _ _ _ => simp [plain] at q
      | abs _ _ => simp [plain] at q
      | fn _ => simp [plain] at q
      | loc _ => simp [plain] at q
      | _ => simp [toP, PyData.eqv, eqD]
    | lst cs =>
      cases d with
      | lst ds =>
        obtain ⟨n, rfl⟩ : ∃ k, n = k + 1 := by cases n with | zero => simp [plain] at p | succ n => exact ⟨n, rfl⟩
        obtain ⟨m, rfl⟩ : ∃ k, m = k + 1 := by cases m with | zero => simp [plain] at q | succ m => exact ⟨m, rfl⟩
        simp only [toP, PyData.eqv, eqD]
        exact eqvs_of (n := n) (m := m) cs ds (by simpa [plain] using p) (by simpa [plain] using q)
      | dct _ _ _ => simp [plain] at q
      | ins _ _ _ => simp [plain] at q
      | abs _ _ => simp [plain] at q
      | fn _ => simp [plain] at q
      | loc _ => simp [plain] at q
      | _ => simp [toP, PyData.eqv, eqD]
    | dct _ _ _ => simp [plain] at p
    | ins _ _ _ => simp [plain] at p
    | abs _ _ => simp [plain] at p
    | fn _ => simp [plain] at p
    | loc _ => simp [plain] at p
    | str s =>
      cases d with
      | str t => simp only [toP, PyData.eqv, eqD]; exact str_beq s t
      | dct _ _ _ => simp [plain] at q
      | ins _ _ _ => simp [plain] at q
      | abs _ _ => simp [plain] at q
      | fn _ => simp [plain] at q
      | loc _ => simp [plain] at q
      | _ => simp [toP, PyData.eqv, eqD]
    | _ =>
      cases d with
      | dct _ _ _ => simp [plain] at q
      | ins _ _ _ => simp [plain] at q
      | abs _ _ => simp [plain] at q
      | fn _ => simp [plain] at q
      | loc _ => simp [plain] at q
      | _ => simp [toP, PyData.eqv, eqD]
  termination_by _ _ c _ => sizeOf c
theorem eqvs_of : ∀ {n m : Nat} (cs ds : List D), plains n cs = true → plains m ds = true → PyData.eqvAll (toPs cs) (toPs ds) = eqDs cs ds
  | n, m, [], [], _, _ => by simp [toPs, PyData.eqvAll, eqDs]
  | n, m, [], d :: ds, _, _ => by simp [toPs, PyData.eqvAll, eqDs]
  | n, m, c :: cs, [], _, _ => by simp [toPs, PyData.eqvAll, eqDs]
  | n, m, c :: cs, d :: ds, p, q => by
    simp only [plains, Bool.and_eq_true] at p q
    simp only [toPs, PyData.eqvAll, eqDs]
    rw [eqv_of c d p.1 q.1, eqvs_of cs ds p.2 q.2]
  termination_by _ _ cs _ => sizeOf cs
end
theorem LD.dp {Y : Addr → Prop} {H : Hp} {n : Nat} {d : D} {v : V} (h : LD κ ν Y H d v) (p : plain n d = true) : Dp κ.K H v (toP d) := by
  rcases h with h | ⟨a, rfl, h⟩
  · exact dp_of p h
  · cases d with
    | lst ds =>
      obtain ⟨vs, g, r⟩ := h
      cases n with
      | zero => simp [plain] at p
      | succ n =>
        simp only [toP]
        exact .lst (SqL.of g) (dps_of (n := n) (by simpa [plain] using p) r)
    | dct _ _ _ => simp [plain] at p
    | ins _ _ _ => simp [plain] at p
    | abs _ _ => simp [plain] at p
    | _ => exact h.elim
theorem o_eq : Op2 κ (rEqD κ.K) fEq := by
  intro ν Y H x y c d s Q hc hd hf hq
  simp only [fEq] at hf
  split at hf
  · rename_i z
    cases hf
    simp only [Bool.and_eq_true] at z
    refine ⟨_, _, hc.dp z.1, hd.dp z.2, shaped_of z.1 (by decide), shaped_of z.2 (by decide), ?_⟩
    rw [eqv_of c d z.1 z.2]
    exact hq.bl
  · cases hf
theorem o_ne : Op2 κ (rNeD κ.K) fNe := by
  intro ν Y H x y c d s Q hc hd hf hq
  simp only [fNe] at hf
  split at hf
  · rename_i z
    cases hf
    simp only [Bool.and_eq_true] at z
    refine ⟨_, _, hc.dp z.1, hd.dp z.2, shaped_of z.1 (by decide), shaped_of z.2 (by decide), ?_⟩
    rw [eqv_of c d z.1 z.2]
    exact hq.bl
  · cases hf
theorem non_iff {Y : Addr → Prop} {H : Hp} {d : D} {v : V} (h : LD κ ν Y H d v) : decide (v = .non) = isNon d := by
  rcases h with h | ⟨a, rfl, h⟩
  · cases d <;> simp only [RD] at h
    case non => subst h; rfl
    case bl => subst h; rfl
    case int => subst h; rfl
    case str => subst h; rfl
    case fn => subst h; rfl
    all_goals (obtain ⟨_, h⟩ := h; first | (obtain ⟨_, _, rfl, _⟩ := h; rfl) | (obtain ⟨_, rfl, _⟩ := h; rfl) | (obtain ⟨rfl, _⟩ := h; rfl))
  · cases d <;> first | rfl | exact h.elim
def rUIsN : V → Hp → VK → Prop := fun x H Q => Q (.bl (decide (x = .non))) H
def rUNotN : V → Hp → VK → Prop := fun x H Q => Q (.bl (!decide (x = .non))) H
theorem o_isN : Op1 κ rUIsN fIsN := by
  intro ν Y H x c s Q hc hf hq
  cases hf
  unfold rUIsN
  rw [non_iff hc]; exact hq.bl
theorem o_notN : Op1 κ rUNotN fNotN := by
  intro ν Y H x c s Q hc hf hq
  cases hf
  unfold rUNotN
  rw [non_iff hc]; exact hq.bl
end
end Dl

namespace Dl
open PySem L2 Wp

/-! ### the machine's state and the model's -/
abbrev zT (τ : List V) (ts : List Sl) : List VS := (τ.map some).zip ts
abbrev zA (τ : List V) (ts : List Sl) (σ : L2.St) (sl : List Sl) (F : List VS) : List VS := zT τ ts ++ (σ.zip sl ++ F)
/-- the error that is handled: its name's slot, its address, its class, its dict -/
structure Hn where
  i : Nat
  a : Addr
  c : Value
  d : Option Addr
  sf : Option V
  nu : List Addr
  pr : Bool
  /-- things that stay among what is kept -/
  cap : List VS
/-- the first name may be stored to, unless it is the object that is being made -/
def Hn.ok (η : Hn) (i : Nat) : Prop := η.sf = none ∨ i ≠ 0
structure ES (κ : Ctx) (ν : List Addr) (η : Hn) (B : Hp) (F : List VS) (τ : List V) (ts : List Sl) (σ : L2.St) (sl : List Sl) (H : Hp) : Prop where
  lt : τ.length = ts.length
  ls : σ.length = sl.length
  al : ∀ v i, (v, Sl.al i) ∈ τ.zip ts → σ[i]? = some (some v)
  er : ER κ ν H (zA τ ts σ sl F)
  bs : Xt κ B H
  fr : ∀ a d, (some (V.ref a), Sl.ow d) ∈ zT τ ts ++ σ.zip sl → B a = none
  sf : ∀ u, η.sf = some u → σ[0]? = some (some u)
  ex : ∀ x, sl[η.i]? = some (.exc x) → σ[η.i]? = some (some (.ref η.a)) ∧ ExR κ ν (OA (zA τ ts σ sl F)) H x η.c η.d
section
variable {κ : Ctx} {ν ν' : List Addr} {η : Hn} {B : Hp} {F : List VS} {τ : List V} {ts : List Sl} {σ : L2.St} {sl : List Sl} {H H' : Hp} {v x : V} {s : Sl} {d : D}
abbrev OS (F : List VS) (τ : List V) (ts : List Sl) (σ : L2.St) (sl : List Sl) : Addr → Prop := OA (zA τ ts σ sl F)
theorem zip_map_mem : ∀ {τ : List V} {ts : List Sl} {x : V} {s : Sl}, (x, s) ∈ τ.zip ts → (some x, s) ∈ zT τ ts
  | [], _, _, _, h => by simp at h
  | _ :: _, [], _, _, h => by simp at h
  | y :: τ, t :: ts, x, s, h => by
    simp only [List.zip_cons_cons, List.mem_cons, Prod.mk.injEq] at h
    rcases h with ⟨rfl, rfl⟩ | h
    · simp [zT]
    · simp only [zT, List.map_cons, List.zip_cons_cons, List.mem_cons]
      exact .inr (zip_map_mem h)
theorem zip_get {α β : Type} : ∀ {xs : List α} {ys : List β} {i : Nat} {x : α} {y : β}, xs[i]? = some x → ys[i]? = some y → (x, y) ∈ xs.zip ys
  | [], _, _, _, _, h, _ => by simp at h
  | _ :: _, [], _, _, _, _, h => by simp at h
  | a :: xs, b :: ys, 0, x, y, h, g => by simp at h g; subst h; subst g; simp
  | a :: xs, b :: ys, i + 1, x, y, h, g => by
    simp only [List.getElem?_cons_succ] at h g
    simp only [List.zip_cons_cons, List.mem_cons]
    exact .inr (zip_get h g)
theorem sl_get (h : ES κ ν η B F τ ts σ sl H) {i : Nat} (e : sl[i]? = some s) : ∃ w, σ[i]? = some w ∧ (w, s) ∈ σ.zip sl := by
  have hi : i < sl.length := (List.getElem?_eq_some_iff.mp e).1
  have : i < σ.length := by rw [h.ls]; exact hi
  exact ⟨σ[i], List.getElem?_eq_getElem this, zip_get (List.getElem?_eq_getElem this) e⟩
theorem slok_ld {Y : Addr → Prop} {w : Option V} (h : SlOk κ ν Y H w s) (e : datS (some s) = some d) (hv : w = some v) : LD κ ν Y H d v := by
  subst hv
  cases s with
  | sh d' => simp at e; subst e; obtain ⟨u, q, r⟩ := h; cases q; exact .inl r
  | ow d' => simp at e; subst e; obtain ⟨a, q, r⟩ := h; cases q; exact .inr ⟨a, rfl, r⟩
  | _ => simp [datS] at e
theorem ES.read (h : ES κ ν η B F τ ts σ sl H) (m : (x, s) ∈ τ.zip ts) (e : getV sl s = some d) : LD κ ν (OS F τ ts σ sl) H d x := by
  have o := h.er.ok _ (List.mem_append_left _ (zip_map_mem m))
  cases s with
  | sh d' => exact slok_ld o (by simpa using e) rfl
  | ow d' => exact slok_ld o (by simpa using e) rfl
  | al i =>
    have hv := h.al _ _ m
    simp only [getV_al] at e
    cases q : sl[i]? with
    | none => rw [q] at e; simp [datS] at e
    | some t =>
      rw [q] at e
      obtain ⟨w, hw, mw⟩ := sl_get h q
      rw [hv] at hw
      cases hw
      have o2 := h.er.ok _ (List.mem_append_right _ (List.mem_append_left _ mw))
      exact slok_ld o2 e rfl
  | unk => simp [getV] at e
  | exc x => simp [getV] at e
theorem LD.mono {Y Y' : Addr → Prop} (h : LD κ ν Y H d v) (k : ∀ a, Y' a → Y a) : LD κ ν Y' H d v := by
  rcases h with h | ⟨a, e, h⟩
  · exact .inl (h.mono fun a _ _ z => k a z)
  · exact .inr ⟨a, e, h.mono fun a _ _ z => k a z⟩
theorem ES.pop (h : ES κ ν η B F (x :: τ) (s :: ts) σ sl H) : ES κ ν η B F τ ts σ sl H :=
  ⟨by simpa using h.lt, h.ls, fun v i m => h.al v i (by simp only [List.zip_cons_cons]; exact List.mem_cons_of_mem _ m), ER.tail (p := (some x, s)) (by simpa [zA, zT] using h.er), h.bs,
    fun a d m => h.fr a d (by simp only [zT, List.map_cons, List.zip_cons_cons, List.cons_append]; exact List.mem_cons_of_mem _ m), h.sf, fun y q => ⟨(h.ex y q).1, (h.ex y q).2.mono fun a _ _ ⟨d, m⟩ => ⟨d, by simp only [zA, zT, List.map_cons, List.zip_cons_cons, List.cons_append]; exact List.mem_cons_of_mem _ m⟩⟩⟩
theorem os_pop : ∀ a, OS F τ ts σ sl a → OS F (x :: τ) (s :: ts) σ sl a := fun a ⟨d, m⟩ => ⟨d, by simp only [zA, zT, List.map_cons, List.zip_cons_cons, List.cons_append]; exact List.mem_cons_of_mem _ m⟩
theorem ES.ext (h : ES κ ν η B F τ ts σ sl H) (e : Xt κ H H') : ES κ ν η B F τ ts σ sl H' := ⟨h.lt, h.ls, h.al, h.er.ext e, h.bs.trans e, h.fr, h.sf, fun y q => ⟨(h.ex y q).1, (h.ex y q).2.ext e⟩⟩
theorem ES.pushR (h : ES κ ν η B F τ ts σ sl H) (r : RD κ ν (OS F τ ts σ sl) H d v) : ES κ ν η B F (v :: τ) (.sh d :: ts) σ sl H :=
  ⟨by simp [h.lt], h.ls, fun w i m => by
      simp only [List.zip_cons_cons, List.mem_cons, Prod.mk.injEq, reduceCtorEq, and_false, false_or] at m
      exact h.al w i m, by simpa [zA, zT] using h.er.push r, h.bs, fun a e m => by
      simp only [zT, List.map_cons, List.zip_cons_cons, List.cons_append, List.mem_cons, Prod.mk.injEq, reduceCtorEq, and_false, false_or] at m
      exact h.fr a e m, h.sf, fun y q => ⟨(h.ex y q).1, (h.ex y q).2.mono fun a _ _ ⟨e, m⟩ => ⟨e, by
        simp only [zA, zT, List.map_cons, List.zip_cons_cons, List.cons_append, List.mem_cons, Prod.mk.injEq, reduceCtorEq, and_false, false_or] at m
        exact m⟩⟩⟩
theorem ES.pushA (h : ES κ ν η B F τ ts σ sl H) {i : Nat} (e : σ[i]? = some (some v)) : ES κ ν η B F (v :: τ) (.al i :: ts) σ sl H :=
  ⟨by simp [h.lt], h.ls, fun w j m => by
      simp only [List.zip_cons_cons, List.mem_cons, Prod.mk.injEq, Sl.al.injEq] at m
      rcases m with ⟨rfl, rfl⟩ | m
      · exact e
      · exact h.al w j m, by simpa [zA, zT] using h.er.pushU (some v) (.inr ⟨i, rfl⟩), h.bs, fun a d m => by
      simp only [zT, List.map_cons, List.zip_cons_cons, List.cons_append, List.mem_cons, Prod.mk.injEq, reduceCtorEq, and_false, false_or] at m
      exact h.fr a d m, h.sf, fun y q => ⟨(h.ex y q).1, (h.ex y q).2.mono fun a _ _ ⟨e, m⟩ => ⟨e, by
        simp only [zA, zT, List.map_cons, List.zip_cons_cons, List.cons_append, List.mem_cons, Prod.mk.injEq, reduceCtorEq, and_false, false_or] at m
        exact m⟩⟩⟩
theorem ES.adopt {p : Addr} (h : ES κ ν η B F τ ts σ sl H) (e : Xt κ H H') (hp : H p = none) (c : Cell κ ν (fun b => OS F τ ts σ sl b ∨ b = p) H' p d) : ES κ ν η B F (.ref p :: τ) (.ow d :: ts) σ sl H' :=
  ⟨by simp [h.lt], h.ls, fun w i m => by
      simp only [List.zip_cons_cons, List.mem_cons, Prod.mk.injEq, reduceCtorEq, and_false, false_or] at m
      exact h.al w i m, by simpa [zA, zT] using h.er.adopt e hp c, h.bs.trans e, fun a e m => by
      simp only [zT, List.map_cons, List.zip_cons_cons, List.cons_append, List.mem_cons, Prod.mk.injEq, Option.some.injEq, V.ref.injEq, Sl.ow.injEq] at m
      rcases m with ⟨rfl, _⟩ | m
      · exact xt_none h.bs hp
      · exact h.fr a e m, h.sf, fun y q => ⟨(h.ex y q).1, (ExR.mono (h.ex y q).2 fun a u hu ⟨f, m⟩ => by
        simp only [zA, zT, List.map_cons, List.zip_cons_cons, List.cons_append, List.mem_cons, Prod.mk.injEq, Option.some.injEq, V.ref.injEq, Sl.ow.injEq] at m
        rcases m with ⟨rfl, _⟩ | m
        · rw [hp] at hu; cases hu
        · exact ⟨f, m⟩).ext e⟩⟩
theorem ES.fresh {p : Addr} {o : HO} (h : ES κ ν η B F τ ts σ sl H) (hp : H p = none) (c : Cell κ ν (fun b => OS F τ ts σ sl b ∨ b = p) (upd H p o) p d) : ES κ ν η B F (.ref p :: τ) (.ow d :: ts) σ sl (upd H p o) := h.adopt (Xt.new (Xt.refl _) hp) hp c
theorem ES.newV (h : ES κ ν η B F τ ts σ sl H) (n : NewV κ ν (OS F τ ts σ sl) H s v H') : ES κ ν η B F (v :: τ) (s :: ts) σ sl H' := by
  cases s with
  | sh d =>
    rcases n with ⟨rfl, r⟩ | ⟨p, vs, ds, rfl, rfl, hp, rfl, r⟩
    · exact h.pushR r
    · have ex : Xt κ H (upd H p (.tup vs)) := Xt.new (Xt.refl _) hp
      refine (h.ext ex).pushR ?_
      simp only [RD]
      refine ⟨p, vs, rfl, fun z => ?_, upd_same, r.ext ex⟩
      obtain ⟨u, hu, _⟩ := OA.some h.er z
      rw [hp] at hu; cases hu
  | ow d =>
    cases d with
    | lst ds =>
      obtain ⟨p, vs, rfl, hp, rfl, r⟩ := n
      refine h.fresh hp ⟨vs, upd_same, ?_⟩
      refine (RDs.mono (fun b u hb z => ?_) r).ext (Xt.new (Xt.refl _) hp)
      rcases z with z | rfl
      · exact z
      · rw [hp] at hb; cases hb
    | dct q ks ws =>
      obtain ⟨p, o, vs, rfl, hp, rfl, g, r⟩ := n
      refine h.fresh hp ⟨o, vs, upd_same, g, ?_⟩
      refine (RDs.mono (fun b u hb z => ?_) r).ext (Xt.new (Xt.refl _) hp)
      rcases z with z | rfl
      · exact z
      · rw [hp] at hb; cases hb
    | _ => exact n.elim
  | _ => exact n.elim
/-- all that passes is dropped -/
theorem ES.drop (h : ES κ ν η B F τ ts σ sl H) : ES κ ν η B F [] [] σ sl H :=
  ⟨rfl, h.ls, fun v i m => by simp at m, by have := h.er; simp only [zA] at this ⊢; simpa [zT] using ER.sub this, h.bs, fun a d m => h.fr a d (by simp [zT] at m; exact List.mem_append_right _ m), h.sf,
    fun y q => ⟨(h.ex y q).1, (h.ex y q).2.mono fun a _ _ ⟨d, m⟩ => ⟨d, by simp [zA, zT] at m ⊢; exact .inr m⟩⟩⟩
end

/-! ### a reading does what the machine does -/
/-- what is wanted of an error -/
structure StOk (η : Hn) (B : Hp) (F0 : List VS) (ν : List Addr) (F : List VS) (s : Sto) : Prop where
  fe : F = zS ν s ++ F0
  ln : ν.length = s.length
  nb : ∀ a ∈ ν, B a = none
  np : η.nu <+: ν
  pr : η.pr = true → ν = []
  cp : ∀ p ∈ η.cap, p ∈ F0
def XP (κ : Ctx) (η : Hn) (W : WX) (B : Hp) (F0 : List VS) (σ : L2.St) (x : XS) (st : Sto) : Prop := ∀ ν F c d H', StOk η B F0 ν F st → ES κ ν η B F [] [] σ x.2 H' → ExR κ ν (OA (σ.zip x.2 ++ F)) H' x.1 c d → W c d σ H'
def SimE (κ : Ctx) (η : Hn) (W : WX) (te : TE) (m : EM) : Prop := ∀ {F0 : List VS} {st : Sto} {ν : List Addr} {B : Hp} {F : List VS} {τ : List V} {ts : List Sl} {σ : L2.St} {sl : List Sl} {H : Hp} {Q : VK}, StOk η B F0 ν F st → ES κ ν η B F τ ts σ sl H →
  wp (m ⟨ts, sl⟩) st (fun e st => ∀ ν F v H', StOk η B F0 ν F st → ES κ ν η B F (v :: τ) e.ts σ e.sl H' → Q v H') (XP κ η W B F0 σ) → te σ H Q
def SimA (κ : Ctx) (η : Hn) (W : WX) (ta : TA) (as : List EM) : Prop := ∀ {F0 : List VS} {st : Sto} {ν : List Addr} {B : Hp} {F : List VS} {τ : List V} {ts : List Sl} {σ : L2.St} {sl : List Sl} {H : Hp} {Q : List V → Hp → Prop}, StOk η B F0 ν F st → ES κ ν η B F τ ts σ sl H →
  wp (argE as ⟨ts, sl⟩) st (fun e st => ∀ ν F vs H', vs.length = as.length → StOk η B F0 ν F st → ES κ ν η B F (vs.reverse ++ τ) e.ts σ e.sl H' → Q vs H') (XP κ η W B F0 σ) → ta σ H Q
def SimT (κ : Ctx) (η : Hn) (W : WX) (tt : TT) (m : EM) : Prop := ∀ {F0 : List VS} {st : Sto} {ν : List Addr} {B : Hp} {F : List VS} {τ : List V} {ts : List Sl} {σ : L2.St} {sl : List Sl} {H : Hp} {Q : Bool → Hp → Prop}, StOk η B F0 ν F st → ES κ ν η B F τ ts σ sl H →
  wp (m ⟨ts, sl⟩) st (fun e st => ∃ s r b, e.ts = s :: r ∧ getV e.sl s = some (.bl b) ∧ ∀ ν F H', StOk η B F0 ν F st → ES κ ν η B F τ r σ e.sl H' → Q b H') (XP κ η W B F0 σ) → tt σ H Q
section
variable {κ : Ctx} {ν ν' : List Addr} {η : Hn} {W : WX} {ta tb tc te : TE} {ma mb mc m : EM}
theorem ts_cons {τ : List V} {ts : List Sl} {x : V} (h : (x :: τ).length = ts.length) : ∃ s r, ts = s :: r := by
  cases ts with
  | nil => simp at h
  | cons s r => exact ⟨s, r, rfl⟩
theorem sim_c {v : V} {d : D} (h : ∀ ν Y H, RD κ ν Y H d v) : SimE κ η W (tC v) (cst d) := fun {F0 st ν B F τ ts σ sl H Q} so es w => w _ _ _ _ so (es.pushR (h _ _ _))
theorem sim_int {i : Int} : SimE κ η W (tC (.int i)) (cst (.int i)) := sim_c fun ν Y H => by simp only [RD]
theorem sim_bl {i : Bool} : SimE κ η W (tC (.bl i)) (cst (.bl i)) := sim_c fun ν Y H => by simp only [RD]
theorem sim_str {i : Str} : SimE κ η W (tC (.str i)) (cst (.str i)) := sim_c fun ν Y H => by simp only [RD]
theorem sim_non : SimE κ η W (tC .non) (cst .non) := sim_c fun ν Y H => by simp only [RD]
theorem sim_rf {i : Nat} : SimE κ η W (tVar i) (rf i) := by
  intro F0 st ν B F τ ts σ sl H Q so es w
  simp only [rf_ap] at w
  cases q : sl[i]? with
  | none => rw [q] at w; exact w.elim
  | some s =>
    rw [q] at w
    obtain ⟨u, hu, mu⟩ := sl_get es q
    have o := es.er.ok _ (List.mem_append_right _ (List.mem_append_left _ mu))
    cases s with
    | sh d =>
      obtain ⟨v, e, r⟩ := o
      simp only at e
      subst e
      exact ⟨v, hu, w _ _ _ _ so (es.pushR r)⟩
    | ow d =>
      obtain ⟨a, e, r⟩ := o
      simp only at e
      subst e
      exact ⟨_, hu, w _ _ _ _ so (es.pushA hu)⟩
    | _ => exact w.elim
theorem sim_op1 {r : V → Hp → VK → Prop} {f : D → Option Sl} (h : Op1 κ r f) (ha : SimE κ η W ta ma) : SimE κ η W (tUn r ta) (un1 f ma) := by
  intro F0 st ν B F τ ts σ sl H Q so es w
  simp only [un1_ap, wp_bnd] at w
  refine ha so es (wp_mono w (fun e st we ν F v H1 so es1 => ?_) fun _ _ z => z)
  obtain ⟨ets, esl⟩ := e
  obtain ⟨s, r', rfl⟩ := ts_cons es1.lt
  simp only [op1_ap] at we
  cases q : getV esl s with
  | none => rw [q] at we; exact we.elim
  | some c =>
    rw [q] at we
    simp only [Option.bind_some] at we
    cases q2 : f c with
    | none => rw [q2] at we; exact we.elim
    | some t =>
      rw [q2] at we
      have l := es1.read (x := v) (s := s) (by simp) q
      exact h (l.mono os_pop) q2 fun v' H' n => we _ _ _ _ so (es1.pop.newV n)
theorem sim_op2 {r : R2} {f : D → D → Option Sl} (h : Op2 κ r f) (ha : SimE κ η W ta ma) (hb : SimE κ η W tb mb) : SimE κ η W (tOp r ta tb) (bin f ma mb) := by
  intro F0 st ν B F τ ts σ sl H Q so es w
  simp only [bin_ap, wp_bnd] at w
  refine ha so es (wp_mono w (fun e st we ν F x H1 so es1 => ?_) fun _ _ z => z)
  simp only [seqE_ap, wp_bnd] at we
  obtain ⟨ets, esl⟩ := e
  refine hb so es1 (wp_mono we (fun e2 st we2 ν F y H2 so es2 => ?_) fun _ _ z => z)
  obtain ⟨ets2, esl2⟩ := e2
  obtain ⟨sy, r1, rfl⟩ := ts_cons es2.lt
  obtain ⟨sx, r2, rfl⟩ := ts_cons es2.pop.lt
  simp only [op2_ap] at we2
  cases q1 : getV esl2 sx with
  | none => rw [q1] at we2; exact we2.elim
  | some c =>
    cases q2 : getV esl2 sy with
    | none => rw [q1, q2] at we2; exact we2.elim
    | some d =>
      rw [q1, q2] at we2
      simp only [Option.bind_some] at we2
      cases q3 : f c d with
      | none => rw [q3] at we2; exact we2.elim
      | some t =>
        rw [q3] at we2
        have l1 := es2.read (x := x) (s := sx) (by simp) q1
        have l2 := es2.read (x := y) (s := sy) (by simp) q2
        exact h (l1.mono fun a z => os_pop a (os_pop a z)) (l2.mono fun a z => os_pop a (os_pop a z)) q3 fun v' H' n => we2 _ _ _ _ so (es2.pop.pop.newV n)
/-! tests -/
theorem sim_tB (h : SimE κ η W te m) : SimT κ η W (tB te) m := by
  intro F0 st ν B F τ ts σ sl H Q so es w
  refine h so es (wp_mono w (fun e st we ν F v H1 so es1 => ?_) fun _ _ z => z)
  obtain ⟨s, r, b, e1, e2, k⟩ := we
  obtain ⟨ets, esl⟩ := e
  simp only at e1 e2 k es1
  subst e1
  exact ⟨b, (es1.read (x := v) (s := s) (by simp) e2).bl, k _ _ _ so es1.pop⟩
theorem sim_test (h : SimE κ η W te m) : SimT κ η W (tTest te) m := sim_tB h
theorem wp_tst {a b : EM} {e : Env} {st : Sto} {k : Env → Sto → Prop} {x : XS → Sto → Prop} (h : wp (tst a b e) st k x) : ∃ s r c, e.ts = s :: r ∧ getV e.sl s = some (.bl c) ∧ (if c then wp (a ⟨r, e.sl⟩) st k x else wp (b ⟨r, e.sl⟩) st k x) := by
  obtain ⟨ts, sl⟩ := e
  cases ts with
  | nil => exact h.elim
  | cons s r =>
    simp only [tst_ap] at h
    cases q : getV sl s with
    | none => rw [q] at h; exact h.elim
    | some d =>
      rw [q] at h
      cases d with
      | bl c => exact ⟨s, r, c, rfl, q, by simpa only [tstK_bl, wp_iteC] using h⟩
      | _ => exact h.elim
/-- a part of a bool's two parts: the value of the whole -/
theorem sim_and {tA tB' : TT} (ha : SimT κ η W tA ma) (hb : SimT κ η W tB' mb) : SimT κ η W (tAnd tA tB') (andE ma mb) := by
  intro F0 st ν B F τ ts σ sl H Q so es w
  simp only [andE_ap, wp_bnd] at w
  refine ha so es (wp_mono w (fun e st we => ?_) fun _ _ z => z)
  obtain ⟨s, r, c, e1, e2, k⟩ := wp_tst we
  refine ⟨s, r, c, e1, e2, fun ν F H1 so es1 => ?_⟩
  cases c with
  | true => rw [if_pos rfl]; exact hb so es1 (by simpa using k)
  | false =>
    rw [if_neg (by decide)]
    simp only [Bool.false_eq_true, if_false, cst_ap, wp] at k
    obtain ⟨s2, r2, b, f1, f2, f3⟩ := k
    simp only [List.cons.injEq] at f1
    obtain ⟨rfl, rfl⟩ := f1
    simp at f2
    subst f2
    exact f3 _ _ H1 so es1
theorem sim_or {tA tB' : TT} (ha : SimT κ η W tA ma) (hb : SimT κ η W tB' mb) : SimT κ η W (tOr tA tB') (orE ma mb) := by
  intro F0 st ν B F τ ts σ sl H Q so es w
  simp only [orE_ap, wp_bnd] at w
  refine ha so es (wp_mono w (fun e st we => ?_) fun _ _ z => z)
  obtain ⟨s, r, c, e1, e2, k⟩ := wp_tst we
  refine ⟨s, r, c, e1, e2, fun ν F H1 so es1 => ?_⟩
  cases c with
  | false => rw [if_neg (by decide)]; exact hb so es1 (by simpa using k)
  | true =>
    rw [if_pos rfl]
    simp only [if_true, cst_ap, wp] at k
    obtain ⟨s2, r2, b, f1, f2, f3⟩ := k
    simp only [List.cons.injEq] at f1
    obtain ⟨rfl, rfl⟩ := f1
    simp at f2
    subst f2
    exact f3 _ _ H1 so es1
theorem sim_notT {tA : TT} (ha : SimT κ η W tA ma) : SimT κ η W (tNot tA) (un1 fNot ma) := by
  intro F0 st ν B F τ ts σ sl H Q so es w
  simp only [un1_ap, wp_bnd] at w
  refine ha so es (wp_mono w (fun e st we => ?_) fun _ _ z => z)
  obtain ⟨ets, esl⟩ := e
  cases ets with
  | nil => exact we.elim
  | cons s r =>
    simp only [op1_ap] at we
    cases q : getV esl s with
    | none => rw [q] at we; exact we.elim
    | some d =>
      rw [q] at we
      cases d with
      | bl c =>
        simp only [Option.bind_some, fNot_bl, shB_ap, pushO_some, wp] at we
        obtain ⟨s2, r2, b, f1, f2, f3⟩ := we
        simp only [List.cons.injEq] at f1
        obtain ⟨rfl, rfl⟩ := f1
        simp only [getV_sh, Option.some.injEq, D.bl.injEq] at f2
        subst f2
        exact ⟨s, _, c, rfl, q, f3⟩
      | _ => exact we.elim
/-- and, or, not as values -/
theorem sim_andV (ha : SimE κ η W ta ma) (hb : SimE κ η W tb mb) : SimE κ η W (tAndV ta tb) (andE ma mb) := by
  intro F0 st ν B F τ ts σ sl H Q so es w
  simp only [andE_ap, wp_bnd] at w
  refine ha so es (wp_mono w (fun e st we ν F v H1 so es1 => ?_) fun _ _ z => z)
  obtain ⟨s, r, c, e1, e2, k⟩ := wp_tst we
  obtain ⟨ets, esl⟩ := e
  simp only at e1 e2 k es1
  subst e1
  refine ⟨c, (es1.read (x := v) (s := s) (by simp) e2).bl, ?_⟩
  cases c with
  | true => rw [if_pos rfl]; exact hb so es1.pop (by simpa using k)
  | false =>
    rw [if_neg (by decide)]
    simp only [Bool.false_eq_true, if_false, cst_ap, wp] at k
    exact k _ _ _ _ so (es1.pop.pushR (by simp only [RD]))
theorem sim_orV (ha : SimE κ η W ta ma) (hb : SimE κ η W tb mb) : SimE κ η W (tOrV ta tb) (orE ma mb) := by
  intro F0 st ν B F τ ts σ sl H Q so es w
  simp only [orE_ap, wp_bnd] at w
  refine ha so es (wp_mono w (fun e st we ν F v H1 so es1 => ?_) fun _ _ z => z)
  obtain ⟨s, r, c, e1, e2, k⟩ := wp_tst we
  obtain ⟨ets, esl⟩ := e
  simp only at e1 e2 k es1
  subst e1
  refine ⟨c, (es1.read (x := v) (s := s) (by simp) e2).bl, ?_⟩
  cases c with
  | false => rw [if_neg (by decide)]; exact hb so es1.pop (by simpa using k)
  | true =>
    rw [if_pos rfl]
    simp only [if_true, cst_ap, wp] at k
    exact k _ _ _ _ so (es1.pop.pushR (by simp only [RD]))
theorem sim_notV (ha : SimE κ η W ta ma) : SimE κ η W (tNotV ta) (un1 fNot ma) := by
  intro F0 st ν B F τ ts σ sl H Q so es w
  simp only [un1_ap, wp_bnd] at w
  refine ha so es (wp_mono w (fun e st we ν F v H1 so es1 => ?_) fun _ _ z => z)
  obtain ⟨ets, esl⟩ := e
  obtain ⟨s, r', rfl⟩ := ts_cons es1.lt
  simp only [op1_ap] at we
  cases q : getV esl s with
  | none => rw [q] at we; exact we.elim
  | some d =>
    rw [q] at we
    cases d with
    | bl c =>
      simp only [Option.bind_some, fNot_bl, shB_ap, pushO_some, wp] at we
      exact ⟨c, (es1.read (x := v) (s := s) (by simp) q).bl, we _ _ _ _ so (es1.pop.pushR (by simp only [RD]))⟩
    | _ => exact we.elim
theorem sim_if {tA : TT} (hc : SimT κ η W tA mc) (ha : SimE κ η W ta ma) (hb : SimE κ η W tb mb) : SimE κ η W (tIf tA ta tb) (ifE mc ma mb) := by
  intro F0 st ν B F τ ts σ sl H Q so es w
  simp only [ifE_ap, wp_bnd] at w
  refine hc so es (wp_mono w (fun e st we => ?_) fun _ _ z => z)
  obtain ⟨s, r, c, e1, e2, k⟩ := wp_tst we
  refine ⟨s, r, c, e1, e2, fun ν F H1 so es1 => ?_⟩
  cases c with
  | true => rw [if_pos rfl]; exact ha so es1 (by simpa using k)
  | false => rw [if_neg (by decide)]; exact hb so es1 (by simpa using k)
/-! arguments -/
theorem sim_nil : SimA κ η W tNil [] := fun {F0 st ν B F τ ts σ sl H Q} so es w => w _ _ [] H rfl so es
theorem sim_cons {tr : TA} {as : List EM} (ha : SimE κ η W ta ma) (hr : SimA κ η W tr as) : SimA κ η W (tCons ta tr) (ma :: as) := by
  intro F0 st ν B F τ ts σ sl H Q so es w
  simp only [argE_cons, wp_bnd] at w
  refine ha so es (wp_mono w (fun e st we ν F x H1 so es1 => ?_) fun _ _ z => z)
  obtain ⟨ets, esl⟩ := e
  refine hr so es1 (wp_mono we (fun e2 st we2 ν F vs H2 hl so es2 => ?_) fun _ _ z => z)
  exact we2 _ _ (x :: vs) H2 (by simp [hl]) so (by simpa using es2)
end
end Dl

namespace Dl
open PySem L2 Wp
section
variable {κ : Ctx} {ν ν' : List Addr} {η : Hn} {B : Hp} {F : List VS} {τ : List V} {ts : List Sl} {σ : L2.St} {sl : List Sl} {H H' : Hp} {v x : V} {s : Sl} {d : D}
/-! ### one slot -/
theorem zip_set {α β : Type} : ∀ (xs : List α) (ys : List β) (i : Nat) (x : α) (y : β), (xs.set i x).zip (ys.set i y) = (xs.zip ys).set i (x, y)
  | [], _, _, _, _ => by simp
  | _ :: _, [], i, _, _ => by cases i <;> simp
  | a :: xs, b :: ys, 0, _, _ => by simp
  | a :: xs, b :: ys, i + 1, x, y => by simp [zip_set xs ys i x y]
theorem set_self {α : Type} : ∀ {xs : List α} {i : Nat} {x : α}, xs[i]? = some x → xs.set i x = xs
  | [], _, _, _ => by simp
  | a :: xs, 0, _, h => by simp at h; simp [h]
  | a :: xs, i + 1, x, h => by simp at h; simp [set_self h]
theorem perm_at {α : Type} : ∀ {xs : List α} {i : Nat} {x : α}, xs[i]? = some x → xs.Perm (x :: xs.eraseIdx i)
  | [], _, _, h => by simp at h
  | a :: xs, 0, _, h => by simp at h; subst h; simp
  | a :: xs, i + 1, x, h => by
    simp at h
    simp only [List.eraseIdx_cons_succ]
    exact (List.Perm.cons a (perm_at h)).trans (List.Perm.swap _ _ _)
theorem perm_set {α : Type} : ∀ {xs : List α} {i : Nat} {x y : α}, xs[i]? = some x → (xs.set i y).Perm (y :: xs.eraseIdx i)
  | [], _, _, _, h => by simp at h
  | a :: xs, 0, _, _, h => by simp
  | a :: xs, i + 1, x, y, h => by
    simp at h
    simp only [List.set_cons_succ, List.eraseIdx_cons_succ]
    exact (List.Perm.cons a (perm_set h)).trans (List.Perm.swap _ _ _)
theorem zip_at {xs : L2.St} {ys : List Sl} {i : Nat} {x : Option V} {y : Sl} (h : xs[i]? = some x) (g : ys[i]? = some y) : (xs.zip ys)[i]? = some (x, y) := by
  rw [List.getElem?_zip_eq_some]; exact ⟨h, g⟩
/-- the slots' part of a state is changed at one place: what is to be shown -/
theorem ES.at {i : Nat} {w : Option V} (h : ES κ ν η B F τ ts σ sl H) (e1 : σ[i]? = some w) (e2 : sl[i]? = some s) : ∃ R, (zA τ ts σ sl F).Perm ((w, s) :: R) ∧ ∀ w' s', (zA τ ts (σ.set i w') (sl.set i s') F).Perm ((w', s') :: R) := by
  refine ⟨zT τ ts ++ ((σ.zip sl).eraseIdx i ++ F), ?_, fun w' s' => ?_⟩
  · have p := perm_at (zip_at e1 e2)
    have := (p.append_right F).append_left (zT τ ts)
    exact this.trans (by simpa using List.perm_middle)
  · rw [zA, zip_set]
    have p := perm_set (y := (w', s')) (zip_at e1 e2)
    have := (p.append_right F).append_left (zT τ ts)
    exact this.trans (by simpa using List.perm_middle)
theorem mem_zip_set {i : Nat} {w : Option V} {a : Addr} {e : D} (m : (some (V.ref a), Sl.ow e) ∈ (σ.set i w).zip (sl.set i s)) : (w = some (V.ref a) ∧ s = .ow e) ∨ (some (V.ref a), Sl.ow e) ∈ σ.zip sl := by
  rw [zip_set] at m
  rcases List.mem_or_eq_of_mem_set m with m | m
  · exact .inr m
  · simp only [Prod.mk.injEq] at m; exact .inl ⟨m.1.symm, m.2.symm⟩
/-- a slot is told anew -/
theorem ES.slot {i : Nat} {w w' : Option V} {s' : Sl} (h : ES κ ν η B F τ ts σ sl H) (e1 : σ[i]? = some w) (e2 : sl[i]? = some s) (hx : i ≠ η.i ∨ ∀ x, s' ≠ .exc x) (ho : η.ok i ∨ w' = w)
    (hal : ∀ v j, (v, Sl.al j) ∈ τ.zip ts → j ≠ i ∨ w' = w)
    (hB : Xt κ B H') (hfr : ∀ a d, w' = some (.ref a) → s' = .ow d → B a = none)
    (hex : ∀ x, sl[η.i]? = some (.exc x) → ExR κ ν (OA (zA τ ts (σ.set i w') (sl.set i s') F)) H' x η.c η.d)
    (k : ∀ R, (zA τ ts σ sl F).Perm ((w, s) :: R) → ER κ ν H ((w, s) :: R) → ER κ ν H' ((w', s') :: R)) : ES κ ν η B F τ ts (σ.set i w') (sl.set i s') H' := by
  obtain ⟨R, p, q⟩ := h.at e1 e2
  refine ⟨h.lt, by simp [h.ls], fun v j m => ?_, (k R p (h.er.perm p)).perm (q w' s').symm, hB, fun a d m => ?_, fun u hu => ?_, fun x hq => ?_⟩
  · have z := h.al v j m
    rcases hal v j m with n | n
    · rw [List.getElem?_set_ne (Ne.symm n)]; exact z
    · subst n
      rw [set_self e1]; exact z
  · rcases List.mem_append.mp m with m | m
    · exact h.fr a d (List.mem_append_left _ m)
    · rcases mem_zip_set m with ⟨y1, y2⟩ | m
      · exact hfr a d y1 y2
      · exact h.fr a d (List.mem_append_right _ m)
  · rcases ho with (n | n) | n
    · rw [n] at hu; cases hu
    · rw [List.getElem?_set_ne n]; exact h.sf u hu
    · rw [n, set_self e1]; exact h.sf u hu
  · by_cases hi : i = η.i
    · rcases hx with n | n
      · exact absurd hi n
      · rw [hi, List.getElem?_set_self (by have := (List.getElem?_eq_some_iff.mp e2).1; omega)] at hq
        exact absurd (Option.some.inj hq) (n x)
    · rw [List.getElem?_set_ne hi] at hq ⊢
      exact ⟨(h.ex x hq).1, hex x hq⟩
theorem exr_sub {Z Z' : List VS} {x : Exc} {c : Value} {o : Option Addr} (h : ExR κ ν (OA Z) H x c o) (k : ∀ a, OA Z' a → OA Z a) : ExR κ ν (OA Z') H x c o := h.mono fun a _ _ z => k a z
/-- what is held at a place among the slots told anew is held before, if it is not new -/
theorem oa_slot {i : Nat} {w' : Option V} {s' : Sl} (n : ∀ d, s' ≠ .ow d) : ∀ a, OA (zA τ ts (σ.set i w') (sl.set i s') F) a → OA (zA τ ts σ sl F) a := by
  rintro a ⟨d, m⟩
  refine ⟨d, ?_⟩
  rcases List.mem_append.mp m with m | m
  · exact List.mem_append_left _ m
  · rcases List.mem_append.mp m with m | m
    · rcases mem_zip_set m with ⟨_, z⟩ | m
      · exact absurd z (n d)
      · exact List.mem_append_right _ (List.mem_append_left _ m)
    · exact List.mem_append_right _ (List.mem_append_right _ m)
/-- a slot's thing is held no more -/
theorem ES.frzAt {i : Nat} (h : ES κ ν η B F τ ts σ sl H) (e2 : sl[i]? = some (.ow d)) : ES κ ν η B F τ ts σ (sl.set i (.sh d)) H := by
  obtain ⟨w, e1, _⟩ := sl_get h e2
  have z := h.slot (w' := w) (s' := .sh d) (H' := H) e1 e2 (.inr fun _ => nofun) (.inr rfl) (fun _ _ _ => .inr rfl) h.bs (fun a d' _ y => nomatch y) (fun x q => exr_sub (h.ex x q).2 (oa_slot fun _ => nofun)) fun R _ r => r.freeze
  rwa [set_self e1] at z
theorem ES.frzI {i : Nat} (h : ES κ ν η B F τ ts σ sl H) : ES κ ν η B F τ ts σ (frz i sl) H := by
  unfold frz
  cases q : sl[i]? with
  | none => exact h
  | some s =>
    cases s with
    | ow d => exact h.frzAt q
    | _ => exact h
theorem frz_get (i j : Nat) (sl : List Sl) : datS (frz i sl)[j]? = datS sl[j]? := by
  unfold frz
  cases q : sl[i]? with
  | none => rfl
  | some s =>
    cases s with
    | ow d =>
      simp only [frzK_ow]
      by_cases hj : i = j
      · subst hj
        rw [List.getElem?_set_self (List.getElem?_eq_some_iff.mp q).1, q]; rfl
      · rw [List.getElem?_set_ne hj]
    | _ => rfl
theorem getV_frz (i : Nat) (sl : List Sl) (s : Sl) : getV (frz i sl) s = getV sl s := by
  cases s with
  | al j => exact frz_get i j sl
  | _ => rfl
theorem frz_not (i j : Nat) {sl : List Sl} (h : ∀ d, sl[j]? ≠ some (.ow d)) : ∀ d, (frz i sl)[j]? ≠ some (.ow d) := by
  intro d
  unfold frz
  cases q : sl[i]? with
  | none => exact h d
  | some s =>
    cases s with
    | ow e =>
      simp only [frzK_ow]
      by_cases hj : i = j
      · subst hj
        rw [List.getElem?_set_self (List.getElem?_eq_some_iff.mp q).1]; exact nofun
      · rw [List.getElem?_set_ne hj]; exact h d
    | _ => exact h d
theorem frz_self (i : Nat) (sl : List Sl) : ∀ d, (frz i sl)[i]? ≠ some (.ow d) := by
  intro d
  unfold frz
  cases q : sl[i]? with
  | none => simp only [frzK]; rw [q]; exact nofun
  | some s =>
    cases s with
    | ow e => simp only [frzK_ow]; rw [List.getElem?_set_self (List.getElem?_eq_some_iff.mp q).1]; exact nofun
    | sh e => simp only [frzK_sh]; rw [q]; exact nofun
    | _ => simp only [frzK]; rw [q]; exact nofun
theorem ES.frzL (h : ES κ ν η B F τ ts σ sl H) : ∀ (l : List Sl), ES κ ν η B F τ ts σ (frzA l sl) H := by
  intro l
  induction l generalizing sl with
  | nil => exact h
  | cons s l ih =>
    cases s with
    | al i => exact ih h.frzI
    | _ => exact ih h
theorem getV_frzA : ∀ (l sl : List Sl) (s : Sl), getV (frzA l sl) s = getV sl s
  | [], sl, s => rfl
  | .al i :: l, sl, s => (getV_frzA l (frz i sl) s).trans (getV_frz i sl s)
  | .sh _ :: l, sl, s => getV_frzA l sl s
  | .ow _ :: l, sl, s => getV_frzA l sl s
  | .unk :: l, sl, s => getV_frzA l sl s
  | .exc _ :: l, sl, s => getV_frzA l sl s
theorem frzA_keep : ∀ (l : List Sl) {sl : List Sl} (i : Nat), (∀ d, sl[i]? ≠ some (.ow d)) → ∀ d, (frzA l sl)[i]? ≠ some (.ow d)
  | [], _, _, h => h
  | .al j :: l, _, i, h => frzA_keep l i (frz_not j i h)
  | .sh _ :: l, _, i, h => frzA_keep l i h
  | .ow _ :: l, _, i, h => frzA_keep l i h
  | .unk :: l, _, i, h => frzA_keep l i h
  | .exc _ :: l, _, i, h => frzA_keep l i h
theorem frzA_not : ∀ (l sl : List Sl) (i : Nat), Sl.al i ∈ l → ∀ d, (frzA l sl)[i]? ≠ some (.ow d)
  | [], _, _, h => by simp at h
  | t :: l, sl, i, h => by
    rcases List.mem_cons.mp h with e | h2
    · subst e
      exact frzA_keep l i (frz_self i sl)
    · cases t with
      | al j => exact frzA_not l (frz j sl) i h2
      | _ => exact frzA_not l sl i h2
/-! ### arguments taken -/
theorem ES.pop1 (h : ES κ ν η B F (x :: τ) (s :: ts) σ sl H) (e : getV sl s = some d) (n : ∀ i, s = .al i → ∀ d, sl[i]? ≠ some (.ow d)) : RD κ ν (OS F τ ts σ sl) H d x := by
  have o := h.er.ok (some x, s) (by simp [zA, zT])
  cases s with
  | sh d' =>
    simp at e; subst e
    obtain ⟨w, q, r⟩ := o
    cases q
    exact r.mono fun a _ _ z => os_pop a z
  | ow d' =>
    simp at e; subst e
    have er : ER κ ν H ((some x, .ow d') :: zA τ ts σ sl F) := by simpa [zA, zT] using h.er
    obtain ⟨w, q, r⟩ := er.freeze.ok (some x, .sh d') List.mem_cons_self
    cases q
    exact r.mono fun a _ _ z => oa_mem z
  | al i =>
    have hv := h.al x i (by simp)
    simp only [getV_al] at e
    cases q : sl[i]? with
    | none => rw [q] at e; simp [datS] at e
    | some t =>
      rw [q] at e
      obtain ⟨w, hw, mw⟩ := sl_get h q
      rw [hv] at hw; cases hw
      have o2 := h.er.ok _ (List.mem_append_right _ (List.mem_append_left _ mw))
      cases t with
      | sh d' =>
        simp at e; subst e
        obtain ⟨w, q, r⟩ := o2
        cases q
        exact r.mono fun a _ _ z => os_pop a z
      | ow d' => exact absurd q (n i rfl d')
      | _ => simp [datS] at e
  | unk => simp [getV] at e
  | exc x => simp [getV] at e
theorem ES.popN : ∀ {ws : List V} {ets : List Sl} {acc ds : List D} {r : List Sl}, ES κ ν η B F (ws ++ τ) ets σ sl H → takeV sl ws.length ets acc = some (ds, r) → (∀ i, Sl.al i ∈ ets.take ws.length → ∀ d, sl[i]? ≠ some (.ow d)) →
    ES κ ν η B F τ r σ sl H ∧ ∃ ds', ds = ds' ++ acc ∧ RDs κ ν (OS F τ r σ sl) H ds' ws.reverse
  | [], ets, acc, ds, r, h, e, _ => by
    simp only [List.length_nil, takeV_0, Option.some.injEq, Prod.mk.injEq] at e
    obtain ⟨rfl, rfl⟩ := e
    exact ⟨h, [], by simp, by simp [RDs]⟩
  | w :: ws, ets, acc, ds, r, h, e, n => by
    obtain ⟨s, ts', rfl⟩ := ts_cons (x := w) (τ := ws ++ τ) h.lt
    simp only [List.length_cons, takeV_s] at e
    cases q : getV sl s with
    | none => rw [q] at e; cases e
    | some d =>
      rw [q] at e
      simp only [Option.bind_some] at e
      obtain ⟨es, ds', e1, r1⟩ := ES.popN (ws := ws) (ets := ts') h.pop e fun i m => n i (by simp only [List.length_cons, List.take_succ_cons]; exact List.mem_cons_of_mem _ m)
      have rd := ES.pop1 h q fun i ei => n i (by subst ei; simp)
      refine ⟨es, ds' ++ [d], by simp [e1], ?_⟩
      simp only [List.reverse_cons]
      refine r1.app (RDs.one (rd.mono fun a _ _ ⟨d, z⟩ => ⟨d, ?_⟩))
      -- what is held below is held above
      have lt : (ws ++ τ).length = ts'.length := h.pop.lt
      have hr : r = ts'.drop ws.length := by
        clear e1 r1 es ds' rd
        induction ws generalizing ts' with
        | nil => simp at e; simp [e.2]
        | cons w' ws ih => exact takeV_drop e
      subst hr
      have : zT (ws ++ τ) ts' = (zT ws (ts'.take ws.length)) ++ zT τ (ts'.drop ws.length) := by
        simp only [zT, List.map_append]
        conv => lhs; rw [← List.take_append_drop ws.length ts']
        exact List.zip_append (by simp at lt ⊢; omega)
      rcases List.mem_append.mp z with z | z
      · exact List.mem_append_left _ (show _ ∈ zT (ws ++ τ) ts' by rw [this]; exact List.mem_append_right _ z)
      · exact List.mem_append_right _ z
where
  takeV_drop {n : Nat} {ets : List Sl} {acc ds : List D} {r : List Sl} (e : takeV sl n ets acc = some (ds, r)) : r = ets.drop n := by
    induction n generalizing ets acc with
    | zero => simp at e; simp [e.2]
    | succ n ih =>
      cases ets with
      | nil => simp [takeV] at e
      | cons s ts =>
        simp only [takeV_s] at e
        cases q : getV sl s with
        | none => rw [q] at e; cases e
        | some d => rw [q] at e; simp only [Option.bind_some] at e; simpa using ih e
theorem takeV_frzA (l sl : List Sl) : ∀ (n : Nat) (ets : List Sl) (acc : List D), takeV (frzA l sl) n ets acc = takeV sl n ets acc
  | 0, ets, acc => by simp
  | n + 1, [], acc => rfl
  | n + 1, s :: ts, acc => by
    simp only [takeV_s, getV_frzA]
    cases getV sl s with
    | none => rfl
    | some d => exact takeV_frzA l sl n ts (d :: acc)
/-- arguments taken for good -/
theorem ES.args {vs : List V} {ets : List Sl} {ds : List D} {r : List Sl} (h : ES κ ν η B F (vs.reverse ++ τ) ets σ sl H) (e : takeV sl vs.length ets [] = some (ds, r)) :
    ES κ ν η B F τ r σ (frzA (ets.take vs.length) sl) H ∧ RDs κ ν (OS F τ r σ (frzA (ets.take vs.length) sl)) H ds vs := by
  have h2 := h.frzL (ets.take vs.length)
  obtain ⟨es, ds', e1, r1⟩ := ES.popN (ws := vs.reverse) (acc := []) h2 (by rw [takeV_frzA]; simpa using e) fun i m => frzA_not _ _ i (by simpa using m)
  simp only [List.append_nil, List.reverse_reverse] at e1 r1
  subst e1
  exact ⟨es, r1⟩
/-- arguments dropped -/
theorem ES.popAll : ∀ {ws : List V} {ets : List Sl} {acc ds : List D} {r : List Sl}, ES κ ν η B F (ws ++ τ) ets σ sl H → takeV sl ws.length ets acc = some (ds, r) → ES κ ν η B F τ r σ sl H
  | [], ets, acc, ds, r, h, e => by
    simp only [List.length_nil, takeV_0, Option.some.injEq, Prod.mk.injEq] at e
    obtain ⟨rfl, rfl⟩ := e
    exact h
  | w :: ws, ets, acc, ds, r, h, e => by
    obtain ⟨s, ts', rfl⟩ := ts_cons (x := w) (τ := ws ++ τ) h.lt
    simp only [List.length_cons, takeV_s] at e
    cases q : getV sl s with
    | none => rw [q] at e; cases e
    | some d =>
      rw [q] at e
      exact ES.popAll (ws := ws) (ets := ts') h.pop e
end
end Dl

namespace Dl
open PySem L2 Wp
/-! ### promises of defs -/
def zV (vs : List V) (ds : List D) : List VS := (vs.map some).zip (ds.map Sl.sh)
def spF (κ : Ctx) (f : Fn) : Sp := fun vs H Q E => ∃ F ds, vs.length = ds.length ∧ ER κ [] H (zV vs ds ++ F) ∧
  wp (f ds) [] (fun s _ => ∀ v H', Xt κ H H' → (∀ a d, v = .ref a → s = .ow d → H a = none) → (∀ i, s ≠ .al i) → ER κ [] H' ((some v, s) :: F) → Q v H')
    (fun x _ => ∀ c d H', Xt κ H H' → ExR κ [] (OA F) H' x c d → E c d H')
/-- what stood stays, but for the store -/
structure XtO (ν : List Addr) (H H' : Hp) : Prop where
  kp : ∀ a o, a ∉ ν → H a = some o → noTbl o → H' a = some o
  tb : ∀ a ps, a ∉ ν → H a = some (.tbl ps) → ∃ ps', H' a = some (.tbl ps')
/-- a def that reads and changes the store -/
def spG (κ : Ctx) (f : Fn) : Sp := fun vs H Q E => ∃ F ν st ds, vs.length = ds.length ∧ ν.length = st.length ∧ ER κ ν H (zV vs ds ++ (zS ν st ++ F)) ∧
  wp (f ds) st (fun s st' => ∀ ν' v H', ν <+: ν' → ν'.length = st'.length → XtO ν H H' → (∀ a, a ∈ ν' → a ∉ ν → H a = none) → (∀ a d, v = .ref a → s = .ow d → H a = none) → (∀ i, s ≠ .al i) → ER κ ν' H' ((some v, s) :: (zS ν' st' ++ F)) → Q v H')
    (fun x st' => ∀ ν' c d H', ν <+: ν' → ν'.length = st'.length → XtO ν H H' → (∀ a, a ∈ ν' → a ∉ ν → H a = none) → ER κ ν' H' (zS ν' st' ++ F) → ExR κ ν' (OA (zS ν' st' ++ F)) H' x c d → E c d H')
section
variable {κ : Ctx} {ν ν' : List Addr} {η : Hn} {W : WX} {B : Hp} {F Z : List VS} {τ : List V} {ts : List Sl} {σ : L2.St} {sl : List Sl} {H H' : Hp} {v x : V} {s : Sl} {d : D} {ta tb te : TE} {ma mb m : EM} {tr : TA} {as : List EM}
theorem oa_zV {vs : List V} {ds : List D} {a : Addr} : OA (zV vs ds ++ Z) a → OA Z a := by
  rintro ⟨d, m⟩
  rcases List.mem_append.mp m with m | m
  · exfalso
    have := List.of_mem_zip m
    simp at this
  · exact ⟨d, m⟩
theorem ER.pushs : ∀ {vs : List V} {ds : List D}, ER κ ν H Z → RDs κ ν (OA Z) H ds vs → ER κ ν H (zV vs ds ++ Z)
  | vs, [], h, r => by simpa [zV] using h
  | vs, d :: ds, h, r => by
    simp only [RDs] at r
    obtain ⟨v, r', rfl, a, b⟩ := r
    have := ER.pushs h b
    simpa [zV] using this.push (a.mono fun c _ _ z => oa_zV z)
/-! displays -/
theorem sim_tup (ha : SimA κ η W tr as) : SimE κ η W (tTup tr) (tupE as) := by
  intro F0 st ν B F τ ts σ sl H Q so es w
  simp only [tupE_ap, wp_bnd] at w
  refine ha so es (wp_mono w (fun e st we ν F vs H1 hl so es1 => ?_) fun _ _ z => z)
  obtain ⟨ets, esl⟩ := e
  simp only [argM_ap] at we
  cases q : takeV esl as.length ets [] with
  | none => rw [q] at we; exact we.elim
  | some p =>
    obtain ⟨ds, r⟩ := p
    rw [q] at we
    simp only [argK_some, tupK_ap, wp_iteC] at we
    split at we
    · rename_i z
      rw [← hl] at q we
      obtain ⟨es2, r2⟩ := es1.args q
      simp only [okLen, decide_eq_true_eq] at z
      exact ⟨szD (by rw [← r2.len]; exact z), fun p hp => we _ _ _ _ so (es2.newV (s := .sh (.tup ds)) (.inr ⟨p, vs, ds, rfl, rfl, hp, rfl, r2⟩))⟩
    · exact we.elim
theorem sim_lst (ha : SimA κ η W tr as) : SimE κ η W (tLst tr) (lstE as) := by
  intro F0 st ν B F τ ts σ sl H Q so es w
  simp only [lstE_ap, wp_bnd] at w
  refine ha so es (wp_mono w (fun e st we ν F vs H1 hl so es1 => ?_) fun _ _ z => z)
  obtain ⟨ets, esl⟩ := e
  simp only [argM_ap] at we
  cases q : takeV esl as.length ets [] with
  | none => rw [q] at we; exact we.elim
  | some p =>
    obtain ⟨ds, r⟩ := p
    rw [q] at we
    simp only [argK_some, lstK_ap, wp_iteC] at we
    split at we
    · rename_i z
      rw [← hl] at q we
      obtain ⟨es2, r2⟩ := es1.args q
      simp only [okLen, decide_eq_true_eq] at z
      exact ⟨szD (by rw [← r2.len]; exact z), fun p hp => we _ _ _ _ so (es2.newV (s := .ow (.lst ds)) ⟨p, vs, rfl, hp, rfl, r2⟩)⟩
    · exact we.elim
/-! the value of a call -/
theorem ES.called {slf : List Sl} (h : ES κ ν η B F τ ts σ slf H) (e : Xt κ H H') (fr : ∀ a d, v = .ref a → s = .ow d → H a = none) (na : ∀ i, s ≠ .al i) (er : ER κ ν H' ((some v, s) :: zA τ ts σ slf F)) : ES κ ν η B F (v :: τ) (s :: ts) σ slf H' :=
  ⟨by simp [h.lt], h.ls, fun w i m => by
      simp only [List.zip_cons_cons, List.mem_cons, Prod.mk.injEq] at m
      rcases m with ⟨_, z⟩ | m
      · exact absurd z.symm (na i)
      · exact h.al w i m, by simpa [zA, zT] using er, h.bs.trans e, fun a d m => by
      simp only [zT, List.map_cons, List.zip_cons_cons, List.cons_append, List.mem_cons, Prod.mk.injEq, Option.some.injEq] at m
      rcases m with ⟨z1, z2⟩ | m
      · exact xt_none h.bs (fr a d z1.symm z2.symm)
      · exact h.fr a d m, h.sf, fun y q => ⟨(h.ex y q).1, by
      have z := (h.ex y q).2
      obtain ⟨c, z⟩ := z
      refine ⟨c, ?_⟩
      rcases z with z | ⟨dd, vs, e1, n, g, l, r⟩
      · exact .inl z
      · have key : ∀ b u, H b = some u → OA (zA (v :: τ) (s :: ts) σ slf F) b → OA (zA τ ts σ slf F) b := fun b u hb ⟨f, m⟩ => by
          simp only [zA, zT, List.map_cons, List.zip_cons_cons, List.cons_append, List.mem_cons, Prod.mk.injEq, Option.some.injEq] at m
          rcases m with ⟨z1, z2⟩ | m
          · have := fr b f z1.symm z2.symm
            rw [this] at hb; cases hb
          · exact ⟨f, m⟩
        exact .inr ⟨dd, vs, e1, fun z => n (key _ _ g z), e.kp _ _ g fun _ => nofun, l, (r.mono key).ext e⟩⟩⟩
/-- what is not frozen may stay so, if the value is no part of it -/
theorem ES.kept {slf : List Sl} (h : ES κ ν η B F τ ts σ sl H) (e : Xt κ H H') (fr : ∀ a d, v = .ref a → s = .ow d → H a = none) (er : ER κ ν H' ((some v, s) :: zA τ ts σ slf F)) (n : noAl s = true) : ES κ ν η B F (v :: τ) (s :: ts) σ sl H' := by
  have o : SlOk κ ν (OA ((some v, s) :: zA τ ts σ slf F)) H' (some v) s := er.ok (some v, s) List.mem_cons_self
  have he := h.ext e
  cases s with
  | sh d =>
    obtain ⟨w, q, r⟩ := o
    cases q
    simp only [noAl_sh] at n
    exact he.pushR (r.flat (fun a vs ha z => by
      obtain ⟨u, hu, nt⟩ := OA.some he.er z
      rw [ha] at hu; cases hu
      exact nt vs rfl) n)
  | ow d =>
    cases d with
    | lst ds =>
      simp only [noAl_lst] at n
      obtain ⟨a, q, vs, g, r⟩ := o
      cases q
      have hp := fr a _ rfl rfl
      refine h.adopt e hp ⟨vs, g, r.flat (fun b us hb z => ?_) n⟩
      rcases z with z | rfl
      · obtain ⟨u, hu, nt⟩ := OA.some he.er z
        rw [hb] at hu; cases hu
        exact nt us rfl
      · rw [g] at hb; cases hb
    | _ => simp [noAl] at n
  | _ => simp [noAl] at n
/-- f(..) -/
theorem so_nil {st : Sto} {F0 : List VS} (so : StOk η B F0 ν F st) (hp : η.pr = true) : ν = [] ∧ st = [] ∧ F = F0 := by
  have e := so.pr hp
  subst e
  have l := so.ln
  have e2 : st = [] := by cases st with
    | nil => rfl
    | cons => simp at l
  subst e2
  exact ⟨rfl, rfl, so.fe⟩
theorem callR_ok {f : Fn} {vs : List V} {ets esl r : List Sl} {ds : List D} {Q : VK} {st : Sto} {F0 : List VS} (hp : η.pr = true) (so : StOk η B F0 ν F st) (es1 : ES κ ν η B F (vs.reverse ++ τ) ets σ esl H) (q : takeV esl vs.length ets [] = some (ds, r))
    (we : wp (callR f ds r (frzA (ets.take vs.length) esl) esl) st (fun e st => ∀ ν F v H', StOk η B F0 ν F st → ES κ ν η B F (v :: τ) e.ts σ e.sl H' → Q v H') (XP κ η W B F0 σ)) : spF κ f vs H Q (WE W σ) := by
  obtain ⟨rfl, rfl, rfl⟩ := so_nil so hp
  obtain ⟨es2, r2⟩ := es1.args q
  have es3 : ES κ [] η B F τ r σ esl H := ES.popAll (ws := vs.reverse) es1 (by simpa using q)
  simp only [callR_ap, wp_bnd, wp_reX, wp_shut] at we
  refine ⟨zA τ r σ (frzA (ets.take vs.length) esl) F, ds, r2.len.symm, es2.er.pushs r2, wp_mono we (fun s _ ws v H' e fr na er => ?_) (fun z _ wz c d H' e ex => ?_)⟩
  · simp only [callT_ap, wp] at ws
    by_cases hn : noAl s = true
    · rw [if_pos hn] at ws
      exact ws _ _ v H' so (es3.kept e fr er hn)
    · rw [if_neg hn] at ws
      exact ws _ _ v H' so (es2.called e fr na er)
  · refine wz _ _ c d H' so (es2.ext e).drop (ex.mono fun a _ _ ⟨d, m⟩ => ⟨d, ?_⟩)
    exact List.mem_append_right _ m
theorem sim_call {f : Fn} (hp : η.pr = true) (ha : SimA κ η W tr as) : SimE κ η W (tCallS (spF κ f) (WE W) tr) (callE f as) := by
  intro F0 st ν B F τ ts σ sl H Q so es w
  simp only [callE_ap, wp_bnd] at w
  refine ha so es (wp_mono w (fun e st we ν F vs H1 hl so es1 => ?_) fun _ _ z => z)
  obtain ⟨ets, esl⟩ := e
  simp only [argM_ap] at we
  cases q : takeV esl as.length ets [] with
  | none => rw [q] at we; exact we.elim
  | some p =>
    obtain ⟨ds, r⟩ := p
    rw [q] at we
    simp only [argK_some] at we
    rw [← hl] at q we
    exact callR_ok hp so es1 q we
/-! a call of a def that knows no store, where there is one -/
theorem ES.gotV {slf : List Sl} (h : ES κ ν η B F τ ts σ slf H) (e : Xt κ H H') (fr : ∀ a d, v = .ref a → s = .ow d → H a = none) (ok : SlOk κ ν (fun b => OA (zA τ ts σ slf F) b ∨ ∃ d, v = .ref b ∧ s = .ow d) H' (some v) s) (hs : isV s = true) : ES κ ν η B F (v :: τ) (s :: ts) σ slf H' := by
  cases s with
  | sh d =>
    obtain ⟨w, q, r⟩ := ok
    cases q
    exact (h.ext e).pushR (r.mono fun a _ _ z => .inl z)
  | ow d =>
    obtain ⟨a, q, c⟩ := ok
    cases q
    exact h.adopt e (fr a d rfl rfl) (c.mono fun b _ _ z => z.imp id fun z => ⟨d, by rw [z], rfl⟩)
  | _ => simp [isV] at hs
theorem callP_ok {f : Fn} {vs : List V} {ets esl r : List Sl} {ds : List D} {Q : VK} {st : Sto} {F0 : List VS} (so : StOk η B F0 ν F st) (es1 : ES κ ν η B F (vs.reverse ++ τ) ets σ esl H) (q : takeV esl vs.length ets [] = some (ds, r))
    (we : wp (callPR f ds r (frzA (ets.take vs.length) esl) esl) st (fun e st => ∀ ν F v H', StOk η B F0 ν F st → ES κ ν η B F (v :: τ) e.ts σ e.sl H' → Q v H') (XP κ η W B F0 σ)) : spF κ f vs H Q (WE W σ) := by
  obtain ⟨es2, r2⟩ := es1.args q
  have es3 : ES κ ν η B F τ r σ esl H := ES.popAll (ws := vs.reverse) es1 (by simpa using q)
  simp only [callPR_ap, wp_iteC] at we
  split at we
  case isFalse => exact we.elim
  rename_i nl
  simp only [wp_bnd, wp_reX, wp_shut] at we
  have er0 : ER κ [] H (zV vs ds ++ (zA τ r σ (frzA (ets.take vs.length) esl) F).map hidS) := by
    refine ER.hid (es2.er.pushs r2) fun p hp ok => ?_
    have rl := r2.noL (ν' := []) nl
    have : ∀ (vs : List V) (ds : List D), noLocs ds = true → p ∈ zV vs ds → noLocS p.2 = true := by
      intro vs
      induction vs with
      | nil => intro ds _ m; simp [zV] at m
      | cons v vs ih =>
        intro ds hn m
        cases ds with
        | nil => simp [zV] at m
        | cons d ds =>
          simp only [noLocs_cons, Bool.and_eq_true] at hn
          simp only [zV, List.map_cons, List.zip_cons_cons, List.mem_cons] at m
          rcases m with rfl | m
          · simpa using hn.1
          · exact ih ds hn.2 m
    exact ok.noL (this vs ds nl hp)
  have oaE : ∀ b, OA ((zA τ r σ (frzA (ets.take vs.length) esl) F).map hidS) b ↔ OA (zA τ r σ (frzA (ets.take vs.length) esl) F) b := fun b => hid_oa
  refine ⟨_, ds, r2.len.symm, er0, wp_mono we (fun s _ ws v H' e fr na er => ?_) (fun z _ wz c d H' e ex => ?_)⟩
  · simp only [callPT_ap, wp_iteC] at ws
    split at ws
    case isFalse => exact ws.elim
    rename_i hv
    simp only [wp] at ws
    have ok : SlOk κ ν (OA ((some v, s) :: (zA τ r σ (frzA (ets.take vs.length) esl) F).map hidS)) H' (some v) s := (er.ok (some v, s) List.mem_cons_self).nu (fun _ _ z => by simp at z)
    have ok2 : SlOk κ ν (fun b => OA (zA τ r σ (frzA (ets.take vs.length) esl) F) b ∨ ∃ d, v = .ref b ∧ s = .ow d) H' (some v) s := ok.mono fun b o hb z => by
      rcases z with z | ⟨d, z1, z2⟩
      · obtain ⟨d, m⟩ := (oaE b).mpr z
        exact ⟨d, List.mem_cons_of_mem _ m⟩
      · exact ⟨d, by rw [z1, z2]; exact List.mem_cons_self⟩
    have es4 := es2.gotV e fr ok2 hv
    by_cases hn : noAl s = true
    · rw [if_pos hn] at ws
      exact ws _ _ v H' so (es3.kept e fr (by simpa [zA, zT] using es4.er) hn)
    · rw [if_neg hn] at ws
      exact ws _ _ v H' so es4
  · refine wz _ _ c d H' so (es2.ext e).drop ((ex.mono fun a _ _ ⟨d, m⟩ => ?_).nu (fun _ _ z => by simp at z))
    exact (oaE a).mpr ⟨d, List.mem_append_right _ m⟩
theorem sim_callP {f : Fn} (ha : SimA κ η W tr as) : SimE κ η W (tCallS (spF κ f) (WE W) tr) (callP f as) := by
  intro F0 st ν B F τ ts σ sl H Q so es w
  simp only [callP_ap, wp_bnd] at w
  refine ha so es (wp_mono w (fun e st we ν F vs H1 hl so es1 => ?_) fun _ _ z => z)
  obtain ⟨ets, esl⟩ := e
  simp only [argM_ap] at we
  cases q : takeV esl as.length ets [] with
  | none => rw [q] at we; exact we.elim
  | some p =>
    obtain ⟨ds, r⟩ := p
    rw [q] at we
    simp only [argK_some] at we
    rw [← hl] at q we
    exact callP_ok so es1 q we
/-! a call of a def that may change the store -/
theorem oa_zS {st : Sto} (l : ν.length = st.length) {a : Addr} : OA (zS ν st) a ↔ a ∈ ν := by
  induction ν generalizing st with
  | nil => simp [zS, OA]
  | cons b ν ih =>
    cases st with
    | nil => simp at l
    | cons d st =>
      have := ih (st := st) (by simpa using l)
      simp only [zS, OA, List.map_cons, List.zip_cons_cons, List.mem_cons, Prod.mk.injEq, Option.some.injEq, V.ref.injEq, Sl.ow.injEq] at this ⊢
      constructor
      · rintro ⟨e, ⟨rfl, _⟩ | m⟩
        · exact .inl rfl
        · exact .inr (this.mp ⟨e, m⟩)
      · rintro (rfl | m)
        · exact ⟨d, .inl ⟨rfl, rfl⟩⟩
        · obtain ⟨e, m⟩ := this.mpr m
          exact ⟨e, .inr m⟩
theorem oa_app {Z Z' : List VS} {a : Addr} : OA (Z ++ Z') a ↔ OA Z a ∨ OA Z' a := by
  constructor
  · rintro ⟨d, m⟩
    rcases List.mem_append.mp m with m | m
    · exact .inl ⟨d, m⟩
    · exact .inr ⟨d, m⟩
  · rintro (⟨d, m⟩ | ⟨d, m⟩)
    · exact ⟨d, List.mem_append_left _ m⟩
    · exact ⟨d, List.mem_append_right _ m⟩
theorem perm_zS {st : Sto} {F0 : List VS} : (zA τ ts σ sl (zS ν st ++ F0)).Perm (zS ν st ++ zA τ ts σ sl F0) := by
  have := (List.perm_append_comm (l₁ := zT τ ts ++ σ.zip sl) (l₂ := zS ν st)).append_right F0
  simpa only [zA, List.append_assoc] using this
theorem ES.movedV {slf : List Sl} {st st' : Sto} {F0 : List VS} (hp : η.pr = false) (so : StOk η B F0 ν F st) (h : ES κ ν η B F τ ts σ slf H) (p : ν <+: ν') (l' : ν'.length = st'.length) (x : XtO ν H H') (nw : ∀ a, a ∈ ν' → a ∉ ν → H a = none)
    (fr : ∀ a d, v = .ref a → s = .ow d → H a = none) (na : ∀ i, s ≠ .al i) (er : ER κ ν' H' ((some v, s) :: (zS ν' st' ++ zA τ ts σ slf F0))) :
    StOk η B F0 ν' (zS ν' st' ++ F0) st' ∧ ES κ ν' η B (zS ν' st' ++ F0) (v :: τ) (s :: ts) σ slf H' := by
  have bs : Xt κ B H' := ⟨fun a o e n => by
    have hn : a ∉ ν := fun m => by rw [so.nb a m] at e; cases e
    exact x.kp a o hn (h.bs.kp a o e n) n, fun a ps e => by
    have hn : a ∉ ν := fun m => by rw [so.nb a m] at e; cases e
    obtain ⟨q, e2⟩ := h.bs.tb a ps e
    exact x.tb a q hn e2, fun _ => er.tab⟩
  have inν : ∀ a, a ∈ ν → OA (zA τ ts σ slf F) a := fun a m => by
    rw [so.fe]
    exact oa_app.mpr (.inr (oa_app.mpr (.inr (oa_app.mpr (.inl ((oa_zS so.ln).mpr m))))))
  have inν' : ∀ a, a ∈ ν → OA (zA (v :: τ) (s :: ts) σ slf (zS ν' st' ++ F0)) a := fun a m => oa_app.mpr (.inr (oa_app.mpr (.inr (oa_app.mpr (.inl ((oa_zS l').mpr (p.subset m)))))))
  refine ⟨⟨rfl, l', fun a m => ?_, so.np.trans p, fun hp' => ?_, so.cp⟩, by simp [h.lt], h.ls, fun w i m => ?_, ?_, bs, fun a d m => ?_, h.sf, fun y q => ⟨(h.ex y q).1, ?_⟩⟩
  · by_cases m2 : a ∈ ν
    · exact so.nb a m2
    · exact xt_none h.bs (nw a m m2)
  · rw [hp] at hp'; cases hp'
  · simp only [List.zip_cons_cons, List.mem_cons, Prod.mk.injEq] at m
    rcases m with ⟨_, z⟩ | m
    · exact absurd z.symm (na i)
    · exact h.al w i m
  · have : ER κ ν' H' ((some v, s) :: zA τ ts σ slf (zS ν' st' ++ F0)) := er.perm (List.Perm.cons _ perm_zS.symm)
    simpa [zA, zT] using this
  · simp only [zT, List.map_cons, List.zip_cons_cons, List.cons_append, List.mem_cons, Prod.mk.injEq, Option.some.injEq] at m
    rcases m with ⟨z1, z2⟩ | m
    · exact xt_none h.bs (fr a d z1.symm z2.symm)
    · exact h.fr a d m
  · have key : ∀ b u, H b = some u → OA (zA (v :: τ) (s :: ts) σ slf (zS ν' st' ++ F0)) b → OA (zA τ ts σ slf F) b := fun b u hb o => by
      have o2 : OA ((some v, s) :: zA τ ts σ slf (zS ν' st' ++ F0)) b := by simpa [zA, zT] using o
      obtain ⟨f, m⟩ := o2
      rcases List.mem_cons.mp m with e | m
      · simp only [Prod.mk.injEq, Option.some.injEq] at e
        rw [fr b f e.1.symm e.2.symm] at hb; cases hb
      · have o3 : OA (zA τ ts σ slf (zS ν' st' ++ F0)) b := ⟨f, m⟩
        rcases oa_app.mp ((OA.perm perm_zS).mp o3) with o4 | o4
        · have m4 := (oa_zS l').mp o4
          by_cases m5 : b ∈ ν
          · exact inν b m5
          · rw [nw b m4 m5] at hb; cases hb
        · rw [so.fe]
          exact (OA.perm perm_zS).mpr (oa_app.mpr (.inr o4))
    obtain ⟨c, z⟩ := (h.ex y q).2
    refine ⟨c, ?_⟩
    rcases z with z | ⟨dd, vs, e1, n, g, l, r⟩
    · exact .inl z
    · have hd : dd ∉ ν := fun m => n (inν dd m)
      exact .inr ⟨dd, vs, e1, fun z => n (key _ _ g z), x.kp _ _ hd g fun _ => nofun, l, ((r.mono key).keepN fun a o na n g => x.kp _ _ (fun m => na (inν' a m)) g n).nu (pre_nu p)⟩
theorem callG_ok {f : Fn} {vs : List V} {ets esl r : List Sl} {ds : List D} {Q : VK} {st : Sto} {F0 : List VS} (hp : η.pr = false) (so : StOk η B F0 ν F st) (es1 : ES κ ν η B F (vs.reverse ++ τ) ets σ esl H) (q : takeV esl vs.length ets [] = some (ds, r))
    (we : wp (callGR f ds r (frzA (ets.take vs.length) esl) esl) st (fun e st => ∀ ν F v H', StOk η B F0 ν F st → ES κ ν η B F (v :: τ) e.ts σ e.sl H' → Q v H') (XP κ η W B F0 σ)) : spG κ f vs H Q (WE W σ) := by
  obtain ⟨es2, r2⟩ := es1.args q
  simp only [callGR_ap, wp_bnd, wp_reX] at we
  have er0 := es2.er.pushs r2
  have fe := so.fe
  rw [fe] at er0
  refine ⟨zA τ r σ (frzA (ets.take vs.length) esl) F0, ν, st, ds, r2.len.symm, so.ln, er0.perm (List.Perm.append_left _ perm_zS), wp_mono we (fun s st' ws ν' v H' p l' x nw fr na er => ?_) (fun z st' wz ν' c d H' p l' x nw er ex => ?_)⟩
  · simp only [callGT_ap, wp_iteC] at ws
    split at ws
    case isFalse => exact ws.elim
    simp only [wp] at ws
    obtain ⟨so', es'⟩ := ES.movedV hp so es2 p l' x nw fr na er
    exact ws _ _ v H' so' es'
  · obtain ⟨so', es'⟩ := ES.movedV (v := .non) (s := .sh .non) hp so es2 p l' x nw (fun _ _ z => nomatch z) (fun _ => nofun) (er.push (by simp only [RD]))
    refine wz _ _ c d H' so' es'.drop (ex.mono fun a _ _ z => ?_)
    rcases oa_app.mp z with z | z
    · exact oa_app.mpr (.inr (oa_app.mpr (.inr (oa_app.mpr (.inl z)))))
    · rcases oa_app.mp z with z | z
      · exact oa_app.mpr (.inl z)
      · exact oa_app.mpr (.inr (oa_app.mpr (.inr (oa_app.mpr (.inr z)))))
theorem sim_callG {f : Fn} (hp : η.pr = false) (ha : SimA κ η W tr as) : SimE κ η W (tCallS (spG κ f) (WE W) tr) (callG f as) := by
  intro F0 st ν B F τ ts σ sl H Q so es w
  simp only [callG_ap, wp_bnd] at w
  refine ha so es (wp_mono w (fun e st we ν F vs H1 hl so es1 => ?_) fun _ _ z => z)
  obtain ⟨ets, esl⟩ := e
  simp only [argM_ap] at we
  cases q : takeV esl as.length ets [] with
  | none => rw [q] at we; exact we.elim
  | some p =>
    obtain ⟨ds, r⟩ := p
    rw [q] at we
    simp only [argK_some] at we
    rw [← hl] at q we
    exact callG_ok hp so es1 q we
end
end Dl

namespace Dl
open PySem L2 Wp
section
variable {κ : Ctx} {ν ν' : List Addr} {η : Hn} {W : WX} {B : Hp} {F Z : List VS} {τ : List V} {ts : List Sl} {σ : L2.St} {sl : List Sl} {H H' : Hp} {v x : V} {s : Sl} {d : D} {ta tb tc te tf : TE} {ma mb mc m : EM} {tr : TA} {as : List EM}
/-! ### fields -/
theorem lk_fld {Y : Addr → Prop} : ∀ {ns : List Nat} {ds : List D} {vs : List V} {f : Nat} {e : D}, RDs κ ν Y H ds vs → ns.length = vs.length → fldD ns ds f = some e → ∃ u, ((ns.map nm).zip vs).lookup (nm f) = some u ∧ RD κ ν Y H e u
  | [], ds, vs, f, e, r, l, h => by cases ds <;> simp [fldD] at h
  | n :: ns, [], vs, f, e, r, l, h => by simp [fldD] at h
  | n :: ns, d :: ds, vs, f, e, r, l, h => by
    simp only [RDs] at r
    obtain ⟨v, r', rfl, a, b⟩ := r
    simp only [fldD_cons] at h
    simp only [List.map_cons, List.zip_cons_cons, List.lookup_cons]
    by_cases q : n = f
    · rw [if_pos q] at h
      cases h
      subst q
      simp only [beq_self_eq_true]
      exact ⟨v, rfl, a⟩
    · rw [if_neg q] at h
      have : (nm f == nm n) = false := beq_eq_false_iff_ne.mpr fun z => q (nm_inj z).symm
      simp only [this]
      exact lk_fld b (by simpa using l) h
theorem o_fld {c f : Nat} (hc : L2.Cls κ.K (κ.cls c)) (hn : NoAttr κ.K (κ.cls c) (nm f)) : Op1 κ (fun x H Q => ∃ a C dx fs v, x = .ref a ∧ H a = some (.ins C dx fs) ∧ L2.Cls κ.K C ∧ NoAttr κ.K C (nm f) ∧ fs.lookup (nm f) = some v ∧ Q v H) (fFld c f) := by
  intro ν Y H x d s Q hd hf hq
  cases d <;> simp only [fFld, reduceCtorEq] at hf
  split at hf
  · rename_i z
    subst z
    simp only [Option.map_eq_some_iff] at hf
    obtain ⟨e, h1, rfl⟩ := hf
    obtain ⟨a, dx, vs, rfl, ha, l, r⟩ := hd.ins
    obtain ⟨u, hu, ru⟩ := lk_fld r l h1
    exact ⟨a, _, dx, _, u, rfl, ha, hc, hn, hu, hq.old ru⟩
  · cases hf
theorem sim_fld {c f : Nat} {K : PySem.W.Frag} {g : Str} (eK : κ.K = K) (eg : nm f = g) (hc : L2.Cls K (κ.cls c)) (hn : NoAttr K (κ.cls c) g) (ha : SimE κ η W ta ma) : SimE κ η W (tFld K ta g) (un1 (fFld c f) ma) := by
  subst eK eg
  exact sim_op1 (o_fld hc hn) ha
/-- names read for good -/
theorem sim_var {i : Nat} : SimE κ η W (tVar i) (var i) := by
  intro F0 st ν B F τ ts σ sl H Q so es w
  simp only [var_ap] at w
  cases q : sl[i]? with
  | none => rw [q] at w; exact w.elim
  | some s =>
    rw [q] at w
    obtain ⟨u, hu, mu⟩ := sl_get es q
    cases s with
    | sh d =>
      obtain ⟨v, e, r⟩ := es.er.ok _ (List.mem_append_right _ (List.mem_append_left _ mu))
      simp only at e
      subst e
      exact ⟨v, hu, w _ _ _ _ so (es.pushR r)⟩
    | ow d =>
      have es2 := es.frzAt q
      have q2 : (sl.set i (.sh d))[i]? = some (.sh d) := List.getElem?_set_self (List.getElem?_eq_some_iff.mp q).1
      obtain ⟨u2, hu2, mu2⟩ := sl_get es2 q2
      obtain ⟨v, e, r⟩ := es2.er.ok _ (List.mem_append_right _ (List.mem_append_left _ mu2))
      simp only at e
      subst e
      exact ⟨v, hu2, w _ _ _ _ so (es2.pushR r)⟩
    | _ => exact w.elim
theorem sim_mov {i : Nat} : SimE κ η W (tVar i) (mov i) := by
  intro F0 st ν B F τ ts σ sl H Q so es w
  simp only [mov_ap] at w
  cases q : sl[i]? with
  | none => rw [q] at w; exact w.elim
  | some s =>
    rw [q] at w
    obtain ⟨u, hu, mu⟩ := sl_get es q
    cases s with
    | sh d =>
      obtain ⟨v, e, r⟩ := es.er.ok _ (List.mem_append_right _ (List.mem_append_left _ mu))
      simp only at e
      subst e
      exact ⟨v, hu, w _ _ _ _ so (es.pushR r)⟩
    | ow d =>
      obtain ⟨a, e, r⟩ := es.er.ok _ (List.mem_append_right _ (List.mem_append_left _ mu))
      simp only at e
      subst e
      refine ⟨_, hu, w _ _ _ _ so ?_⟩
      obtain ⟨R, p, k⟩ := es.at hu q
      have er := es.er.perm p
      have kk := k (some (.ref a)) .unk
      rw [set_self hu] at kk
      have er2 : ER κ ν H ((some (V.ref a), Sl.ow d) :: zA τ ts σ (sl.set i .unk) F) := by
        have z : ER κ ν H ((some (V.ref a), Sl.unk) :: (some (V.ref a), Sl.ow d) :: R) := er.pushU _ (.inl rfl)
        exact z.perm ((List.Perm.swap _ _ _).trans (List.Perm.cons _ kk.symm))
      refine ⟨by simp [es.lt], by simp [es.ls], fun w' j m => ?_, by simpa [zA, zT] using er2, es.bs, fun b e m => ?_, es.sf, fun y hy => ?_⟩
      · simp only [List.zip_cons_cons, List.mem_cons, Prod.mk.injEq, reduceCtorEq, and_false, false_or] at m
        exact es.al w' j m
      · simp only [zT, List.map_cons, List.zip_cons_cons, List.cons_append, List.mem_cons, Prod.mk.injEq, Option.some.injEq, V.ref.injEq, Sl.ow.injEq] at m
        rcases m with ⟨y1, y2⟩ | m
        · rw [y1]; exact es.fr a d (List.mem_append_right _ mu)
        · rcases List.mem_append.mp m with m | m
          · exact es.fr b e (List.mem_append_left _ m)
          · have m2 : (some (V.ref b), Sl.ow e) ∈ (σ.set i (some (.ref a))).zip (sl.set i .unk) := by rw [set_self hu]; exact m
            rcases mem_zip_set m2 with ⟨_, z⟩ | m3
            · cases z
            · exact es.fr b e (List.mem_append_right _ m3)
      · have hi : i ≠ η.i := fun z => by
          rw [← z, List.getElem?_set_self (List.getElem?_eq_some_iff.mp q).1] at hy; cases hy
        rw [List.getElem?_set_ne hi] at hy
        refine ⟨(es.ex y hy).1, exr_sub (es.ex y hy).2 ?_⟩
        rintro b ⟨f, m⟩
        simp only [zA, zT, List.map_cons, List.zip_cons_cons, List.cons_append, List.mem_cons, Prod.mk.injEq, Option.some.injEq, V.ref.injEq, Sl.ow.injEq] at m
        rcases m with ⟨y1, y2⟩ | m
        · rw [y1]; exact ⟨d, List.mem_append_right _ (List.mem_append_left _ mu)⟩
        · have m2 : OA (zA τ ts (σ.set i (some (.ref a))) (sl.set i .unk) F) b := ⟨f, by rw [set_self hu]; exact m⟩
          exact oa_slot (fun _ z => by cases z) b m2
    | _ => exact w.elim
/-- a field of the handled error -/
theorem sim_exF {i f : Nat} {g : Str} {c : Nat} {C : Addr} (eg : nm f = g) (hi : η.i = i) (hC : κ.cls c = C) (hcc : ∀ x, η.c = .ref (κ.cls x) → κ.cls x = C) : SimE κ η W (tXf η.a η.c η.d C g (tVar i)) (exF i f) := by
  intro F0 st ν B F τ ts σ sl H Q so es w
  subst hi eg
  simp only [exF_ap] at w
  cases q : sl[η.i]? with
  | none => rw [q] at w; exact w.elim
  | some s =>
    rw [q] at w
    cases s with
    | exc x =>
      simp only [exK_exc] at w
      obtain ⟨h1, h2, h3⟩ := es.ex x q
      cases q2 : fldD x.ns x.vs f with
      | none => rw [q2] at w; exact w.elim
      | some e =>
        rw [q2] at w
        rcases h3 with h3 | ⟨dd, vs, e1, n, g, l, r⟩
        · rw [h3.1] at q2; cases x.vs <;> simp [fldD] at q2
        · obtain ⟨u, hu, ru⟩ := lk_fld r l q2
          exact ⟨_, h1, rfl, by rw [h2, hcc _ h2], dd, _, u, e1, g, hu, w _ _ _ _ so (es.pushR ru)⟩
    | _ => exact w.elim
/-! ### built-ins called by their names -/
theorem sim_cb1 {r : List V → Hp → VK → Prop} {f : D → Option Sl} (h : OpC1 κ r f) (ha : SimE κ η W ta ma) : SimE κ η W (tCB r (tCons ta tNil)) (un1 f ma) := by
  exact (sim_op1 (r := fun x H Q => r [x] H Q) (f := f) (fun {ν Y H x c s Q} a b c => h a b c) ha : SimE κ η W (tUn (fun x H Q => r [x] H Q) ta) (un1 f ma))
theorem sim_cb2 {r : List V → Hp → VK → Prop} {f : D → D → Option Sl} (h : OpC2 κ r f) (ha : SimE κ η W ta ma) (hb : SimE κ η W tb mb) : SimE κ η W (tCB r (tCons ta (tCons tb tNil))) (bin f ma mb) := by
  exact (sim_op2 (r := fun x y H Q => r [x, y] H Q) (f := f) (fun {ν Y H x y c d s Q} a b c e => h a b c e) ha hb : SimE κ η W (tOp (fun x y H Q => r [x, y] H Q) ta tb) (bin f ma mb))
/-- a call whose last arguments are constants: isinstance(x, C) -/
theorem sim_cbK {r : List V → Hp → VK → Prop} {f : D → Option Sl} {k : V} (h : OpC1 κ (fun xs H Q => r (xs ++ [k]) H Q) f) (ha : SimE κ η W ta ma) : SimE κ η W (tCB r (tCons ta (tCons (tC k) tNil))) (un1 f ma) := by
  exact (sim_op1 (r := fun x H Q => r [x, k] H Q) (f := f) (fun {ν Y H x c s Q} a b c => h a b c) ha : SimE κ η W (tUn (fun x H Q => r [x, k] H Q) ta) (un1 f ma))
end
section
variable {κ : Ctx} {ν ν' : List Addr}
def rLenKR : List V → Hp → VK → Prop := fun xs H Q => ∃ (a : Addr) (kvs : List (Key × V)), xs = [V.ref a] ∧ Rd H a (.dK kvs) ∧ Q (.int kvs.length) H
theorem call_lenKR {X : Cx} : CallR X (.builtin "len") rLenKR := by
  intro pins s σ H xs us Q I r h
  obtain ⟨a, kvs, rfl, g, q⟩ := h
  obtain ⟨u, rfl, e⟩ := vals1 r
  cases e
  exact d_len I g fun t s' I' => ⟨.int kvs.length, H, I', ⟨t, rfl⟩, q⟩
def rLenTR : List V → Hp → VK → Prop := fun xs H Q => ∃ (a : Addr) (kvs : List (List Key × V)), xs = [V.ref a] ∧ Rd H a (.dT kvs) ∧ Q (.int kvs.length) H
theorem call_lenTR {X : Cx} : CallR X (.builtin "len") rLenTR := by
  intro pins s σ H xs us Q I r h
  obtain ⟨a, kvs, rfl, g, q⟩ := h
  obtain ⟨u, rfl, e⟩ := vals1 r
  cases e
  obtain ⟨z, hd, ys, rel, dd⟩ := dt_rd I.hok g
  have l : kvs.length = ys.length := Paired.length rel
  rw [sizeLine_eq] at z
  refine call_len_dictH hd dd (by omega) ?_
  rw [← l]
  exact ⟨.int kvs.length, H, I.tok _, ⟨_, rfl⟩, q⟩
def rLenU (K : PySem.W.Frag) : List V → Hp → VK → Prop := fun xs H Q => rLenQ K xs H Q ∨ rLenZ xs H Q ∨ rLenKR xs H Q ∨ rLenTR xs H Q
theorem call_lenU {X : Cx} {K : PySem.W.Frag} (e : X.K = K) : CallR X (.builtin "len") (rLenU K) := by subst e; exact w_len.or (w_lenZ.or (call_lenKR.or call_lenTR))
theorem o_len : OpC1 κ (rLenU κ.K) fLen := by
  intro ν Y H x c s Q hc hf hq
  cases c with
  | lst ds =>
    cases hf
    obtain ⟨a, vs, rfl, g, r⟩ := hc.lst
    refine .inl ⟨a, vs, rfl, .inl (SqL.of g), ?_⟩
    rw [← r.len]; exact hq.int
  | tup ds =>
    cases hf
    obtain ⟨a, vs, rfl, g, r, _⟩ := hc.tup
    refine .inl ⟨a, vs, rfl, .inr (SqT.of g), ?_⟩
    rw [← r.len]; exact hq.int
  | str z =>
    simp only [fLen] at hf
    split at hf
    · rename_i l
      cases hf
      exact .inr (.inl ⟨z, by rw [hc.str], szD l, hq.int⟩)
    · cases hf
  | dct q ks ws =>
    match q with
    | 0 =>
      cases hf
      obtain ⟨a, o, vs, rfl, g, ⟨qs, e1, e2, rfl⟩, r⟩ := hc.dct
      refine .inr (.inr (.inl ⟨a, _, rfl, g, ?_⟩))
      have : ks.length = (qs.zip vs).length := by
        have := congrArg List.length e1
        simp at this
        simp [this, e2]
      rw [← this]; exact hq.int
    | 1 =>
      cases hf
      obtain ⟨a, o, vs, rfl, g, ⟨qs, e1, e2, rfl⟩, r⟩ := hc.dct
      refine .inr (.inr (.inr ⟨a, _, rfl, g, ?_⟩))
      have : ks.length = (qs.zip vs).length := by
        have := congrArg List.length e1
        simp at this
        simp [this, e2]
      rw [← this]; exact hq.int
    | n + 2 => cases hf
  | _ => simp [fLen] at hf
theorem o_list : OpC1 κ (rListOf κ.K) fList := by
  intro ν Y H x c s Q hc hf hq
  cases c with
  | lst ds =>
    cases hf
    obtain ⟨a, vs, rfl, g, r⟩ := hc.lst
    exact ⟨a, vs, rfl, .inl (SqL.of g), fun l hl => hq.lst r hl⟩
  | tup ds =>
    cases hf
    obtain ⟨a, vs, rfl, g, r, _⟩ := hc.tup
    exact ⟨a, vs, rfl, .inr (SqT.of g), fun l hl => hq.lst r hl⟩
  | _ => cases hf
theorem o_tuple : OpC1 κ (rTupOf κ.K) fTuple := by
  intro ν Y H x c s Q hc hf hq
  cases c with
  | lst ds =>
    cases hf
    obtain ⟨a, vs, rfl, g, r⟩ := hc.lst
    exact ⟨a, vs, rfl, .inl ⟨SqL.of g, fun l hl => hq.tup r hl⟩⟩
  | tup ds =>
    cases hf
    obtain ⟨a, vs, rfl, g, r, n⟩ := hc.tup
    exact ⟨a, vs, rfl, .inr ⟨SqT.of g, hq.old (by simp only [RD]; exact ⟨a, vs, rfl, n, g, r⟩)⟩⟩
  | _ => simp [fTuple] at hf
def rSumU (K : PySem.W.Frag) : List V → Hp → VK → Prop := fun xs H Q => rSum K xs H Q ∨ rSumT K xs H Q
theorem call_sumU {X : Cx} {K : PySem.W.Frag} (e : X.K = K) (hc : X.calm = true) : CallR X (.builtin "sum") (rSumU K) := by subst e; exact (cr_sum hc).or (cr_sumT hc)
theorem o_sum : OpC1 κ (rSumU κ.K) fSum := by
  intro ν Y H x c s Q hc hf hq
  cases c with
  | lst ds =>
    simp only [fSum, Option.bind_eq_some_iff] at hf
    obtain ⟨ns, e, z⟩ := hf
    cases z
    obtain ⟨a, vs, rfl, g, r⟩ := hc.lst
    rw [asInts_of e] at r
    rw [r.ints] at g
    exact .inl ⟨a, ns, rfl, SqL.of g, hq.int⟩
  | tup ds =>
    simp only [fSum, Option.bind_eq_some_iff] at hf
    obtain ⟨ns, e, z⟩ := hf
    cases z
    obtain ⟨a, vs, rfl, g, r, _⟩ := hc.tup
    rw [asInts_of e] at r
    rw [r.ints] at g
    exact .inr ⟨a, ns, rfl, SqT.of g, hq.int⟩
  | _ => simp [fSum] at hf
theorem o_all : OpC1 κ (rAll κ.K) fAll := by
  intro ν Y H x c s Q hc hf hq
  cases c with
  | lst ds =>
    simp only [fAll, Option.bind_eq_some_iff] at hf
    obtain ⟨ns, e, z⟩ := hf
    cases z
    obtain ⟨a, vs, rfl, g, r⟩ := hc.lst
    rw [asBools_of e] at r
    rw [r.bools] at g
    exact ⟨a, ns, rfl, SqL.of g, hq.bl⟩
  | _ => simp [fAll] at hf
theorem o_any : OpC1 κ (rAny κ.K) fAny := by
  intro ν Y H x c s Q hc hf hq
  cases c with
  | lst ds =>
    simp only [fAny, Option.bind_eq_some_iff] at hf
    obtain ⟨ns, e, z⟩ := hf
    cases z
    obtain ⟨a, vs, rfl, g, r⟩ := hc.lst
    rw [asBools_of e] at r
    rw [r.bools] at g
    exact ⟨a, ns, rfl, SqL.of g, hq.bl⟩
  | _ => simp [fAny] at hf
theorem maxI_le : ∀ {ns : List Int}, ∀ y ∈ ns, y ≤ maxI ns
  | [a], y, h => by simp at h; subst h; simp [maxI]
  | a :: b :: r, y, h => by
    have ih := maxI_le (ns := b :: r)
    simp only [maxI]
    rcases List.mem_cons.mp h with rfl | h
    · split <;> omega
    · have := ih y h
      split <;> omega
theorem maxI_mem : ∀ {ns : List Int}, ns ≠ [] → maxI ns ∈ ns
  | [a], _ => by simp [maxI]
  | a :: b :: r, _ => by
    have ih := maxI_mem (ns := b :: r) (by simp)
    simp only [maxI]
    split
    · exact List.mem_cons_of_mem _ ih
    · exact List.mem_cons_self
theorem minI_le : ∀ {ns : List Int}, ∀ y ∈ ns, minI ns ≤ y
  | [a], y, h => by simp at h; subst h; simp [minI]
  | a :: b :: r, y, h => by
    have ih := minI_le (ns := b :: r)
    simp only [minI]
    rcases List.mem_cons.mp h with rfl | h
    · split <;> omega
    · have := ih y h
      split <;> omega
theorem minI_mem : ∀ {ns : List Int}, ns ≠ [] → minI ns ∈ ns
  | [a], _ => by simp [minI]
  | a :: b :: r, _ => by
    have ih := minI_mem (ns := b :: r) (by simp)
    simp only [minI]
    split
    · exact List.mem_cons_of_mem _ ih
    · exact List.mem_cons_self
theorem o_max : OpC1 κ (rMax κ.K) fMax := by
  intro ν Y H x c s Q hc hf hq
  cases c with
  | lst ds =>
    simp only [fMax, Option.bind_eq_some_iff] at hf
    obtain ⟨ns, e, z⟩ := hf
    split at z
    · cases z
    · rename_i ne
      cases z
      obtain ⟨a, vs, rfl, g, r⟩ := hc.lst
      rw [asInts_of e] at r
      rw [r.ints] at g
      refine ⟨a, ns, rfl, SqL.of g, List.length_pos_iff.mpr ne, fun m hm hle => ?_⟩
      have : m = maxI ns := Int.le_antisymm (maxI_le m hm) (hle _ (maxI_mem ne))
      subst this
      exact hq.int
  | _ => simp [fMax] at hf
theorem o_min : OpC1 κ (rMin κ.K) fMin := by
  intro ν Y H x c s Q hc hf hq
  cases c with
  | lst ds =>
    simp only [fMin, Option.bind_eq_some_iff] at hf
    obtain ⟨ns, e, z⟩ := hf
    split at z
    · cases z
    · rename_i ne
      cases z
      obtain ⟨a, vs, rfl, g, r⟩ := hc.lst
      rw [asInts_of e] at r
      rw [r.ints] at g
      refine ⟨a, ns, rfl, SqL.of g, List.length_pos_iff.mpr ne, fun m hm hle => ?_⟩
      have : m = minI ns := Int.le_antisymm (hle _ (minI_mem ne)) (minI_le m hm)
      subst this
      exact hq.int
  | _ => simp [fMin] at hf
theorem o_max2 : OpC2 κ rMax2 fMax2 := by
  intro ν Y H x y c d s Q hc hd hf hq
  cases c <;> cases d <;> simp only [fMax2, reduceCtorEq] at hf
  cases hf
  exact ⟨_, _, by rw [hc.int, hd.int], hq.int⟩
theorem o_min2 : OpC2 κ rMin2 fMin2 := by
  intro ν Y H x y c d s Q hc hd hf hq
  cases c <;> cases d <;> simp only [fMin2, reduceCtorEq] at hf
  cases hf
  exact ⟨_, _, by rw [hc.int, hd.int], hq.int⟩
theorem o_abs : OpC1 κ rAbs fAbs := by
  intro ν Y H x c s Q hc hf hq
  cases c <;> simp only [fAbs, reduceCtorEq] at hf
  cases hf
  exact ⟨_, by rw [hc.int], hq.int⟩
theorem o_intC1 : OpC1 κ rInt1 fInt := by
  intro ν Y H x c s Q hc hf hq
  cases c <;> simp only [fInt, reduceCtorEq] at hf
  · cases hf; exact .inr ⟨_, by rw [hc.bl], hq.int⟩
  · cases hf; exact .inl ⟨_, by rw [hc.int], hq.int⟩
/-! subscripts -/
theorem ixD_ixN (n : Nat) (i : Int) : ixD n i = ixN n i := rfl
theorem o_ixS : Op2 κ (rIx κ.K) (fun c d => match c with | .dct _ _ _ => none | c => fIx c d) := by
  intro ν Y H x y c d s Q hc hd hf hq
  cases c with
  | lst ds =>
    cases d <;> simp only [fIx, reduceCtorEq] at hf
    rename_i i
    simp only [Option.map_eq_some_iff] at hf
    obtain ⟨e, h1, rfl⟩ := hf
    obtain ⟨a, vs, rfl, g, r⟩ := hc.lst
    simp only [atD, Option.bind_eq_some_iff] at h1
    obtain ⟨j, h2, h3⟩ := h1
    obtain ⟨v, h4, h5⟩ := r.at h3
    refine .inl ⟨a, vs, i, v, rfl, hd.int, SqL.of g, ?_, hq.old h5⟩
    simp only [atI, ← r.len, ← ixD_ixN, h2, Option.bind_some]; exact h4
  | tup ds =>
    cases d <;> simp only [fIx, reduceCtorEq] at hf
    rename_i i
    simp only [Option.map_eq_some_iff] at hf
    obtain ⟨e, h1, rfl⟩ := hf
    obtain ⟨a, vs, rfl, g, r, _⟩ := hc.tup
    simp only [atD, Option.bind_eq_some_iff] at h1
    obtain ⟨j, h2, h3⟩ := h1
    obtain ⟨v, h4, h5⟩ := r.at h3
    refine .inr (.inl ⟨a, vs, i, v, rfl, hd.int, SqT.of g, ?_, hq.old h5⟩)
    simp only [atI, ← r.len, ← ixD_ixN, h2, Option.bind_some]; exact h4
  | str z =>
    cases d <;> simp only [fIx, reduceCtorEq] at hf
    rename_i i
    split at hf
    · rename_i l
      simp only [Option.map_eq_some_iff] at hf
      obtain ⟨e, h1, rfl⟩ := hf
      exact .inr (.inr ⟨z, i, e, hc.str, hd.int, szD l, h1, hq.str⟩)
    · cases hf
  | dct _ _ _ => cases hf
  | _ => simp [fIx] at hf
/-! slices -/
def rSlU (K : PySem.W.Frag) : V → Option Int → Option Int → Hp → VK → Prop := fun x lo hi H Q => rSlL K x lo hi H Q ∨ rSlA K x lo hi H Q
theorem sl_U {X : Cx} {K : PySem.W.Frag} (e : X.K = K) : SlR X (rSlU K) := by subst e; exact sl_list.or sl_tupA
theorem sIxD_eq (n d : Nat) (lo : Option Int) : sIxD n d lo = HT.sIx n d lo := rfl
end
end Dl

namespace Dl
open PySem L2 Wp
def RetP (κ : Ctx) (η : Hn) (B : Hp) (F0 : List VS) (st : Sto) (s : Sl) (v : V) (H : Hp) : Prop := ∃ ν F, StOk η B F0 ν F st ∧ ER κ ν H ((some v, s) :: F) ∧ Xt κ B H ∧ (∀ a d, v = .ref a → s = .ow d → B a = none) ∧ ∀ i, s ≠ .al i
def RetO (κ : Ctx) (η : Hn) (B : Hp) (F0 : List VS) (st : Sto) (s1 s2 : Sl) (v : V) (H : Hp) : Prop := ∃ ν F a x y, v = .ref a ∧ H a = some (.tup [x, y]) ∧ StOk η B F0 ν F st ∧ ER κ ν H ((some x, s1) :: (some y, s2) :: F) ∧ Xt κ B H ∧
  (∀ b d, x = .ref b → s1 = .ow d → B b = none) ∧ (∀ b d, y = .ref b → s2 = .ow d → B b = none)
def FlowP (κ : Ctx) (η : Hn) (B : Hp) (F0 : List VS) (D : Ends) : Flow → Sto → Prop
  | .nx sl, st => ∀ ν F σ H, StOk η B F0 ν F st → ES κ ν η B F [] [] σ sl H → D.nx σ H
  | .bk sl, st => ∀ ν F σ H, StOk η B F0 ν F st → ES κ ν η B F [] [] σ sl H → D.bk σ H
  | .ct sl, st => ∀ ν F σ H, StOk η B F0 ν F st → ES κ ν η B F [] [] σ sl H → D.ct σ H
  | .rt s _, st => ∀ v H, RetP κ η B F0 st s v H → D.rt v H
  | .ro s1 s2, st => ∀ v H, RetO κ η B F0 st s1 s2 v H → D.rt v H
def XQ (κ : Ctx) (η : Hn) (W : WX) (B : Hp) (F0 : List VS) (x : XS) (st : Sto) : Prop := ∀ ν F σ c d H', StOk η B F0 ν F st → ES κ ν η B F [] [] σ x.2 H' → ExR κ ν (OA (σ.zip x.2 ++ F)) H' x.1 c d → W c d σ H'
def SimS (κ : Ctx) (η : Hn) (W : WX) (t : TS) (m : SM) : Prop := ∀ {F0 : List VS} {st : Sto} {ν : List Addr} {B : Hp} {F : List VS} {σ : L2.St} {sl : List Sl} {H : Hp} {D : Ends}, StOk η B F0 ν F st → ES κ ν η B F [] [] σ sl H → wp (m sl) st (FlowP κ η B F0 D) (XQ κ η W B F0) → t D σ H
section
variable {κ : Ctx} {ν ν' : List Addr} {η : Hn} {W : WX} {B : Hp} {F Z : List VS} {τ : List V} {ts : List Sl} {σ : L2.St} {sl : List Sl} {H H' : Hp} {v x : V} {s : Sl} {d : D} {ta tb tc te tf : TE} {ma mb mc m : EM} {tr : TA} {as : List EM} {t u : TS} {a b : SM}
theorem XQ.xp {x : XS} {st : Sto} (h : XQ κ η W B F x st) : XP κ η W B F σ x st := fun ν F c d H' => h ν F σ c d H'
theorem sim_nop : SimS κ η W tNext nop := fun {F0 st ν B F σ sl H D} so es w => w _ _ σ H so es
theorem sim_seq (ha : SimS κ η W t a) (hb : SimS κ η W u b) : SimS κ η W (tSeq t u) (seqS a b) := by
  intro F0 st ν B F σ sl H D so es w
  simp only [seqS_ap, wp_bnd] at w
  refine ha (D := { D with nx := u D }) so es (wp_mono w (fun r st wr => ?_) fun _ _ z => z)
  cases r with
  | nx sl' => exact fun ν F σ' H' so es' => hb so es' wr
  | rt s o => exact wr
  | bk sl' => exact wr
  | ct sl' => exact wr
  | ro s1 s2 => exact wr
/-- a value is stored -/
theorem ES.store {i : Nat} (h : ES κ ν η B F [v] [s] σ sl H) (ho : η.ok i) (na : ∀ j, s ≠ .al j) (nx : ∀ x, s ≠ .exc x) : ES κ ν η B F [] [] (σ.set i (some v)) (sl.set i s) H := by
  have h0 := h.pop
  by_cases hi : i < sl.length
  · have e2 : sl[i]? = some sl[i] := List.getElem?_eq_getElem hi
    obtain ⟨w, e1, _⟩ := sl_get h0 e2
    obtain ⟨R, p, k⟩ := h0.at e1 e2
    have er : ER κ ν H ((some v, s) :: (w, sl[i]) :: R) := by
      have : ER κ ν H ((some v, s) :: zA [] [] σ sl F) := by simpa [zA, zT] using h.er
      exact this.perm (List.Perm.cons _ p)
    have er2 : ER κ ν H ((some v, s) :: R) := (er.perm (List.Perm.swap _ _ _)).tail
    refine ⟨rfl, by simp [h.ls], fun w' j m => by simp at m, er2.perm (k (some v) s).symm, h.bs, fun a d m => ?_, fun u hu => ?_, fun y hy => ?_⟩
    · simp only [zT, List.map_nil, List.zip_nil_left, List.nil_append] at m
      rcases mem_zip_set m with ⟨y1, y2⟩ | m
      · exact h.fr a d (by simp [zT, y1, y2])
      · exact h.fr a d (List.mem_append_right _ m)
    · rcases ho with n | n
      · rw [n] at hu; cases hu
      · rw [List.getElem?_set_ne n]; exact h.sf u hu
    · by_cases hj : i = η.i
      · rw [← hj, List.getElem?_set_self hi] at hy
        exact absurd (Option.some.inj hy) (nx y)
      · rw [List.getElem?_set_ne hj] at hy ⊢
        refine ⟨(h.ex y hy).1, exr_sub (h.ex y hy).2 ?_⟩
        rintro a ⟨d, m⟩
        simp only [zA, zT, List.map_nil, List.zip_nil_left, List.nil_append] at m
        rcases List.mem_append.mp m with m | m
        · rcases mem_zip_set m with ⟨y1, y2⟩ | m
          · exact ⟨d, by simp [zA, zT, y1, y2]⟩
          · exact ⟨d, by simp [zA, zT, m]⟩
        · exact ⟨d, by simp [zA, zT, m]⟩
  · rw [List.set_eq_of_length_le (by rw [h.ls]; omega), List.set_eq_of_length_le (by omega)]
    exact h0
/-- a name of which nothing is said any more -/
theorem ES.unkI {i : Nat} {w : Option V} (h : ES κ ν η B F [] [] σ sl H) (ho : η.ok i ∨ σ[i]? = some w) : ES κ ν η B F [] [] (σ.set i w) (sl.set i .unk) H := by
  by_cases hi : i < sl.length
  · have e2 : sl[i]? = some sl[i] := List.getElem?_eq_getElem hi
    obtain ⟨w0, e1, _⟩ := sl_get h e2
    exact h.slot e1 e2 (.inr fun _ => nofun) (ho.imp id fun z => by rw [e1] at z; exact (Option.some.inj z).symm) (fun v j m => by simp at m) h.bs (fun _ _ _ z => nomatch z) (fun x q => exr_sub (h.ex x q).2 (oa_slot fun _ => nofun)) fun R _ r => (r.tail).pushU _ (.inl rfl)
  · rw [List.set_eq_of_length_le (by rw [h.ls]; omega), List.set_eq_of_length_le (by omega)]
    exact h
theorem ES.unkS {i : Nat} (h : ES κ ν η B F [] [] σ sl H) : ES κ ν η B F [] [] σ (sl.set i .unk) H := by
  by_cases hi : i < sl.length
  · have e2 : sl[i]? = some sl[i] := List.getElem?_eq_getElem hi
    obtain ⟨w0, e1, _⟩ := sl_get h e2
    have := h.unkI (i := i) (w := w0) (.inr e1)
    rwa [set_self e1] at this
  · rw [List.set_eq_of_length_le (by omega)]
    exact h
theorem ES.unkL (h : ES κ ν η B F [] [] σ sl H) : ∀ (is : List Nat), ES κ ν η B F [] [] σ (unkA is sl) H := by
  intro is
  induction is generalizing sl with
  | nil => exact h
  | cons i is ih => exact ih h.unkS
theorem sim_fgt {is : List Nat} (ha : SimS κ η W t a) : SimS κ η W t (seqS a (fgt is)) := by
  intro F0 st ν B F σ sl H D so es w
  simp only [seqS_ap, wp_bnd] at w
  refine ha so es (wp_mono w (fun r st wr => ?_) fun _ _ z => z)
  cases r with
  | nx sl' => exact fun ν F σ' H' so es' => wr _ _ σ' H' so (es'.unkL is)
  | rt s o => exact wr
  | bk sl' => exact wr
  | ct sl' => exact wr
  | ro s1 s2 => exact wr
theorem sim_fgt0 {is : List Nat} (ha : SimS κ η W t a) : SimS κ η W t (seqS (fgt is) a) := by
  intro F0 st ν B F σ sl H D so es w
  exact ha so (es.unkL is) w
theorem sim_fgtN {is : List Nat} : SimS κ η W tNext (fgt is) := fun {F0 st ν B F σ sl H D} so es w => w _ _ σ H so (es.unkL is)
theorem wp_topK {α : Type} {f : Sl → List Sl → C XS α} {e : Env} {st : Sto} {k : α → Sto → Prop} {x : XS → Sto → Prop} (h : wp (topK f e) st k x) : ∃ s, e.ts = [s] ∧ wp (f s e.sl) st k x := by
  obtain ⟨ts, sl⟩ := e
  cases ts with
  | nil => exact h.elim
  | cons s r =>
    cases r with
    | nil => exact ⟨s, rfl, h⟩
    | cons _ _ => exact h.elim
theorem sim_set {i : Nat} (ho : η.ok i) (he : SimE κ η W te m) : SimS κ η W (tAsg te (gName i)) (setS i m) := by
  intro F0 st ν B F σ sl H D so es w
  simp only [setS_ap, wp_bnd] at w
  refine he so es (wp_mono w (fun e st we ν F v H1 so es1 => ?_) fun _ _ z => z.xp)
  obtain ⟨s, e1, we⟩ := wp_topK we
  obtain ⟨ets, esl⟩ := e
  simp only at e1 we es1
  subst e1
  cases s with
  | sh d => exact we _ _ _ _ so (es1.store ho (fun _ => nofun) fun _ => nofun)
  | ow d => exact we _ _ _ _ so (es1.store ho (fun _ => nofun) fun _ => nofun)
  | _ => exact we.elim
theorem sim_drop (he : SimE κ η W te m) : SimS κ η W (tDrop te) (exprS m) := by
  intro F0 st ν B F σ sl H D so es w
  simp only [exprS_ap, wp_bnd] at w
  refine he so es (wp_mono w (fun e st we ν F v H1 so es1 => ?_) fun _ _ z => z.xp)
  obtain ⟨s, e1, we⟩ := wp_topK we
  obtain ⟨ets, esl⟩ := e
  simp only at e1 we es1
  subst e1
  exact we _ _ _ _ so es1.pop
theorem ES.ret {st : Sto} {F0 : List VS} (h : ES κ ν η B F [v] [s] σ sl H) (so : StOk η B F0 ν F st) (na : ∀ i, s ≠ .al i) : RetP κ η B F0 st s v H := by
  refine ⟨ν, F, so, ?_, h.bs, fun a d y1 y2 => h.fr a d (by simp [zT, y1, y2]), na⟩
  have : ER κ ν H ((some v, s) :: (σ.zip sl ++ F)) := by simpa [zA, zT] using h.er
  exact ER.sub (Z' := σ.zip sl) (this.perm (by simpa using (List.perm_middle (l₁ := σ.zip sl)).symm))
theorem sim_ret (he : SimE κ η W te m) : SimS κ η W (tRet te) (retS m) := by
  intro F0 st ν B F σ sl H D so es w
  simp only [retS_ap, wp_bnd] at w
  refine he so es (wp_mono w (fun e st we ν F v H1 so es1 => ?_) fun _ _ z => z.xp)
  obtain ⟨s, e1, we⟩ := wp_topK we
  obtain ⟨ets, esl⟩ := e
  simp only at e1 we es1
  subst e1
  cases s with
  | sh d => exact we _ _ (es1.ret so fun _ => nofun)
  | ow d => exact we _ _ (es1.ret so fun _ => nofun)
  | _ => exact we.elim
theorem sim_retN : SimS κ η W tRetN retN := fun {F0 st ν B F σ sl H D} so es w => w .non H (ES.ret (es.pushR (d := .non) (v := .non) (by simp only [RD])) so fun _ => nofun)
theorem sim_brk : SimS κ η W tBreak brkS := fun {F0 st ν B F σ sl H D} so es w => w _ _ σ H so es
theorem sim_cnt : SimS κ η W tCont cntS := fun {F0 st ν B F σ sl H D} so es w => w _ _ σ H so es
theorem wp_onTT {e : Env} {a b : SM} {st : Sto} {k : Flow → Sto → Prop} {x : XS → Sto → Prop} (h : wp (topK (onTT a b) e) st k x) : ∃ s c, e.ts = [s] ∧ getV e.sl s = some (.bl c) ∧ if c then wp (a e.sl) st k x else wp (b e.sl) st k x := by
  obtain ⟨s, e1, h⟩ := wp_topK h
  simp only [onTT_ap] at h
  cases q : getV e.sl s with
  | none => rw [q] at h; exact h.elim
  | some d =>
    rw [q] at h
    cases d with
    | bl c => exact ⟨s, c, e1, q, by simpa only [onTK_bl, wp_iteC] using h⟩
    | _ => exact h.elim
theorem sim_ifS {tt : TT} (ht : SimT κ η W tt mc) (ha : SimS κ η W t a) (hb : SimS κ η W u b) : SimS κ η W (tIfS tt t u) (ifS mc a b) := by
  intro F0 st ν B F σ sl H D so es w
  simp only [ifS_ap, wp_bnd] at w
  refine ht so es (wp_mono w (fun e st we => ?_) fun _ _ z => z.xp)
  obtain ⟨s, c, e1, e2, k⟩ := wp_onTT we
  refine ⟨s, [], c, e1, e2, fun ν F H1 so es1 => ?_⟩
  cases c with
  | true => rw [if_pos rfl]; exact ha so es1 (by simpa using k)
  | false => rw [if_neg (by decide)]; exact hb so es1 (by simpa using k)
/-! raising -/
theorem zip_rev {α β : Type} : ∀ {xs : List α} {ys : List β}, xs.length = ys.length → (xs.zip ys).reverse = xs.reverse.zip ys.reverse
  | [], [], _ => rfl
  | [], _ :: _, h => by simp at h
  | _ :: _, [], h => by simp at h
  | x :: xs, y :: ys, h => by
    simp only [List.zip_cons_cons, List.reverse_cons]
    rw [zip_rev (by simpa using h), List.zip_append (by simpa using h)]
    rfl
theorem sim_rai {c : Nat} {C : Addr} {fs : List Nat} {gs : List Str} (hC : κ.cls c = C) (hg : fs.map nm = gs) (ha : SimA κ η W tr as) : SimS κ η W (WpE.tRaiseErr C gs W tr) (raiS c fs as) := by
  subst hC hg
  intro F0 st ν B F σ sl H D so es w
  simp only [raiS_ap, withA_ap, wp_bnd] at w
  refine ha so es (wp_mono w (fun e st we ν F vs H1 hl so es1 => ?_) fun _ _ z => z.xp)
  obtain ⟨ets, esl⟩ := e
  simp only [argM_ap] at we
  cases q : takeV esl as.length ets [] with
  | none => rw [q] at we; exact we.elim
  | some p =>
    obtain ⟨ds, r⟩ := p
    rw [q] at we
    simp only [argK_some, raiK_ap, wp_iteC] at we
    split at we
    · rename_i z
      rw [← hl] at q we
      obtain ⟨es2, r2⟩ := es1.args q
      simp only [decide_eq_true_eq] at z
      have l := r2.len
      refine ⟨by simp [← l, z], fun dd hd => ?_⟩
      have ex : Xt κ H1 (upd H1 dd (.xd (WpE.fz (fs.map nm) vs))) := Xt.new (Xt.refl _) hd
      refine we _ _ σ _ _ _ so (es2.ext ex).drop ⟨rfl, .inr ⟨dd, vs.reverse, rfl, fun zz => ?_, ?_, by simp [← z, l], ?_⟩⟩
      · obtain ⟨u, hu, _⟩ := OA.some es2.drop.er (by simpa [zA, zT] using zz)
        rw [hd] at hu; cases hu
      · rw [upd_same]
        simp only [WpE.fz, List.map_reverse]
        rw [zip_rev (by simp [← z, l])]
      · exact ((r2.mono fun a _ _ ⟨d, m⟩ => ⟨d, List.mem_append_right _ m⟩).ext ex).rev
    · exact we.elim
theorem sim_raiB {c : Nat} {C : Addr} (hC : κ.cls c = C) : SimS κ η W (fun _ σ H => W (.ref C) none σ H) (raiB c) := by
  subst hC
  intro F0 st ν B F σ sl H D so es w
  exact w _ _ σ _ _ _ so es ⟨rfl, .inl ⟨rfl, rfl⟩⟩
end
end Dl

namespace Dl
open PySem L2 Wp
section
variable {κ : Ctx} {ν ν' : List Addr} {η : Hn} {W : WX} {B : Hp} {F Z : List VS} {τ : List V} {ts : List Sl} {σ : L2.St} {sl : List Sl} {H H' : Hp} {v x : V} {s : Sl} {d : D} {ta tb tc te tf : TE} {ma mb mc m : EM} {tr : TA} {as : List EM} {t u : TS} {a b : SM}
/-! ### frames -/
theorem ES.framed {p : VS} (h : ES κ ν η B (p :: F) τ ts σ sl H) : ES κ ν η B F τ ts σ sl H := by
  have pm : (zA τ ts σ sl (p :: F)).Perm (p :: zA τ ts σ sl F) := by
    simp only [zA]
    have := List.perm_middle (l₁ := zT τ ts ++ σ.zip sl) (a := p) (l₂ := F)
    simpa [List.append_assoc] using this
  exact ⟨h.lt, h.ls, h.al, (h.er.perm pm).tail, h.bs, h.fr, h.sf, fun y q => ⟨(h.ex y q).1, exr_sub (h.ex y q).2 fun a ⟨d, m⟩ => ⟨d, pm.mem_iff.mpr (List.mem_cons_of_mem _ m)⟩⟩⟩
/-- a passing value goes among what stays -/
theorem ES.pin (h : ES κ ν η B F [v] [s] σ sl H) (na : ∀ i, s ≠ .al i) : ES κ ν η B ((some v, s) :: F) [] [] σ sl H := by
  have pm : (zA [v] [s] σ sl F).Perm (zA [] [] σ sl ((some v, s) :: F)) := by
    simp only [zA, zT, List.map_cons, List.map_nil, List.zip_cons_cons, List.zip_nil_left, List.nil_append, List.cons_append]
    exact (List.perm_middle (l₁ := σ.zip sl) (a := (some v, s)) (l₂ := F)).symm
  exact ⟨rfl, h.ls, fun w i m => by simp at m, h.er.perm pm, h.bs, fun a d m => h.fr a d (by simp [zT] at m; simp [zT, m]), h.sf, fun y q => ⟨(h.ex y q).1, exr_sub (h.ex y q).2 fun a ⟨d, m⟩ => ⟨d, pm.mem_iff.mpr m⟩⟩⟩
/-- what stays passes again -/
theorem ES.unpin (h : ES κ ν η B ((some v, .sh d) :: F) τ ts σ sl H) : ES κ ν η B F (v :: τ) (.sh d :: ts) σ sl H := by
  have pm : (zA τ ts σ sl ((some v, .sh d) :: F)).Perm ((some v, Sl.sh d) :: zA τ ts σ sl F) := by
    have := List.perm_middle (l₁ := zT τ ts ++ σ.zip sl) (a := (some v, Sl.sh d)) (l₂ := F)
    simpa [zA, List.append_assoc] using this
  have o := (h.er.perm pm).ok (some v, .sh d) List.mem_cons_self
  obtain ⟨w, e, r⟩ := o
  cases e
  exact h.framed.pushR (r.mono fun a _ _ z => oa_mem z)
theorem ES.pinU (h : ES κ ν η B F [] [] σ sl H) : ES κ ν η B ((none, .unk) :: F) [] [] σ sl H := by
  have pm : (zA [] [] σ sl ((none, .unk) :: F)).Perm ((none, Sl.unk) :: zA [] [] σ sl F) := by
    simp only [zA, zT, List.map_nil, List.zip_nil_left, List.nil_append]
    exact List.perm_middle
  exact ⟨rfl, h.ls, fun w i m => by simp at m, (h.er.pushU none (.inl rfl)).perm pm.symm, h.bs, h.fr, h.sf, fun y q => ⟨(h.ex y q).1, exr_sub (h.ex y q).2 fun a ⟨d, m⟩ => by
    have := pm.mem_iff.mp m
    simp only [List.mem_cons, Prod.mk.injEq, reduceCtorEq, and_false, false_or] at this
    exact ⟨d, this⟩⟩⟩
theorem ES.permF {F' : List VS} (h : ES κ ν η B F τ ts σ sl H) (p : F.Perm F') : ES κ ν η B F' τ ts σ sl H := by
  have pm : (zA τ ts σ sl F).Perm (zA τ ts σ sl F') := List.Perm.append_left _ (List.Perm.append_left _ p)
  exact ⟨h.lt, h.ls, h.al, h.er.perm pm, h.bs, h.fr, h.sf, fun y q => ⟨(h.ex y q).1, exr_sub (h.ex y q).2 fun a ⟨d, m⟩ => ⟨d, pm.mem_iff.mpr m⟩⟩⟩
/-- a pin among what stays -/
theorem StOk.pin {p : VS} {F0 : List VS} {st : Sto} (so : StOk η B F0 ν F st) (h : ES κ ν η B (p :: F) τ ts σ sl H) : StOk η B (p :: F0) ν (zS ν st ++ p :: F0) st ∧ ES κ ν η B (zS ν st ++ p :: F0) τ ts σ sl H :=
  ⟨⟨rfl, so.ln, so.nb, so.np, so.pr, fun q m => List.mem_cons_of_mem _ (so.cp q m)⟩, h.permF (by rw [so.fe]; exact List.perm_middle.symm)⟩
theorem StOk.unpin {p : VS} {F0 : List VS} {st : Sto} (so : StOk η B (p :: F0) ν F st) (hc : ∀ p ∈ η.cap, p ∈ F0) : StOk η B F0 ν (zS ν st ++ F0) st := ⟨rfl, so.ln, so.nb, so.np, so.pr, hc⟩
theorem ES.unp {p : VS} {F0 : List VS} {st : Sto} (h : ES κ ν η B F τ ts σ sl H) (so : StOk η B (p :: F0) ν F st) : ES κ ν η B (p :: (zS ν st ++ F0)) τ ts σ sl H := h.permF (by rw [so.fe]; exact List.perm_middle)
theorem RetP.framed {p : VS} {st : Sto} (h : RetP κ η B (p :: F) st s v H) (hc : ∀ p ∈ η.cap, p ∈ F) : RetP κ η B F st s v H := by
  obtain ⟨ν, F', so, er, r⟩ := h
  refine ⟨ν, _, so.unpin hc, ?_, r⟩
  have : ER κ ν H ((some v, s) :: p :: (zS ν st ++ F)) := er.perm (List.Perm.cons _ (by rw [so.fe]; exact List.perm_middle))
  exact (this.perm (List.Perm.swap _ _ _)).tail
theorem RetO.framed {p : VS} {st : Sto} {s1 s2 : Sl} (h : RetO κ η B (p :: F) st s1 s2 v H) (hc : ∀ p ∈ η.cap, p ∈ F) : RetO κ η B F st s1 s2 v H := by
  obtain ⟨ν, F', a, x, y, e1, e2, so, er, r⟩ := h
  refine ⟨ν, _, a, x, y, e1, e2, so.unpin hc, ?_, r⟩
  have : ER κ ν H ((some x, s1) :: (some y, s2) :: p :: (zS ν st ++ F)) := er.perm (List.Perm.cons _ (List.Perm.cons _ (by rw [so.fe]; exact List.perm_middle)))
  exact (this.perm (((List.Perm.swap _ _ _).cons _).trans (List.Perm.swap _ _ _))).tail
theorem XQ.framed {p : VS} {x : XS} {st : Sto} (h : XQ κ η W B F x st) (hc : ∀ p ∈ η.cap, p ∈ F) : XQ κ η W B (p :: F) x st := fun ν F' σ c d H' so es ex =>
  h ν _ σ c d H' (so.unpin hc) (es.unp so).framed (ex.mono fun a _ _ ⟨d, m⟩ => ⟨d, by
    rcases List.mem_append.mp m with m | m
    · exact List.mem_append_left _ m
    · rw [so.fe]
      rcases List.mem_append.mp m with m | m
      · exact List.mem_append_right _ (List.mem_append_left _ m)
      · exact List.mem_append_right _ (List.mem_append_right _ (List.mem_cons_of_mem _ m))⟩)
/-! ### targets -/
mutual
def Tg.nms : Tg → List Nat
  | .name i => [i]
  | .tup ts => Tg.nmss ts
def Tg.nmss : List Tg → List Nat
  | [] => []
  | t :: ts => Tg.nms t ++ Tg.nmss ts
end
/-- the same but for these names -/
def Off (is : List Nat) (σ σ' : L2.St) : Prop := σ'.length = σ.length ∧ ∀ j, j ∉ is → σ'[j]? = σ[j]?
theorem Off.trans {is js : List Nat} {σ σ1 σ2 : L2.St} (h : Off is σ σ1) (g : Off js σ1 σ2) : Off (is ++ js) σ σ2 := ⟨g.1.trans h.1, fun j hj => by
  simp only [List.mem_append, not_or] at hj
  rw [g.2 j hj.2, h.2 j hj.1]⟩
def SimG (κ : Ctx) (η : Hn) (g : TG) (t : Tg) : Prop := ∀ {ν : List Addr} {B : Hp} {F : List VS} {σ : L2.St} {sl sl' : List Sl} {H : Hp} {v : V} {d : D} {Q : L2.St → Hp → Prop}, ES κ ν η B F [v] [.sh d] σ sl H → t.set d sl = some sl' →
  (∀ σ', Off t.nms σ σ' → ES κ ν η B F [] [] σ' sl' H → Q σ' H) → g v σ H Q
def SimGs (κ : Ctx) (η : Hn) (g : TGs) (ts : List Tg) : Prop := ∀ {ν : List Addr} {B : Hp} {F : List VS} {σ : L2.St} {sl sl' : List Sl} {H : Hp} {vs : List V} {ds : List D} {Q : L2.St → Hp → Prop}, ES κ ν η B F vs (ds.map Sl.sh) σ sl H → Tg.sets ts ds sl = some sl' →
  (∀ σ', Off (Tg.nmss ts) σ σ' → ES κ ν η B F [] [] σ' sl' H → Q σ' H) → g vs σ H Q
theorem simg_name {i : Nat} (ho : η.ok i) : SimG κ η (gName i) (.name i) := by
  intro ν B F σ sl sl' H v d Q es e k
  simp only [Tg.set_name, Option.some.injEq] at e
  subst e
  refine k _ ⟨by simp, fun j hj => ?_⟩ (es.store ho (fun _ => nofun) fun _ => nofun)
  simp only [Tg.nms, List.mem_singleton] at hj
  rw [List.getElem?_set_ne (Ne.symm hj)]
theorem simgs_nil : SimGs κ η gNil [] := by
  intro ν B F σ sl sl' H vs ds Q es e k
  cases ds with
  | nil =>
    simp at e; subst e
    have : vs = [] := List.length_eq_zero_iff.mp (by simpa using es.lt)
    subst this
    exact ⟨rfl, k σ ⟨rfl, fun _ _ => rfl⟩ es⟩
  | cons d ds => simp [Tg.sets] at e
theorem pins_all : ∀ {vs : List V} {ds : List D}, ES κ ν η B F vs (ds.map Sl.sh) σ sl H → ES κ ν η B (zV vs ds ++ F) [] [] σ sl H ∧ vs.length = ds.length := by
  intro vs ds h
  have l : vs.length = ds.length := by simpa using h.lt
  refine ⟨?_, l⟩
  have pm : (zA vs (ds.map Sl.sh) σ sl F).Perm (zA [] [] σ sl (zV vs ds ++ F)) := by
    simp only [zA, zT, zV, List.map_nil, List.zip_nil_left, List.nil_append]
    have := List.perm_append_comm (l₁ := (vs.map some).zip (ds.map Sl.sh)) (l₂ := σ.zip sl)
    have := this.append_right F
    simpa [List.append_assoc] using this
  exact ⟨rfl, h.ls, fun w i m => by simp at m, h.er.perm pm, h.bs, fun a d m => h.fr a d (by simp only [zT, List.map_nil, List.zip_nil_left, List.nil_append] at m; exact List.mem_append_right _ m), h.sf, fun y q => ⟨(h.ex y q).1, exr_sub (h.ex y q).2 fun a ⟨d, m⟩ => ⟨d, pm.mem_iff.mpr m⟩⟩⟩
theorem unpins_all : ∀ {vs : List V} {ds : List D} {τ : List V} {ts : List Sl}, vs.length = ds.length → ES κ ν η B (zV vs ds ++ F) τ ts σ sl H → ES κ ν η B F (vs ++ τ) (ds.map Sl.sh ++ ts) σ sl H
  | [], [], τ, ts, _, h => by simpa [zV] using h
  | [], _ :: _, _, _, l, _ => by simp at l
  | _ :: _, [], _, _, l, _ => by simp at l
  | v :: vs, d :: ds, τ, ts, l, h => by
    have h1 : ES κ ν η B ((some v, .sh d) :: (zV vs ds ++ F)) τ ts σ sl H := by simpa [zV] using h
    have h2 := h1.framed
    have h3 := unpins_all (vs := vs) (ds := ds) (by simpa using l) h2
    -- the first value's data
    have pm : (zA τ ts σ sl ((some v, .sh d) :: (zV vs ds ++ F))).Perm ((some v, Sl.sh d) :: zA (vs ++ τ) (ds.map Sl.sh ++ ts) σ sl F) := by
      have e1 : zT (vs ++ τ) (ds.map Sl.sh ++ ts) = zV vs ds ++ zT τ ts := by
        simp only [zT, zV, List.map_append]
        exact List.zip_append (by simpa using l)
      have p1 := List.perm_middle (l₁ := zT τ ts ++ σ.zip sl) (a := (some v, Sl.sh d)) (l₂ := zV vs ds ++ F)
      have p2 : (zT τ ts ++ σ.zip sl ++ (zV vs ds ++ F)).Perm (zV vs ds ++ zT τ ts ++ (σ.zip sl ++ F)) := by
        have := List.perm_append_comm (l₁ := zT τ ts ++ σ.zip sl) (l₂ := zV vs ds)
        have := this.append_right F
        simpa [List.append_assoc] using this
      simp only [zA, e1]
      have := p1.trans (List.Perm.cons _ p2)
      simpa [List.append_assoc] using this
    obtain ⟨w, e, r⟩ := (h1.er.perm pm).ok (some v, .sh d) List.mem_cons_self
    cases e
    exact h3.pushR (r.mono fun a _ _ z => oa_mem z)
theorem simgs_cons {g : TG} {gs : TGs} {t : Tg} {ts : List Tg} (h : SimG κ η g t) (hs : SimGs κ η gs ts) : SimGs κ η (gCons g gs) (t :: ts) := by
  intro ν B F σ sl sl' H vs ds Q es e k
  cases ds with
  | nil => simp [Tg.sets] at e
  | cons d ds =>
    cases vs with
    | nil => have := es.lt; simp at this
    | cons v vs =>
      simp only [Tg.sets_cons, Option.bind_eq_some_iff] at e
      obtain ⟨sl1, e1, e2⟩ := e
      refine ⟨v, vs, rfl, ?_⟩
      -- the others stay while the first is stored
      obtain ⟨es0, l⟩ := pins_all (vs := v :: vs) (ds := d :: ds) (by simpa using es)
      have l2 : vs.length = ds.length := by simpa using l
      have es1 : ES κ ν η B (zV vs ds ++ F) [v] [.sh d] σ sl H := by
        have : ES κ ν η B ((some v, .sh d) :: (zV vs ds ++ F)) [] [] σ sl H := by simpa [zV] using es0
        exact this.unpin
      refine h es1 e1 fun σ1 o1 es2 => ?_
      have es3 := unpins_all (τ := []) (ts := []) l2 es2
      simp only [List.append_nil] at es3
      exact hs es3 e2 fun σ2 o2 es4 => k σ2 (by simpa [Tg.nmss] using o1.trans o2) es4
theorem tgs_len : ∀ {ts : List Tg} {ds : List D} {sl sl' : List Sl}, Tg.sets ts ds sl = some sl' → ts.length = ds.length
  | [], [], _, _, _ => rfl
  | [], _ :: _, _, _, h => by simp [Tg.sets] at h
  | _ :: _, [], _, _, h => by simp [Tg.sets] at h
  | t :: ts, d :: ds, _, _, h => by
    simp only [Tg.sets_cons, Option.bind_eq_some_iff] at h
    obtain ⟨_, _, h2⟩ := h
    simp [tgs_len h2]
theorem pushAll : ∀ {ds : List D} {vs : List V}, ES κ ν η B F [] [] σ sl H → RDs κ ν (OS F [] [] σ sl) H ds vs → ES κ ν η B F vs (ds.map Sl.sh) σ sl H
  | [], vs, h, r => by simp only [RDs] at r; subst r; exact h
  | d :: ds, vs, h, r => by
    simp only [RDs] at r
    obtain ⟨v, r', rfl, a, b⟩ := r
    have := pushAll h b
    exact this.pushR (a.mono fun c _ _ ⟨e, m⟩ => ⟨e, by
      rcases List.mem_append.mp m with m | m
      · exfalso
        have := List.of_mem_zip m
        simp at this
      · exact List.mem_append_right _ m⟩)
theorem simg_tup {gs : TGs} {ts : List Tg} {n : Nat} {K : PySem.W.Frag} (eK : κ.K = K) (hn : ts.length = n) (h : SimGs κ η gs ts) : SimG κ η (gTup K n gs) (.tup ts) := by
  subst eK
  intro ν B F σ sl sl' H v d Q es e k
  cases d with
  | tup ds =>
    simp only [Tg.set_tup] at e
    have l := es.read (x := v) (s := .sh (.tup ds)) (d := .tup ds) (by simp) (by simp)
    obtain ⟨a, vs, rfl, g, r, _⟩ := l.tup
    have hl : ts.length = ds.length := tgs_len e
    refine ⟨a, vs, rfl, SqT.of g, by rw [← r.len, ← hl, hn], ?_⟩
    have es1 : ES κ ν η B F vs (ds.map Sl.sh) σ sl H := by
      have r2 : RDs κ ν (OS F [] [] σ sl) H ds vs := r.mono fun a _ _ z => os_pop a z
      exact pushAll es.pop r2
    exact h es1 e fun σ' o es2 => k σ' (by simpa [Tg.nms] using o) es2
  | _ => simp [Tg.set] at e
theorem sim_setT {g : TG} {tg : Tg} (hg : SimG κ η g tg) (he : SimE κ η W te m) : SimS κ η W (tAsg te g) (setT tg m) := by
  intro F0 st ν B F σ sl H D so es w
  simp only [setT_ap, wp_bnd] at w
  refine he so es (wp_mono w (fun e st we ν F v H1 so es1 => ?_) fun _ _ z => z.xp)
  obtain ⟨s, e1, we⟩ := wp_topK we
  obtain ⟨ets, esl⟩ := e
  replace e1 : ets = [s] := e1
  subst e1
  cases s with
  | sh d =>
    simp only [setTK_sh] at we
    cases q : tg.set d esl with
    | none => rw [q] at we; exact we.elim
    | some sl' =>
      rw [q] at we
      exact hg es1 q fun σ' _ es2 => we _ _ σ' H1 so es2
  | _ => exact we.elim
/-! ### what is walked -/
def WalkOk (κ : Ctx) (J : It) (p : VS) (ds : List D) : Prop := ∀ ν H Z, ER κ ν H Z → p ∈ Z → (∀ i d, ds[i]? = some d → J.go i H ∧ ∀ x H', J.yld i H x H' → NewV κ ν (OA Z) H (.sh d) x H') ∧ J.stop ds.length H
def SimI (κ : Ctx) (η : Hn) (W : WX) (wi : TI) (it : IM) : Prop := ∀ {F0 : List VS} {st : Sto} {ν : List Addr} {B : Hp} {F : List VS} {σ : L2.St} {sl : List Sl} {H : Hp} {R : It → Hp → Prop}, StOk η B F0 ν F st → ES κ ν η B F [] [] σ sl H →
  wp (it sl) st (fun r st => ∀ ν F J p H1, StOk η B (p :: F0) ν F st → ES κ ν η B F [] [] σ r.2 H1 → WalkOk κ J p r.1 → R J H1) (XP κ η W B F0 σ) → wi σ H R
theorem walkL {a : Addr} {K : PySem.W.Frag} {s : Sl} {ds : List D} (hs : s = .sh (.lst ds) ∨ s = .ow (.lst ds)) : WalkOk κ (Itl K a) (some (.ref a), s) ds := by
  intro ν H Z er hp
  have o := er.ok _ hp
  have l : LD κ ν (OA Z) H (.lst ds) (.ref a) := slok_ld (s := s) o (by rcases hs with rfl | rfl <;> rfl) rfl
  obtain ⟨a', vs, e, g, r⟩ := l.lst
  cases e
  have w := walk_list (K := K) (a := a) (xs := vs)
  refine ⟨fun i d e => ?_, ?_⟩
  · have hi : i < vs.length := by rw [← r.len]; exact (List.getElem?_eq_some_iff.mp e).1
    refine ⟨w.goes i H hi (SqL.of g), fun x H' y => ?_⟩
    obtain ⟨rfl, hx⟩ := w.yields i H x H' hi (SqL.of g) y
    obtain ⟨u, hu, ru⟩ := r.at e
    rw [hx] at hu; cases hu
    exact .inl ⟨rfl, ru⟩
  · rw [r.len]; exact w.stops H (SqL.of g)
theorem walkT {a : Addr} {K : PySem.W.Frag} {ds : List D} : WalkOk κ (Itt K a) (some (.ref a), .sh (.tup ds)) ds := by
  intro ν H Z er hp
  have o := er.ok _ hp
  have l : LD κ ν (OA Z) H (.tup ds) (.ref a) := slok_ld (s := .sh (.tup ds)) o rfl rfl
  obtain ⟨a', vs, e, g, r, _⟩ := l.tup
  cases e
  have w := walk_tup (K := K) (a := a) (xs := vs)
  refine ⟨fun i d e => ?_, ?_⟩
  · have hi : i < vs.length := by rw [← r.len]; exact (List.getElem?_eq_some_iff.mp e).1
    refine ⟨w.goes i H hi (SqT.of g), fun x H' y => ?_⟩
    obtain ⟨rfl, hx⟩ := w.yields i H x H' hi (SqT.of g) y
    obtain ⟨u, hu, ru⟩ := r.at e
    rw [hx] at hu; cases hu
    exact .inl ⟨rfl, ru⟩
  · rw [r.len]; exact w.stops H (SqT.of g)
theorem rangeL_get : ∀ (n : Nat) (lo : Int) (i : Nat), (rangeL lo n)[i]? = if i < n then some (.int (lo + i)) else none
  | 0, lo, i => by simp
  | n + 1, lo, 0 => by simp [rangeL_s]
  | n + 1, lo, i + 1 => by
    rw [rangeL_s, List.getElem?_cons_succ, rangeL_get n (lo + 1) i]
    by_cases h : i < n
    · rw [if_pos h, if_pos (by omega)]
      congr 2
      push_cast
      omega
    · rw [if_neg h, if_neg (by omega)]
theorem rangeL_len : ∀ (n : Nat) (lo : Int), (rangeL lo n).length = n
  | 0, lo => rfl
  | n + 1, lo => by simp [rangeL_s, rangeL_len n]
theorem walkR {lo : Int} {n : Nat} {p : VS} : WalkOk κ (Itr lo n) p (rangeL lo n) := by
  intro ν H Z er hp
  have w := walk_range (lo := lo) (n := n)
  refine ⟨fun i d e => ?_, ?_⟩
  · rw [rangeL_get] at e
    split at e
    · rename_i hi
      cases e
      refine ⟨w.goes i H hi trivial, fun x H' y => ?_⟩
      obtain ⟨rfl, rfl⟩ := w.yields i H x H' hi trivial y
      exact .inl ⟨rfl, by simp only [RD]⟩
    · cases e
  · rw [rangeL_len]; exact w.stops H trivial
theorem simi_rng1 (he : SimE κ η W te m) : SimI κ η W (iRng1 (tCons te tNil)) (itRng1 m) := by
  intro F0 st ν B F σ sl H R so es w
  simp only [itRng1_ap, wp_bnd] at w
  refine he so es (wp_mono w (fun e st we ν F v H1 so es1 => ?_) fun _ _ z => z)
  obtain ⟨s, e1, we⟩ := wp_topK we
  obtain ⟨ets, esl⟩ := e
  replace e1 : ets = [s] := e1
  subst e1
  match s, we with
  | .sh (.int n), we =>
    simp only [rng1K_ap, wp_iteC] at we
    split at we
    · rename_i z
      have l := es1.read (x := v) (s := .sh (.int n)) (d := .int n) (by simp) (by simp)
      simp only [inB, Bool.and_eq_true, decide_eq_true_eq] at z
      exact ⟨n, by rw [l.int], by omega, by omega, we _ _ _ _ _ (so.pin es1.pop.pinU).1 (so.pin es1.pop.pinU).2 walkR⟩
    · exact we.elim
theorem simi_rng2 (ha : SimE κ η W ta ma) (hb : SimE κ η W tb mb) : SimI κ η W (iRng2 (tCons ta (tCons tb tNil))) (itRng2 ma mb) := by
  intro F0 st ν B F σ sl H R so es w
  simp only [itRng2_ap, seqE_ap, wp_bnd] at w
  refine ha so es (wp_mono w (fun e st we ν F x H1 so es1 => ?_) fun _ _ z => z)
  obtain ⟨ets, esl⟩ := e
  refine hb so es1 (wp_mono we (fun e2 st we2 ν F y H2 so es2 => ?_) fun _ _ z => z)
  obtain ⟨ets2, esl2⟩ := e2
  obtain ⟨sy, r1, rfl⟩ := ts_cons es2.lt
  obtain ⟨sx, r2, rfl⟩ := ts_cons es2.pop.lt
  have : r2 = [] := by simpa using es2.lt
  subst this
  match sy, sx, we2, es2 with
  | .sh (.int n), .sh (.int k), we2, es2 =>
    simp only [rng2K_ap, wp_iteC] at we2
    split at we2
    · rename_i z
      have l1 := es2.read (x := x) (s := .sh (.int k)) (d := .int k) (by simp) (by simp)
      have l2 := es2.read (x := y) (s := .sh (.int n)) (d := .int n) (by simp) (by simp)
      simp only [inB, Bool.and_eq_true, decide_eq_true_eq] at z
      exact ⟨k, n, by rw [l1.int, l2.int], ⟨by omega, by omega, by omega, by omega⟩, we2 _ _ _ _ _ (so.pin es2.pop.pop.pinU).1 (so.pin es2.pop.pop.pinU).2 walkR⟩
    · exact we2.elim
/-! ### for -/
theorem sim_for {wi : TI} {it : IM} {g : TG} {tg : Tg} (hi : SimI κ η W wi it) (hg : SimG κ η g tg) (hb : SimS κ η W t a) : SimS κ η W (tFor wi g t) (forS it tg a) := by
  intro F0 st ν B F σ sl H D so es w
  have soz := so
  simp only [forS_ap, wp_bnd] at w
  refine hi so es (wp_mono w (fun r st wr ν F J p H1 so es1 wk => ?_) fun _ _ z => z.xp)
  obtain ⟨ds, sl1⟩ := r
  simp only [forK_ap] at wr
  refine ⟨fun i k σ' H' => k = ds.length - i ∧ i ≤ ds.length ∧ ∃ ν F st sl', StOk η B (p :: F0) ν F st ∧ ES κ ν η B F [] [] σ' sl' H' ∧ wp (forL tg a (ds.drop i) sl') st (FlowP κ η B F0 D) (XQ κ η W B F0), ⟨_, rfl, Nat.zero_le _, ν, F, st, sl1, so, es1, by simpa using wr⟩, ?_⟩
  rintro i k σ' H' ⟨rfl, hi', ν, F, st, sl', so, es', w'⟩
  have hpF : p ∈ zA [] [] σ' sl' F := by rw [so.fe]; simp [zA]
  obtain ⟨go, stop⟩ := wk ν H' _ es'.er hpF
  rcases Nat.lt_or_ge i ds.length with hlt | hge
  · refine .inr ?_
    have e : ds[i]? = some ds[i] := List.getElem?_eq_getElem hlt
    obtain ⟨g1, yl⟩ := go i _ e
    refine ⟨g1, fun σ2 H2 => ∃ m', m' < ds.length - i ∧ (m' = ds.length - (i + 1) ∧ i + 1 ≤ ds.length ∧ ∃ ν F st sl', StOk η B (p :: F0) ν F st ∧ ES κ ν η B F [] [] σ2 sl' H2 ∧ wp (forL tg a (ds.drop (i + 1)) sl') st (FlowP κ η B F0 D) (XQ κ η W B F0)), fun σ2 H2 n => n, fun x H2 y => ?_⟩
    rw [List.drop_eq_getElem_cons hlt, forL_cons] at w'
    cases q : tg.set ds[i] sl' with
    | none => rw [q] at w'; exact w'.elim
    | some sl2 =>
      rw [q] at w'
      simp only [turnK_some, wp_bnd] at w'
      have es2 : ES κ ν η B F [x] [.sh ds[i]] σ' sl' H2 := es'.newV (yl x H2 y)
      refine hg es2 q fun σ2 _ es3 => ?_
      refine hb so es3 (wp_mono w' (fun r st wr2 => ?_) fun _ _ z => z.framed soz.cp)
      have again : ∀ sl3, wp (forL tg a (ds.drop (i + 1)) sl3) st (FlowP κ η B F0 D) (XQ κ η W B F0) → ∀ ν F σ3 H3, StOk η B (p :: F0) ν F st → ES κ ν η B F [] [] σ3 sl3 H3 → ∃ m', m' < ds.length - i ∧ (m' = ds.length - (i + 1) ∧ i + 1 ≤ ds.length ∧ ∃ ν F st sl', StOk η B (p :: F0) ν F st ∧ ES κ ν η B F [] [] σ3 sl' H3 ∧ wp (forL tg a (ds.drop (i + 1)) sl') st (FlowP κ η B F0 D) (XQ κ η W B F0)) :=
        fun sl3 wz ν F σ3 H3 so es4 => ⟨_, by omega, rfl, by omega, ν, F, st, sl3, so, es4, wz⟩
      cases r with
      | nx sl3 => exact again sl3 wr2
      | ct sl3 => exact again sl3 wr2
      | bk sl3 => exact fun ν F σ3 H3 so es4 => wr2 _ _ σ3 H3 (so.unpin soz.cp) (es4.unp so).framed
      | rt s o => exact fun v H3 rp => wr2 v H3 (rp.framed soz.cp)
      | ro s1 s2 => exact fun v H3 rp => wr2 v H3 (rp.framed soz.cp)
  · refine .inl ?_
    have : i = ds.length := Nat.le_antisymm hi' hge
    subst this
    rw [List.drop_length, forL_nil] at w'
    exact ⟨stop, w' _ _ σ' H' (so.unpin soz.cp) (es'.unp so).framed⟩
theorem sim_whl {tt : TT} (ht : SimT κ η W tt mc) (hb : SimS κ η W t a) : SimS κ η W (tWhile tt t) (whlS mc a) := by
  intro F0 st ν B F σ sl H D so es w
  rw [whlS_eq] at w
  refine ⟨fun k σ' H' => ∃ ν F st sl', StOk η B F0 ν F st ∧ ES κ ν η B F [] [] σ' sl' H' ∧ wp (whlN mc a k sl') st (FlowP κ η B F0 D) (XQ κ η W B F0), ⟨fuel, ν, F, st, sl, so, es, w⟩, ?_⟩
  rintro k σ' H' ⟨ν, F, st, sl', so, es', w'⟩
  cases k with
  | zero => exact w'.elim
  | succ k =>
    rw [whlN_s] at w'
    simp only [wp_bnd] at w'
    refine ht so es' (wp_mono w' (fun e st we => ?_) fun _ _ z => z.xp)
    obtain ⟨s, c, e1, e2, kk⟩ := wp_onTT we
    refine ⟨s, [], c, e1, e2, fun ν F H1 so es1 => ?_⟩
    cases c with
    | false => rw [if_neg (by decide)]; simp only [Bool.false_eq_true, if_false, nop_ap, wp] at kk; exact kk _ _ σ' H1 so es1
    | true =>
      rw [if_pos rfl]
      simp only [if_true, whlB_ap, wp_bnd] at kk
      refine ⟨fun σ2 H2 => ∃ m', m' < k + 1 ∧ ∃ ν F st sl', StOk η B F0 ν F st ∧ ES κ ν η B F [] [] σ2 sl' H2 ∧ wp (whlN mc a m' sl') st (FlowP κ η B F0 D) (XQ κ η W B F0), fun _ _ n => n, ?_⟩
      refine hb so es1 (wp_mono kk (fun r st wr2 => ?_) fun _ _ z => z)
      cases r with
      | nx sl3 => exact fun ν F σ3 H3 so es4 => ⟨k, by omega, ν, F, st, sl3, so, es4, wr2⟩
      | ct sl3 => exact fun ν F σ3 H3 so es4 => ⟨k, by omega, ν, F, st, sl3, so, es4, wr2⟩
      | bk sl3 => exact wr2
      | rt s o => exact wr2
      | ro s1 s2 => exact wr2
end
end Dl

namespace Dl
open PySem PySem.Spec PyProof.Rows L2 Wp
/-! ### lists and tuples walked -/
def iSeq (K : PySem.W.Frag) (tl : TE) : TI := fun σ H R => tl σ H fun x H1 => ∃ a, x = .ref a ∧ (((∃ xs, SqL K H1 a xs) ∧ R (Itl K a) H1) ∨ ((∃ xs, SqT K H1 a xs) ∧ R (Itt K a) H1))
theorem pi_seq {X : Cx} {tg l : Expr} {tl : TE} {K : PySem.W.Frag} (eK : X.K = K) (hl : PE X l tl) : PI X tg l (iSeq K tl) := by
  subst eK
  refine ⟨fun pins s σ H R I h => ?_⟩
  refine thn (hl.run pins s σ H _ I h) fun v s1 ⟨x, H1, I1, r1, q1⟩ => ?_
  obtain ⟨a, e, q1⟩ := q1
  subst e
  cases r1
  rcases q1 with ⟨⟨xs, hq⟩, q⟩ | ⟨⟨xs, hq⟩, q⟩
  · obtain ⟨its, rv, p, hz⟩ := I1.list hq
    refine wpAny_pyIter_list p.isList ?_
    refine ⟨s1.heap.objs.size, [s1.heap.objs.size], _, _, H1, rfl, I1.kept (t' := s1.toks) fun b o e => Heap.get?_push_of_some _ e, turn_list a _, ⟨_, Heap.get?_push_size _ rfl, rfl, rfl⟩, fun b hb => ?_, q⟩
    have e : b = s1.heap.objs.size := by simpa using hb
    subst e
    exact I1.fpOk (Nat.le_refl _) (I1.hok.fresh (Nat.le_refl _))
  · obtain ⟨its, rv, p, hz⟩ := I1.tuple hq
    refine wpAny_pyIter_tuple (show s1.heap.IsTuple a its.toArray from p) ?_
    refine ⟨s1.heap.objs.size, [s1.heap.objs.size], _, _, H1, rfl, I1.kept (t' := s1.toks) fun b o e => Heap.get?_push_of_some _ e, turn_tuple a _, ⟨_, Heap.get?_push_size _ rfl, rfl, rfl⟩, fun b hb => ?_, q⟩
    have e : b = s1.heap.objs.size := by simpa using hb
    subst e
    exact I1.fpOk (Nat.le_refl _) (I1.hok.fresh (Nat.le_refl _))
def iEnumU (K : PySem.W.Frag) (ta : TA) : TI := fun σ H R => ta σ H fun vs H1 => ∃ a xs, vs = [.ref a] ∧ ((SqL K H1 a xs ∧ R (Ite K a) H1) ∨ (SqT K H1 a xs ∧ R (IteT K a) H1))
theorem pi_enumU {X : Cx} {e : Expr} {ta : TA} {p pos tpos : Pos} {elts : List Expr} {kk : Nat} {K : PySem.W.Frag} (eK : X.K = K) (hg : Gl X "enumerate") (hm : X.mg "enumerate" = none) (ha : PA X [e] ta) (hs : starEach [e] X.env = [(false, eval e X.env)] := by rfl) :
    PI X (.Tuple elts kk tpos) (.Call (.Name "enumerate" p) [e] [] pos) (iEnumU K ta) := by
  subst eK
  refine ⟨fun pins s σ H R I h => ?_⟩
  refine Call_ (ld_blt I hg hm boot_enumerate (PyProof.Rows.callWith_type1 (thn (ha.run pos pins s σ H _ I h) fun us s1 ⟨vs, H1, I1, r1, q1⟩ => ?_) hs rfl))
  obtain ⟨a, xs, ex, q1⟩ := q1
  subst ex
  cases r1 with
  | cons r rr =>
    cases rr
    cases r
    have fin : ∀ b ∈ [s1.heap.objs.size + 1, s1.heap.objs.size], FpOk X pins H1 b := fun b hb => by
      have e' : b = s1.heap.objs.size + 1 ∨ b = s1.heap.objs.size := by simpa using hb
      have hle : s1.heap.objs.size ≤ b := by
        rcases e' with z | z
        · rw [z]; exact Nat.le_add_right _ _
        · rw [z]; exact Nat.le_refl _
      exact I1.fpOk hle (I1.hok.fresh hle)
    rcases q1 with ⟨hq, q⟩ | ⟨hq, q⟩
    · obtain ⟨its, rv, p', hz⟩ := I1.list hq
      refine call_enumerate_list p'.isList fun h' he hit hsz hk => wpAny_pyIter_enum he ?_
      have I2 : Inv X pins σ H1 { s1 with heap := h' } := I1.kept (t' := s1.toks) hk
      exact ⟨s1.heap.objs.size + 1, [s1.heap.objs.size + 1, s1.heap.objs.size], _, _, H1, rfl, I2, turn_enum a (s1.heap.objs.size + 1) s1.heap.objs.size, ⟨⟨.none, he⟩, hit, Nat.succ_ne_self _⟩, fin, q⟩
    · obtain ⟨its, rv, p', hz⟩ := I1.tuple hq
      refine call_enumerate_tuple p' fun h' he hit hsz hk => wpAny_pyIter_enum he ?_
      have I2 : Inv X pins σ H1 { s1 with heap := h' } := I1.kept (t' := s1.toks) hk
      exact ⟨s1.heap.objs.size + 1, [s1.heap.objs.size + 1, s1.heap.objs.size], _, _, H1, rfl, I2, turn_enumT a (s1.heap.objs.size + 1) s1.heap.objs.size, ⟨⟨.none, he⟩, hit, Nat.succ_ne_self _⟩, fin, q⟩
section
variable {κ : Ctx} {ν ν' : List Addr} {η : Hn} {W : WX} {B : Hp} {F Z : List VS} {τ : List V} {ts : List Sl} {σ : L2.St} {sl : List Sl} {H H' : Hp} {v x : V} {s : Sl} {d : D} {ta tb tc te tf : TE} {ma mb mc m : EM} {tr : TA} {as : List EM} {t u : TS} {a b : SM}
theorem simi_seq {K : PySem.W.Frag} (he : SimE κ η W te m) : SimI κ η W (iSeq K te) (itE m) := by
  intro F0 st ν B F σ sl H R so es w
  simp only [itE_ap, wp_bnd] at w
  refine he so es (wp_mono w (fun e st we ν F v H1 so es1 => ?_) fun _ _ z => z)
  obtain ⟨s, e1, we⟩ := wp_topK we
  obtain ⟨ets, esl⟩ := e
  replace e1 : ets = [s] := e1
  subst e1
  have go : ∀ ds, (s = .sh (.lst ds) ∨ s = .ow (.lst ds)) → (∀ ν F J p H1, StOk η B (p :: F0) ν F st → ES κ ν η B F [] [] σ esl H1 → WalkOk κ J p ds → R J H1) → ∃ a, v = .ref a ∧ (((∃ xs, SqL K H1 a xs) ∧ R (Itl K a) H1) ∨ ((∃ xs, SqT K H1 a xs) ∧ R (Itt K a) H1)) := fun ds hs k => by
    have l := es1.read (x := v) (s := s) (d := .lst ds) (by simp) (by rcases hs with rfl | rfl <;> simp)
    obtain ⟨a, vs, rfl, g, r⟩ := l.lst
    exact ⟨a, rfl, .inl ⟨⟨vs, SqL.of g⟩, k _ _ _ _ _ (so.pin (es1.pin (by rcases hs with rfl | rfl <;> exact fun _ => nofun))).1 (so.pin (es1.pin (by rcases hs with rfl | rfl <;> exact fun _ => nofun))).2 (walkL hs)⟩⟩
  match s, we with
  | .sh (.lst ds), we => exact go ds (.inl rfl) we
  | .ow (.lst ds), we => exact go ds (.inr rfl) we
  | .sh (.tup ds), we =>
    have l := es1.read (x := v) (s := .sh (.tup ds)) (d := .tup ds) (by simp) (by simp)
    obtain ⟨a, vs, rfl, g, r, _⟩ := l.tup
    exact ⟨a, rfl, .inr ⟨⟨vs, SqT.of g⟩, we _ _ _ _ _ (so.pin (es1.pin fun _ => nofun)).1 (so.pin (es1.pin fun _ => nofun)).2 walkT⟩⟩
theorem enumL_get : ∀ (ds : List D) (n i : Nat), (enumL n ds)[i]? = (ds[i]?).map fun d => .tup [.int ((n + i : Nat) : Int), d]
  | [], n, i => by simp
  | d :: ds, n, 0 => by simp
  | d :: ds, n, i + 1 => by
    simp only [enumL_cons, List.getElem?_cons_succ]
    rw [enumL_get ds (n + 1) i]
    congr 1
    funext e
    rw [show n + 1 + i = n + (i + 1) by omega]
theorem enumL_len : ∀ (ds : List D) (n : Nat), (enumL n ds).length = ds.length
  | [], n => rfl
  | d :: ds, n => by simp [enumL_len ds]
theorem pairD {Y : Addr → Prop} {i : Nat} {u : V} {e : D} {T : Addr} (hT : H T = none) (ru : RD κ ν Y H e u) : NewV κ ν Y H (.sh (.tup [.int ((0 + i : Nat) : Int), e])) (.ref T) (upd H T (.tup [.int (i : Nat), u])) := by
  refine .inr ⟨T, _, _, rfl, rfl, hT, rfl, ?_⟩
  simp only [RDs, RD]
  exact ⟨_, _, rfl, by simp, u, [], rfl, ru, rfl⟩
theorem walkEL {a : Addr} {K : PySem.W.Frag} {s : Sl} {ds : List D} (hs : s = .sh (.lst ds) ∨ s = .ow (.lst ds)) : WalkOk κ (Ite K a) (some (.ref a), s) (enumL 0 ds) := by
  intro ν H Z er hp
  have o := er.ok _ hp
  have l : LD κ ν (OA Z) H (.lst ds) (.ref a) := slok_ld (s := s) o (by rcases hs with rfl | rfl <;> rfl) rfl
  obtain ⟨a', vs, e, g, r⟩ := l.lst
  cases e
  have w := walk_enum (K := K) (a := a) (xs := vs)
  refine ⟨fun i d e => ?_, ?_⟩
  · rw [enumL_get, Option.map_eq_some_iff] at e
    obtain ⟨e', h1, rfl⟩ := e
    have hi : i < vs.length := by rw [← r.len]; exact (List.getElem?_eq_some_iff.mp h1).1
    refine ⟨w.goes i H hi (SqL.of g), fun x H' y => ?_⟩
    obtain ⟨T, p, q, rfl, hT, rfl, e1, e2⟩ := w.yields i H x H' hi (SqL.of g) y
    cases e1
    obtain ⟨u, hu, ru⟩ := r.at h1
    replace e2 : vs[i]? = some q := e2
    rw [e2] at hu; cases hu
    exact pairD hT ru
  · rw [enumL_len, r.len]; exact w.stops H (SqL.of g)
theorem walkET {a : Addr} {K : PySem.W.Frag} {ds : List D} : WalkOk κ (IteT K a) (some (.ref a), .sh (.tup ds)) (enumL 0 ds) := by
  intro ν H Z er hp
  have o := er.ok _ hp
  have l : LD κ ν (OA Z) H (.tup ds) (.ref a) := slok_ld (s := .sh (.tup ds)) o rfl rfl
  obtain ⟨a', vs, e, g, r, _⟩ := l.tup
  cases e
  have w := walk_enumT (K := K) (a := a) (xs := vs)
  refine ⟨fun i d e => ?_, ?_⟩
  · rw [enumL_get, Option.map_eq_some_iff] at e
    obtain ⟨e', h1, rfl⟩ := e
    have hi : i < vs.length := by rw [← r.len]; exact (List.getElem?_eq_some_iff.mp h1).1
    refine ⟨w.goes i H hi (SqT.of g), fun x H' y => ?_⟩
    obtain ⟨T, p, q, rfl, hT, rfl, e1, e2⟩ := w.yields i H x H' hi (SqT.of g) y
    cases e1
    obtain ⟨u, hu, ru⟩ := r.at h1
    replace e2 : vs[i]? = some q := e2
    rw [e2] at hu; cases hu
    exact pairD hT ru
  · rw [enumL_len, r.len]; exact w.stops H (SqT.of g)
theorem simi_enum {K : PySem.W.Frag} (he : SimE κ η W te m) : SimI κ η W (iEnumU K (tCons te tNil)) (itEnum m) := by
  intro F0 st ν B F σ sl H R so es w
  simp only [itEnum_ap, itE_ap, wp_bnd] at w
  refine he so es (wp_mono w (fun e st we ν F v H1 so es1 => ?_) fun _ _ z => z)
  obtain ⟨s, e1, we⟩ := wp_topK we
  obtain ⟨ets, esl⟩ := e
  replace e1 : ets = [s] := e1
  subst e1
  have go : ∀ ds, (s = .sh (.lst ds) ∨ s = .ow (.lst ds)) → (∀ ν F J p H1, StOk η B (p :: F0) ν F st → ES κ ν η B F [] [] σ esl H1 → WalkOk κ J p (enumL 0 ds) → R J H1) → ∃ a xs, [v] = [.ref a] ∧ ((SqL K H1 a xs ∧ R (Ite K a) H1) ∨ (SqT K H1 a xs ∧ R (IteT K a) H1)) := fun ds hs k => by
    have l := es1.read (x := v) (s := s) (d := .lst ds) (by simp) (by rcases hs with rfl | rfl <;> simp)
    obtain ⟨a, vs, rfl, g, r⟩ := l.lst
    exact ⟨a, vs, rfl, .inl ⟨SqL.of g, k _ _ _ _ _ (so.pin (es1.pin (by rcases hs with rfl | rfl <;> exact fun _ => nofun))).1 (so.pin (es1.pin (by rcases hs with rfl | rfl <;> exact fun _ => nofun))).2 (walkEL hs)⟩⟩
  match s, we with
  | .sh (.lst ds), we => exact go ds (.inl rfl) we
  | .ow (.lst ds), we => exact go ds (.inr rfl) we
  | .sh (.tup ds), we =>
    have l := es1.read (x := v) (s := .sh (.tup ds)) (d := .tup ds) (by simp) (by simp)
    obtain ⟨a, vs, rfl, g, r, _⟩ := l.tup
    exact ⟨a, vs, rfl, .inr ⟨SqT.of g, we _ _ _ _ _ (so.pin (es1.pin fun _ => nofun)).1 (so.pin (es1.pin fun _ => nofun)).2 walkET⟩⟩
/-! ### comprehensions -/
theorem wipe_len (σ : L2.St) : ∀ vs : List Nat, (wipe σ vs).length = σ.length := L2.wipe_length σ
theorem wipe_get {σ : L2.St} {j : Nat} : ∀ {vs : List Nat}, j ∉ vs → (wipe σ vs)[j]? = σ[j]?
  | [], _ => rfl
  | v :: vs, h => by
    simp only [List.mem_cons, not_or] at h
    simp only [wipe]
    rw [List.getElem?_set_ne (Ne.symm h.1)]
    exact wipe_get h.2
theorem wipe_in {σ : L2.St} {j : Nat} : ∀ {vs : List Nat}, j ∈ vs → j < σ.length → (wipe σ vs)[j]? = some none
  | [], h, _ => by simp at h
  | v :: vs, h, l => by
    simp only [wipe]
    by_cases e : v = j
    · subst e
      rw [List.getElem?_set_self (by rw [wipe_len]; exact l)]
    · rw [List.getElem?_set_ne e]
      rcases List.mem_cons.mp h with z | z
      · exact absurd z.symm e
      · exact wipe_in z l
theorem wipe_off {vs : List Nat} {σ σ' : L2.St} (h : Off vs σ σ') : wipe σ' vs = wipe σ vs := by
  apply List.ext_getElem?
  intro j
  by_cases hj : j ∈ vs
  · by_cases hl : j < σ.length
    · rw [wipe_in hj hl, wipe_in hj (by rw [h.1]; exact hl)]
    · rw [List.getElem?_eq_none (by rw [wipe_len, h.1]; omega), List.getElem?_eq_none (by rw [wipe_len]; omega)]
  · rw [wipe_get hj, wipe_get hj, h.2 j hj]
theorem unkA_app : ∀ (is js : List Nat) (sl : List Sl), unkA (is ++ js) sl = unkA js (unkA is sl)
  | [], js, sl => rfl
  | i :: is, js, sl => by simp [unkA_app is js]
theorem ES.wiped (h : ES κ ν η B F [] [] σ sl H) : ∀ (vs : List Nat), (∀ i ∈ vs, η.ok i) → ES κ ν η B F [] [] (wipe σ vs) (unkA vs.reverse sl) H
  | [], _ => h
  | v :: vs, ho => by
    have := (ES.wiped h vs fun i hi => ho i (List.mem_cons_of_mem _ hi)).unkI (i := v) (w := none) (.inl (ho v List.mem_cons_self))
    simpa [wipe, unkA_app] using this
theorem unkA_len : ∀ (is : List Nat) (sl : List Sl), (unkA is sl).length = sl.length
  | [], sl => rfl
  | i :: is, sl => by simp [unkA_len is]
theorem unkA_get {j : Nat} : ∀ (is : List Nat) (sl : List Sl), (unkA is sl)[j]? = if j ∈ is ∧ j < sl.length then some .unk else sl[j]?
  | [], sl => by simp
  | i :: is, sl => by
    rw [unkA_cons, unkA_get is]
    simp only [List.length_set, List.mem_cons]
    by_cases h1 : j ∈ is ∧ j < sl.length
    · rw [if_pos h1, if_pos ⟨.inr h1.1, h1.2⟩]
    · rw [if_neg h1]
      by_cases h2 : i = j
      · subst h2
        by_cases h3 : i < sl.length
        · rw [if_pos ⟨.inl rfl, h3⟩, List.getElem?_set_self h3]
        · rw [if_neg (by omega), List.set_eq_of_length_le (by omega)]
      · rw [List.getElem?_set_ne h2, if_neg]
        rintro ⟨h3 | h3, h4⟩
        · exact h2 h3.symm
        · exact h1 ⟨h3, h4⟩
theorem unkA_rev (is : List Nat) (sl : List Sl) : unkA is.reverse sl = unkA is sl := by
  apply List.ext_getElem?
  intro j
  rw [unkA_get, unkA_get]
  simp
theorem ES.wipe' (h : ES κ ν η B F [] [] σ sl H) (vs : List Nat) (ho : ∀ i ∈ vs, η.ok i) : ES κ ν η B F [] [] (wipe σ vs) (unkA vs sl) H := by
  rw [← unkA_rev]; exact h.wiped vs ho
/-- the slots of which nothing is said may hold anything -/
theorem ES.off {vs : List Nat} {σ' : L2.St} (h : ES κ ν η B F [] [] σ sl H) (o : Off vs σ σ') (ho : ∀ i ∈ vs, η.ok i) (hu : ∀ j, j ∈ vs → j < sl.length → sl[j]? = some .unk) : ES κ ν η B F [] [] σ' sl H := by
  -- one place after the other
  have key : ∀ (ws : List Nat) (σ1 : L2.St), (∀ i ∈ ws, η.ok i) → (∀ j, j ∈ ws → j < sl.length → sl[j]? = some .unk) → Off ws σ1 σ' → ES κ ν η B F [] [] σ1 sl H → ES κ ν η B F [] [] σ' sl H := by
    intro ws
    induction ws with
    | nil =>
      intro σ1 _ _ o1 h1
      have : σ' = σ1 := List.ext_getElem? fun j => o1.2 j (by simp)
      rw [this]; exact h1
    | cons w ws ih =>
      intro σ1 ho1 hu1 o1 h1
      by_cases hl : w < σ1.length
      · have hw : w < sl.length := by rw [← h1.ls]; exact hl
        have e : σ'[w]? = some (σ'[w]'(by rw [o1.1]; exact hl)) := List.getElem?_eq_getElem _
        refine ih (σ1.set w (σ'[w]'(by rw [o1.1]; exact hl))) (fun j hj => ho1 j (List.mem_cons_of_mem _ hj)) (fun j hj => hu1 j (List.mem_cons_of_mem _ hj)) ⟨by simp [o1.1], fun j hj => ?_⟩ ?_
        · by_cases ej : w = j
          · subst ej
            rw [List.getElem?_set_self hl]; exact e
          · rw [List.getElem?_set_ne ej]
            exact o1.2 j (by simp only [List.mem_cons, not_or]; exact ⟨Ne.symm ej, hj⟩)
        · have := h1.unkI (i := w) (w := σ'[w]'(by rw [o1.1]; exact hl)) (.inl (ho1 w List.mem_cons_self))
          rwa [set_self (hu1 w List.mem_cons_self hw)] at this
      · refine ih σ1 (fun j hj => ho1 j (List.mem_cons_of_mem _ hj)) (fun j hj => hu1 j (List.mem_cons_of_mem _ hj)) ⟨o1.1, fun j hj => ?_⟩ h1
        by_cases ej : w = j
        · subst ej
          rw [List.getElem?_eq_none (by rw [o1.1]; omega), List.getElem?_eq_none (by omega)]
        · exact o1.2 j (by simp only [List.mem_cons, not_or]; exact ⟨Ne.symm ej, hj⟩)
  exact key vs σ ho hu o h
end
end Dl

namespace Dl
open PySem L2 Wp
def W0 : WX := fun _ _ _ _ => False
section
variable {κ : Ctx} {ν ν' : List Addr} {η : Hn} {W : WX} {B : Hp} {F Z : List VS} {τ : List V} {ts : List Sl} {σ : L2.St} {sl : List Sl} {H H' : Hp} {v x : V} {s : Sl} {d : D} {ta tb tc te tf : TE} {ma mb mc m : EM} {tr : TA} {as : List EM} {t u : TS} {a b : SM}
theorem sim_yes : SimT κ η W tYes yes := fun {F0 st ν B F τ ts σ sl H Q} so es w => by
  simp only [yes_ap, wp] at w
  obtain ⟨s, r, b, e1, e2, k⟩ := w
  simp only [List.cons.injEq] at e1
  obtain ⟨rfl, rfl⟩ := e1
  simp at e2
  subst e2
  exact k _ _ H so es
/-- all that passes stays for a while -/
theorem perm_pin {p : VS} {F : List VS} : (zA [] [] σ sl (zT τ ts ++ F)).Perm (zA τ ts σ sl F) := by
  simp only [zA, zT, List.map_nil, List.zip_nil_left, List.nil_append]
  have := List.perm_append_comm (l₁ := σ.zip sl) (l₂ := (τ.map some).zip ts)
  have := this.append_right F
  simpa [List.append_assoc] using this
theorem ES.pinAll (h : ES κ ν η B F τ ts σ sl H) : ES κ ν η B (zT τ ts ++ F) [] [] σ sl H :=
  ⟨rfl, h.ls, fun w i m => by simp at m, h.er.perm (perm_pin (p := (none, .unk))).symm, h.bs, fun a d m => h.fr a d (by simp only [zT, List.map_nil, List.zip_nil_left, List.nil_append] at m; exact List.mem_append_right _ m), h.sf,
    fun y q => ⟨(h.ex y q).1, exr_sub (h.ex y q).2 fun a ⟨d, m⟩ => ⟨d, (perm_pin (p := (none, .unk))).mem_iff.mp m⟩⟩⟩
theorem ES.unpinAll {F' : List VS} {sl0 : List Sl} {H0 : Hp} (h0 : ES κ ν' η B F' τ ts σ sl0 H0) (h : ES κ ν η B (zT τ ts ++ F) [] [] σ sl H) : ES κ ν η B F τ ts σ sl H :=
  ⟨h0.lt, h.ls, h0.al, h.er.perm (perm_pin (p := (none, .unk))), h.bs, fun a d m => by
      rcases List.mem_append.mp m with m | m
      · exact h0.fr a d (List.mem_append_left _ m)
      · exact h.fr a d (by simpa [zT] using m), h.sf, fun y q => ⟨(h.ex y q).1, exr_sub (h.ex y q).2 fun a ⟨d, m⟩ => ⟨d, (perm_pin (p := (none, .unk))).mem_iff.mpr m⟩⟩⟩
theorem perm_fr {p : VS} : (zA τ ts σ sl (p :: F)).Perm (p :: zA τ ts σ sl F) := by
  have := List.perm_middle (l₁ := zT τ ts ++ σ.zip sl) (a := p) (l₂ := F)
  simpa [zA, List.append_assoc] using this
/-- a held thing among what stays is changed -/
theorem ES.frameWrite {D' : Addr} {o : HO} {d' : D} (h : ES κ ν η B ((some (.ref D'), .ow d) :: F) [] [] σ sl H) (hB : B D' = none) (c : Cell κ ν (OA ((some (.ref D'), .ow d) :: zA [] [] σ sl F)) (upd H D' o) D' d') :
    ES κ ν η B ((some (.ref D'), .ow d') :: F) [] [] σ sl (upd H D' o) := by
  have er := h.er.perm perm_fr
  have er2 := er.write c
  obtain ⟨w0, hw0, cw0⟩ := OA.cl er ⟨d, List.mem_cons_self⟩
  refine ⟨rfl, h.ls, fun w i m => by simp at m, er2.perm perm_fr.symm, h.bs.mut hB hw0 cw0, h.fr, h.sf, fun y q => ⟨(h.ex y q).1, ?_⟩⟩
  have z := (h.ex y q).2
  have k : ∀ b, OA (zA [] [] σ sl ((some (.ref D'), .ow d') :: F)) b → OA (zA [] [] σ sl ((some (.ref D'), .ow d) :: F)) b := fun b ⟨f, m⟩ => by
    have := perm_fr.mem_iff.mp m
    rcases List.mem_cons.mp this with e | m
    · cases e
      exact ⟨d, perm_fr.mem_iff.mpr List.mem_cons_self⟩
    · exact ⟨f, perm_fr.mem_iff.mpr (List.mem_cons_of_mem _ m)⟩
  refine (exr_sub z k).keep fun b u nb hb => ?_
  rw [upd_ne]
  · exact hb
  · rintro rfl
    exact nb ⟨d', perm_fr.mem_iff.mpr List.mem_cons_self⟩
/-- the walk of a comprehension, whatever is walked -/
theorem lc_run {J : It} {p : VS} {ds : List D} {KK : List D × List Sl → Sto → Prop} {XX : XS → Sto → Prop} {g : TG} {tg : Tg} {tt : TT} {own : List Nat} (hg : SimG κ η g tg) (ht : SimT κ η W0 tt mc) (he : SimE κ η W0 te m) (hn : ∀ j, j ∈ tg.nms → j ∈ own) (ho : ∀ i ∈ own, η.ok i)
    {F0 F1 : List VS} {st : Sto} {ν1 : List Addr} {sl1 : List Sl} {H1 : Hp} {Q : VK} (es : ES κ ν η B F τ ts σ sl H) (fe : ∃ st0, F = zS ν st0 ++ F0) (hc : ∀ p ∈ η.cap, p ∈ F0)
    (so1 : StOk η B (p :: (zT τ ts ++ F0)) ν1 F1 st) (es1 : ES κ ν1 η B F1 [] [] σ sl1 H1) (wk : ∀ ν H2 Z, Xt κ B H2 → ER κ ν H2 Z → p ∈ Z → (∀ i d, ds[i]? = some d → J.go i H2 ∧ ∀ x H3, J.yld i H2 x H3 → NewV κ ν (OA Z) H2 (.sh d) x H3) ∧ J.stop ds.length H2) (wr : wp (lcL tg own mc m ds [] (unkA own sl1)) st KK XX)
    (hK : ∀ acc sl' st ν v H', KK (acc, sl') st → StOk η B F0 ν (zS ν st ++ F0) st → ES κ ν η B (zS ν st ++ F0) (v :: τ) (.ow (.lst acc) :: ts) σ sl' H' → Q v H') : tLc (fun _ _ R => R J H1) g tt te own σ H Q := by
  intro Dd hD
  -- the list that grows
  have esA0 : ES κ ν1 η B ((some (.ref Dd), .ow (.lst [])) :: F1) [] [] σ sl1 (upd H1 Dd (.lst [])) :=
    (es1.fresh (o := .lst []) (d := .lst []) hD ⟨[], upd_same, by simp [RDs]⟩).pin fun _ => nofun
  obtain ⟨soA, esA⟩ := so1.pin esA0
  have hB : B Dd = none := xt_none es1.bs hD
  have esW := esA.wipe' own ho
  have un0 : ∀ j, j ∈ own → j < (unkA own sl1).length → (unkA own sl1)[j]? = some .unk := fun j hj hl => by
    rw [unkA_get, if_pos ⟨hj, by rw [unkA_len] at hl; exact hl⟩]
  let Inv : Nat → Hp → Prop := fun i H' => i ≤ ds.length ∧ ∃ ν F st acc sl', StOk η B ((some (.ref Dd), .ow (.lst acc)) :: p :: (zT τ ts ++ F0)) ν F st ∧ ES κ ν η B F [] [] (wipe σ own) sl' H' ∧ (∀ j, j ∈ own → j < sl'.length → sl'[j]? = some .unk) ∧
    wp (lcL tg own mc m (ds.drop i) acc sl') st KK XX
  refine ⟨fun i k H' => k = ds.length - i ∧ Inv i H', ⟨_, rfl, Nat.zero_le _, ν1, _, st, [], _, soA, esW, un0, by simpa using wr⟩, ?_⟩
  rintro i k H' ⟨rfl, hi', ν, F, st, acc, sl', so', es', un', w'⟩
  have hpF : p ∈ zA [] [] (wipe σ own) sl' F := by rw [so'.fe]; simp [zA]
  obtain ⟨go, stop⟩ := wk ν H' _ es'.bs es'.er hpF
  rcases Nat.lt_or_ge i ds.length with hlt | hge
  · refine .inr ?_
    have e : ds[i]? = some ds[i] := List.getElem?_eq_getElem hlt
    obtain ⟨g1, yl⟩ := go i _ e
    refine ⟨g1, fun H2 => ∃ m', m' < ds.length - i ∧ (m' = ds.length - (i + 1) ∧ Inv (i + 1) H2), fun H2 n => n, fun x H2 y => ?_⟩
    rw [List.drop_eq_getElem_cons hlt, lcL_cons] at w'
    cases q : tg.set ds[i] sl' with
    | none => rw [q] at w'; exact w'.elim
    | some sl2 =>
      rw [q] at w'
      simp only [lcTu_some, wp_bnd, wp_noX] at w'
      have es2 : ES κ ν η B F [x] [.sh ds[i]] (wipe σ own) sl' H2 := es'.newV (yl x H2 y)
      refine hg es2 q fun σ2 o2 es3 => ?_
      have o3 : Off own (wipe σ own) σ2 := ⟨o2.1, fun j hj => o2.2 j fun z => hj (hn j z)⟩
      have w2 : wipe σ2 own = wipe σ own := by
        rw [wipe_off o3]
        apply List.ext_getElem?
        intro j
        by_cases hj : j ∈ own
        · by_cases hl : j < σ.length
          · rw [wipe_in hj hl, wipe_in hj (by rw [wipe_len]; exact hl)]
          · rw [List.getElem?_eq_none (by rw [wipe_len, wipe_len]; omega), List.getElem?_eq_none (by rw [wipe_len]; omega)]
        · rw [wipe_get hj]
      refine ⟨w2, ?_⟩
      -- behind a turn
      have again : ∀ ν F st acc3 sl3 H3, StOk η B ((some (.ref Dd), .ow (.lst acc3)) :: p :: (zT τ ts ++ F0)) ν F st → ES κ ν η B F [] [] σ2 sl3 H3 → wp (lcL tg own mc m (ds.drop (i + 1)) acc3 (unkA own sl3)) st KK XX →
          ∃ m', m' < ds.length - i ∧ (m' = ds.length - (i + 1) ∧ Inv (i + 1) H3) := fun ν F st acc3 sl3 H3 s3 e3 wz =>
        ⟨_, by omega, rfl, by omega, ν, F, st, acc3, unkA own sl3, s3, by rw [← w2]; exact e3.wipe' own ho, fun j hj hl => by rw [unkA_get, if_pos ⟨hj, by rw [unkA_len] at hl; exact hl⟩], wz⟩
      refine ht so' es3 (wp_mono w' (fun e st we => ?_) fun _ _ z => z.elim)
      obtain ⟨s, e1, we⟩ := wp_topK we
      obtain ⟨ets, esl⟩ := e
      replace e1 : ets = [s] := e1
      subst e1
      simp only [lcTs_ap] at we
      cases q2 : getV esl s with
      | none => rw [q2] at we; exact we.elim
      | some dd =>
        rw [q2] at we
        cases dd with
        | bl c =>
          refine ⟨s, [], c, rfl, q2, fun ν F H3 so4 es4 => ?_⟩
          simp only [lcTk_bl, wp_iteC] at we
          cases c with
          | false =>
            rw [if_neg (by decide)]
            simp only [Bool.false_eq_true, if_false] at we
            exact again ν F st acc esl H3 so4 es4 we
          | true =>
            rw [if_pos rfl]
            simp only [if_true, wp_bnd, wp_noX] at we
            refine he so4 es4 (wp_mono we (fun e st we2 ν F y H4 so5 es5 => ?_) fun _ _ z => z.elim)
            obtain ⟨s2, f1, we2⟩ := wp_topK we2
            obtain ⟨ets2, esl2⟩ := e
            replace f1 : ets2 = [s2] := f1
            subst f1
            have fin : ∀ dv, getV esl2 s2 = some dv → (∀ i, s2 ≠ .al i) → wp (iteC (decide (acc.length < sizeD)) (lcL tg own mc m (ds.drop (i + 1)) (acc ++ [dv]) (unkA own esl2)) .bad) st KK XX →
                ∃ acc', H4 Dd = some (.lst acc') ∧ acc'.length < sizeLine ∧ ∃ m', m' < ds.length - i ∧ (m' = ds.length - (i + 1) ∧ Inv (i + 1) (upd H4 Dd (.lst (acc' ++ [y])))) := fun dv hv na wz => by
              simp only [wp_iteC] at wz
              split at wz
              · rename_i hz
                simp only [decide_eq_true_eq] at hz
                have rd := ES.pop1 es5 hv (fun i ei => absurd ei (na i))
                have es6 := es5.pop.unp so5
                obtain ⟨aa, ea, vs, gg, rr⟩ := (es6.er.perm perm_fr).ok (some (.ref Dd), .ow (.lst acc)) List.mem_cons_self
                cases ea
                have rd2 : RD κ ν (OA ((some (.ref Dd), .ow (.lst acc)) :: zA [] [] σ2 esl2 (zS ν st ++ p :: (zT τ ts ++ F0)))) H4 dv y := rd.mono fun a _ _ ⟨f, mm⟩ => ⟨f, by
                  rw [so5.fe]
                  have := perm_fr.mem_iff.mpr mm
                  simp only [zA] at this ⊢
                  simp only [List.mem_append, List.mem_cons] at this ⊢
                  rcases this with h | h | h | h | h
                  · exact .inl h
                  · exact .inr (.inl h)
                  · exact .inr (.inr (.inr (.inl h)))
                  · exact .inr (.inr (.inl h))
                  · exact .inr (.inr (.inr (.inr h)))⟩
                have kk : ∀ b u, ¬ OA ((some (V.ref Dd), Sl.ow (.lst acc)) :: zA [] [] σ2 esl2 (zS ν st ++ p :: (zT τ ts ++ F0))) b → H4 b = some u → upd H4 Dd (.lst (vs ++ [y])) b = some u := fun b u nb hb => by
                  rw [upd_ne]
                  · exact hb
                  · rintro rfl
                    exact nb ⟨_, List.mem_cons_self⟩
                refine ⟨vs, gg, by rw [← rr.len]; exact szDl hz, ?_⟩
                have es7 := es6.frameWrite (d' := .lst (acc ++ [dv])) hB ⟨vs ++ [y], upd_same, (rr.keep kk).app (RDs.one (rd2.keep kk))⟩
                obtain ⟨so8, es8⟩ := (so5.unpin (fun q m => List.mem_cons_of_mem _ (List.mem_append_right _ (hc q m)))).pin es7
                exact again ν _ st (acc ++ [dv]) esl2 _ so8 es8 wz
              · exact wz.elim
            cases s2 with
            | sh dv => exact fin dv (by simp) (fun _ => nofun) we2
            | ow dv => exact fin dv (by simp) (fun _ => nofun) we2
            | _ => simp only [lcEl, wp_iteC] at we2; split at we2 <;> exact we2.elim
        | _ => exact we.elim
  · refine .inl ?_
    have : i = ds.length := Nat.le_antisymm hi' hge
    subst this
    rw [List.drop_length, lcL_nil] at w'
    refine ⟨stop, ?_⟩
    -- the slots as they were
    have e4 : ES κ ν η B F [] [] σ sl' H' := es'.off ⟨(wipe_len σ own).symm, fun j hj => (wipe_get hj).symm⟩ ho un'
    -- the pin goes
    have e5 : ES κ ν η B ((some (.ref Dd), .ow (.lst acc)) :: (zT τ ts ++ (zS ν st ++ F0))) [] [] σ sl' H' := by
      have pm : F.Perm (p :: (some (V.ref Dd), Sl.ow (.lst acc)) :: (zT τ ts ++ (zS ν st ++ F0))) := by
        rw [so'.fe]
        have h1 : (zS ν st ++ (some (V.ref Dd), Sl.ow (.lst acc)) :: p :: (zT τ ts ++ F0)).Perm ((some (V.ref Dd), Sl.ow (.lst acc)) :: p :: (zS ν st ++ (zT τ ts ++ F0))) := List.perm_middle.trans (List.Perm.cons _ List.perm_middle)
        refine h1.trans ((List.Perm.swap _ _ _).trans (List.Perm.cons _ (List.Perm.cons _ ?_)))
        rw [← List.append_assoc, ← List.append_assoc]
        exact List.perm_append_comm.append_right _
      exact (e4.permF pm).framed
    have e6 := ES.unpinAll es e5.framed
    refine hK acc sl' st ν _ _ w' ⟨rfl, so'.ln, so'.nb, so'.np, so'.pr, hc⟩ ⟨by simp [e6.lt], e6.ls, fun w i m => ?_, ?_, e6.bs, fun a d m => ?_, e6.sf, fun y q => ⟨(e6.ex y q).1, exr_sub (e5.ex y q).2 fun a ⟨d, m⟩ => ⟨d, ?_⟩⟩⟩
    · simp only [List.zip_cons_cons, List.mem_cons, Prod.mk.injEq, reduceCtorEq, and_false, false_or] at m
      exact e6.al w i m
    · have z := e5.er.perm perm_fr
      have z2 := z.perm (List.Perm.cons _ (perm_pin (p := (none, .unk))))
      simpa [zA, zT] using z2
    · simp only [zT, List.map_cons, List.zip_cons_cons, List.cons_append, List.mem_cons, Prod.mk.injEq, Option.some.injEq, V.ref.injEq, Sl.ow.injEq] at m
      rcases m with ⟨y1, _⟩ | m
      · rw [y1]; exact hB
      · exact e6.fr a d m
    · refine perm_fr.mem_iff.mpr ?_
      simp only [zA, zT, List.map_cons, List.zip_cons_cons, List.cons_append, List.mem_cons] at m
      rcases m with m | m
      · rw [m]; exact List.mem_cons_self
      · exact List.mem_cons_of_mem _ ((perm_pin (p := (none, .unk))).mem_iff.mpr m)
theorem sim_lc {wi : TI} {it : IM} {g : TG} {tg : Tg} {tt : TT} {own : List Nat} (hi : SimI κ η W wi it) (hg : SimG κ η g tg) (ht : SimT κ η W0 tt mc) (he : SimE κ η W0 te m) (hn : ∀ j, j ∈ tg.nms → j ∈ own) (ho : ∀ i ∈ own, η.ok i) :
    SimE κ η W (tLc wi g tt te own) (lcE it tg own mc m) := by
  intro F0 st ν B F τ ts σ sl H Q so es w
  simp only [lcE_ap, wp_bnd] at w
  have esP : ES κ ν η B (zS ν st ++ (zT τ ts ++ F0)) [] [] σ sl H := es.pinAll.permF (by
    rw [so.fe, ← List.append_assoc, ← List.append_assoc]
    exact List.perm_append_comm.append_right _)
  have soP : StOk η B (zT τ ts ++ F0) ν (zS ν st ++ (zT τ ts ++ F0)) st := ⟨rfl, so.ln, so.nb, so.np, so.pr, fun q m => List.mem_append_right _ (so.cp q m)⟩
  refine hi soP esP (wp_mono w (fun r st wr ν1 F1 J p H1 so1 es1 wk => ?_) fun x st z ν1 F1 c d H' so1 e1 e2 => ?_)
  · obtain ⟨ds, sl1⟩ := r
    simp only [lcK_ap, wp_bnd] at wr
    exact lc_run (XX := XP κ η W B F0 σ) hg ht he hn ho es ⟨_, so.fe⟩ so.cp so1 es1 (fun ν H2 Z _ er m => wk ν H2 Z er m) wr fun acc sl' st ν v H' w' so' es' => w' ν _ v H' so' es'
  · -- an error while the walked thing is made
    have pm : F1.Perm (zT τ ts ++ (zS ν1 st ++ F0)) := by
      rw [so1.fe, ← List.append_assoc, ← List.append_assoc]
      exact List.perm_append_comm.append_right _
    have e3 : ES κ ν1 η B (zS ν1 st ++ F0) [] [] σ x.2 H' := (ES.unpinAll es (e1.permF pm)).drop
    exact z ν1 _ c d H' ⟨rfl, so1.ln, so1.nb, so1.np, so1.pr, so.cp⟩ e3 (e2.mono fun a _ _ ⟨f, mm⟩ => ⟨f, by
      rcases List.mem_append.mp mm with mm | mm
      · exact List.mem_append_left _ mm
      · exact List.mem_append_right _ (pm.mem_iff.mpr (List.mem_append_right _ mm))⟩)
end
end Dl

namespace Dl
open PySem L2 Wp
/-- nothing is handled now; errors are kept in the slot i -/
def ηt (i : Nat) : Hn := ⟨i, 0, .none, none, none, [], true, []⟩
def η0 : Hn := ηt 1000000
def η1 (x : Addr) : Hn := ⟨1000000, 0, .none, none, some (.ref x), [], true, []⟩
def ηx (sf : Option V) (ν : List Addr) (p : Bool) (i : Nat) (cap : List VS) : Hn := ⟨i, 0, .none, none, sf, ν, p, cap⟩
/-- the same where there is a store -/
def ηg (ν : List Addr) (i : Nat) : Hn := ⟨i, 0, .none, none, none, ν, false, []⟩
def η1g (ν : List Addr) (x : Addr) : Hn := ⟨1000000, 0, .none, none, some (.ref x), ν, false, []⟩
theorem ok0 {i : Nat} : η0.ok i := .inl rfl
theorem okt {i j : Nat} : (ηt j).ok i := .inl rfl
theorem ok1 {x : Addr} {i : Nat} (h : i ≠ 0) : (η1 x).ok i := .inr h
section
variable {P : Program} {w : World} {K : PySem.W.Frag} {mg : Str → Option Value} {base : Heap} {κ : Ctx} {k : Nat}
theorem zip_start {N : List Str} {vs : List V} {ds : List D} (l : vs.length = ds.length) : (L2.start N vs).zip (initS N.length ds) = zV vs ds ++ List.replicate (N.length - vs.length) (none, Sl.unk) := by
  simp only [L2.start, initS_ap, zV, l]
  rw [List.zip_append (by simp [l])]
  congr 1
  rw [List.zip_replicate]
  simp
theorem er_unks {κ : Ctx} {ν : List Addr} {H : Hp} {Z : List VS} (h : ER κ ν H Z) : ∀ n, ER κ ν H (List.replicate n (none, Sl.unk) ++ Z)
  | 0 => by simpa using h
  | n + 1 => by simpa [List.replicate_succ] using (er_unks h n).pushU none (.inl rfl)
theorem start_len {N : List Str} {vs : List V} (h : vs.length ≤ N.length) : (L2.start N vs).length = N.length := by simp [L2.start]; omega
theorem es_start {κ : Ctx} {ν : List Addr} {η : Hn} {N : List Str} {vs : List V} {ds : List D} {F : List VS} {B H : Hp} (hsf : η.sf = none) (hB : Xt κ B H) (l : vs.length = ds.length) (ln : vs.length ≤ N.length) (hN : N.length < 1000000) (er : ER κ ν H (zV vs ds ++ F)) : ES κ ν η B F [] [] (L2.start N vs) (initS N.length ds) H := by
  have il : (initS N.length ds).length = N.length := by simp [initS_ap]; omega
  refine ⟨rfl, by rw [start_len ln, il], fun v i m => by simp at m, ?_, hB, fun a d m => ?_, fun u hu => (by rw [hsf] at hu; cases hu), fun x hx => ?_⟩
  · simp only [zA, zT, List.map_nil, List.zip_nil_left, List.nil_append, zip_start l]
    have := er_unks er (N.length - vs.length)
    refine this.perm ?_
    rw [← List.append_assoc]
    exact (List.perm_append_comm).append_right F
  · simp only [zT, List.map_nil, List.zip_nil_left, List.nil_append, zip_start l] at m
    rcases List.mem_append.mp m with m | m
    · have := List.of_mem_zip m
      simp at this
    · have := List.eq_of_mem_replicate m
      simp at this
  · have m := List.mem_of_getElem? hx
    simp only [initS_ap, List.mem_append, List.mem_map, List.mem_replicate] at m
    rcases m with ⟨_, _, e⟩ | ⟨_, e⟩ <;> cases e
theorem fn_arity {n : Nat} {k : Nat} {body : SM} {ds : List D} {st : Sto} {kk : Sl → Sto → Prop} {xx : Exc → Sto → Prop} (hw : wp (mkFn k n body ds) st kk xx) : ds.length = k ∧ wp (bnd (reX (·.1) (body (initS n ds))) endF) st kk xx := by
  simp only [mkFn_ap, wp_iteC] at hw
  split at hw
  · rename_i z; exact ⟨of_decide_eq_true z, hw⟩
  · exact hw.elim
theorem so_start {η : Hn} {B : Hp} {F : List VS} (h : η.nu = []) (hk : η.cap = []) : StOk η B F [] F [] := ⟨rfl, rfl, by simp, by rw [h]; exact List.nil_prefix, fun _ => rfl, fun p z => by rw [hk] at z; cases z⟩
theorem fn_body {N ps : List Str} {body : SM} {j : Nat} {t : TS} {E : XK} {H : Hp} {vs : List V} {Q : VK} (hps : ps.length ≤ N.length) (hN : N.length < 1000000) (hs : SimS κ (ηt j) (fun c d _ H => E c d H) t body) (h : spF κ (mkFn ps.length N.length body) vs H Q E) :
    t { nx := fun _ H' => Q .non H', rt := Q } (L2.start N vs) H := by
  obtain ⟨F', ds, l, er, hw⟩ := h
  obtain ⟨la, hw⟩ := fn_arity hw
  have es := es_start (κ := κ) (N := N) (η := ηt j) rfl (Xt.refl _) l (by rw [l, la]; exact hps) hN er
  simp only [wp_bnd, wp_reX] at hw
  refine hs (so_start rfl rfl) es (wp_mono hw (fun r st wr => ?_) fun x st wx ν F σ c d H' so es' ex => ?_)
  · cases r with
    | nx sl =>
      intro ν F σ H' so es'
      obtain ⟨rfl, rfl, rfl⟩ := so_nil so rfl
      exact wr .non H' es'.bs (fun _ _ z => nomatch z) (fun _ => nofun) ((ER.sub (Z' := σ.zip sl) (by simpa [zA, zT] using es'.er)).push (by simp only [RD]))
    | rt s o =>
      intro v H' rp
      obtain ⟨ν, F, so, er2, bs, fr, na⟩ := rp
      obtain ⟨rfl, rfl, rfl⟩ := so_nil so rfl
      exact wr v H' bs fr na er2
    | bk sl => exact wr.elim
    | ct sl => exact wr.elim
    | ro s1 s2 => exact wr.elim
  · obtain ⟨rfl, rfl, rfl⟩ := so_nil so rfl
    exact wx c d H' es'.bs (ex.mono fun a _ _ ⟨d, m⟩ => ⟨d, List.mem_append_right _ m⟩)
/-- a def with a store of its own, which nobody sees -/
theorem fnZ_arity {n : Nat} {k : Nat} {body : SM} {ds : List D} {st : Sto} {kk : Sl → Sto → Prop} {xx : Exc → Sto → Prop} (hw : wp (mkFnZ k n body ds) st kk xx) : ds.length = k ∧ wp (bnd (bnd (cat (reX (·.1) (body (initS n ds))) chkX) endF) chkV) st kk xx := by
  simp only [mkFnZ_ap, wp_iteC] at hw
  split at hw
  · rename_i z; exact ⟨of_decide_eq_true z, hw⟩
  · exact hw.elim
theorem er_out {H H' : Hp} {F : List VS} {ν : List Addr} {st : Sto} {v : V} {s : Sl} (er0 : ER κ [] H F) (bs : Xt κ H H') (fr : ∀ a d, v = .ref a → s = .ow d → H a = none) (er : ER κ ν H' ((some v, s) :: (zS ν st ++ F))) (hv : isV s = true) (hl : noLocS s = true) : ER κ [] H' ((some v, s) :: F) := by
  have ok : SlOk κ [] (OA ((some v, s) :: (zS ν st ++ F))) H' (some v) s := (er.ok (some v, s) List.mem_cons_self).noL hl
  cases s with
  | sh d =>
    obtain ⟨w, q, r⟩ := ok
    cases q
    exact (er0.ext bs).push (r.mono fun a _ _ ⟨d, m⟩ => ⟨d, List.mem_cons_of_mem _ (List.mem_append_right _ m)⟩)
  | ow d =>
    obtain ⟨a, q, c⟩ := ok
    cases q
    refine er0.adopt bs (fr a d rfl rfl) (c.mono fun b _ _ z => ?_)
    rcases z with ⟨d, m⟩ | rfl
    · exact ⟨d, List.mem_cons_of_mem _ (List.mem_append_right _ m)⟩
    · exact ⟨d, List.mem_cons_self⟩
  | _ => simp [isV] at hv
theorem exr_noL {Y : Addr → Prop} {H : Hp} {ν ν' : List Addr} {x : Exc} {c : Value} {d : Option Addr} (h : ExR κ ν Y H x c d) (n : noLocs x.vs = true) : ExR κ ν' Y H x c d := by
  obtain ⟨e, h⟩ := h
  refine ⟨e, ?_⟩
  rcases h with h | ⟨dd, vs, e1, m, g, l, r⟩
  · exact .inl h
  · exact .inr ⟨dd, vs, e1, m, g, l, r.noL n⟩
theorem fn_bodyZ {N ps : List Str} {body : SM} {j : Nat} {t : TS} {E : XK} {H : Hp} {vs : List V} {Q : VK} (hps : ps.length ≤ N.length) (hN : N.length < 1000000) (hs : SimS κ (ηg [] j) (fun c d _ H => E c d H) t body) (h : spF κ (mkFnZ ps.length N.length body) vs H Q E) :
    t { nx := fun _ H' => Q .non H', rt := Q } (L2.start N vs) H := by
  obtain ⟨F', ds, l, er, hw⟩ := h
  obtain ⟨la, hw⟩ := fnZ_arity hw
  have es := es_start (κ := κ) (N := N) (η := ηg [] j) rfl (Xt.refl _) l (by rw [l, la]; exact hps) hN er
  simp only [wp_bnd, wp_cat, wp_reX] at hw
  refine hs (so_start rfl rfl) es (wp_mono hw (fun r st wr => ?_) fun x st wx ν F σ c d H' so es' ex => ?_)
  · cases r with
    | nx sl =>
      intro ν F σ H' so es'
      simp only [endF_nx, wp, chkV_ap, noLocS_sh, noLoc_non, isV_sh, Bool.and_self, iteC_t] at wr
      exact wr .non H' es'.bs (fun _ _ z => nomatch z) (fun _ => nofun) ((ER.ext (ER.sub er) es'.bs).push (by simp only [RD]))
    | rt s o =>
      intro v H' rp
      obtain ⟨ν, F, so, er2, bs, fr, na⟩ := rp
      simp only [endF_rt, wp, chkV_ap, wp_iteC, Bool.and_eq_true] at wr
      split at wr
      · rename_i z
        rw [so.fe] at er2
        exact wr v H' bs fr na (er_out (ER.sub er) bs fr er2 z.1 z.2)
      · exact wr.elim
    | bk sl => exact wr.elim
    | ct sl => exact wr.elim
    | ro s1 s2 => exact wr.elim
  · simp only [chkX_ap, wp_iteC] at wx
    split at wx
    · rename_i z
      refine wx c d H' es'.bs (exr_noL (ex.mono fun a _ _ ⟨d, m⟩ => ⟨d, ?_⟩) z)
      rw [so.fe]
      exact List.mem_append_right _ (List.mem_append_right _ m)
    · exact wx.elim
/-- a def that reads and changes the store -/
def offH (ν : List Addr) (H : Hp) : Hp := fun a => if a ∈ ν then none else H a
theorem offH_ext {ν : List Addr} {H : Hp} : Xt κ (offH ν H) H := Xt.of fun a o e => by
  unfold offH at e
  split at e
  · cases e
  · exact e
theorem offH_to {ν : List Addr} {H H' : Hp} (h : Xt κ (offH ν H) H') : XtO ν H H' := ⟨fun a o n e nt => h.kp a o (by unfold offH; rw [if_neg n]; exact e) nt, fun a ps n e => h.tb a ps (by unfold offH; rw [if_neg n]; exact e)⟩
theorem offH_no {ν : List Addr} {H : Hp} {a : Addr} (h : offH ν H a = none) (n : a ∉ ν) : H a = none := by unfold offH at h; rwa [if_neg n] at h
theorem offH_in {ν : List Addr} {H : Hp} {a : Addr} (n : a ∈ ν) : offH ν H a = none := by unfold offH; rw [if_pos n]
theorem so_startG {η : Hn} {H : Hp} {F : List VS} {ν : List Addr} {st : Sto} (h : η.nu = ν) (hp : η.pr = false) (hk : η.cap = []) (l : ν.length = st.length) : StOk η (offH ν H) F ν (zS ν st ++ F) st := ⟨rfl, l, fun a m => offH_in m, by rw [h]; exact List.prefix_refl _, (fun z => by rw [hp] at z; cases z), (fun p z => by rw [hk] at z; cases z)⟩
theorem fn_bodyG {N ps : List Str} {body : SM} {j : Nat} {t : TS} {E : XK} {H : Hp} {vs : List V} {Q : VK} (hps : ps.length ≤ N.length) (hN : N.length < 1000000) (hs : ∀ ν, SimS κ (ηg ν j) (fun c d _ H => E c d H) t body) (h : spG κ (mkFn ps.length N.length body) vs H Q E) :
    t { nx := fun _ H' => Q .non H', rt := Q } (L2.start N vs) H := by
  obtain ⟨F', ν0, st0, ds, l, lν, er, hw⟩ := h
  obtain ⟨la, hw⟩ := fn_arity hw
  have es := es_start (κ := κ) (N := N) (η := ηg ν0 j) rfl (offH_ext (ν := ν0)) l (by rw [l, la]; exact hps) hN er
  simp only [wp_bnd, wp_reX] at hw
  refine hs ν0 (so_startG rfl rfl rfl lν) es (wp_mono hw (fun r st wr => ?_) fun x st wx ν F σ c d H' so es' ex => ?_)
  · cases r with
    | nx sl =>
      intro ν F σ H' so es'
      have er2 : ER κ ν H' (σ.zip sl ++ (zS ν st ++ F')) := by have := es'.er; rw [so.fe] at this; simpa [zA, zT] using this
      exact wr ν .non H' so.np so.ln (offH_to es'.bs) (fun a m n => offH_no (so.nb a m) n) (fun _ _ z => nomatch z) (fun _ => nofun) ((ER.sub er2).push (by simp only [RD]))
    | rt s o =>
      intro v H' rp
      obtain ⟨ν, F, so, er2, bs, fr, na⟩ := rp
      rw [so.fe] at er2
      refine wr ν v H' so.np so.ln (offH_to bs) (fun a m n => offH_no (so.nb a m) n) (fun a d e1 e2 => ?_) na er2
      refine offH_no (fr a d e1 e2) fun m => ?_
      subst e1 e2
      have dj := List.pairwise_cons.mp er2.dj
      obtain ⟨d', m'⟩ := (oa_zS so.ln).mpr (so.np.subset m)
      exact dj.1 _ (List.mem_append_left _ m') a d d' rfl rfl
    | bk sl => exact wr.elim
    | ct sl => exact wr.elim
    | ro s1 s2 => exact wr.elim
  · have er2 : ER κ ν H' (σ.zip x.2 ++ (zS ν st ++ F')) := by have := es'.er; rw [so.fe] at this; simpa [zA, zT] using this
    rw [so.fe] at ex
    exact wx ν c d H' so.np so.ln (offH_to es'.bs) (fun a m n => offH_no (so.nb a m) n) (ER.sub er2) (ex.mono fun a _ _ ⟨d, m⟩ => ⟨d, List.mem_append_right _ m⟩)
/-- a def of the program -/
theorem fn_mk {x qual : Str} {st : Stmt} {f : Addr} {fd : FuncData} {N ps : List Str} {body : SM} (F : Fun K x qual st f fd) (S : FnScope N ps (defScope st)) (b : Binds K fd ps [])
    (hps : ps.length ≤ N.length) (hN : N.length < 1000000) (j : Nat)
    (h : ∀ (cdv : Value) (A : Around) (outer : List PySem.Env) (s : Shared) (H : Hp) (E : XK), Room k (A.deeper (PyProof.Rows.envOfC qual (defScope st) s.heap.objs.size f cdv)) →
      ∃ t, PSs (cxOf (L2.CX P w) P w K mg base N qual (defScope st) f cdv A outer s H E) (defBody st) t ∧ SimS κ (ηt j) (fun c d _ H => E c d H) t body) : FnR P w K mg base (L2.CX P w) (k + 1) f (spF κ (mkFn ps.length N.length body)) := by
  refine Wp.Fun.okR F S b (fun vs H Q E ⟨F', ds, l, er, hw⟩ => l.trans (fn_arity hw).1) fun cdv A outer s H vs Q E hr hsp => ?_
  obtain ⟨t, ht, hs⟩ := h cdv A outer s H E hr
  exact ⟨t, ht, fn_body hps hN hs hsp⟩
theorem fn_mkZ {x qual : Str} {st : Stmt} {f : Addr} {fd : FuncData} {N ps : List Str} {body : SM} (F : Fun K x qual st f fd) (S : FnScope N ps (defScope st)) (b : Binds K fd ps [])
    (hps : ps.length ≤ N.length) (hN : N.length < 1000000) (j : Nat)
    (h : ∀ (cdv : Value) (A : Around) (outer : List PySem.Env) (s : Shared) (H : Hp) (E : XK), Room k (A.deeper (PyProof.Rows.envOfC qual (defScope st) s.heap.objs.size f cdv)) →
      ∃ t, PSs (cxOf (L2.CX P w) P w K mg base N qual (defScope st) f cdv A outer s H E) (defBody st) t ∧ SimS κ (ηg [] j) (fun c d _ H => E c d H) t body) : FnR P w K mg base (L2.CX P w) (k + 1) f (spF κ (mkFnZ ps.length N.length body)) := by
  refine Wp.Fun.okR F S b (fun vs H Q E ⟨F', ds, l, er, hw⟩ => l.trans (fnZ_arity hw).1) fun cdv A outer s H vs Q E hr hsp => ?_
  obtain ⟨t, ht, hs⟩ := h cdv A outer s H E hr
  exact ⟨t, ht, fn_bodyZ hps hN hs hsp⟩
theorem fn_mkG {x qual : Str} {st : Stmt} {f : Addr} {fd : FuncData} {N ps : List Str} {body : SM} (F : Fun K x qual st f fd) (S : FnScope N ps (defScope st)) (b : Binds K fd ps [])
    (hps : ps.length ≤ N.length) (hN : N.length < 1000000) (j : Nat)
    (h : ∀ (cdv : Value) (A : Around) (outer : List PySem.Env) (s : Shared) (H : Hp) (E : XK), Room k (A.deeper (PyProof.Rows.envOfC qual (defScope st) s.heap.objs.size f cdv)) →
      ∃ t, PSs (cxOf (L2.CX P w) P w K mg base N qual (defScope st) f cdv A outer s H E) (defBody st) t ∧ ∀ ν, SimS κ (ηg ν j) (fun c d _ H => E c d H) t body) : FnR P w K mg base (L2.CX P w) (k + 1) f (spG κ (mkFn ps.length N.length body)) := by
  refine Wp.Fun.okR F S b (fun vs H Q E ⟨F', ν, st, ds, l, _, er, hw⟩ => l.trans (fn_arity hw).1) fun cdv A outer s H vs Q E hr hsp => ?_
  obtain ⟨t, ht, hs⟩ := h cdv A outer s H E hr
  exact ⟨t, ht, fn_bodyG hps hN hs hsp⟩
/-- the law's own def -/
theorem fn_okX {x qual : Str} {st : Stmt} {f : Addr} {fd : FuncData} {N ps : List Str} {body : SM} {sp : Sp} (F : Fun K x qual st f fd) (S : FnScope N ps (defScope st)) (hsp : ∀ vs H Q E, sp vs H Q E → spF κ (mkFn ps.length N.length body) vs H Q E)
    (hps : ps.length ≤ N.length) (hN : N.length < 1000000) (j : Nat)
    (h : ∀ (cdv : Value) (A : Around) (outer : List PySem.Env) (s : Shared) (H : Hp) (E : XK), Room k (A.deeper (PyProof.Rows.envOfC qual (defScope st) s.heap.objs.size f cdv)) →
      ∃ t, PSs (cxOf (L2.CX P w) P w K mg base N qual (defScope st) f cdv A outer s H E) (defBody st) t ∧ SimS κ (ηt j) (fun c d _ H => E c d H) t body) : FnOk P w K mg base (L2.CX P w) (k + 1) f fd ps sp := by
  refine F.okX S (fun vs H Q E h => ?_) fun cdv A outer s H vs Q E hr hs0 => ?_
  · obtain ⟨F', ds, l, er, hw⟩ := hsp _ _ _ _ h
    exact l.trans (fn_arity hw).1
  · obtain ⟨t, ht, hs⟩ := h cdv A outer s H E hr
    exact ⟨t, ht, fn_body hps hN hs (hsp _ _ _ _ hs0)⟩
/-- the promise of an __init__: the instance is new -/
def spNX (κ : Ctx) (c : Nat) (sp : Sp) : Sp := fun vs0 H0 Q E => ∃ x dx vs H1, vs0 = .ref x :: vs ∧ H1 x = none ∧ H1 dx = none ∧ dx ≠ x ∧ H0 = upd (upd H1 dx (.own x)) x (.ins (κ.cls c) dx []) ∧ sp vs H1 (fun v H' => v = .ref x → Q .non H') E
abbrev spN (κ : Ctx) (c : Nat) (f : Fn) : Sp := spNX κ c (spF κ f)
abbrev spNG (κ : Ctx) (c : Nat) (f : Fn) : Sp := spNX κ c (spG κ f)
theorem new_arity {c k n : Nat} {body : SM} {ds : List D} {st : Sto} {kk : Sl → Sto → Prop} {xx : Exc → Sto → Prop} (hw : wp (mkNew c k n body ds) st kk xx) : ds.length + 1 = k ∧ wp (bnd (reX (·.1) (body (.ow (.ins c [] []) :: initS (n - 1) ds))) endN) st kk xx := by
  simp only [mkNew_ap, wp_iteC] at hw
  split at hw
  · rename_i z; exact ⟨of_decide_eq_true z, hw⟩
  · exact hw.elim
theorem es_new {ν : List Addr} {η : Hn} {N : List Str} {vs : List V} {ds : List D} {F' : List VS} {B H1 H : Hp} {x dx : Addr} {c : Nat} (h1 : 1 ≤ N.length) (lv : vs.length + 1 ≤ N.length) (hN : N.length < 1000000) (hi : η.i = 1000000) (hsf : η.sf = some (.ref x)) (hB : Xt κ B H1) (nx : H1 x = none) (nd : H1 dx = none) (ne : dx ≠ x)
    (eH : H = upd (upd H1 dx (.own x)) x (.ins (κ.cls c) dx [])) (l : vs.length = ds.length) (er : ER κ ν H1 (zV vs ds ++ F')) : ES κ ν η B F' [] [] (L2.start N (.ref x :: vs)) (.ow (.ins c [] []) :: initS (N.length - 1) ds) H := by
  have ex1 : Xt κ H1 H := by
    rw [eH]
    exact (Xt.new (Xt.refl _) nd).trans (Xt.new (Xt.refl _) (by rw [upd_ne (Ne.symm ne)]; exact nx))
  have hx : H x = some (.ins (κ.cls c) dx []) := by rw [eH, upd_same]
  obtain ⟨n0, N', rfl⟩ : ∃ a b, N = a :: b := by cases N with | nil => simp at h1 | cons a b => exact ⟨a, b, rfl⟩
  have st0 : L2.start (n0 :: N') (.ref x :: vs) = some (.ref x) :: L2.start N' vs := by simp [L2.start]
  have er2 : ER κ ν H ((some (.ref x), .ow (.ins c [] [])) :: (zV vs ds ++ F')) := er.adopt ex1 nx ⟨dx, [], hx, rfl, by simp [RDs]⟩
  have lN : vs.length ≤ N'.length := by simp at lv; omega
  rw [st0]
  simp only [List.length_cons, Nat.add_sub_cancel]
  have il : (initS N'.length ds).length = N'.length := by simp [initS_ap]; omega
  refine ⟨rfl, by rw [List.length_cons, List.length_cons, start_len lN, il], fun v i m => by simp at m, ?_, hB.trans ex1, fun a d m => ?_, fun u hu => ?_, fun y hy => ?_⟩
  · simp only [zA, zT, List.map_nil, List.zip_nil_left, List.nil_append, List.zip_cons_cons, zip_start l, List.cons_append]
    have := er_unks er2 (N'.length - vs.length)
    refine this.perm ?_
    refine (List.perm_middle (l₁ := List.replicate (N'.length - vs.length) ((none, Sl.unk) : VS))).trans (List.Perm.cons _ ?_)
    rw [← List.append_assoc]
    exact (List.perm_append_comm).append_right F'
  · simp only [zT, List.map_nil, List.zip_nil_left, List.nil_append, List.zip_cons_cons, zip_start l, List.mem_cons, Prod.mk.injEq, Option.some.injEq, V.ref.injEq] at m
    rcases m with ⟨e, _⟩ | m
    · rw [e]; exact xt_none hB nx
    · rcases List.mem_append.mp m with m | m
      · have := List.of_mem_zip m
        simp at this
      · have := List.eq_of_mem_replicate m
        simp at this
  · rw [hsf, Option.some.injEq] at hu
    subst hu
    rfl
  · rw [hi, List.getElem?_eq_none (by simp only [List.length_cons, il]; simp at hN; omega)] at hy; cases hy
theorem new_end {ν : List Addr} {η : Hn} {B H' : Hp} {F : List VS} {σ : L2.St} {sl : List Sl} {x : Addr} (hsf : η.sf = some (.ref x)) (es' : ES κ ν η B F [] [] σ sl H') : ∃ s0 sl', sl = s0 :: sl' ∧ ER κ ν H' ((some (.ref x), s0) :: F) := by
  have h0 := es'.sf (.ref x) hsf
  cases sl with
  | nil =>
    have := es'.ls
    cases σ with
    | nil => simp at h0
    | cons a b => simp at this
  | cons s0 sl =>
    cases σ with
    | nil => simp at h0
    | cons w0 σ =>
      simp only [List.getElem?_cons_zero, Option.some.injEq] at h0
      subst h0
      refine ⟨s0, sl, rfl, ?_⟩
      have : ER κ ν H' ((some (.ref x), s0) :: (σ.zip sl ++ F)) := by simpa [zA, zT] using es'.er
      exact ER.sub (Z' := σ.zip sl) (this.perm (List.perm_middle.symm))
theorem new_body {N ps : List Str} {body : SM} {c : Nat} {t : TS} {E : XK} {H : Hp} {vs0 : List V} {Q : VK} (hps : ps.length ≤ N.length) (hN : N.length < 1000000) (h1 : 1 ≤ ps.length) (hs : ∀ self, SimS κ (η1 self) (fun c d _ H => E c d H) t body)
    (h : spN κ c (mkNew c ps.length N.length body) vs0 H Q E) : t { nx := fun _ H' => Q .non H', rt := Q } (L2.start N vs0) H := by
  obtain ⟨x, dx, vs, H1, e, nx, nd, ne, eH, F', ds, l, er, hw⟩ := h
  obtain ⟨la, hw⟩ := new_arity hw
  replace hs := @hs x
  subst e
  have es := es_new (η := η1 x) (N := N) (by omega) (by omega) hN rfl rfl (Xt.refl _) nx nd ne eH l er
  simp only [wp_bnd, wp_reX] at hw
  refine hs (so_start rfl rfl) es (wp_mono hw (fun r st wr => ?_) fun x st wx ν F σ c d H' so es' ex => ?_)
  · cases r with
    | nx sl =>
      intro ν F σ H' so es'
      obtain ⟨rfl, rfl, rfl⟩ := so_nil so rfl
      obtain ⟨s0, sl', rfl, er3⟩ := new_end rfl es'
      cases s0 with
      | ow d => exact wr (.ref x) H' es'.bs (fun a d e _ => by cases e; exact nx) (fun _ => nofun) er3 rfl
      | sh d => exact wr (.ref x) H' es'.bs (fun a d e _ => by cases e; exact nx) (fun _ => nofun) er3 rfl
      | _ => exact wr.elim
    | rt s o => exact wr.elim
    | bk sl => exact wr.elim
    | ct sl => exact wr.elim
    | ro s1 s2 => exact wr.elim
  · obtain ⟨rfl, rfl, rfl⟩ := so_nil so rfl
    exact wx c d H' es'.bs (ex.mono fun a _ _ ⟨d, m⟩ => ⟨d, List.mem_append_right _ m⟩)
theorem new_bodyG {N ps : List Str} {body : SM} {c : Nat} {t : TS} {E : XK} {H : Hp} {vs0 : List V} {Q : VK} (hps : ps.length ≤ N.length) (hN : N.length < 1000000) (h1 : 1 ≤ ps.length) (hs : ∀ ν self, SimS κ (η1g ν self) (fun c d _ H => E c d H) t body)
    (h : spNG κ c (mkNew c ps.length N.length body) vs0 H Q E) : t { nx := fun _ H' => Q .non H', rt := Q } (L2.start N vs0) H := by
  obtain ⟨x, dx, vs, H1, e, nx, nd, ne, eH, F', ν0, st0, ds, l, lν, er, hw⟩ := h
  obtain ⟨la, hw⟩ := new_arity hw
  replace hs := @hs ν0 x
  subst e
  have es := es_new (η := η1g ν0 x) (N := N) (by omega) (by omega) hN rfl rfl (offH_ext (ν := ν0)) nx nd ne eH l er
  simp only [wp_bnd, wp_reX] at hw
  refine hs (so_startG rfl rfl rfl lν) es (wp_mono hw (fun r st wr => ?_) fun x st wx ν F σ c d H' so es' ex => ?_)
  · cases r with
    | nx sl =>
      intro ν F σ H' so es'
      obtain ⟨s0, sl', rfl, er3⟩ := new_end rfl es'
      rw [so.fe] at er3
      cases s0 with
      | ow d => exact wr ν (.ref x) H' so.np so.ln (offH_to es'.bs) (fun a m n => offH_no (so.nb a m) n) (fun a d e _ => by cases e; exact nx) (fun _ => nofun) er3 rfl
      | sh d => exact wr ν (.ref x) H' so.np so.ln (offH_to es'.bs) (fun a m n => offH_no (so.nb a m) n) (fun a d e _ => by cases e; exact nx) (fun _ => nofun) er3 rfl
      | _ => exact wr.elim
    | rt s o => exact wr.elim
    | bk sl => exact wr.elim
    | ct sl => exact wr.elim
    | ro s1 s2 => exact wr.elim
  · have er2 : ER κ ν H' (σ.zip x.2 ++ (zS ν st ++ F')) := by have := es'.er; rw [so.fe] at this; simpa [zA, zT] using this
    rw [so.fe] at ex
    exact wx ν c d H' so.np so.ln (offH_to es'.bs) (fun a m n => offH_no (so.nb a m) n) (ER.sub er2) (ex.mono fun a _ _ ⟨d, m⟩ => ⟨d, List.mem_append_right _ m⟩)
theorem new_mk {x qual : Str} {st : Stmt} {f : Addr} {fd : FuncData} {N ps : List Str} {body : SM} {c : Nat} (F : Fun K x qual st f fd) (S : FnScope N ps (defScope st)) (b : Binds K fd ps [])
    (hps : ps.length ≤ N.length) (hN : N.length < 1000000) (h1 : 1 ≤ ps.length)
    (h : ∀ (cdv : Value) (A : Around) (outer : List PySem.Env) (s : Shared) (H : Hp) (E : XK), Room k (A.deeper (PyProof.Rows.envOfC qual (defScope st) s.heap.objs.size f cdv)) →
      ∃ t, PSs (cxOf (L2.CX P w) P w K mg base N qual (defScope st) f cdv A outer s H E) (defBody st) t ∧ ∀ self, SimS κ (η1 self) (fun c d _ H => E c d H) t body) : FnR P w K mg base (L2.CX P w) (k + 1) f (spN κ c (mkNew c ps.length N.length body)) := by
  refine Wp.Fun.okR F S b (fun vs H Q E ⟨x, dx, vs', H1, e, _, _, _, _, F', ds, l, er, hw⟩ => by rw [e, List.length_cons, l]; exact (new_arity hw).1) fun cdv A outer s H vs0 Q E hr hsp => ?_
  obtain ⟨t, ht, hs⟩ := h cdv A outer s H E hr
  exact ⟨t, ht, new_body hps hN h1 hs hsp⟩
theorem new_mkG {x qual : Str} {st : Stmt} {f : Addr} {fd : FuncData} {N ps : List Str} {body : SM} {c : Nat} (F : Fun K x qual st f fd) (S : FnScope N ps (defScope st)) (b : Binds K fd ps [])
    (hps : ps.length ≤ N.length) (hN : N.length < 1000000) (h1 : 1 ≤ ps.length)
    (h : ∀ (cdv : Value) (A : Around) (outer : List PySem.Env) (s : Shared) (H : Hp) (E : XK), Room k (A.deeper (PyProof.Rows.envOfC qual (defScope st) s.heap.objs.size f cdv)) →
      ∃ t, PSs (cxOf (L2.CX P w) P w K mg base N qual (defScope st) f cdv A outer s H E) (defBody st) t ∧ ∀ ν self, SimS κ (η1g ν self) (fun c d _ H => E c d H) t body) : FnR P w K mg base (L2.CX P w) (k + 1) f (spNG κ c (mkNew c ps.length N.length body)) := by
  refine Wp.Fun.okR F S b (fun vs H Q E ⟨x, dx, vs', H1, e, _, _, _, _, F', ν, st, ds, l, _, er, hw⟩ => by rw [e, List.length_cons, l]; exact (new_arity hw).1) fun cdv A outer s H vs0 Q E hr hsp => ?_
  obtain ⟨t, ht, hs⟩ := h cdv A outer s H E hr
  exact ⟨t, ht, new_bodyG hps hN h1 hs hsp⟩
end
section
variable {κ : Ctx} {ν ν' : List Addr} {η : Hn} {W : WX} {B : Hp} {F Z : List VS} {τ : List V} {ts : List Sl} {σ : L2.St} {sl : List Sl} {H H' : Hp} {v x : V} {s : Sl} {d : D} {ta tb tc te tf : TE} {ma mb mc m : EM} {tr : TA} {as : List EM} {t u : TS} {a b : SM}
/-! the three kinds of calls -/
def COk (κ : Ctx) (η : Hn) (W : WX) (R : CR) (sp : Fn → Sp) : Prop := ∀ {f : Fn} {vs : List V} {ets esl r : List Sl} {ds : List D} {Q : VK} {st : Sto} {F0 : List VS} {ν : List Addr} {B : Hp} {F : List VS} {τ : List V} {σ : L2.St} {H : Hp}, StOk η B F0 ν F st → ES κ ν η B F (vs.reverse ++ τ) ets σ esl H → takeV esl vs.length ets [] = some (ds, r) →
    wp (R f ds r (frzA (ets.take vs.length) esl) esl) st (fun e st => ∀ ν F v H', StOk η B F0 ν F st → ES κ ν η B F (v :: τ) e.ts σ e.sl H' → Q v H') (XP κ η W B F0 σ) → sp f vs H Q (WE W σ)
theorem cok_E (hp : η.pr = true) : COk κ η W callR (spF κ) := fun so es q w => callR_ok hp so es q w
theorem cok_P : COk κ η W callPR (spF κ) := fun so es q w => callP_ok so es q w
theorem cok_G (hp : η.pr = false) : COk κ η W callGR (spG κ) := fun so es q w => callG_ok hp so es q w
theorem wp_args {R : List D → List Sl → List Sl → List Sl → C XS Env} {n : Nat} {ets esl : List Sl} {st : Sto} {k : Env → Sto → Prop} {x : XS → Sto → Prop} (w : wp (argM n R ⟨ets, esl⟩) st k x) : ∃ ds r, takeV esl n ets [] = some (ds, r) ∧ wp (R ds r (frzA (ets.take n) esl) esl) st k x := by
  simp only [argM_ap] at w
  cases q : takeV esl n ets [] with
  | none => rw [q] at w; exact w.elim
  | some p =>
    obtain ⟨ds, r⟩ := p
    rw [q] at w
    exact ⟨ds, r, rfl, w⟩
theorem sim_callX {R : CR} {sp : Fn → Sp} {f : Fn} (h : COk κ η W R sp) (ha : SimA κ η W tr as) : SimE κ η W (tCallS (sp f) (WE W) tr) (withA as (R f)) := by
  intro F0 st ν B F τ ts σ sl H Q so es w
  simp only [withA_ap, wp_bnd] at w
  refine ha so es (wp_mono w (fun e st we ν F vs H1 hl so es1 => ?_) fun _ _ z => z)
  obtain ⟨ets, esl⟩ := e
  rw [← hl] at we
  obtain ⟨ds, r, q, we⟩ := wp_args we
  exact h so es1 q we
/-- C(..) -/
theorem sim_makX {R : CR} {sp : Fn → Sp} {c : Nat} {C : Addr} {f : Fn} (h : COk κ η W R sp) (hm : ∀ {vs H Q Q' E}, sp f vs H Q E → (∀ v H', Q v H' → Q' v H') → sp f vs H Q' E) (hC : κ.cls c = C) (ha : SimA κ η W tr as) : SimE κ η W (tMakS C (spNX κ c (sp f)) (WE W) tr) (withA as (R f)) := by
  subst hC
  intro F0 st ν B F τ ts σ sl H Q so es w
  simp only [withA_ap, wp_bnd] at w
  refine ha so es (wp_mono w (fun e st we ν F vs H1 hl so es1 x dx nx nd ne => ?_) fun _ _ z => z)
  obtain ⟨ets, esl⟩ := e
  rw [← hl] at we
  obtain ⟨ds, r, q, we⟩ := wp_args we
  exact ⟨x, dx, vs, H1, rfl, nx, nd, ne, rfl, hm (h so es1 q we) fun v H' k ev => by subst ev; exact ⟨rfl, k⟩⟩
theorem spF_mono {f : Fn} {vs : List V} {Q Q' : VK} {E E' : XK} (h : spF κ f vs H Q E) (hq : ∀ v H', Q v H' → Q' v H') (he : ∀ c d H', E c d H' → E' c d H') : spF κ f vs H Q' E' := by
  obtain ⟨F, ds, l, er, w⟩ := h
  exact ⟨F, ds, l, er, wp_mono w (fun s _ k v H' a b c e => hq _ _ (k v H' a b c e)) fun x _ k c d H' a b => he _ _ _ (k c d H' a b)⟩
theorem spG_mono {f : Fn} {vs : List V} {Q Q' : VK} {E E' : XK} (h : spG κ f vs H Q E) (hq : ∀ v H', Q v H' → Q' v H') (he : ∀ c d H', E c d H' → E' c d H') : spG κ f vs H Q' E' := by
  obtain ⟨F, ν, st, ds, l, lν, er, w⟩ := h
  exact ⟨F, ν, st, ds, l, lν, er, wp_mono w (fun s _ k ν' v H' a b c e f g h => hq _ _ (k ν' v H' a b c e f g h)) fun x _ k ν' c d H' a b e f g h => he _ _ _ (k ν' c d H' a b e f g h)⟩
theorem sim_mak {c : Nat} {C : Addr} {f : Fn} (hp : η.pr = true) (hC : κ.cls c = C) (ha : SimA κ η W tr as) : SimE κ η W (tMakS C (spN κ c f) (WE W) tr) (callE f as) := sim_makX (R := callR) (sp := spF κ) (f := f) (cok_E hp) (fun h k => spF_mono h k fun _ _ _ z => z) hC ha
theorem sim_makP {c : Nat} {C : Addr} {f : Fn} (hC : κ.cls c = C) (ha : SimA κ η W tr as) : SimE κ η W (tMakS C (spN κ c f) (WE W) tr) (callP f as) := sim_makX (R := callPR) (sp := spF κ) (f := f) cok_P (fun h k => spF_mono h k fun _ _ _ z => z) hC ha
theorem sim_makG {c : Nat} {C : Addr} {f : Fn} (hp : η.pr = false) (hC : κ.cls c = C) (ha : SimA κ η W tr as) : SimE κ η W (tMakS C (spNG κ c f) (WE W) tr) (callG f as) := sim_makX (R := callGR) (sp := spG κ) (f := f) (cok_G hp) (fun h k => spG_mono h k fun _ _ _ z => z) hC ha
/-- o.m(..), o an object of the class c -/
theorem lk_none {ns : List Nat} {vs : List V} {g : Str} (h : ∀ i, nm i ≠ g) : ((ns.map nm).zip vs).lookup g = none := by
  induction ns generalizing vs with
  | nil => simp
  | cons n ns ih =>
    cases vs with
    | nil => simp
    | cons v vs =>
      simp only [List.map_cons, List.zip_cons_cons, List.lookup_cons]
      have : (g == nm n) = false := beq_eq_false_iff_ne.mpr fun z => h n z.symm
      simp only [this]
      exact ih
theorem nm_not {g : Str} (h1 : ∀ i, i < 24 → nmL.getD i "" ≠ g) (h2 : g.cps.size < 100) : ∀ i, nm i ≠ g := fun i e => by
  unfold nm at e
  split at e
  · rename_i hi; exact h1 i hi e
  · rw [← e] at h2
    simp at h2
    omega
theorem wp_insK {c : Nat} {k : EM} {e : Env} {st : Sto} {kk : Env → Sto → Prop} {x : XS → Sto → Prop} (h : wp (insK c k e) st kk x) : ∃ s r ns vs, e.ts = s :: r ∧ getV e.sl s = some (.ins c ns vs) ∧ wp (k e) st kk x := by
  obtain ⟨ts, sl⟩ := e
  cases ts with
  | nil => exact h.elim
  | cons s r =>
    simp only [insK_ap, wp_iteC] at h
    split at h
    · rename_i z
      cases q : getV sl s with
      | none => rw [q] at z; simp [isIn] at z
      | some d =>
        rw [q] at z
        cases d with
        | ins c' ns vs =>
          simp only [isIn_ins, beq_iff_eq] at z
          subst z
          exact ⟨s, r, ns, vs, rfl, q, h⟩
        | _ => simp [isIn] at z
    · exact h.elim
theorem wp_metR {R : CR} {c : Nat} {f : Fn} {ds : List D} {r slf sl' : List Sl} {st : Sto} {kk : Env → Sto → Prop} {x : XS → Sto → Prop} (h : wp (metRX R c f ds r slf sl') st kk x) : wp (R f ds r slf sl') st kk x ∧ isIns c ds = true := by
  simp only [metRX_ap, wp_iteC] at h
  split at h
  · rename_i z; exact ⟨h, z⟩
  · exact h.elim
theorem sim_metX {R : CR} {sp : Fn → Sp} {c : Nat} {C : Addr} {g : Str} {f : Fn} (h : COk κ η W R sp) (hC : κ.cls c = C) (hg : ∀ i, nm i ≠ g) (ho : SimE κ η W ta ma) (ha : SimA κ η W tr as) : SimE κ η W (tMetS C g (sp f) (WE W) ta tr) (metX R c f ma as) := by
  subst hC
  intro F0 st ν B F τ ts σ sl H Q so es w
  simp only [metX_ap, wp_bnd] at w
  refine ho so es (wp_mono w (fun e st we ν F x H1 so es1 => ?_) fun _ _ z => z)
  obtain ⟨s, r0, ns, ws, e1, e2, we⟩ := wp_insK we
  obtain ⟨ets, esl⟩ := e
  replace e1 : ets = s :: r0 := e1
  subst e1
  obtain ⟨a, dx, vs0, rfl, ha0, l0, r00⟩ := (es1.read (x := x) (s := s) (by simp) e2).ins
  refine ⟨a, dx, _, rfl, ha0, lk_none hg, ?_⟩
  simp only [seqE_ap, wp_bnd] at we
  refine ha so es1 (wp_mono we (fun e st we2 ν F vs H2 hl so es2 => ?_) fun _ _ z => z)
  obtain ⟨ets2, esl2⟩ := e
  have hl2 : as.length + 1 = (V.ref a :: vs).length := by simp [hl]
  rw [hl2] at we2
  obtain ⟨ds, r, q, we2⟩ := wp_args we2
  exact h so (vs := .ref a :: vs) (by simpa using es2) q (wp_metR we2).1
theorem sim_met {c : Nat} {C : Addr} {g : Str} {f : Fn} (hp : η.pr = true) (hC : κ.cls c = C) (hg : ∀ i, nm i ≠ g) (ho : SimE κ η W ta ma) (ha : SimA κ η W tr as) : SimE κ η W (tMetS C g (spF κ f) (WE W) ta tr) (metE c f ma as) := sim_metX (R := callR) (sp := spF κ) (f := f) (cok_E hp) hC hg ho ha
theorem sim_metP {c : Nat} {C : Addr} {g : Str} {f : Fn} (hC : κ.cls c = C) (hg : ∀ i, nm i ≠ g) (ho : SimE κ η W ta ma) (ha : SimA κ η W tr as) : SimE κ η W (tMetS C g (spF κ f) (WE W) ta tr) (metP c f ma as) := sim_metX (R := callPR) (sp := spF κ) (f := f) cok_P hC hg ho ha
theorem sim_metG {c : Nat} {C : Addr} {g : Str} {f : Fn} (hp : η.pr = false) (hC : κ.cls c = C) (hg : ∀ i, nm i ≠ g) (ho : SimE κ η W ta ma) (ha : SimA κ η W tr as) : SimE κ η W (tMetS C g (spG κ f) (WE W) ta tr) (metG c f ma as) := sim_metX (R := callGR) (sp := spG κ) (f := f) (cok_G hp) hC hg ho ha
/-- o(..) -/
theorem sim_calX {R : CR} {sp : Fn → Sp} {c : Nat} {C : Addr} {f : Fn} (h : COk κ η W R sp) (hC : κ.cls c = C) (ho : SimE κ η W ta ma) (ha : SimA κ η W tr as) : SimE κ η W (tCalS C (sp f) (WE W) ta tr) (metX R c f ma as) := by
  subst hC
  intro F0 st ν B F τ ts σ sl H Q so es w
  simp only [metX_ap, wp_bnd] at w
  refine ho so es (wp_mono w (fun e st we ν F x H1 so es1 => ?_) fun _ _ z => z)
  obtain ⟨s, r0, ns, ws, e1, e2, we⟩ := wp_insK we
  obtain ⟨ets, esl⟩ := e
  replace e1 : ets = s :: r0 := e1
  subst e1
  obtain ⟨a, dx, vs0, rfl, ha0, l0, r00⟩ := (es1.read (x := x) (s := s) (by simp) e2).ins
  refine ⟨a, rfl, ?_⟩
  simp only [seqE_ap, wp_bnd] at we
  refine ha so es1 (wp_mono we (fun e st we2 ν F vs H2 hl so es2 => ?_) fun _ _ z => z)
  obtain ⟨ets2, esl2⟩ := e
  have hl2 : as.length + 1 = (V.ref a :: vs).length := by simp [hl]
  rw [hl2] at we2
  obtain ⟨ds, r, q, we2⟩ := wp_args we2
  have es3 : ES κ ν η B F ((V.ref a :: vs).reverse ++ τ) ets2 σ esl2 H2 := by simpa using es2
  obtain ⟨w1, w2⟩ := wp_metR we2
  obtain ⟨_, rds⟩ := es3.args q
  cases ds with
  | nil => simp [isIns] at w2
  | cons d0 ds =>
    cases d0 with
    | ins c' ns' vs' =>
      simp only [isIns_ins, beq_iff_eq] at w2
      subst w2
      simp only [RDs, RD] at rds
      obtain ⟨v0, r', e0, ⟨a', dx', us, ea, _, g, _, _⟩, _⟩ := rds
      simp only [List.cons.injEq] at e0
      obtain ⟨rfl, rfl⟩ := e0
      cases ea
      exact ⟨dx', _, g, h so es3 q w1⟩
    | _ => simp [isIns] at w2
theorem sim_cal {c : Nat} {C : Addr} {f : Fn} (hp : η.pr = true) (hC : κ.cls c = C) (ho : SimE κ η W ta ma) (ha : SimA κ η W tr as) : SimE κ η W (tCalS C (spF κ f) (WE W) ta tr) (metE c f ma as) := sim_calX (R := callR) (sp := spF κ) (f := f) (cok_E hp) hC ho ha
theorem sim_calG {c : Nat} {C : Addr} {f : Fn} (hp : η.pr = false) (hC : κ.cls c = C) (ho : SimE κ η W ta ma) (ha : SimA κ η W tr as) : SimE κ η W (tCalS C (spG κ f) (WE W) ta tr) (metG c f ma as) := sim_calX (R := callGR) (sp := spG κ) (f := f) (cok_G hp) hC ho ha
end
end Dl

namespace Dl
open PySem L2 Wp
section
variable {κ : Ctx} {ν ν' : List Addr} {η : Hn} {W : WX} {B : Hp} {F Z : List VS} {τ : List V} {ts : List Sl} {σ : L2.St} {sl : List Sl} {H H' : Hp} {v x : V} {s : Sl} {d : D} {ta tb tc te tf : TE} {ma mb mc m : EM} {tr : TA} {as : List EM} {t u : TS} {a b : SM}
theorem ow_at (h : ES κ ν η B F τ ts σ sl H) {i : Nat} (e : sl[i]? = some (.ow d)) : ∃ p, σ[i]? = some (some (.ref p)) ∧ B p = none ∧ Cell κ ν (OS F τ ts σ sl) H p d := by
  obtain ⟨w, hw, mw⟩ := sl_get h e
  obtain ⟨p, e1, c⟩ := h.er.ok _ (List.mem_append_right _ (List.mem_append_left _ mw))
  simp only at e1
  subst e1
  exact ⟨p, hw, h.fr p d (List.mem_append_right _ mw), c⟩
theorem os_at (h : ES κ ν η B F τ ts σ sl H) {i : Nat} {p : Addr} (e : sl[i]? = some (.ow d)) (hp : σ[i]? = some (some (.ref p))) : OS F τ ts σ sl p := ⟨d, List.mem_append_right _ (List.mem_append_left _ (zip_get hp e))⟩
/-- a slot's thing is changed -/
theorem ES.slotWrite {i : Nat} {p : Addr} {o : HO} {d' : D} (h : ES κ ν η B F τ ts σ sl H) (e : sl[i]? = some (.ow d)) (hp : σ[i]? = some (some (.ref p))) (hB : B p = none) (c : Cell κ ν (OS F τ ts σ sl) (upd H p o) p d') :
    ES κ ν η B F τ ts σ (sl.set i (.ow d')) (upd H p o) := by
  have hoa : ∀ b, OA (zA τ ts (σ.set i (some (.ref p))) (sl.set i (.ow d')) F) b → OS F τ ts σ sl b := by
    rintro b ⟨f, m⟩
    rcases List.mem_append.mp m with m | m
    · exact ⟨f, List.mem_append_left _ m⟩
    · rcases List.mem_append.mp m with m | m
      · rcases mem_zip_set m with ⟨y1, y2⟩ | m
        · cases y1; exact os_at h e hp
        · exact ⟨f, List.mem_append_right _ (List.mem_append_left _ m)⟩
      · exact ⟨f, List.mem_append_right _ (List.mem_append_right _ m)⟩
  obtain ⟨w0, hw0, cw0⟩ := OA.cl h.er (os_at h e hp)
  have z := h.slot (w' := some (.ref p)) (s' := .ow d') (H' := upd H p o) hp e (.inr fun _ => nofun) (.inr rfl) (fun _ _ _ => .inr rfl) (h.bs.mut hB hw0 cw0) (fun a d'' y1 _ => by cases y1; exact hB)
    (fun x q => (exr_sub (h.ex x q).2 hoa).keep fun b u nb hb => by
      rw [upd_ne]
      · exact hb
      · rintro rfl
        refine nb ?_
        rw [set_self hp]
        refine ⟨d', List.mem_append_right _ (List.mem_append_left _ (zip_get hp ?_))⟩
        exact List.getElem?_set_self (List.getElem?_eq_some_iff.mp e).1)
    (fun R pm r => r.write (c.mono fun b _ _ zz => (OA.perm pm).mpr zz))
  rwa [set_self hp] at z

/-! ### lists and dicts that grow -/
theorem sim_app {i : Nat} (he : SimE κ η W te m) {K : PySem.W.Frag} : SimS κ η W (tDrop (tBM K "list" rAppend (tVar i) (tCons te tNil))) (appS i m) := by
  intro F0 st ν B F σ sl H D so es w
  simp only [appS_ap, wp_iteC] at w
  split at w
  · rename_i z
    cases q : sl[i]? with
    | none => rw [q] at z; simp [isL] at z
    | some s0 =>
      rw [q] at z
      match s0, q, z with
      | .ow (.lst ds0), q, _ =>
        obtain ⟨p, hp, hB, vs0, g0, r0⟩ := ow_at es q
        refine ⟨.ref p, hp, tyL g0, ?_⟩
        simp only [wp_bnd] at w
        refine he so es (wp_mono w (fun e st we ν F y H1 so es1 => ?_) fun _ _ z => z.xp)
        obtain ⟨s, e1, we⟩ := wp_topK we
        obtain ⟨ets, esl⟩ := e
        replace e1 : ets = [s] := e1
        subst e1
        have fin : ∀ dv, getV esl s = some dv → (∀ j, s ≠ .al j) → wp (chg i (gApp dv) esl) st (FlowP κ η B F0 D) (XQ κ η W B F0) → rAppend (.ref p) [y] H1 fun _ H2 => D.nx σ H2 := fun dv hv na wz => by
          simp only [chg_ap] at wz
          cases q2 : esl[i]? with
          | none => rw [q2] at wz; exact wz.elim
          | some s1 =>
            rw [q2] at wz
            cases s1 with
            | ow d1 =>
              simp only [chgK_ow] at wz
              cases d1 with
              | lst ds =>
                simp only [gApp_lst] at wz
                split at wz
                · rename_i hz
                  have rd := ES.pop1 es1 hv fun j ej => absurd ej (na j)
                  have es2 := es1.pop
                  obtain ⟨p', hp', hB', vs, g, r⟩ := ow_at es2 q2
                  rw [hp] at hp'
                  cases hp'
                  have kk : ∀ b u, ¬ OS F [] [] σ esl b → H1 b = some u → upd H1 p (.lst (vs ++ [y])) b = some u := fun b u nb hb => by
                    rw [upd_ne]
                    · exact hb
                    · rintro rfl; exact nb (os_at es2 q2 hp)
                  refine ⟨p, vs, y, rfl, rfl, g, by rw [← r.len]; exact szDl hz, ?_⟩
                  exact wz _ _ σ _ so (es2.slotWrite q2 hp hB ⟨vs ++ [y], upd_same, (r.keep kk).app (RDs.one (rd.keep kk))⟩)
                · exact wz.elim
              | _ => simp [gApp] at wz; exact wz.elim
            | _ => exact wz.elim
        cases s with
        | sh dv => exact fin dv (by simp) (fun _ => nofun) we
        | ow dv => exact fin dv (by simp) (fun _ => nofun) we
        | _ => exact we.elim
  · exact w.elim
theorem sim_ext {i : Nat} (he : SimE κ η W te m) {K : PySem.W.Frag} : SimS κ η W (tDrop (tBM K "list" rExtend (tVar i) (tCons te tNil))) (extS i m) := by
  intro F0 st ν B F σ sl H D so es w
  simp only [extS_ap, wp_iteC] at w
  split at w
  · rename_i z
    cases q : sl[i]? with
    | none => rw [q] at z; simp [isL] at z
    | some s0 =>
      rw [q] at z
      match s0, q, z with
      | .ow (.lst ds0), q, _ =>
        obtain ⟨p, hp, hB, vs0, g0, r0⟩ := ow_at es q
        refine ⟨.ref p, hp, tyL g0, ?_⟩
        simp only [wp_bnd] at w
        refine he so es (wp_mono w (fun e st we ν F y H1 so es1 => ?_) fun _ _ z => z.xp)
        obtain ⟨s, e1, we⟩ := wp_topK we
        obtain ⟨ets, esl⟩ := e
        replace e1 : ets = [s] := e1
        subst e1
        have fin : ∀ dv, getV esl s = some dv → (∀ j, s ≠ .al j) → wp (chg i (gExt dv) esl) st (FlowP κ η B F0 D) (XQ κ η W B F0) → rExtend (.ref p) [y] H1 fun _ H2 => D.nx σ H2 := fun dv hv na wz => by
          simp only [chg_ap] at wz
          cases q2 : esl[i]? with
          | none => rw [q2] at wz; exact wz.elim
          | some s1 =>
            rw [q2] at wz
            cases s1 with
            | ow d1 =>
              simp only [chgK_ow] at wz
              cases d1 with
              | lst ds =>
                cases dv with
                | lst dw =>
                  simp only [gExt_lst] at wz
                  split at wz
                  · rename_i hz
                    have rd := ES.pop1 es1 hv fun j ej => absurd ej (na j)
                    simp only [RD] at rd
                    obtain ⟨b0, ws, rfl, nb0, gb, rb⟩ := rd
                    have es2 := es1.pop
                    obtain ⟨p', hp', hB', vs, g, r⟩ := ow_at es2 q2
                    rw [hp] at hp'
                    cases hp'
                    have kk : ∀ b u, ¬ OS F [] [] σ esl b → H1 b = some u → upd H1 p (.lst (vs ++ ws)) b = some u := fun b u nb hb => by
                      rw [upd_ne]
                      · exact hb
                      · rintro rfl; exact nb (os_at es2 q2 hp)
                    refine ⟨p, b0, vs, ws, rfl, rfl, g, gb, by rw [← r.len, ← rb.len]; exact szD hz, ?_⟩
                    exact wz _ _ σ _ so (es2.slotWrite q2 hp hB ⟨vs ++ ws, upd_same, (r.keep kk).app (rb.keep kk)⟩)
                  · exact wz.elim
                | _ => simp [gExt] at wz; exact wz.elim
              | _ => simp [gExt] at wz; exact wz.elim
            | _ => exact wz.elim
        cases s with
        | sh dv => exact fin dv (by simp) (fun _ => nofun) we
        | ow dv => exact fin dv (by simp) (fun _ => nofun) we
        | _ => exact we.elim
  · exact w.elim
/-- o.f = e -/
theorem putF_zip : ∀ {ns : List Nat} {ds : List D} {vs : List V} {f : Nat} {x : D} {y : V} {Y : Addr → Prop} {H : Hp}, RDs κ ν Y H ds vs → ns.length = vs.length → RD κ ν Y H x y →
    ∃ us, putF (nm f) y ((ns.map nm).zip vs) = ((putD f x ns ds).1.map nm).zip us ∧ (putD f x ns ds).1.length = us.length ∧ RDs κ ν Y H (putD f x ns ds).2 us
  | [], ds, vs, f, x, y, Y, H, r, l, h => by
    have : vs = [] := List.length_eq_zero_iff.mp l.symm
    subst this
    cases ds with
    | nil => exact ⟨[y], by simp [putF], by simp, by simpa using RDs.one h⟩
    | cons _ _ => have := r.len; simp at this
  | n :: ns, [], vs, f, x, y, Y, H, r, l, h => by
    have := r.len
    cases vs <;> simp at this l
  | n :: ns, d :: ds, vs, f, x, y, Y, H, r, l, h => by
    simp only [RDs] at r
    obtain ⟨v, r', rfl, a, b⟩ := r
    simp only [putD_cons, List.map_cons, List.zip_cons_cons, putF]
    by_cases q : n = f
    · subst q
      rw [if_pos rfl]
      simp only [if_pos]
      refine ⟨y :: r', rfl, by simpa using l, ?_⟩
      simp only [RDs]
      exact ⟨_, _, rfl, h, b⟩
    · rw [if_neg (fun z => q (nm_inj z)), if_neg q]
      obtain ⟨us, e1, e2, e3⟩ := putF_zip (f := f) b (by simpa using l) h
      refine ⟨v :: us, ?_, by simp [e2], ?_⟩
      · simp [e1]
      · simp only [RDs]
        exact ⟨_, _, rfl, a, e3⟩
theorem sim_sfld {c f : Nat} {g : Str} {i : Nat} {K : PySem.W.Frag} (eK : κ.K = K) (eg : nm f = g) (hc : L2.Cls K (κ.cls c)) (hn : NoAttr K (κ.cls c) g) (he : SimE κ η W te m) :
    SimS κ η W (sFld K (tVar i) te g) (fldS' c f i m) := by
  subst eK eg
  intro F0 st ν B F σ sl H D so es w
  simp only [fldS'_ap, wp_bnd] at w
  refine he so es (wp_mono w (fun e st we ν F y H1 so es1 => ?_) fun _ _ z => z.xp)
  obtain ⟨s, e1, we⟩ := wp_topK we
  obtain ⟨ets, esl⟩ := e
  replace e1 : ets = [s] := e1
  subst e1
  have fin : ∀ dv, getV esl s = some dv → (∀ j, s ≠ .al j) → wp (chg i (gFldC c f dv) esl) st (FlowP κ η B F0 D) (XQ κ η W B F0) → tVar i σ H1 fun x H2 => ∃ a C dx fs, x = .ref a ∧ H2 a = some (.ins C dx fs) ∧ L2.Cls κ.K C ∧ NoAttr κ.K C (nm f) ∧ fs.length < 1000 ∧ D.nx σ (upd H2 a (.ins C dx (putF (nm f) y fs))) := fun dv hv na wz => by
    simp only [chg_ap] at wz
    cases q2 : esl[i]? with
    | none => rw [q2] at wz; exact wz.elim
    | some s1 =>
      rw [q2] at wz
      cases s1 with
      | ow d1 =>
        simp only [chgK_ow] at wz
        cases d1 with
        | ins c' ns ds =>
          simp only [gFldC_ins] at wz
          split at wz
          · rename_i hz
            obtain ⟨hc', hz⟩ := hz
            subst hc'
            have rd := ES.pop1 es1 hv fun j ej => absurd ej (na j)
            have es2 := es1.pop
            obtain ⟨p, hp, hB, dx, vs, g, l, r⟩ := ow_at es2 q2
            obtain ⟨us, e1, e2, e3⟩ := putF_zip (f := f) r l rd
            refine ⟨.ref p, hp, p, _, dx, _, rfl, g, hc, hn, by simp [← l]; omega, ?_⟩
            have kk : ∀ b u, ¬ OS F [] [] σ esl b → H1 b = some u → upd H1 p (.ins (κ.cls c) dx (putF (nm f) y ((ns.map nm).zip vs))) b = some u := fun b u nb hb => by
              rw [upd_ne]
              · exact hb
              · rintro rfl; exact nb (os_at es2 q2 hp)
            exact wz _ _ σ _ so (es2.slotWrite q2 hp hB ⟨dx, us, by rw [upd_same, e1], e2, e3.keep kk⟩)
          · exact wz.elim
        | _ => simp [gFldC] at wz; exact wz.elim
      | _ => exact wz.elim
  cases s with
  | sh dv => exact fin dv (by simp) (fun _ => nofun) we
  | ow dv => exact fin dv (by simp) (fun _ => nofun) we
  | _ => exact we.elim
end
end Dl

namespace Dl
open PySem PySem.Spec PyProof.Rows L2 Wp
section
variable {κ : Ctx} {ν ν' : List Addr} {η : Hn} {W : WX} {B : Hp} {F Z : List VS} {τ : List V} {ts : List Sl} {σ : L2.St} {sl : List Sl} {H H' : Hp} {v x : V} {s : Sl} {d : D} {ta tb tc te tf : TE} {ma mb mc m : EM} {tr : TA} {as : List EM} {t u : TS} {a b : SM} {tl th : TO}
/-! ### slices -/
def oV : Option Int → V
  | none => .non
  | some i => .int i
theorem ld_oV {Y : Addr → Prop} {o : Option Int} (h : LD κ ν Y H d (oV o)) : optI d = some o := by
  rcases h with h | ⟨a, e, h⟩
  · cases o with
    | none =>
      cases d <;> simp only [RD, oV, reduceCtorEq] at h
      · rfl
      all_goals (obtain ⟨_, h⟩ := h; first | (exact h.1.elim) | (obtain ⟨_, _, h, _⟩ := h; cases h) | (obtain ⟨_, h, _⟩ := h; cases h) | (obtain ⟨h, _⟩ := h; cases h))
    | some i =>
      cases d <;> simp only [RD, oV, reduceCtorEq, V.int.injEq] at h
      · subst h; rfl
      all_goals (obtain ⟨_, h⟩ := h; first | (exact h.1.elim) | (obtain ⟨_, _, h, _⟩ := h; cases h) | (obtain ⟨_, h, _⟩ := h; cases h) | (obtain ⟨h, _⟩ := h; cases h))
  · cases o <;> cases e
def SimO (κ : Ctx) (η : Hn) (W : WX) (tp : TO) (m : EM) : Prop := ∀ {F0 : List VS} {st : Sto} {ν : List Addr} {B : Hp} {F : List VS} {τ : List V} {ts : List Sl} {σ : L2.St} {sl : List Sl} {H : Hp} {Q : Option Int → Hp → Prop}, StOk η B F0 ν F st → ES κ ν η B F τ ts σ sl H →
  wp (m ⟨ts, sl⟩) st (fun e st => ∀ ν F o H', StOk η B F0 ν F st → ES κ ν η B F (oV o :: τ) e.ts σ e.sl H' → Q o H') (XP κ η W B F0 σ) → tp σ H Q
theorem simo_none : SimO κ η W tNoPart (cst .non) := by
  intro F0 st ν B F τ ts σ sl H Q so es w
  exact w _ _ none H so (es.pushR (by simp only [RD, oV]))
theorem simo_some (he : SimE κ η W te m) : SimO κ η W (tPart te) (prt m) := by
  intro F0 st ν B F τ ts σ sl H Q so es w
  simp only [prt_ap, wp_bnd] at w
  refine he so es (wp_mono w (fun e st we ν F v H1 so es1 => ?_) fun _ _ z => z)
  obtain ⟨ets, esl⟩ := e
  match ets, we, es1 with
  | .sh (.int i) :: r, we, es1 =>
    have hv := (es1.read (x := v) (s := .sh (.int i)) (d := .int i) (by simp) (by simp)).int
    subst hv
    exact ⟨i, rfl, we _ _ (some i) H1 so es1⟩
theorem cut_rds {Y : Addr → Prop} {ds : List D} {vs : List V} {lo hi : Option Int} (r : RDs κ ν Y H ds vs) : RDs κ ν Y H (cutD ds lo hi) (cutV vs lo hi) := by
  simp only [cutD, cutV, sIxD_eq, r.len]
  exact (r.drop _).take _
theorem o_sl : OpS κ (rSlU κ.K) (fun c lo hi => match c with | .lst xs => some (.ow (.lst (cutD xs lo hi))) | .tup xs => some (.sh (.tup (cutD xs lo hi))) | _ => none) := by
  intro ν Y H x c lo hi s Q hc hf hq
  cases c with
  | lst ds =>
    cases hf
    obtain ⟨a, vs, rfl, g, r⟩ := hc.lst
    exact .inl ⟨a, vs, rfl, SqL.of g, fun p hp => hq.lst (cut_rds r) hp⟩
  | tup ds =>
    cases hf
    obtain ⟨a, vs, rfl, g, r, n⟩ := hc.tup
    refine .inr ⟨a, vs, rfl, SqT.of g, fun hw => hq.old ?_, fun _ p hp => hq.tup (cut_rds r) hp⟩
    have e1 : cutV vs lo hi = vs := cut_all hw
    have := cut_rds (lo := lo) (hi := hi) r
    rw [e1] at this
    simp only [RD]
    exact ⟨a, vs, rfl, n, g, this⟩
  | _ => cases hf
theorem sim_slc {K : PySem.W.Frag} (eK : κ.K = K) (ha : SimE κ η W ta ma) (hl : SimO κ η W tl mb) (hh : SimO κ η W th mc) : SimE κ η W (tSl (rSlU K) ta tl th) (slcE ma mb mc) := by
  subst eK
  intro F0 st ν B F τ ts σ sl H Q so es w
  simp only [slcE_ap, wp_bnd] at w
  refine ha so es (wp_mono w (fun e st we ν F x H1 so es1 => ?_) fun _ _ z => z)
  simp only [seqE_ap, wp_bnd] at we
  obtain ⟨ets, esl⟩ := e
  refine hl so es1 (wp_mono we (fun e2 st we2 ν F lo H2 so es2 => ?_) fun _ _ z => z)
  obtain ⟨ets2, esl2⟩ := e2
  refine hh so es2 (wp_mono we2 (fun e3 st we3 ν F hi H3 so es3 => ?_) fun _ _ z => z)
  obtain ⟨ets3, esl3⟩ := e3
  obtain ⟨sh', r1, rfl⟩ := ts_cons es3.lt
  obtain ⟨sl', r2, rfl⟩ := ts_cons es3.pop.lt
  obtain ⟨sx, r3, rfl⟩ := ts_cons es3.pop.pop.lt
  simp only [op3_ap] at we3
  cases q1 : getV esl3 sx with
  | none => rw [q1] at we3; exact we3.elim
  | some c =>
    cases q2 : getV esl3 sl' with
    | none => rw [q1, q2] at we3; exact we3.elim
    | some dl =>
      cases q3 : getV esl3 sh' with
      | none => rw [q1, q2, q3] at we3; exact we3.elim
      | some dh =>
        rw [q1, q2, q3] at we3
        simp only [Option.bind_some] at we3
        have l1 := es3.read (x := x) (s := sx) (by simp) q1
        have l2 := ld_oV (es3.read (x := oV lo) (s := sl') (by simp) q2)
        have l3 := ld_oV (es3.read (x := oV hi) (s := sh') (by simp) q3)
        have key : ∀ t, (match c with | .lst xs => some (.ow (.lst (cutD xs lo hi))) | .tup xs => some (.sh (.tup (cutD xs lo hi))) | _ => none : Option Sl) = some t → wp (pushO r3 esl3 (some t)) st (fun e st => ∀ ν F v H', StOk η B F0 ν F st → ES κ ν η B F (v :: τ) e.ts σ e.sl H' → Q v H') (XP κ η W B F0 σ) → rSlU κ.K x lo hi H3 Q := fun t ht wt =>
          o_sl (l1.mono fun a z => os_pop a (os_pop a (os_pop a z))) ht fun v' H' n => wt _ _ _ _ so (es3.pop.pop.pop.newV n)
        cases c with
        | lst xs =>
          simp only [fSl_lst, l2, l3, Option.bind_some] at we3
          exact key _ rfl we3
        | tup xs =>
          simp only [fSl_tup, l2, l3, Option.bind_some] at we3
          exact key _ rfl we3
        | _ => simp [fSl] at we3
/-! ### own operators -/
theorem ins_of {Y : Addr → Prop} {c : Nat} {r : List D} (h : isIns c (d :: r) = true) (l : RD κ ν Y H d v) : ∃ p dx fs, v = .ref p ∧ H p = some (.ins (κ.cls c) dx fs) := by
  cases d with
  | ins c' ns vs =>
    simp only [isIns_ins, beq_iff_eq] at h
    subst h
    simp only [RD] at l
    obtain ⟨a, dx, us, rfl, _, g, _, _⟩ := l
    exact ⟨a, dx, _, rfl, g⟩
  | _ => simp [isIns] at h
theorem args2 {f : List D → List Sl → List Sl → List Sl → C XS Env} {esl ets : List Sl} {x y : V} {st : Sto} {k : Env → Sto → Prop} {X : XS → Sto → Prop} (es : ES κ ν η B F ([x, y].reverse ++ τ) ets σ esl H) (w : wp (argM 2 f ⟨ets, esl⟩) st k X) :
    ∃ c d r, takeV esl 2 ets [] = some ([c, d], r) ∧ wp (f [c, d] r (frzA (ets.take 2) esl) esl) st k X ∧ RD κ ν (OS F τ r σ (frzA (ets.take 2) esl)) H c x ∧ RD κ ν (OS F τ r σ (frzA (ets.take 2) esl)) H d y := by
  obtain ⟨ds, r, q, w⟩ := wp_args w
  obtain ⟨_, rds⟩ := es.args (vs := [x, y]) q
  match ds, rds with
  | [c, d], rds =>
    simp only [RDs] at rds
    obtain ⟨v1, r1, e1, h1, v2, r2, e2, h2, e3⟩ := rds
    subst e3 e2
    simp only [List.cons.injEq, and_true] at e1
    obtain ⟨rfl, rfl⟩ := e1
    exact ⟨c, d, r, q, w, h1, h2⟩
  | [], rds => simp [RDs] at rds
  | [_], rds =>
    simp only [RDs] at rds
    obtain ⟨_, _, e1, _, e2⟩ := rds
    subst e2; simp at e1
  | _ :: _ :: _ :: _, rds => have := rds.len; simp at this
theorem sim_bopX {R : CR} {sp : Fn → Sp} {c : Nat} {C : Addr} {f : Fn} (h : COk κ η W R sp) (hC : κ.cls c = C) (ha : SimE κ η W ta ma) (hb : SimE κ η W tb mb) : SimE κ η W (tBinS C (sp f) (WE W) ta tb) (bopX R c f ma mb) := by
  subst hC
  intro F0 st ν B F τ ts σ sl H Q so es w
  simp only [bopX_ap, argE_cons, argE_nil, wp_bnd] at w
  refine ha so es (wp_mono w (fun e st we ν F x H1 so es1 => ?_) fun _ _ z => z)
  obtain ⟨ets, esl⟩ := e
  refine hb so es1 (wp_mono we (fun e2 st we2 ν F y H2 so es2 => ?_) fun _ _ z => z)
  obtain ⟨ets2, esl2⟩ := e2
  have es3 : ES κ ν η B F ([x, y].reverse ++ τ) ets2 σ esl2 H2 := by simpa using es2
  obtain ⟨d1, d2, r, q, w3, h1, h2⟩ := args2 es3 we2
  simp only [bopRX_ap, wp_iteC] at w3
  split at w3
  · rename_i z
    simp only [Bool.and_eq_true] at z
    obtain ⟨p, dx, fs, rfl, g1⟩ := ins_of z.1 h1
    obtain ⟨p2, dy, gs, rfl, g2⟩ := ins_of z.2 h2
    exact ⟨p, dx, fs, p2, dy, gs, rfl, rfl, g1, g2, h (vs := [.ref p, .ref p2]) so es3 q w3⟩
  · exact w3.elim
theorem sim_bop {c : Nat} {C : Addr} {f : Fn} (hp : η.pr = true) (hC : κ.cls c = C) (ha : SimE κ η W ta ma) (hb : SimE κ η W tb mb) : SimE κ η W (tBinS C (spF κ f) (WE W) ta tb) (bopE c f ma mb) := sim_bopX (R := callR) (sp := spF κ) (f := f) (cok_E hp) hC ha hb
theorem sim_bopP {c : Nat} {C : Addr} {f : Fn} (hC : κ.cls c = C) (ha : SimE κ η W ta ma) (hb : SimE κ η W tb mb) : SimE κ η W (tBinS C (spF κ f) (WE W) ta tb) (bopP c f ma mb) := sim_bopX (R := callPR) (sp := spF κ) (f := f) cok_P hC ha hb
/-- a promise whose value is a truth and which raises nothing -/
theorem er_args {vs2 : List V} {ds2 : List D} {st : Sto} {F0 : List VS} (so : StOk η B F0 ν F st) (es2 : ES κ ν η B F τ ts σ sl H) (hp : RDs κ ν (OS F τ ts σ sl) H ds2 vs2) (hn : η.pr = true ∨ noLocs ds2 = true) : ∃ F', ER κ [] H (zV vs2 ds2 ++ F') := by
  rcases hn with hn | hn
  · obtain ⟨rfl, rfl, rfl⟩ := so_nil so hn
    exact ⟨_, es2.er.pushs hp⟩
  · refine ⟨(zA τ ts σ sl F).map hidS, ER.hid (es2.er.pushs hp) fun p m ok => ok.noL ?_⟩
    have : ∀ (vs : List V) (ds : List D), noLocs ds = true → p ∈ zV vs ds → noLocS p.2 = true := by
      intro vs
      induction vs with
      | nil => intro ds _ m; simp [zV] at m
      | cons v vs ih =>
        intro ds hn m
        cases ds with
        | nil => simp [zV] at m
        | cons d ds =>
          simp only [noLocs_cons, Bool.and_eq_true] at hn
          simp only [zV, List.map_cons, List.zip_cons_cons, List.mem_cons] at m
          rcases m with rfl | m
          · simpa using hn.1
          · exact ih ds hn.2 m
    exact this vs2 ds2 hn m
theorem blT_ok {f : Fn} {vs : List V} {ets esl r : List Sl} {ds : List D} {neg : Bool} {Q : VK} {st : Sto} {F0 : List VS} (so : StOk η B F0 ν F st) (es1 : ES κ ν η B F (vs.reverse ++ τ) ets σ esl H) (ds2 : List D) (vs2 : List V) (q : takeV esl vs.length ets [] = some (ds, r))
    (hp : RDs κ ν (OS F τ r σ (frzA (ets.take vs.length) esl)) H ds2 vs2) (hn : η.pr = true ∨ noLocs ds2 = true)
    (we : wp (bnd (noX (shut (f ds2))) (blT neg r esl)) st (fun e st => ∀ ν F v H', StOk η B F0 ν F st → ES κ ν η B F (v :: τ) e.ts σ e.sl H' → Q v H') (XP κ η W B F0 σ)) : spF κ f vs2 H (fun v H' => ∃ b, v = .bl b ∧ Q (.bl (if neg then !b else b)) H') (fun _ _ _ => False) := by
  obtain ⟨es2, r2⟩ := es1.args q
  have es3 : ES κ ν η B F τ r σ esl H := ES.popAll (ws := vs.reverse) es1 (by simpa using q)
  simp only [wp_bnd, wp_noX, wp_shut] at we
  obtain ⟨F', er0⟩ := er_args so es2 hp hn
  refine ⟨F', ds2, hp.len.symm, er0, wp_mono we (fun s _ ws v H' e fr na er => ?_) (fun z _ wz => wz.elim)⟩
  match s, ws, er with
  | .sh (.bl t), ws, er =>
    obtain ⟨w, e1, r3⟩ := er.ok (some v, .sh (.bl t)) List.mem_cons_self
    simp only [Option.some.injEq] at e1
    subst e1
    simp only [RD] at r3
    subst r3
    exact ⟨t, rfl, ws _ _ _ _ so ((es3.ext e).pushR (by simp only [RD]))⟩
theorem cmp_core {chk neg : Bool} {c : Nat} {f : Fn} (hp : η.pr = true ∨ chk = true) (ha : SimE κ η W ta ma) (hb : SimE κ η W tb mb) {F0 : List VS} {st : Sto} {ν : List Addr} {B : Hp} {F : List VS} {τ : List V} {ts : List Sl} {σ : L2.St} {sl : List Sl} {H : Hp} {Q : VK} {K : V → V → Hp → Prop} (so : StOk η B F0 ν F st) (es : ES κ ν η B F τ ts σ sl H)
    (w : wp (cmpX chk neg c f ma mb ⟨ts, sl⟩) st (fun e st => ∀ ν F v H', StOk η B F0 ν F st → ES κ ν η B F (v :: τ) e.ts σ e.sl H' → Q v H') (XP κ η W B F0 σ))
    (hK : ∀ p dx fs p2 dy gs H2, H2 p = some (.ins (κ.cls c) dx fs) → H2 p2 = some (.ins (κ.cls c) dy gs) → spF κ f [.ref p, .ref p2] H2 (fun v H' => ∃ b, v = .bl b ∧ Q (.bl (if neg then !b else b)) H') (fun _ _ _ => False) → K (.ref p) (.ref p2) H2) :
    ta σ H fun x H1 => tb σ H1 fun y H2 => K x y H2 := by
  simp only [cmpX_ap, argE_cons, argE_nil, wp_bnd] at w
  refine ha so es (wp_mono w (fun e st we ν F x H1 so es1 => ?_) fun _ _ z => z)
  obtain ⟨ets, esl⟩ := e
  refine hb so es1 (wp_mono we (fun e2 st we2 ν F y H2 so es2 => ?_) fun _ _ z => z)
  obtain ⟨ets2, esl2⟩ := e2
  have es3 : ES κ ν η B F ([x, y].reverse ++ τ) ets2 σ esl2 H2 := by simpa using es2
  obtain ⟨d1, d2, r, q, w3, h1, h2⟩ := args2 es3 we2
  simp only [cmpRX_ap, wp_iteC] at w3
  split at w3
  · rename_i z
    simp only [Bool.and_eq_true, Bool.or_eq_true, Bool.not_eq_true'] at z
    obtain ⟨p, dx, fs, rfl, g1⟩ := ins_of z.1.1 h1
    obtain ⟨p2, dy, gs, rfl, g2⟩ := ins_of z.1.2 h2
    refine hK p dx fs p2 dy gs _ g1 g2 (blT_ok (vs := [.ref p, .ref p2]) so es3 [d1, d2] [.ref p, .ref p2] q (by simp only [RDs]; exact ⟨_, _, rfl, h1, _, _, rfl, h2, rfl⟩) ?_ w3)
    rcases hp with hp | hp
    · exact .inl hp
    · rcases z.2 with z2 | z2
      · rw [hp] at z2; cases z2
      · exact .inr z2
  · exact w3.elim
theorem sim_cmpX {chk : Bool} {c : Nat} {C : Addr} {f : Fn} (hp : η.pr = true ∨ chk = true) (hC : κ.cls c = C) (ha : SimE κ η W ta ma) (hb : SimE κ η W tb mb) : SimE κ η W (tOp (rCmpO C (spF κ f)) ta tb) (cmpX chk false c f ma mb) := by
  subst hC
  intro F0 st ν B F τ ts σ sl H Q so es w
  exact cmp_core (K := fun x y H2 => rCmpO (κ.cls c) (spF κ f) x y H2 Q) hp ha hb so es w fun p dx fs p2 dy gs H2 g1 g2 k => ⟨p, dx, fs, p2, dy, gs, rfl, rfl, g1, g2, spF_mono k (fun v H' ⟨b, e, hq⟩ => by subst e; exact hq) fun _ _ _ z => z⟩
theorem sim_neX {chk : Bool} {c : Nat} {C : Addr} {f : Fn} (hp : η.pr = true ∨ chk = true) (hC : κ.cls c = C) (ha : SimE κ η W ta ma) (hb : SimE κ η W tb mb) : SimE κ η W (tOp (rNeO C (spF κ f)) ta tb) (cmpX chk true c f ma mb) := by
  subst hC
  intro F0 st ν B F τ ts σ sl H Q so es w
  exact cmp_core (K := fun x y H2 => rNeO (κ.cls c) (spF κ f) x y H2 Q) hp ha hb so es w fun p dx fs p2 dy gs H2 g1 g2 k => ⟨p, dx, fs, p2, dy, gs, rfl, rfl, g1, g2, spF_mono k (fun v H' ⟨b, e, hq⟩ => ⟨b, e, by simpa using hq⟩) fun _ _ _ z => z⟩
theorem sim_cmpO {c : Nat} {C : Addr} {f : Fn} (hp : η.pr = true) (hC : κ.cls c = C) (ha : SimE κ η W ta ma) (hb : SimE κ η W tb mb) : SimE κ η W (tOp (rCmpO C (spF κ f)) ta tb) (cmpO false c f ma mb) := sim_cmpX (.inl hp) hC ha hb
theorem sim_cmpP {c : Nat} {C : Addr} {f : Fn} (hC : κ.cls c = C) (ha : SimE κ η W ta ma) (hb : SimE κ η W tb mb) : SimE κ η W (tOp (rCmpO C (spF κ f)) ta tb) (cmpP false c f ma mb) := sim_cmpX (.inr rfl) hC ha hb
theorem sim_neO {c : Nat} {C : Addr} {f : Fn} (hp : η.pr = true) (hC : κ.cls c = C) (ha : SimE κ η W ta ma) (hb : SimE κ η W tb mb) : SimE κ η W (tOp (rNeO C (spF κ f)) ta tb) (cmpO true c f ma mb) := sim_neX (.inl hp) hC ha hb
theorem sim_neP {c : Nat} {C : Addr} {f : Fn} (hC : κ.cls c = C) (ha : SimE κ η W ta ma) (hb : SimE κ η W tb mb) : SimE κ η W (tOp (rNeO C (spF κ f)) ta tb) (cmpP true c f ma mb) := sim_neX (.inr rfl) hC ha hb
theorem sim_inX {chk : Bool} {c : Nat} {C : Addr} {f : Fn} {neg : Bool} (hp : η.pr = true ∨ chk = true) (hC : κ.cls c = C) (ha : SimE κ η W ta ma) (hb : SimE κ η W tb mb) : SimE κ η W (tOp (rInO C (spF κ f) neg) ta tb) (inX chk neg c f ma mb) := by
  subst hC
  intro F0 st ν B F τ ts σ sl H Q so es w
  simp only [inX_ap, argE_cons, argE_nil, wp_bnd] at w
  refine ha so es (wp_mono w (fun e st we ν F x H1 so es1 => ?_) fun _ _ z => z)
  obtain ⟨ets, esl⟩ := e
  refine hb so es1 (wp_mono we (fun e2 st we2 ν F y H2 so es2 => ?_) fun _ _ z => z)
  obtain ⟨ets2, esl2⟩ := e2
  have es3 : ES κ ν η B F ([x, y].reverse ++ τ) ets2 σ esl2 H2 := by simpa using es2
  obtain ⟨d1, d2, r, q, w3, h1, h2⟩ := args2 es3 we2
  simp only [inRX_ap, wp_iteC] at w3
  split at w3
  · rename_i z
    simp only [Bool.and_eq_true, Bool.or_eq_true, Bool.not_eq_true'] at z
    obtain ⟨p, dx, fs, rfl, g1⟩ := ins_of z.1 h2
    refine ⟨p, dx, fs, rfl, g1, blT_ok (vs := [x, .ref p]) so es3 [d2, d1] [.ref p, x] q (by simp only [RDs]; exact ⟨_, _, rfl, h2, _, _, rfl, h1, rfl⟩) ?_ w3⟩
    rcases hp with hp | hp
    · exact .inl hp
    · rcases z.2 with z2 | z2
      · rw [hp] at z2; cases z2
      · exact .inr z2
  · exact w3.elim
theorem sim_inO {c : Nat} {C : Addr} {f : Fn} {neg : Bool} (hp : η.pr = true) (hC : κ.cls c = C) (ha : SimE κ η W ta ma) (hb : SimE κ η W tb mb) : SimE κ η W (tOp (rInO C (spF κ f) neg) ta tb) (inO neg c f ma mb) := sim_inX (.inl hp) hC ha hb
theorem sim_inP {c : Nat} {C : Addr} {f : Fn} {neg : Bool} (hC : κ.cls c = C) (ha : SimE κ η W ta ma) (hb : SimE κ η W tb mb) : SimE κ η W (tOp (rInO C (spF κ f) neg) ta tb) (inP neg c f ma mb) := sim_inX (.inr rfl) hC ha hb
end
end Dl

namespace Dl
open PySem PySem.Spec PyProof.Rows L2 Wp
/-! ### dicts: keys -/
theorem kOf_kV {d : D} {k : Key} {κ : Ctx} {Y : Addr → Prop} {H : Hp} {v : V} (h : kOf d = some k) (l : LD κ ν Y H d v) : v = kV k := by
  cases d <;> simp only [kOf, Option.some.injEq, reduceCtorEq] at h
  · subst h; exact l.int
  · subst h; exact l.str
theorem eqD_int (i j : Int) : eqD (.int i) (.int j) = (i == j) := by simp [eqD]
theorem kOf_eq {a b : D} {k l : Key} (ha : kOf a = some k) (hb : kOf b = some l) : eqD a b = decide (k = l) := by
  cases a <;> simp only [kOf, Option.some.injEq, reduceCtorEq] at ha <;> cases b <;> simp only [kOf, Option.some.injEq, reduceCtorEq] at hb <;> subst ha <;> subst hb
  · rename_i i j
    simp only [eqD]
    by_cases h : i = j
    · subst h; simp
    · rw [beq_eq_false_iff_ne.mpr h, decide_eq_false (fun z => h (Sum.inl.inj z))]
  · simp [eqD]
  · simp [eqD]
  · rename_i i j
    simp only [eqD]
    by_cases h : i = j
    · subst h; simp
    · rw [decide_eq_false h, decide_eq_false (fun z => h (Sum.inr.inj z))]
theorem kOfs_eq : ∀ {as bs : List D} {ks ls : List Key}, as.mapM kOf = some ks → bs.mapM kOf = some ls → eqDs as bs = decide (ks = ls)
  | [], [], ks, ls, ha, hb => by simp at ha hb; subst ha; subst hb; simp [eqDs]
  | [], b :: bs, ks, ls, ha, hb => by
    simp only [List.mapM_nil, Option.pure_def, Option.some.injEq] at ha
    simp only [List.mapM_cons, Option.pure_def, Option.bind_eq_bind, Option.bind_eq_some_iff, Option.some.injEq] at hb
    obtain ⟨l, _, ls', _, rfl⟩ := hb
    subst ha
    simp [eqDs]
  | a :: as, [], ks, ls, ha, hb => by
    simp only [List.mapM_nil, Option.pure_def, Option.some.injEq] at hb
    simp only [List.mapM_cons, Option.pure_def, Option.bind_eq_bind, Option.bind_eq_some_iff, Option.some.injEq] at ha
    obtain ⟨l, _, ls', _, rfl⟩ := ha
    subst hb
    simp [eqDs]
  | a :: as, b :: bs, ks, ls, ha, hb => by
    simp only [List.mapM_cons, Option.pure_def, Option.bind_eq_bind, Option.bind_eq_some_iff, Option.some.injEq] at ha hb
    obtain ⟨k, h1, ks', h2, rfl⟩ := ha
    obtain ⟨l, h3, ls', h4, rfl⟩ := hb
    simp only [eqDs, kOf_eq h1 h3, kOfs_eq h2 h4]
    by_cases e1 : k = l <;> by_cases e2 : ks' = ls' <;> simp [e1, e2]
theorem ksOf_eq {a b : D} {k l : List Key} (ha : ksOf a = some k) (hb : ksOf b = some l) : eqD a b = decide (k = l) := by
  cases a <;> simp only [ksOf, reduceCtorEq] at ha
  cases b <;> simp only [ksOf, reduceCtorEq] at hb
  simp only [eqD]
  exact kOfs_eq ha hb
theorem mapM_vs {κ : Ctx} {Y : Addr → Prop} {H : Hp} : ∀ {ds : List D} {ks : List Key} {vs : List V}, ds.mapM kOf = some ks → RDs κ ν Y H ds vs → vs = ks.map kV
  | [], ks, vs, h, r => by simp at h; subst h; simpa [RDs] using r
  | d :: ds, ks, vs, h, r => by
    simp only [List.mapM_cons, Option.pure_def, Option.bind_eq_bind, Option.bind_eq_some_iff, Option.some.injEq] at h
    obtain ⟨k, h1, ks', h2, rfl⟩ := h
    simp only [RDs] at r
    obtain ⟨v, r', rfl, a, b⟩ := r
    rw [kOf_kV h1 (.inl a), mapM_vs h2 b]
    rfl
theorem sameK0 {d : D} (h : sameK 0 d = true) : ∃ k, kOf d = some k := by
  cases d <;> simp [sameK, keyD] at h <;> simp [kOf]
theorem keysD_ks : ∀ {ds : List D}, keysD ds = true → ∃ ks, ds.mapM kOf = some ks
  | [], _ => ⟨[], rfl⟩
  | d :: ds, h => by
    simp only [keysD, List.all_cons, Bool.and_eq_true] at h
    obtain ⟨k, hk⟩ : ∃ k, kOf d = some k := by have := h.1; cases d <;> simp [keyD] at this <;> simp [kOf]
    obtain ⟨ks, hks⟩ := keysD_ks (ds := ds) (by simpa [keysD] using h.2)
    exact ⟨k :: ks, by simp [List.mapM_cons, hk, hks]⟩
/-- what a dict has at a key -/
theorem find_val {κ : Ctx} {Y : Addr → Prop} {H : Hp} {α : Type} [DecidableEq α] {of : D → Option α} (heq : ∀ {a b : D} {k l : α}, of a = some k → of b = some l → eqD a b = decide (k = l)) :
    ∀ {ks ws : List D} {qs : List α} {vs : List V} {x : D} {k : α}, ks.map of = qs.map some → qs.length = vs.length → RDs κ ν Y H ws vs → of x = some k →
      (∀ e, dFind ks ws x = some e → ∃ u, valV (qs.zip vs) k = some u ∧ RD κ ν Y H e u) ∧ (dFind ks ws x = none → valV (qs.zip vs) k = none)
  | [], ws, qs, vs, x, k, h, l, r, hx => by
    have : qs = [] := by simpa using h.symm
    subst this
    refine ⟨fun e he => by simp [dFind] at he, fun _ => by simp [valV]⟩
  | a :: ks, [], qs, vs, x, k, h, l, r, hx => by
    simp only [RDs] at r
    subst r
    cases qs with
    | nil => simp at h
    | cons q qs => simp at l
  | a :: ks, w :: ws, qs, vs, x, k, h, l, r, hx => by
    cases qs with
    | nil => simp at h
    | cons q qs =>
      simp only [RDs] at r
      obtain ⟨v, r', rfl, ra, rb⟩ := r
      simp only [List.map_cons, List.cons.injEq] at h
      have e1 := heq h.1 hx
      have ih := find_val heq (ks := ks) (ws := ws) (qs := qs) (vs := r') h.2 (by simpa using l) rb hx
      simp only [dFind, e1, List.zip_cons_cons, valV, List.find?_cons]
      by_cases e : q = k
      · simp only [e, decide_true, if_true]
        exact ⟨fun e' he => by cases he; exact ⟨v, rfl, ra⟩, fun he => by cases he⟩
      · simp only [e, decide_false, Bool.false_eq_true, if_false]
        exact ih
section
variable {κ : Ctx} {ν ν' : List Addr}
/-- the dict of the reading -/
theorem dget {Y : Addr → Prop} {H : Hp} {q : Nat} {ks ws : List D} {x y : V} {c : D} (hd : LD κ ν Y H (.dct q ks ws) x) (hy : LD κ ν Y H c y) (hs : sameK q c = true) :
    ∃ a o, x = .ref a ∧ DGet H a y o ∧ (∀ e, dFind ks ws c = some e → ∃ u, o = some u ∧ RD κ ν Y H e u) ∧ (dFind ks ws c = none → o = none) := by
  obtain ⟨a, o, vs, rfl, g, dr, r⟩ := hd.dct
  match q, dr, hs with
  | 0, dr, hs =>
    obtain ⟨qs, e1, e2, rfl⟩ := dr
    obtain ⟨k, hk⟩ := sameK0 hs
    obtain ⟨f1, f2⟩ := find_val kOf_eq e1 e2 r hk
    exact ⟨a, _, rfl, .inl ⟨_, k, g, kOf_kV hk hy, rfl⟩, f1, f2⟩
  | 1, dr, hs =>
    obtain ⟨qs, e1, e2, rfl⟩ := dr
    cases c with
    | tup ds =>
      obtain ⟨k, hk⟩ := keysD_ks hs
      have hk2 : ksOf (.tup ds) = some k := hk
      obtain ⟨f1, f2⟩ := find_val ksOf_eq e1 e2 r hk2
      obtain ⟨b, us, rfl, gb, rb, _⟩ := hy.tup
      rw [mapM_vs hk rb] at gb
      exact ⟨a, _, rfl, .inr ⟨_, k, b, g, rfl, gb, rfl⟩, f1, f2⟩
    | _ => simp [sameK] at hs
  | 2, dr, hs => cases c <;> simp [sameK] at hs
  | 3, dr, hs => cases c <;> simp [sameK] at hs
  | n + 4, dr, hs => exact dr.elim
def rDIx : R2 := fun x y H Q => ∃ a v, x = .ref a ∧ DGet H a y (some v) ∧ Q v H
theorem ix_dict {X : Cx} (hu : X.A.units + 1 < cLine) : IxR X rDIx := by
  intro value slice pins s σ H x y v u Q I rx ry h hs
  obtain ⟨a, z, rfl, g, q⟩ := h
  cases rx
  have hT := dict_typeIs I g
  have h₂ : wpAny (model X.prog X.w) X.A (getItem (.ref a) u) (EP X pins σ Q) X.xe s := d_getItem hu I g ry fun w' s3 I3 rw' => ⟨z, H, I3, rw', q⟩
  unfold subscriptTail
  refine wpAny_bind ?_
  rw [getitemInPython_of_ne hT.not_modules]
  refine wpAny_bind (wpAny_specialOf hT PySem.F.slot_dict_getitem.lookup ?_)
  have fin : wpAny (model X.prog X.w) X.A (subscripted slice false (.ref a) u) (fun r s₃ => wpAny (model X.prog X.w) X.A (letTemporaryGo value (.ref a) r >>= fun _ => pure r) (EP X pins σ Q) X.xe s₃) X.xe s := by
    rw [hs]
    exact wpAny_operating (wpAny_mono h₂ (fun r s₃ h₃ => wpAny_bind (wpAny_letTemporaryGo (wpAny_pure h₃))) fun _ _ x => x)
  first
    | exact wpAny_pure (wpAny_bind fin)
    | exact wpAny_bind (wpAny_pure (wpAny_bind fin))
    | exact wpAny_bind fin
def rIxU (K : PySem.W.Frag) : R2 := fun x y H Q => rIx K x y H Q ∨ rDIx x y H Q
theorem ix_U {X : Cx} {K : PySem.W.Frag} (e : X.K = K) (hu : X.A.units + 1 < cLine) : IxR X (rIxU K) := by subst e; exact ix_seq.or (ix_dict hu)
theorem o_ix : Op2 κ (rIxU κ.K) fIx := by
  intro ν Y H x y c d s Q hc hd hf hq
  cases c with
  | dct q ks ws =>
    simp only [fIx_dct] at hf
    split at hf
    · rename_i z
      simp only [Option.map_eq_some_iff] at hf
      obtain ⟨e, h1, rfl⟩ := hf
      obtain ⟨a, o, rfl, g, f1, _⟩ := dget hc hd z
      obtain ⟨u, rfl, ru⟩ := f1 e h1
      exact .inr ⟨a, u, rfl, g, hq.old ru⟩
    · cases hf
  | _ => exact .inl (o_ixS hc hd hf hq)
/-! in -/
def rDIn (neg : Bool) : R2 := fun x y H Q => ∃ a o, y = .ref a ∧ DGet H a x o ∧ Q (.bl (if neg then !o.isSome else o.isSome)) H
theorem op_dIn {X : Cx} (hu : X.A.units + 1 < cLine) : OpR X (compareOp .In) (rDIn false) := by
  intro pins s σ H x y v u Q I rx ry h
  obtain ⟨a, o, rfl, g, q⟩ := h
  cases ry
  exact d_in hu I g rx fun s' I' => ⟨.bl _, H, I', rfl, q⟩
theorem op_dNotIn {X : Cx} (hu : X.A.units + 1 < cLine) : OpR X (compareOp .NotIn) (rDIn true) := by
  intro pins s σ H x y v u Q I rx ry h
  obtain ⟨a, o, rfl, g, q⟩ := h
  cases ry
  exact d_notIn hu I g rx fun s' I' => ⟨.bl _, H, I', rfl, q⟩
def rInT (K : PySem.W.Frag) (neg : Bool) : R2 := fun x y H Q => ∃ d ds, Dp K H x d ∧ Dp K H y (.tuple ds) ∧ SeqAt.shaped d = true ∧ SeqAt.shaped (.tuple ds) = true ∧ Q (.bl (if neg then !ds.any fun z => PyData.eqv z d else ds.any fun z => PyData.eqv z d)) H
theorem op_inT {X : Cx} (hu : X.A.units + 65 < cLine) : OpR X (compareOp .In) (rInT X.K false) := by
  intro pins s σ H x y v u Q I rx ry h
  obtain ⟨d, ds, hd, he, sd, se, q⟩ := h
  obtain ⟨as, r1⟩ := Dp.reads I d x v hd rx
  obtain ⟨bs, r2⟩ := Dp.reads I (.tuple ds) y u he ry
  exact SeqAt.in_tuple_reads r2 r1 (SeqAt.canLay_of_shaped se) (SeqAt.canLay_of_shaped sd) (room_in_shaped sd hu) ⟨.bl _, H, I, rfl, q⟩
theorem op_notInT {X : Cx} (hu : X.A.units + 65 < cLine) : OpR X (compareOp .NotIn) (rInT X.K true) := by
  intro pins s σ H x y v u Q I rx ry h
  obtain ⟨d, ds, hd, he, sd, se, q⟩ := h
  obtain ⟨as, r1⟩ := Dp.reads I d x v hd rx
  obtain ⟨bs, r2⟩ := Dp.reads I (.tuple ds) y u he ry
  exact SeqAt.notIn_tuple_reads r2 r1 (SeqAt.canLay_of_shaped se) (SeqAt.canLay_of_shaped sd) (room_in_shaped sd hu) ⟨.bl _, H, I, rfl, q⟩
def rInU (K : PySem.W.Frag) (neg : Bool) : R2 := fun x y H Q => (if neg then rNotInD K x y H Q else rInD K x y H Q) ∨ rInT K neg x y H Q ∨ rDIn neg x y H Q
theorem op_inU {X : Cx} {K : PySem.W.Frag} (e : X.K = K) (hu : X.A.units + 65 < cLine) : OpR X (compareOp .In) (rInU K false) := by subst e; exact (op_inD hu).or ((op_inT hu).or (op_dIn (by omega)))
theorem op_ninU {X : Cx} {K : PySem.W.Frag} (e : X.K = K) (hu : X.A.units + 65 < cLine) : OpR X (compareOp .NotIn) (rInU K true) := by subst e; exact (op_notInD hu).or ((op_notInT hu).or (op_dNotIn (by omega)))
theorem any_eqv {n m : Nat} {c : D} : ∀ {ds : List D}, plains n ds = true → plain m c = true → (toPs ds).any (fun z => PyData.eqv z (toP c)) = ds.any fun y => eqD y c
  | [], _, _ => by simp [toPs]
  | d :: ds, h, hc => by
    simp only [plains, Bool.and_eq_true] at h
    simp only [toPs, List.any_cons, eqv_of d c h.1 hc, any_eqv h.2 hc]
theorem plain_up {n m : Nat} {d : D} (h : plain n d = true) (l : n ≤ m) : plain m d = true ∧ True := by
  refine ⟨?_, trivial⟩
  exact (plain_le n d m l h)
where
  plain_le : ∀ (n : Nat) (d : D) (m : Nat), n ≤ m → plain n d = true → plain m d = true := by
    intro n
    induction n with
    | zero =>
      intro d m _ h
      cases d <;> simp [plain] at h ⊢
      exact h
    | succ n ih =>
      intro d m l h
      obtain ⟨m, rfl⟩ : ∃ k, m = k + 1 := ⟨m - 1, by omega⟩
      cases d with
      | tup ds => simp only [plain] at h ⊢; exact all_le ih (by omega) h
      | lst ds => simp only [plain] at h ⊢; exact all_le ih (by omega) h
      | _ => simp [plain] at h ⊢ <;> exact h
  all_le {n m : Nat} (ih : ∀ (d : D) (m : Nat), n ≤ m → plain n d = true → plain m d = true) (l : n ≤ m) : ∀ {ds : List D}, plains n ds = true → plains m ds = true
    | [], _ => by simp [plains]
    | d :: ds, h => by
      simp only [plains, Bool.and_eq_true] at h ⊢
      exact ⟨ih d m l h.1, all_le ih l h.2⟩
theorem in_core {Y : Addr → Prop} {H : Hp} {x y : V} {c d : D} {b : Bool} {Q : VK} (neg : Bool) (hc : LD κ ν Y H c x) (hd : LD κ ν Y H d y) (hf : fIn c d = some (.sh (.bl b))) (hq : Q (.bl (if neg then !b else b)) H) : rInU κ.K neg x y H Q := by
  cases d with
  | lst ds =>
    simp only [fIn_lst] at hf
    split at hf
    · rename_i z
      simp only [shB_ap, Option.some.injEq, Sl.sh.injEq, D.bl.injEq] at hf
      subst hf
      simp only [Bool.and_eq_true] at z
      have hp : plain 61 (.lst ds) = true := by simpa [plain] using z.2
      have h2 := hd.dp hp
      have h3 := shaped_of hp (by decide)
      simp only [toP] at h2 h3
      refine .inl ?_
      cases neg with
      | false => exact ⟨_, _, hc.dp z.1, h2, shaped_of z.1 (by decide), h3, by rw [any_eqv z.2 z.1]; exact hq⟩
      | true => exact ⟨_, _, hc.dp z.1, h2, shaped_of z.1 (by decide), h3, by rw [any_eqv z.2 z.1]; exact hq⟩
    · cases hf
  | tup ds =>
    simp only [fIn_tup] at hf
    split at hf
    · rename_i z
      simp only [shB_ap, Option.some.injEq, Sl.sh.injEq, D.bl.injEq] at hf
      subst hf
      simp only [Bool.and_eq_true] at z
      have hp : plain 61 (.tup ds) = true := by simpa [plain] using z.2
      have h2 := hd.dp hp
      have h3 := shaped_of hp (by decide)
      simp only [toP] at h2 h3
      exact .inr (.inl ⟨_, _, hc.dp z.1, h2, shaped_of z.1 (by decide), h3, by rw [any_eqv z.2 z.1]; exact hq⟩)
    · cases hf
  | dct q ks ws =>
    simp only [fIn_dct] at hf
    split at hf
    · rename_i z
      simp only [shB_ap, Option.some.injEq, Sl.sh.injEq, D.bl.injEq] at hf
      obtain ⟨a, o, rfl, g, f1, f2⟩ := dget hd hc z
      refine .inr (.inr ⟨a, o, rfl, g, ?_⟩)
      have : o.isSome = b := by
        rw [← hf]
        cases h : dFind ks ws c with
        | none => rw [f2 h]; rfl
        | some e => obtain ⟨u, rfl, _⟩ := f1 e h; rfl
      rw [this]; exact hq
    · cases hf
  | _ => cases c <;> simp [fIn] at hf
theorem fIn_bl {c d : D} {s : Sl} (h : fIn c d = some s) : ∃ b, s = .sh (.bl b) := by
  cases d with
  | lst ds => simp only [fIn_lst] at h; split at h <;> cases h; exact ⟨_, rfl⟩
  | tup ds => simp only [fIn_tup] at h; split at h <;> cases h; exact ⟨_, rfl⟩
  | dct q ks ws => simp only [fIn_dct] at h; split at h <;> cases h; exact ⟨_, rfl⟩
  | _ => cases c <;> simp [fIn] at h
theorem o_in : Op2 κ (rInU κ.K false) fIn := by
  intro ν Y H x y c d s Q hc hd hf hq
  obtain ⟨b, rfl⟩ := fIn_bl hf
  exact in_core false hc hd hf hq.bl
theorem o_nin : Op2 κ (rInU κ.K true) fNotIn := by
  intro ν Y H x y c d s Q hc hd hf hq
  simp only [fNotIn] at hf
  cases h : fIn c d with
  | none => rw [h] at hf; cases hf
  | some s' =>
    rw [h] at hf
    obtain ⟨b, rfl⟩ := fIn_bl h
    cases hf
    exact in_core true hc hd h hq.bl
end
end Dl

namespace Dl
open PySem L2 Wp
/-! The law's draws, and the law's end. -/
def IsScr (K : PySem.W.Frag) (H : Hp) (a : Addr) : Prop := ∃ ns : List Int, ns.length ≤ 63 ∧ SqL K H a (ns.map V.int)
/-- abs 0: the state of the draws; abs 1: the script -/
structure DrawC (κ : Ctx) : Prop where
  st : ∀ a o, κ.ab 0 [] a o ↔ o = StO a
  nk : ∀ a, ¬ κ.kb 0 a
  sc : ∀ a o, κ.ab 1 [] a o ↔ ∃ ns : List Int, ns.length ≤ 63 ∧ (o = .lst (ns.map V.int) ∨ ∃ u, o = .frz u (.lst (ns.map V.int)))
  sk : ∀ a, κ.kb 1 a ↔ IsScr κ.K (fun _ => none) a
variable {κ : Ctx} {ν ν' : List Addr} {H H' : Hp} {v : V} {Y : Addr → Prop} {F : List VS}
theorem stO_ntd (st : Addr) : ntd (StO st) := fun w a kvs e => by
  have e' := HO.ext.inj e
  let ob : Obj := { cls := .type "list", data := .seq ([.int 0 default, .int 0 default, .int 0 default, .int 0 default] : List Value).toArray 0 }
  let h : Heap := { objs := Array.replicate (a + st + 1) ob }
  have g : ∀ b : Nat, b < a + st + 1 → h.get? b = some ob := fun b hb => by
    have z : h.objs[b]? = some ob := by
      show (Array.replicate (a + st + 1) ob)[b]? = some ob
      rw [Array.getElem?_replicate, if_pos hb]
    unfold Heap.get?
    rw [z]
  have z : St4 st h := ⟨0, 0, 0, 0, _, 0, .cons ⟨_, rfl⟩ (.cons ⟨_, rfl⟩ (.cons ⟨_, rfl⟩ (.cons ⟨_, rfl⟩ .nil))), g st (Nat.lt_succ_of_le (Nat.le_add_left st a))⟩
  rw [e'] at z
  obtain ⟨xs, _, o, es, ep, h1, _, h3, _⟩ := z
  rw [g a (Nat.lt_succ_of_le (Nat.le_add_right a st))] at h1
  cases h1
  cases h3
theorem scr_of (c : DrawC κ) (h : RD κ ν Y H (.abs 1 []) v) : ∃ a, v = .ref a ∧ IsScr κ.K H a := by
  simp only [RD] at h
  obtain ⟨a, e, ⟨o, n, g, r⟩ | r | ⟨m3, _⟩⟩ := h
  · obtain ⟨ns, l, rfl | ⟨u, rfl⟩⟩ := (c.sc a o).mp (r.resolve_left fun z => absurd z.1 (by decide)).1
    · exact ⟨a, e, ns, l, .inl (.inl g)⟩
    · exact ⟨a, e, ns, l, .inl (.inr ⟨_, g⟩)⟩
  · obtain ⟨ns, l, (z | ⟨_, z⟩) | z⟩ := (c.sk a).mp r
    · cases z
    · cases z
    · exact ⟨a, e, ns, l, .inr z⟩
  · exact absurd m3 (by decide)
theorem rd_scr (c : DrawC κ) {a : Addr} {ns : List Int} (l : ns.length ≤ 63) (h : SqL κ.K H a (ns.map V.int)) (hY : ¬ Y a) : RD κ ν Y H (.abs 1 []) (.ref a) := by
  simp only [RD]
  rcases h with (z | ⟨u, z⟩) | z
  · exact ⟨a, rfl, .inl ⟨_, hY, z, Or.inr ⟨(c.sc a _).mpr ⟨ns, l, .inl rfl⟩, trivial⟩⟩⟩
  · exact ⟨a, rfl, .inl ⟨_, hY, z, Or.inr ⟨(c.sc a _).mpr ⟨ns, l, .inr ⟨u, rfl⟩⟩, trivial⟩⟩⟩
  · exact ⟨a, rfl, .inr (.inl ((c.sk a).mpr ⟨ns, l, .inr z⟩))⟩
theorem st_of (c : DrawC κ) (h : RD κ ν Y H (.abs 0 []) v) : ∃ a, v = .ref a ∧ H a = some (StO a) := by
  simp only [RD] at h
  obtain ⟨a, e, ⟨o, n, g, r⟩ | r | ⟨m3, _⟩⟩ := h
  · exact ⟨a, e, by rw [g, (c.st a o).mp (r.resolve_left fun z => absurd z.1 (by decide)).1]⟩
  · exact (c.nk a r).elim
  · exact absurd m3 (by decide)
theorem zV_rd {vs : List V} {ds : List D} (er : ER κ ν H (zV vs ds ++ F)) (l : vs.length = ds.length) : RDs κ ν (OA F) H ds vs := by
  have k : ∀ a o, H a = some o → OA F a → OA (zV vs ds ++ F) a := fun a o _ ⟨d, m⟩ => ⟨d, List.mem_append_right _ m⟩
  have key : ∀ (vs : List V) (ds : List D), vs.length = ds.length → (∀ p ∈ zV vs ds, SlOk κ ν (OA F) H p.1 p.2) → RDs κ ν (OA F) H ds vs := by
    intro vs
    induction vs with
    | nil => intro ds l _; cases ds with
      | nil => simp [RDs]
      | cons => cases l
    | cons v vs ih =>
      intro ds l h
      cases ds with
      | nil => cases l
      | cons d ds =>
        simp only [RDs]
        have z := h (some v, .sh d) (by simp [zV])
        obtain ⟨w, e, r⟩ := z
        cases e
        exact ⟨v, vs, rfl, r, ih ds (Nat.succ.inj l) fun p m => h p (by simp only [zV, List.map_cons, List.zip_cons_cons, List.mem_cons]; exact .inr m)⟩
  exact key vs ds l fun p m => (er.ok p (List.mem_append_left _ m)).mono k
theorem spF_draw (c : DrawC κ) {vs : List V} {Q : VK} {E : XK} (h : spF κ M__law_draw vs H Q E) : spDraw κ.K vs H Q E := by
  obtain ⟨F, ds, l, er, w⟩ := h
  have hr := zV_rd er l
  unfold M__law_draw at w
  split at w
  · rename_i n
    simp only [RDs] at hr
    obtain ⟨v1, _, rfl, r1, v2, _, rfl, r2, v3, _, rfl, r3, rfl⟩ := hr
    obtain ⟨a, rfl, ns, hl, hS⟩ := scr_of c r1
    obtain ⟨st, rfl, hst⟩ := st_of c r2
    simp only [RD] at r3
    subst r3
    obtain ⟨⟨n0, n1⟩, k⟩ := w
    refine ⟨a, st, ns, n, rfl, hS, hl, hst, n0, n1, fun r h0 h1 => ?_⟩
    exact k r h0 h1 _ _ (Xt.refl _) (fun _ _ z => by cases z) (fun _ => nofun) (er.sub.push (by simp only [RD]))
  · exact w.elim
theorem spF_start (c : DrawC κ) {vs : List V} {Q : VK} {E : XK} (h : spF κ M__law_start vs H Q E) : spStart κ.K vs H Q E := by
  obtain ⟨F, ds, l, er, w⟩ := h
  have hr := zV_rd er l
  unfold M__law_start at w
  split at w
  · simp only [RDs] at hr
    obtain ⟨v1, _, rfl, r1, rfl⟩ := hr
    obtain ⟨a, rfl, ns, hl, hS⟩ := scr_of c r1
    refine ⟨a, ns, rfl, hS, hl, fun st hn => ?_⟩
    have e := Xt.new (κ := κ) (o := StO st) (Xt.refl H) hn
    refine w _ _ e (fun _ _ _ z => by cases z) (fun _ => nofun) ((er.sub.ext e).push ?_)
    simp only [RD]
    have nF : ¬ OA F st := fun o => by
      obtain ⟨u, z, _⟩ := OA.some er.sub o
      rw [hn] at z; cases z
    exact ⟨st, rfl, .inl ⟨_, nF, upd_same, .inr ⟨(c.st _ _).mpr rfl, stO_ntd st⟩⟩⟩
  · exact w.elim
/-- the law answers True -/
def lawOk (f : Fn) : Prop := wp (f [.abs 1 []]) [] (fun s _ => s = .sh (.bl true)) fun _ _ => False
theorem law_spF (c : DrawC κ) {f : Fn} (ok : lawOk f) (tab : TabAll κ H) {a : Addr} {ns : List Int} (l : ns.length ≤ 63) (h : SqL κ.K H a (ns.map V.int)) {Q : VK} {E : XK} (k : ∀ H', Q (.bl true) H') : spF κ f [.ref a] H Q E := by
  refine ⟨[], [.abs 1 []], rfl, ?_, ?_⟩
  · have e0 : ER κ [] H [] := ⟨(fun p m => by cases m), List.Pairwise.nil, tab⟩
    exact e0.push (rd_scr c l h fun ⟨_, m⟩ => by cases m)
  · refine wp_mono ok ?_ ?_
    · rintro _ _ rfl v H' _ _ _ er
      obtain ⟨w, e, r⟩ := er.ok _ (List.mem_cons_self ..)
      cases e
      simp only [RD] at r
      subst r
      exact k H'
    · exact fun _ _ z => z.elim
end Dl

namespace Dl
open PySem L2 Wp
section
variable {κ : Ctx} {ν ν' : List Addr} {η : Hn} {W : WX} {B : Hp} {F Z : List VS} {τ : List V} {ts : List Sl} {σ : L2.St} {sl : List Sl} {H H' : Hp} {v x : V} {s : Sl} {d : D} {ta tb tc te tf : TE} {ma mb mc m : EM} {tr : TA} {as : List EM} {t u : TS} {a b : SM}
/-! new dicts -/
theorem sim_newK : SimE κ η W tDNewK (newD 0) := by
  intro F0 st ν B F τ ts σ sl H Q so es w p hp
  simp only [newD_ap, wp] at w
  refine w _ _ _ _ so (es.newV (s := .ow (.dct 0 [] [])) ⟨p, _, [], rfl, hp, rfl, ⟨[], rfl, rfl, rfl⟩, by simp [RDs]⟩)
theorem sim_newT : SimE κ η W tDNewT (newD 1) := by
  intro F0 st ν B F τ ts σ sl H Q so es w p hp
  simp only [newD_ap, wp] at w
  refine w _ _ _ _ so (es.newV (s := .ow (.dct 1 [] [])) ⟨p, _, [], rfl, hp, rfl, ⟨[], rfl, rfl, rfl⟩, by simp [RDs]⟩)
/-! a < b < c -/
theorem op2_bl {r : R2} {f : D → D → Option Sl} (h : Op2 κ r f) {Y : Addr → Prop} {y : V} {c e : D} {k : Bool} {Q : VK} (h1 : LD κ ν Y H c x) (h2 : LD κ ν Y H e y) (q : f c e = some (.sh (.bl k))) (hq : Q (.bl k) H) : r x y H Q := by
  refine h h1 h2 q fun v' H' n => ?_
  rcases n with ⟨rfl, z⟩ | ⟨p, vs, ds, z, _⟩
  · simp only [RD] at z; subst z; exact hq
  · cases z
theorem sim_chn {r r' : R2} {f g : D → D → Option Sl} (h : Op2 κ r f) (h' : Op2 κ r' g) (ha : SimE κ η W ta ma) (hb : SimE κ η W tb mb) (hc : SimE κ η W tc mc) : SimE κ η W (tChain r r' ta tb tc) (chn f g ma mb mc) := by
  intro F0 st ν B F τ ts σ sl H Q so es w
  simp only [chn_ap, wp_bnd] at w
  refine ha so es (wp_mono w (fun e st we ν F x H1 so es1 => ?_) fun _ _ z => z)
  simp only [seqE_ap, wp_bnd] at we
  obtain ⟨ets, esl⟩ := e
  refine hb so es1 (wp_mono we (fun e2 st we2 ν F y H2 so es2 => ?_) fun _ _ z => z)
  obtain ⟨ets2, esl2⟩ := e2
  obtain ⟨sy, r1, rfl⟩ := ts_cons es2.lt
  obtain ⟨sx, r2, rfl⟩ := ts_cons es2.pop.lt
  simp only [chnM_ap] at we2
  cases q1 : getV esl2 sx with
  | none => rw [q1] at we2; exact we2.elim
  | some c =>
    cases q2 : getV esl2 sy with
    | none => rw [q1, q2] at we2; exact we2.elim
    | some d =>
      rw [q1, q2] at we2
      simp only [Option.bind_some] at we2
      match q3 : f c d with
      | none => rw [q3] at we2; exact we2.elim
      | some (.sh (.bl k)) =>
        rw [q3] at we2
        simp only [chnK_bl, wp_iteC] at we2
        have l1 := es2.read (x := x) (s := sx) (by simp) q1
        have l2 := es2.read (x := y) (s := sy) (by simp) q2
        refine op2_bl h l1 l2 q3 ⟨k, rfl, ?_⟩
        have esy : ES κ ν η B F (y :: τ) (sy :: r2) σ esl2 H2 := by
          have p1 : (zA (y :: x :: τ) (sy :: sx :: r2) σ esl2 F).Perm ((some x, sx) :: zA (y :: τ) (sy :: r2) σ esl2 F) := by
            simp only [zA, zT, List.map_cons, List.zip_cons_cons, List.cons_append]
            exact List.Perm.swap _ _ _
          refine ⟨by simpa using es2.pop.lt, es2.ls, fun v' i m => es2.al v' i ?_, (es2.er.perm p1).tail, es2.bs, fun a e m => es2.fr a e ?_, es2.sf, fun z hz => ?_⟩
          · simp only [List.zip_cons_cons, List.mem_cons] at m ⊢
            rcases m with m | m
            · exact .inl m
            · exact .inr (.inr m)
          · simp only [zT, List.map_cons, List.zip_cons_cons, List.cons_append, List.mem_cons] at m ⊢
            rcases m with m | m
            · exact .inl m
            · exact .inr (.inr m)
          · refine ⟨(es2.ex z hz).1, exr_sub (es2.ex z hz).2 ?_⟩
            rintro a ⟨e, m⟩
            exact ⟨e, p1.symm.mem_iff.mp (List.mem_cons_of_mem _ m)⟩
        cases k with
        | false =>
          simp only [Bool.false_eq_true, if_false, wp] at we2 ⊢
          exact we2 _ _ _ _ so (esy.pop.pushR (by simp only [RD]))
        | true =>
          simp only [if_true, wp_bnd] at we2 ⊢
          refine hc so esy (wp_mono we2 (fun e3 st we3 ν F z H3 so es3 => ?_) fun _ _ z => z)
          obtain ⟨ets3, esl3⟩ := e3
          obtain ⟨sz, r3, rfl⟩ := ts_cons es3.lt
          obtain ⟨sy', r4, rfl⟩ := ts_cons es3.pop.lt
          simp only [op2_ap] at we3
          cases q4 : getV esl3 sy' with
          | none => rw [q4] at we3; exact we3.elim
          | some c3 =>
            cases q5 : getV esl3 sz with
            | none => rw [q4, q5] at we3; exact we3.elim
            | some d3 =>
              rw [q4, q5] at we3
              simp only [Option.bind_some] at we3
              cases q6 : g c3 d3 with
              | none => rw [q6] at we3; exact we3.elim
              | some t3 =>
                rw [q6] at we3
                have l3 := es3.read (x := y) (s := sy') (by simp) q4
                have l4 := es3.read (x := z) (s := sz) (by simp) q5
                exact h' (l3.mono fun a z => os_pop a (os_pop a z)) (l4.mono fun a z => os_pop a (os_pop a z)) q6 fun v' H' n => we3 _ _ _ _ so (es3.pop.pop.newV n)
      | some .unk => rw [q3] at we2; exact we2.elim
      | some (.ow _) => rw [q3] at we2; exact we2.elim
      | some (.al _) => rw [q3] at we2; exact we2.elim
      | some (.exc _) => rw [q3] at we2; exact we2.elim
      | some (.sh .non) => rw [q3] at we2; exact we2.elim
      | some (.sh (.int _)) => rw [q3] at we2; exact we2.elim
      | some (.sh (.str _)) => rw [q3] at we2; exact we2.elim
      | some (.sh (.tup _)) => rw [q3] at we2; exact we2.elim
      | some (.sh (.lst _)) => rw [q3] at we2; exact we2.elim
      | some (.sh (.dct _ _ _)) => rw [q3] at we2; exact we2.elim
      | some (.sh (.ins _ _ _)) => rw [q3] at we2; exact we2.elim
      | some (.sh (.abs _ _)) => rw [q3] at we2; exact we2.elim
      | some (.sh (.fn _)) => rw [q3] at we2; exact we2.elim
      | some (.sh (.loc _)) => rw [q3] at we2; exact we2.elim
/-! x += a of ints -/
theorem o_addI : Op2 κ (ipI fun i j => i + j) fAddI := o_int (g := fun i j => .int (i + j)) fun c d s h => by
  cases c <;> cases d <;> simp [fAddI] at h
  exact ⟨_, _, _, rfl, rfl, h.symm, .inl ⟨_, rfl, rfl⟩⟩
theorem o_subI : Op2 κ (ipI fun i j => i - j) fSub := o_sub
theorem sim_aug {i : Nat} {ti : TIp} {f : D → D → Option Sl} (h : Op2 κ ti f) (ho : η.ok i) (he : SimE κ η W te m) : SimS κ η W (tAug i te ti) (setS i (bin f (rf i) m)) :=
  sim_set ho (sim_op2 h sim_rf he)
/-! x, y = a, b -/
theorem sim_par {i j : Nat} (hi : η.ok i) (hj : η.ok j) (ha : SimE κ η W ta ma) (hb : SimE κ η W tb mb) : SimS κ η W (tPar i j (tCons ta (tCons tb tNil))) (parS i j ma mb) := by
  intro F0 st ν B F σ sl H D so es w
  simp only [parS_ap, seqE_ap, wp_bnd] at w
  refine ha so es (wp_mono w (fun e st we ν F x H1 so es1 => ?_) fun _ _ z => z.xp)
  obtain ⟨ets, esl⟩ := e
  refine hb so es1 (wp_mono we (fun e2 st we2 ν F y H2 so es2 => ?_) fun _ _ z => z.xp)
  obtain ⟨ets2, esl2⟩ := e2
  refine ⟨x, y, rfl, ?_⟩
  unfold parK at we2
  split at we2
  · rename_i dy dx e
    replace e : ets2 = [.sh dy, .sh dx] := e
    subst e
    have ry := ES.pop1 es2 (d := dy) rfl (fun _ => nofun)
    have rx := ES.pop1 es2.pop (d := dx) rfl (fun _ => nofun)
    have es3 := es2.pop.store hi (fun _ => nofun) (fun _ => nofun)
    have ry2 : RD κ ν (OS F [] [] (σ.set i (some x)) (esl2.set i (.sh dx))) H2 dy y := ry.mono fun a o _ z => os_pop a (oa_slot (τ := []) (ts := []) (s' := .sh dx) (fun _ => nofun) a z)
    exact we2 _ _ _ _ so ((es3.pushR ry2).store hj (fun _ => nofun) (fun _ => nofun))
  · exact we2.elim
end
end Dl

namespace Dl
open PySem L2 Wp
section
variable {κ : Ctx} {ν ν' : List Addr} {η : Hn} {W : WX} {B : Hp} {F Z : List VS} {τ : List V} {ts : List Sl} {σ : L2.St} {sl : List Sl} {H H' : Hp} {v x : V} {s : Sl} {d : D} {ta tb tc te tf : TE} {ma mb mc m : EM} {tr : TA} {as : List EM} {t u : TS} {a b : SM}
/-! ### x is True -/
def rIsBU : R2 := fun x y H Q => ∃ b : Bool, y = .bl b ∧ Q (.bl (decide (x = .bl b))) H
def rNotBU : R2 := fun x y H Q => ∃ b : Bool, y = .bl b ∧ Q (.bl (!decide (x = .bl b))) H
theorem rel_bool {x : V} {v : Value} {b : Bool} (r : RelV x v) : (x = .bl b ↔ v = .bool b) ∧ plainIs v (.bool b) = true := by
  cases x with
  | non => cases r; exact ⟨⟨nofun, nofun⟩, rfl⟩
  | bl a => cases (show v = Value.bool a from r); exact ⟨⟨fun e => by cases e; rfl, fun e => by cases e; rfl⟩, rfl⟩
  | int i => obtain ⟨t, rfl⟩ := r; exact ⟨⟨nofun, nofun⟩, rfl⟩
  | str i => obtain ⟨t, rfl⟩ := r; exact ⟨⟨nofun, nofun⟩, rfl⟩
  | byt i => obtain ⟨t, rfl⟩ := (show ∃ t, v = Value.bytes i t from r); exact ⟨⟨nofun, nofun⟩, rfl⟩
  | flt i => obtain ⟨t, rfl⟩ := (show ∃ t, v = Value.float i t from r); exact ⟨⟨nofun, nofun⟩, rfl⟩
  | ref a => cases (show v = Value.ref a from r); exact ⟨⟨nofun, nofun⟩, rfl⟩
  | ty a => cases (show v = Value.type a from r); exact ⟨⟨nofun, nofun⟩, rfl⟩
theorem op_isBU {X : Cx} : OpR X (compareOp .Is) rIsBU := by
  intro pins s σ H x y v u Q I rx ry h
  obtain ⟨b, rfl, q⟩ := h
  cases (show u = Value.bool b from ry)
  obtain ⟨e, p⟩ := rel_bool (b := b) rx
  refine wpAny_is_plain p ⟨.bl (decide (x = .bl b)), H, I, ?_, q⟩
  show Value.bool _ = Value.bool _
  congr 1
  rw [Bool.eq_iff_iff, beq_iff_eq, decide_eq_true_eq]
  exact e.symm
theorem op_notBU {X : Cx} : OpR X (compareOp .IsNot) rNotBU := by
  intro pins s σ H x y v u Q I rx ry h
  obtain ⟨b, rfl, q⟩ := h
  cases (show u = Value.bool b from ry)
  obtain ⟨e, p⟩ := rel_bool (b := b) rx
  refine wpAny_isNot_plain p ⟨.bl (!decide (x = .bl b)), H, I, ?_, q⟩
  show Value.bool _ = Value.bool _
  congr 2
  rw [Bool.eq_iff_iff, beq_iff_eq, decide_eq_true_eq]
  exact e.symm
theorem bl_iff {Y : Addr → Prop} {b : Bool} (h : LD κ ν Y H d v) : decide (v = .bl b) = isBl b d := by
  rcases h with h | ⟨a, rfl, h⟩
  · cases d <;> simp only [RD] at h
    case non => subst h; rfl
    case bl c => subst h; simp only [V.bl.injEq, isBl_bl]; cases b <;> cases c <;> rfl
    case int => subst h; rfl
    case str => subst h; rfl
    case fn => subst h; rfl
    all_goals (obtain ⟨_, h⟩ := h; first | (obtain ⟨_, _, rfl, _⟩ := h; rfl) | (obtain ⟨_, rfl, _⟩ := h; rfl) | (obtain ⟨rfl, _⟩ := h; rfl))
  · cases d <;> first | rfl | exact h.elim
theorem sim_isB {b : Bool} (ha : SimE κ η W ta ma) : SimE κ η W (tOp rIsBU ta (tC (.bl b))) (un1 (fIsB b) ma) :=
  sim_op1 (r := fun x H Q => rIsBU x (.bl b) H Q) (fun hc hf hq => by cases hf; exact ⟨b, rfl, by rw [bl_iff hc]; exact hq.bl⟩) ha
theorem sim_notB {b : Bool} (ha : SimE κ η W ta ma) : SimE κ η W (tOp rNotBU ta (tC (.bl b))) (un1 (fIsnB b) ma) :=
  sim_op1 (r := fun x H Q => rNotBU x (.bl b) H Q) (fun hc hf hq => by cases hf; exact ⟨b, rfl, by rw [bl_iff hc]; exact hq.bl⟩) ha
/-! ### isinstance -/
def tyName : Ty → String
  | .int => "int" | .bool => "bool" | .str => "str" | .tuple => "tuple" | .list => "list" | .dict => "dict" | .own _ => ""
def kindD : D → Option String
  | .non => some "NoneType" | .bl _ => some "bool" | .int _ => some "int" | .str _ => some "str" | .tup _ => some "tuple" | .lst _ => some "list" | _ => none
theorem vk_of {Y : Addr → Prop} {n : String} (h : LD κ ν Y H d v) (e : kindD d = some n) : Vk κ.K H v n := by
  cases d with
  | non => cases e; rw [h.non]; exact .non
  | bl b => cases e; rw [h.bl]; exact .bl b
  | int i => cases e; rw [h.int]; exact .int i
  | str i => cases e; rw [h.str]; exact .str i
  | tup ds => cases e; obtain ⟨a, vs, rfl, g, _⟩ := h.tup; exact .tup (SqT.of g)
  | lst ds => cases e; obtain ⟨a, vs, rfl, g, _⟩ := h.lst; exact .lst (SqL.of g)
  | _ => cases e
theorem kit_of {t : Ty} {b : Bool} (ht : ∀ c, t ≠ .own c) (h : isTy t d = some b) : ∃ n, kindD d = some n ∧ kitB n (tyName t) = some b := by
  cases t <;> cases d <;> simp only [isTy, Option.some.injEq, reduceCtorEq] at h <;> first
    | exact ⟨_, rfl, by subst h; decide +kernel⟩
    | exact absurd rfl (ht _)
    | skip
theorem o_isV {t : Ty} (ht : ∀ c, t ≠ .own c) : OpC1 κ (fun xs H Q => rIsV κ.K (xs ++ [.ty (tyName t)]) H Q) (fIsi t) := by
  intro ν Y H x c s Q hc hf hq
  simp only [fIsi_ap] at hf
  cases h : isTy t c with
  | none => rw [h] at hf; cases hf
  | some b =>
    rw [h] at hf
    cases hf
    obtain ⟨n, k1, k2⟩ := kit_of ht h
    exact ⟨x, n, tyName t, b, rfl, vk_of hc k1, k2, hq.bl⟩
theorem sim_isV {K : PySem.W.Frag} {t : Ty} {n : String} (eK : κ.K = K) (ht : ∀ c, t ≠ .own c) (en : tyName t = n) (ha : SimE κ η W ta ma) : SimE κ η W (tCB (rIsV K) (tCons ta (tCons (tC (.ty n)) tNil))) (un1 (fIsi t) ma) := by
  subst eK en
  exact sim_cbK (o_isV ht) ha
theorem sim_isO {K : PySem.W.Frag} {c : Nat} {C : Addr} (eK : κ.K = K) (hC : κ.cls c = C) (o : IsO K C) (k : PySem.W.kitOne K (.ref C) (.ref C) = some true) (ha : SimE κ η W ta ma) : SimE κ η W (tCB (rIsi K) (tCons ta (tCons (tC (.ref C)) tNil))) (un1 (fIsO c) ma) := by
  subst eK hC
  refine sim_cbK ?_ ha
  intro ν Y H x e s Q hc hf hq
  cases e with
  | ins c' ns vs =>
    simp only [fIsO_ins] at hf
    split at hf
    · rename_i z
      subst z
      cases hf
      obtain ⟨a, dx, ws, rfl, g, _⟩ := hc.ins
      exact i_isO o g k hq.bl
    · cases hf
  | _ => cases hf
/-! ### sorted -/
theorem ins1_perm (a : Int) : ∀ r : List Int, (insSort.ins1 a r).Perm (a :: r)
  | [] => .refl _
  | b :: r => by
    simp only [insSort.ins1]
    split
    · exact .refl _
    · exact ((ins1_perm a r).cons b).trans (.swap a b r)
theorem insSort_perm : ∀ ns : List Int, (insSort ns).Perm ns
  | [] => .refl _
  | a :: r => (ins1_perm a _).trans ((insSort_perm r).cons a)
theorem ins1_sorted (a : Int) : ∀ r : List Int, r.Pairwise (· ≤ ·) → (insSort.ins1 a r).Pairwise (· ≤ ·)
  | [], _ => by simp [insSort.ins1]
  | b :: r, h => by
    simp only [insSort.ins1]
    rw [List.pairwise_cons] at h
    split
    · rename_i z
      refine List.Pairwise.cons (fun y hy => ?_) (List.Pairwise.cons h.1 h.2)
      rcases List.mem_cons.mp hy with rfl | hy
      · exact z
      · exact Int.le_trans z (h.1 y hy)
    · rename_i z
      refine List.Pairwise.cons (fun y hy => ?_) (ins1_sorted a r h.2)
      rcases List.mem_cons.mp ((ins1_perm a r).mem_iff.mp hy) with rfl | hy
      · omega
      · exact h.1 y hy
theorem insSort_sorted : ∀ ns : List Int, (insSort ns).Pairwise (· ≤ ·)
  | [] => .nil
  | a :: r => ins1_sorted a _ (insSort_sorted r)
theorem sorted_eq {ns ms : List Int} (p : ms.Perm ns) (s : ms.Pairwise (· ≤ ·)) : ms = insSort ns :=
  List.Perm.eq_of_pairwise (le := (· ≤ ·)) (fun a b _ _ h1 h2 => Int.le_antisymm h1 h2) s (insSort_sorted ns) (p.trans (insSort_perm ns).symm)
theorem kcr_sortedI {X : Cx} {K : PySem.W.Frag} (e : X.K = K) : CallR X (.builtin "sorted") (rSortedI K) := by subst e; exact cr_sortedI
theorem o_sorted : OpC1 κ (rSortedI κ.K) fSorted := by
  intro ν Y H x c s Q hc hf hq
  cases c with
  | lst ds =>
    simp only [fSorted_lst] at hf
    cases h : asInts ds with
    | none => rw [h] at hf; cases hf
    | some ns =>
      rw [h] at hf
      simp only [Option.bind_some] at hf
      cases hf
      have e := asInts_of h
      subst e
      obtain ⟨a, vs, rfl, g, r⟩ := hc.lst
      have e2 := r.ints
      subst e2
      refine ⟨a, ns, rfl, SqL.of g, fun ns' p hp hs hn => ?_⟩
      rw [sorted_eq hp hs]
      exact hq.lst (RDs.of_ints _) hn
  | _ => cases hf
/-! ### a * b -/
def rMulU : R2 := fun x y H Q => rI CMul (fun i j => .int (i * j)) x y H Q ∨ rRep x y H Q
theorem op_mulU {X : Cx} : OpR X (binaryOp .Mult) rMulU := op_mul.or op_rep
theorem RDs.rep {Y : Addr → Prop} {ds : List D} {vs : List V} (r : RDs κ ν Y H ds vs) : ∀ n, RDs κ ν Y H (List.replicate n ds).flatten (List.replicate n vs).flatten
  | 0 => by simp [RDs]
  | n + 1 => by
    simp only [List.replicate_succ, List.flatten_cons]
    exact r.app (r.rep n)
theorem fMulL_forms {c d : D} {s : Sl} (h : fMulL c d = some s) : (∃ i j, c = .int i ∧ d = .int j) ∨ ∃ ds j, c = .lst ds ∧ d = .int j := by
  cases c <;> cases d <;> first | exact .inl ⟨_, _, rfl, rfl⟩ | exact .inr ⟨_, _, rfl, rfl⟩ | (cases h; done)
theorem o_mul : Op2 κ rMulU fMulL := by
  intro ν Y H x y c d s Q hc hd hf hq
  rcases fMulL_forms hf with ⟨i, j, rfl, rfl⟩ | ⟨ds, j, rfl, rfl⟩
  · simp only [fMulL_int] at hf
    split at hf
    · rename_i z
      cases hf
      rw [hc.int, hd.int]
      exact .inl ⟨i, j, rfl, rfl, z, hq.int⟩
    · cases hf
  · simp only [fMulL_lst] at hf
    split at hf
    · rename_i z
      cases hf
      obtain ⟨a, vs, rfl, g, r⟩ := hc.lst
      rw [hd.int]
      refine .inr ⟨a, j, vs, rfl, rfl, g, by omega, by omega, by rw [← r.len]; exact szD z.1, fun p hp => hq.lst (r.rep _) hp⟩
    · cases hf
end
end Dl

namespace Dl
open PySem L2 Wp
/-! ### d[k] = x -/
theorem find_any {α : Type} [DecidableEq α] {of : D → Option α} (heq : ∀ {a b : D} {k l : α}, of a = some k → of b = some l → eqD a b = decide (k = l)) {x : D} {k : α} (hx : of x = some k) :
    ∀ {ks ws : List D} {qs : List α} {vs : List V}, ks.map of = qs.map some → qs.length = vs.length → ws.length = vs.length → ((qs.zip vs).any fun kv => decide (kv.1 = k)) = (dFind ks ws x).isSome
  | [], ws, [], vs, _, _, _ => by cases ws <;> simp [dFind]
  | [], _, _ :: _, _, e, _, _ => by simp at e
  | _ :: _, _, [], _, e, _, _ => by simp at e
  | _ :: _, _, _ :: _, [], _, l, _ => by simp at l
  | _ :: _, [], _ :: _, _ :: _, _, _, l => by simp at l
  | k' :: ks, w :: ws, q :: qs, v :: vs, e, l, l2 => by
    simp only [List.map_cons, List.cons.injEq] at e
    simp only [List.zip_cons_cons, List.any_cons, dFind, heq e.1 hx]
    by_cases h : q = k
    · simp [h]
    · simp only [h, decide_false, Bool.false_or, Bool.false_eq_true, if_false]
      exact find_any heq hx e.2 (by simpa using l) (by simpa using l2)
theorem rep_map {κ : Ctx} {Y : Addr → Prop} {H : Hp} {α : Type} [DecidableEq α] {of : D → Option α} (heq : ∀ {a b : D} {k l : α}, of a = some k → of b = some l → eqD a b = decide (k = l)) {x e : D} {k : α} {y : V} (hx : of x = some k) (he : RD κ ν Y H e y) :
    ∀ {ks ws : List D} {qs : List α} {vs : List V}, ks.map of = qs.map some → qs.length = vs.length → RDs κ ν Y H ws vs →
      ∃ us, (qs.zip vs).map (fun kv => if kv.1 = k then (kv.1, y) else kv) = qs.zip us ∧ qs.length = us.length ∧ RDs κ ν Y H (dRep ks ws x e) us
  | [], ws, [], vs, _, l, r => by
    have : vs = [] := by cases vs with
      | nil => rfl
      | cons => simp at l
    subst this
    have : ws = [] := by have := r.len; simpa using this
    subst this
    exact ⟨[], rfl, rfl, by simp [dRep, RDs]⟩
  | [], _, _ :: _, _, e, _, _ => by simp at e
  | _ :: _, _, [], _, e, _, _ => by simp at e
  | _ :: _, _, _ :: _, [], _, l, _ => by simp at l
  | _ :: _, [], _ :: _, _ :: _, _, _, r => by have := r.len; simp at this
  | k' :: ks, w :: ws, q :: qs, v :: vs, e1, l, r => by
    simp only [List.map_cons, List.cons.injEq] at e1
    simp only [RDs, List.cons.injEq] at r
    obtain ⟨_, _, ⟨rfl, rfl⟩, r1, r2⟩ := r
    obtain ⟨us, h1, h2, h3⟩ := rep_map heq hx he e1.2 (by simpa using l) r2
    simp only [List.zip_cons_cons, List.map_cons, dRep, heq e1.1 hx, h1]
    by_cases h : q = k
    · subst h
      refine ⟨y :: us, by simp, by simp [h2], ?_⟩
      simp only [decide_true, if_true, RDs]
      exact ⟨_, _, rfl, he, h3⟩
    · refine ⟨v :: us, by simp [h], by simp [h2], ?_⟩
      simp only [h, decide_false, Bool.false_eq_true, if_false, RDs]
      exact ⟨_, _, rfl, r1, h3⟩
theorem put_zip {κ : Ctx} {Y : Addr → Prop} {H : Hp} {α : Type} [DecidableEq α] {of : D → Option α} (heq : ∀ {a b : D} {k l : α}, of a = some k → of b = some l → eqD a b = decide (k = l)) {x e : D} {k : α} {y : V} (hx : of x = some k) (he : RD κ ν Y H e y)
    {ks ws : List D} {qs : List α} {vs : List V} {q : Nat} (h1 : ks.map of = qs.map some) (h2 : qs.length = vs.length) (r : RDs κ ν Y H ws vs) :
      ∃ (ks' ws' : List D) (qs' : List α) (us : List V), dPut q ks ws x e = .dct q ks' ws' ∧ putK (qs.zip vs) k y = qs'.zip us ∧ ks'.map of = qs'.map some ∧ qs'.length = us.length ∧ RDs κ ν Y H ws' us := by
  unfold putK dPut
  rw [find_any heq hx (ws := ws) h1 h2 r.len]
  cases h : dFind ks ws x with
  | some z =>
    obtain ⟨us, g1, g2, g3⟩ := rep_map heq hx he h1 h2 r
    exact ⟨ks, _, qs, us, rfl, by simpa using g1, h1, g2, g3⟩
  | none =>
    refine ⟨ks ++ [x], ws ++ [e], qs ++ [k], vs ++ [y], rfl, ?_, by simp [h1, hx], by simp [h2], r.app (RDs.one he)⟩
    simp only [Option.isSome_none, Bool.false_eq_true, if_false]
    rw [List.zip_append h2]
    rfl
def rSetU : TSet := fun o i v H Q => rSetL o i v H Q ∨ ∃ a H', o = .ref a ∧ DPut H a i v H' ∧ Q H'
theorem set_U {X : Cx} (hu : X.A.units + 1 < cLine) : PSet X rSetU := by
  intro pins s σ H o i v ov iv u Q I ro ri rv h
  rcases h with h | ⟨a, H', rfl, g, q⟩
  · exact set_list pins s σ H o i v ov iv u Q I ro ri rv h
  · cases (show ov = Value.ref a from ro)
    exact d_setItem hu I g ri rv fun s' I' => ⟨H', I', q⟩
section
variable {κ : Ctx} {ν ν' : List Addr} {η : Hn} {W : WX} {B : Hp} {F Z : List VS} {τ : List V} {ts : List Sl} {σ : L2.St} {sl : List Sl} {H H' : Hp} {v x : V} {s : Sl} {d : D} {ta tb tc te tf : TE} {ma mb mc m : EM} {tr : TA} {as : List EM} {t u : TS} {a b : SM}
theorem set_cell {p : Addr} {d1 : D} {dx dk d' : D} {y k : V} {Y : Addr → Prop} {Q : Hp → Prop} (hc : Cell κ ν Y H p d1) (hY : Y p) (rx : RD κ ν Y H dx y) (rk : RD κ ν Y H dk k)
    (hg : gSet dk dx d1 = some d') (fin : ∀ o, Cell κ ν Y (upd H p o) p d' → Q (upd H p o)) : rSetU (.ref p) k y H Q := by
  have kk : ∀ o b u, ¬ Y b → H b = some u → upd H p o b = some u := fun o b u nb hb => by
    rw [upd_ne]
    · exact hb
    · rintro rfl; exact nb hY
  cases d1 with
  | lst ds =>
    obtain ⟨vs, g, r⟩ := hc
    cases dk with
    | int j =>
      simp only [gSet_lst] at hg
      cases h : ixD ds.length j with
      | none => rw [h] at hg; cases hg
      | some n =>
        rw [h] at hg
        cases hg
        simp only [RD] at rk
        subst rk
        rw [r.len, ixD_ixN] at h
        refine .inl ⟨p, vs, j, n, rfl, rfl, g, h, fin _ ⟨_, upd_same, (r.keep (kk _)).set n (rx.keep (kk _))⟩⟩
    | _ => cases hg
  | dct q ks ws =>
    obtain ⟨o, vs, g, hq, r⟩ := hc
    simp only [gSet_dct] at hg
    split at hg
    · rename_i z
      simp only [Bool.and_eq_true, decide_eq_true_eq] at z
      obtain ⟨z1, z2⟩ := z
      cases hg
      match q, hq with
      | 0, ⟨qs, e1, e2, e3⟩ =>
        subst e3
        obtain ⟨k0, hk0⟩ := sameK0 z1
        obtain ⟨ks', ws', qs', us, f1, f2, f3, f4, f5⟩ := put_zip (q := 0) kOf_eq hk0 rx e1 e2 r
        have ek := kOf_kV hk0 (.inl rk)
        refine .inr ⟨p, _, rfl, .inl ⟨_, k0, g, ek, ?_, rfl⟩, ?_⟩
        · have l1 : ks.length = qs.length := by have := congrArg List.length e1; simpa using this
          rw [List.length_zip, ← e2, Nat.min_self, ← l1]
          exact szDl z2
        · rw [f1] at fin
          exact fin _ ⟨_, us, upd_same, ⟨qs', f3, f4, by rw [f2]⟩, f5.keep (kk _)⟩
      | 1, ⟨qs, e1, e2, e3⟩ =>
        subst e3
        cases dk with
        | tup kd =>
          obtain ⟨k0, hk0⟩ := keysD_ks (by simpa using z1)
          have hk1 : ksOf (.tup kd) = some k0 := hk0
          obtain ⟨ks', ws', qs', us, f1, f2, f3, f4, f5⟩ := put_zip (q := 1) ksOf_eq hk1 rx e1 e2 r
          simp only [RD] at rk
          obtain ⟨b0, bs, rfl, nb, gb, rb⟩ := rk
          have eb := mapM_vs hk0 rb
          subst eb
          refine .inr ⟨p, _, rfl, .inr ⟨_, k0, b0, g, rfl, gb, ?_, rfl⟩, ?_⟩
          · have l1 : ks.length = qs.length := by have := congrArg List.length e1; simpa using this
            rw [List.length_zip, ← e2, Nat.min_self, ← l1]
            exact szDl z2
          · rw [f1] at fin
            exact fin _ ⟨_, us, upd_same, ⟨qs', f3, f4, by rw [f2]⟩, f5.keep (kk _)⟩
        | _ => simp [sameK] at z1
    · cases hg
  | _ => cases hg
theorem set_at {i : Nat} {p : Addr} {d1 : D} {dx dk d' : D} {y k : V} {D0 : Ends} (es : ES κ ν η B F [] [] σ sl H) (q2 : sl[i]? = some (.ow d1)) (hp : σ[i]? = some (some (.ref p))) (rx : RD κ ν (OS F [] [] σ sl) H dx y) (rk : RD κ ν (OS F [] [] σ sl) H dk k)
    (hg : gSet dk dx d1 = some d') (fin : ∀ H', ES κ ν η B F [] [] σ (sl.set i (.ow d')) H' → D0.nx σ H') : rSetU (.ref p) k y H fun H' => D0.nx σ H' := by
  obtain ⟨p', hp', hB, hc⟩ := ow_at es q2
  rw [hp] at hp'
  cases hp'
  exact set_cell hc (os_at es q2 hp) rx rk hg fun o c => fin _ (es.slotWrite q2 hp hB c)
theorem ES.frzTop {y : V} {dx : D} (h : ES κ ν η B F (y :: τ) (.ow dx :: ts) σ sl H) : ES κ ν η B F (y :: τ) (.sh dx :: ts) σ sl H :=
  ⟨h.lt, h.ls, fun v' i m => h.al v' i (by
      simp only [List.zip_cons_cons, List.mem_cons, Prod.mk.injEq, reduceCtorEq, and_false, false_or] at m ⊢
      exact m), ER.freeze h.er, h.bs, fun a e m => h.fr a e (by
      simp only [zT, List.map_cons, List.zip_cons_cons, List.cons_append, List.mem_cons, Prod.mk.injEq, reduceCtorEq, and_false, false_or] at m ⊢
      exact .inr m), h.sf, fun z hz => ⟨(h.ex z hz).1, exr_sub (h.ex z hz).2 (by
      rintro a ⟨e, m⟩
      simp only [zA, zT, List.map_cons, List.zip_cons_cons, List.cons_append, List.mem_cons, Prod.mk.injEq, reduceCtorEq, and_false, false_or] at m
      exact ⟨e, by simp only [zA, zT, List.map_cons, List.zip_cons_cons, List.cons_append, List.mem_cons]; exact .inr m⟩)⟩⟩
theorem ES.frz2 {y k : V} {s1 : Sl} {dx : D} (h : ES κ ν η B F [k, y] [s1, .ow dx] σ sl H) (h1 : ∃ dk, s1 = .sh dk) : ES κ ν η B F [k, y] [s1, .sh dx] σ sl H := by
  obtain ⟨dk, rfl⟩ := h1
  have rk := ES.pop1 h (d := dk) rfl (fun _ => nofun)
  refine h.pop.frzTop.pushR (rk.mono fun a o _ z => ?_)
  obtain ⟨e, m⟩ := z
  exact ⟨e, by
    simp only [OS, zA, zT, List.map_cons, List.map_nil, List.zip_cons_cons, List.zip_nil_left, List.cons_append, List.nil_append, List.mem_cons, Prod.mk.injEq, reduceCtorEq, and_false, false_or] at m ⊢
    exact .inr m⟩
theorem sim_sto {i : Nat} (he : SimE κ η W te m) (hk : SimE κ η W ta ma) : SimS κ η W (tAsg te (gSub (tVar i) ta rSetU)) (stoS i ma m) := by
  intro F0 st ν B F σ sl H D so es w
  simp only [stoS_ap, wp_iteC] at w
  split at w
  · rename_i z0
    have hp : ∃ o, σ[i]? = some (some o) := by
      match q : sl[i]?, z0 with
      | some (.ow d0), _ =>
        obtain ⟨p, hp, _⟩ := ow_at es q
        exact ⟨_, hp⟩
    simp only [seqE_ap, wp_bnd] at w
    refine he so es (wp_mono w (fun e st we ν F y H1 so es1 => ?_) fun _ _ z => z.xp)
    obtain ⟨ets, esl⟩ := e
    obtain ⟨o, hp⟩ := hp
    refine ⟨o, hp, ?_⟩
    refine hk so es1 (wp_mono we (fun e2 st we2 ν F k H2 so es2 => ?_) fun _ _ z => z.xp)
    obtain ⟨ets2, esl2⟩ := e2
    unfold stoK at we2
    have go : ∀ dy dx, (∃ h : ES κ ν η B F [k, y] [.sh dy, .sh dx] σ esl2 H2, True) → wp (chg i (gSet dy dx) esl2) st (FlowP κ η B F0 D) (XQ κ η W B F0) → rSetU o k y H2 fun H3 => D.nx σ H3 := by
      rintro dy dx ⟨es2, _⟩ wz
      have rk := ES.pop1 es2 (d := dy) rfl (fun _ => nofun)
      have rx := ES.pop1 es2.pop (d := dx) rfl (fun _ => nofun)
      have es3 := es2.pop.pop
      simp only [chg_ap] at wz
      cases q2 : esl2[i]? with
      | none => rw [q2] at wz; exact wz.elim
      | some s1 =>
        rw [q2] at wz
        cases s1 with
        | ow d1 =>
          simp only [chgK_ow] at wz
          obtain ⟨p, hp', _⟩ := ow_at es3 q2
          rw [hp] at hp'
          cases hp'
          cases hg : gSet dy dx d1 with
          | none => rw [hg] at wz; exact wz.elim
          | some d' =>
            rw [hg] at wz
            refine set_at es3 q2 hp rx (rk.mono fun a o _ z => os_pop a z) hg fun H' es4 => wz _ _ σ H' so es4
        | _ => exact wz.elim
    split at we2
    · rename_i dy dx e
      replace e : ets2 = [.sh dy, .sh dx] := e
      subst e
      exact go dy dx ⟨es2, trivial⟩ we2
    · rename_i dy dx e
      replace e : ets2 = [.sh dy, .ow dx] := e
      subst e
      exact go dy dx ⟨es2.frz2 ⟨_, rfl⟩, trivial⟩ we2
    · exact we2.elim
  · exact w.elim
/-! ### o.pop(), o.clear() -/
theorem RDs.last {Y : Addr → Prop} {ds rr : List D} {e : D} {vs : List V} (r : RDs κ ν Y H ds vs) (h : ds.reverse = e :: rr) : ∃ y, vs[vs.length - 1]? = some y ∧ RD κ ν Y H e y ∧ RDs κ ν Y H rr.reverse vs.dropLast := by
  have e1 : ds = rr.reverse ++ [e] := by rw [← List.reverse_reverse ds, h, List.reverse_cons]
  have l := r.len
  have hl : ds.length = rr.length + 1 := by rw [e1]; simp
  obtain ⟨y, hy, ry⟩ := r.at (i := rr.length) (d := e) (by rw [e1, List.getElem?_append_right (by simp)]; simp)
  refine ⟨y, by rw [← l, hl]; exact hy, ry, ?_⟩
  have t1 := r.take rr.length
  rw [e1, List.take_left' (by simp)] at t1
  rw [List.dropLast_eq_take, ← l, hl]
  exact t1
theorem sim_pop {i : Nat} {K : PySem.W.Frag} : SimE κ η W (tBM0 K "list" rPop (tVar i)) (popE i) := by
  intro F0 st ν B F τ ts σ sl H Q so es w
  simp only [popE_ap] at w
  cases q : sl[i]? with
  | none => rw [q] at w; exact w.elim
  | some s0 =>
    rw [q] at w
    match s0, q with
    | .ow (.lst ds), q =>
      obtain ⟨p, hp, hB, vs, g, r⟩ := ow_at es q
      refine ⟨.ref p, hp, tyL g, ?_⟩
      simp only [popK] at w
      split at w
      · rename_i e rr h
        obtain ⟨y, hy, ry, rr'⟩ := r.last h
        have kk : ∀ b u, ¬ OS F τ ts σ sl b → H b = some u → upd H p (.lst vs.dropLast) b = some u := fun b u nb hb => by
          rw [upd_ne]
          · exact hb
          · rintro rfl; exact nb (os_at es q hp)
        have es2 := es.slotWrite q hp hB (o := .lst vs.dropLast) (d' := .lst rr.reverse) ⟨_, upd_same, rr'.keep kk⟩
        refine ⟨p, vs, y, rfl, rfl, g, hy, w _ _ _ _ so (es2.pushR ((ry.keep kk).mono fun a o _ z => ?_))⟩
        obtain ⟨e2, m⟩ := z
        simp only [OS, zA, List.mem_append] at m
        rcases m with m | m | m
        · exact ⟨e2, by simp only [zA, List.mem_append]; exact .inl m⟩
        · rcases mem_zip_set (w := some (.ref p)) (s := .ow (.lst rr.reverse)) (i := i) (σ := σ) (sl := sl) (by rw [set_self hp]; exact m) with ⟨y1, y2⟩ | m
          · cases y1; exact os_at es q hp
          · exact ⟨e2, by simp only [zA, List.mem_append]; exact .inr (.inl m)⟩
        · exact ⟨e2, by simp only [zA, List.mem_append]; exact .inr (.inr m)⟩
      · exact w.elim
    | .unk, _ => exact w.elim
    | .sh _, _ => exact w.elim
    | .al _, _ => exact w.elim
    | .exc _, _ => exact w.elim
    | .ow .non, _ => exact w.elim
    | .ow (.bl _), _ => exact w.elim
    | .ow (.int _), _ => exact w.elim
    | .ow (.str _), _ => exact w.elim
    | .ow (.tup _), _ => exact w.elim
    | .ow (.dct _ _ _), _ => exact w.elim
    | .ow (.ins _ _ _), _ => exact w.elim
    | .ow (.abs _ _), _ => exact w.elim
    | .ow (.fn _), _ => exact w.elim
    | .ow (.loc _), _ => exact w.elim
end
end Dl

namespace Dl
open PySem L2 Wp WpT
section
variable {κ : Ctx} {ν ν' : List Addr} {η η' : Hn} {W : WX} {B : Hp} {F Z : List VS} {τ : List V} {ts : List Sl} {σ : L2.St} {sl : List Sl} {H H' : Hp} {v x : V} {s : Sl} {d : D} {ta tb tc te tf : TE} {ma mb mc m : EM} {tr : TA} {as : List EM} {t u : TS} {a b : SM}
theorem sim_never : SimS κ η W tNever badS := fun _ _ w => w.elim
theorem StOk.reh {F0 : List VS} {st : Sto} (so : StOk η B F0 ν F st) (h1 : η'.nu = η.nu) (h2 : η'.pr = η.pr) (h3 : η'.cap = η.cap) : StOk η' B F0 ν F st := ⟨so.fe, so.ln, so.nb, by rw [h1]; exact so.np, fun z => so.pr (by rw [← h2]; exact z), by rw [h3]; exact so.cp⟩
theorem ES.reh (h : ES κ ν η' B F [] [] σ sl H) (hs : η.sf = η'.sf) (hx : ∀ x, sl[η.i]? ≠ some (.exc x)) : ES κ ν η B F [] [] σ sl H :=
  ⟨h.lt, h.ls, h.al, h.er, h.bs, h.fr, (fun u hu => h.sf u (by rw [← hs]; exact hu)), fun x e => absurd e (hx x)⟩
/-- the error has its name -/
theorem ES.named {sf : Option V} {i : Nat} {N : List Addr} {kn : List VS} {p : Bool} {ad : Addr} {c : Value} {o : Option Addr} {x : Exc} (ho : sf = none ∨ i ≠ 0) (h : ES κ ν (ηx sf N p i kn) B F [] [] σ sl H) (hx : ExR κ ν (OA (σ.zip sl ++ F)) H x c o) :
    ES κ ν ⟨i, ad, c, o, sf, N, p, kn⟩ B F [] [] (σ.set i (some (.ref ad))) (sl.set i (.exc x)) H := by
  by_cases hi : i < sl.length
  · have ls1 : (sl.set i Sl.unk).length = sl.length := by simp
    have er : ER κ ν H (zA [] [] (σ.set i (some (.ref ad))) (sl.set i (.exc x)) F) := by
      have e2 : sl[i]? = some sl[i] := List.getElem?_eq_getElem hi
      obtain ⟨w0, e1, _⟩ := sl_get h e2
      obtain ⟨R, pm, k⟩ := h.at e1 e2
      have er0 : ER κ ν H R := (h.er.perm pm).tail
      have : ER κ ν H ((some (.ref ad), .exc x) :: R) := by
        refine ⟨fun p m => ?_, List.Pairwise.cons (fun q _ a d e e1 => by simp at e1) er0.dj, er0.tab⟩
        have sub : ∀ a o, H a = some o → OA ((some (.ref ad), Sl.exc x) :: R) a → OA R a := fun a o _ z => oa_cons (fun d => by intro e; cases e) z
        rcases List.mem_cons.mp m with rfl | m
        · exact True.intro
        · exact (er0.ok p m).mono sub
      exact this.perm (k _ _).symm
    have sub : ∀ a, OA (zA [] [] (σ.set i (some (.ref ad))) (sl.set i (.exc x)) F) a → OA (σ.zip sl ++ F) a := fun a z => by
      have := oa_slot (τ := []) (ts := []) (s' := .exc x) (fun _ => nofun) a z
      simpa [zA, zT] using this
    refine ⟨rfl, by simp [h.ls], fun v j m => by simp at m, er, h.bs, fun a e m => ?_, fun u hu => ?_, fun y hy => ?_⟩
    · simp only [zT, List.map_nil, List.zip_nil_left, List.nil_append] at m
      rcases mem_zip_set m with ⟨_, y2⟩ | m
      · cases y2
      · exact h.fr a e (by simp [zT, m])
    · have hu : sf = some u := hu
      rcases ho with z | z
      · rw [z] at hu; cases hu
      · rw [List.getElem?_set_ne z]; exact h.sf u hu
    · simp only at hy
      rw [List.getElem?_set_self hi] at hy
      cases hy
      have hi2 : i < σ.length := by rw [h.ls]; exact hi
      exact ⟨List.getElem?_set_self hi2, exr_sub hx sub⟩
  · rw [List.set_eq_of_length_le (by rw [h.ls]; omega), List.set_eq_of_length_le (by omega)]
    refine h.reh rfl fun y hy => ?_
    rw [List.getElem?_eq_none (by simp only; omega)] at hy; cases hy
/-- the clauses and their suites -/
inductive HdsSim (κ : Ctx) (K : PySem.W.Frag) (sf : Option V) (N : List Addr) (kn : List VS) (p : Bool) (i : Nat) (ks : List Nat) : List Cl → List Hd → Prop
  | nil : HdsSim κ K sf N kn p i ks [] []
  | one {c : Value} {cs : List Nat} {ts : Addr → Value → Option Addr → TS} {m : SM} {l : List Cl} {hs : List Hd} (he : ∀ n ∈ ks, PySem.W.exmOne K (.ref (κ.cls n)) c = some (cs.contains n))
      (h : ∀ a cls d, SimS κ (ηx sf N p i kn) W0 (ts a cls d) m) (r : HdsSim κ K sf N kn p i ks l hs) : HdsSim κ K sf N kn p i ks ((c, none, ts) :: l) (⟨cs, none, m⟩ :: hs)
  | as {c : Value} {cs : List Nat} {ts : Addr → Value → Option Addr → TS} {m : SM} {l : List Cl} {hs : List Hd} (he : ∀ n ∈ ks, PySem.W.exmOne K (.ref (κ.cls n)) c = some (cs.contains n))
      (h : ∀ a cls d, (∃ n ∈ cs, cls = .ref (κ.cls n)) → SimS κ ⟨i, a, cls, d, sf, N, p, kn⟩ W0 (ts a cls d) m) (r : HdsSim κ K sf N kn p i ks l hs) : HdsSim κ K sf N kn p i ks ((c, some i, ts) :: l) (⟨cs, some i, m⟩ :: hs)
theorem hds_ok {K : PySem.W.Frag} {sf : Option V} {N : List Addr} {kn : List VS} {p : Bool} {i : Nat} {ks : List Nat} {l : List Cl} {hs : List Hd} {D : Ends} {x : Exc} {c : Value} {o : Option Addr} {F0 : List VS} {st : Sto} (ho : sf = none ∨ i ≠ 0) (hh : HdsSim κ K sf N kn p i ks l hs) (so : StOk (ηx sf N p i kn) B F0 ν F st) (es : ES κ ν (ηx sf N p i kn) B F [] [] σ sl H) (hx : ExR κ ν (OA (σ.zip sl ++ F)) H x c o) (hk : x.cls ∈ ks)
    (w : wp (tryH hs (x, sl)) st (FlowP κ (ηx sf N p i kn) B F0 D) (XQ κ (ηx sf N p i kn) W B F0)) : wCl K W D l c o σ H := by
  induction hh with
  | nil => exact w _ _ σ c o H so es hx
  | @one cv cs ts m l hs he h r ih =>
    refine ⟨cs.contains x.cls, by rw [hx.1]; exact he _ hk, fun hb ad had => ?_, fun hb => ?_⟩
    · simp only [tryH_cons, hb, iteC_t, hdK_none, wp_noX] at w
      exact h ad c o so es (wp_mono w (fun _ _ z => z) fun _ _ z => z.elim)
    · simp only [tryH_cons, hb, iteC_f] at w
      exact ih w
  | @as cv cs ts m l hs he h r ih =>
    refine ⟨cs.contains x.cls, by rw [hx.1]; exact he _ hk, fun hb ad had => ?_, fun hb => ?_⟩
    · simp only [tryH_cons, hb, iteC_t, hdK_some, wp_bnd, wp_noX] at w
      refine h ad c o ⟨x.cls, by simpa using hb, hx.1⟩ (so.reh rfl rfl rfl) (es.named ho hx) (wp_mono w (fun fl st wf => ?_) fun _ _ z => z.elim)
      have back : ∀ {ν : List Addr} {F : List VS} {σ' : L2.St} {sl' : List Sl} {H' : Hp}, ES κ ν ⟨i, ad, c, o, sf, N, p, kn⟩ B F [] [] σ' sl' H' → ES κ ν (ηx sf N p i kn) B F [] [] (σ'.set i none) (sl'.set i .unk) H' := fun {ν F σ' sl' H'} e =>
        (e.unkI (.inl ho)).reh rfl fun y hy => by
          simp only [ηx] at hy
          by_cases hi : i < sl'.length
          · rw [List.getElem?_set_self hi] at hy; cases hy
          · rw [List.getElem?_eq_none (by simp; omega)] at hy; cases hy
      cases fl with
      | nx sl' => exact fun ν F σ' H' so e => wf _ _ _ _ (so.reh rfl rfl rfl) (back e)
      | bk sl' => exact fun ν F σ' H' so e => wf _ _ _ _ (so.reh rfl rfl rfl) (back e)
      | ct sl' => exact fun ν F σ' H' so e => wf _ _ _ _ (so.reh rfl rfl rfl) (back e)
      | rt s o' =>
        intro v H rp
        obtain ⟨ν, F, so, r⟩ := rp
        exact wf v H ⟨ν, F, so.reh rfl rfl rfl, r⟩
      | ro s1 s2 =>
        intro v H rp
        obtain ⟨ν, F, a, x, y, e1, e2, so, r⟩ := rp
        exact wf v H ⟨ν, F, a, x, y, e1, e2, so.reh rfl rfl rfl, r⟩
    · simp only [tryH_cons, hb, iteC_f] at w
      exact ih w
theorem sim_try {K : PySem.W.Frag} {sf : Option V} {N : List Addr} {kn : List VS} {p : Bool} {i : Nat} {ks : List Nat} {l : List Cl} {hs : List Hd} {tb : WX → TS} (hb : ∀ W', SimS κ (ηx sf N p i kn) W' (tb W') a) (hh : HdsSim κ K sf N kn p i ks l hs) (ho : sf = none ∨ i ≠ 0 := by first | exact Or.inl rfl | exact Or.inr (by decide)) : SimS κ (ηx sf N p i kn) W (fun D σ H => tb (wCl K W D l) D σ H) (tryS ks a hs) := by
  intro F0 st ν B F σ sl H D so es w
  simp only [tryS_ap, wp_cat] at w
  refine hb _ so es (wp_mono w (fun _ _ z => z) fun x st wx ν F σ' c d H' so' es' ex => ?_)
  obtain ⟨x, sl'⟩ := x
  simp only [tryG_ap, wp_iteC] at wx
  split at wx
  · rename_i z
    exact hds_ok ho hh so' es' ex (by simpa using z) wx
  · exact wx.elim
end
end Dl

namespace Dl
open PySem L2 Wp
theorem hu1_of {k : Nat} {A : Around} (r : Room k A) : A.units + 1 < cLine := by have := r.un; omega
theorem hu65_of {k : Nat} {A : Around} (r : Room k A) : A.units + 65 < cLine := by have := r.un; omega
theorem exc_cls {κ : Ctx} {cls : Value} {k : Nat} (h : ∃ n ∈ [k], cls = .ref (κ.cls n)) : ∀ x, cls = .ref (κ.cls x) → κ.cls x = κ.cls k := by
  obtain ⟨n, m, rfl⟩ := h
  simp only [List.mem_cons, List.not_mem_nil, or_false] at m
  subst m
  intro x e
  exact (Value.ref.inj e).symm
theorem okn {x : Addr} {own : List Nat} {i : Nat} (hi : i ∈ own) (h : (0 : Nat) ∉ own) : (η1 x).ok i := .inr fun e => h (e ▸ hi)
/-! ### the things of a law -/
def abD : Nat → List D → Addr → HO → Prop
  | 0, [], a, o => o = StO a
  | 1, [], _, o => ∃ ns : List Int, ns.length ≤ 63 ∧ (o = .lst (ns.map V.int) ∨ ∃ u, o = .frz u (.lst (ns.map V.int)))
  | _, _, _, _ => False
def kbD (K : PySem.W.Frag) (fns : Nat → Addr) : Nat → Addr → Prop
  | 1, a => IsScr K (fun _ => none) a
  | 50, a => a = fns 0
  | 51, a => a = fns 1
  | _, _ => False
def mkC (K : PySem.W.Frag) (w : World) (cls fns : Nat → Addr) : Ctx := ⟨K, cls, fun n => n, abD, kbD K fns, 0, fun _ => 0, fun _ => "", w⟩
theorem mkC_draw {K : PySem.W.Frag} {w : World} {cls fns : Nat → Addr} : DrawC (mkC K w cls fns) := ⟨fun _ _ => Iff.rfl, fun _ z => z, fun _ _ => Iff.rfl, fun _ => Iff.rfl⟩
/-- what is asked of a law -/
def spLaw (K : PySem.W.Frag) : Sp := fun vs H Q _ => ∃ (a : Addr) (ns : List Int), vs = [.ref a] ∧ SqL K H a (ns.map V.int) ∧ ns.length ≤ 63 ∧ ∀ H', Q (.bl true) H'
theorem law_sp {K : PySem.W.Frag} {w : World} {cls fns : Nat → Addr} {f : Fn} (ok : lawOk f) {vs : List V} {H : Hp} {Q : VK} {E : XK} (h : spLaw K vs H Q E) : spF (mkC K w cls fns) f vs H Q E := by
  obtain ⟨a, ns, rfl, hS, hl, k⟩ := h
  exact law_spF (κ := mkC K w cls fns) mkC_draw ok (fun k hk => absurd hk (Nat.not_lt_zero _)) hl hS k
end Dl

namespace Dl
open PySem L2 Wp
section
variable {κ : Ctx} {ν ν' : List Addr} {η : Hn} {W : WX} {B : Hp} {F Z : List VS} {τ : List V} {ts : List Sl} {σ : L2.St} {sl : List Sl} {H H' : Hp} {v x : V} {s : Sl} {d : D} {ta tb tc te tf : TE} {ma mb mc m : EM} {tr : TA} {as : List EM}
/-! ### star parameters -/
theorem star_core {f : Fn} {n : Nat} {vs : List V} {Q : VK} {E : XK} (h : spF κ (pkS n f) vs H Q E) : n ≤ vs.length ∧ vs.length ≤ sizeLine ∧ ∀ p, H p = none → spF κ f (vs.take n ++ [.ref p]) (upd H p (.tup (vs.drop n))) Q E := by
  obtain ⟨F, ds, l, er, w⟩ := h
  simp only [pkS_ap, wp_iteC] at w
  split at w
  · rename_i z
    simp only [Bool.and_eq_true, okLen, decide_eq_true_eq] at z
    refine ⟨by rw [l]; exact z.2, by rw [l]; exact szD z.1, fun p hp => ?_⟩
    have rd := zV_rd er l
    have e := Xt.new (κ := κ) (o := .tup (vs.drop n)) (Xt.refl H) hp
    have nF : ¬ OA F p := fun o => by
      obtain ⟨u, z, _⟩ := OA.some er.sub o
      rw [hp] at z; cases z
    have rt : RD κ [] (OA F) (upd H p (.tup (vs.drop n))) (.tup (ds.drop n)) (.ref p) := by
      simp only [RD]
      exact ⟨p, _, rfl, nF, upd_same, (rd.drop n).ext e⟩
    have r2 : RDs κ [] (OA F) (upd H p (.tup (vs.drop n))) (ds.take n ++ [.tup (ds.drop n)]) (vs.take n ++ [.ref p]) := ((rd.take n).ext e).app (RDs.one rt)
    refine ⟨F, _, by simp [l], (er.sub.ext e).pushs r2, wp_mono w (fun s _ ws v H' e2 fr na er2 => ?_) fun y _ wy c o H' e2 ex => wy c o H' (e.trans e2) ex⟩
    refine ws v H' (e.trans e2) (fun a d ev es => ?_) na er2
    have z2 := fr a d ev es
    by_cases ha : a = p
    · rw [ha]; exact hp
    · rw [upd_ne ha] at z2; exact z2
  · exact w.elim
theorem star_fn {f : Fn} {n : Nat} {vs : List V} {Q : VK} {E : XK} (h : spF κ (pkS n f) vs H Q E) : spStar n (spF κ f) vs H Q E := by
  obtain ⟨h1, h2, h3⟩ := star_core h
  exact ⟨vs.take n, vs.drop n, (List.take_append_drop n vs).symm, by simp; omega, by simp; omega, h3⟩
theorem star_new {f : Fn} {n c : Nat} {vs0 : List V} {Q : VK} {E : XK} (h : spN κ c (pkS n f) vs0 H Q E) : spStar (n + 1) (spN κ c f) vs0 H Q E := by
  obtain ⟨x, dx, vs, H1, rfl, nx, nd, ne, rfl, hf⟩ := h
  obtain ⟨h1, h2, h3⟩ := star_core hf
  refine ⟨.ref x :: vs.take n, vs.drop n, by simp, by simp; omega, by simp; omega, fun p hp => ?_⟩
  have px : p ≠ x := by rintro rfl; rw [upd_same] at hp; cases hp
  rw [upd_ne px] at hp
  have pd : p ≠ dx := by rintro rfl; rw [upd_same] at hp; cases hp
  rw [upd_ne pd] at hp
  refine ⟨x, dx, vs.take n ++ [.ref p], upd H1 p (.tup (vs.drop n)), rfl, by rw [upd_ne (Ne.symm px)]; exact nx, by rw [upd_ne (Ne.symm pd)]; exact nd, ne, ?_, h3 p hp⟩
  funext b
  by_cases b1 : b = p
  · subst b1; rw [upd_same, upd_ne px, upd_ne pd, upd_same]
  · rw [upd_ne b1]
    by_cases b2 : b = x
    · subst b2; rw [upd_same, upd_same]
    · rw [upd_ne b2, upd_ne b2]
      by_cases b3 : b = dx
      · subst b3; rw [upd_same, upd_same]
      · rw [upd_ne b3, upd_ne b3, upd_ne b1]
/-! ### star arguments -/
def Fl (H : Hp) (vs us : List V) : Prop := ∃ pre a xs, vs = pre ++ [.ref a] ∧ (H a = some (.lst xs) ∨ H a = some (.tup xs)) ∧ us = pre ++ xs
theorem spl_rds {Y : Addr → Prop} : ∀ {ds es : List D} {vs us : List V}, RDs κ ν Y H ds vs → spl ds = some es → Fl H vs us → RDs κ ν Y H es us
  | [], _, _, _, _, e, _ => by cases e
  | [d], es, vs, us, r, e, ⟨pre, a, xs, ev, ha, eu⟩ => by
    simp only [RDs] at r
    obtain ⟨v, _, rfl, r, rfl⟩ := r
    have : pre = [] ∧ v = .ref a := by
      cases pre with
      | nil => simpa using ev
      | cons p q => simp at ev
    obtain ⟨rfl, rfl⟩ := this
    simp only [List.nil_append] at eu
    subst eu
    cases d with
    | lst zs =>
      cases e
      simp only [RD] at r
      obtain ⟨b, ws, e1, _, g, r⟩ := r
      cases e1
      rcases ha with ha | ha
      · rw [g] at ha; cases ha; exact r
      · rw [g] at ha; cases ha
    | tup zs =>
      cases e
      simp only [RD] at r
      obtain ⟨b, ws, e1, _, g, r⟩ := r
      cases e1
      rcases ha with ha | ha
      · rw [g] at ha; cases ha
      · rw [g] at ha; cases ha; exact r
    | _ => cases e
  | d :: d2 :: ds, es, vs, us, r, e, ⟨pre, a, xs, ev, ha, eu⟩ => by
    simp only [spl_cons] at e
    cases h : spl (d2 :: ds) with
    | none => rw [h] at e; cases e
    | some es2 =>
      rw [h] at e
      cases e
      rw [RDs] at r
      obtain ⟨v, vs2, rfl, r1, r2⟩ := r
      cases pre with
      | nil =>
        have l := r2.len
        simp at ev
        rw [ev.2] at l
        simp at l
      | cons p q =>
        simp only [List.cons_append, List.cons.injEq] at ev
        obtain ⟨rfl, rfl⟩ := ev
        subst eu
        rw [List.cons_append, RDs]
        exact ⟨v, _, rfl, r1, spl_rds r2 h ⟨q, a, xs, rfl, ha, rfl⟩⟩
theorem un_spF {f : Fn} {vs us : List V} {Q : VK} {E : XK} (h : spF κ (unS f) vs H Q E) (fl : Fl H vs us) : spF κ f us H Q E := by
  obtain ⟨F, ds, l, er, w⟩ := h
  simp only [unS_ap] at w
  cases e : spl ds with
  | none => rw [e] at w; exact w.elim
  | some es =>
    rw [e] at w
    have r := spl_rds (zV_rd er l) e fl
    exact ⟨F, es, r.len.symm, er.sub.pushs r, w⟩
/-- arguments of which the last is a star -/
def SimU (κ : Ctx) (η : Hn) (W : WX) (ta : TA) (as : List EM) : Prop := ∀ {F0 : List VS} {st : Sto} {ν : List Addr} {B : Hp} {F : List VS} {τ : List V} {ts : List Sl} {σ : L2.St} {sl : List Sl} {H : Hp} {Q : List V → Hp → Prop}, StOk η B F0 ν F st → ES κ ν η B F τ ts σ sl H →
  wp (argE as ⟨ts, sl⟩) st (fun e st => ∀ ν F vs us H', vs.length = as.length → StOk η B F0 ν F st → ES κ ν η B F (vs.reverse ++ τ) e.ts σ e.sl H' → Fl H' vs us → Q us H') (XP κ η W B F0 σ) → ta σ H Q
theorem star_last (he : SimE κ η W te m) {F0 : List VS} {st : Sto} {σ : L2.St} {H : Hp} {Q : List V → Hp → Prop} (so : StOk η B F0 ν F st) (es : ES κ ν η B F τ ts σ sl H)
    (w : wp (argE [stE m] ⟨ts, sl⟩) st (fun e st => ∀ ν F vs us H', vs.length = [stE m].length → StOk η B F0 ν F st → ES κ ν η B F (vs.reverse ++ τ) e.ts σ e.sl H' → Fl H' vs us → Q us H') (XP κ η W B F0 σ)) :
    te σ H fun y H1 => ∃ a xs, y = V.ref a ∧ (SqT κ.K H1 a xs ∨ SqL κ.K H1 a xs) ∧ Q xs H1 := by
  simp only [argE_cons, stE_ap, wp_bnd] at w
  refine he so es (wp_mono w (fun e st we ν F y H1 so es1 => ?_) fun _ _ z => z)
  obtain ⟨ets, esl⟩ := e
  obtain ⟨s1, r1, rfl⟩ := ts_cons es1.lt
  simp only [stK_ap, wp_iteC] at we
  split at we
  · rename_i z
    simp only [wp, argE_nil] at we
    match q : getV esl s1, z with
    | some (.lst ds), _ =>
      obtain ⟨a, vs, rfl, g, r⟩ := (es1.read (x := y) (s := s1) (by simp) q).lst
      exact ⟨a, vs, rfl, .inr (SqL.of g), we _ _ [.ref a] vs H1 rfl so (by simpa using es1) ⟨[], a, vs, rfl, .inl g, rfl⟩⟩
    | some (.tup ds), _ =>
      obtain ⟨a, vs, rfl, g, r, _⟩ := (es1.read (x := y) (s := s1) (by simp) q).tup
      exact ⟨a, vs, rfl, .inl (SqT.of g), we _ _ [.ref a] vs H1 rfl so (by simpa using es1) ⟨[], a, vs, rfl, .inr g, rfl⟩⟩
  · exact we.elim
theorem simu_one {K : PySem.W.Frag} (eK : κ.K = K) (he : SimE κ η W te m) : SimU κ η W (tStarA K te) [stE m] := by
  subst eK
  intro F0 st ν B F τ ts σ sl H Q so es w
  exact star_last he so es w
theorem simu_last {K : PySem.W.Frag} (eK : κ.K = K) (he : SimE κ η W te m) : SimU κ η W (StX.tStar K te tNil) [stE m] := by
  subst eK
  intro F0 st ν B F τ ts σ sl H Q so es w
  refine star_last (Q := fun xs H1 => Q (xs ++ []) H1) he so es ?_
  simpa using w
theorem simu_cons (ha : SimE κ η W ta ma) (hr : SimU κ η W tr as) : SimU κ η W (tCons ta tr) (ma :: as) := by
  intro F0 st ν B F τ ts σ sl H Q so es w
  simp only [argE_cons, wp_bnd] at w
  refine ha so es (wp_mono w (fun e st we ν F x H1 so es1 => ?_) fun _ _ z => z)
  obtain ⟨ets, esl⟩ := e
  refine hr so es1 (wp_mono we (fun e2 st we2 ν F vs us H2 hl so es2 fl => ?_) fun _ _ z => z)
  obtain ⟨pre, a, xs, rfl, ha, rfl⟩ := fl
  exact we2 _ _ (x :: (pre ++ [.ref a])) _ H2 (by simpa using hl) so (by simpa using es2) ⟨x :: pre, a, xs, rfl, ha, rfl⟩
theorem sim_makUX {R : CR} {c : Nat} {C : Addr} {f : Fn} (h : COk κ η W R (spF κ)) (hC : κ.cls c = C) (ha : SimU κ η W tr as) : SimE κ η W (tMakS C (spN κ c f) (WE W) tr) (withA as (R (unS f))) := by
  subst hC
  intro F0 st ν B F τ ts σ sl H Q so es w
  simp only [withA_ap, wp_bnd] at w
  refine ha so es (wp_mono w (fun e st we ν F vs us H1 hl so es1 fl x dx nx nd ne => ?_) fun _ _ z => z)
  obtain ⟨ets, esl⟩ := e
  rw [← hl] at we
  obtain ⟨ds, r, q, we⟩ := wp_args we
  exact ⟨x, dx, us, H1, rfl, nx, nd, ne, rfl, spF_mono (un_spF (h so es1 q we) fl) (fun v H' k ev => by subst ev; exact ⟨rfl, k⟩) fun _ _ _ z => z⟩
theorem sim_callUX {R : CR} {f : Fn} (h : COk κ η W R (spF κ)) (ha : SimU κ η W tr as) : SimE κ η W (tCallS (spF κ f) (WE W) tr) (withA as (R (unS f))) := by
  intro F0 st ν B F τ ts σ sl H Q so es w
  simp only [withA_ap, wp_bnd] at w
  refine ha so es (wp_mono w (fun e st we ν F vs us H1 hl so es1 fl => ?_) fun _ _ z => z)
  obtain ⟨ets, esl⟩ := e
  rw [← hl] at we
  obtain ⟨ds, r, q, we⟩ := wp_args we
  exact un_spF (h so es1 q we) fl
theorem sim_makU {c : Nat} {C : Addr} {f : Fn} (hp : η.pr = true) (hC : κ.cls c = C) (ha : SimU κ η W tr as) : SimE κ η W (tMakS C (spN κ c f) (WE W) tr) (callE (unS f) as) := sim_makUX (R := callR) (f := f) (cok_E hp) hC ha
theorem sim_makUP {c : Nat} {C : Addr} {f : Fn} (hC : κ.cls c = C) (ha : SimU κ η W tr as) : SimE κ η W (tMakS C (spN κ c f) (WE W) tr) (callP (unS f) as) := sim_makUX (R := callPR) (f := f) cok_P hC ha
theorem sim_callU {f : Fn} (hp : η.pr = true) (ha : SimU κ η W tr as) : SimE κ η W (tCallS (spF κ f) (WE W) tr) (callE (unS f) as) := sim_callUX (R := callR) (f := f) (cok_E hp) ha
theorem sim_callUP {f : Fn} (ha : SimU κ η W tr as) : SimE κ η W (tCallS (spF κ f) (WE W) tr) (callP (unS f) as) := sim_callUX (R := callPR) (f := f) cok_P ha
end
section
variable {P : Program} {w : World} {K : PySem.W.Frag} {mg : Str → Option Value} {base : Heap} {κ : Ctx} {k : Nat}
theorem fn_mkS {x qual pv : Str} {st : Stmt} {f : Addr} {fd : FuncData} {N ps : List Str} {body : SM} {n : Nat} (F : Fun K x qual st f fd) (S : FnScope N (ps ++ [pv]) (defScope st))
    (hb : ∀ (kV doc pm : Value) (an : Option Addr) (cdv ct : Value) (us rest : List Value), us.length = ps.length → bindArgs (PySem.W.fnOf x qual (defArgs st) (defBody st) (defScope st) .none kV doc pm an cdv ct) ⟨us ++ rest, []⟩ = (newTuple rest >>= fun t => pure (ps.zip us ++ [(pv, t)])))
    (hps : (ps ++ [pv]).length ≤ N.length) (hN : N.length < 1000000) (hn : ps.length = n) (j : Nat)
    (h : ∀ (cdv : Value) (A : Around) (outer : List PySem.Env) (s : Shared) (H : Hp) (E : XK), Room k (A.deeper (PyProof.Rows.envOfC qual (defScope st) s.heap.objs.size f cdv)) →
      ∃ t, PSs (cxOf (L2.CX P w) P w K mg base N qual (defScope st) f cdv A outer s H E) (defBody st) t ∧ SimS κ (ηt j) (fun c d _ H => E c d H) t body) : FnR P w K mg base (L2.CX P w) (k + 1) f (spF κ (pkS n (mkFn (ps ++ [pv]).length N.length body))) := by
  subst hn
  refine (Wp.Fun.okS (sp := spF κ (mkFn (ps ++ [pv]).length N.length body)) F S hb fun cdv A outer s H vs Q E hr hsp => ?_).imp fun _ _ _ _ z => star_fn z
  obtain ⟨t, ht, hs⟩ := h cdv A outer s H E hr
  exact ⟨t, ht, fn_body hps hN hs hsp⟩
theorem new_mkS {x qual pv : Str} {st : Stmt} {f : Addr} {fd : FuncData} {N ps : List Str} {body : SM} {c n : Nat} (F : Fun K x qual st f fd) (S : FnScope N (ps ++ [pv]) (defScope st))
    (hb : ∀ (kV doc pm : Value) (an : Option Addr) (cdv ct : Value) (us rest : List Value), us.length = ps.length → bindArgs (PySem.W.fnOf x qual (defArgs st) (defBody st) (defScope st) .none kV doc pm an cdv ct) ⟨us ++ rest, []⟩ = (newTuple rest >>= fun t => pure (ps.zip us ++ [(pv, t)])))
    (hps : (ps ++ [pv]).length ≤ N.length) (hN : N.length < 1000000) (hn : ps.length = n + 1)
    (h : ∀ (cdv : Value) (A : Around) (outer : List PySem.Env) (s : Shared) (H : Hp) (E : XK), Room k (A.deeper (PyProof.Rows.envOfC qual (defScope st) s.heap.objs.size f cdv)) →
      ∃ t, PSs (cxOf (L2.CX P w) P w K mg base N qual (defScope st) f cdv A outer s H E) (defBody st) t ∧ ∀ self, SimS κ (η1 self) (fun c d _ H => E c d H) t body) : FnR P w K mg base (L2.CX P w) (k + 1) f (spN κ c (pkS n (mkNew c (ps ++ [pv]).length N.length body))) := by
  refine (Wp.Fun.okS (sp := spN κ c (mkNew c (ps ++ [pv]).length N.length body)) F S hb fun cdv A outer s H vs Q E hr hsp => ?_).imp fun _ _ _ _ z => by rw [hn]; exact star_new z
  obtain ⟨t, ht, hs⟩ := h cdv A outer s H E hr
  exact ⟨t, ht, new_body hps hN (by simp) hs hsp⟩
end
end Dl

namespace Dl
open PySem L2 Wp
/-! Keyword arguments of keyword-only parameters. -/
def tApp (n m : Nat) (t tk : TA) : TA := fun σ H Q => t σ H fun vs H1 => tk σ H1 fun zs H2 => vs.length = n ∧ zs.length = m ∧ Q (vs ++ zs) H2
structure MakK (P : Program) (w : World) (K : PySem.W.Frag) (mg : Str → Option Value) (base : Heap) (k : Nat) (x : Str) (C f : Addr) (fd : FuncData) (ps : List Str) (n : Nat) (ks : List Str) (sp : Sp) : Prop where
  fn : FnOk P w K mg base (L2.CX P w) k f fd ps sp
  mak : Mk K C f
  gl : mg x = some (.ref C)
  kb : ∃ g, KBn K fd ps (n + 1) ks g (fun vs zs => vs ++ zs)
structure CalK (P : Program) (w : World) (K : PySem.W.Frag) (mg : Str → Option Value) (base : Heap) (k : Nat) (x : Str) (f : Addr) (fd : FuncData) (ps : List Str) (n : Nat) (ks : List Str) (sp : Sp) : Prop where
  fn : FnOk P w K mg base (L2.CX P w) k f fd ps sp
  kp : PySem.W.keepIn K (.ref f) = true
  gl : mg x = some (.ref f)
  kb : ∃ g, KBn K fd ps n ks g (fun vs zs => vs ++ zs)
section
variable {X : Cx} {k n : Nat} {f C : Addr} {fd : FuncData} {ps ks : List Str} {sp : Sp} {x : Str} {p pos : Pos} {e : Expr} {es : List Expr} {kws : List Keyword} {t tz : TA} {W : WX}
theorem run_makK {pins : List (Addr × Obj)} {σ : L2.St} {H : Hp} {s : Shared} {Q : VK} {us ws : List Value} {vs zs : List V} (c : MakK X.prog X.w X.K X.mg X.base k x C f fd ps n ks sp) (hr : Room (k + 1) X.A) (tk : Takes X W) (I : Inv X pins σ H s) (r : Vals vs us) (rz : Vals zs ws) (l1 : vs.length = n) (l2 : zs.length = ks.length)
    (h : ∀ x dx, H x = none → H dx = none → dx ≠ x → sp (V.ref x :: (vs ++ zs)) (upd (upd H dx (.own x)) x (.ins C dx [])) (fun v H2 => v = .non ∧ Q (.ref x) H2) (WE W σ)) :
    wpAny (model X.prog X.w) X.A (call (.ref C) us (ks.zip ws)) (EP X pins σ Q) X.xe s := by
  obtain ⟨g, hb⟩ := c.kb
  have hq := h (s.heap.objs.size + 1) s.heap.objs.size (I.hok.fresh (Nat.le_succ _)) (I.hok.fresh (Nat.le_refl _)) (Nat.ne_of_lt (Nat.lt_succ_self _))
  have I2 := Inv.made (C := C) I
  have r1 : Vals (V.ref (s.heap.objs.size + 1) :: vs) (Value.ref (s.heap.objs.size + 1) :: us) := .cons rfl r
  have r2 := hb.rel r1 rz
  have n1 : (Value.ref (s.heap.objs.size + 1) :: us).length = n + 1 := by
    rw [List.length_cons, ← r.length, l1]
  refine wpAny_call (make_map (f := f) I.kIn c.mak.makes c.mak.init (beq_iff_eq.mp c.mak.fn) (codeAny_mono (c.fn.run _ X.stack _ _ ⟨Value.ref (s.heap.objs.size + 1) :: us, ks.zip ws⟩ (g (Value.ref (s.heap.objs.size + 1) :: us) ws) _ _ (WE W σ) (hr.make C us (ks.zip ws))
    (I2.env0.make C us (ks.zip ws)) (hb.to _ (Value.ref (s.heap.objs.size + 1) :: us) ws I2.kIn n1 (rz.length.symm.trans l2)) r2 hq) fun r s' hq' => ?_))
  cases r with
  | error e => exact passAt tk σ pins _ _ e s' I2 hq'
  | ok fl =>
    cases fl with
    | ret u =>
      obtain ⟨v, H', I3, rv, ev, q3⟩ := I2.after hq'
      subst ev
      exact ⟨rv, ⟨V.ref (s.heap.objs.size + 1), H', I3, rfl, q3⟩⟩
    | next => exact False.elim hq'
    | brk => exact False.elim hq'
    | cont => exact False.elim hq'
/-- C(e, .., k = v) -/
theorem pc_makK (c : MakK X.prog X.w X.K X.mg X.base k x C f fd ps n ks sp) (hr : Room (k + 1) X.A) (tk : Takes X W) (ha : PA X (e :: es) t) (hkw : PK X kws tz) (hg : Gl X x := by rfl)
    (hall : (backToKw pos (keywordEach kws X.env)).all (·.1.isSome) = true := by rfl) (hks : (backToKw pos (keywordEach kws X.env)).filterMap (·.1) = ks := by rfl) (hdb : (x == ("__debug__" : Str)) = false := by decide)
    (he : starEach (e :: es) X.env = (false, eval e X.env) :: starEach es X.env := by rfl) (hpl : ((backTo pos (starEach (e :: es) X.env)).any (·.1) || (backToKw pos (keywordEach kws X.env)).any (·.1.isNone)) = false := by rfl) :
    PE X (.Call (.Name x p) (e :: es) kws pos) (tMakS C sp (WE W) (tApp n ks.length t tz)) := by
  refine ⟨fun pins s σ H Q I h => ?_⟩
  refine wpAny_Call_Name_kw (ld_glob I hg c.gl ?_ hdb)
  refine PySem.W.callWith_KW (h₀ := X.base) I.ok.mod.kin c.mak.kp hall (thn (ha.run pos pins s σ H _ I h) fun us s1 ⟨vs, H1, I1, r, q⟩ => ?_) hpl he
  refine thn (hkw.run pos pins s1 σ H1 _ I1 q) fun ws s2 ⟨zs, H2, I2, rz, l1, l2, q2⟩ => ⟨I2.kIn, ?_⟩
  rw [hks]
  exact run_makK c hr tk I2 r rz l1 l2 q2
theorem run_calK {pins : List (Addr × Obj)} {σ : L2.St} {H : Hp} {s : Shared} {Q : VK} {us ws : List Value} {vs zs : List V} (c : CalK X.prog X.w X.K X.mg X.base k x f fd ps n ks sp) (hr : Room k X.A) (tk : Takes X W) (I : Inv X pins σ H s) (r : Vals vs us) (rz : Vals zs ws) (l1 : vs.length = n) (l2 : zs.length = ks.length)
    (h : sp (vs ++ zs) H Q (WE W σ)) : wpAny (model X.prog X.w) X.A (call (.ref f) us (ks.zip ws)) (EP X pins σ Q) X.xe s := by
  obtain ⟨g, hb⟩ := c.kb
  refine wpAny_call (codeAny_mono (c.fn.run X.A X.stack s H ⟨us, ks.zip ws⟩ (g us ws) (vs ++ zs) Q (WE W σ) hr I.env0 (hb.to s us ws I.kIn (r.length.symm.trans l1) (rz.length.symm.trans l2)) (hb.rel r rz) h) fun r s' hq => ?_)
  cases r with
  | error e => exact passAt tk σ pins H s e s' I hq
  | ok fl =>
    cases fl with
    | ret u => exact I.after hq
    | next => exact False.elim hq
    | brk => exact False.elim hq
    | cont => exact False.elim hq
/-- f(e, .., k = v) -/
theorem pc_fnK (c : CalK X.prog X.w X.K X.mg X.base k x f fd ps n ks sp) (hr : Room k X.A) (tk : Takes X W) (ha : PA X (e :: es) t) (hkw : PK X kws tz) (hg : Gl X x := by rfl)
    (hall : (backToKw pos (keywordEach kws X.env)).all (·.1.isSome) = true := by rfl) (hks : (backToKw pos (keywordEach kws X.env)).filterMap (·.1) = ks := by rfl) (hdb : (x == ("__debug__" : Str)) = false := by decide)
    (he : starEach (e :: es) X.env = (false, eval e X.env) :: starEach es X.env := by rfl) (hpl : ((backTo pos (starEach (e :: es) X.env)).any (·.1) || (backToKw pos (keywordEach kws X.env)).any (·.1.isNone)) = false := by rfl) :
    PE X (.Call (.Name x p) (e :: es) kws pos) (tCallS sp (WE W) (tApp n ks.length t tz)) := by
  refine ⟨fun pins s σ H Q I h => ?_⟩
  refine wpAny_Call_Name_kw (ld_glob I hg c.gl ?_ hdb)
  refine PySem.W.callWith_KW (h₀ := X.base) I.ok.mod.kin c.kp hall (thn (ha.run pos pins s σ H _ I h) fun us s1 ⟨vs, H1, I1, r, q⟩ => ?_) hpl he
  refine thn (hkw.run pos pins s1 σ H1 _ I1 q) fun ws s2 ⟨zs, H2, I2, rz, l1, l2, q2⟩ => ⟨I2.kIn, ?_⟩
  rw [hks]
  exact run_calK c hr tk I2 r rz l1 l2 q2
end
section
variable {κ : Ctx} {ν ν' : List Addr} {η : Hn} {W : WX} {H : Hp} {tr tz : TA} {as bs : List EM}
theorem argE_app : ∀ (as bs : List EM) (e : Env), argE (as ++ bs) e = bnd (argE as e) (argE bs)
  | [], bs, e => rfl
  | a :: as, bs, e => by
    simp only [List.cons_append, argE_cons, bnd_bnd]
    congr 1
    funext e2
    exact argE_app as bs e2
theorem sim_tapp {n m : Nat} (ha : SimA κ η W tr as) (hb : SimA κ η W tz bs) (hn : as.length = n) (hm : bs.length = m) : SimA κ η W (tApp n m tr tz) (as ++ bs) := by
  subst hn hm
  intro F0 st ν B F τ ts σ sl H Q so es w
  simp only [argE_app, wp_bnd] at w
  refine ha so es (wp_mono w (fun e st we ν F vs H1 hl so es1 => ?_) fun _ _ z => z)
  obtain ⟨ets, esl⟩ := e
  refine hb so es1 (wp_mono we (fun e2 st we2 ν F zs H2 hl2 so es2 => ?_) fun _ _ z => z)
  refine ⟨hl, hl2, we2 _ _ (vs ++ zs) H2 (by simp [hl, hl2]) so (by simpa using es2)⟩
/-! the defaults -/
theorem zV_rdG {F : List VS} {vs : List V} {ds : List D} (er : ER κ ν H (zV vs ds ++ F)) (l : vs.length = ds.length) : RDs κ ν (OA F) H ds vs := by
  have k : ∀ a o, H a = some o → OA F a → OA (zV vs ds ++ F) a := fun a o _ ⟨d, m⟩ => ⟨d, List.mem_append_right _ m⟩
  have key : ∀ (vs : List V) (ds : List D), vs.length = ds.length → (∀ p ∈ zV vs ds, SlOk κ ν (OA F) H p.1 p.2) → RDs κ ν (OA F) H ds vs := by
    intro vs
    induction vs with
    | nil => intro ds l _; cases ds with
      | nil => simp [RDs]
      | cons => cases l
    | cons v vs ih =>
      intro ds l h
      cases ds with
      | nil => cases l
      | cons d ds =>
        simp only [RDs]
        have z := h (some v, .sh d) (by simp [zV])
        obtain ⟨w, e, r⟩ := z
        cases e
        exact ⟨v, vs, rfl, r, ih ds (Nat.succ.inj l) fun p m => h p (by simp only [zV, List.map_cons, List.zip_cons_cons, List.mem_cons]; exact .inr m)⟩
  exact key vs ds l fun p m => (er.ok p (List.mem_append_left _ m)).mono k
theorem df_spF {f : Fn} {es : List D} {ws vs : List V} {Q : VK} {E : XK} (r : ∀ ν Y H, RDs κ ν Y H es ws) (h : spF κ (dfS es f) vs H Q E) : spF κ f (vs ++ ws) H Q E := by
  obtain ⟨F, ds, l, er, w⟩ := h
  have rd := (zV_rd er l).app (r [] (OA F) H)
  exact ⟨F, ds ++ es, rd.len.symm, er.sub.pushs rd, w⟩
theorem df_spG {f : Fn} {es : List D} {ws vs : List V} {Q : VK} {E : XK} (r : ∀ ν Y H, RDs κ ν Y H es ws) (h : spG κ (dfS es f) vs H Q E) : spG κ f (vs ++ ws) H Q E := by
  obtain ⟨F, ν, st, ds, l, lν, er, w⟩ := h
  have rd := (zV_rdG er l).app (r ν _ H)
  exact ⟨F, ν, st, ds ++ es, rd.len.symm, lν, er.sub.pushs rd, w⟩
theorem df_new {f : Fn} {c : Nat} {es : List D} {ws vs : List V} {Q : VK} {E : XK} (r : ∀ ν Y H, RDs κ ν Y H es ws) (h : spN κ c (dfS es f) vs H Q E) : spN κ c f (vs ++ ws) H Q E := by
  obtain ⟨x, dx, vs, H1, rfl, nx, nd, ne, rfl, hf⟩ := h
  exact ⟨x, dx, vs ++ ws, H1, rfl, nx, nd, ne, rfl, df_spF r hf⟩
theorem df_newG {f : Fn} {c : Nat} {es : List D} {ws vs : List V} {Q : VK} {E : XK} (r : ∀ ν Y H, RDs κ ν Y H es ws) (h : spNG κ c (dfS es f) vs H Q E) : spNG κ c f (vs ++ ws) H Q E := by
  obtain ⟨x, dx, vs, H1, rfl, nx, nd, ne, rfl, hf⟩ := h
  exact ⟨x, dx, vs ++ ws, H1, rfl, nx, nd, ne, rfl, df_spG r hf⟩
theorem rds_false : ∀ ν Y H, RDs κ ν Y H [.bl false] [.bl false] := fun ν Y H => by simp [RDs, RD]
end
section
variable {P : Program} {w : World} {K : PySem.W.Frag} {mg : Str → Option Value} {base : Heap} {κ : Ctx} {k : Nat}
theorem fn_okD {x qual : Str} {params : Arguments} {bd : List Stmt} {sc : Scope} {dvs : List V} {kws : List (Str × V)} {f : Addr} {fd : FuncData} {N ps : List Str} {body : SM} (F : FunD K x qual params bd sc dvs kws f fd) (S : FnScope N ps sc)
    (hps : ps.length ≤ N.length) (hN : N.length < 1000000) (j : Nat)
    (h : ∀ (cdv : Value) (A : Around) (outer : List PySem.Env) (s : Shared) (H : Hp) (E : XK), Room k (A.deeper (PyProof.Rows.envOfC qual sc s.heap.objs.size f cdv)) →
      ∃ t, PSs (cxOf (L2.CX P w) P w K mg base N qual sc f cdv A outer s H E) bd t ∧ SimS κ (ηt j) (fun c d _ H => E c d H) t body) : FnOk P w K mg base (L2.CX P w) (k + 1) f fd ps (spF κ (mkFn ps.length N.length body)) := by
  refine F.ok S (fun vs H Q E ⟨F', ds, l, er, hw⟩ => l.trans (fn_arity hw).1) fun cdv A outer s H vs Q E hr hsp => ?_
  obtain ⟨t, ht, hs⟩ := h cdv A outer s H E hr
  exact ⟨t, ht, fn_body hps hN hs hsp⟩
theorem new_okD {x qual : Str} {params : Arguments} {bd : List Stmt} {sc : Scope} {dvs : List V} {kws : List (Str × V)} {f : Addr} {fd : FuncData} {N ps : List Str} {body : SM} {c : Nat} (F : FunD K x qual params bd sc dvs kws f fd) (S : FnScope N ps sc)
    (hps : ps.length ≤ N.length) (hN : N.length < 1000000) (h1 : 1 ≤ ps.length)
    (h : ∀ (cdv : Value) (A : Around) (outer : List PySem.Env) (s : Shared) (H : Hp) (E : XK), Room k (A.deeper (PyProof.Rows.envOfC qual sc s.heap.objs.size f cdv)) →
      ∃ t, PSs (cxOf (L2.CX P w) P w K mg base N qual sc f cdv A outer s H E) bd t ∧ ∀ self, SimS κ (η1 self) (fun c d _ H => E c d H) t body) : FnOk P w K mg base (L2.CX P w) (k + 1) f fd ps (spN κ c (mkNew c ps.length N.length body)) := by
  refine F.ok S (fun vs H Q E ⟨x, dx, vs', H1, e, _, _, _, _, F', ds, l, er, hw⟩ => by rw [e, List.length_cons, l]; exact (new_arity hw).1) fun cdv A outer s H vs0 Q E hr hsp => ?_
  obtain ⟨t, ht, hs⟩ := h cdv A outer s H E hr
  exact ⟨t, ht, new_body hps hN h1 hs hsp⟩
theorem new_okDG {x qual : Str} {params : Arguments} {bd : List Stmt} {sc : Scope} {dvs : List V} {kws : List (Str × V)} {f : Addr} {fd : FuncData} {N ps : List Str} {body : SM} {c : Nat} (F : FunD K x qual params bd sc dvs kws f fd) (S : FnScope N ps sc)
    (hps : ps.length ≤ N.length) (hN : N.length < 1000000) (h1 : 1 ≤ ps.length)
    (h : ∀ (cdv : Value) (A : Around) (outer : List PySem.Env) (s : Shared) (H : Hp) (E : XK), Room k (A.deeper (PyProof.Rows.envOfC qual sc s.heap.objs.size f cdv)) →
      ∃ t, PSs (cxOf (L2.CX P w) P w K mg base N qual sc f cdv A outer s H E) bd t ∧ ∀ ν self, SimS κ (η1g ν self) (fun c d _ H => E c d H) t body) : FnOk P w K mg base (L2.CX P w) (k + 1) f fd ps (spNG κ c (mkNew c ps.length N.length body)) := by
  refine F.ok S (fun vs H Q E ⟨x, dx, vs', H1, e, _, _, _, _, F', ν, st, ds, l, _, er, hw⟩ => by rw [e, List.length_cons, l]; exact (new_arity hw).1) fun cdv A outer s H vs0 Q E hr hsp => ?_
  obtain ⟨t, ht, hs⟩ := h cdv A outer s H E hr
  exact ⟨t, ht, new_bodyG hps hN h1 hs hsp⟩
end
end Dl

namespace Dl
open PySem PySem.Spec PyProof.Rows L2 Wp
/-! ### xs[::-1] of a list -/
def fRev : D → D → Option Sl
  | .lst xs, .int i => if i = -1 then some (.ow (.lst xs.reverse)) else none
  | _, _ => none
@[simp] theorem fRev_lst (xs : List D) : fRev (.lst xs) (.int (-1)) = some (.ow (.lst xs.reverse)) := (rfl)
def rRev (K : PySem.W.Frag) : R2 := fun x y H Q => y = .int (-1) ∧ ∃ a xs, x = .ref a ∧ SqL K H a xs ∧ ∀ p, H p = none → Q (.ref p) (upd H p (.lst xs.reverse))
theorem pick_back (its : List Value) : slicePick its.toArray none none (some (-1)) = its.reverse.toArray := by
  have e : sliceBounds none none (some (-1)) its.toArray.size = ((its.length : Int) - 1, -1, -1) := by simp [sliceBounds]
  unfold slicePick
  rw [e]
  congr 1
  simp only [sliceRange]
  rw [if_neg (by decide)]
  have c : (if (its.length : Int) - 1 > -1 then ((its.length : Int) - 1 - -1 - -1 - 1) / - -1 else 0).toNat = its.length := by
    rw [show (- -1 : Int) = 1 by rfl, Int.ediv_one]
    split <;> omega
  rw [c, List.filterMap_map]
  apply List.ext_getElem?
  intro i
  have h : ∀ n, n ≤ its.length → (List.range n).filterMap ((fun x => its.toArray[x]?) ∘ fun (k : Nat) => ((its.length : Int) - 1 + -1 * (k : Int)).toNat) = its.reverse.take n := by
    intro n
    induction n with
    | zero => simp
    | succ n ih =>
      intro hn
      rw [List.range_succ, List.filterMap_append, ih (by omega), List.take_succ]
      congr 1
      have q : ((its.length : Int) - 1 + -1 * (n : Int)).toNat = its.length - 1 - n := by omega
      simp only [List.filterMap_cons, List.filterMap_nil, Function.comp, q, List.getElem?_toArray]
      rw [List.getElem?_reverse (by omega)]
      cases its[its.length - 1 - n]? <;> rfl
  rw [h _ (Nat.le_refl _), ← List.length_reverse, List.take_length]
theorem pe_rev {X : Cx} {K : PySem.W.Frag} {e st : Expr} {te ts : TE} {p2 pos : Pos} (eK : X.K = K) (he : PE X e te) (hs : PE X st ts) : PE X (.Subscript e (.Slice none none (some st) p2) pos) (tOp (rRev K) te ts) := by
  subst eK
  refine ⟨fun pins s σ H Q I h => ?_⟩
  refine Subscript_ (thn (he.run pins s σ H _ I h) fun v s1 ⟨x, H1, I1, r1, q1⟩ => ?_)
  refine wpAny_Slice ?_
  rw [evalPart_none]
  refine wpAny_pure ?_
  refine wpAny_pure ?_
  rw [evalPart_some]
  refine thn (hs.run pins s1 σ H1 _ I1 q1) fun w s3 ⟨y, H3, I3, r3, q3⟩ => ?_
  obtain ⟨rfl, a, xs, rfl, hx, q⟩ := q3
  obtain ⟨t, rfl⟩ := r3
  cases r1
  have I4 : Inv X pins σ H3 { s3 with heap := s3.heap.push { cls := .type "slice", data := .fields #[.none, .none, .int (-1) t] } } := I3.kept (t' := s3.toks) fun b ob q => Heap.get?_push_of_some _ q
  obtain ⟨its, r, ht, hz⟩ := I4.list hx
  have hlen := r.length
  show wpAny (model X.prog X.w) X.A (subscriptTail e (.Slice none none (some st) p2) (.ref a) (.ref s3.heap.objs.size)) (EP X pins σ Q) X.xe { s3 with heap := s3.heap.push { cls := .type "slice", data := .fields #[.none, .none, .int (-1) t] } }
  refine tail_any (ops := [.ref a, .ref s3.heap.objs.size]) ht.isList.typeIs slot_list_getitem.lookup ?_ (by with_unfolding_all rfl)
  refine wpAny_getItem_list_slice ht.isList (Heap.IsSliceOf.new ..) .none .none (.int (-1) t) (by simp) ?_ (by rw [List.size_toArray] <;> omega)
  rw [pick_back]
  refine ⟨.ref _, _, I4.laid (t' := s3.toks) (o := .lst xs.reverse) (fun b ob q => Heap.get?_push_of_some _ q) (Nat.le_refl _) ?_, rfl, q _ (I4.hok.fresh (Nat.le_refl _))⟩
  exact ⟨by rw [List.length_reverse]; exact hz, _, 0, r.reverse, Heap.get?_push_size _ rfl⟩
theorem o_rev {κ : Ctx} : Op2 κ (rRev κ.K) fRev := by
  intro ν Y H x y c d s Q hc hd hf hq
  cases c <;> cases d <;> simp only [fRev, reduceCtorEq] at hf
  rename_i ds i
  split at hf
  · rename_i z
    subst z
    cases hf
    obtain ⟨a, vs, rfl, g, r⟩ := hc.lst
    exact ⟨hd.int, a, vs, rfl, SqL.of g, fun p hp => hq.lst r.rev hp⟩
  · cases hf
/-! ### own comparisons that may raise -/
section
variable {X : Cx} {W : WX} {k : Nat} {C f : Addr} {sp : Sp} {m : Str} {a b : Expr} {ta tb : TE} {pos : Pos}
theorem cmpX_at {op : CmpOp} (hop : ∀ a b, compareOp op a b = richCompare op a b) (c : Met X.prog X.w X.K X.mg X.base k C m f sp) (hm : m = (cmpInfo op).2.1) (hr : Room k X.A) (tk : Takes X W) {pins : List (Addr × Obj)} {s : Shared} {σ : L2.St} {H : Hp} {x y : V} {v u : Value} {Q : VK}
    (I : L2.Inv X pins σ H s) (rx : RelV x v) (ry : RelV y u) (h : ∃ p dx fs q dy gs, x = .ref p ∧ y = .ref q ∧ H p = some (.ins C dx fs) ∧ H q = some (.ins C dy gs) ∧ sp [x, y] H Q (WE W σ)) : wpAny (model X.prog X.w) X.A (compareOp op v u) (EP X pins σ Q) X.xe s := by
  obtain ⟨p, dx, fs, q, dy, gs, rfl, rfl, ep, eq, hs⟩ := h
  obtain rfl : v = Value.ref p := rx
  obtain rfl : u = Value.ref q := ry
  obtain ⟨ox, od, J, _⟩ := inst_at I ep
  obtain ⟨oy, od', J', _⟩ := inst_at I eq
  obtain ⟨m', hF⟩ := I.fr
  subst hm
  rw [hop]
  refine PySem.W.cmp_K (op := op) (tb := .ref C) hr.units0 hF I.ok.mod.kin J J'.type (by simp [PySem.W.notFirst]) c.mt.at_ c.mt.fn ?_
  refine wpAny_mono (wpAny_call (run_at (us := [.ref p, .ref q]) (vs := [.ref p, .ref q]) c.fn hr tk I (.cons rfl (.cons rfl .nil)) hs)) (fun w s' z => ?_) fun _ _ x => x
  obtain ⟨z', H', I', rz, qz⟩ := z
  exact back_of rz ⟨z', H', I', rz, qz⟩
theorem pe_leX (ha : PE X a ta) (hb : PE X b tb) (c : Met X.prog X.w X.K X.mg X.base k C "__le__" f sp) (hr : Room k X.A) (tk : Takes X W) (hm : behindInMarks .LtE b = false) : PE X (.Compare a [.LtE] [b] pos) (tBinS C sp (WE W) ta tb) := by
  refine ⟨fun pins s σ H Q I h => ?_⟩
  exact wpAny_Compare1 (thn (ha.run pins s σ H _ I h) fun v s1 ⟨x, H1, I1, r1, q1⟩ => thn (hb.run pins s1 σ H1 _ I1 q1) fun u s2 ⟨y, H2, I2, r2, q2⟩ => cmpX_at (op := .LtE) (fun _ _ => rfl) c rfl hr tk I2 r1 r2 q2) hm
theorem pt_leX (ha : PE X a ta) (hb : PE X b tb) (c : Met X.prog X.w X.K X.mg X.base k C "__le__" f sp) (hr : Room k X.A) (tk : Takes X W) (hm : behindInMarks .LtE b = false) : PT X (.Compare a [.LtE] [b] pos) (tTest (tBinS C sp (WE W) ta tb)) := by
  refine ⟨fun pins s σ H Q I h => ?_⟩
  refine wpAny_isTrue_Compare1 (thn (ha.run pins s σ H _ I h) fun v s1 ⟨x, H1, I1, r1, q1⟩ => thn (hb.run pins s1 σ H1 _ I1 q1) fun u s2 ⟨y, H2, I2, r2, q2⟩ =>
    thn (cmpX_at (op := .LtE) (fun _ _ => rfl) c rfl hr tk I2 r1 r2 q2) fun c s3 ⟨z, H3, I3, r3, k, e, q3⟩ => ?_) hm
  subst e
  cases r3
  exact wpAny_truthy_bool ⟨H3, I3, q3⟩
end
/-! ### methods of lists with one argument -/
def lstT (e : Env) : C XS Env := match e.ts with
  | s :: _ => (match getV e.sl s with
    | some (.lst _) => .ret e
    | _ => .bad)
  | _ => .bad
theorem lstT_ok {s : Sl} {r sl : List Sl} {xs : List D} (h : getV sl s = some (.lst xs)) : lstT ⟨s :: r, sl⟩ = .ret ⟨s :: r, sl⟩ := by simp only [lstT, h]
@[simp] theorem lstT_sh (xs : List D) (r sl : List Sl) : lstT ⟨.sh (.lst xs) :: r, sl⟩ = .ret ⟨.sh (.lst xs) :: r, sl⟩ := lstT_ok (xs := xs) (by simp)
@[simp] theorem lstT_al (i : Nat) (r sl : List Sl) : lstT ⟨.al i :: r, sl⟩ = (match getV sl (.al i) with | some (.lst _) => .ret ⟨.al i :: r, sl⟩ | _ => .bad) := (rfl)
/-- xs.m(y) -/
def bm1 (f : D → D → Option Sl) (a b : EM) : EM := fun e => bnd (a e) fun e => bnd (lstT e) (seqE b (op2 f))
@[simp] theorem bm1_ap (f : D → D → Option Sl) (a b : EM) (e : Env) : bm1 f a b e = bnd (a e) fun e => bnd (lstT e) (seqE b (op2 f)) := (rfl)
theorem wp_lstT {ts sl : List Sl} {st : Sto} {k : Env → Sto → Prop} {x : XS → Sto → Prop} (w : wp (lstT ⟨ts, sl⟩) st k x) : ∃ s r xs, ts = s :: r ∧ getV sl s = some (.lst xs) ∧ k ⟨ts, sl⟩ st := by
  cases ts with
  | nil => exact w.elim
  | cons s r =>
    simp only [lstT] at w
    split at w
    · rename_i xs q
      exact ⟨s, r, xs, rfl, q, w⟩
    · exact w.elim
theorem sim_bm1 {κ : Ctx} {η : Hn} {W : WX} {ta tb : TE} {ma mb : EM} {K : PySem.W.Frag} {r : V → List V → Hp → VK → Prop} {f : D → D → Option Sl} (eK : κ.K = K) (h : Op2 κ (fun x y H Q => r x [y] H Q) f) (ha : SimE κ η W ta ma) (hb : SimE κ η W tb mb) :
    SimE κ η W (tBM K "list" r ta (tCons tb tNil)) (bm1 f ma mb) := by
  subst eK
  intro F0 st ν B F τ ts σ sl H Q so es w
  simp only [bm1_ap, wp_bnd] at w
  refine ha so es (wp_mono w (fun e st we ν F x H1 so es1 => ?_) fun _ _ z => z)
  obtain ⟨ets, esl⟩ := e
  obtain ⟨sx, r0, xs, rfl, qx, we⟩ := wp_lstT we
  have lx := es1.read (x := x) (s := sx) (by simp) qx
  obtain ⟨a, vs, rfl, g, _⟩ := lx.lst
  refine ⟨.inl ⟨rfl, vs, SqL.of g⟩, ?_⟩
  simp only [seqE_ap, wp_bnd] at we
  refine hb so es1 (wp_mono we (fun e2 st we2 ν F y H2 so es2 => ?_) fun _ _ z => z)
  obtain ⟨ets2, esl2⟩ := e2
  obtain ⟨sy, r1, rfl⟩ := ts_cons es2.lt
  obtain ⟨sx, r2, rfl⟩ := ts_cons es2.pop.lt
  simp only [op2_ap] at we2
  cases q1 : getV esl2 sx with
  | none => rw [q1] at we2; exact we2.elim
  | some c =>
    cases q2 : getV esl2 sy with
    | none => rw [q1, q2] at we2; exact we2.elim
    | some d =>
      rw [q1, q2] at we2
      simp only [Option.bind_some] at we2
      cases q3 : f c d with
      | none => rw [q3] at we2; exact we2.elim
      | some t =>
        rw [q3] at we2
        have l1 := es2.read (x := .ref a) (s := sx) (by simp) q1
        have l2 := es2.read (x := y) (s := sy) (by simp) q2
        exact h (l1.mono fun a z => os_pop a (os_pop a z)) (l2.mono fun a z => os_pop a (os_pop a z)) q3 fun v' H' n => we2 _ _ _ _ so (es2.pop.pop.newV n)
def fCount : D → D → Option Sl
  | .lst xs, .int k => (asInts xs).bind fun ns => shI (ns.count k : Nat)
  | _, _ => none
@[simp] theorem fCount_lst (xs : List D) (k : Int) : fCount (.lst xs) (.int k) = (asInts xs).bind fun ns => shI (ns.count k : Nat) := (rfl)
def rCount (K : PySem.W.Frag) : V → List V → Hp → VK → Prop := fun x xs H Q => ∃ (a : Addr) (ns : List Int) (k : Int), x = .ref a ∧ xs = [.int k] ∧ SqL K H a (ns.map .int) ∧ Q (.int (ns.count k : Nat)) H
theorem mt_count {X : Cx} {K : PySem.W.Frag} (eK : X.K = K) : MtR X "list.count" (rCount K) := by
  subst eK
  intro pins s σ H x xs v us Q I rx rxs h
  obtain ⟨a, ns, k, rfl, rfl, hs, q⟩ := h
  cases rx
  cases rxs with
  | cons ry rt =>
    rename_i uy ut
    cases rt
    obtain ⟨t, rfl⟩ := ry
    obtain ⟨its, rv, pl, hlen⟩ := I.list hs
    refine PyProof.Rows.count_list_ints pl.isList (intsAre_of rv) ?_
    exact ⟨.int (ns.count k : Nat), H, I.tok _, ⟨_, rfl⟩, q⟩
theorem o_count {κ : Ctx} : Op2 κ (fun x y H Q => rCount κ.K x [y] H Q) fCount := by
  intro ν Y H x y c d s Q hc hd hf hq
  cases c <;> cases d <;> simp only [fCount, reduceCtorEq] at hf
  rename_i ds k
  simp only [Option.bind_eq_some_iff] at hf
  obtain ⟨ns, e, z⟩ := hf
  cases z
  obtain ⟨a, vs, rfl, g, r⟩ := hc.lst
  rw [asInts_of e] at r
  rw [r.ints] at g
  exact ⟨a, ns, k, rfl, by rw [hd.int], SqL.of g, hq.int⟩
theorem pe_bmK {X : Cx} {K : PySem.W.Frag} {o e : Expr} {es : List Expr} {to : TE} {t : TA} {name : Str} {apos cpos : Pos} {T id : String} {r : V → List V → Hp → VK → Prop} (eK : X.K = K) (pa : PlainAttrs T) (slot : Slot T name id) (hty : typeOf (.builtin id) = pure (.type "method_descriptor")) (hm : MtR X id r) (ho : PE X o to) (ha : PA X (e :: es) t)
    (hbase : attributeBase o name X.env (eval o X.env) = eval o X.env := by rfl)
    (hfew : ((backTo cpos (starEach (e :: es) X.env)).all (fun x => !x.1) && (backToKw cpos (keywordEach [] X.env)).all (fun x => x.1.isSome)
      && decide ((e :: es).length + ([] : List Keyword).length + (if ([] : List Keyword).isEmpty then 0 else 1) < 30)) = true := by rfl)
    (hline : (apos.endLine == cpos.line) = true := by rfl) (hs : starEach (e :: es) X.env = (false, eval e X.env) :: starEach es X.env := by rfl) (hplain : (backTo cpos (starEach es X.env)).any (·.1) = false := by rfl) :
    PE X (.Call (.Attribute o name apos) (e :: es) [] cpos) (tBM K T r to t) := eK ▸ pe_bm pa slot hty hm ho ha hbase hfew hline hs hplain
/-! ### zip of two tuples -/
def zipL (xs ys : List D) : List D := (xs.zip ys).map fun p => .tup [p.1, p.2]
@[simp] theorem zipL_nil (ys : List D) : zipL [] ys = [] := (rfl)
@[simp] theorem zipL_cons (x y : D) (xs ys : List D) : zipL (x :: xs) (y :: ys) = .tup [x, y] :: zipL xs ys := (rfl)
def zipK (e : Env) : C XS (List D × List Sl) := match e.ts with
  | [.sh (.tup ys), .sh (.tup xs)] => .ret (zipL xs ys, e.sl)
  | _ => .bad
@[simp] theorem zipK_ap (xs ys : List D) (sl : List Sl) : zipK ⟨[.sh (.tup ys), .sh (.tup xs)], sl⟩ = .ret (zipL xs ys, sl) := (rfl)
def itZip (a b : EM) : IM := fun sl => bnd (a ⟨[], sl⟩) fun e => bnd (b e) zipK
@[simp] theorem itZip_ap (a b : EM) (sl : List Sl) : itZip a b sl = bnd (a ⟨[], sl⟩) fun e => bnd (b e) zipK := (rfl)
section
variable {κ : Ctx} {ν ν' : List Addr} {η : Hn} {W : WX} {B : Hp} {F Z : List VS} {τ : List V} {ts : List Sl} {σ : L2.St} {sl : List Sl} {H H' : Hp} {v x : V} {s : Sl} {d : D} {ta tb tc te tf : TE} {ma mb mc m : EM} {tr : TA} {as : List EM} {t u : TS} {a b : SM}
theorem unpinL : ∀ {ps : List VS} {F0 F : List VS} {st : Sto}, (∀ p ∈ η.cap, p ∈ F0) → StOk η B (ps ++ F0) ν F st → ES κ ν η B F τ ts σ sl H → ∃ F', StOk η B F0 ν F' st ∧ ES κ ν η B F' τ ts σ sl H
  | [], F0, F, st, _, so, es => ⟨F, so, es⟩
  | p :: ps, F0, F, st, hc, so, es => unpinL (ps := ps) (F0 := F0) (F := _) hc (StOk.unpin (p := p) (F0 := ps ++ F0) so fun q m => List.mem_append_right _ (hc q m)) (ES.unp (p := p) (F0 := ps ++ F0) es so).framed
theorem framedQ {x : XS} {st : Sto} (hc : ∀ p ∈ η.cap, p ∈ F) : ∀ {ps : List VS}, XQ κ η W B F x st → XQ κ η W B (ps ++ F) x st
  | [], h => h
  | p :: ps, h => (framedQ hc (ps := ps) h).framed fun q m => List.mem_append_right _ (hc q m)
theorem framedR {st : Sto} (hc : ∀ p ∈ η.cap, p ∈ F) : ∀ {ps : List VS}, RetP κ η B (ps ++ F) st s v H → RetP κ η B F st s v H
  | [], h => h
  | p :: ps, h => framedR hc (ps := ps) (h.framed fun q m => List.mem_append_right _ (hc q m))
theorem framedO {st : Sto} {s1 s2 : Sl} (hc : ∀ p ∈ η.cap, p ∈ F) : ∀ {ps : List VS}, RetO κ η B (ps ++ F) st s1 s2 v H → RetO κ η B F st s1 s2 v H
  | [], h => h
  | p :: ps, h => framedO hc (ps := ps) (h.framed fun q m => List.mem_append_right _ (hc q m))
def WalkOkP (κ : Ctx) (J : It) (ps : List VS) (ds : List D) : Prop := ∀ ν H Z, ER κ ν H Z → (∀ p ∈ ps, p ∈ Z) → (∀ i d, ds[i]? = some d → J.go i H ∧ ∀ x H', J.yld i H x H' → NewV κ ν (OA Z) H (.sh d) x H') ∧ J.stop ds.length H
def SimIP (κ : Ctx) (η : Hn) (W : WX) (wi : TI) (it : IM) : Prop := ∀ {F0 : List VS} {st : Sto} {ν : List Addr} {B : Hp} {F : List VS} {σ : L2.St} {sl : List Sl} {H : Hp} {R : It → Hp → Prop}, StOk η B F0 ν F st → ES κ ν η B F [] [] σ sl H →
  wp (it sl) st (fun r st => ∀ ν F J ps H1, StOk η B (ps ++ F0) ν F st → ES κ ν η B F [] [] σ r.2 H1 → WalkOkP κ J ps r.1 → R J H1) (XP κ η W B F0 σ) → wi σ H R
theorem sim_forP {wi : TI} {it : IM} {g : TG} {tg : Tg} (hi : SimIP κ η W wi it) (hg : SimG κ η g tg) (hb : SimS κ η W t a) : SimS κ η W (tFor wi g t) (forS it tg a) := by
  intro F0 st ν B F σ sl H D so es w
  have soz := so
  simp only [forS_ap, wp_bnd] at w
  refine hi so es (wp_mono w (fun r st wr ν F J ps H1 so es1 wk => ?_) fun _ _ z => z.xp)
  obtain ⟨ds, sl1⟩ := r
  simp only [forK_ap] at wr
  refine ⟨fun i k σ' H' => k = ds.length - i ∧ i ≤ ds.length ∧ ∃ ν F st sl', StOk η B (ps ++ F0) ν F st ∧ ES κ ν η B F [] [] σ' sl' H' ∧ wp (forL tg a (ds.drop i) sl') st (FlowP κ η B F0 D) (XQ κ η W B F0), ⟨_, rfl, Nat.zero_le _, ν, F, st, sl1, so, es1, by simpa using wr⟩, ?_⟩
  rintro i k σ' H' ⟨rfl, hi', ν, F, st, sl', so, es', w'⟩
  have hpF : ∀ p ∈ ps, p ∈ zA [] [] σ' sl' F := fun p hp => by rw [so.fe]; simp [zA, hp]
  obtain ⟨go, stop⟩ := wk ν H' _ es'.er hpF
  rcases Nat.lt_or_ge i ds.length with hlt | hge
  · refine .inr ?_
    have e : ds[i]? = some ds[i] := List.getElem?_eq_getElem hlt
    obtain ⟨g1, yl⟩ := go i _ e
    refine ⟨g1, fun σ2 H2 => ∃ m', m' < ds.length - i ∧ (m' = ds.length - (i + 1) ∧ i + 1 ≤ ds.length ∧ ∃ ν F st sl', StOk η B (ps ++ F0) ν F st ∧ ES κ ν η B F [] [] σ2 sl' H2 ∧ wp (forL tg a (ds.drop (i + 1)) sl') st (FlowP κ η B F0 D) (XQ κ η W B F0)), fun σ2 H2 n => n, fun x H2 y => ?_⟩
    rw [List.drop_eq_getElem_cons hlt, forL_cons] at w'
    cases q : tg.set ds[i] sl' with
    | none => rw [q] at w'; exact w'.elim
    | some sl2 =>
      rw [q] at w'
      simp only [turnK_some, wp_bnd] at w'
      have es2 : ES κ ν η B F [x] [.sh ds[i]] σ' sl' H2 := es'.newV (yl x H2 y)
      refine hg es2 q fun σ2 _ es3 => ?_
      refine hb so es3 (wp_mono w' (fun r st wr2 => ?_) fun _ _ z => framedQ soz.cp z)
      have again : ∀ sl3, wp (forL tg a (ds.drop (i + 1)) sl3) st (FlowP κ η B F0 D) (XQ κ η W B F0) → ∀ ν F σ3 H3, StOk η B (ps ++ F0) ν F st → ES κ ν η B F [] [] σ3 sl3 H3 → ∃ m', m' < ds.length - i ∧ (m' = ds.length - (i + 1) ∧ i + 1 ≤ ds.length ∧ ∃ ν F st sl', StOk η B (ps ++ F0) ν F st ∧ ES κ ν η B F [] [] σ3 sl' H3 ∧ wp (forL tg a (ds.drop (i + 1)) sl') st (FlowP κ η B F0 D) (XQ κ η W B F0)) :=
        fun sl3 wz ν F σ3 H3 so es4 => ⟨_, by omega, rfl, by omega, ν, F, st, sl3, so, es4, wz⟩
      cases r with
      | nx sl3 => exact again sl3 wr2
      | ct sl3 => exact again sl3 wr2
      | bk sl3 => exact fun ν F σ3 H3 so es4 => let ⟨F', so', es'⟩ := unpinL soz.cp so es4; wr2 _ _ σ3 H3 so' es'
      | rt s o => exact fun v H3 rp => wr2 v H3 (framedR soz.cp rp)
      | ro s1 s2 => exact fun v H3 rp => wr2 v H3 (framedO soz.cp rp)
  · refine .inl ?_
    have : i = ds.length := Nat.le_antisymm hi' hge
    subst this
    rw [List.drop_length, forL_nil] at w'
    obtain ⟨F', so', es2⟩ := unpinL soz.cp so es'
    exact ⟨stop, w' _ _ σ' H' so' es2⟩
theorem zipL_get (xs ys : List D) (i : Nat) (d : D) (h : (zipL xs ys)[i]? = some d) : ∃ x y, xs[i]? = some x ∧ ys[i]? = some y ∧ d = .tup [x, y] := by
  simp only [zipL, List.getElem?_map, Option.map_eq_some_iff] at h
  obtain ⟨⟨x, y⟩, h1, rfl⟩ := h
  rw [List.getElem?_zip_eq_some] at h1
  exact ⟨x, y, h1.1, h1.2, rfl⟩
theorem walkZ {p q : Addr} {K : PySem.W.Frag} {xs ys : List D} : WalkOkP κ (RZ.ItzT K p q) [(some (.ref q), .sh (.tup ys)), (some (.ref p), .sh (.tup xs))] (zipL xs ys) := by
  intro ν H Z er hp
  have o1 := er.ok _ (hp (some (.ref p), .sh (.tup xs)) (by simp))
  have o2 := er.ok _ (hp (some (.ref q), .sh (.tup ys)) (by simp))
  have l1 : LD κ ν (OA Z) H (.tup xs) (.ref p) := slok_ld (s := .sh (.tup xs)) o1 rfl rfl
  have l2 : LD κ ν (OA Z) H (.tup ys) (.ref q) := slok_ld (s := .sh (.tup ys)) o2 rfl rfl
  obtain ⟨a', vs, e, g, r, _⟩ := l1.tup
  cases e
  obtain ⟨b', us, e, g2, r2, _⟩ := l2.tup
  cases e
  refine ⟨fun i d e => ?_, ?_⟩
  · obtain ⟨x, y, hx, hy, rfl⟩ := zipL_get xs ys i d e
    obtain ⟨u1, h1, ru1⟩ := r.at hx
    obtain ⟨u2, h2, ru2⟩ := r2.at hy
    refine ⟨⟨vs, us, u1, u2, SqT.of g, SqT.of g2, h1, h2⟩, fun w H' yl => ?_⟩
    obtain ⟨T, x', y', rfl, hT, rfl, f1, f2⟩ := yl
    have e1 := f1 vs (SqT.of g)
    have e2 := f2 us (SqT.of g2)
    rw [h1] at e1; cases e1
    rw [h2] at e2; cases e2
    refine .inr ⟨T, _, _, rfl, rfl, hT, rfl, ?_⟩
    simp only [RDs]
    exact ⟨_, _, rfl, ru1, _, [], rfl, ru2, rfl⟩
  · refine ⟨vs, us, SqT.of g, SqT.of g2, ?_⟩
    rw [← r.len, ← r2.len, zipL, List.length_map, List.length_zip]
    rcases Nat.le_total xs.length ys.length with z | z
    · exact .inl (by rw [Nat.min_eq_left z]; exact Nat.le_refl _)
    · exact .inr (by rw [Nat.min_eq_right z]; exact Nat.le_refl _)
theorem pin2_perm {α : Type} {p q : α} {as bs : List α} : (p :: q :: (as ++ bs)).Perm (as ++ ([p, q] ++ bs)) :=
  ((List.perm_middle (a := q) (l₁ := as) (l₂ := bs)).symm.cons p).trans (List.perm_middle (a := p) (l₁ := as) (l₂ := q :: bs)).symm
theorem ES.pin2 {y : V} {d1 d2 : D} (h : ES κ ν η B F [y, x] [.sh d2, .sh d1] σ sl H) : ES κ ν η B ((some y, .sh d2) :: (some x, .sh d1) :: F) [] [] σ sl H := by
  have pm : (zA [y, x] [.sh d2, .sh d1] σ sl F).Perm (zA [] [] σ sl ((some y, .sh d2) :: (some x, .sh d1) :: F)) := by
    simp only [zA, zT, List.map_cons, List.map_nil, List.zip_cons_cons, List.zip_nil_left, List.nil_append, List.cons_append]
    exact pin2_perm
  exact ⟨rfl, h.ls, fun w i m => by simp at m, h.er.perm pm, h.bs, fun a d m => h.fr a d (by simp [zT] at m; simp [zT, m]), h.sf, fun y q => ⟨(h.ex y q).1, exr_sub (h.ex y q).2 fun a ⟨d, m⟩ => ⟨d, pm.mem_iff.mpr m⟩⟩⟩
theorem simi_zip {K : PySem.W.Frag} (ha : SimE κ η W ta ma) (hb : SimE κ η W tb mb) : SimIP κ η W (RZ.iZipA K (tCons ta (tCons tb tNil))) (itZip ma mb) := by
  intro F0 st ν B F σ sl H R so es w
  simp only [itZip_ap, wp_bnd] at w
  refine ha so es (wp_mono w (fun e st we ν F x H1 so es1 => ?_) fun _ _ z => z)
  obtain ⟨ets, esl⟩ := e
  refine hb so es1 (wp_mono we (fun e2 st we2 ν F y H2 so es2 => ?_) fun _ _ z => z)
  obtain ⟨ets2, esl2⟩ := e2
  match ets2, we2, es2 with
  | [.sh (.tup ys), .sh (.tup xs)], we2, es2 =>
    have l1 := es2.read (x := x) (s := .sh (.tup xs)) (d := .tup xs) (by simp) (by simp)
    have l2 := es2.read (x := y) (s := .sh (.tup ys)) (d := .tup ys) (by simp) (by simp)
    obtain ⟨p, vs, rfl, g, r, _⟩ := l1.tup
    obtain ⟨q, us, rfl, g2, r2, _⟩ := l2.tup
    refine ⟨p, q, vs, us, rfl, .inr ⟨SqT.of g, SqT.of g2, ?_⟩⟩
    have e3 := es2.pin2
    exact we2 _ _ _ _ _ (StOk.mk (F := zS _ st ++ ([(some (.ref q), .sh (.tup ys)), (some (.ref p), .sh (.tup xs))] ++ F0)) rfl so.ln so.nb so.np so.pr fun q m => List.mem_append_right _ (so.cp q m)) (e3.permF (by rw [so.fe]; exact pin2_perm)) walkZ
end
theorem pi_zipK {X : Cx} {K : PySem.W.Frag} {e e2 : Expr} {ta : TA} {p pos tpos : Pos} {elts : List Expr} {kk : Nat} (eK : X.K = K) (hg : Gl X "zip") (hm : X.mg "zip" = none) (ha : PA X [e, e2] ta)
    (hs : starEach [e, e2] X.env = (false, eval e X.env) :: starEach [e2] X.env := by rfl) (hpl : (backTo pos (starEach [e2] X.env)).any (·.1) = false := by rfl) :
    PI X (.Tuple elts kk tpos) (.Call (.Name "zip" p) [e, e2] [] pos) (RZ.iZipA K ta) := eK ▸ RZ.pi_zipA hg hm ha hs hpl
end Dl

namespace Dl
open PySem PySem.Spec PyProof.Rows L2 Wp
/-! ### {k: v for x in xs} -/
def gSet0 (k x : D) : D → Option D
  | .dct 0 ks vs => gSet k x (.dct 0 ks vs)
  | _ => none
@[simp] theorem gSet0_dct (k x : D) (ks vs : List D) : gSet0 k x (.dct 0 ks vs) = if sameK 0 k && decide (ks.length < sizeD) then some (dPut 0 ks vs k x) else none := (rfl)
abbrev DMt := D → List Sl → C XS (D × List Sl)
def dcPut (own : List Nat) (acc : D) (f : DMt) (sl : List Sl) : Option D → C XS (D × List Sl)
  | some d => f d (unkA own sl)
  | none => .bad
@[simp] theorem dcPut_some (own : List Nat) (acc : D) (f : DMt) (sl : List Sl) (d : D) : dcPut own acc f sl (some d) = f d (unkA own sl) := (rfl)
def dcEl (own : List Nat) (acc : D) (f : DMt) (e : Env) : C XS (D × List Sl) := match e.ts with
  | [.sh v, .sh k] => dcPut own acc f e.sl (gSet0 k v acc)
  | [.ow v, .sh k] => dcPut own acc f e.sl (gSet0 k v acc)
  | _ => .bad
@[simp] theorem dcEl_sh (own : List Nat) (acc : D) (f : DMt) (v k : D) (sl : List Sl) : dcEl own acc f ⟨[.sh v, .sh k], sl⟩ = dcPut own acc f sl (gSet0 k v acc) := (rfl)
@[simp] theorem dcEl_ow (own : List Nat) (acc : D) (f : DMt) (v k : D) (sl : List Sl) : dcEl own acc f ⟨[.ow v, .sh k], sl⟩ = dcPut own acc f sl (gSet0 k v acc) := (rfl)
def dcV (own : List Nat) (mv : EM) (acc : D) (f : DMt) (e : Env) : C XS (D × List Sl) := bnd (noX (mv e)) (dcEl own acc f)
@[simp] theorem dcV_ap (own : List Nat) (mv : EM) (acc : D) (f : DMt) (e : Env) : dcV own mv acc f e = bnd (noX (mv e)) (dcEl own acc f) := (rfl)
def dcTk (own : List Nat) (mk mv : EM) (acc : D) (f : DMt) (sl : List Sl) : Option D → C XS (D × List Sl)
  | some (.bl z) => iteC z (bnd (noX (mk ⟨[], sl⟩)) (dcV own mv acc f)) (f acc (unkA own sl))
  | _ => .bad
@[simp] theorem dcTk_bl (own : List Nat) (mk mv : EM) (acc : D) (f : DMt) (z : Bool) (sl : List Sl) : dcTk own mk mv acc f sl (some (.bl z)) = iteC z (bnd (noX (mk ⟨[], sl⟩)) (dcV own mv acc f)) (f acc (unkA own sl)) := (rfl)
def dcTs (own : List Nat) (mk mv : EM) (acc : D) (f : DMt) (s : Sl) (sl : List Sl) : C XS (D × List Sl) := dcTk own mk mv acc f sl (getV sl s)
@[simp] theorem dcTs_ap (own : List Nat) (mk mv : EM) (acc : D) (f : DMt) (s : Sl) (sl : List Sl) : dcTs own mk mv acc f s sl = dcTk own mk mv acc f sl (getV sl s) := (rfl)
def dcTu (own : List Nat) (test mk mv : EM) (acc : D) (f : DMt) : Option (List Sl) → C XS (D × List Sl)
  | some sl => bnd (noX (test ⟨[], sl⟩)) (topK (dcTs own mk mv acc f))
  | none => .bad
@[simp] theorem dcTu_some (own : List Nat) (test mk mv : EM) (acc : D) (f : DMt) (sl : List Sl) : dcTu own test mk mv acc f (some sl) = bnd (noX (test ⟨[], sl⟩)) (topK (dcTs own mk mv acc f)) := (rfl)
def dcL (g : Tg) (own : List Nat) (test mk mv : EM) : List D → DMt
  | [], acc => fun sl => .ret (acc, sl)
  | d :: ds, acc => fun sl => dcTu own test mk mv acc (dcL g own test mk mv ds) (g.set d sl)
@[simp] theorem dcL_nil (g : Tg) (own : List Nat) (test mk mv : EM) (acc : D) (sl : List Sl) : dcL g own test mk mv [] acc sl = .ret (acc, sl) := (rfl)
@[simp] theorem dcL_cons (g : Tg) (own : List Nat) (test mk mv : EM) (d : D) (ds : List D) (acc : D) (sl : List Sl) : dcL g own test mk mv (d :: ds) acc sl = dcTu own test mk mv acc (dcL g own test mk mv ds) (g.set d sl) := (rfl)
def dcZ (ts : List Sl) (z : D × List Sl) : C XS Env := .ret ⟨.ow z.1 :: ts, z.2⟩
@[simp] theorem dcZ_ap (ts : List Sl) (d : D) (sl : List Sl) : dcZ ts (d, sl) = .ret ⟨.ow d :: ts, sl⟩ := (rfl)
def dcK (g : Tg) (own : List Nat) (test mk mv : EM) (ts : List Sl) (r : List D × List Sl) : C XS Env := bnd (dcL g own test mk mv r.1 (.dct 0 [] []) (unkA own r.2)) (dcZ ts)
@[simp] theorem dcK_ap (g : Tg) (own : List Nat) (test mk mv : EM) (ts : List Sl) (ds : List D) (sl : List Sl) : dcK g own test mk mv ts (ds, sl) = bnd (dcL g own test mk mv ds (.dct 0 [] []) (unkA own sl)) (dcZ ts) := (rfl)
def dcE (it : IM) (g : Tg) (own : List Nat) (test mk mv : EM) : EM := fun e => bnd (it e.sl) (dcK g own test mk mv e.ts)
@[simp] theorem dcE_ap (it : IM) (g : Tg) (own : List Nat) (test mk mv : EM) (ts sl : List Sl) : dcE it g own test mk mv ⟨ts, sl⟩ = bnd (it sl) (dcK g own test mk mv ts) := (rfl)
section
variable {κ : Ctx} {ν ν' : List Addr} {η : Hn} {W : WX} {B : Hp} {F Z : List VS} {τ : List V} {ts : List Sl} {σ : L2.St} {sl : List Sl} {H H' : Hp} {v x : V} {s : Sl} {d : D} {ta tb tc te tf : TE} {ma mb mc m : EM} {tr : TA} {as : List EM} {t u : TS} {a b : SM}
theorem dc_cell {p : Addr} {d1 dx dk d' : D} {y k : V} {Y : Addr → Prop} (hc : Cell κ ν Y H p d1) (hY : Y p) (rx : RD κ ν Y H dx y) (rk : RD κ ν Y H dk k) (hg : gSet0 dk dx d1 = some d') :
    ∃ kvs k0, k = kV k0 ∧ H p = some (.dK kvs) ∧ kvs.length < sizeLine ∧ Cell κ ν Y (upd H p (.dK (putK kvs k0 y))) p d' := by
  have kk : ∀ o b u, ¬ Y b → H b = some u → upd H p o b = some u := fun o b u nb hb => by
    rw [upd_ne]
    · exact hb
    · rintro rfl; exact nb hY
  match d1, hc, hg with
  | .dct 0 ks ws, ⟨o, vs, g, hq, r⟩, hg =>
    simp only [gSet0_dct] at hg
    split at hg
    · rename_i z
      simp only [Bool.and_eq_true, decide_eq_true_eq] at z
      obtain ⟨z1, z2⟩ := z
      cases hg
      obtain ⟨qs, e1, e2, e3⟩ := hq
      subst e3
      obtain ⟨k0, hk0⟩ := sameK0 z1
      obtain ⟨ks', ws', qs', us, f1, f2, f3, f4, f5⟩ := put_zip (q := 0) kOf_eq hk0 rx e1 e2 r
      refine ⟨_, k0, kOf_kV hk0 (.inl rk), g, ?_, ?_⟩
      · have l1 : ks.length = qs.length := by have := congrArg List.length e1; simpa using this
        rw [List.length_zip, ← e2, Nat.min_self, ← l1]
        exact szDl z2
      · rw [f1]
        exact ⟨_, us, upd_same, ⟨qs', f3, f4, by rw [f2]⟩, f5.keep (kk _)⟩
    · cases hg
theorem sim_dc {wi : TI} {it : IM} {g : TG} {tg : Tg} {tt : TT} {own : List Nat} {tk tv : TE} {mk mv : EM} (hi : SimI κ η W wi it) (hg : SimG κ η g tg) (ht : SimT κ η W0 tt mc) (hk : SimE κ η W0 tk mk) (he : SimE κ η W0 tv mv) (hn : ∀ j, j ∈ tg.nms → j ∈ own) (ho : ∀ i ∈ own, η.ok i) :
    SimE κ η W (tDc wi g tt tk tv own) (dcE it tg own mc mk mv) := by
  intro F0 st ν B F τ ts σ sl H Q so es w
  simp only [dcE_ap, wp_bnd] at w
  have esP : ES κ ν η B (zS ν st ++ (zT τ ts ++ F0)) [] [] σ sl H := es.pinAll.permF (by
    rw [so.fe, ← List.append_assoc, ← List.append_assoc]
    exact List.perm_append_comm.append_right _)
  have soP : StOk η B (zT τ ts ++ F0) ν (zS ν st ++ (zT τ ts ++ F0)) st := ⟨rfl, so.ln, so.nb, so.np, so.pr, fun q m => List.mem_append_right _ (so.cp q m)⟩
  refine hi soP esP (wp_mono w (fun r st wr ν1 F1 J p H1 so1 es1 wk Dd hD => ?_) fun x st z ν1 F1 c d H' so1 e1 e2 => ?_)
  · obtain ⟨ds, sl1⟩ := r
    simp only [dcK_ap, wp_bnd] at wr
    -- the list that grows
    have esA0 : ES κ ν1 η B ((some (.ref Dd), .ow (.dct 0 [] [])) :: F1) [] [] σ sl1 (upd H1 Dd (.dK [])) :=
      (es1.fresh (o := .dK []) (d := .dct 0 [] []) hD ⟨_, [], upd_same, ⟨[], rfl, rfl, rfl⟩, by simp [RDs]⟩).pin fun _ => nofun
    obtain ⟨soA, esA⟩ := so1.pin esA0
    have hB : B Dd = none := xt_none es1.bs hD
    have esW := esA.wipe' own ho
    have un0 : ∀ j, j ∈ own → j < (unkA own sl1).length → (unkA own sl1)[j]? = some .unk := fun j hj hl => by
      rw [unkA_get, if_pos ⟨hj, by rw [unkA_len] at hl; exact hl⟩]
    let KK : D × List Sl → Sto → Prop := fun z st => wp (dcZ ts z) st (fun e st => ∀ ν F v H', StOk η B F0 ν F st → ES κ ν η B F (v :: τ) e.ts σ e.sl H' → Q v H') (XP κ η W B F0 σ)
    let Inv : Nat → Hp → Prop := fun i H' => i ≤ ds.length ∧ ∃ ν F st acc sl', StOk η B ((some (.ref Dd), .ow acc) :: p :: (zT τ ts ++ F0)) ν F st ∧ ES κ ν η B F [] [] (wipe σ own) sl' H' ∧ (∀ j, j ∈ own → j < sl'.length → sl'[j]? = some .unk) ∧
      wp (dcL tg own mc mk mv (ds.drop i) acc sl') st KK (XP κ η W B F0 σ)
    refine ⟨fun i k H' => k = ds.length - i ∧ Inv i H', ⟨_, rfl, Nat.zero_le _, ν1, _, st, .dct 0 [] [], _, soA, esW, un0, by simpa using wr⟩, ?_⟩
    rintro i k H' ⟨rfl, hi', ν, F, st, acc, sl', so', es', un', w'⟩
    have hpF : p ∈ zA [] [] (wipe σ own) sl' F := by rw [so'.fe]; simp [zA]
    obtain ⟨go, stop⟩ := wk ν H' _ es'.er hpF
    rcases Nat.lt_or_ge i ds.length with hlt | hge
    · refine .inr ?_
      have e : ds[i]? = some ds[i] := List.getElem?_eq_getElem hlt
      obtain ⟨g1, yl⟩ := go i _ e
      refine ⟨g1, fun H2 => ∃ m', m' < ds.length - i ∧ (m' = ds.length - (i + 1) ∧ Inv (i + 1) H2), fun H2 n => n, fun x H2 y => ?_⟩
      rw [List.drop_eq_getElem_cons hlt, dcL_cons] at w'
      cases q : tg.set ds[i] sl' with
      | none => rw [q] at w'; exact w'.elim
      | some sl2 =>
        rw [q] at w'
        simp only [dcTu_some, wp_bnd, wp_noX] at w'
        have es2 : ES κ ν η B F [x] [.sh ds[i]] (wipe σ own) sl' H2 := es'.newV (yl x H2 y)
        refine hg es2 q fun σ2 o2 es3 => ?_
        have o3 : Off own (wipe σ own) σ2 := ⟨o2.1, fun j hj => o2.2 j fun z => hj (hn j z)⟩
        have w2 : wipe σ2 own = wipe σ own := by
          rw [wipe_off o3]
          apply List.ext_getElem?
          intro j
          by_cases hj : j ∈ own
          · by_cases hl : j < σ.length
            · rw [wipe_in hj hl, wipe_in hj (by rw [wipe_len]; exact hl)]
            · rw [List.getElem?_eq_none (by rw [wipe_len, wipe_len]; omega), List.getElem?_eq_none (by rw [wipe_len]; omega)]
          · rw [wipe_get hj]
        refine ⟨w2, ?_⟩
        -- behind a turn
        have again : ∀ ν F st acc3 sl3 H3, StOk η B ((some (.ref Dd), .ow acc3) :: p :: (zT τ ts ++ F0)) ν F st → ES κ ν η B F [] [] σ2 sl3 H3 → wp (dcL tg own mc mk mv (ds.drop (i + 1)) acc3 (unkA own sl3)) st KK (XP κ η W B F0 σ) →
            ∃ m', m' < ds.length - i ∧ (m' = ds.length - (i + 1) ∧ Inv (i + 1) H3) := fun ν F st acc3 sl3 H3 s3 e3 wz =>
          ⟨_, by omega, rfl, by omega, ν, F, st, acc3, unkA own sl3, s3, by rw [← w2]; exact e3.wipe' own ho, fun j hj hl => by rw [unkA_get, if_pos ⟨hj, by rw [unkA_len] at hl; exact hl⟩], wz⟩
        refine ht so' es3 (wp_mono w' (fun e st we => ?_) fun _ _ z => z.elim)
        obtain ⟨s, e1, we⟩ := wp_topK we
        obtain ⟨ets, esl⟩ := e
        replace e1 : ets = [s] := e1
        subst e1
        simp only [dcTs_ap] at we
        cases q2 : getV esl s with
        | none => rw [q2] at we; exact we.elim
        | some dd =>
          rw [q2] at we
          cases dd with
          | bl c =>
            refine ⟨s, [], c, rfl, q2, fun ν F H3 so4 es4 => ?_⟩
            simp only [dcTk_bl, wp_iteC] at we
            cases c with
            | false =>
              rw [if_neg (by decide)]
              simp only [Bool.false_eq_true, if_false] at we
              exact again ν F st acc esl H3 so4 es4 we
            | true =>
              rw [if_pos rfl]
              simp only [if_true, wp_bnd, wp_noX] at we
              refine hk so4 es4 (wp_mono we (fun e st we2 ν F y H4 so5 es5 => ?_) fun _ _ z => z.elim)
              obtain ⟨ets2, esl2⟩ := e
              simp only [dcV_ap, wp_bnd, wp_noX] at we2
              refine he so5 es5 (wp_mono we2 (fun e st we3 ν F z H5 so6 es6 => ?_) fun _ _ z => z.elim)
              obtain ⟨ets3, esl3⟩ := e
              have fin : ∀ dv dk sv, getV esl3 sv = some dv → (∀ i, sv ≠ .al i) → ets3 = [sv, .sh dk] → wp (dcPut own acc (dcL tg own mc mk mv (ds.drop (i + 1))) esl3 (gSet0 dk dv acc)) st KK (XP κ η W B F0 σ) →
                  ∃ kvs k, y = kV k ∧ H5 Dd = some (.dK kvs) ∧ kvs.length < sizeLine ∧ ∃ m', m' < ds.length - i ∧ (m' = ds.length - (i + 1) ∧ Inv (i + 1) (upd H5 Dd (.dK (putK kvs k z)))) := fun dv dk sv hv na hts wz => by
                subst hts
                cases hgs : gSet0 dk dv acc with
                | none => rw [hgs] at wz; exact wz.elim
                | some d' =>
                  rw [hgs] at wz
                  have rd := ES.pop1 es6 hv (fun i ei => absurd ei (na i))
                  have rk := ES.pop1 es6.pop (d := dk) (by simp) (fun i ei => nomatch ei)
                  have rd' := rd.mono fun a _ _ z => os_pop a z
                  have es7 := es6.pop.pop.unp so6
                  have cel := (es7.er.perm perm_fr).ok (some (.ref Dd), .ow acc) List.mem_cons_self
                  obtain ⟨aa, ea, cel⟩ := cel
                  cases ea
                  have up : ∀ {d : D} {w : V}, RD κ ν (OS F [] [] σ2 esl3) H5 d w → RD κ ν (OA ((some (.ref Dd), .ow acc) :: zA [] [] σ2 esl3 (zS ν st ++ p :: (zT τ ts ++ F0)))) H5 d w := fun r => r.mono fun a _ _ ⟨f, mm⟩ => ⟨f, by
                    rw [so6.fe]
                    have := perm_fr.mem_iff.mpr mm
                    simp only [zA] at this ⊢
                    simp only [List.mem_append, List.mem_cons] at this ⊢
                    rcases this with h | h | h | h | h
                    · exact .inl h
                    · exact .inr (.inl h)
                    · exact .inr (.inr (.inr (.inl h)))
                    · exact .inr (.inr (.inl h))
                    · exact .inr (.inr (.inr (.inr h)))⟩
                  obtain ⟨kvs, k, e1, e2, e3, c⟩ := dc_cell cel ⟨_, List.mem_cons_self⟩ (up rd') (up rk) hgs
                  refine ⟨kvs, k, e1, e2, e3, ?_⟩
                  have es8 := es7.frameWrite (d' := d') hB c
                  obtain ⟨so8, es9⟩ := (so6.unpin (fun q m => List.mem_cons_of_mem _ (List.mem_append_right _ (so.cp q m)))).pin es8
                  exact again ν _ st d' esl3 _ so8 es9 wz
              match ets3, we3, es6, fin with
              | [.sh dv, .sh dk], we3, es6, fin => exact fin dv dk (.sh dv) (by simp) (fun _ => nofun) rfl we3
              | [.ow dv, .sh dk], we3, es6, fin => exact fin dv dk (.ow dv) (by simp) (fun _ => nofun) rfl we3
          | _ => exact we.elim
    · refine .inl ?_
      have : i = ds.length := Nat.le_antisymm hi' hge
      subst this
      rw [List.drop_length, dcL_nil] at w'
      refine ⟨stop, ?_⟩
      have w3 : ∀ ν F v H', StOk η B F0 ν F st → ES κ ν η B F (v :: τ) (.ow acc :: ts) σ sl' H' → Q v H' := w'
      -- the slots as they were
      have e4 : ES κ ν η B F [] [] σ sl' H' := es'.off ⟨(wipe_len σ own).symm, fun j hj => (wipe_get hj).symm⟩ ho un'
      -- the pin goes
      have e5 : ES κ ν η B ((some (.ref Dd), .ow acc) :: (zT τ ts ++ (zS ν st ++ F0))) [] [] σ sl' H' := by
        have pm : F.Perm (p :: (some (V.ref Dd), Sl.ow acc) :: (zT τ ts ++ (zS ν st ++ F0))) := by
          rw [so'.fe]
          have h1 : (zS ν st ++ (some (V.ref Dd), Sl.ow acc) :: p :: (zT τ ts ++ F0)).Perm ((some (V.ref Dd), Sl.ow acc) :: p :: (zS ν st ++ (zT τ ts ++ F0))) := List.perm_middle.trans (List.Perm.cons _ List.perm_middle)
          refine h1.trans ((List.Perm.swap _ _ _).trans (List.Perm.cons _ (List.Perm.cons _ ?_)))
          rw [← List.append_assoc, ← List.append_assoc]
          exact List.perm_append_comm.append_right _
        exact (e4.permF pm).framed
      have e6 := ES.unpinAll es e5.framed
      refine w3 ν (zS ν st ++ F0) _ _ ⟨rfl, so'.ln, so'.nb, so'.np, so'.pr, so.cp⟩ ⟨by simp [e6.lt], e6.ls, fun w i m => ?_, ?_, e6.bs, fun a d m => ?_, e6.sf, fun y q => ⟨(e6.ex y q).1, exr_sub (e5.ex y q).2 fun a ⟨d, m⟩ => ⟨d, ?_⟩⟩⟩
      · simp only [List.zip_cons_cons, List.mem_cons, Prod.mk.injEq, reduceCtorEq, and_false, false_or] at m
        exact e6.al w i m
      · have z := e5.er.perm perm_fr
        have z2 := z.perm (List.Perm.cons _ (perm_pin (p := (none, .unk))))
        simpa [zA, zT] using z2
      · simp only [zT, List.map_cons, List.zip_cons_cons, List.cons_append, List.mem_cons, Prod.mk.injEq, Option.some.injEq, V.ref.injEq, Sl.ow.injEq] at m
        rcases m with ⟨y1, _⟩ | m
        · rw [y1]; exact hB
        · exact e6.fr a d m
      · refine perm_fr.mem_iff.mpr ?_
        simp only [zA, zT, List.map_cons, List.zip_cons_cons, List.cons_append, List.mem_cons] at m
        rcases m with m | m
        · rw [m]; exact List.mem_cons_self
        · exact List.mem_cons_of_mem _ ((perm_pin (p := (none, .unk))).mem_iff.mpr m)
  · -- an error while the walked thing is made
    have pm : F1.Perm (zT τ ts ++ (zS ν1 st ++ F0)) := by
      rw [so1.fe, ← List.append_assoc, ← List.append_assoc]
      exact List.perm_append_comm.append_right _
    have e3 : ES κ ν1 η B (zS ν1 st ++ F0) [] [] σ x.2 H' := (ES.unpinAll es (e1.permF pm)).drop
    exact z ν1 _ c d H' ⟨rfl, so1.ln, so1.nb, so1.np, so1.pr, so.cp⟩ e3 (e2.mono fun a _ _ ⟨f, mm⟩ => ⟨f, by
      rcases List.mem_append.mp mm with mm | mm
      · exact List.mem_append_left _ mm
      · exact List.mem_append_right _ (pm.mem_iff.mpr (List.mem_append_right _ mm))⟩)
end
/-! ### dicts that are alike -/
def sameF : D → D → Bool
  | .non, .non => true
  | .bl a, .bl b => decide (a = b)
  | .int a, .int b => decide (a = b)
  | .str a, .str b => decide (a = b)
  | _, _ => false
def sameFs : List D → List D → Bool
  | [], [] => true
  | x :: xs, y :: ys => sameF x y && sameFs xs ys
  | _, _ => false
def flatD : D → Bool
  | .non => true
  | .bl _ => true
  | .int _ => true
  | .str _ => true
  | _ => false
theorem sameF_eq {x y : D} (h : sameF x y = true) : x = y ∧ flatD x = true := by
  cases x <;> cases y <;> simp_all [sameF, flatD]
theorem sameF_rfl {x : D} (h : flatD x = true) : sameF x x = true := by cases x <;> simp_all [sameF, flatD]
theorem sameFs_eq : ∀ {xs ys : List D}, sameFs xs ys = true → xs = ys ∧ ∀ x ∈ xs, flatD x = true
  | [], [], _ => ⟨rfl, by simp⟩
  | x :: xs, y :: ys, h => by
    simp only [sameFs, Bool.and_eq_true] at h
    obtain ⟨rfl, f⟩ := sameF_eq h.1
    obtain ⟨rfl, g⟩ := sameFs_eq h.2
    exact ⟨rfl, by simpa [f] using g⟩
theorem sameFs_rfl : ∀ {xs : List D}, (∀ x ∈ xs, flatD x = true) → sameFs xs xs = true
  | [], _ => rfl
  | x :: xs, h => by simp only [sameFs, Bool.and_eq_true]; exact ⟨sameF_rfl (h x (by simp)), sameFs_rfl fun y hy => h y (by simp [hy])⟩
def alikeD (ks vs ks' vs' : List D) : Bool := sameFs ks ks' && (sameFs vs vs' && decide ((ks.map kOf).Nodup))
def fEqX (x y : D) : Option Sl := match x, y with
  | .dct 0 ks vs, .dct 0 ks' vs' => if alikeD ks vs ks' vs' then shB true else none
  | x, y => fEq x y
def fNeX (x y : D) : Option Sl := match x, y with
  | .dct 0 ks vs, .dct 0 ks' vs' => if alikeD ks vs ks' vs' then shB false else none
  | x, y => fNe x y
@[simp] theorem fEqX_dct (ks vs ks' vs' : List D) : fEqX (.dct 0 ks vs) (.dct 0 ks' vs') = if alikeD ks vs ks' vs' then shB true else none := (rfl)
@[simp] theorem fNeX_dct (ks vs ks' vs' : List D) : fNeX (.dct 0 ks vs) (.dct 0 ks' vs') = if alikeD ks vs ks' vs' then shB false else none := (rfl)
theorem rd_flat {κ : Ctx} {ν : List Addr} {Y Y' : Addr → Prop} {H : Hp} {d : D} {v v' : V} (f : flatD d = true) (r : RD κ ν Y H d v) (r' : RD κ ν Y' H d v') : v = v' ∧ flatB v = true := by
  cases d <;> first | (cases f; done) | (simp only [RD] at r r'; subst r; subst r'; exact ⟨rfl, rfl⟩)
theorem rds_flat {κ : Ctx} {ν : List Addr} {Y Y' : Addr → Prop} {H : Hp} : ∀ {ds : List D} {vs vs' : List V}, (∀ d ∈ ds, flatD d = true) → RDs κ ν Y H ds vs → RDs κ ν Y' H ds vs' → vs = vs' ∧ ∀ v ∈ vs, flatB v = true
  | [], vs, vs', _, r, r' => by simp only [RDs] at r r'; subst r r'; exact ⟨rfl, by simp⟩
  | d :: ds, vs, vs', f, r, r' => by
    simp only [RDs] at r r'
    obtain ⟨v, us, rfl, r1, r2⟩ := r
    obtain ⟨v', us', rfl, r1', r2'⟩ := r'
    obtain ⟨rfl, g⟩ := rd_flat (f d (by simp)) r1 r1'
    obtain ⟨rfl, g2⟩ := rds_flat (fun e he => f e (by simp [he])) r2 r2'
    exact ⟨rfl, by simpa [g] using g2⟩
theorem valV_nodup {α : Type} [DecidableEq α] : ∀ {qs : List α} {vs : List V}, qs.Nodup → ∀ p ∈ qs.zip vs, valV (qs.zip vs) p.1 = some p.2
  | [], vs, _, p, h => by simp at h
  | q :: qs, [], _, p, h => by simp at h
  | q :: qs, v :: vs, nd, p, h => by
    simp only [List.zip_cons_cons, List.mem_cons] at h
    rcases h with rfl | h
    · exact valV_pos rfl
    · have hne : ¬ q = p.1 := fun e => (List.nodup_cons.mp nd).1 (e ▸ (List.of_mem_zip h).1)
      rw [List.zip_cons_cons, valV_neg hne]
      exact valV_nodup (List.nodup_cons.mp nd).2 p h
theorem map_some_inj {α : Type} : ∀ {xs ys : List α}, xs.map some = ys.map some → xs = ys
  | [], [], _ => rfl
  | [], _ :: _, h => by simp at h
  | _ :: _, [], h => by simp at h
  | x :: xs, y :: ys, h => by
    simp only [List.map_cons, List.cons.injEq, Option.some.injEq] at h
    rw [h.1, map_some_inj h.2]
theorem alike_at {κ : Ctx} {ν : List Addr} {Y : Addr → Prop} {H : Hp} {ks vs ks' vs' : List D} {x y : V} (hc : LD κ ν Y H (.dct 0 ks vs) x) (hd : LD κ ν Y H (.dct 0 ks' vs') y) (h : alikeD ks vs ks' vs' = true) :
    ∃ a b kl ll, x = .ref a ∧ y = .ref b ∧ Rd H a (.dK kl) ∧ Rd H b (.dK ll) ∧ kl.length = ll.length ∧ (∀ p ∈ kl, valV ll p.1 = some p.2 ∧ flatB p.2 = true) := by
  simp only [alikeD, Bool.and_eq_true, decide_eq_true_eq] at h
  obtain ⟨h1, h2, h3⟩ := h
  obtain ⟨rfl, f1⟩ := sameFs_eq h1
  obtain ⟨rfl, f2⟩ := sameFs_eq h2
  obtain ⟨a, o, us, rfl, g, ⟨qs, e1, e2, rfl⟩, r⟩ := hc.dct
  obtain ⟨b, o', us', rfl, g', ⟨qs', e1', e2', rfl⟩, r'⟩ := hd.dct
  rw [e1] at e1'
  have eq := map_some_inj e1'
  subst eq
  obtain ⟨rfl, fl⟩ := rds_flat f2 r r'
  rw [e1] at h3
  have nd : qs.Nodup := List.Pairwise.of_map some (fun a b h e => h (congrArg some e)) h3
  exact ⟨a, b, _, _, rfl, rfl, g, g', rfl, fun p hp => ⟨valV_nodup nd p hp, fl p.2 (List.of_mem_zip hp).2⟩⟩
/-- dicts alike, locked or not -/
def rAlk (c : Bool) : R2 := fun x y H Q => ∃ a b k l, x = .ref a ∧ y = .ref b ∧ Rd H a (.dK k) ∧ Rd H b (.dK l) ∧ k.length = l.length ∧ (∀ p ∈ k, valV l p.1 = some p.2 ∧ flatB p.2 = true) ∧ Q (.bl c) H
theorem op_eqAlk {X : Cx} (hu : X.A.units < cLine) : OpR X (compareOp .Eq) (rAlk true) := fun pins s σ H x y v u Q I rx ry h => by
  obtain ⟨a, b, k, l, rfl, rfl, ea, eb, hl, hp, q⟩ := h
  cases rx; cases ry
  obtain ⟨_, na, va, ra, da⟩ := dk_rd I.hok ea
  obtain ⟨_, nb, vb, rb, db⟩ := dk_rd I.hok eb
  have e : va.length = vb.length := by rw [← ra.length, ← rb.length, hl]
  refine PySem.W.keq_eq (knd := mixKind X.prog X.w) (r := true) na nb da db hu (fun _ => hits_all rb ra hp) (fin_bl I q ?_)
  simp [e]
theorem op_neAlk {X : Cx} (hu : X.A.units < cLine) : OpR X (compareOp .NotEq) (rAlk false) := fun pins s σ H x y v u Q I rx ry h => by
  obtain ⟨a, b, k, l, rfl, rfl, ea, eb, hl, hp, q⟩ := h
  cases rx; cases ry
  obtain ⟨_, na, va, ra, da⟩ := dk_rd I.hok ea
  obtain ⟨_, nb, vb, rb, db⟩ := dk_rd I.hok eb
  have e : va.length = vb.length := by rw [← ra.length, ← rb.length, hl]
  refine PySem.W.keq_ne (knd := mixKind X.prog X.w) (r := true) na nb da db hu (fun _ => hits_all rb ra hp) (fin_bl I q ?_)
  simp [e]
def rEqX (K : PySem.W.Frag) : R2 := fun x y H Q => rEqD K x y H Q ∨ rAlk true x y H Q
def rNeX (K : PySem.W.Frag) : R2 := fun x y H Q => rNeD K x y H Q ∨ rAlk false x y H Q
theorem o_eqX {κ : Ctx} : Op2 κ (rEqX κ.K) fEqX := by
  intro ν Y H x y c d s Q hc hd hf hq
  unfold fEqX at hf
  split at hf
  · split at hf
    · rename_i z
      cases hf
      obtain ⟨a, b, kl, ll, h1, h2, h3, h4, h5, h6⟩ := alike_at hc hd z
      exact .inr ⟨a, b, kl, ll, h1, h2, h3, h4, h5, h6, hq.bl⟩
    · cases hf
  · exact .inl (o_eq hc hd hf hq)
theorem o_neX {κ : Ctx} : Op2 κ (rNeX κ.K) fNeX := by
  intro ν Y H x y c d s Q hc hd hf hq
  unfold fNeX at hf
  split at hf
  · split at hf
    · rename_i z
      cases hf
      obtain ⟨a, b, kl, ll, h1, h2, h3, h4, h5, h6⟩ := alike_at hc hd z
      exact .inr ⟨a, b, kl, ll, h1, h2, h3, h4, h5, h6, hq.bl⟩
    · cases hf
  · exact .inl (o_ne hc hd hf hq)
theorem kop_eqX {X : Cx} {K : PySem.W.Frag} (e : X.K = K) (hu : X.A.units + 64 < cLine) : OpR X (compareOp .Eq) (rEqX K) := (kop_eqD e hu).or (op_eqAlk (by omega))
theorem kop_neX {X : Cx} {K : PySem.W.Frag} (e : X.K = K) (hu : X.A.units + 64 < cLine) : OpR X (compareOp .NotEq) (rNeX K) := (kop_neD e hu).or (op_neAlk (by omega))
end Dl

namespace Dl
open PySem PySem.Spec PyProof.Rows L2 Wp
/-! ### len(o) by an own __len__ -/
def inR63 (n : Int) : Bool := decide (0 ≤ n) && decide (n < 2 ^ 63)
@[simp] theorem inR63_nat (n : Nat) (h : n ≤ sizeD) : inR63 (n : Int) = true := by simp [inR63]; simp [sizeD] at h; omega
def lenT (r sl : List Sl) : Sl → C XS Env
  | .sh (.int n) => iteC (inR63 n) (.ret ⟨.sh (.int n) :: r, sl⟩) .bad
  | _ => .bad
@[simp] theorem lenT_int (r sl : List Sl) (n : Int) : lenT r sl (.sh (.int n)) = iteC (inR63 n) (.ret ⟨.sh (.int n) :: r, sl⟩) .bad := (rfl)
def lenR (chk : Bool) (c : Nat) (f : Fn) (ds : List D) (r _slf sl : List Sl) : C XS Env := match ds with
  | [o] => iteC (isIns c [o] && (!chk || noLocs [o])) (bnd (noX (shut (f [o]))) (lenT r sl)) .bad
  | _ => .bad
@[simp] theorem lenR_ap (chk : Bool) (c : Nat) (f : Fn) (o : D) (r slf sl : List Sl) : lenR chk c f [o] r slf sl = iteC (isIns c [o] && (!chk || noLocs [o])) (bnd (noX (shut (f [o]))) (lenT r sl)) .bad := (rfl)
def lenX (chk : Bool) (c : Nat) (f : Fn) (a : EM) : EM := withA [a] (lenR chk c f)
@[simp] theorem lenX_ap (chk : Bool) (c : Nat) (f : Fn) (a : EM) (e : Env) : lenX chk c f a e = bnd (argE [a] e) (argM 1 (lenR chk c f)) := (rfl)
abbrev lenO := lenX false
abbrev lenP := lenX true
def rLenO (C : Addr) (sp : Sp) : List V → Hp → VK → Prop := fun xs H Q => ∃ p dx fs, xs = [.ref p] ∧ H p = some (.ins C dx fs) ∧ sp [.ref p] H (fun v H' => ∃ n, v = .int n ∧ inR63 n = true ∧ Q (.int n) H') (fun _ _ _ => False)
theorem call_lenO {X : Cx} {k : Nat} {C f : Addr} {sp : Sp} (c : Met X.prog X.w X.K X.mg X.base k C "__len__" f sp) (hr : Room (k + 1) X.A) : CallR X (.builtin "len") (rLenO C sp) := by
  intro pins s σ H xs us Q I rxs h
  obtain ⟨p, dx, fs, rfl, ep, hs⟩ := h
  cases rxs with
  | cons rx rt =>
    cases rt
    rename_i v
    obtain rfl : v = Value.ref p := rx
    obtain ⟨ox, od, J, _⟩ := inst_at I ep
    obtain ⟨m', hF⟩ := I.fr
    refine PySem.W.len_K hF I.ok.mod.kin J c.mt.at_ c.mt.fn ?_
    have hr1 : Room k X.A.in1 := Room.in1 hr
    refine wpAny_call (codeAny_mono (c.fn X.A.in1 X.stack s H [.ref p] [.ref p] (fun v H' => ∃ n, v = .int n ∧ inR63 n = true ∧ Q (.int n) H') (fun _ _ _ => False) hr1 I.env0.in1 (.cons rfl .nil) hs) fun r s' z => ?_)
    cases r with
    | error e => exact (cx_false z).elim
    | ok fl =>
      cases fl with
      | ret u =>
        obtain ⟨v', H', I', rv, n, rfl, hn, q'⟩ := I.after z
        obtain ⟨t, rfl⟩ := rv
        simp only [inR63, Bool.and_eq_true, decide_eq_true_eq] at hn
        exact ⟨hn, .int n, H', I'.tok _, ⟨_, rfl⟩, q'⟩
      | next => exact False.elim z
      | brk => exact False.elim z
      | cont => exact False.elim z
section
variable {κ : Ctx} {ν ν' : List Addr} {η : Hn} {W : WX} {B : Hp} {F Z : List VS} {τ : List V} {ts : List Sl} {σ : L2.St} {sl : List Sl} {H H' : Hp} {v x : V} {s : Sl} {d : D} {ta tb tc te tf : TE} {ma mb mc m : EM} {tr : TA} {as : List EM} {t u : TS} {a b : SM}
theorem lenT_ok {f : Fn} {vs : List V} {ets esl r : List Sl} {ds : List D} {Q : VK} {st : Sto} {F0 : List VS} (so : StOk η B F0 ν F st) (es1 : ES κ ν η B F (vs.reverse ++ τ) ets σ esl H) (ds2 : List D) (vs2 : List V) (q : takeV esl vs.length ets [] = some (ds, r))
    (hp : RDs κ ν (OS F τ r σ (frzA (ets.take vs.length) esl)) H ds2 vs2) (hn : η.pr = true ∨ noLocs ds2 = true)
    (we : wp (bnd (noX (shut (f ds2))) (lenT r esl)) st (fun e st => ∀ ν F v H', StOk η B F0 ν F st → ES κ ν η B F (v :: τ) e.ts σ e.sl H' → Q v H') (XP κ η W B F0 σ)) : spF κ f vs2 H (fun v H' => ∃ n, v = .int n ∧ inR63 n = true ∧ Q (.int n) H') (fun _ _ _ => False) := by
  obtain ⟨es2, r2⟩ := es1.args q
  have es3 : ES κ ν η B F τ r σ esl H := ES.popAll (ws := vs.reverse) es1 (by simpa using q)
  simp only [wp_bnd, wp_noX, wp_shut] at we
  obtain ⟨F', er0⟩ := er_args so es2 hp hn
  refine ⟨F', ds2, hp.len.symm, er0, wp_mono we (fun s _ ws v H' e fr na er => ?_) (fun z _ wz => wz.elim)⟩
  match s, ws, er with
  | .sh (.int t), ws, er =>
    obtain ⟨w, e1, r3⟩ := er.ok (some v, .sh (.int t)) List.mem_cons_self
    simp only [Option.some.injEq] at e1
    subst e1
    simp only [RD] at r3
    subst r3
    simp only [lenT_int, wp_iteC] at ws
    split at ws
    · rename_i z
      exact ⟨t, rfl, z, ws _ _ _ _ so ((es3.ext e).pushR (by simp only [RD]))⟩
    · exact ws.elim
theorem sim_lenX {chk : Bool} {c : Nat} {C : Addr} {f : Fn} (hp : η.pr = true ∨ chk = true) (hC : κ.cls c = C) (ha : SimE κ η W ta ma) : SimE κ η W (tCB (rLenO C (spF κ f)) (tCons ta tNil)) (lenX chk c f ma) := by
  subst hC
  intro F0 st ν B F τ ts σ sl H Q so es w
  simp only [lenX_ap, argE_cons, argE_nil, wp_bnd] at w
  refine ha so es (wp_mono w (fun e st we ν F x H1 so es1 => ?_) fun _ _ z => z)
  obtain ⟨ets, esl⟩ := e
  have es3 : ES κ ν η B F ([x].reverse ++ τ) ets σ esl H1 := by simpa using es1
  obtain ⟨ds, r, q, w3⟩ := wp_args we
  obtain ⟨_, rds⟩ := es3.args (vs := [x]) q
  match ds, rds, w3 with
  | [o], rds, w3 =>
    simp only [lenR_ap, wp_iteC] at w3
    split at w3
    · rename_i z
      simp only [Bool.and_eq_true, Bool.or_eq_true, Bool.not_eq_true'] at z
      have r1 := rds
      simp only [RDs] at r1
      obtain ⟨v0, r0, e0, h0, e1⟩ := r1
      subst e1
      simp only [List.cons.injEq, and_true] at e0
      subst e0
      obtain ⟨p, dx, fs, rfl, g1⟩ := ins_of z.1 h0
      refine ⟨p, dx, fs, rfl, g1, lenT_ok (vs := [.ref p]) so es3 [o] [.ref p] q rds ?_ w3⟩
      rcases hp with hp | hp
      · exact .inl hp
      · rcases z.2 with z2 | z2
        · rw [hp] at z2; cases z2
        · exact .inr z2
    · exact w3.elim
  | [], rds, w3 => exact w3.elim
  | _ :: _ :: _, rds, w3 => exact w3.elim
theorem sim_lenO {c : Nat} {C : Addr} {f : Fn} (hp : η.pr = true) (hC : κ.cls c = C) (ha : SimE κ η W ta ma) : SimE κ η W (tCB (rLenO C (spF κ f)) (tCons ta tNil)) (lenO c f ma) := sim_lenX (.inl hp) hC ha
theorem sim_lenP {c : Nat} {C : Addr} {f : Fn} (hC : κ.cls c = C) (ha : SimE κ η W ta ma) : SimE κ η W (tCB (rLenO C (spF κ f)) (tCons ta tNil)) (lenP c f ma) := sim_lenX (.inr rfl) hC ha
end
end Dl

namespace Dl
open PySem L2 Wp
/-! ### the store: a held thing is laid there; things of it read and changed -/
def toLK (e : Env) : C XS Env := match e.ts with
  | .ow d :: r => .nw d fun n => .ret ⟨.sh (.loc n) :: r, e.sl⟩
  | _ => .bad
@[simp] theorem toLK_ap (d : D) (r sl : List Sl) : toLK ⟨.ow d :: r, sl⟩ = .nw d fun n => .ret ⟨.sh (.loc n) :: r, sl⟩ := (rfl)
/-- the new thing goes into the store -/
def toL (a : EM) : EM := fun e => bnd (a e) toLK
@[simp] theorem toL_ap (a : EM) (e : Env) : toL a e = bnd (a e) toLK := (rfl)
/-- data, or what stands at its place in the store -/
def rsv {α : Type} (o : Option D) (k : D → C XS α) : C XS α := match o with
  | some (.loc n) => .ld n k
  | some d => k d
  | none => .bad
@[simp] theorem rsv_loc {α : Type} (n : Nat) (k : D → C XS α) : rsv (some (.loc n)) k = .ld n k := (rfl)
@[simp] theorem rsv_dct {α : Type} (q : Nat) (ks vs : List D) (k : D → C XS α) : rsv (some (.dct q ks vs)) k = k (.dct q ks vs) := (rfl)
@[simp] theorem rsv_lst {α : Type} (ds : List D) (k : D → C XS α) : rsv (some (.lst ds)) k = k (.lst ds) := (rfl)
@[simp] theorem rsv_tup {α : Type} (ds : List D) (k : D → C XS α) : rsv (some (.tup ds)) k = k (.tup ds) := (rfl)
@[simp] theorem rsv_int {α : Type} (i : Int) (k : D → C XS α) : rsv (some (.int i)) k = k (.int i) := (rfl)
@[simp] theorem rsv_bl {α : Type} (i : Bool) (k : D → C XS α) : rsv (some (.bl i)) k = k (.bl i) := (rfl)
@[simp] theorem rsv_str {α : Type} (i : Str) (k : D → C XS α) : rsv (some (.str i)) k = k (.str i) := (rfl)
@[simp] theorem rsv_non {α : Type} (k : D → C XS α) : rsv (some .non) k = k .non := (rfl)
@[simp] theorem rsv_ins {α : Type} (c : Nat) (ns : List Nat) (vs : List D) (k : D → C XS α) : rsv (some (.ins c ns vs)) k = k (.ins c ns vs) := (rfl)
theorem rsv_no {α : Type} {d : D} (h : ∀ n, d ≠ .loc n) (k : D → C XS α) : rsv (some d) k = k d := by
  cases d <;> first | rfl | exact absurd rfl (h _)
def op1L (f : D → Option Sl) : EM := fun e => match e.ts with
  | x :: r => rsv (getV e.sl x) fun c => pushO r e.sl (f c)
  | _ => .bad
@[simp] theorem op1L_ap (f : D → Option Sl) (x : Sl) (r sl : List Sl) : op1L f ⟨x :: r, sl⟩ = rsv (getV sl x) fun c => pushO r sl (f c) := (rfl)
def un1L (f : D → Option Sl) (a : EM) : EM := seqE a (op1L f)
@[simp] theorem un1L_ap (f : D → Option Sl) (a : EM) (e : Env) : un1L f a e = bnd (a e) (op1L f) := (rfl)
def op2L (f : D → D → Option Sl) : EM := fun e => match e.ts with
  | y :: x :: r => rsv (getV e.sl x) fun c => rsv (getV e.sl y) fun d => pushO r e.sl (f c d)
  | _ => .bad
@[simp] theorem op2L_ap (f : D → D → Option Sl) (x y : Sl) (r sl : List Sl) : op2L f ⟨y :: x :: r, sl⟩ = rsv (getV sl x) fun c => rsv (getV sl y) fun d => pushO r sl (f c d) := (rfl)
def binL (f : D → D → Option Sl) (a b : EM) : EM := seqE a (seqE b (op2L f))
@[simp] theorem binL_ap (f : D → D → Option Sl) (a b : EM) (e : Env) : binL f a b e = bnd (a e) (seqE b (op2L f)) := (rfl)
def chgO (n : Nat) (sl : List Sl) : Option D → C XS Flow
  | some d' => .st n d' (.ret (.nx sl))
  | none => .bad
@[simp] theorem chgO_some (n : Nat) (sl : List Sl) (d : D) : chgO n sl (some d) = .st n d (.ret (.nx sl)) := (rfl)
@[simp] theorem chgO_none (n : Nat) (sl : List Sl) : chgO n sl none = .bad := (rfl)
/-- a thing of the store is changed -/
def chgL (f : D → Option D) (sl : List Sl) : D → C XS Flow
  | .loc n => .ld n fun d => chgO n sl (f d)
  | _ => .bad
@[simp] theorem chgL_loc (f : D → Option D) (sl : List Sl) (n : Nat) : chgL f sl (.loc n) = .ld n fun d => chgO n sl (f d) := (rfl)
def stoLK (e : Env) : C XS Flow := match e.ts with
  | [.sh k, .sh o, .sh x] => chgL (gSet k x) e.sl o
  | [.sh k, .sh o, .ow x] => chgL (gSet k x) e.sl o
  | _ => .bad
@[simp] theorem stoLK_sh (k o x : D) (sl : List Sl) : stoLK ⟨[.sh k, .sh o, .sh x], sl⟩ = chgL (gSet k x) sl o := (rfl)
@[simp] theorem stoLK_ow (k o x : D) (sl : List Sl) : stoLK ⟨[.sh k, .sh o, .ow x], sl⟩ = chgL (gSet k x) sl o := (rfl)
/-- o[k] = a, o in the store -/
def stoL (o k a : EM) : SM := fun sl => bnd (seqE a (seqE o k) ⟨[], sl⟩) stoLK
@[simp] theorem stoL_ap (o k a : EM) (sl : List Sl) : stoL o k a sl = bnd (seqE a (seqE o k) ⟨[], sl⟩) stoLK := (rfl)
def fldLK (c f : Nat) (e : Env) : C XS Flow := match e.ts with
  | [.sh o, .sh x] => chgL (gFldC c f x) e.sl o
  | [.sh o, .ow x] => chgL (gFldC c f x) e.sl o
  | _ => .bad
@[simp] theorem fldLK_sh (c f : Nat) (o x : D) (sl : List Sl) : fldLK c f ⟨[.sh o, .sh x], sl⟩ = chgL (gFldC c f x) sl o := (rfl)
@[simp] theorem fldLK_ow (c f : Nat) (o x : D) (sl : List Sl) : fldLK c f ⟨[.sh o, .ow x], sl⟩ = chgL (gFldC c f x) sl o := (rfl)
/-- o.f = a, o an object of the store -/
def fldL (c f : Nat) (o a : EM) : SM := fun sl => bnd (seqE a o ⟨[], sl⟩) (fldLK c f)
@[simp] theorem fldL_ap (c f : Nat) (o a : EM) (sl : List Sl) : fldL c f o a sl = bnd (seqE a o ⟨[], sl⟩) (fldLK c f) := (rfl)
section
variable {κ : Ctx} {ν ν' : List Addr} {η : Hn} {W : WX} {B : Hp} {F Z : List VS} {τ : List V} {ts : List Sl} {σ : L2.St} {sl : List Sl} {H H' : Hp} {v x : V} {s : Sl} {d : D} {ta tb tc te tf : TE} {ma mb mc m : EM} {tr : TA} {as : List EM} {t u : TS} {a b : SM}
theorem zS_snoc {st : Sto} {p : Addr} (l : ν.length = st.length) : zS (ν ++ [p]) (st ++ [d]) = zS ν st ++ [(some (.ref p), .ow d)] := by
  simp only [zS, List.map_append, List.map_cons, List.map_nil]
  rw [List.zip_append (by simp [l])]
  rfl
theorem wp_toLK {e : Env} {st : Sto} {k : Env → Sto → Prop} {xx : XS → Sto → Prop} (h : wp (toLK e) st k xx) : ∃ d r, e.ts = .ow d :: r ∧ k ⟨.sh (.loc st.length) :: r, e.sl⟩ (st ++ [d]) := by
  unfold toLK at h
  split at h
  · rename_i d r q
    exact ⟨d, r, q, by simpa [wp] using h⟩
  · exact h.elim
theorem sim_toL (hp : η.pr = false) (ha : SimE κ η W te m) : SimE κ η W te (toL m) := by
  intro F0 st ν B F τ ts σ sl H Q so es w
  simp only [toL_ap, wp_bnd] at w
  refine ha so es (wp_mono w (fun e st we ν F v H1 so es1 => ?_) fun _ _ z => z)
  obtain ⟨d, r, q, we⟩ := wp_toLK we
  obtain ⟨ets, esl⟩ := e
  replace q : ets = .ow d :: r := q
  subst q
  obtain ⟨p, ev, cl⟩ := es1.er.ok (some v, .ow d) (by simp [zA, zT])
  cases ev
  have fe := so.fe
  subst fe
  have hB : B p = none := es1.fr p d (by simp [zT])
  have pm : (zA (V.ref p :: τ) (.ow d :: r) σ esl (zS ν st ++ F0)).Perm (zA τ r σ esl (zS (ν ++ [p]) (st ++ [d]) ++ F0)) := by
    rw [zS_snoc so.ln]
    simp only [zA, zT, List.map_cons, List.zip_cons_cons, List.cons_append, List.append_assoc, List.nil_append]
    have := List.perm_middle (a := (some (V.ref p), Sl.ow d)) (l₁ := (τ.map some).zip r ++ (σ.zip esl ++ zS ν st)) (l₂ := F0)
    simpa only [List.append_assoc] using this.symm
  have pre : ν <+: ν ++ [p] := List.prefix_append _ _
  refine we (ν ++ [p]) _ (.ref p) H1 ⟨rfl, by simp [so.ln], fun a m => ?_, so.np.trans pre, (fun z => by rw [hp] at z; cases z), so.cp⟩ ?_
  · rcases List.mem_append.mp m with m | m
    · exact so.nb a m
    · simp only [List.mem_singleton] at m; subst m; exact hB
  have es0 : ES κ (ν ++ [p]) η B (zS (ν ++ [p]) (st ++ [d]) ++ F0) τ r σ esl H1 := by
    refine ⟨by simpa using es1.lt, es1.ls, fun w i m => es1.al w i (by simp only [List.zip_cons_cons]; exact List.mem_cons_of_mem _ m), (es1.er.perm pm).nu (pre_nu pre), es1.bs, fun a e m => es1.fr a e (by simp only [zT, List.map_cons, List.zip_cons_cons, List.cons_append]; exact List.mem_cons_of_mem _ m), es1.sf, fun y q => ⟨(es1.ex y q).1, ?_⟩⟩
    exact ((es1.ex y q).2.mono fun a _ _ z => (OA.perm pm).mpr z).nu (pre_nu pre)
  refine es0.pushR ?_
  simp only [RD]
  exact ⟨p, rfl, by rw [← so.ln]; simp⟩
/-- a thing of the store, read -/
theorem zS_mem {st : Sto} {n : Nat} {p : Addr} (h1 : ν[n]? = some p) (h2 : st[n]? = some d) : (some (V.ref p), Sl.ow d) ∈ zS ν st := by
  unfold zS
  exact zip_get (i := n) (by simp [h1]) (by simp [h2])
theorem ES.cellL {st : Sto} {F0 : List VS} {n : Nat} {p : Addr} (so : StOk η B F0 ν F st) (es : ES κ ν η B F τ ts σ sl H) (h1 : ν[n]? = some p) (h2 : st[n]? = some d) : Cell κ ν (OS F τ ts σ sl) H p d := by
  have m : (some (V.ref p), Sl.ow d) ∈ zA τ ts σ sl F := by
    rw [so.fe]
    exact List.mem_append_right _ (List.mem_append_right _ (List.mem_append_left _ (zS_mem h1 h2)))
  obtain ⟨a, e, c⟩ := es.er.ok _ m
  cases e
  exact c
theorem os_st {st : Sto} {F0 : List VS} {n : Nat} {p : Addr} (so : StOk η B F0 ν F st) (h1 : ν[n]? = some p) (h2 : st[n]? = some d) : OS F τ ts σ sl p := ⟨d, by
  rw [so.fe]
  exact List.mem_append_right _ (List.mem_append_right _ (List.mem_append_left _ (zS_mem h1 h2)))⟩
theorem LD.locA {Y : Addr → Prop} {n : Nat} (h : LD κ ν Y H (.loc n) v) : ∃ p, v = .ref p ∧ ν[n]? = some p := by
  rcases h with h | ⟨a, _, h⟩
  · simpa only [RD] using h
  · exact h.elim
theorem wp_rsv {α : Type} {o : Option D} {k : D → C XS α} {st : Sto} {kk : α → Sto → Prop} {xx : XS → Sto → Prop} (h : wp (rsv o k) st kk xx) : ∃ d, wp (k d) st kk xx ∧ (o = some d ∨ ∃ n, o = some (.loc n) ∧ st[n]? = some d) := by
  cases o with
  | none => exact h.elim
  | some d =>
    cases d with
    | loc n =>
      simp only [rsv_loc, wp_ld] at h
      obtain ⟨d, e, h⟩ := h
      exact ⟨d, h, .inr ⟨n, rfl, e⟩⟩
    | _ => exact ⟨_, h, .inl rfl⟩
theorem ES.readL {st : Sto} {F0 : List VS} {o : Option D} (so : StOk η B F0 ν F st) (es : ES κ ν η B F τ ts σ sl H) (m : (x, s) ∈ τ.zip ts) (e : getV sl s = o) (hd : o = some d ∨ ∃ n, o = some (.loc n) ∧ st[n]? = some d) : LD κ ν (OS F τ ts σ sl) H d x := by
  subst e
  rcases hd with hd | ⟨n, hd, e⟩
  · exact es.read m hd
  · obtain ⟨p, rfl, h1⟩ := (es.read m hd).locA
    exact .inr ⟨p, rfl, es.cellL so h1 e⟩
theorem sim_op1L {r : V → Hp → VK → Prop} {f : D → Option Sl} (h : Op1 κ r f) (ha : SimE κ η W ta ma) : SimE κ η W (tUn r ta) (un1L f ma) := by
  intro F0 st ν B F τ ts σ sl H Q so es w
  simp only [un1L_ap, wp_bnd] at w
  refine ha so es (wp_mono w (fun e st we ν F v H1 so es1 => ?_) fun _ _ z => z)
  obtain ⟨ets, esl⟩ := e
  obtain ⟨s, r', rfl⟩ := ts_cons es1.lt
  simp only [op1L_ap] at we
  obtain ⟨c, we, hc⟩ := wp_rsv we
  cases q2 : f c with
  | none => rw [q2] at we; exact we.elim
  | some t =>
    rw [q2] at we
    have l := es1.readL so (x := v) (s := s) (by simp) rfl hc
    exact h (l.mono os_pop) q2 fun v' H' n => we _ _ _ _ so (es1.pop.newV n)
theorem sim_op2L {r : R2} {f : D → D → Option Sl} (h : Op2 κ r f) (ha : SimE κ η W ta ma) (hb : SimE κ η W tb mb) : SimE κ η W (tOp r ta tb) (binL f ma mb) := by
  intro F0 st ν B F τ ts σ sl H Q so es w
  simp only [binL_ap, wp_bnd] at w
  refine ha so es (wp_mono w (fun e st we ν F x H1 so es1 => ?_) fun _ _ z => z)
  simp only [seqE_ap, wp_bnd] at we
  obtain ⟨ets, esl⟩ := e
  refine hb so es1 (wp_mono we (fun e2 st we2 ν F y H2 so es2 => ?_) fun _ _ z => z)
  obtain ⟨ets2, esl2⟩ := e2
  obtain ⟨sy, r1, rfl⟩ := ts_cons es2.lt
  obtain ⟨sx, r2, rfl⟩ := ts_cons es2.pop.lt
  simp only [op2L_ap] at we2
  obtain ⟨c, we2, hc⟩ := wp_rsv we2
  obtain ⟨d, we2, hd⟩ := wp_rsv we2
  cases q3 : f c d with
  | none => rw [q3] at we2; exact we2.elim
  | some t =>
    rw [q3] at we2
    have l1 := es2.readL so (x := x) (s := sx) (by simp) rfl hc
    have l2 := es2.readL so (x := y) (s := sy) (by simp) rfl hd
    exact h (l1.mono fun a z => os_pop a (os_pop a z)) (l2.mono fun a z => os_pop a (os_pop a z)) q3 fun v' H' n => we2 _ _ _ _ so (es2.pop.pop.newV n)
theorem sim_fldL {c f : Nat} {K : PySem.W.Frag} {g : Str} (eK : κ.K = K) (eg : nm f = g) (hc : L2.Cls K (κ.cls c)) (hn : NoAttr K (κ.cls c) g) (ha : SimE κ η W ta ma) : SimE κ η W (tFld K ta g) (un1L (fFld c f) ma) := by
  subst eK eg
  exact sim_op1L (o_fld hc hn) ha
theorem sim_cb1L {r : List V → Hp → VK → Prop} {f : D → Option Sl} (h : OpC1 κ r f) (ha : SimE κ η W ta ma) : SimE κ η W (tCB r (tCons ta tNil)) (un1L f ma) := by
  exact (sim_op1L (r := fun x H Q => r [x] H Q) (f := f) (fun {ν Y H x c s Q} a b c => h a b c) ha : SimE κ η W (tUn (fun x H Q => r [x] H Q) ta) (un1L f ma))
/-! changing -/
theorem perm_zA_st {st : Sto} {F0 : List VS} {n : Nat} {p : Addr} (h1 : ν[n]? = some p) (h2 : st[n]? = some d) : ∃ R, (zA τ ts σ sl (zS ν st ++ F0)).Perm ((some (.ref p), .ow d) :: R) ∧ ∀ d', (zA τ ts σ sl (zS ν (st.set n d') ++ F0)).Perm ((some (.ref p), .ow d') :: R) := by
  refine ⟨(zS ν st).eraseIdx n ++ zA τ ts σ sl F0, ?_, fun d' => ?_⟩
  · have e : (zS ν st)[n]? = some (some (.ref p), .ow d) := by
      unfold zS; rw [List.getElem?_zip_eq_some]; exact ⟨by simp [h1], by simp [h2]⟩
    exact perm_zS.trans ((perm_at e).append_right _)
  · have e : (zS ν st)[n]? = some (some (.ref p), .ow d) := by
      unfold zS; rw [List.getElem?_zip_eq_some]; exact ⟨by simp [h1], by simp [h2]⟩
    have e2 : zS ν (st.set n d') = (zS ν st).set n (some (.ref p), .ow d') := by
      unfold zS
      rw [List.map_set]
      have z := set_self (xs := ν.map fun a => some (V.ref a)) (i := n) (x := some (V.ref p)) (by simp [h1])
      conv => lhs; rw [← z]
      exact zip_set _ _ _ _ _
    refine perm_zS.trans ?_
    rw [e2]
    exact (perm_set e).append_right _
theorem ES.stWrite {st : Sto} {F0 : List VS} {n : Nat} {p : Addr} {o : HO} {d' : D} (so : StOk η B F0 ν F st) (h : ES κ ν η B F τ ts σ sl H) (h1 : ν[n]? = some p) (h2 : st[n]? = some d) (c : Cell κ ν (OS F τ ts σ sl) (upd H p o) p d') :
    StOk η B F0 ν (zS ν (st.set n d') ++ F0) (st.set n d') ∧ ES κ ν η B (zS ν (st.set n d') ++ F0) τ ts σ sl (upd H p o) := by
  have hB : B p = none := so.nb p (List.mem_of_getElem? h1)
  have fe := so.fe
  subst fe
  obtain ⟨R, p1, p2⟩ := perm_zA_st (τ := τ) (ts := ts) (σ := σ) (sl := sl) (F0 := F0) h1 h2
  have oaE : ∀ b, OA (zA τ ts σ sl (zS ν (st.set n d') ++ F0)) b ↔ OA (zA τ ts σ sl (zS ν st ++ F0)) b := fun b => by
    rw [OA.perm (p2 d'), OA.perm p1]
    constructor
    · rintro ⟨e, m⟩
      rcases List.mem_cons.mp m with q | m
      · cases q; exact ⟨d, List.mem_cons_self⟩
      · exact ⟨e, List.mem_cons_of_mem _ m⟩
    · rintro ⟨e, m⟩
      rcases List.mem_cons.mp m with q | m
      · cases q; exact ⟨d', List.mem_cons_self⟩
      · exact ⟨e, List.mem_cons_of_mem _ m⟩
  obtain ⟨w0, hw0, cw0⟩ := OA.cl (h.er.perm p1) ⟨d, List.mem_cons_self⟩
  refine ⟨⟨rfl, by simp [so.ln], so.nb, so.np, so.pr, so.cp⟩, h.lt, h.ls, h.al, ?_, h.bs.mut hB hw0 cw0, h.fr, h.sf, fun y q => ⟨(h.ex y q).1, ?_⟩⟩
  · exact ((h.er.perm p1).write (c.mono fun b _ _ z => (OA.perm p1).mpr z)).perm (p2 d').symm
  · refine ((h.ex y q).2.mono fun b _ _ z => (oaE b).mp z).keep fun b u nb hb => ?_
    rw [upd_ne]
    · exact hb
    · rintro rfl
      exact nb ((oaE _).mpr (os_st so h1 h2))
theorem wp_chgL {f : D → Option D} {o : D} {st : Sto} {k : Flow → Sto → Prop} {xx : XS → Sto → Prop} (h : wp (chgL f sl o) st k xx) : ∃ n d d', o = .loc n ∧ st[n]? = some d ∧ f d = some d' ∧ k (.nx sl) (st.set n d') := by
  cases o with
  | loc n =>
    simp only [chgL_loc, wp_ld] at h
    obtain ⟨d, e, h⟩ := h
    cases q : f d with
    | none => rw [q] at h; exact h.elim
    | some d' => rw [q] at h; simp only [chgO_some, wp_st, wp_ret] at h; exact ⟨n, d, d', rfl, e, q, h.2⟩
  | _ => exact h.elim
theorem sim_stoL {to : TE} {mo : EM} (he : SimE κ η W te m) (ho : SimE κ η W to mo) (hk : SimE κ η W ta ma) : SimS κ η W (tAsg te (gSub to ta rSetU)) (stoL mo ma m) := by
  intro F0 st ν B F σ sl H D so es w
  simp only [stoL_ap, seqE_ap, wp_bnd] at w
  refine he so es (wp_mono w (fun e st we ν F y H1 so es1 => ?_) fun _ _ z => z.xp)
  obtain ⟨ets, esl⟩ := e
  refine ho so es1 (wp_mono we (fun e2 st we2 ν F o H2 so es2 => ?_) fun _ _ z => z.xp)
  obtain ⟨ets2, esl2⟩ := e2
  refine hk so es2 (wp_mono we2 (fun e3 st we3 ν F k H3 so es3 => ?_) fun _ _ z => z.xp)
  obtain ⟨ets3, esl3⟩ := e3
  have go : ∀ dk d0 dx, ES κ ν η B F [k, o, y] [.sh dk, .sh d0, .sh dx] σ esl3 H3 → wp (chgL (gSet dk dx) esl3 d0) st (FlowP κ η B F0 D) (XQ κ η W B F0) → rSetU o k y H3 fun H4 => D.nx σ H4 := by
    intro dk d0 dx es3 wz
    obtain ⟨n, d, d', rfl, h2, hg, wz⟩ := wp_chgL wz
    have rk := ES.pop1 es3 (d := dk) rfl (fun _ => nofun)
    have r0 := ES.pop1 es3.pop (d := .loc n) rfl (fun _ => nofun)
    have rx := ES.pop1 es3.pop.pop (d := dx) rfl (fun _ => nofun)
    simp only [RD] at r0
    obtain ⟨p, rfl, h1⟩ := r0
    have es4 := es3.pop.pop.pop
    exact set_cell (es4.cellL so h1 h2) (os_st so h1 h2) rx (rk.mono fun a o _ z => os_pop a (os_pop a z)) hg fun o c => by
      obtain ⟨so', es5⟩ := es4.stWrite so h1 h2 c
      exact wz _ _ σ _ so' es5
  unfold stoLK at we3
  split at we3
  · rename_i dk d0 dx e
    replace e : ets3 = [.sh dk, .sh d0, .sh dx] := e
    subst e
    exact go dk d0 dx es3 we3
  · rename_i dk d0 dx e
    replace e : ets3 = [.sh dk, .sh d0, .ow dx] := e
    subst e
    refine go dk d0 dx ?_ we3
    have rk := ES.pop1 es3 (d := dk) rfl (fun _ => nofun)
    have r0 := ES.pop1 es3.pop (d := d0) rfl (fun _ => nofun)
    have mo : ∀ a, OS F [y] [.sh dx] σ esl3 a → OS F [y] [.ow dx] σ esl3 a := by
      rintro a ⟨e, m⟩
      simp only [zA, zT, List.map_cons, List.map_nil, List.zip_cons_cons, List.zip_nil_left, List.cons_append, List.nil_append, List.mem_cons, Prod.mk.injEq, reduceCtorEq, and_false, false_or] at m
      exact ⟨e, by simp only [zA, zT, List.map_cons, List.zip_cons_cons, List.cons_append, List.mem_cons]; exact .inr (by simpa using m)⟩
    refine (es3.pop.pop.frzTop.pushR (r0.mono fun a o _ z => mo a z)).pushR (rk.mono fun a o _ z => ?_)
    obtain ⟨e, m⟩ := z
    simp only [zA, zT, List.map_cons, List.map_nil, List.zip_cons_cons, List.zip_nil_left, List.cons_append, List.nil_append, List.mem_cons, Prod.mk.injEq, reduceCtorEq, and_false, false_or] at m
    exact ⟨e, by simp only [zA, zT, List.map_cons, List.map_nil, List.zip_cons_cons, List.zip_nil_left, List.cons_append, List.nil_append, List.mem_cons, Prod.mk.injEq, reduceCtorEq, and_false, false_or]; exact .inr m⟩
  · exact we3.elim
end
section
variable {P : Program} {w : World} {K : PySem.W.Frag} {mg : Str → Option Value} {base : Heap} {κ : Ctx} {k : Nat}
theorem oknG {ν : List Addr} {x : Addr} {own : List Nat} {i : Nat} (hi : i ∈ own) (h : (0 : Nat) ∉ own) : (η1g ν x).ok i := .inr fun e => h (e ▸ hi)
theorem fn_okXZ {x qual : Str} {st : Stmt} {f : Addr} {fd : FuncData} {N ps : List Str} {body : SM} {sp : Sp} (F : Fun K x qual st f fd) (S : FnScope N ps (defScope st)) (hsp : ∀ vs H Q E, sp vs H Q E → spF κ (mkFnZ ps.length N.length body) vs H Q E)
    (hps : ps.length ≤ N.length) (hN : N.length < 1000000) (j : Nat)
    (h : ∀ (cdv : Value) (A : Around) (outer : List PySem.Env) (s : Shared) (H : Hp) (E : XK), Room k (A.deeper (PyProof.Rows.envOfC qual (defScope st) s.heap.objs.size f cdv)) →
      ∃ t, PSs (cxOf (L2.CX P w) P w K mg base N qual (defScope st) f cdv A outer s H E) (defBody st) t ∧ SimS κ (ηg [] j) (fun c d _ H => E c d H) t body) : FnOk P w K mg base (L2.CX P w) (k + 1) f fd ps sp := by
  refine F.okX S (fun vs H Q E h => ?_) fun cdv A outer s H vs Q E hr hs0 => ?_
  · obtain ⟨F', ds, l, er, hw⟩ := hsp _ _ _ _ h
    exact l.trans (fnZ_arity hw).1
  · obtain ⟨t, ht, hs⟩ := h cdv A outer s H E hr
    exact ⟨t, ht, fn_bodyZ hps hN hs (hsp _ _ _ _ hs0)⟩
theorem lvA {j l n : Nat} (h : j ≤ l) : j ≤ Nat.add l n := Nat.le_trans h (Nat.le_add_right l n)
/-- a def that calls itself: nothing is promised at the depth 0 -/
theorem bad_F : ∀ vs H Q E, ¬ spF κ (fun _ => .bad) vs H Q E := fun vs H Q E ⟨F, ds, l, er, w⟩ => w
theorem bad_G : ∀ vs H Q E, ¬ spG κ (fun _ => .bad) vs H Q E := fun vs H Q E ⟨F, ν, st, ds, l, l2, er, w⟩ => w
theorem fn_none {f : Addr} {sp : Sp} (h : ∀ vs H Q E, ¬ sp vs H Q E) : FnR P w K mg base (L2.CX P w) k f sp := fun A outer s H us vs Q E hr e0 r hs => absurd hs (h vs H Q E)
end
end Dl

/-! ### tuple * int, also for 1 and 0 -/
namespace DlT
open PySem PySem.Spec PyProof.Rows L2
theorem tuple_mul1 (l : Addr) (items : Array Value) (n : Nat) (dd : Option Addr) (sl : Array (Option Value)) (u : Tok) :
    Meets (Builtin.«tuple.__mul__» ⟨[.ref l, .int 1 u], []⟩) (fun _ R s => s.heap.get? l = some { cls := .type "tuple", dict := dd, data := .seq items n, slots := sl } ∧ R (.ok (.ret (Value.ref l))) s) :=
  .of_wp fun prog w A R s h => by
    obtain ⟨hp, g, d, tk, os⟩ := s
    obtain ⟨hl, h⟩ := h
    have f1 := AutoSeq1.idx_int
    wp_walk using wpAny_loadPart' hl
    repeat (first
      | (refine wpAny_ite_false (decide_eq_false (by decide)) ?_; wp_walk using wpAny_loadPart' hl)
      | (refine wpAny_ite_true (decide_eq_true (by simp)) ?_; wp_walk using wpAny_loadPart' hl))
    exact ⟨_, rfl, h⟩
theorem tuple_mul0 (l : Addr) (items : Array Value) (n : Nat) (dd : Option Addr) (sl : Array (Option Value)) (x : Int) (u : Tok) (c0 : (decide (x < -(2 ^ 63)) || decide (x ≥ 2 ^ 63)) = false) (c1 : (items.isEmpty || x == 1) = false) (c2 : (decide (x ≤ 0) || items.isEmpty) = true) :
    Meets (Builtin.«tuple.__mul__» ⟨[.ref l, .int x u], []⟩) (fun _ R s => s.heap.get? l = some { cls := .type "tuple", dict := dd, data := .seq items n, slots := sl } ∧
      R (.ok (.ret (Value.ref s.heap.objs.size))) { s with heap := s.heap.push { cls := Value.type "tuple", data := Data.seq #[] }, toks := s.toks }) :=
  .of_wp fun prog w A R s h => by
    obtain ⟨hp, g, d, tk, os⟩ := s
    obtain ⟨hl, h⟩ := h
    have f1 := AutoSeq1.idx_int
    wp_walk using wpAny_loadPart' hl
    repeat (first
      | (refine wpAny_ite_false (decide_eq_false (by rw [c0]; exact Bool.false_ne_true)) ?_; wp_walk using wpAny_loadPart' hl)
      | (refine wpAny_ite_false (decide_eq_false (by rw [c1]; exact Bool.false_ne_true)) ?_; wp_walk using wpAny_loadPart' hl)
      | (refine wpAny_ite_true (decide_eq_true c2) ?_; wp_walk using wpAny_loadPart' hl)
      | (refine wpAny_ite_false (decide_eq_false (by simp)) ?_; wp_walk using wpAny_loadPart' hl))
    exact ⟨_, rfl, h⟩
def rRepT1 (K : PySem.W.Frag) : R2 := fun x y H Q => ∃ l xs, x = .ref l ∧ y = .int 1 ∧ SqT K H l xs ∧ Q (.ref l) H
def rRepT0 (K : PySem.W.Frag) : R2 := fun x y H Q => ∃ l k xs, x = .ref l ∧ y = .int k ∧ SqT K H l xs ∧ xs ≠ [] ∧ -1000 ≤ k ∧ k ≤ 0 ∧ ∀ p, H p = none → Q (.ref p) (upd H p (.tup []))
section
variable {X : Cx}
theorem op_repT1 : OpR X (binaryOp .Mult) (rRepT1 X.K) := by
  intro pins s σ H x y v u Q I rx ry h
  obtain ⟨l, xs, rfl, rfl, hT, q⟩ := h
  cases rx
  obtain ⟨t, rfl⟩ := ry
  obtain ⟨its, r, ⟨⟨cls, dd, data, sl⟩, ho, hc, n, hd⟩, hs⟩ := I.tuple hT
  simp only at hc hd
  subst hc hd
  refine wpAny_binaryOp_repeat_ref (T := "tuple") (U := "int") (by decide) ⟨_, ho, rfl⟩ (fun s' => typeIs_int s' 1 t) noFill_tuple_mul F.fills_int_mul F.slot_int_rmul repeat_tuple F.slot_int_index.lookup
    (call_meets F.slot_int_rmul (typeIs_int s 1 t) F.entry_int_rmul (F.args_int_rmul_2 _ _) (int_rmul_tuple 1 t l its.toArray n dd sl)
      ⟨ho, rfl, ⟨_, ho, rfl⟩, call_meets F.slot_tuple_mul ⟨_, ho, rfl⟩ F.entry_tuple_mul (F.args_tuple_mul_2 _ _) (tuple_mul1 l its.toArray n dd sl t) ⟨ho, ?_⟩⟩)
  exact ⟨.ref l, _, I, rfl, q⟩
theorem op_repT0 : OpR X (binaryOp .Mult) (rRepT0 X.K) := by
  intro pins s σ H x y v u Q I rx ry h
  obtain ⟨l, k, xs, rfl, rfl, hT, hne, h0, h1, q⟩ := h
  cases rx
  obtain ⟨t, rfl⟩ := ry
  obtain ⟨its, r, ⟨⟨cls, dd, data, sl⟩, ho, hc, n, hd⟩, hs⟩ := I.tuple hT
  simp only at hc hd
  subst hc hd
  have hle : its.length = xs.length := r.length.symm
  have hn : its ≠ [] := fun e => hne (by
    rw [e] at hle
    exact List.eq_nil_of_length_eq_zero hle.symm)
  have hi : its.toArray.isEmpty = false := by
    cases its with
    | nil => exact absurd rfl hn
    | cons a b => rfl
  have c0 : (decide (k < -(2 ^ 63)) || decide (k ≥ 2 ^ 63)) = false := by
    rw [decide_eq_false (by omega), decide_eq_false (by omega)] <;> rfl
  have c1 : (its.toArray.isEmpty || k == 1) = false := by
    rw [hi, Bool.false_or]
    exact beq_eq_false_iff_ne.mpr (by omega)
  have c2 : (decide (k ≤ 0) || its.toArray.isEmpty) = true := by
    rw [hi, Bool.or_false]
    exact decide_eq_true h1
  refine wpAny_binaryOp_repeat_ref (T := "tuple") (U := "int") (by decide) ⟨_, ho, rfl⟩ (fun s' => typeIs_int s' k t) noFill_tuple_mul F.fills_int_mul F.slot_int_rmul repeat_tuple F.slot_int_index.lookup
    (call_meets F.slot_int_rmul (typeIs_int s k t) F.entry_int_rmul (F.args_int_rmul_2 _ _) (int_rmul_tuple k t l its.toArray n dd sl)
      ⟨ho, rfl, ⟨_, ho, rfl⟩, call_meets F.slot_tuple_mul ⟨_, ho, rfl⟩ F.entry_tuple_mul (F.args_tuple_mul_2 _ _) (tuple_mul0 l its.toArray n dd sl k t c0 c1 c2) ⟨ho, ?_⟩⟩)
  refine ⟨.ref s.heap.objs.size, _, I.laid (t' := s.toks) (o := .tup []) (fun b ob q => Heap.get?_push_of_some _ q) (Nat.le_refl _) ?_, rfl, q _ (I.hok.fresh (Nat.le_refl _))⟩
  exact ⟨by simp, [], .nil, IsTup.new _ _⟩
end
end DlT
namespace Dl
open PySem L2 Wp
def fMulT : D → D → Option Sl
  | .int i, .int j => if (-(2 ^ 64) < i ∧ i < 2 ^ 64) ∨ (-(2 ^ 64) < j ∧ j < 2 ^ 64) then shI (i * j) else none
  | .lst xs, .int j => if xs.length * j.toNat ≤ sizeD ∧ -1000000 ≤ j ∧ j ≤ 1000000 then some (.ow (.lst (List.replicate j.toNat xs).flatten)) else none
  | .tup xs, .int j => if xs ≠ [] ∧ xs.length ≤ 1000 ∧ -1000 ≤ j ∧ j ≤ 1000 then some (.sh (.tup (List.replicate j.toNat xs).flatten)) else none
  | _, _ => none
@[simp] theorem fMulT_int (i j : Int) : fMulT (.int i) (.int j) = if (-(2 ^ 64) < i ∧ i < 2 ^ 64) ∨ (-(2 ^ 64) < j ∧ j < 2 ^ 64) then shI (i * j) else none := (rfl)
@[simp] theorem fMulT_lst (xs : List D) (j : Int) : fMulT (.lst xs) (.int j) = if xs.length * j.toNat ≤ sizeD ∧ -1000000 ≤ j ∧ j ≤ 1000000 then some (.ow (.lst (List.replicate j.toNat xs).flatten)) else none := (rfl)
@[simp] theorem fMulT_tup (xs : List D) (j : Int) : fMulT (.tup xs) (.int j) = if xs ≠ [] ∧ xs.length ≤ 1000 ∧ -1000 ≤ j ∧ j ≤ 1000 then some (.sh (.tup (List.replicate j.toNat xs).flatten)) else none := (rfl)
def rMulT (K : PySem.W.Frag) : R2 := fun x y H Q => rMulU x y H Q ∨ DlT.rRepT1 K x y H Q ∨ DlT.rRepT0 K x y H Q ∨ rRepT K x y H Q
theorem op_mulT {X : Cx} {K : PySem.W.Frag} (e : X.K = K) : OpR X (binaryOp .Mult) (rMulT K) := by subst e; exact op_mulU.or (DlT.op_repT1.or (DlT.op_repT0.or op_repT))
theorem fMulT_forms {c d : D} {s : Sl} (h : fMulT c d = some s) : (∃ i j, c = .int i ∧ d = .int j) ∨ (∃ ds j, c = .lst ds ∧ d = .int j) ∨ ∃ ds j, c = .tup ds ∧ d = .int j := by
  cases c <;> cases d <;> first | exact .inl ⟨_, _, rfl, rfl⟩ | exact .inr (.inl ⟨_, _, rfl, rfl⟩) | exact .inr (.inr ⟨_, _, rfl, rfl⟩) | (cases h; done)
theorem o_mulT {κ : Ctx} : Op2 κ (rMulT κ.K) fMulT := by
  intro ν Y H x y c d s Q hc hd hf hq
  rcases fMulT_forms hf with ⟨i, j, rfl, rfl⟩ | ⟨ds, j, rfl, rfl⟩ | ⟨ds, j, rfl, rfl⟩
  · exact .inl (o_mul hc hd hf hq)
  · exact .inl (o_mul hc hd hf hq)
  · simp only [fMulT_tup] at hf
    split at hf
    · rename_i z
      obtain ⟨z1, z2, z3, z4⟩ := z
      cases hf
      obtain ⟨a, vs, rfl, g, r, na⟩ := hc.tup
      rw [hd.int]
      have hl := r.len
      have hne : vs ≠ [] := fun e => z1 (List.length_eq_zero_iff.mp (by rw [hl, e]; rfl))
      by_cases h1 : j = 1
      · subst h1
        refine .inr (.inl ⟨a, vs, rfl, rfl, SqT.of g, hq.old ?_⟩)
        simp only [RD]
        exact ⟨a, vs, rfl, na, g, by simpa using r⟩
      · by_cases h0 : j ≤ 0
        · refine .inr (.inr (.inl ⟨a, j, vs, rfl, rfl, SqT.of g, hne, z3, h0, fun p hp => ?_⟩))
          have e : j.toNat = 0 := by omega
          rw [e] at hq
          exact hq.tup (vs := []) (by simp [RDs]) hp
        · exact .inr (.inr (.inr ⟨a, j, vs, rfl, rfl, SqT.of g, hne, by omega, z4, by omega, fun p hp => hq.tup (r.rep _) hp⟩))
    · cases hf
end Dl

namespace Dl
open PySem L2 Wp
/-! ### a comprehension over a held list, which is held again behind it -/
def lndK (i : Nat) (sl : List Sl) : Option Sl → C XS (List D × List Sl × Option D)
  | some (.ow (.lst ds)) => .ret (ds, sl.set i .unk, some (.lst ds))
  | some (.sh (.lst ds)) => .ret (ds, sl, none)
  | some (.sh (.tup ds)) => .ret (ds, sl, none)
  | _ => .bad
@[simp] theorem lndK_ow (i : Nat) (sl : List Sl) (ds : List D) : lndK i sl (some (.ow (.lst ds))) = .ret (ds, sl.set i .unk, some (.lst ds)) := (rfl)
@[simp] theorem lndK_sh (i : Nat) (sl : List Sl) (ds : List D) : lndK i sl (some (.sh (.lst ds))) = .ret (ds, sl, none) := (rfl)
@[simp] theorem lndK_tup (i : Nat) (sl : List Sl) (ds : List D) : lndK i sl (some (.sh (.tup ds))) = .ret (ds, sl, none) := (rfl)
def bckS (i : Nat) : Option D → List Sl → List Sl
  | some d, sl => sl.set i (.ow d)
  | none, sl => sl
@[simp] theorem bckS_some (i : Nat) (d : D) (sl : List Sl) : bckS i (some d) sl = sl.set i (.ow d) := (rfl)
@[simp] theorem bckS_none (i : Nat) (sl : List Sl) : bckS i none sl = sl := (rfl)
def lcRZ (i : Nat) (o : Option D) (ts : List Sl) (z : List D × List Sl) : C XS Env := .ret ⟨.ow (.lst z.1) :: ts, bckS i o z.2⟩
@[simp] theorem lcRZ_ap (i : Nat) (o : Option D) (ts : List Sl) (ds : List D) (sl : List Sl) : lcRZ i o ts (ds, sl) = .ret ⟨.ow (.lst ds) :: ts, bckS i o sl⟩ := (rfl)
def lcRK (i : Nat) (g : Tg) (own : List Nat) (test elt : EM) (ts : List Sl) (r : List D × List Sl × Option D) : C XS Env := bnd (lcL g own test elt r.1 [] (unkA own r.2.1)) (lcRZ i r.2.2 ts)
@[simp] theorem lcRK_ap (i : Nat) (g : Tg) (own : List Nat) (test elt : EM) (ts : List Sl) (ds : List D) (sl : List Sl) (o : Option D) : lcRK i g own test elt ts (ds, sl, o) = bnd (lcL g own test elt ds [] (unkA own sl)) (lcRZ i o ts) := (rfl)
def lcR (i : Nat) (g : Tg) (own : List Nat) (test elt : EM) : EM := fun e => bnd (lndK i e.sl e.sl[i]?) (lcRK i g own test elt e.ts)
@[simp] theorem lcR_ap (i : Nat) (g : Tg) (own : List Nat) (test elt : EM) (ts sl : List Sl) : lcR i g own test elt ⟨ts, sl⟩ = bnd (lndK i sl sl[i]?) (lcRK i g own test elt ts) := (rfl)
section
variable {κ : Ctx} {ν ν' : List Addr} {η : Hn} {W : WX} {B : Hp} {F Z : List VS} {τ : List V} {ts : List Sl} {σ : L2.St} {sl : List Sl} {H H' : Hp} {v x : V} {s : Sl} {d : D} {ta tb tc te tf : TE} {ma mb mc m : EM} {tr : TA} {as : List EM} {t u : TS} {a b : SM}
theorem ES.unlend {i : Nat} {p : VS} (h : ES κ ν η B (p :: F) [] [] σ sl H) (hp : p.2 = .ow d) (hσ : σ[i]? = some p.1) (hB : ∀ a, p.1 = some (V.ref a) → B a = none) : ES κ ν η B F [] [] σ (sl.set i (.ow d)) H := by
  obtain ⟨w, s0⟩ := p
  simp only at hp hσ hB
  subst hp
  have hi : i < sl.length := by rw [← h.ls]; exact (List.getElem?_eq_some_iff.mp hσ).1
  have e2 : sl[i]? = some sl[i] := List.getElem?_eq_getElem hi
  obtain ⟨R, p1, p2⟩ := h.framed.at hσ e2
  have pm : (zA [] [] σ sl ((w, .ow d) :: F)).Perm ((w, .ow d) :: zA [] [] σ sl F) := by
    simp only [zA, zT, List.map_nil, List.zip_nil_left, List.nil_append]
    exact List.perm_middle
  have er1 : ER κ ν H ((w, .ow d) :: (w, sl[i]) :: R) := (h.er.perm pm).perm (List.Perm.cons _ p1)
  have er2 : ER κ ν H ((w, .ow d) :: R) := (er1.perm (List.Perm.swap _ _ _)).tail
  have p3 := p2 w (.ow d)
  rw [set_self hσ] at p3
  have oa : ∀ b, OA (zA [] [] σ (sl.set i (.ow d)) F) b → OA (zA [] [] σ sl ((w, .ow d) :: F)) b := fun b z => by
    rw [OA.perm p3] at z
    rw [OA.perm (pm.trans (List.Perm.cons _ p1))]
    obtain ⟨e, m⟩ := z
    rcases List.mem_cons.mp m with m | m
    · exact ⟨e, by rw [m]; exact List.mem_cons_self⟩
    · exact ⟨e, List.mem_cons_of_mem _ (List.mem_cons_of_mem _ m)⟩
  refine ⟨rfl, by simp [h.ls], fun v j m => by simp at m, er2.perm p3.symm, h.bs, fun a e m => ?_, h.sf, fun y q => ?_⟩
  · have m2 : (some (V.ref a), Sl.ow e) ∈ (σ.set i w).zip (sl.set i (.ow d)) := by rw [set_self hσ]; simpa [zT] using m
    rcases mem_zip_set m2 with ⟨y1, _⟩ | m3
    · exact hB a y1
    · exact h.fr a e (by simpa [zT] using m3)
  · by_cases hx : i = η.i
    · subst hx
      rw [List.getElem?_set_self hi] at q; cases q
    · rw [List.getElem?_set_ne hx] at q
      exact ⟨(h.ex y q).1, exr_sub (h.ex y q).2 oa⟩
theorem simi_lnd {sv : Nat} {K : PySem.W.Frag} {F0 : List VS} {st : Sto} {R : It → Hp → Prop} (so : StOk η B F0 ν F st) (es : ES κ ν η B F [] [] σ sl H)
    (w : wp (lndK sv sl sl[sv]?) st (fun r st => ∀ ν F J p H1, StOk η B (p :: F0) ν F st → ES κ ν η B F [] [] σ r.2.1 H1 → WalkOk κ J p r.1 → (∀ d, r.2.2 = some d → p.2 = .ow d ∧ σ[sv]? = some p.1 ∧ (∀ a, p.1 = some (V.ref a) → B a = none) ∧ True) → R J H1) (XP κ η W B F0 σ)) : iSeq K (tVar sv) σ H R := by
  cases q : sl[sv]? with
  | none => rw [q] at w; exact w.elim
  | some s =>
    rw [q] at w
    match s, q, w with
    | .ow (.lst ds), q, w =>
      obtain ⟨a, hσ, hB, vs, g, r⟩ := ow_at es q
      have es1 : ES κ ν η B F [.ref a] [.ow (.lst ds)] σ (sl.set sv .unk) H := by
        obtain ⟨R, p1, p2⟩ := es.at hσ q
        have p3 := p2 (some (.ref a)) .unk
        rw [set_self hσ] at p3
        have pm : (zA [.ref a] [.ow (.lst ds)] σ (sl.set sv .unk) F).Perm ((some (.ref a), .unk) :: (some (.ref a), .ow (.lst ds)) :: R) := by
          have : zA [.ref a] [.ow (.lst ds)] σ (sl.set sv .unk) F = (some (.ref a), .ow (.lst ds)) :: zA [] [] σ (sl.set sv .unk) F := by simp [zA, zT]
          rw [this]
          exact (List.Perm.cons _ p3).trans (List.Perm.swap _ _ _)
        have oa : ∀ b, OA (zA [.ref a] [.ow (.lst ds)] σ (sl.set sv .unk) F) b → OA (zA [] [] σ sl F) b := fun b z => by
          rw [OA.perm pm] at z
          rw [OA.perm p1]
          obtain ⟨e, m⟩ := z
          rcases List.mem_cons.mp m with m | m
          · cases m
          · exact ⟨e, m⟩
        refine ⟨rfl, by simp [es.ls], fun v j m => by simp at m, ((es.er.perm p1).pushU (some (.ref a)) (.inl rfl)).perm pm.symm, es.bs, fun b e m => ?_, es.sf, fun y qy => ?_⟩
        · have m2 : (some (V.ref b), Sl.ow e) ∈ zA [.ref a] [.ow (.lst ds)] σ (sl.set sv .unk) ([] : List VS) := by simpa [zA] using m
          simp only [zT, List.map_cons, List.map_nil, List.zip_cons_cons, List.zip_nil_left, List.cons_append, List.nil_append, List.mem_cons, Prod.mk.injEq, Option.some.injEq, V.ref.injEq, Sl.ow.injEq] at m
          rcases m with ⟨rfl, _⟩ | m
          · exact hB
          · have m3 : (some (V.ref b), Sl.ow e) ∈ (σ.set sv (some (.ref a))).zip (sl.set sv .unk) := by rw [set_self hσ]; exact m
            rcases mem_zip_set m3 with ⟨_, z⟩ | m4
            · cases z
            · exact es.fr b e (by simpa [zT] using m4)
        · by_cases hx : sv = η.i
          · subst hx
            rw [List.getElem?_set_self (List.getElem?_eq_some_iff.mp q).1] at qy; cases qy
          · rw [List.getElem?_set_ne hx] at qy
            exact ⟨(es.ex y qy).1, exr_sub (es.ex y qy).2 oa⟩
      have pn := so.pin (es1.pin fun _ => nofun)
      exact ⟨_, hσ, a, rfl, .inl ⟨⟨vs, SqL.of g⟩, w _ _ _ _ _ pn.1 pn.2 (walkL (.inr rfl)) fun d hd => by cases hd; exact ⟨rfl, hσ, fun b hb => by cases hb; exact hB, trivial⟩⟩⟩
    | .sh (.lst ds), q, w =>
      obtain ⟨u, hu, mu⟩ := sl_get es q
      obtain ⟨v, e, r⟩ := es.er.ok _ (List.mem_append_right _ (List.mem_append_left _ mu))
      simp only at e
      subst e
      have es1 := es.pushR r
      obtain ⟨a, vs, rfl, g, r2⟩ := (LD.lst (.inl r))
      have pn := so.pin (es1.pin fun _ => nofun)
      exact ⟨_, hu, a, rfl, .inl ⟨⟨vs, SqL.of g⟩, w _ _ _ _ _ pn.1 pn.2 (walkL (.inl rfl)) fun d hd => by cases hd⟩⟩
    | .sh (.tup ds), q, w =>
      obtain ⟨u, hu, mu⟩ := sl_get es q
      obtain ⟨v, e, r⟩ := es.er.ok _ (List.mem_append_right _ (List.mem_append_left _ mu))
      simp only at e
      subst e
      have es1 := es.pushR r
      obtain ⟨a, vs, rfl, g, r2, _⟩ := (LD.tup (.inl r))
      have pn := so.pin (es1.pin fun _ => nofun)
      exact ⟨_, hu, a, rfl, .inr ⟨⟨vs, SqT.of g⟩, w _ _ _ _ _ pn.1 pn.2 walkT fun d hd => by cases hd⟩⟩
theorem sim_lcR {sv : Nat} {K : PySem.W.Frag} {g : TG} {tg : Tg} {tt : TT} {own : List Nat} (hg : SimG κ η g tg) (ht : SimT κ η W0 tt mc) (he : SimE κ η W0 te m) (hn : ∀ j, j ∈ tg.nms → j ∈ own) (ho : ∀ i ∈ own, η.ok i) :
    SimE κ η W (tLc (iSeq K (tVar sv)) g tt te own) (lcR sv tg own mc m) := by
  intro F0 st ν B F τ ts σ sl H Q so es w
  simp only [lcR_ap, wp_bnd] at w
  have esP : ES κ ν η B (zS ν st ++ (zT τ ts ++ F0)) [] [] σ sl H := es.pinAll.permF (by
    rw [so.fe, ← List.append_assoc, ← List.append_assoc]
    exact List.perm_append_comm.append_right _)
  have soP : StOk η B (zT τ ts ++ F0) ν (zS ν st ++ (zT τ ts ++ F0)) st := ⟨rfl, so.ln, so.nb, so.np, so.pr, fun q m => List.mem_append_right _ (so.cp q m)⟩
  refine simi_lnd (W := W) soP esP (wp_mono w (fun r st wr ν1 F1 J p H1 so1 es1 wk hb Dd hD => ?_) fun x st z ν1 F1 c d H' so1 e1 e2 => ?_)
  · obtain ⟨ds, sl1, od⟩ := r
    simp only [lcRK_ap, wp_bnd] at wr
    -- the list that grows
    have esA0 : ES κ ν1 η B ((some (.ref Dd), .ow (.lst [])) :: F1) [] [] σ sl1 (upd H1 Dd (.lst [])) :=
      (es1.fresh (o := .lst []) (d := .lst []) hD ⟨[], upd_same, by simp [RDs]⟩).pin fun _ => nofun
    obtain ⟨soA, esA⟩ := so1.pin esA0
    have hB : B Dd = none := xt_none es1.bs hD
    have esW := esA.wipe' own ho
    have un0 : ∀ j, j ∈ own → j < (unkA own sl1).length → (unkA own sl1)[j]? = some .unk := fun j hj hl => by
      rw [unkA_get, if_pos ⟨hj, by rw [unkA_len] at hl; exact hl⟩]
    let KK : List D × List Sl → Sto → Prop := fun z st => wp (lcRZ sv od ts z) st (fun e st => ∀ ν F v H', StOk η B F0 ν F st → ES κ ν η B F (v :: τ) e.ts σ e.sl H' → Q v H') (XP κ η W B F0 σ)
    let Inv : Nat → Hp → Prop := fun i H' => i ≤ ds.length ∧ ∃ ν F st acc sl', StOk η B ((some (.ref Dd), .ow (.lst acc)) :: p :: (zT τ ts ++ F0)) ν F st ∧ ES κ ν η B F [] [] (wipe σ own) sl' H' ∧ (∀ j, j ∈ own → j < sl'.length → sl'[j]? = some .unk) ∧
      wp (lcL tg own mc m (ds.drop i) acc sl') st KK (XP κ η W B F0 σ)
    refine ⟨fun i k H' => k = ds.length - i ∧ Inv i H', ⟨_, rfl, Nat.zero_le _, ν1, _, st, [], _, soA, esW, un0, by simpa using wr⟩, ?_⟩
    rintro i k H' ⟨rfl, hi', ν, F, st, acc, sl', so', es', un', w'⟩
    have hpF : p ∈ zA [] [] (wipe σ own) sl' F := by rw [so'.fe]; simp [zA]
    obtain ⟨go, stop⟩ := wk ν H' _ es'.er hpF
    rcases Nat.lt_or_ge i ds.length with hlt | hge
    · refine .inr ?_
      have e : ds[i]? = some ds[i] := List.getElem?_eq_getElem hlt
      obtain ⟨g1, yl⟩ := go i _ e
      refine ⟨g1, fun H2 => ∃ m', m' < ds.length - i ∧ (m' = ds.length - (i + 1) ∧ Inv (i + 1) H2), fun H2 n => n, fun x H2 y => ?_⟩
      rw [List.drop_eq_getElem_cons hlt, lcL_cons] at w'
      cases q : tg.set ds[i] sl' with
      | none => rw [q] at w'; exact w'.elim
      | some sl2 =>
        rw [q] at w'
        simp only [lcTu_some, wp_bnd, wp_noX] at w'
        have es2 : ES κ ν η B F [x] [.sh ds[i]] (wipe σ own) sl' H2 := es'.newV (yl x H2 y)
        refine hg es2 q fun σ2 o2 es3 => ?_
        have o3 : Off own (wipe σ own) σ2 := ⟨o2.1, fun j hj => o2.2 j fun z => hj (hn j z)⟩
        have w2 : wipe σ2 own = wipe σ own := by
          rw [wipe_off o3]
          apply List.ext_getElem?
          intro j
          by_cases hj : j ∈ own
          · by_cases hl : j < σ.length
            · rw [wipe_in hj hl, wipe_in hj (by rw [wipe_len]; exact hl)]
            · rw [List.getElem?_eq_none (by rw [wipe_len, wipe_len]; omega), List.getElem?_eq_none (by rw [wipe_len]; omega)]
          · rw [wipe_get hj]
        refine ⟨w2, ?_⟩
        -- behind a turn
        have again : ∀ ν F st acc3 sl3 H3, StOk η B ((some (.ref Dd), .ow (.lst acc3)) :: p :: (zT τ ts ++ F0)) ν F st → ES κ ν η B F [] [] σ2 sl3 H3 → wp (lcL tg own mc m (ds.drop (i + 1)) acc3 (unkA own sl3)) st KK (XP κ η W B F0 σ) →
            ∃ m', m' < ds.length - i ∧ (m' = ds.length - (i + 1) ∧ Inv (i + 1) H3) := fun ν F st acc3 sl3 H3 s3 e3 wz =>
          ⟨_, by omega, rfl, by omega, ν, F, st, acc3, unkA own sl3, s3, by rw [← w2]; exact e3.wipe' own ho, fun j hj hl => by rw [unkA_get, if_pos ⟨hj, by rw [unkA_len] at hl; exact hl⟩], wz⟩
        refine ht so' es3 (wp_mono w' (fun e st we => ?_) fun _ _ z => z.elim)
        obtain ⟨s, e1, we⟩ := wp_topK we
        obtain ⟨ets, esl⟩ := e
        replace e1 : ets = [s] := e1
        subst e1
        simp only [lcTs_ap] at we
        cases q2 : getV esl s with
        | none => rw [q2] at we; exact we.elim
        | some dd =>
          rw [q2] at we
          cases dd with
          | bl c =>
            refine ⟨s, [], c, rfl, q2, fun ν F H3 so4 es4 => ?_⟩
            simp only [lcTk_bl, wp_iteC] at we
            cases c with
            | false =>
              rw [if_neg (by decide)]
              simp only [Bool.false_eq_true, if_false] at we
              exact again ν F st acc esl H3 so4 es4 we
            | true =>
              rw [if_pos rfl]
              simp only [if_true, wp_bnd, wp_noX] at we
              refine he so4 es4 (wp_mono we (fun e st we2 ν F y H4 so5 es5 => ?_) fun _ _ z => z.elim)
              obtain ⟨s2, f1, we2⟩ := wp_topK we2
              obtain ⟨ets2, esl2⟩ := e
              replace f1 : ets2 = [s2] := f1
              subst f1
              have fin : ∀ dv, getV esl2 s2 = some dv → (∀ i, s2 ≠ .al i) → wp (iteC (decide (acc.length < sizeD)) (lcL tg own mc m (ds.drop (i + 1)) (acc ++ [dv]) (unkA own esl2)) .bad) st KK (XP κ η W B F0 σ) →
                  ∃ acc', H4 Dd = some (.lst acc') ∧ acc'.length < sizeLine ∧ ∃ m', m' < ds.length - i ∧ (m' = ds.length - (i + 1) ∧ Inv (i + 1) (upd H4 Dd (.lst (acc' ++ [y])))) := fun dv hv na wz => by
                simp only [wp_iteC] at wz
                split at wz
                · rename_i hz
                  simp only [decide_eq_true_eq] at hz
                  have rd := ES.pop1 es5 hv (fun i ei => absurd ei (na i))
                  have es6 := es5.pop.unp so5
                  obtain ⟨aa, ea, vs, gg, rr⟩ := (es6.er.perm perm_fr).ok (some (.ref Dd), .ow (.lst acc)) List.mem_cons_self
                  cases ea
                  have rd2 : RD κ ν (OA ((some (.ref Dd), .ow (.lst acc)) :: zA [] [] σ2 esl2 (zS ν st ++ p :: (zT τ ts ++ F0)))) H4 dv y := rd.mono fun a _ _ ⟨f, mm⟩ => ⟨f, by
                    rw [so5.fe]
                    have := perm_fr.mem_iff.mpr mm
                    simp only [zA] at this ⊢
                    simp only [List.mem_append, List.mem_cons] at this ⊢
                    rcases this with h | h | h | h | h
                    · exact .inl h
                    · exact .inr (.inl h)
                    · exact .inr (.inr (.inr (.inl h)))
                    · exact .inr (.inr (.inl h))
                    · exact .inr (.inr (.inr (.inr h)))⟩
                  have kk : ∀ b u, ¬ OA ((some (V.ref Dd), Sl.ow (.lst acc)) :: zA [] [] σ2 esl2 (zS ν st ++ p :: (zT τ ts ++ F0))) b → H4 b = some u → upd H4 Dd (.lst (vs ++ [y])) b = some u := fun b u nb hb => by
                    rw [upd_ne]
                    · exact hb
                    · rintro rfl
                      exact nb ⟨_, List.mem_cons_self⟩
                  refine ⟨vs, gg, by rw [← rr.len]; exact szDl hz, ?_⟩
                  have es7 := es6.frameWrite (d' := .lst (acc ++ [dv])) hB ⟨vs ++ [y], upd_same, (rr.keep kk).app (RDs.one (rd2.keep kk))⟩
                  obtain ⟨so8, es8⟩ := (so5.unpin (fun q m => List.mem_cons_of_mem _ (List.mem_append_right _ (so.cp q m)))).pin es7
                  exact again ν _ st (acc ++ [dv]) esl2 _ so8 es8 wz
                · exact wz.elim
              cases s2 with
              | sh dv => exact fin dv (by simp) (fun _ => nofun) we2
              | ow dv => exact fin dv (by simp) (fun _ => nofun) we2
              | _ => simp only [lcEl, wp_iteC] at we2; split at we2 <;> exact we2.elim
          | _ => exact we.elim
    · refine .inl ?_
      have : i = ds.length := Nat.le_antisymm hi' hge
      subst this
      rw [List.drop_length, lcL_nil] at w'
      refine ⟨stop, ?_⟩
      have w3 : ∀ ν F v H', StOk η B F0 ν F st → ES κ ν η B F (v :: τ) (.ow (.lst acc) :: ts) σ (bckS sv od sl') H' → Q v H' := w'
      -- the slots as they were
      have e4 : ES κ ν η B F [] [] σ sl' H' := es'.off ⟨(wipe_len σ own).symm, fun j hj => (wipe_get hj).symm⟩ ho un'
      -- the pin goes
      have e5 : ES κ ν η B ((some (.ref Dd), .ow (.lst acc)) :: (zT τ ts ++ (zS ν st ++ F0))) [] [] σ (bckS sv od sl') H' := by
        have pm : F.Perm (p :: (some (V.ref Dd), Sl.ow (.lst acc)) :: (zT τ ts ++ (zS ν st ++ F0))) := by
          rw [so'.fe]
          have h1 : (zS ν st ++ (some (V.ref Dd), Sl.ow (.lst acc)) :: p :: (zT τ ts ++ F0)).Perm ((some (V.ref Dd), Sl.ow (.lst acc)) :: p :: (zS ν st ++ (zT τ ts ++ F0))) := List.perm_middle.trans (List.Perm.cons _ List.perm_middle)
          refine h1.trans ((List.Perm.swap _ _ _).trans (List.Perm.cons _ (List.Perm.cons _ ?_)))
          rw [← List.append_assoc, ← List.append_assoc]
          exact List.perm_append_comm.append_right _
        cases od with
        | none => exact (e4.permF pm).framed
        | some d =>
          obtain ⟨h1, h2, h3, h4⟩ := hb d rfl
          exact (e4.permF pm).unlend h1 h2 h3
      have e6 := ES.unpinAll es e5.framed
      refine w3 ν (zS ν st ++ F0) _ _ ⟨rfl, so'.ln, so'.nb, so'.np, so'.pr, so.cp⟩ ⟨by simp [e6.lt], e6.ls, fun w i m => ?_, ?_, e6.bs, fun a d m => ?_, e6.sf, fun y q => ⟨(e6.ex y q).1, exr_sub (e5.ex y q).2 fun a ⟨d, m⟩ => ⟨d, ?_⟩⟩⟩
      · simp only [List.zip_cons_cons, List.mem_cons, Prod.mk.injEq, reduceCtorEq, and_false, false_or] at m
        exact e6.al w i m
      · have z := e5.er.perm perm_fr
        have z2 := z.perm (List.Perm.cons _ (perm_pin (p := (none, .unk))))
        simpa [zA, zT] using z2
      · simp only [zT, List.map_cons, List.zip_cons_cons, List.cons_append, List.mem_cons, Prod.mk.injEq, Option.some.injEq, V.ref.injEq, Sl.ow.injEq] at m
        rcases m with ⟨y1, _⟩ | m
        · rw [y1]; exact hB
        · exact e6.fr a d m
      · refine perm_fr.mem_iff.mpr ?_
        simp only [zA, zT, List.map_cons, List.zip_cons_cons, List.cons_append, List.mem_cons] at m
        rcases m with m | m
        · rw [m]; exact List.mem_cons_self
        · exact List.mem_cons_of_mem _ ((perm_pin (p := (none, .unk))).mem_iff.mpr m)
  · -- an error while the walked thing is made
    have pm : F1.Perm (zT τ ts ++ (zS ν1 st ++ F0)) := by
      rw [so1.fe, ← List.append_assoc, ← List.append_assoc]
      exact List.perm_append_comm.append_right _
    have e3 : ES κ ν1 η B (zS ν1 st ++ F0) [] [] σ x.2 H' := (ES.unpinAll es (e1.permF pm)).drop
    exact z ν1 _ c d H' ⟨rfl, so1.ln, so1.nb, so1.np, so1.pr, so.cp⟩ e3 (e2.mono fun a _ _ ⟨f, mm⟩ => ⟨f, by
      rcases List.mem_append.mp mm with mm | mm
      · exact List.mem_append_left _ mm
      · exact List.mem_append_right _ (pm.mem_iff.mpr (List.mem_append_right _ mm))⟩)
end
end Dl

/-! ### x *= a of ints; xs.index(y); {k: v} with a tuple as key; o.clear() -/
namespace Dl
open PySem PySem.Spec PyProof.Rows L2 Wp
/-! {k: v} -/
def tDsp (tk tv : TE) : TE := fun σ H Q => tk σ H fun x H1 => tv σ H1 fun y H2 => ∃ (k : List Key) (b : Addr), x = .ref b ∧ H2 b = some (.tup (k.map kV)) ∧ ∀ p, H2 p = none → Q (.ref p) (upd H2 p (.dT [(k, y)]))
theorem inv_track {X : Cx} {pins : List (Addr × Obj)} {σ : L2.St} {H : Hp} {s : Shared} {h' : Heap} {p : Addr} {o : HO} {t' : Nat} (I : L2.Inv X pins σ H s) (hn : H p = none) (hs : X.s_0.heap.objs.size ≤ p) (hL : p ≠ X.env.locals)
    (hc : ∀ x c, X.env.cells.lookup x = some c → c ≠ p) (hp : ∀ z ∈ X.pn ++ pins, z.1 ≠ p) (k : ∀ b u, b ≠ p → s.heap.get? b = some u → h'.get? b = some u) (new : ObjOk X.prog X.w (upd H p o) h' p o) :
    L2.Inv X pins σ (upd H p o) { s with heap := h', toks := t' } := by
  have nit : ∀ b u, H b = some u → b ≠ p := fun b u e z => by rw [z, hn] at e; cases e
  refine I.step (g' := s.gens) (d' := s.drawn) (ch := [p]) (fun b hb => ?_) (fun b o _ _ hc e _ => k b o (fun z => hc (by simp [z])) e) (fun b o _ _ hc e _ => ⟨o.slots, k b o (fun z => hc (by simp [z])) e⟩) (fun b u hc e n => ?_)
    (fun b o hc e => ⟨o, k b o (fun z => hc (by simp [z])) e⟩) (fun b xs e => by rw [upd_ne (nit b _ e)]; exact e) (fun b _ _ e => by rw [upd_ne (nit b _ e)]; exact e) (fun b ps e => ⟨#[], by rw [upd_ne (nit b _ e), e]; simp⟩) (fun m hm => ?_) (fun b u e => ?_) I.bare
  · have e : b = p := by simpa using hb
    subst e
    exact ⟨.inr hs, hL, hc, hp⟩
  · have hb : b ≠ p := fun z => hc (by simp [z])
    rw [upd_ne hb]; exact n
  · obtain ⟨o, es, ep, ho, r⟩ := hm
    exact ⟨o, es, ep, k _ o (Ne.symm hL) ho, r⟩
  · by_cases hb : b = p
    · subst hb; rw [upd_same] at e; cases e; exact new
    · rw [upd_ne hb] at e
      refine (I.hok b u e).stay (fun c v hc q => k c v ?_ q) (fun c q => by rw [upd_ne (nit c _ q)]; exact q) fun c xs q => by rw [upd_ne (nit c _ q)]; exact q
      rcases hc with z | z
      · rw [z]; exact hb
      · exact nit c _ z
theorem pe_dsp {X : Cx} {ke ve : Expr} {pos : Pos} {tk tv : TE} (hu : X.A.units + 1 < cLine) (hk : PE X ke tk) (hv : PE X ve tv) : PE X (.Dict [some ke] [ve] pos) (tDsp tk tv) := by
  refine ⟨fun pins s σ H Q I q => ?_⟩
  have hn := I.hok.fresh (Nat.le_refl s.heap.objs.size)
  rw [arm_eval_Dict, zip_pairTrees [some ke] [ve] X.env pos rfl rfl, dictDisplay_pairs (pairTrees [some ke] [ve] X.env pos) (by simp [pairTrees]) (by simp [pairTrees])]
  refine wpAny_bind (wpAny_standAt (wpAny_bind ?_))
  unfold subDict
  refine wpAny_bind (wpAny_alloc ?_)
  refine wpAny_bind (wpAny_holding ?_)
  rw [if_pos (by simp [pairTrees])]
  have I1 : L2.Inv X pins σ H { s with heap := s.heap.push { cls := .type "dict", data := .dict #[] } } := I.kept (t' := s.toks) fun b ob q => Heap.get?_push_of_some _ q
  have hlt := I.lt
  have I2 : L2.Inv X ((s.heap.objs.size, { cls := .type "dict", data := .dict #[] }) :: pins) σ H { s with heap := s.heap.push { cls := .type "dict", data := .dict #[] } } := I1.pins_of fun z hz => by
    rcases List.mem_cons.mp hz with rfl | hz
    · exact ⟨Heap.get?_push_size _ rfl, hn, Ne.symm (Nat.ne_of_lt hlt), I.nofs (Nat.le_refl _), fun v => nofun⟩
    · exact I1.pin z (List.mem_append_right _ hz)
  refine wpAny_bind (wpAny_mono (pairTrees_cons_walk (thn (hk.run _ _ σ H _ I2 q) fun u s1 ⟨x, H1, J1, rx, q1⟩ => thn (hv.run _ s1 σ H1 _ J1 q1) fun w2 s2 ⟨y, H2, J2, ry, q2⟩ => pairTrees_nil_walk ?_)) (fun vs s₁ h₁ => h₁) fun _ _ e => e)
  obtain ⟨k, b, rfl, eb, q2⟩ := q2
  obtain rfl : u = Value.ref b := rx
  obtain ⟨g1, g2, g3, g4, g5⟩ := J2.pin (s.heap.objs.size, { cls := .type "dict", data := .dict #[] }) (by simp)
  have dd : s2.heap.DictOfH (tupleKind (mixKind X.prog X.w)) s.heap.objs.size ([] : List (List Key × Addr × Value)) := ⟨_, #[], 0, g1, ⟨rfl, rfl, rfl⟩, rfl, rfl, (fun x z => by cases z), List.nodup_nil⟩
  refine wpAny_holding ?_
  rw [List.forIn_cons]
  refine wpAny_bind (wpAny_bind (wpAny_bind (wpAny_dictSet_heap (knd := tupleKind (mixKind X.prog X.w)) (hsz := by simp) (show X.A.units < cLine by omega) (key_of J2.hok eb) dd fun h' dd' hs => wpAny_pure ?_)))
  dsimp only
  rw [List.forIn_nil]
  refine wpAny_pure (wpAny_pure (wpAny_pure (wpAny_pure ⟨.ref s.heap.objs.size, upd H2 s.heap.objs.size (.dT [(k, y)]), ?_, rfl, q2 _ g2⟩)))
  have J3 : L2.Inv X pins σ H2 s2 := J2.pins_of fun z hz => J2.pin z (List.mem_append_right _ (List.mem_cons_of_mem _ hz))
  obtain ⟨qo, es, ep, hq, h2, h3, h4, _, h5⟩ := dd'
  have hb : b ≠ s.heap.objs.size := fun z => by rw [z, g2] at eb; cases eb
  refine inv_track J3 g2 I.sz g3 (fun x c e z => ?_) (fun z hz e => ?_) (fun b u hb e => (hs.2 b hb).trans e) ?_
  · obtain ⟨v, o, ho, hd⟩ := J2.cell x c e
    rw [z, g1] at ho
    cases ho
    exact g5 _ hd
  · have := Heap.lt_size (I.pin z hz).1
    rw [e] at this
    exact Nat.lt_irrefl _ this
  · refine ⟨by simp [sizeLine_eq], beq_eq_false_iff_ne.mpr (Ne.symm (Nat.ne_of_lt I.big)), [(k, b, w2)], .cons ⟨rfl, by rw [upd_ne hb]; exact eb, ry⟩ .nil, qo, es, ep, hq, h2, h3, h4, h5⟩
def dspK (e : Env) : C XS Env := match e.ts with
  | .sh y :: .sh x :: r => iteC (sameK 1 x) (.ret ⟨.ow (.dct 1 [x] [y]) :: r, e.sl⟩) .bad
  | _ => .bad
@[simp] theorem dspK_ap (x y : D) (r sl : List Sl) : dspK ⟨.sh y :: .sh x :: r, sl⟩ = iteC (sameK 1 x) (.ret ⟨.ow (.dct 1 [x] [y]) :: r, sl⟩) .bad := (rfl)
/-- {k: v} -/
def dsp (a b : EM) : EM := fun e => bnd (a e) (seqE b dspK)
@[simp] theorem dsp_ap (a b : EM) (e : Env) : dsp a b e = bnd (a e) (seqE b dspK) := (rfl)
section
variable {κ : Ctx} {ν ν' : List Addr} {η : Hn} {W : WX} {B : Hp} {F Z : List VS} {τ : List V} {ts : List Sl} {σ : L2.St} {sl : List Sl} {H H' : Hp} {v x : V} {s : Sl} {d : D} {ta tb tc te tf : TE} {ma mb mc m : EM} {tr : TA} {as : List EM} {t u : TS} {a b : SM}
theorem sim_dsp (ha : SimE κ η W ta ma) (hb : SimE κ η W tb mb) : SimE κ η W (tDsp ta tb) (dsp ma mb) := by
  intro F0 st ν B F τ ts σ sl H Q so es w
  simp only [dsp_ap, wp_bnd] at w
  refine ha so es (wp_mono w (fun e st we ν F x H1 so es1 => ?_) fun _ _ z => z)
  obtain ⟨ets, esl⟩ := e
  simp only [seqE_ap, wp_bnd] at we
  refine hb so es1 (wp_mono we (fun e2 st we2 ν F y H2 so es2 => ?_) fun _ _ z => z)
  obtain ⟨ets2, esl2⟩ := e2
  match ets2, we2, es2 with
  | .sh dy :: .sh dx :: r, we2, es2 =>
    simp only [dspK_ap, wp_iteC] at we2
    split at we2
    · rename_i z1
      cases dx with
      | tup kd =>
        obtain ⟨k0, hk0⟩ := keysD_ks (by simpa using z1)
        have l1 := es2.read (x := x) (s := .sh (.tup kd)) (d := .tup kd) (by simp) (by simp)
        have l2 := es2.read (x := y) (s := .sh dy) (d := dy) (by simp) (by simp)
        obtain ⟨p, vs, rfl, g, r1, _⟩ := l1.tup
        have eb := mapM_vs hk0 r1
        subst eb
        refine ⟨k0, p, rfl, g, fun q hq => ?_⟩
        have ry := ES.pop1 es2 (d := dy) rfl (fun _ => nofun)
        refine we2 _ _ _ _ so (es2.pop.pop.newV (s := .ow (.dct 1 [.tup kd] [dy])) ⟨q, _, [y], rfl, hq, rfl, ⟨[k0], by simp [ksOf, hk0], rfl, rfl⟩, RDs.one (ry.mono fun a o _ z => os_pop a z)⟩)
      | _ => simp [sameK] at z1
    · exact we2.elim
end
/-! x *= a -/
def fMulI : D → D → Option Sl
  | .int i, .int j => if (-(2 ^ 64) < i ∧ i < 2 ^ 64) ∨ (-(2 ^ 64) < j ∧ j < 2 ^ 64) then shI (i * j) else none
  | _, _ => none
@[simp] theorem fMulI_int (i j : Int) : fMulI (.int i) (.int j) = if (-(2 ^ 64) < i ∧ i < 2 ^ 64) ∨ (-(2 ^ 64) < j ∧ j < 2 ^ 64) then shI (i * j) else none := (rfl)
def ipM : TIp := fun x y H Q => ∃ i j, x = .int i ∧ y = .int j ∧ CMul i j ∧ Q (.int (i * j)) H
theorem ip_mul {X : Cx} : PIp X .Mult ipM := by
  intro pins s σ H x y v u Q I r1 r2 h
  obtain ⟨i, j, e1, e2, c, q⟩ := h
  subst e1; subst e2
  obtain ⟨t, rfl⟩ := r1
  obtain ⟨t', rfl⟩ := r2
  exact imul_int ⟨.int _, H, I.tok _, ⟨_, rfl⟩, q⟩ c.ok
theorem o_mulI {κ : Ctx} : Op2 κ ipM fMulI := by
  intro ν Y H x y c d s Q hc hd hf hq
  cases c <;> cases d <;> simp only [fMulI, reduceCtorEq] at hf
  rename_i i j
  split at hf
  · rename_i z
    cases hf
    exact ⟨i, j, hc.int, hd.int, z, hq.int⟩
  · cases hf
/-! xs.index(y) of ints -/
def fIndex : D → D → Option Sl
  | .lst xs, .int k => (asInts xs).bind fun ns => if k ∈ ns then shI (ns.idxOf k : Nat) else none
  | _, _ => none
@[simp] theorem fIndex_lst (xs : List D) (k : Int) : fIndex (.lst xs) (.int k) = (asInts xs).bind fun ns => if k ∈ ns then shI (ns.idxOf k : Nat) else none := (rfl)
theorem mt_indexK {X : Cx} {K : PySem.W.Frag} (eK : X.K = K) : MtR X "list.index" (rIndex K) := eK ▸ mt_index
theorem o_index {κ : Ctx} : Op2 κ (fun x y H Q => rIndex κ.K x [y] H Q) fIndex := by
  intro ν Y H x y c d s Q hc hd hf hq
  cases c <;> cases d <;> simp only [fIndex, reduceCtorEq] at hf
  rename_i ds k
  simp only [Option.bind_eq_some_iff] at hf
  obtain ⟨ns, e, z⟩ := hf
  split at z
  · rename_i hm
    cases z
    obtain ⟨a, vs, rfl, g, r⟩ := hc.lst
    rw [asInts_of e] at r
    rw [r.ints] at g
    have hl : ns.idxOf k < ns.length := List.idxOf_lt_length_iff.mpr hm
    refine ⟨a, ns.map .int, .int k, ns.idxOf k, .int k, rfl, by rw [hd.int], SqL.of g, rfl, by simp [flatV], ?_, by simp [eqV], fun m z' hm' hz' => ?_, hq.int⟩
    · rw [List.getElem?_map, List.getElem?_eq_getElem hl, List.getElem_idxOf hl]; rfl
    · rw [List.getElem?_map] at hz'
      cases e2 : ns[m]? with
      | none => rw [e2] at hz'; cases hz'
      | some w =>
        rw [e2] at hz'
        cases hz'
        obtain ⟨h1, h2⟩ := List.getElem?_eq_some_iff.mp e2
        have hne : w ≠ k := fun q => by
          subst q
          have := List.idxOf_lt_length_iff.mpr hm
          have := List.not_of_lt_findIdx (p := (· == w)) (xs := ns) hm'
          simp [h2] at this
        simp [eqV, hne]
  · cases z
/-! o.clear() -/
def gClrL : D → Option D
  | .lst _ => some (.lst [])
  | _ => none
@[simp] theorem gClrL_lst (ds : List D) : gClrL (.lst ds) = some (.lst []) := (rfl)
def gClrD : D → Option D
  | .dct 0 _ _ => some (.dct 0 [] [])
  | _ => none
@[simp] theorem gClrD_dct (ks vs : List D) : gClrD (.dct 0 ks vs) = some (.dct 0 [] []) := (rfl)
section
variable {κ : Ctx} {ν ν' : List Addr} {η : Hn} {W : WX} {B : Hp} {F Z : List VS} {τ : List V} {ts : List Sl} {σ : L2.St} {sl : List Sl} {H H' : Hp} {v x : V} {s : Sl} {d : D} {ta tb tc te tf : TE} {ma mb mc m : EM} {tr : TA} {as : List EM} {t u : TS} {a b : SM}
theorem wp_chg {i : Nat} {f : D → Option D} {st : Sto} {k : Flow → Sto → Prop} {xx : XS → Sto → Prop} (w : wp (chg i f sl) st k xx) : ∃ d d', sl[i]? = some (.ow d) ∧ f d = some d' ∧ k (.nx (sl.set i (.ow d'))) st := by
  simp only [chg_ap] at w
  cases q : sl[i]? with
  | none => rw [q] at w; exact w.elim
  | some s0 =>
    rw [q] at w
    cases s0 with
    | ow d =>
      simp only [chgK_ow] at w
      cases e : f d with
      | none => rw [e] at w; exact w.elim
      | some d' => rw [e] at w; exact ⟨d, d', rfl, e, w⟩
    | _ => exact w.elim
theorem sim_clrL {i : Nat} {K : PySem.W.Frag} : SimS κ η W (tDrop (tBM0 K "list" rClear (tVar i))) (chg i gClrL) := by
  intro F0 st ν B F σ sl H D so es w
  obtain ⟨d, d', q, e, w⟩ := wp_chg w
  cases d <;> simp only [gClrL, reduceCtorEq, Option.some.injEq] at e
  rename_i ds
  subst e
  obtain ⟨p, hp, hB, vs, g, r⟩ := ow_at es q
  refine ⟨.ref p, hp, tyL g, ?_⟩
  exact ⟨p, vs, rfl, rfl, g, w _ _ σ _ so (es.slotWrite q hp hB (o := .lst []) (d' := .lst []) ⟨[], upd_same, by simp [RDs]⟩)⟩
theorem sim_clrD {i : Nat} {K : PySem.W.Frag} : SimS κ η W (tDrop (tBM0 K "dict" rDClear (tVar i))) (chg i gClrD) := by
  intro F0 st ν B F σ sl H D so es w
  obtain ⟨d, d', q, e, w⟩ := wp_chg w
  match d, e with
  | .dct 0 ks vs, e =>
    simp only [gClrD_dct, Option.some.injEq] at e
    subst e
    obtain ⟨p, hp, hB, o, vs, g, ⟨qs, h1, h2, rfl⟩, r⟩ := ow_at es q
    refine ⟨.ref p, hp, ?_, ?_⟩
    · exact .inr (.inr (.inl ⟨rfl, .inl ⟨_, g⟩⟩))
    exact ⟨p, _, rfl, rfl, g, w _ _ σ _ so (es.slotWrite q hp hB (o := .dK []) (d' := .dct 0 [] []) ⟨_, [], upd_same, ⟨[], rfl, rfl, rfl⟩, by simp [RDs]⟩)⟩
end
/-! a star parameter behind three others -/
theorem bind_star3 {B : List Value → Sem (List (Str × Value))} {p1 p2 p3 pv : Str} (h0 : ∀ a b c, B [a, b, c] = (newTuple [] >>= fun t => pure [(p1, a), (p2, b), (p3, c), (pv, t)])) (h1 : ∀ a b c r rs, B (a :: b :: c :: r :: rs) = (newTuple (r :: rs) >>= fun t => pure [(p1, a), (p2, b), (p3, c), (pv, t)])) :
    ∀ us rest : List Value, us.length = [p1, p2, p3].length → B (us ++ rest) = (newTuple rest >>= fun t => pure ([p1, p2, p3].zip us ++ [(pv, t)]))
  | [a, b, c], [], _ => h0 a b c
  | [a, b, c], r :: rs, _ => h1 a b c r rs
end Dl

/-! ### list(d); C.m() of a static method -/
namespace Dl
open PySem PySem.Spec PyProof.Rows L2 Wp
def fListD : D → Option Sl
  | .dct 0 ks _ => some (.ow (.lst ks))
  | _ => none
@[simp] theorem fListD_dct (ks vs : List D) : fListD (.dct 0 ks vs) = some (.ow (.lst ks)) := (rfl)
theorem keys_rds {κ : Ctx} {ν : List Addr} {Y : Addr → Prop} {H : Hp} : ∀ {ks : List D} {qs : List Key}, ks.map kOf = qs.map some → RDs κ ν Y H ks (qs.map kV)
  | [], [], _ => by simp [RDs]
  | [], _ :: _, e => by simp at e
  | _ :: _, [], e => by simp at e
  | k :: ks, q :: qs, e => by
    simp only [List.map_cons, List.cons.injEq] at e
    have r := keys_rds (κ := κ) (ν := ν) (Y := Y) (H := H) e.2
    rw [List.map_cons]
    simp only [RDs]
    refine ⟨_, _, rfl, ?_, r⟩
    cases k <;> simp only [kOf, reduceCtorEq, false_and] at e
    · obtain ⟨e, _⟩ := e; cases e; simp [RD, kV]
    · obtain ⟨e, _⟩ := e; cases e; simp [RD, kV]
def rListR : List V → Hp → VK → Prop := fun xs H Q => ∃ (a : Addr) (kvs : List (Key × V)), xs = [V.ref a] ∧ Rd H a (.dK kvs) ∧ ∀ p, H p = none → Q (.ref p) (upd H p (.lst (kvs.map fun kv => kV kv.1)))
theorem call_listR {X : Cx} (hc : X.calm = true) : CallR X (.type "list") rListR := call_listD hc
theorem o_listD {κ : Ctx} : OpC1 κ rListR fListD := by
  intro ν Y H x c s Q hc hf hq
  match c, hf with
  | .dct 0 ks ws, hf =>
    cases hf
    obtain ⟨a, o, vs, rfl, g, ⟨qs, e1, e2, rfl⟩, r⟩ := hc.dct
    refine ⟨a, _, rfl, g, fun l hl => ?_⟩
    have e : ((qs.zip vs).map fun kv => kV kv.1) = qs.map kV := by
      have : (qs.zip vs).map Prod.fst = qs := List.map_fst_zip (by omega)
      rw [show ((qs.zip vs).map fun kv => kV kv.1) = ((qs.zip vs).map Prod.fst).map kV by simp [List.map_map, Function.comp_def], this]
    rw [e]
    exact hq.lst (keys_rds e1) hl
end Dl

namespace Dl
open PySem PySem.Spec PyProof.Rows L2 Wp
/-! ### texts: pieces, signs in a text, a walk over the signs, numbers written and read -/
def fSlT : D → D → D → Option Sl
  | .str z, l, h => if z.length ≤ sizeD then (optI l).bind fun lo => (optI h).bind fun hi => some (.sh (.str (cutS z lo hi))) else none
  | _, _, _ => none
@[simp] theorem fSlT_str (z : Str) (l h : D) : fSlT (.str z) l h = if z.length ≤ sizeD then (optI l).bind fun lo => (optI h).bind fun hi => some (.sh (.str (cutS z lo hi))) else none := (rfl)
def slcT (a lo hi : EM) : EM := fun e => bnd (a e) (seqE lo (seqE hi (op3 fSlT)))
@[simp] theorem slcT_ap (a lo hi : EM) (e : Env) : slcT a lo hi e = bnd (a e) (seqE lo (seqE hi (op3 fSlT))) := (rfl)
def oneL : List Nat → Option Nat
  | [c] => some c
  | _ => none
@[simp] theorem oneL_one (c : Nat) : oneL [c] = some c := (rfl)
def oneS (x : Str) : Option Nat := oneL x.cps.toList
@[simp] theorem oneS_mk (c : Nat) : oneS ⟨#[c]⟩ = some c := (rfl)
def fInS : D → D → Option Sl
  | .str x, .str z => (oneS x).bind fun c => shB (decide (c ∈ z.cps.toList))
  | _, _ => none
def fNinS : D → D → Option Sl
  | .str x, .str z => (oneS x).bind fun c => shB (!decide (c ∈ z.cps.toList))
  | _, _ => none
@[simp] theorem fInS_str (x z : Str) : fInS (.str x) (.str z) = (oneS x).bind fun c => shB (decide (c ∈ z.cps.toList)) := (rfl)
@[simp] theorem fNinS_str (x z : Str) : fNinS (.str x) (.str z) = (oneS x).bind fun c => shB (!decide (c ∈ z.cps.toList)) := (rfl)
def fFind : D → D → Option Sl
  | .str x, .str z => shI (Txt.find x z)
  | _, _ => none
@[simp] theorem fFind_str (x z : Str) : fFind (.str x) (.str z) = shI (Txt.find x z) := (rfl)
def isStrT (e : Env) : Bool := match e.ts with
  | .sh (.str _) :: _ => true
  | _ => false
@[simp] theorem isStrT_ap (z : Str) (r sl : List Sl) : isStrT ⟨.sh (.str z) :: r, sl⟩ = true := (rfl)
def findK (b : EM) (e : Env) : C XS Env := iteC (isStrT e) (seqE b (op2 fFind) e) .bad
@[simp] theorem findK_ap (b : EM) (e : Env) : findK b e = iteC (isStrT e) (seqE b (op2 fFind) e) .bad := (rfl)
/-- a.find(b) -/
def findE (a b : EM) : EM := fun e => bnd (a e) (findK b)
@[simp] theorem findE_ap (a b : EM) (e : Env) : findE a b e = bnd (a e) (findK b) := (rfl)
def fIntS : D → Option Sl
  | .str a => if a.length ≤ 640 then (intText? a).bind fun n => shI n else none
  | _ => none
@[simp] theorem fIntS_str (a : Str) : fIntS (.str a) = if a.length ≤ 640 then (intText? a).bind fun n => shI n else none := (rfl)
def fStrI : D → Option Sl
  | .int i => if i.natAbs.log2 < 1920 then some (.sh (.str (toString i))) else none
  | _ => none
@[simp] theorem fStrI_int (i : Int) : fStrI (.int i) = if i.natAbs.log2 < 1920 then some (.sh (.str (toString i))) else none := (rfl)
def strsD : List D → Option (List Str)
  | [] => some []
  | .str z :: r => (strsD r).map (z :: ·)
  | _ :: _ => none
@[simp] theorem strsD_nil : strsD [] = some [] := (rfl)
@[simp] theorem strsD_cons (z : Str) (r : List D) : strsD (.str z :: r) = (strsD r).map (z :: ·) := (rfl)
def fJoin : D → D → Option Sl
  | .str a, .lst ds => (strsD ds).bind fun ys => if (ys.map (·.length)).sum + ys.length * a.length ≤ 16777216 then some (.sh (.str (Txt.join a ys))) else none
  | _, _ => none
@[simp] theorem fJoin_lst (a : Str) (ds : List D) : fJoin (.str a) (.lst ds) = (strsD ds).bind fun ys => if (ys.map (·.length)).sum + ys.length * a.length ≤ 16777216 then some (.sh (.str (Txt.join a ys))) else none := (rfl)
def joinK (b : EM) (e : Env) : C XS Env := iteC (isStrT e) (seqE b (op2 fJoin) e) .bad
@[simp] theorem joinK_ap (b : EM) (e : Env) : joinK b e = iteC (isStrT e) (seqE b (op2 fJoin) e) .bad := (rfl)
/-- a.join(b) -/
def joinE (a b : EM) : EM := fun e => bnd (a e) (joinK b)
@[simp] theorem joinE_ap (a b : EM) (e : Env) : joinE a b e = bnd (a e) (joinK b) := (rfl)
def itSK (s : Sl) (sl : List Sl) : C XS (List D × List Sl) := match s with
  | .sh (.str z) => .ret (z.cps.toList.map fun c => .str ⟨#[c]⟩, sl)
  | _ => .bad
@[simp] theorem itSK_str (z : Str) (sl : List Sl) : itSK (.sh (.str z)) sl = .ret (z.cps.toList.map fun c => .str ⟨#[c]⟩, sl) := (rfl)
/-- the signs of a text -/
def itS (m : EM) : IM := fun sl => bnd (m ⟨[], sl⟩) (topK itSK)
@[simp] theorem itS_ap (m : EM) (sl : List Sl) : itS m sl = bnd (m ⟨[], sl⟩) (topK itSK) := (rfl)
section
variable {κ : Ctx} {ν ν' : List Addr} {η : Hn} {W : WX} {B : Hp} {F Z : List VS} {τ : List V} {ts : List Sl} {σ : L2.St} {sl : List Sl} {H H' : Hp} {v x : V} {s : Sl} {d : D} {ta tb tc te tf : TE} {ma mb mc m : EM} {tr : TA} {as : List EM} {t u : TS} {a b : SM} {tl th : TO}
theorem ld_str {Y : Addr → Prop} {z : Str} (h : LD κ ν Y H (.str z) v) : v = .str z := by
  rcases h with h | ⟨a, e, h⟩
  · simpa only [RD] using h
  · exact h.elim
theorem res_str {Y : Addr → Prop} {Q : VK} {z : Str} (h : Res κ ν Y H (.sh (.str z)) Q) : Q (.str z) H := h.old (by simp only [RD])
theorem oneS_eq {x : Str} {c : Nat} (h : oneS x = some c) : x = ⟨#[c]⟩ := by
  obtain ⟨xs⟩ := x
  unfold oneS at h
  match e : xs.toList, h with
  | [c'], h =>
    cases h
    have : xs = #[c] := by
      apply Array.ext'
      simpa using e
    rw [this]
theorem o_inS : Op2 κ rInS fInS := by
  intro ν Y H x y c d s Q hc hd hf hq
  cases c <;> cases d <;> simp only [fInS, reduceCtorEq] at hf
  simp only [Option.bind_eq_some_iff] at hf
  obtain ⟨n, h1, h2⟩ := hf
  cases h2
  exact ⟨n, _, by rw [ld_str hc, oneS_eq h1], ld_str hd, hq.old (by simp only [RD])⟩
theorem o_ninS : Op2 κ rNotInS fNinS := by
  intro ν Y H x y c d s Q hc hd hf hq
  cases c <;> cases d <;> simp only [fNinS, reduceCtorEq] at hf
  simp only [Option.bind_eq_some_iff] at hf
  obtain ⟨n, h1, h2⟩ := hf
  cases h2
  exact ⟨n, _, by rw [ld_str hc, oneS_eq h1], ld_str hd, hq.old (by simp only [RD])⟩
def rIntS : List V → Hp → VK → Prop := fun xs H Q => ∃ a n, xs = [.str a] ∧ PySem.intText? a = some n ∧ a.length ≤ 640 ∧ Q (.int n) H
theorem w_intS {X : Cx} : CallR X (.type "int") rIntS := call_int_str
theorem o_intS : OpC1 κ rIntS fIntS := by
  intro ν Y H x c s Q hc hf hq
  cases c <;> simp only [fIntS, reduceCtorEq] at hf
  split at hf
  · rename_i z
    simp only [Option.bind_eq_some_iff] at hf
    obtain ⟨n, h1, h2⟩ := hf
    cases h2
    exact ⟨_, n, by rw [ld_str hc], h1, z, hq.int⟩
  · cases hf
def rStrI : List V → Hp → VK → Prop := fun xs H Q => ∃ i, xs = [.int i] ∧ i.natAbs.log2 < 1920 ∧ Q (.str (toString i)) H
theorem w_strI {X : Cx} : CallR X (.type "str") rStrI := call_str_int
theorem o_strI : OpC1 κ rStrI fStrI := by
  intro ν Y H x c s Q hc hf hq
  cases c <;> simp only [fStrI, reduceCtorEq] at hf
  split at hf
  · rename_i z
    cases hf
    exact ⟨_, by rw [hc.int], z, res_str hq⟩
  · cases hf
def rFindS : V → List V → Hp → VK → Prop := fun x xs H Q => ∃ a b, x = .str a ∧ xs = [.str b] ∧ Q (.int (Txt.find a b)) H
theorem mt_findS {X : Cx} : MtR X "str.find" rFindS := mt_find
theorem sim_find {K : PySem.W.Frag} (ha : SimE κ η W ta ma) (hb : SimE κ η W tb mb) : SimE κ η W (tBM K "str" rFindS ta (tCons tb tNil)) (findE ma mb) := by
  intro F0 st ν B F τ ts σ sl H Q so es w
  simp only [findE_ap, wp_bnd] at w
  refine ha so es (wp_mono w (fun e st we ν F x H1 so es1 => ?_) fun _ _ z => z)
  simp only [findK_ap, wp_iteC] at we
  split at we
  case isFalse => exact we.elim
  rename_i it
  obtain ⟨ets, esl⟩ := e
  unfold isStrT at it
  split at it
  case h_2 => cases it
  rename_i z r0 e0
  replace e0 : ets = .sh (.str z) :: r0 := e0
  subst e0
  have lx := ld_str (es1.read (x := x) (s := .sh (.str z)) (d := .str z) (by simp) (by simp))
  subst lx
  refine ⟨rfl, ?_⟩
  simp only [seqE_ap, wp_bnd] at we
  refine hb so es1 (wp_mono we (fun e2 st we2 ν F y H2 so es2 => ?_) fun _ _ z => z)
  obtain ⟨ets2, esl2⟩ := e2
  obtain ⟨sy, r1, rfl⟩ := ts_cons es2.lt
  obtain ⟨sx, r2, rfl⟩ := ts_cons es2.pop.lt
  simp only [op2_ap] at we2
  cases q1 : getV esl2 sx with
  | none => rw [q1] at we2; exact we2.elim
  | some c =>
    cases q2 : getV esl2 sy with
    | none => rw [q1, q2] at we2; exact we2.elim
    | some d =>
      rw [q1, q2] at we2
      simp only [Option.bind_some] at we2
      have l1 := es2.read (x := .str z) (s := sx) (by simp) q1
      have l2 := es2.read (x := y) (s := sy) (by simp) q2
      cases c <;> cases d <;> try exact we2.elim
      rename_i c d
      simp only [fFind_str] at we2
      exact ⟨c, d, ld_str l1, by rw [ld_str l2], we2 _ _ _ _ so (es2.pop.pop.pushR (by simp only [RD]))⟩
def rJoinS (K : PySem.W.Frag) : V → List V → Hp → VK → Prop := fun x xs H Q => ∃ a p, ∃ ys : List Str, x = .str a ∧ xs = [.ref p] ∧ (SqL K H p (ys.map V.str) ∨ SqT K H p (ys.map V.str)) ∧ (ys.map (·.length)).sum + ys.length * a.length ≤ 16777216 ∧ Q (.str (Txt.join a ys)) H
theorem mt_joinS {X : Cx} : MtR X "str.join" (rJoinS X.K) := mt_join
theorem strs_rd {Y : Addr → Prop} : ∀ {ds : List D} {ys : List Str} {vs : List V}, strsD ds = some ys → RDs κ ν Y H ds vs → vs = ys.map V.str
  | [], ys, vs, h, r => by
    simp only [strsD_nil, Option.some.injEq] at h
    subst h
    simpa only [RDs, List.map_nil] using r
  | .str z :: ds, ys, vs, h, r => by
    simp only [strsD_cons, Option.map_eq_some_iff] at h
    obtain ⟨zs, h1, rfl⟩ := h
    simp only [RDs, RD] at r
    obtain ⟨v, w, rfl, rfl, r⟩ := r
    rw [strs_rd h1 r]
    rfl
theorem sim_join {K : PySem.W.Frag} (eK : κ.K = K) (ha : SimE κ η W ta ma) (hb : SimE κ η W tb mb) : SimE κ η W (tBM K "str" (rJoinS K) ta (tCons tb tNil)) (joinE ma mb) := by
  subst eK
  intro F0 st ν B F τ ts σ sl H Q so es w
  simp only [joinE_ap, wp_bnd] at w
  refine ha so es (wp_mono w (fun e st we ν F x H1 so es1 => ?_) fun _ _ z => z)
  simp only [joinK_ap, wp_iteC] at we
  split at we
  case isFalse => exact we.elim
  rename_i it
  obtain ⟨ets, esl⟩ := e
  unfold isStrT at it
  split at it
  case h_2 => cases it
  rename_i z r0 e0
  replace e0 : ets = .sh (.str z) :: r0 := e0
  subst e0
  have lx := ld_str (es1.read (x := x) (s := .sh (.str z)) (d := .str z) (by simp) (by simp))
  subst lx
  refine ⟨rfl, ?_⟩
  simp only [seqE_ap, wp_bnd] at we
  refine hb so es1 (wp_mono we (fun e2 st we2 ν F y H2 so es2 => ?_) fun _ _ z => z)
  obtain ⟨ets2, esl2⟩ := e2
  obtain ⟨sy, r1, rfl⟩ := ts_cons es2.lt
  obtain ⟨sx, r2, rfl⟩ := ts_cons es2.pop.lt
  simp only [op2_ap] at we2
  cases q1 : getV esl2 sx with
  | none => rw [q1] at we2; exact we2.elim
  | some c =>
    cases q2 : getV esl2 sy with
    | none => rw [q1, q2] at we2; exact we2.elim
    | some d =>
      rw [q1, q2] at we2
      simp only [Option.bind_some] at we2
      have l1 := es2.read (x := .str z) (s := sx) (by simp) q1
      have l2 := es2.read (x := y) (s := sy) (by simp) q2
      cases c <;> cases d <;> try exact we2.elim
      rename_i c ds
      simp only [fJoin_lst] at we2
      cases q3 : strsD ds with
      | none => rw [q3] at we2; exact we2.elim
      | some ys =>
        rw [q3] at we2
        simp only [Option.bind_some] at we2
        split at we2
        · rename_i hz
          obtain ⟨p, vs, rfl, g, r⟩ := l2.lst
          rw [strs_rd q3 r] at g
          exact ⟨c, p, ys, ld_str l1, rfl, .inl (SqL.of g), hz, we2 _ _ _ _ so (es2.pop.pop.pushR (by simp only [RD]))⟩
        · exact we2.elim
theorem sim_slcT (ha : SimE κ η W ta ma) (hl : SimO κ η W tl mb) (hh : SimO κ η W th mc) : SimE κ η W (tSl rSlS ta tl th) (slcT ma mb mc) := by
  intro F0 st ν B F τ ts σ sl H Q so es w
  simp only [slcT_ap, wp_bnd] at w
  refine ha so es (wp_mono w (fun e st we ν F x H1 so es1 => ?_) fun _ _ z => z)
  simp only [seqE_ap, wp_bnd] at we
  obtain ⟨ets, esl⟩ := e
  refine hl so es1 (wp_mono we (fun e2 st we2 ν F lo H2 so es2 => ?_) fun _ _ z => z)
  obtain ⟨ets2, esl2⟩ := e2
  refine hh so es2 (wp_mono we2 (fun e3 st we3 ν F hi H3 so es3 => ?_) fun _ _ z => z)
  obtain ⟨ets3, esl3⟩ := e3
  obtain ⟨sh', r1, rfl⟩ := ts_cons es3.lt
  obtain ⟨sl', r2, rfl⟩ := ts_cons es3.pop.lt
  obtain ⟨sx, r3, rfl⟩ := ts_cons es3.pop.pop.lt
  simp only [op3_ap] at we3
  cases q1 : getV esl3 sx with
  | none => rw [q1] at we3; exact we3.elim
  | some c =>
    cases q2 : getV esl3 sl' with
    | none => rw [q1, q2] at we3; exact we3.elim
    | some dl =>
      cases q3 : getV esl3 sh' with
      | none => rw [q1, q2, q3] at we3; exact we3.elim
      | some dh =>
        rw [q1, q2, q3] at we3
        simp only [Option.bind_some] at we3
        have l1 := es3.read (x := x) (s := sx) (by simp) q1
        have l2 := ld_oV (es3.read (x := oV lo) (s := sl') (by simp) q2)
        have l3 := ld_oV (es3.read (x := oV hi) (s := sh') (by simp) q3)
        cases c with
        | str z =>
          simp only [fSlT_str, l2, l3, Option.bind_some] at we3
          split at we3
          · rename_i hz
            exact ⟨z, ld_str l1, szD hz, we3 _ _ _ _ so (es3.pop.pop.pop.pushR (by simp only [RD]))⟩
          · exact we3.elim
        | _ => exact we3.elim
theorem simi_str (he : SimE κ η W te m) : SimI κ η W (iStr te) (itS m) := by
  intro F0 st ν B F σ sl H R so es w
  simp only [itS_ap, wp_bnd] at w
  refine he so es (wp_mono w (fun e st we ν F v H1 so es1 => ?_) fun _ _ z => z)
  obtain ⟨s, e1, we⟩ := wp_topK we
  obtain ⟨ets, esl⟩ := e
  replace e1 : ets = [s] := e1
  subst e1
  unfold itSK at we
  split at we
  case h_2 => exact we.elim
  rename_i z _
  have l := es1.read (x := v) (s := .sh (.str z)) (d := .str z) (by simp) (by simp)
  have pn := so.pin es1.pop.pinU
  refine ⟨z, ld_str l, we _ _ _ _ _ pn.1 pn.2 fun ν H Z er _ => ⟨fun i d e => ?_, ?_⟩⟩
  · rw [List.getElem?_map, Option.map_eq_some_iff] at e
    obtain ⟨c, e1, rfl⟩ := e
    have hi : i < z.cps.size := by simpa using (List.getElem?_eq_some_iff.mp e1).1
    refine ⟨hi, fun x H' y => ?_⟩
    obtain ⟨rfl, c', e2, rfl⟩ := y
    have : c' = c := by
      rw [← Array.getElem?_toList, e1] at e2
      exact (Option.some.inj e2).symm
    subst this
    exact .inl ⟨rfl, by simp only [RD]⟩
  · show z.cps.size ≤ _
    simp
end
end Dl

namespace Dl
open PySem PySem.Spec PyProof.Rows L2 Wp WpT WpK
/-! ### an error that is kept: try: .. except C as e: x = e -/
def keepK (i j : Nat) (x : Exc) (sl : List Sl) : C XS Flow := iteC (decide (x.ns = exN x.cls) && (decide (x.vs.length = x.ns.length) && decide (i < sl.length))) (.ret (.nx ((sl.set i .unk).set j (.sh (.abs (300 + x.cls) x.vs))))) .bad
@[simp] theorem keepK_ap (i j : Nat) (x : Exc) (sl : List Sl) : keepK i j x sl = iteC (decide (x.ns = exN x.cls) && (decide (x.vs.length = x.ns.length) && decide (i < sl.length))) (.ret (.nx ((sl.set i .unk).set j (.sh (.abs (300 + x.cls) x.vs))))) .bad := (rfl)
def keepG (ks cs : List Nat) (i j : Nat) (x : XS) : C XS Flow := iteC (ks.contains x.1.cls) (iteC (cs.contains x.1.cls) (keepK i j x.1 x.2) (.exc x)) .bad
@[simp] theorem keepG_ap (ks cs : List Nat) (i j : Nat) (x : Exc) (sl : List Sl) : keepG ks cs i j (x, sl) = iteC (ks.contains x.cls) (iteC (cs.contains x.cls) (keepK i j x sl) (.exc (x, sl))) .bad := (rfl)
def keepS (ks : List Nat) (a : SM) (cs : List Nat) (i j : Nat) : SM := fun sl => cat (a sl) (keepG ks cs i j)
@[simp] theorem keepS_ap (ks : List Nat) (a : SM) (cs : List Nat) (i j : Nat) (sl : List Sl) : keepS ks a cs i j sl = cat (a sl) (keepG ks cs i j) := (rfl)
/-- e.f, e a kept error of the class c -/
def fXk (c f : Nat) : D → Option Sl
  | .abs n vs => if n = 300 + c then (fldD (exN c) vs f).map .sh else none
  | _ => none
@[simp] theorem fXk_abs (c f n : Nat) (vs : List D) : fXk c f (.abs n vs) = if n = 300 + c then (fldD (exN c) vs f).map .sh else none := (rfl)
/-- isinstance(e, C), e a kept error: bs are the classes that are below C -/
def fIsK (ks bs : List Nat) : D → Option Sl
  | .abs n _ => if 300 ≤ n ∧ n - 300 ∈ ks then shB (bs.contains (n - 300)) else none
  | _ => none
@[simp] theorem fIsK_abs (ks bs : List Nat) (n : Nat) (vs : List D) : fIsK ks bs (.abs n vs) = if 300 ≤ n ∧ n - 300 ∈ ks then shB (bs.contains (n - 300)) else none := (rfl)
/-- no other thing has such a number -/
structure KxC (κ : Ctx) : Prop where
  ab : ∀ n ds a o, 300 ≤ n → ¬ κ.ab n ds a o
  kb : ∀ n a, 300 ≤ n → ¬ κ.kb n a
section
variable {κ : Ctx} {ν ν' : List Addr} {η : Hn} {W : WX} {B : Hp} {F Z : List VS} {τ : List V} {ts : List Sl} {σ : L2.St} {sl : List Sl} {H H' : Hp} {v x : V} {s : Sl} {d : D} {ta tb tc te tf : TE} {ma mb mc m : EM} {tr : TA} {as : List EM} {t u : TS} {a b : SM}
theorem ld_kx (hk : KxC κ) {Y : Addr → Prop} {n : Nat} {ds : List D} (h : LD κ ν Y H (.abs n ds) v) (n3 : 300 ≤ n) : ∃ a oe, v = .ref a ∧ H a = some (kxO oe) ∧ oe.cls = .ref (κ.cls (n - 300)) ∧ (∃ us, oe.data = .fields us) ∧
    ((oe.dict = none ∧ ds = []) ∨ ∃ dd vs, oe.dict = some dd ∧ ¬ Y dd ∧ H dd = some (.xd (((exN (n - 300)).map nm).zip vs)) ∧ (exN (n - 300)).length = vs.length ∧ RDs κ ν Y H ds vs) := by
  rcases h with h | ⟨a, _, h⟩
  · simp only [RD] at h
    obtain ⟨a, e, ⟨o, _, g, r⟩ | r | ⟨m3, ny, oe, g, c, f, t⟩⟩ := h
    · rcases r with r | r
      · omega
      · exact absurd r.1 (hk.ab _ _ _ _ n3)
    · exact absurd r (hk.kb _ _ n3)
    · exact ⟨a, oe, e, g, c, f, t⟩
  · have : n = 99 := h.1
    omega
def rXk (C : Addr) (f : Str) : V → Hp → VK → Prop := fun x H1 Q => ∃ (a : Addr) (oe : Obj) (dd : Addr) (fs : List (Str × V)) (v : V), x = .ref a ∧ H1 a = some (WpK.kxO oe) ∧ oe.cls = .ref C ∧ (∃ us, oe.data = .fields us) ∧
  oe.dict = some dd ∧ H1 dd = some (.xd fs) ∧ fs.lookup f = some v ∧ Q v H1
theorem o_xk (hk : KxC κ) {c f : Nat} {g : Str} (eg : nm f = g) : Op1 κ (rXk (κ.cls c) g) (fXk c f) := by
  subst eg
  intro ν Y H x d s Q hc hf hq
  cases d <;> simp only [fXk, reduceCtorEq] at hf
  rename_i n vs
  split at hf
  case isFalse => cases hf
  rename_i z
  subst z
  rw [Option.map_eq_some_iff] at hf
  obtain ⟨e, h1, rfl⟩ := hf
  obtain ⟨a, oe, rfl, g, hcl, hd, t⟩ := ld_kx hk hc (by omega)
  rw [Nat.add_sub_cancel_left] at hcl t
  rcases t with ⟨_, rfl⟩ | ⟨dd, us, t1, t2, t3, t4, t5⟩
  · cases q : exN c <;> simp [q, fldD] at h1
  · obtain ⟨u, hu, ru⟩ := lk_fld t5 t4 h1
    exact ⟨a, oe, dd, _, u, rfl, g, hcl, hd, t1, t3, hu, hq.old ru⟩
theorem sim_xk (hk : KxC κ) {c f : Nat} {g : Str} (eg : nm f = g) (ha : SimE κ η W ta ma) : SimE κ η W (tXk (κ.cls c) g ta) (un1 (fXk c f) ma) :=
  (sim_op1 (o_xk hk eg) ha : SimE κ η W (tUn (rXk (κ.cls c) g) ta) (un1 (fXk c f) ma))
theorem sim_isK (hk : KxC κ) {K : PySem.W.Frag} {ks bs : List Nat} {cx : V} {cv : Value} (hcv : ∀ u, RelV cx u → u = cv) (hC : ∀ n ∈ ks, ExcC K (κ.cls n)) (hi : ∀ n ∈ ks, PySem.W.kitOne K (.ref (κ.cls n)) cv = some (bs.contains n)) (ha : SimE κ η W ta ma) : SimE κ η W (tCB (rIsK K) (tCons ta (tCons (tC cx) tNil))) (un1 (fIsK ks bs) ma) := by
  have o : Op1 κ (fun x H Q => rIsK K [x, cx] H Q) (fIsK ks bs) := by
    intro ν Y H x d s Q hc hf hq
    cases d <;> simp only [fIsK, reduceCtorEq] at hf
    rename_i n vs
    split at hf
    case isFalse => cases hf
    rename_i z
    cases hf
    obtain ⟨a, oe, rfl, g, hcl, hd, t⟩ := ld_kx hk hc z.1
    refine ⟨a, oe, _, cx, cv, _, rfl, g, hcl, hd, ?_, hC _ z.2, hcv, hi _ z.2, hq.bl⟩
    rcases t with ⟨t, _⟩ | ⟨dd, us, t1, _, t3, _⟩
    · exact .inl t
    · exact .inr ⟨dd, _, t1, t3⟩
  exact (sim_op1 (r := fun x H Q => rIsK K [x, cx] H Q) o ha : SimE κ η W (tUn (fun x H Q => rIsK K [x, cx] H Q) ta) (un1 (fIsK ks bs) ma))
theorem sim_keep {K : PySem.W.Frag} {sf : Option V} {N : List Addr} {kn : List VS} {p : Bool} {i j : Nat} {ks cs : List Nat} {tb : WX → TS} {cv : Value} (hb : ∀ W', SimS κ (ηx sf N p i kn) W' (tb W') a) (he : ∀ n ∈ ks, PySem.W.exmOne K (.ref (κ.cls n)) cv = some (cs.contains n))
    (hij : i ≠ j) (hj : (ηx sf N p i kn).ok j) (ho : sf = none ∨ i ≠ 0 := by first | exact Or.inl rfl | exact Or.inr (by decide)) :
    SimS κ (ηx sf N p i kn) W (fun D σ H => tb (wKp K W D cv i fun _ _ _ => tAsg (tVar i) (gName j)) D σ H) (keepS ks a cs i j) := by
  intro F0 st ν B F σ sl H D so es w
  simp only [keepS_ap, wp_cat] at w
  refine hb _ so es (wp_mono w (fun _ _ z => z) fun x st wx ν F σ' c d H' so' es' ex => ?_)
  obtain ⟨x, sl'⟩ := x
  simp only [keepG_ap, wp_iteC] at wx
  split at wx
  case isFalse => exact wx.elim
  rename_i hks
  have hk : x.cls ∈ ks := by simpa using hks
  refine ⟨cs.contains x.cls, by rw [ex.1]; exact he _ hk, fun hc ad oe had hz hd => ?_, fun hc => ?_⟩
  · rw [if_pos hc] at wx
    simp only [keepK_ap, wp_iteC, Bool.and_eq_true, decide_eq_true_eq] at wx
    split at wx
    case isFalse => exact wx.elim
    rename_i hn
    obtain ⟨n1, n2, hi0⟩ := hn
    have xt : Xt κ H' (upd H' ad (Dl.kxO oe)) := Xt.new (Xt.refl _) had
    have es1 := es'.ext xt
    have es2 := es1.unkI (i := i) (w := none) (.inl ho)
    have nY : ∀ b u, H' b = some u → OS F [] [] (σ'.set i none) (sl'.set i .unk) b → OA (σ'.zip sl' ++ F) b := fun b u hb z => by
      obtain ⟨e, m⟩ := z
      simp only [zA, zT, List.map_nil, List.zip_nil_left, List.nil_append] at m
      refine ⟨e, ?_⟩
      rcases List.mem_append.mp m with m | m
      · rcases mem_zip_set m with ⟨y1, _⟩ | m
        · cases y1
        · exact List.mem_append_left _ m
      · exact List.mem_append_right _ m
    have ny : ¬ OS F [] [] (σ'.set i none) (sl'.set i .unk) ad := fun z => by
      obtain ⟨e, m⟩ := z
      simp only [zA, zT, List.map_nil, List.zip_nil_left, List.nil_append] at m
      have m2 : (some (V.ref ad), Sl.ow e) ∈ zA [] [] σ' sl' F := by
        simp only [zA, zT, List.map_nil, List.zip_nil_left, List.nil_append]
        rcases List.mem_append.mp m with m | m
        · rcases mem_zip_set m with ⟨y1, _⟩ | m
          · cases y1
          · exact List.mem_append_left _ m
        · exact List.mem_append_right _ m
      obtain ⟨u, hu, _⟩ := OA.some es'.er ⟨e, m2⟩
      rw [had] at hu; cases hu
    have rd : RD κ ν (OS F [] [] (σ'.set i none) (sl'.set i .unk)) (upd H' ad (Dl.kxO oe)) (.abs (300 + x.cls) x.vs) (.ref ad) := by
      simp only [RD]
      refine ⟨ad, rfl, .inr (.inr ⟨by omega, ny, oe, upd_same, by rw [Nat.add_sub_cancel_left, hz.1]; exact ex.1, hd, ?_⟩)⟩
      rw [Nat.add_sub_cancel_left]
      rcases ex.2 with ⟨e1, e2⟩ | ⟨dd, vs, e1, ndd, g, l, r⟩
      · refine .inl ⟨by rw [hz.2]; exact e2, ?_⟩
        rw [e1] at n2
        exact List.eq_nil_of_length_eq_zero n2
      · refine .inr ⟨dd, vs, by rw [hz.2]; exact e1, fun z => ndd (nY _ _ g z), ?_, by rw [← n1]; exact l, (r.mono fun b u hb z => nY _ _ hb z).ext xt⟩
        rw [← n1, upd_ne (fun z => by rw [z, had] at g; cases g)]
        exact g
    have es3 := (es2.pushR rd).store (i := j) hj (fun _ => nofun) (fun _ => nofun)
    have hi : i < σ'.length := by rw [es'.ls]; exact hi0
    refine ⟨.ref ad, List.getElem?_set_self hi, ?_⟩
    have eσ : ((σ'.set i (some (.ref ad))).set j (some (.ref ad))).set i none = (σ'.set i none).set j (some (.ref ad)) := by
      rw [List.set_comm _ _ (fun z => hij z.symm), List.set_set]
    show D.nx (((σ'.set i (some (.ref ad))).set j (some (.ref ad))).set i none) (upd H' ad (WpK.kxO oe))
    rw [eσ]
    exact wx _ _ _ _ so' es3
  · rw [if_neg (by rw [hc]; decide)] at wx
    exact wx _ _ σ' c d H' so' es' ex
end
theorem kxC_mkC {K : PySem.W.Frag} {w : World} {cls fns : Nat → Addr} : KxC (mkC K w cls fns) := by
  refine ⟨fun n ds a o h z => ?_, fun n a h z => ?_⟩
  · obtain ⟨m, rfl⟩ : ∃ m, n = m + 2 := ⟨n - 2, by omega⟩
    exact z
  · have z' : kbD K fns n a := z
    unfold kbD at z'
    split at z'
    · omega
    · omega
    · omega
    · exact z'
end Dl

namespace Dl
noncomputable section
def is_figures_L1 : SM := seqS (ifS (bin fNinS (rf 1) (cst (.str "0123456789"))) (retS (cst (.bl false))) (nop)) (fgt [1])
theorem is_figures_L1_ap (sl : List Sl) : is_figures_L1 sl = (seqS (ifS (bin fNinS (rf 1) (cst (.str "0123456789"))) (retS (cst (.bl false))) (nop)) (fgt [1])) sl := (rfl)
def M_is_figures : Fn := mkFn 1 2 (seqS (ifS (orE (un1 fNot (un1 (fIsi .str) (rf 0))) (orE (bin fLt (un1 fLen (rf 0)) (cst (.int 1))) (bin fGt (un1 fLen (rf 0)) (cst (.int 6))))) (retS (cst (.bl false))) (nop)) (seqS (forS (itS (var 0)) (.name 1) is_figures_L1) (retS (orE (bin fEq (un1 fLen (rf 0)) (cst (.int 1))) (bin fNe (bin fIx (rf 0) (cst (.int 0))) (cst (.str "0")))))))
def M_read_number : Fn := mkFn 1 1 (seqS (ifS (un1 fNot (callE M_is_figures [rf 0])) (raiS 1 [0, 1] [cst (.str "number"), rf 0]) (nop)) (retS (un1 fIntS (rf 0))))
def _law_due_L1 : SM := seqS (setS 3 (findE (cst (.str "0123456789")) (var 2))) (seqS (ifS (bin fLt (rf 3) (cst (.int 0))) (retS (cst .non)) (nop)) (seqS (setS 1 (bin fAdd (bin fMulT (rf 1) (cst (.int 10))) (rf 3))) (fgt [2, 3])))
theorem _law_due_L1_ap (sl : List Sl) : _law_due_L1 sl = (seqS (setS 3 (findE (cst (.str "0123456789")) (var 2))) (seqS (ifS (bin fLt (rf 3) (cst (.int 0))) (retS (cst .non)) (nop)) (seqS (setS 1 (bin fAdd (bin fMulT (rf 1) (cst (.int 10))) (rf 3))) (fgt [2, 3])))) sl := (rfl)
def M__law_due : Fn := mkFn 1 4 (seqS (ifS (orE (bin fLt (un1 fLen (rf 0)) (cst (.int 1))) (orE (bin fGt (un1 fLen (rf 0)) (cst (.int 6))) (andE (bin fGt (un1 fLen (rf 0)) (cst (.int 1))) (bin fEq (bin fIx (rf 0) (cst (.int 0))) (cst (.str "0")))))) (retS (cst .non)) (nop)) (seqS (setS 1 (cst (.int 0))) (seqS (forS (itS (var 0)) (.name 2) _law_due_L1) (retS (mov 1)))))
def M__law_is_integer : Fn := mkFn 1 1 (retS (andE (un1 (fIsi .int) (rf 0)) (un1 fNot (un1 (fIsi .bool) (rf 0)))))
def M__law_holds : Fn := mkFn 1 5 (seqS (setS 1 (cst .non)) (seqS (setS 2 (cst .non)) (seqS (keepS [1] (setS 1 (callE M_read_number [rf 0])) [1] 3 2) (seqS (setS 4 (callE M__law_due [rf 0])) (seqS (ifS (un1 fIsN (rf 4)) (seqS (ifS (orE (un1 fIsN (rf 2)) (un1 (fIsK [1] []) (rf 2))) (retS (cst (.bl false))) (nop)) (retS (andE (bin fEq (un1 (fXk 1 0) (rf 2)) (cst (.str "number"))) (bin fEq (un1 (fXk 1 1) (rf 2)) (rf 0))))) (nop)) (retS (andE (un1 fIsN (rf 2)) (andE (callE M__law_is_integer [rf 1]) (bin fEq (rf 1) (rf 4))))))))))
def law_L1 : SM := seqS (setS 2 (bin fAdd (rf 2) (un1 fStrI (callE M__law_draw [rf 0, rf 1, cst (.int 10)])))) (fgt [3])
theorem law_L1_ap (sl : List Sl) : law_L1 sl = (seqS (setS 2 (bin fAdd (rf 2) (un1 fStrI (callE M__law_draw [rf 0, rf 1, cst (.int 10)])))) (fgt [3])) sl := (rfl)
def law_L2 : SM := seqS (ifS (un1 fNot (callE M__law_holds [rf 6])) (retS (cst (.bl false))) (nop)) (fgt [6])
theorem law_L2_ap (sl : List Sl) : law_L2 sl = (seqS (ifS (un1 fNot (callE M__law_holds [rf 6])) (retS (cst (.bl false))) (nop)) (fgt [6])) sl := (rfl)
def law_B8 : SM := retS (cst (.bl true))
theorem law_B8_ap (sl : List Sl) : law_B8 sl = (retS (cst (.bl true))) sl := (rfl)
def law_B7 : SM := seqS (forS (itE (bin fAdd (lstE [var 2]) (rf 4))) (.name 6) law_L2) (law_B8)
theorem law_B7_ap (sl : List Sl) : law_B7 sl = (seqS (forS (itE (bin fAdd (lstE [var 2]) (rf 4))) (.name 6) law_L2) (law_B8)) sl := (rfl)
def law_B6 : SM := seqS (setS 4 (lstE [cst (.str ""), cst (.str "0"), cst (.str "00"), cst (.str "01"), cst (.str "999999"), cst (.str "1000000"), cst (.str "100000"), cst (.str " 1"), cst (.str "1 "), cst (.str "-1"), cst (.str "+1"), cst (.str "1\n"), cst (.str "1_0")])) (law_B7)
theorem law_B6_ap (sl : List Sl) : law_B6 sl = (seqS (setS 4 (lstE [cst (.str ""), cst (.str "0"), cst (.str "00"), cst (.str "01"), cst (.str "999999"), cst (.str "1000000"), cst (.str "100000"), cst (.str " 1"), cst (.str "1 "), cst (.str "-1"), cst (.str "+1"), cst (.str "1\n"), cst (.str "1_0")])) (law_B7)) sl := (rfl)
def law_B5 : SM := seqS (ifS (andE (bin fEq (callE M__law_draw [rf 0, rf 1, cst (.int 3)]) (cst (.int 0))) (bin fGt (un1 fLen (rf 2)) (cst (.int 0)))) (seqS (setS 4 (cst (.str "-+a .,_\n"))) (seqS (setS 5 (callE M__law_draw [rf 0, rf 1, un1 fLen (rf 2)])) (setS 2 (bin fAdd (bin fAdd (slcT (rf 2) (cst .non) (prt (rf 5))) (bin fIx (rf 4) (callE M__law_draw [rf 0, rf 1, un1 fLen (rf 4)]))) (slcT (rf 2) (prt (bin fAdd (rf 5) (cst (.int 1)))) (cst .non)))))) (nop)) (law_B6)
theorem law_B5_ap (sl : List Sl) : law_B5 sl = (seqS (ifS (andE (bin fEq (callE M__law_draw [rf 0, rf 1, cst (.int 3)]) (cst (.int 0))) (bin fGt (un1 fLen (rf 2)) (cst (.int 0)))) (seqS (setS 4 (cst (.str "-+a .,_\n"))) (seqS (setS 5 (callE M__law_draw [rf 0, rf 1, un1 fLen (rf 2)])) (setS 2 (bin fAdd (bin fAdd (slcT (rf 2) (cst .non) (prt (rf 5))) (bin fIx (rf 4) (callE M__law_draw [rf 0, rf 1, un1 fLen (rf 4)]))) (slcT (rf 2) (prt (bin fAdd (rf 5) (cst (.int 1)))) (cst .non)))))) (nop)) (law_B6)) sl := (rfl)
def law_B4 : SM := seqS (ifS (bin fEq (callE M__law_draw [rf 0, rf 1, cst (.int 4)]) (cst (.int 0))) (setS 2 (bin fAdd (cst (.str "0")) (rf 2))) (nop)) (law_B5)
theorem law_B4_ap (sl : List Sl) : law_B4 sl = (seqS (ifS (bin fEq (callE M__law_draw [rf 0, rf 1, cst (.int 4)]) (cst (.int 0))) (setS 2 (bin fAdd (cst (.str "0")) (rf 2))) (nop)) (law_B5)) sl := (rfl)
def law_B3 : SM := seqS (forS (itRng1 (callE M__law_draw [rf 0, rf 1, cst (.int 9)])) (.name 3) law_L1) (law_B4)
theorem law_B3_ap (sl : List Sl) : law_B3 sl = (seqS (forS (itRng1 (callE M__law_draw [rf 0, rf 1, cst (.int 9)])) (.name 3) law_L1) (law_B4)) sl := (rfl)
def law_B2 : SM := seqS (setS 2 (cst (.str ""))) (law_B3)
theorem law_B2_ap (sl : List Sl) : law_B2 sl = (seqS (setS 2 (cst (.str ""))) (law_B3)) sl := (rfl)
def law_B1 : SM := seqS (setS 1 (callE M__law_start [rf 0])) (law_B2)
theorem law_B1_ap (sl : List Sl) : law_B1 sl = (seqS (setS 1 (callE M__law_start [rf 0])) (law_B2)) sl := (rfl)
def M_law : Fn := mkFn 1 7 (law_B1)
end
end Dl
namespace Dl
open PySem (Str)
/-! ### operations on plain values, in one step -/
@[simp high] theorem op2_shsh (f : D → D → Option Sl) (c d : D) (r sl : List Sl) : op2 f ⟨.sh d :: .sh c :: r, sl⟩ = pushO r sl (f c d) := (rfl)
@[simp high] theorem op1_sh (f : D → Option Sl) (c : D) (r sl : List Sl) : op1 f ⟨.sh c :: r, sl⟩ = pushO r sl (f c) := (rfl)
/-! ### loops and comprehensions, told without the machine -/
theorem lcL_eq {g : Tg} {own : List Nat} {test elt : EM} {sl : List Sl} (p : D → Bool) (f : D → D) : ∀ (ds acc : List D),
    (∀ d ∈ ds, ∃ sl1, g.set d sl = some sl1 ∧ test ⟨[], sl1⟩ = .ret ⟨[.sh (.bl (p d))], sl1⟩ ∧ (p d = true → elt ⟨[], sl1⟩ = .ret ⟨[.sh (f d)], sl1⟩) ∧ unkA own sl1 = sl) → acc.length + ds.length ≤ sizeD →
    lcL g own test elt ds acc sl = .ret (acc ++ (ds.filter p).map f, sl)
  | [], acc, _, _ => by simp
  | d :: ds, acc, h, hl => by
    obtain ⟨sl1, h1, h2, h3, h4⟩ := h d (by simp)
    have ih := lcL_eq (g := g) (own := own) (test := test) (elt := elt) (sl := sl) p f ds
    simp only [List.length_cons] at hl
    rw [lcL_cons, h1]
    simp only [lcTu_some, h2, noX_ret, bnd_ret, topK_ap, lcTs_ap, getV_sh, lcTk_bl]
    cases hp : p d with
    | false =>
      rw [iteC_f, h4, ih acc (fun e he => h e (by simp [he])) (by omega)]
      simp [hp]
    | true =>
      rw [iteC_t, h3 hp]
      simp only [noX_ret, bnd_ret, topK_ap, lcEl_sh]
      rw [show decide (acc.length < sizeD) = true from by simp; omega, iteC_t, h4, ih (acc ++ [f d]) (fun e he => h e (by simp [he])) (by simp; omega)]
      simp [hp]
theorem eqDs_ints : ∀ ns ms : List Int, eqDs (ns.map .int) (ms.map .int) = decide (ns = ms)
  | [], [] => by simp [eqDs]
  | [], _ :: _ => by simp [eqDs]
  | _ :: _, [] => by simp [eqDs]
  | n :: ns, m :: ms => by
    simp only [List.map_cons, eqDs, eqD, eqDs_ints ns ms]
    by_cases h : n = m <;> by_cases h2 : ns = ms <;> simp [h, h2]
@[simp] theorem plains_ints (k : Nat) : ∀ ns : List Int, plains k (ns.map .int) = true
  | [] => by simp [plains]
  | n :: ns => by simp [plains, plain, plains_ints k ns]
@[simp] theorem plains_nil (k : Nat) : plains k [] = true := by simp [plains]
@[simp] theorem plains_cons (k : Nat) (d : D) (ds : List D) : plains k (d :: ds) = (plain k d && plains k ds) := by simp [plains]
@[simp] theorem plain_int (k : Nat) (i : Int) : plain k (.int i) = true := by cases k <;> simp [plain]
@[simp] theorem plain_bl (k : Nat) (i : Bool) : plain k (.bl i) = true := by cases k <;> simp [plain]
@[simp] theorem plain_non (k : Nat) : plain k .non = true := by cases k <;> simp [plain]
@[simp] theorem plain_str (k : Nat) (s : Str) : plain k (.str s) = strOk s := by cases k <;> simp [plain]
@[simp] theorem plain_tup (k : Nat) (ds : List D) : plain (k + 1) (.tup ds) = plains k ds := by simp [plain]
@[simp] theorem plain_lst (k : Nat) (ds : List D) : plain (k + 1) (.lst ds) = plains k ds := by simp [plain]
@[simp] theorem plain_tup60 (ds : List D) : plain 60 (.tup ds) = plains 59 ds := by simp [plain]
@[simp] theorem plain_lst60 (ds : List D) : plain 60 (.lst ds) = plains 59 ds := by simp [plain]
@[simp] theorem plain_tup59 (ds : List D) : plain 59 (.tup ds) = plains 58 ds := by simp [plain]
@[simp] theorem plain_lst59 (ds : List D) : plain 59 (.lst ds) = plains 58 ds := by simp [plain]
@[simp] theorem plain_tup58 (ds : List D) : plain 58 (.tup ds) = plains 57 ds := by simp [plain]
@[simp] theorem plain_lst58 (ds : List D) : plain 58 (.lst ds) = plains 57 ds := by simp [plain]
@[simp] theorem eqDs_nil : eqDs [] [] = true := by simp [eqDs]
@[simp] theorem eqDs_cons (x y : D) (xs ys : List D) : eqDs (x :: xs) (y :: ys) = (eqD x y && eqDs xs ys) := by simp [eqDs]
@[simp] theorem eqDs_nc (y : D) (ys : List D) : eqDs [] (y :: ys) = false := by simp [eqDs]
@[simp] theorem eqDs_cn (y : D) (ys : List D) : eqDs (y :: ys) [] = false := by simp [eqDs]
@[simp] theorem eqD_int2 (i j : Int) : eqD (.int i) (.int j) = decide (i = j) := by by_cases h : i = j <;> simp [eqD, h]
@[simp] theorem eqD_bl2 (i j : Bool) : eqD (.bl i) (.bl j) = decide (i = j) := by by_cases h : i = j <;> simp [eqD, h]
@[simp] theorem eqD_str2 (i j : Str) : eqD (.str i) (.str j) = decide (i = j) := by simp [eqD]
@[simp] theorem eqD_tup2 (i j : List D) : eqD (.tup i) (.tup j) = eqDs i j := by simp [eqD]
@[simp] theorem eqD_lst2 (i j : List D) : eqD (.lst i) (.lst j) = eqDs i j := by simp [eqD]
@[simp] theorem eqD_non2 : eqD .non .non = true := by simp [eqD]
@[simp] theorem noMuts_ints (ns : List Int) : noMuts (ns.map .int) = true := by simp [noMuts_all]
theorem any_ints (ns : List Int) (i : Int) : (ns.map .int).any (fun y => eqD y (.int i)) = decide (i ∈ ns) := by
  induction ns with
  | nil => simp
  | cons n ns ih =>
    simp only [List.map_cons, List.any_cons, ih, eqD_int2, List.mem_cons]
    by_cases h : n = i
    · simp [h]
    · simp [h, Ne.symm h]
@[simp] theorem any_comp (ns : List Int) (i : Int) : ns.any ((fun y => eqD y (.int i)) ∘ D.int) = decide (i ∈ ns) := by
  have := any_ints ns i
  rwa [List.any_map] at this
theorem insSort_len (ns : List Int) : (insSort ns).length = ns.length := (insSort_perm ns).length_eq
theorem insSort_id {ns : List Int} (h : ns.Pairwise (· ≤ ·)) : insSort ns = ns := (sorted_eq (List.Perm.refl ns) h).symm
theorem pw_le {ns : List Int} (h : ns.Pairwise (· < ·)) : ns.Pairwise (· ≤ ·) := h.imp fun h => Int.le_of_lt h
@[simp] theorem asInts_app : ∀ xs ys : List D, asInts (xs ++ ys) = (asInts xs).bind fun a => (asInts ys).map (a ++ ·)
  | [], ys => by cases h : asInts ys <;> simp [h]
  | x :: xs, ys => by
    cases x <;> simp [asInts]
    rw [asInts_app xs ys]
    cases asInts xs <;> cases asInts ys <;> simp
theorem filter_true {α : Type} (xs : List α) : xs.filter (fun _ => true) = xs := by simp
theorem lcL_ints {g : Tg} {own : List Nat} {test elt : EM} {sl : List Sl} (p : Int → Bool) (f : Int → D) (ns : List Int) (acc : List D)
    (h : ∀ i ∈ ns, ∃ sl1, g.set (.int i) sl = some sl1 ∧ test ⟨[], sl1⟩ = .ret ⟨[.sh (.bl (p i))], sl1⟩ ∧ (p i = true → elt ⟨[], sl1⟩ = .ret ⟨[.sh (f i)], sl1⟩) ∧ unkA own sl1 = sl) (hl : acc.length + ns.length ≤ sizeD) :
    lcL g own test elt (ns.map .int) acc sl = .ret (acc ++ (ns.filter p).map f, sl) := by
  rw [lcL_eq (fun d => match d with | .int i => p i | _ => false) (fun d => match d with | .int i => f i | _ => d)]
  · congr 3
    induction ns with
    | nil => rfl
    | cons n ns ih =>
      have := ih (fun i hi => h i (by simp [hi])) (by simp at hl; omega)
      simp only [List.map_cons, List.filter_cons]
      by_cases hp : p n = true <;> simp [hp, this]
  · intro d hd
    obtain ⟨i, hi, rfl⟩ := List.mem_map.mp hd
    exact h i hi
  · simpa using hl
/-- a comprehension whose test draws: any part of the list -/
theorem lcL_part {g : Tg} {own : List Nat} {test elt : EM} {sl : List Sl} {s : Sto} {k : List D × List Sl → Sto → Prop} {x : XS → Sto → Prop} (ns : List Int) : ∀ acc : List D,
    (∀ i ∈ ns, ∃ sl1, g.set (.int i) sl = some sl1 ∧ (∀ K X, (∀ b, K (⟨[.sh (.bl b)], sl1⟩ : Env) s) → Wq (test ⟨[], sl1⟩) s K X) ∧ elt ⟨[], sl1⟩ = .ret ⟨[.sh (.int i)], sl1⟩ ∧ unkA own sl1 = sl) → acc.length + ns.length ≤ sizeD →
    (∀ ms : List Int, ms.Sublist ns → k (acc ++ ms.map .int, sl) s) → Wq (lcL g own test elt (ns.map .int) acc sl) s k x := by
  induction ns with
  | nil => intro acc _ _ hk; simpa using hk [] (List.Sublist.refl _)
  | cons n ns ih =>
    intro acc h hl hk
    obtain ⟨sl1, h1, h2, h3, h4⟩ := h n (by simp)
    simp only [List.length_cons] at hl
    rw [List.map_cons, lcL_cons, h1]
    simp only [lcTu_some, wq_bnd, wq_noX]
    refine h2 _ _ fun b => ?_
    simp only [topK_ap, lcTs_ap, getV_sh, lcTk_bl]
    cases b with
    | false =>
      rw [iteC_f, h4]
      exact ih acc (fun i hi => h i (by simp [hi])) (by omega) fun ms hm => hk ms (hm.cons n)
    | true =>
      rw [iteC_t, h3]
      simp only [noX_ret, bnd_ret, topK_ap, lcEl_sh]
      rw [show decide (acc.length < sizeD) = true from by simp; omega, iteC_t, h4]
      exact ih (acc ++ [.int n]) (fun i hi => h i (by simp [hi])) (by simp; omega) fun ms hm => by
        have := hk (n :: ms) (hm.cons_cons n)
        simpa using this
mutual
theorem eqD_refl : ∀ (n : Nat) (d : D), plain n d = true → eqD d d = true
  | _, .non, _ => by simp
  | _, .bl b, _ => by simp
  | _, .int i, _ => by simp
  | _, .str s, _ => by simp
  | 0, .tup ds, h => by simp [plain] at h
  | 0, .lst ds, h => by simp [plain] at h
  | n + 1, .tup ds, h => by simp only [eqD_tup2]; exact eqDs_refl n ds (by simpa using h)
  | n + 1, .lst ds, h => by simp only [eqD_lst2]; exact eqDs_refl n ds (by simpa using h)
  | _, .dct _ _ _, h => by simp [plain] at h
  | _, .ins _ _ _, h => by simp [plain] at h
  | _, .abs _ _, h => by simp [plain] at h
  | _, .fn _, h => by simp [plain] at h
  | _, .loc _, h => by simp [plain] at h
theorem eqDs_refl : ∀ (n : Nat) (ds : List D), plains n ds = true → eqDs ds ds = true
  | _, [], _ => by simp
  | n, d :: ds, h => by
    simp only [plains_cons, Bool.and_eq_true] at h
    simp only [eqDs_cons, eqD_refl n d h.1, eqDs_refl n ds h.2, Bool.and_self]
end
theorem fEq_self {d : D} (h : plain 60 d = true) : fEq d d = shB true := by simp [fEq, h, eqD_refl 60 d h]
theorem fNe_self {d : D} (h : plain 60 d = true) : fNe d d = shB false := by simp [fNe, h, eqD_refl 60 d h]
theorem fEq_lnil (l : List Int) : fEq (.lst (l.map .int)) (.lst []) = shB (decide (l = [])) := by
  cases l <;> simp [fEq]
@[simp] theorem fEq_nil2 : fEq (.lst []) (.lst []) = shB true := by simp [fEq]
theorem all_map_bl (ns : List Int) (p : Int → Bool) : asBools (ns.map fun i => .bl (p i)) = some (ns.map p) := by
  rw [show (ns.map fun i => D.bl (p i)) = (ns.map p).map .bl by simp, asBools_map]
/-- a comprehension over things of a kind -/
theorem lcL_typ {α : Type} {g : Tg} {own : List Nat} {test elt : EM} {sl : List Sl} (e : α → D) (p : α → Bool) (f : α → D) : ∀ (as : List α) (acc : List D),
    (∀ a ∈ as, ∃ sl1, g.set (e a) sl = some sl1 ∧ test ⟨[], sl1⟩ = .ret ⟨[.sh (.bl (p a))], sl1⟩ ∧ (p a = true → elt ⟨[], sl1⟩ = .ret ⟨[.sh (f a)], sl1⟩) ∧ unkA own sl1 = sl) → acc.length + as.length ≤ sizeD →
    lcL g own test elt (as.map e) acc sl = .ret (acc ++ (as.filter p).map f, sl)
  | [], acc, _, _ => by simp
  | a :: as, acc, h, hl => by
    obtain ⟨sl1, h1, h2, h3, h4⟩ := h a (by simp)
    have ih := lcL_typ (g := g) (own := own) (test := test) (elt := elt) (sl := sl) e p f as
    simp only [List.length_cons] at hl
    rw [List.map_cons, lcL_cons, h1]
    simp only [lcTu_some, h2, noX_ret, bnd_ret, topK_ap, lcTs_ap, getV_sh, lcTk_bl]
    cases hp : p a with
    | false =>
      rw [iteC_f, h4, ih acc (fun e he => h e (by simp [he])) (by omega)]
      simp [hp]
    | true =>
      rw [iteC_t, h3 hp]
      simp only [noX_ret, bnd_ret, topK_ap, lcEl_sh]
      rw [show decide (acc.length < sizeD) = true from by simp; omega, iteC_t, h4, ih (acc ++ [f a]) (fun e he => h e (by simp [he])) (by simp; omega)]
      simp [hp]

/-! ### k02: numbers read -/
def tx (cs : List Nat) : Str := ⟨cs.toArray⟩
def T (cs : List Nat) : D := .str (tx cs)
def As (cs : List Nat) : Prop := ∀ c ∈ cs, c < 128
theorem strOk_tx {cs : List Nat} (h : As cs) : strOk (tx cs) = true := by
  simp only [strOk, tx, List.all_toArray, List.all_eq_true, decide_eq_true_eq]
  intro c hc
  have := h c hc
  omega
theorem len_T {cs : List Nat} (h : cs.length ≤ 100) : fLen (T cs) = shI cs.length := by
  have : cs.length ≤ sizeD := by simp [sizeD]; omega
  simp [T, tx, fLen, this]
theorem ix_T {cs : List Nat} (h : cs.length ≤ 100) (i : Int) : fIx (T cs) (.int i) = (atD cs i).map fun c => .sh (T [c]) := by
  have : cs.length ≤ sizeD := by simp [sizeD]; omega
  simp [T, tx, fIx, this]
theorem eq_T {a b : List Nat} (ha : As a) (hb : As b) : fEq (T a) (T b) = shB (decide (a = b)) := by
  simp [T, fEq, strOk_tx ha, strOk_tx hb]
  simp [tx]
theorem ne_T {a b : List Nat} (ha : As a) (hb : As b) : fNe (T a) (T b) = shB (!decide (a = b)) := by
  simp [T, fNe, strOk_tx ha, strOk_tx hb]
  simp [tx]
theorem add_T {a b : List Nat} (h : a.length + b.length ≤ 100) : fAdd (T a) (T b) = some (.sh (T (a ++ b))) := by
  have : a.length + b.length ≤ sizeD := by simp [sizeD]; omega
  simp [T, tx, fAdd, this]
theorem t_0 : (.str "0" : D) = T [48] := congrArg D.str (by decide +kernel)
theorem t_dg : ("0123456789" : Str) = tx [48, 49, 50, 51, 52, 53, 54, 55, 56, 57] := by decide +kernel
def isDg (c : Nat) : Bool := decide (48 ≤ c) && decide (c ≤ 57)
theorem nin_T (c : Nat) : fNinS (T [c]) (.str "0123456789") = shB (!isDg c) := by
  have : decide (c ∈ [48, 49, 50, 51, 52, 53, 54, 55, 56, 57]) = isDg c := by
    unfold isDg
    rw [← Bool.decide_and]
    apply decide_eq_decide.mpr
    simp only [List.mem_cons, List.not_mem_nil, or_false]
    omega
  rw [t_dg]
  simp only [T, fNinS_str]
  simp only [tx, oneS_mk, Option.bind_some, this]
theorem find_T0 : ∀ c < 128, PySem.Txt.find "0123456789" (tx [c]) = if isDg c = true then (c : Int) - 48 else -1 := by decide +kernel
theorem find_T {c : Nat} (h : c < 128) : fFind (.str "0123456789") (T [c]) = shI (if isDg c = true then (c : Int) - 48 else -1) := by
  simp only [T, fFind_str, find_T0 c h]
def val : Int → List Nat → Int
  | n, [] => n
  | n, c :: cs => val (n * 10 + ((c : Int) - 48)) cs
theorem step_dg {c : Nat} (h : 48 ≤ c ∧ c ≤ 57) (a : Array Nat) (b : Bool) : PySem.NumText.step 10 (a, b) c = some (a.push (c - 48), true) := by
  unfold PySem.NumText.step PySem.NumText.digit?
  have h1 : (c == 95) = false := by simp; omega
  have h2 : (decide (48 ≤ c) && decide (c ≤ 57)) = true := by simp; omega
  have h3 : c - 48 < 10 := by omega
  simp [h1, h2, h3]
theorem dd_fold : ∀ (cs : List Nat) (a : List Nat) (b : Bool), cs.all isDg = true → ∃ (a' : List Nat) (b' : Bool), cs.foldlM (PySem.NumText.step 10) (a.toArray, b) = some (a'.toArray, b') ∧
    ((a'.foldl (fun acc d => acc * 10 + d) 0 : Nat) : Int) = val ((a.foldl (fun acc d => acc * 10 + d) 0 : Nat) : Int) cs ∧ a'.length = a.length + cs.length ∧ (b = true ∨ cs ≠ [] → b' = true)
  | [], a, b, _ => ⟨a, b, rfl, rfl, rfl, by simp⟩
  | c :: cs, a, b, h => by
    simp only [List.all_cons, Bool.and_eq_true] at h
    have hc : 48 ≤ c ∧ c ≤ 57 := by simpa [isDg] using h.1
    obtain ⟨a', b', e, e1, e2, e3⟩ := dd_fold cs (a ++ [c - 48]) true h.2
    refine ⟨a', b', ?_, ?_, ?_, fun _ => e3 (.inl rfl)⟩
    · rw [List.foldlM_cons, step_dg hc]
      have : (a.toArray.push (c - 48)) = (a ++ [c - 48]).toArray := by simp
      rw [this]
      exact e
    · rw [e1, List.foldl_append]
      simp only [val, List.foldl_cons, List.foldl_nil]
      congr 1
      omega
    · rw [e2]; simp; omega
theorem intText_T {cs : List Nat} (h : cs.all isDg = true) (h1 : cs ≠ []) (h2 : cs.length ≤ 6) : PySem.intText? (tx cs) = some (val 0 cs) := by
  have dg : ∀ c ∈ cs, 48 ≤ c ∧ c ≤ 57 := fun c hc => by
    have := List.all_eq_true.mp h c hc
    simpa [isDg] using this
  have a1 : (tx cs).cps.all (· < 128) = true := by
    simp only [tx, List.all_toArray, List.all_eq_true, decide_eq_true_eq]
    intro c hc; have := dg c hc; omega
  have n1 : PySem.numTextOf (tx cs) = cs := by
    unfold PySem.numTextOf
    rw [if_pos a1]
    simp [tx]
  have tw : ∀ l : List Nat, (∀ c ∈ l, c ≠ 0) → l.takeWhile (· != 0) = l := by
    intro l
    induction l with
    | nil => intro _; rfl
    | cons c l ih =>
      intro hl
      rw [List.takeWhile_cons, if_pos (by simpa using hl c (by simp)), ih fun d hd => hl d (by simp [hd])]
  have n2 : PySem.numSeenOf (tx cs) = cs := by
    unfold PySem.numSeenOf
    rw [n1, tw cs fun c hc => by have := dg c hc; omega]
  have nb : ∀ c ∈ cs, PySem.NumText.blank c = false := fun c hc => by
    have := dg c hc
    simp [PySem.NumText.blank]
    omega
  have dw : ∀ l : List Nat, (∀ c ∈ l, PySem.NumText.blank c = false) → l.dropWhile PySem.NumText.blank = l := by
    intro l hl
    cases l with
    | nil => rfl
    | cons c l => rw [List.dropWhile_cons, if_neg (by rw [hl c (by simp)]; decide)]
  have sg : PySem.NumText.sign cs = (false, cs) := by
    cases cs with
    | nil => exact absurd rfl h1
    | cons c cs =>
      have := dg c (by simp)
      unfold PySem.NumText.sign
      split
      · rename_i r hr; simp at hr; omega
      · rename_i r hr; simp at hr; omega
      · rfl
  obtain ⟨a', b', e, e1, e2, e3⟩ := dd_fold cs [] false h
  have e4 := e3 (.inr h1)
  subst e4
  have ed : PySem.NumText.digits? 10 (PySem.NumText.core cs) = some a'.toArray := by
    unfold PySem.NumText.core
    rw [dw cs nb, sg]
    simp only
    rw [dw cs.reverse (fun c hc => nb c (by simpa using hc)), List.reverse_reverse]
    unfold PySem.NumText.digits?
    rw [e]; rfl
  simp only [List.length_nil, Nat.zero_add] at e2
  unfold PySem.intText?
  rw [n1, n2, dw cs nb, sg, ed]
  simp only [beq_self_eq_true, if_true]
  rw [if_pos (by simp; omega)]
  simp only [PySem.NumText.worth, List.foldl_toArray, List.size_toArray]
  simp at e1
  simp [e1]
theorem intS_T {cs : List Nat} (h : cs.all isDg = true) (h1 : cs ≠ []) (h2 : cs.length ≤ 6) : fIntS (T cs) = shI (val 0 cs) := by
  have : (tx cs).length ≤ 640 := by show cs.toArray.size ≤ 640; simp; omega
  simp only [T, fIntS_str, if_pos this, intText_T h h1 h2, Option.bind_some]
/-! the functions -/
theorem itS_T (cs : List Nat) (sl : List Sl) : itSK (.sh (T cs)) sl = .ret (cs.map fun c => T [c], sl) := by
  simp only [T, itSK_str]
  simp [tx]
theorem isi_T (cs : List Nat) : fIsi .str (T cs) = shB true := rfl
theorem fig_loop {o : Sl} : ∀ (cs : List Nat) (o2 : Sl), (cs.all isDg = true → ∃ o', forL (.name 1) is_figures_L1 (cs.map fun c => T [c]) [o, o2] = .ret (.nx [o, o'])) ∧
    (cs.all isDg = false → forL (.name 1) is_figures_L1 (cs.map fun c => T [c]) [o, o2] = .ret (.rt (.sh (.bl false)) []))
  | [], o2 => ⟨fun _ => ⟨o2, by simp⟩, fun h => by simp at h⟩
  | c :: cs, o2 => by
    have ih := fig_loop (o := o) cs .unk
    rw [List.map_cons, forL_cons]
    simp only [Tg.set_name, turnK_some, List.set_cons_succ, List.set_cons_zero]
    rw [is_figures_L1_ap]
    have n := nin_T c
    cases hc : isDg c with
    | true =>
      rw [hc] at n
      simp [n, hc]
      simpa using ih
    | false =>
      rw [hc] at n
      refine ⟨fun h => ?_, fun _ => ?_⟩
      · simp [hc] at h
      · simp [n]
theorem isTy_T (cs : List Nat) : isTy .str (T cs) = some true := rfl
def okT (cs : List Nat) : Bool := decide (1 ≤ cs.length) && (decide (cs.length ≤ 6) && (cs.all isDg && (decide (cs.length = 1) || !decide (cs.head? = some 48))))
theorem is_figures_eq {cs : List Nat} (h : cs.length ≤ 100) (ha : As cs) : M_is_figures [T cs] = .ret (.sh (.bl (okT cs))) := by
  have hl := len_T h
  have hx := ix_T h 0
  obtain ⟨f1, f2⟩ := fig_loop (o := .sh (T cs)) cs .unk
  have g1 : ((cs.length : Int) < 1) = (cs.length < 1) := propext ⟨fun h => by omega, fun h => by omega⟩
  have g6 : ((6 : Int) < cs.length) = (6 < cs.length) := propext ⟨fun h => by omega, fun h => by omega⟩
  have g2 : ((cs.length : Int) = 1) = (cs.length = 1) := propext ⟨fun h => by omega, fun h => by omega⟩
  by_cases h1 : cs.length < 1
  · have e : okT cs = false := by unfold okT; rw [decide_eq_false (by omega : ¬ 1 ≤ cs.length)]; rfl
    simp [M_is_figures, isTy_T, hl, g1, g2, g6, h1, e]
  by_cases h6 : 6 < cs.length
  · have e : okT cs = false := by unfold okT; rw [decide_eq_false (by omega : ¬ cs.length ≤ 6)]; simp
    simp [M_is_figures, isTy_T, hl, g1, g2, g6, h1, h6, e]
  have d1 : decide (1 ≤ cs.length) = true := by simp; omega
  have d6 : decide (cs.length ≤ 6) = true := by simp; omega
  cases hd : cs.all isDg with
  | false =>
    have e := f2 hd
    have e2 : okT cs = false := by unfold okT; rw [hd]; simp
    simp [M_is_figures, isTy_T, hl, g1, g2, g6, h1, h6, itS_T, e, e2]
  | true =>
    obtain ⟨o', e⟩ := f1 hd
    by_cases hn : cs.length = 1
    · have e2 : okT cs = true := by unfold okT; rw [hd, d1, d6, decide_eq_true hn]; rfl
      simp [M_is_figures, isTy_T, hl, g1, g2, g6, itS_T, e, e2, hn]
    · obtain ⟨c, a0, ah, hc⟩ : ∃ c, atD cs 0 = some c ∧ cs.head? = some c ∧ c ∈ cs := by
        cases cs with
        | nil => simp at h1
        | cons c r => exact ⟨c, by rw [atD_pos _ (by decide)]; rfl, rfl, by simp⟩
      have e2 : okT cs = !decide (c = 48) := by unfold okT; rw [hd, d1, d6, decide_eq_false hn, ah]; simp
      have n0 : fNe (T [c]) (.str "0") = shB (!decide (c = 48)) := by
        rw [t_0, ne_T (fun d hd => by rcases List.mem_singleton.mp hd with rfl; exact ha _ hc) (fun d hd => by rcases List.mem_singleton.mp hd with rfl; decide)]
        simp
      rw [a0] at hx
      simp [M_is_figures, isTy_T, hl, g1, g2, g6, h1, h6, itS_T, e, e2, hn, hx, n0]
theorem okT_true {cs : List Nat} (ok : okT cs = true) : cs.all isDg = true ∧ cs ≠ [] ∧ cs.length ≤ 6 := by
  simp only [okT, Bool.and_eq_true, decide_eq_true_eq] at ok
  exact ⟨ok.2.2.1, fun z => by rw [z] at ok; simp at ok, ok.2.1⟩
theorem read_ok {cs : List Nat} (h : cs.length ≤ 100) (ha : As cs) (ok : okT cs = true) : M_read_number [T cs] = .ret (.sh (.int (val 0 cs))) := by
  obtain ⟨h1, h2, h3⟩ := okT_true ok
  simp [M_read_number, is_figures_eq h ha, ok, intS_T h1 h2 h3]
theorem read_bad {cs : List Nat} (h : cs.length ≤ 100) (ha : As cs) (ok : okT cs = false) : M_read_number [T cs] = .exc ⟨1, [1, 0], [T cs, .str "number"]⟩ := by
  simp [M_read_number, is_figures_eq h ha, ok]
theorem due_loop {o : Sl} : ∀ (cs : List Nat) (n : Int), As cs → (cs.all isDg = true → forL (.name 2) _law_due_L1 (cs.map fun c => T [c]) [o, .sh (.int n), .unk, .unk] = .ret (.nx [o, .sh (.int (val n cs)), .unk, .unk])) ∧
    (cs.all isDg = false → forL (.name 2) _law_due_L1 (cs.map fun c => T [c]) [o, .sh (.int n), .unk, .unk] = .ret (.rt (.sh .non) []))
  | [], n, _ => ⟨fun _ => by simp [val], fun h => by simp at h⟩
  | c :: cs, n, ha => by
    have ih := due_loop (o := o) cs (n * 10 + ((c : Int) - 48)) fun d hd => ha d (by simp [hd])
    have f := find_T (ha c (by simp))
    rw [List.map_cons, forL_cons]
    simp only [Tg.set_name, turnK_some, List.set_cons_succ, List.set_cons_zero]
    rw [_law_due_L1_ap]
    cases hc : isDg c with
    | true =>
      rw [hc] at f
      have c48 : 48 ≤ c ∧ c ≤ 57 := by simpa [isDg] using hc
      have l0 : ¬ ((c : Int) - 48 < 0) := by omega
      simp [f, hc, l0] at ih ⊢
      simpa [val] using ih
    | false =>
      rw [hc] at f
      refine ⟨fun h => ?_, fun _ => ?_⟩
      · simp [hc] at h
      · simp [f]
theorem due_eq {cs : List Nat} (h : cs.length ≤ 100) (ha : As cs) : M__law_due [T cs] = .ret (.sh (if okT cs = true then .int (val 0 cs) else .non)) := by
  have hl := len_T h
  have hx := ix_T h 0
  obtain ⟨f1, f2⟩ := due_loop (o := .sh (T cs)) cs 0 ha
  have g1 : ((cs.length : Int) < 1) = (cs.length < 1) := propext ⟨fun h => by omega, fun h => by omega⟩
  have g6 : ((6 : Int) < cs.length) = (6 < cs.length) := propext ⟨fun h => by omega, fun h => by omega⟩
  have g2 : ((1 : Int) < cs.length) = (1 < cs.length) := propext ⟨fun h => by omega, fun h => by omega⟩
  by_cases h1 : cs.length < 1
  · have e : okT cs = false := by unfold okT; rw [decide_eq_false (by omega : ¬ 1 ≤ cs.length)]; rfl
    simp [M__law_due, hl, g1, g2, g6, h1, e]
  by_cases h6 : 6 < cs.length
  · have e : okT cs = false := by unfold okT; rw [decide_eq_false (by omega : ¬ cs.length ≤ 6)]; simp
    simp [M__law_due, hl, g1, g2, g6, h1, h6, e]
  have d1 : decide (1 ≤ cs.length) = true := by simp; omega
  have d6 : decide (cs.length ≤ 6) = true := by simp; omega
  obtain ⟨c, a0, ah, hc⟩ : ∃ c, atD cs 0 = some c ∧ cs.head? = some c ∧ c ∈ cs := by
    cases cs with
    | nil => simp at h1
    | cons c r => exact ⟨c, by rw [atD_pos _ (by decide)]; rfl, rfl, by simp⟩
  have n0 : fEq (T [c]) (.str "0") = shB (decide (c = 48)) := by
    rw [t_0, eq_T (fun d hd => by rcases List.mem_singleton.mp hd with rfl; exact ha _ hc) (fun d hd => by rcases List.mem_singleton.mp hd with rfl; decide)]
    simp
  rw [a0] at hx
  have e0 : okT cs = (cs.all isDg && (decide (cs.length = 1) || !decide (c = 48))) := by unfold okT; rw [d1, d6, ah]; simp
  by_cases hn : 1 < cs.length
  · have hn1 : ¬ cs.length = 1 := by omega
    by_cases hz : c = 48
    · have e : okT cs = false := by rw [e0]; simp [hn1, hz]
      subst hz
      simp [M__law_due, hl, g1, g2, g6, h1, h6, hn, hx, n0, e]
    · cases hd : cs.all isDg with
      | true =>
        have e : okT cs = true := by rw [e0, hd]; simp [hz]
        simp [M__law_due, hl, g1, g2, g6, h1, h6, hn, hx, n0, hz, e, itS_T, f1 hd]
      | false =>
        have e : okT cs = false := by rw [e0, hd]; simp
        simp [M__law_due, hl, g1, g2, g6, h1, h6, hn, hx, n0, hz, e, itS_T, f2 hd]
  · have hn1 : cs.length = 1 := by omega
    cases hd : cs.all isDg with
    | true =>
      have e : okT cs = true := by rw [e0, hd]; simp [hn1]
      simp [M__law_due, hl, g1, g2, g6, h1, h6, hn, e, itS_T, f1 hd]
    | false =>
      have e : okT cs = false := by rw [e0, hd]; simp
      simp [M__law_due, hl, g1, g2, g6, h1, h6, hn, e, itS_T, f2 hd]
theorem isi_int (n : Int) : M__law_is_integer [.int n] = .ret (.sh (.bl true)) := by simp [M__law_is_integer]
theorem eq_num : fEq (.str "number") (.str "number") = shB true := by
  have : strOk "number" = true := by decide +kernel
  simp [fEq, this]
theorem isNon_kx (n : Nat) (vs : List D) : isNon (.abs n vs) = false := rfl
theorem isn_T (cs : List Nat) : fIsN (T cs) = shB false := rfl
theorem holds_eq {cs : List Nat} (h : cs.length ≤ 100) (ha : As cs) : M__law_holds [T cs] = .ret (.sh (.bl true)) := by
  cases ok : okT cs with
  | true =>
    have r := read_ok h ha ok
    have d := due_eq h ha
    rw [ok, if_pos rfl] at d
    simp [M__law_holds, r, d, isi_int]
  | false =>
    have r := read_bad h ha ok
    have d := due_eq h ha
    rw [ok, if_neg (by decide)] at d
    have q := eq_T ha ha
    simp [M__law_holds, r, d, eq_num, q, exN, isNon_kx]
/-! the law -/
def OkL (cs : List Nat) (m : Nat) : Prop := As cs ∧ cs.length ≤ m
theorem OkL.app {a b : List Nat} {m n : Nat} (ha : OkL a m) (hb : OkL b n) : OkL (a ++ b) (m + n) := by
  refine ⟨fun c hc => ?_, by have := ha.2; have := hb.2; simp; omega⟩
  rcases List.mem_append.mp hc with h | h
  · exact ha.1 c h
  · exact hb.1 c h
theorem OkL.one {c m : Nat} (h : c < 128) (hm : 1 ≤ m) : OkL [c] m := ⟨fun d hd => by rcases List.mem_singleton.mp hd with rfl; exact h, by simpa using hm⟩
theorem strI_T {i : Int} (h0 : 0 ≤ i) (h1 : i < 10) : fStrI (.int i) = some (.sh (T [48 + i.toNat])) := by
  have : i = 0 ∨ i = 1 ∨ i = 2 ∨ i = 3 ∨ i = 4 ∨ i = 5 ∨ i = 6 ∨ i = 7 ∨ i = 8 ∨ i = 9 := by omega
  have e : (fStrI (.int i)) = some (.sh (.str (toString i))) := by
    rw [fStrI_int, if_pos]
    rcases this with rfl | rfl | rfl | rfl | rfl | rfl | rfl | rfl | rfl | rfl <;> decide +kernel
  rw [e]
  rcases this with rfl | rfl | rfl | rfl | rfl | rfl | rfl | rfl | rfl | rfl <;> exact congrArg (fun z => some (Sl.sh (.str z))) (by decide +kernel)
theorem text_loop {k : Flow → Sto → Prop} {x : XS → Sto → Prop} : ∀ (n : Nat) (v : Int) (cs : List Nat) (m : Nat), OkL cs m → m + n ≤ 20 →
    (∀ cs', OkL cs' (m + n) → k (.nx [.sh (.abs 1 []), .sh (.abs 0 []), .sh (T cs'), .unk, .unk, .unk, .unk]) []) →
    Wq (forL (.name 3) law_L1 (rangeL v n) [.sh (.abs 1 []), .sh (.abs 0 []), .sh (T cs), .unk, .unk, .unk, .unk]) [] k x
  | 0, v, cs, m, h, hm, hk => by simpa using hk cs h
  | n + 1, v, cs, m, h, hm, hk => by
    rw [rangeL_s, forL_cons]
    simp only [Tg.set_name, turnK_some, wq_bnd, List.set_cons_succ, List.set_cons_zero]
    rw [law_L1_ap]
    simp [-fStrI_int]
    intro i h0 h1
    have a := h.app (OkL.one (c := 48 + i.toNat) (m := 1) (by omega) (by omega))
    have ad := add_T (a := cs) (b := [48 + i.toNat]) (by have := a.2; simp at this ⊢; omega)
    simp [-fStrI_int, strI_T h0 h1, ad]
    exact text_loop n (v + 1) _ (m + 1) a (by omega) fun cs' h' => hk cs' (by rw [show m + (n + 1) = m + 1 + n by omega]; exact h')
theorem cases_loop {o0 o1 o2 o3 o4 o5 o6 : Sl} : ∀ (xs : List (List Nat)), (∀ y ∈ xs, OkL y 100) → ∃ o6', forL (.name 6) law_L2 (xs.map T) [o0, o1, o2, o3, o4, o5, o6] = .ret (.nx [o0, o1, o2, o3, o4, o5, o6'])
  | [], _ => ⟨o6, by simp⟩
  | y :: xs, h => by
    have hy := h y (by simp)
    obtain ⟨z, ih⟩ := cases_loop (o0 := o0) (o1 := o1) (o2 := o2) (o3 := o3) (o4 := o4) (o5 := o5) (o6 := .unk) xs fun z hz => h z (by simp [hz])
    refine ⟨z, ?_⟩
    rw [List.map_cons, forL_cons]
    simp only [Tg.set_name, turnK_some, List.set_cons_succ, List.set_cons_zero]
    rw [law_L2_ap]
    simp [holds_eq hy.2 hy.1]
    exact ih

/-! ### k02: the law -/
theorem t_e : (.str "" : D) = T [] := congrArg D.str (by decide +kernel)
theorem odd_at {i : Int} (h0 : 0 ≤ i) (h1 : i < 8) : ∃ c, c < 128 ∧ fIx (.str "-+a .,_\n") (.int i) = some (.sh (T [c])) := by
  have e : (.str "-+a .,_\n" : D) = T [45, 43, 97, 32, 46, 44, 95, 10] := congrArg D.str (by decide +kernel)
  rw [e, ix_T (by decide)]
  have : i = 0 ∨ i = 1 ∨ i = 2 ∨ i = 3 ∨ i = 4 ∨ i = 5 ∨ i = 6 ∨ i = 7 := by omega
  rcases this with rfl | rfl | rfl | rfl | rfl | rfl | rfl | rfl
  · exact ⟨45, by decide, by rw [atD_pos _ (by decide)]; rfl⟩
  · exact ⟨43, by decide, by rw [atD_pos _ (by decide)]; rfl⟩
  · exact ⟨97, by decide, by rw [atD_pos _ (by decide)]; rfl⟩
  · exact ⟨32, by decide, by rw [atD_pos _ (by decide)]; rfl⟩
  · exact ⟨46, by decide, by rw [atD_pos _ (by decide)]; rfl⟩
  · exact ⟨44, by decide, by rw [atD_pos _ (by decide)]; rfl⟩
  · exact ⟨95, by decide, by rw [atD_pos _ (by decide)]; rfl⟩
  · exact ⟨10, by decide, by rw [atD_pos _ (by decide)]; rfl⟩
theorem fixed : [(.str "" : D), .str "0", .str "00", .str "01", .str "999999", .str "1000000", .str "100000", .str " 1", .str "1 ", .str "-1", .str "+1", .str "1\n", .str "1_0"] =
    [[], [48], [48, 48], [48, 49], [57, 57, 57, 57, 57, 57], [49, 48, 48, 48, 48, 48, 48], [49, 48, 48, 48, 48, 48], [32, 49], [49, 32], [45, 49], [43, 49], [49, 10], [49, 95, 48]].map T := by
  have e : ∀ (z : Str) (cs : List Nat), z = tx cs → (.str z : D) = T cs := fun z cs h => congrArg D.str h
  simp only [List.map_cons, List.map_nil]
  rw [e "" [] (by decide +kernel), e "0" [48] (by decide +kernel), e "00" [48, 48] (by decide +kernel), e "01" [48, 49] (by decide +kernel), e "999999" [57, 57, 57, 57, 57, 57] (by decide +kernel), e "1000000" [49, 48, 48, 48, 48, 48, 48] (by decide +kernel),
    e "100000" [49, 48, 48, 48, 48, 48] (by decide +kernel), e " 1" [32, 49] (by decide +kernel), e "1 " [49, 32] (by decide +kernel), e "-1" [45, 49] (by decide +kernel), e "+1" [43, 49] (by decide +kernel), e "1\n" [49, 10] (by decide +kernel), e "1_0" [49, 95, 48] (by decide +kernel)]
def fx : List (List Nat) := [[], [48], [48, 48], [48, 49], [57, 57, 57, 57, 57, 57], [49, 48, 48, 48, 48, 48, 48], [49, 48, 48, 48, 48, 48], [32, 49], [49, 32], [45, 49], [43, 49], [49, 10], [49, 95, 48]]
theorem fx_ok : ∀ y ∈ fx, OkL y 100 := by
  intro y hy
  have a : fx.all (fun y => y.all (· < 128) && decide (y.length ≤ 100)) = true := by decide
  have := List.all_eq_true.mp a y hy
  simp only [Bool.and_eq_true, decide_eq_true_eq, List.all_eq_true] at this
  exact ⟨fun c hc => this.1 c hc, this.2⟩
def fxD : List D := fx.map T
theorem sl_T {cs : List Nat} {m : Nat} (h : OkL cs m) (hm : m ≤ 100) {lo hi : D} {a b : Option Int} (h1 : optI lo = some a) (h2 : optI hi = some b) : ∃ cs', OkL cs' m ∧ fSlT (T cs) lo hi = some (.sh (T cs')) := by
  have hl : cs.length ≤ sizeD := by have := h.2; simp [sizeD]; omega
  refine ⟨(cs.drop (HT.sIx cs.length 0 a)).take (HT.sIx cs.length cs.length b - HT.sIx cs.length 0 a), ⟨fun c hc => h.1 c (List.mem_of_mem_drop (List.mem_of_mem_take hc)), ?_⟩, ?_⟩
  · have := h.2
    rw [List.length_take, List.length_drop]; omega
  · simp only [T, fSlT_str, h1, h2, Option.bind_some]
    rw [if_pos (show (tx cs).length ≤ sizeD from hl)]
    simp [L2.cutS, tx]
    rfl
theorem rest6 {o4 o5 : Sl} {k : Flow → Sto → Prop} {x : XS → Sto → Prop} {cs : List Nat} (h : OkL cs 40) (hk : k (.rt (.sh (.bl true)) []) []) :
    Wq (law_B6 [.sh (.abs 1 []), .sh (.abs 0 []), .sh (T cs), .unk, o4, o5, .unk]) [] k x := by
  have e := fixed
  rw [show ([[], [48], [48, 48], [48, 49], [57, 57, 57, 57, 57, 57], [49, 48, 48, 48, 48, 48, 48], [49, 48, 48, 48, 48, 48], [32, 49], [49, 32], [45, 49], [43, 49], [49, 10], [49, 95, 48]].map T) = fxD from rfl] at e
  have lf : okLen fxD = true := rfl
  have lf2 : okLen (T cs :: fxD) = true := rfl
  have l1 : okLen [T cs] = true := rfl
  have l0 := fun z4 : Sl => cases_loop (o0 := .sh (.abs 1 [])) (o1 := .sh (.abs 0 [])) (o2 := .sh (T cs)) (o3 := .unk) (o4 := z4) (o5 := o5) (o6 := .unk) (cs :: fx) (fun y hy => by
    rcases List.mem_cons.mp hy with rfl | hy
    · exact ⟨h.1, by have := h.2; omega⟩
    · exact fx_ok y hy)
  simp only [List.map_cons, show fx.map T = fxD from rfl] at l0
  rw [law_B6_ap]
  simp
  rw [e]
  generalize fxD = L at *
  refine ⟨lf, ?_⟩
  obtain ⟨z, l⟩ := l0 (.ow (.lst L))
  simp [law_B7_ap, law_B8_ap, l, lf2, l1]
  exact hk
theorem rest5 {k : Flow → Sto → Prop} {x : XS → Sto → Prop} {cs : List Nat} (h : OkL cs 10) (hk : k (.rt (.sh (.bl true)) []) []) :
    Wq (law_B5 [.sh (.abs 1 []), .sh (.abs 0 []), .sh (T cs), .unk, .unk, .unk, .unk]) [] k x := by
  have hl := len_T (cs := cs) (by have := h.2; omega)
  have h30 : OkL cs 40 := ⟨h.1, by have := h.2; omega⟩
  have hn := h.2
  have lo : fLen (.str "-+a .,_\n") = shI 8 := by
    rw [show (.str "-+a .,_\n" : D) = T [45, 43, 97, 32, 46, 44, 95, 10] from congrArg D.str (by decide +kernel), len_T (by decide)]
    rfl
  rw [law_B5_ap]
  simp [hl]
  intro i h0 h3
  split
  · split
    · refine ⟨⟨by omega, by omega⟩, fun j j0 j1 => ?_⟩
      obtain ⟨a, ha, ea⟩ := sl_T h (by omega) (lo := .non) (hi := .int j) rfl rfl
      obtain ⟨b, hb, eb⟩ := sl_T h (by omega) (lo := .int (j + 1)) (hi := .non) rfl rfl
      simp [ea, lo]
      intro q q0 q1
      obtain ⟨c, hc, ec⟩ := odd_at q0 (by omega)
      have e1 := add_T (a := a) (b := [c]) (by have := ha.2; simp; omega)
      have e2 := add_T (a := a ++ [c]) (b := b) (by have := ha.2; have := hb.2; simp; omega)
      have jb : inB (j + 1) = true := inB_of (by omega) (by omega)
      simp [ec, e1, eb, e2, jb]
      have hh := (ha.app (OkL.one (c := c) (m := 1) hc (by omega))).app hb
      have := rest6 (o4 := .sh (.str "-+a .,_\n")) (o5 := .sh (.int j)) (k := k) (x := x) (cs := a ++ [c] ++ b) ⟨hh.1, by have := hh.2; omega⟩ hk
      simpa using this
    · exact rest6 h30 hk
  · exact rest6 h30 hk
theorem law_ok : lawOk M_law := by
  unfold lawOk
  rw [← wq_iff]
  simp [M_law, law_B1_ap, law_B2_ap, law_B3_ap]
  intro n h0 h9
  rw [t_e]
  refine ⟨inB_of (by omega) (by omega), ?_⟩
  refine text_loop n.toNat 0 [] 0 ⟨by intro c hc; simp at hc, by simp⟩ (by omega) fun cs h => ?_
  simp [law_B4_ap]
  intro i i0 i4
  split
  · have e := add_T (a := [48]) (b := cs) (by have := h.2; simp; omega)
    rw [← t_0] at e
    simp [e]
    refine rest5 (cs := 48 :: cs) ⟨fun c hc => ?_, by have := h.2; simp; omega⟩ ?_
    · rcases List.mem_cons.mp hc with rfl | hc
      · decide
      · exact h.1 c hc
    · simp
  · refine rest5 ⟨h.1, by have := h.2; omega⟩ ?_
    simp

end Dl
set_option backward.isDefEq.respectTransparency true
namespace Law
open PySem L2 Wp
local macro_rules | `(tactic| walk_at "hk") => `(tactic| first | assumption | (with_reducible exact upd_same) | ((with_reducible show upd _ _ _ _ = some _); first | (refine up_new (by assumption) ?_; walk_at "hk") | (refine up_ne ?_ ?_; (focus walk_at "ne"); walk_at "hk")) | ((with_reducible apply ext_get); (focus assumption); walk_at "hk"))
local macro_rules | `(tactic| walk_at "ne") => `(tactic| first | assumption | (apply Ne.symm; assumption) | ((apply ne_of_none); (focus walk_at "hk"); assumption) | ((apply Ne.symm); (apply ne_of_none); (focus walk_at "hk"); assumption) | ((apply ne_of); (focus walk_at "hk"); (focus walk_at "hk"); exact nofun))
local macro_rules | `(tactic| walk_at "lk") => `(tactic| first | (with_reducible exact lk_hit) | (with_reducible exact lk_nil) | ((with_reducible refine lk_miss ?_ ?_); (focus decide +kernel); walk_at "lk"))
local macro_rules | `(tactic| walk_at "sl") => `(tactic| first | assumption | (exact SqL.of (by assumption)) | (with_reducible exact (by assumption : ∀ o, SqL _ (upd _ _ o) _ _) _) | ((with_reducible show SqL _ (upd _ _ _) _ _); first | (exact SqL.of upd_same) | (refine ext_sl (Ext.new (Ext.refl _) (by assumption)) ?_; walk_at "sl") | (exact SqL.of (by walk_at "hk"))) | ((with_reducible apply ext_sl); (focus assumption); walk_at "sl") )
local macro_rules | `(tactic| walk_at "st") => `(tactic| first | assumption | (exact SqT.of (by assumption)) | (with_reducible exact (by assumption : ∀ o, SqT _ (upd _ _ o) _ _) _) | ((with_reducible show SqT _ (upd _ _ _) _ _); first | (exact SqT.of upd_same) | (refine ext_st (Ext.new (Ext.refl _) (by assumption)) ?_; walk_at "st") | (exact SqT.of (by walk_at "hk"))) | ((with_reducible apply ext_st); (focus assumption); walk_at "st") )
local macro_rules | `(tactic| walk_at "dp") => `(tactic| first | (with_reducible exact Dp.int _) | (with_reducible exact Dp.bl _) | (with_reducible exact Dp.str _) | (with_reducible exact Dp.non) | (with_reducible assumption) | ((with_reducible apply dpT); (focus with_reducible assumption); walk_at "dps") | ((with_reducible apply dpL); (focus with_reducible assumption); walk_at "dps") | ((with_reducible apply Dp.tup); (focus with_reducible assumption); walk_at "dps") | ((with_reducible apply Dp.lst); (focus with_reducible assumption); walk_at "dps") | ((with_reducible apply ext_dpN); (focus with_reducible assumption); walk_at "dp") | ((with_reducible apply ext_dp); (focus with_reducible assumption); walk_at "dp"))
local macro_rules | `(tactic| walk_at "sh") => `(tactic| first | (with_reducible exact sh_int) | (with_reducible exact sh_bl) | (with_reducible exact sh_non) | assumption | ((with_reducible refine sh_str ?_); first | assumption | decide +kernel) | ((with_reducible refine sh_tup ?_); walk_at "sha") | ((with_reducible refine sh_lst ?_); walk_at "sha"))
local macro_rules | `(tactic| walk_at "sha") => `(tactic| first | (with_reducible exact sha_nil) | assumption | (with_reducible exact sha_dI _) | ((with_reducible refine sha_cons ?_ ?_); (focus walk_at "sh"); walk_at "sha"))
local macro_rules | `(tactic| walk_at "shd") => `(tactic| (refine shd ?_; walk_at "sh"))
local macro_rules | `(tactic| walk_at "dps") => `(tactic| first | (with_reducible exact DpAll.nil) | ((with_reducible apply DpAll.cons); (focus walk_at "dp"); walk_at "dps") | (with_reducible exact dpi_of) | (with_reducible assumption))
local macro_rules | `(tactic| walk_at "rd1") => `(tactic| first | (with_reducible refine i_binS ?_) | (with_reducible refine i_calS ?_) | ((with_reducible apply at_fld); (focus walk_at "hk"); (focus walk_at "cl"); (focus walk_at "na"); (focus walk_at "lk")) | ((with_reducible show rIsi _ [V.ref _, V.ref _] _ _); refine i_isO (by walk_at "io") (by walk_at "hk") (by walk_at "ki") ?_) | (with_reducible refine i_iEnumT ?_) | ((with_reducible apply at_enumT); (focus walk_at "st")) | (with_reducible refine i_gnil ?_) | (with_reducible refine i_gcons ?_) | ((with_reducible apply i_gtup); (focus walk_at "st"); (focus exact rfl)) | ((with_reducible show tVar _ _ _ _); refine i_var (by exact rfl) ?_) | ((with_reducible refine i_name ?_); (try dsimp only [List.set_cons_succ, List.set_cons_zero, Int.reduceToNat])) | ((with_reducible show tAug _ _ _ _ _ _); refine i_aug (by exact rfl) ?_) | (with_reducible refine i_c ?_) | (with_reducible refine i_op ?_) | (with_reducible refine i_un ?_) | (with_reducible refine i_U ?_) | (with_reducible refine i_I0 ?_) | (with_reducible refine i_cmp ?_) | (with_reducible refine i_II ?_) | (with_reducible refine i_isN ?_) | (with_reducible refine i_notN ?_) | (with_reducible refine i_B ?_) | (with_reducible refine i_test ?_) | (with_reducible refine i_bl ?_) | (with_reducible refine i_and ?_) | (with_reducible refine i_or ?_) | (with_reducible refine i_not ?_) | (with_reducible refine i_andV ?_) | (with_reducible refine i_orV ?_) | (with_reducible refine i_notV ?_) | (with_reducible refine i_if ?_) | (with_reducible refine i_chain ?_) | (with_reducible refine i_nil ?_) | (with_reducible refine i_cons ?_) | (with_reducible refine i_tup ?_) | (with_reducible refine i_lst ?_) | (with_reducible refine i_call ?_) | (with_reducible refine i_cb ?_) | (with_reducible refine i_met ?_) | (with_reducible refine i_mak ?_) | (with_reducible refine i_fld ?_) | (with_reducible refine i_sl ?_) | (with_reducible refine i_noPart ?_) | (with_reducible refine i_part ?_) | (with_reducible refine i_1I ?_) | (with_reducible refine i_bm ?_) | (with_reducible refine i_bm0 ?_) | (with_reducible refine i_next ?_) | (with_reducible refine i_brk ?_) | (with_reducible refine i_cont ?_) | (with_reducible refine i_drop ?_) | (with_reducible refine i_ret ?_) | (with_reducible refine i_retN ?_) | (with_reducible refine i_ifS ?_) | (with_reducible refine i_asg ?_) | (with_reducible refine i_gsub ?_) | (with_reducible refine i_par ?_) | (with_reducible refine i_par2 ?_) | (with_reducible refine i_ipI ?_) | (with_reducible refine i_sfld ?_) | (with_reducible refine i_raiseE ?_) | (with_reducible refine i_xf ?_) | (with_reducible refine i_int ?_) | (with_reducible refine i_intB ?_) | (with_reducible refine i_abs ?_) | (with_reducible refine i_for ?_) | (with_reducible refine i_iList ?_) | (with_reducible refine i_iTup ?_) | (with_reducible refine i_iRng1 ?_) | (with_reducible refine i_iRng2 ?_) | (with_reducible refine i_iEnum ?_) | (with_reducible refine i_iStr ?_) | (with_reducible refine i_lc ?_) | (with_reducible refine at_str ?_) | (with_reducible refine i_BB ?_) | (with_reducible refine i_yes ?_) | (with_reducible refine is_int_int ?_) | (with_reducible refine is_int_bool ?_) | (with_reducible refine is_int_str ?_) | (with_reducible refine is_int_tuple ?_) | (with_reducible refine is_int_list ?_) | (with_reducible refine is_int_dict ?_) | (with_reducible refine is_bl_int ?_) | (with_reducible refine is_bl_bool ?_) | (with_reducible refine is_bl_str ?_) | (with_reducible refine is_bl_tuple ?_) | (with_reducible refine is_bl_list ?_) | (with_reducible refine is_bl_dict ?_) | (with_reducible refine is_str_int ?_) | (with_reducible refine is_str_bool ?_) | (with_reducible refine is_str_str ?_) | (with_reducible refine is_str_tuple ?_) | (with_reducible refine is_str_list ?_) | (with_reducible refine is_str_dict ?_) | (with_reducible refine is_non_int ?_) | (with_reducible refine is_non_bool ?_) | (with_reducible refine is_non_str ?_) | (with_reducible refine is_non_tuple ?_) | (with_reducible refine is_non_list ?_) | (with_reducible refine is_non_dict ?_) | (with_reducible refine i_min2 ?_) | (with_reducible refine i_max2 ?_) | ((with_reducible refine i_I ?_ ?_); focus (first | decide | exact ⟨by decide, by decide⟩ | exact ⟨by omega, by omega⟩ | omega | exact Or.inr ⟨by decide, by decide⟩ | exact Or.inl ⟨by decide, by decide⟩ | exact ⟨by decide, by decide, by decide⟩)) | ((with_reducible refine i_eq ?_ ?_); focus exact rfl) | ((with_reducible refine i_ne ?_ ?_); focus exact rfl) | ((with_reducible show rIxL _ (V.ref _) (V.int _) _ _); refine i_ixL (by walk_at "sl") (by exact rfl) ?_) | ((with_reducible show rIxT _ (V.ref _) (V.int _) _ _); refine i_ixT (by walk_at "st") (by exact rfl) ?_) | ((with_reducible show rSetL (V.ref _) (V.int _) _ _ _); refine i_setL (by walk_at "hk") (by exact rfl) ?_; (try rw [upd_upd]); (try dsimp only [List.set_cons_succ, List.set_cons_zero, Int.reduceToNat])) | ((with_reducible show rLenQ _ [V.ref _] _ _); refine i_lenL (by walk_at "sl") ?_) | ((with_reducible show rLenQ _ [V.ref _] _ _); refine i_lenT (by walk_at "st") ?_) | ((with_reducible show rIxL _ (V.ref _) (V.int 0) _ _); refine i_ixL (by walk_at "sl") (by exact at_hd) ?_) | ((with_reducible show rIxT _ (V.ref _) (V.int 0) _ _); refine i_ixT (by walk_at "st") (by exact at_hd) ?_) | ((with_reducible refine i_newT ?_ ?_); focus (first | decide | exact Nat.le_of_ble_eq_true rfl | (simp only [List.length_cons, List.length_nil]; omega))) | ((with_reducible refine i_newL ?_ ?_); focus (first | decide | exact Nat.le_of_ble_eq_true rfl | (simp only [List.length_cons, List.length_nil]; omega))) | ((with_reducible show rIsX _ _ (Value.ref _) (some _) _ [V.ref _, V.ref _] _ _); refine i_isXr (by walk_at "hk") (by walk_at "ki") ?_) | ((with_reducible show rIsX _ _ (Value.ref _) (some _) _ [V.ref _, V.ty _] _ _); refine i_isXt (by walk_at "hk") (by walk_at "ki") ?_) | ((with_reducible apply i_xfv); (focus walk_at "hk"); (focus walk_at "lk")) | ((with_reducible apply at_list); (focus walk_at "sl")) | ((with_reducible apply at_tup); (focus walk_at "st")) | ((with_reducible apply at_enum); (focus walk_at "sl")) | ((with_reducible refine at_rng1 ?_ ?_ ?_); (focus omega); (focus omega)) | ((with_reducible refine at_rng2 ?_ ?_); (focus omega)) | ((with_reducible show rSlA _ (V.ref _) _ _ _ _); refine i_slA (by walk_at "st") ?_) | ((with_reducible show rSlL _ (V.ref _) _ _ _ _); refine i_slL (by walk_at "sl") ?_) | ((with_reducible show rSumT _ [V.ref _] _ _); refine i_sumT (by walk_at "st") ?_) | ((with_reducible show rSum _ [V.ref _] _ _); refine i_sum (by walk_at "sl") ?_) | ((with_reducible apply i_tyL); (focus walk_at "hk")) | ((with_reducible refine i_wipe ?_ ?_); (focus exact rfl)) | ((with_reducible show rListOf _ [V.ref _] _ _); first | (refine i_listL (by walk_at "sl") ?_) | (refine i_listT (by walk_at "st") ?_)) | ((with_reducible show rTupOf _ [V.ref _] _ _); first | (refine i_tupL (by walk_at "sl") ?_) | (refine i_tupT (by walk_at "st") ?_)) | ((with_reducible show spDraw _ _ _ _ _); refine i_draw (by walk_at "sl") (by assumption) (by walk_at "hk") (by first | omega | (simp only [List.length_cons, List.length_nil, List.length_map] at *; omega)) (by first | omega | (simp only [List.length_cons, List.length_nil, List.length_map] at *; omega)) ?_) | ((with_reducible show spStart _ _ _ _ _); refine i_start (by walk_at "sl") (by assumption) ?_) | ((with_reducible refine i_seqN ?_); intro _ _) | ((with_reducible apply go_nx); (focus assumption)) | ((with_reducible apply go_np); (focus assumption)) | ((with_reducible show ite (_ = true) _ _); first | refine iteT ?_ | refine iteF ?_))
local macro_rules | `(tactic| walk_at "rd") => `(tactic| (repeat walk_at "rd1"))
local macro_rules | `(tactic| walk_at "rd01") => `(tactic| first | ((with_reducible show tVar _ _ _ _); refine i_var (by exact rfl) ?_) | ((with_reducible refine i_name ?_); (try dsimp only [List.set_cons_succ, List.set_cons_zero, Int.reduceToNat])) | ((with_reducible show tAug _ _ _ _ _ _); refine i_aug (by exact rfl) ?_) | (with_reducible refine i_c ?_) | (with_reducible refine i_op ?_) | (with_reducible refine i_un ?_) | (with_reducible refine i_U ?_) | (with_reducible refine i_I0 ?_) | (with_reducible refine i_cmp ?_) | (with_reducible refine i_II ?_) | (with_reducible refine i_isN ?_) | (with_reducible refine i_notN ?_) | (with_reducible refine i_B ?_) | (with_reducible refine i_test ?_) | (with_reducible refine i_bl ?_) | (with_reducible refine i_and ?_) | (with_reducible refine i_or ?_) | (with_reducible refine i_not ?_) | (with_reducible refine i_andV ?_) | (with_reducible refine i_orV ?_) | (with_reducible refine i_notV ?_) | (with_reducible refine i_if ?_) | (with_reducible refine i_chain ?_) | (with_reducible refine i_nil ?_) | (with_reducible refine i_cons ?_) | (with_reducible refine i_tup ?_) | (with_reducible refine i_lst ?_) | (with_reducible refine i_call ?_) | (with_reducible refine i_cb ?_) | (with_reducible refine i_met ?_) | (with_reducible refine i_mak ?_) | (with_reducible refine i_fld ?_) | (with_reducible refine i_sl ?_) | (with_reducible refine i_noPart ?_) | (with_reducible refine i_part ?_) | (with_reducible refine i_1I ?_) | (with_reducible refine i_bm ?_) | (with_reducible refine i_bm0 ?_) | (with_reducible refine i_next ?_) | (with_reducible refine i_brk ?_) | (with_reducible refine i_cont ?_) | (with_reducible refine i_drop ?_) | (with_reducible refine i_ret ?_) | (with_reducible refine i_retN ?_) | (with_reducible refine i_ifS ?_) | (with_reducible refine i_asg ?_) | (with_reducible refine i_gsub ?_) | (with_reducible refine i_par ?_) | (with_reducible refine i_par2 ?_) | (with_reducible refine i_ipI ?_) | (with_reducible refine i_sfld ?_) | (with_reducible refine i_raiseE ?_) | (with_reducible refine i_xf ?_) | (with_reducible refine i_int ?_) | (with_reducible refine i_intB ?_) | (with_reducible refine i_abs ?_) | (with_reducible refine i_for ?_) | (with_reducible refine i_iList ?_) | (with_reducible refine i_iTup ?_) | (with_reducible refine i_iRng1 ?_) | (with_reducible refine i_iRng2 ?_) | (with_reducible refine i_iEnum ?_) | (with_reducible refine i_iStr ?_) | (with_reducible refine i_lc ?_) | (with_reducible refine at_str ?_) | (with_reducible refine i_BB ?_) | (with_reducible refine i_yes ?_) | (with_reducible refine is_int_int ?_) | (with_reducible refine is_int_bool ?_) | (with_reducible refine is_int_str ?_) | (with_reducible refine is_int_tuple ?_) | (with_reducible refine is_int_list ?_) | (with_reducible refine is_int_dict ?_) | (with_reducible refine is_bl_int ?_) | (with_reducible refine is_bl_bool ?_) | (with_reducible refine is_bl_str ?_) | (with_reducible refine is_bl_tuple ?_) | (with_reducible refine is_bl_list ?_) | (with_reducible refine is_bl_dict ?_) | (with_reducible refine is_str_int ?_) | (with_reducible refine is_str_bool ?_) | (with_reducible refine is_str_str ?_) | (with_reducible refine is_str_tuple ?_) | (with_reducible refine is_str_list ?_) | (with_reducible refine is_str_dict ?_) | (with_reducible refine is_non_int ?_) | (with_reducible refine is_non_bool ?_) | (with_reducible refine is_non_str ?_) | (with_reducible refine is_non_tuple ?_) | (with_reducible refine is_non_list ?_) | (with_reducible refine is_non_dict ?_) | (with_reducible refine i_min2 ?_) | (with_reducible refine i_max2 ?_) | ((with_reducible refine i_I ?_ ?_); focus (first | decide | exact ⟨by decide, by decide⟩ | exact ⟨by omega, by omega⟩ | omega | exact Or.inr ⟨by decide, by decide⟩ | exact Or.inl ⟨by decide, by decide⟩ | exact ⟨by decide, by decide, by decide⟩)) | ((with_reducible refine i_eq ?_ ?_); focus exact rfl) | ((with_reducible refine i_ne ?_ ?_); focus exact rfl) | ((with_reducible show rIxL _ (V.ref _) (V.int _) _ _); refine i_ixL (by walk_at "sl") (by exact rfl) ?_) | ((with_reducible show rIxT _ (V.ref _) (V.int _) _ _); refine i_ixT (by walk_at "st") (by exact rfl) ?_) | ((with_reducible show rSetL (V.ref _) (V.int _) _ _ _); refine i_setL (by walk_at "hk") (by exact rfl) ?_; (try rw [upd_upd]); (try dsimp only [List.set_cons_succ, List.set_cons_zero, Int.reduceToNat])) | ((with_reducible show rLenQ _ [V.ref _] _ _); refine i_lenL (by walk_at "sl") ?_) | ((with_reducible show rLenQ _ [V.ref _] _ _); refine i_lenT (by walk_at "st") ?_) | ((with_reducible show rIxL _ (V.ref _) (V.int 0) _ _); refine i_ixL (by walk_at "sl") (by exact at_hd) ?_) | ((with_reducible show rIxT _ (V.ref _) (V.int 0) _ _); refine i_ixT (by walk_at "st") (by exact at_hd) ?_) | ((with_reducible show rIsX _ _ (Value.ref _) (some _) _ [V.ref _, V.ref _] _ _); refine i_isXr (by walk_at "hk") (by walk_at "ki") ?_) | ((with_reducible show rIsX _ _ (Value.ref _) (some _) _ [V.ref _, V.ty _] _ _); refine i_isXt (by walk_at "hk") (by walk_at "ki") ?_) | ((with_reducible apply i_xfv); (focus walk_at "hk"); (focus walk_at "lk")) | ((with_reducible apply at_list); (focus walk_at "sl")) | ((with_reducible apply at_tup); (focus walk_at "st")) | ((with_reducible apply at_enum); (focus walk_at "sl")) | ((with_reducible refine at_rng1 ?_ ?_ ?_); (focus omega); (focus omega)) | ((with_reducible refine at_rng2 ?_ ?_); (focus omega)) | ((with_reducible show rSlA _ (V.ref _) _ _ _ _); refine i_slA (by walk_at "st") ?_) | ((with_reducible show rSlL _ (V.ref _) _ _ _ _); refine i_slL (by walk_at "sl") ?_) | ((with_reducible show rSumT _ [V.ref _] _ _); refine i_sumT (by walk_at "st") ?_) | ((with_reducible show rSum _ [V.ref _] _ _); refine i_sum (by walk_at "sl") ?_) | ((with_reducible apply i_tyL); (focus walk_at "hk")) | ((with_reducible refine i_wipe ?_ ?_); (focus exact rfl)) | ((with_reducible show rListOf _ [V.ref _] _ _); first | (refine i_listL (by walk_at "sl") ?_) | (refine i_listT (by walk_at "st") ?_)) | ((with_reducible show rTupOf _ [V.ref _] _ _); first | (refine i_tupL (by walk_at "sl") ?_) | (refine i_tupT (by walk_at "st") ?_)) | ((with_reducible show spDraw _ _ _ _ _); refine i_draw (by walk_at "sl") (by assumption) (by walk_at "hk") (by first | omega | (simp only [List.length_cons, List.length_nil, List.length_map] at *; omega)) (by first | omega | (simp only [List.length_cons, List.length_nil, List.length_map] at *; omega)) ?_) | ((with_reducible show spStart _ _ _ _ _); refine i_start (by walk_at "sl") (by assumption) ?_) | ((with_reducible refine i_seqN ?_); intro _ _) | ((with_reducible apply go_nx); (focus assumption)) | ((with_reducible apply go_np); (focus assumption)) | ((with_reducible show ite (_ = true) _ _); first | refine iteT ?_ | refine iteF ?_))
local macro_rules | `(tactic| walk_at "rd0") => `(tactic| (repeat walk_at "rd01"))
abbrev N_is_figures : List Str := ["text", "digit"]
theorem sc_is_figures : FnScope N_is_figures ["text"] (defScope s_is_figures) := ⟨rfl, rfl, rfl, by decide +kernel, rfl, by decide +kernel, by decide +kernel⟩
abbrev N_read_number : List Str := ["text"]
theorem sc_read_number : FnScope N_read_number ["text"] (defScope s_read_number) := ⟨rfl, rfl, rfl, by decide +kernel, rfl, by decide +kernel, by decide +kernel⟩
abbrev N__law_start : List Str := ["_law_script", "_law_first"]
theorem sc__law_start : FnScope N__law_start ["_law_script"] (defScope s__law_start) := ⟨rfl, rfl, rfl, by decide +kernel, rfl, by decide +kernel, by decide +kernel⟩
abbrev N__law_draw : List Str := ["_law_script", "_law_state", "_law_limit", "_law_number", "_law_cell", "_law_mixed"]
theorem sc__law_draw : FnScope N__law_draw ["_law_script", "_law_state", "_law_limit"] (defScope s__law_draw) := ⟨rfl, rfl, rfl, by decide +kernel, rfl, by decide +kernel, by decide +kernel⟩
abbrev N__law_is_integer : List Str := ["_law_actual"]
theorem sc__law_is_integer : FnScope N__law_is_integer ["_law_actual"] (defScope s__law_is_integer) := ⟨rfl, rfl, rfl, by decide +kernel, rfl, by decide +kernel, by decide +kernel⟩
abbrev N__law_due : List Str := ["_law_text", "_law_number", "_law_sign", "_law_at"]
theorem sc__law_due : FnScope N__law_due ["_law_text"] (defScope s__law_due) := ⟨rfl, rfl, rfl, by decide +kernel, rfl, by decide +kernel, by decide +kernel⟩
abbrev N__law_holds : List Str := ["_law_text", "_law_told", "_law_fell", "e", "_law_due_here"]
theorem sc__law_holds : FnScope N__law_holds ["_law_text"] (defScope s__law_holds) := ⟨rfl, rfl, rfl, by decide +kernel, rfl, by decide +kernel, by decide +kernel⟩
abbrev N_law : List Str := ["_law_script", "_law_state", "_law_text", "_law_k", "_law_odd", "_law_at", "_law_case"]
theorem sc_law : FnScope N_law ["_law_script"] (defScope s_law) := ⟨rfl, rfl, rfl, by decide +kernel, rfl, by decide +kernel, by decide +kernel⟩
/-- where the top's things stand -/
structure Ad where
  f_is_figures : Addr
  d_is_figures : FuncData
  f_read_number : Addr
  d_read_number : FuncData
  f__law_start : Addr
  d__law_start : FuncData
  f__law_draw : Addr
  d__law_draw : FuncData
  f__law_is_integer : Addr
  d__law_is_integer : FuncData
  f__law_due : Addr
  d__law_due : FuncData
  f__law_holds : Addr
  d__law_holds : FuncData
  f_law : Addr
  d_law : FuncData
  C_ParcelError : Addr
  C_BadNumber : Addr
  C_BadPair : Addr
  i_BadNumber : Addr
  i_BadPair : Addr
/-- what the top has written -/
structure Txt (P : Program) (w : World) (K : PySem.W.Frag) (mg : Str → Option Value) (A : Ad) : Prop where
  F_is_figures : Fun K "is_figures" "is_figures" s_is_figures A.f_is_figures A.d_is_figures
  g_is_figures : mg "is_figures" = some (.ref A.f_is_figures)
  F_read_number : Fun K "read_number" "read_number" s_read_number A.f_read_number A.d_read_number
  g_read_number : mg "read_number" = some (.ref A.f_read_number)
  F__law_start : Fun K "_law_start" "_law_start" s__law_start A.f__law_start A.d__law_start
  g__law_start : mg "_law_start" = some (.ref A.f__law_start)
  F__law_draw : Fun K "_law_draw" "_law_draw" s__law_draw A.f__law_draw A.d__law_draw
  g__law_draw : mg "_law_draw" = some (.ref A.f__law_draw)
  F__law_is_integer : Fun K "_law_is_integer" "_law_is_integer" s__law_is_integer A.f__law_is_integer A.d__law_is_integer
  g__law_is_integer : mg "_law_is_integer" = some (.ref A.f__law_is_integer)
  F__law_due : Fun K "_law_due" "_law_due" s__law_due A.f__law_due A.d__law_due
  g__law_due : mg "_law_due" = some (.ref A.f__law_due)
  F__law_holds : Fun K "_law_holds" "_law_holds" s__law_holds A.f__law_holds A.d__law_holds
  g__law_holds : mg "_law_holds" = some (.ref A.f__law_holds)
  F_law : Fun K "law" "law" s_law A.f_law A.d_law
  g_law : mg "law" = some (.ref A.f_law)
  g_ParcelError : mg "ParcelError" = some (.ref A.C_ParcelError)
  g_BadNumber : mg "BadNumber" = some (.ref A.C_BadNumber)
  g_BadPair : mg "BadPair" = some (.ref A.C_BadPair)
  E_BadNumber : WpE.ErrC P K A.C_BadNumber A.i_BadNumber "BadNumber.__init__" (defArgs s_BadNumber___init__) (defBody s_BadNumber___init__) (defScope s_BadNumber___init__)
  N_BadNumber : WpE.ErrInit P w K mg A.C_BadNumber A.i_BadNumber ["what", "value"]
  E_BadPair : WpE.ErrC P K A.C_BadPair A.i_BadPair "BadPair.__init__" (defArgs s_BadPair___init__) (defBody s_BadPair___init__) (defScope s_BadPair___init__)
  N_BadPair : WpE.ErrInit P w K mg A.C_BadPair A.i_BadPair ["place"]
  xf_BadNumber : L2.XfC K A.C_BadNumber
  ex_BadNumber : L2.ExcC K A.C_BadNumber
  nf_BadNumber_what : PySem.W.findIn K (.ref A.C_BadNumber) "what" = some none
  nf_BadNumber_value : PySem.W.findIn K (.ref A.C_BadNumber) "value" = some none
  te_BadNumber_BadNumber : PySem.W.exmOne K (.ref A.C_BadNumber) (.ref A.C_BadNumber) = some true
  ki_BadNumber_BadPair : PySem.W.kitOne K (.ref A.C_BadNumber) (.ref A.C_BadPair) = some false
  b_abs : mg "abs" = none
  b_bool : mg "bool" = none
  b_int : mg "int" = none
  b_isinstance : mg "isinstance" = none
  b_len : mg "len" = none
  b_range : mg "range" = none
  b_str : mg "str" = none
  c_DIGITS : ∃ u, mg "DIGITS" = some u ∧ RelV (.str "0123456789") u
  c_MOST_DIGITS : ∃ u, mg "MOST_DIGITS" = some u ∧ RelV (.int 6) u
local macro_rules | `(tactic| walk_at "ki") => `(tactic| first | exact (‹Txt _ _ _ _ _› : Txt _ _ _ _ _).ki_BadNumber_BadPair)
section
variable {P : Program} {w : World} {K : PySem.W.Frag} {mg : Str → Option Value} {base : Heap} {A : Ad}
theorem ok__law_start (T : Txt P w K mg A) : Cal P w K mg base 1 "_law_start" A.f__law_start (spStart K) := by
  refine ⟨start_abs <| Fun.okR T.F__law_start sc__law_start (T.F__law_start.binds fun _ _ _ _ _ _ us hl => match us, hl with | [_], _ => rfl) (fun vs H Q E h => ?_) (fun cdv A' outer s H vs Q E hr h => ?_), T.F__law_start.kp, T.g__law_start⟩
  · obtain ⟨_, _, rfl, _⟩ := h
    rfl
  · obtain ⟨a, ns, rfl, hS, hl, k⟩ := h
    refine ⟨_, (pss_cons (ps_set (i := 1) sc__law_start.nd rfl (by first | exact Or.inl rfl | exact Or.inr rfl) pe_int)
          (pss_cons (ps_if (pt_cmp (pc_gt (pe_callB (kw_len (K := K) rfl) (by rfl) T.b_len (show bootBuiltins "len" = some (.builtin "len") from by decide +kernel) (pa_cons (pv 0) pa_nil)) pe_int)) (pss_one (ps_set (i := 1) sc__law_start.nd rfl (by first | exact Or.inl rfl | exact Or.inr rfl) (pe_ix (kix_list (K := K) rfl) (pv 0) pe_int (fun _ _ => rfl)))) pss_nil)
          (pss_one (ps_ret (pe_lst (pa_cons (pe_callB w_abs (by rfl) T.b_abs (show bootBuiltins "abs" = some (.builtin "abs") from by decide +kernel) (pa_cons (pe_callTy w_int (by rfl) T.b_int (show bootBuiltins "int" = some (.type "int") from by decide +kernel) (pa_cons (pv 1) pa_nil)) pa_nil)) (pa_cons (pe_callTy w_int (by rfl) T.b_int (show bootBuiltins "int" = some (.type "int") from by decide +kernel) (pa_cons (pe_cmp (pc_ge (pe_callB w_abs (by rfl) T.b_abs (show bootBuiltins "abs" = some (.builtin "abs") from by decide +kernel) (pa_cons (pe_callTy w_int (by rfl) T.b_int (show bootBuiltins "int" = some (.type "int") from by decide +kernel) (pa_cons (pv 1) pa_nil)) pa_nil)) (pe_op op_pow pe_int pe_int)) rfl) pa_nil)) (pa_cons pe_int (pa_cons pe_int pa_nil))))))))), ?_⟩
    simp only [L2.start, N__law_start, cxOf, List.map_cons, List.map_nil, List.length_cons, List.length_nil, Nat.reduceAdd, Nat.reduceSub, List.replicate, List.cons_append, List.nil_append, List.append_nil]
    walk_at "rd0"
    cases ns with
    | nil =>
      walk_at "rd0"
      exact ⟨sz (by simp only [List.length_cons, List.length_nil]; omega), fun p hp => k p _ _ _ _ hp⟩
    | cons n0 ns =>
      walk_at "rd"
      refine ifd (fun _ => ?_) (fun e => absurd e (by simp))
      walk_at "rd0"
      exact ⟨sz (by simp only [List.length_cons, List.length_nil]; omega), fun p hp => k p _ _ _ _ hp⟩
theorem ok__law_draw (T : Txt P w K mg A) : Cal P w K mg base 1 "_law_draw" A.f__law_draw (spDraw K) := by
  refine ⟨draw_abs <| Fun.okR T.F__law_draw sc__law_draw (T.F__law_draw.binds fun _ _ _ _ _ _ us hl => match us, hl with | [_, _, _], _ => rfl) (fun vs H Q E h => ?_) (fun cdv A' outer s H vs Q E hr h => ?_), T.F__law_draw.kp, T.g__law_draw⟩
  · obtain ⟨_, _, _, _, _, _, _, _, rfl, _⟩ := h
    rfl
  · obtain ⟨a, st, ns, n, x0, x1, x2, x3, rfl, hS, hl, hst, n0, n1, k⟩ := h
    refine ⟨_, (pss_cons (ps_asg (pe_op op_add (pe_ix (kix_list (K := K) rfl) (pv 1) pe_int (fun _ _ => rfl)) pe_int) (pg_sub (pv 1) pe_int set_list))
          (pss_cons (ps_if (PW.pt (pw_and (pt_cmp (pc_eqI (pe_ix (kix_list (K := K) rfl) (pv 1) pe_int (fun _ _ => rfl)) pe_int)) (pw_and1 (pt_cmp (pc_gt (pe_ix (kix_list (K := K) rfl) (pv 1) pe_int (fun _ _ => rfl)) pe_int))))) (pss_cons (ps_set (i := 3) sc__law_draw.nd rfl (by first | exact Or.inl rfl | exact Or.inr rfl) (pe_op op_mod (pe_callTy w_int (by rfl) T.b_int (show bootBuiltins "int" = some (.type "int") from by decide +kernel) (pa_cons (pe_ix (kix_list (K := K) rfl) (pv 1) pe_int (fun _ _ => rfl)) pa_nil)) (pv 2)))
          (pss_cons (ps_asg (pe_op op_fdiv (pe_ix (kix_list (K := K) rfl) (pv 1) pe_int (fun _ _ => rfl)) (pv 2)) (pg_sub (pv 1) pe_int set_list))
          (pss_one (ps_ret (pv 3))))) pss_nil)
          (pss_cons (ps_asg pe_int (pg_sub (pv 1) pe_int set_list))
          (pss_cons (ps_set (i := 4) sc__law_draw.nd rfl (by first | exact Or.inl rfl | exact Or.inr rfl) pe_int)
          (pss_cons (ps_if (pt_cmp (pc_gt (pe_callB (kw_len (K := K) rfl) (by rfl) T.b_len (show bootBuiltins "len" = some (.builtin "len") from by decide +kernel) (pa_cons (pv 0) pa_nil)) pe_int)) (pss_one (ps_set (i := 4) sc__law_draw.nd rfl (by first | exact Or.inl rfl | exact Or.inr rfl) (pe_ix (kix_list (K := K) rfl) (pv 0) (pe_op op_mod (pe_callTy w_int (by rfl) T.b_int (show bootBuiltins "int" = some (.type "int") from by decide +kernel) (pa_cons (pe_ix (kix_list (K := K) rfl) (pv 1) pe_int (fun _ _ => rfl)) pa_nil)) (pe_callB (kw_len (K := K) rfl) (by rfl) T.b_len (show bootBuiltins "len" = some (.builtin "len") from by decide +kernel) (pa_cons (pv 0) pa_nil))) (fun _ _ => rfl)))) pss_nil)
          (pss_cons (ps_asg (pe_op op_add (pe_ix (kix_list (K := K) rfl) (pv 1) pe_int (fun _ _ => rfl)) pe_int) (pg_sub (pv 1) pe_int set_list))
          (pss_cons (ps_set (i := 5) sc__law_draw.nd rfl (by first | exact Or.inl rfl | exact Or.inr rfl) (pe_op op_mul (pe_op op_mod (pe_callTy w_int (by rfl) T.b_int (show bootBuiltins "int" = some (.type "int") from by decide +kernel) (pa_cons (pe_ix (kix_list (K := K) rfl) (pv 1) pe_int (fun _ _ => rfl)) pa_nil)) pe_int) pe_int))
          (pss_cons (ps_set (i := 5) sc__law_draw.nd rfl (by first | exact Or.inl rfl | exact Or.inr rfl) (pe_op op_add (pe_op op_add (pe_op op_add (pv 5) (pe_op op_mod (pe_callTy w_int (by rfl) T.b_int (show bootBuiltins "int" = some (.type "int") from by decide +kernel) (pa_cons (pv 4) pa_nil)) pe_int)) (pe_op op_mul pe_int (pe_ix (kix_list (K := K) rfl) (pv 1) pe_int (fun _ _ => rfl)))) pe_int))
          (pss_cons (ps_asg (pe_op op_mod (pe_callTy w_int (by rfl) T.b_int (show bootBuiltins "int" = some (.type "int") from by decide +kernel) (pa_cons (pv 5) pa_nil)) pe_int) (pg_sub (pv 1) pe_int set_list))
          (pss_cons (ps_set (i := 5) sc__law_draw.nd rfl (by first | exact Or.inl rfl | exact Or.inr rfl) (pe_op op_mod (pe_callTy w_int (by rfl) T.b_int (show bootBuiltins "int" = some (.type "int") from by decide +kernel) (pa_cons (pe_op op_add (pe_op op_mul (pe_ix (kix_list (K := K) rfl) (pv 1) pe_int (fun _ _ => rfl)) pe_int) (pe_ix (kix_list (K := K) rfl) (pv 1) pe_int (fun _ _ => rfl))) pa_nil)) pe_int))
          (pss_one (ps_ret (pe_op op_mod (pe_callTy w_int (by rfl) T.b_int (show bootBuiltins "int" = some (.type "int") from by decide +kernel) (pa_cons (pe_op op_fdiv (pv 5) pe_int) pa_nil)) (pv 2)))))))))))))), ?_⟩
    simp only [L2.start, N__law_draw, cxOf, List.map_cons, List.map_nil, List.length_cons, List.length_nil, Nat.reduceAdd, Nat.reduceSub, List.replicate, List.cons_append, List.nil_append, List.append_nil]
    walk_at "rd"
    refine ifd (fun e1 => ?_) (fun e1 => ?_)
    · walk_at "rd"
      refine ifd (fun e2 => ?_) (fun e2 => ?_)
      · walk_at "rd"
        exact k _ _ _ _ _ (Int.emod_nonneg _ (by omega)) (Int.emod_lt_of_pos _ n0)
      · walk_at "rd"
        refine ifd (fun e3 => ?_) (fun e3 => ?_)
        · walk_at "rd"
          rw [List.length_map] at e3 ⊢
          obtain ⟨z, ez, _⟩ := at_ints (ns := ns) (Int.emod_nonneg x2 (show (ns.length : Int) ≠ 0 by omega)) (Int.emod_lt_of_pos x2 e3)
          refine i_ixL (hS _) ez ?_
          walk_at "rd"
          exact k _ _ _ _ _ (Int.emod_nonneg _ (by omega)) (Int.emod_lt_of_pos _ n0)
        · walk_at "rd"
          exact k _ _ _ _ _ (Int.emod_nonneg _ (by omega)) (Int.emod_lt_of_pos _ n0)
    · walk_at "rd"
      refine ifd (fun e3 => ?_) (fun e3 => ?_)
      · walk_at "rd"
        rw [List.length_map] at e3 ⊢
        obtain ⟨z, ez, _⟩ := at_ints (ns := ns) (Int.emod_nonneg x2 (show (ns.length : Int) ≠ 0 by omega)) (Int.emod_lt_of_pos x2 e3)
        refine i_ixL (hS _) ez ?_
        walk_at "rd"
        exact k _ _ _ _ _ (Int.emod_nonneg _ (by omega)) (Int.emod_lt_of_pos _ n0)
      · walk_at "rd"
        exact k _ _ _ _ _ (Int.emod_nonneg _ (by omega)) (Int.emod_lt_of_pos _ n0)
open Dl
def kcls (A : Ad) : Nat → Addr
  | 0 => A.C_ParcelError
  | 1 => A.C_BadNumber
  | 3 => A.C_BadPair
  | _ => 0
def kfns (A : Ad) : Nat → Addr
  | _ => 0
abbrev kap (K : PySem.W.Frag) (w : World) (A : Ad) : Dl.Ctx := mkC K w (kcls A) (kfns A)
theorem tk__law_start (T : Txt P w K mg A) : Cal P w K mg base 1 "_law_start" A.f__law_start (spF (kap K w A) M__law_start) :=
  have c := ok__law_start (base := base) T
  ⟨c.fn.imp fun _ _ _ _ h => spF_start (κ := kap K w A) mkC_draw h, c.kp, c.gl⟩

theorem tk__law_draw (T : Txt P w K mg A) : Cal P w K mg base 1 "_law_draw" A.f__law_draw (spF (kap K w A) M__law_draw) :=
  have c := ok__law_draw (base := base) T
  ⟨c.fn.imp fun _ _ _ _ h => spF_draw (κ := kap K w A) mkC_draw h, c.kp, c.gl⟩

theorem tk_is_figures (T : Txt P w K mg A) : Cal P w K mg base 1 "is_figures" A.f_is_figures (spF (kap K w A) M_is_figures) := by
  exact ⟨fn_mk (κ := kap K w A) (N := N_is_figures) (ps := ["text"]) T.F_is_figures sc_is_figures (T.F_is_figures.binds fun _ _ _ _ _ _ us hl => match us, hl with | [_], _ => rfl) (by decide) (by decide) 1000000 fun cdv A' outer s H E hr => ⟨_, (pss_cons (ps_if (PW.pt (pw_or (pt_not (pt_val (pe_callB (kcall_isV (K := K) rfl) (by rfl) T.b_isinstance (show bootBuiltins "isinstance" = some (.builtin "isinstance") from by decide +kernel) (pa_cons (pv 0) (pa_cons (pe_bltn (v := .ty "str") (u := .type "str") (by rfl) T.b_str (by decide +kernel) rfl) pa_nil))))) (pw_or (pt_cmpR op_lt (pe_callB (call_lenU (K := K) rfl) (by rfl) T.b_len (show bootBuiltins "len" = some (.builtin "len") from by decide +kernel) (pa_cons (pv 0) pa_nil)) pe_int (nomark _)) (pw_or1 (pt_cmpR op_gt (pe_callB (call_lenU (K := K) rfl) (by rfl) T.b_len (show bootBuiltins "len" = some (.builtin "len") from by decide +kernel) (pa_cons (pv 0) pa_nil)) (C8.pe_gc (by rfl) T.c_MOST_DIGITS) (nomark _)))))) (pss_one (ps_ret pe_bl)) pss_nil)
      (pss_cons (ps_for (passes_of rfl) rfl (pi_str (pv 0)) (pg_name (i := 1) sc_is_figures.nd rfl (by first | exact Or.inl rfl | exact Or.inr rfl))
      (pss_one (ps_if (pt_cmpR op_notInS (pv 1) (C8.pe_gc (by rfl) T.c_DIGITS) (by rfl)) (pss_one (ps_ret pe_bl)) pss_nil)))
      (pss_one (ps_ret (pe_or (pe_cmpR (kop_eqD (K := K) rfl hr.units) (pe_callB (call_lenU (K := K) rfl) (by rfl) T.b_len (show bootBuiltins "len" = some (.builtin "len") from by decide +kernel) (pa_cons (pv 0) pa_nil)) pe_int (nomark _)) (pe_one (pe_cmpR (kop_neD (K := K) rfl hr.units) (pe_ix (ix_U (K := K) rfl (hu1_of hr)) (pv 0) pe_int (fun _ _ => rfl)) pe_str (nomark _)))))))),
    (sim_seq (sim_ifS (sim_or (sim_notT (sim_tB (sim_isV (t := .str) rfl (fun _ => nofun) rfl sim_rf))) (sim_or (sim_test (sim_op2 o_lt (sim_cb1 o_len sim_rf) sim_int)) (sim_test (sim_op2 o_gt (sim_cb1 o_len sim_rf) sim_int)))) (sim_ret sim_bl) sim_nop)
      (sim_seq (sim_for (simi_str sim_var) (simg_name (.inl rfl))
      (sim_fgt (sim_ifS (sim_test (sim_op2 o_ninS sim_rf sim_str)) (sim_ret sim_bl) sim_nop)))
      (sim_ret (sim_orV (sim_op2 o_eq (sim_cb1 o_len sim_rf) sim_int) (sim_op2 o_ne (sim_op2 o_ix sim_rf sim_int) sim_str)))))⟩, T.F_is_figures.kp, T.g_is_figures⟩

theorem tk_read_number (T : Txt P w K mg A) : Cal P w K mg base 2 "read_number" A.f_read_number (spF (kap K w A) M_read_number) := by
  have c_is_figures := tk_is_figures (base := base) T
  exact ⟨fn_mk (κ := kap K w A) (N := N_read_number) (ps := ["text"]) T.F_read_number sc_read_number (T.F_read_number.binds fun _ _ _ _ _ _ us hl => match us, hl with | [_], _ => rfl) (by decide) (by decide) 1000000 fun cdv A' outer s H E hr => ⟨_, (pss_cons (ps_if (pt_not (pt_val (pc_fn c_is_figures (hr.mono (by decide)) (takes_of rfl rfl rfl rfl) (pa_cons (pv 0) pa_nil)))) (pss_one (WpE.ps_raiseE rfl T.E_BadNumber T.N_BadNumber T.g_BadNumber hr (by decide) (takes_of rfl rfl rfl rfl) (pa_cons pe_str (pa_cons (pv 0) pa_nil)))) pss_nil)
      (pss_one (ps_ret (pe_callTy w_intS (by rfl) T.b_int (show bootBuiltins "int" = some (.type "int") from by decide +kernel) (pa_cons (pv 0) pa_nil))))),
    (sim_seq (sim_ifS (sim_notT (sim_tB (sim_call rfl (sim_cons sim_rf sim_nil)))) (sim_rai (c := 1) rfl (by rfl) (sim_cons sim_str (sim_cons sim_rf sim_nil))) sim_nop)
      (sim_ret (sim_cb1 o_intS sim_rf)))⟩, T.F_read_number.kp, T.g_read_number⟩

theorem tk__law_due (T : Txt P w K mg A) : Cal P w K mg base 1 "_law_due" A.f__law_due (spF (kap K w A) M__law_due) := by
  exact ⟨fn_mk (κ := kap K w A) (N := N__law_due) (ps := ["_law_text"]) T.F__law_due sc__law_due (T.F__law_due.binds fun _ _ _ _ _ _ us hl => match us, hl with | [_], _ => rfl) (by decide) (by decide) 1000000 fun cdv A' outer s H E hr => ⟨_, (pss_cons (ps_if (PW.pt (pw_or (pt_cmpR op_lt (pe_callB (call_lenU (K := K) rfl) (by rfl) T.b_len (show bootBuiltins "len" = some (.builtin "len") from by decide +kernel) (pa_cons (pv 0) pa_nil)) pe_int (nomark _)) (pw_or (pt_cmpR op_gt (pe_callB (call_lenU (K := K) rfl) (by rfl) T.b_len (show bootBuiltins "len" = some (.builtin "len") from by decide +kernel) (pa_cons (pv 0) pa_nil)) pe_int (nomark _)) (pw_or1 (PW.pt (pw_and (pt_cmpR op_gt (pe_callB (call_lenU (K := K) rfl) (by rfl) T.b_len (show bootBuiltins "len" = some (.builtin "len") from by decide +kernel) (pa_cons (pv 0) pa_nil)) pe_int (nomark _)) (pw_and1 (pt_cmpR (kop_eqD (K := K) rfl hr.units) (pe_ix (ix_U (K := K) rfl (hu1_of hr)) (pv 0) pe_int (fun _ _ => rfl)) pe_str (nomark _))))))))) (pss_one (ps_ret pe_non)) pss_nil)
      (pss_cons (ps_set (i := 1) sc__law_due.nd rfl (by first | exact Or.inl rfl | exact Or.inr rfl) pe_int)
      (pss_cons (ps_for (passes_of rfl) rfl (pi_str (pv 0)) (pg_name (i := 2) sc__law_due.nd rfl (by first | exact Or.inl rfl | exact Or.inr rfl))
      (pss_cons (ps_set (i := 3) sc__law_due.nd rfl (by first | exact Or.inl rfl | exact Or.inr rfl) (pe_bm PySem.F.plainAttrs_str PySem.F.slot_str_find PySem.F.type_str_find mt_findS pe_str (pa_cons (pv 2) pa_nil)))
      (pss_cons (ps_if (pt_cmpR op_lt (pv 3) pe_int (nomark _)) (pss_one (ps_ret pe_non)) pss_nil)
      (pss_one (ps_set (i := 1) sc__law_due.nd rfl (by first | exact Or.inl rfl | exact Or.inr rfl) (pe_op (op_addU (K := K) rfl) (pe_op (op_mulT (K := K) rfl) (pv 1) pe_int) (pv 3)))))))
      (pss_one (ps_ret (pv 1)))))),
    (sim_seq (sim_ifS (sim_or (sim_test (sim_op2 o_lt (sim_cb1 o_len sim_rf) sim_int)) (sim_or (sim_test (sim_op2 o_gt (sim_cb1 o_len sim_rf) sim_int)) (sim_and (sim_test (sim_op2 o_gt (sim_cb1 o_len sim_rf) sim_int)) (sim_test (sim_op2 o_eq (sim_op2 o_ix sim_rf sim_int) sim_str))))) (sim_ret sim_non) sim_nop)
      (sim_seq (sim_set (.inl rfl) sim_int)
      (sim_seq (sim_for (simi_str sim_var) (simg_name (.inl rfl))
      (sim_seq (sim_set (.inl rfl) (sim_find sim_str sim_var))
      (sim_seq (sim_ifS (sim_test (sim_op2 o_lt sim_rf sim_int)) (sim_ret sim_non) sim_nop)
      (sim_fgt (sim_set (.inl rfl) (sim_op2 o_add (sim_op2 o_mulT sim_rf sim_int) sim_rf))))))
      (sim_ret sim_mov))))⟩, T.F__law_due.kp, T.g__law_due⟩

theorem tk__law_is_integer (T : Txt P w K mg A) : Cal P w K mg base 1 "_law_is_integer" A.f__law_is_integer (spF (kap K w A) M__law_is_integer) := by
  exact ⟨fn_mk (κ := kap K w A) (N := N__law_is_integer) (ps := ["_law_actual"]) T.F__law_is_integer sc__law_is_integer (T.F__law_is_integer.binds fun _ _ _ _ _ _ us hl => match us, hl with | [_], _ => rfl) (by decide) (by decide) 1000000 fun cdv A' outer s H E hr => ⟨_, (pss_one (ps_ret (pe_and (pe_callB (kcall_isV (K := K) rfl) (by rfl) T.b_isinstance (show bootBuiltins "isinstance" = some (.builtin "isinstance") from by decide +kernel) (pa_cons (pv 0) (pa_cons (pe_bltn (v := .ty "int") (u := .type "int") (by rfl) T.b_int (by decide +kernel) rfl) pa_nil))) (pe_one (pe_not (pe_callB (kcall_isV (K := K) rfl) (by rfl) T.b_isinstance (show bootBuiltins "isinstance" = some (.builtin "isinstance") from by decide +kernel) (pa_cons (pv 0) (pa_cons (pe_bltn (v := .ty "bool") (u := .type "bool") (by rfl) T.b_bool (by decide +kernel) rfl) pa_nil)))))))),
    (sim_ret (sim_andV (sim_isV (t := .int) rfl (fun _ => nofun) rfl sim_rf) (sim_notV (sim_isV (t := .bool) rfl (fun _ => nofun) rfl sim_rf))))⟩, T.F__law_is_integer.kp, T.g__law_is_integer⟩

theorem tk__law_holds (T : Txt P w K mg A) : Cal P w K mg base 3 "_law_holds" A.f__law_holds (spF (kap K w A) M__law_holds) := by
  have c_read_number := tk_read_number (base := base) T
  have c__law_due := tk__law_due (base := base) T
  have c__law_is_integer := tk__law_is_integer (base := base) T
  exact ⟨fn_mk (κ := kap K w A) (N := N__law_holds) (ps := ["_law_text"]) T.F__law_holds sc__law_holds (T.F__law_holds.binds fun _ _ _ _ _ _ us hl => match us, hl with | [_], _ => rfl) (by decide) (by decide) 3 fun cdv A' outer s H E hr => ⟨_, (pss_cons (ps_set (i := 1) sc__law_holds.nd rfl (by first | exact Or.inl rfl | exact Or.inr rfl) pe_non)
      (pss_cons (ps_set (i := 2) sc__law_holds.nd rfl (by first | exact Or.inl rfl | exact Or.inr rfl) pe_non)
      (pss_cons (WpK.ps_try_keep (i := 3) rfl rfl (takes_of rfl rfl rfl rfl) (fun W pn xe tk pp => (pss_one (ps_set (i := 1) sc__law_holds.nd rfl (by first | exact Or.inl rfl | exact Or.inr rfl) (pc_fn c_read_number (hr.mono (by decide)) tk (pa_cons (pv 0) pa_nil))))) sc__law_holds.nd rfl rfl ⟨rfl, by decide, Or.inl T.g_BadNumber⟩ (fun a oe cls d pn hz hf => (pss_one (ps_set (i := 2) sc__law_holds.nd rfl (by first | exact Or.inl rfl | exact Or.inr rfl) (pv 3)))) rfl)
      (pss_cons (ps_set (i := 4) sc__law_holds.nd rfl (by first | exact Or.inl rfl | exact Or.inr rfl) (pc_fn c__law_due (hr.mono (by decide)) (takes_of rfl rfl rfl rfl) (pa_cons (pv 0) pa_nil)))
      (pss_cons (ps_if (pt_cmp (pc_isN (pv 4))) (pss_cons (ps_if (PW.pt (pw_or (pt_cmp (pc_isN (pv 2))) (pw_or1 (pt_val (pe_callB WpK.call_isK (by rfl) T.b_isinstance (show bootBuiltins "isinstance" = some (.builtin "isinstance") from by decide +kernel) (pa_cons (pv 2) (pa_cons (pe_glob (v := .ref A.C_BadPair) (by rfl) T.g_BadPair rfl) pa_nil))))))) (pss_one (ps_ret pe_bl)) pss_nil)
      (pss_one (ps_ret (pe_and (pe_cmpR (kop_eqD (K := K) rfl hr.units) (WpK.pe_xk T.xf_BadNumber T.nf_BadNumber_what (pv 2)) pe_str (nomark _)) (pe_one (pe_cmpR (kop_eqD (K := K) rfl hr.units) (WpK.pe_xk T.xf_BadNumber T.nf_BadNumber_value (pv 2)) (pv 0) (nomark _))))))) pss_nil)
      (pss_one (ps_ret (pe_and (pe_cmp (pc_isN (pv 2)) rfl) (pe_and (pc_fn c__law_is_integer (hr.mono (by decide)) (takes_of rfl rfl rfl rfl) (pa_cons (pv 1) pa_nil)) (pe_one (pe_cmpR (kop_eqD (K := K) rfl hr.units) (pv 1) (pv 4) (nomark _)))))))))))),
    (sim_seq (sim_set (.inl rfl) sim_non)
      (sim_seq (sim_set (.inl rfl) sim_non)
      (sim_seq (sim_keep (fun W => (sim_set (.inl rfl) (sim_call rfl (sim_cons sim_rf sim_nil)))) (fun n hn => by simp only [List.mem_cons, List.not_mem_nil, or_false] at hn; subst hn; exact T.te_BadNumber_BadNumber) (by decide) (.inl rfl))
      (sim_seq (sim_set (.inl rfl) (sim_call rfl (sim_cons sim_rf sim_nil)))
      (sim_seq (sim_ifS (sim_tB (sim_op1 o_isN sim_rf)) (sim_seq (sim_ifS (sim_or (sim_tB (sim_op1 o_isN sim_rf)) (sim_tB (sim_isK kxC_mkC (cx := .ref A.C_BadPair) (cv := .ref A.C_BadPair) (ks := [1]) (bs := []) (fun _ h => h) (fun n hn => by simp only [List.mem_cons, List.not_mem_nil, or_false] at hn; subst hn; exact T.ex_BadNumber) (fun n hn => by simp only [List.mem_cons, List.not_mem_nil, or_false] at hn; subst hn; exact T.ki_BadNumber_BadPair) sim_rf))) (sim_ret sim_bl) sim_nop)
      (sim_ret (sim_andV (sim_op2 o_eq (sim_xk kxC_mkC (c := 1) (by rfl) sim_rf) sim_str) (sim_op2 o_eq (sim_xk kxC_mkC (c := 1) (by rfl) sim_rf) sim_rf)))) sim_nop)
      (sim_ret (sim_andV (sim_op1 o_isN sim_rf) (sim_andV (sim_call rfl (sim_cons sim_rf sim_nil)) (sim_op2 o_eq sim_rf sim_rf)))))))))⟩, T.F__law_holds.kp, T.g__law_holds⟩

theorem tk_law (ok : lawOk M_law) (T : Txt P w K mg A) : FnOk P w K mg base (L2.CX P w) 4 A.f_law A.d_law ["_law_script"] (Dl.spLaw K) := by
  have c__law_start := tk__law_start (base := base) T
  have c__law_draw := tk__law_draw (base := base) T
  have c__law_holds := tk__law_holds (base := base) T
  exact fn_okX (κ := kap K w A) (N := N_law) (ps := ["_law_script"]) T.F_law sc_law (fun vs H Q E h => law_sp ok h) (by decide) (by decide) 1000000 fun cdv A' outer s H E hr => ⟨_, (pss_cons (ps_set (i := 1) sc_law.nd rfl (by first | exact Or.inl rfl | exact Or.inr rfl) (pc_fn c__law_start (hr.mono (by decide)) (takes_of rfl rfl rfl rfl) (pa_cons (pv 0) pa_nil)))
      (pss_cons (ps_set (i := 2) sc_law.nd rfl (by first | exact Or.inl rfl | exact Or.inr rfl) pe_str)
      (pss_cons (ps_for (passes_of rfl) rfl (pi_range1 (by rfl) T.b_range (pa_cons (pc_fn c__law_draw (hr.mono (by decide)) (takes_of rfl rfl rfl rfl) (pa_cons (pv 0) (pa_cons (pv 1) (pa_cons pe_int pa_nil)))) pa_nil)) (pg_name (i := 3) sc_law.nd rfl (by first | exact Or.inl rfl | exact Or.inr rfl))
      (pss_one (ps_set (i := 2) sc_law.nd rfl (by first | exact Or.inl rfl | exact Or.inr rfl) (pe_op (op_addU (K := K) rfl) (pv 2) (pe_callTy w_strI (by rfl) T.b_str (show bootBuiltins "str" = some (.type "str") from by decide +kernel) (pa_cons (pc_fn c__law_draw (hr.mono (by decide)) (takes_of rfl rfl rfl rfl) (pa_cons (pv 0) (pa_cons (pv 1) (pa_cons pe_int pa_nil)))) pa_nil))))))
      (pss_cons (ps_if (pt_cmpR (kop_eqD (K := K) rfl hr.units) (pc_fn c__law_draw (hr.mono (by decide)) (takes_of rfl rfl rfl rfl) (pa_cons (pv 0) (pa_cons (pv 1) (pa_cons pe_int pa_nil)))) pe_int (nomark _)) (pss_one (ps_set (i := 2) sc_law.nd rfl (by first | exact Or.inl rfl | exact Or.inr rfl) (pe_op (op_addU (K := K) rfl) pe_str (pv 2)))) pss_nil)
      (pss_cons (ps_if (PW.pt (pw_and (pt_cmpR (kop_eqD (K := K) rfl hr.units) (pc_fn c__law_draw (hr.mono (by decide)) (takes_of rfl rfl rfl rfl) (pa_cons (pv 0) (pa_cons (pv 1) (pa_cons pe_int pa_nil)))) pe_int (nomark _)) (pw_and1 (pt_cmpR op_gt (pe_callB (call_lenU (K := K) rfl) (by rfl) T.b_len (show bootBuiltins "len" = some (.builtin "len") from by decide +kernel) (pa_cons (pv 2) pa_nil)) pe_int (nomark _))))) (pss_cons (ps_set (i := 4) sc_law.nd rfl (by first | exact Or.inl rfl | exact Or.inr rfl) pe_str)
      (pss_cons (ps_set (i := 5) sc_law.nd rfl (by first | exact Or.inl rfl | exact Or.inr rfl) (pc_fn c__law_draw (hr.mono (by decide)) (takes_of rfl rfl rfl rfl) (pa_cons (pv 0) (pa_cons (pv 1) (pa_cons (pe_callB (call_lenU (K := K) rfl) (by rfl) T.b_len (show bootBuiltins "len" = some (.builtin "len") from by decide +kernel) (pa_cons (pv 2) pa_nil)) pa_nil)))))
      (pss_one (ps_set (i := 2) sc_law.nd rfl (by first | exact Or.inl rfl | exact Or.inr rfl) (pe_op (op_addU (K := K) rfl) (pe_op (op_addU (K := K) rfl) (pe_slice sl_str (pv 2) po_none (po_some (pv 5))) (pe_ix (ix_U (K := K) rfl (hu1_of hr)) (pv 4) (pc_fn c__law_draw (hr.mono (by decide)) (takes_of rfl rfl rfl rfl) (pa_cons (pv 0) (pa_cons (pv 1) (pa_cons (pe_callB (call_lenU (K := K) rfl) (by rfl) T.b_len (show bootBuiltins "len" = some (.builtin "len") from by decide +kernel) (pa_cons (pv 4) pa_nil)) pa_nil)))) (fun _ _ => rfl))) (pe_slice sl_str (pv 2) (po_some (pe_op (op_addU (K := K) rfl) (pv 5) pe_int)) po_none)))))) pss_nil)
      (pss_cons (ps_set (i := 4) sc_law.nd rfl (by first | exact Or.inl rfl | exact Or.inr rfl) (pe_lst (pa_cons pe_str (pa_cons pe_str (pa_cons pe_str (pa_cons pe_str (pa_cons pe_str (pa_cons pe_str (pa_cons pe_str (pa_cons pe_str (pa_cons pe_str (pa_cons pe_str (pa_cons pe_str (pa_cons pe_str (pa_cons pe_str pa_nil)))))))))))))))
      (pss_cons (ps_for (passes_of rfl) rfl (pi_seq (K := K) rfl (pe_op (op_addU (K := K) rfl) (pe_lst (pa_cons (pv 2) pa_nil)) (pv 4))) (pg_name (i := 6) sc_law.nd rfl (by first | exact Or.inl rfl | exact Or.inr rfl))
      (pss_one (ps_if (pt_not (pt_val (pc_fn c__law_holds (hr.mono (by decide)) (takes_of rfl rfl rfl rfl) (pa_cons (pv 6) pa_nil)))) (pss_one (ps_ret pe_bl)) pss_nil)))
      (pss_one (ps_ret pe_bl))))))))),
    (sim_seq (sim_set (.inl rfl) (sim_call rfl (sim_cons sim_rf sim_nil)))
      (sim_seq (sim_set (.inl rfl) sim_str)
      (sim_seq (sim_for (simi_rng1 (sim_call rfl (sim_cons sim_rf (sim_cons sim_rf (sim_cons sim_int sim_nil))))) (simg_name (.inl rfl))
      (sim_fgt (sim_set (.inl rfl) (sim_op2 o_add sim_rf (sim_cb1 o_strI (sim_call rfl (sim_cons sim_rf (sim_cons sim_rf (sim_cons sim_int sim_nil)))))))))
      (sim_seq (sim_ifS (sim_test (sim_op2 o_eq (sim_call rfl (sim_cons sim_rf (sim_cons sim_rf (sim_cons sim_int sim_nil)))) sim_int)) (sim_set (.inl rfl) (sim_op2 o_add sim_str sim_rf)) sim_nop)
      (sim_seq (sim_ifS (sim_and (sim_test (sim_op2 o_eq (sim_call rfl (sim_cons sim_rf (sim_cons sim_rf (sim_cons sim_int sim_nil)))) sim_int)) (sim_test (sim_op2 o_gt (sim_cb1 o_len sim_rf) sim_int))) (sim_seq (sim_set (.inl rfl) sim_str)
      (sim_seq (sim_set (.inl rfl) (sim_call rfl (sim_cons sim_rf (sim_cons sim_rf (sim_cons (sim_cb1 o_len sim_rf) sim_nil)))))
      (sim_set (.inl rfl) (sim_op2 o_add (sim_op2 o_add (sim_slcT sim_rf simo_none (simo_some sim_rf)) (sim_op2 o_ix sim_rf (sim_call rfl (sim_cons sim_rf (sim_cons sim_rf (sim_cons (sim_cb1 o_len sim_rf) sim_nil)))))) (sim_slcT sim_rf (simo_some (sim_op2 o_add sim_rf sim_int)) simo_none))))) sim_nop)
      (sim_seq (sim_set (.inl rfl) (sim_lst (sim_cons sim_str (sim_cons sim_str (sim_cons sim_str (sim_cons sim_str (sim_cons sim_str (sim_cons sim_str (sim_cons sim_str (sim_cons sim_str (sim_cons sim_str (sim_cons sim_str (sim_cons sim_str (sim_cons sim_str (sim_cons sim_str sim_nil)))))))))))))))
      (sim_seq (sim_for (simi_seq (sim_op2 o_add (sim_lst (sim_cons sim_var sim_nil)) sim_rf)) (simg_name (.inl rfl))
      (sim_fgt (sim_ifS (sim_notT (sim_tB (sim_call rfl (sim_cons sim_rf sim_nil)))) (sim_ret sim_bl) sim_nop)))
      (sim_ret sim_bl))))))))⟩
theorem ok_law (T : Txt P w K mg A) : FnOk P w K mg base (L2.CX P w) 4 A.f_law A.d_law ["_law_script"] (Dl.spLaw K) := tk_law Dl.law_ok T
end
theorem all_mk {w : World} {K : PySem.W.Frag} {h : Heap} {mg : Str → Option Value} {fa : Addr} (X : K.In h) (G : h.Ns mainGlobals mg) (hfa : mg "law" = some (.ref fa))
    {f_is_figures f_read_number f__law_start f__law_draw f__law_is_integer f__law_due f__law_holds f_law : Addr}
    {od_is_figures an_is_figures od_read_number an_read_number od__law_start an__law_start od__law_draw an__law_draw od__law_is_integer an__law_is_integer od__law_due an__law_due od__law_holds an__law_holds od_law an_law : Option Addr}
    {sl_is_figures sl_read_number sl__law_start sl__law_draw sl__law_is_integer sl__law_due sl__law_holds sl_law : Array (Option Value)}
    {oc_is_figures dc_is_figures pm_is_figures cd_is_figures ct_is_figures oc_read_number dc_read_number pm_read_number cd_read_number ct_read_number oc__law_start dc__law_start pm__law_start cd__law_start ct__law_start oc__law_draw dc__law_draw pm__law_draw cd__law_draw ct__law_draw oc__law_is_integer dc__law_is_integer pm__law_is_integer cd__law_is_integer ct__law_is_integer oc__law_due dc__law_due pm__law_due cd__law_due ct__law_due oc__law_holds dc__law_holds pm__law_holds cd__law_holds ct__law_holds oc_law dc_law pm_law cd_law ct_law : Value}
    {kV_is_figures kV_read_number kV__law_start kV__law_draw kV__law_is_integer kV__law_due kV__law_holds kV_law : Value}
    {C_ParcelError C_BadNumber C_BadPair : Addr}
    {i_BadNumber NN_BadNumber cc_BadNumber cda_BadNumber : Addr} {nm_BadNumber qn_BadNumber fl_BadNumber : Str} {bs_BadNumber bm_BadNumber sub_BadNumber : List Value} {sn_BadNumber : List Str} {ab_BadNumber : Bool} {col_BadNumber : Option Bool} {dd_BadNumber od_BadNumber an_BadNumber cdd_BadNumber kd_BadNumber : Option Addr} {m0_BadNumber m1_BadNumber m2_BadNumber m3_BadNumber m5_BadNumber : Option Value} {oc_BadNumber dc_BadNumber pm_BadNumber ct_BadNumber ccl_BadNumber kl_BadNumber : Value} {sl_BadNumber ccs_BadNumber ks_BadNumber : Array (Option Value)} {cv_BadNumber : Array Value} {tf_BadNumber : Tok}
    {i_BadPair NN_BadPair cc_BadPair cda_BadPair : Addr} {nm_BadPair qn_BadPair fl_BadPair : Str} {bs_BadPair bm_BadPair sub_BadPair : List Value} {sn_BadPair : List Str} {ab_BadPair : Bool} {col_BadPair : Option Bool} {dd_BadPair od_BadPair an_BadPair cdd_BadPair kd_BadPair : Option Addr} {m0_BadPair m1_BadPair m2_BadPair m3_BadPair m5_BadPair : Option Value} {oc_BadPair dc_BadPair pm_BadPair ct_BadPair ccl_BadPair kl_BadPair : Value} {sl_BadPair ccs_BadPair ks_BadPair : Array (Option Value)} {cv_BadPair : Array Value} {tf_BadPair : Tok}
    {tk_DIGITS tk_MOST_DIGITS : Tok}
    (a_is_figures : PySem.W.nsIn K mainGlobals "is_figures" = some (some (.ref f_is_figures)))
    (a_read_number : PySem.W.nsIn K mainGlobals "read_number" = some (some (.ref f_read_number)))
    (a__law_start : PySem.W.nsIn K mainGlobals "_law_start" = some (some (.ref f__law_start)))
    (a__law_draw : PySem.W.nsIn K mainGlobals "_law_draw" = some (some (.ref f__law_draw)))
    (a__law_is_integer : PySem.W.nsIn K mainGlobals "_law_is_integer" = some (some (.ref f__law_is_integer)))
    (a__law_due : PySem.W.nsIn K mainGlobals "_law_due" = some (some (.ref f__law_due)))
    (a__law_holds : PySem.W.nsIn K mainGlobals "_law_holds" = some (some (.ref f__law_holds)))
    (a_law : PySem.W.nsIn K mainGlobals "law" = some (some (.ref f_law)))
    (a_ParcelError : PySem.W.nsIn K mainGlobals "ParcelError" = some (some (.ref C_ParcelError)))
    (a_BadNumber : PySem.W.nsIn K mainGlobals "BadNumber" = some (some (.ref C_BadNumber)))
    (a_BadPair : PySem.W.nsIn K mainGlobals "BadPair" = some (some (.ref C_BadPair)))
    (l_is_figures : K.lookup f_is_figures = some ⟨oc_is_figures, od_is_figures, .func (PySem.W.fnOf "is_figures" "is_figures" (defArgs s_is_figures) (defBody s_is_figures) (defScope s_is_figures) .none kV_is_figures dc_is_figures pm_is_figures an_is_figures cd_is_figures ct_is_figures), sl_is_figures⟩)
    (c_is_figures : PySem.W.codeIn K cd_is_figures "is_figures" = true)
    (k_is_figures : PySem.W.keepIn K (.ref f_is_figures) = true)
    (l_read_number : K.lookup f_read_number = some ⟨oc_read_number, od_read_number, .func (PySem.W.fnOf "read_number" "read_number" (defArgs s_read_number) (defBody s_read_number) (defScope s_read_number) .none kV_read_number dc_read_number pm_read_number an_read_number cd_read_number ct_read_number), sl_read_number⟩)
    (c_read_number : PySem.W.codeIn K cd_read_number "read_number" = true)
    (k_read_number : PySem.W.keepIn K (.ref f_read_number) = true)
    (l__law_start : K.lookup f__law_start = some ⟨oc__law_start, od__law_start, .func (PySem.W.fnOf "_law_start" "_law_start" (defArgs s__law_start) (defBody s__law_start) (defScope s__law_start) .none kV__law_start dc__law_start pm__law_start an__law_start cd__law_start ct__law_start), sl__law_start⟩)
    (c__law_start : PySem.W.codeIn K cd__law_start "_law_start" = true)
    (k__law_start : PySem.W.keepIn K (.ref f__law_start) = true)
    (l__law_draw : K.lookup f__law_draw = some ⟨oc__law_draw, od__law_draw, .func (PySem.W.fnOf "_law_draw" "_law_draw" (defArgs s__law_draw) (defBody s__law_draw) (defScope s__law_draw) .none kV__law_draw dc__law_draw pm__law_draw an__law_draw cd__law_draw ct__law_draw), sl__law_draw⟩)
    (c__law_draw : PySem.W.codeIn K cd__law_draw "_law_draw" = true)
    (k__law_draw : PySem.W.keepIn K (.ref f__law_draw) = true)
    (l__law_is_integer : K.lookup f__law_is_integer = some ⟨oc__law_is_integer, od__law_is_integer, .func (PySem.W.fnOf "_law_is_integer" "_law_is_integer" (defArgs s__law_is_integer) (defBody s__law_is_integer) (defScope s__law_is_integer) .none kV__law_is_integer dc__law_is_integer pm__law_is_integer an__law_is_integer cd__law_is_integer ct__law_is_integer), sl__law_is_integer⟩)
    (c__law_is_integer : PySem.W.codeIn K cd__law_is_integer "_law_is_integer" = true)
    (k__law_is_integer : PySem.W.keepIn K (.ref f__law_is_integer) = true)
    (l__law_due : K.lookup f__law_due = some ⟨oc__law_due, od__law_due, .func (PySem.W.fnOf "_law_due" "_law_due" (defArgs s__law_due) (defBody s__law_due) (defScope s__law_due) .none kV__law_due dc__law_due pm__law_due an__law_due cd__law_due ct__law_due), sl__law_due⟩)
    (c__law_due : PySem.W.codeIn K cd__law_due "_law_due" = true)
    (k__law_due : PySem.W.keepIn K (.ref f__law_due) = true)
    (l__law_holds : K.lookup f__law_holds = some ⟨oc__law_holds, od__law_holds, .func (PySem.W.fnOf "_law_holds" "_law_holds" (defArgs s__law_holds) (defBody s__law_holds) (defScope s__law_holds) .none kV__law_holds dc__law_holds pm__law_holds an__law_holds cd__law_holds ct__law_holds), sl__law_holds⟩)
    (c__law_holds : PySem.W.codeIn K cd__law_holds "_law_holds" = true)
    (k__law_holds : PySem.W.keepIn K (.ref f__law_holds) = true)
    (l_law : K.lookup f_law = some ⟨oc_law, od_law, .func (PySem.W.fnOf "law" "law" (defArgs s_law) (defBody s_law) (defScope s_law) .none kV_law dc_law pm_law an_law cd_law ct_law), sl_law⟩)
    (c_law : PySem.W.codeIn K cd_law "law" = true)
    (k_law : PySem.W.keepIn K (.ref f_law) = true)
    (xL_BadNumber : K.lookup C_BadNumber = some (excClassObj nm_BadNumber qn_BadNumber C_BadNumber NN_BadNumber bs_BadNumber bm_BadNumber true sn_BadNumber sub_BadNumber ab_BadNumber col_BadNumber dd_BadNumber m0_BadNumber m1_BadNumber m2_BadNumber m3_BadNumber m5_BadNumber "ValueError.__new__"))
    (rv_BadNumber : PySem.HandSPX.refsVE bm_BadNumber = true)
    (su_BadNumber : PySem.W.ks_superIn K C_BadNumber C_BadNumber "__init__" = some (some (.builtin "ValueError.__init__")))
    (sa_BadNumber : PySem.W.findIn K (.ref C_BadNumber) "__setattr__" = some (some (.builtin "object.__setattr__")))
    (iC_BadNumber : PySem.W.findIn K (.ref C_BadNumber) "__init__" = some (some (.ref i_BadNumber)))
    (tI_BadNumber : PySem.W.typeIn K (.ref i_BadNumber) = some (.type "function"))
    (xb_BadNumber : PySem.W.subIn K (.ref C_BadNumber) (.type "BaseException") = some true)
    (xv_BadNumber : PySem.W.subIn K (.ref C_BadNumber) (.type "ValueError") = some true)
    (mr_BadNumber : PySem.W.mroIn K C_BadNumber (.ref C_BadNumber) = some true)
    (xt_BadNumber : PySem.W.typeIn K (.ref C_BadNumber) = some (.type "type"))
    (kc_BadNumber : PySem.W.keepIn K (.ref C_BadNumber) = true)
    (li_BadNumber : K.lookup i_BadNumber = some ⟨oc_BadNumber, od_BadNumber, .func (PySem.W.fnX "__init__" "BadNumber.__init__" (defArgs s_BadNumber___init__) (defBody s_BadNumber___init__) (defScope s_BadNumber___init__) [("__class__", cc_BadNumber)] .none .none dc_BadNumber pm_BadNumber an_BadNumber (.ref cda_BadNumber) ct_BadNumber), sl_BadNumber⟩)
    (ci_BadNumber : PySem.W.codeIn K (.ref cda_BadNumber) "BadNumber.__init__" = true)
    (lc_BadNumber : K.lookup cda_BadNumber = some ⟨ccl_BadNumber, cdd_BadNumber, .fields cv_BadNumber, ccs_BadNumber⟩)
    (lf_BadNumber : cv_BadNumber[2]? = some (.str fl_BadNumber tf_BadNumber))
    (lg_BadNumber : ((PySem.Challenge.pw_widestparcels_k02_read_number.main.file : Str) == fl_BadNumber) = true)
    (lk_BadNumber : K.lookup cc_BadNumber = some ⟨kl_BadNumber, kd_BadNumber, .cell (some (.ref C_BadNumber)), ks_BadNumber⟩)
    (n_BadNumber_what : PySem.W.findIn K (.ref C_BadNumber) "what" = some none)
    (n_BadNumber_value : PySem.W.findIn K (.ref C_BadNumber) "value" = some none)
    (xL_BadPair : K.lookup C_BadPair = some (excClassObj nm_BadPair qn_BadPair C_BadPair NN_BadPair bs_BadPair bm_BadPair true sn_BadPair sub_BadPair ab_BadPair col_BadPair dd_BadPair m0_BadPair m1_BadPair m2_BadPair m3_BadPair m5_BadPair "ValueError.__new__"))
    (rv_BadPair : PySem.HandSPX.refsVE bm_BadPair = true)
    (su_BadPair : PySem.W.ks_superIn K C_BadPair C_BadPair "__init__" = some (some (.builtin "ValueError.__init__")))
    (sa_BadPair : PySem.W.findIn K (.ref C_BadPair) "__setattr__" = some (some (.builtin "object.__setattr__")))
    (iC_BadPair : PySem.W.findIn K (.ref C_BadPair) "__init__" = some (some (.ref i_BadPair)))
    (tI_BadPair : PySem.W.typeIn K (.ref i_BadPair) = some (.type "function"))
    (xb_BadPair : PySem.W.subIn K (.ref C_BadPair) (.type "BaseException") = some true)
    (xv_BadPair : PySem.W.subIn K (.ref C_BadPair) (.type "ValueError") = some true)
    (mr_BadPair : PySem.W.mroIn K C_BadPair (.ref C_BadPair) = some true)
    (xt_BadPair : PySem.W.typeIn K (.ref C_BadPair) = some (.type "type"))
    (kc_BadPair : PySem.W.keepIn K (.ref C_BadPair) = true)
    (li_BadPair : K.lookup i_BadPair = some ⟨oc_BadPair, od_BadPair, .func (PySem.W.fnX "__init__" "BadPair.__init__" (defArgs s_BadPair___init__) (defBody s_BadPair___init__) (defScope s_BadPair___init__) [("__class__", cc_BadPair)] .none .none dc_BadPair pm_BadPair an_BadPair (.ref cda_BadPair) ct_BadPair), sl_BadPair⟩)
    (ci_BadPair : PySem.W.codeIn K (.ref cda_BadPair) "BadPair.__init__" = true)
    (lc_BadPair : K.lookup cda_BadPair = some ⟨ccl_BadPair, cdd_BadPair, .fields cv_BadPair, ccs_BadPair⟩)
    (lf_BadPair : cv_BadPair[2]? = some (.str fl_BadPair tf_BadPair))
    (lg_BadPair : ((PySem.Challenge.pw_widestparcels_k02_read_number.main.file : Str) == fl_BadPair) = true)
    (lk_BadPair : K.lookup cc_BadPair = some ⟨kl_BadPair, kd_BadPair, .cell (some (.ref C_BadPair)), ks_BadPair⟩)
    (n_BadPair_place : PySem.W.findIn K (.ref C_BadPair) "place" = some none)
    (op_ : PySem.W.nsIn K cStatics "thirdparty.any" = some none)
    (su_ : PySem.W.nsIn K mainGlobals "super" = some none)
    (xf0_BadNumber : PySem.W.findIn K (.ref C_BadNumber) "__getattribute__" = some (some (.builtin "BaseException.__getattribute__")))
    (xf1_BadNumber : PySem.W.findIn K (.ref C_BadNumber) "__getattr__" = some none)
    (xf2_BadNumber : PySem.W.subIn K (.ref C_BadNumber) (.type "BaseException") = some true)
    (xf3_BadNumber : PySem.W.hasDictIn K C_BadNumber = true)
    (xf4_BadNumber : PySem.W.findIn K (.ref C_BadNumber) "__class__" = some (some (.builtin "object.__class__")))
    (xf7_BadNumber : PySem.W.mroIn K C_BadNumber (.type "object") = some true)
    (xf5_ : PySem.W.specialIn K (.builtin "object.__class__") "__get__" = some (some (.builtin "getset_descriptor.__get__")))
    (xf6_ : PySem.W.takesIn K (.builtin "object.__class__") = some true)
    (te_BadNumber_BadNumber : PySem.W.exmOne K (.ref C_BadNumber) (.ref C_BadNumber) = some true)
    (ki_BadNumber_BadPair : PySem.W.kitOne K (.ref C_BadNumber) (.ref C_BadPair) = some false)
    (z_abs : PySem.W.nsIn K mainGlobals "abs" = some none)
    (z_bool : PySem.W.nsIn K mainGlobals "bool" = some none)
    (z_int : PySem.W.nsIn K mainGlobals "int" = some none)
    (z_isinstance : PySem.W.nsIn K mainGlobals "isinstance" = some none)
    (z_len : PySem.W.nsIn K mainGlobals "len" = some none)
    (z_range : PySem.W.nsIn K mainGlobals "range" = some none)
    (z_str : PySem.W.nsIn K mainGlobals "str" = some none)
    (a_DIGITS : PySem.W.nsIn K mainGlobals "DIGITS" = some (some (.str "0123456789" tk_DIGITS)))
    (a_MOST_DIGITS : PySem.W.nsIn K mainGlobals "MOST_DIGITS" = some (some (.int 6 tk_MOST_DIGITS))) :
    ∃ fd : FuncData, (∀ (s : Shared) (v : Value), BindsTo s fd ⟨[v], []⟩ [("_law_script", v)]) ∧ ∀ base : Heap, K.In base → base.Ns mainGlobals mg → FnOk PySem.Challenge.pw_widestparcels_k02_read_number w K mg base (L2.CX PySem.Challenge.pw_widestparcels_k02_read_number w) 4 fa fd ["_law_script"] (Dl.spLaw K) := by
  have e := hfa.symm.trans (PySem.W.mg_of X G a_law)
  have e2 : f_law = fa := by cases e; rfl
  clear e
  subst e2
  have e_BadNumber : WpE.ErrC PySem.Challenge.pw_widestparcels_k02_read_number K C_BadNumber i_BadNumber "BadNumber.__init__" (defArgs s_BadNumber___init__) (defBody s_BadNumber___init__) (defScope s_BadNumber___init__) := WpE.errC_of xL_BadNumber rv_BadNumber su_BadNumber sa_BadNumber iC_BadNumber tI_BadNumber xb_BadNumber xv_BadNumber mr_BadNumber xt_BadNumber kc_BadNumber op_ su_ rfl li_BadNumber ci_BadNumber lc_BadNumber lf_BadNumber lg_BadNumber lk_BadNumber
  have e_BadPair : WpE.ErrC PySem.Challenge.pw_widestparcels_k02_read_number K C_BadPair i_BadPair "BadPair.__init__" (defArgs s_BadPair___init__) (defBody s_BadPair___init__) (defScope s_BadPair___init__) := WpE.errC_of xL_BadPair rv_BadPair su_BadPair sa_BadPair iC_BadPair tI_BadPair xb_BadPair xv_BadPair mr_BadPair xt_BadPair kc_BadPair op_ su_ rfl li_BadPair ci_BadPair lc_BadPair lf_BadPair lg_BadPair lk_BadPair
  have T : Txt PySem.Challenge.pw_widestparcels_k02_read_number w K mg ⟨f_is_figures, PySem.W.fnOf "is_figures" "is_figures" (defArgs s_is_figures) (defBody s_is_figures) (defScope s_is_figures) .none kV_is_figures dc_is_figures pm_is_figures an_is_figures cd_is_figures ct_is_figures, f_read_number, PySem.W.fnOf "read_number" "read_number" (defArgs s_read_number) (defBody s_read_number) (defScope s_read_number) .none kV_read_number dc_read_number pm_read_number an_read_number cd_read_number ct_read_number, f__law_start, PySem.W.fnOf "_law_start" "_law_start" (defArgs s__law_start) (defBody s__law_start) (defScope s__law_start) .none kV__law_start dc__law_start pm__law_start an__law_start cd__law_start ct__law_start, f__law_draw, PySem.W.fnOf "_law_draw" "_law_draw" (defArgs s__law_draw) (defBody s__law_draw) (defScope s__law_draw) .none kV__law_draw dc__law_draw pm__law_draw an__law_draw cd__law_draw ct__law_draw, f__law_is_integer, PySem.W.fnOf "_law_is_integer" "_law_is_integer" (defArgs s__law_is_integer) (defBody s__law_is_integer) (defScope s__law_is_integer) .none kV__law_is_integer dc__law_is_integer pm__law_is_integer an__law_is_integer cd__law_is_integer ct__law_is_integer, f__law_due, PySem.W.fnOf "_law_due" "_law_due" (defArgs s__law_due) (defBody s__law_due) (defScope s__law_due) .none kV__law_due dc__law_due pm__law_due an__law_due cd__law_due ct__law_due, f__law_holds, PySem.W.fnOf "_law_holds" "_law_holds" (defArgs s__law_holds) (defBody s__law_holds) (defScope s__law_holds) .none kV__law_holds dc__law_holds pm__law_holds an__law_holds cd__law_holds ct__law_holds, f_law, PySem.W.fnOf "law" "law" (defArgs s_law) (defBody s_law) (defScope s_law) .none kV_law dc_law pm_law an_law cd_law ct_law, C_ParcelError, C_BadNumber, C_BadPair, i_BadNumber, i_BadPair⟩ := {
    F_is_figures := fun_mk (st := s_is_figures) l_is_figures c_is_figures k_is_figures
    g_is_figures := PySem.W.mg_of X G a_is_figures
    F_read_number := fun_mk (st := s_read_number) l_read_number c_read_number k_read_number
    g_read_number := PySem.W.mg_of X G a_read_number
    F__law_start := fun_mk (st := s__law_start) l__law_start c__law_start k__law_start
    g__law_start := PySem.W.mg_of X G a__law_start
    F__law_draw := fun_mk (st := s__law_draw) l__law_draw c__law_draw k__law_draw
    g__law_draw := PySem.W.mg_of X G a__law_draw
    F__law_is_integer := fun_mk (st := s__law_is_integer) l__law_is_integer c__law_is_integer k__law_is_integer
    g__law_is_integer := PySem.W.mg_of X G a__law_is_integer
    F__law_due := fun_mk (st := s__law_due) l__law_due c__law_due k__law_due
    g__law_due := PySem.W.mg_of X G a__law_due
    F__law_holds := fun_mk (st := s__law_holds) l__law_holds c__law_holds k__law_holds
    g__law_holds := PySem.W.mg_of X G a__law_holds
    F_law := fun_mk (st := s_law) l_law c_law k_law
    g_law := PySem.W.mg_of X G a_law
    g_ParcelError := PySem.W.mg_of X G a_ParcelError
    g_BadNumber := PySem.W.mg_of X G a_BadNumber
    g_BadPair := PySem.W.mg_of X G a_BadPair
    E_BadNumber := e_BadNumber
    N_BadNumber := WpE.init_BadNumber e_BadNumber rfl n_BadNumber_what n_BadNumber_value
    E_BadPair := e_BadPair
    N_BadPair := WpE.init_BadPair e_BadPair rfl n_BadPair_place
    xf_BadNumber := ⟨xf0_BadNumber, xf1_BadNumber, xf2_BadNumber, xf3_BadNumber⟩
    ex_BadNumber := ⟨xf0_BadNumber, xf1_BadNumber, xf2_BadNumber, xf3_BadNumber, xf4_BadNumber, xf5_, xf6_, xf7_BadNumber⟩
    nf_BadNumber_what := n_BadNumber_what
    nf_BadNumber_value := n_BadNumber_value
    te_BadNumber_BadNumber := te_BadNumber_BadNumber
    ki_BadNumber_BadPair := ki_BadNumber_BadPair
    b_abs := PySem.W.mg_none_of X G z_abs
    b_bool := PySem.W.mg_none_of X G z_bool
    b_int := PySem.W.mg_none_of X G z_int
    b_isinstance := PySem.W.mg_none_of X G z_isinstance
    b_len := PySem.W.mg_none_of X G z_len
    b_range := PySem.W.mg_none_of X G z_range
    b_str := PySem.W.mg_none_of X G z_str
    c_DIGITS := ⟨_, PySem.W.mg_of X G a_DIGITS, ⟨_, rfl⟩⟩
    c_MOST_DIGITS := ⟨_, PySem.W.mg_of X G a_MOST_DIGITS, ⟨_, rfl⟩⟩ }
  exact ⟨_, fun s v => .of_eq rfl, fun base _ _ => ok_law T⟩
theorem facts {w : World} {K : PySem.W.Frag} {h : Heap} {mg : Str → Option Value} {fa : Addr} (X : K.In h) (G : h.Ns mainGlobals mg) (hfa : mg "law" = some (.ref fa)) (c : Wh.Says lk K) :
    ∃ fd : FuncData, (∀ (s : Shared) (v : Value), BindsTo s fd ⟨[v], []⟩ [("_law_script", v)]) ∧ ∀ base : Heap, K.In base → base.Ns mainGlobals mg → FnOk PySem.Challenge.pw_widestparcels_k02_read_number w K mg base (L2.CX PySem.Challenge.pw_widestparcels_k02_read_number w) 4 fa fd ["_law_script"] (Dl.spLaw K) := by
  obtain ⟨_, _, _, kV_is_figures, _, _, _, _, _, l_is_figures, c_is_figures⟩ := c.d 0 (d := Fd_0) rfl (c.t 0 0 rfl)
  obtain ⟨_, _, _, kV_read_number, _, _, _, _, _, l_read_number, c_read_number⟩ := c.d 1 (d := Fd_1) rfl (c.t 0 1 rfl)
  obtain ⟨_, _, _, kV__law_start, _, _, _, _, _, l__law_start, c__law_start⟩ := c.d 2 (d := Fd_2) rfl (c.t 0 2 rfl)
  obtain ⟨_, _, _, kV__law_draw, _, _, _, _, _, l__law_draw, c__law_draw⟩ := c.d 3 (d := Fd_3) rfl (c.t 0 3 rfl)
  obtain ⟨_, _, _, kV__law_is_integer, _, _, _, _, _, l__law_is_integer, c__law_is_integer⟩ := c.d 4 (d := Fd_4) rfl (c.t 0 4 rfl)
  obtain ⟨_, _, _, kV__law_due, _, _, _, _, _, l__law_due, c__law_due⟩ := c.d 5 (d := Fd_5) rfl (c.t 0 5 rfl)
  obtain ⟨_, _, _, kV__law_holds, _, _, _, _, _, l__law_holds, c__law_holds⟩ := c.d 6 (d := Fd_6) rfl (c.t 0 6 rfl)
  obtain ⟨_, _, _, kV_law, _, _, _, _, _, l_law, c_law⟩ := c.d 7 (d := Fd_7) rfl (c.t 0 7 rfl)
  obtain ⟨_, _, _, _, _, _, _, _, _, _, _, _, _, _, _, xL_BadNumber, rv_BadNumber⟩ := Wh.exB_ok (c.t 0 8 rfl)
  obtain ⟨_, _, _, _, _, _, _, _, _, _, _, _, _, _, _, _, _, _, li_BadNumber, ci_BadNumber, lc_BadNumber, lf_BadNumber, lg_BadNumber, lk_BadNumber⟩ := c.e 8 (d := Fd_8) (C := He.ga K "BadNumber") (file := (PySem.Challenge.pw_widestparcels_k02_read_number.main.file : Str)) rfl (c.t 0 9 rfl)
  obtain ⟨_, _, _, _, _, _, _, _, _, _, _, _, _, _, _, xL_BadPair, rv_BadPair⟩ := Wh.exB_ok (c.t 0 10 rfl)
  obtain ⟨_, _, _, _, _, _, _, _, _, _, _, _, _, _, _, _, _, _, li_BadPair, ci_BadPair, lc_BadPair, lf_BadPair, lg_BadPair, lk_BadPair⟩ := c.e 9 (d := Fd_9) (C := He.ga K "BadPair") (file := (PySem.Challenge.pw_widestparcels_k02_read_number.main.file : Str)) rfl (c.t 0 11 rfl)
  obtain ⟨_, a_DIGITS⟩ := Wh.strB_ok (c.t 0 12 rfl)
  obtain ⟨_, a_MOST_DIGITS⟩ := Wh.intB_ok (c.t 0 13 rfl)
  exact all_mk X G hfa (of_decide_eq_true (c.t 0 14 rfl)) (of_decide_eq_true (c.t 0 15 rfl)) (of_decide_eq_true (c.t 1 0 rfl)) (of_decide_eq_true (c.t 1 1 rfl)) (of_decide_eq_true (c.t 1 2 rfl)) (of_decide_eq_true (c.t 1 3 rfl)) (of_decide_eq_true (c.t 1 4 rfl)) (of_decide_eq_true (c.t 1 5 rfl)) (of_decide_eq_true (c.t 1 6 rfl)) (of_decide_eq_true (c.t 1 7 rfl)) (of_decide_eq_true (c.t 1 8 rfl)) l_is_figures c_is_figures (c.t 1 9 rfl) l_read_number c_read_number (c.t 1 10 rfl) l__law_start c__law_start (c.t 1 11 rfl) l__law_draw c__law_draw (c.t 1 12 rfl) l__law_is_integer c__law_is_integer (c.t 1 13 rfl) l__law_due c__law_due (c.t 1 14 rfl) l__law_holds c__law_holds (c.t 1 15 rfl) l_law c_law (c.t 2 0 rfl) xL_BadNumber rv_BadNumber (of_decide_eq_true (c.t 2 1 rfl)) (of_decide_eq_true (c.t 2 2 rfl)) (of_decide_eq_true (c.t 2 3 rfl)) (of_decide_eq_true (c.t 2 4 rfl)) (of_decide_eq_true (c.t 2 5 rfl)) (of_decide_eq_true (c.t 2 6 rfl)) (of_decide_eq_true (c.t 2 7 rfl)) (of_decide_eq_true (c.t 2 8 rfl)) (c.t 2 9 rfl) li_BadNumber ci_BadNumber lc_BadNumber lf_BadNumber lg_BadNumber lk_BadNumber (of_decide_eq_true (c.t 2 10 rfl)) (of_decide_eq_true (c.t 2 11 rfl)) xL_BadPair rv_BadPair (of_decide_eq_true (c.t 2 12 rfl)) (of_decide_eq_true (c.t 2 13 rfl)) (of_decide_eq_true (c.t 2 14 rfl)) (of_decide_eq_true (c.t 2 15 rfl)) (of_decide_eq_true (c.t 3 0 rfl)) (of_decide_eq_true (c.t 3 1 rfl)) (of_decide_eq_true (c.t 3 2 rfl)) (of_decide_eq_true (c.t 3 3 rfl)) (c.t 3 4 rfl) li_BadPair ci_BadPair lc_BadPair lf_BadPair lg_BadPair lk_BadPair (of_decide_eq_true (c.t 3 5 rfl)) (of_decide_eq_true (c.t 3 6 rfl)) (of_decide_eq_true (c.t 3 7 rfl)) (of_decide_eq_true (c.t 3 8 rfl)) (of_decide_eq_true (c.t 3 9 rfl)) (of_decide_eq_true (c.t 3 10 rfl)) (c.t 3 11 rfl) (of_decide_eq_true (c.t 3 12 rfl)) (of_decide_eq_true (c.t 3 13 rfl)) (of_decide_eq_true (c.t 3 14 rfl)) (of_decide_eq_true (c.t 3 15 rfl)) (of_decide_eq_true (c.t 4 0 rfl)) (of_decide_eq_true (c.t 4 1 rfl)) (of_decide_eq_true (c.t 4 2 rfl)) (of_decide_eq_true (c.t 4 3 rfl)) (of_decide_eq_true (c.t 4 4 rfl)) (of_decide_eq_true (c.t 4 5 rfl)) (of_decide_eq_true (c.t 4 6 rfl)) (of_decide_eq_true (c.t 4 7 rfl)) (of_decide_eq_true (c.t 4 8 rfl)) a_DIGITS a_MOST_DIGITS
end Law
open PySem PySem.W PySem.Calls PyProof.Rows
set_option maxHeartbeats 0 in
theorem PySem.Challenge.cw_widestparcels_k02_read_number_holds : PySem.Challenge.rw_widestparcels_k02_read_number.Holds := by
  w_on; o_law
  refine HandSHeadRun.head_any (r := (OpenLaw.row PySem.Challenge.rw_widestparcels_k02_read_number)) (q := view (OpenLaw.row PySem.Challenge.rw_widestparcels_k02_read_number).prog [15]) (H := Wh.hook Law.lk) (ob := Law.lk.ob) (M := 60000) (loose := Law.lss) (d := HandSHeadRun.topDef (OpenLaw.row PySem.Challenge.rw_widestparcels_k02_read_number).prog 15) (kwd := []) (Wh.ob_eq Law.lk)
    (by kernel_rfl) (fun s => by kernel_rfl) Law.run (by kernel_rfl) (by kernel_rfl) (by kernel_rfl) (by rfl) (by first | assumption | decide +kernel) (by decide +kernel) ⟨rfl, rfl, rfl, rfl, rfl, by decide +kernel⟩ ?hw ?hc
  case hw => w_witness2
  case hc =>
    refine LamX.walk_ofTsE (l := PySem.Challenge.rw_widestparcels_k02_read_number) (n := 63) (k := 4) (x := "_law_script") (CX := fun w => L2.CX PySem.Challenge.pw_widestparcels_k02_read_number w) rfl (by decide) (by kernel_rfl) ⟨rfl, by decide, by decide⟩ ?F (fun _ _ _ _ _ z => Wp.cx_false z)
    intro w mg fa h Y G g0
    obtain ⟨K, KX, c⟩ := Y
    have e : (HandSHeadRun.topDef (OpenLaw.row PySem.Challenge.rw_widestparcels_k02_read_number).prog 15).name = ("law" : PySem.Str) := by kernel_rfl
    rw [e] at g0
    obtain ⟨fd, hb, hF⟩ := Law.facts (w := w) KX G g0 c
    exact ⟨K, KX, fd, [], Dl.spLaw K, fun _ z => absurd z (by simp), fun _ z => absurd z (by simp), fun _ z => absurd z (by simp), hb, fun H a ns hl _ _ hS => ⟨a, ns, rfl, hS, hl, fun _ => rfl⟩, fun base b1 b2 _ => hF base b1 b2⟩
