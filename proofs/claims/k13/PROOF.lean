import PyProof.Rows.All
import Wide.All
import OpenK.AllK
import Wide.FinOn
import KE.KExcSuper
import KE.KExcIs
import HandS.ForMost
import HandS.ForExc
import HandS.ExcInit
import HandS.ExcField
import HandS.IsInst
import HandS.Star
import HandS.TupAny
import HandS.TupLe
import HandS.TryMany
import HandS.Codes
import HandS.ExcIs
import HandS.Walk
import HandS.Zip
import KE.KTupSum
import PySem.Challenge.RW_widestparcels_k13_whole_rows_that_sit
set_option Elab.async false
set_option linter.all false
set_option maxRecDepth 100000
set_option maxHeartbeats 4000000
/-! Errors of the program: a class over ParcelError (itself over ValueError) whose __init__ calls super().__init__(text) and then stores its arguments under their own names. -/
namespace WpE
open PySem PySem.W PySem.Calls PyProof.Rows L2

/-- what the written part says of the class at C and of its __init__ at fI -/
structure ErrC (P : Program) (K : Frag) (C fI : Addr) (qual : Str) (prm : Arguments) (body : List Stmt) (sc : Scope) : Prop where
  cls : ∃ nm q N bs bm sn sub ab col dd k0 k1 k2 k3 k5, K.lookup C = some (excClassObj nm q C N bs bm true sn sub ab col dd k0 k1 k2 k3 k5 "ValueError.__new__") ∧ PySem.HandSPX.refsVE bm = true ∧ alongIn K "__init__" bm = some (some (.builtin "ValueError.__init__"))
  sa : findIn K (.ref C) "__setattr__" = some (some (.builtin "object.__setattr__"))
  iC : findIn K (.ref C) "__init__" = some (some (.ref fI))
  tI : typeIn K (.ref fI) = some (.type "function")
  exC : subIn K (.ref C) (.type "BaseException") = some true
  exV : subIn K (.ref C) (.type "ValueError") = some true
  mroC : mroIn K C (.ref C) = some true
  tyC : typeIn K (.ref C) = some (.type "type")
  kC : keepIn K (.ref C) = true
  op : nsIn K cStatics "thirdparty.any" = some none
  su : nsIn K mainGlobals "super" = some none
  tp : (P.main.scope.names.lookup ("super" : Str)).isSome = false
  fn : ∃ (oc : Value) (od : Option Addr) (doc pm : Value) (an : Option Addr) (cda cc : Addr) (ct : Value) (osl : Array (Option Value)) (ccl : Value) (cdd : Option Addr) (vs : Array Value) (ccs : Array (Option Value)) (file : Str) (tf : Tok) (cl : Value) (cld : Option Addr) (csl : Array (Option Value)),
    K.lookup fI = some ⟨oc, od, .func (fnX "__init__" qual prm body sc [("__class__", cc)] .none .none doc pm an (.ref cda) ct), osl⟩ ∧ codeIn K (.ref cda) qual = true ∧
    K.lookup cda = some ⟨ccl, cdd, .fields vs, ccs⟩ ∧ vs[2]? = some (.str file tf) ∧ ((P.main.file : Str) == file) = true ∧
    K.lookup cc = some ⟨cl, cld, .cell (some (.ref C)), csl⟩

def aOf (f : Str) (p : Pos) : Arg := { arg := f, annotation := none, pos := p }
def prmOf (xs : List (Str × Pos)) : Arguments := { posonlyargs := [], args := xs.map fun x => aOf x.1 x.2, vararg := none, kwonlyargs := [], kw_defaults := [], kwarg := none, defaults := [] }
def supOf (m : Str) (j : Nat) (p1 p2 p3 p4 p5 p6 : Pos) : Stmt := .Expr (.Call (.Attribute (.Call (.Name "super" p1) [] [] p2) "__init__" p3) [.Constant (.str m) j p4] [] p5) p6
def stoOf (f : Str) (q1 q2 q3 q4 : Pos) : Stmt := .Assign [.Attribute (.Name "self" q1) f q2] (.Name f q3) q4
def scOf (fs : List Str) : Scope := { kind := .function, names := (("self" : Str), .local) :: (fs.map (fun f => (f, NameKind.local)) ++ [(("__class__" : Str), .free), (("super" : Str), .globalImplicit)]), isGenerator := false, isCoroutine := false, more := [] }

theorem sup_he {env : Env} {m : Str} {j : Nat} {p1 p2 p3 p4 p5 : Pos} (hp : (p3.endLine == p5.line) = true) :
    eval (.Call (.Attribute (.Call (.Name "super" p1) [] [] p2) "__init__" p3) [.Constant (.str m) j p4] [] p5) env = (do
      let ov ← attributeBase (.Call (.Name "super" p1) [] [] p2) "__init__" env (eval (.Call (.Name "super" p1) [] [] p2) env)
      standAt p3.atName
      let (f, first) ← holding [ov] (getMethod ov "__init__" (do return (← importBound (.Call (.Name "super" p1) [] [] p2) env).getD true))
      callWith p5 f first (backTo p5 (starEach [.Constant (.str m) j p4] env)) []) := by
  have h1 : methodCallPos true (.Call (.Name "super" p1) [] [] p2) env p3 p5 = pure p5 := by
    unfold methodCallPos
    rw [hp]
    rfl
  show (do
      let ov ← attributeBase (.Call (.Name "super" p1) [] [] p2) "__init__" env (eval (.Call (.Name "super" p1) [] [] p2) env)
      standAt p3.atName
      let (f, first) ← holding [ov] (getMethod ov "__init__" (do return (← importBound (.Call (.Name "super" p1) [] [] p2) env).getD true))
      let callPos ← methodCallPos true (.Call (.Name "super" p1) [] [] p2) env p3 p5
      callWith callPos f first (backTo p5 (starEach [.Constant (.str m) j p4] env)) []) = _
  rw [h1]
  rfl
/-- what the first statement, super().__init__(m), leaves of a fresh exception -/
theorem sup_step {prog : Program} {w : World} {A : Around} {E : Value → Shared → Prop} {s : Shared} {K : Frag} {mg : Str → Option Value} {base : Heap} {C fI x t0 L cda cc : Addr} {qual : Str} {prm : Arguments} {body : List Stmt} {sc : Scope} {mm : Str → Option Value}
    {Q : Value → Shared → Prop} {m : Str} {j : Nat} {p1 p2 p3 p4 p5 : Pos} {p0 : Pos} {oc : Value} {od : Option Addr} {doc pm : Value} {an : Option Addr} {ct : Value} {osl : Array (Option Value)} {ccl : Value} {cdd : Option Addr} {vs : Array Value} {ccs : Array (Option Value)} {file : Str} {tf : Tok} {cl : Value} {cld : Option Addr} {csl : Array (Option Value)} {prest : List (Str × Pos)} {pl : Sem Bool}
    (he : eval (.Call (.Attribute (.Call (.Name "super" p1) [] [] p2) "__init__" p3) [.Constant (.str m) j p4] [] p5) (envX qual sc L fI (.ref cda) [("__class__", cc)]) = (do
      let ov ← attributeBase (.Call (.Name "super" p1) [] [] p2) "__init__" (envX qual sc L fI (.ref cda) [("__class__", cc)]) (eval (.Call (.Name "super" p1) [] [] p2) (envX qual sc L fI (.ref cda) [("__class__", cc)]))
      standAt p3.atName
      let (f, first) ← holding [ov] (getMethod ov "__init__" pl)
      callWith p5 f first (backTo p5 (starEach [.Constant (.str m) j p4] (envX qual sc L fI (.ref cda) [("__class__", cc)]))) []))
    (T : ErrC prog K C fI qual prm body sc) (M : Mod K mg base) (hb : ∀ b o, base.get? b = some o → s.heap.get? b = some o)
    (hprm : prm = prmOf (("self", p0) :: prest)) (hks : sc.names.lookup ("super" : Str) = some .globalImplicit) (hkc : sc.names.lookup ("__class__" : Str) = some .free) (hka : sc.names.lookup ("self" : Str) = some .local) (hk : sc.kind = .function)
    (l1 : K.lookup fI = some ⟨oc, od, .func (fnX "__init__" qual prm body sc [("__class__", cc)] .none .none doc pm an (.ref cda) ct), osl⟩)
    (l2 : K.lookup cda = some ⟨ccl, cdd, .fields vs, ccs⟩) (l3 : vs[2]? = some (.str file tf)) (l4 : ((prog.main.file : Str) == file) = true) (l5 : K.lookup cc = some ⟨cl, cld, .cell (some (.ref C)), csl⟩)
    (hx : s.heap.get? x = some (PySem.HandSPX.excO C t0)) (hn : s.heap.Ns L mm) (hself : mm "self" = some (.ref x))
    (hq : ∀ h' t1 tk, (∀ b o, b ≠ x → s.heap.get? b = some o → h'.get? b = some o) → h'.get? x = some (PySem.HandSPX.excO C t1) → Q .none { s with heap := h', toks := tk }) :
    _root_.PySem.wpAt (model prog w) A (.func body (envX qual sc L fI (.ref cda) [("__class__", cc)])) (eval (.Call (.Attribute (.Call (.Name "super" p1) [] [] p2) "__init__" p3) [.Constant (.str m) j p4] [] p5) (envX qual sc L fI (.ref cda) [("__class__", cc)])) Q E s := by
  obtain ⟨nm, q, N, bs, bm, sn, sub, ab, col, dd, k0, k1, k2, k3, k5, hC, hbm, hal⟩ := T.cls
  have KX : K.In s.heap := M.kin.keeps hb
  have hcl : clsIn K C = some { name := nm, bases := bs, mro := .ref C :: bm, ns := N, qualname := q, hasDict := true, slotNames := sn, subclasses := sub, abstract := ab, collection := col, hasDel := false } := by unfold clsIn; rw [hC] <;> rfl
  have I : InstAt s.heap x (PySem.HandSPX.excO C t0) C none := ⟨hx, rfl, rfl, trivial⟩
  have hxC : x ≠ C := ks_ne KX I hcl
  obtain ⟨mb, hmb, hbb⟩ := M.blt
  obtain ⟨oD, hD1, hD2⟩ : ∃ oD, s.heap.get? C = some oD ∧ oD.data = .cls { name := nm, bases := bs, mro := .ref C :: bm, ns := N, qualname := q, hasDict := true, slotNames := sn, subclasses := sub, abstract := ab, collection := col, hasDel := false } := ⟨_, KX _ _ hC, rfl⟩
  subst hprm
  obtain ⟨hh, g, d, t, os⟩ := s
  refine ks_wpAt_MethodCall ?_ he
  refine ks_wpAt_super_base (env := envX qual sc L fI (.ref cda) [("__class__", cc)]) hks hkc (by decide) rfl (KX _ _ l1) rfl rfl rfl (KX _ _ l2) rfl l3 l4 T.tp ?_
  refine ks_loadName_global hk hks (loadGlobal_builtin (env := envX qual sc L fI (.ref cda) [("__class__", cc)]) (M.glob.keeps hb) (mg_none_of M.kin M.glob T.su) (hmb.keeps hb) ((hbb _ (by decide +kernel)).trans (show bootBuiltins "super" = some (.type "super") by first | boot_by_name | rfl | kernel_rfl)) ⟨rfl, ?_⟩)
  refine wpAny_loadName_free hk hkc rfl ⟨_, KX _ _ l5, rfl⟩ ?_
  refine wpAny_loadName_local hk hka hn hself ?_
  refine ks_wpAny_isType_cls hD1 hD2 ⟨rfl, ?_⟩
  refine ks_wpAny_call_super hD1 hD2 I.at_ I.cls (fun c e => ?_) (looks_mroIn KX T.mroC) (fun h' e k => ?_)
  · have := I.no
    unfold notCls at this
    rw [e] at this
    exact Bool.noConfusion this
  · have KX' : K.In h' := KX.keeps k
    have hx' := k _ _ hx
    have I' : InstAt h' x (PySem.HandSPX.excO C t0) C none := ⟨hx', rfl, rfl, trivial⟩
    have hI : Looks (model prog w) h' (isInstance (.ref x) (.type "ValueError")) true := I'.type.andThen (looks_subIn KX' T.exV)
    refine kxs_getMethod kxs_ValueError e (looks_opaque KX' T.op) (l₀ := .ref C :: bm) (fun A Q E s k q => wpAny_bind ((looks_clsIn KX' hcl) A _ E s k (wpAny_pure q))) (l := bm) (by simp [List.dropWhile_cons]) KX' hal hI hxC (by decide) ?_
    show wpAny _ _ (callWith p5 (.ref h'.objs.size) [] (backTo p5 (starEach [.Constant (.str m) j p4] (envX qual sc L fI (.ref cda) [("__class__", cc)]))) []) _ _ _
    have kk : ∀ b o, hh.get? b = some o → (h'.push (kxs_mw "ValueError.__init__" x)).get? b = some o := fun b o z => Heap.get?_push_of_some _ (k b o z)
    have hu : (h'.push (kxs_mw "ValueError.__init__" x)).get? h'.objs.size = some (kxs_mw "ValueError.__init__" x) := Heap.get?_push_at rfl rfl
    generalize (h'.push (kxs_mw "ValueError.__init__" x)) = h2 at kk hu ⊢
    generalize h'.objs.size = u at hu ⊢
    have he1 : starEach [.Constant (.str m) j p4] (envX qual sc L fI (.ref cda) [("__class__", cc)]) = (false, eval (.Constant (.str m) j p4) (envX qual sc L fI (.ref cda) [("__class__", cc)])) :: starEach [] (envX qual sc L fI (.ref cda) [("__class__", cc)]) := rfl
    rw [he1]
    refine kxs_callWith (i := "ValueError.__init__") (x := x) rfl (evalArgs_plain ?_)
    refine Calls.spliced_cons (wpAny_Constant_str (k := j) (pos := p4) (Calls.spliced_nil ⟨hu, ?_⟩))
    show wpAny _ _ (call (.ref u) [.str m (t + 1)]) _ _ _
    have hx2 := kk _ _ hx
    have hC2 := kk _ _ (KX _ _ hC)
    refine wpAny_call (codeAny_of_tree ?_)
    show wpAny _ A.in1 (callAny (.ref u) ⟨[.str m (t + 1)], []⟩) _ _ _
    simp only [callAny]
    refine wpAny_bind (wpAny_load hu ?_)
    simp only [kxs_mw, show (Value.type "method-wrapper" == Value.type "method" || Value.type "method-wrapper" == Value.type "builtin_function_or_method" || Value.type "method-wrapper" == Value.type "method-wrapper") = true by decide, if_true]
    refine KFB.if_so (by decide) ?_
    refine wpAny_bind (check_bound_init F.excBase_ValueError.toExcCallFacts hC2 hx2 rfl ?_)
    refine wpAny_bind (wpAny_pure (wpAny_pure ?_))
    refine ⟨plainId_quiet F.excBase_ValueError.init.plain _, codeAny_builtin F.excBase_ValueError.initEntry ?_⟩
    refine exc_init_tree (cls := .ref C) (t0 := t0) (dv := none) (c2 := .none) (c3 := .none) (b4 := .bool false) hx2 (by rw [sizeLine_eq]; exact (by decide : 1 ≤ 16777216)) (fun h3 k3 e3 _ => ?_)
    exact hq h3 h2.objs.size _ (fun b o hb z => k3 b o hb (kk b o z)) e3
/-- the fields of a made error, the last one first -/
def fz {α : Type} (fs : List Str) (vs : List α) : List (Str × α) := (fs.zip vs).reverse
theorem fz_lookup {fs : List Str} {vs : List V} {us : List Value} (r : Vals vs us) (f : Str) : RelO ((fz fs vs).lookup f) ((fz fs us).lookup f) := by
  unfold fz
  have key : ∀ (gs : List Str) (vs : List V) (us : List Value) (av : List (Str × V)) (au : List (Str × Value)), Vals vs us → RelO (av.lookup f) (au.lookup f) → RelO (((gs.zip vs).reverse ++ av).lookup f) (((gs.zip us).reverse ++ au).lookup f) := by
    intro gs
    induction gs with
    | nil => intro vs us av au _ h; simpa using h
    | cons g gs ih =>
      intro vs us av au r h
      cases r with
      | nil => simpa using h
      | cons rv rn =>
        rename_i v u vs' us'
        have e1 : ((g :: gs).zip (v :: vs')).reverse ++ av = (gs.zip vs').reverse ++ ((g, v) :: av) := by simp
        have e2 : ((g :: gs).zip (u :: us')).reverse ++ au = (gs.zip us').reverse ++ ((g, u) :: au) := by simp
        rw [e1, e2]
        refine ih _ _ _ _ rn ?_
        by_cases hfg : f = g
        · subst hfg
          simp only [List.lookup, beq_self_eq_true]
          exact rv
        · have hb : (f == g) = false := by simpa using hfg
          simpa [List.lookup, hb] using h
  have := key fs vs us [] [] r (by trivial)
  simpa using this
/-- an error of the class at C, made at e, its own dict at d -/
structure ErrMade (h h' : Heap) (e C d : Addr) (mA : Str → Option Value) : Prop where
  keep : ∀ b o, h.get? b = some o → h'.get? b = some o
  new : h.objs.size ≤ e
  obj : ∃ oe vs, h'.get? e = some oe ∧ oe.cls = .ref C ∧ oe.dict = some d ∧ oe.data = .fields vs ∧ vs[1]? = some .none
  dbig : h.objs.size ≤ d
  dne : d ≠ e
  ns : h'.Ns1 d mA
/-- __init__ at fI, run upon a fresh exception of the class at C, stores its arguments under the names fs -/
def ErrInit (prog : Program) (w : World) (K : Frag) (mg : Str → Option Value) (C fI : Addr) (fs : List Str) : Prop :=
  ∀ (base : Heap) (A : Around) (s : Shared) (R : Result → Shared → Prop) (x t0 : Addr) (us : List Value), Mod K mg base → (∀ b o, base.get? b = some o → s.heap.get? b = some o) → s.heap.get? x = some (PySem.HandSPX.excO C t0) → K.lookup x = none → A.depth < recursionLimit → us.length = fs.length →
    (∀ h' tk dx t1, (∀ b o, b ≠ x → s.heap.get? b = some o → h'.get? b = some o) → h'.get? x = some { cls := .ref C, dict := some dx, data := .fields #[.ref t1, .none, .none, .none, .bool false, .none] } → s.heap.objs.size ≤ dx → dx ≠ x →
      h'.Ns1 dx (fun y => (fz fs us).lookup y) → R (.ok (.ret .none)) { s with heap := h', toks := tk }) →
    codeAny (model prog w) A (.call (.ref fI) ⟨.ref x :: us, []⟩) R s
theorem err_made {prog : Program} {w : World} {K : Frag} {mg : Str → Option Value} {base : Heap} {A : Around} {s : Shared} {R : Result → Shared → Prop} {C fI : Addr} {fs : List Str} {us : List Value} {qual : Str} {prm : Arguments} {body : List Stmt} {sc : Scope}
    (T : ErrC prog K C fI qual prm body sc) (N : ErrInit prog w K mg C fI fs) (M : Mod K mg base) (hb : ∀ b o, base.get? b = some o → s.heap.get? b = some o) (hroom : A.depth + 1 < recursionLimit) (hl : us.length = fs.length) (hz : us.length ≤ 1000)
    (hq : ∀ h' tk e d, ErrMade s.heap h' e C d (fun y => (fz fs us).lookup y) → R (.ok (.ret (.ref e))) { s with heap := h', toks := tk }) : codeAny (model prog w) A (.call (.ref C) ⟨us, []⟩) R s := by
  obtain ⟨nm, q, N', bs, bm, sn, sub, ab, col, dd, k0, k1, k2, k3, k5, hC, hbm, hal⟩ := T.cls
  obtain ⟨hp, g, dr, tk, os⟩ := s
  have KX : K.In hp := M.kin.keeps hb
  have k : ∀ b o, hp.get? b = some o → ((hp.push (kdv_tup us)).push (PySem.HandSPX.excO C hp.objs.size)).get? b = some o := fun b o e => Heap.get?_push_of_some _ (Heap.get?_push_of_some _ e)
  have hget : ((hp.push (kdv_tup us)).push (PySem.HandSPX.excO C hp.objs.size)).get? (hp.objs.size + 1) = some (PySem.HandSPX.excO C hp.objs.size) := by heap_get
  have hnx : K.lookup (hp.objs.size + 1) = none := by
    cases e : K.lookup (hp.objs.size + 1) with
    | none => rfl
    | some o =>
      have z : hp.get? (hp.objs.size + 1) = some o := KX _ _ e
      exact absurd (Nat.lt_of_succ_lt (Heap.lt_size z)) (Nat.lt_irrefl _)
  refine PySem.HandSPX.call_own F.excBase_ValueError (fun X => PySem.HandSPX.refsVE_contains X bm hbm) (KX _ _ hC) (looks_findIn KX T.iC) (fun self => bind_fn KX self T.tI) (by rw [sizeLine_eq]; omega) ?_
  refine N base _ ⟨(hp.push (kdv_tup us)).push (PySem.HandSPX.excO C hp.objs.size), g, dr, tk, os⟩ _ _ _ us M (fun b o z => k b o (hb b o z)) hget hnx ?_ hl fun h' tk' dx t1 k' hx dn dne hns => ?_
  · show A.depth + 1 < recursionLimit
    exact hroom
  · have old : ∀ b o, hp.get? b = some o → h'.get? b = some o := fun b o e => k' b o (Nat.ne_of_lt (Nat.lt_succ_of_lt (Heap.lt_size e))) (k b o e)
    have z : hp.objs.size + 1 + 1 ≤ dx := by
      first
        | (simpa only [Heap.size_push] using dn)
        | exact dn
    exact ⟨rfl, hq h' tk' (hp.objs.size + 1) dx ⟨old, Nat.le_succ _, ⟨_, _, hx, rfl, rfl, rfl, rfl⟩, Nat.le_trans (Nat.le_trans (Nat.le_succ _) (Nat.le_succ _)) z, dne, hns⟩⟩
/-- C(e, ..) as what is raised -/
def tMkErr (C : Addr) (fs : List Str) (ta : TA) : L2.St → Hp → XK → Prop := fun σ H Q => ta σ H fun vs H1 => vs.length = fs.length ∧ ∀ d, H1 d = none → Q (.ref C) (some d) (upd H1 d (.xd (fz fs vs)))
theorem pmk_err {X : Cx} {C fI : Addr} {fs : List Str} {x : Str} {a : Expr} {as : List Expr} {ta : TA} {p pos : Pos} {k : Nat} {qual : Str} {prm : Arguments} {body : List Stmt} {sc : Scope}
    (T : ErrC X.prog X.K C fI qual prm body sc) (N : ErrInit X.prog X.w X.K X.mg C fI fs) (hm : X.mg x = some (.ref C)) (hr : Room k X.A) (hf : fs.length ≤ 1000) (ha : PA X (a :: as) ta) (hg : Gl X x := by rfl) (hdb : (x == ("__debug__" : Str)) = false := by decide)
    (he : starEach (a :: as) X.env = (false, eval a X.env) :: starEach as X.env := by rfl) (hpl : (backTo pos (starEach as X.env)).any (·.1) = false := by rfl) :
    PMk X (.Call (.Name x p) (a :: as) [] pos) (tMkErr C fs ta) := by
  intro pins s σ H Q I h
  refine wpAny_Call_Name_kw (ld_glob I hg hm ?_ hdb)
  refine callWith_K (h₀ := X.base) I.ok.mod.kin T.kC (thn (ha.run pos pins s σ H _ I h) fun us s1 hh => ?_) he hpl
  obtain ⟨vs, H1, I1, r1, ev, q1⟩ := hh
  refine ⟨I1.kIn, ?_⟩
  show wpAny _ _ (call (.ref C) us) _ _ _
  have hlu : us.length = fs.length := by rw [← ev]; exact (Vals.length r1).symm
  have bk := I1.bk
  obtain ⟨hp, g, dr, tk, os⟩ := s1
  refine wpAny_call (err_made T N I1.ok.mod bk (by have := hr.dp; omega) hlu (by omega) fun h' tk' e d M => ?_)
  show MkP X pins σ Q (.ref e) ⟨h', g, dr, tk', os⟩
  obtain ⟨oe, fv, hoe, hc, hd, hdat, h1⟩ := M.obj
  have hns := M.ns
  obtain ⟨G', g1, g2⟩ := restrict h' fun b => decide (b ≠ e)
  have gk : ∀ b, b ≠ e → G'.get? b = h'.get? b := fun b hb => g1 b (decide_eq_true hb)
  have ge : G'.get? e = none := g2 e (by simp)
  have old : ∀ b o, hp.get? b = some o → G'.get? b = some o := fun b o q => (gk b (Nat.ne_of_lt (Nat.lt_of_lt_of_le (Heap.lt_size q) M.new))).trans (M.keep b o q)
  have ob : ObjOk X.prog X.w (upd H1 d (.xd (fz fs vs))) G' d (.xd (fz fs vs)) :=
    ⟨_, hns.at (fun o q => (gk d M.dne).trans q), fun f => fz_lookup r1 f⟩
  have J : Inv X pins σ (upd H1 d (.xd (fz fs vs))) ⟨G', g, dr, tk', os⟩ := I1.laid (t' := tk') old M.dbig ob
  refine ⟨e, oe, fv, ⟨G', g, dr, tk', os⟩, _, .ref C, some d, rfl, J, fun b o q => ?_, ge, hoe, ⟨hc, hd⟩, hdat, h1, ?_, rfl, I1.bare, raises_own T.exC T.tyC, q1 d (I1.hok.fresh M.dbig)⟩
  · by_cases hb : b = e
    · have q' : G'.get? b = some o := q
      rw [hb, ge] at q'; cases q'
    · exact (gk b hb).symm.trans q
  · rw [upd_ne (Ne.symm M.dne)]
    exact I1.hok.fresh M.new
/-- raise C(e, ..) -/
def tRaiseErr (C : Addr) (fs : List Str) (W : WX) (ta : TA) : TS := fun _ σ H => tMkErr C fs ta σ H fun cls d H' => W cls d σ H'
theorem ps_raiseE {X : Cx} {C fI : Addr} {fs : List Str} {x : Str} {a : Expr} {as : List Expr} {ta : TA} {W : WX} {p pos pos2 : Pos} {k : Nat} {qual : Str} {prm : Arguments} {body : List Stmt} {sc : Scope} (hc : X.calm = true)
    (T : ErrC X.prog X.K C fI qual prm body sc) (N : ErrInit X.prog X.w X.K X.mg C fI fs) (hm : X.mg x = some (.ref C)) (hr : Room k X.A) (hf : fs.length ≤ 1000) (tk : Takes X W) (ha : PA X (a :: as) ta) (hg : Gl X x := by rfl) (hdb : (x == ("__debug__" : Str)) = false := by decide)
    (he : starEach (a :: as) X.env = (false, eval a X.env) :: starEach as X.env := by rfl) (hpl : (backTo pos (starEach as X.env)).any (·.1) = false := by rfl) :
    PS X (.Raise (some (.Call (.Name x p) (a :: as) [] pos)) none pos2) (tRaiseErr C fs W ta) := ps_raise hc tk (pmk_err T N hm hr hf ha hg hdb he hpl)

theorem ns_off {h h' : Heap} {L : Addr} {m : Str → Option Value} (hn : h.Ns L m) (k : ∀ o, h.get? L = some o → h'.get? L = some o) : h'.Ns L m := by
  obtain ⟨oL, es, ep, hL, r⟩ := hn
  exact ⟨oL, es, ep, k _ hL, r⟩
theorem ns_lt {h : Heap} {L : Addr} {m : Str → Option Value} (hn : h.Ns L m) : L < h.objs.size := by
  obtain ⟨oL, es, ep, hL, r⟩ := hn
  exact Heap.lt_size hL
theorem ns1_ext {h : Heap} {L : Addr} {m m' : Str → Option Value} (hn : h.Ns1 L m) (e : ∀ y, m y = m' y) : h.Ns1 L m' := (funext e : m = m') ▸ hn
theorem within1 {f : Str} {v : Value} : Within (fun y => if y = f then some v else none) [f] := fun y hy => by
  by_cases e : y = f
  · rw [e]; exact List.mem_singleton.mpr rfl
  · exact absurd (if_neg e) hy
theorem within2 {f g : Str} {v u : Value} : Within (fun y => if y = g then some u else if y = f then some v else none) [g, f] := fun y hy => by
  by_cases e : y = g
  · rw [e]; exact List.mem_cons_self ..
  · by_cases e2 : y = f
    · rw [e2]; exact List.mem_cons_of_mem _ (List.mem_singleton.mpr rfl)
    · exact absurd ((if_neg e).trans (if_neg e2)) hy
theorem lkp {α : Type} (f g : Str) (y : α) (fs : List (Str × α)) : ((f, y) :: fs).lookup g = if g = f then some y else fs.lookup g := by
  by_cases h : g = f
  · subst h
    simp [List.lookup]
  · have e : (g == f) = false := by simpa using h
    rw [if_neg h]
    simp [List.lookup, e]
theorem cls_at {K : Frag} {nm q : Str} {C N : Addr} {bs bm : List Value} {sn : List Str} {sub : List Value} {ab : Bool} {col : Option Bool} {dd : Option Addr} {k0 k1 k2 k3 k5 : Option Value} (hC : K.lookup C = some (excClassObj nm q C N bs bm true sn sub ab col dd k0 k1 k2 k3 k5 "ValueError.__new__")) :
    clsIn K C = some { name := nm, bases := bs, mro := .ref C :: bm, ns := N, qualname := q, hasDict := true, slotNames := sn, subclasses := sub, abstract := ab, collection := col, hasDel := false } := by unfold clsIn; rw [hC] <;> rfl
theorem ldX {M : Model} {s : Shared} {name : Str} {scope : Scope} {L a : Addr} {cd : Value} {cl : List (Str × Addr)} {m : Str → Option Value} {x : Str} {pos : Pos} {v : Value} {Q : Value → Shared → Prop} {A : Around} {E : Value → Shared → Prop} (hn : s.heap.Ns L m) (hv : m x = some v) (h : Q v s)
    (hk : scope.kind = .function := by rfl) (hl : (envX name scope L a cd cl).kindOf x = some .local := by rfl) (hd : (x == ("__debug__" : Str)) = false := by decide) :
    wpAny M A (eval (.Name x pos) (envX name scope L a cd cl)) Q E s := wpAny_Name (wpAny_loadName_local hk hl hn hv h) hd
theorem errC_of {P : Program} {K : Frag} {C fI : Addr} {qual : Str} {prm : Arguments} {body : List Stmt} {sc : Scope} {nm q : Str} {N : Addr} {bs bm : List Value} {sn : List Str} {sub : List Value} {ab : Bool} {col : Option Bool} {dd : Option Addr} {k0 k1 k2 k3 k5 : Option Value}
    {oc : Value} {od : Option Addr} {doc pm : Value} {an : Option Addr} {cda cc : Addr} {ct : Value} {osl : Array (Option Value)} {ccl : Value} {cdd : Option Addr} {vs : Array Value} {ccs : Array (Option Value)} {file : Str} {tf : Tok} {cl : Value} {cld : Option Addr} {csl : Array (Option Value)}
    (hC : K.lookup C = some (excClassObj nm q C N bs bm true sn sub ab col dd k0 k1 k2 k3 k5 "ValueError.__new__")) (rv : PySem.HandSPX.refsVE bm = true) (su : ks_superIn K C C "__init__" = some (some (.builtin "ValueError.__init__")))
    (sa : findIn K (.ref C) "__setattr__" = some (some (.builtin "object.__setattr__"))) (iC : findIn K (.ref C) "__init__" = some (some (.ref fI))) (tI : typeIn K (.ref fI) = some (.type "function")) (exC : subIn K (.ref C) (.type "BaseException") = some true) (exV : subIn K (.ref C) (.type "ValueError") = some true)
    (mroC : mroIn K C (.ref C) = some true) (tyC : typeIn K (.ref C) = some (.type "type")) (kC : keepIn K (.ref C) = true) (op : nsIn K cStatics "thirdparty.any" = some none) (sg : nsIn K mainGlobals "super" = some none) (tp : (P.main.scope.names.lookup ("super" : Str)).isSome = false)
    (l1 : K.lookup fI = some ⟨oc, od, .func (fnX "__init__" qual prm body sc [("__class__", cc)] .none .none doc pm an (.ref cda) ct), osl⟩) (lc : codeIn K (.ref cda) qual = true) (l2 : K.lookup cda = some ⟨ccl, cdd, .fields vs, ccs⟩) (l3 : vs[2]? = some (.str file tf)) (l4 : ((P.main.file : Str) == file) = true)
    (l5 : K.lookup cc = some ⟨cl, cld, .cell (some (.ref C)), csl⟩) : ErrC P K C fI qual prm body sc := by
  have e1 := cls_at hC
  have al : alongIn K "__init__" bm = some (some (.builtin "ValueError.__init__")) := by
    unfold ks_superIn at su
    rw [e1] at su
    simpa [List.dropWhile_cons] using su
  exact { cls := ⟨nm, q, N, bs, bm, sn, sub, ab, col, dd, k0, k1, k2, k3, k5, hC, rv, al⟩, sa := sa, iC := iC, tI := tI, exC := exC, exV := exV, mroC := mroC, tyC := tyC, kC := kC, op := op, su := sg, tp := tp, fn := ⟨_, _, _, _, _, _, _, _, _, _, _, _, _, _, _, _, _, _, l1, lc, l2, l3, l4, l5⟩ }
theorem init_BadRow {prog : Program} {w : World} {K : Frag} {mg : Str → Option Value} {C fI : Addr} {a0 a1 p1 p2 p3 p4 p5 p6 q00 q01 q02 q03 : Pos} {j : Nat} {m : Str}
    (T : ErrC prog K C fI "BadRow.__init__" (prmOf [("self", a0), ("value", a1)]) [supOf m j p1 p2 p3 p4 p5 p6, stoOf "value" q00 q01 q02 q03] (scOf ["value"]))
    (hp : (p3.endLine == p5.line) = true) (n0 : findIn K (.ref C) "value" = some none) : ErrInit prog w K mg C fI ["value"] := by
  intro base A s R x t0 us M hb hx hnx hroom hl hq
  match us, hl with
  | [v1], _ =>
  obtain ⟨oc, od, doc, pm, an, cda, cc, ct, osl, ccl, cdd, vs, ccs, file, tf, cl, cld, csl, l1, lc, l2, l3, l4, l5⟩ := T.fn
  obtain ⟨nm, q, N', bs, bm, sn, sub, ab, col, dd, k0, k1, k2, k3, k5, hC, hbm, hal⟩ := T.cls
  have KX : K.In s.heap := M.kin.keeps hb
  have hcl := cls_at hC
  refine ks_codeAny_call_defAt (binds := [("self", .ref x), ("value", v1)]) hroom (KX _ _ l1) rfl (M.nolimit.keeps hb) (codeRec_of KX lc) rfl (BindsTo.of_eq (by first | rfl | with_unfolding_all rfl)) (by simp [scOf]) (by simp only [List.mem_cons, List.not_mem_nil, or_false]; rintro y (rfl | rfl) <;> rfl) (fun h1 hns hk1 => ?_)
  have hx1 := hk1 _ _ hx
  have xL : s.heap.objs.size ≠ x := Nat.ne_of_gt (Heap.lt_size hx)
  refine ks_wpAt_execs_cons (ks_wpAt_Expr_any (sup_step (mg := mg) (base := base) (sup_he hp) T M (fun b o z => hk1 b o (hb b o z)) rfl rfl rfl rfl rfl l1 l2 l3 l4 l5 hx1 hns rfl fun h2 t1 tk k2' hx2 => ?_))
  show _root_.PySem.wpAt _ _ _ (execs _ _) _ _ _
  refine wpAt_of_wpAny ?_
  have keep2 : ∀ b o, b ≠ x → s.heap.get? b = some o → h2.get? b = some o := fun b o hbx z => k2' b o hbx (hk1 b o z)
  have KX2 : K.In h2 := fun a o z => keep2 a o (fun e => by rw [e, hnx] at z; cases z) (KX a o z)
  have hns2 : h2.Ns s.heap.objs.size _ := ns_off hns (fun o z => k2' _ o xL z)
  refine wpAny_execs_cons (plainObj_wpAny_Assign_Attribute ?_)
  refine ldX (v := v1) hns2 rfl (ldX (v := .ref x) hns2 rfl ?_)
  refine set_plain KX2 (ox := PySem.HandSPX.excO C t1) (od := none) ⟨hx2, rfl, rfl, trivial⟩ T.sa ?_
  refine PySem.HandSPX.exc_osa KX2 hx2 hcl (show PySem.HandSPX.refsVE (.ref C :: bm) = true from hbm) rfl n0 (fun h3 tk3 dx k3 dn dne hx3 hn3 => ?_)
  have dge : s.heap.objs.size < dx := Nat.lt_of_lt_of_le (ns_lt hns2) dn
  have keep3 : ∀ b o, b ≠ x → s.heap.get? b = some o → h3.get? b = some o := fun b o hbx z => k3 b o hbx (keep2 b o hbx z)
  have KX3 : K.In h3 := fun a o z => keep3 a o (fun e => by rw [e, hnx] at z; cases z) (KX a o z)
  have hns3 : h3.Ns s.heap.objs.size _ := ns_off hns2 (fun o z => k3 _ o xL z)
  show wpAny _ _ (execs _ _) _ _ _
  refine wpAny_execs_nil (hq h3 tk3 dx t1 keep3 hx3 (Nat.le_of_lt dge) dne (ns1_ext hn3 fun y => ?_))
  show _ = List.lookup y [(("value" : Str), v1)]
  rw [lkp]
  rfl
end WpE
/-! Small words over the hand layer: heaps that only grow, calls of the program's own defs, methods and classes. -/
namespace Wp
open PySem L2

/-! ### heaps -/
def Ext (H H' : Hp) : Prop := ∀ a o, H a = some o → H' a = some o
theorem Ext.refl (H : Hp) : Ext H H := fun _ _ h => h
theorem Ext.trans {H H1 H2 : Hp} (a : Ext H H1) (b : Ext H1 H2) : Ext H H2 := fun x o h => b x o (a x o h)
theorem Ext.new {H H1 : Hp} {p : Addr} {o : HO} (e : Ext H H1) (h : H1 p = none) : Ext H (upd H1 p o) := fun a u q => by
  have z := e a u q
  rw [upd_ne (ne_of_none z h)]
  exact z
theorem up_new {H : Hp} {a p : Addr} {o u : HO} (hp : H p = none) (h : H a = some u) : upd H p o a = some u := by
  rw [upd_ne (ne_of_none h hp)]
  exact h
theorem up_ne {H : Hp} {a p : Addr} {o u : HO} (n : a ≠ p) (h : H a = some u) : upd H p o a = some u := by
  rw [upd_ne n]
  exact h
theorem ext_get {H H' : Hp} {a : Addr} {o : HO} (e : Ext H H') (h : H a = some o) : H' a = some o := e a o h
theorem ext_none {H H' : Hp} {a : Addr} (e : Ext H H') (h : H' a = none) : H a = none := by
  cases q : H a with
  | none => rfl
  | some o => rw [e a o q] at h; cases h
/-- an object that the first heap does not know is changed -/
theorem Ext.mut {H H1 : Hp} {p : Addr} {o : HO} (e : Ext H H1) (h : H p = none) : Ext H (upd H1 p o) := fun a u q => by
  rw [upd_ne (ne_of_none q h)]
  exact e a u q
theorem ext_rd {H H' : Hp} {a : Addr} {u : HO} (e : Ext H H') (h : Rd H a u) : Rd H' a u := by
  rcases h with h | ⟨o, h⟩
  · exact Or.inl (e a _ h)
  · exact Or.inr ⟨o, e a _ h⟩
theorem ext_sl {K : PySem.W.Frag} {H H' : Hp} {a : Addr} {xs : List V} (e : Ext H H') (h : SqL K H a xs) : SqL K H' a xs := by
  rcases h with h | h
  · exact Or.inl (ext_rd e h)
  · exact Or.inr h
theorem ext_st {K : PySem.W.Frag} {H H' : Hp} {a : Addr} {xs : List V} (e : Ext H H') (h : SqT K H a xs) : SqT K H' a xs := by
  rcases h with h | h
  · exact Or.inl (ext_rd e h)
  · exact Or.inr h
mutual
theorem ext_dp {K : PySem.W.Frag} {H H' : Hp} (e : Ext H H') : ∀ {v : V} {d : PyData}, Dp K H v d → Dp K H' v d
  | _, _, .non => .non
  | _, _, .bl b => .bl b
  | _, _, .int i => .int i
  | _, _, .str x => .str x
  | _, _, .lst h a => .lst (ext_sl e h) (ext_dps e a)
  | _, _, .tup h a => .tup (ext_st e h) (ext_dps e a)
theorem ext_dps {K : PySem.W.Frag} {H H' : Hp} (e : Ext H H') : ∀ {v : List V} {d : List PyData}, DpAll K H v d → DpAll K H' v d
  | _, _, .nil => .nil
  | _, _, .cons a r => .cons (ext_dp e a) (ext_dps e r)
end
theorem sz {n : Nat} (h : n ≤ 100000) : n ≤ sizeLine := Nat.le_trans h (by decide)
theorem szl {n : Nat} (h : n < 100000) : n < sizeLine := Nat.lt_of_lt_of_le h (by decide)

/-! ### tests -/
theorem ifd {p : Prop} [Decidable p] {A B : Prop} (h1 : p → A) (h2 : ¬ p → B) : if decide p = true then A else B := by
  by_cases h : p
  · rw [if_pos (decide_eq_true h)]; exact h1 h
  · rw [if_neg (by simpa using h)]; exact h2 h
theorem ifnd {p : Prop} [Decidable p] {A B : Prop} (h1 : ¬ p → A) (h2 : p → B) : if (!decide p) = true then A else B := by
  by_cases h : p
  · rw [if_neg (by simpa using h)]; exact h2 h
  · rw [if_pos (by simpa using h)]; exact h1 h
theorem ifb {b : Bool} {A B : Prop} (h1 : b = true → A) (h2 : b = false → B) : if b = true then A else B := by
  cases b
  · exact iteF (h2 rfl)
  · exact iteT (h1 rfl)
theorem ifT {b : Bool} {A B : Prop} (e : b = true) (h : A) : if b = true then A else B := by rw [if_pos e]; exact h
theorem ifF {b : Bool} {A B : Prop} (e : b = false) (h : B) : if b = true then A else B := by rw [if_neg (by rw [e]; decide)]; exact h

/-! ### callable things of the program -/
structure Cal (P : Program) (w : World) (K : PySem.W.Frag) (mg : Str → Option Value) (base : Heap) (k : Nat) (x : Str) (f : Addr) (sp : Sp) : Prop where
  fn : FnR P w K mg base (L2.CX P w) k f sp
  kp : PySem.W.keepIn K (.ref f) = true
  gl : mg x = some (.ref f)
structure Met (P : Program) (w : World) (K : PySem.W.Frag) (mg : Str → Option Value) (base : Heap) (k : Nat) (C : Addr) (m : Str) (f : Addr) (sp : Sp) : Prop where
  fn : FnR P w K mg base (L2.CX P w) k f sp
  mt : Meth K C m f
  cl : Cls K C
structure Mak (P : Program) (w : World) (K : PySem.W.Frag) (mg : Str → Option Value) (base : Heap) (k : Nat) (x : Str) (C f : Addr) (sp : Sp) : Prop where
  fn : FnR P w K mg base (L2.CX P w) k f sp
  mak : Mk K C f
  gl : mg x = some (.ref C)
section
variable {X : Cx} {k j : Nat} {f C : Addr} {sp : Sp} {x m : Str} {p pos apos : Pos} {e o : Expr} {es : List Expr} {ta : TE} {t : TA} {W : WX}
theorem run_at {pins : List (Addr × Obj)} {σ : L2.St} {H : Hp} {s : Shared} {Q : VK} {us : List Value} {vs : List V} (F : FnR X.prog X.w X.K X.mg X.base (L2.CX X.prog X.w) k f sp) (hr : Room k X.A) (tk : Takes X W) (I : Inv X pins σ H s) (r : Vals vs us)
    (h : sp vs H Q (WE W σ)) : codeAny (model X.prog X.w) X.A (.call (.ref f) ⟨us, []⟩) (fun r s' => match r with | .ok (.ret v) => EP X pins σ Q v s' | .ok _ => False | .error e => X.xe e s') s := by
  refine codeAny_mono (F X.A X.stack s H us vs Q (WE W σ) hr I.env0 r h) fun r s' hq => ?_
  cases r with
  | error e => exact passAt tk σ pins H s e s' I hq
  | ok fl =>
    cases fl with
    | ret u => exact I.after hq
    | next => exact False.elim hq
    | brk => exact False.elim hq
    | cont => exact False.elim hq
/-- f(e, ..) -/
theorem pc_fn (c : Cal X.prog X.w X.K X.mg X.base k x f sp) (hr : Room k X.A) (tk : Takes X W) (ha : PA X (e :: es) t) (hg : Gl X x := by rfl) (hdb : (x == ("__debug__" : Str)) = false := by decide)
    (he : starEach (e :: es) X.env = (false, eval e X.env) :: starEach es X.env := by rfl) (hpl : (backTo pos (starEach es X.env)).any (·.1) = false := by rfl) : PE X (.Call (.Name x p) (e :: es) [] pos) (tCallS sp (WE W) t) := by
  refine ⟨fun pins s σ H Q I h => ?_⟩
  refine wpAny_Call_Name_kw (ld_glob I hg c.gl ?_ hdb)
  refine PySem.W.callWith_K (h₀ := X.base) I.ok.mod.kin c.kp (thn (ha.run pos pins s σ H _ I h) fun us s1 ⟨vs, H1, I1, r, q⟩ => ⟨I1.kIn, ?_⟩) he hpl
  exact wpAny_call (run_at c.fn hr tk I1 r q)
theorem Fun.okR {P : Program} {w : World} {K : PySem.W.Frag} {mg : Str → Option Value} {base : Heap} {x qual : Str} {st : Stmt} {f : Addr} {fd : FuncData} {N ps : List Str} {k : Nat} {sp : Sp} (F : Fun K x qual st f fd) (S : FnScope N ps (defScope st)) (b : Binds K fd ps [])
    (len : ∀ vs H Q E, sp vs H Q E → vs.length = ps.length)
    (hbody : ∀ (cdv : Value) (A : Around) (outer : List Env) (s : Shared) (H : Hp) (vs : List V) (Q : VK) (E : XK), Room k (A.deeper (PyProof.Rows.envOfC qual (defScope st) s.heap.objs.size f cdv)) → sp vs H Q E →
      ∃ t, PSs (cxOf (L2.CX P w) P w K mg base N qual (defScope st) f cdv A outer s H E) (defBody st) t ∧ t { nx := fun _ H' => Q .non H', rt := Q } (start N vs) H) : FnR P w K mg base (L2.CX P w) (k + 1) f sp := by
  have G := (F.okX S len hbody).raw b .nil
  exact G.imp fun vs H Q E h => by rw [List.append_nil]; exact h
/-- f() -/
theorem pc_fn0 (c : Cal X.prog X.w X.K X.mg X.base k x f sp) (hr : Room k X.A) (tk : Takes X W) (hg : Gl X x := by rfl) (hdb : (x == ("__debug__" : Str)) = false := by decide) : PE X (.Call (.Name x p) [] [] pos) (tCallS sp (WE W) tNil) := by
  refine ⟨fun pins s σ H Q I h => wpAny_Call_Name_kw (ld_glob I hg c.gl ?_ hdb)⟩
  exact PySem.W.callWith_K0 I.kIn c.kp (wpAny_call (run_at (us := []) c.fn hr tk I .nil h))
/-- f(e, .., *y) where a star stands behind the first argument -/
theorem pc_fnS (c : Cal X.prog X.w X.K X.mg X.base k x f sp) (hr : Room k X.A) (tk : Takes X W) (ha : PA X (e :: es) t) (hg : Gl X x := by rfl) (hdb : (x == ("__debug__" : Str)) = false := by decide)
    (he : starEach (e :: es) X.env = (false, eval e X.env) :: starEach es X.env := by rfl) (hst : (backTo pos (starEach es X.env)).any (·.1) = true := by rfl) : PE X (.Call (.Name x p) (e :: es) [] pos) (tCallS sp (WE W) t) := by
  refine ⟨fun pins s σ H Q I h => wpAny_Call_Name_kw (ld_glob I hg c.gl ?_ hdb)⟩
  refine PySem.W.callWith_S2 (h₀ := X.base) I.ok.mod.kin c.kp (thn (ha.run pos pins s σ H _ I h) fun us s1 ⟨vs, H1, I1, r, q⟩ => ⟨I1.kIn, ?_⟩) he hst
  exact wpAny_call (run_at c.fn hr tk I1 r q)
/-- o.m(e, ..) : what is asked -/
def tMetS (C : Addr) (m : Str) (sp : Sp) (E : L2.St → XK) (ta : TE) (t : TA) : TE := fun σ H Q => ta σ H fun x H1 => ∃ a dx fs, x = .ref a ∧ H1 a = some (.ins C dx fs) ∧ fs.lookup m = none ∧ t σ H1 fun vs H2 => sp (x :: vs) H2 Q (E σ)
theorem pc_met {pl : Sem Bool} (he : PE X o ta) (c : Met X.prog X.w X.K X.mg X.base k C m f sp) (hr : Room k X.A) (tk : Takes X W) (ha : PA X (e :: es) t)
    (hst : starEach (e :: es) X.env = (false, eval e X.env) :: starEach es X.env := by rfl) (hpl : (backTo pos (starEach es X.env)).any (·.1) = false := by rfl)
    (ht : eval (.Call (.Attribute o m apos) (e :: es) [] pos) X.env = (do
      let ov ← eval o X.env
      standAt apos.atName
      let (f, first) ← holding [ov] (getMethod ov m pl)
      callWith pos f first (backTo pos (starEach (e :: es) X.env)) (backToKw pos (keywordEach [] X.env))) := by rfl) :
    PE X (.Call (.Attribute o m apos) (e :: es) [] pos) (tMetS C m sp (WE W) ta t) := by
  refine ⟨fun pins s σ H Q I h => ?_⟩
  refine PySem.W.methodCall_KW (pl := pl) (thn (he.run pins s σ H _ I h) fun u s1 ⟨x, H1, I1, rx, a, dx, fs, ex, ea, l, q⟩ => ?_) ht
  subst ex
  obtain rfl : u = Value.ref a := rx
  refine getmeth_ok I1 ea c.cl c.mt l (PySem.W.callWith_K (first := [.ref a]) (h₀ := X.base) I.ok.mod.kin c.mt.kp (thn (ha.run pos pins s1 σ H1 _ I1 q) fun us s2 ⟨vs, H2, I2, r, q2⟩ => ⟨I2.kIn, ?_⟩) hst hpl)
  exact wpAny_call (run_at (us := .ref a :: us) (vs := .ref a :: vs) c.fn hr tk I2 (.cons rfl r) q2)
theorem pc_met0 {pl : Sem Bool} (he : PE X o ta) (c : Met X.prog X.w X.K X.mg X.base k C m f sp) (hr : Room k X.A) (tk : Takes X W)
    (ht : eval (.Call (.Attribute o m apos) [] [] pos) X.env = (do
      let ov ← eval o X.env
      standAt apos.atName
      let (f, first) ← holding [ov] (getMethod ov m pl)
      callWith pos f first (backTo pos (starEach [] X.env)) (backToKw pos (keywordEach [] X.env))) := by rfl) :
    PE X (.Call (.Attribute o m apos) [] [] pos) (tMetS C m sp (WE W) ta tNil) := by
  refine ⟨fun pins s σ H Q I h => ?_⟩
  refine PySem.W.methodCall_KW (pl := pl) (thn (he.run pins s σ H _ I h) fun u s1 ⟨x, H1, I1, rx, a, dx, fs, ex, ea, l, q⟩ => ?_) ht
  subst ex
  obtain rfl : u = Value.ref a := rx
  exact getmeth_ok I1 ea c.cl c.mt l (PySem.W.callWith_K0 (first := [.ref a]) I1.kIn c.mt.kp (wpAny_call (run_at (us := [.ref a]) (vs := [.ref a]) c.fn hr tk I1 (.cons rfl .nil) q)))
/-- C(e, ..) : what is asked -/
def tMakS (C : Addr) (sp : Sp) (E : L2.St → XK) (t : TA) : TE := fun σ H Q => t σ H fun vs H1 => ∀ x dx, H1 x = none → H1 dx = none → dx ≠ x →
  sp (V.ref x :: vs) (upd (upd H1 dx (.own x)) x (.ins C dx [])) (fun v H2 => v = .non ∧ Q (.ref x) H2) (E σ)
theorem run_mak {pins : List (Addr × Obj)} {σ : L2.St} {H : Hp} {s : Shared} {Q : VK} {us : List Value} {vs : List V} (c : Mak X.prog X.w X.K X.mg X.base k x C f sp) (hr : Room (k + 1) X.A) (tk : Takes X W) (I : Inv X pins σ H s) (r : Vals vs us)
    (h : ∀ x dx, H x = none → H dx = none → dx ≠ x → sp (V.ref x :: vs) (upd (upd H dx (.own x)) x (.ins C dx [])) (fun v H2 => v = .non ∧ Q (.ref x) H2) (WE W σ)) :
    wpAny (model X.prog X.w) X.A (call (.ref C) us) (EP X pins σ Q) X.xe s := by
  have hq := h (s.heap.objs.size + 1) s.heap.objs.size (I.hok.fresh (Nat.le_succ _)) (I.hok.fresh (Nat.le_refl _)) (Nat.ne_of_lt (Nat.lt_succ_self _))
  have J := Inv.made (C := C) I
  have r2 : Vals (V.ref (s.heap.objs.size + 1) :: vs) (Value.ref (s.heap.objs.size + 1) :: us) := .cons rfl r
  refine wpAny_call (make_map (f := f) I.kIn c.mak.makes c.mak.init (beq_iff_eq.mp c.mak.fn) (codeAny_mono (c.fn _ X.stack _ _ (Value.ref (s.heap.objs.size + 1) :: us) _ _ (WE W σ) (hr.make C us []) (J.env0.make C us []) r2 hq) fun r s' hq' => ?_))
  cases r with
  | error e => exact passAt tk σ pins _ _ e s' J hq'
  | ok fl =>
    cases fl with
    | ret u =>
      obtain ⟨v, H', I3, rv, ev, q3⟩ := J.after hq'
      subst ev
      exact ⟨rv, ⟨V.ref (s.heap.objs.size + 1), H', I3, rfl, q3⟩⟩
    | next => exact hq'.elim
    | brk => exact hq'.elim
    | cont => exact hq'.elim
theorem pc_mak (c : Mak X.prog X.w X.K X.mg X.base k x C f sp) (hr : Room (k + 1) X.A) (tk : Takes X W) (ha : PA X (e :: es) t) (hg : Gl X x := by rfl) (hdb : (x == ("__debug__" : Str)) = false := by decide)
    (he : starEach (e :: es) X.env = (false, eval e X.env) :: starEach es X.env := by rfl) (hpl : (backTo pos (starEach es X.env)).any (·.1) = false := by rfl) : PE X (.Call (.Name x p) (e :: es) [] pos) (tMakS C sp (WE W) t) := by
  refine ⟨fun pins s σ H Q I h => wpAny_Call_Name_kw (ld_glob I hg c.gl ?_ hdb)⟩
  refine PySem.W.callWith_K (h₀ := X.base) I.ok.mod.kin c.mak.kp (thn (ha.run pos pins s σ H _ I h) fun us s1 ⟨vs, H1, I1, r, q⟩ => ⟨I1.kIn, ?_⟩) he hpl
  exact run_mak c hr tk I1 r q
theorem pc_mak0 (c : Mak X.prog X.w X.K X.mg X.base k x C f sp) (hr : Room (k + 1) X.A) (tk : Takes X W) (hg : Gl X x := by rfl) (hdb : (x == ("__debug__" : Str)) = false := by decide) : PE X (.Call (.Name x p) [] [] pos) (tMakS C sp (WE W) tNil) := by
  refine ⟨fun pins s σ H Q I h => wpAny_Call_Name_kw (ld_glob I hg c.gl ?_ hdb)⟩
  exact PySem.W.callWith_K0 I.kIn c.mak.kp (run_mak (us := []) c hr tk I .nil h)
end

/-! ### isinstance of plain data -/
inductive Vk (K : PySem.W.Frag) (H : Hp) : V → String → Prop
  | non : Vk K H .non "NoneType"
  | bl (b : Bool) : Vk K H (.bl b) "bool"
  | int (i : Int) : Vk K H (.int i) "int"
  | str (x : Str) : Vk K H (.str x) "str"
  | lst {a : Addr} {xs : List V} : SqL K H a xs → Vk K H (.ref a) "list"
  | tup {a : Addr} {xs : List V} : SqT K H a xs → Vk K H (.ref a) "tuple"
theorem Vk.ty {K : PySem.W.Frag} {H : Hp} {x : V} {t : String} (h : Vk K H x t) : TyX K H x (.type t) := by
  cases h with
  | non => exact .base .non
  | bl b => exact .base (.bl b)
  | int i => exact .base (.int i)
  | str x => exact .base (.str x)
  | lst h =>
    rcases h with (h | ⟨o, h⟩) | ⟨o, its, n, h1, h2, _⟩
    · exact .base (.lst h)
    · exact .base (.frz h)
    · exact .kList h1 h2
  | tup h =>
    rcases h with (h | ⟨o, h⟩) | ⟨o, its, n, h1, h2, _⟩
    · exact .base (.tup h)
    · exact .fTuple h
    · exact .kTuple h1 h2
theorem Vk.ext {K : PySem.W.Frag} {H H' : Hp} {x : V} {t : String} (e : Ext H H') (h : Vk K H x t) : Vk K H' x t := by
  cases h with
  | non => exact .non
  | bl b => exact .bl b
  | int i => exact .int i
  | str x => exact .str x
  | lst h => exact .lst (ext_sl e h)
  | tup h => exact .tup (ext_st e h)
theorem Vk.of {K : PySem.W.Frag} {H : Hp} {x : V} {d : PyData} (h : Dp K H x d) : ∃ t, Vk K H x t := by
  cases h with
  | non => exact ⟨_, .non⟩
  | bl b => exact ⟨_, .bl b⟩
  | int i => exact ⟨_, .int i⟩
  | str x => exact ⟨_, .str x⟩
  | lst h _ => exact ⟨_, .lst h⟩
  | tup h _ => exact ⟨_, .tup h⟩
/-- isinstance(x, c), x plain data, c a built-in class -/
def rIsV (K : PySem.W.Frag) : List V → Hp → VK → Prop := fun xs H Q => ∃ (x : V) (t c : String) (b : Bool), xs = [x, .ty c] ∧ Vk K H x t ∧ kitB t c = some b ∧ Q (.bl b) H
theorem call_isV {X : Cx} : CallR X (.builtin "isinstance") (rIsV X.K) := fun pins s σ H xs us Q I r ⟨x, t, c, b, e, k, z, q⟩ => call_isi pins s σ H xs us Q I r ⟨x, .ty c, .type t, .type c, b, e, .ty c, k.ty, kit_ty z, q⟩
def isI : V → Bool
  | .int _ => true
  | _ => false
def isB : V → Bool
  | .bl _ => true
  | _ => false
theorem vk_int {K : PySem.W.Frag} {H : Hp} {x : V} {t : String} (h : Vk K H x t) : kitB t "int" = some (isI x || isB x) := by
  cases h <;> first | rfl | decide +kernel
theorem vk_bool {K : PySem.W.Frag} {H : Hp} {x : V} {t : String} (h : Vk K H x t) : kitB t "bool" = some (isB x) := by
  cases h <;> first | rfl | decide +kernel
theorem isI_int {x : V} (h : isI x = true) : ∃ i, x = .int i := by
  cases x <;> first | exact ⟨_, rfl⟩ | cases h
theorem isB_bl {x : V} (h : isB x = true) : ∃ i, x = .bl i := by
  cases x <;> first | exact ⟨_, rfl⟩ | cases h

/-! isinstance of plain values, by kind -/
section
variable {K : PySem.W.Frag} {H : Hp} {Q : VK}
theorem is_int_int {i : Int} (k : Q (.bl true) H) : rIsV K [.int i, .ty "int"] H Q := ⟨_, _, _, _, rfl, .int _, (by decide +kernel : kitB "int" "int" = some true), k⟩
theorem is_int_bool {i : Int} (k : Q (.bl false) H) : rIsV K [.int i, .ty "bool"] H Q := ⟨_, _, _, _, rfl, .int _, (by decide +kernel : kitB "int" "bool" = some false), k⟩
theorem is_int_str {i : Int} (k : Q (.bl false) H) : rIsV K [.int i, .ty "str"] H Q := ⟨_, _, _, _, rfl, .int _, (by decide +kernel : kitB "int" "str" = some false), k⟩
theorem is_int_tuple {i : Int} (k : Q (.bl false) H) : rIsV K [.int i, .ty "tuple"] H Q := ⟨_, _, _, _, rfl, .int _, (by decide +kernel : kitB "int" "tuple" = some false), k⟩
theorem is_int_list {i : Int} (k : Q (.bl false) H) : rIsV K [.int i, .ty "list"] H Q := ⟨_, _, _, _, rfl, .int _, (by decide +kernel : kitB "int" "list" = some false), k⟩
theorem is_int_dict {i : Int} (k : Q (.bl false) H) : rIsV K [.int i, .ty "dict"] H Q := ⟨_, _, _, _, rfl, .int _, (by decide +kernel : kitB "int" "dict" = some false), k⟩
theorem is_bl_int {b : Bool} (k : Q (.bl true) H) : rIsV K [.bl b, .ty "int"] H Q := ⟨_, _, _, _, rfl, .bl _, (by decide +kernel : kitB "bool" "int" = some true), k⟩
theorem is_bl_bool {b : Bool} (k : Q (.bl true) H) : rIsV K [.bl b, .ty "bool"] H Q := ⟨_, _, _, _, rfl, .bl _, (by decide +kernel : kitB "bool" "bool" = some true), k⟩
theorem is_bl_str {b : Bool} (k : Q (.bl false) H) : rIsV K [.bl b, .ty "str"] H Q := ⟨_, _, _, _, rfl, .bl _, (by decide +kernel : kitB "bool" "str" = some false), k⟩
theorem is_bl_tuple {b : Bool} (k : Q (.bl false) H) : rIsV K [.bl b, .ty "tuple"] H Q := ⟨_, _, _, _, rfl, .bl _, (by decide +kernel : kitB "bool" "tuple" = some false), k⟩
theorem is_bl_list {b : Bool} (k : Q (.bl false) H) : rIsV K [.bl b, .ty "list"] H Q := ⟨_, _, _, _, rfl, .bl _, (by decide +kernel : kitB "bool" "list" = some false), k⟩
theorem is_bl_dict {b : Bool} (k : Q (.bl false) H) : rIsV K [.bl b, .ty "dict"] H Q := ⟨_, _, _, _, rfl, .bl _, (by decide +kernel : kitB "bool" "dict" = some false), k⟩
theorem is_str_int {z : Str} (k : Q (.bl false) H) : rIsV K [.str z, .ty "int"] H Q := ⟨_, _, _, _, rfl, .str _, (by decide +kernel : kitB "str" "int" = some false), k⟩
theorem is_str_bool {z : Str} (k : Q (.bl false) H) : rIsV K [.str z, .ty "bool"] H Q := ⟨_, _, _, _, rfl, .str _, (by decide +kernel : kitB "str" "bool" = some false), k⟩
theorem is_str_str {z : Str} (k : Q (.bl true) H) : rIsV K [.str z, .ty "str"] H Q := ⟨_, _, _, _, rfl, .str _, (by decide +kernel : kitB "str" "str" = some true), k⟩
theorem is_str_tuple {z : Str} (k : Q (.bl false) H) : rIsV K [.str z, .ty "tuple"] H Q := ⟨_, _, _, _, rfl, .str _, (by decide +kernel : kitB "str" "tuple" = some false), k⟩
theorem is_str_list {z : Str} (k : Q (.bl false) H) : rIsV K [.str z, .ty "list"] H Q := ⟨_, _, _, _, rfl, .str _, (by decide +kernel : kitB "str" "list" = some false), k⟩
theorem is_str_dict {z : Str} (k : Q (.bl false) H) : rIsV K [.str z, .ty "dict"] H Q := ⟨_, _, _, _, rfl, .str _, (by decide +kernel : kitB "str" "dict" = some false), k⟩
theorem is_non_int  (k : Q (.bl false) H) : rIsV K [.non, .ty "int"] H Q := ⟨_, _, _, _, rfl, .non, (by decide +kernel : kitB "NoneType" "int" = some false), k⟩
theorem is_non_bool  (k : Q (.bl false) H) : rIsV K [.non, .ty "bool"] H Q := ⟨_, _, _, _, rfl, .non, (by decide +kernel : kitB "NoneType" "bool" = some false), k⟩
theorem is_non_str  (k : Q (.bl false) H) : rIsV K [.non, .ty "str"] H Q := ⟨_, _, _, _, rfl, .non, (by decide +kernel : kitB "NoneType" "str" = some false), k⟩
theorem is_non_tuple  (k : Q (.bl false) H) : rIsV K [.non, .ty "tuple"] H Q := ⟨_, _, _, _, rfl, .non, (by decide +kernel : kitB "NoneType" "tuple" = some false), k⟩
theorem is_non_list  (k : Q (.bl false) H) : rIsV K [.non, .ty "list"] H Q := ⟨_, _, _, _, rfl, .non, (by decide +kernel : kitB "NoneType" "list" = some false), k⟩
theorem is_non_dict  (k : Q (.bl false) H) : rIsV K [.non, .ty "dict"] H Q := ⟨_, _, _, _, rfl, .non, (by decide +kernel : kitB "NoneType" "dict" = some false), k⟩
theorem is_tup_int {a : Addr} {xs : List V} (h : SqT K H a xs) (k : Q (.bl false) H) : rIsV K [.ref a, .ty "int"] H Q := ⟨_, _, _, _, rfl, .tup h, (by decide +kernel : kitB "tuple" "int" = some false), k⟩
theorem is_tup_bool {a : Addr} {xs : List V} (h : SqT K H a xs) (k : Q (.bl false) H) : rIsV K [.ref a, .ty "bool"] H Q := ⟨_, _, _, _, rfl, .tup h, (by decide +kernel : kitB "tuple" "bool" = some false), k⟩
theorem is_tup_str {a : Addr} {xs : List V} (h : SqT K H a xs) (k : Q (.bl false) H) : rIsV K [.ref a, .ty "str"] H Q := ⟨_, _, _, _, rfl, .tup h, (by decide +kernel : kitB "tuple" "str" = some false), k⟩
theorem is_tup_tuple {a : Addr} {xs : List V} (h : SqT K H a xs) (k : Q (.bl true) H) : rIsV K [.ref a, .ty "tuple"] H Q := ⟨_, _, _, _, rfl, .tup h, (by decide +kernel : kitB "tuple" "tuple" = some true), k⟩
theorem is_tup_list {a : Addr} {xs : List V} (h : SqT K H a xs) (k : Q (.bl false) H) : rIsV K [.ref a, .ty "list"] H Q := ⟨_, _, _, _, rfl, .tup h, (by decide +kernel : kitB "tuple" "list" = some false), k⟩
theorem is_tup_dict {a : Addr} {xs : List V} (h : SqT K H a xs) (k : Q (.bl false) H) : rIsV K [.ref a, .ty "dict"] H Q := ⟨_, _, _, _, rfl, .tup h, (by decide +kernel : kitB "tuple" "dict" = some false), k⟩
theorem is_lst_int {a : Addr} {xs : List V} (h : SqL K H a xs) (k : Q (.bl false) H) : rIsV K [.ref a, .ty "int"] H Q := ⟨_, _, _, _, rfl, .lst h, (by decide +kernel : kitB "list" "int" = some false), k⟩
theorem is_lst_bool {a : Addr} {xs : List V} (h : SqL K H a xs) (k : Q (.bl false) H) : rIsV K [.ref a, .ty "bool"] H Q := ⟨_, _, _, _, rfl, .lst h, (by decide +kernel : kitB "list" "bool" = some false), k⟩
theorem is_lst_str {a : Addr} {xs : List V} (h : SqL K H a xs) (k : Q (.bl false) H) : rIsV K [.ref a, .ty "str"] H Q := ⟨_, _, _, _, rfl, .lst h, (by decide +kernel : kitB "list" "str" = some false), k⟩
theorem is_lst_tuple {a : Addr} {xs : List V} (h : SqL K H a xs) (k : Q (.bl false) H) : rIsV K [.ref a, .ty "tuple"] H Q := ⟨_, _, _, _, rfl, .lst h, (by decide +kernel : kitB "list" "tuple" = some false), k⟩
theorem is_lst_list {a : Addr} {xs : List V} (h : SqL K H a xs) (k : Q (.bl true) H) : rIsV K [.ref a, .ty "list"] H Q := ⟨_, _, _, _, rfl, .lst h, (by decide +kernel : kitB "list" "list" = some true), k⟩
theorem is_lst_dict {a : Addr} {xs : List V} (h : SqL K H a xs) (k : Q (.bl false) H) : rIsV K [.ref a, .ty "dict"] H Q := ⟨_, _, _, _, rfl, .lst h, (by decide +kernel : kitB "list" "dict" = some false), k⟩
end

/-! ### isinstance of a caught error (at a; its class cls, its own dict d) -/
def rIsX (K : PySem.W.Frag) (a : Addr) (cls : Value) (d : Option Addr) (C : Addr) : List V → Hp → VK → Prop := fun xs H Q => ∃ (c : V) (u : Value) (b : Bool), xs = [.ref a, c] ∧ ClsV c u ∧ cls = .ref C ∧ (∃ dd fs, d = some dd ∧ H dd = some (.xd fs)) ∧ PySem.W.kitOne K (.ref C) u = some b ∧ Q (.bl b) H
theorem call_isXc {X : Cx} {a C : Addr} {oe : Obj} {cls : Value} {d : Option Addr} {pn : List (Addr × Obj)} (T : ExcC X.K C) (hz : Zc cls d oe) (hf : ∃ vs, oe.data = .fields vs) : CallR (X.suite a ((a, oe) :: pn)) (.builtin "isinstance") (rIsX X.K a cls d C) := by
  intro pins s σ H xs us Q I r h
  obtain ⟨c, u, b, rfl, k, ec, ⟨dd, fs, ed, ea⟩, e, q⟩ := h
  obtain ⟨u1, u2, rfl, r1, r2⟩ := vals2 r
  have e2 := k.eq r2
  subst e2
  obtain rfl : u1 = Value.ref a := r1
  subst ec ed
  obtain ⟨ha, _⟩ := I.pin (a, oe) (List.mem_append_left _ List.mem_cons_self)
  obtain ⟨fv, hd⟩ := hf
  have hx : ObjOk X.prog X.w H s.heap dd (.xd fs) := I.hok dd _ ea
  obtain ⟨mA, hns, hr⟩ := hx
  obtain ⟨od, ho, hl⟩ := lookIn_ns hns
  have J : PySem.W.InstAt s.heap a oe C (some od) := ⟨ha, hz.1, by unfold PySem.W.notCls; rw [hd] <;> rfl, by rw [hz.2]; exact ho⟩
  have hcl : (PySem.W.clsIn X.K C).isSome = true := by
    obtain ⟨cd, hc, _⟩ := PySem.W.any_some T.hd
    rw [hc]; rfl
  exact PySem.W.kia_one (PySem.W.kitx_exc hcl T.hg T.hk T.hs T.ha T.hn T.ht T.hm) I.kIn J e (fun z => nomatch z) fun tk => ⟨.bl b, H, I.tok tk, rfl, q⟩

/-! ### built-in functions, by names -/
def rInt1 : List V → Hp → VK → Prop := fun xs H Q => (∃ i, xs = [.int i] ∧ Q (.int i) H) ∨ ∃ k, xs = [.bl k] ∧ Q (.int (if k then 1 else 0)) H
theorem w_int {X : Cx} : CallR X (.type "int") rInt1 := call_int1
def rAbs : List V → Hp → VK → Prop := fun xs H Q => ∃ i, xs = [.int i] ∧ Q (.int (if i < 0 then -i else i)) H
theorem w_abs {X : Cx} : CallR X (.builtin "abs") rAbs := call_abs
def rLenQ (K : PySem.W.Frag) : List V → Hp → VK → Prop := fun xs H Q => ∃ p ys, xs = [.ref p] ∧ (SqL K H p ys ∨ SqT K H p ys) ∧ Q (.int ys.length) H
theorem w_len {X : Cx} : CallR X (.builtin "len") (rLenQ X.K) := call_len_seq
def rLenZ : List V → Hp → VK → Prop := fun xs H Q => ∃ z, xs = [.str z] ∧ z.length ≤ sizeLine ∧ Q (.int z.length) H
theorem w_lenZ {X : Cx} : CallR X (.builtin "len") rLenZ := call_len_str
def rMin2 : List V → Hp → VK → Prop := fun xs H Q => ∃ i j, xs = [.int i, .int j] ∧ Q (.int (if j < i then j else i)) H
def rMax2 : List V → Hp → VK → Prop := fun xs H Q => ∃ i j, xs = [.int i, .int j] ∧ Q (.int (if j > i then j else i)) H
theorem w_min2 {X : Cx} (hc : X.calm = true) : CallR X (.builtin "min") rMin2 := call_min2 hc
theorem w_max2 {X : Cx} (hc : X.calm = true) : CallR X (.builtin "max") rMax2 := call_max2 hc
def rListOf (K : PySem.W.Frag) : List V → Hp → VK → Prop := fun xs H Q => ∃ p ys, xs = [.ref p] ∧ (SqL K H p ys ∨ SqT K H p ys) ∧ ∀ l, H l = none → Q (.ref l) (upd H l (.lst ys))
theorem w_list {X : Cx} : CallR X (.type "list") (rListOf X.K) := call_list_of
def rTupOf (K : PySem.W.Frag) : List V → Hp → VK → Prop := fun xs H Q => ∃ p ys, xs = [.ref p] ∧ ((SqL K H p ys ∧ ∀ l, H l = none → Q (.ref l) (upd H l (.tup ys))) ∨ (SqT K H p ys ∧ Q (.ref p) H))
theorem w_tuple {X : Cx} : CallR X (.type "tuple") (rTupOf X.K) := call_tuple_of
def rStrI : List V → Hp → VK → Prop := fun xs H Q => ∃ i, xs = [.int i] ∧ i.natAbs.log2 < 1920 ∧ Q (.str (toString i)) H
theorem w_str {X : Cx} : CallR X (.type "str") rStrI := call_str_int

/-! ### readings, from the front: what must be shown for each construct -/
def Nx (N : L2.St → Hp → Prop) (s2 : TS) (D : Ends) : Prop := ∀ σ H, s2 D σ H → N σ H
def NewT (xs : List V) (H : Hp) (Q : VK) : Prop := xs.length ≤ sizeLine ∧ ∀ p, H p = none → Q (.ref p) (upd H p (.tup xs))
def NewL (xs : List V) (H : Hp) (Q : VK) : Prop := xs.length ≤ sizeLine ∧ ∀ p, H p = none → Q (.ref p) (upd H p (.lst xs))
section
variable {K : PySem.W.Frag} {σ : L2.St} {H : Hp} {Q : VK} {QB : Bool → Hp → Prop} {QL : List V → Hp → Prop} {QO : Option Int → Hp → Prop} {D : Ends} {i j : Nat} {v x y : V} {ta tb te tv td : TE} {t u : TT} {tr : TA} {r : R2} {tl th : TO} {a b n m : Int} {p l : Addr} {xs ys vs : List V} {s1 s2 : TS} {g : TG} {f : Str} {C dx : Addr} {fs : List (Str × V)}
theorem i_var (h : σ[i]? = some (some v)) (k : Q v H) : tVar i σ H Q := ⟨v, h, k⟩
theorem i_c (k : Q v H) : tC v σ H Q := k
theorem i_op (k : ta σ H fun x H1 => tb σ H1 fun y H2 => r x y H2 Q) : tOp r ta tb σ H Q := k
theorem i_un {r : V → Hp → VK → Prop} (k : ta σ H fun x H1 => r x H1 Q) : tUn r ta σ H Q := k
theorem i_U {g : Int → V} (k : Q (g a) H) : rU g (.int a) H Q := ⟨a, rfl, k⟩
theorem i_I0 {g : Int → Int → V} (k : Q (g a b) H) : rI0 g (.int a) (.int b) H Q := ⟨a, b, rfl, rfl, k⟩
theorem i_I {g : Int → Int → V} {C : Int → Int → Prop} (c : C a b) (k : Q (g a b) H) : rI C g (.int a) (.int b) H Q := ⟨a, b, rfl, rfl, c, k⟩
theorem i_cmp {p : Int → Int → Bool} (k : ta σ H fun x H1 => tb σ H1 fun y H2 => ∃ i j, x = .int i ∧ y = .int j ∧ Q (.bl (p i j)) H2) : tCmp p ta tb σ H Q := k
theorem i_II {P : Int → Int → Prop} (k : P a b) : ∃ i j, V.int a = .int i ∧ V.int b = .int j ∧ P i j := ⟨a, b, rfl, rfl, k⟩
theorem i_isN (k : ta σ H fun x H1 => Q (.bl (decide (x = .non))) H1) : tIsN ta σ H Q := k
theorem i_notN (k : ta σ H fun x H1 => Q (.bl (!decide (x = .non))) H1) : tNotN ta σ H Q := k
theorem i_B (k : te σ H fun x H1 => ∃ c, x = .bl c ∧ QB c H1) : tB te σ H QB := k
theorem i_test (k : te σ H fun x H1 => ∃ c, x = .bl c ∧ QB c H1) : tTest te σ H QB := k
theorem i_bl {c : Bool} {P : Bool → Prop} (k : P c) : ∃ c', V.bl c = .bl c' ∧ P c' := ⟨c, rfl, k⟩
theorem i_and (k : t σ H fun c H1 => if c = true then u σ H1 QB else QB false H1) : tAnd t u σ H QB := k
theorem i_or (k : t σ H fun c H1 => if c = true then QB true H1 else u σ H1 QB) : tOr t u σ H QB := k
theorem i_not (k : t σ H fun c H1 => QB (!c) H1) : tNot t σ H QB := k
theorem i_andV (k : ta σ H fun x H1 => ∃ c, x = .bl c ∧ if c = true then tb σ H1 Q else Q (.bl false) H1) : tAndV ta tb σ H Q := k
theorem i_orV (k : ta σ H fun x H1 => ∃ c, x = .bl c ∧ if c = true then Q (.bl true) H1 else tb σ H1 Q) : tOrV ta tb σ H Q := k
theorem i_notV (k : ta σ H fun x H1 => ∃ c, x = .bl c ∧ Q (.bl (!c)) H1) : tNotV ta σ H Q := k
theorem i_if (k : t σ H fun c H1 => if c = true then ta σ H1 Q else tb σ H1 Q) : tIf t ta tb σ H Q := k
theorem i_chain {r' : R2} {tc : TE} (k : ta σ H fun x H1 => tb σ H1 fun y H2 => r x y H2 fun z H3 => ∃ c, z = .bl c ∧ (if c = true then tc σ H3 fun w' H4 => r' y w' H4 Q else Q (.bl false) H3)) : tChain r r' ta tb tc σ H Q := k
theorem i_nil (k : QL [] H) : tNil σ H QL := k
theorem i_cons (k : ta σ H fun x H1 => tr σ H1 fun xs H2 => QL (x :: xs) H2) : tCons ta tr σ H QL := k
theorem i_tup (k : tr σ H fun xs H1 => NewT xs H1 Q) : tTup tr σ H Q := k
theorem i_lst (k : tr σ H fun xs H1 => NewL xs H1 Q) : tLst tr σ H Q := k
theorem i_newT (h : xs.length ≤ 1000) (k : ∀ p H2, H p = none → Ext H H2 → H2 p = some (.tup xs) → Q (.ref p) H2) : NewT xs H Q := ⟨sz (Nat.le_trans h (by decide)), fun p np => k p _ np (Ext.new (Ext.refl _) np) upd_same⟩
theorem i_newL (h : xs.length ≤ 1000) (k : ∀ p H2, H p = none → Ext H H2 → H2 p = some (.lst xs) → Q (.ref p) H2) : NewL xs H Q := ⟨sz (Nat.le_trans h (by decide)), fun p np => k p _ np (Ext.new (Ext.refl _) np) upd_same⟩
theorem i_call {sp : Sp} {E : L2.St → XK} (k : tr σ H fun vs H1 => sp vs H1 Q (E σ)) : tCallS sp E tr σ H Q := k
theorem i_cb {r : List V → Hp → VK → Prop} (k : tr σ H fun vs H1 => r vs H1 Q) : tCB r tr σ H Q := k
theorem i_met {sp : Sp} {E : L2.St → XK} (k : ta σ H fun x H1 => ∃ a dx fs, x = .ref a ∧ H1 a = some (.ins C dx fs) ∧ fs.lookup f = none ∧ tr σ H1 fun vs H2 => sp (x :: vs) H2 Q (E σ)) : tMetS C f sp E ta tr σ H Q := k
theorem i_mak {sp : Sp} {E : L2.St → XK} (k : tr σ H fun vs H1 => ∀ x dx, H1 x = none → H1 dx = none → dx ≠ x → sp (V.ref x :: vs) (upd (upd H1 dx (.own x)) x (.ins C dx [])) (fun v H2 => v = .non ∧ Q (.ref x) H2) (E σ)) : tMakS C sp E tr σ H Q := k
theorem i_fld (k : ta σ H fun x H1 => ∃ a C dx fs v, x = .ref a ∧ H1 a = some (.ins C dx fs) ∧ Cls K C ∧ NoAttr K C f ∧ fs.lookup f = some v ∧ Q v H1) : tFld K ta f σ H Q := k
theorem i_sl {r : V → Option Int → Option Int → Hp → VK → Prop} (k : te σ H fun x H1 => tl σ H1 fun l H2 => th σ H2 fun u H3 => r x l u H3 Q) : tSl r te tl th σ H Q := k
theorem i_noPart (k : QO none H) : tNoPart σ H QO := k
theorem i_part (k : te σ H fun x H1 => ∃ i, x = .int i ∧ QO (some i) H1) : tPart te σ H QO := k
theorem i_1I {P : Int → Prop} (k : P a) : ∃ i, V.int a = .int i ∧ P i := ⟨a, rfl, k⟩
theorem i_bm {r : V → List V → Hp → VK → Prop} {T : String} (k : ta σ H fun x H1 => tyV K T x H1 ∧ tr σ H1 fun xs H2 => r x xs H2 Q) : tBM K T r ta tr σ H Q := k
theorem i_bm0 {r : V → List V → Hp → VK → Prop} {T : String} (k : ta σ H fun x H1 => tyV K T x H1 ∧ r x [] H1 Q) : tBM0 K T r ta σ H Q := k
theorem i_seq (k : s1 { D with nx := s2 D } σ H) : tSeq s1 s2 D σ H := k
/-- what follows is a letter -/
theorem i_seqN (k : ∀ N : L2.St → Hp → Prop, Nx N s2 D → s1 { D with nx := N } σ H) : tSeq s1 s2 D σ H := k _ (fun _ _ h => h)
theorem go_nx {N : L2.St → Hp → Prop} (h : Nx N s2 D) (k : s2 D σ H) : N σ H := h σ H k
theorem i_next (k : D.nx σ H) : tNext D σ H := k
theorem i_brk (k : D.bk σ H) : tBreak D σ H := k
theorem i_cont (k : D.ct σ H) : tCont D σ H := k
theorem i_drop (k : te σ H fun _ H1 => D.nx σ H1) : tDrop te D σ H := k
theorem i_ret (k : te σ H D.rt) : tRet te D σ H := k
theorem i_retN (k : D.rt .non H) : tRetN D σ H := k
theorem i_ifS (k : t σ H fun b H1 => if b = true then s1 D σ H1 else s2 D σ H1) : tIfS t s1 s2 D σ H := k
theorem i_asg (k : te σ H fun x H1 => g x σ H1 D.nx) : tAsg te g D σ H := k
theorem i_name {Qs : L2.St → Hp → Prop} (k : Qs (σ.set i (some v)) H) : gName i v σ H Qs := k
theorem i_gsub {Qs : L2.St → Hp → Prop} {ts : TSet} (k : ta σ H fun o H1 => tb σ H1 fun i H2 => ts o i v H2 fun H3 => Qs σ H3) : gSub ta tb ts v σ H Qs := k
theorem i_par (k : tr σ H fun vs H1 => ∃ v w, vs = [v, w] ∧ D.nx ((σ.set i (some v)).set j (some w)) H1) : tPar i j tr D σ H := k
theorem i_par2 {P : V → V → Prop} (k : P x y) : ∃ v w, [x, y] = [v, w] ∧ P v w := ⟨x, y, rfl, k⟩
theorem i_aug {ti : TIp} (h : σ[i]? = some (some x)) (k : te σ H fun y H1 => ti x y H1 fun z H2 => D.nx (σ.set i (some z)) H2) : tAug i te ti D σ H := ⟨x, h, k⟩
theorem i_ipI {f : Int → Int → Int} (k : Q (.int (f a b)) H) : ipI f (.int a) (.int b) H Q := ⟨a, b, rfl, rfl, k⟩
theorem i_sfld (k : tv σ H fun y H1 => ta σ H1 fun x H2 => ∃ a C dx fs, x = .ref a ∧ H2 a = some (.ins C dx fs) ∧ Cls K C ∧ NoAttr K C f ∧ fs.length < 1000 ∧ D.nx σ (upd H2 a (.ins C dx (putF f y fs)))) : sFld K ta tv f D σ H := k
theorem i_eqD {d e : PyData} (h1 : Dp K H x d) (h2 : Dp K H y e) (s1 : SeqAt.shaped d = true) (s2 : SeqAt.shaped e = true) (k : Q (.bl (PyData.eqv d e)) H) : rEqD K x y H Q := ⟨d, e, h1, h2, s1, s2, k⟩
theorem i_neD {d e : PyData} (h1 : Dp K H x d) (h2 : Dp K H y e) (s1 : SeqAt.shaped d = true) (s2 : SeqAt.shaped e = true) (k : Q (.bl (!PyData.eqv d e)) H) : rNeD K x y H Q := ⟨d, e, h1, h2, s1, s2, k⟩
theorem i_eq (h : scal x y = true) (k : Q (.bl (decide (x = y))) H) : rEq x y H Q := ⟨h, k⟩
theorem i_ne (h : scal x y = true) (k : Q (.bl (!decide (x = y))) H) : rNe x y H Q := ⟨h, k⟩
theorem i_ixL (h : SqL K H p xs) (e : atI xs a = some v) (k : Q v H) : rIxL K (.ref p) (.int a) H Q := ⟨p, xs, a, v, rfl, rfl, h, e, k⟩
theorem i_ixT (h : SqT K H p xs) (e : atI xs a = some v) (k : Q v H) : rIxT K (.ref p) (.int a) H Q := ⟨p, xs, a, v, rfl, rfl, h, e, k⟩
theorem i_isV {t c : String} {b : Bool} (h : Vk K H x t) (e : kitB t c = some b) (k : Q (.bl b) H) : rIsV K [x, .ty c] H Q := ⟨x, t, c, b, rfl, h, e, k⟩
theorem i_append (h : H l = some (.lst xs)) (z : xs.length < sizeLine) (k : Q .non (upd H l (.lst (xs ++ [v])))) : rAppend (.ref l) [v] H Q := ⟨l, xs, v, rfl, rfl, h, z, k⟩
theorem i_setL {Qh : Hp → Prop} (h : H p = some (.lst xs)) (e : ixN xs.length a = some j) (k : Qh (upd H p (.lst (xs.set j v)))) : rSetL (.ref p) (.int a) v H Qh := ⟨p, xs, a, j, rfl, rfl, h, e, k⟩
theorem i_int (k : Q (.int a) H) : rInt1 [.int a] H Q := .inl ⟨a, rfl, k⟩
theorem i_intB {c : Bool} (k : Q (.int (if c then 1 else 0)) H) : rInt1 [.bl c] H Q := .inr ⟨c, rfl, k⟩
theorem i_abs (k : Q (.int (if a < 0 then -a else a)) H) : rAbs [.int a] H Q := ⟨a, rfl, k⟩
theorem i_lenL (h : SqL K H p xs) (k : Q (.int xs.length) H) : rLenQ K [.ref p] H Q := ⟨p, xs, rfl, .inl h, k⟩
theorem i_lenT (h : SqT K H p xs) (k : Q (.int xs.length) H) : rLenQ K [.ref p] H Q := ⟨p, xs, rfl, .inr h, k⟩
theorem i_lenZ {z : Str} (h : z.length ≤ sizeLine) (k : Q (.int z.length) H) : rLenZ [.str z] H Q := ⟨z, rfl, h, k⟩
theorem i_min2 (k : Q (.int (if b < a then b else a)) H) : rMin2 [.int a, .int b] H Q := ⟨a, b, rfl, k⟩
theorem i_max2 (k : Q (.int (if b > a then b else a)) H) : rMax2 [.int a, .int b] H Q := ⟨a, b, rfl, k⟩
theorem i_listL (h : SqL K H p xs) (k : ∀ l H2, H l = none → Ext H H2 → H2 l = some (.lst xs) → Q (.ref l) H2) : rListOf K [.ref p] H Q := ⟨p, xs, rfl, .inl h, fun l n => k l _ n (Ext.new (Ext.refl _) n) upd_same⟩
theorem i_listT (h : SqT K H p xs) (k : ∀ l H2, H l = none → Ext H H2 → H2 l = some (.lst xs) → Q (.ref l) H2) : rListOf K [.ref p] H Q := ⟨p, xs, rfl, .inr h, fun l n => k l _ n (Ext.new (Ext.refl _) n) upd_same⟩
theorem i_tupL (h : SqL K H p xs) (k : ∀ l H2, H l = none → Ext H H2 → H2 l = some (.tup xs) → Q (.ref l) H2) : rTupOf K [.ref p] H Q := ⟨p, xs, rfl, .inl ⟨h, fun l n => k l _ n (Ext.new (Ext.refl _) n) upd_same⟩⟩
theorem i_tupT (h : SqT K H p xs) (k : Q (.ref p) H) : rTupOf K [.ref p] H Q := ⟨p, xs, rfl, .inr ⟨h, k⟩⟩
theorem i_size {P : Prop} {zs : List V} (h : zs.length ≤ 1000) (k : P) : zs.length ≤ sizeLine ∧ P := ⟨sz (Nat.le_trans h (by decide)), k⟩
theorem i_wipe {s t : L2.St} {P : Prop} (h : s = t) (k : P) : s = t ∧ P := ⟨h, k⟩
theorem i_yes (k : QB true H) : tYes σ H QB := k
theorem i_xf {a : Addr} {d : Option Addr} {cls : Value} (k : te σ H fun x H1 => x = .ref a ∧ cls = .ref C ∧ ∃ (dd : Addr) (fs : List (Str × V)) (v : V), d = some dd ∧ H1 dd = some (.xd fs) ∧ fs.lookup f = some v ∧ Q v H1) : tXf a cls d C f te σ H Q := k
theorem i_isXr {a C C2 d : Addr} {fs : List (Str × V)} {b : Bool} (h : H d = some (.xd fs)) (e : PySem.W.kitOne K (.ref C) (.ref C2) = some b) (k : Q (.bl b) H) : rIsX K a (.ref C) (some d) C [.ref a, .ref C2] H Q := ⟨.ref C2, .ref C2, b, rfl, .own C2, rfl, ⟨d, fs, rfl, h⟩, e, k⟩
theorem i_isXt {a C d : Addr} {fs : List (Str × V)} {b : Bool} {c : String} (h : H d = some (.xd fs)) (e : PySem.W.kitOne K (.ref C) (.type c) = some b) (k : Q (.bl b) H) : rIsX K a (.ref C) (some d) C [.ref a, .ty c] H Q := ⟨.ty c, .type c, b, rfl, .ty c, rfl, ⟨d, fs, rfl, h⟩, e, k⟩
theorem i_xfv {a d : Addr} {fs : List (Str × V)} {v : V} {Q : V → Prop} {C : Addr} (h : H d = some (.xd fs)) (e : fs.lookup f = some v) (k : Q v) : V.ref a = .ref a ∧ Value.ref C = .ref C ∧ ∃ (dd : Addr) (fs : List (Str × V)) (v : V), some d = some dd ∧ H dd = some (.xd fs) ∧ fs.lookup f = some v ∧ Q v := ⟨rfl, rfl, d, fs, v, rfl, h, e, k⟩
theorem tyL (h : H p = some (.lst xs)) : tyV K "list" (.ref p) H := .inl ⟨rfl, _, SqL.of h⟩
theorem i_tyL {P : Prop} (h : H p = some (.lst xs)) (k : P) : tyV K "list" (.ref p) H ∧ P := ⟨tyL h, k⟩
theorem i_raiseE {C : Addr} {fs : List Str} {W : WX} (k : tr σ H fun vs H1 => vs.length = fs.length ∧ ∀ d, H1 d = none → W (.ref C) (some d) σ (upd H1 d (.xd (WpE.fz fs vs)))) : WpE.tRaiseErr C fs W tr D σ H := k
end
theorem atI_nat {α : Type} {xs : List α} {n : Nat} {v : α} (h : xs[n]? = some v) : atI xs (n : Int) = some v := by
  have hl : n < xs.length := (List.getElem?_eq_some_iff.mp h).1
  unfold atI ixN
  rw [if_pos (by omega), if_pos (by omega)]
  simpa using h

theorem lk_hit {α : Type} {f : Str} {y : α} {fs : List (Str × α)} : ((f, y) :: fs).lookup f = some y := by simp [List.lookup]
theorem lk_miss {α : Type} {f g : Str} {y : α} {fs : List (Str × α)} {r : Option α} (h : (g == f) = false) (k : fs.lookup g = r) : ((f, y) :: fs).lookup g = r := by
  rw [List.lookup_cons, h]
  exact k
theorem lk_nil {α : Type} {g : Str} : ([] : List (Str × α)).lookup g = none := rfl
theorem at_hd {α : Type} {x : α} {xs : List α} : atI (x :: xs) 0 = some x := atI_nat (n := 0) rfl
theorem at_in {α : Type} {xs : List α} {i : Int} (h0 : 0 ≤ i) (h1 : i < xs.length) : ∃ v, atI xs i = some v ∧ xs[i.toNat]? = some v := by
  have hl : i.toNat < xs.length := by omega
  obtain ⟨v, e⟩ : ∃ v, xs[i.toNat]? = some v := ⟨_, List.getElem?_eq_getElem hl⟩
  refine ⟨v, ?_, e⟩
  have z := atI_nat e
  rwa [Int.toNat_of_nonneg h0] at z
theorem at_ints {ns : List Int} {i : Int} (h0 : 0 ≤ i) (h1 : i < ns.length) : ∃ z, atI (ns.map V.int) i = some (.int z) ∧ z ∈ ns := by
  obtain ⟨v, e, g⟩ := at_in (xs := ns.map V.int) h0 (by simpa using h1)
  rw [List.getElem?_map] at g
  cases q : ns[i.toNat]? with
  | none => rw [q] at g; cases g
  | some z =>
    rw [q] at g
    cases g
    exact ⟨z, e, List.mem_of_getElem? q⟩

/-! ### the state of a law's draws: a list of four ints, of which nothing more is said -/
def St4 (st : Addr) (h : Heap) : Prop := ∃ (a b c d : Int) (its : List Value) (n : Nat), Vals [.int a, .int b, .int c, .int d] its ∧ h.get? st = some ({ cls := .type "list", data := .seq its.toArray n } : Obj)
def StO (st : Addr) : HO := .ext (St4 st)
section
variable {P : Program} {w : World} {H : Hp} {h : Heap} {st : Addr}
theorem st_ok {a b c d : Int} (o : ObjOk P w H h st (.lst [.int a, .int b, .int c, .int d])) {H' : Hp} : ObjOk P w H' h st (StO st) := by
  obtain ⟨_, its, n, r, e⟩ := o
  exact ⟨⟨a, b, c, d, its, n, r, e⟩, ⟨_, e⟩, fun h1 h2 ⟨a, b, c, d, its, n, r, e⟩ k => ⟨a, b, c, d, its, n, r, k _ e⟩⟩
theorem st_at (hok : HOk P w H h) (e : H st = some (StO st)) : St4 st h := (hok st _ e).1
theorem upd_back {o : HO} (e : H st = some o) (u : HO) : upd (upd H st u) st o = H := by
  funext b
  by_cases hb : b = st
  · rw [hb, upd_same, e]
  · rw [upd_ne hb, upd_ne hb]
/-- one object told in another way -/
theorem hok_as {o u : HO} (hok : HOk P w H h) (e : H st = some o) (no : ∀ x, o ≠ .own x) (nt : ∀ xs, o ≠ .tup xs) (new : ObjOk P w (upd H st u) h st u) : HOk P w (upd H st u) h := fun b v q => by
  by_cases hb : b = st
  · subst hb
    rw [upd_same] at q
    cases q
    exact new
  · rw [upd_ne hb] at q
    refine (hok b v q).stay (fun _ _ _ z => z) (fun c z => ?_) (fun c xs z => ?_)
    · rw [upd_ne (ne_of z e fun y => no _ y.symm)]; exact z
    · rw [upd_ne (ne_of z e fun y => nt _ y.symm)]; exact z
theorem st_open (hok : HOk P w H h) (e : H st = some (StO st)) : ∃ a b c d, HOk P w (upd H st (.lst [.int a, .int b, .int c, .int d])) h := by
  obtain ⟨a, b, c, d, its, n, r, g⟩ := st_at hok e
  exact ⟨a, b, c, d, hok_as hok e (fun _ => nofun) (fun _ => nofun) ⟨by show 4 ≤ sizeLine; decide, its, n, r, g⟩⟩
end
/-- _law_draw upon its list of four ints -/
def spDrawL (K : PySem.W.Frag) : Sp := fun vs H Q _ => ∃ (a st : Addr) (ns : List Int) (n x0 x1 x2 x3 : Int), vs = [.ref a, .ref st, .int n] ∧ (∀ o, SqL K (upd H st o) a (ns.map V.int)) ∧ ns.length ≤ 63 ∧ H st = some (.lst [.int x0, .int x1, .int x2, .int x3]) ∧ 0 < n ∧ n < 1073741824 ∧
  ∀ r y0 y1 y2 y3 : Int, 0 ≤ r → r < n → Q (.int r) (upd H st (.lst [.int y0, .int y1, .int y2, .int y3]))
/-- _law_draw: some number from 0 to below the limit; nothing that is known changes -/
def spDraw (K : PySem.W.Frag) : Sp := fun vs H Q _ => ∃ (a st : Addr) (ns : List Int) (n : Int), vs = [.ref a, .ref st, .int n] ∧ SqL K H a (ns.map V.int) ∧ ns.length ≤ 63 ∧ H st = some (StO st) ∧ 0 < n ∧ n < 1073741824 ∧ ∀ r : Int, 0 ≤ r → r < n → Q (.int r) H
theorem i_draw {K : PySem.W.Frag} {H : Hp} {Q : VK} {E : XK} {a st : Addr} {ns : List Int} {n : Int} (hS : SqL K H a (ns.map V.int)) (hl : ns.length ≤ 63) (hst : H st = some (StO st)) (n0 : 0 < n) (n1 : n < 1073741824) (k : ∀ r : Int, 0 ≤ r → r < n → Q (.int r) H) : spDraw K [.ref a, .ref st, .int n] H Q E := ⟨a, st, ns, n, rfl, hS, hl, hst, n0, n1, k⟩
theorem cx_false {P : Program} {w : World} {outer : List Env} {H : Hp} {s : Shared} {u : Value} {s' : Shared} (h : L2.CX P w outer H s (fun _ _ _ => False) u s') : False := by
  obtain ⟨_, _, _, _, _, _, _, _, _, _, _, _, z⟩ := h
  exact z
theorem draw_abs {P : Program} {w : World} {K : PySem.W.Frag} {mg : Str → Option Value} {base : Heap} {k : Nat} {f : Addr} (F : FnR P w K mg base (L2.CX P w) k f (spDrawL K)) : FnR P w K mg base (L2.CX P w) k f (spDraw K) := by
  intro A outer s H us vs Q E hr e0 r h
  obtain ⟨a, st, ns, n, rfl, hS, hl, hst, n0, n1, hq⟩ := h
  obtain ⟨x0, x1, x2, x3, hok1⟩ := st_open e0.hok hst
  have nst : ∀ {b : Addr}, H b = none → b ≠ st := fun {b} z => (ne_of_none hst z).symm
  have up : ∀ {b : Addr} {o : HO}, H b = none → upd H st o b = none := fun {b o} z => by rw [upd_ne (nst z)]; exact z
  have e1 : Env0 P w K mg base A outer s (upd H st (.lst [.int x0, .int x1, .int x2, .int x3])) :=
    ⟨e0.frames, e0.mod, fun b o q => ⟨(e0.bs b o q).1, up (e0.bs b o q).2⟩, e0.bsz, e0.funs, fun b hb => up (e0.frf b hb), hok1, e0.bare⟩
  have hS1 : ∀ o, SqL K (upd (upd H st (.lst [.int x0, .int x1, .int x2, .int x3])) st o) a (ns.map V.int) := by
    intro o
    rw [upd_upd]
    rcases hS with (hS | ⟨o, hS⟩) | hS
    · exact .inl (.inl (up_ne (ne_of hS hst nofun) hS))
    · exact .inl (.inr ⟨o, up_ne (ne_of hS hst nofun) hS⟩)
    · exact .inr hS
  refine codeAny_mono (F A outer s _ us _ (fun v H' => ∃ r y0 y1 y2 y3 : Int, 0 ≤ r ∧ r < n ∧ v = .int r ∧ H' = upd H st (.lst [.int y0, .int y1, .int y2, .int y3])) (fun _ _ _ => False) hr e1 r
    ⟨a, st, ns, n, x0, x1, x2, x3, rfl, hS1, hl, upd_same, n0, n1, fun r y0 y1 y2 y3 h0 h1 => ⟨r, y0, y1, y2, y3, h0, h1, rfl, upd_upd⟩⟩) fun rr s' hq' => ?_
  cases rr with
  | error e => exact (cx_false hq').elim
  | ok fl =>
    cases fl with
    | ret u =>
      obtain ⟨v, H', os, bare, un, hok, rv, r, y0, y1, y2, y3, h0, h1, ev, eH⟩ := hq'
      subst ev eH
      have hok2 : HOk P w H s'.heap := by
        have z := hok_as (u := StO st) hok upd_same (fun _ => nofun) (fun _ => nofun) (st_ok (hok st _ upd_same))
        rw [upd_back hst] at z
        exact z
      refine ⟨.int r, H, os, bare, ⟨fun b o q n hb hx => un.keep b o q (up n) hb hx, fun b o q n hb hx => un.slot b o q (up n) hb hx, fun b o q n hx => n, un.there, fun _ _ z => z, fun _ _ _ z => z, fun b ps z => ⟨#[], by rw [z]; simp⟩⟩, hok2, rv, hq r h0 h1⟩
    | next => exact hq'.elim
    | brk => exact hq'.elim
    | cont => exact hq'.elim
/-- _law_start: a new list of four ints -/
def spStartL (K : PySem.W.Frag) : Sp := fun vs H Q _ => ∃ (a : Addr) (ns : List Int), vs = [.ref a] ∧ SqL K H a (ns.map V.int) ∧ ns.length ≤ 63 ∧ ∀ (st : Addr) (y0 y1 y2 y3 : Int), H st = none → Q (.ref st) (upd H st (.lst [.int y0, .int y1, .int y2, .int y3]))
def spStart (K : PySem.W.Frag) : Sp := fun vs H Q _ => ∃ (a : Addr) (ns : List Int), vs = [.ref a] ∧ SqL K H a (ns.map V.int) ∧ ns.length ≤ 63 ∧ ∀ st : Addr, H st = none → Q (.ref st) (upd H st (StO st))
theorem i_start {K : PySem.W.Frag} {H : Hp} {Q : VK} {E : XK} {a : Addr} {ns : List Int} (hS : SqL K H a (ns.map V.int)) (hl : ns.length ≤ 63) (k : ∀ (st : Addr) (H1 : Hp), H st = none → Ext H H1 → H1 st = some (StO st) → Q (.ref st) H1) : spStart K [.ref a] H Q E := ⟨a, ns, rfl, hS, hl, fun st n => k st _ n (Ext.new (Ext.refl _) n) upd_same⟩
theorem start_abs {P : Program} {w : World} {K : PySem.W.Frag} {mg : Str → Option Value} {base : Heap} {k : Nat} {f : Addr} (F : FnR P w K mg base (L2.CX P w) k f (spStartL K)) : FnR P w K mg base (L2.CX P w) k f (spStart K) := by
  intro A outer s H us vs Q E hr e0 r h
  obtain ⟨a, ns, rfl, hS, hl, hq⟩ := h
  refine codeAny_mono (F A outer s _ us _ (fun v H' => ∃ (st : Addr) (y0 y1 y2 y3 : Int), H st = none ∧ v = .ref st ∧ H' = upd H st (.lst [.int y0, .int y1, .int y2, .int y3])) (fun _ _ _ => False) hr e0 r
    ⟨a, ns, rfl, hS, hl, fun st y0 y1 y2 y3 hn => ⟨st, y0, y1, y2, y3, hn, rfl, rfl⟩⟩) fun rr s' hq' => ?_
  cases rr with
  | error e => exact (cx_false hq').elim
  | ok fl =>
    cases fl with
    | ret u =>
      obtain ⟨v, H', os, bare, un, hok, rv, st, y0, y1, y2, y3, hn, ev, eH⟩ := hq'
      subst ev eH
      have z := hok_as (u := StO st) hok upd_same (fun _ => nofun) (fun _ => nofun) (st_ok (hok st _ upd_same))
      rw [upd_upd] at z
      refine ⟨.ref st, upd H st (StO st), os, bare, ⟨un.keep, un.slot, fun b o q n hx => ?_, un.there, fun b xs q => up_new hn q, fun b o u q => up_new hn q, fun b ps q => ⟨#[], by rw [up_new hn q]; simp⟩⟩, z, rv, hq st hn⟩
      have y := un.free b o q n hx
      by_cases hb : b = st
      · rw [hb, upd_same] at y; cases y
      · rw [upd_ne hb] at y ⊢; exact y
    | next => exact hq'.elim
    | brk => exact hq'.elim
    | cont => exact hq'.elim
end Wp
/-! Loops and comprehensions over data. -/
namespace Wp
open PySem L2

/-! ### data -/
section
variable {K : PySem.W.Frag} {H H' : Hp}
theorem DpAll.len : ∀ {xs : List V} {ds : List PyData}, DpAll K H xs ds → xs.length = ds.length
  | _, _, .nil => rfl
  | _, _, .cons _ r => congrArg (· + 1) (DpAll.len r)
theorem DpAll.at : ∀ {xs : List V} {ds : List PyData} {i : Nat} {x : V}, DpAll K H xs ds → xs[i]? = some x → ∃ d, ds[i]? = some d ∧ Dp K H x d
  | _, _, _, _, .nil, h => by simp at h
  | _, _, 0, _, .cons a _, h => by
    simp at h
    subst h
    exact ⟨_, rfl, a⟩
  | _, _, i + 1, _, .cons _ r, h => by
    obtain ⟨d, e, p⟩ := DpAll.at r (i := i) (by simpa using h)
    exact ⟨d, by simpa using e, p⟩
theorem DpAll.to : ∀ {xs : List V} {ds : List PyData} {i : Nat} {d : PyData}, DpAll K H xs ds → ds[i]? = some d → ∃ x, xs[i]? = some x ∧ Dp K H x d
  | _, _, _, _, .nil, h => by simp at h
  | _, _, 0, _, .cons a _, h => by
    simp at h
    subst h
    exact ⟨_, rfl, a⟩
  | _, _, i + 1, _, .cons _ r, h => by
    obtain ⟨d, e, p⟩ := DpAll.to r (i := i) (by simpa using h)
    exact ⟨d, by simpa using e, p⟩
theorem DpAll.app : ∀ {xs : List V} {ds : List PyData} {ys : List V} {es : List PyData}, DpAll K H xs ds → DpAll K H ys es → DpAll K H (xs ++ ys) (ds ++ es)
  | _, _, _, _, .nil, h => h
  | _, _, _, _, .cons a r, h => .cons a (DpAll.app r h)
theorem DpAll.drop : ∀ {xs : List V} {ds : List PyData} (n : Nat), DpAll K H xs ds → DpAll K H (xs.drop n) (ds.drop n)
  | _, _, 0, h => h
  | _, _, _ + 1, .nil => .nil
  | _, _, n + 1, .cons _ r => DpAll.drop n r
theorem DpAll.take : ∀ {xs : List V} {ds : List PyData} (n : Nat), DpAll K H xs ds → DpAll K H (xs.take n) (ds.take n)
  | _, _, 0, _ => by simp; exact .nil
  | _, _, _ + 1, .nil => .nil
  | _, _, n + 1, .cons a r => .cons a (DpAll.take n r)
/-- ints -/
def dI (ns : List Int) : List PyData := ns.map PyData.int
theorem dp_int {v : V} {i : Int} (h : Dp K H v (.int i)) : v = .int i := by cases h; rfl
theorem dp_bl {v : V} {b : Bool} (h : Dp K H v (.bool b)) : v = .bl b := by cases h; rfl
theorem dp_str {v : V} {x : Str} (h : Dp K H v (.str x)) : v = .str x := by cases h; rfl
theorem dp_non {v : V} (h : Dp K H v .none) : v = .non := by cases h; rfl
theorem dp_tup {v : V} {ds : List PyData} (h : Dp K H v (.tuple ds)) : ∃ a xs, v = .ref a ∧ SqT K H a xs ∧ DpAll K H xs ds := by cases h with | tup a b => exact ⟨_, _, rfl, a, b⟩
theorem dp_lst {v : V} {ds : List PyData} (h : Dp K H v (.list ds)) : ∃ a xs, v = .ref a ∧ SqL K H a xs ∧ DpAll K H xs ds := by cases h with | lst a b => exact ⟨_, _, rfl, a, b⟩
theorem dpi : ∀ {xs : List V} {ns : List Int}, DpAll K H xs (dI ns) → xs = ns.map V.int
  | _, [], .nil => rfl
  | _, n :: ns, .cons a r => by rw [dp_int a, dpi r]; rfl
theorem dpi_of : ∀ {ns : List Int}, DpAll K H (ns.map V.int) (dI ns)
  | [] => .nil
  | _ :: _ => .cons (.int _) dpi_of
theorem dpT {a : Addr} {xs : List V} {ds : List PyData} (h : H a = some (.tup xs)) (k : DpAll K H xs ds) : Dp K H (.ref a) (.tuple ds) := .tup (SqT.of h) k
theorem dpL {a : Addr} {xs : List V} {ds : List PyData} (h : H a = some (.lst xs)) (k : DpAll K H xs ds) : Dp K H (.ref a) (.list ds) := .lst (SqL.of h) k
theorem ext_dpN {v : V} {d : PyData} {p : Addr} {o : HO} (h : H p = none) (k : Dp K H v d) : Dp K (upd H p o) v d := ext_dp (Ext.new (Ext.refl _) h) k
/-- a tuple of ints, a list of ints -/
def tI (ns : List Int) : PyData := .tuple (dI ns)
def lI (ns : List Int) : PyData := .list (dI ns)
theorem dp_tI {v : V} {ns : List Int} (h : Dp K H v (tI ns)) : ∃ a, v = .ref a ∧ SqT K H a (ns.map V.int) := by
  obtain ⟨a, xs, e, h1, h2⟩ := dp_tup h
  rw [dpi h2] at h1
  exact ⟨a, e, h1⟩
theorem dp_lI {v : V} {ns : List Int} (h : Dp K H v (lI ns)) : ∃ a, v = .ref a ∧ SqL K H a (ns.map V.int) := by
  obtain ⟨a, xs, e, h1, h2⟩ := dp_lst h
  rw [dpi h2] at h1
  exact ⟨a, e, h1⟩
theorem tI_of {a : Addr} {ns : List Int} (h : SqT K H a (ns.map V.int)) : Dp K H (.ref a) (tI ns) := .tup h dpi_of
theorem lI_of {a : Addr} {ns : List Int} (h : SqL K H a (ns.map V.int)) : Dp K H (.ref a) (lI ns) := .lst h dpi_of
end

/-! ### plain values -/
mutual
def noL : PyData → Bool
  | .list _ => false
  | .tuple ds => noLs ds
  | .dict _ => false
  | _ => true
def noLs : List PyData → Bool
  | [] => true
  | d :: ds => noL d && noLs ds
end

theorem ixN_of {n : Nat} {a : Int} (h0 : 0 ≤ a) (h1 : a < n) : ixN n a = some a.toNat := by
  unfold ixN
  rw [if_pos h0, if_pos h1]
theorem at_all {xs : List V} {i : Int} {P : V → Prop} (h : ∀ x ∈ xs, P x) (h0 : 0 ≤ i) (h1 : i < xs.length) : ∃ v, atI xs i = some v ∧ P v := by
  obtain ⟨v, e, g⟩ := at_in h0 h1
  exact ⟨v, e, h v (List.mem_of_getElem? g)⟩
/-- None, a truth, an int, a text: its data -/
def scD : V → PyData
  | .bl b => .bool b
  | .int i => .int i
  | .str z => .str z
  | _ => .none
def isS : V → Bool
  | .bl _ => true
  | .int _ => true
  | .str _ => true
  | .non => true
  | _ => false
theorem sc_dp {K : PySem.W.Frag} {H : Hp} {v : V} (h : isS v = true) : Dp K H v (scD v) := by
  cases v <;> first | constructor | cases h
theorem sc_dps {K : PySem.W.Frag} {H : Hp} : ∀ {vs : List V}, vs.all isS = true → DpAll K H vs (vs.map scD)
  | [], _ => .nil
  | v :: vs, h => by
    simp only [List.all_cons, Bool.and_eq_true] at h
    exact .cons (sc_dp h.1) (sc_dps h.2)
theorem sc_noL {v : V} : noL (scD v) = true := by cases v <;> simp [scD, noL]
/-! ### equality -/
def Sh (n : Nat) (d : PyData) : Prop := d.canLay0 = true ∧ d.depth ≤ n
def ShA (n : Nat) (ds : List PyData) : Prop := PyData.canLayAll0 ds = true ∧ PyData.depthAll ds ≤ n
theorem sh_int {n : Nat} {i : Int} : Sh n (.int i) := ⟨by simp [PyData.canLay0], by simp [PyData.depth]⟩
theorem sh_bl {n : Nat} {i : Bool} : Sh n (.bool i) := ⟨by simp [PyData.canLay0], by simp [PyData.depth]⟩
theorem sh_non {n : Nat} : Sh n .none := ⟨by simp [PyData.canLay0], by simp [PyData.depth]⟩
theorem sh_str {n : Nat} {x : Str} (h : PyData.strOk x = true) : Sh n (.str x) := ⟨by simp [PyData.canLay0, h], by simp [PyData.depth]⟩
theorem sh_tup {n : Nat} {ds : List PyData} (h : ShA n ds) : Sh (n + 1) (.tuple ds) := ⟨by simp [PyData.canLay0, h.1], by simp [PyData.depth, h.2]⟩
theorem sh_lst {n : Nat} {ds : List PyData} (h : ShA n ds) : Sh (n + 1) (.list ds) := ⟨by simp [PyData.canLay0, h.1], by simp [PyData.depth, h.2]⟩
theorem sha_nil {n : Nat} : ShA n [] := ⟨by simp [PyData.canLayAll0], by simp [PyData.depthAll]⟩
theorem sha_cons {n : Nat} {d : PyData} {ds : List PyData} (h : Sh n d) (k : ShA n ds) : ShA n (d :: ds) := ⟨by simp [PyData.canLayAll0, h.1, k.1], by simp only [PyData.depthAll]; exact Nat.max_le.mpr ⟨h.2, k.2⟩⟩
theorem sha_of {n : Nat} : ∀ {ds : List PyData}, (∀ d ∈ ds, Sh n d) → ShA n ds
  | [], _ => sha_nil
  | _ :: _, h => sha_cons (h _ List.mem_cons_self) (sha_of fun d z => h d (List.mem_cons_of_mem _ z))
theorem sha_dI {n : Nat} (ns : List Int) : ShA n (dI ns) := sha_of fun d z => by
  obtain ⟨i, _, rfl⟩ := List.mem_map.mp z
  exact sh_int
theorem Sh.mono {n m : Nat} {d : PyData} (h : Sh n d) (k : n ≤ m) : Sh m d := ⟨h.1, Nat.le_trans h.2 k⟩
theorem ShA.mono {n m : Nat} {d : List PyData} (h : ShA n d) (k : n ≤ m) : ShA m d := ⟨h.1, Nat.le_trans h.2 k⟩
theorem shd {d : PyData} (h : Sh 64 d) : SeqAt.shaped d = true := by unfold SeqAt.shaped; simp [h.1, h.2]
section
variable {K : PySem.W.Frag} {H : Hp} {x y : V} {d : PyData} {Q : VK}
theorem eqv_self (h : SeqAt.shaped d = true) : PyData.eqv d d = true := SeqAt.eqv_refl d (SeqAt.canLay_of_shaped h)
theorem i_eqSelf (h1 : Dp K H x d) (h2 : Dp K H y d) (h : SeqAt.shaped d = true) (k : Q (.bl true) H) : rEqD K x y H Q := ⟨d, d, h1, h2, h, h, by rw [eqv_self h]; exact k⟩
theorem i_neSelf (h1 : Dp K H x d) (h2 : Dp K H y d) (h : SeqAt.shaped d = true) (k : Q (.bl false) H) : rNeD K x y H Q := ⟨d, d, h1, h2, h, h, by rw [eqv_self h]; exact k⟩
theorem i_BB {a b : Bool} {P : Bool → Bool → Prop} (k : P a b) : ∃ x y, V.bl a = .bl x ∧ V.bl b = .bl y ∧ P x y := ⟨a, b, rfl, rfl, k⟩
theorem ints_at : ∀ {xs : List V} {i : Nat} {x : V}, xs.all isI = true → xs[i]? = some x → ∃ n, x = .int n := by
  intro xs i x h e
  exact isI_int (List.all_eq_true.mp h x (List.mem_of_getElem? e))
end

/-! ### data without lists stays where a list changes -/
section
variable {K : PySem.W.Frag} {H : Hp} {D : Addr} {ys zs : List V}
theorem off_st {a : Addr} {xs : List V} (hD : H D = some (.lst ys)) (h : SqT K H a xs) : SqT K (upd H D (.lst zs)) a xs := by
  rcases h with (h | ⟨o, h⟩) | h
  · exact .inl (.inl (up_ne (ne_of h hD nofun) h))
  · exact .inl (.inr ⟨o, up_ne (ne_of h hD nofun) h⟩)
  · exact .inr h
mutual
theorem off_dp (hD : H D = some (.lst ys)) : ∀ {v : V} {d : PyData}, noL d = true → Dp K H v d → Dp K (upd H D (.lst zs)) v d
  | _, _, _, .non => .non
  | _, _, _, .bl b => .bl b
  | _, _, _, .int i => .int i
  | _, _, _, .str x => .str x
  | _, _, n, .lst h a => by unfold noL at n; cases n
  | _, _, n, .tup h a => .tup (off_st hD h) (off_dps hD (by unfold noL at n; exact n) a)
theorem off_dps (hD : H D = some (.lst ys)) : ∀ {v : List V} {d : List PyData}, noLs d = true → DpAll K H v d → DpAll K (upd H D (.lst zs)) v d
  | _, _, _, .nil => .nil
  | _, _, n, .cons a r => .cons (off_dp hD (by unfold noLs at n; exact (Bool.and_eq_true _ _ ▸ n).1) a) (off_dps hD (by unfold noLs at n; exact (Bool.and_eq_true _ _ ▸ n).2) r)
end
end
theorem noLs_app : ∀ {ds es : List PyData}, noLs ds = true → noLs es = true → noLs (ds ++ es) = true
  | [], _, _, h => h
  | d :: ds, es, h, k => by
    simp only [noLs, List.cons_append, Bool.and_eq_true] at h ⊢
    exact ⟨h.1, noLs_app h.2 k⟩
theorem noLs_of : ∀ {ds : List PyData}, (∀ d ∈ ds, noL d = true) → noLs ds = true
  | [], _ => rfl
  | d :: ds, h => by
    simp only [noLs, Bool.and_eq_true]
    exact ⟨h d List.mem_cons_self, noLs_of fun e z => h e (List.mem_cons_of_mem _ z)⟩
theorem noLs_dI (ns : List Int) : noLs (dI ns) = true := noLs_of fun d z => by
  obtain ⟨i, _, rfl⟩ := List.mem_map.mp z
  rfl

/-! ### folds -/
theorem fold_take {α β : Type} {f : β → α → β} {s : β} {ds : List α} {i : Nat} {d : α} (h : ds[i]? = some d) : (ds.take (i + 1)).foldl f s = f ((ds.take i).foldl f s) d := by
  rw [List.take_add_one, h]
  simp
theorem fold_all {α β : Type} {f : β → α → β} {s : β} {ds : List α} {n : Nat} (h : n = ds.length) : (ds.take n).foldl f s = ds.foldl f s := by rw [h, List.take_length]

/-! ### for -/
def AtL (K : PySem.W.Frag) (x : V) (H1 : Hp) (R : It → Hp → Prop) : Prop := ∃ a, x = .ref a ∧ (∃ xs, SqL K H1 a xs) ∧ R (Itl K a) H1
def AtT (K : PySem.W.Frag) (x : V) (H1 : Hp) (R : It → Hp → Prop) : Prop := ∃ a, x = .ref a ∧ (∃ xs, SqT K H1 a xs) ∧ R (Itt K a) H1
def AtR1 (vs : List V) (H1 : Hp) (R : It → Hp → Prop) : Prop := ∃ j : Int, vs = [.int j] ∧ -(2 ^ 62) ≤ j ∧ j < 2 ^ 62 ∧ R (Itr 0 j.toNat) H1
def AtR2 (vs : List V) (H1 : Hp) (R : It → Hp → Prop) : Prop := ∃ i j : Int, vs = [.int i, .int j] ∧ (-(2 ^ 62) ≤ i ∧ i < 2 ^ 62 ∧ -(2 ^ 62) ≤ j ∧ j < 2 ^ 62) ∧ R (Itr i (j - i).toNat) H1
def AtE (K : PySem.W.Frag) (vs : List V) (H1 : Hp) (R : It → Hp → Prop) : Prop := ∃ a xs, vs = [.ref a] ∧ SqL K H1 a xs ∧ R (Ite K a) H1
def AtS (v : V) (H1 : Hp) (R : It → Hp → Prop) : Prop := ∃ x, v = .str x ∧ R (Its x) H1
/-- the turn's end is a letter of which the word is enough -/
def Np (N P : L2.St → Hp → Prop) : Prop := ∀ σ H, P σ H → N σ H
theorem go_np {N P : L2.St → Hp → Prop} {σ : L2.St} {H : Hp} (h : Np N P) (k : P σ H) : N σ H := h σ H k
def LoopR (J : It) (g : TG) (tb : TS) (D : Ends) (σ : L2.St) (H : Hp) : Prop := ∃ W : Nat → Nat → L2.St → Hp → Prop, (∃ m, W 0 m σ H) ∧ ∀ i m σ H, W i m σ H →
  (J.stop i H ∧ D.nx σ H) ∨ (J.go i H ∧ ∃ N : L2.St → Hp → Prop, (∀ σ' H', N σ' H' → ∃ m', m' < m ∧ W (i + 1) m' σ' H') ∧ ∀ x H', J.yld i H x H' → g x σ H' fun σ2 H2 => tb { D with nx := N, ct := N, bk := D.nx } σ2 H2)
section
variable {K : PySem.W.Frag} {σ : L2.St} {H : Hp} {Q : VK} {D : Ends} {g : TG} {tb : TS} {wi : TI} {tl : TE} {ta : TA} {R : It → Hp → Prop} {a b : Addr} {xs ys : List V} {n m : Int}
theorem i_for (k : wi σ H fun J H1 => LoopR J g tb D σ H1) : tFor wi g tb D σ H := k
theorem i_iList (k : tl σ H fun x H1 => AtL K x H1 R) : iList K tl σ H R := k
theorem i_iTup (k : tl σ H fun x H1 => AtT K x H1 R) : iTup K tl σ H R := k
theorem i_iRng1 (k : ta σ H fun vs H1 => AtR1 vs H1 R) : iRng1 ta σ H R := k
theorem i_iRng2 (k : ta σ H fun vs H1 => AtR2 vs H1 R) : iRng2 ta σ H R := k
theorem i_iEnum (k : ta σ H fun vs H1 => AtE K vs H1 R) : iEnum K ta σ H R := k
theorem i_iStr (k : tl σ H fun v H1 => AtS v H1 R) : iStr tl σ H R := k
theorem at_list (h : SqL K H a xs) (k : R (Itl K a) H) : AtL K (.ref a) H R := ⟨a, rfl, ⟨xs, h⟩, k⟩
theorem at_tup (h : SqT K H a xs) (k : R (Itt K a) H) : AtT K (.ref a) H R := ⟨a, rfl, ⟨xs, h⟩, k⟩
theorem at_rng1 (h1 : -(2 ^ 62) ≤ n) (h2 : n < 2 ^ 62) (k : R (Itr 0 n.toNat) H) : AtR1 [.int n] H R := ⟨n, rfl, h1, h2, k⟩
theorem at_rng2 (h : -(2 ^ 62) ≤ n ∧ n < 2 ^ 62 ∧ -(2 ^ 62) ≤ m ∧ m < 2 ^ 62) (k : R (Itr n (m - n).toNat) H) : AtR2 [.int n, .int m] H R := ⟨n, m, rfl, h, k⟩
theorem at_enum (h : SqL K H a xs) (k : R (Ite K a) H) : AtE K [.ref a] H R := ⟨a, xs, rfl, h, k⟩
theorem at_str {z : Str} (k : R (Its z) H) : AtS (.str z) H R := ⟨z, rfl, k⟩
/-- the loop by a word -/
theorem loop_it {J : It} {n : Nat} {G : Hp → Prop} {Y : Nat → Hp → V → Hp → Prop} (w : Walk J n G Y) (Pv : Nat → L2.St → Hp → Prop) (h0 : Pv 0 σ H) (hG : ∀ i σ H, i ≤ n → Pv i σ H → G H)
    (hs : ∀ i x σ H H', i < n → Pv i σ H → Y i H x H' → g x σ H' fun σ2 H2 => tb { D with nx := Pv (i + 1), ct := Pv (i + 1), bk := D.nx } σ2 H2) (hd : ∀ σ H, Pv n σ H → D.nx σ H) : LoopR J g tb D σ H := for_it w Pv h0 hG hs hd
theorem loop_L (Pv : Nat → L2.St → Hp → Prop) (h0 : Pv 0 σ H) (hG : ∀ i σ H, i ≤ xs.length → Pv i σ H → SqL K H a xs)
    (hs : ∀ i x σ H N, xs[i]? = some x → Pv i σ H → Np N (Pv (i + 1)) → g x σ H fun σ2 H2 => tb { D with nx := N, ct := N, bk := D.nx } σ2 H2) (hd : ∀ σ H, Pv xs.length σ H → D.nx σ H) : LoopR (Itl K a) g tb D σ H :=
  for_it walk_list Pv h0 hG (fun i x σ H H' _ p y => by obtain ⟨rfl, e⟩ := y; exact hs i x σ _ _ e p (fun _ _ h => h)) hd
theorem loop_T (Pv : Nat → L2.St → Hp → Prop) (h0 : Pv 0 σ H) (hG : ∀ i σ H, i ≤ xs.length → Pv i σ H → SqT K H a xs)
    (hs : ∀ i x σ H N, xs[i]? = some x → Pv i σ H → Np N (Pv (i + 1)) → g x σ H fun σ2 H2 => tb { D with nx := N, ct := N, bk := D.nx } σ2 H2) (hd : ∀ σ H, Pv xs.length σ H → D.nx σ H) : LoopR (Itt K a) g tb D σ H :=
  for_it walk_tup Pv h0 hG (fun i x σ H H' _ p y => by obtain ⟨rfl, e⟩ := y; exact hs i x σ _ _ e p (fun _ _ h => h)) hd
theorem loop_R {lo : Int} {n : Nat} (Pv : Nat → L2.St → Hp → Prop) (h0 : Pv 0 σ H)
    (hs : ∀ i σ H N, i < n → Pv i σ H → Np N (Pv (i + 1)) → g (.int (lo + i)) σ H fun σ2 H2 => tb { D with nx := N, ct := N, bk := D.nx } σ2 H2) (hd : ∀ σ H, Pv n σ H → D.nx σ H) : LoopR (Itr lo n) g tb D σ H :=
  for_it walk_range Pv h0 (fun _ _ _ _ _ => trivial) (fun i x σ H H' hi p y => by obtain ⟨rfl, rfl⟩ := y; exact hs i σ _ _ hi p (fun _ _ h => h)) hd
theorem loop_S {z : Str} (Pv : Nat → L2.St → Hp → Prop) (h0 : Pv 0 σ H)
    (hs : ∀ i c σ H N, z.cps[i]? = some c → Pv i σ H → Np N (Pv (i + 1)) → g (.str ⟨#[c]⟩) σ H fun σ2 H2 => tb { D with nx := N, ct := N, bk := D.nx } σ2 H2) (hd : ∀ σ H, Pv z.cps.size σ H → D.nx σ H) : LoopR (Its z) g tb D σ H :=
  for_it walk_str Pv h0 (fun _ _ _ _ _ => trivial) (fun i x σ H H' hi p y => by obtain ⟨rfl, c, e, rfl⟩ := y; exact hs i c σ _ _ e p (fun _ _ h => h)) hd
end

/-! ### comprehensions -/
def LcR (J : It) (g : TG) (tt : TT) (te : TE) (vs : List Nat) (σ : L2.St) (H1 : Hp) (D : Addr) (Q : VK) : Prop := ∃ W : Nat → Nat → Hp → Prop, (∃ m, W 0 m (upd H1 D (.lst []))) ∧ ∀ i m H, W i m H →
  (J.stop i H ∧ Q (.ref D) H) ∨ (J.go i H ∧ ∃ Nx : Hp → Prop, (∀ H', Nx H' → ∃ m', m' < m ∧ W (i + 1) m' H') ∧ ∀ x H', J.yld i H x H' → g x (wipe σ vs) H' fun σ2 H2 => wipe σ2 vs = wipe σ vs ∧ tt σ2 H2 fun b H3 =>
    if b = true then te σ2 H3 fun y H4 => ∃ acc, H4 D = some (.lst acc) ∧ acc.length < sizeLine ∧ Nx (upd H4 D (.lst (acc ++ [y]))) else Nx H3)
section
variable {K : PySem.W.Frag} {σ : L2.St} {H H1 : Hp} {Q : VK} {g : TG} {tt : TT} {te : TE} {wi : TI} {vs : List Nat} {a : Addr} {xs : List V} {ds : List PyData}
theorem i_lc (k : wi σ H fun J H1 => ∀ D, H1 D = none → LcR J g tt te vs σ H1 D Q) : tLc wi g tt te vs σ H Q := k
/-- a comprehension whose turns give data; Pv: what is known of the data so far -/
theorem lc_dat {J : It} {n : Nat} {G : Hp → Prop} {Y : Nat → Hp → V → Hp → Prop} (w : Walk J n G Y) (hn : n ≤ 100000) (hG : ∀ H', Ext H1 H' → G H') (Pv : Nat → List PyData → Prop) (h0 : Pv 0 [])
    (hs : ∀ i x Hc Hx ds, i < n → Ext H1 Hc → Y i Hc x Hx → Pv i ds → ∀ (Y1 : VK) (N1 : Hp → Prop), (∀ y H4 d, Pv (i + 1) (ds ++ [d]) → noL d = true → Ext Hc H4 → Dp K H4 y d → Y1 y H4) → (∀ H4, Pv (i + 1) ds → Ext Hc H4 → N1 H4) →
      g x (wipe σ vs) Hx fun σ2 H2 => wipe σ2 vs = wipe σ vs ∧ tt σ2 H2 fun b H3 => if b = true then te σ2 H3 Y1 else N1 H3)
    (hd : ∀ D Hf ys ds, H1 D = none → Ext H1 Hf → Hf D = some (.lst ys) → DpAll K Hf ys ds → Pv n ds → Q (.ref D) Hf) : ∀ D, H1 D = none → LcR J g tt te vs σ H1 D Q := by
  intro D hD
  refine lc_it w (Qd := Q (.ref D)) (fun i Hc => Ext H1 Hc ∧ ∃ ys ds, Hc D = some (.lst ys) ∧ DpAll K Hc ys ds ∧ noLs ds = true ∧ ds.length ≤ i ∧ Pv i ds) ⟨Ext.new (Ext.refl _) hD, [], [], upd_same, .nil, rfl, Nat.le_refl _, h0⟩ (fun i Hc _ h => hG Hc h.1) ?_ ?_
  · rintro i x Hc Hx hi ⟨e, ys, ds, hy, al, nl, ll, p⟩ y
    refine hs i x Hc Hx ds hi e y p _ _ (fun y H4 d pd ld e4 hd' => ?_) (fun H4 pd e4 => ?_)
    · have e5 : Ext H1 H4 := e.trans e4
      have l1 := DpAll.len al
      refine ⟨ys, e4 _ _ hy, szl (by omega), e5.mut hD, ys ++ [y], ds ++ [d], upd_same, ?_, noLs_app nl (by simp [noLs, ld]), by simp; omega, pd⟩
      exact DpAll.app (off_dps (e4 _ _ hy) nl (ext_dps e4 al)) (.cons (off_dp (e4 _ _ hy) ld hd') .nil)
    · exact ⟨e.trans e4, ys, ds, e4 _ _ hy, ext_dps e4 al, nl, by omega, pd⟩
  · rintro Hc ⟨e, ys, ds, hy, al, nl, ll, p⟩
    exact hd D Hc ys ds hD e hy al p
/-- .. each turn's data told by its number -/
theorem lc_pure {J : It} {n : Nat} {G : Hp → Prop} {Y : Nat → Hp → V → Hp → Prop} (w : Walk J n G Y) (hn : n ≤ 100000) (hG : ∀ H', Ext H1 H' → G H') (f : Nat → Option PyData) (hf : ∀ i d, i < n → f i = some d → noL d = true)
    (hs : ∀ i x Hc Hx, i < n → Ext H1 Hc → Y i Hc x Hx → ∀ (Y1 : VK) (N1 : Hp → Prop), (∀ y H4 d, f i = some d → Ext Hc H4 → Dp K H4 y d → Y1 y H4) → (∀ H4, f i = none → Ext Hc H4 → N1 H4) →
      g x (wipe σ vs) Hx fun σ2 H2 => wipe σ2 vs = wipe σ vs ∧ tt σ2 H2 fun b H3 => if b = true then te σ2 H3 Y1 else N1 H3)
    (hd : ∀ D Hf ys, H1 D = none → Ext H1 Hf → Hf D = some (.lst ys) → DpAll K Hf ys ((List.range n).filterMap f) → Q (.ref D) Hf) : ∀ D, H1 D = none → LcR J g tt te vs σ H1 D Q := by
  have step : ∀ i, (List.range (i + 1)).filterMap f = (List.range i).filterMap f ++ (match f i with | some d => [d] | none => []) := fun i => by
    rw [List.range_succ, List.filterMap_append]
    congr 1
    cases q : f i <;> simp [List.filterMap_cons, q]
  refine lc_dat w hn hG (fun i ds => ds = (List.range i).filterMap f) (by simp) (fun i x Hc Hx ds hi e y p Y1 N1 k1 k2 => ?_) (fun D Hf ys ds hD e hy al p => hd D Hf ys hD e hy (p ▸ al))
  exact hs i x Hc Hx hi e y Y1 N1 (fun y H4 d fd e4 hd' => k1 y H4 d (by rw [step, fd, p]) (hf i d hi fd) e4 hd') (fun H4 fd e4 => k2 H4 (by rw [step, fd, p]; simp) e4)
end

/-! ### more built-in functions -/
def rSumT (K : PySem.W.Frag) : List V → Hp → VK → Prop := fun vs H Q => ∃ (a : Addr) (ns : List Int), vs = [V.ref a] ∧ SqT K H a (ns.map V.int) ∧ Q (.int ns.sum) H
open PySem.Spec PyProof.Rows PyProof.V in
theorem cr_sumT {X : Cx} (hc : X.calm = true) : CallR X (.builtin "sum") (rSumT X.K) := by
  intro pins s σ H vs us Q I r h
  obtain ⟨a, ns, rfl, hs, q⟩ := h
  obtain ⟨its, rv, hl, _⟩ := I.tuple hs
  rw [Vals.ref1 r]
  have hi := rv.ints
  obtain ⟨xs, e⟩ := hi.allInts.items
  have hn : numsOf (intItems xs).toList = ns := by rw [← e]; exact hi.numsOf
  rw [nums_intItems] at hn
  rw [e] at hl
  refine PySem.W.ktm_sumG (I.ok.hd hc) hl fun h' tk t' hk => ?_
  rw [preSum_eq, List.take_of_length_le (by simp), hn]
  exact ⟨.int _, H, I.kept hk, ⟨_, rfl⟩, q⟩
/-! ### lists and tuples made of others -/
section
variable {K : PySem.W.Frag} {H : Hp} {Q : VK} {a b l p : Addr} {xs ys : List V} {n : Int} {lo hi : Option Int}
theorem cut_all {xs : List V} (h : HT.sIx xs.length 0 lo = 0 ∧ HT.sIx xs.length xs.length hi = xs.length) : cutV xs lo hi = xs := by
  unfold cutV
  rw [h.1, h.2]
  simp
theorem i_slA (h : SqT K H a xs) (k : ∀ p H2, Ext H H2 → SqT K H2 p (cutV xs lo hi) → Q (.ref p) H2) : rSlA K (.ref a) lo hi H Q :=
  ⟨a, xs, rfl, h, fun e => k a H (Ext.refl _) (by rw [cut_all e]; exact h), fun _ p np => k p _ (Ext.new (Ext.refl _) np) (SqT.of upd_same)⟩
theorem i_slL (h : SqL K H a xs) (k : ∀ p H2, H p = none → Ext H H2 → H2 p = some (.lst (cutV xs lo hi)) → Q (.ref p) H2) : rSlL K (.ref a) lo hi H Q :=
  ⟨a, xs, rfl, h, fun p np => k p _ np (Ext.new (Ext.refl _) np) upd_same⟩
theorem i_catA (h1 : SqT K H a xs) (h2 : SqT K H b ys) (hz : xs.length + ys.length ≤ 100000) (k : ∀ p H2, Ext H H2 → SqT K H2 p (xs ++ ys) → Q (.ref p) H2) : rCatA K (.ref a) (.ref b) H Q :=
  ⟨a, b, xs, ys, rfl, rfl, h1, h2, sz hz, fun e => k b H (Ext.refl _) (by rw [e]; exact h2), fun _ e => k a H (Ext.refl _) (by rw [e, List.append_nil]; exact h1), fun _ _ p np => k p _ (Ext.new (Ext.refl _) np) (SqT.of upd_same)⟩
theorem i_cat (h1 : H a = some (.lst xs)) (h2 : H b = some (.lst ys)) (hz : xs.length + ys.length ≤ 100000) (k : ∀ p H2, H p = none → Ext H H2 → H2 p = some (.lst (xs ++ ys)) → Q (.ref p) H2) : rCat (.ref a) (.ref b) H Q :=
  ⟨a, b, xs, ys, rfl, rfl, h1, h2, sz hz, fun p np => k p _ np (Ext.new (Ext.refl _) np) upd_same⟩
theorem i_rep (h1 : H a = some (.lst xs)) (h2 : -1000 ≤ n ∧ n ≤ 1000) (h3 : xs.length ≤ 100) (k : ∀ p H2, H p = none → Ext H H2 → H2 p = some (.lst (List.replicate n.toNat xs).flatten) → Q (.ref p) H2) : rRep (.ref a) (.int n) H Q :=
  ⟨a, n, xs, rfl, rfl, h1, by omega, by omega, sz (by have : n.toNat ≤ 1000 := by omega
                                                      exact Nat.le_trans (Nat.mul_le_mul h3 this) (by decide)), fun p np => k p _ np (Ext.new (Ext.refl _) np) upd_same⟩
theorem i_sumT {ns : List Int} (h : SqT K H a (ns.map V.int)) (k : Q (.int ns.sum) H) : rSumT K [.ref a] H Q := ⟨a, ns, rfl, h, k⟩
theorem i_sum {ns : List Int} (h : SqL K H a (ns.map V.int)) (k : Q (.int ns.sum) H) : rSum K [.ref a] H Q := ⟨a, ns, rfl, h, k⟩
theorem i_all {bs : List Bool} (h : SqL K H a (bs.map V.bl)) (k : Q (.bl (bs.all id)) H) : rAll K [.ref a] H Q := ⟨a, bs, rfl, h, k⟩
theorem dpb : ∀ {xs : List V} {bs : List Bool}, DpAll K H xs (bs.map PyData.bool) → xs = bs.map V.bl
  | _, [], .nil => rfl
  | _, b :: bs, .cons a r => by rw [dp_bl a, dpb r]; rfl
end
theorem six_pos {m d : Nat} {n : Int} (h : 0 ≤ n) : HT.sIx m d (some n) = min n.toNat m := by
  show (if n < 0 then _ else _) = _
  rw [if_neg (by omega)]
theorem cut_hi {xs : List V} {n : Int} (h : 0 ≤ n) : cutV xs none (some n) = xs.take n.toNat := by
  unfold cutV
  rw [HT.sIx_none, six_pos h, List.drop_zero, Nat.sub_zero]
  by_cases z : n.toNat ≤ xs.length
  · rw [Nat.min_eq_left z]
  · rw [Nat.min_eq_right (by omega), List.take_length, List.take_of_length_le (by omega)]
theorem cut_lo {xs : List V} {n : Int} (h : 0 ≤ n) : cutV xs (some n) none = xs.drop n.toNat := by
  unfold cutV
  rw [HT.sIx_none, six_pos h]
  by_cases z : n.toNat ≤ xs.length
  · rw [Nat.min_eq_left z, List.take_of_length_le (by rw [List.length_drop]; omega)]
  · rw [Nat.min_eq_right (by omega), List.drop_length, List.drop_eq_nil_of_le (by omega)]
    simp
/-! ### rules with the written part as a letter (within a comprehension X is another one) -/
section
variable {X : Cx} {K : PySem.W.Frag}
theorem kw_len (e : X.K = K) : CallR X (.builtin "len") (rLenQ K) := by subst e; exact w_len
theorem kw_list (e : X.K = K) : CallR X (.type "list") (rListOf K) := by subst e; exact w_list
theorem kw_tuple (e : X.K = K) : CallR X (.type "tuple") (rTupOf K) := by subst e; exact w_tuple
theorem kcr_sum (e : X.K = K) (hc : X.calm = true) : CallR X (.builtin "sum") (rSum K) := by subst e; exact cr_sum hc
theorem kcr_sumT (e : X.K = K) (hc : X.calm = true) : CallR X (.builtin "sum") (rSumT K) := by subst e; exact cr_sumT hc
theorem kcr_all (e : X.K = K) (hc : X.calm = true) : CallR X (.builtin "all") (rAll K) := by subst e; exact cr_all hc
theorem kcr_any (e : X.K = K) (hc : X.calm = true) : CallR X (.builtin "any") (rAny K) := by subst e; exact cr_any hc
theorem kcr_max (e : X.K = K) (hc : X.calm = true) : CallR X (.builtin "max") (rMax K) := by subst e; exact cr_max hc
theorem kcr_min (e : X.K = K) (hc : X.calm = true) : CallR X (.builtin "min") (rMin K) := by subst e; exact cr_min hc
theorem kcr_sorted (e : X.K = K) : CallR X (.builtin "sorted") (rSorted K) := by subst e; exact cr_sorted
theorem kcall_isV (e : X.K = K) : CallR X (.builtin "isinstance") (rIsV K) := by subst e; exact call_isV
theorem ksl_list (e : X.K = K) : SlR X (rSlL K) := by subst e; exact sl_list
theorem ksl_tupA (e : X.K = K) : SlR X (rSlA K) := by subst e; exact sl_tupA
theorem kix_list (e : X.K = K) : IxR X (rIxL K) := by subst e; exact ix_list
theorem kix_tup (e : X.K = K) : IxR X (rIxT K) := by subst e; exact ix_tup
theorem kop_eqD (e : X.K = K) (hu : X.A.units + 64 < cLine) : OpR X (compareOp .Eq) (rEqD K) := by subst e; exact op_eqD hu
theorem kop_neD (e : X.K = K) (hu : X.A.units + 64 < cLine) : OpR X (compareOp .NotEq) (rNeD K) := by subst e; exact op_neD hu
theorem kop_catA (e : X.K = K) : OpR X (binaryOp .Add) (rCatA K) := by subst e; exact op_catA
theorem kop_in_seq (e : X.K = K) : OpR X (compareOp .In) (rIn K false) := by subst e; exact op_in_seq
theorem kop_notIn_seq (e : X.K = K) : OpR X (compareOp .NotIn) (rIn K true) := by subst e; exact op_notIn_seq
theorem kpe_fld (ek : X.K = K) {e : Expr} {f : Str} {pos : Pos} {ta : TE} (he : PE X e ta) (hb : attributeBase e f X.env (eval e X.env) = eval e X.env) : PE X (.Attribute e f pos) (tFld K ta f) := by subst ek; exact pe_fld he hb
theorem kpi_list (ek : X.K = K) {tg l : Expr} {tl : TE} (hl : PE X l tl) : PI X tg l (iList K tl) := by subst ek; exact pi_list hl
theorem kpi_tup (ek : X.K = K) {tg l : Expr} {tl : TE} (hl : PE X l tl) : PI X tg l (iTup K tl) := by subst ek; exact pi_tup hl
end
end Wp
/-! Several except clauses, each with or without a name. -/
namespace WpT
open PySem PySem.Spec PyProof.Rows L2
/-- one clause: the class, the slot of its name (if it has one), its suite's reading -/
abbrev Cl := Value × Option Nat × (Addr → Value → Option Addr → TS)
/-- behind a suite the name is gone -/
def offD (i : Nat) (D : Ends) : Ends := { nx := fun σ' H' => D.nx (σ'.set i none) H', rt := D.rt, bk := fun σ' H' => D.bk (σ'.set i none) H', ct := fun σ' H' => D.ct (σ'.set i none) H' }
def wCl (K : PySem.W.Frag) (Wout : WX) (D : Ends) : List Cl → WX
  | [] => Wout
  | (c, none, ts) :: r => fun cls d σ H => ∃ b, PySem.W.exmOne K cls c = some b ∧ (b = true → ∀ a, H a = none → ts a cls d D σ H) ∧ (b = false → wCl K Wout D r cls d σ H)
  | (c, some i, ts) :: r => fun cls d σ H => ∃ b, PySem.W.exmOne K cls c = some b ∧ (b = true → ∀ a, H a = none → ts a cls d (offD i D) (σ.set i (some (.ref a))) H) ∧ (b = false → wCl K Wout D r cls d σ H)
inductive Cls' (X : Cx) : List ExceptHandler → List Cl → Prop
  | nil : Cls' X [] []
  | one {x : Str} {c : Value} {ts : Addr → Value → Option Addr → TS} {b0 : Stmt} {suite : List Stmt} {np pos' : Pos} {hds : List ExceptHandler} {l : List Cl} (hc : Names X x c)
      (hsu : ∀ (a : Addr) (oe : Obj) (cls : Value) (d : Option Addr) (pn : List (Addr × Obj)), Zc cls d oe → (∃ vs, oe.data = .fields vs) → PSs (X.suite a ((a, oe) :: pn)) (b0 :: suite) (ts a cls d)) (r : Cls' X hds l) :
      Cls' X (.ExceptHandler (some (.Name x np)) none (b0 :: suite) pos' :: hds) ((c, none, ts) :: l)
  | as {x n : Str} {i : Nat} {c : Value} {ts : Addr → Value → Option Addr → TS} {b0 : Stmt} {suite : List Stmt} {np pos' : Pos} {hds : List ExceptHandler} {l : List Cl} (hN : X.N.Nodup) (hi : X.N[i]? = some n) (hln : X.env.kindOf n = some .local) (hc : Names X x c)
      (hsu : ∀ (a : Addr) (oe : Obj) (cls : Value) (d : Option Addr) (pn : List (Addr × Obj)), Zc cls d oe → (∃ vs, oe.data = .fields vs) → PSs (X.suite a ((a, oe) :: pn)) (b0 :: suite) (ts a cls d)) (r : Cls' X hds l) :
      Cls' X (.ExceptHandler (some (.Name x np)) (some n) (b0 :: suite) pos' :: hds) ((c, some i, ts) :: l)
section
variable {X : Cx} {body : List Stmt} {h0 : ExceptHandler} {hds : List ExceptHandler} {l : List Cl} {pos : Pos} {tb : WX → TS} {Wout : WX}
theorem ps_try_cl (hs : X.stack = X.env :: X.outer) (hf : X.env.frame = some X.env.locals) (tk : Takes X Wout)
    (hb : ∀ (W : WX) (pn : List (Addr × Obj)) (xe : Value → Shared → Prop), Takes (X.tr pn xe) W → PassesOwn (model X.prog X.w) X.A X.env xe → PSs (X.tr pn xe) body (tb W))
    (hh : Cls' X (h0 :: hds) l) : PS X (.Try body (h0 :: hds) [] [] pos) (fun D σ H => tb (wCl X.K Wout D l) D σ H) := by
  refine ⟨fun pins s σ H D I h => ?_⟩
  have ok := I.ok
  have hfr : X.A.frames = some (X.env :: X.outer) := by rw [ok.frames, hs]
  refine wpAny_Try_except ?_
  refine wpAny_mono ((hb (wCl X.K Wout D l) (X.pn ++ pins) (fun e s1 => wpAny (model X.prog X.w) X.A (noteFrame e X.env) (fun _ s2 => wpAny (model X.prog X.w) X.A (setFlight e none) (fun _ s3 =>
    wpAny (model X.prog X.w) X.A (handleBy e X.env (h0 :: hds)) (SP X pins D) X.xe s3) X.xe s2) X.xe s1) (fun u s' xx => ?_) PassesOwn.looking).run [] s σ H D (I.toTry _) h) (fun f s1 hsp => ?_) (fun e s1 he => he)
  · obtain ⟨a, B, sI, pins', σ', H', cls, d, rfl, J', nb, up, sky, na, os, ag, w⟩ := xx
    have J : Inv X pins σ' H' sI := J'.ofTry ok
    have sky' : Sky B (X.env :: X.outer) a (Zc cls d) X.env.locals s'.heap := by rw [← hs]; exact sky
    show wpAny (model X.prog X.w) X.A (noteFrame (.ref a) X.env) _ _ _
    refine Sky.land Zc.steady hfr hf sky' fun h3 fl3 up3 => ?_
    have J3 : Inv X pins σ' H' { s' with heap := h3 } := J.landed nb fl3.1 (up.trans up3) os ag
    obtain ⟨oe3, vs3, he3, hz3, hd3⟩ := fl3.there
    have nfr : a ∉ frs (X.env :: X.outer) := fun hm => by
      obtain ⟨_, o', e', hnf⟩ := fl3.2.2.1.mem hm
      rw [he3] at e'; cases e'
      exact hnf _ hd3
    have nL : a ≠ X.env.locals := fun z => nfr (List.mem_filterMap.mpr ⟨X.env, List.mem_cons_self, by rw [hf, z]⟩)
    have nF : a ∉ X.fs := fun hm => by
      obtain ⟨e, he, q⟩ := List.mem_filterMap.mp hm
      exact nfr (List.mem_filterMap.mpr ⟨e, List.mem_cons_of_mem _ he, q⟩)
    have S3 := J3.suite he3 hd3 na nL nF
    have test : ∀ {x : Str} {c : Value} {np : Pos} {Q : Value → Shared → Prop} {E : Value → Shared → Prop}, Names X x c → Q c { s' with heap := h3 } → wpAny (model X.prog X.w) (X.A.mark (some (.ref a))) (eval (.Name x np) X.env) Q E { s' with heap := h3 } := fun {x c np Q E} hc q => by
      obtain ⟨hg, hdbg, hm | ⟨hm, hv, hnn⟩⟩ := hc
      · exact ld_glob (X := X.suite a ((a, oe3) :: (X.pn ++ pins))) S3 hg hm q hdbg
      · exact ld_blt (X := X.suite a ((a, oe3) :: (X.pn ++ pins))) S3 hg hm hv q hnn hdbg
    have LT : PySem.W.Looks (model X.prog X.w) h3 (typeOf (.ref a)) cls := fun A Q E s k q => wpAny_typeOf_ref (k _ _ he3) (by rw [hz3.1]; exact q)
    have go : ∀ {hs' : List ExceptHandler} {l' : List Cl}, Cls' X hs' l' → wCl X.K Wout D l' cls d σ' H' → wpAny (model X.prog X.w) X.A (handleBy (.ref a) X.env hs') (SP X pins D) X.xe { s' with heap := h3 } := by
      intro hs' l' hk
      induction hk with
      | nil =>
        intro w
        refine wpAny_handleBy_nil ?_
        obtain ⟨k1, k2, k3, oe, vs, T, oT, ts', he, hz, hd, h1, hr⟩ := id fl3
        unfold PySem.passOn
        refine wpAny_bind (wpAny_field he hd h1 ?_)
        rw [if_neg (show ¬ ((Value.ref T == Value.none) = true) from by simp)]
        have fin : wpAny (model X.prog X.w) X.A (setFlight (.ref a) X.env.frame) (fun _ s4 => wpAny (model X.prog X.w) X.A (throw (.ref a) : Sem Flow) (SP X pins D) X.xe s4) X.xe { s' with heap := h3 } := by
          rw [hf]
          refine HandSPX.setFlight_upZ fl3 fun h4 hh4 up4 => wpAny_throw (tk _ _ ?_)
          exact ⟨a, B, sI, pins, σ', H', cls, d, rfl, J, nb, (up.trans up3).trans up4, .inr (.inr (by rw [hs]; exact hh4)), na, os, ag, w⟩
        first
          | exact wpAny_bind (wpAny_pure (wpAny_bind fin))
          | exact wpAny_bind fin
      | one hc hsu r ih =>
        intro w
        obtain ⟨b, hb1, hyes, hno⟩ := w
        refine wpAny_handleBy_cons (codeAny_handlers_test ?_) (by intro q; cases q)
        refine test hc ((PySem.W.exm_one (M := model X.prog X.w) J3.kIn LT hb1).here ?_)
        cases b with
        | false => exact ih (hno rfl)
        | true =>
          refine codeAny_handlers_suite (HandSPX.lands_againZ fl3 fun h4 fl4 up4 => ?_)
          have J4 : Inv X pins σ' H' { s' with heap := h4 } := J.landed nb fl4.1 ((up.trans up3).trans up4) os ag
          obtain ⟨oe4, vs4, he4, hz4, hd4⟩ := fl4.there
          refine wpAny_mono ((hsu a oe4 cls d (X.pn ++ pins) hz4 ⟨_, hd4⟩).run [] _ _ H' _ (J4.suite he4 hd4 na nL nF) (hyes rfl a na)) (fun f s6 hsp => ?_) (fun _ _ z => False.elim z)
          cases f with
          | ret u => obtain ⟨v6, σ6, H6, S6, r6, q6⟩ := hsp; exact ⟨_, _, _, S6.unsuite ok, r6, q6⟩
          | next => obtain ⟨σ6, H6, S6, q6⟩ := hsp; exact ⟨_, _, S6.unsuite ok, q6⟩
          | brk => obtain ⟨σ6, H6, S6, q6⟩ := hsp; exact ⟨_, _, S6.unsuite ok, q6⟩
          | cont => obtain ⟨σ6, H6, S6, q6⟩ := hsp; exact ⟨_, _, S6.unsuite ok, q6⟩
      | @as x n i c ts b0 suite np pos' hds2 l2 hN hi hln hc hsu r ih =>
        intro w
        obtain ⟨b, hb1, hyes, hno⟩ := w
        refine wpAny_handleBy_cons (codeAny_handlers_test ?_) (by intro q; cases q)
        refine test hc ((PySem.W.exm_one (M := model X.prog X.w) J3.kIn LT hb1).here ?_)
        cases b with
        | false => exact ih (hno rfl)
        | true =>
          refine codeAny_handlers_suite_as (HandSPX.lands_againZ fl3 fun h4 fl4 up4 => ?_)
          have J4 : Inv X pins σ' H' { s' with heap := h4 } := J.landed nb fl4.1 ((up.trans up3).trans up4) os ag
          obtain ⟨oe4, vs4, he4, hz4, hd4⟩ := fl4.there
          refine store_ok (X := X.suite a ((a, oe4) :: (X.pn ++ pins))) (v := .ref a) (J4.suite he4 hd4 na nL nF) hN hi (.inl hln) rfl (fun s5 S5 => ?_) (.inr hln)
          refine wpAny_mono ((hsu a oe4 cls d (X.pn ++ pins) hz4 ⟨_, hd4⟩).run [] s5 _ H' _ S5 (hyes rfl a na)) (fun f s6 hsp => ?_) (fun _ _ z => False.elim z)
          have done' : ∀ {σ6 : L2.St} {H6 : Hp} {Q : Shared → Prop}, Inv (X.suite a ((a, oe4) :: (X.pn ++ pins))) [] σ6 H6 s6 → (∀ s7, Inv X pins (σ6.set i none) H6 s7 → Q s7) →
              wpAny (model X.prog X.w) X.A (do bindName X.env n .none; unbindBehindTheSuite X.env n pos') (fun _ s7 => Q s7) X.xe s6 := fun {σ6 H6 Q} S6 hq => gone_ok (S6.unsuite ok) hN hi hln hq
          cases f with
          | ret u => obtain ⟨v6, σ6, H6, S6, r6, q6⟩ := hsp; exact done' S6 fun s7 J7 => ⟨_, _, _, J7, r6, q6⟩
          | next => obtain ⟨σ6, H6, S6, q6⟩ := hsp; exact done' S6 fun s7 J7 => ⟨_, _, J7, q6⟩
          | brk => obtain ⟨σ6, H6, S6, q6⟩ := hsp; exact done' S6 fun s7 J7 => ⟨_, _, J7, q6⟩
          | cont => obtain ⟨σ6, H6, S6, q6⟩ := hsp; exact done' S6 fun s7 J7 => ⟨_, _, J7, q6⟩
    exact go hh w
  · cases f with
    | ret u => obtain ⟨v, σ', H', J', r, q⟩ := hsp; exact ⟨v, σ', H', J'.ofTry ok, r, q⟩
    | next => obtain ⟨σ', H', J', q⟩ := hsp; exact wpAny_execs_nil ⟨σ', H', J'.ofTry ok, q⟩
    | brk => obtain ⟨σ', H', J', q⟩ := hsp; exact ⟨σ', H', J'.ofTry ok, q⟩
    | cont => obtain ⟨σ', H', J', q⟩ := hsp; exact ⟨σ', H', J'.ofTry ok, q⟩
end
end WpT
namespace Law
open PySem L2 Wp
local macro_rules | `(tactic| walk_at "hk") => `(tactic| first | assumption | (with_reducible exact upd_same) | ((with_reducible show upd _ _ _ _ = some _); first | (refine up_new (by assumption) ?_; walk_at "hk") | (refine up_ne ?_ ?_; (focus walk_at "ne"); walk_at "hk")) | ((with_reducible apply ext_get); (focus assumption); walk_at "hk"))
local macro_rules | `(tactic| walk_at "ne") => `(tactic| first | assumption | (apply Ne.symm; assumption) | ((apply ne_of_none); (focus walk_at "hk"); assumption) | ((apply Ne.symm); (apply ne_of_none); (focus walk_at "hk"); assumption) | ((apply ne_of); (focus walk_at "hk"); (focus walk_at "hk"); exact nofun))
local macro_rules | `(tactic| walk_at "lk") => `(tactic| first | (with_reducible exact lk_hit) | (with_reducible exact lk_nil) | ((with_reducible refine lk_miss ?_ ?_); (focus decide +kernel); walk_at "lk"))
local macro_rules | `(tactic| walk_at "sl") => `(tactic| first | assumption | (exact SqL.of (by assumption)) | (with_reducible exact (by assumption : ∀ o, SqL _ (upd _ _ o) _ _) _) | ((with_reducible show SqL _ (upd _ _ _) _ _); first | (exact SqL.of upd_same) | (refine ext_sl (Ext.new (Ext.refl _) (by assumption)) ?_; walk_at "sl") | (exact SqL.of (by walk_at "hk"))) | ((with_reducible apply ext_sl); (focus assumption); walk_at "sl") )
local macro_rules | `(tactic| walk_at "st") => `(tactic| first | assumption | (exact SqT.of (by assumption)) | (with_reducible exact (by assumption : ∀ o, SqT _ (upd _ _ o) _ _) _) | ((with_reducible show SqT _ (upd _ _ _) _ _); first | (exact SqT.of upd_same) | (refine ext_st (Ext.new (Ext.refl _) (by assumption)) ?_; walk_at "st") | (exact SqT.of (by walk_at "hk"))) | ((with_reducible apply ext_st); (focus assumption); walk_at "st") )
local macro_rules | `(tactic| walk_at "dp") => `(tactic| first | (with_reducible exact Dp.int _) | (with_reducible exact Dp.bl _) | (with_reducible exact Dp.str _) | (with_reducible exact Dp.non) | (with_reducible assumption) | ((with_reducible apply dpT); (focus with_reducible assumption); walk_at "dps") | ((with_reducible apply dpL); (focus with_reducible assumption); walk_at "dps") | ((with_reducible apply Dp.tup); (focus with_reducible assumption); walk_at "dps") | ((with_reducible apply Dp.lst); (focus with_reducible assumption); walk_at "dps") | ((with_reducible apply ext_dpN); (focus with_reducible assumption); walk_at "dp") | ((with_reducible apply ext_dp); (focus with_reducible assumption); walk_at "dp"))
local macro_rules | `(tactic| walk_at "sh") => `(tactic| first | (with_reducible exact sh_int) | (with_reducible exact sh_bl) | (with_reducible exact sh_non) | assumption | ((with_reducible refine sh_str ?_); first | assumption | decide +kernel) | ((with_reducible refine sh_tup ?_); walk_at "sha") | ((with_reducible refine sh_lst ?_); walk_at "sha"))
local macro_rules | `(tactic| walk_at "sha") => `(tactic| first | (with_reducible exact sha_nil) | assumption | (with_reducible exact sha_dI _) | ((with_reducible refine sha_cons ?_ ?_); (focus walk_at "sh"); walk_at "sha"))
local macro_rules | `(tactic| walk_at "shd") => `(tactic| (refine shd ?_; walk_at "sh"))
local macro_rules | `(tactic| walk_at "dps") => `(tactic| first | (with_reducible exact DpAll.nil) | ((with_reducible apply DpAll.cons); (focus walk_at "dp"); walk_at "dps") | (with_reducible exact dpi_of) | (with_reducible assumption))
local macro_rules | `(tactic| walk_at "rd1") => `(tactic| first | ((with_reducible show tVar _ _ _ _); refine i_var (by exact rfl) ?_) | ((with_reducible refine i_name ?_); (try dsimp only [List.set_cons_succ, List.set_cons_zero, Int.reduceToNat])) | ((with_reducible show tAug _ _ _ _ _ _); refine i_aug (by exact rfl) ?_) | (with_reducible refine i_c ?_) | (with_reducible refine i_op ?_) | (with_reducible refine i_un ?_) | (with_reducible refine i_U ?_) | (with_reducible refine i_I0 ?_) | (with_reducible refine i_cmp ?_) | (with_reducible refine i_II ?_) | (with_reducible refine i_isN ?_) | (with_reducible refine i_notN ?_) | (with_reducible refine i_B ?_) | (with_reducible refine i_test ?_) | (with_reducible refine i_bl ?_) | (with_reducible refine i_and ?_) | (with_reducible refine i_or ?_) | (with_reducible refine i_not ?_) | (with_reducible refine i_andV ?_) | (with_reducible refine i_orV ?_) | (with_reducible refine i_notV ?_) | (with_reducible refine i_if ?_) | (with_reducible refine i_chain ?_) | (with_reducible refine i_nil ?_) | (with_reducible refine i_cons ?_) | (with_reducible refine i_tup ?_) | (with_reducible refine i_lst ?_) | (with_reducible refine i_call ?_) | (with_reducible refine i_cb ?_) | (with_reducible refine i_met ?_) | (with_reducible refine i_mak ?_) | (with_reducible refine i_fld ?_) | (with_reducible refine i_sl ?_) | (with_reducible refine i_noPart ?_) | (with_reducible refine i_part ?_) | (with_reducible refine i_1I ?_) | (with_reducible refine i_bm ?_) | (with_reducible refine i_bm0 ?_) | (with_reducible refine i_next ?_) | (with_reducible refine i_brk ?_) | (with_reducible refine i_cont ?_) | (with_reducible refine i_drop ?_) | (with_reducible refine i_ret ?_) | (with_reducible refine i_retN ?_) | (with_reducible refine i_ifS ?_) | (with_reducible refine i_asg ?_) | (with_reducible refine i_gsub ?_) | (with_reducible refine i_par ?_) | (with_reducible refine i_par2 ?_) | (with_reducible refine i_ipI ?_) | (with_reducible refine i_sfld ?_) | (with_reducible refine i_raiseE ?_) | (with_reducible refine i_xf ?_) | (with_reducible refine i_int ?_) | (with_reducible refine i_intB ?_) | (with_reducible refine i_abs ?_) | (with_reducible refine i_for ?_) | (with_reducible refine i_iList ?_) | (with_reducible refine i_iTup ?_) | (with_reducible refine i_iRng1 ?_) | (with_reducible refine i_iRng2 ?_) | (with_reducible refine i_iEnum ?_) | (with_reducible refine i_iStr ?_) | (with_reducible refine i_lc ?_) | (with_reducible refine at_str ?_) | (with_reducible refine i_BB ?_) | (with_reducible refine i_yes ?_) | (with_reducible refine is_int_int ?_) | (with_reducible refine is_int_bool ?_) | (with_reducible refine is_int_str ?_) | (with_reducible refine is_int_tuple ?_) | (with_reducible refine is_int_list ?_) | (with_reducible refine is_int_dict ?_) | (with_reducible refine is_bl_int ?_) | (with_reducible refine is_bl_bool ?_) | (with_reducible refine is_bl_str ?_) | (with_reducible refine is_bl_tuple ?_) | (with_reducible refine is_bl_list ?_) | (with_reducible refine is_bl_dict ?_) | (with_reducible refine is_str_int ?_) | (with_reducible refine is_str_bool ?_) | (with_reducible refine is_str_str ?_) | (with_reducible refine is_str_tuple ?_) | (with_reducible refine is_str_list ?_) | (with_reducible refine is_str_dict ?_) | (with_reducible refine is_non_int ?_) | (with_reducible refine is_non_bool ?_) | (with_reducible refine is_non_str ?_) | (with_reducible refine is_non_tuple ?_) | (with_reducible refine is_non_list ?_) | (with_reducible refine is_non_dict ?_) | (with_reducible refine i_min2 ?_) | (with_reducible refine i_max2 ?_) | ((with_reducible refine i_I ?_ ?_); focus (first | decide | exact ⟨by decide, by decide⟩ | exact ⟨by omega, by omega⟩ | omega | exact Or.inr ⟨by decide, by decide⟩ | exact Or.inl ⟨by decide, by decide⟩ | exact ⟨by decide, by decide, by decide⟩)) | ((with_reducible refine i_eq ?_ ?_); focus exact rfl) | ((with_reducible refine i_ne ?_ ?_); focus exact rfl) | ((with_reducible show rIxL _ (V.ref _) (V.int _) _ _); refine i_ixL (by walk_at "sl") (by exact rfl) ?_) | ((with_reducible show rIxT _ (V.ref _) (V.int _) _ _); refine i_ixT (by walk_at "st") (by exact rfl) ?_) | ((with_reducible show rSetL (V.ref _) (V.int _) _ _ _); refine i_setL (by walk_at "hk") (by exact rfl) ?_; (try rw [upd_upd]); (try dsimp only [List.set_cons_succ, List.set_cons_zero, Int.reduceToNat])) | ((with_reducible show rLenQ _ [V.ref _] _ _); refine i_lenL (by walk_at "sl") ?_) | ((with_reducible show rLenQ _ [V.ref _] _ _); refine i_lenT (by walk_at "st") ?_) | ((with_reducible show rIxL _ (V.ref _) (V.int 0) _ _); refine i_ixL (by walk_at "sl") (by exact at_hd) ?_) | ((with_reducible show rIxT _ (V.ref _) (V.int 0) _ _); refine i_ixT (by walk_at "st") (by exact at_hd) ?_) | ((with_reducible refine i_newT ?_ ?_); focus (first | decide | exact Nat.le_of_ble_eq_true rfl | (simp only [List.length_cons, List.length_nil]; omega))) | ((with_reducible refine i_newL ?_ ?_); focus (first | decide | exact Nat.le_of_ble_eq_true rfl | (simp only [List.length_cons, List.length_nil]; omega))) | ((with_reducible show rIsX _ _ (Value.ref _) (some _) _ [V.ref _, V.ref _] _ _); refine i_isXr (by walk_at "hk") (by walk_at "ki") ?_) | ((with_reducible show rIsX _ _ (Value.ref _) (some _) _ [V.ref _, V.ty _] _ _); refine i_isXt (by walk_at "hk") (by walk_at "ki") ?_) | ((with_reducible apply i_xfv); (focus walk_at "hk"); (focus walk_at "lk")) | ((with_reducible apply at_list); (focus walk_at "sl")) | ((with_reducible apply at_tup); (focus walk_at "st")) | ((with_reducible apply at_enum); (focus walk_at "sl")) | ((with_reducible refine at_rng1 ?_ ?_ ?_); (focus omega); (focus omega)) | ((with_reducible refine at_rng2 ?_ ?_); (focus omega)) | ((with_reducible show rSlA _ (V.ref _) _ _ _ _); refine i_slA (by walk_at "st") ?_) | ((with_reducible show rSlL _ (V.ref _) _ _ _ _); refine i_slL (by walk_at "sl") ?_) | ((with_reducible show rSumT _ [V.ref _] _ _); refine i_sumT (by walk_at "st") ?_) | ((with_reducible show rSum _ [V.ref _] _ _); refine i_sum (by walk_at "sl") ?_) | ((with_reducible apply i_tyL); (focus walk_at "hk")) | ((with_reducible refine i_wipe ?_ ?_); (focus exact rfl)) | ((with_reducible show rListOf _ [V.ref _] _ _); first | (refine i_listL (by walk_at "sl") ?_) | (refine i_listT (by walk_at "st") ?_)) | ((with_reducible show rTupOf _ [V.ref _] _ _); first | (refine i_tupL (by walk_at "sl") ?_) | (refine i_tupT (by walk_at "st") ?_)) | ((with_reducible show spDraw _ _ _ _ _); refine i_draw (by walk_at "sl") (by assumption) (by walk_at "hk") (by first | omega | (simp only [List.length_cons, List.length_nil, List.length_map] at *; omega)) (by first | omega | (simp only [List.length_cons, List.length_nil, List.length_map] at *; omega)) ?_) | ((with_reducible show spStart _ _ _ _ _); refine i_start (by walk_at "sl") (by assumption) ?_) | ((with_reducible refine i_seqN ?_); intro _ _) | ((with_reducible apply go_nx); (focus assumption)) | ((with_reducible apply go_np); (focus assumption)) | ((with_reducible show ite (_ = true) _ _); first | refine iteT ?_ | refine iteF ?_))
local macro_rules | `(tactic| walk_at "rd") => `(tactic| (repeat walk_at "rd1"))
local macro_rules | `(tactic| walk_at "rd01") => `(tactic| first | ((with_reducible show tVar _ _ _ _); refine i_var (by exact rfl) ?_) | ((with_reducible refine i_name ?_); (try dsimp only [List.set_cons_succ, List.set_cons_zero, Int.reduceToNat])) | ((with_reducible show tAug _ _ _ _ _ _); refine i_aug (by exact rfl) ?_) | (with_reducible refine i_c ?_) | (with_reducible refine i_op ?_) | (with_reducible refine i_un ?_) | (with_reducible refine i_U ?_) | (with_reducible refine i_I0 ?_) | (with_reducible refine i_cmp ?_) | (with_reducible refine i_II ?_) | (with_reducible refine i_isN ?_) | (with_reducible refine i_notN ?_) | (with_reducible refine i_B ?_) | (with_reducible refine i_test ?_) | (with_reducible refine i_bl ?_) | (with_reducible refine i_and ?_) | (with_reducible refine i_or ?_) | (with_reducible refine i_not ?_) | (with_reducible refine i_andV ?_) | (with_reducible refine i_orV ?_) | (with_reducible refine i_notV ?_) | (with_reducible refine i_if ?_) | (with_reducible refine i_chain ?_) | (with_reducible refine i_nil ?_) | (with_reducible refine i_cons ?_) | (with_reducible refine i_tup ?_) | (with_reducible refine i_lst ?_) | (with_reducible refine i_call ?_) | (with_reducible refine i_cb ?_) | (with_reducible refine i_met ?_) | (with_reducible refine i_mak ?_) | (with_reducible refine i_fld ?_) | (with_reducible refine i_sl ?_) | (with_reducible refine i_noPart ?_) | (with_reducible refine i_part ?_) | (with_reducible refine i_1I ?_) | (with_reducible refine i_bm ?_) | (with_reducible refine i_bm0 ?_) | (with_reducible refine i_next ?_) | (with_reducible refine i_brk ?_) | (with_reducible refine i_cont ?_) | (with_reducible refine i_drop ?_) | (with_reducible refine i_ret ?_) | (with_reducible refine i_retN ?_) | (with_reducible refine i_ifS ?_) | (with_reducible refine i_asg ?_) | (with_reducible refine i_gsub ?_) | (with_reducible refine i_par ?_) | (with_reducible refine i_par2 ?_) | (with_reducible refine i_ipI ?_) | (with_reducible refine i_sfld ?_) | (with_reducible refine i_raiseE ?_) | (with_reducible refine i_xf ?_) | (with_reducible refine i_int ?_) | (with_reducible refine i_intB ?_) | (with_reducible refine i_abs ?_) | (with_reducible refine i_for ?_) | (with_reducible refine i_iList ?_) | (with_reducible refine i_iTup ?_) | (with_reducible refine i_iRng1 ?_) | (with_reducible refine i_iRng2 ?_) | (with_reducible refine i_iEnum ?_) | (with_reducible refine i_iStr ?_) | (with_reducible refine i_lc ?_) | (with_reducible refine at_str ?_) | (with_reducible refine i_BB ?_) | (with_reducible refine i_yes ?_) | (with_reducible refine is_int_int ?_) | (with_reducible refine is_int_bool ?_) | (with_reducible refine is_int_str ?_) | (with_reducible refine is_int_tuple ?_) | (with_reducible refine is_int_list ?_) | (with_reducible refine is_int_dict ?_) | (with_reducible refine is_bl_int ?_) | (with_reducible refine is_bl_bool ?_) | (with_reducible refine is_bl_str ?_) | (with_reducible refine is_bl_tuple ?_) | (with_reducible refine is_bl_list ?_) | (with_reducible refine is_bl_dict ?_) | (with_reducible refine is_str_int ?_) | (with_reducible refine is_str_bool ?_) | (with_reducible refine is_str_str ?_) | (with_reducible refine is_str_tuple ?_) | (with_reducible refine is_str_list ?_) | (with_reducible refine is_str_dict ?_) | (with_reducible refine is_non_int ?_) | (with_reducible refine is_non_bool ?_) | (with_reducible refine is_non_str ?_) | (with_reducible refine is_non_tuple ?_) | (with_reducible refine is_non_list ?_) | (with_reducible refine is_non_dict ?_) | (with_reducible refine i_min2 ?_) | (with_reducible refine i_max2 ?_) | ((with_reducible refine i_I ?_ ?_); focus (first | decide | exact ⟨by decide, by decide⟩ | exact ⟨by omega, by omega⟩ | omega | exact Or.inr ⟨by decide, by decide⟩ | exact Or.inl ⟨by decide, by decide⟩ | exact ⟨by decide, by decide, by decide⟩)) | ((with_reducible refine i_eq ?_ ?_); focus exact rfl) | ((with_reducible refine i_ne ?_ ?_); focus exact rfl) | ((with_reducible show rIxL _ (V.ref _) (V.int _) _ _); refine i_ixL (by walk_at "sl") (by exact rfl) ?_) | ((with_reducible show rIxT _ (V.ref _) (V.int _) _ _); refine i_ixT (by walk_at "st") (by exact rfl) ?_) | ((with_reducible show rSetL (V.ref _) (V.int _) _ _ _); refine i_setL (by walk_at "hk") (by exact rfl) ?_; (try rw [upd_upd]); (try dsimp only [List.set_cons_succ, List.set_cons_zero, Int.reduceToNat])) | ((with_reducible show rLenQ _ [V.ref _] _ _); refine i_lenL (by walk_at "sl") ?_) | ((with_reducible show rLenQ _ [V.ref _] _ _); refine i_lenT (by walk_at "st") ?_) | ((with_reducible show rIxL _ (V.ref _) (V.int 0) _ _); refine i_ixL (by walk_at "sl") (by exact at_hd) ?_) | ((with_reducible show rIxT _ (V.ref _) (V.int 0) _ _); refine i_ixT (by walk_at "st") (by exact at_hd) ?_) | ((with_reducible show rIsX _ _ (Value.ref _) (some _) _ [V.ref _, V.ref _] _ _); refine i_isXr (by walk_at "hk") (by walk_at "ki") ?_) | ((with_reducible show rIsX _ _ (Value.ref _) (some _) _ [V.ref _, V.ty _] _ _); refine i_isXt (by walk_at "hk") (by walk_at "ki") ?_) | ((with_reducible apply i_xfv); (focus walk_at "hk"); (focus walk_at "lk")) | ((with_reducible apply at_list); (focus walk_at "sl")) | ((with_reducible apply at_tup); (focus walk_at "st")) | ((with_reducible apply at_enum); (focus walk_at "sl")) | ((with_reducible refine at_rng1 ?_ ?_ ?_); (focus omega); (focus omega)) | ((with_reducible refine at_rng2 ?_ ?_); (focus omega)) | ((with_reducible show rSlA _ (V.ref _) _ _ _ _); refine i_slA (by walk_at "st") ?_) | ((with_reducible show rSlL _ (V.ref _) _ _ _ _); refine i_slL (by walk_at "sl") ?_) | ((with_reducible show rSumT _ [V.ref _] _ _); refine i_sumT (by walk_at "st") ?_) | ((with_reducible show rSum _ [V.ref _] _ _); refine i_sum (by walk_at "sl") ?_) | ((with_reducible apply i_tyL); (focus walk_at "hk")) | ((with_reducible refine i_wipe ?_ ?_); (focus exact rfl)) | ((with_reducible show rListOf _ [V.ref _] _ _); first | (refine i_listL (by walk_at "sl") ?_) | (refine i_listT (by walk_at "st") ?_)) | ((with_reducible show rTupOf _ [V.ref _] _ _); first | (refine i_tupL (by walk_at "sl") ?_) | (refine i_tupT (by walk_at "st") ?_)) | ((with_reducible show spDraw _ _ _ _ _); refine i_draw (by walk_at "sl") (by assumption) (by walk_at "hk") (by first | omega | (simp only [List.length_cons, List.length_nil, List.length_map] at *; omega)) (by first | omega | (simp only [List.length_cons, List.length_nil, List.length_map] at *; omega)) ?_) | ((with_reducible show spStart _ _ _ _ _); refine i_start (by walk_at "sl") (by assumption) ?_) | ((with_reducible refine i_seqN ?_); intro _ _) | ((with_reducible apply go_nx); (focus assumption)) | ((with_reducible apply go_np); (focus assumption)) | ((with_reducible show ite (_ = true) _ _); first | refine iteT ?_ | refine iteF ?_))
local macro_rules | `(tactic| walk_at "rd0") => `(tactic| (repeat walk_at "rd01"))
def top (i : Nat) : Stmt := PySem.Challenge.pw_widestparcels_k13_whole_rows_that_sit.main.body.getD i (.Pass ⟨0, 0, 0, 0⟩)
abbrev s_BadRow___init__ : Stmt := inClass (top 2) 0
abbrev s_is_integer : Stmt := top 5
abbrev s_is_row : Stmt := top 9
abbrev s_check_row : Stmt := top 10
abbrev s_sits_in : Stmt := top 11
abbrev s__law_start : Stmt := top 13
abbrev s__law_draw : Stmt := top 14
abbrev s__law_row : Stmt := top 15
abbrev s__law_list : Stmt := top 16
abbrev s__law_sits : Stmt := top 17
abbrev s__law_told : Stmt := top 18
abbrev s__law_harder : Stmt := top 19
abbrev s_law : Stmt := top 20
abbrev N_is_integer : List Str := ["value"]
theorem sc_is_integer : FnScope N_is_integer ["value"] (defScope s_is_integer) := ⟨rfl, rfl, rfl, by decide +kernel, rfl, by decide +kernel, by decide +kernel⟩
abbrev N_is_row : List Str := ["value", "number"]
theorem sc_is_row : FnScope N_is_row ["value"] (defScope s_is_row) := ⟨rfl, rfl, rfl, by decide +kernel, rfl, by decide +kernel, by decide +kernel⟩
abbrev N_check_row : List Str := ["row"]
theorem sc_check_row : FnScope N_check_row ["row"] (defScope s_check_row) := ⟨rfl, rfl, rfl, by decide +kernel, rfl, by decide +kernel, by decide +kernel⟩
abbrev N_sits_in : List Str := ["first", "second", "at"]
theorem sc_sits_in : FnScope N_sits_in ["first", "second"] (defScope s_sits_in) := ⟨rfl, rfl, rfl, by decide +kernel, rfl, by decide +kernel, by decide +kernel⟩
abbrev N__law_start : List Str := ["_law_script", "_law_first"]
theorem sc__law_start : FnScope N__law_start ["_law_script"] (defScope s__law_start) := ⟨rfl, rfl, rfl, by decide +kernel, rfl, by decide +kernel, by decide +kernel⟩
abbrev N__law_draw : List Str := ["_law_script", "_law_state", "_law_limit", "_law_number", "_law_cell", "_law_mixed"]
theorem sc__law_draw : FnScope N__law_draw ["_law_script", "_law_state", "_law_limit"] (defScope s__law_draw) := ⟨rfl, rfl, rfl, by decide +kernel, rfl, by decide +kernel, by decide +kernel⟩
abbrev N__law_row : List Str := ["_law_script", "_law_state", "_law_length", "_law_most", "_law_row_here", "_law_k"]
theorem sc__law_row : FnScope N__law_row ["_law_script", "_law_state", "_law_length", "_law_most"] (defScope s__law_row) := ⟨rfl, rfl, rfl, by decide +kernel, rfl, by decide +kernel, by decide +kernel⟩
abbrev N__law_list : List Str := ["_law_row_here", "_law_needs", "_law_need"]
theorem sc__law_list : FnScope N__law_list ["_law_row_here"] (defScope s__law_list) := ⟨rfl, rfl, rfl, by decide +kernel, rfl, by decide +kernel, by decide +kernel⟩
abbrev N__law_sits : List Str := ["_law_first", "_law_second", "_law_free", "_law_need", "_law_seats", "_law_at"]
theorem sc__law_sits : FnScope N__law_sits ["_law_first", "_law_second"] (defScope s__law_sits) := ⟨rfl, rfl, rfl, by decide +kernel, rfl, by decide +kernel, by decide +kernel⟩
abbrev N__law_told : List Str := ["_law_first", "_law_second", "e"]
theorem sc__law_told : FnScope N__law_told ["_law_first", "_law_second"] (defScope s__law_told) := ⟨rfl, rfl, rfl, by decide +kernel, rfl, by decide +kernel, by decide +kernel⟩
abbrev N__law_harder : List Str := ["_law_script", "_law_state", "_law_row_here", "_law_found", "_law_k", "_law_at"]
theorem sc__law_harder : FnScope N__law_harder ["_law_script", "_law_state", "_law_row_here"] (defScope s__law_harder) := ⟨rfl, rfl, rfl, by decide +kernel, rfl, by decide +kernel, by decide +kernel⟩
abbrev N_law : List Str := ["_law_script", "_law_state", "_law_length", "_law_rows", "_law_first", "_law_second", "_law_told_here", "_law_third", "_law_odd", "_law_longer"]
theorem sc_law : FnScope N_law ["_law_script"] (defScope s_law) := ⟨rfl, rfl, rfl, by decide +kernel, rfl, by decide +kernel, by decide +kernel⟩
/-- where the top's things stand -/
structure Ad where
  f_is_integer : Addr
  d_is_integer : FuncData
  f_is_row : Addr
  d_is_row : FuncData
  f_check_row : Addr
  d_check_row : FuncData
  f_sits_in : Addr
  d_sits_in : FuncData
  f__law_start : Addr
  d__law_start : FuncData
  f__law_draw : Addr
  d__law_draw : FuncData
  f__law_row : Addr
  d__law_row : FuncData
  f__law_list : Addr
  d__law_list : FuncData
  f__law_sits : Addr
  d__law_sits : FuncData
  f__law_told : Addr
  d__law_told : FuncData
  f__law_harder : Addr
  d__law_harder : FuncData
  f_law : Addr
  d_law : FuncData
  C_ParcelError : Addr
  C_BadRow : Addr
  C_Unlike : Addr
  i_BadRow : Addr
/-- what the top has written -/
structure Txt (P : Program) (w : World) (K : PySem.W.Frag) (mg : Str → Option Value) (A : Ad) : Prop where
  F_is_integer : Fun K "is_integer" "is_integer" s_is_integer A.f_is_integer A.d_is_integer
  g_is_integer : mg "is_integer" = some (.ref A.f_is_integer)
  F_is_row : Fun K "is_row" "is_row" s_is_row A.f_is_row A.d_is_row
  g_is_row : mg "is_row" = some (.ref A.f_is_row)
  F_check_row : Fun K "check_row" "check_row" s_check_row A.f_check_row A.d_check_row
  g_check_row : mg "check_row" = some (.ref A.f_check_row)
  F_sits_in : Fun K "sits_in" "sits_in" s_sits_in A.f_sits_in A.d_sits_in
  g_sits_in : mg "sits_in" = some (.ref A.f_sits_in)
  F__law_start : Fun K "_law_start" "_law_start" s__law_start A.f__law_start A.d__law_start
  g__law_start : mg "_law_start" = some (.ref A.f__law_start)
  F__law_draw : Fun K "_law_draw" "_law_draw" s__law_draw A.f__law_draw A.d__law_draw
  g__law_draw : mg "_law_draw" = some (.ref A.f__law_draw)
  F__law_row : Fun K "_law_row" "_law_row" s__law_row A.f__law_row A.d__law_row
  g__law_row : mg "_law_row" = some (.ref A.f__law_row)
  F__law_list : Fun K "_law_list" "_law_list" s__law_list A.f__law_list A.d__law_list
  g__law_list : mg "_law_list" = some (.ref A.f__law_list)
  F__law_sits : Fun K "_law_sits" "_law_sits" s__law_sits A.f__law_sits A.d__law_sits
  g__law_sits : mg "_law_sits" = some (.ref A.f__law_sits)
  F__law_told : Fun K "_law_told" "_law_told" s__law_told A.f__law_told A.d__law_told
  g__law_told : mg "_law_told" = some (.ref A.f__law_told)
  F__law_harder : Fun K "_law_harder" "_law_harder" s__law_harder A.f__law_harder A.d__law_harder
  g__law_harder : mg "_law_harder" = some (.ref A.f__law_harder)
  F_law : Fun K "law" "law" s_law A.f_law A.d_law
  g_law : mg "law" = some (.ref A.f_law)
  g_ParcelError : mg "ParcelError" = some (.ref A.C_ParcelError)
  g_BadRow : mg "BadRow" = some (.ref A.C_BadRow)
  g_Unlike : mg "Unlike" = some (.ref A.C_Unlike)
  E_BadRow : WpE.ErrC P K A.C_BadRow A.i_BadRow "BadRow.__init__" (defArgs s_BadRow___init__) (defBody s_BadRow___init__) (defScope s_BadRow___init__)
  N_BadRow : WpE.ErrInit P w K mg A.C_BadRow A.i_BadRow ["value"]
  x_Unlike : PySem.W.excIn K A.C_Unlike [.type "ValueError", .type "Exception", .type "BaseException", .type "object"] "ValueError.__new__" = true
  k_Unlike : PySem.W.keepIn K (.ref A.C_Unlike) = true
  xb_Unlike : PySem.W.subIn K (.ref A.C_Unlike) (.type "BaseException") = some true
  xt_Unlike : PySem.W.typeIn K (.ref A.C_Unlike) = some (.type "type")
  xf_BadRow : L2.XfC K A.C_BadRow
  ex_BadRow : L2.ExcC K A.C_BadRow
  nf_BadRow_value : PySem.W.findIn K (.ref A.C_BadRow) "value" = some none
  te_BadRow_BadRow : PySem.W.exmOne K (.ref A.C_BadRow) (.ref A.C_BadRow) = some true
  te_Unlike_BadRow : PySem.W.exmOne K (.ref A.C_Unlike) (.ref A.C_BadRow) = some false
  te_Unlike_Unlike : PySem.W.exmOne K (.ref A.C_Unlike) (.ref A.C_Unlike) = some true
  b_isinstance : mg "isinstance" = none
  b_int : mg "int" = none
  b_bool : mg "bool" = none
  b_len : mg "len" = none
  b_abs : mg "abs" = none
  b_range : mg "range" = none
  b_tuple : mg "tuple" = none
  b_list : mg "list" = none
  b_sum : mg "sum" = none
  b_all : mg "all" = none
  c_MOST_LENGTH : ∃ u, mg "MOST_LENGTH" = some u ∧ RelV (.int 4) u
  c_MOST_SUM : ∃ u, mg "MOST_SUM" = some u ∧ RelV (.int 24) u
section
variable {P : Program} {w : World} {K : PySem.W.Frag} {mg : Str → Option Value} {base : Heap} {A : Ad}
def spIsInt (K : PySem.W.Frag) : Sp := fun vs H Q _ => ∃ (x : V) (t : String), vs = [x] ∧ Vk K H x t ∧ Q (.bl (isI x)) H
theorem ok_is_integer (T : Txt P w K mg A) : Cal P w K mg base 1 "is_integer" A.f_is_integer (spIsInt K) := by
  refine ⟨Fun.okR T.F_is_integer sc_is_integer (T.F_is_integer.binds fun _ _ _ _ _ _ us hl => match us, hl with | [_], _ => rfl) (fun vs H Q E h => ?_) (fun cdv A' outer s H vs Q E hr h => ?_), T.F_is_integer.kp, T.g_is_integer⟩
  · obtain ⟨_, _, rfl, _⟩ := h
    rfl
  · obtain ⟨x, t, rfl, hk', k⟩ := h
    refine ⟨_, (pss_one (ps_ret (pe_and (pe_callB (kcall_isV (K := K) rfl) (by rfl) T.b_isinstance (show bootBuiltins "isinstance" = some (.builtin "isinstance") from by decide +kernel) (pa_cons (pv 0) (pa_cons (pe_bltn (v := .ty "int") (u := .type "int") (by rfl) T.b_int (by decide +kernel) rfl) pa_nil))) (pe_one (pe_not (pe_callB (kcall_isV (K := K) rfl) (by rfl) T.b_isinstance (show bootBuiltins "isinstance" = some (.builtin "isinstance") from by decide +kernel) (pa_cons (pv 0) (pa_cons (pe_bltn (v := .ty "bool") (u := .type "bool") (by rfl) T.b_bool (by decide +kernel) rfl) pa_nil)))))))), ?_⟩
    simp only [L2.start, N_is_integer, cxOf, List.map_cons, List.map_nil, List.length_cons, List.length_nil, Nat.reduceAdd, Nat.reduceSub, List.replicate, List.cons_append, List.nil_append, List.append_nil]
    walk_at "rd"
    refine i_isV hk' (vk_int hk') ?_
    walk_at "rd"
    refine ifb (fun e => ?_) (fun e => ?_)
    · walk_at "rd"
      refine i_isV hk' (vk_bool hk') ?_
      walk_at "rd"
      have z : (!isB x) = isI x := by cases x <;> first | rfl | cases e
      rw [z]
      exact k
    · have z : isI x = false := by cases x <;> first | rfl | cases e
      rw [z] at k
      exact k
def numE : PyData → Bool
  | .int _ => true
  | .bool _ => true
  | .none => true
  | _ => false
def okE : PyData → Bool
  | .int i => decide (0 ≤ i)
  | _ => false
def valE : PyData → Int
  | .int i => i
  | _ => 0
def isRow : PyData → Bool
  | .tuple ds => decide (1 ≤ ds.length) && (decide (ds.length ≤ 4) && (ds.all okE && (decide (1 ≤ (ds.map valE).sum) && decide ((ds.map valE).sum ≤ 24))))
  | _ => false
def isTup : PyData → Bool
  | .tuple _ => true
  | _ => false
theorem vk_tup {K : PySem.W.Frag} {H : Hp} {v : V} {d : PyData} (h : Dp K H v d) : ∃ t, Vk K H v t ∧ kitB t "tuple" = some (isTup d) := by
  cases h with
  | non => exact ⟨_, .non, (by decide +kernel : kitB "NoneType" "tuple" = some false)⟩
  | bl b => exact ⟨_, .bl b, (by decide +kernel : kitB "bool" "tuple" = some false)⟩
  | int i => exact ⟨_, .int i, (by decide +kernel : kitB "int" "tuple" = some false)⟩
  | str x => exact ⟨_, .str x, (by decide +kernel : kitB "str" "tuple" = some false)⟩
  | lst h _ => exact ⟨_, .lst h, (by decide +kernel : kitB "list" "tuple" = some false)⟩
  | tup h _ => exact ⟨_, .tup h, (by decide +kernel : kitB "tuple" "tuple" = some true)⟩
theorem okE_ints : ∀ {ds : List PyData}, ds.all okE = true → ∃ ns : List Int, ds = dI ns ∧ (ds.map valE) = ns ∧ ∀ n ∈ ns, 0 ≤ n
  | [], _ => ⟨[], rfl, rfl, by simp⟩
  | d :: ds, h => by
    simp only [List.all_cons, Bool.and_eq_true] at h
    obtain ⟨ns, e1, e2, e3⟩ := okE_ints h.2
    cases d with
    | int i =>
      have h1 : 0 ≤ i := by simpa [okE] using h.1
      refine ⟨i :: ns, by rw [e1]; rfl, by simp [valE, e2], fun n z => ?_⟩
      rcases List.mem_cons.mp z with rfl | z
      · exact h1
      · exact e3 n z
    | _ => cases h.1
theorem all_take {α : Type} {p : α → Bool} {ds : List α} {i : Nat} {d : α} (h : (ds.take i).all p = true) (e : ds[i]? = some d) (k : p d = true) : (ds.take (i + 1)).all p = true := by
  rw [List.take_add_one, e]
  simp [h, k]
theorem all_bad {α : Type} {p : α → Bool} {ds : List α} {i : Nat} {d : α} (e : ds[i]? = some d) (k : p d = false) : ds.all p = false := by
  rw [List.all_eq_false]
  exact ⟨d, List.mem_of_getElem? e, by simp [k]⟩
def spIsRow (K : PySem.W.Frag) : Sp := fun vs H Q _ => ∃ (v : V) (d : PyData), vs = [v] ∧ Dp K H v d ∧ Q (.bl (isRow d)) H
theorem ok_is_row (T : Txt P w K mg A) : Cal P w K mg base 2 "is_row" A.f_is_row (spIsRow K) := by
  have c_is_integer := ok_is_integer (base := base) T
  refine ⟨Fun.okR T.F_is_row sc_is_row (T.F_is_row.binds fun _ _ _ _ _ _ us hl => match us, hl with | [_], _ => rfl) (fun vs H Q E h => ?_) (fun cdv A' outer s H vs Q E hr h => ?_), T.F_is_row.kp, T.g_is_row⟩
  · obtain ⟨_, _, rfl, _⟩ := h
    rfl
  · obtain ⟨v, d, rfl, hv, k⟩ := h
    refine ⟨_, (pss_cons (ps_if (PW.pt (pw_or (pt_not (pt_val (pe_callB (kcall_isV (K := K) rfl) (by rfl) T.b_isinstance (show bootBuiltins "isinstance" = some (.builtin "isinstance") from by decide +kernel) (pa_cons (pv 0) (pa_cons (pe_bltn (v := .ty "tuple") (u := .type "tuple") (by rfl) T.b_tuple (by decide +kernel) rfl) pa_nil))))) (pw_or (pt_cmp (pc_lt (pe_callB (kw_len (K := K) rfl) (by rfl) T.b_len (show bootBuiltins "len" = some (.builtin "len") from by decide +kernel) (pa_cons (pv 0) pa_nil)) pe_int)) (pw_or1 (pt_cmp (pc_gt (pe_callB (kw_len (K := K) rfl) (by rfl) T.b_len (show bootBuiltins "len" = some (.builtin "len") from by decide +kernel) (pa_cons (pv 0) pa_nil)) (C8.pe_gc (by rfl) T.c_MOST_LENGTH))))))) (pss_one (ps_ret pe_bl)) pss_nil)
          (pss_cons (ps_for (passes_of rfl) rfl (kpi_tup (K := K) rfl (pv 0)) (pg_name (i := 1) sc_is_row.nd rfl (by first | exact Or.inl rfl | exact Or.inr rfl))
          (pss_one (ps_if (PW.pt (pw_or (pt_not (pt_val (pc_fn c_is_integer (hr.mono (by decide)) (takes_of rfl rfl rfl rfl) (pa_cons (pv 1) pa_nil)))) (pw_or1 (pt_cmp (pc_lt (pv 1) pe_int))))) (pss_one (ps_ret pe_bl)) pss_nil)))
          (pss_one (ps_ret (pe_chain op_le op_le pe_int (pe_callB (kcr_sumT (K := K) rfl rfl) (by rfl) T.b_sum (show bootBuiltins "sum" = some (.builtin "sum") from by decide +kernel) (pa_cons (pv 0) pa_nil)) (C8.pe_gc (by rfl) T.c_MOST_SUM)))))), ?_⟩
    simp only [L2.start, N_is_row, cxOf, List.map_cons, List.map_nil, List.length_cons, List.length_nil, Nat.reduceAdd, Nat.reduceSub, List.replicate, List.cons_append, List.nil_append, List.append_nil]
    walk_at "rd"
    obtain ⟨t, kv, kt⟩ := vk_tup hv
    refine i_isV kv kt ?_
    walk_at "rd"
    cases d with
    | tuple ds =>
      obtain ⟨a, xs, rfl, hs, al⟩ := dp_tup hv
      have hl := DpAll.len al
      refine iteF ?_
      walk_at "rd"
      rw [hl]
      refine ifd (fun c1 => ?_) (fun c1 => ?_)
      · walk_at "rd"
        have z : isRow (.tuple ds) = false := by simp [isRow]; omega
        rw [z] at k
        exact k
      walk_at "rd"
      rw [hl]
      refine ifd (fun c2 => ?_) (fun c2 => ?_)
      · walk_at "rd"
        have z : isRow (.tuple ds) = false := by simp [isRow]; omega
        rw [z] at k
        exact k
      walk_at "rd"
      refine loop_T (xs := xs) (fun i σ H' => H' = H ∧ (∃ o1, σ = [some (.ref a), o1]) ∧ (ds.take i).all okE = true) ⟨rfl, ⟨_, rfl⟩, by simp⟩ (fun i σ H' _ h => h.1 ▸ hs) ?_ ?_
      · rintro i x σ H' N hx ⟨rfl, ⟨o1, rfl⟩, ha⟩ hN
        obtain ⟨e, he, hde⟩ := DpAll.at al hx
        obtain ⟨te, ke⟩ := Vk.of hde
        have bad : okE e = false → isRow (.tuple ds) = false := fun z => by simp [isRow, all_bad he z]
        walk_at "rd"
        refine ⟨x, te, rfl, ke, ?_⟩
        walk_at "rd"
        refine ifb (fun c3 => ?_) (fun c3 => ?_)
        · walk_at "rd"
          rw [bad (by cases hde <;> first | rfl | cases c3)] at k
          exact k
        obtain ⟨n, rfl⟩ := isI_int (by simpa using c3)
        obtain rfl : e = .int n := by cases hde; rfl
        walk_at "rd"
        refine ifd (fun c4 => ?_) (fun c4 => ?_)
        · walk_at "rd"
          rw [bad (by simp [okE]; omega)] at k
          exact k
        walk_at "rd"
        exact ⟨rfl, ⟨_, rfl⟩, all_take ha he (by simp [okE]; omega)⟩
      · rintro σ H' ⟨rfl, ⟨o1, rfl⟩, ha⟩
        rw [hl, List.take_length] at ha
        obtain ⟨ns, rfl, e2, e3⟩ := okE_ints ha
        rw [dpi al] at hs
        walk_at "rd"
        simp only [isRow, ha, e2, Bool.true_and] at k
        have y1 : decide (1 ≤ (dI ns).length) = true := by simp; omega
        have y2 : decide ((dI ns).length ≤ 4) = true := by simp; omega
        simp only [y1, y2, Bool.true_and] at k
        refine ifd (fun c5 => ?_) (fun c5 => ?_)
        · walk_at "rd"
          have y3 : decide (1 ≤ ns.sum) = true := by simpa using c5
          rw [y3, Bool.true_and] at k
          exact k
        · walk_at "rd"
          have y3 : decide (1 ≤ ns.sum) = false := by simpa using c5
          rw [y3, Bool.false_and] at k
          exact k
    | _ => exact k
def spCheckRow (K : PySem.W.Frag) (C : Addr) : Sp := fun vs H Q E => ∃ (v : V) (d : PyData), vs = [v] ∧ Dp K H v d ∧ (isRow d = true → Q v H) ∧ (isRow d = false → ∀ p, H p = none → E (.ref C) (some p) (upd H p (.xd [(("value" : Str), v)])))
theorem ok_check_row (T : Txt P w K mg A) : Cal P w K mg base 3 "check_row" A.f_check_row (spCheckRow K A.C_BadRow) := by
  have c_is_row := ok_is_row (base := base) T
  refine ⟨Fun.okR T.F_check_row sc_check_row (T.F_check_row.binds fun _ _ _ _ _ _ us hl => match us, hl with | [_], _ => rfl) (fun vs H Q E h => ?_) (fun cdv A' outer s H vs Q E hr h => ?_), T.F_check_row.kp, T.g_check_row⟩
  · obtain ⟨_, _, rfl, _⟩ := h
    rfl
  · obtain ⟨v, d, rfl, hv, k1, k2⟩ := h
    refine ⟨_, (pss_cons (ps_if (pt_not (pt_val (pc_fn c_is_row (hr.mono (by decide)) (takes_of rfl rfl rfl rfl) (pa_cons (pv 0) pa_nil)))) (pss_one (WpE.ps_raiseE rfl T.E_BadRow T.N_BadRow T.g_BadRow hr (by decide) (takes_of rfl rfl rfl rfl) (pa_cons (pv 0) pa_nil))) pss_nil)
          (pss_one (ps_ret (pv 0)))), ?_⟩
    simp only [L2.start, N_check_row, cxOf, List.map_cons, List.map_nil, List.length_cons, List.length_nil, Nat.reduceAdd, Nat.reduceSub, List.replicate, List.cons_append, List.nil_append, List.append_nil]
    walk_at "rd"
    refine ⟨v, d, rfl, hv, ?_⟩
    walk_at "rd"
    refine ifb (fun c => ?_) (fun c => ?_)
    · walk_at "rd"
      exact ⟨rfl, fun p hp => k2 (by simpa using c) p hp⟩
    · walk_at "rd"
      exact k1 (by simpa using c)
theorem ok__law_start (T : Txt P w K mg A) : Cal P w K mg base 1 "_law_start" A.f__law_start (spStart K) := by
  refine ⟨start_abs <| Fun.okR T.F__law_start sc__law_start (T.F__law_start.binds fun _ _ _ _ _ _ us hl => match us, hl with | [_], _ => rfl) (fun vs H Q E h => ?_) (fun cdv A' outer s H vs Q E hr h => ?_), T.F__law_start.kp, T.g__law_start⟩
  · obtain ⟨_, _, rfl, _⟩ := h
    rfl
  · obtain ⟨a, ns, rfl, hS, hl, k⟩ := h
    refine ⟨_, (pss_cons (ps_set (i := 1) sc__law_start.nd rfl (by first | exact Or.inl rfl | exact Or.inr rfl) pe_int)
          (pss_cons (ps_if (pt_cmp (pc_gt (pe_callB (kw_len (K := K) rfl) (by rfl) T.b_len (show bootBuiltins "len" = some (.builtin "len") from by decide +kernel) (pa_cons (pv 0) pa_nil)) pe_int)) (pss_one (ps_set (i := 1) sc__law_start.nd rfl (by first | exact Or.inl rfl | exact Or.inr rfl) (pe_ix (kix_list (K := K) rfl) (pv 0) pe_int (fun _ _ => rfl)))) pss_nil)
          (pss_one (ps_ret (pe_lst (pa_cons (pe_callB w_abs (by rfl) T.b_abs (show bootBuiltins "abs" = some (.builtin "abs") from by decide +kernel) (pa_cons (pe_callTy w_int (by rfl) T.b_int (show bootBuiltins "int" = some (.type "int") from by decide +kernel) (pa_cons (pv 1) pa_nil)) pa_nil)) (pa_cons (pe_callTy w_int (by rfl) T.b_int (show bootBuiltins "int" = some (.type "int") from by decide +kernel) (pa_cons (pe_cmp (pc_ge (pe_callB w_abs (by rfl) T.b_abs (show bootBuiltins "abs" = some (.builtin "abs") from by decide +kernel) (pa_cons (pe_callTy w_int (by rfl) T.b_int (show bootBuiltins "int" = some (.type "int") from by decide +kernel) (pa_cons (pv 1) pa_nil)) pa_nil)) (pe_op op_pow pe_int pe_int)) rfl) pa_nil)) (pa_cons pe_int (pa_cons pe_int pa_nil))))))))), ?_⟩
    simp only [L2.start, N__law_start, cxOf, List.map_cons, List.map_nil, List.length_cons, List.length_nil, Nat.reduceAdd, Nat.reduceSub, List.replicate, List.cons_append, List.nil_append, List.append_nil]
    walk_at "rd0"
    cases ns with
    | nil =>
      walk_at "rd0"
      exact ⟨sz (by simp only [List.length_cons, List.length_nil]; omega), fun p hp => k p _ _ _ _ hp⟩
    | cons n0 ns =>
      walk_at "rd"
      refine ifd (fun _ => ?_) (fun e => absurd e (by simp))
      walk_at "rd0"
      exact ⟨sz (by simp only [List.length_cons, List.length_nil]; omega), fun p hp => k p _ _ _ _ hp⟩
theorem ok__law_draw (T : Txt P w K mg A) : Cal P w K mg base 1 "_law_draw" A.f__law_draw (spDraw K) := by
  refine ⟨draw_abs <| Fun.okR T.F__law_draw sc__law_draw (T.F__law_draw.binds fun _ _ _ _ _ _ us hl => match us, hl with | [_, _, _], _ => rfl) (fun vs H Q E h => ?_) (fun cdv A' outer s H vs Q E hr h => ?_), T.F__law_draw.kp, T.g__law_draw⟩
  · obtain ⟨_, _, _, _, _, _, _, _, rfl, _⟩ := h
    rfl
  · obtain ⟨a, st, ns, n, x0, x1, x2, x3, rfl, hS, hl, hst, n0, n1, k⟩ := h
    refine ⟨_, (pss_cons (ps_asg (pe_op op_add (pe_ix (kix_list (K := K) rfl) (pv 1) pe_int (fun _ _ => rfl)) pe_int) (pg_sub (pv 1) pe_int set_list))
          (pss_cons (ps_if (PW.pt (pw_and (pt_cmp (pc_eqI (pe_ix (kix_list (K := K) rfl) (pv 1) pe_int (fun _ _ => rfl)) pe_int)) (pw_and1 (pt_cmp (pc_gt (pe_ix (kix_list (K := K) rfl) (pv 1) pe_int (fun _ _ => rfl)) pe_int))))) (pss_cons (ps_set (i := 3) sc__law_draw.nd rfl (by first | exact Or.inl rfl | exact Or.inr rfl) (pe_op op_mod (pe_callTy w_int (by rfl) T.b_int (show bootBuiltins "int" = some (.type "int") from by decide +kernel) (pa_cons (pe_ix (kix_list (K := K) rfl) (pv 1) pe_int (fun _ _ => rfl)) pa_nil)) (pv 2)))
          (pss_cons (ps_asg (pe_op op_fdiv (pe_ix (kix_list (K := K) rfl) (pv 1) pe_int (fun _ _ => rfl)) (pv 2)) (pg_sub (pv 1) pe_int set_list))
          (pss_one (ps_ret (pv 3))))) pss_nil)
          (pss_cons (ps_asg pe_int (pg_sub (pv 1) pe_int set_list))
          (pss_cons (ps_set (i := 4) sc__law_draw.nd rfl (by first | exact Or.inl rfl | exact Or.inr rfl) pe_int)
          (pss_cons (ps_if (pt_cmp (pc_gt (pe_callB (kw_len (K := K) rfl) (by rfl) T.b_len (show bootBuiltins "len" = some (.builtin "len") from by decide +kernel) (pa_cons (pv 0) pa_nil)) pe_int)) (pss_one (ps_set (i := 4) sc__law_draw.nd rfl (by first | exact Or.inl rfl | exact Or.inr rfl) (pe_ix (kix_list (K := K) rfl) (pv 0) (pe_op op_mod (pe_callTy w_int (by rfl) T.b_int (show bootBuiltins "int" = some (.type "int") from by decide +kernel) (pa_cons (pe_ix (kix_list (K := K) rfl) (pv 1) pe_int (fun _ _ => rfl)) pa_nil)) (pe_callB (kw_len (K := K) rfl) (by rfl) T.b_len (show bootBuiltins "len" = some (.builtin "len") from by decide +kernel) (pa_cons (pv 0) pa_nil))) (fun _ _ => rfl)))) pss_nil)
          (pss_cons (ps_asg (pe_op op_add (pe_ix (kix_list (K := K) rfl) (pv 1) pe_int (fun _ _ => rfl)) pe_int) (pg_sub (pv 1) pe_int set_list))
          (pss_cons (ps_set (i := 5) sc__law_draw.nd rfl (by first | exact Or.inl rfl | exact Or.inr rfl) (pe_op op_mul (pe_op op_mod (pe_callTy w_int (by rfl) T.b_int (show bootBuiltins "int" = some (.type "int") from by decide +kernel) (pa_cons (pe_ix (kix_list (K := K) rfl) (pv 1) pe_int (fun _ _ => rfl)) pa_nil)) pe_int) pe_int))
          (pss_cons (ps_set (i := 5) sc__law_draw.nd rfl (by first | exact Or.inl rfl | exact Or.inr rfl) (pe_op op_add (pe_op op_add (pe_op op_add (pv 5) (pe_op op_mod (pe_callTy w_int (by rfl) T.b_int (show bootBuiltins "int" = some (.type "int") from by decide +kernel) (pa_cons (pv 4) pa_nil)) pe_int)) (pe_op op_mul pe_int (pe_ix (kix_list (K := K) rfl) (pv 1) pe_int (fun _ _ => rfl)))) pe_int))
          (pss_cons (ps_asg (pe_op op_mod (pe_callTy w_int (by rfl) T.b_int (show bootBuiltins "int" = some (.type "int") from by decide +kernel) (pa_cons (pv 5) pa_nil)) pe_int) (pg_sub (pv 1) pe_int set_list))
          (pss_cons (ps_set (i := 5) sc__law_draw.nd rfl (by first | exact Or.inl rfl | exact Or.inr rfl) (pe_op op_mod (pe_callTy w_int (by rfl) T.b_int (show bootBuiltins "int" = some (.type "int") from by decide +kernel) (pa_cons (pe_op op_add (pe_op op_mul (pe_ix (kix_list (K := K) rfl) (pv 1) pe_int (fun _ _ => rfl)) pe_int) (pe_ix (kix_list (K := K) rfl) (pv 1) pe_int (fun _ _ => rfl))) pa_nil)) pe_int))
          (pss_one (ps_ret (pe_op op_mod (pe_callTy w_int (by rfl) T.b_int (show bootBuiltins "int" = some (.type "int") from by decide +kernel) (pa_cons (pe_op op_fdiv (pv 5) pe_int) pa_nil)) (pv 2)))))))))))))), ?_⟩
    simp only [L2.start, N__law_draw, cxOf, List.map_cons, List.map_nil, List.length_cons, List.length_nil, Nat.reduceAdd, Nat.reduceSub, List.replicate, List.cons_append, List.nil_append, List.append_nil]
    walk_at "rd"
    refine ifd (fun e1 => ?_) (fun e1 => ?_)
    · walk_at "rd"
      refine ifd (fun e2 => ?_) (fun e2 => ?_)
      · walk_at "rd"
        exact k _ _ _ _ _ (Int.emod_nonneg _ (by omega)) (Int.emod_lt_of_pos _ n0)
      · walk_at "rd"
        refine ifd (fun e3 => ?_) (fun e3 => ?_)
        · walk_at "rd"
          rw [List.length_map] at e3 ⊢
          obtain ⟨z, ez, _⟩ := at_ints (ns := ns) (Int.emod_nonneg x2 (show (ns.length : Int) ≠ 0 by omega)) (Int.emod_lt_of_pos x2 e3)
          refine i_ixL (hS _) ez ?_
          walk_at "rd"
          exact k _ _ _ _ _ (Int.emod_nonneg _ (by omega)) (Int.emod_lt_of_pos _ n0)
        · walk_at "rd"
          exact k _ _ _ _ _ (Int.emod_nonneg _ (by omega)) (Int.emod_lt_of_pos _ n0)
    · walk_at "rd"
      refine ifd (fun e3 => ?_) (fun e3 => ?_)
      · walk_at "rd"
        rw [List.length_map] at e3 ⊢
        obtain ⟨z, ez, _⟩ := at_ints (ns := ns) (Int.emod_nonneg x2 (show (ns.length : Int) ≠ 0 by omega)) (Int.emod_lt_of_pos x2 e3)
        refine i_ixL (hS _) ez ?_
        walk_at "rd"
        exact k _ _ _ _ _ (Int.emod_nonneg _ (by omega)) (Int.emod_lt_of_pos _ n0)
      · walk_at "rd"
        exact k _ _ _ _ _ (Int.emod_nonneg _ (by omega)) (Int.emod_lt_of_pos _ n0)
def intsD : PyData → List Int
  | .tuple ds => ds.map valE
  | _ => []
def sits (xs ys : List Int) : Bool := (List.range xs.length).all fun k => decide ((xs.take (k + 1)).sum ≤ (ys.take (k + 1)).sum)
theorem row_ints {K : PySem.W.Frag} {H : Hp} {v : V} {d : PyData} (h : Dp K H v d) (r : isRow d = true) : ∃ a ns, v = .ref a ∧ d = tI ns ∧ intsD d = ns ∧ SqT K H a (ns.map V.int) ∧ 1 ≤ ns.length ∧ ns.length ≤ 4 ∧ (∀ n ∈ ns, 0 ≤ n) ∧ 1 ≤ ns.sum ∧ ns.sum ≤ 24 := by
  cases d with
  | tuple ds =>
    simp only [isRow, Bool.and_eq_true, decide_eq_true_eq] at r
    obtain ⟨ns, rfl, e2, e3⟩ := okE_ints r.2.2.1
    obtain ⟨a, xs, rfl, hs, al⟩ := dp_tup h
    rw [dpi al] at hs
    have l : (dI ns).length = ns.length := by simp [dI]
    refine ⟨a, ns, rfl, rfl, e2, hs, by omega, by omega, e3, ?_, ?_⟩
    · rw [← e2]; exact r.2.2.2.1
    · rw [← e2]; exact r.2.2.2.2
  | _ => cases r
theorem row_of {ns : List Int} (h1 : 1 ≤ ns.length) (h2 : ns.length ≤ 4) (h3 : ∀ n ∈ ns, 0 ≤ n) (h4 : 1 ≤ ns.sum) (h5 : ns.sum ≤ 24) : isRow (tI ns) = true := by
  have e : (dI ns).map valE = ns := by
    unfold dI
    rw [List.map_map]
    exact List.map_id'' (fun _ => rfl) ns
  have a : (dI ns).all okE = true := by
    rw [List.all_eq_true]
    intro d z
    obtain ⟨n, hn, rfl⟩ := List.mem_map.mp z
    simpa [okE] using h3 n hn
  have l : (dI ns).length = ns.length := by simp [dI]
  simp only [isRow, tI, a, e, l, Bool.true_and, Bool.and_eq_true, decide_eq_true_eq]
  exact ⟨h1, h2, h4, h5⟩
def spSits (K : PySem.W.Frag) (CR CU : Addr) : Sp := fun vs H Q E => ∃ (v w : V) (d e : PyData), vs = [v, w] ∧ Dp K H v d ∧ Dp K H w e ∧
  (isRow d = false → ∀ p, H p = none → E (.ref CR) (some p) (upd H p (.xd [(("value" : Str), v)]))) ∧
  (isRow d = true → isRow e = false → ∀ p, H p = none → E (.ref CR) (some p) (upd H p (.xd [(("value" : Str), w)]))) ∧
  (isRow d = true → isRow e = true → (intsD d).length ≠ (intsD e).length → E (.ref CU) none H) ∧
  (isRow d = true → isRow e = true → (intsD d).length = (intsD e).length → ∀ H', Ext H H' → Q (.bl (sits (intsD d) (intsD e))) H')
theorem ok_sits_in (T : Txt P w K mg A) : Cal P w K mg base 4 "sits_in" A.f_sits_in (spSits K A.C_BadRow A.C_Unlike) := by
  have c_check_row := ok_check_row (base := base) T
  refine ⟨Fun.okR T.F_sits_in sc_sits_in (T.F_sits_in.binds fun _ _ _ _ _ _ us hl => match us, hl with | [_, _], _ => rfl) (fun vs H Q E h => ?_) (fun cdv A' outer s H vs Q E hr h => ?_), T.F_sits_in.kp, T.g_sits_in⟩
  · obtain ⟨_, _, _, _, rfl, _⟩ := h
    rfl
  · obtain ⟨v, w, d, e, rfl, hv, hw, k1, k2, k3, k4⟩ := h
    refine ⟨_, (pss_cons (ps_expr (pc_fn c_check_row (hr.mono (by decide)) (takes_of rfl rfl rfl rfl) (pa_cons (pv 0) pa_nil)))
          (pss_cons (ps_expr (pc_fn c_check_row (hr.mono (by decide)) (takes_of rfl rfl rfl rfl) (pa_cons (pv 1) pa_nil)))
          (pss_cons (ps_if (pt_cmp (pc_neI (pe_callB (kw_len (K := K) rfl) (by rfl) T.b_len (show bootBuiltins "len" = some (.builtin "len") from by decide +kernel) (pa_cons (pv 0) pa_nil)) (pe_callB (kw_len (K := K) rfl) (by rfl) T.b_len (show bootBuiltins "len" = some (.builtin "len") from by decide +kernel) (pa_cons (pv 1) pa_nil)))) (pss_one (ps_raise rfl (takes_of rfl rfl rfl rfl) (pmk_own PySem.F.excBase_ValueError T.x_Unlike T.g_Unlike T.k_Unlike (raises_own T.xb_Unlike T.xt_Unlike) (by rfl)))) pss_nil)
          (pss_one (ps_ret (pe_callB (kcr_all (K := K) rfl rfl) (by rfl) T.b_all (show bootBuiltins "all" = some (.builtin "all") from by decide +kernel) (pa_cons (pe_lc (own := [("at", 2)]) (g := gName 2) (by rfl) sc_sits_in.nd (pi_range2 (by rfl) T.b_range (pa_cons pe_int (pa_cons (pe_op op_add (pe_callB (kw_len (K := K) rfl) (by rfl) T.b_len (show bootBuiltins "len" = some (.builtin "len") from by decide +kernel) (pa_cons (pv 0) pa_nil)) pe_int) pa_nil))) (blkOk_by (own := [("at", 2)]) (N := N_sits_in) (sc := defScope s_sits_in) (by decide +kernel)) (fun _ _ _ _ _ => (pg_name (i := 2) sc_sits_in.nd rfl (by first | exact Or.inl rfl | exact Or.inr rfl))) (fun _ _ _ _ _ => pts_nil) (fun _ _ _ _ _ => (pe_cmp (pc_le (pe_callB (kcr_sumT (K := K) rfl rfl) (by rfl) T.b_sum (show bootBuiltins "sum" = some (.builtin "sum") from by decide +kernel) (pa_cons (pe_slice (ksl_tupA (K := K) rfl) (pv 0) po_none (po_some (pv 2))) pa_nil)) (pe_callB (kcr_sumT (K := K) rfl rfl) (by rfl) T.b_sum (show bootBuiltins "sum" = some (.builtin "sum") from by decide +kernel) (pa_cons (pe_slice (ksl_tupA (K := K) rfl) (pv 1) po_none (po_some (pv 2))) pa_nil))) rfl))) pa_nil))))))), ?_⟩
    simp only [L2.start, N_sits_in, cxOf, List.map_cons, List.map_nil, List.length_cons, List.length_nil, Nat.reduceAdd, Nat.reduceSub, List.replicate, List.cons_append, List.nil_append, List.append_nil]
    walk_at "rd"
    refine ⟨v, d, rfl, hv, fun r1 => ?_, fun r1 p hp => k1 r1 p hp⟩
    walk_at "rd"
    refine ⟨w, e, rfl, hw, fun r2 => ?_, fun r2 p hp => k2 r1 r2 p hp⟩
    walk_at "rd"
    obtain ⟨a, ns, rfl, rfl, ea, ha, la1, la2, pa, sa1, sa2⟩ := row_ints hv r1
    obtain ⟨b, ms, rfl, rfl, eb, hb, lb1, lb2, pb, sb1, sb2⟩ := row_ints hw r2
    rw [ea, eb] at k3 k4
    walk_at "rd"
    simp only [List.length_map]
    refine ifnd (fun c => ?_) (fun c => ?_)
    · walk_at "rd"
      exact k3 r1 r2 (fun z => c (by omega))
    · walk_at "rd"
      simp only [List.length_map]
      walk_at "rd"
      have hn : (((ns.length : Int) + 1) - 1).toNat = ns.length := by omega
      rw [hn]
      refine lc_pure (K := K) walk_range (by omega) (fun _ _ => trivial) (fun i => some (.bool (decide ((ns.take (i + 1)).sum ≤ (ms.take (i + 1)).sum)))) (fun _ _ _ z => by cases z; rfl) ?_ ?_
      · rintro i x Hc Hx hi ec ⟨rfl, rfl⟩ Y1 N1 y1 n1
        have hi2 : (1 + (i : Int)).toNat = i + 1 := by omega
        walk_at "rd"
        intro p1 H1 e1 h1
        rw [cut_hi (by omega), hi2, ← List.map_take] at h1
        walk_at "rd"
        intro p2 H2 e2 h2
        rw [cut_hi (by omega), hi2, ← List.map_take] at h2
        walk_at "rd"
        exact y1 _ _ _ rfl (e1.trans e2) (.bl _)
      · rintro D Hf ys nD eD hD al
        have e : (List.range ns.length).filterMap (fun i => some (PyData.bool (decide ((ns.take (i + 1)).sum ≤ (ms.take (i + 1)).sum)))) = ((List.range ns.length).map fun i => decide ((ns.take (i + 1)).sum ≤ (ms.take (i + 1)).sum)).map PyData.bool := by
          rw [List.map_map]
          exact List.filterMap_eq_map (f := PyData.bool ∘ fun i => decide ((ns.take (i + 1)).sum ≤ (ms.take (i + 1)).sum)) ▸ rfl
        rw [e] at al
        have e2 := dpb al
        subst e2
        walk_at "rd"
        refine i_all (SqL.of hD) ?_
        rw [List.all_map]
        exact k4 r1 r2 (by omega) _ eD
def needsAt (k : Int) : List Int → List Int
  | [] => []
  | n :: r => List.replicate n.toNat k ++ needsAt (k + 1) r
theorem needsAt_snoc (y : Int) : ∀ (k : Int) (xs : List Int), needsAt k (xs ++ [y]) = needsAt k xs ++ List.replicate y.toNat (k + xs.length)
  | k, [] => by simp [needsAt]
  | k, x :: xs => by
    rw [List.cons_append, needsAt, needsAt_snoc y (k + 1) xs, needsAt, List.append_assoc]
    congr 3
    simp
    omega
theorem needsAt_ge : ∀ (k : Int) (xs : List Int), ∀ x ∈ needsAt k xs, k ≤ x
  | _, [], _, h => by simp [needsAt] at h
  | k, n :: r, x, h => by
    rcases List.mem_append.mp h with h | h
    · have := List.eq_of_mem_replicate h; omega
    · have := needsAt_ge (k + 1) r x h; omega
theorem needsAt_sorted : ∀ (k : Int) (xs : List Int), (needsAt k xs).Pairwise (· ≤ ·)
  | _, [] => by simp [needsAt]
  | k, n :: r => by
    rw [needsAt, List.pairwise_append]
    refine ⟨List.pairwise_replicate.mpr (.inr (Int.le_refl _)), needsAt_sorted (k + 1) r, fun a ha b hb => ?_⟩
    have h1 := List.eq_of_mem_replicate ha
    have h2 := needsAt_ge (k + 1) r b hb
    omega
def domL (as fs : List Int) : Prop := ∀ k : Int, as.countP (fun x => decide (x ≤ k)) ≤ fs.countP (fun x => decide (x ≤ k))
theorem count_lt {as : List Int} {m k : Int} (h : ∀ x ∈ as, m ≤ x) (hk : k < m) : as.countP (fun x => decide (x ≤ k)) = 0 := by
  rw [List.countP_eq_zero]
  intro x hx
  have := h x hx
  simp
  omega
theorem count_split {fs : List Int} {s : Nat} {x : Int} (h : fs[s]? = some x) (k : Int) : fs.countP (fun x => decide (x ≤ k)) = (fs.take s ++ fs.drop (s + 1)).countP (fun x => decide (x ≤ k)) + (if x ≤ k then 1 else 0) := by
  have hl : s < fs.length := (List.getElem?_eq_some_iff.mp h).1
  have e : fs = fs.take s ++ x :: fs.drop (s + 1) := by
    have := List.getElem?_eq_some_iff.mp h
    rw [← this.2, List.getElem_cons_drop, List.take_append_drop]
  conv => lhs; rw [e]
  rw [List.countP_append, List.countP_append, List.countP_cons]
  by_cases z : x ≤ k <;> simp [z] <;> omega
theorem dom_step {m : Int} {as fs : List Int} {s : Nat} {x : Int} (hs : ∀ y ∈ as, m ≤ y) (h : fs[s]? = some x) (hx : x ≤ m) : domL (m :: as) fs ↔ domL as (fs.take s ++ fs.drop (s + 1)) := by
  constructor
  · intro d k
    have z := d k
    rw [count_split h, List.countP_cons] at z
    by_cases hk : m ≤ k
    · have : x ≤ k := by omega
      simp only [hk, this, decide_true, if_true] at z
      omega
    · rw [count_lt hs (by omega)]
      omega
  · intro d k
    have z := d k
    rw [count_split h, List.countP_cons]
    by_cases hk : m ≤ k
    · have : x ≤ k := by omega
      simp only [hk, this, decide_true, if_true]
      omega
    · rw [count_lt hs (by omega)]
      simp [hk]
theorem dom_no {m : Int} {as fs : List Int} (h : ∀ x ∈ fs, ¬ x ≤ m) : ¬ domL (m :: as) fs := by
  intro d
  have z := d m
  have e : fs.countP (fun x => decide (x ≤ m)) = 0 := by
    rw [List.countP_eq_zero]
    intro x hx
    simpa using h x hx
  rw [e, List.countP_cons] at z
  simp at z
theorem dom_nil (fs : List Int) : domL [] fs := fun _ => by simp
theorem count_needs : ∀ (xs : List Int) (k j : Int), (∀ x ∈ xs, 0 ≤ x) → ((needsAt k xs).countP (fun x => decide (x ≤ j)) : Int) = (xs.take (j - k + 1).toNat).sum
  | [], k, j, _ => by simp [needsAt]
  | n :: r, k, j, h => by
    have hn : 0 ≤ n := h n List.mem_cons_self
    have ih := count_needs r (k + 1) j (fun x hx => h x (List.mem_cons_of_mem _ hx))
    rw [needsAt, List.countP_append, Int.natCast_add, ih]
    by_cases z : k ≤ j
    · have e1 : (j - k + 1).toNat = (j - (k + 1) + 1).toNat + 1 := by omega
      rw [e1, List.take_succ_cons, List.sum_cons]
      have e2 : (List.replicate n.toNat k).countP (fun x => decide (x ≤ j)) = n.toNat := by
        rw [List.countP_replicate]
        simp [z]
      rw [e2]
      omega
    · have e1 : (j - k + 1).toNat = 0 := by omega
      have e3 : (j - (k + 1) + 1).toNat = 0 := by omega
      have e2 : (List.replicate n.toNat k).countP (fun x => decide (x ≤ j)) = 0 := by
        rw [List.countP_replicate]
        simp [z]
      rw [e1, e2, e3]
      simp
theorem take_big {xs : List Int} {n : Nat} (h : xs.length ≤ n) : xs.take n = xs := List.take_of_length_le h
theorem sits_iff {xs ys : List Int} : sits xs ys = true ↔ ∀ k, k < xs.length → (xs.take (k + 1)).sum ≤ (ys.take (k + 1)).sum := by
  unfold sits
  rw [List.all_eq_true]
  constructor
  · intro h k hk
    simpa using h k (List.mem_range.mpr hk)
  · intro h k hk
    simpa using h k (List.mem_range.mp hk)
theorem dom_sits {xs ys : List Int} (hl : xs.length = ys.length) (h1 : 1 ≤ xs.length) (hx : ∀ x ∈ xs, 0 ≤ x) (hy : ∀ x ∈ ys, 0 ≤ x) : domL (needsAt 0 xs) (needsAt 0 ys) ↔ sits xs ys = true := by
  rw [sits_iff]
  constructor
  · intro d k hk
    have z := d k
    have a := count_needs xs 0 k hx
    have b := count_needs ys 0 k hy
    have e : ((k : Int) - 0 + 1).toNat = k + 1 := by omega
    rw [e] at a b
    omega
  · intro h k
    have a := count_needs xs 0 k hx
    have b := count_needs ys 0 k hy
    by_cases hk : k < 0
    · have e : (k - 0 + 1).toNat = 0 := by omega
      rw [e, List.take_zero, List.sum_nil] at a
      omega
    · by_cases hk2 : k.toNat < xs.length
      · have z := h k.toNat hk2
        have e : (k - 0 + 1).toNat = k.toNat + 1 := by omega
        rw [e] at a b
        omega
      · have z := h (xs.length - 1) (by omega)
        have e : xs.length - 1 + 1 = xs.length := by omega
        rw [e] at z
        rw [take_big (by omega)] at a b
        rw [take_big (Nat.le_refl _), take_big (by omega)] at z
        omega
theorem sits_refl (xs : List Int) : sits xs xs = true := sits_iff.mpr fun _ _ => Int.le_refl _
theorem sits_trans {xs ys zs : List Int} (hl : xs.length = ys.length) (h : sits xs ys = true) (k : sits ys zs = true) : sits xs zs = true :=
  sits_iff.mpr fun i hi => Int.le_trans (sits_iff.mp h i hi) (sits_iff.mp k i (hl ▸ hi))
def spRowL (K : PySem.W.Frag) : Sp := fun vs H Q _ => ∃ (a st : Addr) (ns : List Int) (n m : Int), vs = [.ref a, .ref st, .int n, .int m] ∧ SqL K H a (ns.map V.int) ∧ ns.length ≤ 63 ∧ H st = some (StO st) ∧ 1 ≤ n ∧ n ≤ 4 ∧ 1 ≤ m ∧ m ≤ 4 ∧
  ∀ H' p (ms : List Int), Ext H H' → SqT K H' p (ms.map V.int) → ms.length = n.toNat → (∀ x ∈ ms, 0 ≤ x ∧ x ≤ m) → 1 ≤ ms.sum → Q (.ref p) H'
theorem sum_nn : ∀ {ms : List Int}, (∀ x ∈ ms, 0 ≤ x) → 0 ≤ ms.sum
  | [], _ => by simp
  | x :: r, h => by
    have h1 := h x List.mem_cons_self
    have h2 := sum_nn (ms := r) fun y hy => h y (List.mem_cons_of_mem _ hy)
    rw [List.sum_cons]
    omega
theorem sum_set : ∀ (ms : List Int) (j : Nat) (v x : Int), ms[j]? = some x → (ms.set j v).sum = ms.sum - x + v
  | [], j, v, x, h => by simp at h
  | y :: r, 0, v, x, h => by
    simp at h
    subst h
    simp
    omega
  | y :: r, j + 1, v, x, h => by
    have := sum_set r j v x (by simpa using h)
    rw [List.set_cons_succ, List.sum_cons, List.sum_cons, this]
    omega
theorem set_all {P : Int → Prop} {ms : List Int} {j : Nat} {v : Int} (h : ∀ x ∈ ms, P x) (k : P v) : ∀ x ∈ ms.set j v, P x := fun x z => by
  rcases List.mem_or_eq_of_mem_set z with z | rfl
  · exact h x z
  · exact k
theorem map_set_int (ms : List Int) (j : Nat) (v : Int) : (ms.map V.int).set j (.int v) = (ms.set j v).map V.int := by rw [List.map_set]
theorem all_zero : ∀ {ms : List Int}, (∀ x ∈ ms, 0 ≤ x) → ms.sum = 0 → ∀ x ∈ ms, x = 0
  | [], _, _, _, h => by simp at h
  | y :: r, h, e, x, hx => by
    have h1 := h y List.mem_cons_self
    have h2 := sum_nn (ms := r) fun z hz => h z (List.mem_cons_of_mem _ hz)
    rw [List.sum_cons] at e
    rcases List.mem_cons.mp hx with rfl | hx
    · omega
    · exact all_zero (fun z hz => h z (List.mem_cons_of_mem _ hz)) (by omega) x hx
theorem ok__law_row (T : Txt P w K mg A) : Cal P w K mg base 2 "_law_row" A.f__law_row (spRowL K) := by
  have c__law_draw := ok__law_draw (base := base) T
  refine ⟨Fun.okR T.F__law_row sc__law_row (T.F__law_row.binds fun _ _ _ _ _ _ us hl => match us, hl with | [_, _, _, _], _ => rfl) (fun vs H Q E h => ?_) (fun cdv A' outer s H vs Q E hr h => ?_), T.F__law_row.kp, T.g__law_row⟩
  · obtain ⟨_, _, _, _, _, rfl, _⟩ := h
    rfl
  · obtain ⟨a, st, ns, n, m, rfl, hS, hl, hst, n1, n2, m1, m2, k⟩ := h
    refine ⟨_, (pss_cons (ps_set (i := 4) sc__law_row.nd rfl (by first | exact Or.inl rfl | exact Or.inr rfl) (pe_lst pa_nil))
          (pss_cons (ps_for (passes_of rfl) rfl (pi_range1 (by rfl) T.b_range (pa_cons (pv 2) pa_nil)) (pg_name (i := 5) sc__law_row.nd rfl (by first | exact Or.inl rfl | exact Or.inr rfl))
          (pss_one (ps_expr (pe_bm PySem.F.plainAttrs_list PySem.F.slot_list_append PySem.F.type_list_append mt_append (pv 4) (pa_cons (pc_fn c__law_draw (hr.mono (by decide)) (takes_of rfl rfl rfl rfl) (pa_cons (pv 0) (pa_cons (pv 1) (pa_cons (pe_op op_add (pv 3) pe_int) pa_nil)))) pa_nil)))))
          (pss_cons (ps_if (pt_cmp (pc_eqI (pe_callB (kcr_sum (K := K) rfl rfl) (by rfl) T.b_sum (show bootBuiltins "sum" = some (.builtin "sum") from by decide +kernel) (pa_cons (pv 4) pa_nil)) pe_int)) (pss_one (ps_asg pe_int (pg_sub (pv 4) (pc_fn c__law_draw (hr.mono (by decide)) (takes_of rfl rfl rfl rfl) (pa_cons (pv 0) (pa_cons (pv 1) (pa_cons (pv 2) pa_nil)))) set_list))) pss_nil)
          (pss_one (ps_ret (pe_callTy (kw_tuple (K := K) rfl) (by rfl) T.b_tuple (show bootBuiltins "tuple" = some (.type "tuple") from by decide +kernel) (pa_cons (pv 4) pa_nil))))))), ?_⟩
    simp only [L2.start, N__law_row, cxOf, List.map_cons, List.map_nil, List.length_cons, List.length_nil, Nat.reduceAdd, Nat.reduceSub, List.replicate, List.cons_append, List.nil_append, List.append_nil]
    walk_at "rd"
    intro p H1 np e1 hp
    walk_at "rd"
    refine loop_R (lo := 0) (n := n.toNat) (fun i σ H' => Ext H H' ∧ ∃ (ms : List Int) (o5 : Option V), σ = [some (.ref a), some (.ref st), some (.int n), some (.int m), some (.ref p), o5] ∧ H' p = some (.lst (ms.map V.int)) ∧ ms.length = i ∧ ∀ x ∈ ms, 0 ≤ x ∧ x ≤ m) ⟨e1, [], _, rfl, hp, rfl, by simp⟩ ?_ ?_
    · rintro i σ H2 N hi ⟨e2, ms, o5, rfl, hp2, hm, hb⟩ hN
      walk_at "rd"
      intro r a1 b1
      walk_at "rd"
      refine i_append hp2 (szl (by rw [List.length_map]; omega)) ?_
      walk_at "rd"
      refine ⟨e2.mut np, ms ++ [r], _, rfl, by rw [upd_same, List.map_append]; rfl, by simp [hm], fun x hx => ?_⟩
      rcases List.mem_append.mp hx with hx | hx
      · exact hb x hx
      · have := List.mem_singleton.mp hx
        omega
    · rintro σ H2 ⟨e2, ms, o5, rfl, hp2, hm, hb⟩
      walk_at "rd"
      refine ifd (fun c => ?_) (fun c => ?_)
      · walk_at "rd"
        intro r a1 b1
        walk_at "rd"
        have hj : r.toNat < ms.length := by omega
        refine i_setL hp2 (ixN_of a1 (by rw [List.length_map]; omega)) ?_
        walk_at "rd"
        intro q H3 nq e3 hq
        rw [map_set_int] at hq
        have z0 : ms[r.toNat]? = some 0 := by
          have e0 := all_zero (fun x hx => (hb x hx).1) c
          rw [List.getElem?_eq_getElem hj, e0 _ (List.getElem_mem hj)]
        refine k H3 q (ms.set r.toNat 1) ((e2.mut np).trans e3) (SqT.of hq) (by rw [List.length_set]; exact hm) (set_all hb (by omega)) ?_
        rw [sum_set _ _ _ _ z0]
        omega
      · walk_at "rd"
        intro q H3 nq e3 hq
        refine k H3 q ms (e2.trans e3) (SqT.of hq) hm hb ?_
        have := sum_nn fun x hx => (hb x hx).1
        omega
def spListL (K : PySem.W.Frag) : Sp := fun vs H Q _ => ∃ (a : Addr) (ns : List Int), vs = [.ref a] ∧ SqT K H a (ns.map V.int) ∧ ns.length ≤ 4 ∧ (∀ x ∈ ns, 0 ≤ x ∧ x ≤ 24) ∧ ∀ H' p, H p = none → Ext H H' → H' p = some (.lst ((needsAt 0 ns).map V.int)) → Q (.ref p) H'
theorem flat_rep (n : Nat) (x : V) : (List.replicate n [x]).flatten = List.replicate n x := by
  induction n with
  | zero => rfl
  | succ n ih => rw [List.replicate_succ, List.flatten_cons, ih, List.replicate_succ]; rfl
theorem needs_len : ∀ (k : Int) (xs : List Int), (∀ x ∈ xs, x ≤ 24) → (needsAt k xs).length ≤ 24 * xs.length
  | _, [], _ => by simp [needsAt]
  | k, n :: r, h => by
    have h1 := h n List.mem_cons_self
    have h2 := needs_len (k + 1) r fun x hx => h x (List.mem_cons_of_mem _ hx)
    rw [needsAt, List.length_append, List.length_replicate, List.length_cons]
    omega
theorem ok__law_list (T : Txt P w K mg A) : Cal P w K mg base 1 "_law_list" A.f__law_list (spListL K) := by
  refine ⟨Fun.okR T.F__law_list sc__law_list (T.F__law_list.binds fun _ _ _ _ _ _ us hl => match us, hl with | [_], _ => rfl) (fun vs H Q E h => ?_) (fun cdv A' outer s H vs Q E hr h => ?_), T.F__law_list.kp, T.g__law_list⟩
  · obtain ⟨_, _, rfl, _⟩ := h
    rfl
  · obtain ⟨a, ns, rfl, hS, hl, hb, k⟩ := h
    refine ⟨_, (pss_cons (ps_set (i := 1) sc__law_list.nd rfl (by first | exact Or.inl rfl | exact Or.inr rfl) (pe_lst pa_nil))
          (pss_cons (ps_for (passes_of rfl) rfl (pi_range1 (by rfl) T.b_range (pa_cons (pe_callB (kw_len (K := K) rfl) (by rfl) T.b_len (show bootBuiltins "len" = some (.builtin "len") from by decide +kernel) (pa_cons (pv 0) pa_nil)) pa_nil)) (pg_name (i := 2) sc__law_list.nd rfl (by first | exact Or.inl rfl | exact Or.inr rfl))
          (pss_one (ps_set (i := 1) sc__law_list.nd rfl (by first | exact Or.inl rfl | exact Or.inr rfl) (pe_op op_cat (pv 1) (pe_op op_rep (pe_lst (pa_cons (pv 2) pa_nil)) (pe_ix (kix_tup (K := K) rfl) (pv 0) (pv 2) (fun _ _ => rfl)))))))
          (pss_one (ps_ret (pv 1))))), ?_⟩
    simp only [L2.start, N__law_list, cxOf, List.map_cons, List.map_nil, List.length_cons, List.length_nil, Nat.reduceAdd, Nat.reduceSub, List.replicate, List.cons_append, List.nil_append, List.append_nil]
    walk_at "rd"
    intro p H1 np e1 hp
    walk_at "rd"
    simp only [List.length_map]
    walk_at "rd"
    refine loop_R (lo := 0) (fun i σ H' => ∃ q o2, Ext H H' ∧ H q = none ∧ σ = [some (.ref a), some (.ref q), o2] ∧ H' q = some (.lst ((needsAt 0 (ns.take i)).map V.int))) ⟨p, _, e1, np, rfl, by simpa [needsAt] using hp⟩ ?_ ?_
    · rintro i σ H2 N hi ⟨q, o2, e2, nq, rfl, hq⟩ hN
      have hi' : i < ns.length := by omega
      obtain ⟨x, hx⟩ : ∃ x, ns[i]? = some x := ⟨_, List.getElem?_eq_getElem hi'⟩
      have hbx := hb x (List.mem_of_getElem? hx)
      walk_at "rd"
      intro l H3 nl e3 hl3
      walk_at "rd"
      refine i_ixT (v := .int x) (by walk_at "st") (by have := atI_nat (xs := ns.map V.int) (n := i) (v := V.int x) (by simp [hx]); simpa using this) ?_
      walk_at "rd"
      refine i_rep hl3 (by omega) (by simp) ?_
      intro l2 H4 nl2 e4 hl4
      have lq := needs_len 0 (ns.take i) (fun y hy => (hb y (List.mem_of_mem_take hy)).2)
      refine i_cat (e4 _ _ (e3 _ _ hq)) hl4 (by rw [flat_rep, List.length_map, List.length_replicate]; rw [List.length_take] at lq; omega) ?_
      intro l3 H5 nl3 e5 hl5
      walk_at "rd"
      refine ⟨l3, _, ((e2.trans e3).trans e4).trans e5, ext_none (((e2.trans e3).trans e4)) nl3, rfl, ?_⟩
      rw [hl5, flat_rep, List.take_add_one, hx]
      show _ = some (HO.lst ((needsAt 0 (ns.take i ++ [x])).map V.int))
      rw [needsAt_snoc, List.map_append, List.map_replicate, List.length_take, Nat.min_eq_left (by omega)]
    · rintro σ H2 ⟨q, o2, e2, nq, rfl, hq⟩
      walk_at "rd"
      refine k H2 q nq e2 ?_
      rw [hq, List.take_of_length_le (by omega)]
def spSeats (K : PySem.W.Frag) : Sp := fun vs H Q _ => ∃ (a b : Addr) (ns ms : List Int), vs = [.ref a, .ref b] ∧ SqT K H a (ns.map V.int) ∧ SqT K H b (ms.map V.int) ∧ 1 ≤ ns.length ∧ ns.length = ms.length ∧ ns.length ≤ 4 ∧ (∀ x ∈ ns, 0 ≤ x ∧ x ≤ 24) ∧ (∀ x ∈ ms, 0 ≤ x ∧ x ≤ 24) ∧
  ∀ H', Ext H H' → Q (.bl (sits ns ms)) H'
theorem seats_of (fs : List Int) (m : Int) : (List.range fs.length).filterMap (fun i => if (fs.getD i 0) ≤ m then some (PyData.int i) else none) = dI (((List.range fs.length).filter fun i => decide (fs.getD i 0 ≤ m)).map fun (i : Nat) => (i : Int)) := by
  unfold dI
  rw [List.map_map]
  induction List.range fs.length with
  | nil => rfl
  | cons x r ih =>
    rw [List.filterMap_cons, List.filter_cons]
    by_cases h : fs.getD x 0 ≤ m
    · simp only [h, if_true, decide_true, List.map_cons, ih]
      rfl
    · simp only [h, if_false, decide_false]
      exact ih
theorem get_split (fs : List Int) (s : Nat) : (fs.map V.int).take s ++ (fs.map V.int).drop (s + 1) = (fs.take s ++ fs.drop (s + 1)).map V.int := by rw [List.map_append, List.map_take, List.map_drop]
theorem eqv_nil (xs : List Int) : PyData.eqv (.list (dI xs)) (.list []) = decide (xs = []) := by
  cases xs with
  | nil => simp [dI, PyData.eqv, PyData.eqvAll]
  | cons x r => simp [dI, PyData.eqv, PyData.eqvAll]
theorem ok__law_sits (T : Txt P w K mg A) : Cal P w K mg base 2 "_law_sits" A.f__law_sits (spSeats K) := by
  have c__law_list := ok__law_list (base := base) T
  refine ⟨Fun.okR T.F__law_sits sc__law_sits (T.F__law_sits.binds fun _ _ _ _ _ _ us hl => match us, hl with | [_, _], _ => rfl) (fun vs H Q E h => ?_) (fun cdv A' outer s H vs Q E hr h => ?_), T.F__law_sits.kp, T.g__law_sits⟩
  · obtain ⟨_, _, _, _, rfl, _⟩ := h
    rfl
  · obtain ⟨a, b, ns, ms, rfl, ha, hb, l1, l2, l3, bn, bm, k⟩ := h
    refine ⟨_, (pss_cons (ps_set (i := 2) sc__law_sits.nd rfl (by first | exact Or.inl rfl | exact Or.inr rfl) (pc_fn c__law_list (hr.mono (by decide)) (takes_of rfl rfl rfl rfl) (pa_cons (pv 1) pa_nil)))
          (pss_cons (ps_for (passes_of rfl) rfl (kpi_list (K := K) rfl (pc_fn c__law_list (hr.mono (by decide)) (takes_of rfl rfl rfl rfl) (pa_cons (pv 0) pa_nil))) (pg_name (i := 3) sc__law_sits.nd rfl (by first | exact Or.inl rfl | exact Or.inr rfl))
          (pss_cons (ps_setLc (i := 4) (own := [("_law_at", 5)]) (g := gName 5) (by rfl) sc__law_sits.nd rfl rfl (sw_true rfl rfl rfl (by decide +kernel)) (pi_range1 (by rfl) T.b_range (pa_cons (pe_callB (kw_len (K := K) rfl) (by rfl) T.b_len (show bootBuiltins "len" = some (.builtin "len") from by decide +kernel) (pa_cons (pv 2) pa_nil)) pa_nil)) (blkOk_by (own := [("_law_at", 5)]) (N := N__law_sits) (sc := defScope s__law_sits) (by decide +kernel)) (fun _ _ _ _ _ => (pg_name (i := 5) sc__law_sits.nd rfl (by first | exact Or.inl rfl | exact Or.inr rfl))) (fun _ _ _ _ _ => (pts_one (pt_cmp (pc_le (pe_ix (kix_list (K := K) rfl) (pv 2) (pv 5) (fun _ _ => rfl)) (pv 3))))) (fun _ _ _ _ _ => (pv 5)))
          (pss_cons (ps_if (pt_cmpR (kop_eqD (K := K) rfl hr.units) (pv 4) (pe_lst pa_nil) (nomark _)) (pss_one (ps_ret pe_bl)) pss_nil)
          (pss_one (ps_set (i := 2) sc__law_sits.nd rfl (by first | exact Or.inl rfl | exact Or.inr rfl) (pe_op op_cat (pe_slice (ksl_list (K := K) rfl) (pv 2) po_none (po_some (pe_ix (kix_list (K := K) rfl) (pv 4) (pe_un un_neg pe_int) (fun _ _ => rfl)))) (pe_slice (ksl_list (K := K) rfl) (pv 2) (po_some (pe_op op_add (pe_ix (kix_list (K := K) rfl) (pv 4) (pe_un un_neg pe_int) (fun _ _ => rfl)) pe_int)) po_none)))))))
          (pss_one (ps_ret pe_bl)))), ?_⟩
    simp only [L2.start, N__law_sits, cxOf, List.map_cons, List.map_nil, List.length_cons, List.length_nil, Nat.reduceAdd, Nat.reduceSub, List.replicate, List.cons_append, List.nil_append, List.append_nil]
    walk_at "rd"
    refine ⟨b, ms, rfl, hb, by omega, bm, fun H1 p np e1 hp => ?_⟩
    walk_at "rd"
    refine ⟨a, ns, rfl, ext_st e1 ha, by omega, bn, fun H2 q nq e2 hq => ?_⟩
    walk_at "rd"
    have ds := dom_sits l2 l1 (fun x hx => (bn x hx).1) (fun x hx => (bm x hx).1)
    have len2 := needs_len 0 ms (fun y hy => (bm y hy).2)
    refine loop_L (xs := (needsAt 0 ns).map V.int) (fun i σ H' => Ext H2 H' ∧ ∃ (f : Addr) (fs : List Int) (o3 o4 o5 : Option V), σ = [some (.ref a), some (.ref b), some (.ref f), o3, o4, o5] ∧ H' f = some (.lst (fs.map V.int)) ∧ fs.length ≤ 96 ∧ (domL ((needsAt 0 ns).drop i) fs ↔ sits ns ms = true))
      ⟨Ext.refl _, p, needsAt 0 ms, _, _, _, rfl, e2 _ _ hp, by omega, by rw [List.drop_zero]; exact ds⟩ (fun i σ H' _ h => ext_sl h.1 (SqL.of hq)) ?_ ?_
    · rintro i x σ H3 N hx ⟨e3, f, fs, o3, o4, o5, rfl, hf, lf, dd⟩ hN
      rw [List.getElem?_map] at hx
      obtain ⟨m, hm, rfl⟩ := Option.map_eq_some_iff.mp hx
      have hi : i < (needsAt 0 ns).length := (List.getElem?_eq_some_iff.mp hm).1
      have ed : (needsAt 0 ns).drop i = m :: (needsAt 0 ns).drop (i + 1) := by
        rw [List.drop_eq_getElem_cons hi, (List.getElem?_eq_some_iff.mp hm).2]
      have srt : ∀ y ∈ (needsAt 0 ns).drop (i + 1), m ≤ y := by
        have z := (needsAt_sorted 0 ns).sublist (List.drop_sublist i _)
        rw [ed] at z
        exact (List.pairwise_cons.mp z).1
      rw [ed] at dd
      walk_at "rd"
      simp only [List.length_map]
      walk_at "rd"
      refine lc_pure (K := K) walk_range (by omega) (fun _ _ => trivial) (fun i => if (fs.getD i 0) ≤ m then some (.int i) else none) (fun i d _ z => by by_cases y : fs.getD i 0 ≤ m <;> simp only [y, if_true, if_false] at z <;> cases z; rfl) ?_ ?_
      · rintro j x Hc Hx hj ec ⟨rfl, rfl⟩ Y1 N1 y1 n1
        have hj' : j < fs.length := by omega
        walk_at "rd"
        refine i_ixL (v := .int (fs.getD j 0)) (SqL.of (ec _ _ hf)) (by have := atI_nat (xs := fs.map V.int) (n := j) (v := V.int (fs.getD j 0)) (by simp [hj', List.getD]); simpa using this) ?_
        walk_at "rd"
        refine ifd (fun c => ?_) (fun c => ?_)
        · walk_at "rd"
          exact y1 _ _ (.int j) (by rw [if_pos c]) (Ext.refl _) (by simp; exact .int _)
        · exact n1 _ (by rw [if_neg c]) (Ext.refl _)
      rintro D H4 ys nD eD hD al
      have hn : ((fs.length : Int)).toNat = fs.length := by omega
      rw [hn, seats_of] at al
      obtain rfl := dpi al
      generalize hse : (List.range fs.length).filter (fun i => decide (fs.getD i 0 ≤ m)) = se at *
      walk_at "rd"
      intro l H5 nl e5 hl5
      walk_at "rd"
      refine i_eqD (d := .list (dI (se.map fun (i : Nat) => (i : Int)))) (e := .list []) (ext_dp e5 (dpL hD al)) (dpL hl5 .nil) (Wp.shd (sh_lst (sha_dI _))) (by walk_at "shd") ?_
      rw [eqv_nil]
      walk_at "rd"
      refine ifd (fun c => ?_) (fun c => ?_)
      · walk_at "rd"
        have z : ¬ domL (m :: (needsAt 0 ns).drop (i + 1)) fs := dom_no fun x hx hxm => by
          have e0 : se = [] := by simpa using c
          obtain ⟨j, hj, rfl⟩ := List.getElem_of_mem hx
          have : j ∈ se := by
            rw [← hse, List.mem_filter]
            exact ⟨List.mem_range.mpr hj, by simpa [List.getD, hj] using hxm⟩
          rw [e0] at this
          cases this
        have z2 : sits ns ms = false := by
          cases q : sits ns ms with
          | false => rfl
          | true => exact absurd (dd.mpr q) z
        rw [z2] at k
        exact k _ ((((e1.trans e2).trans e3).trans eD).trans e5)
      · have hse0 : se ≠ [] := fun z => c (by rw [z]; rfl)
        obtain ⟨se', s, hs⟩ : ∃ se' s, se = se' ++ [s] := ⟨_, _, (List.dropLast_concat_getLast hse0).symm⟩
        have hmem : s ∈ se := by rw [hs]; simp
        rw [← hse, List.mem_filter] at hmem
        have hsl : s < fs.length := List.mem_range.mp hmem.1
        have hsx : fs[s]? = some (fs.getD s 0) := by simp [List.getD, hsl]
        have at1 : atI ((se.map fun (i : Nat) => (i : Int)).map V.int) (-1) = some (.int (s : Int)) := by
          rw [hs, List.map_append, List.map_append]
          exact atI_last _ _
        walk_at "rd"
        refine i_ixL (by walk_at "sl") at1 ?_
        walk_at "rd"
        intro u H6 nu e6 hu
        rw [cut_hi (by omega)] at hu
        walk_at "rd"
        refine i_ixL (by walk_at "sl") at1 ?_
        walk_at "rd"
        intro w' H7 nw e7 hw
        rw [cut_lo (by omega)] at hw
        have es : ((s : Int)).toNat = s := by omega
        have es1 : ((s : Int) + 1).toNat = s + 1 := by omega
        rw [es] at hu
        rw [es1] at hw
        refine i_cat (e7 _ _ hu) hw (by simp; omega) ?_
        intro g H8 ng e8 hg
        rw [get_split] at hg
        walk_at "rd"
        refine ⟨((((e3.trans eD).trans e5).trans e6).trans e7).trans e8, g, _, _, _, _, rfl, hg, by simp; omega, ?_⟩
        rw [← dd]
        exact (dom_step srt hsx (by simpa using hmem.2)).symm
    · rintro σ H3 ⟨e3, f, fs, o3, o4, o5, rfl, hf, lf, dd⟩
      rw [List.length_map, List.drop_length] at dd
      rw [dd.mp (dom_nil _)] at k
      walk_at "rd"
      exact k _ ((e1.trans e2).trans e3)
def spTold (K : PySem.W.Frag) : Sp := fun vs H Q _ => ∃ (v w : V) (d e : PyData), vs = [v, w] ∧ Dp K H v d ∧ Dp K H w e ∧
  (isRow d = false → ∀ H' p, Ext H H' → H' p = some (.tup [.str "row", v]) → Q (.ref p) H') ∧
  (isRow d = true → isRow e = false → ∀ H' p, Ext H H' → H' p = some (.tup [.str "row", w]) → Q (.ref p) H') ∧
  (isRow d = true → isRow e = true → (intsD d).length ≠ (intsD e).length → ∀ H', Ext H H' → Q (.str "unlike") H') ∧
  (isRow d = true → isRow e = true → (intsD d).length = (intsD e).length → False)
theorem ok__law_told (T : Txt P w K mg A) : Cal P w K mg base 5 "_law_told" A.f__law_told (spTold K) := by
  have c_sits_in := ok_sits_in (base := base) T
  refine ⟨Fun.okR T.F__law_told sc__law_told (T.F__law_told.binds fun _ _ _ _ _ _ us hl => match us, hl with | [_, _], _ => rfl) (fun vs H Q E h => ?_) (fun cdv A' outer s H vs Q E hr h => ?_), T.F__law_told.kp, T.g__law_told⟩
  · obtain ⟨_, _, _, _, rfl, _⟩ := h
    rfl
  · obtain ⟨v, w, d, e, rfl, hv, hw, k1, k2, k3, k4⟩ := h
    refine ⟨_, (pss_one (WpT.ps_try_cl rfl rfl (takes_of rfl rfl rfl rfl) (fun W pn xe tk pp => (pss_one (ps_ret (pc_fn c_sits_in (hr.mono (by decide)) tk (pa_cons (pv 0) (pa_cons (pv 1) pa_nil)))))) (.as (i := 2) sc__law_told.nd rfl rfl ⟨rfl, by decide, Or.inl T.g_BadRow⟩ (fun a oe cls d pn hz hf => (pss_one (ps_ret (pe_tup (pa_cons pe_str (pa_cons (pe_xf T.xf_BadRow T.nf_BadRow_value hz hf (pv 2)) pa_nil)))))) (.one ⟨rfl, by decide, Or.inl T.g_Unlike⟩ (fun a oe cls d pn hz hf => (pss_one (ps_ret pe_str))) .nil)))), ?_⟩
    simp only [L2.start, N__law_told, cxOf, List.map_cons, List.map_nil, List.length_cons, List.length_nil, Nat.reduceAdd, Nat.reduceSub, List.replicate, List.cons_append, List.nil_append, List.append_nil]
    walk_at "rd"
    refine ⟨v, w, d, e, rfl, hv, hw, fun r1 p hp => ?_, fun r1 r2 p hp => ?_, fun r1 r2 l => ?_, fun r1 r2 l => (k4 r1 r2 l).elim⟩
    · refine ⟨true, T.te_BadRow_BadRow, fun _ a ha => ?_, fun q => nomatch q⟩
      walk_at "rd"
      exact fun p H2 np e2 h2 => k1 r1 _ _ ((Ext.new (Ext.refl _) hp).trans e2) h2
    · refine ⟨true, T.te_BadRow_BadRow, fun _ a ha => ?_, fun q => nomatch q⟩
      walk_at "rd"
      exact fun p H2 np e2 h2 => k2 r1 r2 _ _ ((Ext.new (Ext.refl _) hp).trans e2) h2
    · refine ⟨false, T.te_Unlike_BadRow, (fun q => nomatch q), fun _ => ⟨true, T.te_Unlike_Unlike, fun _ a ha => ?_, fun q => nomatch q⟩⟩
      walk_at "rd"
      exact k3 r1 r2 l _ (Ext.refl _)
theorem take_sum_set {ms : List Int} {j : Nat} {x : Int} (v : Int) (n : Nat) (h : ms[j]? = some x) : ((ms.set j v).take n).sum = (ms.take n).sum + (if j < n then v - x else 0) := by
  rw [List.take_set]
  by_cases hn : j < n
  · rw [sum_set (ms.take n) j v x (by rw [List.getElem?_take, if_pos hn]; exact h), if_pos hn]
    omega
  · rw [List.set_eq_of_length_le (by rw [List.length_take]; omega), if_neg hn]
    omega
theorem sits_add {ms : List Int} {j : Nat} {x : Int} (h : ms[j]? = some x) : sits ms (ms.set j (x + 1)) = true := sits_iff.mpr fun k _ => by
  rw [take_sum_set _ _ h]
  split <;> omega
theorem sits_move {ms : List Int} {j : Nat} {x y : Int} (h1 : ms[j + 1]? = some x) (h2 : ms[j]? = some y) : sits ms ((ms.set (j + 1) (x - 1)).set j (y + 1)) = true := sits_iff.mpr fun k _ => by
  rw [take_sum_set (x := y) _ _ (by rw [List.getElem?_set_ne (by omega)]; exact h2), take_sum_set _ _ h1]
  split <;> split <;> omega
def spHarder (K : PySem.W.Frag) : Sp := fun vs H Q _ => ∃ (a st r : Addr) (ns rs : List Int), vs = [.ref a, .ref st, .ref r] ∧ SqL K H a (ns.map V.int) ∧ ns.length ≤ 63 ∧ H st = some (StO st) ∧ SqT K H r (rs.map V.int) ∧ 1 ≤ rs.length ∧ rs.length ≤ 4 ∧ (∀ x ∈ rs, 0 ≤ x) ∧ rs.sum ≤ 24 ∧
  ∀ H' p (ms : List Int), Ext H H' → SqT K H' p (ms.map V.int) → ms.length = rs.length → (∀ x ∈ ms, 0 ≤ x) → ms.sum ≤ 24 → rs.sum ≤ ms.sum → sits rs ms = true → Q (.ref p) H'
theorem ok__law_harder (T : Txt P w K mg A) : Cal P w K mg base 2 "_law_harder" A.f__law_harder (spHarder K) := by
  have c__law_draw := ok__law_draw (base := base) T
  refine ⟨Fun.okR T.F__law_harder sc__law_harder (T.F__law_harder.binds fun _ _ _ _ _ _ us hl => match us, hl with | [_, _, _], _ => rfl) (fun vs H Q E h => ?_) (fun cdv A' outer s H vs Q E hr h => ?_), T.F__law_harder.kp, T.g__law_harder⟩
  · obtain ⟨_, _, _, _, _, rfl, _⟩ := h
    rfl
  · obtain ⟨a, st, r, ns, rs, rfl, hS, hl, hst, hr', l1, l2, bn, sm, k⟩ := h
    refine ⟨_, (pss_cons (ps_set (i := 3) sc__law_harder.nd rfl (by first | exact Or.inl rfl | exact Or.inr rfl) (pe_callTy (kw_list (K := K) rfl) (by rfl) T.b_list (show bootBuiltins "list" = some (.type "list") from by decide +kernel) (pa_cons (pv 2) pa_nil)))
          (pss_cons (ps_for (passes_of rfl) rfl (pi_range1 (by rfl) T.b_range (pa_cons (pc_fn c__law_draw (hr.mono (by decide)) (takes_of rfl rfl rfl rfl) (pa_cons (pv 0) (pa_cons (pv 1) (pa_cons pe_int pa_nil)))) pa_nil)) (pg_name (i := 4) sc__law_harder.nd rfl (by first | exact Or.inl rfl | exact Or.inr rfl))
          (pss_cons (ps_set (i := 5) sc__law_harder.nd rfl (by first | exact Or.inl rfl | exact Or.inr rfl) (pc_fn c__law_draw (hr.mono (by decide)) (takes_of rfl rfl rfl rfl) (pa_cons (pv 0) (pa_cons (pv 1) (pa_cons (pe_callB (kw_len (K := K) rfl) (by rfl) T.b_len (show bootBuiltins "len" = some (.builtin "len") from by decide +kernel) (pa_cons (pv 3) pa_nil)) pa_nil)))))
          (pss_one (ps_if (PW.pt (pw_and (pt_cmp (pc_gt (pe_ix (kix_list (K := K) rfl) (pv 3) (pv 5) (fun _ _ => rfl)) pe_int)) (pw_and1 (pt_cmp (pc_gt (pv 5) pe_int))))) (pss_cons (ps_asg (pe_op op_sub (pe_ix (kix_list (K := K) rfl) (pv 3) (pv 5) (fun _ _ => rfl)) pe_int) (pg_sub (pv 3) (pv 5) set_list))
          (pss_one (ps_asg (pe_op op_add (pe_ix (kix_list (K := K) rfl) (pv 3) (pe_op op_sub (pv 5) pe_int) (fun _ _ => rfl)) pe_int) (pg_sub (pv 3) (pe_op op_sub (pv 5) pe_int) set_list)))) (pss_one (ps_if (pt_cmp (pc_lt (pe_callB (kcr_sum (K := K) rfl rfl) (by rfl) T.b_sum (show bootBuiltins "sum" = some (.builtin "sum") from by decide +kernel) (pa_cons (pv 3) pa_nil)) pe_int)) (pss_one (ps_asg (pe_op op_add (pe_ix (kix_list (K := K) rfl) (pv 3) (pv 5) (fun _ _ => rfl)) pe_int) (pg_sub (pv 3) (pv 5) set_list))) pss_nil))))))
          (pss_one (ps_ret (pe_callTy (kw_tuple (K := K) rfl) (by rfl) T.b_tuple (show bootBuiltins "tuple" = some (.type "tuple") from by decide +kernel) (pa_cons (pv 3) pa_nil)))))), ?_⟩
    simp only [L2.start, N__law_harder, cxOf, List.map_cons, List.map_nil, List.length_cons, List.length_nil, Nat.reduceAdd, Nat.reduceSub, List.replicate, List.cons_append, List.nil_append, List.append_nil]
    walk_at "rd"
    intro p H1 np e1 hp
    walk_at "rd"
    intro r1 a1 b1
    walk_at "rd"
    refine loop_R (lo := 0) (fun i σ H' => Ext H H' ∧ ∃ (ms : List Int) (o4 o5 : Option V), σ = [some (.ref a), some (.ref st), some (.ref r), some (.ref p), o4, o5] ∧ H' p = some (.lst (ms.map V.int)) ∧ ms.length = rs.length ∧ (∀ x ∈ ms, 0 ≤ x) ∧ ms.sum ≤ 24 ∧ rs.sum ≤ ms.sum ∧ sits rs ms = true) ⟨e1, rs, _, _, rfl, hp, rfl, bn, sm, Int.le_refl _, sits_refl _⟩ ?_ ?_
    · rintro i σ H2 N hi ⟨e2, ms, o4, o5, rfl, hp2, hm, mb, ms24, mge, si⟩ hN
      walk_at "rd"
      simp only [List.length_map, hm]
      intro r2 a2 b2
      have hj : r2.toNat < ms.length := by omega
      obtain ⟨x, hx⟩ : ∃ x, ms[r2.toNat]? = some x := ⟨_, List.getElem?_eq_getElem hj⟩
      have bx := mb x (List.mem_of_getElem? hx)
      have ax : atI (ms.map V.int) r2 = some (.int x) := by
        have := atI_nat (xs := ms.map V.int) (n := r2.toNat) (v := V.int x) (by simp [hx])
        rwa [Int.toNat_of_nonneg a2] at this
      have fin : ∀ (H3 : Hp) (ms' : List Int), Ext H H3 → H3 p = some (.lst (ms'.map V.int)) → ms'.length = ms.length → (∀ x ∈ ms', 0 ≤ x) → ms'.sum ≤ 24 → ms.sum ≤ ms'.sum → sits ms ms' = true → N [some (.ref a), some (.ref st), some (.ref r), some (.ref p), some (.int (0 + i)), some (.int r2)] H3 := fun H3 ms' e3 h3 l3 n3 s3 g3 t3 =>
        go_np hN ⟨e3, ms', _, _, rfl, h3, by omega, n3, s3, by omega, sits_trans (by omega) si t3⟩
      walk_at "rd"
      refine i_ixL (SqL.of hp2) ax ?_
      walk_at "rd"
      have addW : ms.sum < 24 → ∀ H3, H3 = upd H2 p (.lst ((ms.set r2.toNat (x + 1)).map V.int)) → N [some (.ref a), some (.ref st), some (.ref r), some (.ref p), some (.int (0 + i)), some (.int r2)] H3 := fun c H3 eH => by
        subst eH
        refine fin _ (ms.set r2.toNat (x + 1)) (e2.mut np) upd_same (by simp) (set_all mb (by omega)) ?_ ?_ (sits_add hx)
        · rw [sum_set _ _ _ _ hx]; omega
        · rw [sum_set _ _ _ _ hx]; omega
      refine ifd (fun c1 => ?_) (fun c1 => ?_)
      · walk_at "rd"
        refine ifd (fun c2 => ?_) (fun c2 => ?_)
        · obtain ⟨j, ej⟩ : ∃ j : Nat, r2.toNat = j + 1 := ⟨r2.toNat - 1, by omega⟩
          obtain ⟨y, hy⟩ : ∃ y, ms[j]? = some y := ⟨_, List.getElem?_eq_getElem (by omega)⟩
          have by' := mb y (List.mem_of_getElem? hy)
          walk_at "rd"
          refine i_ixL (SqL.of hp2) ax ?_
          walk_at "rd"
          refine i_setL hp2 (ixN_of a2 (by rw [List.length_map]; omega)) ?_
          rw [map_set_int]
          walk_at "rd"
          have ay : atI ((ms.set r2.toNat (x - 1)).map V.int) (r2 - 1) = some (.int y) := by
            have := atI_nat (xs := (ms.set r2.toNat (x - 1)).map V.int) (n := j) (v := V.int y) (by rw [List.getElem?_map, ej, List.getElem?_set_ne (by omega), hy]; rfl)
            rwa [show ((j : Nat) : Int) = r2 - 1 by omega] at this
          refine i_ixL (SqL.of upd_same) ay ?_
          walk_at "rd"
          refine i_setL upd_same (ixN_of (by omega) (by simp; omega)) ?_
          rw [upd_upd, map_set_int]
          have ej2 : (r2 - 1).toNat = j := by omega
          rw [ej2, ej]
          rw [ej] at hx
          refine fin _ ((ms.set (j + 1) (x - 1)).set j (y + 1)) (e2.mut np) upd_same (by simp) (set_all (set_all mb (by omega)) (by omega)) ?_ ?_ (sits_move hx hy)
          · rw [sum_set _ _ _ y (by rw [List.getElem?_set_ne (by omega)]; exact hy), sum_set _ _ _ _ hx]; omega
          · rw [sum_set _ _ _ y (by rw [List.getElem?_set_ne (by omega)]; exact hy), sum_set _ _ _ _ hx]; omega
        · walk_at "rd"
          refine ifd (fun c3 => ?_) (fun c3 => ?_)
          · walk_at "rd"
            refine i_ixL (SqL.of hp2) ax ?_
            walk_at "rd"
            refine i_setL hp2 (ixN_of a2 (by rw [List.length_map]; omega)) ?_
            rw [map_set_int]
            exact addW c3 _ rfl
          · exact fin _ ms e2 hp2 rfl mb ms24 (Int.le_refl _) (sits_refl _)
      · walk_at "rd"
        refine ifd (fun c3 => ?_) (fun c3 => ?_)
        · walk_at "rd"
          refine i_ixL (SqL.of hp2) ax ?_
          walk_at "rd"
          refine i_setL hp2 (ixN_of a2 (by rw [List.length_map]; omega)) ?_
          rw [map_set_int]
          exact addW c3 _ rfl
        · exact fin _ ms e2 hp2 rfl mb ms24 (Int.le_refl _) (sits_refl _)
    · rintro σ H2 ⟨e2, ms, o4, o5, rfl, hp2, hm, mb, ms24, mge, si⟩
      walk_at "rd"
      intro q H3 nq e3 hq
      exact k H3 q ms (e2.trans e3) (SqT.of hq) hm mb ms24 mge si
theorem ints_tI (xs : List Int) : intsD (tI xs) = xs := by
  show (dI xs).map valE = xs
  unfold dI
  rw [List.map_map]
  exact List.map_id'' (fun _ => rfl) xs
theorem i_sits {K : PySem.W.Frag} {H : Hp} {Q : VK} {E : XK} {CR CU p q : Addr} {xs ys : List Int} (h1 : SqT K H p (xs.map V.int)) (h2 : SqT K H q (ys.map V.int)) (r1 : isRow (tI xs) = true) (r2 : isRow (tI ys) = true) (l : xs.length = ys.length)
    (k : ∀ H', Ext H H' → Q (.bl (sits xs ys)) H') : spSits K CR CU [.ref p, .ref q] H Q E := by
  refine ⟨.ref p, .ref q, tI xs, tI ys, rfl, tI_of h1, tI_of h2, fun z => absurd (r1.symm.trans z) (by decide), fun _ z => absurd (r2.symm.trans z) (by decide), fun _ _ z => absurd ?_ z, fun _ _ _ H' e => ?_⟩
  · rw [ints_tI, ints_tI]; exact l
  · rw [ints_tI, ints_tI]; exact k H' e
theorem sum_le4 : ∀ {ms : List Int}, (∀ x ∈ ms, x ≤ 4) → ms.sum ≤ 4 * ms.length
  | [], _ => by simp
  | x :: r, h => by
    have h1 := h x List.mem_cons_self
    have h2 := sum_le4 (ms := r) fun y hy => h y (List.mem_cons_of_mem _ hy)
    rw [List.sum_cons, List.length_cons]
    omega
theorem el_le : ∀ {ms : List Int}, (∀ x ∈ ms, 0 ≤ x) → ∀ x ∈ ms, x ≤ ms.sum
  | [], _, _, h => by simp at h
  | y :: r, h, x, hx => by
    have h1 := h y List.mem_cons_self
    have h2 := sum_nn (ms := r) fun z hz => h z (List.mem_cons_of_mem _ hz)
    rw [List.sum_cons]
    rcases List.mem_cons.mp hx with rfl | hx
    · omega
    · have := el_le (fun z hz => h z (List.mem_cons_of_mem _ hz)) x hx
      omega
/-- a row of n numbers -/
structure GR (K : PySem.W.Frag) (H : Hp) (p : Addr) (xs : List Int) (n : Nat) : Prop where
  at_ : SqT K H p (xs.map V.int)
  len : xs.length = n
  nn : ∀ x ∈ xs, 0 ≤ x
  lo : 1 ≤ xs.sum
  hi : xs.sum ≤ 24
theorem GR.ext {K : PySem.W.Frag} {H H' : Hp} {p : Addr} {xs : List Int} {n : Nat} (g : GR K H p xs n) (e : Ext H H') : GR K H' p xs n := ⟨ext_st e g.at_, g.len, g.nn, g.lo, g.hi⟩
theorem GR.off {K : PySem.W.Frag} {H : Hp} {D p : Addr} {ys zs : List V} {xs : List Int} {n : Nat} (g : GR K H p xs n) (hD : H D = some (.lst ys)) : GR K (upd H D (.lst zs)) p xs n := ⟨off_st hD g.at_, g.len, g.nn, g.lo, g.hi⟩
theorem GR.row {K : PySem.W.Frag} {H : Hp} {p : Addr} {xs : List Int} {n : Nat} (g : GR K H p xs n) (h1 : 1 ≤ n) (h4 : n ≤ 4) : isRow (tI xs) = true := row_of (by rw [g.len]; exact h1) (by rw [g.len]; exact h4) g.nn g.lo g.hi
theorem GR.b24 {K : PySem.W.Frag} {H : Hp} {p : Addr} {xs : List Int} {n : Nat} (g : GR K H p xs n) : ∀ x ∈ xs, 0 ≤ x ∧ x ≤ 24 := fun x hx => ⟨g.nn x hx, Int.le_trans (el_le g.nn x hx) g.hi⟩
theorem GR.dp {K : PySem.W.Frag} {H : Hp} {p : Addr} {xs : List Int} {n : Nat} (g : GR K H p xs n) : Dp K H (.ref p) (tI xs) := tI_of g.at_
def spLaw (K : PySem.W.Frag) : Sp := fun vs H Q _ => ∃ (a : Addr) (ns : List Int), vs = [.ref a] ∧ SqL K H a (ns.map V.int) ∧ ns.length ≤ 63 ∧ ∀ H', Q (.bl true) H'
theorem ok_law (T : Txt P w K mg A) : FnOk P w K mg base (L2.CX P w) 6 A.f_law A.d_law ["_law_script"] (spLaw K) := by
  have c__law_start := ok__law_start (base := base) T
  have c__law_draw := ok__law_draw (base := base) T
  have c__law_row := ok__law_row (base := base) T
  have c__law_harder := ok__law_harder (base := base) T
  have c_sits_in := ok_sits_in (base := base) T
  have c__law_sits := ok__law_sits (base := base) T
  have c__law_told := ok__law_told (base := base) T
  refine T.F_law.okX sc_law (fun vs H Q E h => ?_) (fun cdv A' outer s H vs Q E hr h => ?_)
  · obtain ⟨_, _, rfl, _⟩ := h
    rfl
  · obtain ⟨a, ns, rfl, hS, hl, k⟩ := h
    refine ⟨_, (pss_cons (ps_set (i := 1) sc_law.nd rfl (by first | exact Or.inl rfl | exact Or.inr rfl) (pc_fn c__law_start (hr.mono (by decide)) (takes_of rfl rfl rfl rfl) (pa_cons (pv 0) pa_nil)))
          (pss_cons (ps_set (i := 2) sc_law.nd rfl (by first | exact Or.inl rfl | exact Or.inr rfl) (pe_op op_add pe_int (pc_fn c__law_draw (hr.mono (by decide)) (takes_of rfl rfl rfl rfl) (pa_cons (pv 0) (pa_cons (pv 1) (pa_cons pe_int pa_nil))))))
          (pss_cons (ps_set (i := 3) sc_law.nd rfl (by first | exact Or.inl rfl | exact Or.inr rfl) (pe_lst (pa_cons (pc_fn c__law_row (hr.mono (by decide)) (takes_of rfl rfl rfl rfl) (pa_cons (pv 0) (pa_cons (pv 1) (pa_cons (pv 2) (pa_cons pe_int pa_nil))))) (pa_cons (pc_fn c__law_row (hr.mono (by decide)) (takes_of rfl rfl rfl rfl) (pa_cons (pv 0) (pa_cons (pv 1) (pa_cons (pv 2) (pa_cons pe_int pa_nil))))) pa_nil))))
          (pss_cons (ps_expr (pe_bm PySem.F.plainAttrs_list PySem.F.slot_list_append PySem.F.type_list_append mt_append (pv 3) (pa_cons (pc_fn c__law_harder (hr.mono (by decide)) (takes_of rfl rfl rfl rfl) (pa_cons (pv 0) (pa_cons (pv 1) (pa_cons (pe_ix (kix_list (K := K) rfl) (pv 3) pe_int (fun _ _ => rfl)) pa_nil)))) pa_nil)))
          (pss_cons (ps_expr (pe_bm PySem.F.plainAttrs_list PySem.F.slot_list_append PySem.F.type_list_append mt_append (pv 3) (pa_cons (pc_fn c__law_harder (hr.mono (by decide)) (takes_of rfl rfl rfl rfl) (pa_cons (pv 0) (pa_cons (pv 1) (pa_cons (pe_ix (kix_list (K := K) rfl) (pv 3) pe_int (fun _ _ => rfl)) pa_nil)))) pa_nil)))
          (pss_cons (ps_for (passes_of rfl) rfl (kpi_list (K := K) rfl (pv 3)) (pg_name (i := 4) sc_law.nd rfl (by first | exact Or.inl rfl | exact Or.inr rfl))
          (pss_one (ps_for (passes_of rfl) rfl (kpi_list (K := K) rfl (pv 3)) (pg_name (i := 5) sc_law.nd rfl (by first | exact Or.inl rfl | exact Or.inr rfl))
          (pss_cons (ps_set (i := 6) sc_law.nd rfl (by first | exact Or.inl rfl | exact Or.inr rfl) (pc_fn c_sits_in (hr.mono (by decide)) (takes_of rfl rfl rfl rfl) (pa_cons (pv 4) (pa_cons (pv 5) pa_nil))))
          (pss_cons (ps_if (PW.pt (pw_or (pt_cmpR (kop_neD (K := K) rfl hr.units) (pv 6) (pc_fn c__law_sits (hr.mono (by decide)) (takes_of rfl rfl rfl rfl) (pa_cons (pv 4) (pa_cons (pv 5) pa_nil))) (nomark _)) (pw_or1 (pt_not (pt_val (pe_callB (kcall_isV (K := K) rfl) (by rfl) T.b_isinstance (show bootBuiltins "isinstance" = some (.builtin "isinstance") from by decide +kernel) (pa_cons (pv 6) (pa_cons (pe_bltn (v := .ty "bool") (u := .type "bool") (by rfl) T.b_bool (by decide +kernel) rfl) pa_nil)))))))) (pss_one (ps_ret pe_bl)) pss_nil)
          (pss_one (ps_for (passes_of rfl) rfl (kpi_list (K := K) rfl (pv 3)) (pg_name (i := 7) sc_law.nd rfl (by first | exact Or.inl rfl | exact Or.inr rfl))
          (pss_one (ps_if (PW.pt (pw_and (pt_val (pv 6)) (pw_and (pt_val (pc_fn c_sits_in (hr.mono (by decide)) (takes_of rfl rfl rfl rfl) (pa_cons (pv 5) (pa_cons (pv 7) pa_nil)))) (pw_and1 (pt_not (pt_val (pc_fn c_sits_in (hr.mono (by decide)) (takes_of rfl rfl rfl rfl) (pa_cons (pv 4) (pa_cons (pv 7) pa_nil))))))))) (pss_one (ps_ret pe_bl)) pss_nil)))))))))
          (pss_cons (ps_if (PW.pt (pw_or (pt_not (pt_val (pc_fn c_sits_in (hr.mono (by decide)) (takes_of rfl rfl rfl rfl) (pa_cons (pe_ix (kix_list (K := K) rfl) (pv 3) pe_int (fun _ _ => rfl)) (pa_cons (pe_ix (kix_list (K := K) rfl) (pv 3) pe_int (fun _ _ => rfl)) pa_nil))))) (pw_or (pt_not (pt_val (pc_fn c_sits_in (hr.mono (by decide)) (takes_of rfl rfl rfl rfl) (pa_cons (pe_ix (kix_list (K := K) rfl) (pv 3) pe_int (fun _ _ => rfl)) (pa_cons (pe_ix (kix_list (K := K) rfl) (pv 3) pe_int (fun _ _ => rfl)) pa_nil))))) (pw_or1 (pt_not (pt_val (pc_fn c_sits_in (hr.mono (by decide)) (takes_of rfl rfl rfl rfl) (pa_cons (pe_ix (kix_list (K := K) rfl) (pv 3) pe_int (fun _ _ => rfl)) (pa_cons (pe_ix (kix_list (K := K) rfl) (pv 3) pe_int (fun _ _ => rfl)) pa_nil))))))))) (pss_one (ps_ret pe_bl)) pss_nil)
          (pss_cons (ps_set (i := 8) sc_law.nd rfl (by first | exact Or.inl rfl | exact Or.inr rfl) (pe_ix (kix_list (K := K) rfl) (pe_lst (pa_cons (pe_tup pa_nil) (pa_cons (pe_tup (pa_cons pe_int (pa_cons pe_int pa_nil))) (pa_cons (pe_tup (pa_cons pe_int pa_nil)) (pa_cons (pe_tup (pa_cons pe_int (pa_cons pe_int (pa_cons pe_int (pa_cons pe_int (pa_cons pe_int pa_nil)))))) (pa_cons (pe_lst (pa_cons pe_int pa_nil)) (pa_cons pe_non pa_nil))))))) (pc_fn c__law_draw (hr.mono (by decide)) (takes_of rfl rfl rfl rfl) (pa_cons (pv 0) (pa_cons (pv 1) (pa_cons pe_int pa_nil)))) (fun _ _ => rfl)))
          (pss_cons (ps_set (i := 9) sc_law.nd rfl (by first | exact Or.inl rfl | exact Or.inr rfl) (pe_ifExp (pt_cmp (pc_lt (pv 2) pe_int)) (pe_op (kop_catA (K := K) rfl) (pe_ix (kix_list (K := K) rfl) (pv 3) pe_int (fun _ _ => rfl)) (pe_tup (pa_cons pe_int pa_nil))) (pe_op (kop_catA (K := K) rfl) (pe_slice (ksl_tupA (K := K) rfl) (pe_ix (kix_list (K := K) rfl) (pv 3) pe_int (fun _ _ => rfl)) po_none (po_some pe_int)) (pe_tup pa_nil))))
          (pss_cons (ps_if (pt_cmp (pc_eqI (pe_callB (kcr_sumT (K := K) rfl rfl) (by rfl) T.b_sum (show bootBuiltins "sum" = some (.builtin "sum") from by decide +kernel) (pa_cons (pv 9) pa_nil)) pe_int)) (pss_one (ps_set (i := 9) sc_law.nd rfl (by first | exact Or.inl rfl | exact Or.inr rfl) (pe_tup (pa_cons pe_int pa_nil)))) pss_nil)
          (pss_cons (ps_if (PW.pt (pw_or (pt_cmpR (kop_neD (K := K) rfl hr.units) (pc_fn c__law_told (hr.mono (by decide)) (takes_of rfl rfl rfl rfl) (pa_cons (pe_ix (kix_list (K := K) rfl) (pv 3) pe_int (fun _ _ => rfl)) (pa_cons (pv 9) pa_nil))) pe_str (nomark _)) (pw_or1 (pt_cmpR (kop_neD (K := K) rfl hr.units) (pc_fn c__law_told (hr.mono (by decide)) (takes_of rfl rfl rfl rfl) (pa_cons (pv 9) (pa_cons (pe_ix (kix_list (K := K) rfl) (pv 3) pe_int (fun _ _ => rfl)) pa_nil))) pe_str (nomark _))))) (pss_one (ps_ret pe_bl)) pss_nil)
          (pss_cons (ps_if (PW.pt (pw_or (pt_cmpR (kop_neD (K := K) rfl hr.units) (pc_fn c__law_told (hr.mono (by decide)) (takes_of rfl rfl rfl rfl) (pa_cons (pv 8) (pa_cons (pe_tup pa_nil) pa_nil))) (pe_tup (pa_cons pe_str (pa_cons (pv 8) pa_nil))) (nomark _)) (pw_or1 (pt_cmpR (kop_neD (K := K) rfl hr.units) (pc_fn c__law_told (hr.mono (by decide)) (takes_of rfl rfl rfl rfl) (pa_cons (pe_ix (kix_list (K := K) rfl) (pv 3) pe_int (fun _ _ => rfl)) (pa_cons (pv 8) pa_nil))) (pe_tup (pa_cons pe_str (pa_cons (pv 8) pa_nil))) (nomark _))))) (pss_one (ps_ret pe_bl)) pss_nil)
          (pss_one (ps_ret (pe_cmpR (kop_eqD (K := K) rfl hr.units) (pc_fn c__law_told (hr.mono (by decide)) (takes_of rfl rfl rfl rfl) (pa_cons (pv 9) (pa_cons (pv 8) pa_nil))) (pe_tup (pa_cons pe_str (pa_cons (pv 8) pa_nil))) (nomark _)))))))))))))))), ?_⟩
    simp only [L2.start, N_law, cxOf, List.map_cons, List.map_nil, List.length_cons, List.length_nil, Nat.reduceAdd, Nat.reduceSub, List.replicate, List.cons_append, List.nil_append, List.append_nil]
    walk_at "rd"
    intro st H1 nst e1 hst
    walk_at "rd"
    intro r1 a1 b1
    walk_at "rd"
    generalize hn : 1 + r1 = n
    have n1 : 1 ≤ n := by omega
    have n2 : n ≤ 4 := by omega
    refine ⟨a, st, ns, n, 4, rfl, by walk_at "sl", hl, by walk_at "hk", n1, n2, by decide, by decide, fun H2 p0 x0 e2 h0 l0 c0 s0 => ?_⟩
    walk_at "rd"
    refine ⟨a, st, ns, n, 4, rfl, by walk_at "sl", hl, by walk_at "hk", n1, n2, by decide, by decide, fun H3 p1 x1 e3 h1 l1' c1 s1 => ?_⟩
    walk_at "rd"
    intro pl H4 npl e4 hpl
    walk_at "rd"
    have m1 : 1 ≤ n.toNat := by omega
    have m4 : n.toNat ≤ 4 := by omega
    have g0 : GR K H2 p0 x0 n.toNat := ⟨h0, l0, fun x hx => (c0 x hx).1, s0, by have := sum_le4 fun x hx => (c0 x hx).2; omega⟩
    have g1 : GR K H3 p1 x1 n.toNat := ⟨h1, l1', fun x hx => (c1 x hx).1, s1, by have := sum_le4 fun x hx => (c1 x hx).2; omega⟩
    refine ⟨a, st, p0, ns, x0, rfl, by walk_at "sl", hl, by walk_at "hk", ext_st e4 (ext_st e3 h0), by omega, by omega, g0.nn, g0.hi, fun H5 q2 y2 e5 hq2 ly2 ny2 sy2 gy2 t2 => ?_⟩
    walk_at "rd"
    have g2 : GR K H5 q2 y2 n.toNat := ⟨hq2, by omega, ny2, by omega, sy2⟩
    refine i_append (e5 _ _ hpl) (szl (by simp)) ?_
    walk_at "rd"
    have hst6 : upd H5 pl (HO.lst ([V.ref p0, V.ref p1] ++ [V.ref q2])) st = some (StO st) := up_ne (ne_of (e5 _ _ (e4 _ _ (e3 _ _ (e2 _ _ hst)))) (e5 _ _ hpl) nofun) (e5 _ _ (e4 _ _ (e3 _ _ (e2 _ _ hst))))
    have e36 : Ext H3 (upd H5 pl (HO.lst ([V.ref p0, V.ref p1] ++ [V.ref q2]))) := (e4.trans e5).mut npl
    refine ⟨a, st, q2, ns, y2, rfl, ext_sl e36 (ext_sl e3 (ext_sl e2 (ext_sl e1 hS))), hl, hst6, off_st (e5 _ _ hpl) hq2, by omega, by omega, ny2, sy2, fun H7 q3 y3 e7 hq3 ly3 ny3 sy3 gy3 t3 => ?_⟩
    walk_at "rd"
    have g3 : GR K H7 q3 y3 n.toNat := ⟨hq3, by omega, ny3, by omega, sy3⟩
    have hpl7 := e7 _ _ (upd_same (H := H5) (a := pl) (o := HO.lst ([V.ref p0, V.ref p1] ++ [V.ref q2])))
    refine i_append hpl7 (szl (by simp)) ?_
    have E8 : Ext H3 (upd H7 pl (HO.lst (([V.ref p0, V.ref p1] ++ [V.ref q2]) ++ [V.ref q3]))) := (e36.trans e7).mut npl
    have G0 := (g0.ext e3).ext E8
    have G1 := g1.ext E8
    have G2 := ((g2.off (zs := [V.ref p0, V.ref p1] ++ [V.ref q2]) (e5 _ _ hpl)).ext e7).off (zs := ([V.ref p0, V.ref p1] ++ [V.ref q2]) ++ [V.ref q3]) hpl7
    have G3 := g3.off (zs := ([V.ref p0, V.ref p1] ++ [V.ref q2]) ++ [V.ref q3]) hpl7
    have hP : upd H7 pl (HO.lst (([V.ref p0, V.ref p1] ++ [V.ref q2]) ++ [V.ref q3])) pl = some (HO.lst [V.ref p0, V.ref p1, V.ref q2, V.ref q3]) := upd_same
    have hst8 : upd H7 pl (HO.lst (([V.ref p0, V.ref p1] ++ [V.ref q2]) ++ [V.ref q3])) st = some (StO st) := up_ne (ne_of (e7 _ _ hst6) hpl7 nofun) (e7 _ _ hst6)
    generalize upd H7 pl (HO.lst (([V.ref p0, V.ref p1] ++ [V.ref q2]) ++ [V.ref q3])) = H8 at E8 G0 G1 G2 G3 hP hst8 ⊢
    have rows : ∀ v, v ∈ [V.ref p0, V.ref p1, V.ref q2, V.ref q3] → ∃ p xs, v = .ref p ∧ GR K H8 p xs n.toNat := fun v z => by
      simp only [List.mem_cons, List.not_mem_nil, or_false] at z
      rcases z with rfl | rfl | rfl | rfl
      · exact ⟨_, _, rfl, G0⟩
      · exact ⟨_, _, rfl, G1⟩
      · exact ⟨_, _, rfl, G2⟩
      · exact ⟨_, _, rfl, G3⟩
    have hS8 : SqL K H8 a (ns.map V.int) := ext_sl E8 (ext_sl e3 (ext_sl e2 (ext_sl e1 hS)))
    clear E8 e36 hst6 hpl7 e7 e5 e4 hpl npl
    walk_at "rd"
    refine loop_L (xs := [V.ref p0, V.ref p1, V.ref q2, V.ref q3]) (fun i σ H' => Ext H8 H' ∧ ∃ o4 o5 o6 o7 o8 o9, σ = [some (.ref a), some (.ref st), some (.int n), some (.ref pl), o4, o5, o6, o7, o8, o9]) ⟨Ext.refl _, _, _, _, _, _, _, rfl⟩ (fun i σ H' _ h => ext_sl h.1 (SqL.of hP)) ?_ ?_
    · rintro i x σ Ha N hx ⟨ea, o4, o5, o6, o7, o8, o9, rfl⟩ hN
      obtain ⟨pa, xa, rfl, ga⟩ := rows x (List.mem_of_getElem? hx)
      walk_at "rd"
      refine loop_L (xs := [V.ref p0, V.ref p1, V.ref q2, V.ref q3]) (fun i σ H' => Ext H8 H' ∧ ∃ o5 o6 o7 o8 o9, σ = [some (.ref a), some (.ref st), some (.int n), some (.ref pl), some (.ref pa), o5, o6, o7, o8, o9]) ⟨ea, _, _, _, _, _, rfl⟩ (fun i σ H' _ h => ext_sl h.1 (SqL.of hP)) ?_ ?_
      · rintro i2 x2 σ2 Hb N2 hx2 ⟨eb, o5, o6, o7, o8, o9, rfl⟩ hN2
        obtain ⟨pb, xb, rfl, gb⟩ := rows x2 (List.mem_of_getElem? hx2)
        have lab : xa.length = xb.length := by rw [ga.len, gb.len]
        walk_at "rd"
        refine i_sits (ga.ext eb).at_ (gb.ext eb).at_ (ga.row m1 m4) (gb.row m1 m4) lab fun Hc ec => ?_
        walk_at "rd"
        refine ⟨pa, pb, xa, xb, rfl, ext_st ec (ga.ext eb).at_, ext_st ec (gb.ext eb).at_, by rw [ga.len]; exact m1, lab, by rw [ga.len]; exact m4, ga.b24, gb.b24, fun Hd ed => ?_⟩
        walk_at "rd"
        refine i_neSelf (.bl _) (.bl _) (by walk_at "shd") ?_
        walk_at "rd"
        refine loop_L (xs := [V.ref p0, V.ref p1, V.ref q2, V.ref q3]) (fun i σ H' => Ext H8 H' ∧ ∃ o7 o8 o9, σ = [some (.ref a), some (.ref st), some (.int n), some (.ref pl), some (.ref pa), some (.ref pb), some (.bl (sits xa xb)), o7, o8, o9]) ⟨(eb.trans ec).trans ed, _, _, _, rfl⟩ (fun i σ H' _ h => ext_sl h.1 (SqL.of hP)) ?_ ?_
        · rintro i3 x3 σ3 He N3 hx3 ⟨ee, o7, o8, o9, rfl⟩ hN3
          obtain ⟨pc, xc, rfl, gc⟩ := rows x3 (List.mem_of_getElem? hx3)
          have lac : xa.length = xc.length := by rw [ga.len, gc.len]
          have lbc : xb.length = xc.length := by rw [gb.len, gc.len]
          walk_at "rd"
          refine ifb (fun t1 => ?_) (fun t1 => ?_)
          · walk_at "rd"
            refine i_sits (gb.ext ee).at_ (gc.ext ee).at_ (gb.row m1 m4) (gc.row m1 m4) lbc fun Hf ef => ?_
            walk_at "rd"
            refine ifb (fun t2 => ?_) (fun t2 => ?_)
            · walk_at "rd"
              refine i_sits ((ga.ext ee).ext ef).at_ ((gc.ext ee).ext ef).at_ (ga.row m1 m4) (gc.row m1 m4) lac fun Hg eg => ?_
              rw [sits_trans lab t1 t2]
              walk_at "rd"
              exact ⟨(ee.trans ef).trans eg, _, _, _, rfl⟩
            · walk_at "rd"
              exact ⟨ee.trans ef, _, _, _, rfl⟩
          · walk_at "rd"
            exact ⟨ee, _, _, _, rfl⟩
        · rintro σ3 He ⟨ee, o7, o8, o9, rfl⟩
          walk_at "rd"
          exact ⟨ee, _, _, _, _, _, rfl⟩
      · rintro σ2 Hb ⟨eb, o5, o6, o7, o8, o9, rfl⟩
        walk_at "rd"
        exact ⟨eb, _, _, _, _, _, _, rfl⟩
    · rintro σ Ha ⟨ea, o4, o5, o6, o7, o8, o9, rfl⟩
      walk_at "rd"
      refine i_sits (G0.ext ea).at_ (G2.ext ea).at_ (G0.row m1 m4) (G2.row m1 m4) (by rw [G0.len, G2.len]) fun Hb eb => ?_
      rw [t2]
      walk_at "rd"
      refine i_sits ((G2.ext ea).ext eb).at_ ((G3.ext ea).ext eb).at_ (G2.row m1 m4) (G3.row m1 m4) (by rw [G2.len, G3.len]) fun Hc ec => ?_
      rw [t3]
      walk_at "rd"
      refine i_sits (((G1.ext ea).ext eb).ext ec).at_ (((G1.ext ea).ext eb).ext ec).at_ (G1.row m1 m4) (G1.row m1 m4) rfl fun Hd ed => ?_
      rw [sits_refl]
      have E := ((ea.trans eb).trans ec).trans ed
      clear ea eb ec ed
      walk_at "rd"
      intro u1 K1 nu1 f1 hu1; walk_at "rd"
      intro u2 K2 nu2 f2 hu2; walk_at "rd"
      intro u3 K3 nu3 f3 hu3; walk_at "rd"
      intro u4 K4 nu4 f4 hu4; walk_at "rd"
      intro u5 K5 nu5 f5 hu5; walk_at "rd"
      intro u6 K6 nu6 f6 hu6; walk_at "rd"
      intro r6 a6 b6
      obtain ⟨v, ev, d, dv, rv, sv⟩ := at_all (P := fun v => ∃ d, Dp K K6 v d ∧ isRow d = false ∧ Sh 5 d) (xs := [V.ref u1, V.ref u2, V.ref u3, V.ref u4, V.ref u5, V.non]) (by
        simp only [List.mem_cons, List.not_mem_nil, or_false]
        rintro x (rfl | rfl | rfl | rfl | rfl | rfl)
        · exact ⟨_, by walk_at "dp", by decide, by walk_at "sh"⟩
        · exact ⟨_, by walk_at "dp", by decide, by walk_at "sh"⟩
        · exact ⟨_, by walk_at "dp", by decide, by walk_at "sh"⟩
        · exact ⟨_, by walk_at "dp", by decide, by walk_at "sh"⟩
        · exact ⟨_, by walk_at "dp", by decide, by walk_at "sh"⟩
        · exact ⟨_, .non, by decide, sh_non⟩) a6 (by simpa using b6)
      refine i_ixL (SqL.of hu6) ev ?_
      have E6 := ((((E.trans f1).trans f2).trans f3).trans f4).trans (f5.trans f6)
      walk_at "rd"
      rename_i N1 hN1
      have P6 : K6 pl = some (HO.lst [V.ref p0, V.ref p1, V.ref q2, V.ref q3]) := E6 _ _ hP
      have G6 := G0.ext E6
      have hJ1 : Np N1 (fun σ' H' => Ext K6 H' ∧ ∃ (pg : Addr) (xg : List Int), σ' = [some (.ref a), some (.ref st), some (.int n), some (.ref pl), o4, o5, o6, o7, some v, some (.ref pg)] ∧ SqT K H' pg (xg.map V.int) ∧ 1 ≤ xg.length ∧ xg.length ≤ 4 ∧ xg.length ≠ n.toNat ∧ (∀ x ∈ xg, 0 ≤ x) ∧ xg.sum ≤ 24 ∧ (xg.sum = 0 → n = 4)) := by
        rintro σ' H9 ⟨e9, pg, xg, rfl, hg, lg1, lg4, lgn, ng, sg, s4⟩
        refine go_nx hN1 ?_
        walk_at "rd"
        rename_i N2 hN2
        have hJ2 : Np N2 (fun σ' H' => Ext K6 H' ∧ ∃ (pg : Addr) (xg : List Int), σ' = [some (.ref a), some (.ref st), some (.int n), some (.ref pl), o4, o5, o6, o7, some v, some (.ref pg)] ∧ GR K H' pg xg xg.length ∧ 1 ≤ xg.length ∧ xg.length ≤ 4 ∧ xg.length ≠ n.toNat) := by
          rintro σ' Ht ⟨et, pg, xg, rfl, gg, lg1, lg4, lgn⟩
          have rg := gg.row lg1 lg4
          have r0 := G0.row m1 m4
          have z0 : (isRow (tI x0) = false) → False := fun z => by rw [r0] at z; cases z
          have zg : (isRow (tI xg) = false) → False := fun z => by rw [rg] at z; cases z
          have zv : (isRow d = true) → False := fun z => by rw [rv] at z; cases z
          have l0g : (intsD (tI x0)).length = (intsD (tI xg)).length → False := by rw [ints_tI, ints_tI, G0.len]; exact fun z => lgn z.symm
          have shv : SeqAt.shaped (PyData.tuple [.str "row", d]) = true := Wp.shd (sh_tup (sha_cons (sh_str (by decide +kernel)) (sha_cons (sv.mono (by decide)) sha_nil)))
          refine go_nx hN2 ?_
          walk_at "rd"
          have g6 := G6.ext et
          refine ⟨.ref p0, .ref pg, tI x0, tI xg, rfl, g6.dp, gg.dp, fun z => (z0 z).elim, fun _ z => (zg z).elim, fun _ _ _ Hu eu => ?_, fun _ _ z => l0g z⟩
          walk_at "rd"
          refine i_neSelf (.str _) (.str _) (by walk_at "shd") ?_
          walk_at "rd"
          refine ⟨.ref pg, .ref p0, tI xg, tI x0, rfl, (gg.ext eu).dp, (g6.ext eu).dp, fun z => (zg z).elim, fun _ z => (z0 z).elim, fun _ _ _ Hv ew => ?_, fun _ _ z => l0g z.symm⟩
          walk_at "rd"
          refine i_neSelf (.str _) (.str _) (by walk_at "shd") ?_
          walk_at "rd"
          have ev' := (et.trans eu).trans ew
          intro c1 L1 nc1 j1 hc1
          walk_at "rd"
          refine ⟨v, .ref c1, d, .tuple [], rfl, ext_dp (ev'.trans j1) dv, dpT hc1 .nil, fun _ M1 t1 k1 ht1 => ?_, fun z => (zv z).elim, fun z => (zv z).elim, fun z => (zv z).elim⟩
          walk_at "rd"
          intro c2 L2 nc2 j2 hc2
          walk_at "rd"
          have dv2 := ext_dp (((ev'.trans j1).trans k1).trans j2) dv
          refine i_neSelf (d := .tuple [.str "row", d]) (ext_dp j2 (dpT ht1 (.cons (.str _) (.cons (ext_dp ((ev'.trans j1).trans k1) dv) .nil)))) (dpT hc2 (.cons (.str _) (.cons dv2 .nil))) shv ?_
          walk_at "rd"
          have E2 := ((ev'.trans j1).trans k1).trans j2
          refine ⟨.ref p0, v, tI x0, d, rfl, (G6.ext E2).dp, dv2, fun z => (z0 z).elim, fun _ _ M2 t2' k2 ht2 => ?_, fun _ z => (zv z).elim, fun _ z => (zv z).elim⟩
          walk_at "rd"
          intro c3 L3 nc3 j3 hc3
          walk_at "rd"
          have dv3 := ext_dp (k2.trans j3) dv2
          refine i_neSelf (d := .tuple [.str "row", d]) (ext_dp j3 (dpT ht2 (.cons (.str _) (.cons (ext_dp k2 dv2) .nil)))) (dpT hc3 (.cons (.str _) (.cons dv3 .nil))) shv ?_
          walk_at "rd"
          have E3 := ((((eu.trans ew).trans j1).trans k1).trans j2).trans (k2.trans j3)
          refine ⟨.ref pg, v, tI xg, d, rfl, (gg.ext E3).dp, dv3, fun z => (zg z).elim, fun _ _ M3 t3' k3 ht3 => ?_, fun _ z => (zv z).elim, fun _ z => (zv z).elim⟩
          walk_at "rd"
          intro c4 L4 nc4 j4 hc4
          walk_at "rd"
          refine i_eqSelf (d := .tuple [.str "row", d]) (ext_dp j4 (dpT ht3 (.cons (.str _) (.cons (ext_dp k3 dv3) .nil)))) (dpT hc4 (.cons (.str _) (.cons (ext_dp (k3.trans j4) dv3) .nil))) shv ?_
          exact k _
        clear hN2
        refine ifd (fun c => ?_) (fun c => ?_)
        · walk_at "rd"
          intro c1 L1 nc1 j1 hc1
          walk_at "rd"
          have := s4 c
          exact ⟨e9.trans j1, c1, [1], rfl, ⟨SqT.of hc1, rfl, by simp, by simp, by simp⟩, by simp, by simp, by simp; omega⟩
        · walk_at "rd"
          refine ⟨e9, pg, xg, rfl, ⟨hg, rfl, ng, ?_, sg⟩, lg1, lg4, lgn⟩
          have := sum_nn ng
          omega
      clear hN1
      refine ifd (fun c => ?_) (fun c => ?_)
      · walk_at "rd"
        intro c1 L1 nc1 j1 hc1
        refine i_catA (ys := [.int 0]) (ext_st j1 G6.at_) (SqT.of hc1) (by simp; omega) ?_
        intro pg H9 e9 hg
        walk_at "rd"
        refine ⟨j1.trans e9, pg, x0 ++ [0], rfl, by rw [List.map_append]; exact hg, by simp, by simp; omega, by simp; omega, fun x hx => ?_, by simp; exact G0.hi, fun z => by have := G0.lo; simp at z; omega⟩
        rcases List.mem_append.mp hx with hx | hx
        · exact G0.nn x hx
        · have := List.mem_singleton.mp hx; omega
      · walk_at "rd"
        refine i_slA G6.at_ ?_
        intro q9 H9 e9 h9
        rw [cut_hi (by decide), ← List.map_take] at h9
        walk_at "rd"
        intro c1 L1 nc1 j1 hc1
        refine i_catA (ys := []) (ext_st j1 h9) (SqT.of hc1) (by simp; omega) ?_
        intro pg Hx ex hg
        rw [List.append_nil] at hg
        walk_at "rd"
        have n4 : n = 4 := by omega
        have l4 : x0.length = 4 := by rw [l0, n4]; rfl
        have e3' : Int.toNat 3 = 3 := rfl
        rw [e3'] at hg
        refine ⟨(e9.trans j1).trans ex, pg, x0.take 3, rfl, hg, by simp; omega, by simp; omega, by rw [List.length_take, l4, n4]; decide, fun x hx => G0.nn x (List.mem_of_mem_take hx), ?_, fun _ => n4⟩
        have := sum_le4 (ms := x0.take 3) fun x hx => (c0 x (List.mem_of_mem_take hx)).2
        rw [List.length_take] at this
        omega
end
theorem all_mk {w : World} {K : PySem.W.Frag} {h : Heap} {mg : Str → Option Value} {fa : Addr} (X : K.In h) (G : h.Ns mainGlobals mg) (hfa : mg "law" = some (.ref fa))
    {f_is_integer f_is_row f_check_row f_sits_in f__law_start f__law_draw f__law_row f__law_list f__law_sits f__law_told f__law_harder f_law : Addr}
    {od_is_integer an_is_integer od_is_row an_is_row od_check_row an_check_row od_sits_in an_sits_in od__law_start an__law_start od__law_draw an__law_draw od__law_row an__law_row od__law_list an__law_list od__law_sits an__law_sits od__law_told an__law_told od__law_harder an__law_harder od_law an_law : Option Addr}
    {sl_is_integer sl_is_row sl_check_row sl_sits_in sl__law_start sl__law_draw sl__law_row sl__law_list sl__law_sits sl__law_told sl__law_harder sl_law : Array (Option Value)}
    {oc_is_integer kV_is_integer dc_is_integer pm_is_integer cd_is_integer ct_is_integer oc_is_row kV_is_row dc_is_row pm_is_row cd_is_row ct_is_row oc_check_row kV_check_row dc_check_row pm_check_row cd_check_row ct_check_row oc_sits_in kV_sits_in dc_sits_in pm_sits_in cd_sits_in ct_sits_in oc__law_start kV__law_start dc__law_start pm__law_start cd__law_start ct__law_start oc__law_draw kV__law_draw dc__law_draw pm__law_draw cd__law_draw ct__law_draw oc__law_row kV__law_row dc__law_row pm__law_row cd__law_row ct__law_row oc__law_list kV__law_list dc__law_list pm__law_list cd__law_list ct__law_list oc__law_sits kV__law_sits dc__law_sits pm__law_sits cd__law_sits ct__law_sits oc__law_told kV__law_told dc__law_told pm__law_told cd__law_told ct__law_told oc__law_harder kV__law_harder dc__law_harder pm__law_harder cd__law_harder ct__law_harder oc_law kV_law dc_law pm_law cd_law ct_law : Value}
    {C_ParcelError C_BadRow C_Unlike : Addr}
    {i_BadRow NN_BadRow cc_BadRow cda_BadRow : Addr} {nm_BadRow qn_BadRow fl_BadRow : Str} {bs_BadRow bm_BadRow sub_BadRow : List Value} {sn_BadRow : List Str} {ab_BadRow : Bool} {col_BadRow : Option Bool} {dd_BadRow od_BadRow an_BadRow cdd_BadRow kd_BadRow : Option Addr} {m0_BadRow m1_BadRow m2_BadRow m3_BadRow m5_BadRow : Option Value} {oc_BadRow dc_BadRow pm_BadRow ct_BadRow ccl_BadRow kl_BadRow : Value} {sl_BadRow ccs_BadRow ks_BadRow : Array (Option Value)} {cv_BadRow : Array Value} {tf_BadRow : Tok}
    {tk_MOST_LENGTH tk_MOST_SUM : Tok}
    (a_is_integer : PySem.W.nsIn K mainGlobals "is_integer" = some (some (.ref f_is_integer)))
    (a_is_row : PySem.W.nsIn K mainGlobals "is_row" = some (some (.ref f_is_row)))
    (a_check_row : PySem.W.nsIn K mainGlobals "check_row" = some (some (.ref f_check_row)))
    (a_sits_in : PySem.W.nsIn K mainGlobals "sits_in" = some (some (.ref f_sits_in)))
    (a__law_start : PySem.W.nsIn K mainGlobals "_law_start" = some (some (.ref f__law_start)))
    (a__law_draw : PySem.W.nsIn K mainGlobals "_law_draw" = some (some (.ref f__law_draw)))
    (a__law_row : PySem.W.nsIn K mainGlobals "_law_row" = some (some (.ref f__law_row)))
    (a__law_list : PySem.W.nsIn K mainGlobals "_law_list" = some (some (.ref f__law_list)))
    (a__law_sits : PySem.W.nsIn K mainGlobals "_law_sits" = some (some (.ref f__law_sits)))
    (a__law_told : PySem.W.nsIn K mainGlobals "_law_told" = some (some (.ref f__law_told)))
    (a__law_harder : PySem.W.nsIn K mainGlobals "_law_harder" = some (some (.ref f__law_harder)))
    (a_law : PySem.W.nsIn K mainGlobals "law" = some (some (.ref f_law)))
    (a_ParcelError : PySem.W.nsIn K mainGlobals "ParcelError" = some (some (.ref C_ParcelError)))
    (a_BadRow : PySem.W.nsIn K mainGlobals "BadRow" = some (some (.ref C_BadRow)))
    (a_Unlike : PySem.W.nsIn K mainGlobals "Unlike" = some (some (.ref C_Unlike)))
    (l_is_integer : K.lookup f_is_integer = some ⟨oc_is_integer, od_is_integer, .func (PySem.W.fnOf "is_integer" "is_integer" (defArgs s_is_integer) (defBody s_is_integer) (defScope s_is_integer) .none kV_is_integer dc_is_integer pm_is_integer an_is_integer cd_is_integer ct_is_integer), sl_is_integer⟩)
    (c_is_integer : PySem.W.codeIn K cd_is_integer "is_integer" = true)
    (k_is_integer : PySem.W.keepIn K (.ref f_is_integer) = true)
    (l_is_row : K.lookup f_is_row = some ⟨oc_is_row, od_is_row, .func (PySem.W.fnOf "is_row" "is_row" (defArgs s_is_row) (defBody s_is_row) (defScope s_is_row) .none kV_is_row dc_is_row pm_is_row an_is_row cd_is_row ct_is_row), sl_is_row⟩)
    (c_is_row : PySem.W.codeIn K cd_is_row "is_row" = true)
    (k_is_row : PySem.W.keepIn K (.ref f_is_row) = true)
    (l_check_row : K.lookup f_check_row = some ⟨oc_check_row, od_check_row, .func (PySem.W.fnOf "check_row" "check_row" (defArgs s_check_row) (defBody s_check_row) (defScope s_check_row) .none kV_check_row dc_check_row pm_check_row an_check_row cd_check_row ct_check_row), sl_check_row⟩)
    (c_check_row : PySem.W.codeIn K cd_check_row "check_row" = true)
    (k_check_row : PySem.W.keepIn K (.ref f_check_row) = true)
    (l_sits_in : K.lookup f_sits_in = some ⟨oc_sits_in, od_sits_in, .func (PySem.W.fnOf "sits_in" "sits_in" (defArgs s_sits_in) (defBody s_sits_in) (defScope s_sits_in) .none kV_sits_in dc_sits_in pm_sits_in an_sits_in cd_sits_in ct_sits_in), sl_sits_in⟩)
    (c_sits_in : PySem.W.codeIn K cd_sits_in "sits_in" = true)
    (k_sits_in : PySem.W.keepIn K (.ref f_sits_in) = true)
    (l__law_start : K.lookup f__law_start = some ⟨oc__law_start, od__law_start, .func (PySem.W.fnOf "_law_start" "_law_start" (defArgs s__law_start) (defBody s__law_start) (defScope s__law_start) .none kV__law_start dc__law_start pm__law_start an__law_start cd__law_start ct__law_start), sl__law_start⟩)
    (c__law_start : PySem.W.codeIn K cd__law_start "_law_start" = true)
    (k__law_start : PySem.W.keepIn K (.ref f__law_start) = true)
    (l__law_draw : K.lookup f__law_draw = some ⟨oc__law_draw, od__law_draw, .func (PySem.W.fnOf "_law_draw" "_law_draw" (defArgs s__law_draw) (defBody s__law_draw) (defScope s__law_draw) .none kV__law_draw dc__law_draw pm__law_draw an__law_draw cd__law_draw ct__law_draw), sl__law_draw⟩)
    (c__law_draw : PySem.W.codeIn K cd__law_draw "_law_draw" = true)
    (k__law_draw : PySem.W.keepIn K (.ref f__law_draw) = true)
    (l__law_row : K.lookup f__law_row = some ⟨oc__law_row, od__law_row, .func (PySem.W.fnOf "_law_row" "_law_row" (defArgs s__law_row) (defBody s__law_row) (defScope s__law_row) .none kV__law_row dc__law_row pm__law_row an__law_row cd__law_row ct__law_row), sl__law_row⟩)
    (c__law_row : PySem.W.codeIn K cd__law_row "_law_row" = true)
    (k__law_row : PySem.W.keepIn K (.ref f__law_row) = true)
    (l__law_list : K.lookup f__law_list = some ⟨oc__law_list, od__law_list, .func (PySem.W.fnOf "_law_list" "_law_list" (defArgs s__law_list) (defBody s__law_list) (defScope s__law_list) .none kV__law_list dc__law_list pm__law_list an__law_list cd__law_list ct__law_list), sl__law_list⟩)
    (c__law_list : PySem.W.codeIn K cd__law_list "_law_list" = true)
    (k__law_list : PySem.W.keepIn K (.ref f__law_list) = true)
    (l__law_sits : K.lookup f__law_sits = some ⟨oc__law_sits, od__law_sits, .func (PySem.W.fnOf "_law_sits" "_law_sits" (defArgs s__law_sits) (defBody s__law_sits) (defScope s__law_sits) .none kV__law_sits dc__law_sits pm__law_sits an__law_sits cd__law_sits ct__law_sits), sl__law_sits⟩)
    (c__law_sits : PySem.W.codeIn K cd__law_sits "_law_sits" = true)
    (k__law_sits : PySem.W.keepIn K (.ref f__law_sits) = true)
    (l__law_told : K.lookup f__law_told = some ⟨oc__law_told, od__law_told, .func (PySem.W.fnOf "_law_told" "_law_told" (defArgs s__law_told) (defBody s__law_told) (defScope s__law_told) .none kV__law_told dc__law_told pm__law_told an__law_told cd__law_told ct__law_told), sl__law_told⟩)
    (c__law_told : PySem.W.codeIn K cd__law_told "_law_told" = true)
    (k__law_told : PySem.W.keepIn K (.ref f__law_told) = true)
    (l__law_harder : K.lookup f__law_harder = some ⟨oc__law_harder, od__law_harder, .func (PySem.W.fnOf "_law_harder" "_law_harder" (defArgs s__law_harder) (defBody s__law_harder) (defScope s__law_harder) .none kV__law_harder dc__law_harder pm__law_harder an__law_harder cd__law_harder ct__law_harder), sl__law_harder⟩)
    (c__law_harder : PySem.W.codeIn K cd__law_harder "_law_harder" = true)
    (k__law_harder : PySem.W.keepIn K (.ref f__law_harder) = true)
    (l_law : K.lookup f_law = some ⟨oc_law, od_law, .func (PySem.W.fnOf "law" "law" (defArgs s_law) (defBody s_law) (defScope s_law) .none kV_law dc_law pm_law an_law cd_law ct_law), sl_law⟩)
    (c_law : PySem.W.codeIn K cd_law "law" = true)
    (k_law : PySem.W.keepIn K (.ref f_law) = true)
    (xL_BadRow : K.lookup C_BadRow = some (excClassObj nm_BadRow qn_BadRow C_BadRow NN_BadRow bs_BadRow bm_BadRow true sn_BadRow sub_BadRow ab_BadRow col_BadRow dd_BadRow m0_BadRow m1_BadRow m2_BadRow m3_BadRow m5_BadRow "ValueError.__new__"))
    (rv_BadRow : PySem.HandSPX.refsVE bm_BadRow = true)
    (su_BadRow : PySem.W.ks_superIn K C_BadRow C_BadRow "__init__" = some (some (.builtin "ValueError.__init__")))
    (sa_BadRow : PySem.W.findIn K (.ref C_BadRow) "__setattr__" = some (some (.builtin "object.__setattr__")))
    (iC_BadRow : PySem.W.findIn K (.ref C_BadRow) "__init__" = some (some (.ref i_BadRow)))
    (tI_BadRow : PySem.W.typeIn K (.ref i_BadRow) = some (.type "function"))
    (xb_BadRow : PySem.W.subIn K (.ref C_BadRow) (.type "BaseException") = some true)
    (xv_BadRow : PySem.W.subIn K (.ref C_BadRow) (.type "ValueError") = some true)
    (mr_BadRow : PySem.W.mroIn K C_BadRow (.ref C_BadRow) = some true)
    (xt_BadRow : PySem.W.typeIn K (.ref C_BadRow) = some (.type "type"))
    (kc_BadRow : PySem.W.keepIn K (.ref C_BadRow) = true)
    (li_BadRow : K.lookup i_BadRow = some ⟨oc_BadRow, od_BadRow, .func (PySem.W.fnX "__init__" "BadRow.__init__" (defArgs s_BadRow___init__) (defBody s_BadRow___init__) (defScope s_BadRow___init__) [("__class__", cc_BadRow)] .none .none dc_BadRow pm_BadRow an_BadRow (.ref cda_BadRow) ct_BadRow), sl_BadRow⟩)
    (ci_BadRow : PySem.W.codeIn K (.ref cda_BadRow) "BadRow.__init__" = true)
    (lc_BadRow : K.lookup cda_BadRow = some ⟨ccl_BadRow, cdd_BadRow, .fields cv_BadRow, ccs_BadRow⟩)
    (lf_BadRow : cv_BadRow[2]? = some (.str fl_BadRow tf_BadRow))
    (lg_BadRow : ((PySem.Challenge.pw_widestparcels_k13_whole_rows_that_sit.main.file : Str) == fl_BadRow) = true)
    (lk_BadRow : K.lookup cc_BadRow = some ⟨kl_BadRow, kd_BadRow, .cell (some (.ref C_BadRow)), ks_BadRow⟩)
    (n_BadRow_value : PySem.W.findIn K (.ref C_BadRow) "value" = some none)
    (x_Unlike : PySem.W.excIn K C_Unlike [.type "ValueError", .type "Exception", .type "BaseException", .type "object"] "ValueError.__new__" = true)
    (kc_Unlike : PySem.W.keepIn K (.ref C_Unlike) = true)
    (xb_Unlike : PySem.W.subIn K (.ref C_Unlike) (.type "BaseException") = some true)
    (xt_Unlike : PySem.W.typeIn K (.ref C_Unlike) = some (.type "type"))
    (op_ : PySem.W.nsIn K cStatics "thirdparty.any" = some none)
    (su_ : PySem.W.nsIn K mainGlobals "super" = some none)
    (xf0_BadRow : PySem.W.findIn K (.ref C_BadRow) "__getattribute__" = some (some (.builtin "BaseException.__getattribute__")))
    (xf1_BadRow : PySem.W.findIn K (.ref C_BadRow) "__getattr__" = some none)
    (xf2_BadRow : PySem.W.subIn K (.ref C_BadRow) (.type "BaseException") = some true)
    (xf3_BadRow : PySem.W.hasDictIn K C_BadRow = true)
    (xf4_BadRow : PySem.W.findIn K (.ref C_BadRow) "__class__" = some (some (.builtin "object.__class__")))
    (xf7_BadRow : PySem.W.mroIn K C_BadRow (.type "object") = some true)
    (xf5_ : PySem.W.specialIn K (.builtin "object.__class__") "__get__" = some (some (.builtin "getset_descriptor.__get__")))
    (xf6_ : PySem.W.takesIn K (.builtin "object.__class__") = some true)
    (te_BadRow_BadRow : PySem.W.exmOne K (.ref C_BadRow) (.ref C_BadRow) = some true)
    (te_Unlike_BadRow : PySem.W.exmOne K (.ref C_Unlike) (.ref C_BadRow) = some false)
    (te_Unlike_Unlike : PySem.W.exmOne K (.ref C_Unlike) (.ref C_Unlike) = some true)
    (z_isinstance : PySem.W.nsIn K mainGlobals "isinstance" = some none)
    (z_int : PySem.W.nsIn K mainGlobals "int" = some none)
    (z_bool : PySem.W.nsIn K mainGlobals "bool" = some none)
    (z_len : PySem.W.nsIn K mainGlobals "len" = some none)
    (z_abs : PySem.W.nsIn K mainGlobals "abs" = some none)
    (z_range : PySem.W.nsIn K mainGlobals "range" = some none)
    (z_tuple : PySem.W.nsIn K mainGlobals "tuple" = some none)
    (z_list : PySem.W.nsIn K mainGlobals "list" = some none)
    (z_sum : PySem.W.nsIn K mainGlobals "sum" = some none)
    (z_all : PySem.W.nsIn K mainGlobals "all" = some none)
    (a_MOST_LENGTH : PySem.W.nsIn K mainGlobals "MOST_LENGTH" = some (some (.int 4 tk_MOST_LENGTH)))
    (a_MOST_SUM : PySem.W.nsIn K mainGlobals "MOST_SUM" = some (some (.int 24 tk_MOST_SUM))) :
    ∃ fd : FuncData, (∀ (s : Shared) (v : Value), BindsTo s fd ⟨[v], []⟩ [("_law_script", v)]) ∧ ∀ base : Heap, K.In base → base.Ns mainGlobals mg → FnOk PySem.Challenge.pw_widestparcels_k13_whole_rows_that_sit w K mg base (L2.CX PySem.Challenge.pw_widestparcels_k13_whole_rows_that_sit w) 6 fa fd ["_law_script"] (spLaw K) := by
  have e := hfa.symm.trans (PySem.W.mg_of X G a_law)
  have e2 : f_law = fa := by cases e; rfl
  clear e
  subst e2
  have e_BadRow : WpE.ErrC PySem.Challenge.pw_widestparcels_k13_whole_rows_that_sit K C_BadRow i_BadRow "BadRow.__init__" (defArgs s_BadRow___init__) (defBody s_BadRow___init__) (defScope s_BadRow___init__) := WpE.errC_of xL_BadRow rv_BadRow su_BadRow sa_BadRow iC_BadRow tI_BadRow xb_BadRow xv_BadRow mr_BadRow xt_BadRow kc_BadRow op_ su_ rfl li_BadRow ci_BadRow lc_BadRow lf_BadRow lg_BadRow lk_BadRow
  have T : Txt PySem.Challenge.pw_widestparcels_k13_whole_rows_that_sit w K mg ⟨f_is_integer, PySem.W.fnOf "is_integer" "is_integer" (defArgs s_is_integer) (defBody s_is_integer) (defScope s_is_integer) .none kV_is_integer dc_is_integer pm_is_integer an_is_integer cd_is_integer ct_is_integer, f_is_row, PySem.W.fnOf "is_row" "is_row" (defArgs s_is_row) (defBody s_is_row) (defScope s_is_row) .none kV_is_row dc_is_row pm_is_row an_is_row cd_is_row ct_is_row, f_check_row, PySem.W.fnOf "check_row" "check_row" (defArgs s_check_row) (defBody s_check_row) (defScope s_check_row) .none kV_check_row dc_check_row pm_check_row an_check_row cd_check_row ct_check_row, f_sits_in, PySem.W.fnOf "sits_in" "sits_in" (defArgs s_sits_in) (defBody s_sits_in) (defScope s_sits_in) .none kV_sits_in dc_sits_in pm_sits_in an_sits_in cd_sits_in ct_sits_in, f__law_start, PySem.W.fnOf "_law_start" "_law_start" (defArgs s__law_start) (defBody s__law_start) (defScope s__law_start) .none kV__law_start dc__law_start pm__law_start an__law_start cd__law_start ct__law_start, f__law_draw, PySem.W.fnOf "_law_draw" "_law_draw" (defArgs s__law_draw) (defBody s__law_draw) (defScope s__law_draw) .none kV__law_draw dc__law_draw pm__law_draw an__law_draw cd__law_draw ct__law_draw, f__law_row, PySem.W.fnOf "_law_row" "_law_row" (defArgs s__law_row) (defBody s__law_row) (defScope s__law_row) .none kV__law_row dc__law_row pm__law_row an__law_row cd__law_row ct__law_row, f__law_list, PySem.W.fnOf "_law_list" "_law_list" (defArgs s__law_list) (defBody s__law_list) (defScope s__law_list) .none kV__law_list dc__law_list pm__law_list an__law_list cd__law_list ct__law_list, f__law_sits, PySem.W.fnOf "_law_sits" "_law_sits" (defArgs s__law_sits) (defBody s__law_sits) (defScope s__law_sits) .none kV__law_sits dc__law_sits pm__law_sits an__law_sits cd__law_sits ct__law_sits, f__law_told, PySem.W.fnOf "_law_told" "_law_told" (defArgs s__law_told) (defBody s__law_told) (defScope s__law_told) .none kV__law_told dc__law_told pm__law_told an__law_told cd__law_told ct__law_told, f__law_harder, PySem.W.fnOf "_law_harder" "_law_harder" (defArgs s__law_harder) (defBody s__law_harder) (defScope s__law_harder) .none kV__law_harder dc__law_harder pm__law_harder an__law_harder cd__law_harder ct__law_harder, f_law, PySem.W.fnOf "law" "law" (defArgs s_law) (defBody s_law) (defScope s_law) .none kV_law dc_law pm_law an_law cd_law ct_law, C_ParcelError, C_BadRow, C_Unlike, i_BadRow⟩ := {
    F_is_integer := fun_mk (st := s_is_integer) l_is_integer c_is_integer k_is_integer
    g_is_integer := PySem.W.mg_of X G a_is_integer
    F_is_row := fun_mk (st := s_is_row) l_is_row c_is_row k_is_row
    g_is_row := PySem.W.mg_of X G a_is_row
    F_check_row := fun_mk (st := s_check_row) l_check_row c_check_row k_check_row
    g_check_row := PySem.W.mg_of X G a_check_row
    F_sits_in := fun_mk (st := s_sits_in) l_sits_in c_sits_in k_sits_in
    g_sits_in := PySem.W.mg_of X G a_sits_in
    F__law_start := fun_mk (st := s__law_start) l__law_start c__law_start k__law_start
    g__law_start := PySem.W.mg_of X G a__law_start
    F__law_draw := fun_mk (st := s__law_draw) l__law_draw c__law_draw k__law_draw
    g__law_draw := PySem.W.mg_of X G a__law_draw
    F__law_row := fun_mk (st := s__law_row) l__law_row c__law_row k__law_row
    g__law_row := PySem.W.mg_of X G a__law_row
    F__law_list := fun_mk (st := s__law_list) l__law_list c__law_list k__law_list
    g__law_list := PySem.W.mg_of X G a__law_list
    F__law_sits := fun_mk (st := s__law_sits) l__law_sits c__law_sits k__law_sits
    g__law_sits := PySem.W.mg_of X G a__law_sits
    F__law_told := fun_mk (st := s__law_told) l__law_told c__law_told k__law_told
    g__law_told := PySem.W.mg_of X G a__law_told
    F__law_harder := fun_mk (st := s__law_harder) l__law_harder c__law_harder k__law_harder
    g__law_harder := PySem.W.mg_of X G a__law_harder
    F_law := fun_mk (st := s_law) l_law c_law k_law
    g_law := PySem.W.mg_of X G a_law
    g_ParcelError := PySem.W.mg_of X G a_ParcelError
    g_BadRow := PySem.W.mg_of X G a_BadRow
    g_Unlike := PySem.W.mg_of X G a_Unlike
    E_BadRow := e_BadRow
    N_BadRow := WpE.init_BadRow e_BadRow rfl n_BadRow_value
    x_Unlike := x_Unlike
    k_Unlike := kc_Unlike
    xb_Unlike := xb_Unlike
    xt_Unlike := xt_Unlike
    xf_BadRow := ⟨xf0_BadRow, xf1_BadRow, xf2_BadRow, xf3_BadRow⟩
    ex_BadRow := ⟨xf0_BadRow, xf1_BadRow, xf2_BadRow, xf3_BadRow, xf4_BadRow, xf5_, xf6_, xf7_BadRow⟩
    nf_BadRow_value := n_BadRow_value
    te_BadRow_BadRow := te_BadRow_BadRow
    te_Unlike_BadRow := te_Unlike_BadRow
    te_Unlike_Unlike := te_Unlike_Unlike
    b_isinstance := PySem.W.mg_none_of X G z_isinstance
    b_int := PySem.W.mg_none_of X G z_int
    b_bool := PySem.W.mg_none_of X G z_bool
    b_len := PySem.W.mg_none_of X G z_len
    b_abs := PySem.W.mg_none_of X G z_abs
    b_range := PySem.W.mg_none_of X G z_range
    b_tuple := PySem.W.mg_none_of X G z_tuple
    b_list := PySem.W.mg_none_of X G z_list
    b_sum := PySem.W.mg_none_of X G z_sum
    b_all := PySem.W.mg_none_of X G z_all
    c_MOST_LENGTH := ⟨_, PySem.W.mg_of X G a_MOST_LENGTH, ⟨_, rfl⟩⟩
    c_MOST_SUM := ⟨_, PySem.W.mg_of X G a_MOST_SUM, ⟨_, rfl⟩⟩ }
  exact ⟨_, fun s v => .of_eq rfl, fun base _ _ => ok_law T⟩
theorem walk {K : Params → PySem.W.Frag} {q : Program} {loose : List Str} {XP : (Str → Option Value) → Heap → Prop} {YP : World → Heap → Prop} {d : DefRec} (hdf : d.params.defaults = []) (hY : ∀ (w : World) (h : Heap), YP w h → (K w.params).In h)
    (F : ∀ (w : World) (mg : Str → Option Value) (fa : Addr) (h : Heap), (K w.params).In h → h.Ns mainGlobals mg → mg d.name = some (.ref fa) → ∃ fd : FuncData, (∀ (s : Shared) (u : Value), BindsTo s fd ⟨[u], []⟩ [("_law_script", u)]) ∧
      ∀ base : Heap, (K w.params).In base → base.Ns mainGlobals mg → FnOk PySem.Challenge.pw_widestparcels_k13_whole_rows_that_sit w (K w.params) mg base (L2.CX PySem.Challenge.pw_widestparcels_k13_whole_rows_that_sit w) 6 fa fd ["_law_script"] (spLaw (K w.params))) :
    PySem.W.WalkO q loose XP YP PySem.Challenge.rw_widestparcels_k13_whole_rows_that_sit.row.toRowW d [] (fun f vs => PySem.call f vs) :=
  L2.walk_of (l := PySem.Challenge.rw_widestparcels_k13_whole_rows_that_sit) (n := 63) (k := 6) (x := "_law_script") (CX := fun w => L2.CX PySem.Challenge.pw_widestparcels_k13_whole_rows_that_sit w) (sp := fun w => spLaw (K w.params)) rfl (by decide) hdf ⟨rfl, by decide, by decide⟩ hY F (fun _ _ a ns hl _ hS => ⟨a, ns, rfl, hS, hl, fun _ => rfl⟩) (fun _ _ _ _ _ z => Wp.cx_false z)
end Law
open PySem PySem.W PyProof.Rows
set_option maxRecDepth 100000 in
set_option maxHeartbeats 0 in
theorem PySem.Challenge.cw_widestparcels_k13_whole_rows_that_sit_holds : PySem.Challenge.rw_widestparcels_k13_whole_rows_that_sit.Holds := by
  w_on; o_law; k_head; (case hw => w_witness2)
  k_fill
  refine Law.walk rfl (fun w h Y => PySem.W.kIn_of Y) ?F
  case F =>
    intro w mg fa h KX G hmg
    refine' Law.all_mk KX G hmg ?a_is_integer ?a_is_row ?a_check_row ?a_sits_in ?a__law_start ?a__law_draw ?a__law_row ?a__law_list ?a__law_sits ?a__law_told ?a__law_harder ?a_law ?a_ParcelError ?a_BadRow ?a_Unlike ?l_is_integer ?c_is_integer ?k_is_integer ?l_is_row ?c_is_row ?k_is_row ?l_check_row ?c_check_row ?k_check_row ?l_sits_in ?c_sits_in ?k_sits_in ?l__law_start ?c__law_start ?k__law_start ?l__law_draw ?c__law_draw ?k__law_draw ?l__law_row ?c__law_row ?k__law_row ?l__law_list ?c__law_list ?k__law_list ?l__law_sits ?c__law_sits ?k__law_sits ?l__law_told ?c__law_told ?k__law_told ?l__law_harder ?c__law_harder ?k__law_harder ?l_law ?c_law ?k_law ?xL_BadRow ?rv_BadRow ?su_BadRow ?sa_BadRow ?iC_BadRow ?tI_BadRow ?xb_BadRow ?xv_BadRow ?mr_BadRow ?xt_BadRow ?kc_BadRow ?li_BadRow ?ci_BadRow ?lc_BadRow ?lf_BadRow ?lg_BadRow ?lk_BadRow ?n_BadRow_value ?x_Unlike ?kc_Unlike ?xb_Unlike ?xt_Unlike ?op_ ?su_ ?xf0_BadRow ?xf1_BadRow ?xf2_BadRow ?xf3_BadRow ?xf4_BadRow ?xf7_BadRow ?xf5_ ?xf6_ ?te_BadRow_BadRow ?te_Unlike_BadRow ?te_Unlike_Unlike ?z_isinstance ?z_int ?z_bool ?z_len ?z_abs ?z_range ?z_tuple ?z_list ?z_sum ?z_all ?a_MOST_LENGTH ?a_MOST_SUM
    (case a_is_integer => first | k_is | rfl | decide +kernel)
    (case a_is_row => first | k_is | rfl | decide +kernel)
    (case a_check_row => first | k_is | rfl | decide +kernel)
    (case a_sits_in => first | k_is | rfl | decide +kernel)
    (case a__law_start => first | k_is | rfl | decide +kernel)
    (case a__law_draw => first | k_is | rfl | decide +kernel)
    (case a__law_row => first | k_is | rfl | decide +kernel)
    (case a__law_list => first | k_is | rfl | decide +kernel)
    (case a__law_sits => first | k_is | rfl | decide +kernel)
    (case a__law_told => first | k_is | rfl | decide +kernel)
    (case a__law_harder => first | k_is | rfl | decide +kernel)
    (case a_law => first | k_is | rfl | decide +kernel)
    (case a_ParcelError => first | k_is | rfl | decide +kernel)
    (case a_BadRow => first | k_is | rfl | decide +kernel)
    (case a_Unlike => first | k_is | rfl | decide +kernel)
    (case l_is_integer => first | k_is | rfl | decide +kernel)
    (case c_is_integer => first | k_is | rfl | decide +kernel)
    (case k_is_integer => first | k_is | rfl | decide +kernel)
    (case l_is_row => first | k_is | rfl | decide +kernel)
    (case c_is_row => first | k_is | rfl | decide +kernel)
    (case k_is_row => first | k_is | rfl | decide +kernel)
    (case l_check_row => first | k_is | rfl | decide +kernel)
    (case c_check_row => first | k_is | rfl | decide +kernel)
    (case k_check_row => first | k_is | rfl | decide +kernel)
    (case l_sits_in => first | k_is | rfl | decide +kernel)
    (case c_sits_in => first | k_is | rfl | decide +kernel)
    (case k_sits_in => first | k_is | rfl | decide +kernel)
    (case l__law_start => first | k_is | rfl | decide +kernel)
    (case c__law_start => first | k_is | rfl | decide +kernel)
    (case k__law_start => first | k_is | rfl | decide +kernel)
    (case l__law_draw => first | k_is | rfl | decide +kernel)
    (case c__law_draw => first | k_is | rfl | decide +kernel)
    (case k__law_draw => first | k_is | rfl | decide +kernel)
    (case l__law_row => first | k_is | rfl | decide +kernel)
    (case c__law_row => first | k_is | rfl | decide +kernel)
    (case k__law_row => first | k_is | rfl | decide +kernel)
    (case l__law_list => first | k_is | rfl | decide +kernel)
    (case c__law_list => first | k_is | rfl | decide +kernel)
    (case k__law_list => first | k_is | rfl | decide +kernel)
    (case l__law_sits => first | k_is | rfl | decide +kernel)
    (case c__law_sits => first | k_is | rfl | decide +kernel)
    (case k__law_sits => first | k_is | rfl | decide +kernel)
    (case l__law_told => first | k_is | rfl | decide +kernel)
    (case c__law_told => first | k_is | rfl | decide +kernel)
    (case k__law_told => first | k_is | rfl | decide +kernel)
    (case l__law_harder => first | k_is | rfl | decide +kernel)
    (case c__law_harder => first | k_is | rfl | decide +kernel)
    (case k__law_harder => first | k_is | rfl | decide +kernel)
    (case l_law => first | k_is | rfl | decide +kernel)
    (case c_law => first | k_is | rfl | decide +kernel)
    (case k_law => first | k_is | rfl | decide +kernel)
    (case xL_BadRow => first | k_is | rfl | decide +kernel)
    (case rv_BadRow => decide +kernel)
    (case su_BadRow => ks_is)
    (case sa_BadRow => first | k_is | rfl | decide +kernel)
    (case iC_BadRow => first | k_is | rfl | decide +kernel)
    (case tI_BadRow => first | k_is | rfl | decide +kernel)
    (case xb_BadRow => first | k_is | rfl | decide +kernel)
    (case xv_BadRow => first | k_is | rfl | decide +kernel)
    (case mr_BadRow => first | k_is | rfl | decide +kernel)
    (case xt_BadRow => first | k_is | rfl | decide +kernel)
    (case kc_BadRow => first | k_is | rfl | decide +kernel)
    (case li_BadRow => first | k_is | rfl | decide +kernel)
    (case ci_BadRow => first | k_is | rfl | decide +kernel)
    (case lc_BadRow => first | k_is | rfl | decide +kernel)
    (case lf_BadRow => first | rfl | decide +kernel)
    (case lg_BadRow => decide +kernel)
    (case lk_BadRow => first | k_is | rfl | decide +kernel)
    (case n_BadRow_value => first | k_is | rfl | decide +kernel)
    (case x_Unlike => k_exc)
    (case kc_Unlike => first | k_is | rfl | decide +kernel)
    (case xb_Unlike => first | k_is | rfl | decide +kernel)
    (case xt_Unlike => first | k_is | rfl | decide +kernel)
    (case op_ => first | k_is | rfl | decide +kernel)
    (case su_ => first | k_is | rfl | decide +kernel)
    (case xf0_BadRow => first | k_is | rfl | decide +kernel)
    (case xf1_BadRow => first | k_is | rfl | decide +kernel)
    (case xf2_BadRow => first | k_is | rfl | decide +kernel)
    (case xf3_BadRow => first | k_is | rfl | decide +kernel)
    (case xf4_BadRow => first | k_is | rfl | decide +kernel)
    (case xf7_BadRow => first | k_is | rfl | decide +kernel)
    (case xf5_ => first | k_is | rfl | decide +kernel)
    (case xf6_ => first | k_is | rfl | decide +kernel)
    (case te_BadRow_BadRow => first | k_is | rfl | decide +kernel)
    (case te_Unlike_BadRow => first | k_is | rfl | decide +kernel)
    (case te_Unlike_Unlike => first | k_is | rfl | decide +kernel)
    (case z_isinstance => first | k_is | rfl | decide +kernel)
    (case z_int => first | k_is | rfl | decide +kernel)
    (case z_bool => first | k_is | rfl | decide +kernel)
    (case z_len => first | k_is | rfl | decide +kernel)
    (case z_abs => first | k_is | rfl | decide +kernel)
    (case z_range => first | k_is | rfl | decide +kernel)
    (case z_tuple => first | k_is | rfl | decide +kernel)
    (case z_list => first | k_is | rfl | decide +kernel)
    (case z_sum => first | k_is | rfl | decide +kernel)
    (case z_all => first | k_is | rfl | decide +kernel)
    (case a_MOST_LENGTH => first | k_is | rfl | decide +kernel)
    (case a_MOST_SUM => first | k_is | rfl | decide +kernel)
